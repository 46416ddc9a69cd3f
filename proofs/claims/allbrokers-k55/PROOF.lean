import PyProof.Rows.All
import Wide.All
import OpenK.AllK
import Wide.FinOn
import KE.KStateDown
import KE.KExcSuper
import Lean
import HandS.ForMost
import HandS.Flow
import HandS.Style
import HandS.Defaults
import HandS.DictComp
import HandS.DictEq
import HandS.IsInst
import HandS.Deep
import HandS.TryOnly
import HandS.Exc
import HandS.ExcOwn
import HandS.ExcInit
import HandS.WordsExc
import HandS.More
import HandS.Zip
import HandS.DictTup
import HandS.SetKeys
import HandS.Sort
import HandS.TupLe
import HandS.Walk
import HandS.Evl
import HandS.Head0
import HandS.Head1
import HandS.Head2
import HandS.HeadEnd
import HandS.HeadHook1
import HandS.HeadHook2
import PySem.Challenge.RW_allbrokers_k55_whole_histories_and_moves
import KE.GoesEnum
import KE.GoesMore
import HandS.Nested
import KE.LtSeq
import KE.KSortAsk
import HandS.Records
import KE.KDictList
import HandS.Iter
import HandS.Set
import HandS.SetFor
import HandS.Strs
set_option Elab.async false
set_option linter.all false
set_option maxRecDepth 100000
set_option maxHeartbeats 4000000
namespace K55
open PySem PySem.Spec PyProof.Rows L2
/-! the text by places (printed by gen_head.py) -/
def top (i : Nat) : Stmt := PySem.Challenge.pw_allbrokers_k55_whole_histories_and_moves.main.body.getD i (.Pass ⟨0, 0, 0, 0⟩)
abbrev s_Good_bool : Stmt := inClass (top 2) 0
abbrev s_is_word : Stmt := top 11
abbrev s_is_natural : Stmt := top 15
abbrev s_check_deal : Stmt := top 16
abbrev s_check_bounds : Stmt := top 17
abbrev s_loads_of : Stmt := top 18
abbrev s_all_readers : Stmt := top 19
abbrev s_bound_of : Stmt := top 20
abbrev s_is_possible : Stmt := top 21
abbrev s_Moves_init : Stmt := inClass (top 22) 1
abbrev s_Moves_shows : Stmt := inClass (top 22) 2
abbrev s_are_distinct : Stmt := top 23
abbrev s_moved : Stmt := top 24
abbrev s_barred : Stmt := top 25
abbrev s_check_change : Stmt := top 26
abbrev s_new_loads : Stmt := top 27
abbrev s_least_moves : Stmt := top 28
abbrev s_moves_between : Stmt := top 29
abbrev s_Edge_init : Stmt := inClass (top 31) 0
abbrev s_Flow_init : Stmt := inClass (top 32) 0
abbrev s_Flow_edge : Stmt := inClass (top 32) 1
abbrev s_Flow_through : Stmt := inClass (top 32) 2
abbrev s_Flow_fill : Stmt := inClass (top 32) 3
abbrev s_Flow_way : Stmt := inClass (top 32) 4
abbrev s_Flow_distances : Stmt := inClass (top 32) 5
abbrev s_better : Stmt := top 33
abbrev s_check_history : Stmt := top 36
abbrev s_names_of : Stmt := top 37
abbrev s_cost : Stmt := top 38
abbrev s_cheapest_path : Stmt := top 39
abbrev s_bound_by : Stmt := top 40
abbrev s_History_init : Stmt := inClass (top 41) 1
abbrev s_History_shows : Stmt := inClass (top 41) 2
abbrev s_is_within : Stmt := top 42
abbrev s_Layers_init : Stmt := inClass (top 43) 0
abbrev s_Layers_layer : Stmt := inClass (top 43) 1
abbrev s_Layers_loads : Stmt := inClass (top 43) 2
abbrev s_Layers_prices : Stmt := inClass (top 43) 3
abbrev s_least_history : Stmt := top 44
abbrev s_check_caps : Stmt := top 47
abbrev s_wanted : Stmt := top 48
abbrev s_parts_of : Stmt := top 49
abbrev s_stuck_parts : Stmt := top 50
abbrev s_Order_init : Stmt := inClass (top 51) 1
abbrev s_Order_shows : Stmt := inClass (top 51) 2
abbrev s_Trails_init : Stmt := inClass (top 53) 0
abbrev s_Trails_make : Stmt := inClass (top 53) 1
abbrev s_Trails_into : Stmt := inClass (top 53) 2
abbrev s_Trails_excess : Stmt := inClass (top 53) 3
abbrev s_Trails_trail : Stmt := inClass (top 53) 4
abbrev s_Trails_loop : Stmt := inClass (top 53) 5
abbrev s_Trails_walk : Stmt := inClass (top 53) 6
abbrev s_hand_over : Stmt := top 54
abbrev s_law_number : Stmt := top 57
abbrev s_law_take : Stmt := top 58
abbrev s_law_pick : Stmt := top 59
abbrev s_law_deal : Stmt := top 61
abbrev s_law_bounds : Stmt := top 62
abbrev s_law_moves : Stmt := top 63
abbrev s_law_wider : Stmt := top 64
abbrev s_law_handed : Stmt := top 65
abbrev s_law : Stmt := top 66
def d_Good_bool : He.DefD := ⟨("Order", some "__bool__"), "__bool__", "Good.__bool__", defArgs s_Good_bool, defBody s_Good_bool, defScope s_Good_bool, [], []⟩
def d_is_word : He.DefD := ⟨("is_word", none), "is_word", "is_word", defArgs s_is_word, defBody s_is_word, defScope s_is_word, [], []⟩
def d_is_natural : He.DefD := ⟨("is_natural", none), "is_natural", "is_natural", defArgs s_is_natural, defBody s_is_natural, defScope s_is_natural, [.int 60], []⟩
def d_check_deal : He.DefD := ⟨("check_deal", none), "check_deal", "check_deal", defArgs s_check_deal, defBody s_check_deal, defScope s_check_deal, [], []⟩
def d_check_bounds : He.DefD := ⟨("check_bounds", none), "check_bounds", "check_bounds", defArgs s_check_bounds, defBody s_check_bounds, defScope s_check_bounds, [], []⟩
def d_loads_of : He.DefD := ⟨("loads_of", none), "loads_of", "loads_of", defArgs s_loads_of, defBody s_loads_of, defScope s_loads_of, [], []⟩
def d_all_readers : He.DefD := ⟨("all_readers", none), "all_readers", "all_readers", defArgs s_all_readers, defBody s_all_readers, defScope s_all_readers, [], []⟩
def d_bound_of : He.DefD := ⟨("bound_of", none), "bound_of", "bound_of", defArgs s_bound_of, defBody s_bound_of, defScope s_bound_of, [], []⟩
def d_is_possible : He.DefD := ⟨("is_possible", none), "is_possible", "is_possible", defArgs s_is_possible, defBody s_is_possible, defScope s_is_possible, [], []⟩
def d_Moves_init : He.DefD := ⟨("Moves", some "__init__"), "__init__", "Moves.__init__", defArgs s_Moves_init, defBody s_Moves_init, defScope s_Moves_init, [], []⟩
def d_Moves_shows : He.DefD := ⟨("Moves", some "shows"), "shows", "Moves.shows", defArgs s_Moves_shows, defBody s_Moves_shows, defScope s_Moves_shows, [], []⟩
def d_are_distinct : He.DefD := ⟨("are_distinct", none), "are_distinct", "are_distinct", defArgs s_are_distinct, defBody s_are_distinct, defScope s_are_distinct, [], []⟩
def d_moved : He.DefD := ⟨("moved", none), "moved", "moved", defArgs s_moved, defBody s_moved, defScope s_moved, [], []⟩
def d_barred : He.DefD := ⟨("barred", none), "barred", "barred", defArgs s_barred, defBody s_barred, defScope s_barred, [], []⟩
def d_check_change : He.DefD := ⟨("check_change", none), "check_change", "check_change", defArgs s_check_change, defBody s_check_change, defScope s_check_change, [], []⟩
def d_new_loads : He.DefD := ⟨("new_loads", none), "new_loads", "new_loads", defArgs s_new_loads, defBody s_new_loads, defScope s_new_loads, [], []⟩
def d_least_moves : He.DefD := ⟨("least_moves", none), "least_moves", "least_moves", defArgs s_least_moves, defBody s_least_moves, defScope s_least_moves, [], []⟩
def d_moves_between : He.DefD := ⟨("moves_between", none), "moves_between", "moves_between", defArgs s_moves_between, defBody s_moves_between, defScope s_moves_between, [], []⟩
def d_Edge_init : He.DefD := ⟨("Edge", some "__init__"), "__init__", "Edge.__init__", defArgs s_Edge_init, defBody s_Edge_init, defScope s_Edge_init, [], []⟩
def d_Flow_init : He.DefD := ⟨("Flow", some "__init__"), "__init__", "Flow.__init__", defArgs s_Flow_init, defBody s_Flow_init, defScope s_Flow_init, [], []⟩
def d_Flow_edge : He.DefD := ⟨("Flow", some "edge"), "edge", "Flow.edge", defArgs s_Flow_edge, defBody s_Flow_edge, defScope s_Flow_edge, [], []⟩
def d_Flow_through : He.DefD := ⟨("Flow", some "through"), "through", "Flow.through", defArgs s_Flow_through, defBody s_Flow_through, defScope s_Flow_through, [], []⟩
def d_Flow_fill : He.DefD := ⟨("Flow", some "fill"), "fill", "Flow.fill", defArgs s_Flow_fill, defBody s_Flow_fill, defScope s_Flow_fill, [], []⟩
def d_Flow_way : He.DefD := ⟨("Flow", some "way"), "way", "Flow.way", defArgs s_Flow_way, defBody s_Flow_way, defScope s_Flow_way, [], []⟩
def d_Flow_distances : He.DefD := ⟨("Flow", some "distances"), "distances", "Flow.distances", defArgs s_Flow_distances, defBody s_Flow_distances, defScope s_Flow_distances, [], []⟩
def d_better : He.DefD := ⟨("better", none), "better", "better", defArgs s_better, defBody s_better, defScope s_better, [], []⟩
def d_check_history : He.DefD := ⟨("check_history", none), "check_history", "check_history", defArgs s_check_history, defBody s_check_history, defScope s_check_history, [], []⟩
def d_names_of : He.DefD := ⟨("names_of", none), "names_of", "names_of", defArgs s_names_of, defBody s_names_of, defScope s_names_of, [], []⟩
def d_cost : He.DefD := ⟨("cost", none), "cost", "cost", defArgs s_cost, defBody s_cost, defScope s_cost, [], []⟩
def d_cheapest_path : He.DefD := ⟨("cheapest_path", none), "cheapest_path", "cheapest_path", defArgs s_cheapest_path, defBody s_cheapest_path, defScope s_cheapest_path, [], []⟩
def d_bound_by : He.DefD := ⟨("bound_by", none), "bound_by", "bound_by", defArgs s_bound_by, defBody s_bound_by, defScope s_bound_by, [], []⟩
def d_History_init : He.DefD := ⟨("History", some "__init__"), "__init__", "History.__init__", defArgs s_History_init, defBody s_History_init, defScope s_History_init, [], []⟩
def d_History_shows : He.DefD := ⟨("History", some "shows"), "shows", "History.shows", defArgs s_History_shows, defBody s_History_shows, defScope s_History_shows, [], []⟩
def d_is_within : He.DefD := ⟨("is_within", none), "is_within", "is_within", defArgs s_is_within, defBody s_is_within, defScope s_is_within, [], []⟩
def d_Layers_init : He.DefD := ⟨("Layers", some "__init__"), "__init__", "Layers.__init__", defArgs s_Layers_init, defBody s_Layers_init, defScope s_Layers_init, [], []⟩
def d_Layers_layer : He.DefD := ⟨("Layers", some "layer"), "layer", "Layers.layer", defArgs s_Layers_layer, defBody s_Layers_layer, defScope s_Layers_layer, [], []⟩
def d_Layers_loads : He.DefD := ⟨("Layers", some "loads"), "loads", "Layers.loads", defArgs s_Layers_loads, defBody s_Layers_loads, defScope s_Layers_loads, [], []⟩
def d_Layers_prices : He.DefD := ⟨("Layers", some "prices"), "prices", "Layers.prices", defArgs s_Layers_prices, defBody s_Layers_prices, defScope s_Layers_prices, [], []⟩
def d_least_history : He.DefD := ⟨("least_history", none), "least_history", "least_history", defArgs s_least_history, defBody s_least_history, defScope s_least_history, [], []⟩
def d_check_caps : He.DefD := ⟨("check_caps", none), "check_caps", "check_caps", defArgs s_check_caps, defBody s_check_caps, defScope s_check_caps, [], []⟩
def d_wanted : He.DefD := ⟨("wanted", none), "wanted", "wanted", defArgs s_wanted, defBody s_wanted, defScope s_wanted, [], []⟩
def d_parts_of : He.DefD := ⟨("parts_of", none), "parts_of", "parts_of", defArgs s_parts_of, defBody s_parts_of, defScope s_parts_of, [], []⟩
def d_stuck_parts : He.DefD := ⟨("stuck_parts", none), "stuck_parts", "stuck_parts", defArgs s_stuck_parts, defBody s_stuck_parts, defScope s_stuck_parts, [], []⟩
def d_Order_init : He.DefD := ⟨("Order", some "__init__"), "__init__", "Order.__init__", defArgs s_Order_init, defBody s_Order_init, defScope s_Order_init, [], []⟩
def d_Order_shows : He.DefD := ⟨("Order", some "shows"), "shows", "Order.shows", defArgs s_Order_shows, defBody s_Order_shows, defScope s_Order_shows, [], []⟩
def d_Trails_init : He.DefD := ⟨("Trails", some "__init__"), "__init__", "Trails.__init__", defArgs s_Trails_init, defBody s_Trails_init, defScope s_Trails_init, [], []⟩
def d_Trails_make : He.DefD := ⟨("Trails", some "make"), "make", "Trails.make", defArgs s_Trails_make, defBody s_Trails_make, defScope s_Trails_make, [], []⟩
def d_Trails_into : He.DefD := ⟨("Trails", some "into"), "into", "Trails.into", defArgs s_Trails_into, defBody s_Trails_into, defScope s_Trails_into, [], []⟩
def d_Trails_excess : He.DefD := ⟨("Trails", some "excess"), "excess", "Trails.excess", defArgs s_Trails_excess, defBody s_Trails_excess, defScope s_Trails_excess, [], []⟩
def d_Trails_trail : He.DefD := ⟨("Trails", some "trail"), "trail", "Trails.trail", defArgs s_Trails_trail, defBody s_Trails_trail, defScope s_Trails_trail, [], []⟩
def d_Trails_loop : He.DefD := ⟨("Trails", some "loop"), "loop", "Trails.loop", defArgs s_Trails_loop, defBody s_Trails_loop, defScope s_Trails_loop, [], []⟩
def d_Trails_walk : He.DefD := ⟨("Trails", some "walk"), "walk", "Trails.walk", defArgs s_Trails_walk, defBody s_Trails_walk, defScope s_Trails_walk, [], []⟩
def d_hand_over : He.DefD := ⟨("hand_over", none), "hand_over", "hand_over", defArgs s_hand_over, defBody s_hand_over, defScope s_hand_over, [], []⟩
def d_law_number : He.DefD := ⟨("_law_number", none), "_law_number", "_law_number", defArgs s_law_number, defBody s_law_number, defScope s_law_number, [], []⟩
def d_law_take : He.DefD := ⟨("_law_take", none), "_law_take", "_law_take", defArgs s_law_take, defBody s_law_take, defScope s_law_take, [], []⟩
def d_law_pick : He.DefD := ⟨("_law_pick", none), "_law_pick", "_law_pick", defArgs s_law_pick, defBody s_law_pick, defScope s_law_pick, [], []⟩
def d_law_deal : He.DefD := ⟨("_law_deal", none), "_law_deal", "_law_deal", defArgs s_law_deal, defBody s_law_deal, defScope s_law_deal, [], []⟩
def d_law_bounds : He.DefD := ⟨("_law_bounds", none), "_law_bounds", "_law_bounds", defArgs s_law_bounds, defBody s_law_bounds, defScope s_law_bounds, [], []⟩
def d_law_moves : He.DefD := ⟨("_law_moves", none), "_law_moves", "_law_moves", defArgs s_law_moves, defBody s_law_moves, defScope s_law_moves, [], []⟩
def d_law_wider : He.DefD := ⟨("_law_wider", none), "_law_wider", "_law_wider", defArgs s_law_wider, defBody s_law_wider, defScope s_law_wider, [], []⟩
def d_law_handed : He.DefD := ⟨("_law_handed", none), "_law_handed", "_law_handed", defArgs s_law_handed, defBody s_law_handed, defScope s_law_handed, [], []⟩
def d_law : He.DefD := ⟨("law", none), "law", "law", defArgs s_law, defBody s_law, defScope s_law, [], []⟩
def fn1 : List He.DefD := [d_Good_bool, d_is_word, d_is_natural, d_check_deal, d_check_bounds, d_loads_of, d_all_readers, d_bound_of, d_is_possible, d_Moves_init, d_Moves_shows, d_are_distinct]
def fn2 : List He.DefD := [d_moved, d_barred, d_check_change, d_new_loads, d_least_moves, d_moves_between, d_Edge_init, d_Flow_init, d_Flow_edge, d_Flow_through, d_Flow_fill, d_Flow_way]
def fn3 : List He.DefD := [d_Flow_distances, d_better, d_check_history, d_names_of, d_cost, d_cheapest_path, d_bound_by, d_History_init, d_History_shows, d_is_within, d_Layers_init, d_Layers_layer]
def fn4 : List He.DefD := [d_Layers_loads, d_Layers_prices, d_least_history, d_check_caps, d_wanted, d_parts_of, d_stuck_parts, d_Order_init, d_Order_shows, d_Trails_init, d_Trails_make, d_Trails_into]
def fn5 : List He.DefD := [d_Trails_excess, d_Trails_trail, d_Trails_loop, d_Trails_walk, d_hand_over, d_law_number, d_law_take, d_law_pick, d_law_deal, d_law_bounds, d_law_moves, d_law_wider]
def fn6 : List He.DefD := [d_law_handed, d_law]
def fn : List He.DefD := fn1 ++ fn2 ++ fn3 ++ fn4 ++ fn5 ++ fn6
def fa0 : List He.Fa := [.glo "is_word", .glo "is_natural", .glo "check_deal", .glo "check_bounds", .glo "loads_of", .glo "all_readers", .glo "bound_of", .glo "is_possible", .glo "Moves", .glo "are_distinct", .glo "moved", .glo "barred"]
def fa1 : List He.Fa := [.glo "check_change", .glo "new_loads", .glo "least_moves", .glo "moves_between", .glo "Edge", .glo "Flow", .glo "better", .glo "check_history", .glo "names_of", .glo "cost", .glo "cheapest_path", .glo "bound_by"]
def fa2 : List He.Fa := [.glo "History", .glo "is_within", .glo "Layers", .glo "least_history", .glo "check_caps", .glo "wanted", .glo "parts_of", .glo "stuck_parts", .glo "Order", .glo "Trails", .glo "hand_over", .glo "_law_number"]
def fa3 : List He.Fa := [.glo "_law_take", .glo "_law_pick", .glo "_law_deal", .glo "_law_bounds", .glo "_law_moves", .glo "_law_wider", .glo "_law_handed", .glo "law", .glo "NoDeal", .free "isinstance", .free "str", .free "len"]
def fa4 : List He.Fa := [.free "all", .free "dict", .free "int", .free "bool", .free "tuple", .free "list", .free "sorted", .free "sum", .free "any", .free "max", .free "min", .free "range"]
def fa5 : List He.Fa := [.free "enumerate", .free "zip", .free "set", .free "abs", .free "super", .int "MOST_LANES" 60, .int "MOST_READERS_deals" 12, .int "MOST_READERS_handing" 12, .int "MOST_TICKS" 12, .cls "Moves", .mkr "Moves", .noat "Moves" "moves"]
def fa6 : List He.Fa := [.noat "Moves" "way", .noat "Moves" "readers", .meth "Moves" "shows", .cls "Edge", .mkr "Edge", .noat "Edge" "begin", .noat "Edge" "end", .noat "Edge" "low", .noat "Edge" "high", .noat "Edge" "price", .noat "Edge" "amount", .cls "Flow"]
def fa7 : List He.Fa := [.mkr "Flow", .noat "Flow" "many", .noat "Flow" "edges", .noat "Flow" "nodes", .meth "Flow" "edge", .meth "Flow" "through", .meth "Flow" "fill", .meth "Flow" "way", .meth "Flow" "distances", .cls "History", .mkr "History", .noat "History" "deals"]
def fa8 : List He.Fa := [.noat "History" "moves", .noat "History" "prices", .meth "History" "shows", .cls "Layers", .mkr "Layers", .noat "Layers" "names", .noat "Layers" "history", .noat "Layers" "many", .noat "Layers" "flow", .noat "Layers" "big", .meth "Layers" "layer", .meth "Layers" "loads"]
def fa9 : List He.Fa := [.meth "Layers" "prices", .cls "Order", .mkr "Order", .noat "Order" "moves", .noat "Order" "parts", .meth "Order" "shows", .meth "Order" "__bool__", .cls "Trails", .mkr "Trails", .noat "Trails" "now", .noat "Trails" "loads", .noat "Trails" "caps"]
def fa10 : List He.Fa := [.noat "Trails" "rest", .noat "Trails" "done", .meth "Trails" "make", .meth "Trails" "into", .meth "Trails" "excess", .meth "Trails" "trail", .meth "Trails" "loop", .meth "Trails" "walk"]
def fa : List He.Fa := fa0 ++ fa1 ++ fa2 ++ fa3 ++ fa4 ++ fa5 ++ fa6 ++ fa7 ++ fa8 ++ fa9 ++ fa10
/-! NoDeal: its __init__ closes over __class__ -/
abbrev s_NoDeal_init : Stmt := inClass (top 9) 0
abbrev nD (K : PySem.W.Frag) : Addr := He.ga K "NoDeal"
abbrev nF (K : PySem.W.Frag) : Addr := He.ma K (He.ga K "NoDeal") "__init__"
abbrev FnC : Type := Option (Str × Str × Arguments × FuncBody × Scope × Addr × List Str × Addr)
def fnC (K : PySem.W.Frag) : FnC := match K.lookup (nF K) with
  | some ⟨_, _, .func fd, _⟩ => some (fd.name, fd.qualname, fd.params, fd.body, fd.scope, fd.globals, fd.closure.map (·.1), fd.builtins)
  | _ => none
def valC : FnC := some ("__init__", "NoDeal.__init__", defArgs s_NoDeal_init, .stmts (defBody s_NoDeal_init), defScope s_NoDeal_init, mainGlobals, ["__class__"], builtinsNs)
abbrev pw : Program := PySem.Challenge.pw_allbrokers_k55_whole_histories_and_moves
/-- the class object -/
def oexB (K : PySem.W.Frag) (C : Addr) : Bool := match K.lookup C with
  | some ⟨.type c, _, .cls cd, sl⟩ => (match cd.mro, sl.toList with
    | .ref C' :: bm, [_, _, _, _, some (.builtin n), _] => decide (c = "type") && (decide (C' = C) && (decide (n = "ValueError.__new__") && (!cd.hasDel && (cd.hasDict && PySem.HandSPX.refsVE bm))))
    | _, _ => false)
  | _ => false
/-- its def's code object, its cell -/
def cloB (K : PySem.W.Frag) : Bool := match K.lookup (nF K) with
  | some ⟨_, _, .func fd, _⟩ => (PySem.W.codeIn K fd.code "NoDeal.__init__" && decide (fd.defaults = .none)) && ((match fd.code with
    | .ref c => (match K.lookup c with
      | some ⟨_, _, .fields vs, _⟩ => (match (vs[2]? : Option Value) with
        | some (Value.str file _) => pw.main.file == file
        | _ => false)
      | _ => false)
    | _ => false) && (match fd.closure with
    | [(_, cc)] => (match K.lookup cc with
      | some ⟨_, _, .cell (some (.ref D)), _⟩ => decide (D = nD K)
      | _ => false)
    | _ => false))
  | _ => false
def ndB (K : PySem.W.Frag) : Bool :=
  oexB K (nD K) && (cloB K && (He.eqO (PySem.W.findIn K (.ref (nD K)) "__setattr__") (some (some (.builtin "object.__setattr__"))) && (He.eqO (PySem.W.findIn K (.ref (nD K)) "__init__") (some (some (.ref (nF K)))) && (He.eqO (PySem.W.findIn K (.ref (nD K)) "tick") (some none) &&
  (decide (PySem.W.subIn K (.ref (nD K)) (.type "BaseException") = some true) && (decide (PySem.W.typeIn K (.ref (nD K)) = some (.type "type")) && (PySem.W.keepIn K (.ref (nD K)) && (decide (PySem.W.typeIn K (.ref (nF K)) = some (.type "function")) &&
  (decide (PySem.W.mroIn K (nD K) (.ref (nD K)) = some true) && (decide (PySem.W.subIn K (.ref (nD K)) (.type "ValueError") = some true) && (He.eqO (PySem.W.nsIn K cStatics "thirdparty.any") (some none) && (He.eqO (PySem.W.ks_superIn K (nD K) (nD K) "__init__") (some (some (.builtin "ValueError.__init__"))) &&
  decide (PySem.W.exmOne K (.ref (nD K)) (.ref (nD K)) = some true)))))))))))))
structure NdF (K : PySem.W.Frag) : Prop where
  c : fnC K = valC
  b : ndB K = true
structure NdFn (K : PySem.W.Frag) (oc : Value) (od : Option Addr) (osl : Array (Option Value)) (kV doc pm ct : Value) (an : Option Addr) (cda cc : Addr) : Prop where
  lk : K.lookup (nF K) = some ⟨oc, od, .func (PySem.W.fnX "__init__" "NoDeal.__init__" (defArgs s_NoDeal_init) (defBody s_NoDeal_init) (defScope s_NoDeal_init) [("__class__", cc)] .none kV doc pm an (.ref cda) ct), osl⟩
  cd : PySem.W.codeIn K (.ref cda) "NoDeal.__init__" = true
  cf : ∃ o vs file tf, K.lookup cda = some o ∧ o.data = .fields vs ∧ vs[2]? = some (.str file tf) ∧ ((pw.main.file : Str) == file) = true
  cl : ∃ ccl cdd ccs, K.lookup cc = some ⟨ccl, cdd, .cell (some (.ref (nD K))), ccs⟩
structure NdOk (K : PySem.W.Frag) : Prop where
  oc : OexC K (nD K)
  ini : PySem.W.findIn K (.ref (nD K)) "__init__" = some (some (.ref (nF K)))
  tick : PySem.W.findIn K (.ref (nD K)) "tick" = some none
  ty : PySem.W.typeIn K (.ref (nF K)) = some (.type "function")
  mro : PySem.W.mroIn K (nD K) (.ref (nD K)) = some true
  sub : PySem.W.subIn K (.ref (nD K)) (.type "ValueError") = some true
  op : PySem.W.nsIn K cStatics "thirdparty.any" = some none
  sup : PySem.W.ks_superIn K (nD K) (nD K) "__init__" = some (some (.builtin "ValueError.__init__"))
  exm : PySem.W.exmOne K (.ref (nD K)) (.ref (nD K)) = some true
  fn : ∃ oc od osl kV doc pm ct an cda cc, NdFn K oc od osl kV doc pm ct an cda cc
theorem oexB_ok {K : PySem.W.Frag} {C : Addr} (h : oexB K C = true) : ∃ nm q N bs bm sn sub ab col dd k0 k1 k2 k3 k5, K.lookup C = some (excClassObj nm q C N bs bm true sn sub ab col dd k0 k1 k2 k3 k5 "ValueError.__new__") ∧ PySem.HandSPX.refsVE bm = true := by
  unfold oexB at h
  split at h
  · rename_i c dd cd sl ho
    split at h
    · rename_i C' bm k0 k1 k2 k3 n k5 hm hs
      simp only [Bool.and_eq_true, decide_eq_true_eq, Bool.not_eq_true'] at h
      obtain ⟨rfl, rfl, rfl, hdel, hd, hv⟩ := h
      obtain ⟨nm, bs, mro, ns, qn, hdd, sn, sub, ab, col, del⟩ := cd
      dsimp only at hm hdel hd
      subst hm hdel hd
      have hsl : sl = #[k0, k1, k2, k3, some (.builtin "ValueError.__new__"), k5] := by
        obtain ⟨l⟩ := sl
        simp only at hs
        rw [hs]
      subst hsl
      exact ⟨nm, qn, ns, bs, bm, sn, sub, ab, col, dd, k0, k1, k2, k3, k5, ho, hv⟩
    · cases h
  · cases h
theorem cloB_ok {K : PySem.W.Frag} (hc : fnC K = valC) (h : cloB K = true) : ∃ oc od osl kV doc pm ct an cda cc, NdFn K oc od osl kV doc pm ct an cda cc := by
  unfold fnC at hc
  unfold cloB at h
  split at hc
  · rename_i oc od fd osl ho
    rw [ho] at h
    dsimp only at h
    obtain ⟨n1, n2, n3, n4, n5, n6, n7, n8, n9, n10, n11, n12, n13, n14, n15⟩ := fd
    unfold valC at hc
    simp only [Option.some.injEq, Prod.mk.injEq] at hc
    obtain ⟨e1, e2, e3, e4, e5, e6, e7, e8⟩ := hc
    subst e1 e2 e3 e4 e5 e6 e8
    simp only [Bool.and_eq_true] at h
    obtain ⟨⟨h1, h0⟩, h2, h3⟩ := h
    have h0 : n8 = .none := of_decide_eq_true h0
    subst h0
    split at h2
    · rename_i cda
      split at h3
      · rename_i nm cc
        have : nm = "__class__" := by
          have e7 : [nm] = [("__class__" : Str)] := e7
          exact (List.cons.inj e7).1
        subst this
        refine ⟨oc, od, osl, n9, n10, n11, n14, n12, cda, cc, ho, h1, ?_, ?_⟩
        · split at h2
          · rename_i a b vs sl ho2
            split at h2
            · rename_i file tf hv
              exact ⟨_, vs, file, tf, ho2, rfl, hv, h2⟩
            · cases h2
          · cases h2
        · split at h3
          · rename_i a b D sl ho3
            obtain rfl := of_decide_eq_true h3
            exact ⟨_, _, _, ho3⟩
          · cases h3
      · cases h3
    · cases h2
  · cases hc
theorem NdF.ok {K : PySem.W.Frag} (n : NdF K) : NdOk K := by
  have hb := n.b
  unfold ndB at hb
  simp only [Bool.and_eq_true] at hb
  obtain ⟨b1, b2, b3, b4, b5, b6, b7, b8, b9, b10, b11, b12, b13, b14⟩ := hb
  exact ⟨⟨oexB_ok b1, He.eqO_ok b3, of_decide_eq_true b6, of_decide_eq_true b7, b8⟩, He.eqO_ok b4, He.eqO_ok b5, of_decide_eq_true b9, of_decide_eq_true b10, of_decide_eq_true b11, He.eqO_ok b12, He.eqO_ok b13, of_decide_eq_true b14, cloB_ok n.c b2⟩
/-- what stands behind the top -/
structure Txt (K : PySem.W.Frag) (mg : Str → Option Value) : Prop where
  h : ∃ h : Heap, K.In h ∧ h.Ns mainGlobals mg
  c : He.SaysD fa fn K
  nd : NdF K
section
variable {K : PySem.W.Frag} {mg : Str → Option Value}
theorem Txt.fact (T : Txt K mg) (i : Nat) {f : He.Fa} (e : fa[i]? = some f) : f.ok K = true := T.c.fact i e
theorem Txt.g_is_word (T : Txt K mg) : mg "is_word" = some (.ref (He.ga K "is_word")) := let ⟨_, X, G⟩ := T.h; He.glo_ok X G (T.fact 0 (f := .glo "is_word") rfl)
theorem Txt.g_is_natural (T : Txt K mg) : mg "is_natural" = some (.ref (He.ga K "is_natural")) := let ⟨_, X, G⟩ := T.h; He.glo_ok X G (T.fact 1 (f := .glo "is_natural") rfl)
theorem Txt.g_check_deal (T : Txt K mg) : mg "check_deal" = some (.ref (He.ga K "check_deal")) := let ⟨_, X, G⟩ := T.h; He.glo_ok X G (T.fact 2 (f := .glo "check_deal") rfl)
theorem Txt.g_check_bounds (T : Txt K mg) : mg "check_bounds" = some (.ref (He.ga K "check_bounds")) := let ⟨_, X, G⟩ := T.h; He.glo_ok X G (T.fact 3 (f := .glo "check_bounds") rfl)
theorem Txt.g_loads_of (T : Txt K mg) : mg "loads_of" = some (.ref (He.ga K "loads_of")) := let ⟨_, X, G⟩ := T.h; He.glo_ok X G (T.fact 4 (f := .glo "loads_of") rfl)
theorem Txt.g_all_readers (T : Txt K mg) : mg "all_readers" = some (.ref (He.ga K "all_readers")) := let ⟨_, X, G⟩ := T.h; He.glo_ok X G (T.fact 5 (f := .glo "all_readers") rfl)
theorem Txt.g_bound_of (T : Txt K mg) : mg "bound_of" = some (.ref (He.ga K "bound_of")) := let ⟨_, X, G⟩ := T.h; He.glo_ok X G (T.fact 6 (f := .glo "bound_of") rfl)
theorem Txt.g_is_possible (T : Txt K mg) : mg "is_possible" = some (.ref (He.ga K "is_possible")) := let ⟨_, X, G⟩ := T.h; He.glo_ok X G (T.fact 7 (f := .glo "is_possible") rfl)
theorem Txt.g_Moves (T : Txt K mg) : mg "Moves" = some (.ref (He.ga K "Moves")) := let ⟨_, X, G⟩ := T.h; He.glo_ok X G (T.fact 8 (f := .glo "Moves") rfl)
theorem Txt.g_are_distinct (T : Txt K mg) : mg "are_distinct" = some (.ref (He.ga K "are_distinct")) := let ⟨_, X, G⟩ := T.h; He.glo_ok X G (T.fact 9 (f := .glo "are_distinct") rfl)
theorem Txt.g_moved (T : Txt K mg) : mg "moved" = some (.ref (He.ga K "moved")) := let ⟨_, X, G⟩ := T.h; He.glo_ok X G (T.fact 10 (f := .glo "moved") rfl)
theorem Txt.g_barred (T : Txt K mg) : mg "barred" = some (.ref (He.ga K "barred")) := let ⟨_, X, G⟩ := T.h; He.glo_ok X G (T.fact 11 (f := .glo "barred") rfl)
theorem Txt.g_check_change (T : Txt K mg) : mg "check_change" = some (.ref (He.ga K "check_change")) := let ⟨_, X, G⟩ := T.h; He.glo_ok X G (T.fact 12 (f := .glo "check_change") rfl)
theorem Txt.g_new_loads (T : Txt K mg) : mg "new_loads" = some (.ref (He.ga K "new_loads")) := let ⟨_, X, G⟩ := T.h; He.glo_ok X G (T.fact 13 (f := .glo "new_loads") rfl)
theorem Txt.g_least_moves (T : Txt K mg) : mg "least_moves" = some (.ref (He.ga K "least_moves")) := let ⟨_, X, G⟩ := T.h; He.glo_ok X G (T.fact 14 (f := .glo "least_moves") rfl)
theorem Txt.g_moves_between (T : Txt K mg) : mg "moves_between" = some (.ref (He.ga K "moves_between")) := let ⟨_, X, G⟩ := T.h; He.glo_ok X G (T.fact 15 (f := .glo "moves_between") rfl)
theorem Txt.g_Edge (T : Txt K mg) : mg "Edge" = some (.ref (He.ga K "Edge")) := let ⟨_, X, G⟩ := T.h; He.glo_ok X G (T.fact 16 (f := .glo "Edge") rfl)
theorem Txt.g_Flow (T : Txt K mg) : mg "Flow" = some (.ref (He.ga K "Flow")) := let ⟨_, X, G⟩ := T.h; He.glo_ok X G (T.fact 17 (f := .glo "Flow") rfl)
theorem Txt.g_better (T : Txt K mg) : mg "better" = some (.ref (He.ga K "better")) := let ⟨_, X, G⟩ := T.h; He.glo_ok X G (T.fact 18 (f := .glo "better") rfl)
theorem Txt.g_check_history (T : Txt K mg) : mg "check_history" = some (.ref (He.ga K "check_history")) := let ⟨_, X, G⟩ := T.h; He.glo_ok X G (T.fact 19 (f := .glo "check_history") rfl)
theorem Txt.g_names_of (T : Txt K mg) : mg "names_of" = some (.ref (He.ga K "names_of")) := let ⟨_, X, G⟩ := T.h; He.glo_ok X G (T.fact 20 (f := .glo "names_of") rfl)
theorem Txt.g_cost (T : Txt K mg) : mg "cost" = some (.ref (He.ga K "cost")) := let ⟨_, X, G⟩ := T.h; He.glo_ok X G (T.fact 21 (f := .glo "cost") rfl)
theorem Txt.g_cheapest_path (T : Txt K mg) : mg "cheapest_path" = some (.ref (He.ga K "cheapest_path")) := let ⟨_, X, G⟩ := T.h; He.glo_ok X G (T.fact 22 (f := .glo "cheapest_path") rfl)
theorem Txt.g_bound_by (T : Txt K mg) : mg "bound_by" = some (.ref (He.ga K "bound_by")) := let ⟨_, X, G⟩ := T.h; He.glo_ok X G (T.fact 23 (f := .glo "bound_by") rfl)
theorem Txt.g_History (T : Txt K mg) : mg "History" = some (.ref (He.ga K "History")) := let ⟨_, X, G⟩ := T.h; He.glo_ok X G (T.fact 24 (f := .glo "History") rfl)
theorem Txt.g_is_within (T : Txt K mg) : mg "is_within" = some (.ref (He.ga K "is_within")) := let ⟨_, X, G⟩ := T.h; He.glo_ok X G (T.fact 25 (f := .glo "is_within") rfl)
theorem Txt.g_Layers (T : Txt K mg) : mg "Layers" = some (.ref (He.ga K "Layers")) := let ⟨_, X, G⟩ := T.h; He.glo_ok X G (T.fact 26 (f := .glo "Layers") rfl)
theorem Txt.g_least_history (T : Txt K mg) : mg "least_history" = some (.ref (He.ga K "least_history")) := let ⟨_, X, G⟩ := T.h; He.glo_ok X G (T.fact 27 (f := .glo "least_history") rfl)
theorem Txt.g_check_caps (T : Txt K mg) : mg "check_caps" = some (.ref (He.ga K "check_caps")) := let ⟨_, X, G⟩ := T.h; He.glo_ok X G (T.fact 28 (f := .glo "check_caps") rfl)
theorem Txt.g_wanted (T : Txt K mg) : mg "wanted" = some (.ref (He.ga K "wanted")) := let ⟨_, X, G⟩ := T.h; He.glo_ok X G (T.fact 29 (f := .glo "wanted") rfl)
theorem Txt.g_parts_of (T : Txt K mg) : mg "parts_of" = some (.ref (He.ga K "parts_of")) := let ⟨_, X, G⟩ := T.h; He.glo_ok X G (T.fact 30 (f := .glo "parts_of") rfl)
theorem Txt.g_stuck_parts (T : Txt K mg) : mg "stuck_parts" = some (.ref (He.ga K "stuck_parts")) := let ⟨_, X, G⟩ := T.h; He.glo_ok X G (T.fact 31 (f := .glo "stuck_parts") rfl)
theorem Txt.g_Order (T : Txt K mg) : mg "Order" = some (.ref (He.ga K "Order")) := let ⟨_, X, G⟩ := T.h; He.glo_ok X G (T.fact 32 (f := .glo "Order") rfl)
theorem Txt.g_Trails (T : Txt K mg) : mg "Trails" = some (.ref (He.ga K "Trails")) := let ⟨_, X, G⟩ := T.h; He.glo_ok X G (T.fact 33 (f := .glo "Trails") rfl)
theorem Txt.g_hand_over (T : Txt K mg) : mg "hand_over" = some (.ref (He.ga K "hand_over")) := let ⟨_, X, G⟩ := T.h; He.glo_ok X G (T.fact 34 (f := .glo "hand_over") rfl)
theorem Txt.g_law_number (T : Txt K mg) : mg "_law_number" = some (.ref (He.ga K "_law_number")) := let ⟨_, X, G⟩ := T.h; He.glo_ok X G (T.fact 35 (f := .glo "_law_number") rfl)
theorem Txt.g_law_take (T : Txt K mg) : mg "_law_take" = some (.ref (He.ga K "_law_take")) := let ⟨_, X, G⟩ := T.h; He.glo_ok X G (T.fact 36 (f := .glo "_law_take") rfl)
theorem Txt.g_law_pick (T : Txt K mg) : mg "_law_pick" = some (.ref (He.ga K "_law_pick")) := let ⟨_, X, G⟩ := T.h; He.glo_ok X G (T.fact 37 (f := .glo "_law_pick") rfl)
theorem Txt.g_law_deal (T : Txt K mg) : mg "_law_deal" = some (.ref (He.ga K "_law_deal")) := let ⟨_, X, G⟩ := T.h; He.glo_ok X G (T.fact 38 (f := .glo "_law_deal") rfl)
theorem Txt.g_law_bounds (T : Txt K mg) : mg "_law_bounds" = some (.ref (He.ga K "_law_bounds")) := let ⟨_, X, G⟩ := T.h; He.glo_ok X G (T.fact 39 (f := .glo "_law_bounds") rfl)
theorem Txt.g_law_moves (T : Txt K mg) : mg "_law_moves" = some (.ref (He.ga K "_law_moves")) := let ⟨_, X, G⟩ := T.h; He.glo_ok X G (T.fact 40 (f := .glo "_law_moves") rfl)
theorem Txt.g_law_wider (T : Txt K mg) : mg "_law_wider" = some (.ref (He.ga K "_law_wider")) := let ⟨_, X, G⟩ := T.h; He.glo_ok X G (T.fact 41 (f := .glo "_law_wider") rfl)
theorem Txt.g_law_handed (T : Txt K mg) : mg "_law_handed" = some (.ref (He.ga K "_law_handed")) := let ⟨_, X, G⟩ := T.h; He.glo_ok X G (T.fact 42 (f := .glo "_law_handed") rfl)
theorem Txt.g_law (T : Txt K mg) : mg "law" = some (.ref (He.ga K "law")) := let ⟨_, X, G⟩ := T.h; He.glo_ok X G (T.fact 43 (f := .glo "law") rfl)
theorem Txt.g_NoDeal (T : Txt K mg) : mg "NoDeal" = some (.ref (He.ga K "NoDeal")) := let ⟨_, X, G⟩ := T.h; He.glo_ok X G (T.fact 44 (f := .glo "NoDeal") rfl)
theorem Txt.n_isinstance (T : Txt K mg) : mg "isinstance" = none := let ⟨_, X, G⟩ := T.h; He.free_ok X G (T.fact 45 (f := .free "isinstance") rfl)
theorem Txt.n_str (T : Txt K mg) : mg "str" = none := let ⟨_, X, G⟩ := T.h; He.free_ok X G (T.fact 46 (f := .free "str") rfl)
theorem Txt.n_len (T : Txt K mg) : mg "len" = none := let ⟨_, X, G⟩ := T.h; He.free_ok X G (T.fact 47 (f := .free "len") rfl)
theorem Txt.n_all (T : Txt K mg) : mg "all" = none := let ⟨_, X, G⟩ := T.h; He.free_ok X G (T.fact 48 (f := .free "all") rfl)
theorem Txt.n_dict (T : Txt K mg) : mg "dict" = none := let ⟨_, X, G⟩ := T.h; He.free_ok X G (T.fact 49 (f := .free "dict") rfl)
theorem Txt.n_int (T : Txt K mg) : mg "int" = none := let ⟨_, X, G⟩ := T.h; He.free_ok X G (T.fact 50 (f := .free "int") rfl)
theorem Txt.n_bool (T : Txt K mg) : mg "bool" = none := let ⟨_, X, G⟩ := T.h; He.free_ok X G (T.fact 51 (f := .free "bool") rfl)
theorem Txt.n_tuple (T : Txt K mg) : mg "tuple" = none := let ⟨_, X, G⟩ := T.h; He.free_ok X G (T.fact 52 (f := .free "tuple") rfl)
theorem Txt.n_list (T : Txt K mg) : mg "list" = none := let ⟨_, X, G⟩ := T.h; He.free_ok X G (T.fact 53 (f := .free "list") rfl)
theorem Txt.n_sorted (T : Txt K mg) : mg "sorted" = none := let ⟨_, X, G⟩ := T.h; He.free_ok X G (T.fact 54 (f := .free "sorted") rfl)
theorem Txt.n_sum (T : Txt K mg) : mg "sum" = none := let ⟨_, X, G⟩ := T.h; He.free_ok X G (T.fact 55 (f := .free "sum") rfl)
theorem Txt.n_any (T : Txt K mg) : mg "any" = none := let ⟨_, X, G⟩ := T.h; He.free_ok X G (T.fact 56 (f := .free "any") rfl)
theorem Txt.n_max (T : Txt K mg) : mg "max" = none := let ⟨_, X, G⟩ := T.h; He.free_ok X G (T.fact 57 (f := .free "max") rfl)
theorem Txt.n_min (T : Txt K mg) : mg "min" = none := let ⟨_, X, G⟩ := T.h; He.free_ok X G (T.fact 58 (f := .free "min") rfl)
theorem Txt.n_range (T : Txt K mg) : mg "range" = none := let ⟨_, X, G⟩ := T.h; He.free_ok X G (T.fact 59 (f := .free "range") rfl)
theorem Txt.n_enumerate (T : Txt K mg) : mg "enumerate" = none := let ⟨_, X, G⟩ := T.h; He.free_ok X G (T.fact 60 (f := .free "enumerate") rfl)
theorem Txt.n_zip (T : Txt K mg) : mg "zip" = none := let ⟨_, X, G⟩ := T.h; He.free_ok X G (T.fact 61 (f := .free "zip") rfl)
theorem Txt.n_set (T : Txt K mg) : mg "set" = none := let ⟨_, X, G⟩ := T.h; He.free_ok X G (T.fact 62 (f := .free "set") rfl)
theorem Txt.n_abs (T : Txt K mg) : mg "abs" = none := let ⟨_, X, G⟩ := T.h; He.free_ok X G (T.fact 63 (f := .free "abs") rfl)
theorem Txt.n_super (T : Txt K mg) : mg "super" = none := let ⟨_, X, G⟩ := T.h; He.free_ok X G (T.fact 64 (f := .free "super") rfl)
theorem Txt.i_MOST_LANES (T : Txt K mg) : ∃ t, mg "MOST_LANES" = some (.int 60 t) := let ⟨_, X, G⟩ := T.h; He.int_ok X G (T.fact 65 (f := .int "MOST_LANES" 60) rfl)
theorem Txt.i_MOST_READERS_deals (T : Txt K mg) : ∃ t, mg "MOST_READERS_deals" = some (.int 12 t) := let ⟨_, X, G⟩ := T.h; He.int_ok X G (T.fact 66 (f := .int "MOST_READERS_deals" 12) rfl)
theorem Txt.i_MOST_READERS_handing (T : Txt K mg) : ∃ t, mg "MOST_READERS_handing" = some (.int 12 t) := let ⟨_, X, G⟩ := T.h; He.int_ok X G (T.fact 67 (f := .int "MOST_READERS_handing" 12) rfl)
theorem Txt.i_MOST_TICKS (T : Txt K mg) : ∃ t, mg "MOST_TICKS" = some (.int 12 t) := let ⟨_, X, G⟩ := T.h; He.int_ok X G (T.fact 68 (f := .int "MOST_TICKS" 12) rfl)
theorem Txt.c_Moves (T : Txt K mg) : Cls K (He.ga K "Moves") := He.cls_ok (T.fact 69 (f := .cls "Moves") rfl)
theorem Txt.k_Moves (T : Txt K mg) : Mk K (He.ga K "Moves") (He.ma K (He.ga K "Moves") "__init__") := He.mkr_ok (T.fact 70 (f := .mkr "Moves") rfl)
theorem Txt.a_Moves_moves (T : Txt K mg) : NoAttr K (He.ga K "Moves") "moves" := He.noat_ok (T.fact 71 (f := .noat "Moves" "moves") rfl)
theorem Txt.a_Moves_way (T : Txt K mg) : NoAttr K (He.ga K "Moves") "way" := He.noat_ok (T.fact 72 (f := .noat "Moves" "way") rfl)
theorem Txt.a_Moves_readers (T : Txt K mg) : NoAttr K (He.ga K "Moves") "readers" := He.noat_ok (T.fact 73 (f := .noat "Moves" "readers") rfl)
theorem Txt.m_Moves_shows (T : Txt K mg) : Meth K (He.ga K "Moves") "shows" (He.ma K (He.ga K "Moves") "shows") := He.meth_ok (T.fact 74 (f := .meth "Moves" "shows") rfl)
theorem Txt.c_Edge (T : Txt K mg) : Cls K (He.ga K "Edge") := He.cls_ok (T.fact 75 (f := .cls "Edge") rfl)
theorem Txt.k_Edge (T : Txt K mg) : Mk K (He.ga K "Edge") (He.ma K (He.ga K "Edge") "__init__") := He.mkr_ok (T.fact 76 (f := .mkr "Edge") rfl)
theorem Txt.a_Edge_begin (T : Txt K mg) : NoAttr K (He.ga K "Edge") "begin" := He.noat_ok (T.fact 77 (f := .noat "Edge" "begin") rfl)
theorem Txt.a_Edge_end (T : Txt K mg) : NoAttr K (He.ga K "Edge") "end" := He.noat_ok (T.fact 78 (f := .noat "Edge" "end") rfl)
theorem Txt.a_Edge_low (T : Txt K mg) : NoAttr K (He.ga K "Edge") "low" := He.noat_ok (T.fact 79 (f := .noat "Edge" "low") rfl)
theorem Txt.a_Edge_high (T : Txt K mg) : NoAttr K (He.ga K "Edge") "high" := He.noat_ok (T.fact 80 (f := .noat "Edge" "high") rfl)
theorem Txt.a_Edge_price (T : Txt K mg) : NoAttr K (He.ga K "Edge") "price" := He.noat_ok (T.fact 81 (f := .noat "Edge" "price") rfl)
theorem Txt.a_Edge_amount (T : Txt K mg) : NoAttr K (He.ga K "Edge") "amount" := He.noat_ok (T.fact 82 (f := .noat "Edge" "amount") rfl)
theorem Txt.c_Flow (T : Txt K mg) : Cls K (He.ga K "Flow") := He.cls_ok (T.fact 83 (f := .cls "Flow") rfl)
theorem Txt.k_Flow (T : Txt K mg) : Mk K (He.ga K "Flow") (He.ma K (He.ga K "Flow") "__init__") := He.mkr_ok (T.fact 84 (f := .mkr "Flow") rfl)
theorem Txt.a_Flow_many (T : Txt K mg) : NoAttr K (He.ga K "Flow") "many" := He.noat_ok (T.fact 85 (f := .noat "Flow" "many") rfl)
theorem Txt.a_Flow_edges (T : Txt K mg) : NoAttr K (He.ga K "Flow") "edges" := He.noat_ok (T.fact 86 (f := .noat "Flow" "edges") rfl)
theorem Txt.a_Flow_nodes (T : Txt K mg) : NoAttr K (He.ga K "Flow") "nodes" := He.noat_ok (T.fact 87 (f := .noat "Flow" "nodes") rfl)
theorem Txt.m_Flow_edge (T : Txt K mg) : Meth K (He.ga K "Flow") "edge" (He.ma K (He.ga K "Flow") "edge") := He.meth_ok (T.fact 88 (f := .meth "Flow" "edge") rfl)
theorem Txt.m_Flow_through (T : Txt K mg) : Meth K (He.ga K "Flow") "through" (He.ma K (He.ga K "Flow") "through") := He.meth_ok (T.fact 89 (f := .meth "Flow" "through") rfl)
theorem Txt.m_Flow_fill (T : Txt K mg) : Meth K (He.ga K "Flow") "fill" (He.ma K (He.ga K "Flow") "fill") := He.meth_ok (T.fact 90 (f := .meth "Flow" "fill") rfl)
theorem Txt.m_Flow_way (T : Txt K mg) : Meth K (He.ga K "Flow") "way" (He.ma K (He.ga K "Flow") "way") := He.meth_ok (T.fact 91 (f := .meth "Flow" "way") rfl)
theorem Txt.m_Flow_distances (T : Txt K mg) : Meth K (He.ga K "Flow") "distances" (He.ma K (He.ga K "Flow") "distances") := He.meth_ok (T.fact 92 (f := .meth "Flow" "distances") rfl)
theorem Txt.c_History (T : Txt K mg) : Cls K (He.ga K "History") := He.cls_ok (T.fact 93 (f := .cls "History") rfl)
theorem Txt.k_History (T : Txt K mg) : Mk K (He.ga K "History") (He.ma K (He.ga K "History") "__init__") := He.mkr_ok (T.fact 94 (f := .mkr "History") rfl)
theorem Txt.a_History_deals (T : Txt K mg) : NoAttr K (He.ga K "History") "deals" := He.noat_ok (T.fact 95 (f := .noat "History" "deals") rfl)
theorem Txt.a_History_moves (T : Txt K mg) : NoAttr K (He.ga K "History") "moves" := He.noat_ok (T.fact 96 (f := .noat "History" "moves") rfl)
theorem Txt.a_History_prices (T : Txt K mg) : NoAttr K (He.ga K "History") "prices" := He.noat_ok (T.fact 97 (f := .noat "History" "prices") rfl)
theorem Txt.m_History_shows (T : Txt K mg) : Meth K (He.ga K "History") "shows" (He.ma K (He.ga K "History") "shows") := He.meth_ok (T.fact 98 (f := .meth "History" "shows") rfl)
theorem Txt.c_Layers (T : Txt K mg) : Cls K (He.ga K "Layers") := He.cls_ok (T.fact 99 (f := .cls "Layers") rfl)
theorem Txt.k_Layers (T : Txt K mg) : Mk K (He.ga K "Layers") (He.ma K (He.ga K "Layers") "__init__") := He.mkr_ok (T.fact 100 (f := .mkr "Layers") rfl)
theorem Txt.a_Layers_names (T : Txt K mg) : NoAttr K (He.ga K "Layers") "names" := He.noat_ok (T.fact 101 (f := .noat "Layers" "names") rfl)
theorem Txt.a_Layers_history (T : Txt K mg) : NoAttr K (He.ga K "Layers") "history" := He.noat_ok (T.fact 102 (f := .noat "Layers" "history") rfl)
theorem Txt.a_Layers_many (T : Txt K mg) : NoAttr K (He.ga K "Layers") "many" := He.noat_ok (T.fact 103 (f := .noat "Layers" "many") rfl)
theorem Txt.a_Layers_flow (T : Txt K mg) : NoAttr K (He.ga K "Layers") "flow" := He.noat_ok (T.fact 104 (f := .noat "Layers" "flow") rfl)
theorem Txt.a_Layers_big (T : Txt K mg) : NoAttr K (He.ga K "Layers") "big" := He.noat_ok (T.fact 105 (f := .noat "Layers" "big") rfl)
theorem Txt.m_Layers_layer (T : Txt K mg) : Meth K (He.ga K "Layers") "layer" (He.ma K (He.ga K "Layers") "layer") := He.meth_ok (T.fact 106 (f := .meth "Layers" "layer") rfl)
theorem Txt.m_Layers_loads (T : Txt K mg) : Meth K (He.ga K "Layers") "loads" (He.ma K (He.ga K "Layers") "loads") := He.meth_ok (T.fact 107 (f := .meth "Layers" "loads") rfl)
theorem Txt.m_Layers_prices (T : Txt K mg) : Meth K (He.ga K "Layers") "prices" (He.ma K (He.ga K "Layers") "prices") := He.meth_ok (T.fact 108 (f := .meth "Layers" "prices") rfl)
theorem Txt.c_Order (T : Txt K mg) : Cls K (He.ga K "Order") := He.cls_ok (T.fact 109 (f := .cls "Order") rfl)
theorem Txt.k_Order (T : Txt K mg) : Mk K (He.ga K "Order") (He.ma K (He.ga K "Order") "__init__") := He.mkr_ok (T.fact 110 (f := .mkr "Order") rfl)
theorem Txt.a_Order_moves (T : Txt K mg) : NoAttr K (He.ga K "Order") "moves" := He.noat_ok (T.fact 111 (f := .noat "Order" "moves") rfl)
theorem Txt.a_Order_parts (T : Txt K mg) : NoAttr K (He.ga K "Order") "parts" := He.noat_ok (T.fact 112 (f := .noat "Order" "parts") rfl)
theorem Txt.m_Order_shows (T : Txt K mg) : Meth K (He.ga K "Order") "shows" (He.ma K (He.ga K "Order") "shows") := He.meth_ok (T.fact 113 (f := .meth "Order" "shows") rfl)
theorem Txt.m_Order___bool__ (T : Txt K mg) : Meth K (He.ga K "Order") "__bool__" (He.ma K (He.ga K "Order") "__bool__") := He.meth_ok (T.fact 114 (f := .meth "Order" "__bool__") rfl)
theorem Txt.c_Trails (T : Txt K mg) : Cls K (He.ga K "Trails") := He.cls_ok (T.fact 115 (f := .cls "Trails") rfl)
theorem Txt.k_Trails (T : Txt K mg) : Mk K (He.ga K "Trails") (He.ma K (He.ga K "Trails") "__init__") := He.mkr_ok (T.fact 116 (f := .mkr "Trails") rfl)
theorem Txt.a_Trails_now (T : Txt K mg) : NoAttr K (He.ga K "Trails") "now" := He.noat_ok (T.fact 117 (f := .noat "Trails" "now") rfl)
theorem Txt.a_Trails_loads (T : Txt K mg) : NoAttr K (He.ga K "Trails") "loads" := He.noat_ok (T.fact 118 (f := .noat "Trails" "loads") rfl)
theorem Txt.a_Trails_caps (T : Txt K mg) : NoAttr K (He.ga K "Trails") "caps" := He.noat_ok (T.fact 119 (f := .noat "Trails" "caps") rfl)
theorem Txt.a_Trails_rest (T : Txt K mg) : NoAttr K (He.ga K "Trails") "rest" := He.noat_ok (T.fact 120 (f := .noat "Trails" "rest") rfl)
theorem Txt.a_Trails_done (T : Txt K mg) : NoAttr K (He.ga K "Trails") "done" := He.noat_ok (T.fact 121 (f := .noat "Trails" "done") rfl)
theorem Txt.m_Trails_make (T : Txt K mg) : Meth K (He.ga K "Trails") "make" (He.ma K (He.ga K "Trails") "make") := He.meth_ok (T.fact 122 (f := .meth "Trails" "make") rfl)
theorem Txt.m_Trails_into (T : Txt K mg) : Meth K (He.ga K "Trails") "into" (He.ma K (He.ga K "Trails") "into") := He.meth_ok (T.fact 123 (f := .meth "Trails" "into") rfl)
theorem Txt.m_Trails_excess (T : Txt K mg) : Meth K (He.ga K "Trails") "excess" (He.ma K (He.ga K "Trails") "excess") := He.meth_ok (T.fact 124 (f := .meth "Trails" "excess") rfl)
theorem Txt.m_Trails_trail (T : Txt K mg) : Meth K (He.ga K "Trails") "trail" (He.ma K (He.ga K "Trails") "trail") := He.meth_ok (T.fact 125 (f := .meth "Trails" "trail") rfl)
theorem Txt.m_Trails_loop (T : Txt K mg) : Meth K (He.ga K "Trails") "loop" (He.ma K (He.ga K "Trails") "loop") := He.meth_ok (T.fact 126 (f := .meth "Trails" "loop") rfl)
theorem Txt.m_Trails_walk (T : Txt K mg) : Meth K (He.ga K "Trails") "walk" (He.ma K (He.ga K "Trails") "walk") := He.meth_ok (T.fact 127 (f := .meth "Trails" "walk") rfl)
theorem Txt.f_Good_bool (T : Txt K mg) : ∃ fd, FunD K "__bool__" "Good.__bool__" (defArgs s_Good_bool) (defBody s_Good_bool) (defScope s_Good_bool) [] [] (He.fAd K ("Order", some "__bool__")) fd := T.c.def_ 0 (d := d_Good_bool) rfl
theorem Txt.f_is_word (T : Txt K mg) : ∃ fd, FunD K "is_word" "is_word" (defArgs s_is_word) (defBody s_is_word) (defScope s_is_word) [] [] (He.fAd K ("is_word", none)) fd := T.c.def_ 1 (d := d_is_word) rfl
theorem Txt.f_is_natural (T : Txt K mg) : ∃ fd, FunD K "is_natural" "is_natural" (defArgs s_is_natural) (defBody s_is_natural) (defScope s_is_natural) [V.int 60] [] (He.fAd K ("is_natural", none)) fd := T.c.def_ 2 (d := d_is_natural) rfl
theorem Txt.f_check_deal (T : Txt K mg) : ∃ fd, FunD K "check_deal" "check_deal" (defArgs s_check_deal) (defBody s_check_deal) (defScope s_check_deal) [] [] (He.fAd K ("check_deal", none)) fd := T.c.def_ 3 (d := d_check_deal) rfl
theorem Txt.f_check_bounds (T : Txt K mg) : ∃ fd, FunD K "check_bounds" "check_bounds" (defArgs s_check_bounds) (defBody s_check_bounds) (defScope s_check_bounds) [] [] (He.fAd K ("check_bounds", none)) fd := T.c.def_ 4 (d := d_check_bounds) rfl
theorem Txt.f_loads_of (T : Txt K mg) : ∃ fd, FunD K "loads_of" "loads_of" (defArgs s_loads_of) (defBody s_loads_of) (defScope s_loads_of) [] [] (He.fAd K ("loads_of", none)) fd := T.c.def_ 5 (d := d_loads_of) rfl
theorem Txt.f_all_readers (T : Txt K mg) : ∃ fd, FunD K "all_readers" "all_readers" (defArgs s_all_readers) (defBody s_all_readers) (defScope s_all_readers) [] [] (He.fAd K ("all_readers", none)) fd := T.c.def_ 6 (d := d_all_readers) rfl
theorem Txt.f_bound_of (T : Txt K mg) : ∃ fd, FunD K "bound_of" "bound_of" (defArgs s_bound_of) (defBody s_bound_of) (defScope s_bound_of) [] [] (He.fAd K ("bound_of", none)) fd := T.c.def_ 7 (d := d_bound_of) rfl
theorem Txt.f_is_possible (T : Txt K mg) : ∃ fd, FunD K "is_possible" "is_possible" (defArgs s_is_possible) (defBody s_is_possible) (defScope s_is_possible) [] [] (He.fAd K ("is_possible", none)) fd := T.c.def_ 8 (d := d_is_possible) rfl
theorem Txt.f_Moves_init (T : Txt K mg) : ∃ fd, FunD K "__init__" "Moves.__init__" (defArgs s_Moves_init) (defBody s_Moves_init) (defScope s_Moves_init) [] [] (He.fAd K ("Moves", some "__init__")) fd := T.c.def_ 9 (d := d_Moves_init) rfl
theorem Txt.f_Moves_shows (T : Txt K mg) : ∃ fd, FunD K "shows" "Moves.shows" (defArgs s_Moves_shows) (defBody s_Moves_shows) (defScope s_Moves_shows) [] [] (He.fAd K ("Moves", some "shows")) fd := T.c.def_ 10 (d := d_Moves_shows) rfl
theorem Txt.f_are_distinct (T : Txt K mg) : ∃ fd, FunD K "are_distinct" "are_distinct" (defArgs s_are_distinct) (defBody s_are_distinct) (defScope s_are_distinct) [] [] (He.fAd K ("are_distinct", none)) fd := T.c.def_ 11 (d := d_are_distinct) rfl
theorem Txt.f_moved (T : Txt K mg) : ∃ fd, FunD K "moved" "moved" (defArgs s_moved) (defBody s_moved) (defScope s_moved) [] [] (He.fAd K ("moved", none)) fd := T.c.def_ 12 (d := d_moved) rfl
theorem Txt.f_barred (T : Txt K mg) : ∃ fd, FunD K "barred" "barred" (defArgs s_barred) (defBody s_barred) (defScope s_barred) [] [] (He.fAd K ("barred", none)) fd := T.c.def_ 13 (d := d_barred) rfl
theorem Txt.f_check_change (T : Txt K mg) : ∃ fd, FunD K "check_change" "check_change" (defArgs s_check_change) (defBody s_check_change) (defScope s_check_change) [] [] (He.fAd K ("check_change", none)) fd := T.c.def_ 14 (d := d_check_change) rfl
theorem Txt.f_new_loads (T : Txt K mg) : ∃ fd, FunD K "new_loads" "new_loads" (defArgs s_new_loads) (defBody s_new_loads) (defScope s_new_loads) [] [] (He.fAd K ("new_loads", none)) fd := T.c.def_ 15 (d := d_new_loads) rfl
theorem Txt.f_least_moves (T : Txt K mg) : ∃ fd, FunD K "least_moves" "least_moves" (defArgs s_least_moves) (defBody s_least_moves) (defScope s_least_moves) [] [] (He.fAd K ("least_moves", none)) fd := T.c.def_ 16 (d := d_least_moves) rfl
theorem Txt.f_moves_between (T : Txt K mg) : ∃ fd, FunD K "moves_between" "moves_between" (defArgs s_moves_between) (defBody s_moves_between) (defScope s_moves_between) [] [] (He.fAd K ("moves_between", none)) fd := T.c.def_ 17 (d := d_moves_between) rfl
theorem Txt.f_Edge_init (T : Txt K mg) : ∃ fd, FunD K "__init__" "Edge.__init__" (defArgs s_Edge_init) (defBody s_Edge_init) (defScope s_Edge_init) [] [] (He.fAd K ("Edge", some "__init__")) fd := T.c.def_ 18 (d := d_Edge_init) rfl
theorem Txt.f_Flow_init (T : Txt K mg) : ∃ fd, FunD K "__init__" "Flow.__init__" (defArgs s_Flow_init) (defBody s_Flow_init) (defScope s_Flow_init) [] [] (He.fAd K ("Flow", some "__init__")) fd := T.c.def_ 19 (d := d_Flow_init) rfl
theorem Txt.f_Flow_edge (T : Txt K mg) : ∃ fd, FunD K "edge" "Flow.edge" (defArgs s_Flow_edge) (defBody s_Flow_edge) (defScope s_Flow_edge) [] [] (He.fAd K ("Flow", some "edge")) fd := T.c.def_ 20 (d := d_Flow_edge) rfl
theorem Txt.f_Flow_through (T : Txt K mg) : ∃ fd, FunD K "through" "Flow.through" (defArgs s_Flow_through) (defBody s_Flow_through) (defScope s_Flow_through) [] [] (He.fAd K ("Flow", some "through")) fd := T.c.def_ 21 (d := d_Flow_through) rfl
theorem Txt.f_Flow_fill (T : Txt K mg) : ∃ fd, FunD K "fill" "Flow.fill" (defArgs s_Flow_fill) (defBody s_Flow_fill) (defScope s_Flow_fill) [] [] (He.fAd K ("Flow", some "fill")) fd := T.c.def_ 22 (d := d_Flow_fill) rfl
theorem Txt.f_Flow_way (T : Txt K mg) : ∃ fd, FunD K "way" "Flow.way" (defArgs s_Flow_way) (defBody s_Flow_way) (defScope s_Flow_way) [] [] (He.fAd K ("Flow", some "way")) fd := T.c.def_ 23 (d := d_Flow_way) rfl
theorem Txt.f_Flow_distances (T : Txt K mg) : ∃ fd, FunD K "distances" "Flow.distances" (defArgs s_Flow_distances) (defBody s_Flow_distances) (defScope s_Flow_distances) [] [] (He.fAd K ("Flow", some "distances")) fd := T.c.def_ 24 (d := d_Flow_distances) rfl
theorem Txt.f_better (T : Txt K mg) : ∃ fd, FunD K "better" "better" (defArgs s_better) (defBody s_better) (defScope s_better) [] [] (He.fAd K ("better", none)) fd := T.c.def_ 25 (d := d_better) rfl
theorem Txt.f_check_history (T : Txt K mg) : ∃ fd, FunD K "check_history" "check_history" (defArgs s_check_history) (defBody s_check_history) (defScope s_check_history) [] [] (He.fAd K ("check_history", none)) fd := T.c.def_ 26 (d := d_check_history) rfl
theorem Txt.f_names_of (T : Txt K mg) : ∃ fd, FunD K "names_of" "names_of" (defArgs s_names_of) (defBody s_names_of) (defScope s_names_of) [] [] (He.fAd K ("names_of", none)) fd := T.c.def_ 27 (d := d_names_of) rfl
theorem Txt.f_cost (T : Txt K mg) : ∃ fd, FunD K "cost" "cost" (defArgs s_cost) (defBody s_cost) (defScope s_cost) [] [] (He.fAd K ("cost", none)) fd := T.c.def_ 28 (d := d_cost) rfl
theorem Txt.f_cheapest_path (T : Txt K mg) : ∃ fd, FunD K "cheapest_path" "cheapest_path" (defArgs s_cheapest_path) (defBody s_cheapest_path) (defScope s_cheapest_path) [] [] (He.fAd K ("cheapest_path", none)) fd := T.c.def_ 29 (d := d_cheapest_path) rfl
theorem Txt.f_bound_by (T : Txt K mg) : ∃ fd, FunD K "bound_by" "bound_by" (defArgs s_bound_by) (defBody s_bound_by) (defScope s_bound_by) [] [] (He.fAd K ("bound_by", none)) fd := T.c.def_ 30 (d := d_bound_by) rfl
theorem Txt.f_History_init (T : Txt K mg) : ∃ fd, FunD K "__init__" "History.__init__" (defArgs s_History_init) (defBody s_History_init) (defScope s_History_init) [] [] (He.fAd K ("History", some "__init__")) fd := T.c.def_ 31 (d := d_History_init) rfl
theorem Txt.f_History_shows (T : Txt K mg) : ∃ fd, FunD K "shows" "History.shows" (defArgs s_History_shows) (defBody s_History_shows) (defScope s_History_shows) [] [] (He.fAd K ("History", some "shows")) fd := T.c.def_ 32 (d := d_History_shows) rfl
theorem Txt.f_is_within (T : Txt K mg) : ∃ fd, FunD K "is_within" "is_within" (defArgs s_is_within) (defBody s_is_within) (defScope s_is_within) [] [] (He.fAd K ("is_within", none)) fd := T.c.def_ 33 (d := d_is_within) rfl
theorem Txt.f_Layers_init (T : Txt K mg) : ∃ fd, FunD K "__init__" "Layers.__init__" (defArgs s_Layers_init) (defBody s_Layers_init) (defScope s_Layers_init) [] [] (He.fAd K ("Layers", some "__init__")) fd := T.c.def_ 34 (d := d_Layers_init) rfl
theorem Txt.f_Layers_layer (T : Txt K mg) : ∃ fd, FunD K "layer" "Layers.layer" (defArgs s_Layers_layer) (defBody s_Layers_layer) (defScope s_Layers_layer) [] [] (He.fAd K ("Layers", some "layer")) fd := T.c.def_ 35 (d := d_Layers_layer) rfl
theorem Txt.f_Layers_loads (T : Txt K mg) : ∃ fd, FunD K "loads" "Layers.loads" (defArgs s_Layers_loads) (defBody s_Layers_loads) (defScope s_Layers_loads) [] [] (He.fAd K ("Layers", some "loads")) fd := T.c.def_ 36 (d := d_Layers_loads) rfl
theorem Txt.f_Layers_prices (T : Txt K mg) : ∃ fd, FunD K "prices" "Layers.prices" (defArgs s_Layers_prices) (defBody s_Layers_prices) (defScope s_Layers_prices) [] [] (He.fAd K ("Layers", some "prices")) fd := T.c.def_ 37 (d := d_Layers_prices) rfl
theorem Txt.f_least_history (T : Txt K mg) : ∃ fd, FunD K "least_history" "least_history" (defArgs s_least_history) (defBody s_least_history) (defScope s_least_history) [] [] (He.fAd K ("least_history", none)) fd := T.c.def_ 38 (d := d_least_history) rfl
theorem Txt.f_check_caps (T : Txt K mg) : ∃ fd, FunD K "check_caps" "check_caps" (defArgs s_check_caps) (defBody s_check_caps) (defScope s_check_caps) [] [] (He.fAd K ("check_caps", none)) fd := T.c.def_ 39 (d := d_check_caps) rfl
theorem Txt.f_wanted (T : Txt K mg) : ∃ fd, FunD K "wanted" "wanted" (defArgs s_wanted) (defBody s_wanted) (defScope s_wanted) [] [] (He.fAd K ("wanted", none)) fd := T.c.def_ 40 (d := d_wanted) rfl
theorem Txt.f_parts_of (T : Txt K mg) : ∃ fd, FunD K "parts_of" "parts_of" (defArgs s_parts_of) (defBody s_parts_of) (defScope s_parts_of) [] [] (He.fAd K ("parts_of", none)) fd := T.c.def_ 41 (d := d_parts_of) rfl
theorem Txt.f_stuck_parts (T : Txt K mg) : ∃ fd, FunD K "stuck_parts" "stuck_parts" (defArgs s_stuck_parts) (defBody s_stuck_parts) (defScope s_stuck_parts) [] [] (He.fAd K ("stuck_parts", none)) fd := T.c.def_ 42 (d := d_stuck_parts) rfl
theorem Txt.f_Order_init (T : Txt K mg) : ∃ fd, FunD K "__init__" "Order.__init__" (defArgs s_Order_init) (defBody s_Order_init) (defScope s_Order_init) [] [] (He.fAd K ("Order", some "__init__")) fd := T.c.def_ 43 (d := d_Order_init) rfl
theorem Txt.f_Order_shows (T : Txt K mg) : ∃ fd, FunD K "shows" "Order.shows" (defArgs s_Order_shows) (defBody s_Order_shows) (defScope s_Order_shows) [] [] (He.fAd K ("Order", some "shows")) fd := T.c.def_ 44 (d := d_Order_shows) rfl
theorem Txt.f_Trails_init (T : Txt K mg) : ∃ fd, FunD K "__init__" "Trails.__init__" (defArgs s_Trails_init) (defBody s_Trails_init) (defScope s_Trails_init) [] [] (He.fAd K ("Trails", some "__init__")) fd := T.c.def_ 45 (d := d_Trails_init) rfl
theorem Txt.f_Trails_make (T : Txt K mg) : ∃ fd, FunD K "make" "Trails.make" (defArgs s_Trails_make) (defBody s_Trails_make) (defScope s_Trails_make) [] [] (He.fAd K ("Trails", some "make")) fd := T.c.def_ 46 (d := d_Trails_make) rfl
theorem Txt.f_Trails_into (T : Txt K mg) : ∃ fd, FunD K "into" "Trails.into" (defArgs s_Trails_into) (defBody s_Trails_into) (defScope s_Trails_into) [] [] (He.fAd K ("Trails", some "into")) fd := T.c.def_ 47 (d := d_Trails_into) rfl
theorem Txt.f_Trails_excess (T : Txt K mg) : ∃ fd, FunD K "excess" "Trails.excess" (defArgs s_Trails_excess) (defBody s_Trails_excess) (defScope s_Trails_excess) [] [] (He.fAd K ("Trails", some "excess")) fd := T.c.def_ 48 (d := d_Trails_excess) rfl
theorem Txt.f_Trails_trail (T : Txt K mg) : ∃ fd, FunD K "trail" "Trails.trail" (defArgs s_Trails_trail) (defBody s_Trails_trail) (defScope s_Trails_trail) [] [] (He.fAd K ("Trails", some "trail")) fd := T.c.def_ 49 (d := d_Trails_trail) rfl
theorem Txt.f_Trails_loop (T : Txt K mg) : ∃ fd, FunD K "loop" "Trails.loop" (defArgs s_Trails_loop) (defBody s_Trails_loop) (defScope s_Trails_loop) [] [] (He.fAd K ("Trails", some "loop")) fd := T.c.def_ 50 (d := d_Trails_loop) rfl
theorem Txt.f_Trails_walk (T : Txt K mg) : ∃ fd, FunD K "walk" "Trails.walk" (defArgs s_Trails_walk) (defBody s_Trails_walk) (defScope s_Trails_walk) [] [] (He.fAd K ("Trails", some "walk")) fd := T.c.def_ 51 (d := d_Trails_walk) rfl
theorem Txt.f_hand_over (T : Txt K mg) : ∃ fd, FunD K "hand_over" "hand_over" (defArgs s_hand_over) (defBody s_hand_over) (defScope s_hand_over) [] [] (He.fAd K ("hand_over", none)) fd := T.c.def_ 52 (d := d_hand_over) rfl
theorem Txt.f_law_number (T : Txt K mg) : ∃ fd, FunD K "_law_number" "_law_number" (defArgs s_law_number) (defBody s_law_number) (defScope s_law_number) [] [] (He.fAd K ("_law_number", none)) fd := T.c.def_ 53 (d := d_law_number) rfl
theorem Txt.f_law_take (T : Txt K mg) : ∃ fd, FunD K "_law_take" "_law_take" (defArgs s_law_take) (defBody s_law_take) (defScope s_law_take) [] [] (He.fAd K ("_law_take", none)) fd := T.c.def_ 54 (d := d_law_take) rfl
theorem Txt.f_law_pick (T : Txt K mg) : ∃ fd, FunD K "_law_pick" "_law_pick" (defArgs s_law_pick) (defBody s_law_pick) (defScope s_law_pick) [] [] (He.fAd K ("_law_pick", none)) fd := T.c.def_ 55 (d := d_law_pick) rfl
theorem Txt.f_law_deal (T : Txt K mg) : ∃ fd, FunD K "_law_deal" "_law_deal" (defArgs s_law_deal) (defBody s_law_deal) (defScope s_law_deal) [] [] (He.fAd K ("_law_deal", none)) fd := T.c.def_ 56 (d := d_law_deal) rfl
theorem Txt.f_law_bounds (T : Txt K mg) : ∃ fd, FunD K "_law_bounds" "_law_bounds" (defArgs s_law_bounds) (defBody s_law_bounds) (defScope s_law_bounds) [] [] (He.fAd K ("_law_bounds", none)) fd := T.c.def_ 57 (d := d_law_bounds) rfl
theorem Txt.f_law_moves (T : Txt K mg) : ∃ fd, FunD K "_law_moves" "_law_moves" (defArgs s_law_moves) (defBody s_law_moves) (defScope s_law_moves) [] [] (He.fAd K ("_law_moves", none)) fd := T.c.def_ 58 (d := d_law_moves) rfl
theorem Txt.f_law_wider (T : Txt K mg) : ∃ fd, FunD K "_law_wider" "_law_wider" (defArgs s_law_wider) (defBody s_law_wider) (defScope s_law_wider) [] [] (He.fAd K ("_law_wider", none)) fd := T.c.def_ 59 (d := d_law_wider) rfl
theorem Txt.f_law_handed (T : Txt K mg) : ∃ fd, FunD K "_law_handed" "_law_handed" (defArgs s_law_handed) (defBody s_law_handed) (defScope s_law_handed) [] [] (He.fAd K ("_law_handed", none)) fd := T.c.def_ 60 (d := d_law_handed) rfl
theorem Txt.f_law (T : Txt K mg) : ∃ fd, FunD K "law" "law" (defArgs s_law) (defBody s_law) (defScope s_law) [] [] (He.fAd K ("law", none)) fd := T.c.def_ 61 (d := d_law) rfl
end
end K55

set_option Elab.async false
set_option linter.all false
set_option maxRecDepth 100000
set_option maxHeartbeats 0
namespace K55
open PySem PySem.Spec PyProof.Rows L2
def nm1 : List PySem.Str := ["Evidence", "Good", "Bad", "BrokerError", "BadDeal", "BadBounds", "NoDeal", "is_word", "MOST_LANES", "MOST_READERS_deals", "is_natural", "check_deal", "check_bounds", "loads_of", "all_readers"]
def nm2 : List PySem.Str := ["bound_of", "is_possible", "Moves", "are_distinct", "moved", "barred", "check_change", "new_loads", "least_moves", "moves_between", "Edge", "Flow", "better", "MOST_TICKS", "check_history"]
def nm3 : List PySem.Str := ["names_of", "cost", "cheapest_path", "bound_by", "History", "is_within", "Layers", "least_history", "MOST_READERS_handing", "check_caps", "wanted", "parts_of", "stuck_parts", "Order", "Barred"]
def nm4 : List PySem.Str := ["Trails", "hand_over", "finish", "_law_number", "_law_take", "_law_pick", "_law_question", "_law_deal", "_law_bounds", "_law_moves", "_law_wider", "_law_handed"]
def names : List PySem.Str := nm1 ++ nm2 ++ nm3 ++ nm4
/-! ### the head: the facts of the defs, and those of NoDeal -/
abbrev AlN : Type := He.AlD × (FnC × Bool)
def frN (n : Nat) (g : Addr → Option Obj) : PySem.W.Frag := He.frG g (cStatics :: He.asD g n)
def obsN (n : Nat) (g : Addr → Option Obj) : AlN := (He.obsD fa fn (frN n g), (fnC (frN n g), ndB (frN n g)))
def valN : AlN := (He.valD fn, (valC, true))
structure SaysN (K : PySem.W.Frag) : Prop where
  d : He.SaysD fa fn K
  nd : NdF K
theorem saysN_of {n : Nat} {g : Addr → Option Obj} (e : obsN n g = valN) : SaysN (frN n g) :=
  ⟨congrArg (fun z : AlN => z.1) e, congrArg (fun z : AlN => z.2.1) e, congrArg (fun z : AlN => z.2.2) e⟩
def hookN (n : Nat) : PySem.W.Hook where
  α := AlN
  obs := fun s => obsN n s.heap.get?
  val := fun _ => valN
  says := fun _ h => ∃ K : PySem.W.Frag, K.In h ∧ SaysN K
  of := fun _ _ e => ⟨_, He.frG_in, saysN_of e⟩
  keeps := fun _ _ _ ⟨K, hK, c⟩ k => ⟨K, PySem.W.Frag.In.keeps hK k, c⟩
theorem obsN_eq {n : Nat} {g : Addr → Option Obj} {s : Shared} (h : ∀ a, g a = s.heap.get? a) : obsN n g = (hookN n).obs s := by
  have e : g = s.heap.get? := funext h
  rw [e] <;> rfl
abbrev R : PySem.W.OpenRow := PySem.W.OpenLaw.row PySem.Challenge.rw_allbrokers_k55_whole_histories_and_moves
abbrev hk : PySem.W.Hook := hookN 5
def ob (s : PySem.W.SharedT) : AlN := obsN 5 (HandSHeadRun.getT s)
theorem ob_eq (s : PySem.W.SharedT) : ob s = hk.obs s.abs := obsN_eq (HandSHeadRun.getT_eq s)
theorem run (w : World) : HandSHeadRun.RunEq R (PySem.W.view R.prog [66]) hk ob 20000 names w := by
  intro os
  kernel_rfl
end K55

/-! Flows as cheap as can be: the plain law of Flow.way, Flow.fill, Flow.distances (no program in sight). -/
set_option autoImplicit false
set_option linter.all false
namespace K55M
/-! ### sums over lists -/
def su {L : Type} (ls : List L) (g : L → Int) : Int := (ls.map g).sum
theorem su_nil {L : Type} (g : L → Int) : su [] g = 0 := rfl
theorem su_cons {L : Type} (x : L) (ls : List L) (g : L → Int) : su (x :: ls) g = g x + su ls g := by simp [su]
theorem su_append {L : Type} (as bs : List L) (g : L → Int) : su (as ++ bs) g = su as g + su bs g := by simp [su, List.sum_append]
theorem su_add {L : Type} (ls : List L) (g h : L → Int) : su ls (fun x => g x + h x) = su ls g + su ls h := by
  induction ls with
  | nil => rfl
  | cons x r ih => rw [su_cons, su_cons, su_cons, ih]; omega
theorem su_sub {L : Type} (ls : List L) (g h : L → Int) : su ls (fun x => g x - h x) = su ls g - su ls h := by
  induction ls with
  | nil => rfl
  | cons x r ih => rw [su_cons, su_cons, su_cons, ih]; omega
theorem su_mul {L : Type} (ls : List L) (k : Int) (g : L → Int) : su ls (fun x => k * g x) = k * su ls g := by
  induction ls with
  | nil => simp [su]
  | cons x r ih => rw [su_cons, su_cons, ih, Int.mul_add]
theorem su_le {L : Type} (ls : List L) (g h : L → Int) (H : ∀ x ∈ ls, g x ≤ h x) : su ls g ≤ su ls h := by
  induction ls with
  | nil => exact Int.le_refl _
  | cons x r ih =>
    rw [su_cons, su_cons]
    have h1 := H x List.mem_cons_self
    have h2 := ih fun y hy => H y (List.mem_cons_of_mem _ hy)
    omega
theorem su_congr {L : Type} (ls : List L) (g h : L → Int) (H : ∀ x ∈ ls, g x = h x) : su ls g = su ls h := by
  induction ls with
  | nil => rfl
  | cons x r ih => rw [su_cons, su_cons, H x List.mem_cons_self, ih fun y hy => H y (List.mem_cons_of_mem _ hy)]
theorem su_nonneg {L : Type} (ls : List L) (g : L → Int) (H : ∀ x ∈ ls, 0 ≤ g x) : 0 ≤ su ls g := by
  induction ls with
  | nil => exact Int.le_refl _
  | cons x r ih =>
    rw [su_cons]
    have h1 := H x List.mem_cons_self
    have h2 := ih fun y hy => H y (List.mem_cons_of_mem _ hy)
    omega
theorem su_zero {L : Type} (ls : List L) : su ls (fun _ => 0) = 0 := by
  induction ls with
  | nil => rfl
  | cons x r ih => rw [su_cons, ih]; rfl
/-- a sum of what is not negative that is not positive: all are nought -/
theorem su_all_zero {L : Type} (ls : List L) (g : L → Int) (H : ∀ x ∈ ls, 0 ≤ g x) (h0 : su ls g ≤ 0) : ∀ x ∈ ls, g x = 0 := by
  induction ls with
  | nil => intro x hx; cases hx
  | cons y r ih =>
    rw [su_cons] at h0
    have h1 := H y List.mem_cons_self
    have h2 := su_nonneg r g fun z hz => H z (List.mem_cons_of_mem _ hz)
    intro x hx
    rcases List.mem_cons.mp hx with e | hx
    · rw [e]; omega
    · exact ih (fun z hz => H z (List.mem_cons_of_mem _ hz)) (by omega) x hx
theorem su_lt {L : Type} (ls : List L) (g h : L → Int) (H : ∀ x ∈ ls, g x ≤ h x) (y : L) (hy : y ∈ ls) (hlt : g y < h y) : su ls g < su ls h := by
  induction ls with
  | nil => cases hy
  | cons x r ih =>
    rw [su_cons, su_cons]
    have h1 := H x List.mem_cons_self
    rcases List.mem_cons.mp hy with e | hy
    · subst e
      have h2 := su_le r g h fun z hz => H z (List.mem_cons_of_mem _ hz)
      omega
    · have h2 := ih (fun z hz => H z (List.mem_cons_of_mem _ hz)) hy
      omega
/-- changed at one place of a list without twice the same -/
theorem su_upd {L : Type} [DecidableEq L] (ls : List L) (nd : ls.Nodup) (i : L) (hi : i ∈ ls) (g : L → Int) (y : Int) : su ls (fun x => if x = i then y else g x) = su ls g - g i + y := by
  induction ls with
  | nil => cases hi
  | cons x r ih =>
    obtain ⟨h1, h2⟩ := List.nodup_cons.mp nd
    rw [su_cons, su_cons]
    by_cases e : x = i
    · subst e
      rw [if_pos rfl, su_congr r _ g fun z hz => if_neg fun e => h1 (by rw [← e]; exact hz)]
      omega
    · have hi' : i ∈ r := (List.mem_cons.mp hi).resolve_left fun z => e z.symm
      rw [if_neg e, ih h2 hi']
      omega

/-! ### the net -/
structure Net (N L : Type) where
  bg : L → N
  en : L → N
  lo : L → Int
  hi : L → Int
  pr : L → Int
  big : Int
section
variable {N L : Type} [DecidableEq N] [DecidableEq L]
/-- an arc: an edge, walked along (true) or against its direction -/
abbrev Arc (L : Type) := L × Bool
def Net.frm (G : Net N L) (a : Arc L) : N := if a.2 then G.bg a.1 else G.en a.1
def Net.to (G : Net N L) (a : Arc L) : N := if a.2 then G.en a.1 else G.bg a.1
/-- what is left -/
def Net.res (G : Net N L) (f : L → Int) (a : Arc L) : Prop := if a.2 then f a.1 < G.hi a.1 else 0 < f a.1
/-- its price now -/
def Net.cost (G : Net N L) (f : L → Int) (a : Arc L) : Int := if a.2 then G.pr a.1 - (if f a.1 < G.lo a.1 then G.big else 0) else (if f a.1 ≤ G.lo a.1 then G.big else 0) - G.pr a.1
/-- a potential -/
def Net.Feas (G : Net N L) (ls : List L) (f : L → Int) (p : N → Int) : Prop := ∀ a : Arc L, a.1 ∈ ls → G.res f a → p (G.to a) ≤ p (G.frm a) + G.cost f a
abbrev Fnd (N L : Type) := N → Option (Int × Option (Arc L))
inductive Anc (G : Net N L) (src : N) (F : Fnd N L) : N → Nat → Prop
  | base : Anc G src F src 0
  | step {v : N} {d : Int} {a : Arc L} {n : Nat} (hne : v ≠ src) (h : F v = some (d, some a)) (ih : Anc G src F (G.frm a) n) : Anc G src F v (n + 1)
/-- what holds of the ways found so far -/
structure BF (G : Net N L) (ls : List L) (f : L → Int) (p : N → Int) (src : N) (F : Fnd N L) : Prop where
  s0 : F src = some (0, none)
  par : ∀ v d q, F v = some (d, q) → v ≠ src → ∃ a : Arc L, q = some a ∧ a.1 ∈ ls ∧ G.res f a ∧ G.to a = v ∧ ∃ du pu, F (G.frm a) = some (du, pu) ∧ du + G.cost f a ≤ d
  low : ∀ v d q, F v = some (d, q) → p v - p src ≤ d
  anc : ∀ v d q, F v = some (d, q) → ∃ n, Anc G src F v n
/-- a way to a node, if it is cheaper -/
def Net.better (G : Net N L) (f : L → Int) (F : Fnd N L) (a : Arc L) : Bool × Fnd N L :=
  match F (G.frm a) with
  | none => (false, F)
  | some (du, _) => match F (G.to a) with
    | some (dv, _) => if dv ≤ du + G.cost f a then (false, F) else (true, fun v => if v = G.to a then some (du + G.cost f a, some a) else F v)
    | none => (true, fun v => if v = G.to a then some (du + G.cost f a, some a) else F v)
variable {G : Net N L} {ls : List L} {f : L → Int} {p : N → Int} {src : N} {F : Fnd N L}
theorem BF.start : BF G ls f p src (fun v => if v = src then some (0, none) else none) where
  s0 := if_pos rfl
  par := fun v d q h hv => by rw [if_neg hv] at h; cases h
  low := fun v d q h => by
    by_cases e : v = src
    · subst e; rw [if_pos rfl] at h; cases h; omega
    · rw [if_neg e] at h; cases h
  anc := fun v d q h => by
    by_cases e : v = src
    · subst e; exact ⟨0, .base⟩
    · rw [if_neg e] at h; cases h
/-- found a shorter way -/
theorem BF.put (B : BF G ls f p src F) (hp : G.Feas ls f p) {a : Arc L} (ha : a.1 ∈ ls) (hr : G.res f a) {du : Int} {pu : Option (Arc L)} (hu : F (G.frm a) = some (du, pu))
    (hv : F (G.to a) = none ∨ ∃ dv pv, F (G.to a) = some (dv, pv) ∧ du + G.cost f a < dv) : BF G ls f p src (fun v => if v = G.to a then some (du + G.cost f a, some a) else F v) := by
  have hfe := hp a ha hr
  have hlu := B.low _ _ _ hu
  have hne : G.to a ≠ src := fun e => by
    rcases hv with h | ⟨dv, pv, h, hlt⟩
    · rw [e, B.s0] at h; cases h
    · rw [e, B.s0] at h; cases h
      rw [e] at hfe; omega
  have huv : G.frm a ≠ G.to a := fun e => by
    rcases hv with h | ⟨dv, pv, h, hlt⟩
    · rw [← e, hu] at h; cases h
    · rw [← e, hu] at h; cases h
      rw [← e] at hfe; omega
  -- along the ways the reduced distance does not fall; so the way to u does not pass the node
  have key : ∀ w n, Anc G src F w n → (∃ m, Anc G src (fun v => if v = G.to a then some (du + G.cost f a, some a) else F v) w m) ∨ ∃ dv pv dw pw, F (G.to a) = some (dv, pv) ∧ F w = some (dw, pw) ∧ dv - p (G.to a) ≤ dw - p w := by
    intro w n h
    induction h with
    | base => exact .inl ⟨0, .base⟩
    | @step v d b n hvs hF hA ih =>
      by_cases e : v = G.to a
      · subst e
        exact .inr ⟨d, some b, d, some b, hF, hF, Int.le_refl _⟩
      · obtain ⟨b', eb, hb, hbr, hbt, dw, pw, hw, hle⟩ := B.par v d _ hF hvs
        cases eb
        rcases ih with ⟨m, ih⟩ | ⟨dv, pv, dw', pw', h1, h2, h3⟩
        · exact .inl ⟨m + 1, .step (d := d) hvs (by rw [if_neg e]; exact hF) ih⟩
        · refine .inr ⟨dv, pv, d, some b, h1, hF, ?_⟩
          rw [hw] at h2; cases h2
          have := hp b hb hbr
          rw [hbt] at this
          omega
  have hAu : ∃ m, Anc G src (fun v => if v = G.to a then some (du + G.cost f a, some a) else F v) (G.frm a) m := by
    obtain ⟨n, hn⟩ := B.anc _ _ _ hu
    rcases key _ n hn with h | ⟨dv, pv, dw, pw, h1, h2, h3⟩
    · exact h
    · exfalso
      rw [hu] at h2; cases h2
      rcases hv with h | ⟨dv', pv', h, hlt⟩
      · rw [h] at h1; cases h1
      · rw [h] at h1; cases h1
        omega
  obtain ⟨mu, hmu⟩ := hAu
  have hAv : Anc G src (fun v => if v = G.to a then some (du + G.cost f a, some a) else F v) (G.to a) (mu + 1) := .step hne (if_pos rfl) hmu
  have all : ∀ w n, Anc G src F w n → ∃ m, Anc G src (fun v => if v = G.to a then some (du + G.cost f a, some a) else F v) w m := by
    intro w n h
    induction h with
    | base => exact ⟨0, .base⟩
    | @step v d b n hvs hF hA ih =>
      by_cases e : v = G.to a
      · subst e; exact ⟨_, hAv⟩
      · obtain ⟨m, ih⟩ := ih
        exact ⟨m + 1, .step (d := d) hvs (by rw [if_neg e]; exact hF) ih⟩
  refine ⟨by rw [if_neg fun e => hne e.symm]; exact B.s0, fun v d q h hvs => ?_, fun v d q h => ?_, fun v d q h => ?_⟩
  · by_cases e : v = G.to a
    · rw [if_pos e] at h
      cases h
      refine ⟨a, rfl, ha, hr, e.symm, du, pu, ?_, Int.le_refl _⟩
      rw [if_neg huv]; exact hu
    · rw [if_neg e] at h
      obtain ⟨b, eb, hb, hbr, hbt, dw, pw, hw, hle⟩ := B.par v d q h hvs
      by_cases e2 : G.frm b = G.to a
      · refine ⟨b, eb, hb, hbr, hbt, du + G.cost f a, some a, by rw [if_pos e2], ?_⟩
        rw [e2] at hw
        rcases hv with h' | ⟨dv, pv, h', hlt⟩
        · rw [h'] at hw; cases hw
        · rw [h'] at hw; cases hw
          omega
      · exact ⟨b, eb, hb, hbr, hbt, dw, pw, by rw [if_neg e2]; exact hw, hle⟩
  · by_cases e : v = G.to a
    · rw [if_pos e] at h
      cases h
      rw [e]
      omega
    · rw [if_neg e] at h
      exact B.low v d q h
  · by_cases e : v = G.to a
    · rw [e]; exact ⟨_, hAv⟩
    · rw [if_neg e] at h
      obtain ⟨n, hn⟩ := B.anc v d q h
      exact all v n hn

/-! ### the passes come to an end -/
def cnt (ns : List N) (F : Fnd N L) : Int := su ns fun v => if (F v).isSome then 1 else 0
def mu (ns : List N) (p : N → Int) (src : N) (B : Int) (F : Fnd N L) : Int := su ns fun v => match F v with
  | none => max 0 (B - p v + p src) + 1
  | some (d, _) => d - p v + p src
structure Bnd (G : Net N L) (ls : List L) (f : L → Int) (ns : List N) (P : Int) : Prop where
  pos : 0 ≤ P
  cost : ∀ a : Arc L, a.1 ∈ ls → G.cost f a ≤ P
  to : ∀ a : Arc L, a.1 ∈ ls → G.to a ∈ ns
structure Up (ns : List N) (P : Int) (F : Fnd N L) : Prop where
  up : ∀ v d q, F v = some (d, q) → d ≤ P * cnt ns F
theorem cnt_nonneg (ns : List N) (F : Fnd N L) : 0 ≤ cnt ns F := su_nonneg _ _ fun v _ => by split <;> omega
theorem su_one {T : Type} (l : List T) : su l (fun _ => 1) = (l.length : Int) := by
  induction l with
  | nil => rfl
  | cons x r ih => rw [su_cons, ih, List.length_cons]; omega
theorem cnt_le (ns : List N) (F : Fnd N L) : cnt ns F ≤ (ns.length : Int) := by
  rw [← su_one ns]
  exact su_le _ _ _ fun v _ => by split <;> omega
theorem Up.start {ns : List N} {P : Int} (hP : 0 ≤ P) : Up ns P (fun v => if v = src then some (0, none) else none : Fnd N L) := ⟨fun v d q h => by
  by_cases e : v = src
  · rw [if_pos e] at h; cases h
    exact Int.mul_nonneg hP (cnt_nonneg _ _)
  · rw [if_neg e] at h; cases h⟩
theorem BF.mu_nonneg (B : BF G ls f p src F) (ns : List N) (C : Int) : 0 ≤ mu ns p src C F := su_nonneg _ _ fun v _ => by
  show 0 ≤ (match F v with | none => max 0 (C - p v + p src) + 1 | some (d, _) => d - p v + p src)
  cases h : F v with
  | none => show 0 ≤ max 0 (C - p v + p src) + 1; omega
  | some x =>
    obtain ⟨d, q⟩ := x
    have := B.low v d q h
    show 0 ≤ d - p v + p src
    omega
theorem Up.put {ns : List N} {P : Int} (U : Up ns P F) (Bd : Bnd G ls f ns P) {a : Arc L} (ha : a.1 ∈ ls) {du : Int} {pu : Option (Arc L)} (hu : F (G.frm a) = some (du, pu))
    (hv : F (G.to a) = none ∨ ∃ dv pv, F (G.to a) = some (dv, pv) ∧ du + G.cost f a < dv) : Up ns P (fun v => if v = G.to a then some (du + G.cost f a, some a) else F v) := by
  have mono : cnt ns F ≤ cnt ns (fun v => if v = G.to a then some (du + G.cost f a, some a) else F v : Fnd N L) := su_le _ _ _ fun v _ => by
    by_cases e : v = G.to a
    · simp only [if_pos e, Option.isSome_some, if_true]; split <;> omega
    · simp only [if_neg e]; exact Int.le_refl _
  have hm := Int.mul_le_mul_of_nonneg_left mono Bd.pos
  refine ⟨fun v d q h => ?_⟩
  by_cases e : v = G.to a
  · rw [if_pos e] at h
    cases h
    rcases hv with hn | ⟨dv, pv, hs, hlt⟩
    · have st : cnt ns F < cnt ns (fun v => if v = G.to a then some (du + G.cost f a, some a) else F v : Fnd N L) := su_lt _ _ _ (fun v _ => by
        by_cases e : v = G.to a
        · simp only [if_pos e, Option.isSome_some, if_true]; split <;> omega
        · simp only [if_neg e]; exact Int.le_refl _) (G.to a) (Bd.to a ha) (by simp [hn])
      have h1 := U.up _ _ _ hu
      have h2 := Bd.cost a ha
      have h3 : P * (cnt ns F + 1) ≤ P * cnt ns (fun v => if v = G.to a then some (du + G.cost f a, some a) else F v : Fnd N L) := Int.mul_le_mul_of_nonneg_left (by omega) Bd.pos
      rw [Int.mul_add, Int.mul_one] at h3
      omega
    · have h1 := U.up _ _ _ hs
      omega
  · rw [if_neg e] at h
    have h1 := U.up _ _ _ h
    omega
theorem mu_put {ns : List N} {P C : Int} {a : Arc L} {du : Int} (U : Up ns P (fun v => if v = G.to a then some (du + G.cost f a, some a) else F v : Fnd N L)) (Bd : Bnd G ls f ns P) (hC : P * (ns.length : Int) ≤ C) (ha : a.1 ∈ ls)
    (hv : F (G.to a) = none ∨ ∃ dv pv, F (G.to a) = some (dv, pv) ∧ du + G.cost f a < dv) : mu ns p src C (fun v => if v = G.to a then some (du + G.cost f a, some a) else F v : Fnd N L) < mu ns p src C F := by
  have hle : du + G.cost f a ≤ C := by
    have h1 := U.up (G.to a) _ _ (if_pos rfl)
    have h2 := Int.mul_le_mul_of_nonneg_left (cnt_le ns (fun v => if v = G.to a then some (du + G.cost f a, some a) else F v : Fnd N L)) Bd.pos
    omega
  have at_ : (match F (G.to a) with | none => max 0 (C - p (G.to a) + p src) + 1 | some (d, _) => d - p (G.to a) + p src) > du + G.cost f a - p (G.to a) + p src := by
    rcases hv with hn | ⟨dv, pv, hs, hlt⟩
    · rw [hn]
      show max 0 (C - p (G.to a) + p src) + 1 > _
      omega
    · rw [hs]
      show dv - p (G.to a) + p src > _
      omega
  refine su_lt _ _ _ (fun v _ => ?_) (G.to a) (Bd.to a ha) ?_
  · by_cases e : v = G.to a
    · subst e
      simp only [if_true]
      exact Int.le_of_lt at_
    · simp only [if_neg e]; exact Int.le_refl _
  · simp only [if_true]
    exact at_

/-! ### the way back to the source -/
inductive IsWay (G : Net N L) (src : N) (F : Fnd N L) : N → List (Arc L) → Prop
  | nil : IsWay G src F src []
  | cons {v : N} {d : Int} {a : Arc L} {as : List (Arc L)} (hne : v ≠ src) (h : F v = some (d, some a)) (ih : IsWay G src F (G.frm a) as) : IsWay G src F v (a :: as)
/-- nothing is left to be found -/
def Closed (G : Net N L) (ls : List L) (f : L → Int) (F : Fnd N L) : Prop := ∀ a : Arc L, a.1 ∈ ls → G.res f a → ∀ du pu, F (G.frm a) = some (du, pu) → ∃ dv pv, F (G.to a) = some (dv, pv) ∧ dv ≤ du + G.cost f a
theorem Anc.way : ∀ {v : N} {n : Nat}, Anc G src F v n → ∃ as, IsWay G src F v as ∧ as.length = n
  | _, _, .base => ⟨[], .nil, rfl⟩
  | _, _, .step hne h ih => by
    obtain ⟨as, w, e⟩ := Anc.way ih
    exact ⟨_ :: as, .cons hne h w, by rw [List.length_cons, e]⟩
theorem BF.way (B : BF G ls f p src F) {v : N} {d : Int} {q : Option (Arc L)} (h : F v = some (d, q)) : ∃ as, IsWay G src F v as := by
  obtain ⟨n, hn⟩ := B.anc v d q h
  obtain ⟨as, w, _⟩ := hn.way
  exact ⟨as, w⟩
theorem IsWay.anc : ∀ {v : N} {as : List (Arc L)}, IsWay G src F v as → Anc G src F v as.length
  | _, _, .nil => .base
  | _, _, .cons hne h ih => .step hne h ih.anc
theorem Anc.uniq : ∀ {v : N} {n m : Nat}, Anc G src F v n → Anc G src F v m → n = m
  | _, _, _, .base, .base => rfl
  | _, _, _, .base, .step hne _ _ => absurd rfl hne
  | _, _, _, .step hne _ _, .base => absurd rfl hne
  | _, _, _, .step hne h ih, .step hne' h' ih' => by
    rw [h] at h'
    cases h'
    rw [ih.uniq ih']
/-- what each arc of a way is -/
theorem IsWay.arcs (B : BF G ls f p src F) (C : Closed G ls f F) : ∀ {v : N} {as : List (Arc L)}, IsWay G src F v as → ∀ a ∈ as, a.1 ∈ ls ∧ G.res f a ∧ ∃ du pu dv pv, F (G.frm a) = some (du, pu) ∧ F (G.to a) = some (dv, pv) ∧ dv = du + G.cost f a
  | _, _, .nil => fun a h => by cases h
  | v, _, .cons (a := b) hne h ih => fun a ha => by
    obtain ⟨b', e, hb, hr, ht, du, pu, hu, hle⟩ := B.par v _ _ h hne
    cases e
    rcases List.mem_cons.mp ha with e | ha
    · subst e
      refine ⟨hb, hr, du, pu, _, _, hu, by rw [ht]; exact h, ?_⟩
      obtain ⟨dv, pv, hv, hle2⟩ := C a hb hr du pu hu
      rw [ht, h] at hv
      cases hv
      omega
    · exact IsWay.arcs B C ih a ha
theorem IsWay.place (B : BF G ls f p src F) : ∀ {v : N} {as : List (Arc L)}, IsWay G src F v as → ∀ a ∈ as, ∃ n, n < as.length ∧ Anc G src F (G.frm a) n ∧ Anc G src F (G.to a) (n + 1)
  | _, _, .nil => fun a h => by cases h
  | v, _, .cons (a := b) (as := as) hne h ih => fun a ha => by
    obtain ⟨b', e, hb, hr, ht, du, pu, hu, hle⟩ := B.par v _ _ h hne
    cases e
    rcases List.mem_cons.mp ha with e | ha
    · subst e
      refine ⟨as.length, by rw [List.length_cons]; omega, ih.anc, ?_⟩
      rw [ht]
      exact .step hne h ih.anc
    · obtain ⟨n, h1, h2, h3⟩ := IsWay.place B ih a ha
      exact ⟨n, by rw [List.length_cons]; omega, h2, h3⟩
theorem IsWay.nodup (B : BF G ls f p src F) : ∀ {v : N} {as : List (Arc L)}, IsWay G src F v as → (as.map (·.1)).Nodup
  | _, _, .nil => List.nodup_nil
  | v, _, .cons (a := b) (as := as) hne h ih => by
    show (b.1 :: as.map (·.1)).Nodup
    refine List.nodup_cons.mpr ⟨fun hm => ?_, IsWay.nodup B ih⟩
    obtain ⟨b', e, hb, hr, ht, du, pu, hu, hle⟩ := B.par v _ _ h hne
    cases e
    obtain ⟨c, hc, ec⟩ := List.mem_map.mp hm
    obtain ⟨n, h1, h2, h3⟩ := IsWay.place B ih c hc
    have a1 : Anc G src F (G.frm b) as.length := ih.anc
    have a2 : Anc G src F (G.to b) (as.length + 1) := by rw [ht]; exact .step hne h ih.anc
    obtain ⟨b1, b2⟩ := b
    obtain ⟨c1, c2⟩ := c
    have ec : c1 = b1 := ec
    subst ec
    cases b2 <;> cases c2
    · have := Anc.uniq a1 h2; omega
    · have := Anc.uniq a1 h3
      have := Anc.uniq a2 h2
      omega
    · have := Anc.uniq a1 h3
      have := Anc.uniq a2 h2
      omega
    · have := Anc.uniq a1 h2; omega
theorem IsWay.tele (B : BF G ls f p src F) (x : N → Int) : ∀ {v : N} {as : List (Arc L)}, IsWay G src F v as → su as (fun a => x (G.to a) - x (G.frm a)) = x v - x src
  | _, _, .nil => by rw [su_nil]; omega
  | v, _, .cons (a := b) (as := as) hne h ih => by
    obtain ⟨b', e, hb, hr, ht, du, pu, hu, hle⟩ := B.par v _ _ h hne
    cases e
    rw [su_cons, IsWay.tele B x ih, ht]
    omega

/-! ### a unit more -/
def sg (b : Bool) : Int := if b then 1 else -1
def push (f : L → Int) (as : List (Arc L)) : L → Int := as.foldl (fun f a => fun i => if i = a.1 then f a.1 + sg a.2 else f i) f
theorem push_nil (f : L → Int) : push f [] = f := rfl
theorem push_cons (f : L → Int) (a : Arc L) (as : List (Arc L)) : push f (a :: as) = push (fun i => if i = a.1 then f a.1 + sg a.2 else f i) as := rfl
theorem push_append (f : L → Int) (as bs : List (Arc L)) : push f (as ++ bs) = push (push f as) bs := List.foldl_append ..
theorem push_out : ∀ (as : List (Arc L)) (f : L → Int) (i : L), i ∉ as.map (·.1) → push f as i = f i
  | [], _, _, _ => rfl
  | a :: as, f, i, h => by
    have h1 : ¬ i = a.1 := fun e => h (by rw [e]; exact List.mem_cons_self)
    rw [push_cons, push_out as _ i fun m => h (List.mem_cons_of_mem _ m), if_neg h1]
theorem push_in : ∀ (as : List (Arc L)) (f : L → Int), (as.map (·.1)).Nodup → ∀ a ∈ as, push f as a.1 = f a.1 + sg a.2
  | [], _, _, _, h => by cases h
  | b :: as, f, nd, a, h => by
    obtain ⟨h1, h2⟩ := List.nodup_cons.mp (show (b.1 :: as.map (·.1)).Nodup from nd)
    rw [push_cons]
    rcases List.mem_cons.mp h with e | h
    · subst e
      rw [push_out as _ _ h1, if_pos rfl]
    · have hn : ¬ a.1 = b.1 := fun e => h1 (by rw [← e]; exact List.mem_map_of_mem h)
      rw [push_in as _ h2 a h, if_neg hn]
theorem arc_sg (G : Net N L) (x : N → Int) (a : Arc L) : sg a.2 * (x (G.en a.1) - x (G.bg a.1)) = x (G.to a) - x (G.frm a) := by
  obtain ⟨i, b⟩ := a
  cases b
  · show (-1) * (x (G.en i) - x (G.bg i)) = x (G.bg i) - x (G.en i)
    omega
  · show 1 * (x (G.en i) - x (G.bg i)) = x (G.en i) - x (G.bg i)
    omega
theorem push_val (G : Net N L) (x : N → Int) {ls : List L} (nd : ls.Nodup) : ∀ (as : List (Arc L)) (f : L → Int), (∀ a ∈ as, a.1 ∈ ls) →
    su ls (fun i => push f as i * (x (G.en i) - x (G.bg i))) = su ls (fun i => f i * (x (G.en i) - x (G.bg i))) + su as (fun a => x (G.to a) - x (G.frm a))
  | [], f, _ => by rw [push_nil, su_nil, Int.add_zero]
  | a :: as, f, h => by
    rw [push_cons, push_val G x nd as _ fun b hb => h b (List.mem_cons_of_mem _ hb), su_cons]
    have e : su ls (fun i => (if i = a.1 then f a.1 + sg a.2 else f i) * (x (G.en i) - x (G.bg i))) = su ls (fun i => if i = a.1 then (f a.1 + sg a.2) * (x (G.en a.1) - x (G.bg a.1)) else f i * (x (G.en i) - x (G.bg i))) :=
      su_congr _ _ _ fun i _ => by
        by_cases e : i = a.1
        · rw [if_pos e, if_pos e, e]
        · rw [if_neg e, if_neg e]
    rw [e, su_upd ls nd a.1 (h a List.mem_cons_self), Int.add_mul, arc_sg]
    omega
/-- a flow of so many units, as cheap as can be -/
structure FlowOk (G : Net N L) (ls : List L) (src snk : N) (f : L → Int) (k : Int) : Prop where
  lo : ∀ i ∈ ls, 0 ≤ f i
  hi : ∀ i ∈ ls, f i ≤ G.hi i
  val : ∀ x : N → Int, su ls (fun i => f i * (x (G.en i) - x (G.bg i))) = k * (x snk - x src)
  pot : ∃ p, G.Feas ls f p
theorem list_max {T : Type} (l : List T) (g : T → Int) : ∃ K, ∀ x ∈ l, g x ≤ K := by
  induction l with
  | nil => exact ⟨0, fun x h => by cases h⟩
  | cons y r ih =>
    obtain ⟨K, hK⟩ := ih
    refine ⟨max K (g y), fun x hx => ?_⟩
    rcases List.mem_cons.mp hx with e | hx
    · rw [e]; omega
    · have := hK x hx; omega
/-- the potentials behind: the distances where a way was found, else the elder ones, raised -/
theorem FlowOk.more {snk : N} {k : Int} (W : FlowOk G ls src snk f k) (nd : ls.Nodup) (hbig : 0 ≤ G.big) (hp : G.Feas ls f p) (B : BF G ls f p src F) (C : Closed G ls f F) {as : List (Arc L)} (w : IsWay G src F snk as) : FlowOk G ls src snk (push f as) (k + 1) := by
  have hin := w.arcs B C
  have hnd := w.nodup B
  have at_ : ∀ i, (∃ b, (i, b) ∈ as ∧ push f as i = f i + sg b) ∨ ((∀ b, (i, b) ∉ as) ∧ push f as i = f i) := fun i => by
    by_cases h : i ∈ as.map (·.1)
    · obtain ⟨a, ha, e⟩ := List.mem_map.mp h
      subst e
      exact .inl ⟨a.2, ha, push_in as f hnd a ha⟩
    · exact .inr ⟨fun b hb => h (List.mem_map_of_mem (f := (·.1)) hb), push_out as f i h⟩
  refine ⟨fun i hi => ?_, fun i hi => ?_, fun x => ?_, ?_⟩
  · rcases at_ i with ⟨b, hb, e⟩ | ⟨_, e⟩
    · rw [e]
      obtain ⟨_, hr, _⟩ := hin _ hb
      have h0 := W.lo i hi
      cases b
      · have hr : 0 < f i := hr
        show 0 ≤ f i + -1
        omega
      · show 0 ≤ f i + 1
        omega
    · rw [e]; exact W.lo i hi
  · rcases at_ i with ⟨b, hb, e⟩ | ⟨_, e⟩
    · rw [e]
      obtain ⟨_, hr, _⟩ := hin _ hb
      have h0 := W.hi i hi
      cases b
      · show f i + -1 ≤ G.hi i
        omega
      · have hr : f i < G.hi i := hr
        show f i + 1 ≤ G.hi i
        omega
    · rw [e]; exact W.hi i hi
  · rw [push_val G x nd as f fun a ha => (hin a ha).1, W.val x, w.tele B x, Int.add_mul]
    omega
  · -- K: no found distance is more than K above the elder potential
    have hK : ∃ K, ∀ a : Arc L, a.1 ∈ ls → ∀ d q, F (G.to a) = some (d, q) → d - p (G.to a) ≤ K := by
      obtain ⟨K1, h1⟩ := list_max ls fun i => match F (G.en i) with | some (d, _) => d - p (G.en i) | none => 0
      obtain ⟨K2, h2⟩ := list_max ls fun i => match F (G.bg i) with | some (d, _) => d - p (G.bg i) | none => 0
      refine ⟨max K1 K2, fun a ha d q h => ?_⟩
      obtain ⟨i, b⟩ := a
      cases b
      · have h3 := h2 i ha
        have h : F (G.bg i) = some (d, q) := h
        rw [h] at h3
        have h3 : d - p (G.bg i) ≤ K2 := h3
        show d - p (G.bg i) ≤ max K1 K2
        omega
      · have h3 := h1 i ha
        have h : F (G.en i) = some (d, q) := h
        rw [h] at h3
        have h3 : d - p (G.en i) ≤ K1 := h3
        show d - p (G.en i) ≤ max K1 K2
        omega
    obtain ⟨K, hK⟩ := hK
    refine ⟨fun v => match F v with | some (d, _) => d | none => p v + K, fun a ha hr => ?_⟩
    show (match F (G.to a) with | some (d, _) => d | none => p (G.to a) + K) ≤ (match F (G.frm a) with | some (d, _) => d | none => p (G.frm a) + K) + G.cost (K55M.push f as) a
    -- an arc that was left before, at its elder price
    have old : G.res f a → (match F (G.to a) with | some (d, _) => d | none => p (G.to a) + K) ≤ (match F (G.frm a) with | some (d, _) => d | none => p (G.frm a) + K) + G.cost f a := fun hr0 => by
      cases hu : F (G.frm a) with
      | some x =>
        obtain ⟨du, pu⟩ := x
        obtain ⟨dv, pv, hv, hle⟩ := C a ha hr0 du pu hu
        rw [hv]
        exact hle
      | none =>
        have h1 := hp a ha hr0
        cases hv : F (G.to a) with
        | none =>
          show p (G.to a) + K ≤ p (G.frm a) + K + G.cost f a
          omega
        | some x =>
          obtain ⟨dv, pv⟩ := x
          have h2 := hK a ha dv pv hv
          show dv ≤ p (G.frm a) + K + G.cost f a
          omega
    obtain ⟨i, c⟩ := a
    rcases at_ i with ⟨b, hb, e⟩ | ⟨_, e⟩
    · obtain ⟨_, hr0, du, pu, dv, pv, hu, hv, ed⟩ := hin _ hb
      cases b <;> cases c
      · -- walked back, asked back
        have e : K55M.push f as i = f i + -1 := e
        have h1 := old hr0
        have h2 : G.cost f (i, false) ≤ G.cost (K55M.push f as) (i, false) := by
          show (if f i ≤ G.lo i then G.big else 0) - G.pr i ≤ (if K55M.push f as i ≤ G.lo i then G.big else 0) - G.pr i
          rw [e]
          split <;> split <;> omega
        exact Int.le_trans h1 (Int.add_le_add_left h2 _)
      · have e : K55M.push f as i = f i + -1 := e
        have hu : F (G.en i) = some (du, pu) := hu
        have hv : F (G.bg i) = some (dv, pv) := hv
        have ed : dv = du + ((if f i ≤ G.lo i then G.big else 0) - G.pr i) := ed
        show (match F (G.en i) with | some (d, _) => d | none => p (G.en i) + K) ≤ (match F (G.bg i) with | some (d, _) => d | none => p (G.bg i) + K) + (G.pr i - (if K55M.push f as i < G.lo i then G.big else 0))
        rw [hu, hv, e]
        show du ≤ dv + (G.pr i - (if f i + -1 < G.lo i then G.big else 0))
        by_cases h : f i ≤ G.lo i
        · rw [if_pos h] at ed
          rw [if_pos (by omega)]
          omega
        · rw [if_neg h] at ed
          rw [if_neg (by omega)]
          omega
      · have e : K55M.push f as i = f i + 1 := e
        have hu : F (G.bg i) = some (du, pu) := hu
        have hv : F (G.en i) = some (dv, pv) := hv
        have ed : dv = du + (G.pr i - (if f i < G.lo i then G.big else 0)) := ed
        show (match F (G.bg i) with | some (d, _) => d | none => p (G.bg i) + K) ≤ (match F (G.en i) with | some (d, _) => d | none => p (G.en i) + K) + ((if K55M.push f as i ≤ G.lo i then G.big else 0) - G.pr i)
        rw [hu, hv, e]
        show du ≤ dv + ((if f i + 1 ≤ G.lo i then G.big else 0) - G.pr i)
        by_cases h : f i < G.lo i
        · rw [if_pos h] at ed
          rw [if_pos (by omega)]
          omega
        · rw [if_neg h] at ed
          rw [if_neg (by omega)]
          omega
      · have e : K55M.push f as i = f i + 1 := e
        have h1 := old hr0
        have h2 : G.cost f (i, true) ≤ G.cost (K55M.push f as) (i, true) := by
          show G.pr i - (if f i < G.lo i then G.big else 0) ≤ G.pr i - (if K55M.push f as i < G.lo i then G.big else 0)
          rw [e]
          split <;> split <;> omega
        exact Int.le_trans h1 (Int.add_le_add_left h2 _)
    · have er : G.res f (i, c) := by
        cases c
        · have hr : 0 < K55M.push f as i := hr
          rw [e] at hr
          exact hr
        · have hr : K55M.push f as i < G.hi i := hr
          rw [e] at hr
          exact hr
      have ec : G.cost (K55M.push f as) (i, c) = G.cost f (i, c) := by
        cases c
        · show (if K55M.push f as i ≤ G.lo i then G.big else 0) - G.pr i = _
          rw [e]
          rfl
        · show G.pr i - (if K55M.push f as i < G.lo i then G.big else 0) = _
          rw [e]
          rfl
      rw [ec]
      exact old er

/-! ### a plan: a flow that keeps the least amounts too -/
structure Plan (G : Net N L) (ls : List L) (src snk : N) (g : L → Int) (m : Int) : Prop where
  lo : ∀ i ∈ ls, G.lo i ≤ g i
  hi : ∀ i ∈ ls, g i ≤ G.hi i
  val : ∀ x : N → Int, su ls (fun i => g i * (x (G.en i) - x (G.bg i))) = m * (x snk - x src)
/-- while there is room for a unit more, the sink is found -/
theorem FlowOk.reach {snk : N} {k m : Int} {g : L → Int} (W : FlowOk G ls src snk f k) (hk : k < m) (Pl : Plan G ls src snk g m) (hlo : ∀ i ∈ ls, 0 ≤ G.lo i) (hsrc : (F src).isSome = true) (C : Closed G ls f F) : (F snk).isSome = true := by
  cases hs : (F snk).isSome with
  | true => rfl
  | false =>
    exfalso
    have v1 := W.val fun v => if (F v).isSome then 1 else 0
    have v2 := Pl.val fun v => if (F v).isSome then 1 else 0
    have e1 : (if (F snk).isSome = true then (1 : Int) else 0) = 0 := by rw [hs]; rfl
    have e2 : (if (F src).isSome = true then (1 : Int) else 0) = 1 := by rw [hsrc]; rfl
    have v1 : _ = k * ((if (F snk).isSome = true then (1 : Int) else 0) - (if (F src).isSome = true then (1 : Int) else 0)) := v1
    have v2 : _ = m * ((if (F snk).isSome = true then (1 : Int) else 0) - (if (F src).isSome = true then (1 : Int) else 0)) := v2
    rw [e1, e2] at v1 v2
    have le : su ls (fun i => f i * ((if (F (G.en i)).isSome then (1 : Int) else 0) - (if (F (G.bg i)).isSome then 1 else 0))) ≤ su ls (fun i => g i * ((if (F (G.en i)).isSome then (1 : Int) else 0) - (if (F (G.bg i)).isSome then 1 else 0))) := by
      refine su_le _ _ _ fun i hi => ?_
      have g0 : 0 ≤ g i := Int.le_trans (hlo i hi) (Pl.lo i hi)
      have g1 := Pl.hi i hi
      have f0 := W.lo i hi
      have f1 := W.hi i hi
      cases ha : (F (G.bg i)).isSome <;> cases hb : (F (G.en i)).isSome
      · simp
      · -- into what was found: nothing comes in
        have hz : f i = 0 := by
          by_cases h : 0 < f i
          · exfalso
            obtain ⟨x, hx⟩ := Option.isSome_iff_exists.mp hb
            obtain ⟨dv, pv, hv, _⟩ := C (i, false) hi h x.1 x.2 (by show F (G.en i) = some (x.1, x.2); rw [hx])
            have hv : F (G.bg i) = some (dv, pv) := hv
            rw [hv] at ha
            cases ha
          · omega
        simp [hz]
        omega
      · have hz : f i = G.hi i := by
          by_cases h : f i < G.hi i
          · exfalso
            obtain ⟨x, hx⟩ := Option.isSome_iff_exists.mp ha
            obtain ⟨dv, pv, hv, _⟩ := C (i, true) hi h x.1 x.2 (by show F (G.bg i) = some (x.1, x.2); rw [hx])
            have hv : F (G.en i) = some (dv, pv) := hv
            rw [hv] at hb
            cases hb
          · omega
        simp
        omega
      · simp
    rw [v1, v2] at le
    omega
/-- a full flow keeps the least amounts, if there is a plan that costs less than the big price -/
theorem FlowOk.least {snk : N} {m : Int} {g : L → Int} (W : FlowOk G ls src snk f m) (Pl : Plan G ls src snk g m) (hpr : ∀ i ∈ ls, 0 ≤ G.pr i) (hlo : ∀ i ∈ ls, 0 ≤ G.lo i) (hc : su ls (fun i => G.pr i * g i) < G.big) : ∀ i ∈ ls, G.lo i ≤ f i := by
  obtain ⟨p, hp⟩ := W.pot
  have hbig : 0 < G.big := Int.lt_of_le_of_lt (su_nonneg ls (fun i => G.pr i * g i) fun i hi => Int.mul_nonneg (hpr i hi) (Int.le_trans (hlo i hi) (Pl.lo i hi))) hc
  have v : su ls (fun i => (g i - f i) * (p (G.en i) - p (G.bg i))) = 0 := by
    have e : su ls (fun i => (g i - f i) * (p (G.en i) - p (G.bg i))) = su ls (fun i => g i * (p (G.en i) - p (G.bg i)) - f i * (p (G.en i) - p (G.bg i))) := su_congr _ _ _ fun i _ => Int.sub_mul _ _ _
    rw [e, su_sub, Pl.val p, W.val p]
    omega
  have le : su ls (fun i => (g i - f i) * (p (G.en i) - p (G.bg i))) ≤ su ls (fun i => (G.pr i * g i - G.big * G.lo i) - (G.pr i * f i - G.big * min (f i) (G.lo i))) := by
    refine su_le _ _ _ fun i hi => ?_
    have h0 := Pl.lo i hi
    have h1 := Pl.hi i hi
    have f0 := W.lo i hi
    have f1 := W.hi i hi
    have l0 := hlo i hi
    rcases Int.lt_trichotomy (f i) (g i) with h | h | h
    · -- more is asked
      have hq := hp (i, true) hi (by show f i < G.hi i; omega)
      have hq : p (G.en i) ≤ p (G.bg i) + (G.pr i - (if f i < G.lo i then G.big else 0)) := hq
      have hm : (g i - f i) * (p (G.en i) - p (G.bg i)) ≤ (g i - f i) * (G.pr i - (if f i < G.lo i then G.big else 0)) := Int.mul_le_mul_of_nonneg_left (by omega) (by omega)
      by_cases hl : f i < G.lo i
      · rw [if_pos hl] at hm
        rw [Int.min_eq_left (by omega)]
        have hb : G.big * (G.lo i - f i) ≤ G.big * (g i - f i) := Int.mul_le_mul_of_nonneg_left (by omega) (by omega)
        simp only [Int.mul_sub, Int.sub_mul, Int.mul_comm (g i) , Int.mul_comm (f i)] at hm hb ⊢
        omega
      · rw [if_neg hl] at hm
        rw [Int.min_eq_right (by omega)]
        simp only [Int.mul_sub, Int.sub_mul, Int.mul_comm (g i) , Int.mul_comm (f i)] at hm ⊢
        omega
    · rw [h, Int.sub_self, Int.zero_mul, Int.min_eq_right (by omega)]
      omega
    · have hq := hp (i, false) hi (by show 0 < f i; omega)
      have hq : p (G.bg i) ≤ p (G.en i) + ((if f i ≤ G.lo i then G.big else 0) - G.pr i) := hq
      have hm : (f i - g i) * (p (G.bg i) - p (G.en i)) ≤ (f i - g i) * ((if f i ≤ G.lo i then G.big else 0) - G.pr i) := Int.mul_le_mul_of_nonneg_left (by omega) (by omega)
      have hl : ¬ f i ≤ G.lo i := by omega
      rw [if_neg hl] at hm
      rw [Int.min_eq_right (by omega)]
      simp only [Int.mul_sub, Int.sub_mul, Int.mul_comm (g i) , Int.mul_comm (f i), Int.mul_zero, Int.zero_sub, Int.neg_mul, Int.mul_neg] at hm ⊢
      omega
  rw [v, su_sub, su_sub, su_sub, su_mul, su_mul] at le
  have hf : 0 ≤ su ls (fun i => G.pr i * f i) := su_nonneg _ _ fun i hi => Int.mul_nonneg (hpr i hi) (W.lo i hi)
  -- what lacks costs less than one big price
  have hd : su ls (fun i => G.lo i - min (f i) (G.lo i)) = su ls G.lo - su ls (fun i => min (f i) (G.lo i)) := su_sub _ _ _
  have hz : su ls (fun i => G.lo i - min (f i) (G.lo i)) ≤ 0 := by
    rw [hd]
    by_cases h : 1 ≤ su ls G.lo - su ls (fun i => min (f i) (G.lo i))
    · exfalso
      have hb : G.big * 1 ≤ G.big * (su ls G.lo - su ls (fun i => min (f i) (G.lo i))) := Int.mul_le_mul_of_nonneg_left h (by omega)
      rw [Int.mul_sub] at hb
      omega
    · omega
  have ha := su_all_zero ls (fun i => G.lo i - min (f i) (G.lo i)) (fun i _ => by omega) hz
  intro i hi
  have := ha i hi
  omega

/-! ### what is left for good, and the prices -/
/-- what is left when the least amounts are kept -/
def Net.arc (G : Net N L) (ls : List L) (f : L → Int) (u v : N) (c : Int) : Prop := ∃ i ∈ ls, (f i < G.hi i ∧ u = G.bg i ∧ v = G.en i ∧ c = G.pr i) ∨ (G.lo i < f i ∧ u = G.en i ∧ v = G.bg i ∧ c = - G.pr i)
inductive Wk (A : N → N → Int → Prop) : N → N → Int → List N → Nat → Prop
  | nil (v : N) : Wk A v v 0 [] 0
  | cons {u v w : N} {c d : Int} {hs : List N} {n : Nat} (h : A u v c) (ih : Wk A v w d hs n) : Wk A u w (c + d) ((if c < 0 then [u] else []) ++ hs) (n + 1)
variable {A : N → N → Int → Prop}
theorem Wk.app {u v w : N} {c d : Int} {hs js : List N} {n m : Nat} (h1 : Wk A u v c hs n) (h2 : Wk A v w d js m) : Wk A u w (c + d) (hs ++ js) (n + m) := by
  induction h1 with
  | nil v => simpa using h2
  | @cons u x y c' d' hs' n' ha ih1 ih =>
    have := Wk.cons ha (ih h2)
    rw [← List.append_assoc, ← Int.add_assoc] at this
    rw [show n' + 1 + m = n' + m + 1 by omega]
    exact this
theorem Wk.split {u w : N} {c : Int} {hs : List N} {n : Nat} (h : Wk A u w c hs n) : ∀ (as : List N) (x : N) (bs : List N), hs = as ++ x :: bs → ∃ c1 c2 n1 n2, Wk A u x c1 as n1 ∧ Wk A x w c2 (x :: bs) n2 ∧ c = c1 + c2 ∧ n = n1 + n2 := by
  induction h with
  | nil v => intro as x bs e; simp at e
  | @cons u v w c d hs n ha ih1 ih =>
    intro as x bs e
    by_cases hc : c < 0
    · rw [if_pos hc] at e
      cases as with
      | nil =>
        have e1 : u = x ∧ hs = bs := by simpa using e
        obtain ⟨rfl, rfl⟩ := e1
        refine ⟨0, c + d, 0, n + 1, .nil _, ?_, by omega, by omega⟩
        have := Wk.cons ha ih1
        rw [if_pos hc] at this
        exact this
      | cons y as =>
        have e1 : u = y ∧ hs = as ++ x :: bs := by simpa using e
        obtain ⟨rfl, e2⟩ := e1
        obtain ⟨c1, c2, n1, n2, h1, h2, h3, h4⟩ := ih as x bs e2
        refine ⟨c + c1, c2, n1 + 1, n2, ?_, h2, by omega, by omega⟩
        have := Wk.cons ha h1
        rw [if_pos hc] at this
        exact this
    · rw [if_neg hc] at e
      have e2 : hs = as ++ x :: bs := by simpa using e
      obtain ⟨c1, c2, n1, n2, h1, h2, h3, h4⟩ := ih as x bs e2
      refine ⟨c + c1, c2, n1 + 1, n2, ?_, h2, by omega, by omega⟩
      have := Wk.cons ha h1
      rw [if_neg hc] at this
      exact this
theorem dup_of {T : Type} [DecidableEq T] : ∀ l : List T, l.Nodup ∨ ∃ as x bs cs, l = as ++ x :: (bs ++ x :: cs)
  | [] => .inl List.nodup_nil
  | y :: r => by
    by_cases h : y ∈ r
    · obtain ⟨bs, cs, e⟩ := List.append_of_mem h
      exact .inr ⟨[], y, bs, cs, by rw [e]; rfl⟩
    · rcases dup_of r with h1 | ⟨as, x, bs, cs, e⟩
      · exact .inl (List.nodup_cons.mpr ⟨h, h1⟩)
      · exact .inr ⟨y :: as, x, bs, cs, by rw [e]; rfl⟩
theorem Wk.long0 {u w : N} {c : Int} {js : List N} {n : Nat} (h : Wk A u w c js n) : js = [] ∨ 0 < n := by
  cases h with
  | nil => exact .inl rfl
  | cons _ _ => exact .inr (by omega)
theorem Wk.long {u w : N} {c : Int} {x : N} {hs : List N} {n : Nat} (h : Wk A u w c (x :: hs) n) : 0 < n := (h.long0).resolve_left fun e => by cases e
/-- rounds cost nothing less: a way whose falls begin in unlike places is no dearer -/
theorem Wk.short (hclosed : ∀ v c hs n, Wk A v v c hs n → 0 ≤ c) : ∀ (n : Nat) (u w : N) (c : Int) (hs : List N), Wk A u w c hs n → ∃ c' hs' n', Wk A u w c' hs' n' ∧ c' ≤ c ∧ hs'.Nodup := by
  intro n
  induction n using Nat.strongRecOn with
  | _ n ih =>
    intro u w c hs h
    rcases dup_of hs with nd | ⟨as, x, bs, cs, e⟩
    · exact ⟨c, hs, n, h, Int.le_refl _, nd⟩
    · subst e
      obtain ⟨c1, c2, n1, n2, h1, h2, h3, h4⟩ := h.split as x _ rfl
      obtain ⟨c3, c4, n3, n4, h5, h6, h7, h8⟩ := h2.split (x :: bs) x cs rfl
      have h9 := hclosed _ _ _ _ h5
      have h10 := h5.long
      obtain ⟨c', hs', n', q1, q2, q3⟩ := ih (n1 + n4) (by omega) u w (c1 + c4) (as ++ x :: cs) (h1.app h6)
      exact ⟨c', hs', n', q1, by omega, q3⟩
theorem Wk.bound (hm : ∀ u v c, A u v c → -1 ≤ c) {u w : N} {c : Int} {hs : List N} {n : Nat} (h : Wk A u w c hs n) : -(hs.length : Int) ≤ c := by
  induction h with
  | nil v => simp
  | @cons u v w c d hs n ha ih1 ih =>
    have := hm _ _ _ ha
    by_cases hc : c < 0
    · rw [if_pos hc, List.length_append, List.length_singleton]; omega
    · rw [if_neg hc, List.nil_append]; omega
theorem Wk.from_ (S : List N) (hm : ∀ u v c, A u v c → c < 0 → u ∈ S) {u w : N} {c : Int} {hs : List N} {n : Nat} (h : Wk A u w c hs n) : ∀ x ∈ hs, x ∈ S := by
  induction h with
  | nil v => intro x hx; cases hx
  | @cons u v w c d hs n ha ih1 ih =>
    intro x hx
    by_cases hc : c < 0
    · rw [if_pos hc] at hx
      rcases List.mem_append.mp hx with hx | hx
      · rw [List.mem_singleton.mp hx]; exact hm _ _ _ ha hc
      · exact ih x hx
    · rw [if_neg hc] at hx
      exact ih x hx
theorem nodup_le {T : Type} [DecidableEq T] : ∀ (l S : List T), l.Nodup → (∀ x ∈ l, x ∈ S) → l.length ≤ S.length
  | [], S, _, _ => Nat.zero_le _
  | x :: r, S, nd, h => by
    obtain ⟨h1, h2⟩ := List.nodup_cons.mp nd
    have hx := h x List.mem_cons_self
    have := nodup_le r (S.erase x) h2 fun y hy => (List.mem_erase_of_ne fun e => h1 (by rw [← e]; exact hy)).mpr (h y (List.mem_cons_of_mem _ hy))
    rw [List.length_erase_of_mem hx] at this
    have := List.length_pos_of_mem hx
    rw [List.length_cons]
    omega
/-- every walk costs at least as much as there are hubs, less nothing -/
theorem Wk.least (S : List N) (hclosed : ∀ v c hs n, Wk A v v c hs n → 0 ≤ c) (hm : ∀ u v c, A u v c → -1 ≤ c) (hS : ∀ u v c, A u v c → c < 0 → u ∈ S) {u w : N} {c : Int} {hs : List N} {n : Nat} (h : Wk A u w c hs n) : -(S.length : Int) ≤ c := by
  obtain ⟨c', hs', n', h1, h2, h3⟩ := Wk.short hclosed n u w c hs h
  have h4 := h1.bound hm
  have h5 := nodup_le hs' S h3 (h1.from_ S hS)
  omega
theorem Wk.pot {q : N → Int} (hq : ∀ u v c, A u v c → q v ≤ q u + c) {u w : N} {c : Int} {hs : List N} {n : Nat} (h : Wk A u w c hs n) : q w ≤ q u + c := by
  induction h with
  | nil v => omega
  | cons ha _ ih => have := hq _ _ _ ha; omega
/-- what holds of the distances while they are lowered -/
structure Ds (A : N → N → Int → Prop) (snk : N) (most : Int) (x : N → Int) : Prop where
  wk : ∀ v, ∃ w c hs n, Wk A v w c hs n ∧ x v = c + (if w = snk then 0 else most)
theorem Ds.start (snk : N) (most : Int) : Ds A snk most (fun v => if v = snk then 0 else most) := ⟨fun v => ⟨v, 0, [], 0, .nil v, by rw [Int.zero_add]⟩⟩
theorem Ds.put {snk : N} {most : Int} {x : N → Int} (D : Ds A snk most x) {u v : N} {c : Int} (h : A u v c) : Ds A snk most (fun y => if y = u then x v + c else x y) := ⟨fun y => by
  by_cases e : y = u
  · subst e
    obtain ⟨w, d, hs, n, h1, h2⟩ := D.wk v
    exact ⟨w, c + d, _, _, .cons h h1, by rw [if_pos rfl, h2]; omega⟩
  · obtain ⟨w, d, hs, n, h1, h2⟩ := D.wk y
    exact ⟨w, d, hs, n, h1, by rw [if_neg e]; exact h2⟩⟩
/-- all that is asked of a net of ours -/
structure Tame (A : N → N → Int → Prop) (S : List N) : Prop where
  closed : ∀ v c hs n, Wk A v v c hs n → 0 ≤ c
  minus : ∀ u v c, A u v c → -1 ≤ c
  hubs : ∀ u v c, A u v c → c < 0 → u ∈ S
theorem Ds.low {snk : N} {most : Int} {x : N → Int} {S : List N} (D : Ds A snk most x) (T : Tame A S) (hm : (S.length : Int) ≤ most) (v : N) : -(S.length : Int) ≤ x v := by
  obtain ⟨w, c, hs, n, h1, h2⟩ := D.wk v
  have := h1.least S T.closed T.minus T.hubs
  rw [h2]
  split <;> omega
theorem Ds.sink {snk : N} {most : Int} {x : N → Int} {S : List N} (D : Ds A snk most x) (T : Tame A S) (hm : (S.length : Int) ≤ most) : 0 ≤ x snk := by
  obtain ⟨w, c, hs, n, h1, h2⟩ := D.wk snk
  rw [h2]
  by_cases e : w = snk
  · subst e
    have := T.closed _ _ _ _ h1
    rw [if_pos rfl]; omega
  · have := h1.least S T.closed T.minus T.hubs
    rw [if_neg e]
    omega
theorem FlowOk.tame {snk : N} {k : Int} (W : FlowOk G ls src snk f k) (hl : ∀ i ∈ ls, G.lo i ≤ f i) (hlo : ∀ i ∈ ls, 0 ≤ G.lo i) (hpr : ∀ i ∈ ls, G.pr i = 0 ∨ G.pr i = 1) (S : List N) (hS : ∀ i ∈ ls, G.pr i = 1 → G.en i ∈ S) : Tame (G.arc ls f) S := by
  obtain ⟨p, hp⟩ := W.pot
  refine ⟨fun v c hs n h => ?_, fun u v c h => ?_, fun u v c h hc => ?_⟩
  · have := h.pot (q := p) fun u v c h => by
      obtain ⟨i, hi, ⟨h1, rfl, rfl, rfl⟩ | ⟨h1, rfl, rfl, rfl⟩⟩ := h
      · have := hp (i, true) hi h1
        have this : p (G.en i) ≤ p (G.bg i) + (G.pr i - (if f i < G.lo i then G.big else 0)) := this
        rw [if_neg (by have := hl i hi; omega)] at this
        omega
      · have := hp (i, false) hi (by show 0 < f i; have := hlo i hi; omega)
        have this : p (G.bg i) ≤ p (G.en i) + ((if f i ≤ G.lo i then G.big else 0) - G.pr i) := this
        rw [if_neg (by omega)] at this
        omega
    omega
  · obtain ⟨i, hi, ⟨h1, rfl, rfl, rfl⟩ | ⟨h1, rfl, rfl, rfl⟩⟩ := h
    · have := hpr i hi; omega
    · have := hpr i hi; omega
  · obtain ⟨i, hi, ⟨h1, rfl, rfl, rfl⟩ | ⟨h1, rfl, rfl, rfl⟩⟩ := h
    · have := hpr i hi; omega
    · have := hpr i hi
      exact hS i hi (by omega)
end
end K55M

/-! The layers' net: loads at all ticks; plans; prices bar fewer moves. -/
set_option autoImplicit false
set_option linter.all false
namespace K55M
theorem su_flatMap {A B : Type} (l : List A) (h : A → List B) (g : B → Int) : su (l.flatMap h) g = su l (fun x => su (h x) g) := by
  induction l with
  | nil => rfl
  | cons x r ih => rw [List.flatMap_cons, su_append, su_cons, ih]
theorem su_map {A B : Type} (l : List A) (h : A → B) (g : B → Int) : su (l.map h) g = su l (fun x => g (h x)) := by
  induction l with
  | nil => rfl
  | cons x r ih => rw [List.map_cons, su_cons, su_cons, ih]
theorem su_swap {A B : Type} (l : List A) (m : List B) (g : A → B → Int) : su l (fun x => su m (g x)) = su m (fun y => su l (fun x => g x y)) := by
  induction l with
  | nil => rw [su_nil, su_congr m _ (fun _ => 0) fun y _ => su_nil _, su_zero]
  | cons x r ih =>
    rw [su_cons, ih, ← su_add]
    exact su_congr _ _ _ fun y _ => (su_cons x r (fun x => g x y)).symm
theorem su_range_succ (n : Nat) (g : Nat → Int) : su (List.range (n + 1)) g = su (List.range n) g + g n := by
  rw [List.range_succ, su_append, su_cons, su_nil, Int.add_zero]
theorem su_tele (a : Nat → Int) (n : Nat) : su (List.range n) (fun t => a (t + 1) - a t) = a n - a 0 := by
  induction n with
  | zero => rw [List.range_zero, su_nil]; omega
  | succ n ih => rw [su_range_succ, ih]; omega
theorem su_one_of {L : Type} [DecidableEq L] (ls : List L) (nd : ls.Nodup) (i : L) (hi : i ∈ ls) (g : L → Int) : su ls (fun x => if x = i then g x else 0) = g i := by
  have := su_upd ls nd i hi (fun _ => 0) (g i)
  rw [su_zero] at this
  rw [su_congr ls _ (fun x => if x = i then g i else 0) fun x _ => by by_cases e : x = i <;> simp [e]]
  omega
theorem su_none_of {L : Type} [DecidableEq L] (ls : List L) (i : L) (hi : i ∉ ls) (g : L → Int) : su ls (fun x => if x = i then g x else 0) = 0 := by
  rw [su_congr ls _ (fun _ => 0) (fun x hx => by rw [if_neg (fun e : x = i => hi (e ▸ hx))]), su_zero]
theorem su_mem_le {L : Type} [DecidableEq L] (ls : List L) (g : L → Int) (H : ∀ x ∈ ls, 0 ≤ g x) : ∀ x ∈ ls, g x ≤ su ls g := by
  induction ls with
  | nil => intro x hx; cases hx
  | cons y r ih =>
    intro x hx
    rw [su_cons]
    have h2 := su_nonneg r g fun z hz => H z (List.mem_cons_of_mem _ hz)
    rcases List.mem_cons.mp hx with e | hx
    · rw [e]; omega
    · have := ih (fun z hz => H z (List.mem_cons_of_mem _ hz)) x hx
      have := H y List.mem_cons_self
      omega

section
variable {R : Type} [DecidableEq R]
inductive Nd (R : Type) where
  | src | out (t : Nat) (r : R) | inn (t : Nat) (r : R) | hub (t : Nat) | snk
  deriving DecidableEq
inductive Lb (R : Type) where
  | src (r : R) | stay (t : Nat) (r : R) | leave (t : Nat) (r : R) | come (t : Nat) (r : R) | io (t : Nat) (r : R) | snk (r : R)
  deriving DecidableEq
/-- what is given: readers, ticks, begin, bounds at ticks (0 based), all lanes -/
structure Lay (R : Type) where
  names : List R
  T : Nat
  begin_ : R → Int
  lim : Nat → R → Int × Int
  many : Int
variable (Y : Lay R)
/-- the edges of a reader at the tick t + 1 -/
def lab4 (t : Nat) (r : R) : List (Lb R) := [.stay (t + 1) r, .leave (t + 1) r, .come (t + 1) r, .io (t + 1) r]
def Lay.labs : List (Lb R) := Y.names.map .src ++ ((List.range Y.T).flatMap fun t => Y.names.flatMap fun r => lab4 t r) ++ Y.names.map .snk
def Lay.net : Net (Nd R) (Lb R) where
  bg := fun i => match i with | .src _ => .src | .stay t r => .out (t - 1) r | .leave t r => .out (t - 1) r | .come t _ => .hub t | .io t r => .inn t r | .snk r => .out Y.T r
  en := fun i => match i with | .src r => .out 0 r | .stay t r => .inn t r | .leave t _ => .hub t | .come t r => .inn t r | .io t r => .out t r | .snk _ => .snk
  lo := fun i => match i with | .io t r => (Y.lim (t - 1) r).1 | _ => 0
  hi := fun i => match i with | .src r => Y.begin_ r | .io t r => min (Y.lim (t - 1) r).2 Y.many | _ => Y.many
  pr := fun i => match i with | .leave _ _ => 1 | _ => 0
  big := (Y.T : Int) * Y.many + 1
structure Lay.Ok : Prop where
  nd : Y.names.Nodup
  b0 : ∀ r ∈ Y.names, 0 ≤ Y.begin_ r
  bs : su Y.names Y.begin_ = Y.many
  l0 : ∀ t r, 0 ≤ (Y.lim t r).1
  l1 : ∀ t r, (Y.lim t r).1 ≤ (Y.lim t r).2
variable {Y}
theorem mem_labs (i : Lb R) : i ∈ Y.labs ↔ match i with
    | .src r => r ∈ Y.names
    | .snk r => r ∈ Y.names
    | .stay t r | .leave t r | .come t r | .io t r => 1 ≤ t ∧ t ≤ Y.T ∧ r ∈ Y.names := by
  unfold Lay.labs lab4
  cases i with
  | src r => simp
  | snk r => simp
  | stay t r =>
    simp only [List.mem_append, List.mem_map, List.mem_flatMap, List.mem_range, List.mem_cons, reduceCtorEq, Lb.stay.injEq, List.not_mem_nil, or_false, false_or, and_false, exists_false]
    constructor
    · rintro ⟨a, ha, b, hb, rfl, rfl⟩; exact ⟨by omega, by omega, hb⟩
    · rintro ⟨h1, h2, h3⟩; exact ⟨t - 1, by omega, r, h3, by omega, rfl⟩
  | leave t r =>
    simp only [List.mem_append, List.mem_map, List.mem_flatMap, List.mem_range, List.mem_cons, reduceCtorEq, Lb.leave.injEq, List.not_mem_nil, or_false, false_or, and_false, exists_false]
    constructor
    · rintro ⟨a, ha, b, hb, rfl, rfl⟩; exact ⟨by omega, by omega, hb⟩
    · rintro ⟨h1, h2, h3⟩; exact ⟨t - 1, by omega, r, h3, by omega, rfl⟩
  | come t r =>
    simp only [List.mem_append, List.mem_map, List.mem_flatMap, List.mem_range, List.mem_cons, reduceCtorEq, Lb.come.injEq, List.not_mem_nil, or_false, false_or, and_false, exists_false]
    constructor
    · rintro ⟨a, ha, b, hb, rfl, rfl⟩; exact ⟨by omega, by omega, hb⟩
    · rintro ⟨h1, h2, h3⟩; exact ⟨t - 1, by omega, r, h3, by omega, rfl⟩
  | io t r =>
    simp only [List.mem_append, List.mem_map, List.mem_flatMap, List.mem_range, List.mem_cons, reduceCtorEq, Lb.io.injEq, List.not_mem_nil, or_false, false_or, and_false, exists_false]
    constructor
    · rintro ⟨a, ha, b, hb, rfl, rfl⟩; exact ⟨by omega, by omega, hb⟩
    · rintro ⟨h1, h2, h3⟩; exact ⟨t - 1, by omega, r, h3, by omega, rfl⟩
theorem su_labs (g : Lb R → Int) : su Y.labs g = su Y.names (fun r => g (.src r)) + su (List.range Y.T) (fun t => su Y.names (fun r => g (.stay (t + 1) r) + g (.leave (t + 1) r) + g (.come (t + 1) r) + g (.io (t + 1) r))) + su Y.names (fun r => g (.snk r)) := by
  unfold Lay.labs
  rw [su_append, su_append, su_map, su_map, su_flatMap]
  have e : (fun t => su (Y.names.flatMap fun r => lab4 t r) g) = fun t => su Y.names (fun r => g (.stay (t + 1) r) + g (.leave (t + 1) r) + g (.come (t + 1) r) + g (.io (t + 1) r)) := by
    funext t
    rw [su_flatMap]
    refine su_congr _ _ _ fun r _ => ?_
    unfold lab4
    rw [su_cons, su_cons, su_cons, su_cons, su_nil]
    omega
  rw [e]
theorem nodup_flatMap {A B : Type} : ∀ (l : List A) (h : A → List B), l.Nodup → (∀ x ∈ l, (h x).Nodup) → (∀ x ∈ l, ∀ y ∈ l, ∀ b, b ∈ h x → b ∈ h y → x = y) → (l.flatMap h).Nodup
  | [], h, _, _, _ => List.nodup_nil
  | x :: r, h, nd, h1, h2 => by
    obtain ⟨n1, n2⟩ := List.nodup_cons.mp nd
    rw [List.flatMap_cons]
    refine List.nodup_append.mpr ⟨h1 x List.mem_cons_self, nodup_flatMap r h n2 (fun y hy => h1 y (List.mem_cons_of_mem _ hy)) (fun y hy z hz => h2 y (List.mem_cons_of_mem _ hy) z (List.mem_cons_of_mem _ hz)), fun b hb c hc e => ?_⟩
    subst e
    obtain ⟨y, hy, hb2⟩ := List.mem_flatMap.mp hc
    have := h2 x List.mem_cons_self y (List.mem_cons_of_mem _ hy) b hb hb2
    exact n1 (this ▸ hy)
theorem nodup_map {A B : Type} : ∀ (l : List A) (h : A → B), l.Nodup → (∀ x ∈ l, ∀ y ∈ l, h x = h y → x = y) → (l.map h).Nodup
  | [], _, _, _ => List.nodup_nil
  | x :: r, h, nd, h1 => by
    obtain ⟨n1, n2⟩ := List.nodup_cons.mp nd
    refine List.nodup_cons.mpr ⟨fun hm => ?_, nodup_map r h n2 fun y hy z hz => h1 y (List.mem_cons_of_mem _ hy) z (List.mem_cons_of_mem _ hz)⟩
    obtain ⟨y, hy, e⟩ := List.mem_map.mp hm
    have := h1 x List.mem_cons_self y (List.mem_cons_of_mem _ hy) e.symm
    exact n1 (this ▸ hy)
theorem Lay.Ok.labs_nodup (O : Y.Ok) : Y.labs.Nodup := by
  unfold Lay.labs
  refine List.nodup_append.mpr ⟨List.nodup_append.mpr ⟨nodup_map _ _ O.nd fun x _ y _ e => by cases e; rfl, ?_, ?_⟩, nodup_map _ _ O.nd fun x _ y _ e => by cases e; rfl, ?_⟩
  · refine nodup_flatMap _ _ List.nodup_range (fun t _ => nodup_flatMap _ _ O.nd (fun r _ => ?_) ?_) ?_
    · unfold lab4; simp
    · intro x _ y _ b h1 h2
      unfold lab4 at h1 h2
      simp only [List.mem_cons, List.not_mem_nil, or_false] at h1 h2
      rcases h1 with rfl | rfl | rfl | rfl <;> simp at h2 <;> exact h2
    · intro x _ y _ b h1 h2
      obtain ⟨r, _, h1⟩ := List.mem_flatMap.mp h1
      obtain ⟨q, _, h2⟩ := List.mem_flatMap.mp h2
      unfold lab4 at h1 h2
      simp only [List.mem_cons, List.not_mem_nil, or_false] at h1 h2
      rcases h1 with rfl | rfl | rfl | rfl <;> simp at h2 <;> exact h2.1
  · intro a ha b hb e
    subst e
    obtain ⟨r, _, rfl⟩ := List.mem_map.mp ha
    obtain ⟨t, _, h1⟩ := List.mem_flatMap.mp hb
    obtain ⟨q, _, h2⟩ := List.mem_flatMap.mp h1
    unfold lab4 at h2
    simp at h2
  · intro a ha b hb e
    subst e
    obtain ⟨r, _, rfl⟩ := List.mem_map.mp hb
    rcases List.mem_append.mp ha with ha | ha
    · obtain ⟨q, _, e⟩ := List.mem_map.mp ha; cases e
    · obtain ⟨t, _, h1⟩ := List.mem_flatMap.mp ha
      obtain ⟨q, _, h2⟩ := List.mem_flatMap.mp h1
      unfold lab4 at h2
      simp at h2

theorem Lay.Ok.many0 (O : Y.Ok) : 0 ≤ Y.many := by rw [← O.bs]; exact su_nonneg _ _ O.b0
theorem Lay.Ok.big0 (O : Y.Ok) : 0 ≤ Y.net.big := by
  have := Int.mul_nonneg (show (0 : Int) ≤ (Y.T : Int) by omega) O.many0
  show 0 ≤ (Y.T : Int) * Y.many + 1
  omega
theorem Lay.Ok.net_lo (O : Y.Ok) : ∀ i ∈ Y.labs, 0 ≤ Y.net.lo i := fun i _ => by
  cases i <;> first | exact Int.le_refl _ | exact O.l0 _ _
theorem net_pr : ∀ i ∈ Y.labs, Y.net.pr i = 0 ∨ Y.net.pr i = 1 := fun i _ => by
  cases i <;> first | exact .inl rfl | exact .inr rfl
theorem net_pr0 : ∀ i ∈ Y.labs, 0 ≤ Y.net.pr i := fun i hi => by rcases net_pr i hi with h | h <;> omega
def hubs (Y : Lay R) : List (Nd R) := (List.range Y.T).map fun t => .hub (t + 1)
theorem hubs_len : (hubs Y).length = Y.T := by unfold hubs; rw [List.length_map, List.length_range]
theorem net_hubs : ∀ i ∈ Y.labs, Y.net.pr i = 1 → Y.net.en i ∈ hubs Y := fun i hi h => by
  cases i with
  | leave t r =>
    have := (mem_labs _).mp hi
    exact List.mem_map.mpr ⟨t - 1, List.mem_range.mpr (by omega), by show Nd.hub (t - 1 + 1) = Nd.hub t; rw [show t - 1 + 1 = t by omega]⟩
  | _ => cases h
/-- no flow at all -/
theorem Lay.Ok.start (O : Y.Ok) : FlowOk Y.net Y.labs .src .snk (fun _ => 0) 0 := by
  have hb := O.big0
  have hm := O.many0
  refine ⟨fun i _ => Int.le_refl _, fun i hi => ?_, fun x => ?_, ⟨fun v => match v with | .src => 0 | .out t _ => -(Y.net.big * t) | .inn t _ => -(Y.net.big * ((t : Int) - 1)) | .hub t => -(Y.net.big * ((t : Int) - 1)) | .snk => -(Y.net.big * Y.T), fun a ha hr => ?_⟩⟩
  · cases i with
    | src r => exact O.b0 r ((mem_labs _).mp hi)
    | io t r =>
      have := O.l0 (t - 1) r
      have := O.l1 (t - 1) r
      show 0 ≤ min (Y.lim (t - 1) r).2 Y.many
      omega
    | _ => exact hm
  · simp [su_zero]
  · obtain ⟨i, c⟩ := a
    cases c with
    | false => exact absurd (show (0 : Int) < 0 from hr) (by omega)
    | true =>
      have hi := (mem_labs i).mp ha
      cases i with
      | src r => show -(Y.net.big * ((0 : Nat) : Int)) ≤ 0 + (0 - (if (0 : Int) < 0 then Y.net.big else 0)); simp
      | snk r => show -(Y.net.big * (Y.T : Int)) ≤ -(Y.net.big * (Y.T : Int)) + (0 - (if (0 : Int) < 0 then Y.net.big else 0)); simp
      | stay t r =>
        have hi : 1 ≤ t ∧ t ≤ Y.T ∧ r ∈ Y.names := hi
        show -(Y.net.big * ((t : Int) - 1)) ≤ -(Y.net.big * ((t - 1 : Nat) : Int)) + (0 - (if (0 : Int) < 0 then Y.net.big else 0))
        rw [show ((t - 1 : Nat) : Int) = (t : Int) - 1 by omega]; simp
      | leave t r =>
        have hi : 1 ≤ t ∧ t ≤ Y.T ∧ r ∈ Y.names := hi
        show -(Y.net.big * ((t : Int) - 1)) ≤ -(Y.net.big * ((t - 1 : Nat) : Int)) + (1 - (if (0 : Int) < 0 then Y.net.big else 0))
        rw [show ((t - 1 : Nat) : Int) = (t : Int) - 1 by omega]; simp; omega
      | come t r => show -(Y.net.big * ((t : Int) - 1)) ≤ -(Y.net.big * ((t : Int) - 1)) + (0 - (if (0 : Int) < 0 then Y.net.big else 0)); simp
      | io t r =>
        have hi : 1 ≤ t ∧ t ≤ Y.T ∧ r ∈ Y.names := hi
        show -(Y.net.big * (t : Int)) ≤ -(Y.net.big * ((t : Int) - 1)) + (0 - (if (0 : Int) < (Y.lim (t - 1) r).1 then Y.net.big else 0))
        rw [Int.mul_sub, Int.mul_one]
        split <;> omega
/-- loads at all ticks, within the bounds -/
structure Lay.Loads (Y : Lay R) (l : Nat → R → Int) : Prop where
  l0 : ∀ r ∈ Y.names, l 0 r = Y.begin_ r
  lo : ∀ t, t < Y.T → ∀ r ∈ Y.names, (Y.lim t r).1 ≤ l (t + 1) r
  hi : ∀ t, t < Y.T → ∀ r ∈ Y.names, l (t + 1) r ≤ (Y.lim t r).2
  sum : ∀ t, t < Y.T → su Y.names (l (t + 1)) = Y.many
/-- how many lanes leave their readers in all -/
def Lay.pc (Y : Lay R) (l : Nat → R → Int) : Int := su (List.range Y.T) fun t => su Y.names fun r => max 0 (l t r - l (t + 1) r)
def gOf (Y : Lay R) (l : Nat → R → Int) : Lb R → Int
  | .src r => Y.begin_ r
  | .stay t r => min (l (t - 1) r) (l t r)
  | .leave t r => max 0 (l (t - 1) r - l t r)
  | .come t r => max 0 (l t r - l (t - 1) r)
  | .io t r => l t r
  | .snk r => l Y.T r
section
variable {l : Nat → R → Int}
theorem Lay.Loads.nonneg (L : Y.Loads l) (O : Y.Ok) : ∀ t, t ≤ Y.T → ∀ r ∈ Y.names, 0 ≤ l t r := fun t ht r hr => by
  cases t with
  | zero => rw [L.l0 r hr]; exact O.b0 r hr
  | succ t => exact Int.le_trans (O.l0 t r) (L.lo t (by omega) r hr)
theorem Lay.Loads.total (L : Y.Loads l) (O : Y.Ok) : ∀ t, t ≤ Y.T → su Y.names (l t) = Y.many := fun t ht => by
  cases t with
  | zero => rw [su_congr _ _ Y.begin_ fun r hr => L.l0 r hr]; exact O.bs
  | succ t => exact L.sum t (by omega)
theorem Lay.Loads.le_many (L : Y.Loads l) (O : Y.Ok) : ∀ t, t ≤ Y.T → ∀ r ∈ Y.names, l t r ≤ Y.many := fun t ht r hr => by
  rw [← L.total O t ht]
  exact su_mem_le _ _ (fun q hq => L.nonneg O t ht q hq) r hr
theorem Lay.Loads.plan (L : Y.Loads l) (O : Y.Ok) : Plan Y.net Y.labs .src .snk (gOf Y l) Y.many := by
  refine ⟨fun i hi => ?_, fun i hi => ?_, fun x => ?_⟩
  · have hi := (mem_labs i).mp hi
    cases i with
    | src r => exact O.b0 r hi
    | snk r => exact L.nonneg O _ (Nat.le_refl _) r hi
    | stay t r =>
      obtain ⟨h1, h2, h3⟩ : 1 ≤ t ∧ t ≤ Y.T ∧ r ∈ Y.names := hi
      have := L.nonneg O (t - 1) (by omega) r h3
      have := L.nonneg O t h2 r h3
      show 0 ≤ min (l (t - 1) r) (l t r)
      omega
    | leave t r => show 0 ≤ max 0 (l (t - 1) r - l t r); omega
    | come t r => show 0 ≤ max 0 (l t r - l (t - 1) r); omega
    | io t r =>
      obtain ⟨h1, h2, h3⟩ : 1 ≤ t ∧ t ≤ Y.T ∧ r ∈ Y.names := hi
      have := L.lo (t - 1) (by omega) r h3
      rw [show t - 1 + 1 = t by omega] at this
      exact this
  · have hi := (mem_labs i).mp hi
    cases i with
    | src r => exact Int.le_refl _
    | snk r => exact L.le_many O _ (Nat.le_refl _) r hi
    | stay t r =>
      obtain ⟨h1, h2, h3⟩ : 1 ≤ t ∧ t ≤ Y.T ∧ r ∈ Y.names := hi
      have := L.le_many O t h2 r h3
      show min (l (t - 1) r) (l t r) ≤ Y.many
      omega
    | leave t r =>
      obtain ⟨h1, h2, h3⟩ : 1 ≤ t ∧ t ≤ Y.T ∧ r ∈ Y.names := hi
      have := L.nonneg O t h2 r h3
      have := L.le_many O (t - 1) (by omega) r h3
      have := O.many0
      show max 0 (l (t - 1) r - l t r) ≤ Y.many
      omega
    | come t r =>
      obtain ⟨h1, h2, h3⟩ : 1 ≤ t ∧ t ≤ Y.T ∧ r ∈ Y.names := hi
      have := L.nonneg O (t - 1) (by omega) r h3
      have := L.le_many O t h2 r h3
      have := O.many0
      show max 0 (l t r - l (t - 1) r) ≤ Y.many
      omega
    | io t r =>
      obtain ⟨h1, h2, h3⟩ : 1 ≤ t ∧ t ≤ Y.T ∧ r ∈ Y.names := hi
      have := L.le_many O t h2 r h3
      have := L.hi (t - 1) (by omega) r h3
      rw [show t - 1 + 1 = t by omega] at this
      show l t r ≤ min (Y.lim (t - 1) r).2 Y.many
      omega
  · rw [su_labs]
    have e1 : su Y.names (fun r => gOf Y l (.src r) * (x (Y.net.en (.src r)) - x (Y.net.bg (.src r)))) = su Y.names (fun r => l 0 r * x (.out 0 r)) - Y.many * x .src := by
      rw [← O.bs, Int.mul_comm, ← su_mul, ← su_sub]
      refine su_congr _ _ _ fun r hr => ?_
      show Y.begin_ r * (x (.out 0 r) - x .src) = _
      rw [L.l0 r hr, Int.mul_sub, Int.mul_comm (x .src)]
    have e3 : su Y.names (fun r => gOf Y l (.snk r) * (x (Y.net.en (.snk r)) - x (Y.net.bg (.snk r)))) = Y.many * x .snk - su Y.names (fun r => l Y.T r * x (.out Y.T r)) := by
      rw [← L.total O Y.T (Nat.le_refl _), Int.mul_comm, ← su_mul, ← su_sub]
      refine su_congr _ _ _ fun r hr => ?_
      show l Y.T r * (x .snk - x (.out Y.T r)) = _
      rw [Int.mul_sub, Int.mul_comm (x .snk)]
    have e2 : su (List.range Y.T) (fun t => su Y.names (fun r => gOf Y l (.stay (t + 1) r) * (x (Y.net.en (.stay (t + 1) r)) - x (Y.net.bg (.stay (t + 1) r))) + gOf Y l (.leave (t + 1) r) * (x (Y.net.en (.leave (t + 1) r)) - x (Y.net.bg (.leave (t + 1) r)))
        + gOf Y l (.come (t + 1) r) * (x (Y.net.en (.come (t + 1) r)) - x (Y.net.bg (.come (t + 1) r))) + gOf Y l (.io (t + 1) r) * (x (Y.net.en (.io (t + 1) r)) - x (Y.net.bg (.io (t + 1) r)))))
        = su (List.range Y.T) (fun t => su Y.names (fun r => l (t + 1) r * x (.out (t + 1) r)) - su Y.names (fun r => l t r * x (.out t r))) := by
      refine su_congr _ _ _ fun t ht => ?_
      have ht := List.mem_range.mp ht
      have hz : su Y.names (fun r => x (.hub (t + 1)) * (l t r - l (t + 1) r)) = 0 := by
        rw [su_mul, su_sub, L.total O t (by omega), L.total O (t + 1) (by omega), Int.sub_self, Int.mul_zero]
      rw [← su_sub]
      have hadd := su_add Y.names (fun r => l (t + 1) r * x (.out (t + 1) r) - l t r * x (.out t r)) (fun r => x (.hub (t + 1)) * (l t r - l (t + 1) r))
      rw [hz, Int.add_zero] at hadd
      rw [← hadd]
      refine su_congr _ _ _ fun r hr => ?_
      show min (l (t + 1 - 1) r) (l (t + 1) r) * (x (.inn (t + 1) r) - x (.out (t + 1 - 1) r)) + max 0 (l (t + 1 - 1) r - l (t + 1) r) * (x (.hub (t + 1)) - x (.out (t + 1 - 1) r)) + max 0 (l (t + 1) r - l (t + 1 - 1) r) * (x (.inn (t + 1) r) - x (.hub (t + 1))) + l (t + 1) r * (x (.out (t + 1) r) - x (.inn (t + 1) r)) = _
      rw [show t + 1 - 1 = t by omega]
      by_cases h : l t r ≤ l (t + 1) r
      · rw [Int.min_eq_left h, Int.max_eq_left (by omega), Int.max_eq_right (by omega)]
        simp only [Int.mul_sub, Int.sub_mul, Int.zero_mul, Int.mul_comm (x _)]
        omega
      · rw [Int.min_eq_right (by omega), Int.max_eq_right (by omega), Int.max_eq_left (by omega)]
        simp only [Int.mul_sub, Int.sub_mul, Int.zero_mul, Int.mul_comm (x _)]
        omega
    rw [e1, e2, e3, su_tele (fun t => su Y.names (fun r => l t r * x (.out t r))), Int.mul_sub]
    omega
theorem Lay.Loads.cost (L : Y.Loads l) (O : Y.Ok) : su Y.labs (fun i => Y.net.pr i * gOf Y l i) = Y.pc l := by
  rw [su_labs]
  have e1 : su Y.names (fun r => Y.net.pr (.src r) * gOf Y l (.src r)) = 0 := by
    rw [su_congr _ _ (fun _ => 0) fun r _ => by show 0 * _ = (0 : Int); rw [Int.zero_mul], su_zero]
  have e3 : su Y.names (fun r => Y.net.pr (.snk r) * gOf Y l (.snk r)) = 0 := by
    rw [su_congr _ _ (fun _ => 0) fun r _ => by show 0 * _ = (0 : Int); rw [Int.zero_mul], su_zero]
  rw [e1, e3, Int.zero_add, Int.add_zero]
  refine su_congr _ _ _ fun t _ => su_congr _ _ _ fun r _ => ?_
  show 0 * _ + 1 * max 0 (l (t + 1 - 1) r - l (t + 1) r) + 0 * _ + 0 * _ = _
  rw [show t + 1 - 1 = t by omega]
  omega
theorem Lay.Loads.cheap (L : Y.Loads l) (O : Y.Ok) : Y.pc l < Y.net.big := by
  have h : Y.pc l ≤ su (List.range Y.T) (fun _ => Y.many) := su_le _ _ _ fun t ht => by
    have ht := List.mem_range.mp ht
    rw [← L.total O t (by omega)]
    exact su_le _ _ _ fun r hr => by
      have := L.nonneg O t (by omega) r hr
      have := L.nonneg O (t + 1) (by omega) r hr
      omega
  have e : su (List.range Y.T) (fun _ => Y.many) = (Y.T : Int) * Y.many := by
    have := su_mul (List.range Y.T) Y.many (fun _ => 1)
    rw [su_one, List.length_range] at this
    rw [Int.mul_comm, ← this]
    exact su_congr _ _ _ fun _ _ => (Int.mul_one _).symm
  show Y.pc l < (Y.T : Int) * Y.many + 1
  omega
end

/-! ### there is a plan -/
theorem fill_up : ∀ (ns : List R) (lo hi : R → Int) (m : Int), ns.Nodup → (∀ r ∈ ns, lo r ≤ hi r) → su ns lo ≤ m → m ≤ su ns hi → ∃ v : R → Int, (∀ r ∈ ns, lo r ≤ v r ∧ v r ≤ hi r) ∧ su ns v = m
  | [], lo, hi, m, _, _, h1, h2 => ⟨lo, ⟨fun r h => (nomatch h), by rw [su_nil] at *; omega⟩⟩
  | x :: ns, lo, hi, m, nd, h, h1, h2 => by
    obtain ⟨n1, n2⟩ := List.nodup_cons.mp nd
    rw [su_cons] at h1 h2
    have hx := h x List.mem_cons_self
    obtain ⟨v, g1, g2⟩ := fill_up ns lo hi (m - max (lo x) (m - su ns hi)) n2 (fun r hr => h r (List.mem_cons_of_mem _ hr)) (by have := su_le ns lo hi fun r hr => h r (List.mem_cons_of_mem _ hr); omega) (by omega)
    have e : su ns (fun r => if r = x then max (lo x) (m - su ns hi) else v r) = su ns v := su_congr _ _ _ fun r hr => if_neg fun e : r = x => n1 (e ▸ hr)
    refine ⟨fun r => if r = x then max (lo x) (m - su ns hi) else v r, fun r hr => ?_, ?_⟩
    · by_cases e : r = x
      · subst e; simp only [if_true]; omega
      · simp only [if_neg e]
        exact g1 r ((List.mem_cons.mp hr).resolve_left e)
    · rw [su_cons, e, g2]
      simp only [if_true]
      omega
theorem Lay.Ok.has_loads (O : Y.Ok) (h : ∀ t, t < Y.T → su Y.names (fun r => (Y.lim t r).1) ≤ Y.many ∧ Y.many ≤ su Y.names (fun r => (Y.lim t r).2)) : ∃ l, Y.Loads l := by
  have key : ∀ t, ∃ v : R → Int, t < Y.T → (∀ r ∈ Y.names, (Y.lim t r).1 ≤ v r ∧ v r ≤ (Y.lim t r).2) ∧ su Y.names v = Y.many := fun t => by
    by_cases ht : t < Y.T
    · obtain ⟨v, h1, h2⟩ := fill_up Y.names (fun r => (Y.lim t r).1) (fun r => (Y.lim t r).2) Y.many O.nd (fun r _ => O.l1 t r) (h t ht).1 (h t ht).2
      exact ⟨v, fun _ => ⟨h1, h2⟩⟩
    · exact ⟨fun _ => 0, fun z => absurd z ht⟩
  refine ⟨fun t => match t with | 0 => Y.begin_ | t + 1 => Classical.choose (key t), fun r _ => rfl, fun t ht r hr => ?_, fun t ht r hr => ?_, fun t ht => ?_⟩
  · exact ((Classical.choose_spec (key t) ht).1 r hr).1
  · exact ((Classical.choose_spec (key t) ht).1 r hr).2
  · exact (Classical.choose_spec (key t) ht).2

/-! ### the loads of a full flow -/
section
variable {f : Lb R → Int}
def lf (Y : Lay R) (f : Lb R → Int) : Nat → R → Int
  | 0 => Y.begin_
  | t + 1 => fun r => f (.io (t + 1) r)
theorem FlowOk.src_full (W : FlowOk Y.net Y.labs .src .snk f Y.many) (O : Y.Ok) : ∀ r ∈ Y.names, f (.src r) = Y.begin_ r := by
  have v := W.val fun v => if v = .src then 1 else 0
  rw [su_labs] at v
  have e1 : su Y.names (fun r => f (.src r) * ((if Y.net.en (.src r) = .src then (1 : Int) else 0) - (if Y.net.bg (.src r) = .src then 1 else 0))) = - su Y.names (fun r => f (.src r)) := by
    have := su_mul Y.names (-1) (fun r => f (.src r))
    rw [Int.neg_mul, Int.one_mul] at this
    rw [← this]
    refine su_congr _ _ _ fun r _ => ?_
    show f (.src r) * ((if Nd.out 0 r = .src then (1 : Int) else 0) - (if (Nd.src : Nd R) = .src then 1 else 0)) = _
    simp
  have e2 : su (List.range Y.T) (fun t => su Y.names (fun r => f (.stay (t + 1) r) * ((if Y.net.en (.stay (t + 1) r) = .src then (1 : Int) else 0) - (if Y.net.bg (.stay (t + 1) r) = .src then 1 else 0)) + f (.leave (t + 1) r) * ((if Y.net.en (.leave (t + 1) r) = .src then (1 : Int) else 0) - (if Y.net.bg (.leave (t + 1) r) = .src then 1 else 0))
      + f (.come (t + 1) r) * ((if Y.net.en (.come (t + 1) r) = .src then (1 : Int) else 0) - (if Y.net.bg (.come (t + 1) r) = .src then 1 else 0)) + f (.io (t + 1) r) * ((if Y.net.en (.io (t + 1) r) = .src then (1 : Int) else 0) - (if Y.net.bg (.io (t + 1) r) = .src then 1 else 0)))) = 0 := by
    rw [su_congr _ _ (fun _ => 0), su_zero]
    intro t _
    rw [su_congr _ _ (fun _ => 0), su_zero]
    intro r _
    simp [Lay.net]
  have e3 : su Y.names (fun r => f (.snk r) * ((if Y.net.en (.snk r) = .src then (1 : Int) else 0) - (if Y.net.bg (.snk r) = .src then 1 else 0))) = 0 := by
    rw [su_congr _ _ (fun _ => 0), su_zero]
    intro r _
    simp [Lay.net]
  rw [e1, e2, e3] at v
  have v : - su Y.names (fun r => f (.src r)) + 0 + 0 = Y.many * (0 - 1) := by rw [v]; simp
  have hs : su Y.names (fun r => Y.begin_ r - f (.src r)) = 0 := by rw [su_sub, O.bs]; omega
  have hz := su_all_zero Y.names (fun r => Y.begin_ r - f (.src r)) (fun r hr => by
    have := W.hi (.src r) ((mem_labs _).mpr hr)
    have this : f (.src r) ≤ Y.begin_ r := this
    omega) (by omega)
  intro r hr
  have := hz r hr
  omega
/-- what comes into out t r -/
def inflow (f : Lb R → Int) (t : Nat) (r : R) : Int := match t with | 0 => f (.src r) | t + 1 => f (.io (t + 1) r)
theorem FlowOk.at_out (W : FlowOk Y.net Y.labs .src .snk f Y.many) (O : Y.Ok) (t : Nat) (r : R) (ht : t < Y.T) (hr : r ∈ Y.names) : inflow f t r = f (.stay (t + 1) r) + f (.leave (t + 1) r) := by
  have v := W.val fun v => if v = .out t r then 1 else 0
  have nd := O.labs_nodup
  have e : su Y.labs (fun i => f i * ((if Y.net.en i = .out t r then (1 : Int) else 0) - (if Y.net.bg i = .out t r then 1 else 0)))
      = su Y.labs (fun i => if i = (match t with | 0 => .src r | t + 1 => .io (t + 1) r) then f i else 0) - su Y.labs (fun i => if i = .stay (t + 1) r then f i else 0) - su Y.labs (fun i => if i = .leave (t + 1) r then f i else 0) := by
    rw [← su_sub, ← su_sub]
    refine su_congr _ _ _ fun i hi => ?_
    have hi := (mem_labs i).mp hi
    cases i with
    | src q => cases t <;> simp [Lay.net] <;> (by_cases e : q = r <;> simp [e])
    | snk q =>
      have : ¬ Y.T = t := by omega
      cases t <;> simp [Lay.net, this]
    | come s q => cases t <;> simp [Lay.net]
    | stay s q =>
      obtain ⟨h1, h2, h3⟩ : 1 ≤ s ∧ s ≤ Y.T ∧ q ∈ Y.names := hi
      have : (s - 1 = t) ↔ s = t + 1 := by omega
      cases t <;> simp [Lay.net, this] <;> split <;> simp
    | leave s q =>
      obtain ⟨h1, h2, h3⟩ : 1 ≤ s ∧ s ≤ Y.T ∧ q ∈ Y.names := hi
      have : (s - 1 = t) ↔ s = t + 1 := by omega
      cases t <;> simp [Lay.net, this] <;> split <;> simp
    | io s q =>
      obtain ⟨h1, h2, h3⟩ : 1 ≤ s ∧ s ≤ Y.T ∧ q ∈ Y.names := hi
      cases t with
      | zero =>
        have : ¬ s = 0 := by omega
        simp [Lay.net, this]
      | succ t => simp [Lay.net] <;> split <;> simp
  rw [e, su_one_of Y.labs nd (.stay (t + 1) r) ((mem_labs _).mpr ⟨by omega, by omega, hr⟩), su_one_of Y.labs nd (.leave (t + 1) r) ((mem_labs _).mpr ⟨by omega, by omega, hr⟩)] at v
  have v : _ = Y.many * ((if (Nd.snk : Nd R) = .out t r then (1 : Int) else 0) - (if (Nd.src : Nd R) = .out t r then 1 else 0)) := v
  simp only [reduceCtorEq, if_false, Int.sub_self, Int.mul_zero] at v
  cases t with
  | zero =>
    rw [su_one_of Y.labs nd (.src r) ((mem_labs _).mpr hr)] at v
    show f (.src r) = _
    omega
  | succ t =>
    rw [su_one_of Y.labs nd (.io (t + 1) r) ((mem_labs _).mpr ⟨by omega, by omega, hr⟩)] at v
    show f (.io (t + 1) r) = _
    omega
theorem FlowOk.at_inn (W : FlowOk Y.net Y.labs .src .snk f Y.many) (O : Y.Ok) (t : Nat) (r : R) (ht : t < Y.T) (hr : r ∈ Y.names) : f (.io (t + 1) r) = f (.stay (t + 1) r) + f (.come (t + 1) r) := by
  have v := W.val fun v => if v = .inn (t + 1) r then 1 else 0
  have nd := O.labs_nodup
  have e : su Y.labs (fun i => f i * ((if Y.net.en i = .inn (t + 1) r then (1 : Int) else 0) - (if Y.net.bg i = .inn (t + 1) r then 1 else 0)))
      = su Y.labs (fun i => if i = .stay (t + 1) r then f i else 0) + su Y.labs (fun i => if i = .come (t + 1) r then f i else 0) - su Y.labs (fun i => if i = .io (t + 1) r then f i else 0) := by
    rw [← su_add, ← su_sub]
    refine su_congr _ _ _ fun i hi => ?_
    cases i <;> simp [Lay.net] <;> split <;> simp
  rw [e, su_one_of Y.labs nd (.stay (t + 1) r) ((mem_labs _).mpr ⟨by omega, by omega, hr⟩), su_one_of Y.labs nd (.come (t + 1) r) ((mem_labs _).mpr ⟨by omega, by omega, hr⟩), su_one_of Y.labs nd (.io (t + 1) r) ((mem_labs _).mpr ⟨by omega, by omega, hr⟩)] at v
  have v : _ = Y.many * ((if (Nd.snk : Nd R) = .inn (t + 1) r then (1 : Int) else 0) - (if (Nd.src : Nd R) = .inn (t + 1) r then 1 else 0)) := v
  simp only [reduceCtorEq, if_false, Int.sub_self, Int.mul_zero] at v
  omega
theorem FlowOk.at_end (W : FlowOk Y.net Y.labs .src .snk f Y.many) (O : Y.Ok) (r : R) (hr : r ∈ Y.names) : inflow f Y.T r = f (.snk r) := by
  have v := W.val fun v => if v = .out Y.T r then 1 else 0
  have nd := O.labs_nodup
  have e : su Y.labs (fun i => f i * ((if Y.net.en i = .out Y.T r then (1 : Int) else 0) - (if Y.net.bg i = .out Y.T r then 1 else 0)))
      = su Y.labs (fun i => if i = (match Y.T with | 0 => .src r | t + 1 => .io (t + 1) r) then f i else 0) - su Y.labs (fun i => if i = .snk r then f i else 0) := by
    rw [← su_sub]
    refine su_congr _ _ _ fun i hi => ?_
    have hi := (mem_labs i).mp hi
    cases i with
    | src q =>
      have hT : Y.net.en (.src q) = .out 0 q := rfl
      have hB : Y.net.bg (.src q) = .src := rfl
      rw [hT, hB]
      cases h : Y.T <;> simp <;> (by_cases e : q = r <;> simp [e])
    | snk q =>
      have hT : Y.net.en (.snk q) = .snk := rfl
      have hB : Y.net.bg (.snk q) = .out Y.T q := rfl
      rw [hT, hB]
      cases h : Y.T <;> simp <;> (by_cases e : q = r <;> simp [e])
    | come s q =>
      have hT : Y.net.en (.come s q) = .inn s q := rfl
      have hB : Y.net.bg (.come s q) = .hub s := rfl
      rw [hT, hB]
      cases h : Y.T <;> simp
    | stay s q =>
      obtain ⟨h1, h2, h3⟩ : 1 ≤ s ∧ s ≤ Y.T ∧ q ∈ Y.names := hi
      have hT : Y.net.en (.stay s q) = .inn s q := rfl
      have hB : Y.net.bg (.stay s q) = .out (s - 1) q := rfl
      rw [hT, hB]
      cases h : Y.T with
      | zero =>
        have : ¬ s - 1 = 0 := by omega
        simp [this]
      | succ n =>
        have : ¬ s - 1 = n + 1 := by omega
        simp [this]
    | leave s q =>
      obtain ⟨h1, h2, h3⟩ : 1 ≤ s ∧ s ≤ Y.T ∧ q ∈ Y.names := hi
      have hT : Y.net.en (.leave s q) = .hub s := rfl
      have hB : Y.net.bg (.leave s q) = .out (s - 1) q := rfl
      rw [hT, hB]
      cases h : Y.T with
      | zero =>
        have : ¬ s - 1 = 0 := by omega
        simp [this]
      | succ n =>
        have : ¬ s - 1 = n + 1 := by omega
        simp [this]
    | io s q =>
      obtain ⟨h1, h2, h3⟩ : 1 ≤ s ∧ s ≤ Y.T ∧ q ∈ Y.names := hi
      have hT : Y.net.en (.io s q) = .out s q := rfl
      have hB : Y.net.bg (.io s q) = .inn s q := rfl
      rw [hT, hB]
      cases h : Y.T with
      | zero => omega
      | succ t => simp <;> split <;> simp
  rw [e, su_one_of Y.labs nd (.snk r) ((mem_labs _).mpr hr)] at v
  have v : _ = Y.many * ((if (Nd.snk : Nd R) = .out Y.T r then (1 : Int) else 0) - (if (Nd.src : Nd R) = .out Y.T r then 1 else 0)) := v
  simp only [reduceCtorEq, if_false, Int.sub_self, Int.mul_zero] at v
  unfold inflow
  cases h : Y.T with
  | zero =>
    rw [h] at v
    rw [su_one_of Y.labs nd (.src r) ((mem_labs _).mpr hr)] at v
    show f (.src r) = _
    omega
  | succ t =>
    rw [h] at v
    rw [su_one_of Y.labs nd (.io (t + 1) r) ((mem_labs _).mpr ⟨by omega, by omega, hr⟩)] at v
    show f (.io (t + 1) r) = _
    omega
theorem FlowOk.inflow_lf (W : FlowOk Y.net Y.labs .src .snk f Y.many) (O : Y.Ok) (t : Nat) (r : R) (hr : r ∈ Y.names) : inflow f t r = lf Y f t r := by
  cases t with
  | zero => exact W.src_full O r hr
  | succ t => rfl
/-- the loads keep the bounds -/
theorem FlowOk.loads (W : FlowOk Y.net Y.labs .src .snk f Y.many) (O : Y.Ok) (hl : ∀ i ∈ Y.labs, Y.net.lo i ≤ f i) : Y.Loads (lf Y f) := by
  refine ⟨fun r _ => rfl, fun t ht r hr => ?_, fun t ht r hr => ?_, fun t ht => ?_⟩
  · exact hl (.io (t + 1) r) ((mem_labs _).mpr ⟨by omega, by omega, hr⟩)
  · have := W.hi (.io (t + 1) r) ((mem_labs _).mpr ⟨by omega, by omega, hr⟩)
    have this : f (.io (t + 1) r) ≤ min (Y.lim t r).2 Y.many := this
    show f (.io (t + 1) r) ≤ _
    omega
  · have v := W.val fun v => match v with | .src => 1 | .out s _ => if s < t + 1 then 1 else 0 | .inn s _ => if s ≤ t + 1 then 1 else 0 | .hub s => if s ≤ t + 1 then 1 else 0 | .snk => 0
    have e : su Y.labs (fun i => f i * ((match Y.net.en i with | .src => (1 : Int) | .out s _ => if s < t + 1 then 1 else 0 | .inn s _ => if s ≤ t + 1 then 1 else 0 | .hub s => if s ≤ t + 1 then 1 else 0 | .snk => 0) - (match Y.net.bg i with | .src => 1 | .out s _ => if s < t + 1 then 1 else 0 | .inn s _ => if s ≤ t + 1 then 1 else 0 | .hub s => if s ≤ t + 1 then 1 else 0 | .snk => 0)))
        = su Y.labs (fun i => match i with | .io s r => if s = t + 1 then - f (.io (t + 1) r) else 0 | _ => 0) := by
      refine su_congr _ _ _ fun i hi => ?_
      have hi := (mem_labs i).mp hi
      cases i with
      | src q => simp [Lay.net]
      | snk q =>
        have : ¬ Y.T < t + 1 := by omega
        simp [Lay.net, this]
      | come s q => simp [Lay.net]
      | stay s q =>
        obtain ⟨h1, h2, h3⟩ : 1 ≤ s ∧ s ≤ Y.T ∧ q ∈ Y.names := hi
        have : (s - 1 < t + 1) ↔ s ≤ t + 1 := by omega
        simp [Lay.net, this]
      | leave s q =>
        obtain ⟨h1, h2, h3⟩ : 1 ≤ s ∧ s ≤ Y.T ∧ q ∈ Y.names := hi
        have : (s - 1 < t + 1) ↔ s ≤ t + 1 := by omega
        simp [Lay.net, this]
      | io s q =>
        simp only [Lay.net]
        by_cases h : s = t + 1
        · subst h; simp
        · rw [if_neg h]
          by_cases h2 : s ≤ t + 1
          · rw [if_pos h2, if_pos (by omega)]; simp
          · rw [if_neg h2, if_neg (by omega)]; simp
    rw [e, su_labs] at v
    rw [su_congr Y.names _ (fun _ => 0) fun _ _ => rfl, su_zero] at v
    have e2 : su (List.range Y.T) (fun s => su Y.names (fun r => (0 : Int) + 0 + 0 + (if s + 1 = t + 1 then - f (.io (t + 1) r) else 0))) = su (List.range Y.T) (fun s => if s = t then - su Y.names (fun r => f (.io (t + 1) r)) else 0) := by
      refine su_congr _ _ _ fun s _ => ?_
      by_cases h : s = t
      · subst h
        rw [if_pos rfl]
        have := su_mul Y.names (-1) (fun r => f (.io (s + 1) r))
        rw [Int.neg_mul, Int.one_mul] at this
        rw [← this]
        exact su_congr _ _ _ fun r _ => by rw [if_pos rfl]; omega
      · rw [if_neg h, su_congr _ _ (fun _ => 0), su_zero]
        intro r _
        rw [if_neg (by omega)]
        rfl
    have v : 0 + su (List.range Y.T) (fun s => su Y.names (fun r => (0 : Int) + 0 + 0 + (if s + 1 = t + 1 then - f (.io (t + 1) r) else 0))) + 0 = Y.many * (0 - 1) := v
    rw [e2, su_one_of (List.range Y.T) List.nodup_range t (List.mem_range.mpr ht)] at v
    show su Y.names (fun r => f (.io (t + 1) r)) = Y.many
    omega
end
end
end K55M

/-! Prices bar fewer moves: the least costs of all readers, each by itself, have the moves as their sum. -/
set_option autoImplicit false
set_option linter.all false
namespace K55M
theorem su_range_succ' (n : Nat) (g : Nat → Int) : su (List.range (n + 1)) g = g 0 + su (List.range n) (fun t => g (t + 1)) := by
  rw [List.range_succ_eq_map, su_cons, su_map]
/-- what a change of a load costs -/
def cst (b a p : Int) : Int := max 0 (b - a) - p * (b - a)
def pco : Int → List Int → List Int → Int
  | b, x :: xs, p :: ps => cst b x p + pco x xs ps
  | _, _, _ => 0
def InL : List Int → List (Int × Int) → Prop
  | [], [] => True
  | x :: xs, q :: qs => (q.1 ≤ x ∧ x ≤ q.2) ∧ InL xs qs
  | _, _ => False
structure IsMin (c b : Int) (qs : List (Int × Int)) (ps : List Int) : Prop where
  ex : ∃ xs, InL xs qs ∧ pco b xs ps = c
  le : ∀ xs, InL xs qs → c ≤ pco b xs ps
theorem IsMin.uniq {c d b : Int} {qs : List (Int × Int)} {ps : List Int} (h : IsMin c b qs ps) (k : IsMin d b qs ps) : c = d := by
  obtain ⟨xs, h1, h2⟩ := h.ex
  obtain ⟨ys, k1, k2⟩ := k.ex
  have a := h.le ys k1
  have b := k.le xs h1
  omega
theorem pco_sum : ∀ (n : Nat) (m : Nat → Int) (pr : Nat → Int), pco (m 0) ((List.range n).map fun t => m (t + 1)) ((List.range n).map pr) = su (List.range n) fun t => cst (m t) (m (t + 1)) (pr t)
  | 0, m, pr => rfl
  | n + 1, m, pr => by
    rw [List.range_succ_eq_map, List.map_cons, List.map_cons, List.map_map, List.map_map]
    show cst (m 0) (m 1) (pr 0) + pco (m 1) ((List.range n).map fun t => m (t + 1 + 1)) ((List.range n).map fun t => pr (t + 1)) = _
    rw [pco_sum n (fun t => m (t + 1)) (fun t => pr (t + 1)), su_cons, su_map]
theorem inL_map : ∀ (n : Nat) (m : Nat → Int) (q : Nat → Int × Int), (∀ t, t < n → (q t).1 ≤ m t ∧ m t ≤ (q t).2) → InL ((List.range n).map m) ((List.range n).map q)
  | 0, _, _, _ => True.intro
  | n + 1, m, q, h => by
    rw [List.range_succ_eq_map, List.map_cons, List.map_cons, List.map_map, List.map_map]
    exact ⟨h 0 (by omega), inL_map n (fun t => m (t + 1)) (fun t => q (t + 1)) fun t ht => h (t + 1) (by omega)⟩
theorem of_inL : ∀ (n : Nat) (xs : List Int) (q : Nat → Int × Int), InL xs ((List.range n).map q) → ∃ m : Nat → Int, xs = (List.range n).map m ∧ ∀ t, t < n → (q t).1 ≤ m t ∧ m t ≤ (q t).2
  | 0, [], _, _ => ⟨fun _ => 0, rfl, fun t ht => absurd ht (by omega)⟩
  | 0, x :: xs, _, h => h.elim
  | n + 1, xs, q, h => by
    rw [List.range_succ_eq_map, List.map_cons, List.map_map] at h
    cases xs with
    | nil => exact h.elim
    | cons x xs =>
      obtain ⟨h1, h2⟩ := h
      obtain ⟨m, e, hm⟩ := of_inL n xs (fun t => q (t + 1)) h2
      refine ⟨fun t => match t with | 0 => x | t + 1 => m t, ?_, fun t ht => ?_⟩
      · rw [List.range_succ_eq_map, List.map_cons, List.map_map, e]
        rfl
      · cases t with
        | zero => exact h1
        | succ t => exact hm t (by omega)
section
variable {R : Type} [DecidableEq R] {Y : Lay R} {f : Lb R → Int} {x : Nd R → Int}
theorem edge_ineq (hA : ∀ u v c, Y.net.arc Y.labs f u v c → x u ≤ x v + c) {i : Lb R} (hi : i ∈ Y.labs) (h1 : Y.net.lo i ≤ f i) (h2 : f i ≤ Y.net.hi i) {g : Int} (g1 : Y.net.lo i ≤ g) (g2 : g ≤ Y.net.hi i) :
    (g - f i) * (x (Y.net.bg i) - x (Y.net.en i)) ≤ Y.net.pr i * (g - f i) := by
  rcases Int.lt_trichotomy (f i) g with h | h | h
  · have := hA _ _ _ ⟨i, hi, .inl ⟨by omega, rfl, rfl, rfl⟩⟩
    have := Int.mul_le_mul_of_nonneg_left (show x (Y.net.bg i) - x (Y.net.en i) ≤ Y.net.pr i by omega) (show 0 ≤ g - f i by omega)
    rw [Int.mul_comm (Y.net.pr i)]
    exact this
  · rw [h, Int.sub_self, Int.zero_mul, Int.mul_zero]; exact Int.le_refl _
  · have := hA _ _ _ ⟨i, hi, .inr ⟨by omega, rfl, rfl, rfl⟩⟩
    have := Int.mul_le_mul_of_nonneg_left (show Y.net.pr i ≤ x (Y.net.bg i) - x (Y.net.en i) by omega) (show 0 ≤ f i - g by omega)
    rw [show g - f i = -(f i - g) by omega, Int.neg_mul, Int.mul_neg, Int.mul_comm (Y.net.pr i)]
    omega
theorem four (s' s m l m1 l1 a i h a1 : Int) : (s' - s) * (a - i) + ((m - s') - (l - s)) * (a - h) + ((m1 - s') - (l1 - s)) * (h - i) + (m1 - l1) * (i - a1) = (m - l) * a - (m1 - l1) * a1 - ((m - l) - (m1 - l1)) * h := by
  simp only [Int.sub_mul, Int.mul_sub]
  omega
/-- no row of loads of a reader costs less than that of the flow -/
theorem FlowOk.reader (W : FlowOk Y.net Y.labs .src .snk f Y.many) (O : Y.Ok) (hl : ∀ i ∈ Y.labs, Y.net.lo i ≤ f i) (hA : ∀ u v c, Y.net.arc Y.labs f u v c → x u ≤ x v + c) (h0 : x .snk = 0) {r : R} (hr : r ∈ Y.names)
    {m : Nat → Int} (m0 : m 0 = Y.begin_ r) (hm : ∀ t, t < Y.T → (Y.lim t r).1 ≤ m (t + 1) ∧ m (t + 1) ≤ min (Y.lim t r).2 Y.many) :
    su (List.range Y.T) (fun t => cst (lf Y f t r) (lf Y f (t + 1) r) (- x (.hub (t + 1)))) ≤ su (List.range Y.T) (fun t => cst (m t) (m (t + 1)) (- x (.hub (t + 1)))) := by
  have L := W.loads O hl
  have mb : ∀ t, t ≤ Y.T → 0 ≤ m t ∧ m t ≤ Y.many := fun t ht => by
    cases t with
    | zero =>
      rw [m0]
      exact ⟨O.b0 r hr, by rw [← O.bs]; exact su_mem_le _ _ O.b0 r hr⟩
    | succ t =>
      have := hm t (by omega)
      have := O.l0 t r
      omega
  -- one tick
  have step : ∀ t, t < Y.T → (m t - lf Y f t r) * x (.out t r) - (m (t + 1) - lf Y f (t + 1) r) * x (.out (t + 1) r) - ((m t - lf Y f t r) - (m (t + 1) - lf Y f (t + 1) r)) * x (.hub (t + 1)) ≤ max 0 (m t - m (t + 1)) - f (.leave (t + 1) r) := fun t ht => by
    have a1 := (W.inflow_lf O t r hr).symm.trans (W.at_out O t r ht hr)
    have a2 : lf Y f (t + 1) r = _ := W.at_inn O t r ht hr
    have b0 := mb t (by omega)
    have b1 := mb (t + 1) (by omega)
    have mem : ∀ i : Lb R, (i = .stay (t + 1) r ∨ i = .leave (t + 1) r ∨ i = .come (t + 1) r ∨ i = .io (t + 1) r) → i ∈ Y.labs := fun i h => by
      rcases h with rfl | rfl | rfl | rfl <;> exact (mem_labs _).mpr ⟨by omega, by omega, hr⟩
    have s1 := edge_ineq hA (mem (.stay (t + 1) r) (.inl rfl)) (hl _ (mem _ (.inl rfl))) (W.hi _ (mem _ (.inl rfl))) (g := min (m t) (m (t + 1))) (by show 0 ≤ min (m t) (m (t + 1)); omega) (by show min (m t) (m (t + 1)) ≤ Y.many; omega)
    have s2 := edge_ineq hA (mem (.leave (t + 1) r) (.inr (.inl rfl))) (hl _ (mem _ (.inr (.inl rfl)))) (W.hi _ (mem _ (.inr (.inl rfl)))) (g := m t - min (m t) (m (t + 1))) (by show 0 ≤ m t - min (m t) (m (t + 1)); omega) (by show m t - min (m t) (m (t + 1)) ≤ Y.many; omega)
    have s3 := edge_ineq hA (mem (.come (t + 1) r) (.inr (.inr (.inl rfl)))) (hl _ (mem _ (.inr (.inr (.inl rfl))))) (W.hi _ (mem _ (.inr (.inr (.inl rfl))))) (g := m (t + 1) - min (m t) (m (t + 1))) (by show 0 ≤ m (t + 1) - min (m t) (m (t + 1)); omega) (by show m (t + 1) - min (m t) (m (t + 1)) ≤ Y.many; omega)
    have s4 := edge_ineq hA (mem (.io (t + 1) r) (.inr (.inr (.inr rfl)))) (hl _ (mem _ (.inr (.inr (.inr rfl))))) (W.hi _ (mem _ (.inr (.inr (.inr rfl))))) (g := m (t + 1)) (hm t ht).1 (hm t ht).2
    have s1 : (min (m t) (m (t + 1)) - f (.stay (t + 1) r)) * (x (.out (t + 1 - 1) r) - x (.inn (t + 1) r)) ≤ 0 * (min (m t) (m (t + 1)) - f (.stay (t + 1) r)) := s1
    have s2 : (m t - min (m t) (m (t + 1)) - f (.leave (t + 1) r)) * (x (.out (t + 1 - 1) r) - x (.hub (t + 1))) ≤ 1 * (m t - min (m t) (m (t + 1)) - f (.leave (t + 1) r)) := s2
    have s3 : (m (t + 1) - min (m t) (m (t + 1)) - f (.come (t + 1) r)) * (x (.hub (t + 1)) - x (.inn (t + 1) r)) ≤ 0 * (m (t + 1) - min (m t) (m (t + 1)) - f (.come (t + 1) r)) := s3
    have s4 : (m (t + 1) - f (.io (t + 1) r)) * (x (.inn (t + 1) r) - x (.out (t + 1) r)) ≤ 0 * (m (t + 1) - f (.io (t + 1) r)) := s4
    rw [show t + 1 - 1 = t by omega] at s1 s2
    rw [Int.zero_mul] at s1 s3 s4
    rw [Int.one_mul] at s2
    have e := four (min (m t) (m (t + 1))) (f (.stay (t + 1) r)) (m t) (lf Y f t r) (m (t + 1)) (lf Y f (t + 1) r) (x (.out t r)) (x (.inn (t + 1) r)) (x (.hub (t + 1))) (x (.out (t + 1) r))
    have e1 : lf Y f t r - f (.stay (t + 1) r) = f (.leave (t + 1) r) := by omega
    have e2 : lf Y f (t + 1) r - f (.stay (t + 1) r) = f (.come (t + 1) r) := by omega
    rw [e1, e2] at e
    have e3 : lf Y f (t + 1) r = f (.io (t + 1) r) := rfl
    rw [← e3] at s4
    have e4 : max 0 (m t - m (t + 1)) = m t - min (m t) (m (t + 1)) := by omega
    omega
  have sum := su_le (List.range Y.T) _ _ fun t ht => step t (List.mem_range.mp ht)
  -- the sink
  have ms : (Lb.snk r) ∈ Y.labs := (mem_labs _).mpr hr
  have bT := mb Y.T (Nat.le_refl _)
  have sk := edge_ineq hA ms (hl _ ms) (W.hi _ ms) (g := m Y.T) (by show 0 ≤ m Y.T; omega) (by show m Y.T ≤ Y.many; omega)
  have sk : (m Y.T - f (.snk r)) * (x (.out Y.T r) - x .snk) ≤ 0 * (m Y.T - f (.snk r)) := sk
  rw [h0, Int.sub_zero, Int.zero_mul, ← W.at_end O r hr, W.inflow_lf O Y.T r hr] at sk
  have tele := su_tele (fun t => (m t - lf Y f t r) * x (.out t r)) Y.T
  have z0 : m 0 - lf Y f 0 r = 0 := by rw [m0]; show Y.begin_ r - Y.begin_ r = 0; omega
  simp only [z0, Int.zero_mul, Int.sub_zero] at tele
  have es : su (List.range Y.T) (fun t => (m t - lf Y f t r) * x (.out t r) - (m (t + 1) - lf Y f (t + 1) r) * x (.out (t + 1) r) - ((m t - lf Y f t r) - (m (t + 1) - lf Y f (t + 1) r)) * x (.hub (t + 1)))
      = - su (List.range Y.T) (fun t => (m (t + 1) - lf Y f (t + 1) r) * x (.out (t + 1) r) - (m t - lf Y f t r) * x (.out t r)) - su (List.range Y.T) (fun t => ((m t - lf Y f t r) - (m (t + 1) - lf Y f (t + 1) r)) * x (.hub (t + 1))) := by
    have := su_mul (List.range Y.T) (-1) (fun t => (m (t + 1) - lf Y f (t + 1) r) * x (.out (t + 1) r) - (m t - lf Y f t r) * x (.out t r))
    rw [Int.neg_mul, Int.one_mul] at this
    rw [← this, ← su_sub]
    exact su_congr _ _ _ fun t _ => by omega
  rw [es, tele, su_sub] at sum
  -- both costs
  have c1 : su (List.range Y.T) (fun t => cst (lf Y f t r) (lf Y f (t + 1) r) (- x (.hub (t + 1)))) ≤ su (List.range Y.T) (fun t => f (.leave (t + 1) r) + (lf Y f t r - lf Y f (t + 1) r) * x (.hub (t + 1))) := su_le _ _ _ fun t ht => by
    have ht := List.mem_range.mp ht
    have a1 := (W.inflow_lf O t r hr).symm.trans (W.at_out O t r ht hr)
    have a2 : lf Y f (t + 1) r = _ := W.at_inn O t r ht hr
    have mem : ∀ i : Lb R, (i = .leave (t + 1) r ∨ i = .come (t + 1) r) → i ∈ Y.labs := fun i h => by
      rcases h with rfl | rfl <;> exact (mem_labs _).mpr ⟨by omega, by omega, hr⟩
    have h1 := W.lo _ (mem _ (.inl rfl))
    have h2 := W.lo _ (mem _ (.inr rfl))
    unfold cst
    rw [Int.neg_mul, Int.sub_neg, Int.mul_comm (x _)]
    omega
  have c2 : su (List.range Y.T) (fun t => cst (m t) (m (t + 1)) (- x (.hub (t + 1)))) = su (List.range Y.T) (fun t => max 0 (m t - m (t + 1))) + su (List.range Y.T) (fun t => (m t - m (t + 1)) * x (.hub (t + 1))) := by
    rw [← su_add]
    refine su_congr _ _ _ fun t _ => ?_
    unfold cst
    rw [Int.neg_mul, Int.sub_neg, Int.mul_comm (x _)]
  have c3 : su (List.range Y.T) (fun t => ((m t - lf Y f t r) - (m (t + 1) - lf Y f (t + 1) r)) * x (.hub (t + 1))) = su (List.range Y.T) (fun t => (m t - m (t + 1)) * x (.hub (t + 1))) - su (List.range Y.T) (fun t => (lf Y f t r - lf Y f (t + 1) r) * x (.hub (t + 1))) := by
    rw [← su_sub]
    refine su_congr _ _ _ fun t _ => ?_
    rw [← Int.sub_mul]
    congr 1
    omega
  rw [su_add] at c1
  rw [c2]
  rw [c3] at sum
  omega
/-- a reader's bounds at all ticks, at most all lanes -/
def Lay.lims (Y : Lay R) (r : R) : List (Int × Int) := (List.range Y.T).map fun t => ((Y.lim t r).1, min (Y.lim t r).2 Y.many)
/-- for any prices the least costs are no more than the moves -/
theorem Lay.Loads.weak {l : Nat → R → Int} (L : Y.Loads l) (O : Y.Ok) (pr : Nat → Int) (c : R → Int) (hc : ∀ r ∈ Y.names, IsMin (c r) (Y.begin_ r) (Y.lims r) ((List.range Y.T).map pr)) : su Y.names c ≤ Y.pc l := by
  have h1 : su Y.names c ≤ su Y.names (fun r => su (List.range Y.T) fun t => cst (l t r) (l (t + 1) r) (pr t)) := su_le _ _ _ fun r hr => by
    have := (hc r hr).le ((List.range Y.T).map fun t => l (t + 1) r) (inL_map _ _ _ fun t ht => ⟨L.lo t ht r hr, by
      have := L.hi t ht r hr
      have := L.le_many O (t + 1) (by omega) r hr
      show l (t + 1) r ≤ min (Y.lim t r).2 Y.many
      omega⟩)
    rw [← L.l0 r hr, pco_sum Y.T (fun t => l t r) pr] at this
    exact this
  rw [su_swap] at h1
  have h2 : su (List.range Y.T) (fun t => su Y.names fun r => cst (l t r) (l (t + 1) r) (pr t)) = Y.pc l := su_congr _ _ _ fun t ht => by
    have ht := List.mem_range.mp ht
    have e : su Y.names (fun r => cst (l t r) (l (t + 1) r) (pr t)) = su Y.names (fun r => max 0 (l t r - l (t + 1) r)) - su Y.names (fun r => pr t * (l t r - l (t + 1) r)) := by
      rw [← su_sub]
      rfl
    rw [e, su_mul, su_sub, L.total O t (by omega), L.total O (t + 1) (by omega), Int.sub_self, Int.mul_zero, Int.sub_zero]
  omega
/-- the prices of the flow bar fewer moves -/
theorem FlowOk.strong (W : FlowOk Y.net Y.labs .src .snk f Y.many) (O : Y.Ok) (hl : ∀ i ∈ Y.labs, Y.net.lo i ≤ f i) (hA : ∀ u v c, Y.net.arc Y.labs f u v c → x u ≤ x v + c) (h0 : x .snk = 0)
    (c : R → Int) (hc : ∀ r ∈ Y.names, IsMin (c r) (Y.begin_ r) (Y.lims r) ((List.range Y.T).map fun t => - x (.hub (t + 1)))) : su Y.names c = Y.pc (lf Y f) := by
  have L := W.loads O hl
  have hw := L.weak O _ c hc
  have h1 : su Y.names (fun r => su (List.range Y.T) fun t => cst (lf Y f t r) (lf Y f (t + 1) r) (- x (.hub (t + 1)))) ≤ su Y.names c := su_le _ _ _ fun r hr => by
    obtain ⟨xs, h1, h2⟩ := (hc r hr).ex
    obtain ⟨m, e, hm⟩ := of_inL Y.T xs (fun t => ((Y.lim t r).1, min (Y.lim t r).2 Y.many)) h1
    have := W.reader O hl hA h0 hr (m := fun t => match t with | 0 => Y.begin_ r | t + 1 => m t) rfl fun t ht => hm t ht
    rw [← h2, e]
    have e2 := pco_sum Y.T (fun t => match t with | 0 => Y.begin_ r | t + 1 => m t) (fun t => - x (.hub (t + 1)))
    rw [← e2] at this
    exact this
  rw [su_swap] at h1
  have h2 : su (List.range Y.T) (fun t => su Y.names fun r => cst (lf Y f t r) (lf Y f (t + 1) r) (- x (.hub (t + 1)))) = Y.pc (lf Y f) := su_congr _ _ _ fun t ht => by
    have ht := List.mem_range.mp ht
    have e : su Y.names (fun r => cst (lf Y f t r) (lf Y f (t + 1) r) (- x (.hub (t + 1)))) = su Y.names (fun r => max 0 (lf Y f t r - lf Y f (t + 1) r)) - su Y.names (fun r => (- x (.hub (t + 1))) * (lf Y f t r - lf Y f (t + 1) r)) := by
      rw [← su_sub]
      rfl
    rw [e, su_mul, su_sub, L.total O t (by omega), L.total O (t + 1) (by omega), Int.sub_self, Int.mul_zero, Int.sub_zero]
  omega
end
end K55M

set_option Elab.async false
set_option linter.all false
set_option maxRecDepth 100000
set_option maxHeartbeats 4000000
namespace K55
open PySem PySem.Spec PyProof.Rows L2 Evl
/-! ### defs, methods, classes that may be called -/
section
variable (P : Program) (w : World) (K : PySem.W.Frag) (mg : Str → Option Value) (base : Heap) (CX : CXT)
structure Ent (k : Nat) (x : Str) (ps : List Str) (dvs : List V) (sp : Sp) : Prop where
  ex : ∃ f fd ds, mg x = some (.ref f) ∧ PySem.W.keepIn K (.ref f) = true ∧ Binds K fd ps ds ∧ Vals dvs ds ∧ FnOk P w K mg base CX k f fd ps sp
/-- the method m of the class at C -/
structure EntM (k : Nat) (C : Addr) (m : Str) (ps : List Str) (sp : Sp) : Prop where
  ex : ∃ f fd, Meth K C m f ∧ Binds K fd ps [] ∧ FnOk P w K mg base CX k f fd ps sp
/-- the class x at C, made by its __init__ -/
structure EntC (k : Nat) (x : Str) (C : Addr) (ps : List Str) (sp : Sp) : Prop where
  ex : ∃ f fd, mg x = some (.ref C) ∧ Mk K C f ∧ Binds K fd ps [] ∧ FnOk P w K mg base CX k f fd ps sp
end
section
variable {X : Cx} {CX : CXT} {k : Nat} {C : Addr} {ps : List Str} {sp : Sp} {dvs : List V} {E : XK} {x m : Str} {p pos apos : Pos} {e o : Expr} {es : List Expr} {ta : TE} {t : TA}
theorem pe_e (G : Ent X.prog X.w X.K X.mg X.base CX k x ps dvs sp) (hr : Room k X.A) (hx : Passes CX X E) (ha : PA X (e :: es) t) (hg : Gl X x := by rfl)
    (hdb : (x == ("__debug__" : Str)) = false := by decide) (he : starEach (e :: es) X.env = (false, eval e X.env) :: starEach es X.env := by rfl) (hpl : (backTo pos (starEach es X.env)).any (·.1) = false := by rfl) :
    PE X (.Call (.Name x p) (e :: es) [] pos) (tCall sp dvs E t) := by
  obtain ⟨f, fd, ds, h1, h2, h3, h4, h5⟩ := G.ex
  exact pe_call h5 hr hg h1 h2 h3 h4 hx ha hdb he hpl
theorem pe_em {pl : Sem Bool} (G : EntM X.prog X.w X.K X.mg X.base CX k C m ps sp) (c : Cls X.K C) (he : PE X o ta) (hr : Room k X.A) (hx : Passes CX X E) (ha : PA X (e :: es) t)
    (hst : starEach (e :: es) X.env = (false, eval e X.env) :: starEach es X.env := by rfl) (hpl : (backTo pos (starEach es X.env)).any (·.1) = false := by rfl)
    (ht : eval (.Call (.Attribute o m apos) (e :: es) [] pos) X.env = (do
      let ov ← eval o X.env
      standAt apos.atName
      let (f, first) ← holding [ov] (getMethod ov m pl)
      callWith pos f first (backTo pos (starEach (e :: es) X.env)) (backToKw pos (keywordEach [] X.env))) := by rfl) :
    PE X (.Call (.Attribute o m apos) (e :: es) [] pos) (tMeth C m sp [] E ta t) := by
  obtain ⟨f, fd, h1, h2, h3⟩ := G.ex
  exact pe_meth he c h1 h3 hr h2 .nil hx ha hst hpl ht
theorem pe_em0 {pl : Sem Bool} (G : EntM X.prog X.w X.K X.mg X.base CX k C m ps sp) (c : Cls X.K C) (he : PE X o ta) (hr : Room k X.A) (hx : Passes CX X E)
    (ht : eval (.Call (.Attribute o m apos) [] [] pos) X.env = (do
      let ov ← eval o X.env
      standAt apos.atName
      let (f, first) ← holding [ov] (getMethod ov m pl)
      callWith pos f first (backTo pos (starEach [] X.env)) (backToKw pos (keywordEach [] X.env))) := by rfl) :
    PE X (.Call (.Attribute o m apos) [] [] pos) (tMeth C m sp [] E ta tNil) := by
  obtain ⟨f, fd, h1, h2, h3⟩ := G.ex
  exact pe_meth0 he c h1 h3 hr h2 .nil hx ht
theorem pe_ec (G : EntC X.prog X.w X.K X.mg X.base CX k x C ps sp) (hr : Room (k + 1) X.A) (hx : Passes CX X E) (ha : PA X (e :: es) t) (hg : Gl X x := by rfl)
    (hdb : (x == ("__debug__" : Str)) = false := by decide) (he : starEach (e :: es) X.env = (false, eval e X.env) :: starEach es X.env := by rfl) (hpl : (backTo pos (starEach es X.env)).any (·.1) = false := by rfl) :
    PE X (.Call (.Name x p) (e :: es) [] pos) (tMake C sp [] E t) := by
  obtain ⟨f, fd, h1, h2, h3, h4⟩ := G.ex
  exact pe_make h2 h4 hr hg h1 h3 .nil hx ha hdb he hpl
end
section
variable {P : Program} {w : World} {K : PySem.W.Frag} {mg : Str → Option Value} {base : Heap} {CX : CXT} {k : Nat} {x nm q : Str} {ps : List Str} {sp : Sp} {pr : Arguments} {bd : List Stmt} {sc : Scope} {f C : Addr} {fd : FuncData}
theorem Ent.mk' (g : mg x = some (.ref f)) (F : FunD K nm q pr bd sc [] [] f fd) (ok : FnOk P w K mg base CX k f fd ps sp)
    (hb : ∀ (kV doc pm : Value) (an : Option Addr) (cdv ct : Value) (us : List Value), us.length = ps.length → bindArgs (PySem.W.fnOf nm q pr bd sc .none kV doc pm an cdv ct) ⟨us, []⟩ = pure (ps.zip us)) : Ent P w K mg base CX k x ps [] sp :=
  ⟨f, fd, [], g, F.kp, F.bindsN hb, .nil, ok⟩
theorem EntM.mk' {m : Str} (g : Meth K C m f) (F : FunD K nm q pr bd sc [] [] f fd) (ok : FnOk P w K mg base CX k f fd ps sp)
    (hb : ∀ (kV doc pm : Value) (an : Option Addr) (cdv ct : Value) (us : List Value), us.length = ps.length → bindArgs (PySem.W.fnOf nm q pr bd sc .none kV doc pm an cdv ct) ⟨us, []⟩ = pure (ps.zip us)) : EntM P w K mg base CX k C m ps sp :=
  ⟨f, fd, g, F.bindsN hb, ok⟩
theorem EntC.mk' (g : mg x = some (.ref C)) (M : Mk K C f) (F : FunD K nm q pr bd sc [] [] f fd) (ok : FnOk P w K mg base CX k f fd ps sp)
    (hb : ∀ (kV doc pm : Value) (an : Option Addr) (cdv ct : Value) (us : List Value), us.length = ps.length → bindArgs (PySem.W.fnOf nm q pr bd sc .none kV doc pm an cdv ct) ⟨us, []⟩ = pure (ps.zip us)) : EntC P w K mg base CX k x C ps sp :=
  ⟨f, fd, g, M, F.bindsN hb, ok⟩
/-- a def that lets no exception out -/
theorem FunD.ok0 {N : List Str} (F : FunD K nm q pr bd sc [] [] f fd) (S : FnScope N ps sc) (len : ∀ vs H Q E, sp vs H Q E → vs.length = ps.length)
    (hbody : ∀ (cdv : Value) (A : Around) (outer : List Env) (s : Shared) (H : Hp) (vs : List V) (Q : VK) (E : XK), Room k (A.deeper (envOfC q sc s.heap.objs.size f cdv)) → sp vs H Q E →
      ∃ t, PSs (cxOf CX0 P w K mg base N q sc f cdv A outer s H E).nox bd t ∧ t { nx := fun _ H' => Q .non H', rt := Q } (start N vs) H) : FnOk P w K mg base CX0 (k + 1) f fd ps sp := by
  refine L2.FunD.ok F S len fun cdv A outer s H vs Q E hr h => ?_
  obtain ⟨t, h1, h2⟩ := hbody cdv A outer s H vs Q E hr h
  exact ⟨t, h1.nox, h2⟩
end
end K55

set_option Elab.async false
set_option linter.all false
set_option maxRecDepth 100000
set_option maxHeartbeats 4000000
namespace K55
open PySem PySem.Spec PyProof.Rows L2 Evl
/-! ### heaps -/
/-- all but p is as it was -/
def ExB (p : Addr) (H H' : Hp) : Prop := ∀ b o, b ≠ p → H b = some o → H' b = some o
theorem ExB.refl (p : Addr) (H : Hp) : ExB p H H := fun _ _ _ h => h
theorem ExB.trans {p : Addr} {H H1 H2 : Hp} (a : ExB p H H1) (b : ExB p H1 H2) : ExB p H H2 := fun x o n h => b x o n (a x o n h)
theorem ExB.of {p : Addr} {H H' : Hp} (e : Ex H H') : ExB p H H' := fun b o _ h => e b o h
theorem ExB.upd {p : Addr} {H H' : Hp} {o : HO} (e : ExB p H H') : ExB p H (upd H' p o) := fun b u n h => by rw [upd_ne n]; exact e b u n h
theorem ExB.ex {p : Addr} {H H' : Hp} (e : ExB p H H') (h : H p = none) : Ex H H' := fun b o hb => e b o (ne_of_none hb h) hb
theorem ex_upd {H H' : Hp} {p : Addr} {o : HO} (e : Ex H H') (h : H p = none) : Ex H (upd H' p o) := Ex.mut e h
theorem fresh_ne {H : Hp} {a b : Addr} {o : HO} (h : H a = some o) (h' : H b = none) : b ≠ a := (ne_of_none h h').symm
/-! ### what a loop, a comprehension walks -/
structure Src (J : It) (G : Hp) (n : Nat) (Y : Nat → V → Hp → Prop) : Prop where
  go : ∀ i H, Ex G H → i < n → J.go i H
  stop : ∀ i H, Ex G H → n ≤ i → J.stop i H
  yld : ∀ i H x H', Ex G H → i < n → J.yld i H x H' → Ex H H' ∧ Y i x H'
theorem Src.list {K : PySem.W.Frag} {G : Hp} {a : Addr} {xs : List V} (h : SqL K G a xs) : Src (Itl K a) G xs.length (fun i x _ => xs[i]? = some x) where
  go := fun i H e hi => ⟨xs, xs[i], ex_l e h, by simp [hi]⟩
  stop := fun i H e hi => ⟨xs, ex_l e h, hi⟩
  yld := fun i H x H' e hi y => by
    obtain ⟨rfl, y⟩ := y
    exact ⟨Ex.refl _, y xs (ex_l e h)⟩
theorem Src.tup {K : PySem.W.Frag} {G : Hp} {a : Addr} {xs : List V} (h : SqT K G a xs) : Src (Itt K a) G xs.length (fun i x _ => xs[i]? = some x) where
  go := fun i H e hi => ⟨xs, xs[i], ex_t e h, by simp [hi]⟩
  stop := fun i H e hi => ⟨xs, ex_t e h, hi⟩
  yld := fun i H x H' e hi y => by
    obtain ⟨rfl, y⟩ := y
    exact ⟨Ex.refl _, y xs (ex_t e h)⟩
theorem Src.range {G : Hp} (lo : Int) (n : Nat) : Src (Itr lo n) G n (fun i x _ => x = .int (lo + i)) where
  go := fun i H e hi => hi
  stop := fun i H e hi => hi
  yld := fun i H x H' e hi y => by
    obtain ⟨rfl, y⟩ := y
    exact ⟨Ex.refl _, y⟩
theorem Src.str {G : Hp} (z : Str) : Src (Its z) G z.cps.size (fun i x _ => ∃ c, z.cps[i]? = some c ∧ x = .str ⟨#[c]⟩) where
  go := fun i H e hi => hi
  stop := fun i H e hi => hi
  yld := fun i H x H' e hi y => by
    obtain ⟨rfl, y⟩ := y
    exact ⟨Ex.refl _, y⟩
theorem Src.keys {G : Hp} {d : Addr} {o : Obj} {kvs : List (Key × V)} (h : G d = some (.frz o (.dK kvs))) : Src (Itk d o kvs) G kvs.length (fun i x _ => ∃ k v, kvs[i]? = some (k, v) ∧ x = kV k) where
  go := fun i H e hi => ⟨e d _ h, hi⟩
  stop := fun i H e hi => ⟨e d _ h, hi⟩
  yld := fun i H x H' e hi y => by
    obtain ⟨rfl, y⟩ := y
    exact ⟨Ex.refl _, y⟩
theorem Src.keysT {G : Hp} {d : Addr} {o : Obj} {kvs : List (List Key × V)} (h : G d = some (.frz o (.dT kvs))) : Src (Itkt d o kvs) G kvs.length (fun i x H => ∃ k v q, kvs[i]? = some (k, v) ∧ x = .ref q ∧ H q = some (.tup (k.map kV))) where
  go := fun i H e hi => ⟨e d _ h, hi⟩
  stop := fun i H e hi => ⟨e d _ h, hi⟩
  yld := fun i H x H' e hi y => by
    obtain ⟨rfl, k, v, q, h1, h2, h3⟩ := y
    exact ⟨Ex.refl _, k, v, q, h1, h2, h3⟩
theorem Src.zip {K : PySem.W.Frag} {G : Hp} {a b : Addr} {xs ys : List V} (h : SqL K G a xs) (h2 : SqL K G b ys) (hl : xs.length = ys.length) :
    Src (Itz K a b) G xs.length (fun i v H => ∃ T x y, xs[i]? = some x ∧ ys[i]? = some y ∧ v = .ref T ∧ H T = some (.tup [x, y])) where
  go := fun i H e hi => ⟨xs, ys, xs[i], ys[i], ex_l e h, ex_l e h2, by simp [hi], by simp⟩
  stop := fun i H e hi => ⟨xs, ys, ex_l e h, ex_l e h2, .inl hi⟩
  yld := fun i H v H' e hi y => by
    obtain ⟨T, x, z, rfl, hT, rfl, h3, h4⟩ := y
    exact ⟨Ex.new hT, T, x, z, h3 _ (ex_l e h), h4 _ (ex_l e h2), rfl, upd_same⟩
/-- a for loop -/
theorem for_src {J : It} {G : Hp} {n : Nat} {Y : Nat → V → Hp → Prop} (S : Src J G n Y) {g : TG} {tb : TS} {D : Ends} {σ : L2.St} {H : Hp} (Pv : Nat → L2.St → Hp → Prop) (h0 : Pv 0 σ H) (hG : ∀ i σ H, Pv i σ H → Ex G H)
    (turn : ∀ i x σ H H1, i < n → Pv i σ H → Ex H H1 → Y i x H1 → g x σ H1 fun σ2 H2 => tb { D with nx := Pv (i + 1), ct := Pv (i + 1), bk := D.nx } σ2 H2) (hd : ∀ σ H, Pv n σ H → D.nx σ H) :
    ∃ W : Nat → Nat → L2.St → Hp → Prop, (∃ m, W 0 m σ H) ∧ ∀ i m σ H, W i m σ H →
      (J.stop i H ∧ D.nx σ H) ∨ (J.go i H ∧ ∃ N : L2.St → Hp → Prop, (∀ σ' H', N σ' H' → ∃ m', m' < m ∧ W (i + 1) m' σ' H') ∧ ∀ x H', J.yld i H x H' → g x σ H' fun σ2 H2 => tb { D with nx := N, ct := N, bk := D.nx } σ2 H2) := by
  refine ⟨fun i m σ H => m = n - i ∧ i ≤ n ∧ Pv i σ H, ⟨n, by simp, Nat.zero_le _, h0⟩, ?_⟩
  rintro i m σ H ⟨rfl, hi, p⟩
  have e := hG i σ H p
  by_cases hlt : i < n
  · refine .inr ⟨S.go i H e hlt, Pv (i + 1), fun σ' H' p' => ⟨n - (i + 1), by omega, rfl, hlt, p'⟩, fun x H' y => ?_⟩
    obtain ⟨e2, y2⟩ := S.yld i H x H' e hlt y
    exact turn i x σ H H' hlt p e2 y2
  · have ei : i = n := by omega
    subst ei
    exact .inl ⟨S.stop i H e (Nat.le_refl _), hd σ H p⟩
theorem paired_app {α β : Type} {F : α → β → Prop} {l1 : List α} {l2 : List β} (h : Paired F l1 l2) : ∀ {m1 : List α} {m2 : List β}, Paired F m1 m2 → Paired F (l1 ++ m1) (l2 ++ m2) := by
  induction h with
  | nil => intro m1 m2 k; exact k
  | cons r _ ih => intro m1 m2 k; exact .cons r (ih k)
/-- a list comprehension: R what is kept of an item's value; the list so far stands at D -/
theorem lc_src {J : It} {G : Hp} {n : Nat} {Y : Nat → V → Hp → Prop} (S : Src J G n Y) {g : TG} {tt : TT} {te : TE} {vs : List Nat} {σ : L2.St} {H : Hp} {D : Addr} {Qd : Hp → Prop} (hG : Ex G H) (hD : H D = none) (hn : n ≤ 40000)
    (R : Nat → V → Hp → Prop) (hR : ∀ i y H1 H2, R i y H1 → ExB D H1 H2 → R i y H2) (f : Nat → Bool)
    (turn : ∀ i x H1, i < n → Ex H H1 → (∃ ys, H1 D = some (.lst ys)) → Y i x H1 → ∀ (Qy : V → Hp → Prop) (Qn : Hp → Prop), (f i = true → ∀ y H4, Ex H1 H4 → R i y H4 → Qy y H4) → (f i = false → ∀ H3, Ex H1 H3 → Qn H3) →
      g x (wipe σ vs) H1 fun σ2 H2 => wipe σ2 vs = wipe σ vs ∧ tt σ2 H2 fun b H3 => if b = true then te σ2 H3 Qy else Qn H3)
    (k : ∀ ys H2, Ex H H2 → H2 D = some (.lst ys) → Paired (fun i y => R i y H2) ((List.range n).filter f) ys → Qd H2) :
    ∃ W : Nat → Nat → Hp → Prop, (∃ m, W 0 m (upd H D (.lst []))) ∧ ∀ i m H, W i m H →
      (J.stop i H ∧ Qd H) ∨ (J.go i H ∧ ∃ Nx : Hp → Prop, (∀ H', Nx H' → ∃ m', m' < m ∧ W (i + 1) m' H') ∧ ∀ x H', J.yld i H x H' → g x (wipe σ vs) H' fun σ2 H2 => wipe σ2 vs = wipe σ vs ∧ tt σ2 H2 fun b H3 =>
        if b = true then te σ2 H3 fun y H4 => ∃ acc, H4 D = some (.lst acc) ∧ acc.length < sizeLine ∧ Nx (upd H4 D (.lst (acc ++ [y]))) else Nx H3) := by
  refine ⟨fun i m H' => m = n - i ∧ i ≤ n ∧ Ex H H' ∧ ∃ ys, H' D = some (.lst ys) ∧ Paired (fun i y => R i y H') ((List.range i).filter f) ys, ⟨n, by simp, Nat.zero_le _, Ex.new hD, [], upd_same, .nil⟩, ?_⟩
  rintro i m H' ⟨rfl, hi, e, ys, hys, pr⟩
  have eG := hG.trans e
  by_cases hlt : i < n
  · refine .inr ⟨S.go i H' eG hlt, fun H2 => Ex H H2 ∧ ∃ ys, H2 D = some (.lst ys) ∧ Paired (fun i y => R i y H2) ((List.range (i + 1)).filter f) ys, fun H2 p => ⟨n - (i + 1), by omega, rfl, hlt, p⟩, fun x H2 y => ?_⟩
    obtain ⟨e2, y2⟩ := S.yld i H' x H2 eG hlt y
    have hys2 := e2 D _ hys
    have hlen : ys.length ≤ n := by
      rw [← pr.length]
      refine Nat.le_trans (List.length_filter_le _ _) ?_
      rw [List.length_range]; omega
    refine turn i x H2 hlt (e.trans e2) ⟨ys, hys2⟩ y2 _ _ (fun hf v H4 e4 r => ?_) fun hf H3 e3 => ?_
    · refine ⟨ys, e4 D _ hys2, sz_lt (by omega), fun b o hb => ?_, ys ++ [v], upd_same, ?_⟩
      · rw [upd_ne (ne_of_none hb hD)]
        exact e4 b o (e2 b o (e b o hb))
      · have u4 : ExB D H4 (upd H4 D (.lst (ys ++ [v]))) := (ExB.refl D H4).upd
        have pr4 : Paired (fun i y => R i y (upd H4 D (.lst (ys ++ [v])))) ((List.range i).filter f) ys := Paired.mapP pr fun a b q => hR _ _ _ _ q ((ExB.of (e2.trans e4)).trans u4)
        rw [List.range_succ, List.filter_append, List.filter_cons, if_pos hf]
        exact paired_app pr4 (.cons (hR _ _ _ _ r u4) .nil)
    · refine ⟨e.trans (e2.trans e3), ys, e3 D _ hys2, ?_⟩
      rw [List.range_succ, List.filter_append, List.filter_cons, if_neg (by rw [hf]; decide)]
      have q : Paired (fun i y => R i y H3) ((List.range i).filter f) ys := Paired.mapP pr fun a b q => hR _ _ _ _ q (ExB.of (e2.trans e3))
      rw [List.filter_nil, List.append_nil]
      exact q
  · have ei : i = n := by omega
    subst ei
    exact .inl ⟨S.stop i H' eG (Nat.le_refl _), k ys H' e hys pr⟩
theorem paired_fun {α : Type} {v : α → V} {l : List α} {ys : List V} (h : Paired (fun i y => y = v i) l ys) : ys = l.map v := by
  induction h with
  | nil => rfl
  | cons e _ ih => rw [e, ih]; rfl
/-- .. of values that are told -/
theorem lc_val {J : It} {G : Hp} {n : Nat} {Y : Nat → V → Hp → Prop} (S : Src J G n Y) {g : TG} {tt : TT} {te : TE} {vs : List Nat} {σ : L2.St} {H : Hp} {D : Addr} {Qd : Hp → Prop} (hG : Ex G H) (hD : H D = none) (hn : n ≤ 40000) (f : Nat → Bool) (v : Nat → V)
    (turn : ∀ i x H1, i < n → Ex H H1 → Y i x H1 → ∀ (Qy : V → Hp → Prop) (Qn : Hp → Prop), (f i = true → ∀ H4, Ex H1 H4 → Qy (v i) H4) → (f i = false → ∀ H3, Ex H1 H3 → Qn H3) →
      g x (wipe σ vs) H1 fun σ2 H2 => wipe σ2 vs = wipe σ vs ∧ tt σ2 H2 fun b H3 => if b = true then te σ2 H3 Qy else Qn H3)
    (k : ∀ H2, Ex H H2 → H2 D = some (.lst (((List.range n).filter f).map v)) → Qd H2) :
    ∃ W : Nat → Nat → Hp → Prop, (∃ m, W 0 m (upd H D (.lst []))) ∧ ∀ i m H, W i m H →
      (J.stop i H ∧ Qd H) ∨ (J.go i H ∧ ∃ Nx : Hp → Prop, (∀ H', Nx H' → ∃ m', m' < m ∧ W (i + 1) m' H') ∧ ∀ x H', J.yld i H x H' → g x (wipe σ vs) H' fun σ2 H2 => wipe σ2 vs = wipe σ vs ∧ tt σ2 H2 fun b H3 =>
        if b = true then te σ2 H3 fun y H4 => ∃ acc, H4 D = some (.lst acc) ∧ acc.length < sizeLine ∧ Nx (upd H4 D (.lst (acc ++ [y]))) else Nx H3) :=
  lc_src S hG hD hn (fun i y _ => y = v i) (fun _ _ _ _ r _ => r) f (fun i x H1 hi e _ y Qy Qn h1 h2 => turn i x H1 hi e y Qy Qn (fun hf H4 e4 => h1 hf _ H4 e4 rfl) h2) fun ys H2 e h p => k H2 e (by rw [h, paired_fun p])
/-! ### dicts with text keys -/
def kd (ks : List Str) (g : Str → V) : List (Key × V) := ks.map fun k => (Sum.inr k, g k)
theorem kd_len (ks : List Str) (g : Str → V) : (kd ks g).length = ks.length := List.length_map _
theorem kd_keys (ks : List Str) (g : Str → V) : (kd ks g).map (·.1) = ks.map Sum.inr := by unfold kd; rw [List.map_map]; rfl
theorem kd_at {ks : List Str} {g : Str → V} {i : Nat} {k : Key} {v : V} (h : (kd ks g)[i]? = some (k, v)) : ∃ z, ks[i]? = some z ∧ k = .inr z ∧ v = g z := by
  unfold kd at h
  rw [List.getElem?_map] at h
  cases e : ks[i]? with
  | none => rw [e] at h; cases h
  | some z => rw [e] at h; cases h; exact ⟨z, rfl, rfl, rfl⟩
theorem valV_kd (ks : List Str) (g : Str → V) (k : Str) : valV (kd ks g) (.inr k : Key) = if k ∈ ks then some (g k) else none := by
  induction ks with
  | nil => rfl
  | cons x r ih =>
    show valV ((Sum.inr x, g x) :: kd r g) (.inr k : Key) = _
    by_cases e : x = k
    · subst e
      rw [valV_pos rfl, if_pos List.mem_cons_self]
    · rw [valV_neg (fun q => e (Sum.inr.inj q)), ih]
      by_cases h : k ∈ r
      · rw [if_pos h, if_pos (List.mem_cons_of_mem _ h)]
      · rw [if_neg h, if_neg (fun q => (List.mem_cons.mp q).elim (fun z => e z.symm) h)]
theorem valV_kd_mem {ks : List Str} {g : Str → V} {k : Str} (h : k ∈ ks) : valV (kd ks g) (.inr k : Key) = some (g k) := by rw [valV_kd, if_pos h]
theorem valV_kd_not {ks : List Str} {g : Str → V} {k : Str} (h : k ∉ ks) : valV (kd ks g) (.inr k : Key) = none := by rw [valV_kd, if_neg h]
theorem kd_congr {ks : List Str} {g h : Str → V} (e : ∀ k ∈ ks, g k = h k) : kd ks g = kd ks h := List.map_congr_left fun k hk => by rw [e k hk]
theorem putK_kd_mem {ks : List Str} {g : Str → V} {k : Str} (v : V) (h : k ∈ ks) : putK (kd ks g) (.inr k : Key) v = kd ks (fun j => if j = k then v else g j) := by
  unfold putK
  have e : ((kd ks g).any fun kv => decide (kv.1 = (Sum.inr k : Key))) = true := by
    rw [valV_any, valV_kd_mem h]; rfl
  rw [if_pos e]
  unfold kd
  rw [List.map_map]
  refine List.map_congr_left fun j _ => ?_
  show (if (Sum.inr j : Key) = Sum.inr k then ((Sum.inr j : Key), v) else ((Sum.inr j : Key), g j)) = ((Sum.inr j : Key), if j = k then v else g j)
  by_cases e : j = k
  · subst e; simp
  · rw [if_neg (fun q => e (Sum.inr.inj q)), if_neg e]
theorem putK_kd_new {ks : List Str} {g : Str → V} {k : Str} (v : V) (h : k ∉ ks) : putK (kd ks g) (.inr k : Key) v = kd (ks ++ [k]) (fun j => if j = k then v else g j) := by
  rw [putK_new v (valV_kd_not h)]
  unfold kd
  rw [List.map_append]
  have e : ks.map (fun k' => ((Sum.inr k' : Key), g k')) = ks.map fun j => ((Sum.inr j : Key), if j = k then v else g j) := List.map_congr_left fun j hj => by
    rw [if_neg (fun q : j = k => h (q ▸ hj))]
  rw [e]
  show _ ++ [((Sum.inr k : Key), v)] = _ ++ [((Sum.inr k : Key), if k = k then v else g k)]
  rw [if_pos rfl]
/-- d holds for the text keys ks the values g -/
abbrev KD (H : Hp) (a : Addr) (ks : List Str) (g : Str → V) : Prop := H a = some (.dK (kd ks g))
/-- a dict comprehension with text keys: keys and values are told -/
theorem dc_val {J : It} {G : Hp} {n : Nat} {Y : Nat → V → Hp → Prop} (S : Src J G n Y) {g : TG} {tt : TT} {tk tv : TE} {vs : List Nat} {σ : L2.St} {H : Hp} {D : Addr} {Qd : Hp → Prop} (hG : Ex G H) (hD : H D = none) (hn : n ≤ 40000) (ks : List Str) (hk : ks.length = n) (nd : ks.Nodup) (gv : Str → V)
    (turn : ∀ i x H1 z, ks[i]? = some z → Ex H H1 → Y i x H1 → ∀ (Q : V → V → Hp → Prop), (∀ H4, Ex H1 H4 → Q (.str z) (gv z) H4) →
      g x (wipe σ vs) H1 fun σ2 H2 => wipe σ2 vs = wipe σ vs ∧ tt σ2 H2 fun b H3 => b = true ∧ tk σ2 H3 fun y H4 => tv σ2 H4 fun z H5 => Q y z H5)
    (mono : ∀ σ2 H2 (Q Q' : Bool → Hp → Prop), tt σ2 H2 Q → (∀ b H3, Q b H3 → Q' b H3) → tt σ2 H2 Q') (gmono : ∀ x σ1 H1 (Q Q' : L2.St → Hp → Prop), g x σ1 H1 Q → (∀ s h, Q s h → Q' s h) → g x σ1 H1 Q')
    (k : ∀ H2, Ex H H2 → KD H2 D ks gv → Qd H2) :
    ∃ W : Nat → Nat → Hp → Prop, (∃ m, W 0 m (upd H D (.dK []))) ∧ ∀ i m H, W i m H →
      (J.stop i H ∧ Qd H) ∨ (J.go i H ∧ ∃ Nx : Hp → Prop, (∀ H', Nx H' → ∃ m', m' < m ∧ W (i + 1) m' H') ∧ ∀ x H', J.yld i H x H' → g x (wipe σ vs) H' fun σ2 H2 => wipe σ2 vs = wipe σ vs ∧ tt σ2 H2 fun b H3 =>
        if b = true then tk σ2 H3 fun y H4 => tv σ2 H4 fun z H5 => ∃ kvs k, y = kV k ∧ H5 D = some (.dK kvs) ∧ kvs.length < sizeLine ∧ Nx (upd H5 D (.dK (putK kvs k z))) else Nx H3) := by
  refine ⟨fun i m H' => m = n - i ∧ i ≤ n ∧ Ex H H' ∧ KD H' D (ks.take i) gv, ⟨n, by simp, Nat.zero_le _, Ex.new hD, upd_same⟩, ?_⟩
  rintro i m H' ⟨rfl, hi, e, hys⟩
  have eG := hG.trans e
  by_cases hlt : i < n
  · refine .inr ⟨S.go i H' eG hlt, fun H2 => Ex H H2 ∧ KD H2 D (ks.take (i + 1)) gv, fun H2 p => ⟨n - (i + 1), by omega, rfl, hlt, p⟩, fun x H2 y => ?_⟩
    obtain ⟨e2, y2⟩ := S.yld i H' x H2 eG hlt y
    have hzl : i < ks.length := by omega
    have hz : ks[i]? = some ks[i] := List.getElem?_eq_getElem hzl
    refine gmono _ _ _ _ _ (turn i x H2 _ hz (e.trans e2) y2 (fun y z H5 => ∃ kvs k, y = kV k ∧ H5 D = some (.dK kvs) ∧ kvs.length < sizeLine ∧ (Ex H (upd H5 D (.dK (putK kvs k z))) ∧ KD (upd H5 D (.dK (putK kvs k z))) D (ks.take (i + 1)) gv)) fun H4 e4 => ?_) fun s h q => ⟨q.1, mono _ _ _ _ q.2 fun b H3 q3 => ?_⟩
    · refine ⟨kd (ks.take i) gv, .inr ks[i], rfl, e4 D _ (e2 D _ hys), ?_, fun b o hb => ?_, ?_⟩
      · rw [kd_len, List.length_take]; exact sz_lt (by omega)
      · rw [upd_ne (ne_of_none hb hD)]
        exact e4 b o (e2 b o (e b o hb))
      · have nm : ks[i] ∉ ks.take i := fun hm => by
          obtain ⟨j, hj, ej⟩ := List.mem_take_iff_getElem.mp hm
          have := (List.getElem_inj nd).mp ej
          omega
        show upd H4 D _ D = _
        rw [upd_same, putK_kd_new _ nm, List.take_add_one, hz]
        refine congrArg (fun l => some (HO.dK l)) (kd_congr fun j hj => ?_)
        by_cases ej : j = ks[i]
        · rw [if_pos ej, ej]
        · rw [if_neg ej]
    · rw [q3.1, if_pos rfl]
      exact q3.2
  · have ei : i = n := by omega
    subst ei
    refine .inl ⟨S.stop i H' eG (Nat.le_refl _), k H' e ?_⟩
    rw [List.take_of_length_le (by omega)] at hys
    exact hys
end K55

set_option Elab.async false
set_option linter.all false
set_option maxRecDepth 100000
set_option maxHeartbeats 4000000
namespace K55
open PySem PySem.Spec PyProof.Rows L2 Evl
theorem bl_t {p : Prop} [Decidable p] (h : p) : V.bl (decide p) = V.bl true := congrArg V.bl (decide_eq_true h)
theorem bl_f {p : Prop} [Decidable p] (h : ¬ p) : V.bl (decide p) = V.bl false := congrArg V.bl (decide_eq_false h)
theorem bl_nt {p : Prop} [Decidable p] (h : p) : V.bl (!decide p) = V.bl false := congrArg V.bl (by rw [decide_eq_true h]; rfl)
theorem bl_nf {p : Prop} [Decidable p] (h : ¬ p) : V.bl (!decide p) = V.bl true := congrArg V.bl (by rw [decide_eq_false h]; rfl)
theorem tyes {te : TE} {σ : L2.St} {H : Hp} {Qy : V → Hp → Prop} {Qn : Hp → Prop} (h : te σ H Qy) : tYes σ H fun b H3 => if b = true then te σ H3 Qy else Qn H3 := by
  show (if true = true then te σ H Qy else Qn H)
  exact iteT h
theorem tyesd {tk tv : TE} {σ : L2.St} {H : Hp} {Q : V → V → Hp → Prop} (h : tk σ H fun y H4 => tv σ H4 fun z H5 => Q y z H5) : tYes σ H fun b H3 => b = true ∧ tk σ H3 fun y H4 => tv σ H4 fun z H5 => Q y z H5 := ⟨rfl, h⟩
theorem tyes_mono : ∀ (σ2 : L2.St) (H2 : Hp) (Q Q' : Bool → Hp → Prop), tYes σ2 H2 Q → (∀ b H3, Q b H3 → Q' b H3) → tYes σ2 H2 Q' := fun _ _ _ _ h k => k _ _ h
theorem gname_mono {i : Nat} : ∀ (x : V) (σ1 : L2.St) (H1 : Hp) (Q Q' : L2.St → Hp → Prop), gName i x σ1 H1 Q → (∀ s h, Q s h → Q' s h) → gName i x σ1 H1 Q' := fun _ _ _ _ _ h k => k _ _ h
theorem ex_unlock {H H2 : Hp} {a : Addr} {u fr : HO} (h : H a = some u) (e : Ex (upd H a fr) H2) : Ex H (upd H2 a u) := fun b o hb => by
  by_cases q : b = a
  · subst q
    rw [h] at hb
    cases hb
    exact upd_same
  · rw [upd_ne q]
    exact e b o (by rw [upd_ne q]; exact hb)
theorem exb_lock {H H2 : Hp} {a : Addr} {fr : HO} (e : Ex (upd H a fr) H2) : ExB a H H2 := fun b o q hb => e b o (by rw [upd_ne q]; exact hb)
theorem range_getD {α : Type} (d : α) (xs : List α) : (List.range xs.length).map (fun i => xs.getD i d) = xs := by
  apply List.ext_getElem
  · simp
  · intro i h1 h2
    simp [List.getD, h2]
theorem range_fm {α β : Type} (d : α) (xs : List α) (f : α → Bool) (v : α → β) : ((List.range xs.length).filter fun i => f (xs.getD i d)).map (fun i => v (xs.getD i d)) = (xs.filter f).map v := by
  have e : xs.filter f = ((List.range xs.length).map (fun i => xs.getD i d)).filter f := by rw [range_getD]
  rw [e, List.filter_map, List.map_map]
  rfl
theorem getD_of {α : Type} {xs : List α} {i : Nat} {x d : α} (h : xs[i]? = some x) : xs.getD i d = x := by simp [List.getD, h]
theorem mem_of_at {α : Type} {xs : List α} {i : Nat} {x : α} (h : xs[i]? = some x) : x ∈ xs := List.mem_of_getElem? h
section
variable {K : PySem.W.Frag} {σ : L2.St} {H : Hp} {Q : VK} {gg : TG} {tt : TT} {te tk tv td : TE} {vs : List Nat} {a : Addr} {ks : List Str} {g : Str → V}
/-- [e for z in d if t], d a dict -/
theorem lcd (h : KD H a ks g) (hn : ks.length ≤ 40000) (hd : ∀ (H1 : Hp) (Q' : VK), Q' (.ref a) H1 → td σ H1 Q') (f : Str → Bool) (v : Str → V)
    (turn : ∀ z ∈ ks, ∀ H1, ExB a H H1 → Rd H1 a (.dK (kd ks g)) → ∀ (Qy : V → Hp → Prop) (Qn : Hp → Prop), (f z = true → ∀ H4, Ex H1 H4 → Qy (v z) H4) → (f z = false → ∀ H3, Ex H1 H3 → Qn H3) →
      gg (.str z) (wipe σ vs) H1 fun σ2 H2 => wipe σ2 vs = wipe σ vs ∧ tt σ2 H2 fun b H3 => if b = true then te σ2 H3 Qy else Qn H3)
    (k : ∀ p H2, H p = none → Ex H H2 → H2 p = some (.lst ((ks.filter f).map v)) → Q (.ref p) H2) : tLockE (tLc (iKeys td) gg tt te vs) σ H Q := by
  refine ⟨a, _, h, True.intro, fun od => ?_⟩
  refine hd _ _ ⟨a, od, rfl, .inl ⟨kd ks g, upd_same, fun D hD => ?_⟩⟩
  have hDa : D ≠ a := fun e => by rw [e, upd_same] at hD; cases hD
  have hD0 : H D = none := by rw [upd_ne hDa] at hD; exact hD
  refine lc_val (Src.keys (G := upd H a (.frz od (.dK (kd ks g)))) upd_same) (Ex.refl _) hD (by rw [kd_len]; exact hn) (fun i => f (ks.getD i default)) (fun i => v (ks.getD i default)) (fun i x H1 hi e y Qy Qn h1 h2 => ?_) fun H2 e2 h2 => ?_
  · obtain ⟨k, v', hk, rfl⟩ := y
    obtain ⟨z, hz, rfl, _⟩ := kd_at hk
    rw [getD_of hz] at h1 h2
    exact turn z (mem_of_at hz) H1 (exb_lock e) (.inr ⟨od, e a _ upd_same⟩) Qy Qn h1 h2
  · rw [kd_len, range_fm] at h2
    refine ⟨e2 a _ upd_same, k D _ hD0 (ex_unlock h e2) ?_⟩
    rw [upd_ne hDa]
    exact h2
/-- [e for z in xs if t], xs a list of texts -/
theorem lcs (xs : List Str) (hx : SqL K H a (xs.map V.str)) (hn : xs.length ≤ 40000) (hd : ∀ (H1 : Hp) (Q' : VK), Q' (.ref a) H1 → td σ H1 Q') (f : Str → Bool) (v : Str → V)
    (turn : ∀ z ∈ xs, ∀ H1, Ex H H1 → ∀ (Qy : V → Hp → Prop) (Qn : Hp → Prop), (f z = true → ∀ H4, Ex H1 H4 → Qy (v z) H4) → (f z = false → ∀ H3, Ex H1 H3 → Qn H3) →
      gg (.str z) (wipe σ vs) H1 fun σ2 H2 => wipe σ2 vs = wipe σ vs ∧ tt σ2 H2 fun b H3 => if b = true then te σ2 H3 Qy else Qn H3)
    (k : ∀ p H2, H p = none → Ex H H2 → H2 p = some (.lst ((xs.filter f).map v)) → Q (.ref p) H2) : tLc (iList K td) gg tt te vs σ H Q := by
  refine hd _ _ ⟨a, rfl, ⟨_, hx⟩, fun D hD => ?_⟩
  refine lc_val (Src.list hx) (Ex.refl _) hD (by rw [List.length_map]; exact hn) (fun i => f (xs.getD i default)) (fun i => v (xs.getD i default)) (fun i x H1 hi e y Qy Qn h1 h2 => ?_) fun H2 e2 h2 => ?_
  · rw [List.getElem?_map] at y
    cases hz : xs[i]? with
    | none => rw [hz] at y; cases y
    | some z =>
      rw [hz] at y
      cases y
      rw [getD_of hz] at h1 h2
      exact turn z (mem_of_at hz) H1 e Qy Qn h1 h2
  · rw [List.length_map, range_fm] at h2
    exact k D H2 hD e2 h2
/-- {z: e for z in d}, d a dict -/
theorem dcd (h : KD H a ks g) (nd : ks.Nodup) (hn : ks.length ≤ 40000) (hd : ∀ (H1 : Hp) (Q' : VK), Q' (.ref a) H1 → td σ H1 Q') (gv : Str → V) {i : Nat}
    (turn : ∀ z ∈ ks, ∀ H1, ExB a H H1 → Rd H1 a (.dK (kd ks g)) → ∀ (Q : V → V → Hp → Prop), (∀ H4, Ex H1 H4 → Q (.str z) (gv z) H4) →
      wipe ((wipe σ vs).set i (some (.str z))) vs = wipe σ vs ∧ tk ((wipe σ vs).set i (some (.str z))) H1 fun y H4 => tv ((wipe σ vs).set i (some (.str z))) H4 fun z H5 => Q y z H5)
    (k : ∀ p H2, H p = none → Ex H H2 → KD H2 p ks gv → Q (.ref p) H2) : tLockE (tDc (iKeys td) (gName i) tYes tk tv vs) σ H Q := by
  refine ⟨a, _, h, True.intro, fun od => ?_⟩
  refine hd _ _ ⟨a, od, rfl, .inl ⟨kd ks g, upd_same, fun D hD => ?_⟩⟩
  have hDa : D ≠ a := fun e => by rw [e, upd_same] at hD; cases hD
  have hD0 : H D = none := by rw [upd_ne hDa] at hD; exact hD
  refine dc_val (Src.keys (G := upd H a (.frz od (.dK (kd ks g)))) upd_same) (Ex.refl _) hD (by rw [kd_len]; exact hn) ks (kd_len ks g).symm nd gv (fun j x H1 z hz e y Q h1 => ?_) tyes_mono gname_mono fun H2 e2 h2 => ?_
  · obtain ⟨k, v', hk, rfl⟩ := y
    obtain ⟨z', hz', rfl, _⟩ := kd_at hk
    rw [hz] at hz'
    cases hz'
    obtain ⟨w1, w2⟩ := turn z (mem_of_at hz) H1 (exb_lock e) (.inr ⟨od, e a _ upd_same⟩) Q h1
    exact ⟨w1, tyesd w2⟩
  · refine ⟨e2 a _ upd_same, k D _ hD0 (ex_unlock h e2) ?_⟩
    show upd H2 a _ D = _
    rw [upd_ne hDa]
    exact h2
/-- {z: e for z in xs}, xs a list of texts -/
theorem dcs (xs : List Str) (hx : SqL K H a (xs.map V.str)) (nd : xs.Nodup) (hn : xs.length ≤ 40000) (hd : ∀ (H1 : Hp) (Q' : VK), Q' (.ref a) H1 → td σ H1 Q') (gv : Str → V) {i : Nat}
    (turn : ∀ z ∈ xs, ∀ H1, Ex H H1 → ∀ (Q : V → V → Hp → Prop), (∀ H4, Ex H1 H4 → Q (.str z) (gv z) H4) →
      wipe ((wipe σ vs).set i (some (.str z))) vs = wipe σ vs ∧ tk ((wipe σ vs).set i (some (.str z))) H1 fun y H4 => tv ((wipe σ vs).set i (some (.str z))) H4 fun z H5 => Q y z H5)
    (k : ∀ p H2, H p = none → Ex H H2 → KD H2 p xs gv → Q (.ref p) H2) : tDc (iList K td) (gName i) tYes tk tv vs σ H Q := by
  refine hd _ _ ⟨a, rfl, ⟨_, hx⟩, fun D hD => ?_⟩
  refine dc_val (Src.list hx) (Ex.refl _) hD (by rw [List.length_map]; exact hn) xs (List.length_map _).symm nd gv (fun j x H1 z hz e y Q h1 => ?_) tyes_mono gname_mono fun H2 e2 h2 => k D H2 hD e2 h2
  rw [List.getElem?_map, hz] at y
  cases y
  obtain ⟨w1, w2⟩ := turn z (mem_of_at hz) H1 e Q h1
  exact ⟨w1, tyesd w2⟩
/-- for z in d, d a dict: Pv is said of the heap while d is locked -/
theorem ford {D : Ends} {tb : TS} {j : Nat} (h : KD H a ks g) (hd : ∀ (H1 : Hp) (Q' : VK), Q' (.ref a) H1 → td σ H1 Q') (Pv : Obj → Nat → L2.St → Hp → Prop)
    (h0 : ∀ od, Pv od 0 σ (upd H a (.frz od (.dK (kd ks g))))) (hG : ∀ od i σ' H', Pv od i σ' H' → H' a = some (.frz od (.dK (kd ks g))))
    (turn : ∀ od i z σ' H', ks[i]? = some z → Pv od i σ' H' → gName j (.str z) σ' H' fun σ2 H2 => tb ⟨Pv od (i + 1), fun v H' => H' a = some (.frz od (.dK (kd ks g))) ∧ D.rt v (upd H' a (.dK (kd ks g))), fun σ' H' => H' a = some (.frz od (.dK (kd ks g))) ∧ D.nx σ' (upd H' a (.dK (kd ks g))), Pv od (i + 1)⟩ σ2 H2)
    (hd2 : ∀ od σ' H', Pv od ks.length σ' H' → D.nx σ' (upd H' a (.dK (kd ks g)))) : tLock (tFor (iKeys td) (gName j) tb) D σ H := by
  refine ⟨a, _, h, True.intro, fun od => ?_⟩
  refine hd _ _ ⟨a, od, rfl, .inl ⟨kd ks g, upd_same, ?_⟩⟩
  refine ⟨fun i m σ' H' => m = ks.length - i ∧ i ≤ ks.length ∧ Pv od i σ' H', ⟨ks.length, by simp, Nat.zero_le _, h0 od⟩, ?_⟩
  rintro i m σ' H' ⟨rfl, hi, p⟩
  by_cases hlt : i < ks.length
  · refine .inr ⟨⟨hG od i σ' H' p, by rw [kd_len]; exact hlt⟩, Pv od (i + 1), fun σ2 H2 p' => ⟨ks.length - (i + 1), by omega, rfl, hlt, p'⟩, fun x H1 y => ?_⟩
    obtain ⟨rfl, k, v, hk, rfl⟩ := y
    obtain ⟨z, hz, rfl, _⟩ := kd_at hk
    exact turn od i z σ' H1 hz p
  · have ei : i = ks.length := by omega
    subst ei
    exact .inl ⟨⟨hG od _ σ' H' p, by rw [kd_len]; exact Nat.le_refl _⟩, hG od _ σ' H' p, hd2 od σ' H' p⟩
end
end K55

set_option Elab.async false
set_option linter.all false
set_option maxRecDepth 100000
set_option maxHeartbeats 4000000
namespace K55
open PySem PySem.Spec PyProof.Rows L2 Evl
/-! own rules: name = {..} of a comprehension, {**a, **b} -/
section
variable {X : Cx}
theorem sw_trueD {k v : Expr} {gs : List Comprehension} {scope : Scope} {pos py : Pos} {y : Str} {l : Nat} {env : Env} (hk : env.scope.kind = .function) (hy : env.scope.names.lookup y = some .local) (hl : (py.line == pos.line) = true)
    (ha : (scope.names.any fun (n, k) => n == y && (k == .local || k == .cell)) = false) : swapsWith (.DictComp k v gs scope pos) (some (.Name y py)) l env = pure true := by
  have ky : env.kindOf y = some .local := hy
  have hb : env.blockKind = .function := by unfold Env.blockKind; rw [hk]; rfl
  unfold swapsWith
  simp only [hb, ky, ha, Expr.pos, hl]
  rfl
theorem ps_setDc {i : Nat} {y : Str} {py : Pos} {kx vx tg iter : Expr} {ifs : List Expr} {scope : Scope} {own : List (Str × Nat)} {pos spos : Pos} {wi : TI} {g : TG} {tt : TT} {tk tv : TE} (hc : X.calm = true) (hN : X.N.Nodup) (hy : X.N[i]? = some y) (hyl : X.env.scope.names.lookup y = some .local)
    (hsw : swapsWith (.DictComp kx vx [⟨tg, iter, ifs, 0⟩] scope pos) (some (.Name y py)) spos.line X.env = pure true) (hi : PI X tg iter wi) (ok : BlkOk X.N X.env.scope scope own)
    (hg : ∀ (s : Shared) (H : Hp) (C : Addr) (cl : List (Str × Addr)) (fp : List Addr), PG (X.blk s H scope (compEnvC scope cl C X.env) fp) tg g) (ht : ∀ (s : Shared) (H : Hp) (C : Addr) (cl : List (Str × Addr)) (fp : List Addr), PTs (X.blk s H scope (compEnvC scope cl C X.env) fp) ifs tt)
    (hk : ∀ (s : Shared) (H : Hp) (C : Addr) (cl : List (Str × Addr)) (fp : List Addr), PE (X.blk s H scope (compEnvC scope cl C X.env) fp) kx tk)
    (he : ∀ (s : Shared) (H : Hp) (C : Addr) (cl : List (Str × Addr)) (fp : List Addr), PE (X.blk s H scope (compEnvC scope cl C X.env) fp) vx tv) (hs : ∀ x, foldedSetIterable iter X.env x = pure x := by intro _; rfl) :
    PS X (.Assign [.Name y py] (.DictComp kx vx [⟨tg, iter, ifs, 0⟩] scope pos) spos) (tAsg (tDc wi g tt tk tv (own.map (·.2))) (gName i)) := by
  refine ⟨fun pins s σ H D I h => ?_⟩
  rw [exec_Assign_Name_used _ _ _ _ hsw]
  refine wpAny_bind (wpAny_standAt (wpAny_bind ?_))
  show wpAny _ X.A (do let _ ← comprehension (.DictComp kx vx [⟨tg, iter, ifs, 0⟩] scope pos) scope X.env (firstIterPos [⟨tg, iter, ifs, 0⟩] pos) newDict false (eval iter X.env) (some (assign (.Name y py) X.env))) _ _ s
  have h : tDc wi g tt tk tv (own.map (·.2)) σ H (fun x H1 => gName i x σ H1 D.nx) := h
  refine wpAny_bind (thn (dc_core (Qf := fun _ s' => SP X pins D .next s') hc hN I hi ok hg ht hk he hs h fun L C s' m H' I' q hn f => ?_) fun _ s' hq => wpAny_pure (wpAny_pure hq))
  show wpAny _ _ (assign (.Name y py) X.env (.ref L)) _ _ _
  refine wpAny_assign_Name (store_ok2 (v := V.ref L) I' hN hy (.inl hyl) rfl (fun s2 I2 ⟨a, sb, ha⟩ => ?_) (.inr hyl))
  obtain ⟨f0, f1, f2, f3, f4, f5⟩ := f
  have haC : C ≠ a := by
    rcases ha with z | z
    · rw [z]; exact f1
    · exact fun e => f4 y a z e.symm
  refine ⟨m, hn.sameBut sb haC, fun h3 sb3 => ?_⟩
  exact ⟨_, H', I2.turned (t' := s2.toks) (fun b o hb e => (sb3.2 b hb).trans e) f0 f1 f3 f4 f5, q⟩
end
/-! ### {**a, **b} -/
section
variable {prog : Program} {w : World} {K : Type} [DecidableEq K] {knd : KeyKind prog w K} {A : Around} {E : Value → Shared → Prop} {s : Shared}
theorem dictPut_pairs {d : Addr} {kvs : List (K × Value)} {k : K} {key v : Value} {Q : Unit → Shared → Prop} (hkey : knd.is k key = true) (hm : s.heap.DictOf knd d kvs)
    (hQ : ∀ h', h'.DictOf knd d (stored kvs k v) → Heap.SameBut d s.heap h' → Q () { s with heap := h' })
    (hsz : kvs.length ≤ sizeLine) :
    wpAny (model prog w) A (dictPut d (knd.hash k) key v) Q E s := by
  obtain ⟨o, es, ep, ho, hc, hd, hk, hp, hn⟩ := hm
  have hes : es.size ≤ sizeLine := by have e1 := hp.length; have e2 : es.toList.length = es.size := by simp
                                      omega
  unfold dictPut
  refine wpAny_bind (wpAny_dictFind_of hkey ho hd hk ?_)
  have hidx : (es.findIdx? fun e => knd.is k e.key) = kvs.findIdx? fun kv => decide (kv.1 = k) := by
    rw [← hp.findIdx k]; obtain ⟨l⟩ := es; simp
  cases hi : es.findIdx? fun e => knd.is k e.key with
  | some i =>
    refine (wpAny_updateDict ho hd ((hQ _ ⟨_, _, ep, Heap.get?_update_self _ ho (Obj.isFreed_of_dict (Obj.data_mapDict hd _)),
      hc.mapDict _, Obj.data_mapDict hd _, hk.modify _ _, ?_, ?_⟩ (Heap.SameBut.update ..))))
    · rw [stored, if_pos (any_of_findIdx_some (hidx ▸ hi))]
      have hl : (es.toList.findIdx? fun e => knd.is k e.key) = some i := by rw [← hi]; obtain ⟨l⟩ := es; simp
      have := hp.modify hn hl v
      obtain ⟨l⟩ := es
      simpa using this
    · rw [stored, if_pos (any_of_findIdx_some (hidx ▸ hi)), keys_map_store]; exact hn
  | none =>
    have hnot : k ∉ kvs.map (·.1) := not_mem_of_findIdx_none (hidx ▸ hi)
    have hany : ¬ (kvs.any fun kv => decide (kv.1 = k)) = true := by
      rw [List.any_eq_true]; rintro ⟨kv, hkv, he⟩
      exact hnot (List.mem_map.mpr ⟨kv, hkv, of_decide_eq_true he⟩)
    refine (wpAny_updateDictKeys (hz := hes) ho hd (hQ _ ⟨_, _, ep + 1, Heap.get?_update_self _ ho (Obj.isFreed_of_dict (Obj.data_mapDictKeys hd _)),
      hc.mapDictKeys _, Obj.data_mapDictKeys hd _, hk.push hkey _, ?_, ?_⟩ (Heap.SameBut.update ..)))
    · rw [stored, if_neg hany]
      have := hp.append hkey (knd.hash k) v
      obtain ⟨l⟩ := es
      simpa using this
    · rw [stored, if_neg hany, List.map_append, List.nodup_append]
      refine ⟨hn, by simp, ?_⟩
      intro a ha b hb
      simp only [List.map_cons, List.map_nil, List.mem_singleton] at hb
      subst hb
      exact fun e => hnot (e ▸ ha)
theorem mergeMap_ok {d o : Addr} {kvs more : List (K × Value)} {Q : Unit → Shared → Prop} (hdo : d ≠ o) (hoS : (o == sysModules) = false) (hnr : ∀ k a, knd.is k (.ref a) = false)
    (hd : s.heap.DictOf knd d kvs) (ho : s.heap.DictOf knd o more)
    (hQ : ∀ h', h'.DictOf knd d (merged kvs more) → h'.DictOf knd o more → Heap.SameBut d s.heap h' → Q () { s with heap := h' })
    (hsz : kvs.length + more.length ≤ sizeLine) :
    wpAny (model prog w) A (mergeMapping d (.ref o) false) Q E s := by
  obtain ⟨od, esd, epd, hod, hcd, hdd, hkd, hpd, hnd⟩ := id hd
  obtain ⟨oo, eso, epo, hoo, hco, hdo', hko, hpo, hno⟩ := id ho
  have hlen : more.length = eso.size := by rw [← hpo.length]; simp
  have loop : wpAny (model prog w) A (do
      let l ← dictEntries o
      let size : Nat := l.size
      let epoch ← dictEpoch o
      forIn (List.range size) PUnit.unit fun i (_ : PUnit) => (do
        let l' ← dictEntries o
        match l'[i]? with
        | some e => do
          holding [e.key, e.val] (dictPut d e.hash e.key e.val)
          let ep' ← dictEpoch o
          if (ep' != epoch) = true then do
              (unsupported "dict.changed-during-merge" : Sem PUnit)
              pure (ForInStep.yield PUnit.unit)
            else pure (ForInStep.yield PUnit.unit)
        | x => do
          (unsupported "dict.changed-during-merge" : Sem PUnit)
          pure (ForInStep.yield PUnit.unit) : Sem (ForInStep PUnit))
      pure ()) Q E s := by
    refine wpAny_bind (wpAny_dictEntries hoo hdo' ?_)
    refine wpAny_bind (wpAny_dictEpoch hoo hdo' ?_)
    refine wpAny_bind ?_
    rw [show List.range eso.size = List.range' 0 eso.size from List.range_eq_range']
    refine wpAny_forIn_list _
      (fun rest _ s' => ∃ h' i, s' = { s with heap := h' } ∧ rest = List.range' i (eso.size - i) ∧ i ≤ eso.size ∧ h'.DictOf knd d (merged kvs (more.take i)) ∧ h'.get? o = some oo ∧ Heap.SameBut d s.heap h')
      _ ?_ ?_ _ _ ⟨s.heap, 0, rfl, by simp, Nat.zero_le _, by simpa [merged] using hd, hoo, Heap.SameBut.refl _ _⟩
    · rintro x rest b s' ⟨h', i, rfl, hr, hi, hd', hoo', hs'⟩
      have hlt : i < eso.size := by
        rcases Nat.lt_or_ge i eso.size with h | h
        · exact h
        · rw [Nat.sub_eq_zero_of_le h] at hr; simp at hr
      obtain ⟨rfl, hrest⟩ : x = i ∧ rest = List.range' (i + 1) (eso.size - (i + 1)) := by
        have e : eso.size - i = (eso.size - (i + 1)) + 1 := by omega
        rw [e, List.range'_succ] at hr
        injection hr with h1 h2
        exact ⟨h1, h2⟩
      refine wpAny_bind (wpAny_dictEntries hoo' hdo' ?_)
      rw [Array.getElem?_eq_getElem hlt]
      obtain ⟨kv, hkv⟩ : ∃ kv, more[x]? = some kv := ⟨more[x]'(by rw [hlen]; exact hlt), List.getElem?_eq_getElem _⟩
      obtain ⟨k, v⟩ := kv
      obtain ⟨hkey, hval⟩ := hpo.get? (e := eso[x]) (by simp [hlt]) hkv
      obtain ⟨k', hkey', hhash⟩ := hko eso[x] (Array.getElem_mem hlt)
      obtain rfl : k' = k := knd.inj _ _ _ hkey' hkey
      show wpAny _ _ (holding [eso[x].key, eso[x].val] (dictPut d eso[x].hash eso[x].key eso[x].val) >>= _) _ _ _
      rw [hhash, hval]
      have hmx : (merged kvs (more.take x)).length ≤ sizeLine := by
        have e1 := merged_length_le kvs (more.take x)
        have e2 : (more.take x).length ≤ more.length := by rw [List.length_take]; omega
        omega
      refine wpAny_bind (wpAny_holding (dictPut_pairs (hsz := hmx) hkey hd' fun h'' hd'' hs'' => ?_))
      have hoo'' : h''.get? o = some oo := (hs''.2 o (Ne.symm hdo)).trans hoo'
      refine wpAny_bind (wpAny_dictEpoch hoo'' hdo' ?_)
      rw [if_neg (by simp)]
      exact wpAny_pure ⟨h'', x + 1, rfl, hrest, hlt, by rw [merged_take_succ kvs more x (k', v) hkv]; exact hd'', hoo'', hs'.trans hs''⟩
    · rintro b s' ⟨h', i, rfl, hr, hi, hd', hoo', hs'⟩
      have hin : i = eso.size := by
        rcases Nat.lt_or_ge i eso.size with h | h
        · have e : eso.size - i = (eso.size - (i + 1)) + 1 := by omega
          rw [e, List.range'_succ] at hr; exact nomatch hr
        · exact Nat.le_antisymm hi h
      refine wpAny_pure (hQ h' ?_ ⟨oo, eso, epo, hoo', hco, hdo', hko, hpo, hno⟩ hs')
      rw [hin, ← hlen, List.take_length] at hd'; exact hd'
  unfold mergeMapping
  refine wpAny_bind (wpAny_isInstance ho.typeIs isSubtype_dict_dict ?_)
  rw [if_pos rfl]
  refine wpAny_bind (wpAny_specialOf ho.typeIs F.slot_dict_iter.lookup (wpAny_bind (wpAny_pure ?_)))
  simp only [beq_self_eq_true]
  rw [if_neg (by rw [hoS]; exact Bool.false_ne_true)]
  refine wpAny_bind (wpAny_dictEntries hod hdd ?_)
  split
  · refine wpAny_bind (wpAny_dictEntries hoo hdo' ?_)
    refine wpAny_bind ?_
    rw [← Array.forIn_toList]
    refine wpAny_forIn_list _ (fun rest _ s' => s' = s ∧ ∀ e ∈ rest, e ∈ eso.toList) _ ?_ ?_ _ _ ⟨rfl, fun e he => he⟩
    · rintro e rest b s' ⟨rfl, hr⟩
      obtain ⟨k, hk, _⟩ := hko e (by simpa using hr e List.mem_cons_self)
      have fin : wpAny (model prog w) A (pure (ForInStep.yield PUnit.unit) : Sem (ForInStep PUnit)) (fun r s'' => match r with | .yield b' => s'' = s' ∧ ∀ e ∈ rest, e ∈ eso.toList | .done b' => False) E s' := wpAny_pure ⟨rfl, fun e he => hr e (List.mem_cons_of_mem _ he)⟩
      cases hek : e.key with
      | ref a => rw [hek, hnr] at hk; cases hk
      | _ => exact fin
    · rintro b s' ⟨rfl, _⟩
      exact loop
  · exact loop
end
section
variable {X : Cx} {pos : Pos} {e1 e2 : Expr} {ta tb : TE}
/-- {**a, **b} -/
def tStar (ta tb : TE) : TE := fun σ H Q => ∀ p, H p = none → ta σ (upd H p (.dK [])) fun x H1 => ∃ a m1, x = .ref a ∧ a ≠ p ∧ H1 p = some (.dK []) ∧ Rd H1 a (.dK m1) ∧ m1.length ≤ 20000 ∧
  tb σ (upd H1 p (.dK (mergeK [] m1))) fun y H2 => ∃ b m2, y = .ref b ∧ b ≠ p ∧ H2 p = some (.dK (mergeK [] m1)) ∧ Rd H2 b (.dK m2) ∧ m2.length ≤ 20000 ∧ Q (.ref p) (upd H2 p (.dK (mergeK (mergeK [] m1) m2)))
theorem mix_no_ref {P : Program} {w : World} (k : Key) (a : Addr) : (mixKind P w).is k (.ref a) = false := by cases k <;> rfl
theorem star_step {pins : List (Addr × Obj)} {σ : L2.St} {H : Hp} {s : Shared} {d a : Addr} {kvs more : List (Key × V)} {A : Around} {E : Value → Shared → Prop} {Q : Unit → Shared → Prop} (I : Inv X pins σ H s) (hd : H d = some (.dK kvs)) (ha : Rd H a (.dK more)) (hne : a ≠ d) (hz : kvs.length + more.length ≤ sizeLine)
    (h : ∀ s', Inv X pins σ (upd H d (.dK (mergeK kvs more))) s' → Q () s') : wpAny (model X.prog X.w) A (mergeMapping d (.ref a) false) Q E s := by
  obtain ⟨z, _, vs, rel, dd⟩ := dk_of I.hok hd
  obtain ⟨z', lo, vs', rel', dd'⟩ := dk_rd I.hok ha
  refine mergeMap_ok (knd := mixKind X.prog X.w) hne.symm lo mix_no_ref dd dd' (fun h' dn _ hs => h _ ?_) (by rw [← rel.length, ← rel'.length]; exact hz)
  have he : ∃ q, h'.get? d = some q := let ⟨q, _, _, hq, _⟩ := dn; ⟨q, hq⟩
  have hlo : (d == sysModules) = false := by
    obtain ⟨_, lo, _⟩ := dk_of I.hok hd
    exact lo
  exact d_write (t' := s.toks) I (by rw [hd]; exact True.intro) hs he (dk_new (Nat.le_trans (length_mergeK more kvs) hz) hlo (rel'.merge rel) dn)
theorem pe_star (h1 : PE X e1 ta) (h2 : PE X e2 tb) : PE X (.Dict [none, none] [e1, e2] pos) (tStar ta tb) := by
  refine ⟨fun pins s σ H Q I q => ?_⟩
  have hn := I.hok.fresh (Nat.le_refl s.heap.objs.size)
  have I1 := I.laid (a := s.heap.objs.size) (o := .dK []) (h' := s.heap.push { cls := .type "dict", data := .dict #[] }) (t' := s.toks) (fun _ _ q => Heap.get?_push_of_some _ q) (Nat.le_refl _) (dk_empty s.heap I.big)
  have q := q _ hn
  rw [arm_eval_Dict]
  refine wpAny_bind (wpAny_standAt ?_)
  show wpAny _ _ (dictDisplay [(none, do let x ← eval e1 X.env; standAt pos; pure x), (none, do let x ← eval e2 X.env; standAt pos; pure x)]) _ _ _
  unfold dictDisplay
  dsimp only
  simp only [List.forIn_cons, List.forIn_nil]
  have mm : ∀ {d a : Addr} {kvs more : List (Key × V)} {H : Hp} {s : Shared} {l1 : List Value} {f g : Value → Sem PUnit} {h' : Value → Sem Unit} {Q : Unit → Shared → Prop}, Inv X pins σ H s → H d = some (.dK kvs) → Rd H a (.dK more) → a ≠ d → kvs.length + more.length ≤ sizeLine →
      (∀ s', Inv X pins σ (upd H d (.dK (mergeK kvs more))) s' → Q () s') → wpAny (model X.prog X.w) X.A ((((holding l1 (mergeMapping d (.ref a) false)).onRaise f).tryCatch h').onRaise g) Q X.xe s := by
    intro d a kvs more H s l1 f g h' Q I hd ha hne hz k
    exact wpAny_onRaise (wpAny_tryCatch (wpAny_onRaise (wpAny_holding (star_step I hd ha hne hz k))))
  have ie : ([] : List (Sem Value × Sem Value)).isEmpty = true := rfl
  simp only [ie, if_true]
  refine wpAny_bind (wpAny_bind (wpAny_bind ?_))
  refine wpAny_pure ?_
  refine wpAny_bind (wpAny_alloc ?_)
  refine wpAny_bind (wpAny_holding (wpAny_bind ?_))
  refine thn (h1.run pins _ σ _ _ I1 q) fun v1 s1 ⟨x, H1, I1, r1, a, m1, ex, ne1, hd1, rd1, z1, q⟩ => ?_
  subst ex
  cases (show v1 = Value.ref a from r1)
  refine wpAny_bind (wpAny_standAt (wpAny_pure ?_))
  refine wpAny_bind (mm I1 hd1 rd1 ne1 (by rw [sizeLine_eq, List.length_nil]; omega) fun s2 I2 => ?_)
  refine wpAny_pure ?_
  show wpAny _ _ (do
    let x ← _
    _) _ _ _
  refine wpAny_bind (wpAny_bind (wpAny_pure ?_))
  refine wpAny_bind (wpAny_pure ?_)
  refine wpAny_bind (wpAny_holding (wpAny_bind ?_))
  refine thn (h2.run pins _ σ _ _ I2 q) fun v2 s3 ⟨y, H2, I3, r2, b, m2, ey, ne2, hd2, rd2, z2, q⟩ => ?_
  subst ey
  cases (show v2 = Value.ref b from r2)
  refine wpAny_bind (wpAny_standAt (wpAny_pure ?_))
  have hz : (mergeK [] m1).length + m2.length ≤ sizeLine := by
    have := length_mergeK m1 []
    rw [List.length_nil] at this
    rw [sizeLine_eq]; omega
  refine wpAny_bind (mm I3 hd2 rd2 ne2 hz fun s4 I4 => ?_)
  refine wpAny_pure ?_
  refine wpAny_pure ?_
  refine wpAny_bind (wpAny_pure ?_)
  exact wpAny_pure ⟨.ref s.heap.objs.size, _, I4, rfl, q⟩
end
end K55

set_option Elab.async false
set_option linter.all false
set_option maxRecDepth 100000
set_option maxHeartbeats 4000000
namespace K55
open PySem PySem.Spec PyProof.Rows L2 Evl
/-! steps -/
section
variable {K : PySem.W.Frag} {H : Hp} {a : Addr} {ks : List Str} {g : Str → V} {k : Str} {v : V} {Q : VK} {i j : Int}
theorem gk (h : Rd H a (.dK (kd ks g))) (m : k ∈ ks) : DGet H a (.str k) (some (g k)) := .inl ⟨_, .inr k, h, rfl, (valV_kd_mem m).symm⟩
theorem gn (h : Rd H a (.dK (kd ks g))) (m : k ∉ ks) : DGet H a (.str k) none := .inl ⟨_, .inr k, h, rfl, (valV_kd_not m).symm⟩
theorem pm (h : KD H a ks g) (m : k ∈ ks) (n : ks.length ≤ 40000) : DPut H a (.str k) v (upd H a (.dK (kd ks fun j => if j = k then v else g j))) := by
  rw [← putK_kd_mem v m]
  exact DPut.k (k := .inr k) h (by rw [kd_len]; exact sz_lt (by omega))
theorem pn (h : KD H a ks g) (m : k ∉ ks) (n : ks.length ≤ 40000) : DPut H a (.str k) v (upd H a (.dK (kd (ks ++ [k]) fun j => if j = k then v else g j))) := by
  rw [← putK_kd_new v m]
  exact DPut.k (k := .inr k) h (by rw [kd_len]; exact sz_lt (by omega))
theorem mxE (i j : Int) : V.int (if j > i then j else i) = V.int (max i j) := congrArg V.int (by omega)
theorem mnE (i j : Int) : V.int (if j < i then j else i) = V.int (min i j) := congrArg V.int (by omega)
theorem tInt : TyX K H (.int i) (.type "int") := .base (.int i)
theorem tStr {z : Str} : TyX K H (.str z) (.type "str") := .base (.str z)
theorem tDict {kvs : List (Key × V)} (h : H a = some (.dK kvs)) : TyX K H (.ref a) (.type "dict") := .base (.dK h)
theorem tTupl {kvs : List V} (h : H a = some (.tup kvs)) : TyX K H (.ref a) (.type "tuple") := .base (.tup h)
theorem tList {kvs : List V} (h : H a = some (.lst kvs)) : TyX K H (.ref a) (.type "list") := .base (.lst h)
theorem kInt : PySem.W.kitOne K (.type "int") (.type "int") = some true := kit_ty (by decide +kernel)
theorem kBool : PySem.W.kitOne K (.type "int") (.type "bool") = some false := kit_ty (by decide +kernel)
theorem kStr : PySem.W.kitOne K (.type "str") (.type "str") = some true := kit_ty (by decide +kernel)
theorem kDict : PySem.W.kitOne K (.type "dict") (.type "dict") = some true := kit_ty (by decide +kernel)
theorem kTup : PySem.W.kitOne K (.type "tuple") (.type "tuple") = some true := kit_ty (by decide +kernel)
theorem lenT {xs : List V} (h : SqT K H a xs) : LenV K (.ref a) H xs.length := .inr ⟨_, h, rfl⟩
theorem lenL {xs : List V} (h : SqL K H a xs) : LenV K (.ref a) H xs.length := .inl ⟨_, h, rfl⟩
theorem rde {H' : Hp} {u : HO} (h : Rd H a u) (e : Ex H H') : Rd H' a u := h.elim (fun h => .inl (e _ _ h)) fun ⟨o, h⟩ => .inr ⟨o, e _ _ h⟩
theorem ne_td {b : Addr} {xs : List V} {kvs : List (Key × V)} (h : H a = some (.tup xs)) (h' : H b = some (.dK kvs)) : a ≠ b := fun e => by rw [e, h'] at h; cases h
theorem ne_ld {b : Addr} {xs : List V} {kvs : List (Key × V)} (h : H a = some (.lst xs)) (h' : H b = some (.dK kvs)) : a ≠ b := fun e => by rw [e, h'] at h; cases h
theorem ne_id {b C dx : Addr} {fs : List (Str × V)} {kvs : List (Key × V)} (h : H a = some (.ins C dx fs)) (h' : H b = some (.dK kvs)) : a ≠ b := fun e => by rw [e, h'] at h; cases h
theorem ex_unlockB {H H2 : Hp} {a p : Addr} {u fr : HO} (h : H a = some u) (e : ExB p (upd H a fr) H2) (n : a ≠ p) : ExB p H (upd H2 a u) := fun b o hn hb => by
  by_cases q : b = a
  · subst q
    rw [h] at hb
    cases hb
    exact upd_same
  · rw [upd_ne q]
    exact e b o hn (by rw [upd_ne q]; exact hb)
theorem cgv {v v' : V} (e : v' = v) (q : Q v H) : Q v' H := e ▸ q
theorem upd_at {o : HO} {p : Addr} : upd H p o p = some o := upd_same
theorem sqt {xs : List V} (h : H a = some (.tup xs)) : SqT K H a xs := .inl (.inl h)
theorem sql {xs : List V} (h : H a = some (.lst xs)) : SqL K H a xs := .inl (.inl h)
theorem all_true {α : Type} (xs : List α) : (xs.map fun _ => true).all id = true := by induction xs with | nil => rfl | cons _ _ ih => exact ih
theorem map_bl_true {α : Type} (xs : List α) (f : α → Bool) (h : ∀ x ∈ xs, f x = true) : xs.filter f = xs := List.filter_eq_self.mpr h
end
section
variable {X : Cx} {K : PySem.W.Frag}
theorem ix_tupK (h : X.K = K) : IxR X (rIxT K) := h ▸ ix_tup
theorem ix_listK (h : X.K = K) : IxR X (rIxL K) := h ▸ ix_list
theorem call_isiK (h : X.K = K) : CallR X (.builtin "isinstance") (rIsi K) := h ▸ call_isi
theorem cr_sumK (hc : X.calm = true) (h : X.K = K) : CallR X (.builtin "sum") (rSum K) := h ▸ cr_sum hc
theorem cr_allK (hc : X.calm = true) (h : X.K = K) : CallR X (.builtin "all") (rAll K) := h ▸ cr_all hc
theorem cr_anyK (hc : X.calm = true) (h : X.K = K) : CallR X (.builtin "any") (rAny K) := h ▸ cr_any hc
theorem call_lenK (h : X.K = K) : CallR X (.builtin "len") (fun xs H Q => ∃ x n, xs = [x] ∧ LenV K x H n ∧ Q (.int n) H) := h ▸ call_len
theorem op_in_seqK (h : X.K = K) : OpR X (compareOp .In) (rIn K false) := h ▸ op_in_seq
theorem op_notIn_seqK (h : X.K = K) : OpR X (compareOp .NotIn) (rIn K true) := h ▸ op_notIn_seq
theorem cr_sortedSK (h : X.K = K) : CallR X (.builtin "sorted") (rSortedS K) := h ▸ cr_sortedS
theorem call_list_ofK (h : X.K = K) : CallR X (.type "list") (fun xs H Q => ∃ p ys, xs = [.ref p] ∧ (SqL K H p ys ∨ SqT K H p ys) ∧ ∀ l, H l = none → Q (.ref l) (upd H l (.lst ys))) := h ▸ call_list_of
theorem pe_fldK {e : Expr} {f : Str} {pos : Pos} {ta : TE} (h : X.K = K) (he : PE X e ta) (hb : attributeBase e f X.env (eval e X.env) = eval e X.env) : PE X (.Attribute e f pos) (tFld K ta f) := h ▸ pe_fld he hb
theorem pi_listK {tg l : Expr} {tl : TE} (h : X.K = K) (hl : PE X l tl) : PI X tg l (iList K tl) := h ▸ pi_list hl
theorem pi_tupK {tg l : Expr} {tl : TE} (h : X.K = K) (hl : PE X l tl) : PI X tg l (iTup K tl) := h ▸ pi_tup hl
theorem op_eqDK (h : X.K = K) (hu : X.A.units + 64 < cLine) : OpR X (compareOp .Eq) (rEqD K) := h ▸ op_eqD hu
theorem op_neDK (h : X.K = K) (hu : X.A.units + 64 < cLine) : OpR X (compareOp .NotEq) (rNeD K) := h ▸ op_neD hu
theorem sl_listK (h : X.K = K) : SlR X (rSlL K) := h ▸ sl_list
end
end K55

set_option Elab.async false
set_option linter.all false
set_option maxRecDepth 100000
set_option maxHeartbeats 4000000
namespace K55
open PySem PySem.Spec PyProof.Rows L2 Evl
section
variable {P : Program} {w : World} {K : PySem.W.Frag} {mg : Str → Option Value} {base : Heap}
/-! ### is_word -/
def chrOk (c : Nat) : Bool := (!decide ((⟨#[c]⟩ : Str).cps.toList < ("a" : Str).cps.toList)) && (!decide (("z" : Str).cps.toList < (⟨#[c]⟩ : Str).cps.toList))
def isW (z : Str) : Bool := decide (1 ≤ z.length) && decide (z.length ≤ 8) && z.cps.all chrOk
def spIsWord : Sp := fun vs H Q _ => ∃ z : Str, vs = [.str z] ∧ isW z = true ∧ ∀ H', Ex H H' → Q (.bl true) H'
theorem sc_is_word : FnScope ["thing", "sign"] ["thing"] (defScope s_is_word) := ⟨rfl, rfl, rfl, by decide +kernel, rfl, by decide +kernel, by decide +kernel⟩
theorem ok_is_word (T : Txt K mg) : Ent P w K mg base CX0 1 "is_word" ["thing"] [] spIsWord := by
  obtain ⟨fd, F⟩ := T.f_is_word
  refine Ent.mk' T.g_is_word F (FunD.ok0 F sc_is_word (fun vs H Q E h => ?_) (fun cdv A outer s H vs Q E hr h => ?_)) (fun _ _ _ _ _ _ us hl => match us, hl with | [_], _ => rfl)
  · obtain ⟨z, rfl, _⟩ := h
    rfl
  · obtain ⟨z, rfl, hw, q⟩ := h
    refine ⟨_, pss_one (ps_ret (pe_and (pe_callB call_isi (by rfl) T.n_isinstance (by decide +kernel) (pa_cons (pv 0) (pa_cons (pe_bltn (v := .ty "str") (by rfl) T.n_str (by decide +kernel) rfl) pa_nil)))
      (pe_and (pe_chain op_le op_le pe_int (pe_callB call_len (by rfl) T.n_len PySem.boot_len (pa_cons (pv 0) pa_nil)) pe_int)
      (pe_one (pe_callB (cr_all rfl) (by rfl) T.n_all (by decide +kernel) (pa_cons (pe_lc (own := [("sign", 1)]) (g := gName 1) (tt := tYes) rfl sc_is_word.nd (pi_str (pv 0)) (blkOk_by (N := ["thing", "sign"]) (sc := defScope s_is_word) (by decide +kernel)) (fun _ _ _ _ _ => pg_name (i := 1) sc_is_word.nd rfl (Or.inl rfl)) (fun _ _ _ _ _ => pts_nil)
        (fun _ _ _ _ _ => pe_chain op_le_str op_le_str pe_str (pv 1) pe_str)) pa_nil)))))), ?_⟩
    have h1 : (decide (1 ≤ z.length) && decide (z.length ≤ 8) && z.cps.all chrOk) = true := hw
    simp only [Bool.and_eq_true, decide_eq_true_eq] at h1
    obtain ⟨⟨l1, l8⟩, ha⟩ := h1
    refine ⟨_, rfl, _, _, _, _, true, rfl, .ty _, .base (.str z), kit_ty (by decide +kernel), true, rfl, iteT ?_⟩
    refine ⟨_, rfl, _, z.length, rfl, ⟨sz_of (by omega), rfl⟩, 1, z.length, rfl, rfl, true, bl_t (by omega), iteT ?_⟩
    refine ⟨z.length, 8, rfl, rfl, true, bl_t (by omega), iteT ?_⟩
    refine ⟨_, rfl, z, rfl, fun D hD => ?_⟩
    refine lc_val (Src.str z) (Ex.refl H) hD (show z.length ≤ 40000 by omega) (fun _ => true) (fun _ => .bl true) (fun i x H1 hi e y Qy Qn h1 h2 => ?_) fun H2 e2 h2 => ?_
    · obtain ⟨c, hc, rfl⟩ := y
      have hx : chrOk c = true := Array.all_eq_true'.mp ha c (Array.mem_of_getElem? hc)
      simp only [chrOk, Bool.and_eq_true] at hx
      refine ⟨rfl, tyes ?_⟩
      refine ⟨_, rfl, _, _, rfl, rfl, true, congrArg V.bl hx.1, iteT ?_⟩
      refine ⟨_, _, rfl, rfl, ?_⟩
      exact (congrArg (fun b => Qy (V.bl b) H1) hx.2).mpr (h1 rfl H1 (Ex.refl _))
    · refine ⟨D, (List.range z.length).map fun _ => true, rfl, sq_of ?_, ?_⟩
      · rw [h2, List.map_map, List.filter_eq_self.mpr (fun _ _ => rfl)]
        rfl
      · rw [List.all_eq_true.mpr (fun b hb => by obtain ⟨_, _, rfl⟩ := List.mem_map.mp hb; rfl)]
        exact q H2 e2
/-! ### data -/
structure Bn where
  rs : List Str
  lo : Str → Int
  hi : Str → Int
structure Bn.Ok (B : Bn) : Prop where
  nd : B.rs.Nodup
  n1 : 1 ≤ B.rs.length
  n2 : B.rs.length ≤ 12
  w : ∀ r ∈ B.rs, isW r = true
  l0 : ∀ r ∈ B.rs, 0 ≤ B.lo r
  lh : ∀ r ∈ B.rs, B.lo r ≤ B.hi r
  h60 : ∀ r ∈ B.rs, B.hi r ≤ 60
def Bn.low (B : Bn) (r : Str) : Int := if r ∈ B.rs then B.lo r else 0
def Bn.high (B : Bn) (r : Str) : Int := if r ∈ B.rs then B.hi r else 0
def BndAt (H : Hp) (a : Addr) (B : Bn) : Prop := ∃ T : Str → Addr, KD H a B.rs (fun r => .ref (T r)) ∧ ∀ r ∈ B.rs, H (T r) = some (.tup [.int (B.lo r), .int (B.hi r)])
theorem BndAt.ex {H H' : Hp} {a : Addr} {B : Bn} (h : BndAt H a B) (e : Ex H H') : BndAt H' a B := by
  obtain ⟨T, h1, h2⟩ := h
  exact ⟨T, e a _ h1, fun r hr => e _ _ (h2 r hr)⟩
structure DlOk (L : List Str) (D : Str → Str) : Prop where
  nd : L.Nodup
  n : L.length ≤ 60
  so : sortedS L = true
  w : ∀ l ∈ L, isW l = true
  v : ∀ l ∈ L, isW (D l) = true
abbrev DlAt (H : Hp) (a : Addr) (L : List Str) (D : Str → Str) : Prop := KD H a L (fun l => .str (D l))
abbrev IntD (H : Hp) (a : Addr) (ks : List Str) (f : Str → Int) : Prop := KD H a ks (fun k => .int (f k))
/-! ### is_natural -/
def spIsNat : Sp := fun vs H Q _ => ∃ i : Int, vs = [.int i, .int 60] ∧ 0 ≤ i ∧ i ≤ 60 ∧ Q (.bl true) H
theorem sc_is_natural : FnScope ["thing", "most"] ["thing", "most"] (defScope s_is_natural) := ⟨rfl, rfl, rfl, by decide +kernel, rfl, by decide +kernel, by decide +kernel⟩
theorem ok_is_natural (T : Txt K mg) : Ent P w K mg base CX0 1 "is_natural" ["thing", "most"] [.int 60] spIsNat := by
  obtain ⟨fd, F⟩ := T.f_is_natural
  obtain ⟨ds, hv, hb⟩ := F.binds1 (ps := ["thing", "most"]) 1 0 (by decide) rfl (fun T kV doc pm an cdv ct us its l1 l2 => match us, its, l1, l2 with | [_], [_], _, _ => ⟨_, rfl, rfl⟩)
  refine ⟨_, fd, ds, T.g_is_natural, F.kp, hb, hv, L2.FunD.ok F sc_is_natural (fun vs H Q E h => ?_) fun cdv A outer s H vs Q E hr h => ?_⟩
  · obtain ⟨i, rfl, _⟩ := h
    rfl
  · obtain ⟨i, rfl, h0, h60, q⟩ := h
    refine ⟨_, PSs.nox (pss_one (ps_ret (pe_and (pe_callB call_isi (by rfl) T.n_isinstance (by decide +kernel) (pa_cons (pv 0) (pa_cons (pe_bltn (v := .ty "int") (by rfl) T.n_int (by decide +kernel) rfl) pa_nil))) (pe_and (pe_not (pe_callB call_isi (by rfl) T.n_isinstance (by decide +kernel) (pa_cons (pv 0) (pa_cons (pe_bltn (v := .ty "bool") (by rfl) T.n_bool (by decide +kernel) rfl) pa_nil)))) (pe_one (pe_chain op_le op_le pe_int (pv 0) (pv 1))))))), ?_⟩
    refine ⟨_, rfl, _, _, _, _, true, rfl, .ty _, tInt, kInt, true, rfl, iteT ?_⟩
    refine ⟨_, rfl, _, _, _, _, false, rfl, .ty _, tInt, kBool, false, rfl, true, rfl, iteT ?_⟩
    refine ⟨_, rfl, 0, i, rfl, rfl, true, bl_t h0, iteT ?_⟩
    refine ⟨_, rfl, i, 60, rfl, rfl, ?_⟩
    exact cgv (Q := Q) (bl_t h60) q
/-! ### check_deal -/
def spCheckDeal : Sp := fun vs H Q _ => ∃ a L D, vs = [.ref a] ∧ DlAt H a L D ∧ DlOk L D ∧ ∀ H', Ex H H' → Q .non H'
theorem sc_check_deal : FnScope ["deal", "lane"] ["deal"] (defScope s_check_deal) := ⟨rfl, rfl, rfl, by decide +kernel, rfl, by decide +kernel, by decide +kernel⟩
theorem ok_check_deal (T : Txt K mg) : Ent P w K mg base CX0 2 "check_deal" ["deal"] [] spCheckDeal := by
  obtain ⟨fd, F⟩ := T.f_check_deal
  have e_is_word := ok_is_word (P := P) (w := w) (base := base) T
  obtain ⟨_, gMOST_LANES⟩ := T.i_MOST_LANES
  refine Ent.mk' T.g_check_deal F (FunD.ok0 F sc_check_deal (fun vs H Q E h => ?_) (fun cdv A outer s H vs Q E hr h => ?_)) (fun _ _ _ _ _ _ us hl => match us, hl with | [_], _ => rfl)
  · obtain ⟨a, L, D, rfl, _⟩ := h
    rfl
  · obtain ⟨a, L, D, rfl, hd, ok, q⟩ := h
    refine ⟨_, (pss_cons (ps_if (PW.pt (pw_or (pt_not (pt_val (pe_callB call_isi (by rfl) T.n_isinstance (by decide +kernel) (pa_cons (pv 0) (pa_cons (pe_bltn (v := .ty "dict") (by rfl) T.n_dict (by decide +kernel) rfl) pa_nil))))) (pw_or1 (pt_cmpR op_gt (pe_callB call_lenD (by rfl) T.n_len PySem.boot_len (pa_cons (pv 0) pa_nil)) (pe_glob (v := .int 60) rfl gMOST_LANES ⟨_, rfl⟩) (nomark _))))) (pss_one ps_never) pss_nil)
      (pss_one (ps_if (pt_not (pt_val (pe_callB (cr_all rfl) (by rfl) T.n_all (by decide +kernel) (pa_cons (pe_lock (pe_lc (own := [("lane", 1)]) (g := gName 1) (tt := tYes) rfl sc_check_deal.nd (pi_keys (pv 0)) (blkOk_by (N := ["deal", "lane"]) (sc := defScope s_check_deal) (by decide +kernel)) (fun _ _ _ _ _ => (pg_name (i := 1) sc_check_deal.nd rfl (Or.inl rfl))) (fun _ _ _ _ _ => pts_nil) (fun _ _ _ _ _ => (pe_and (pe_e e_is_word (hr.mono (by decide)) pass0 (pa_cons (pv 1) pa_nil)) (pe_one (pe_e e_is_word (hr.mono (by decide)) pass0 (pa_cons (pe_dget (hu_of hr) (pv 0) (pv 1) (fun _ _ => rfl)) pa_nil))))))) pa_nil)))) (pss_one ps_never) pss_nil))), ?_⟩
    refine ⟨_, rfl, _, _, _, _, true, rfl, .ty _, tDict hd, kDict, true, rfl, iteF ?_⟩
    refine ⟨_, rfl, a, _, rfl, hd, _, _, rfl, rfl, false, bl_f (by rw [kd_len]; have := ok.n; omega), iteF ?_⟩
    refine lcd hd (by have := ok.n; omega) (fun H1 Q' q' => ⟨_, rfl, q'⟩) (fun _ => true) (fun _ => .bl true) (fun z hz H1 eb rd Qy Qn h1 h2 => ?_) fun p H2 hp e2 h2 => ?_
    · refine ⟨rfl, tyes ⟨_, rfl, z, rfl, ok.w z hz, fun H4 e4 => ⟨true, rfl, iteT ?_⟩⟩⟩
      refine ⟨_, rfl, _, rfl, a, _, rfl, gk (rde rd e4) hz, _, rfl, ok.v z hz, fun H5 e5 => h1 rfl H5 (e4.trans e5)⟩
    · refine ⟨p, L.map fun _ => true, rfl, sql (by rw [h2, List.map_map, List.filter_eq_self.mpr fun _ _ => rfl]; rfl), ?_⟩
      refine ⟨true, congrArg V.bl (all_true L), iteF ?_⟩
      exact q H2 e2
/-! ### bound_of -/
def spBoundOf : Sp := fun vs H Q _ => ∃ b r B, vs = [.ref b, .str r] ∧ BndAt H b B ∧ ∀ p H', Ex H H' → H' p = some (.tup [.int (Bn.low B r), .int (Bn.high B r)]) → Q (.ref p) H'
theorem sc_bound_of : FnScope ["bounds", "reader"] ["bounds", "reader"] (defScope s_bound_of) := ⟨rfl, rfl, rfl, by decide +kernel, rfl, by decide +kernel, by decide +kernel⟩
theorem ok_bound_of (T : Txt K mg) : Ent P w K mg base CX0 1 "bound_of" ["bounds", "reader"] [] spBoundOf := by
  obtain ⟨fd, F⟩ := T.f_bound_of
  refine Ent.mk' T.g_bound_of F (FunD.ok0 F sc_bound_of (fun vs H Q E h => ?_) (fun cdv A outer s H vs Q E hr h => ?_)) (fun _ _ _ _ _ _ us hl => match us, hl with | [_, _], _ => rfl)
  · obtain ⟨b, r, B, rfl, _⟩ := h
    rfl
  · obtain ⟨b, r, B, rfl, ⟨U, hb, hU⟩, q⟩ := h
    refine ⟨_, (pss_one (ps_ret (pe_dget2 (hu_of hr) (pv 0) (pv 1) (pe_tup (pa_cons pe_int (pa_cons pe_int pa_nil))) ⟨rfl, rfl, rfl, rfl⟩))), ?_⟩
    refine ⟨_, rfl, b, rfl, .inl ⟨_, .inl hb⟩, _, rfl, by decide, fun p hp => ?_⟩
    have e : Ex H (upd H p (.tup [.int 0, .int 0])) := ex_upd (Ex.refl H) hp
    by_cases hr' : r ∈ B.rs
    · refine ⟨_, gk (.inl (e _ _ hb)) hr', q _ _ e ?_⟩
      unfold Bn.low Bn.high
      rw [if_pos hr', if_pos hr']
      exact e _ _ (hU r hr')
    · refine ⟨_, gn (.inl (e _ _ hb)) hr', q _ _ e ?_⟩
      unfold Bn.low Bn.high
      rw [if_neg hr', if_neg hr']
      exact upd_same
/-! ### is_possible -/
def sumOf (ks : List Str) (f : Str → Int) : Int := (ks.map f).sum
def Bn.Can (B : Bn) (m : Int) : Prop := sumOf B.rs B.lo ≤ m ∧ m ≤ sumOf B.rs B.hi
instance (B : Bn) (m : Int) : Decidable (B.Can m) := inferInstanceAs (Decidable (_ ∧ _))
def spIsPossible : Sp := fun vs H Q _ => ∃ (m : Int) (b : Addr) (B : Bn), vs = [.int m, .ref b] ∧ BndAt H b B ∧ B.Ok ∧ ∀ H', Ex H H' → Q (.bl (decide (B.Can m))) H'
theorem sc_is_possible : FnScope ["many", "bounds", "reader"] ["many", "bounds"] (defScope s_is_possible) := ⟨rfl, rfl, rfl, by decide +kernel, rfl, by decide +kernel, by decide +kernel⟩
theorem ok_is_possible (T : Txt K mg) : Ent P w K mg base CX0 1 "is_possible" ["many", "bounds"] [] spIsPossible := by
  obtain ⟨fd, F⟩ := T.f_is_possible
  refine Ent.mk' T.g_is_possible F (FunD.ok0 F sc_is_possible (fun vs H Q E h => ?_) (fun cdv A outer s H vs Q E hr h => ?_)) (fun _ _ _ _ _ _ us hl => match us, hl with | [_, _], _ => rfl)
  · obtain ⟨m, b, B, rfl, _⟩ := h
    rfl
  · obtain ⟨m, b, B, rfl, hb, ok, q⟩ := h
    have hb0 := hb
    obtain ⟨U, hb, hU⟩ := hb
    have n2 := ok.n2
    refine ⟨_, (pss_one (ps_ret (pe_chain op_le op_le (pe_callB (cr_sum rfl) (by rfl) T.n_sum (by decide +kernel) (pa_cons (pe_lock (pe_lc (own := [("reader", 2)]) (g := gName 2) (tt := tYes) rfl sc_is_possible.nd (pi_keys (pv 1)) (blkOk_by (N := ["many", "bounds", "reader"]) (sc := defScope s_is_possible) (by decide +kernel)) (fun _ _ _ _ _ => (pg_name (i := 2) sc_is_possible.nd rfl (Or.inl rfl))) (fun _ _ _ _ _ => pts_nil) (fun _ _ _ _ _ => (pe_ix (ix_tupK (K := K) rfl) (pe_dget (hu_of hr) (pv 1) (pv 2) (fun _ _ => rfl)) pe_int (fun _ _ => rfl))))) pa_nil)) (pv 0) (pe_callB (cr_sum rfl) (by rfl) T.n_sum (by decide +kernel) (pa_cons (pe_lock (pe_lc (own := [("reader", 2)]) (g := gName 2) (tt := tYes) rfl sc_is_possible.nd (pi_keys (pv 1)) (blkOk_by (N := ["many", "bounds", "reader"]) (sc := defScope s_is_possible) (by decide +kernel)) (fun _ _ _ _ _ => (pg_name (i := 2) sc_is_possible.nd rfl (Or.inl rfl))) (fun _ _ _ _ _ => pts_nil) (fun _ _ _ _ _ => (pe_ix (ix_tupK (K := K) rfl) (pe_dget (hu_of hr) (pv 1) (pv 2) (fun _ _ => rfl)) pe_int (fun _ _ => rfl))))) pa_nil))))), ?_⟩
    refine lcd hb (by omega) (fun H1 Q' q' => ⟨_, rfl, q'⟩) (fun _ => true) (fun z => .int (B.lo z)) (fun z hz H1 eb rd Qy Qn h1 h2 => ?_) fun p H2 hp e2 h2 => ?_
    · refine ⟨rfl, tyes ⟨_, rfl, _, rfl, b, _, rfl, gk rd hz, ?_⟩⟩
      have hT := eb _ _ (ne_td (hU z hz) hb) (hU z hz)
      exact ⟨_, _, _, _, rfl, rfl, sqt hT, rfl, h1 rfl H1 (Ex.refl _)⟩
    · refine ⟨p, B.rs.map B.lo, rfl, sql (by rw [h2, List.map_map, List.filter_eq_self.mpr fun _ _ => rfl]; rfl), _, rfl, ?_⟩
      refine ⟨_, _, rfl, rfl, ?_⟩
      by_cases hm : sumOf B.rs B.lo ≤ m
      · refine ⟨true, bl_t hm, iteT ?_⟩
        refine lcd (e2 _ _ hb) (by omega) (fun H1 Q' q' => ⟨_, rfl, q'⟩) (fun _ => true) (fun z => .int (B.hi z)) (fun z hz H1 eb rd Qy Qn h1 h2 => ?_) fun p H3 hp e3 h3 => ?_
        · refine ⟨rfl, tyes ⟨_, rfl, _, rfl, b, _, rfl, gk rd hz, ?_⟩⟩
          have hT := eb _ _ (ne_td (hU z hz) hb) (e2 _ _ (hU z hz))
          exact ⟨_, _, _, _, rfl, rfl, sqt hT, rfl, h1 rfl H1 (Ex.refl _)⟩
        · refine ⟨p, B.rs.map B.hi, rfl, sql (by rw [h3, List.map_map, List.filter_eq_self.mpr fun _ _ => rfl]; rfl), _, _, rfl, rfl, ?_⟩
          refine cgv (Q := Q) (congrArg V.bl (decide_eq_decide.mpr ?_)) (q H3 (e2.trans e3))
          exact ⟨fun h => ⟨hm, h⟩, fun h => h.2⟩
      · refine ⟨false, bl_f hm, iteF ?_⟩
        exact cgv (Q := Q) (bl_f fun h => hm h.1).symm (q H2 e2)
end
end K55

set_option Elab.async false
set_option linter.all false
set_option maxRecDepth 100000
set_option maxHeartbeats 4000000
namespace K55
open PySem PySem.Spec PyProof.Rows L2 Evl
section
variable {P : Program} {w : World} {K : PySem.W.Frag} {mg : Str → Option Value} {base : Heap}
/-! ### check_bounds -/
def spCheckBounds : Sp := fun vs H Q _ => ∃ a B, vs = [.ref a] ∧ BndAt H a B ∧ B.Ok ∧ ∀ H', Ex H H' → Q .non H'
theorem sc_check_bounds : FnScope ["bounds", "reader", "pair"] ["bounds"] (defScope s_check_bounds) := ⟨rfl, rfl, rfl, by decide +kernel, rfl, by decide +kernel, by decide +kernel⟩
theorem ok_check_bounds (T : Txt K mg) : Ent P w K mg base CX0 2 "check_bounds" ["bounds"] [] spCheckBounds := by
  obtain ⟨fd, F⟩ := T.f_check_bounds
  have e_is_word := ok_is_word (P := P) (w := w) (base := base) T
  have e_is_natural := ok_is_natural (P := P) (w := w) (base := base) T
  obtain ⟨_, gMOST_READERS_deals⟩ := T.i_MOST_READERS_deals
  refine Ent.mk' T.g_check_bounds F (FunD.ok0 F sc_check_bounds (fun vs H Q E h => ?_) (fun cdv A outer s H vs Q E hr h => ?_)) (fun _ _ _ _ _ _ us hl => match us, hl with | [_], _ => rfl)
  · obtain ⟨a, B, rfl, ⟨U, hb, hU⟩, ok, q⟩ := h
    rfl
  · obtain ⟨a, B, rfl, ⟨U, hb, hU⟩, ok, q⟩ := h
    refine ⟨_, (pss_cons (ps_if (PW.pt (pw_or (pt_not (pt_val (pe_callB (call_isiK (K := K) rfl) (by rfl) T.n_isinstance (by decide +kernel) (pa_cons (pv 0) (pa_cons (pe_bltn (v := .ty "dict") (by rfl) T.n_dict (by decide +kernel) rfl) pa_nil))))) (pw_or1 (pt_not (pt_chain op_le op_le pe_int (pe_callB call_lenD (by rfl) T.n_len PySem.boot_len (pa_cons (pv 0) pa_nil)) (pe_glob (v := .int 12) rfl gMOST_READERS_deals ⟨_, rfl⟩)))))) (pss_one ps_never) pss_nil)
      (pss_one (ps_lock (ps_for PassesOwn.never rfl (pi_keys (pv 0)) (pg_name (i := 1) sc_check_bounds.nd rfl (Or.inl rfl)) (pss_cons (ps_set (i := 2) sc_check_bounds.nd rfl (Or.inl rfl) (pe_dget (hu_of hr) (pv 0) (pv 1) (fun _ _ => rfl)))
      (pss_cons (ps_if (PW.pt (pw_or (pt_not (pt_val (pe_e e_is_word (hr.mono (by decide)) pass0 (pa_cons (pv 1) pa_nil)))) (pw_or (pt_not (pt_val (pe_callB (call_isiK (K := K) rfl) (by rfl) T.n_isinstance (by decide +kernel) (pa_cons (pv 2) (pa_cons (pe_bltn (v := .ty "tuple") (by rfl) T.n_tuple (by decide +kernel) rfl) pa_nil))))) (pw_or1 (pt_cmpR op_ne (pe_callB (call_lenK (K := K) rfl) (by rfl) T.n_len PySem.boot_len (pa_cons (pv 2) pa_nil)) pe_int (nomark _)))))) (pss_one ps_never) pss_nil)
      (pss_one (ps_if (PW.pt (pw_or (pt_not (pt_val (pe_e e_is_natural (hr.mono (by decide)) pass0 (pa_cons (pe_ix (ix_tupK (K := K) rfl) (pv 2) pe_int (fun _ _ => rfl)) pa_nil)))) (pw_or (pt_not (pt_val (pe_e e_is_natural (hr.mono (by decide)) pass0 (pa_cons (pe_ix (ix_tupK (K := K) rfl) (pv 2) pe_int (fun _ _ => rfl)) pa_nil)))) (pw_or1 (pt_cmpR op_gt (pe_ix (ix_tupK (K := K) rfl) (pv 2) pe_int (fun _ _ => rfl)) (pe_ix (ix_tupK (K := K) rfl) (pv 2) pe_int (fun _ _ => rfl)) (nomark _)))))) (pss_one ps_never) pss_nil)))))))), ?_⟩
    have n1 := ok.n1
    have n2 := ok.n2
    refine ⟨_, rfl, _, _, _, _, true, rfl, .ty _, tDict hb, kDict, true, rfl, iteF ?_⟩
    refine ⟨_, rfl, a, _, rfl, hb, _, _, rfl, rfl, true, bl_t (by rw [kd_len]; omega), iteT ?_⟩
    refine ⟨_, _, rfl, rfl, true, bl_t (by rw [kd_len]; omega), iteF ?_⟩
    refine ford hb (fun H1 Q' q' => ⟨_, rfl, q'⟩) (fun od i σ' H' => (∃ x y, σ' = [some (V.ref a), x, y]) ∧ Ex (upd H a (.frz od (.dK (kd B.rs fun r => .ref (U r))))) H') (fun od => ⟨⟨_, _, rfl⟩, Ex.refl _⟩) (fun od i σ' H' p => p.2 _ _ upd_same) (fun od i z σ' H' hz p => ?_) fun od σ' H' p => q _ (ex_unlock hb p.2)
    · obtain ⟨⟨x, y, rfl⟩, e⟩ := p
      have hz := mem_of_at hz
      have hl := e _ _ upd_same
      have hT := e _ _ ((upd_ne (ne_td (hU z hz) hb)).trans (hU z hz))
      refine ⟨_, rfl, _, rfl, a, _, rfl, gk (.inr ⟨od, hl⟩) hz, ?_⟩
      refine ⟨_, rfl, z, rfl, ok.w z hz, fun H2 e2 => ⟨true, rfl, iteF ?_⟩⟩
      refine ⟨_, rfl, _, _, _, _, true, rfl, .ty _, tTupl (e2 _ _ hT), kTup, true, rfl, iteF ?_⟩
      refine ⟨_, rfl, _, _, rfl, lenT (sqt (e2 _ _ hT)), rfl, false, rfl, iteF ?_⟩
      refine ⟨_, rfl, ⟨_, _, _, _, rfl, rfl, sqt (e2 _ _ hT), rfl, ?_⟩⟩
      have h0 := ok.l0 z hz
      have h1 := ok.lh z hz
      have h2 := ok.h60 z hz
      refine ⟨_, rfl, h0, by omega, true, rfl, iteF ?_⟩
      refine ⟨_, rfl, ⟨_, _, _, _, rfl, rfl, sqt (e2 _ _ hT), rfl, ?_⟩⟩
      refine ⟨_, rfl, by omega, h2, true, rfl, iteF ?_⟩
      refine ⟨_, rfl, ⟨_, _, _, _, rfl, rfl, sqt (e2 _ _ hT), rfl, ?_⟩⟩
      refine ⟨_, rfl, ⟨_, _, _, _, rfl, rfl, sqt (e2 _ _ hT), rfl, ?_⟩⟩
      refine ⟨_, _, rfl, rfl, false, bl_f (by omega), iteF ?_⟩
      exact ⟨⟨_, _, rfl⟩, e.trans e2⟩
/-! ### loads_of -/
def cntI (D : Str → Str) (L : List Str) (r : Str) : Int := ((L.filter fun l => decide (D l = r)).length : Int)
theorem cntI_snoc (D : Str → Str) (L : List Str) (l r : Str) : cntI D (L ++ [l]) r = if r = D l then cntI D L r + 1 else cntI D L r := by
  unfold cntI
  rw [List.filter_append, List.length_append, List.filter_cons, List.filter_nil]
  by_cases h : D l = r
  · rw [if_pos (decide_eq_true h), if_pos h.symm]; simp
  · rw [if_neg (by simpa using h), if_neg (fun e => h e.symm)]; simp
theorem take_succ_at {α : Type} {xs : List α} {i : Nat} {x : α} (h : xs[i]? = some x) : xs.take (i + 1) = xs.take i ++ [x] := by
  rw [List.take_add_one, h]; rfl
/-- the readers: a list of texts, or a dict's keys -/
def KeysAt (K : PySem.W.Frag) (H : Hp) (r : Addr) (rs : List Str) : Prop := SqL K H r (rs.map V.str) ∨ ∃ g, KD H r rs g
def spLoadsOf (K : PySem.W.Frag) : Sp := fun vs H Q _ => ∃ d r L D rs, vs = [.ref d, .ref r] ∧ DlAt H d L D ∧ L.length ≤ 60 ∧ rs.Nodup ∧ rs.length < 64 ∧ (∀ l ∈ L, D l ∈ rs) ∧ KeysAt K H r rs ∧
  ∀ p H', H p = none → Ex H H' → IntD H' p rs (cntI D L) → Q (.ref p) H'
theorem sc_loads_of : FnScope ["deal", "readers", "found", "reader", "lane"] ["deal", "readers"] (defScope s_loads_of) := ⟨rfl, rfl, rfl, by decide +kernel, rfl, by decide +kernel, by decide +kernel⟩
theorem ok_loads_of (T : Txt K mg) : Ent P w K mg base CX0 1 "loads_of" ["deal", "readers"] [] (spLoadsOf K) := by
  obtain ⟨fd, F⟩ := T.f_loads_of
  refine Ent.mk' T.g_loads_of F (FunD.ok0 F sc_loads_of (fun vs H Q E h => ?_) (fun cdv A outer s H vs Q E hr h => ?_)) (fun _ _ _ _ _ _ us hl => match us, hl with | [_, _], _ => rfl)
  · obtain ⟨d, r, L, D, rs, rfl, hd, n60, nd, nr, hD, kr, q⟩ := h
    rfl
  · obtain ⟨d, r, L, D, rs, rfl, hd, n60, nd, nr, hD, kr, q⟩ := h
    rcases kr with kr | ⟨g, kr⟩
    rotate_left
    refine ⟨_, (pss_cons (ps_lock (ps_setDc (i := 2) (own := [("reader", 3)]) (g := gName 3) (tt := tYes) rfl sc_loads_of.nd rfl rfl (sw_trueD rfl rfl rfl (by decide +kernel)) (pi_keys (pv 1)) (blkOk_by (N := ["deal", "readers", "found", "reader", "lane"]) (sc := defScope s_loads_of) (by decide +kernel)) (fun _ _ _ _ _ => (pg_name (i := 3) sc_loads_of.nd rfl (Or.inl rfl))) (fun _ _ _ _ _ => pts_nil) (fun _ _ _ _ _ => (pv 3)) (fun _ _ _ _ _ => pe_int)))
      (pss_cons (ps_lock (ps_for PassesOwn.never rfl (pi_keys (pv 0)) (pg_name (i := 4) sc_loads_of.nd rfl (Or.inl rfl)) (pss_one (ps_daug (hu_of hr) (pv 2) (pe_dget (hu_of hr) (pv 0) (pv 4) (fun _ _ => rfl)) pe_int in_add (fun _ _ _ => rfl)))))
      (pss_one (ps_ret (pv 2))))), ?_⟩
    refine dcd kr nd (by omega) (fun H1 Q' q' => ⟨_, rfl, q'⟩) (fun _ => .int 0) (fun z hz H1 e rd Q' q' => ⟨rfl, ⟨_, rfl, q' _ (Ex.refl _)⟩⟩) fun p H2 hp e2 h2 => ?_
    rotate_left
    refine ⟨_, (pss_cons (ps_setDc (i := 2) (own := [("reader", 3)]) (g := gName 3) (tt := tYes) rfl sc_loads_of.nd rfl rfl (sw_trueD rfl rfl rfl (by decide +kernel)) (pi_listK (K := K) rfl (pv 1)) (blkOk_by (N := ["deal", "readers", "found", "reader", "lane"]) (sc := defScope s_loads_of) (by decide +kernel)) (fun _ _ _ _ _ => (pg_name (i := 3) sc_loads_of.nd rfl (Or.inl rfl))) (fun _ _ _ _ _ => pts_nil) (fun _ _ _ _ _ => (pv 3)) (fun _ _ _ _ _ => pe_int))
      (pss_cons (ps_lock (ps_for PassesOwn.never rfl (pi_keys (pv 0)) (pg_name (i := 4) sc_loads_of.nd rfl (Or.inl rfl)) (pss_one (ps_daug (hu_of hr) (pv 2) (pe_dget (hu_of hr) (pv 0) (pv 4) (fun _ _ => rfl)) pe_int in_add (fun _ _ _ => rfl)))))
      (pss_one (ps_ret (pv 2))))), ?_⟩
    dsimp only [tSeq, tAsg]
    refine dcs rs kr nd (by omega) (fun H1 Q' q' => ⟨_, rfl, q'⟩) (fun _ => .int 0) (fun z hz H1 e Q' q' => ⟨rfl, ⟨_, rfl, q' _ (Ex.refl _)⟩⟩) fun p H2 hp e2 h2 => ?_
    all_goals
      have hdp : d ≠ p := (fresh_ne hd hp).symm
      refine ford (e2 _ _ hd) (fun H1 Q' q' => ⟨_, rfl, q'⟩) (fun od i σ' H' => (∃ x y, σ' = [some (V.ref d), some (.ref r), some (.ref p), x, y]) ∧ ExB p (upd H2 d (.frz od (.dK (kd L fun l => .str (D l))))) H' ∧ IntD H' p rs (cntI D (L.take i)))
        (fun od => ⟨⟨_, _, rfl⟩, ExB.refl _ _, (upd_ne hdp.symm).trans h2⟩) (fun od i σ' H' pv => pv.2.1 _ _ hdp upd_same) (fun od i z σ' H' hz pv => ?_) fun od σ' H' pv => ?_
      · obtain ⟨⟨x, y, rfl⟩, e, hI⟩ := pv
        have hl := e _ _ hdp upd_same
        have hm := mem_of_at hz
        refine ⟨_, rfl, _, rfl, _, rfl, d, _, rfl, gk (.inr ⟨od, hl⟩) hm, p, _, rfl, gk (.inl hI) (hD z hm), _, _, rfl, rfl, _, pm hI (hD z hm) (by omega), ⟨_, _, rfl⟩, e.upd, ?_⟩
        refine upd_same.trans (congrArg some (congrArg HO.dK (kd_congr fun k _ => ?_)))
        rw [take_succ_at hz, cntI_snoc]
        by_cases ek : k = D z
        · rw [if_pos ek, if_pos ek, ek]
        · rw [if_neg ek, if_neg ek]
      · obtain ⟨⟨x, y, rfl⟩, e, hI⟩ := pv
        refine ⟨_, rfl, q p _ hp (((ExB.of e2).trans (ex_unlockB (e2 _ _ hd) e hdp)).ex hp) ?_⟩
        rw [List.take_of_length_le (Nat.le_refl _)] at hI
        exact (upd_ne hdp.symm).trans hI
end
end K55


set_option Elab.async false
set_option linter.all false
set_option maxRecDepth 100000
set_option maxHeartbeats 4000000
namespace K55
open PySem PySem.Spec PyProof.Rows L2 Evl
theorem no_of {H H' : Hp} {p : Addr} (e : Ex H H') (h : H' p = none) : H p = none := by
  cases q : H p with
  | none => rfl
  | some o => rw [e p o q] at h; cases h
/-! ### dicts of texts, all with one value -/
def addAll (xs : List Str) : List Str → List Str
  | [] => xs
  | y :: ys => addAll (if y ∈ xs then xs else xs ++ [y]) ys
theorem mem_addAll (z : Str) : ∀ (ys xs : List Str), z ∈ addAll xs ys ↔ z ∈ xs ∨ z ∈ ys
  | [], xs => by simp [addAll]
  | y :: ys, xs => by
    show z ∈ addAll _ ys ↔ _
    rw [mem_addAll z ys]
    by_cases h : y ∈ xs
    · rw [if_pos h]
      constructor
      · rintro (a | a)
        · exact .inl a
        · exact .inr (List.mem_cons_of_mem _ a)
      · rintro (a | a)
        · exact .inl a
        · rcases List.mem_cons.mp a with e | a
          · exact .inl (e ▸ h)
          · exact .inr a
    · rw [if_neg h, List.mem_append, List.mem_singleton, List.mem_cons, or_assoc]
theorem addAll_nodup : ∀ (ys xs : List Str), xs.Nodup → (addAll xs ys).Nodup
  | [], _, h => h
  | y :: ys, xs, h => by
    show (addAll _ ys).Nodup
    refine addAll_nodup ys _ ?_
    by_cases m : y ∈ xs
    · rw [if_pos m]; exact h
    · rw [if_neg m]
      refine List.nodup_append.mpr ⟨h, by simp, fun a ha b hb e => ?_⟩
      rw [List.mem_singleton] at hb
      exact m (by rw [← hb, ← e]; exact ha)
theorem addAll_len : ∀ (ys xs : List Str), (addAll xs ys).length ≤ xs.length + ys.length
  | [], xs => Nat.le_refl _
  | y :: ys, xs => by
    show (addAll _ ys).length ≤ _
    refine Nat.le_trans (addAll_len ys _) ?_
    rw [List.length_cons]
    split
    · omega
    · rw [List.length_append, List.length_singleton]; omega
theorem mergeK_all (c : V) : ∀ (ys xs : List Str), mergeK (kd xs fun _ => c) (ys.map fun y => ((Sum.inr y : Key), c)) = kd (addAll xs ys) fun _ => c
  | [], xs => rfl
  | y :: ys, xs => by
    show mergeK (putK (kd xs fun _ => c) (.inr y) c) (ys.map _) = kd (addAll _ ys) _
    by_cases m : y ∈ xs
    · rw [if_pos m, putK_kd_mem c m, ← mergeK_all c ys xs]
      exact congrArg (fun l => mergeK l _) (kd_congr fun k _ => by split <;> rfl)
    · rw [if_neg m, putK_kd_new c m, ← mergeK_all c ys (xs ++ [y])]
      exact congrArg (fun l => mergeK l _) (kd_congr fun k _ => by split <;> rfl)
theorem kd_const (c : V) (xs : List Str) : kd xs (fun _ => c) = xs.map fun y => ((Sum.inr y : Key), c) := rfl
theorem kd_fst (xs : List Str) (g : Str → V) : (kd xs g).map (·.1) = xs.map Sum.inr := kd_keys xs g
section
variable {K : PySem.W.Frag} {σ : L2.St} {H : Hp} {Q : VK} {gg : TG} {tt : TT} {te tk tv td : TE} {vs : List Nat} {a : Addr} {ks : List Str} {g : Str → V}
/-- {e: c for z in d}, keys of any kind -/
theorem dcg (h : KD H a ks g) (hn : ks.length ≤ 40000) (hd : ∀ (H1 : Hp) (Q' : VK), Q' (.ref a) H1 → td σ H1 Q') (kf : Str → Str) (gv : Str → V) {i : Nat}
    (turn : ∀ z ∈ ks, ∀ H1, ExB a H H1 → Rd H1 a (.dK (kd ks g)) → ∀ (Q : V → V → Hp → Prop), (∀ H4, Ex H1 H4 → Q (.str (kf z)) (gv z) H4) →
      wipe ((wipe σ vs).set i (some (.str z))) vs = wipe σ vs ∧ tk ((wipe σ vs).set i (some (.str z))) H1 fun y H4 => tv ((wipe σ vs).set i (some (.str z))) H4 fun z H5 => Q y z H5)
    (k : ∀ p H2, H p = none → Ex H H2 → H2 p = some (.dK (mergeK [] (ks.map fun z => ((Sum.inr (kf z) : Key), gv z)))) → Q (.ref p) H2) : tLockE (tDc (iKeys td) (gName i) tYes tk tv vs) σ H Q := by
  refine ⟨a, _, h, True.intro, fun od => ?_⟩
  refine hd _ _ ⟨a, od, rfl, .inl ⟨kd ks g, upd_same, fun D hD => ?_⟩⟩
  have hDa : D ≠ a := fun e => by rw [e, upd_same] at hD; cases hD
  have hD0 : H D = none := by rw [upd_ne hDa] at hD; exact hD
  refine ⟨fun i m H' => m = ks.length - i ∧ i ≤ ks.length ∧ Ex (upd H a (.frz od (.dK (kd ks g)))) H' ∧ H' D = some (.dK (mergeK [] ((ks.take i).map fun z => ((Sum.inr (kf z) : Key), gv z)))), ⟨ks.length, by simp, Nat.zero_le _, Ex.new hD, upd_same⟩, ?_⟩
  rintro i m H' ⟨rfl, hi, e, hys⟩
  have hl := e _ _ upd_same
  by_cases hlt : i < ks.length
  · refine .inr ⟨⟨hl, by rw [kd_len]; exact hlt⟩, fun H2 => Ex (upd H a (.frz od (.dK (kd ks g)))) H2 ∧ H2 D = some (.dK (mergeK [] ((ks.take (i + 1)).map fun z => ((Sum.inr (kf z) : Key), gv z)))), fun H2 p => ⟨ks.length - (i + 1), by omega, rfl, hlt, p⟩, fun x H2 y => ?_⟩
    obtain ⟨rfl, k', v', hk, rfl⟩ := y
    obtain ⟨z, hz, rfl, _⟩ := kd_at hk
    obtain ⟨w1, w2⟩ := turn z (mem_of_at hz) H2 (exb_lock e) (.inr ⟨od, hl⟩) (fun y z H5 => ∃ kvs k, y = kV k ∧ H5 D = some (.dK kvs) ∧ kvs.length < sizeLine ∧ (Ex (upd H a (.frz od (.dK (kd ks g)))) (upd H5 D (.dK (putK kvs k z))) ∧ (upd H5 D (.dK (putK kvs k z))) D = some (.dK (mergeK [] ((ks.take (i + 1)).map fun z => ((Sum.inr (kf z) : Key), gv z)))))) fun H4 e4 => by
      refine ⟨_, .inr (kf z), rfl, e4 D _ hys, ?_, fun b o hb => ?_, ?_⟩
      · have := length_mergeK ((ks.take i).map fun z => ((Sum.inr (kf z) : Key), gv z)) []
        rw [List.length_map, List.length_take, List.length_nil] at this
        exact sz_lt (by omega)
      · rw [upd_ne (ne_of_none hb hD)]
        exact e4 b o (e b o hb)
      · rw [upd_same, take_succ_at hz, List.map_append]
        unfold mergeK
        rw [List.foldl_append]
        rfl
    refine ⟨w1, ?_⟩
    unfold tYes
    exact iteT w2
  · have ei : i = ks.length := by omega
    subst ei
    rw [List.take_of_length_le (Nat.le_refl _)] at hys
    refine .inl ⟨⟨hl, by rw [kd_len]; exact Nat.le_refl _⟩, hl, k D _ hD0 (ex_unlock h e) ?_⟩
    show upd H' a _ D = _
    rw [upd_ne hDa]
    exact hys
end
theorem tSeq_ap {t u : TS} {D : Ends} {σ : L2.St} {H : Hp} : tSeq t u D σ H = t { D with nx := u D } σ H := rfl
theorem tAsg_ap {te : TE} {g : TG} {D : Ends} {σ : L2.St} {H : Hp} : tAsg te g D σ H = te σ H (fun x H1 => g x σ H1 D.nx) := rfl
theorem gName_ap {i : Nat} {v : V} {σ : L2.St} {H : Hp} {Q : L2.St → Hp → Prop} : gName i v σ H Q = Q (σ.set i (some v)) H := rfl
theorem tC_ap {v : V} {σ : L2.St} {H : Hp} {Q : VK} : tC v σ H Q = Q v H := rfl
theorem tNext_ap {D : Ends} {σ : L2.St} {H : Hp} : tNext D σ H = D.nx σ H := rfl
theorem tRet_ap {te : TE} {D : Ends} {σ : L2.St} {H : Hp} : tRet te D σ H = te σ H D.rt := rfl
theorem tAndV_ap {ta tb : TE} {σ : L2.St} {H : Hp} {Q : VK} : tAndV ta tb σ H Q = ta σ H fun x H1 => ∃ c, x = .bl c ∧ if c = true then tb σ H1 Q else Q (.bl false) H1 := rfl
theorem tCB_ap {r : List V → Hp → VK → Prop} {t : TA} {σ : L2.St} {H : Hp} {Q : VK} : tCB r t σ H Q = t σ H fun vs H1 => r vs H1 Q := rfl
theorem tCons_ap {ta : TE} {tr : TA} {σ : L2.St} {H : Hp} {Q : List V → Hp → Prop} : tCons ta tr σ H Q = ta σ H fun x H1 => tr σ H1 fun xs H2 => Q (x :: xs) H2 := rfl
theorem tNil_ap {σ : L2.St} {H : Hp} {Q : List V → Hp → Prop} : tNil σ H Q = Q [] H := rfl
theorem tB_ap {t : TE} {σ : L2.St} {H : Hp} {Q : Bool → Hp → Prop} : tB t σ H Q = t σ H fun x H1 => ∃ c, x = .bl c ∧ Q c H1 := rfl
theorem tTest_ap {t : TE} {σ : L2.St} {H : Hp} {Q : Bool → Hp → Prop} : tTest t σ H Q = t σ H fun x H1 => ∃ c, x = .bl c ∧ Q c H1 := rfl
theorem tNot_ap {t : TT} {σ : L2.St} {H : Hp} {Q : Bool → Hp → Prop} : tNot t σ H Q = t σ H fun c H1 => Q (!c) H1 := rfl
theorem tOr_ap {t u : TT} {σ : L2.St} {H : Hp} {Q : Bool → Hp → Prop} : tOr t u σ H Q = t σ H fun c H1 => if c = true then Q true H1 else u σ H1 Q := rfl
theorem tAnd_ap {t u : TT} {σ : L2.St} {H : Hp} {Q : Bool → Hp → Prop} : tAnd t u σ H Q = t σ H fun c H1 => if c = true then u σ H1 Q else Q false H1 := rfl
theorem tIfS_ap {c : TT} {t u : TS} {D : Ends} {σ : L2.St} {H : Hp} : tIfS c t u D σ H = c σ H fun b H1 => if b = true then t D σ H1 else u D σ H1 := rfl
theorem tOp_ap {r : R2} {ta tb : TE} {σ : L2.St} {H : Hp} {Q : VK} : tOp r ta tb σ H Q = ta σ H fun x H1 => tb σ H1 fun y H2 => r x y H2 Q := rfl
theorem tDrop_ap {te : TE} {D : Ends} {σ : L2.St} {H : Hp} : tDrop te D σ H = te σ H fun _ H1 => D.nx σ H1 := rfl
/-- [e for z in t if ..], t a tuple of told values -/
theorem lct {K : PySem.W.Frag} {σ : L2.St} {H : Hp} {Q : VK} {gg : TG} {tt : TT} {te td : TE} {vs : List Nat} {a : Addr} (xs : List V) (hx : SqT K H a xs) (hn : xs.length ≤ 40000) (hd : ∀ (H1 : Hp) (Q' : VK), Q' (.ref a) H1 → td σ H1 Q') (f : V → Bool) (v : V → V)
    (turn : ∀ z ∈ xs, ∀ H1, Ex H H1 → ∀ (Qy : V → Hp → Prop) (Qn : Hp → Prop), (f z = true → ∀ H4, Ex H1 H4 → Qy (v z) H4) → (f z = false → ∀ H3, Ex H1 H3 → Qn H3) →
      gg z (wipe σ vs) H1 fun σ2 H2 => wipe σ2 vs = wipe σ vs ∧ tt σ2 H2 fun b H3 => if b = true then te σ2 H3 Qy else Qn H3)
    (k : ∀ p H2, H p = none → Ex H H2 → H2 p = some (.lst ((xs.filter f).map v)) → Q (.ref p) H2) : tLc (iTup K td) gg tt te vs σ H Q := by
  refine hd _ _ ⟨a, rfl, ⟨_, hx⟩, fun D hD => ?_⟩
  refine lc_val (Src.tup hx) (Ex.refl _) hD hn (fun i => f (xs.getD i .non)) (fun i => v (xs.getD i .non)) (fun i x H1 hi e y Qy Qn h1 h2 => ?_) fun H2 e2 h2 => ?_
  · rw [getD_of y] at h1 h2
    exact turn x (mem_of_at y) H1 e Qy Qn h1 h2
  · rw [range_fm] at h2
    exact k D H2 hD e2 h2
/-- for z in xs, xs a list -/
theorem forl {K : PySem.W.Frag} {σ : L2.St} {H : Hp} {g : TG} {td : TE} {a : Addr} {D : Ends} {tb : TS} {xs : List V} (hx : SqL K H a xs) (hd : ∀ (H1 : Hp) (Q' : VK), Q' (.ref a) H1 → td σ H1 Q') (Pv : Nat → L2.St → Hp → Prop) (h0 : Pv 0 σ H) (hG : ∀ i σ' H', Pv i σ' H' → SqL K H' a xs)
    (turn : ∀ i x σ' H', xs[i]? = some x → Pv i σ' H' → g x σ' H' fun σ2 H2 => tb ⟨Pv (i + 1), D.rt, D.nx, Pv (i + 1)⟩ σ2 H2) (hE : ∀ σ' H', Pv xs.length σ' H' → D.nx σ' H') : tFor (iList K td) g tb D σ H := by
  refine hd _ _ ⟨a, rfl, ⟨_, hx⟩, ?_⟩
  refine ⟨fun i m σ' H' => m = xs.length - i ∧ i ≤ xs.length ∧ Pv i σ' H', ⟨xs.length, by simp, Nat.zero_le _, h0⟩, ?_⟩
  rintro i m σ' H' ⟨rfl, hi, p⟩
  have hq := hG i σ' H' p
  by_cases hlt : i < xs.length
  · refine .inr ⟨⟨xs, xs[i], hq, by simp [hlt]⟩, Pv (i + 1), fun σ2 H2 p' => ⟨xs.length - (i + 1), by omega, rfl, hlt, p'⟩, fun x H1 y => ?_⟩
    obtain ⟨rfl, y⟩ := y
    exact turn i x σ' H1 (y xs hq) p
  · have ei : i = xs.length := by omega
    subst ei
    exact .inl ⟨⟨xs, hq, Nat.le_refl _⟩, hE σ' H' p⟩
section
variable {P : Program} {w : World} {K : PySem.W.Frag} {mg : Str → Option Value} {base : Heap}
/-! ### all_readers -/
def AllOf (L : List Str) (D : Str → Str) (rs ns : List Str) : Prop := ns.Nodup ∧ sortedS ns = true ∧ ns.length < 64 ∧ ∀ r, r ∈ ns ↔ r ∈ rs ∨ ∃ l ∈ L, D l = r
def spAllReaders : Sp := fun vs H Q _ => ∃ d b L D rs g, vs = [.ref d, .ref b] ∧ DlAt H d L D ∧ KD H b rs g ∧ rs.Nodup ∧ rs.length + L.length < 64 ∧
  ∀ p H' ns, H p = none → Ex H H' → AllOf L D rs ns → H' p = some (.lst (ns.map V.str)) → Q (.ref p) H'
theorem sc_all_readers : FnScope ["deal", "bounds", "reader", "lane"] ["deal", "bounds"] (defScope s_all_readers) := ⟨rfl, rfl, rfl, by decide +kernel, rfl, by decide +kernel, by decide +kernel⟩
theorem ok_all_readers (T : Txt K mg) : Ent P w K mg base CX0 1 "all_readers" ["deal", "bounds"] [] spAllReaders := by
  obtain ⟨fd, F⟩ := T.f_all_readers
  refine Ent.mk' T.g_all_readers F (FunD.ok0 F sc_all_readers (fun vs H Q E h => ?_) (fun cdv A outer s H vs Q E hr h => ?_)) (fun _ _ _ _ _ _ us hl => match us, hl with | [_, _], _ => rfl)
  · obtain ⟨d, b, L, D, rs, g, rfl, hd, hb, nd, n64, q⟩ := h
    rfl
  · obtain ⟨d, b, L, D, rs, g, rfl, hd, hb, nd, n64, q⟩ := h
    refine ⟨_, (pss_one (ps_ret (pe_callB (call_sortedD rfl) (by rfl) T.n_sorted (by decide +kernel) (pa_cons (pe_star (pe_lock (pe_dc (own := [("reader", 2)]) (g := gName 2) (tt := tYes) rfl sc_all_readers.nd (pi_keys (pv 1)) (blkOk_by (N := ["deal", "bounds", "reader", "lane"]) (sc := defScope s_all_readers) (by decide +kernel)) (fun _ _ _ _ _ => (pg_name (i := 2) sc_all_readers.nd rfl (Or.inl rfl))) (fun _ _ _ _ _ => pts_nil) (fun _ _ _ _ _ => (pv 2)) (fun _ _ _ _ _ => pe_bl))) (pe_lock (pe_dc (own := [("lane", 3)]) (g := gName 3) (tt := tYes) rfl sc_all_readers.nd (pi_keys (pv 0)) (blkOk_by (N := ["deal", "bounds", "reader", "lane"]) (sc := defScope s_all_readers) (by decide +kernel)) (fun _ _ _ _ _ => (pg_name (i := 3) sc_all_readers.nd rfl (Or.inl rfl))) (fun _ _ _ _ _ => pts_nil) (fun _ _ _ _ _ => (pe_dget (hu_of hr) (pv 0) (pv 3) (fun _ _ => rfl))) (fun _ _ _ _ _ => pe_bl)))) pa_nil)))), ?_⟩
    refine fun p hp => ?_
    have e1 : Ex H (upd H p (.dK [])) := ex_upd (Ex.refl _) hp
    refine dcd (e1 _ _ hb) nd (by omega) (fun H1 Q' q' => ⟨_, rfl, q'⟩) (fun _ => .bl true) (fun z hz H1 e rd Q' q' => ⟨rfl, ⟨_, rfl, q' _ (Ex.refl _)⟩⟩) fun p1 H2 hp1 e2 h2 => ?_
    have hpp := e2 _ _ (upd_same (H := H) (a := p))
    refine ⟨p1, _, rfl, fresh_ne upd_same hp1, hpp, .inl h2, by rw [kd_len]; omega, ?_⟩
    have e3 : ExB p H (upd H2 p (.dK (mergeK [] (kd rs fun _ => .bl true)))) := (ExB.of (e1.trans e2)).upd
    have hd3 := e3 _ _ (fresh_ne hd hp).symm hd
    refine dcg hd3 (by omega) (fun H1 Q' q' => ⟨_, rfl, q'⟩) D (fun _ => .bl true) (fun z hz H1 e rd Q' q' => ⟨rfl, ⟨_, rfl, _, rfl, d, _, rfl, gk rd hz, q' _ (Ex.refl _)⟩⟩) fun p2 H4 hp2 e4 h4 => ?_
    refine ⟨p2, _, rfl, fresh_ne upd_same hp2, e4 _ _ upd_same, .inl h4, ?_, ?_⟩
    · have := length_mergeK (L.map fun z => ((Sum.inr (D z) : Key), V.bl true)) []
      rw [List.length_map, List.length_nil] at this
      omega
    have m1 : mergeK [] (kd rs fun _ => V.bl true) = kd (addAll [] rs) fun _ => V.bl true := mergeK_all _ rs []
    have m2 : mergeK [] (L.map fun z => ((Sum.inr (D z) : Key), V.bl true)) = kd (addAll [] (L.map D)) fun _ => V.bl true := by
      rw [← mergeK_all (V.bl true) (L.map D) [], List.map_map]
      rfl
    have m3 : mergeK (mergeK [] (kd rs fun _ => V.bl true)) (mergeK [] (L.map fun z => ((Sum.inr (D z) : Key), V.bl true))) = kd (addAll (addAll [] rs) (addAll [] (L.map D))) fun _ => V.bl true := by
      rw [m1, m2]
      exact mergeK_all _ _ _
    rw [m3]
    have l1 := addAll_len (addAll [] (L.map D)) (addAll [] rs)
    have l2 := addAll_len rs []
    have l3 := addAll_len (L.map D) []
    rw [List.length_nil] at l2 l3
    rw [List.length_map] at l3
    refine ⟨p, _, _, rfl, .inl upd_same, kd_fst _ _, by omega, fun ys p3 hy1 hy2 hp3 => ?_⟩
    have e6 := (e3.trans (ExB.of e4)).upd (o := .dK (kd (addAll (addAll [] rs) (addAll [] (L.map D))) fun _ => V.bl true)) |>.ex hp
    have hp3' := no_of e6 hp3
    have e5 : Ex H (upd (upd H4 p (.dK (kd (addAll (addAll [] rs) (addAll [] (L.map D))) fun _ => V.bl true))) p3 (.lst (ys.map V.str))) := ex_upd e6 hp3'
    refine q p3 _ ys hp3' e5 ⟨hy1.nodup_iff.mpr (addAll_nodup _ _ (addAll_nodup _ _ List.nodup_nil)), hy2, by rw [hy1.length_eq]; omega, fun r => ?_⟩ upd_same
    rw [hy1.mem_iff, mem_addAll, mem_addAll, mem_addAll, List.mem_map]
    simp
end
end K55


set_option Elab.async false
set_option linter.all false
set_option maxRecDepth 100000
set_option maxHeartbeats 4000000
namespace K55
open PySem PySem.Spec PyProof.Rows L2 Evl
section
variable {P : Program} {w : World} {K : PySem.W.Frag} {mg : Str → Option Value} {base : Heap}
theorem mk_ex {H H' : Hp} {x dx : Addr} {o : HO} (hx : H x = none) (hdx : H dx = none) (e : ExB x (upd (upd H dx (.own x)) x o) H') : Ex H H' := fun b u hb => by
  have n1 := ne_of_none hb hx
  have n2 := ne_of_none hb hdx
  exact e b u n1 (by rw [upd_ne n1, upd_ne n2]; exact hb)
/-! ### Moves(..) -/
def spMovesInit (K : PySem.W.Frag) : Sp := fun vs H Q _ => ∃ x dx m r way ms rs, vs = [.ref x, .ref m, .str way, .ref r] ∧ H x = some (.ins (He.ga K "Moves") dx []) ∧ H m = some (.lst ms) ∧ H r = some (.lst rs) ∧
  ∀ H' m' r', ExB x H H' → H' x = some (.ins (He.ga K "Moves") dx [("moves", .ref m'), ("way", .str way), ("readers", .ref r')]) → H' m' = some (.lst ms) → H' r' = some (.lst rs) → Q .non H'
theorem sc_Moves_init : FnScope ["self", "moves", "way", "readers"] ["self", "moves", "way", "readers"] (defScope s_Moves_init) := ⟨rfl, rfl, rfl, by decide +kernel, rfl, by decide +kernel, by decide +kernel⟩
theorem ok_Moves_init (T : Txt K mg) : EntC P w K mg base CX0 1 "Moves" (He.ga K "Moves") ["self", "moves", "way", "readers"] (spMovesInit K) := by
  obtain ⟨fd, F⟩ := T.f_Moves_init
  refine EntC.mk' T.g_Moves T.k_Moves F (FunD.ok0 F sc_Moves_init (fun vs H Q E h => ?_) (fun cdv A outer s H vs Q E hr h => ?_)) (fun _ _ _ _ _ _ us hl => match us, hl with | [_, _, _, _], _ => rfl)
  · obtain ⟨x, dx, m, r, way, ms, rs, rfl, hx, hm, hr', q⟩ := h
    rfl
  · obtain ⟨x, dx, m, r, way, ms, rs, rfl, hx, hm, hr', q⟩ := h
    refine ⟨_, (pss_cons (ps_fld (pv 0) (pe_callTy (call_list_ofK (K := K) rfl) (by rfl) T.n_list (by decide +kernel) (pa_cons (pv 1) pa_nil)) rfl)
      (pss_cons (ps_fld (pv 0) (pv 2) rfl)
      (pss_one (ps_fld (pv 0) (pe_callTy (call_list_ofK (K := K) rfl) (by rfl) T.n_list (by decide +kernel) (pa_cons (pv 3) pa_nil)) rfl)))), ?_⟩
    refine ⟨_, rfl, m, ms, rfl, .inl (sql hm), fun m' hm' => ⟨_, rfl, x, _, dx, [], rfl, ?_, T.c_Moves, T.a_Moves_moves, (of_decide_eq_true (by rfl)), ?_⟩⟩
    · rw [upd_ne (fresh_ne hx hm').symm]; exact hx
    refine ⟨_, rfl, _, rfl, x, _, dx, _, rfl, upd_same, T.c_Moves, T.a_Moves_way, (of_decide_eq_true (by rfl)), ?_⟩
    have nx : x ≠ m' := (fresh_ne hx hm').symm
    have nr : r ≠ x := fun e => by rw [e, hx] at hr'; cases hr'
    have nrm : r ≠ m' := (fresh_ne hr' hm').symm
    refine ⟨_, rfl, r, rs, rfl, .inl (sql (by rw [upd_ne nr, upd_ne nr, upd_ne nrm]; exact hr')), fun r' hr2 => ?_⟩
    have nrx : r' ≠ x := fun e => by rw [e, upd_same] at hr2; cases hr2
    have nrm' : r' ≠ m' := fun e => by rw [e, upd_ne nx.symm, upd_ne nx.symm, upd_same] at hr2; cases hr2
    refine ⟨_, rfl, x, _, dx, _, rfl, by rw [upd_ne nrx.symm]; exact upd_same, T.c_Moves, T.a_Moves_readers, (of_decide_eq_true (by rfl)), ?_⟩
    refine q _ m' r' ?_ upd_same (by rw [upd_ne nx.symm, upd_ne nrm'.symm, upd_ne nx.symm, upd_ne nx.symm]; exact upd_same) (by rw [upd_ne nrx]; exact upd_same)
    refine ExB.upd ?_
    have e1 : ExB x H (upd H m' (.lst ms)) := ExB.of (Ex.new hm')
    have e2 := (e1.upd (o := .ins (He.ga K "Moves") dx (putF "moves" (.ref m') []))).upd (o := .ins (He.ga K "Moves") dx (putF "way" (.str way) (putF "moves" (.ref m') [])))
    exact e2.trans (ExB.of (Ex.new hr2))
/-! ### barred -/
def barI (f : Str → Int) (B : Bn) (way : Str) (r : Str) : Int := if way = "leaving" then max 0 (f r - B.high r) else max 0 (B.low r - f r)
def spBarred (K : PySem.W.Frag) : Sp := fun vs H Q _ => ∃ l b way r ks f B rs, vs = [.ref l, .ref b, .str way, .ref r] ∧ IntD H l ks f ∧ BndAt H b B ∧ H r = some (.lst (rs.map V.str)) ∧ (∀ r ∈ rs, r ∈ ks) ∧
  ∀ H', Ex H H' → Q (.int (sumOf rs (barI f B way))) H'
theorem sumOf_snoc (xs : List Str) (x : Str) (f : Str → Int) : sumOf (xs ++ [x]) f = sumOf xs f + f x := by
  unfold sumOf
  rw [List.map_append, List.sum_append]
  simp
theorem sc_barred : FnScope ["loads", "bounds", "way", "readers", "found", "reader", "low", "high"] ["loads", "bounds", "way", "readers"] (defScope s_barred) := ⟨rfl, rfl, rfl, by decide +kernel, rfl, by decide +kernel, by decide +kernel⟩
theorem ok_barred (T : Txt K mg) : Ent P w K mg base CX0 2 "barred" ["loads", "bounds", "way", "readers"] [] (spBarred K) := by
  obtain ⟨fd, F⟩ := T.f_barred
  have e_bound_of := ok_bound_of (P := P) (w := w) (base := base) T
  refine Ent.mk' T.g_barred F (FunD.ok0 F sc_barred (fun vs H Q E h => ?_) (fun cdv A outer s H vs Q E hr h => ?_)) (fun _ _ _ _ _ _ us hl => match us, hl with | [_, _, _, _], _ => rfl)
  · obtain ⟨l, b, way, r, ks, f, B, rs, rfl, hl, hb, hrs, hk, q⟩ := h
    rfl
  · obtain ⟨l, b, way, r, ks, f, B, rs, rfl, hl, hb, hrs, hk, q⟩ := h
    refine ⟨_, (pss_cons (ps_set (i := 4) sc_barred.nd rfl (Or.inl rfl) pe_int)
      (pss_cons (ps_for PassesOwn.never rfl (pi_listK (K := K) rfl (pv 3)) (pg_name (i := 5) sc_barred.nd rfl (Or.inl rfl)) (pss_cons (ps_asg (pe_e e_bound_of (hr.mono (by decide)) pass0 (pa_cons (pv 1) (pa_cons (pv 5) pa_nil))) (pg_tup rfl (pgs_cons (pg_name (i := 6) sc_barred.nd rfl (Or.inl rfl)) (pgs_cons (pg_name (i := 7) sc_barred.nd rfl (Or.inl rfl)) pgs_nil))))
      (pss_one (ps_aug (i := 4) sc_barred.nd rfl (Or.inl rfl) (pe_ifExp (pt_cmpR op_eq (pv 2) pe_str (nomark _)) (pe_callB (call_max2 rfl) (by rfl) T.n_max (by decide +kernel) (pa_cons pe_int (pa_cons (pe_op op_sub (pe_dget (hu_of hr) (pv 0) (pv 5) (fun _ _ => rfl)) (pv 7)) pa_nil))) (pe_callB (call_max2 rfl) (by rfl) T.n_max (by decide +kernel) (pa_cons pe_int (pa_cons (pe_op op_sub (pv 6) (pe_dget (hu_of hr) (pv 0) (pv 5) (fun _ _ => rfl))) pa_nil)))) ip_add))))
      (pss_one (ps_ret (pv 4))))), ?_⟩
    dsimp only [tSeq_ap, tAsg_ap, gName_ap, tC_ap, tNext_ap, tRet_ap, tAndV_ap, tCB_ap, tCons_ap, tNil_ap, tB_ap, tTest_ap, tNot_ap, tOr_ap, tAnd_ap, tIfS_ap, tOp_ap, tDrop_ap]
    refine forl (sql hrs) (fun H1 Q' q' => ⟨_, rfl, q'⟩) (fun i σ' H' => (∃ v x y z, σ' = [some (V.ref l), some (.ref b), some (.str way), some (.ref r), some v, x, y, z] ∧ v = .int (sumOf (rs.take i) (barI f B way))) ∧ Ex H H') ⟨⟨_, _, _, _, rfl, rfl⟩, Ex.refl _⟩ (fun i σ' H' pv => sql (pv.2 _ _ hrs)) (fun i x σ' H' hx pv => ?_) fun σ' H' pv => ?_
    · obtain ⟨⟨_, y1, y2, y3, rfl, rfl⟩, e⟩ := pv
      rw [List.getElem?_map] at hx
      cases hz : rs[i]? with
      | none => rw [hz] at hx; cases hx
      | some z =>
        rw [hz] at hx
        cases hx
        have hm := hk z (mem_of_at hz)
        refine ⟨_, rfl, _, rfl, b, z, B, rfl, hb.ex e, fun p H2 e2 hp => ?_⟩
        refine ⟨p, _, rfl, sqt hp, rfl, _, _, rfl, _, _, rfl, rfl, ?_⟩
        have hl2 := e2 _ _ (e _ _ hl)
        have hs : sumOf (rs.take (i + 1)) (barI f B way) = sumOf (rs.take i) (barI f B way) + barI f B way z := by rw [take_succ_at hz, sumOf_snoc]
        refine ⟨_, rfl, ?_⟩
        by_cases hw : way = "leaving"
        · refine ⟨_, rfl, rfl, true, bl_t (by rw [hw]), iteT ?_⟩
          refine ⟨_, rfl, _, rfl, l, _, rfl, gk (.inl hl2) hm, _, rfl, _, _, rfl, rfl, _, _, rfl, _, _, rfl, rfl, ⟨_, _, _, _, rfl, ?_⟩, e.trans e2⟩
          rw [hs, barI, if_pos hw]
          exact congrArg V.int (by dsimp only; omega)
        · refine ⟨_, rfl, rfl, false, bl_f (fun h => hw (by injection h)), iteF ?_⟩
          refine ⟨_, rfl, _, rfl, _, rfl, l, _, rfl, gk (.inl hl2) hm, _, _, rfl, rfl, _, _, rfl, _, _, rfl, rfl, ⟨_, _, _, _, rfl, ?_⟩, e.trans e2⟩
          rw [hs, barI, if_neg hw]
          exact congrArg V.int (by dsimp only; omega)
    · obtain ⟨⟨_, y1, y2, y3, rfl, rfl⟩, e⟩ := pv
      refine ⟨_, rfl, ?_⟩
      rw [List.length_map, List.take_of_length_le (Nat.le_refl _)]
      exact q _ e
/-! ### are_distinct -/
def spAreDistinct : Sp := fun vs H Q _ => ∃ (r : Addr) (rs : List Str), vs = [.ref r] ∧ H r = some (.lst (rs.map V.str)) ∧ rs.length ≤ 40000 ∧ (∀ r ∈ rs, isW r = true) ∧ rs.Nodup ∧ ∀ H', Ex H H' → Q (.bl true) H'
theorem sc_are_distinct : FnScope ["things", "thing"] ["things"] (defScope s_are_distinct) := ⟨rfl, rfl, rfl, by decide +kernel, rfl, by decide +kernel, by decide +kernel⟩
theorem ok_are_distinct (T : Txt K mg) : Ent P w K mg base CX0 2 "are_distinct" ["things"] [] spAreDistinct := by
  obtain ⟨fd, F⟩ := T.f_are_distinct
  have e_is_word := ok_is_word (P := P) (w := w) (base := base) T
  refine Ent.mk' T.g_are_distinct F (FunD.ok0 F sc_are_distinct (fun vs H Q E h => ?_) (fun cdv A outer s H vs Q E hr h => ?_)) (fun _ _ _ _ _ _ us hl => match us, hl with | [_], _ => rfl)
  · obtain ⟨r, rs, rfl, hrs, hn, hw, nd, q⟩ := h
    rfl
  · obtain ⟨r, rs, rfl, hrs, hn, hw, nd, q⟩ := h
    refine ⟨_, (pss_one (ps_ret (pe_and (pe_callB (cr_allK (K := K) rfl rfl) (by rfl) T.n_all (by decide +kernel) (pa_cons (pe_lc (own := [("thing", 1)]) (g := gName 1) (tt := tYes) rfl sc_are_distinct.nd (pi_listK (K := K) rfl (pv 0)) (blkOk_by (N := ["things", "thing"]) (sc := defScope s_are_distinct) (by decide +kernel)) (fun _ _ _ _ _ => (pg_name (i := 1) sc_are_distinct.nd rfl (Or.inl rfl))) (fun _ _ _ _ _ => pts_nil) (fun _ _ _ _ _ => (pe_e e_is_word (hr.mono (by decide)) pass0 (pa_cons (pv 1) pa_nil)))) pa_nil)) (pe_one (pe_cmpR op_eq (pe_callB call_lenD (by rfl) T.n_len PySem.boot_len (pa_cons (pe_dc (own := [("thing", 1)]) (g := gName 1) (tt := tYes) rfl sc_are_distinct.nd (pi_listK (K := K) rfl (pv 0)) (blkOk_by (N := ["things", "thing"]) (sc := defScope s_are_distinct) (by decide +kernel)) (fun _ _ _ _ _ => (pg_name (i := 1) sc_are_distinct.nd rfl (Or.inl rfl))) (fun _ _ _ _ _ => pts_nil) (fun _ _ _ _ _ => (pv 1)) (fun _ _ _ _ _ => pe_bl)) pa_nil)) (pe_callB (call_lenK (K := K) rfl) (by rfl) T.n_len PySem.boot_len (pa_cons (pv 0) pa_nil)) (nomark _)))))), ?_⟩
    dsimp only [tSeq_ap, tAsg_ap, gName_ap, tC_ap, tNext_ap, tRet_ap, tAndV_ap, tCB_ap, tCons_ap, tNil_ap, tB_ap, tTest_ap, tNot_ap, tOr_ap, tAnd_ap, tIfS_ap, tOp_ap, tDrop_ap]
    refine lcs rs (sql hrs) hn (fun H1 Q' q' => ⟨_, rfl, q'⟩) (fun _ => true) (fun _ => .bl true) (fun z hz H1 e Qy Qn h1 h2 => ?_) fun p H2 hp e2 h2 => ?_
    · exact ⟨rfl, tyes ⟨_, rfl, z, rfl, hw z hz, fun H4 e4 => h1 rfl H4 e4⟩⟩
    · refine ⟨p, rs.map fun _ => true, rfl, sql (by rw [h2, List.map_map, List.filter_eq_self.mpr fun _ _ => rfl]; rfl), true, congrArg V.bl (all_true rs), iteT ?_⟩
      refine dcs rs (sql (e2 _ _ hrs)) nd hn (fun H1 Q' q' => ⟨_, rfl, q'⟩) (fun _ => .bl true) (fun z hz H1 e Q' q' => ⟨rfl, ⟨_, rfl, q' _ (Ex.refl _)⟩⟩) fun p3 H3 hp3 e3 h3 => ?_
      refine ⟨p3, _, rfl, h3, _, rfl, _, _, rfl, lenL (sql (e3 _ _ (e2 _ _ hrs))), rfl, ?_⟩
      refine cgv (Q := Q) (bl_t ?_) (q _ (e2.trans e3))
      rw [kd_len, List.length_map]
/-! ### moved -/
structure MvOk (L : List Str) (D : Str → Str) (ms : List (Str × Str × Str)) : Prop where
  nd : (ms.map (·.1)).Nodup
  at_ : ∀ m ∈ ms, m.1 ∈ L ∧ m.2.1 = D m.1 ∧ m.2.1 ≠ m.2.2
  w : ∀ m ∈ ms, isW m.1 = true ∧ isW m.2.1 = true ∧ isW m.2.2 = true
/-- the deal behind the moves -/
def after (D : Str → Str) (ms : List (Str × Str × Str)) : Str → Str := fun l => match ms.find? (fun m => decide (m.1 = l)) with
  | some m => m.2.2
  | none => D l
/-- a list of moves: tuples -/
def MvAt (H : Hp) (a : Addr) (ms : List (Str × Str × Str)) : Prop := ∃ ts : List Addr, H a = some (.lst (ts.map V.ref)) ∧ Paired (fun t m => H t = some (.tup [.str m.1, .str m.2.1, .str m.2.2])) ts ms
theorem paired_at {α β : Type} {F : α → β → Prop} {xs : List α} {ys : List β} (h : Paired F xs ys) : ∀ {i : Nat} {x : α}, xs[i]? = some x → ∃ y, ys[i]? = some y ∧ F x y := by
  induction h with
  | nil => intro i x e; simp at e
  | cons r _ ih =>
    intro i x e
    cases i with
    | zero => cases e; exact ⟨_, rfl, r⟩
    | succ i => exact ih e
theorem after_snoc (D : Str → Str) (ms : List (Str × Str × Str)) (m : Str × Str × Str) (h : m.1 ∉ ms.map (·.1)) (l : Str) : after D (ms ++ [m]) l = if l = m.1 then m.2.2 else after D ms l := by
  unfold after
  rw [List.find?_append]
  by_cases e : l = m.1
  · have n : ms.find? (fun m => decide (m.1 = l)) = none := by
      rw [List.find?_eq_none]
      intro x hx
      simp only [decide_eq_true_eq]
      exact fun q => h (List.mem_map.mpr ⟨x, hx, q.trans e⟩)
    rw [n, if_pos e]
    simp [e]
  · rw [if_neg e]
    cases ms.find? (fun m => decide (m.1 = l)) with
    | some x => rfl
    | none =>
      have : ¬ m.1 = l := fun q => e q.symm
      simp [this]
theorem after_not (D : Str → Str) (ms : List (Str × Str × Str)) (l : Str) (h : l ∉ ms.map (·.1)) : after D ms l = D l := by
  unfold after
  rw [List.find?_eq_none.mpr]
  intro x hx
  simp only [decide_eq_true_eq]
  exact fun q => h (List.mem_map.mpr ⟨x, hx, q⟩)
theorem not_mem_take {α : Type} {xs : List α} {i : Nat} {x : α} (nd : xs.Nodup) (h : xs[i]? = some x) : x ∉ xs.take i := fun hm => by
  obtain ⟨j, hj, ej⟩ := List.mem_take_iff_getElem.mp hm
  obtain ⟨hi, ei⟩ := List.getElem?_eq_some_iff.mp h
  have := (List.getElem_inj nd).mp (ej.trans ei.symm)
  omega
def spMoved : Sp := fun vs H Q _ => ∃ d m L D ms, vs = [.ref d, .ref m] ∧ DlAt H d L D ∧ L.length ≤ 60 ∧ MvAt H m ms ∧ MvOk L D ms ∧ ms.length ≤ 60 ∧ ∀ p H', H p = none → Ex H H' → DlAt H' p L (after D ms) → Q (.ref p) H'
theorem sc_moved : FnScope ["deal", "moves", "found", "done", "move", "name", "lane", "reader", "goal"] ["deal", "moves"] (defScope s_moved) := ⟨rfl, rfl, rfl, by decide +kernel, rfl, by decide +kernel, by decide +kernel⟩
theorem ok_moved (T : Txt K mg) : Ent P w K mg base CX0 2 "moved" ["deal", "moves"] [] spMoved := by
  obtain ⟨fd, F⟩ := T.f_moved
  have e_is_word := ok_is_word (P := P) (w := w) (base := base) T
  refine Ent.mk' T.g_moved F (FunD.ok0 F sc_moved (fun vs H Q E h => ?_) (fun cdv A outer s H vs Q E hr h => ?_)) (fun _ _ _ _ _ _ us hl => match us, hl with | [_, _], _ => rfl)
  · obtain ⟨d, m, L, D, ms, rfl, hd, n60, ⟨ts, hm, ht⟩, ok, nm, q⟩ := h
    rfl
  · obtain ⟨d, m, L, D, ms, rfl, hd, n60, ⟨ts, hm, ht⟩, ok, nm, q⟩ := h
    refine ⟨_, (pss_cons (ps_par (i := 2) (j := 3) rfl sc_moved.nd rfl rfl (by decide) rfl rfl (pa_cons (pe_callTy call_dictD (by rfl) T.n_dict (by decide +kernel) (pa_cons (pv 0) pa_nil)) (pa_cons pe_dnewK pa_nil)) rfl)
      (pss_cons (ps_for PassesOwn.never rfl (pi_listK (K := K) rfl (pv 1)) (pg_name (i := 4) sc_moved.nd rfl (Or.inl rfl)) (pss_cons (ps_if (PW.pt (pw_or (pt_not (pt_val (pe_callB (call_isiK (K := K) rfl) (by rfl) T.n_isinstance (by decide +kernel) (pa_cons (pv 4) (pa_cons (pe_bltn (v := .ty "tuple") (by rfl) T.n_tuple (by decide +kernel) rfl) pa_nil))))) (pw_or (pt_cmpR op_ne (pe_callB (call_lenK (K := K) rfl) (by rfl) T.n_len PySem.boot_len (pa_cons (pv 4) pa_nil)) pe_int (nomark _)) (pw_or1 (pt_not (pt_val (pe_callB (cr_allK (K := K) rfl rfl) (by rfl) T.n_all (by decide +kernel) (pa_cons (pe_lc (own := [("name", 5)]) (g := gName 5) (tt := tYes) rfl sc_moved.nd (pi_tupK (K := K) rfl (pv 4)) (blkOk_by (N := ["deal", "moves", "found", "done", "move", "name", "lane", "reader", "goal"]) (sc := defScope s_moved) (by decide +kernel)) (fun _ _ _ _ _ => (pg_name (i := 5) sc_moved.nd rfl (Or.inl rfl))) (fun _ _ _ _ _ => pts_nil) (fun _ _ _ _ _ => (pe_e e_is_word (hr.mono (by decide)) pass0 (pa_cons (pv 5) pa_nil)))) pa_nil)))))))) (pss_one (ps_ret pe_non)) pss_nil)
      (pss_cons (ps_asg (pv 4) (pg_tup rfl (pgs_cons (pg_name (i := 6) sc_moved.nd rfl (Or.inl rfl)) (pgs_cons (pg_name (i := 7) sc_moved.nd rfl (Or.inl rfl)) (pgs_cons (pg_name (i := 8) sc_moved.nd rfl (Or.inl rfl)) pgs_nil)))))
      (pss_cons (ps_if (PW.pt (pw_or (pt_cmp (pc_din (hu_of hr) (pv 6) (pv 3))) (pw_or (pt_cmpR op_ne (pe_dget1 (hu_of hr) (pv 2) (pv 6) ⟨rfl, rfl, rfl, rfl⟩) (pv 7) (nomark _)) (pw_or1 (pt_cmpR op_eq (pv 7) (pv 8) (nomark _)))))) (pss_one (ps_ret pe_non)) pss_nil)
      (pss_cons (ps_dput (hu_of hr) (pv 2) (pv 6) (pv 8) rfl)
      (pss_one (ps_dput (hu_of hr) (pv 3) (pv 6) pe_bl rfl)))))))
      (pss_one (ps_ret (pv 2))))), ?_⟩
    dsimp only [tSeq_ap, tAsg_ap, gName_ap, tC_ap, tNext_ap, tRet_ap, tAndV_ap, tCB_ap, tCons_ap, tNil_ap, tB_ap, tTest_ap, tNot_ap, tOr_ap, tAnd_ap, tIfS_ap, tOp_ap, tDrop_ap]
    refine ⟨_, rfl, d, _, rfl, .inl hd, fun p hp p2 hp2 => ⟨_, _, rfl, ?_⟩⟩
    have hp2' : H p2 = none := no_of (ex_upd (Ex.refl _) hp) hp2
    have np : p2 ≠ p := fun e => by rw [e, upd_same] at hp2; cases hp2
    dsimp only [tSeq_ap, tAsg_ap, gName_ap, tC_ap, tNext_ap, tRet_ap, tAndV_ap, tCB_ap, tCons_ap, tNil_ap, tB_ap, tTest_ap, tNot_ap, tOr_ap, tAnd_ap, tIfS_ap, tOp_ap, tDrop_ap]
    refine forl (g := gName 4) (td := tVar 1) (sql (xs := ts.map V.ref) (by rw [upd_ne (fresh_ne hm hp2').symm, upd_ne (fresh_ne hm hp).symm]; exact hm)) (fun H1 Q' q' => ⟨_, rfl, q'⟩)
      (fun i σ' H' => (∃ x1 x2 x3 x4 x5, σ' = [some (V.ref d), some (.ref m), some (.ref p), some (.ref p2), x1, x2, x3, x4, x5]) ∧ Ex H H' ∧ DlAt H' p L (after D (ms.take i)) ∧ KD H' p2 ((ms.take i).map (·.1)) (fun _ => .bl true))
      ⟨⟨_, _, _, _, _, rfl⟩, ex_upd (ex_upd (Ex.refl _) hp) hp2', (upd_ne np.symm).trans upd_same, upd_same⟩ (fun i σ' H' pv => sql (pv.2.1 _ _ hm)) (fun i x σ' H' hx pv => ?_) fun σ' H' pv => ?_
    · obtain ⟨⟨x1, x2, x3, x4, x5, rfl⟩, e, hf, hdn⟩ := pv
      rw [List.getElem?_map] at hx
      cases htz : ts[i]? with
      | none => rw [htz] at hx; cases hx
      | some t =>
      rw [htz] at hx
      cases hx
      obtain ⟨mv, hmv, hT0⟩ := paired_at ht htz
      have hT := e _ _ hT0
      have hmem := mem_of_at hmv
      obtain ⟨a1, a2, a3⟩ := ok.at_ mv hmem
      obtain ⟨w1, w2, w3⟩ := ok.w mv hmem
      have hnot : mv.1 ∉ (ms.take i).map (·.1) := by
        rw [List.map_take]
        exact not_mem_take ok.nd (by rw [List.getElem?_map, hmv]; rfl)
      refine ⟨_, rfl, _, _, _, _, true, rfl, .ty _, tTupl hT, kTup, true, rfl, iteF ?_⟩
      refine ⟨_, rfl, _, _, rfl, lenT (sqt hT), rfl, false, rfl, iteF ?_⟩
      dsimp only [tSeq_ap, tAsg_ap, gName_ap, tC_ap, tNext_ap, tRet_ap, tAndV_ap, tCB_ap, tCons_ap, tNil_ap, tB_ap, tTest_ap, tNot_ap, tOr_ap, tAnd_ap, tIfS_ap, tOp_ap, tDrop_ap]
      refine lct _ (sqt hT) (by show 3 ≤ 40000; decide) (fun H1 Q' q' => ⟨_, rfl, q'⟩) (fun _ => true) (fun _ => .bl true) (fun z hz H1 e1 Qy Qn h1 h2 => ?_) fun p3 H2 hp3 e2 h2 => ?_
      · rcases List.mem_cons.mp hz with rfl | hz
        · exact ⟨rfl, tyes ⟨_, rfl, _, rfl, w1, fun H4 e4 => h1 rfl H4 e4⟩⟩
        rcases List.mem_cons.mp hz with rfl | hz
        · exact ⟨rfl, tyes ⟨_, rfl, _, rfl, w2, fun H4 e4 => h1 rfl H4 e4⟩⟩
        rcases List.mem_cons.mp hz with rfl | hz
        · exact ⟨rfl, tyes ⟨_, rfl, _, rfl, w3, fun H4 e4 => h1 rfl H4 e4⟩⟩
        · cases hz
      · refine ⟨p3, [true, true, true], rfl, sql h2, true, rfl, iteF ?_⟩
        have hf2 := e2 _ _ hf
        have hd2 := e2 _ _ hdn
        refine ⟨_, rfl, t, _, rfl, sqt (e2 _ _ hT), rfl, _, _, rfl, _, _, rfl, _, _, rfl, rfl, ?_⟩
        refine ⟨_, rfl, _, rfl, p2, none, rfl, gn (.inl hd2) hnot, false, rfl, iteF ?_⟩
        refine ⟨_, rfl, p, rfl, .inl ⟨_, .inl hf2⟩, _, rfl, _, gk (.inl hf2) a1, _, rfl, rfl, false, bl_nt (congrArg V.str (by rw [after_not _ _ _ hnot, a2])), iteF ?_⟩
        refine ⟨_, rfl, _, rfl, rfl, false, bl_f (fun h => a3 (by injection h)), iteF ?_⟩
        refine ⟨_, rfl, _, rfl, _, rfl, p, _, rfl, pm hf2 a1 (by omega), ?_⟩
        refine ⟨_, rfl, _, rfl, p2, _, rfl, pn ((upd_ne np).trans hd2) hnot (by rw [List.length_map, List.length_take]; omega), ⟨_, _, _, _, _, rfl⟩, ?_, ?_, ?_⟩
        · exact ex_upd (ex_upd (e.trans e2) hp) hp2'
        · refine (upd_ne np.symm).trans (upd_same.trans (congrArg some (congrArg HO.dK (kd_congr fun k _ => ?_))))
          rw [take_succ_at hmv, after_snoc _ _ _ hnot]
          by_cases ek : k = mv.1
          · rw [if_pos ek, if_pos ek]
          · rw [if_neg ek, if_neg ek]
        · refine upd_same.trans (congrArg some (congrArg HO.dK ?_))
          rw [take_succ_at hmv, List.map_append]
          exact kd_congr fun k _ => by split <;> rfl
    · obtain ⟨⟨x1, x2, x3, x4, x5, rfl⟩, e, hf, hdn⟩ := pv
      rw [List.length_map, Paired.length ht, List.take_of_length_le (Nat.le_refl _)] at hf
      exact ⟨_, rfl, q p _ hp e hf⟩
end
end K55


set_option Elab.async false
set_option linter.all false
set_option maxRecDepth 100000
set_option maxHeartbeats 4000000
namespace K55
open PySem PySem.Spec PyProof.Rows L2 Evl
/-! ### counts and sums -/
def cnt1 {α : Type} (xs : List α) (p : α → Bool) : Int := ((xs.filter p).length : Int)
theorem cnt1_snoc {α : Type} (xs : List α) (x : α) (p : α → Bool) : cnt1 (xs ++ [x]) p = cnt1 xs p + if p x = true then 1 else 0 := by
  unfold cnt1
  rw [List.filter_append, List.length_append, List.filter_cons, List.filter_nil]
  by_cases h : p x = true
  · rw [if_pos h, if_pos h]; simp
  · rw [if_neg h, if_neg h]; simp
theorem cnt1_cons {α : Type} (xs : List α) (x : α) (p : α → Bool) : cnt1 (x :: xs) p = cnt1 xs p + if p x = true then 1 else 0 := by
  unfold cnt1
  rw [List.filter_cons]
  by_cases h : p x = true
  · rw [if_pos h, if_pos h, List.length_cons]; omega
  · rw [if_neg h, if_neg h]; omega
theorem cnt1_nonneg {α : Type} (xs : List α) (p : α → Bool) : 0 ≤ cnt1 xs p := Int.natCast_nonneg _
theorem cntI_def (D : Str → Str) (L : List Str) (r : Str) : cntI D L r = cnt1 L (fun l => decide (D l = r)) := rfl
theorem sumOf_cons (x : Str) (xs : List Str) (f : Str → Int) : sumOf (x :: xs) f = f x + sumOf xs f := by unfold sumOf; rw [List.map_cons, List.sum_cons]
theorem sumOf_nil (f : Str → Int) : sumOf [] f = 0 := rfl
theorem sumOf_congr {xs : List Str} {f g : Str → Int} (h : ∀ x ∈ xs, f x = g x) : sumOf xs f = sumOf xs g := by unfold sumOf; rw [List.map_congr_left h]
theorem sumOf_le {xs : List Str} {f g : Str → Int} (h : ∀ x ∈ xs, f x ≤ g x) : sumOf xs f ≤ sumOf xs g := by
  induction xs with
  | nil => exact Int.le_refl _
  | cons x xs ih =>
    rw [sumOf_cons, sumOf_cons]
    have := h x List.mem_cons_self
    have := ih fun y hy => h y (List.mem_cons_of_mem _ hy)
    omega
theorem sumOf_lt {xs : List Str} {f g : Str → Int} (h : ∀ x ∈ xs, f x ≤ g x) {y : Str} (hy : y ∈ xs) (hl : f y < g y) : sumOf xs f < sumOf xs g := by
  induction xs with
  | nil => cases hy
  | cons x xs ih =>
    rw [sumOf_cons, sumOf_cons]
    have h1 := h x List.mem_cons_self
    have h2 := sumOf_le (xs := xs) fun y hy => h y (List.mem_cons_of_mem _ hy)
    rcases List.mem_cons.mp hy with rfl | hy
    · omega
    · have := ih (fun y hy => h y (List.mem_cons_of_mem _ hy)) hy
      omega
theorem sumOf_perm {xs ys : List Str} (h : xs.Perm ys) (f : Str → Int) : sumOf xs f = sumOf ys f := by
  induction h with
  | nil => rfl
  | cons x _ ih => rw [sumOf_cons, sumOf_cons, ih]
  | swap x y l => rw [sumOf_cons, sumOf_cons, sumOf_cons, sumOf_cons]; omega
  | trans _ _ a b => rw [a, b]
theorem sumOf_add (xs : List Str) (f g : Str → Int) : sumOf xs (fun x => f x + g x) = sumOf xs f + sumOf xs g := by
  induction xs with
  | nil => rfl
  | cons x xs ih => rw [sumOf_cons, sumOf_cons, sumOf_cons, ih]; omega
theorem sumOf_sub (xs : List Str) (f g : Str → Int) : sumOf xs (fun x => f x - g x) = sumOf xs f - sumOf xs g := by
  induction xs with
  | nil => rfl
  | cons x xs ih => rw [sumOf_cons, sumOf_cons, sumOf_cons, ih]; omega
theorem sumOf_zero (xs : List Str) : sumOf xs (fun _ => 0) = 0 := by
  induction xs with
  | nil => rfl
  | cons x xs ih => rw [sumOf_cons, ih]; rfl
theorem sumOf_one {xs : List Str} (nd : xs.Nodup) {y : Str} (hy : y ∈ xs) (c : Int) : sumOf xs (fun x => if y = x then c else 0) = c := by
  induction xs with
  | nil => cases hy
  | cons x xs ih =>
    rw [sumOf_cons]
    obtain ⟨n1, n2⟩ := List.nodup_cons.mp nd
    rcases List.mem_cons.mp hy with rfl | hy
    · rw [if_pos rfl, sumOf_congr (g := fun _ => 0) fun z hz => if_neg (fun e : y = z => n1 (e ▸ hz)), sumOf_zero]; omega
    · rw [ih n2 hy, if_neg (fun e : y = x => n1 (e ▸ hy))]; omega
/-- by what they are of -/
theorem sum_cnt {α : Type} (ms : List α) (key : α → Str) {ks : List Str} (nd : ks.Nodup) (h : ∀ m ∈ ms, key m ∈ ks) : sumOf ks (fun r => cnt1 ms fun m => decide (key m = r)) = ms.length := by
  induction ms with
  | nil => exact sumOf_zero ks
  | cons m ms ih =>
    have e : ∀ r ∈ ks, cnt1 (m :: ms) (fun m => decide (key m = r)) = cnt1 ms (fun m => decide (key m = r)) + if key m = r then 1 else 0 := fun r _ => by
      rw [cnt1_cons]
      by_cases h : key m = r
      · rw [if_pos h, if_pos (decide_eq_true h)]
      · rw [if_neg h, if_neg (by simpa using h)]
    rw [sumOf_congr e, sumOf_add, ih (fun m hm => h m (List.mem_cons_of_mem _ hm)), sumOf_one nd (h m List.mem_cons_self), List.length_cons]
    omega
theorem sum_cntI (D : Str → Str) (L : List Str) {ks : List Str} (nd : ks.Nodup) (h : ∀ l ∈ L, D l ∈ ks) : sumOf ks (cntI D L) = L.length := sum_cnt L D nd h
theorem sum_max {ks : List Str} {f g : Str → Int} (h : sumOf ks f = sumOf ks g) : sumOf ks (fun r => max 0 (f r - g r)) = sumOf ks (fun r => max 0 (g r - f r)) := by
  have e : sumOf ks (fun r => max 0 (f r - g r) - max 0 (g r - f r)) = sumOf ks (fun r => f r - g r) := sumOf_congr fun r _ => by omega
  rw [sumOf_sub, sumOf_sub] at e
  omega
/-! ### moves -/
structure MI (D : Str → Str) (f g : Str → Int) (places ys : List Str) (ms : List (Str × Str × Str)) : Prop where
  sub : (ms.map (·.1)).Sublist ys
  fr : ∀ m ∈ ms, m.2.1 = D m.1 ∧ g (D m.1) < f (D m.1)
  to : ms.map (·.2.2) = places.take ms.length
  k : ∀ r, cnt1 ms (fun m => decide (m.2.1 = r)) = min (cntI D ys r) (max 0 (f r - g r))
section
variable {D : Str → Str} {f g : Str → Int} {places ys : List Str} {ms : List (Str × Str × Str)}
theorem MI.nil : MI D f g places [] [] := ⟨List.Sublist.refl _, fun m h => (by cases h), rfl, fun r => (by
  show (0 : Int) = min 0 _
  omega)⟩
theorem cntI_snoc' (D : Str → Str) (L : List Str) (l r : Str) : cntI D (L ++ [l]) r = cntI D L r + if D l = r then 1 else 0 := by
  rw [cntI_snoc]
  by_cases h : D l = r
  · rw [if_pos h, if_pos h.symm]
  · rw [if_neg h, if_neg (fun e => h e.symm)]; omega
theorem MI.skip (h : MI D f g places ys ms) (l : Str) (n : ¬ 0 < f (D l) - g (D l) - cnt1 ms (fun m => decide (m.2.1 = D l))) : MI D f g places (ys ++ [l]) ms := ⟨h.sub.trans (List.sublist_append_left _ _), h.fr, h.to, fun r => by
  have e := h.k r
  rw [cntI_snoc']
  have c0 : 0 ≤ cntI D ys r := cnt1_nonneg _ _
  by_cases q : D l = r
  · rw [if_pos q]
    subst q
    omega
  · rw [if_neg q]; omega⟩
theorem MI.move (h : MI D f g places ys ms) (l : Str) (n : 0 < f (D l) - g (D l) - cnt1 ms (fun m => decide (m.2.1 = D l))) {q : Str} (hq : places[ms.length]? = some q) : MI D f g places (ys ++ [l]) (ms ++ [(l, D l, q)]) := by
  refine ⟨?_, fun m hm => ?_, ?_, fun r => ?_⟩
  · rw [List.map_append]
    exact h.sub.append (List.Sublist.refl _)
  · rcases List.mem_append.mp hm with hm | hm
    · exact h.fr m hm
    · rw [List.mem_singleton] at hm
      subst hm
      have := cnt1_nonneg ms (fun m => decide (m.2.1 = D l))
      exact ⟨rfl, by show g (D l) < f (D l); omega⟩
  · rw [List.map_append, List.length_append, List.length_singleton, take_succ_at hq, h.to]
    rfl
  · rw [cnt1_snoc, cntI_snoc', h.k r]
    have e := h.k (D l)
    have c0 : 0 ≤ cntI D ys r := cnt1_nonneg _ _
    by_cases q : D l = r
    · rw [if_pos (decide_eq_true q), if_pos q]
      subst q
      omega
    · rw [if_neg (by simpa using q), if_neg q]; omega
/-- there is a place -/
theorem MI.room (h : MI D f g places ys ms) {ks : List Str} (nd : ks.Nodup) (hk : ∀ m ∈ ms, m.2.1 ∈ ks) (hp : (places.length : Int) = sumOf ks (fun r => max 0 (f r - g r))) {r : Str} (hr : r ∈ ks) (n : 0 < f r - g r - cnt1 ms (fun m => decide (m.2.1 = r))) : ms.length < places.length := by
  have e := sum_cnt ms (fun m => m.2.1) nd hk
  have : sumOf ks (fun r => cnt1 ms fun m => decide (m.2.1 = r)) < sumOf ks (fun r => max 0 (f r - g r)) := sumOf_lt (fun r _ => by rw [h.k r]; omega) hr (by have := h.k r; have := cnt1_nonneg ms (fun m => decide (m.2.1 = r)); omega)
  omega
end
/-- the moves between two loads -/
structure Mvs (L : List Str) (D : Str → Str) (ks : List Str) (f g : Str → Int) (ms : List (Str × Str × Str)) : Prop where
  ok : MvOk L D ms
  len : (ms.length : Int) = sumOf ks (fun r => max 0 (f r - g r))
  fr : ∀ m ∈ ms, g m.2.1 < f m.2.1
  to : ∀ m ∈ ms, m.2.2 ∈ ks ∧ f m.2.2 < g m.2.2
  ld : ∀ r ∈ ks, cntI (after D ms) L r = g r
theorem cnt1_flat (zs : List Str) (n : Str → Nat) (r : Str) (nd : zs.Nodup) : cnt1 (zs.flatMap fun z => List.replicate (n z) z) (fun q => decide (q = r)) = if r ∈ zs then (n r : Int) else 0 := by
  induction zs with
  | nil => rfl
  | cons z zs ih =>
    obtain ⟨n1, n2⟩ := List.nodup_cons.mp nd
    rw [List.flatMap_cons]
    have e : cnt1 (List.replicate (n z) z ++ zs.flatMap fun z => List.replicate (n z) z) (fun q => decide (q = r)) = cnt1 (List.replicate (n z) z) (fun q => decide (q = r)) + cnt1 (zs.flatMap fun z => List.replicate (n z) z) (fun q => decide (q = r)) := by
      unfold cnt1
      rw [List.filter_append, List.length_append]
      omega
    rw [e, ih n2]
    unfold cnt1
    by_cases h : z = r
    · subst h
      rw [List.filter_replicate_of_pos (by simp), List.length_replicate, if_neg n1, if_pos List.mem_cons_self]
      omega
    · rw [List.filter_replicate_of_neg (by simpa using h)]
      by_cases m : r ∈ zs
      · rw [if_pos m, if_pos (List.mem_cons_of_mem _ m)]; simp
      · rw [if_neg m, if_neg (fun q => (List.mem_cons.mp q).elim (fun e => h e.symm) m)]; simp
theorem len_flat (zs : List Str) (n : Str → Nat) : ((zs.flatMap fun z => List.replicate (n z) z).length : Int) = sumOf zs (fun z => (n z : Int)) := by
  induction zs with
  | nil => rfl
  | cons z zs ih => rw [List.flatMap_cons, List.length_append, List.length_replicate, sumOf_cons, ← ih]; omega
theorem cntI_congr {D D' : Str → Str} {L : List Str} (h : ∀ l ∈ L, D l = D' l) (r : Str) : cntI D L r = cntI D' L r := by
  unfold cntI
  rw [List.filter_congr fun l hl => by rw [h l hl]]
theorem cntI_put {D D' : Str → Str} {L : List Str} (nd : L.Nodup) {x q : Str} (hx : x ∈ L) (h : ∀ l, D' l = if l = x then q else D l) (r : Str) : cntI D' L r = cntI D L r - (if D x = r then 1 else 0) + (if q = r then 1 else 0) := by
  induction L with
  | nil => cases hx
  | cons l L ih =>
    obtain ⟨n1, n2⟩ := List.nodup_cons.mp nd
    have c : ∀ D : Str → Str, cntI D (l :: L) r = cntI D L r + if D l = r then 1 else 0 := fun D => by
      rw [cntI_def, cnt1_cons, cntI_def]
      by_cases e : D l = r
      · rw [if_pos e, if_pos (decide_eq_true e)]
      · rw [if_neg e, if_neg (by simpa using e)]
    rw [c, c]
    rcases List.mem_cons.mp hx with rfl | hx
    · rw [cntI_congr (D := D') (D' := D) (fun y hy => by rw [h y, if_neg (fun e : y = x => n1 (e ▸ hy))]), h x, if_pos rfl]
      omega
    · rw [ih n2 hx, h l, if_neg (fun e : l = x => n1 (e ▸ hx))]
      omega
theorem snoc_ind {α : Type} {P : List α → Prop} (h0 : P []) (h1 : ∀ xs x, P xs → P (xs ++ [x])) : ∀ xs, P xs := fun xs => by
  rw [← List.reverse_reverse xs]
  induction xs.reverse with
  | nil => exact h0
  | cons x xs ih => rw [List.reverse_cons]; exact h1 _ _ ih
theorem cntI_after {L : List Str} (nd : L.Nodup) (D : Str → Str) : ∀ (ms : List (Str × Str × Str)), (ms.map (·.1)).Nodup → (∀ m ∈ ms, m.1 ∈ L ∧ m.2.1 = D m.1) → ∀ r, cntI (after D ms) L r = cntI D L r - cnt1 ms (fun m => decide (m.2.1 = r)) + cnt1 ms (fun m => decide (m.2.2 = r)) := by
  refine snoc_ind (fun _ _ r => ?_) fun ms m ih hn hm r => ?_
  · show cntI D L r = cntI D L r - 0 + 0
    omega
  · rw [List.map_append] at hn
    obtain ⟨h1, _, h3⟩ := List.nodup_append.mp hn
    have hnot : m.1 ∉ ms.map (·.1) := fun h => h3 _ h m.1 (by simp) rfl
    obtain ⟨a1, a2⟩ := hm m (by simp)
    rw [cntI_put nd a1 (fun l => after_snoc D ms m hnot l) r, ih h1 (fun m' h' => hm m' (List.mem_append_left _ h')) r, cnt1_snoc, cnt1_snoc, after_not D ms m.1 hnot, ← a2]
    by_cases e1 : m.2.1 = r
    · by_cases e2 : m.2.2 = r
      · rw [if_pos e1, if_pos e2, if_pos (decide_eq_true e1), if_pos (decide_eq_true e2)]; omega
      · rw [if_pos e1, if_neg e2, if_pos (decide_eq_true e1), if_neg (by simpa using e2)]; omega
    · by_cases e2 : m.2.2 = r
      · rw [if_neg e1, if_pos e2, if_neg (by simpa using e1), if_pos (decide_eq_true e2)]; omega
      · rw [if_neg e1, if_neg e2, if_neg (by simpa using e1), if_neg (by simpa using e2)]; omega
/-- what the loop ends with -/
theorem MI.done {L ys ks zs : List Str} {D : Str → Str} {f g : Str → Int} {ms : List (Str × Str × Str)} (h : MI D f g (zs.flatMap fun z => List.replicate (max 0 (g z - f z)).toNat z) ys ms) (ok : DlOk L D) (hy : ys.Perm L) (hz : zs.Perm ks) (nd : ks.Nodup) (hk : ∀ l ∈ L, D l ∈ ks)
    (hw : ∀ r ∈ ks, isW r = true) (hf : ∀ r, f r = cntI D L r) (hs : sumOf ks f = sumOf ks g) (h0 : ∀ r ∈ ks, 0 ≤ g r) : Mvs L D ks f g ms := by
  have ndm : (ms.map (·.1)).Nodup := h.sub.nodup (hy.nodup_iff.mpr ok.nd)
  have mL : ∀ m ∈ ms, m.1 ∈ L := fun m hm => hy.mem_iff.mp (h.sub.subset (List.mem_map.mpr ⟨m, hm, rfl⟩))
  have hk2 : ∀ m ∈ ms, m.2.1 ∈ ks := fun m hm => by rw [(h.fr m hm).1]; exact hk _ (mL m hm)
  have cy : ∀ r, cntI D ys r = f r := fun r => by
    rw [hf r]
    unfold cntI
    exact congrArg Int.ofNat (hy.filter _).length_eq
  have lp : ((zs.flatMap fun z => List.replicate (max 0 (g z - f z)).toNat z).length : Int) = sumOf ks (fun r => max 0 (f r - g r)) := by
    rw [len_flat, sumOf_perm hz, sum_max hs]
    exact sumOf_congr fun r _ => by omega
  have kk : ∀ r ∈ ks, cnt1 ms (fun m => decide (m.2.1 = r)) = max 0 (f r - g r) := fun r hr => by
    rw [h.k r, cy r]
    have := h0 r hr
    have c0 : 0 ≤ f r := by rw [hf r]; exact cnt1_nonneg _ _
    omega
  have len : (ms.length : Int) = sumOf ks (fun r => max 0 (f r - g r)) := by
    rw [← sum_cnt ms (fun m => m.2.1) nd hk2]
    exact sumOf_congr kk
  have to_ : ms.map (·.2.2) = zs.flatMap fun z => List.replicate (max 0 (g z - f z)).toNat z := by
    rw [h.to, List.take_of_length_le (by omega)]
  have ct : ∀ r ∈ ks, cnt1 ms (fun m => decide (m.2.2 = r)) = max 0 (g r - f r) := fun r hr => by
    have e : cnt1 ms (fun m => decide (m.2.2 = r)) = cnt1 (ms.map (·.2.2)) (fun q => decide (q = r)) := by
      unfold cnt1
      rw [List.filter_map, List.length_map]
      rfl
    rw [e, to_, cnt1_flat _ _ _ (hz.nodup_iff.mpr nd), if_pos (hz.mem_iff.mpr hr)]
    omega
  have tt : ∀ m ∈ ms, m.2.2 ∈ ks ∧ f m.2.2 < g m.2.2 := fun m hm => by
    have q : m.2.2 ∈ zs.flatMap fun z => List.replicate (max 0 (g z - f z)).toNat z := by
      rw [← to_]
      exact List.mem_map.mpr ⟨m, hm, rfl⟩
    obtain ⟨z, hz1, hz2⟩ := List.mem_flatMap.mp q
    obtain ⟨n0, e⟩ := List.mem_replicate.mp hz2
    rw [e]
    exact ⟨hz.mem_iff.mp hz1, by omega⟩
  refine ⟨⟨ndm, fun m hm => ⟨mL m hm, (h.fr m hm).1, fun e => ?_⟩, fun m hm => ⟨ok.w _ (mL m hm), hw _ (hk2 m hm), hw _ (tt m hm).1⟩⟩, len, fun m hm => ?_, tt, fun r hr => ?_⟩
  · have h1 := (h.fr m hm).2
    have h2 := (tt m hm).2
    rw [← (h.fr m hm).1, e] at h1
    omega
  · rw [(h.fr m hm).1]
    exact (h.fr m hm).2
  · rw [cntI_after ok.nd D ms ndm (fun m hm => ⟨mL m hm, (h.fr m hm).1⟩) r, kk r hr, ct r hr, ← hf r]
    omega
end K55

set_option Elab.async false
set_option linter.all false
set_option maxRecDepth 100000
set_option maxHeartbeats 4000000
namespace K55
open PySem PySem.Spec PyProof.Rows L2 Evl
/-- [e for z in xs for k in range(n z)] -/
theorem lc2s {K : PySem.W.Frag} {σ : L2.St} {H : Hp} {Q : VK} {te td : TE} {wi1 : TI} {vs vs1 : List Nat} {a : Addr} {i j : Nat} (xs : List Str) (hx : SqL K H a (xs.map V.str)) (hd : ∀ (H1 : Hp) (Q' : VK), Q' (.ref a) H1 → td σ H1 Q') (n : Str → Nat)
    (hn : (xs.flatMap fun z => List.replicate (n z) z).length ≤ 40000)
    (w1 : ∀ z, wipe ((wipe σ vs).set i (some (.str z))) vs = wipe σ vs) (w2 : ∀ z k, wipe ((wipe ((wipe σ vs).set i (some (.str z))) vs1).set j (some (.int k))) vs1 = wipe ((wipe σ vs).set i (some (.str z))) vs1)
    (turn1 : ∀ z ∈ xs, ∀ H1, Ex H H1 → ∀ R : It → Hp → Prop, R (Itr 0 (n z)) H1 → wi1 ((wipe σ vs).set i (some (.str z))) H1 R)
    (turn2 : ∀ z ∈ xs, ∀ (k : Int) H1, Ex H H1 → ∀ Q' : VK, Q' (.str z) H1 → te ((wipe ((wipe σ vs).set i (some (.str z))) vs1).set j (some (.int k))) H1 Q')
    (k : ∀ p H2, H p = none → Ex H H2 → H2 p = some (.lst ((xs.flatMap fun z => List.replicate (n z) z).map V.str)) → Q (.ref p) H2) : tLc2 (iList K td) (gName i) tYes wi1 (gName j) tYes te vs vs1 σ H Q := by
  refine hd _ _ ⟨a, rfl, ⟨_, hx⟩, fun D hD => ?_⟩
  refine ⟨fun i m H' => m = xs.length - i ∧ i ≤ xs.length ∧ Ex H H' ∧ H' D = some (.lst (((xs.take i).flatMap fun z => List.replicate (n z) z).map V.str)), ⟨xs.length, by simp, Nat.zero_le _, Ex.new hD, upd_same⟩, ?_⟩
  rintro q m H' ⟨rfl, hi, e, hys⟩
  have hq := ex_l e hx
  by_cases hlt : q < xs.length
  · refine .inr ⟨⟨_, .str xs[q], hq, by simp [hlt]⟩, fun H2 => Ex H H2 ∧ H2 D = some (.lst (((xs.take (q + 1)).flatMap fun z => List.replicate (n z) z).map V.str)), fun H2 p => ⟨xs.length - (q + 1), by omega, rfl, hlt, p⟩, fun x H2 y => ?_⟩
    obtain ⟨rfl, y⟩ := y
    have y := y _ hq
    rw [List.getElem?_map, List.getElem?_eq_getElem hlt] at y
    cases y
    have hz : xs[q]? = some xs[q] := List.getElem?_eq_getElem hlt
    have hm : xs[q] ∈ xs := List.getElem_mem hlt
    have ht : ((xs.take (q + 1)).flatMap fun z => List.replicate (n z) z) = ((xs.take q).flatMap fun z => List.replicate (n z) z) ++ List.replicate (n xs[q]) xs[q] := by
      rw [take_succ_at hz, List.flatMap_append]
      simp
    refine ⟨w1 _, ?_⟩
    unfold tYes
    refine iteT (turn1 _ hm _ e _ ?_)
    refine ⟨fun j m H' => m = n xs[q] - j ∧ j ≤ n xs[q] ∧ Ex H H' ∧ H' D = some (.lst ((((xs.take q).flatMap fun z => List.replicate (n z) z) ++ List.replicate j xs[q]).map V.str)), ⟨n xs[q], by simp, Nat.zero_le _, e, by rw [hys]; simp⟩, ?_⟩
    rintro j' m H3 ⟨rfl, hj, e3, h3⟩
    by_cases hjl : j' < n xs[q]
    · refine .inr ⟨hjl, fun H4 => Ex H H4 ∧ H4 D = some (.lst ((((xs.take q).flatMap fun z => List.replicate (n z) z) ++ List.replicate (j' + 1) xs[q]).map V.str)), fun H4 p => ⟨n xs[q] - (j' + 1), by omega, rfl, hjl, p⟩, fun x H4 y => ?_⟩
      obtain ⟨rfl, rfl⟩ := y
      refine ⟨w2 _ _, ?_⟩
      dsimp only
      refine iteT (turn2 _ hm _ _ e3 _ ⟨_, h3, ?_, ?_, ?_⟩)
      · rw [List.length_map]
        have l1 : (((xs.take q).flatMap fun z => List.replicate (n z) z) ++ List.replicate j' xs[q]).length ≤ ((xs.take (q + 1)).flatMap fun z => List.replicate (n z) z).length := by
          rw [ht, List.length_append, List.length_append, List.length_replicate, List.length_replicate]; omega
        have l2 : ((xs.take (q + 1)).flatMap fun z => List.replicate (n z) z).length ≤ (xs.flatMap fun z => List.replicate (n z) z).length := by
          conv => rhs; rw [← List.take_append_drop (q + 1) xs, List.flatMap_append, List.length_append]
          omega
        exact sz_lt (by omega)
      · exact ex_upd e3 hD
      · rw [upd_same, List.replicate_succ', ← List.append_assoc, List.map_append (l₂ := [_])]
        rfl
    · have ej : j' = n xs[q] := by omega
      subst ej
      exact .inl ⟨Nat.le_refl _, e3, by rw [ht]; exact h3⟩
  · have eq : q = xs.length := by omega
    subst eq
    rw [List.take_of_length_le (Nat.le_refl _)] at hys
    exact .inl ⟨⟨_, hq, by rw [List.length_map]; exact Nat.le_refl _⟩, k D _ hD e hys⟩
/-- .. the list being just made -/
theorem lc2p {K : PySem.W.Frag} {σ : L2.St} {H : Hp} {Q : VK} {te td : TE} {wi1 : TI} {vs vs1 : List Nat} {i j : Nat} (PP : List Str → Prop) (hd : ∀ Q' : VK, (∀ q1 zs H1, Ex H H1 → SqL K H1 q1 (zs.map V.str) → PP zs → Q' (.ref q1) H1) → td σ H Q') (n : Str → Nat)
    (hn : ∀ zs, PP zs → (zs.flatMap fun z => List.replicate (n z) z).length ≤ 40000)
    (w1 : ∀ z, wipe ((wipe σ vs).set i (some (.str z))) vs = wipe σ vs) (w2 : ∀ z k, wipe ((wipe ((wipe σ vs).set i (some (.str z))) vs1).set j (some (.int k))) vs1 = wipe ((wipe σ vs).set i (some (.str z))) vs1)
    (turn1 : ∀ zs, PP zs → ∀ z ∈ zs, ∀ H1, Ex H H1 → ∀ R : It → Hp → Prop, R (Itr 0 (n z)) H1 → wi1 ((wipe σ vs).set i (some (.str z))) H1 R)
    (turn2 : ∀ zs, PP zs → ∀ z ∈ zs, ∀ (k : Int) H1, Ex H H1 → ∀ Q' : VK, Q' (.str z) H1 → te ((wipe ((wipe σ vs).set i (some (.str z))) vs1).set j (some (.int k))) H1 Q')
    (k : ∀ p H2 zs, PP zs → H p = none → Ex H H2 → H2 p = some (.lst ((zs.flatMap fun z => List.replicate (n z) z).map V.str)) → Q (.ref p) H2) : tLc2 (iList K td) (gName i) tYes wi1 (gName j) tYes te vs vs1 σ H Q := by
  refine hd _ fun q1 zs H1 e1 hx pz => ?_
  exact (lc2s (td := tC (.ref q1)) zs hx (fun H1 Q' q' => q') n (hn zs pz) w1 w2 (fun z hz H2 e2 => turn1 zs pz z hz H2 (e1.trans e2)) (fun z hz k H2 e2 => turn2 zs pz z hz k H2 (e1.trans e2)) fun p H2 hp e2 h2 => k p H2 zs pz (by
    cases q : H p with
    | none => rfl
    | some o => rw [e1 p o q] at hp; cases hp) (e1.trans e2) h2 : tLc2 (iList K (tC (.ref q1))) (gName i) tYes wi1 (gName j) tYes te vs vs1 σ H1 Q)
theorem ne_tl {H : Hp} {a b : Addr} {xs ys : List V} (h : H a = some (.tup xs)) (h' : H b = some (.lst ys)) : a ≠ b := fun e => by rw [e, h'] at h; cases h
theorem BndAt.lock {H : Hp} {b l : Addr} {B : Bn} {kvs : List (Key × V)} {fr : HO} (h : BndAt H b B) (hl : H l = some (.dK kvs)) (n : l ≠ b) : BndAt (upd H l fr) b B := by
  obtain ⟨U, h1, h2⟩ := h
  exact ⟨U, (upd_ne n.symm).trans h1, fun r hr => (upd_ne (ne_td (h2 r hr) hl)).trans (h2 r hr)⟩
theorem ex_lock {H H' : Hp} {l : Addr} {u fr : HO} (h : H l = some u) (e : Ex H H') : Ex (upd H l fr) (upd H' l fr) := fun b o hb => by
  by_cases q : b = l
  · subst q; rw [upd_same] at hb ⊢; exact hb
  · rw [upd_ne q] at hb ⊢; exact e b o hb
theorem MvAt.ex {H H' : Hp} {a : Addr} {ms : List (Str × Str × Str)} (h : MvAt H a ms) (e : Ex H H') : MvAt H' a ms := by
  obtain ⟨ts, h1, h2⟩ := h
  exact ⟨ts, e _ _ h1, Paired.mapP h2 fun _ _ r => e _ _ r⟩
theorem MvAt.updK {H : Hp} {a p : Addr} {o : HO} {kvs : List (Key × V)} {ms : List (Str × Str × Str)} (h : MvAt H a ms) (hp : H p = some (.dK kvs)) : MvAt (upd H p o) a ms := by
  obtain ⟨ts, h1, h2⟩ := h
  exact ⟨ts, (upd_ne (ne_ld h1 hp)).trans h1, Paired.mapP h2 fun _ _ r => (upd_ne (ne_td r hp)).trans r⟩
theorem paired_snoc {α β : Type} {F : α → β → Prop} {xs : List α} {ys : List β} (h : Paired F xs ys) {x : α} {y : β} (r : F x y) : Paired F (xs ++ [x]) (ys ++ [y]) := paired_app h (.cons r .nil)
theorem sumOf_mem_le {ks : List Str} {f : Str → Int} (h : ∀ r ∈ ks, 0 ≤ f r) {r : Str} (hr : r ∈ ks) : f r ≤ sumOf ks f := by
  induction ks with
  | nil => cases hr
  | cons x xs ih =>
    rw [sumOf_cons]
    have h1 := h x List.mem_cons_self
    have h2 : 0 ≤ sumOf xs f := by
      have := sumOf_le (xs := xs) (f := fun _ => 0) (g := f) fun y hy => h y (List.mem_cons_of_mem _ hy)
      rw [sumOf_zero] at this
      exact this
    rcases List.mem_cons.mp hr with rfl | hr
    · omega
    · have := ih (fun y hy => h y (List.mem_cons_of_mem _ hy)) hr
      omega
/-- [e for z in xs if ..], the list read by td at this heap -/
theorem lcsF {K : PySem.W.Frag} {σ : L2.St} {H : Hp} {Q : VK} {gg : TG} {tt : TT} {te td : TE} {vs : List Nat} {a : Addr} (xs : List Str) (hx : SqL K H a (xs.map V.str)) (hn : xs.length ≤ 40000) (hd : ∀ (Q' : VK), Q' (.ref a) H → td σ H Q') (f : Str → Bool) (v : Str → V)
    (turn : ∀ z ∈ xs, ∀ H1, Ex H H1 → ∀ (Qy : V → Hp → Prop) (Qn : Hp → Prop), (f z = true → ∀ H4, Ex H1 H4 → Qy (v z) H4) → (f z = false → ∀ H3, Ex H1 H3 → Qn H3) →
      gg (.str z) (wipe σ vs) H1 fun σ2 H2 => wipe σ2 vs = wipe σ vs ∧ tt σ2 H2 fun b H3 => if b = true then te σ2 H3 Qy else Qn H3)
    (k : ∀ p H2, H p = none → Ex H H2 → H2 p = some (.lst ((xs.filter f).map v)) → Q (.ref p) H2) : tLc (iList K td) gg tt te vs σ H Q := by
  have h := (lcs (td := tC (.ref a)) xs hx hn (fun H1 Q' q' => q') f v turn k : tLc (iList K (tC (.ref a))) gg tt te vs σ H Q)
  exact hd _ h
end K55

set_option Elab.async false
set_option linter.all false
set_option maxRecDepth 100000
set_option maxHeartbeats 4000000
namespace K55
open PySem PySem.Spec PyProof.Rows L2 Evl
section
variable {P : Program} {w : World} {K : PySem.W.Frag} {mg : Str → Option Value} {base : Heap}
/-! ### check_change -/
def spCheckChange : Sp := fun vs H Q _ => ∃ d b L D B, vs = [.ref d, .ref b] ∧ DlAt H d L D ∧ DlOk L D ∧ BndAt H b B ∧ B.Ok ∧ B.Can L.length ∧ ∀ H', Ex H H' → Q .non H'
theorem sc_check_change : FnScope ["deal", "bounds"] ["deal", "bounds"] (defScope s_check_change) := ⟨rfl, rfl, rfl, by decide +kernel, rfl, by decide +kernel, by decide +kernel⟩
theorem ok_check_change (T : Txt K mg) : Ent P w K mg base CX0 3 "check_change" ["deal", "bounds"] [] spCheckChange := by
  obtain ⟨fd, F⟩ := T.f_check_change
  have e_check_deal := ok_check_deal (P := P) (w := w) (base := base) T
  have e_check_bounds := ok_check_bounds (P := P) (w := w) (base := base) T
  have e_is_possible := ok_is_possible (P := P) (w := w) (base := base) T
  refine Ent.mk' T.g_check_change F (FunD.ok0 F sc_check_change (fun vs H Q E h => ?_) (fun cdv A outer s H vs Q E hr h => ?_)) (fun _ _ _ _ _ _ us hl => match us, hl with | [_, _], _ => rfl)
  · obtain ⟨d, b, L, D, B, rfl, hd, okd, hb, okb, can, q⟩ := h
    rfl
  · obtain ⟨d, b, L, D, B, rfl, hd, okd, hb, okb, can, q⟩ := h
    refine ⟨_, (pss_cons (ps_expr (pe_e e_check_deal (hr.mono (by decide)) pass0 (pa_cons (pv 0) pa_nil)))
      (pss_cons (ps_expr (pe_e e_check_bounds (hr.mono (by decide)) pass0 (pa_cons (pv 1) pa_nil)))
      (pss_one (ps_if (pt_not (pt_val (pe_e e_is_possible (hr.mono (by decide)) pass0 (pa_cons (pe_callB call_lenD (by rfl) T.n_len PySem.boot_len (pa_cons (pv 0) pa_nil)) (pa_cons (pv 1) pa_nil))))) (pss_one ps_never) pss_nil)))), ?_⟩
    refine ⟨_, rfl, d, L, D, rfl, hd, okd, fun H1 e1 => ?_⟩
    refine ⟨_, rfl, b, B, rfl, hb.ex e1, okb, fun H2 e2 => ?_⟩
    refine ⟨_, rfl, d, _, rfl, e2 _ _ (e1 _ _ hd), ?_⟩
    refine ⟨_, rfl, _, b, B, rfl, (hb.ex e1).ex e2, okb, fun H3 e3 => ⟨true, ?_, iteF ?_⟩⟩
    · rw [kd_len]; exact bl_t can
    · exact q H3 ((e1.trans e2).trans e3)
/-! ### new_loads -/
def clipI (B : Bn) (f : Str → Int) (r : Str) : Int := max (B.low r) (min (B.high r) (f r))
def nlStep (B : Bn) (many : Int) (ks : List Str) (g : Str → Int) (r : Str) : Str → Int := fun j => if j = r then g r + max (B.low r - g r) (min (B.high r - g r) (many - sumOf ks g)) else g j
def newL (B : Bn) (many : Int) (ks : List Str) (f : Str → Int) : Str → Int := ks.foldl (nlStep B many ks) (clipI B f)
def spNewLoads : Sp := fun vs H Q _ => ∃ (l b : Addr) (many : Int) (ks : List Str) (f : Str → Int) (B : Bn), vs = [.ref l, .ref b, .int many] ∧ IntD H l ks f ∧ ks.Nodup ∧ ks.length < 64 ∧ BndAt H b B ∧ l ≠ b ∧
  ∀ p H', H p = none → Ex H H' → IntD H' p ks (newL B many ks f) → Q (.ref p) H'
theorem sc_new_loads : FnScope ["loads", "bounds", "many", "found", "reader", "low", "high", "lack", "one"] ["loads", "bounds", "many"] (defScope s_new_loads) := ⟨rfl, rfl, rfl, by decide +kernel, rfl, by decide +kernel, by decide +kernel⟩
theorem ok_new_loads (T : Txt K mg) : Ent P w K mg base CX0 2 "new_loads" ["loads", "bounds", "many"] [] spNewLoads := by
  obtain ⟨fd, F⟩ := T.f_new_loads
  have e_bound_of := ok_bound_of (P := P) (w := w) (base := base) T
  refine Ent.mk' T.g_new_loads F (FunD.ok0 F sc_new_loads (fun vs H Q E h => ?_) (fun cdv A outer s H vs Q E hr h => ?_)) (fun _ _ _ _ _ _ us hl => match us, hl with | [_, _, _], _ => rfl)
  · obtain ⟨l, b, many, ks, f, B, rfl, hl, nd, n60, hb, nlb, q⟩ := h
    rfl
  · obtain ⟨l, b, many, ks, f, B, rfl, hl, nd, n60, hb, nlb, q⟩ := h
    refine ⟨_, (pss_cons (ps_set (i := 3) sc_new_loads.nd rfl (Or.inr rfl) pe_dnewK)
      (pss_cons (ps_lock (ps_for PassesOwn.never rfl (pi_keys (pv 0)) (pg_name (i := 4) sc_new_loads.nd rfl (Or.inl rfl)) (pss_cons (ps_asg (pe_e e_bound_of (hr.mono (by decide)) pass0 (pa_cons (pv 1) (pa_cons (pv 4) pa_nil))) (pg_tup rfl (pgs_cons (pg_name (i := 5) sc_new_loads.nd rfl (Or.inl rfl)) (pgs_cons (pg_name (i := 6) sc_new_loads.nd rfl (Or.inl rfl)) pgs_nil))))
      (pss_one (ps_dput (hu_of hr) (pv 3) (pv 4) (pe_callB (call_max2 rfl) (by rfl) T.n_max (by decide +kernel) (pa_cons (pv 5) (pa_cons (pe_callB (call_min2 rfl) (by rfl) T.n_min (by decide +kernel) (pa_cons (pv 6) (pa_cons (pe_dget (hu_of hr) (pv 0) (pv 4) (fun _ _ => rfl)) pa_nil))) pa_nil))) rfl)))))
      (pss_cons (ps_for PassesOwn.never rfl (pi_listK (K := K) rfl (pe_callTy (call_listD rfl) (by rfl) T.n_list (by decide +kernel) (pa_cons (pv 3) pa_nil))) (pg_name (i := 4) sc_new_loads.nd rfl (Or.inl rfl)) (pss_cons (ps_asg (pe_e e_bound_of (hr.mono (by decide)) pass0 (pa_cons (pv 1) (pa_cons (pv 4) pa_nil))) (pg_tup rfl (pgs_cons (pg_name (i := 5) sc_new_loads.nd rfl (Or.inl rfl)) (pgs_cons (pg_name (i := 6) sc_new_loads.nd rfl (Or.inl rfl)) pgs_nil))))
      (pss_cons (ps_set (i := 7) sc_new_loads.nd rfl (Or.inl rfl) (pe_op op_sub (pv 2) (pe_callB (cr_sumK (K := K) rfl rfl) (by rfl) T.n_sum (by decide +kernel) (pa_cons (pe_lock (pe_lc (own := [("one", 8)]) (g := gName 8) (tt := tYes) rfl sc_new_loads.nd (pi_keys (pv 3)) (blkOk_by (N := ["loads", "bounds", "many", "found", "reader", "low", "high", "lack", "one"]) (sc := defScope s_new_loads) (by decide +kernel)) (fun _ _ _ _ _ => (pg_name (i := 8) sc_new_loads.nd rfl (Or.inl rfl))) (fun _ _ _ _ _ => pts_nil) (fun _ _ _ _ _ => (pe_dget (hu_of hr) (pv 3) (pv 8) (fun _ _ => rfl))))) pa_nil))))
      (pss_one (ps_daug (hu_of hr) (pv 3) (pv 4) (pe_callB (call_max2 rfl) (by rfl) T.n_max (by decide +kernel) (pa_cons (pe_op op_sub (pv 5) (pe_dget (hu_of hr) (pv 3) (pv 4) (fun _ _ => rfl))) (pa_cons (pe_callB (call_min2 rfl) (by rfl) T.n_min (by decide +kernel) (pa_cons (pe_op op_sub (pv 6) (pe_dget (hu_of hr) (pv 3) (pv 4) (fun _ _ => rfl))) (pa_cons (pv 7) pa_nil))) pa_nil))) in_add (fun _ _ _ => rfl))))))
      (pss_one (ps_ret (pv 3)))))), ?_⟩
    intro p hp
    have e0 : Ex H (upd H p (.dK [])) := ex_upd (Ex.refl _) hp
    dsimp only [tSeq_ap, tAsg_ap, gName_ap, tC_ap, tNext_ap, tRet_ap, tAndV_ap, tCB_ap, tCons_ap, tNil_ap, tB_ap, tTest_ap, tNot_ap, tOr_ap, tAnd_ap, tIfS_ap, tOp_ap, tDrop_ap]
    have nlp : l ≠ p := (fresh_ne hl hp).symm
    refine ford (e0 _ _ hl) (fun H1 Q' q' => ⟨_, rfl, q'⟩) (fun od i σ' H' => (∃ x1 x2 x3 x4 x5, σ' = [some (V.ref l), some (.ref b), some (.int many), some (.ref p), x1, x2, x3, x4, x5]) ∧ Ex (upd H l (.frz od (.dK (kd ks fun k => .int (f k))))) H' ∧ IntD H' p (ks.take i) (clipI B f))
      (fun od => ⟨⟨_, _, _, _, _, rfl⟩, ex_lock hl e0, (upd_ne nlp.symm).trans upd_same⟩) (fun od i σ' H' pv => pv.2.1 _ _ upd_same) (fun od i z σ' H' hz pv => ?_) fun od σ' H' pv => ?_
    · obtain ⟨⟨x1, x2, x3, x4, x5, rfl⟩, e, hI⟩ := pv
      have hll := e _ _ upd_same
      have hm := mem_of_at hz
      refine ⟨_, rfl, _, rfl, b, z, B, rfl, (hb.lock hl nlb).ex e, fun pt H2 e2 hpt => ?_⟩
      refine ⟨pt, _, rfl, sqt hpt, rfl, _, _, rfl, _, _, rfl, rfl, ?_⟩
      refine ⟨_, rfl, _, rfl, _, rfl, _, rfl, l, _, rfl, gk (.inr ⟨od, e2 _ _ hll⟩) hm, _, _, rfl, _, _, rfl, _, rfl, _, rfl, p, _, rfl, pn (e2 _ _ hI) (not_mem_take nd hz) (by rw [List.length_take]; omega), ⟨_, _, _, _, _, rfl⟩, ex_upd (e.trans e2) ((upd_ne nlp.symm).trans hp), ?_⟩
      refine upd_same.trans (congrArg some (congrArg HO.dK ?_))
      rw [take_succ_at hz]
      refine kd_congr fun k _ => ?_
      by_cases ek : k = z
      · subst ek
        rw [if_pos rfl]
        exact congrArg V.int (by unfold clipI; omega)
      · rw [if_neg ek]
    · obtain ⟨⟨x1, x2, x3, x4, x5, rfl⟩, e, hI⟩ := pv
      rw [List.take_of_length_le (Nat.le_refl _)] at hI
      have e1 : Ex H (upd H' l (.dK (kd ks fun k => .int (f k)))) := ex_unlock hl e
      generalize hG : upd H' l (.dK (kd ks fun k => .int (f k))) = G at e1
      have hIG : IntD G p ks (clipI B f) := by rw [← hG]; exact (upd_ne nlp.symm).trans hI
      clear hG hI e
      dsimp only [tSeq_ap, tAsg_ap, gName_ap, tC_ap, tNext_ap, tRet_ap, tAndV_ap, tCB_ap, tCons_ap, tNil_ap, tB_ap, tTest_ap, tNot_ap, tOr_ap, tAnd_ap, tIfS_ap, tOp_ap, tDrop_ap]
      refine ⟨_, rfl, p, _, rfl, .inl hIG, fun q1 hq1 => ?_⟩
      have nq : p ≠ q1 := (fresh_ne hIG hq1).symm
      have hq0 : H q1 = none := no_of e1 hq1
      have kl : ((kd ks fun k => V.int (clipI B f k)).map fun kv => kV kv.1) = ks.map V.str := by
        unfold kd
        rw [List.map_map]
        rfl
      rw [kl]
      refine forl (td := tC (.ref q1)) (sql (upd_same (H := G) (a := q1))) (fun H1 Q' q' => q') (fun i σ' H' => (∃ x1 x2 x3 x4 x5, σ' = [some (V.ref l), some (.ref b), some (.int many), some (.ref p), x1, x2, x3, x4, x5]) ∧ Ex H H' ∧ H' q1 = some (.lst (ks.map V.str)) ∧ IntD H' p ks ((ks.take i).foldl (nlStep B many ks) (clipI B f)))
        ⟨⟨_, _, _, _, _, rfl⟩, ex_upd e1 hq0, upd_same, (upd_ne nq).trans hIG⟩ (fun i σ' H' pv => sql pv.2.2.1) (fun i x σ' H' hx pv => ?_) fun σ' H' pv => ?_
      · obtain ⟨⟨x1, x2, x3, x4, x5, rfl⟩, e, hq1', hI⟩ := pv
        rw [List.getElem?_map] at hx
        cases hz : ks[i]? with
        | none => rw [hz] at hx; cases hx
        | some z =>
        rw [hz] at hx
        cases hx
        have hm := mem_of_at hz
        refine ⟨_, rfl, _, rfl, b, z, B, rfl, hb.ex e, fun pt H2 e2 hpt => ?_⟩
        refine ⟨pt, _, rfl, sqt hpt, rfl, _, _, rfl, _, _, rfl, rfl, ?_⟩
        refine ⟨_, rfl, ?_⟩
        dsimp only [tSeq_ap, tAsg_ap, gName_ap, tC_ap, tNext_ap, tRet_ap, tAndV_ap, tCB_ap, tCons_ap, tNil_ap, tB_ap, tTest_ap, tNot_ap, tOr_ap, tAnd_ap, tIfS_ap, tOp_ap, tDrop_ap]
        have hI2 := e2 _ _ hI
        refine lcd hI2 (by omega) (fun H1 Q' q' => ⟨_, rfl, q'⟩) (fun _ => true) (fun z => .int ((ks.take i).foldl (nlStep B many ks) (clipI B f) z)) (fun y hy H3 e3 rd3 Qy Qn h1 h2 => ⟨rfl, tyes ⟨_, rfl, _, rfl, p, _, rfl, gk rd3 hy, h1 rfl _ (Ex.refl _)⟩⟩) fun q2 H3 hq2 e3 h3 => ?_
        refine ⟨q2, ks.map ((ks.take i).foldl (nlStep B many ks) (clipI B f)), rfl, sql (by rw [h3, List.map_map, List.filter_eq_self.mpr fun _ _ => rfl]; rfl), _, _, rfl, rfl, ?_⟩
        have hI3 := e3 _ _ hI2
        refine ⟨_, rfl, _, rfl, p, _, rfl, gk (.inl hI3) hm, ?_⟩
        refine ⟨_, rfl, _, rfl, _, rfl, p, _, rfl, gk (.inl hI3) hm, _, _, rfl, rfl, ?_⟩
        refine ⟨_, rfl, _, rfl, _, rfl, p, _, rfl, gk (.inl hI3) hm, _, _, rfl, rfl, _, rfl, _, _, rfl, _, _, rfl, _, _, rfl, rfl, _, pm hI3 hm (by omega), ⟨_, _, _, _, _, rfl⟩, ex_upd ((e.trans e2).trans e3) hp, ?_, ?_⟩
        · exact (upd_ne (fun h => nq h.symm)).trans (e3 _ _ (e2 _ _ hq1'))
        · refine upd_same.trans (congrArg some (congrArg HO.dK (kd_congr fun k _ => ?_)))
          rw [take_succ_at hz, List.foldl_append]
          show _ = V.int (nlStep B many ks _ z k)
          unfold nlStep
          by_cases ek : k = z
          · rw [if_pos ek, if_pos ek]
            exact congrArg V.int (by dsimp only [sumOf]; omega)
          · rw [if_neg ek, if_neg ek]
      · obtain ⟨⟨x1, x2, x3, x4, x5, rfl⟩, e, hq1', hI⟩ := pv
        rw [List.length_map, List.take_of_length_le (Nat.le_refl _)] at hI
        exact ⟨_, rfl, q p _ hp e hI⟩
/-! ### moves_between -/
def spMovesBetween : Sp := fun vs H Q _ => ∃ (d l g : Addr) (L : List Str) (D : Str → Str) (ks gs : List Str) (goals : Str → Int), vs = [.ref d, .ref l, .ref g] ∧ DlAt H d L D ∧ DlOk L D ∧ IntD H l ks (cntI D L) ∧ IntD H g gs goals ∧ (∀ r ∈ ks, r ∈ gs) ∧ l ≠ g ∧ ks.Nodup ∧ ks.length < 64 ∧
  (∀ r ∈ ks, isW r = true) ∧ (∀ l ∈ L, D l ∈ ks) ∧ sumOf ks (cntI D L) = sumOf ks goals ∧ (∀ r ∈ ks, 0 ≤ goals r) ∧
  ∀ p H' ms, H p = none → Ex H H' → MvAt H' p ms → Mvs L D ks (cntI D L) goals ms → Q (.ref p) H'
theorem sc_moves_between : FnScope ["deal", "loads", "goals", "rest", "reader", "places", "turn", "found", "lane"] ["deal", "loads", "goals"] (defScope s_moves_between) := ⟨rfl, rfl, rfl, by decide +kernel, rfl, by decide +kernel, by decide +kernel⟩
theorem ok_moves_between (T : Txt K mg) : Ent P w K mg base CX0 1 "moves_between" ["deal", "loads", "goals"] [] spMovesBetween := by
  obtain ⟨fd, F⟩ := T.f_moves_between
  refine Ent.mk' T.g_moves_between F (FunD.ok0 F sc_moves_between (fun vs H Q E h => ?_) (fun cdv A outer s H vs Q E hr h => ?_)) (fun _ _ _ _ _ _ us hl => match us, hl with | [_, _, _], _ => rfl)
  · obtain ⟨d, l, g, L, D, ks, gs, goals, rfl, hd, ok, hl, hg, hkg, nlg, nd, n64, hw, hD, hs, h0, q⟩ := h
    rfl
  · obtain ⟨d, l, g, L, D, ks, gs, goals, rfl, hd, ok, hl, hg, hkg, nlg, nd, n64, hw, hD, hs, h0, q⟩ := h
    refine ⟨_, (pss_cons (ps_set (i := 3) sc_moves_between.nd rfl (Or.inr rfl) (pe_lock (pe_dc (own := [("reader", 4)]) (g := gName 4) (tt := tYes) rfl sc_moves_between.nd (pi_keys (pv 1)) (blkOk_by (N := ["deal", "loads", "goals", "rest", "reader", "places", "turn", "found", "lane"]) (sc := defScope s_moves_between) (by decide +kernel)) (fun _ _ _ _ _ => (pg_name (i := 4) sc_moves_between.nd rfl (Or.inl rfl))) (fun _ _ _ _ _ => pts_nil) (fun _ _ _ _ _ => (pv 4)) (fun _ _ _ _ _ => (pe_op op_sub (pe_dget (hu_of hr) (pv 1) (pv 4) (fun _ _ => rfl)) (pe_dget (hu_of hr) (pv 2) (pv 4) (fun _ _ => rfl)))))))
      (pss_cons (ps_setLc2 (i := 5) (own := [("reader", 4), ("turn", 6)]) (vs1 := [6]) (g := gName 4) (tt := tYes) (g1 := gName 6) (tt1 := tYes) rfl sc_moves_between.nd rfl rfl (sw_true rfl rfl rfl (by decide +kernel)) (pi_listK (K := K) rfl (pe_callB (call_sortedD rfl) (by rfl) T.n_sorted (by decide +kernel) (pa_cons (pv 3) pa_nil))) (blkOk_by (N := ["deal", "loads", "goals", "rest", "reader", "places", "turn", "found", "lane"]) (sc := defScope s_moves_between) (by decide +kernel)) (by decide) (fun _ _ _ _ _ => (pg_name (i := 4) sc_moves_between.nd rfl (Or.inl rfl))) (fun _ _ _ _ _ => pts_nil) (fun _ _ _ _ _ => (pi_range1 rfl T.n_range (pa_cons (pe_callB (call_max2 rfl) (by rfl) T.n_max (by decide +kernel) (pa_cons pe_int (pa_cons (pe_un un_neg (pe_dget (hu_of hr) (pv 3) (pv 4) (fun _ _ => rfl))) pa_nil))) pa_nil))) (fun _ _ _ _ _ => (pg_name (i := 6) sc_moves_between.nd rfl (Or.inl rfl))) (fun _ _ _ _ _ => pts_nil) (fun _ _ _ _ _ => (pv 4)))
      (pss_cons (ps_set (i := 7) sc_moves_between.nd rfl (Or.inl rfl) (pe_lst pa_nil))
      (pss_cons (ps_for PassesOwn.never rfl (pi_listK (K := K) rfl (pe_callB (call_sortedD rfl) (by rfl) T.n_sorted (by decide +kernel) (pa_cons (pv 0) pa_nil))) (pg_name (i := 8) sc_moves_between.nd rfl (Or.inl rfl)) (pss_one (ps_if (pt_cmpR op_gt (pe_dget (hu_of hr) (pv 3) (pe_dget (hu_of hr) (pv 0) (pv 8) (fun _ _ => rfl)) (fun _ _ => rfl)) pe_int (nomark _)) (pss_cons (ps_daug (hu_of hr) (pv 3) (pe_dget (hu_of hr) (pv 0) (pv 8) (fun _ _ => rfl)) pe_int in_sub (fun _ _ _ => rfl))
      (pss_one (ps_expr (pe_bm PySem.F.plainAttrs_list PySem.F.slot_list_append PySem.F.type_list_append mt_append (pv 7) (pa_cons (pe_tup (pa_cons (pv 8) (pa_cons (pe_dget (hu_of hr) (pv 0) (pv 8) (fun _ _ => rfl)) (pa_cons (pe_ix (ix_listK (K := K) rfl) (pv 5) (pe_callB (call_lenK (K := K) rfl) (by rfl) T.n_len PySem.boot_len (pa_cons (pv 7) pa_nil)) (fun _ _ => rfl)) pa_nil)))) pa_nil))))) pss_nil)))
      (pss_one (ps_ret (pv 7))))))), ?_⟩
    have n60 := ok.n
    refine dcd hl nd (by omega) (fun H1 Q' q' => ⟨_, rfl, q'⟩) (fun r => .int (cntI D L r - goals r)) (fun z hz H1 e rd Q' q' => ⟨rfl, ⟨_, rfl, ?_⟩⟩) fun p H2 hp e2 h2 => ?_
    · have hg1 : Rd H1 g (.dK (kd gs fun k => .int (goals k))) := by
        exact .inl (e _ _ nlg.symm hg)
      exact ⟨_, rfl, _, rfl, l, _, rfl, gk rd hz, _, rfl, _, rfl, g, _, rfl, gk hg1 (hkg z hz), _, _, rfl, rfl, q' _ (Ex.refl _)⟩
    have f0 : ∀ r, 0 ≤ cntI D L r := fun r => cnt1_nonneg _ _
    have sf : sumOf ks (cntI D L) = L.length := sum_cntI D L nd hD
    have gb : ∀ r ∈ ks, goals r ≤ 60 := fun r hr => by have := sumOf_mem_le h0 hr; omega
    have lp2 : sumOf ks (fun r => max 0 (cntI D L r - goals r)) ≤ sumOf ks (cntI D L) := sumOf_le fun r hr => by have := h0 r hr; have := f0 r; omega
    have lp0 : ∀ zs : List Str, zs.Perm ks → ((zs.flatMap fun z => List.replicate (max 0 (goals z - cntI D L z)).toNat z).length : Int) = sumOf ks (fun r => max 0 (cntI D L r - goals r)) := fun zs hz1 => by
      rw [len_flat, sumOf_perm hz1, sum_max hs]
      exact sumOf_congr fun r _ => by omega
    dsimp only [tSeq_ap, tAsg_ap, gName_ap, tC_ap, tNext_ap, tRet_ap, tAndV_ap, tCB_ap, tCons_ap, tNil_ap, tB_ap, tTest_ap, tNot_ap, tOr_ap, tAnd_ap, tIfS_ap, tOp_ap, tDrop_ap]
    refine lc2p (fun zs => zs.Perm ks) (fun Q' q' => ⟨_, rfl, p, _, _, rfl, .inl h2, kd_fst _ _, n64, fun zs q1 hz1 hz2 hq1 => q' q1 zs _ (Ex.new hq1) (sql upd_same) hz1⟩) (fun z => (max 0 (goals z - cntI D L z)).toNat) (fun zs hz1 => by have := lp0 zs hz1; omega) (fun z => rfl) (fun z k => rfl)
      (fun zs hz1 z hz H1 e1 R hR => ?_) (fun zs hz1 z hz k H1 e1 Q' q' => ⟨_, rfl, q'⟩) fun q3 H3 zs hz1 hq3 e3' h3 => ?_
    · have hi := e1 _ _ h2
      have hzk := hz1.mem_iff.mp hz
      have b1 := gb z hzk
      have b2 := h0 z hzk
      have b3 := f0 z
      have b4 : cntI D L z ≤ 60 := by have := sumOf_mem_le (fun r _ => f0 r) hzk; omega
      refine ⟨_, rfl, _, rfl, p, _, rfl, gk (.inl hi) hzk, _, rfl, _, _, rfl, _, rfl, by omega, by omega, ?_⟩
      rw [show (if -(cntI D L z - goals z) > 0 then -(cntI D L z - goals z) else 0) = max 0 (goals z - cntI D L z) by omega]
      exact hR
    have lp := lp0 zs hz1
    generalize hpl : (zs.flatMap fun z => List.replicate (max 0 (goals z - cntI D L z)).toNat z) = places at h3 lp
    refine ⟨Nat.zero_le _, fun pf hpf => ?_⟩
    dsimp only [tSeq_ap, tAsg_ap, gName_ap, tC_ap, tNext_ap, tRet_ap, tAndV_ap, tCB_ap, tCons_ap, tNil_ap, tB_ap, tTest_ap, tNot_ap, tOr_ap, tAnd_ap, tIfS_ap, tOp_ap, tDrop_ap]
    have e4 : Ex H3 (upd H3 pf (.lst [])) := Ex.new hpf
    have e5 : Ex H (upd H3 pf (.lst [])) := (e2.trans e3').trans e4
    refine ⟨_, rfl, d, _, L, rfl, .inl (e5 _ _ hd), kd_fst _ _, by omega, fun ys q2 hy1 hy2 hq2 => ?_⟩
    have e6 : Ex (upd H3 pf (.lst [])) (upd (upd H3 pf (.lst [])) q2 (.lst (ys.map V.str))) := Ex.new hq2
    have npf : H pf = none := no_of (e2.trans e3') hpf
    have nq3 : pf ≠ q3 := fresh_ne h3 hpf
    have nq2 : q2 ≠ pf := fresh_ne upd_same hq2
    have hp3 : IntD H3 p ks fun r => cntI D L r - goals r := e3' _ _ h2
    refine forl (td := tC (.ref q2)) (sql (upd_same (H := upd H3 pf (.lst [])) (a := q2))) (fun H1 Q' q' => q') (fun i σ' H' => (∃ x4 x6 x8, σ' = [some (V.ref d), some (.ref l), some (.ref g), some (.ref p), x4, some (.ref q3), x6, some (.ref pf), x8]) ∧ Ex H H' ∧ H' q3 = some (.lst (places.map V.str)) ∧ H' q2 = some (.lst (ys.map V.str)) ∧
        ∃ ms, MvAt H' pf ms ∧ MI D (cntI D L) goals places (ys.take i) ms ∧ IntD H' p ks (fun r => cntI D L r - goals r - cnt1 ms (fun m => decide (m.2.1 = r))))
      ⟨⟨_, _, _, rfl⟩, e5.trans e6, e6 _ _ (e4 _ _ h3), upd_same, [], ⟨[], e6 _ _ upd_same, .nil⟩, MI.nil, ?_⟩ (fun i σ' H' pv => sql pv.2.2.2.1) (fun i x σ' H' hx pv => ?_) fun σ' H' pv => ?_
    · refine (e6 _ _ (e4 _ _ hp3)).trans (congrArg some (congrArg HO.dK (kd_congr fun k _ => congrArg V.int ?_)))
      show cntI D L k - goals k = cntI D L k - goals k - (0 : Int)
      omega
    · obtain ⟨⟨x4, x6, x8, rfl⟩, e, hq3', hq2', ms, hms, mi, hI⟩ := pv
      rw [List.getElem?_map] at hx
      cases hz : ys[i]? with
      | none => rw [hz] at hx; cases hx
      | some z =>
      rw [hz] at hx
      cases hx
      have hm : z ∈ L := hy1.mem_iff.mp (mem_of_at hz)
      have hd' := e _ _ hd
      have ndp : p ≠ d := fresh_ne hd hp
      refine ⟨_, rfl, _, rfl, _, rfl, d, _, rfl, gk (.inl hd') hm, p, _, rfl, gk (.inl hI) (hD z hm), ?_⟩
      refine ⟨_, _, rfl, rfl, ?_⟩
      by_cases hpos : 0 < cntI D L (D z) - goals (D z) - cnt1 ms (fun m => decide (m.2.1 = D z))
      · refine ⟨true, bl_t hpos, iteT ?_⟩
        have hk2 : ∀ m ∈ ms, m.2.1 ∈ ks := fun m hm' => by
          rw [(mi.fr m hm').1]
          exact hD _ (hy1.mem_iff.mp (List.mem_of_mem_take (mi.sub.subset (List.mem_map.mpr ⟨m, hm', rfl⟩))))
        have room := mi.room nd hk2 lp (hD z hm) hpos
        have hqq : places[ms.length]? = some places[ms.length] := List.getElem?_eq_getElem room
        refine ⟨_, rfl, _, rfl, _, rfl, d, _, rfl, gk (.inl hd') hm, p, _, rfl, gk (.inl hI) (hD z hm), _, _, rfl, rfl, _, pm hI (hD z hm) (by omega), ?_⟩
        have hms1 := hms.updK (o := .dK (kd ks fun j => if j = D z then V.int (cntI D L (D z) - goals (D z) - cnt1 ms (fun m => decide (m.2.1 = D z)) - 1) else V.int (cntI D L j - goals j - cnt1 ms (fun m => decide (m.2.1 = j))))) hI
        obtain ⟨ts, ht1, ht2⟩ := hms1
        have npq3 : q3 ≠ p := ne_ld hq3' hI
        have npq2 : q2 ≠ p := ne_ld hq2' hI
        have hlen : ts.length = ms.length := Paired.length ht2
        have hq3a := (upd_ne npq3 (H := H') (o := .dK (kd ks fun j => if j = D z then V.int (cntI D L (D z) - goals (D z) - cnt1 ms (fun m => decide (m.2.1 = D z)) - 1) else V.int (cntI D L j - goals j - cnt1 ms (fun m => decide (m.2.1 = j)))))).trans hq3'
        refine ⟨_, rfl, .inl ⟨rfl, _, sql ht1⟩, _, rfl, _, rfl, _, rfl, d, _, rfl, gk (.inl ((upd_ne ndp.symm).trans hd')) hm, ?_⟩
        refine ⟨_, rfl, _, rfl, _, _, rfl, lenL (sql ht1), q3, _, _, .str places[ms.length], rfl, rfl, sql hq3a, ?_, ?_⟩
        · rw [List.length_map, hlen]
          exact atI_nat (by rw [List.getElem?_map, hqq]; rfl)
        refine ⟨show 3 ≤ sizeLine by rw [sizeLine_eq]; omega, fun t ht => ?_⟩
        have npt := fresh_ne ht1 ht
        refine ⟨pf, _, _, rfl, rfl, (upd_ne npt.symm).trans ht1, by rw [List.length_map, hlen]; exact sz_lt (by omega), ?_⟩
        have n1 : q3 ≠ t := (fresh_ne hq3a ht).symm
        have hpa := (upd_same (H := H') (a := p) (o := .dK (kd ks fun j => if j = D z then V.int (cntI D L (D z) - goals (D z) - cnt1 ms (fun m => decide (m.2.1 = D z)) - 1) else V.int (cntI D L j - goals j - cnt1 ms (fun m => decide (m.2.1 = j))))))
        have n3 : q2 ≠ t := (fresh_ne ((upd_ne npq2).trans hq2') ht).symm
        have n4 : p ≠ t := (fresh_ne hpa ht).symm
        have n5 : p ≠ pf := (ne_ld ht1 hpa).symm
        have ht0 : H t = none := no_of (ex_upd e hp) ht
        refine ⟨⟨_, _, _, rfl⟩, ?_, ?_, ?_, ms ++ [(z, D z, places[ms.length])], ⟨ts ++ [t], ?_, ?_⟩, ?_, ?_⟩
        · exact ex_upd (ex_upd (ex_upd e hp) ht0) npf
        · exact (upd_ne nq3.symm).trans ((upd_ne n1).trans hq3a)
        · exact (upd_ne nq2).trans ((upd_ne n3).trans ((upd_ne npq2).trans hq2'))
        · rw [List.map_append]; exact upd_same
        · exact paired_snoc (Paired.mapP ht2 fun a b r => (upd_ne (ne_tl r ht1)).trans ((upd_ne (fresh_ne r ht).symm).trans r)) ((upd_ne npt).trans upd_same)
        · rw [take_succ_at hz]; exact mi.move z hpos hqq
        · refine (upd_ne n5).trans ((upd_ne n4).trans (hpa.trans (congrArg some (congrArg HO.dK (kd_congr fun k _ => ?_)))))
          dsimp only
          rw [cnt1_snoc]
          by_cases ek : k = D z
          · rw [if_pos ek, if_pos (decide_eq_true ek.symm), ek]
            exact congrArg V.int (by omega)
          · rw [if_neg ek, if_neg (by simpa using fun h => ek h.symm)]
            exact congrArg V.int (by omega)
      · refine ⟨false, bl_f hpos, iteF ?_⟩
        refine ⟨⟨_, _, _, rfl⟩, e, hq3', hq2', ms, hms, ?_, hI⟩
        rw [take_succ_at hz]
        exact mi.skip z hpos
    · obtain ⟨⟨x4, x6, x8, rfl⟩, e, hq3', hq2', ms, hms, mi, hI⟩ := pv
      rw [List.length_map, List.take_of_length_le (Nat.le_refl _)] at mi
      rw [← hpl] at mi
      exact ⟨_, rfl, q pf _ ms npf e hms (mi.done ok hy1 hz1 nd hD hw (fun _ => rfl) hs h0)⟩
end
end K55


set_option Elab.async false
set_option linter.all false
set_option maxRecDepth 100000
set_option maxHeartbeats 4000000
namespace K55
open PySem PySem.Spec PyProof.Rows L2 Evl
theorem sumOf_put {ks : List Str} (nd : ks.Nodup) {z : Str} (hz : z ∈ ks) (g : Str → Int) (v : Int) : sumOf ks (fun j => if j = z then v else g j) = sumOf ks g + (v - g z) := by
  have e : sumOf ks (fun j => if j = z then v else g j) = sumOf ks (fun j => g j + if z = j then v - g z else 0) := sumOf_congr fun j _ => by
    by_cases h : j = z
    · rw [if_pos h, if_pos h.symm, h]; omega
    · rw [if_neg h, if_neg (fun q => h q.symm)]; omega
  rw [e, sumOf_add, sumOf_one nd hz]
section
variable {B : Bn} {many : Int} {ks : List Str}
theorem fold_up (nd : ks.Nodup) : ∀ (zs : List Str), (∀ z ∈ zs, z ∈ ks) → ∀ g : Str → Int, (∀ r ∈ ks, B.low r ≤ g r ∧ g r ≤ B.high r) → sumOf ks g ≤ many →
    (∀ r ∈ ks, B.low r ≤ zs.foldl (nlStep B many ks) g r ∧ zs.foldl (nlStep B many ks) g r ≤ B.high r) ∧ (∀ r, g r ≤ zs.foldl (nlStep B many ks) g r) ∧ sumOf ks (zs.foldl (nlStep B many ks) g) ≤ many ∧ (sumOf ks (zs.foldl (nlStep B many ks) g) = many ∨ ∀ z ∈ zs, zs.foldl (nlStep B many ks) g z = B.high z)
  | [], _, g, hg, hs => ⟨hg, fun _ => Int.le_refl _, hs, .inr fun z h => by cases h⟩
  | z :: zs, sub, g, hg, hs => by
    have hz := sub z List.mem_cons_self
    have hzb := hg z hz
    have s1 : sumOf ks (nlStep B many ks g z) = sumOf ks g + (g z + max (B.low z - g z) (min (B.high z - g z) (many - sumOf ks g)) - g z) := sumOf_put nd hz g _
    have up : ∀ r, g r ≤ nlStep B many ks g z r := fun r => by
      unfold nlStep
      by_cases h : r = z
      · rw [if_pos h, h]; omega
      · rw [if_neg h]; omega
    have b1 : ∀ r ∈ ks, B.low r ≤ nlStep B many ks g z r ∧ nlStep B many ks g z r ≤ B.high r := fun r hr => by
      unfold nlStep
      by_cases h : r = z
      · rw [if_pos h, h]; omega
      · rw [if_neg h]; exact hg r hr
    have hzv : nlStep B many ks g z z = g z + max (B.low z - g z) (min (B.high z - g z) (many - sumOf ks g)) := if_pos rfl
    obtain ⟨i1, i2, i3, i4⟩ := fold_up nd zs (fun y hy => sub y (List.mem_cons_of_mem _ hy)) (nlStep B many ks g z) b1 (by omega)
    refine ⟨i1, fun r => Int.le_trans (up r) (i2 r), i3, ?_⟩
    have mono : sumOf ks (nlStep B many ks g z) ≤ sumOf ks (zs.foldl (nlStep B many ks) (nlStep B many ks g z)) := sumOf_le fun r _ => i2 r
    rcases i4 with i4 | i4
    · exact .inl i4
    · by_cases hh : sumOf ks (nlStep B many ks g z) = many
      · exact .inl (by show sumOf ks (zs.foldl (nlStep B many ks) (nlStep B many ks g z)) = many; omega)
      · refine .inr fun y hy => ?_
        rcases List.mem_cons.mp hy with rfl | hy
        · have u := i2 y
          have v := (i1 y hz).2
          show zs.foldl (nlStep B many ks) (nlStep B many ks g y) y = B.high y
          omega
        · exact i4 y hy
theorem fold_down (nd : ks.Nodup) : ∀ (zs : List Str), (∀ z ∈ zs, z ∈ ks) → ∀ g : Str → Int, (∀ r ∈ ks, B.low r ≤ g r ∧ g r ≤ B.high r) → many ≤ sumOf ks g →
    (∀ r ∈ ks, B.low r ≤ zs.foldl (nlStep B many ks) g r ∧ zs.foldl (nlStep B many ks) g r ≤ B.high r) ∧ (∀ r ∈ ks, zs.foldl (nlStep B many ks) g r ≤ g r) ∧ many ≤ sumOf ks (zs.foldl (nlStep B many ks) g) ∧ (sumOf ks (zs.foldl (nlStep B many ks) g) = many ∨ ∀ z ∈ zs, zs.foldl (nlStep B many ks) g z = B.low z)
  | [], _, g, hg, hs => ⟨hg, fun _ _ => Int.le_refl _, hs, .inr fun z h => by cases h⟩
  | z :: zs, sub, g, hg, hs => by
    have hz := sub z List.mem_cons_self
    have hzb := hg z hz
    have s1 : sumOf ks (nlStep B many ks g z) = sumOf ks g + (g z + max (B.low z - g z) (min (B.high z - g z) (many - sumOf ks g)) - g z) := sumOf_put nd hz g _
    have up : ∀ r ∈ ks, nlStep B many ks g z r ≤ g r := fun r _ => by
      unfold nlStep
      by_cases h : r = z
      · rw [if_pos h, h]; omega
      · rw [if_neg h]; omega
    have b1 : ∀ r ∈ ks, B.low r ≤ nlStep B many ks g z r ∧ nlStep B many ks g z r ≤ B.high r := fun r hr => by
      unfold nlStep
      by_cases h : r = z
      · rw [if_pos h, h]; omega
      · rw [if_neg h]; exact hg r hr
    have hzv : nlStep B many ks g z z = g z + max (B.low z - g z) (min (B.high z - g z) (many - sumOf ks g)) := if_pos rfl
    obtain ⟨i1, i2, i3, i4⟩ := fold_down nd zs (fun y hy => sub y (List.mem_cons_of_mem _ hy)) (nlStep B many ks g z) b1 (by omega)
    refine ⟨i1, fun r hr => Int.le_trans (i2 r hr) (up r hr), i3, ?_⟩
    have mono : sumOf ks (zs.foldl (nlStep B many ks) (nlStep B many ks g z)) ≤ sumOf ks (nlStep B many ks g z) := sumOf_le fun r hr => i2 r hr
    rcases i4 with i4 | i4
    · exact .inl i4
    · by_cases hh : sumOf ks (nlStep B many ks g z) = many
      · exact .inl (by show sumOf ks (zs.foldl (nlStep B many ks) (nlStep B many ks g z)) = many; omega)
      · refine .inr fun y hy => ?_
        rcases List.mem_cons.mp hy with rfl | hy
        · have u := i2 y hz
          have v := (i1 y hz).1
          show zs.foldl (nlStep B many ks) (nlStep B many ks g y) y = B.low y
          omega
        · exact i4 y hy
/-- the new loads: within the bounds, all lanes, and as near as can be -/
structure NL (B : Bn) (many : Int) (ks : List Str) (f h : Str → Int) : Prop where
  b : ∀ r ∈ ks, B.low r ≤ h r ∧ h r ≤ B.high r
  s : sumOf ks h = many
  n : sumOf ks (fun r => max 0 (f r - h r)) = max (sumOf ks fun r => max 0 (f r - B.high r)) (sumOf ks fun r => max 0 (B.low r - f r))
theorem newL_ok (nd : ks.Nodup) (lh : ∀ r ∈ ks, B.low r ≤ B.high r) (f : Str → Int) (hf : sumOf ks f = many) (h1 : sumOf ks B.low ≤ many) (h2 : many ≤ sumOf ks B.high) : NL B many ks f (newL B many ks f) := by
  have c0 : ∀ r ∈ ks, B.low r ≤ clipI B f r ∧ clipI B f r ≤ B.high r := fun r hr => by
    have := lh r hr
    unfold clipI
    omega
  have dt : sumOf ks (fun r => max 0 (f r - B.high r) - max 0 (B.low r - f r)) = sumOf ks (fun r => f r - clipI B f r) := sumOf_congr fun r hr => by
    have := lh r hr
    unfold clipI
    omega
  rw [sumOf_sub, sumOf_sub] at dt
  rcases Int.le_total (sumOf ks (clipI B f)) many with q | q
  · obtain ⟨i1, i2, i3, i4⟩ := fold_up (B := B) (many := many) nd ks (fun _ h => h) (clipI B f) c0 q
    have hs : sumOf ks (newL B many ks f) = many := by
      rcases i4 with i4 | i4
      · exact i4
      · have : sumOf ks (newL B many ks f) = sumOf ks B.high := sumOf_congr i4
        have i3 : sumOf ks (newL B many ks f) ≤ many := i3
        omega
    refine ⟨i1, hs, ?_⟩
    have e : sumOf ks (fun r => max 0 (f r - newL B many ks f r)) = sumOf ks (fun r => max 0 (f r - B.high r)) := sumOf_congr fun r hr => by
      have a1 := i2 r
      have a2 := (i1 r hr).2
      have a3 := lh r hr
      show max 0 (f r - (ks.foldl (nlStep B many ks) (clipI B f)) r) = _
      unfold clipI at a1 a2 ⊢
      omega
    rw [e]
    omega
  · obtain ⟨i1, i2, i3, i4⟩ := fold_down (B := B) (many := many) nd ks (fun _ h => h) (clipI B f) c0 q
    have hs : sumOf ks (newL B many ks f) = many := by
      rcases i4 with i4 | i4
      · exact i4
      · have : sumOf ks (newL B many ks f) = sumOf ks B.low := sumOf_congr i4
        have i3 : many ≤ sumOf ks (newL B many ks f) := i3
        omega
    refine ⟨i1, hs, ?_⟩
    have e : sumOf ks (fun r => max 0 (newL B many ks f r - f r)) = sumOf ks (fun r => max 0 (B.low r - f r)) := sumOf_congr fun r hr => by
      have a1 := i2 r hr
      have a2 := (i1 r hr).1
      have a3 := lh r hr
      show max 0 ((ks.foldl (nlStep B many ks) (clipI B f)) r - f r) = _
      unfold clipI at a1 a2 ⊢
      omega
    rw [sum_max (hf.trans hs.symm), e]
    omega
end
/-- sums over the readers of bounds, and over all -/
theorem sumOf_sub_list {rs ks : List Str} (nr : rs.Nodup) (nk : ks.Nodup) (sub : ∀ r ∈ rs, r ∈ ks) (f : Str → Int) : sumOf ks (fun r => if r ∈ rs then f r else 0) = sumOf rs f := by
  induction rs with
  | nil => exact sumOf_zero ks
  | cons x rs ih =>
    obtain ⟨n1, n2⟩ := List.nodup_cons.mp nr
    have e : ∀ r ∈ ks, (if r ∈ x :: rs then f r else 0) = (if r ∈ rs then f r else 0) + if x = r then f x else 0 := fun r _ => by
      by_cases h : x = r
      · subst h
        rw [if_pos List.mem_cons_self, if_neg n1, if_pos rfl]; omega
      · rw [if_neg h]
        by_cases m : r ∈ rs
        · rw [if_pos m, if_pos (List.mem_cons_of_mem _ m)]; omega
        · rw [if_neg m, if_neg (fun q => (List.mem_cons.mp q).elim (fun e => h e.symm) m)]; omega
    rw [sumOf_congr e, sumOf_add, ih n2 (fun r hr => sub r (List.mem_cons_of_mem _ hr)), sumOf_one nk (sub x List.mem_cons_self), sumOf_cons]
    omega
theorem Bn.Ok.lh' {B : Bn} (ok : B.Ok) (r : Str) : B.low r ≤ B.high r := by
  unfold Bn.low Bn.high
  by_cases h : r ∈ B.rs
  · rw [if_pos h, if_pos h]; exact ok.lh r h
  · rw [if_neg h, if_neg h]; exact Int.le_refl _
theorem Bn.Ok.l0' {B : Bn} (ok : B.Ok) (r : Str) : 0 ≤ B.low r := by
  unfold Bn.low
  by_cases h : r ∈ B.rs
  · rw [if_pos h]; exact ok.l0 r h
  · rw [if_neg h]; exact Int.le_refl _
theorem Bn.Ok.sums {B : Bn} (ok : B.Ok) {ks : List Str} (nk : ks.Nodup) (sub : ∀ r ∈ B.rs, r ∈ ks) : sumOf ks B.low = sumOf B.rs B.lo ∧ sumOf ks B.high = sumOf B.rs B.hi := ⟨sumOf_sub_list ok.nd nk sub B.lo, sumOf_sub_list ok.nd nk sub B.hi⟩
end K55

set_option Elab.async false
set_option linter.all false
set_option maxRecDepth 100000
set_option maxHeartbeats 4000000
namespace K55
open PySem PySem.Spec PyProof.Rows L2 Evl
section
variable {P : Program} {w : World} {K : PySem.W.Frag} {mg : Str → Option Value} {base : Heap}
def MovesAt (K : PySem.W.Frag) (H : Hp) (x : Addr) (ms : List (Str × Str × Str)) (way : Str) (rds : List Str) : Prop :=
  ∃ dx m r, H x = some (.ins (He.ga K "Moves") dx [("moves", .ref m), ("way", .str way), ("readers", .ref r)]) ∧ MvAt H m ms ∧ H r = some (.lst (rds.map V.str))
theorem MovesAt.ex {H H' : Hp} {x : Addr} {ms : List (Str × Str × Str)} {way : Str} {rds : List Str} (h : MovesAt K H x ms way rds) (e : Ex H H') : MovesAt K H' x ms way rds := by
  obtain ⟨dx, m, r, h1, h2, h3⟩ := h
  exact ⟨dx, m, r, e _ _ h1, h2.ex e, e _ _ h3⟩
structure LM (L : List Str) (D : Str → Str) (B : Bn) (ns : List Str) (h : Str → Int) (ms : List (Str × Str × Str)) (way : Str) (rds : List Str) : Prop where
  all : AllOf L D B.rs ns
  nl : NL B L.length ns (cntI D L) h
  mv : Mvs L D ns (cntI D L) h ms
  wy : way = "leaving" ∨ way = "coming"
  bar : sumOf rds (barI (cntI D L) B way) = ms.length
  nd : rds.Nodup
  sub : ∀ r ∈ rds, r ∈ ns
  rl : rds.length < 64
theorem barI_l (f : Str → Int) (B : Bn) (r : Str) : barI f B "leaving" r = max 0 (f r - B.high r) := if_pos rfl
theorem barI_c (f : Str → Int) (B : Bn) (r : Str) : barI f B "coming" r = max 0 (B.low r - f r) := if_neg (by decide)
theorem ite_tC {c : Bool} {σ : L2.St} {H : Hp} {Q : VK} {v1 v2 v : V} (h1 : c = true → v1 = v) (h2 : c = false → v2 = v) (h : Q v H) : if c = true then tC v1 σ H Q else tC v2 σ H Q := by
  cases c with
  | true => rw [if_pos rfl, h1 rfl]; exact h
  | false => rw [if_neg (by decide), h2 rfl]; exact h
theorem sumOf_filter (xs : List Str) (f : Str → Int) (h : ∀ x ∈ xs, 0 ≤ f x) : sumOf (xs.filter fun x => decide (0 < f x)) f = sumOf xs f := by
  induction xs with
  | nil => rfl
  | cons x xs ih =>
    have ih := ih fun y hy => h y (List.mem_cons_of_mem _ hy)
    rw [List.filter_cons]
    by_cases q : 0 < f x
    · rw [if_pos (decide_eq_true q), sumOf_cons, sumOf_cons, ih]
    · have := h x List.mem_cons_self
      rw [if_neg (by simpa using q), sumOf_cons, ih]
      omega
def spLeastMoves (K : PySem.W.Frag) : Sp := fun vs H Q _ => ∃ d b L D B, vs = [.ref d, .ref b] ∧ DlAt H d L D ∧ DlOk L D ∧ BndAt H b B ∧ B.Ok ∧ B.Can L.length ∧ B.rs.length + L.length < 64 ∧
  ∀ x H' ms way rds ns h, Ex H H' → MovesAt K H' x ms way rds → LM L D B ns h ms way rds → Q (.ref x) H'
theorem sc_least_moves : FnScope ["deal", "bounds", "names", "loads", "goals", "leaving", "coming", "way", "readers", "reader"] ["deal", "bounds"] (defScope s_least_moves) := ⟨rfl, rfl, rfl, by decide +kernel, rfl, by decide +kernel, by decide +kernel⟩
theorem ok_least_moves (T : Txt K mg) : Ent P w K mg base CX0 4 "least_moves" ["deal", "bounds"] [] (spLeastMoves K) := by
  obtain ⟨fd, F⟩ := T.f_least_moves
  have e_check_change := ok_check_change (P := P) (w := w) (base := base) T
  have e_all_readers := ok_all_readers (P := P) (w := w) (base := base) T
  have e_loads_of := ok_loads_of (P := P) (w := w) (base := base) T
  have e_new_loads := ok_new_loads (P := P) (w := w) (base := base) T
  have e_barred := ok_barred (P := P) (w := w) (base := base) T
  have e_moves_between := ok_moves_between (P := P) (w := w) (base := base) T
  have e_Moves := ok_Moves_init (P := P) (w := w) (base := base) T
  refine Ent.mk' T.g_least_moves F (FunD.ok0 F sc_least_moves (fun vs H Q E h => ?_) (fun cdv A outer s H vs Q E hr h => ?_)) (fun _ _ _ _ _ _ us hl => match us, hl with | [_, _], _ => rfl)
  · obtain ⟨d, b, L, D, B, rfl, hd, okd, hb, okb, can, n64, q⟩ := h
    rfl
  · obtain ⟨d, b, L, D, B, rfl, hd, okd, hb, okb, can, n64, q⟩ := h
    refine ⟨_, (pss_cons (ps_expr (pe_e e_check_change (hr.mono (by decide)) pass0 (pa_cons (pv 0) (pa_cons (pv 1) pa_nil))))
      (pss_cons (ps_set (i := 2) sc_least_moves.nd rfl (Or.inl rfl) (pe_e e_all_readers (hr.mono (by decide)) pass0 (pa_cons (pv 0) (pa_cons (pv 1) pa_nil))))
      (pss_cons (ps_set (i := 3) sc_least_moves.nd rfl (Or.inr rfl) (pe_e e_loads_of (hr.mono (by decide)) pass0 (pa_cons (pv 0) (pa_cons (pv 2) pa_nil))))
      (pss_cons (ps_set (i := 4) sc_least_moves.nd rfl (Or.inl rfl) (pe_e e_new_loads (hr.mono (by decide)) pass0 (pa_cons (pv 3) (pa_cons (pv 1) (pa_cons (pe_callB call_lenD (by rfl) T.n_len PySem.boot_len (pa_cons (pv 0) pa_nil)) pa_nil)))))
      (pss_cons (ps_set (i := 5) sc_least_moves.nd rfl (Or.inl rfl) (pe_e e_barred (hr.mono (by decide)) pass0 (pa_cons (pv 3) (pa_cons (pv 1) (pa_cons pe_str (pa_cons (pv 2) pa_nil))))))
      (pss_cons (ps_set (i := 6) sc_least_moves.nd rfl (Or.inl rfl) (pe_e e_barred (hr.mono (by decide)) pass0 (pa_cons (pv 3) (pa_cons (pv 1) (pa_cons pe_str (pa_cons (pv 2) pa_nil))))))
      (pss_cons (ps_set (i := 7) sc_least_moves.nd rfl (Or.inr rfl) (pe_ifExp (pt_cmpR op_ge (pv 5) (pv 6) (nomark _)) pe_str pe_str))
      (pss_cons (ps_setLc (i := 8) (own := [("reader", 9)]) (g := gName 9) (tt := _) rfl sc_least_moves.nd rfl rfl (sw_true rfl rfl rfl (by decide +kernel)) (pi_listK (K := K) rfl (pv 2)) (blkOk_by (N := ["deal", "bounds", "names", "loads", "goals", "leaving", "coming", "way", "readers", "reader"]) (sc := defScope s_least_moves) (by decide +kernel)) (fun _ _ _ _ _ => (pg_name (i := 9) sc_least_moves.nd rfl (Or.inl rfl))) (fun _ _ _ _ _ => (pts_one (pt_cmpR op_gt (pe_e e_barred (hr.mono (by decide)) pass0 (pa_cons (pv 3) (pa_cons (pv 1) (pa_cons (pv 7) (pa_cons (pe_lst (pa_cons (pv 9) pa_nil)) pa_nil))))) pe_int (nomark _)))) (fun _ _ _ _ _ => (pv 9)))
      (pss_one (ps_ret (pe_ec e_Moves (hr.mono (by decide)) pass0 (pa_cons (pe_e e_moves_between (hr.mono (by decide)) pass0 (pa_cons (pv 0) (pa_cons (pv 3) (pa_cons (pv 4) pa_nil)))) (pa_cons (pv 7) (pa_cons (pv 8) pa_nil)))))))))))))), ?_⟩
    refine ⟨_, rfl, _, rfl, d, b, L, D, B, rfl, hd, okd, hb, okb, can, fun H1 e1 => ?_⟩
    have hb1 := hb.ex e1
    have hb1' := hb1
    obtain ⟨U, hU1, hU2⟩ := hb1'
    refine ⟨_, rfl, _, rfl, d, b, L, D, B.rs, _, rfl, e1 _ _ hd, hU1, okb.nd, n64, fun p1 H2 ns hp1 e2 hall h2 => ?_⟩
    obtain ⟨nd, hso, nl64, hmem⟩ := hall
    have hD : ∀ l ∈ L, D l ∈ ns := fun l hl => (hmem _).mpr (.inr ⟨l, hl, rfl⟩)
    have hR : ∀ r ∈ B.rs, r ∈ ns := fun r hr => (hmem _).mpr (.inl hr)
    refine ⟨_, rfl, _, rfl, d, p1, L, D, ns, rfl, e2 _ _ (e1 _ _ hd), okd.n, nd, by omega, hD, .inl (sql h2), fun p2 H3 hp2 e3 h3 => ?_⟩
    have hb3 := (hb1.ex e2).ex e3
    have e13 := (e1.trans e2).trans e3
    have n2b : p2 ≠ b := fun e => by
      rw [e, e2 _ _ hU1] at hp2
      cases hp2
    refine ⟨_, rfl, _, rfl, _, rfl, d, _, rfl, e13 _ _ hd, p2, b, _, ns, cntI D L, B, rfl, h3, nd, by omega, hb3, n2b, fun p3 H4 hp3 e4 h4 => ?_⟩
    rw [kd_len] at h4
    have hb4 := hb3.ex e4
    have h34 := e4 _ _ h3
    have h24 := e4 _ _ (e3 _ _ h2)
    refine ⟨_, rfl, _, rfl, _, rfl, p2, b, "leaving", p1, ns, cntI D L, B, ns, rfl, h34, hb4, h24, fun r hr => hr, fun H5 e5 => ?_⟩
    refine ⟨_, rfl, _, rfl, _, rfl, p2, b, "coming", p1, ns, cntI D L, B, ns, rfl, e5 _ _ h34, hb4.ex e5, e5 _ _ h24, fun r hr => hr, fun H6 e6 => ?_⟩
    refine ⟨_, rfl, _, rfl, _, _, rfl, rfl, ?_⟩
    have hL1 : sumOf ns (cntI D L) = L.length := sum_cntI D L nd hD
    have nl : NL B L.length ns (cntI D L) (newL B L.length ns (cntI D L)) := by
      obtain ⟨a1, a2⟩ := okb.sums nd hR
      exact newL_ok nd (fun r _ => okb.lh' r) _ hL1 (by rw [a1]; exact can.1) (by rw [a2]; exact can.2)
    have hway : ∃ way : Str, (way = "leaving" ∨ way = "coming") ∧ sumOf ns (barI (cntI D L) B way) = sumOf ns (fun r => max 0 (cntI D L r - newL B L.length ns (cntI D L) r)) ∧
        way = if sumOf ns (barI (cntI D L) B "coming") ≤ sumOf ns (barI (cntI D L) B "leaving") then ("leaving" : Str) else ("coming" : Str) := by
      have a1 : sumOf ns (barI (cntI D L) B "leaving") = sumOf ns fun r => max 0 (cntI D L r - B.high r) := sumOf_congr fun r _ => barI_l _ _ _
      have a2 : sumOf ns (barI (cntI D L) B "coming") = sumOf ns fun r => max 0 (B.low r - cntI D L r) := sumOf_congr fun r _ => barI_c _ _ _
      have a3 := nl.n
      by_cases hc : sumOf ns (barI (cntI D L) B "coming") ≤ sumOf ns (barI (cntI D L) B "leaving")
      · exact ⟨"leaving", .inl rfl, by rw [a3]; omega, (if_pos hc).symm⟩
      · exact ⟨"coming", .inr rfl, by rw [a3]; omega, (if_neg hc).symm⟩
    obtain ⟨way, hwy, hws, hwe⟩ := hway
    refine ⟨_, rfl, ite_tC (v := .str way) (fun h => by rw [hwe, if_pos (of_decide_eq_true h)]) (fun h => by rw [hwe, if_neg (of_decide_eq_false h)]) ?_⟩
    have e14 := (e13.trans e4)
    have b0 : ∀ r, 0 ≤ barI (cntI D L) B way r := fun r => by
      unfold barI
      split <;> omega
    dsimp only [tSeq_ap, tAsg_ap, gName_ap, tC_ap, tNext_ap, tRet_ap, tAndV_ap, tCB_ap, tCons_ap, tNil_ap, tB_ap, tTest_ap, tNot_ap, tOr_ap, tAnd_ap, tIfS_ap, tOp_ap, tDrop_ap]
    refine lcs ns (sql (e6 _ _ (e5 _ _ h24))) (by omega) (fun H1 Q' q' => ⟨_, rfl, q'⟩) (fun r => decide (0 < barI (cntI D L) B way r)) (fun r => .str r) (fun z hz H7 e7 Qy Qn g1 g2 => ?_) fun p7 H7 hp7 e7 h7 => ?_
    · have e47 := (e5.trans e6).trans e7
      refine ⟨rfl, ⟨_, rfl, _, rfl, _, rfl, _, rfl, show 1 ≤ sizeLine by rw [sizeLine_eq]; omega, fun t ht => ?_⟩⟩
      have e8 : Ex H7 (upd H7 t (.lst [.str z])) := Ex.new ht
      refine ⟨p2, b, way, t, ns, cntI D L, B, [z], rfl, e8 _ _ (e47 _ _ h34), (hb4.ex e47).ex e8, upd_same, fun r hr => ?_, fun H8 e9 => ?_⟩
      · rw [List.mem_singleton] at hr; rw [hr]; exact hz
      · have sz : sumOf [z] (barI (cntI D L) B way) = barI (cntI D L) B way z := by rw [sumOf_cons, sumOf_nil]; omega
        refine ⟨_, _, rfl, rfl, _, rfl, ?_⟩
        rw [sz]
        by_cases hq : 0 < barI (cntI D L) B way z
        · rw [decide_eq_true hq]
          exact iteT ⟨_, rfl, g1 (decide_eq_true hq) _ (e8.trans e9)⟩
        · rw [decide_eq_false hq]
          exact iteF (g2 (decide_eq_false hq) _ (e8.trans e9))
    have e47 := (e5.trans e6).trans e7
    have hw : ∀ r ∈ ns, isW r = true := fun r hr => by
      rcases (hmem r).mp hr with h | ⟨l, h, rfl⟩
      · exact okb.w r h
      · exact okd.v l h
    have n23 : p2 ≠ p3 := (fresh_ne h3 hp3).symm
    refine ⟨_, rfl, _, rfl, _, rfl, d, p2, p3, L, D, ns, ns, newL B L.length ns (cntI D L), rfl, e47 _ _ (e14 _ _ hd), okd, e47 _ _ h34, e47 _ _ h4, fun r h => h, n23, nd, nl64, hw, hD, by rw [hL1, nl.s], fun r hr => by have := (nl.b r hr).1; have := okb.l0' r; omega, fun pm H8 ms hpm e8 hms hmv => ?_⟩
    refine ⟨_, rfl, _, rfl, fun x dx hx hdx nx => ?_⟩
    obtain ⟨ts, ht1, ht2⟩ := hms
    have n1 : pm ≠ x := (fresh_ne ht1 hx).symm
    have n2 : pm ≠ dx := (fresh_ne ht1 hdx).symm
    have n3 : p7 ≠ x := (fresh_ne (e8 _ _ h7) hx).symm
    have n4 : p7 ≠ dx := (fresh_ne (e8 _ _ h7) hdx).symm
    refine ⟨x, dx, pm, p7, way, _, _, rfl, upd_same, (upd_ne n1).trans ((upd_ne n2).trans ht1), (upd_ne n3).trans ((upd_ne n4).trans (e8 _ _ h7)), fun H9 m' r' eb hx9 hm9 hr9 => ⟨rfl, ?_⟩⟩
    have e89 := mk_ex hx hdx eb
    refine q x H9 ms way (ns.filter fun r => decide (0 < barI (cntI D L) B way r)) ns (newL B L.length ns (cntI D L)) (((e14.trans e47).trans e8).trans e89) ⟨dx, m', r', hx9, ⟨ts, hm9, Paired.mapP ht2 fun _ _ r => e89 _ _ r⟩, hr9⟩ ?_
    refine ⟨⟨nd, hso, nl64, hmem⟩, nl, hmv, hwy, ?_, nd.filter _, fun r hr => (List.mem_filter.mp hr).1, Nat.lt_of_le_of_lt (List.length_filter_le _ _) nl64⟩
    rw [sumOf_filter _ _ (fun r _ => b0 r), hws, hmv.len]
theorem inV_str {z : Str} {xs : List Str} (h : z ∈ xs) : inV (.str z) (xs.map V.str) = true := by
  unfold inV
  rw [List.any_eq_true]
  exact ⟨.str z, List.mem_map.mpr ⟨z, h, rfl⟩, by simp [eqV]⟩
theorem flat_strs (xs : List Str) : (xs.map V.str).all flatV = true := by
  rw [List.all_eq_true]
  intro v hv
  obtain ⟨z, _, rfl⟩ := List.mem_map.mp hv
  rfl
theorem after_mem {D : Str → Str} {ms : List (Str × Str × Str)} {ns : List Str} {l : Str} (h1 : D l ∈ ns) (h2 : ∀ m ∈ ms, m.2.2 ∈ ns) : after D ms l ∈ ns := by
  unfold after
  cases q : ms.find? (fun m => decide (m.1 = l)) with
  | none => exact h1
  | some m => exact h2 m (List.mem_of_find?_eq_some q)
theorem any_false {α : Type} (xs : List α) : (xs.map fun _ => false).any id = false := by induction xs with | nil => rfl | cons _ _ ih => exact ih
theorem le2 : 2 ≤ sizeLine := by rw [sizeLine_eq]; omega
theorem le3 : 3 ≤ sizeLine := by rw [sizeLine_eq]; omega
/-! ### Moves.shows -/
def spMovesShows (K : PySem.W.Frag) : Sp := fun vs H Q _ => ∃ x d b L D B ms way rds ns h, vs = [.ref x, .ref d, .ref b] ∧ MovesAt K H x ms way rds ∧ LM L D B ns h ms way rds ∧ DlAt H d L D ∧ DlOk L D ∧ BndAt H b B ∧ B.Ok ∧ B.Can L.length ∧ B.rs.length + L.length < 64 ∧ ms.length ≤ 60 ∧
  ∀ H', Ex H H' → Q (.bl true) H'
theorem sc_Moves_shows : FnScope ["self", "deal", "bounds", "late", "names", "loads", "ends", "reader"] ["self", "deal", "bounds"] (defScope s_Moves_shows) := ⟨rfl, rfl, rfl, by decide +kernel, rfl, by decide +kernel, by decide +kernel⟩
theorem ok_Moves_shows (T : Txt K mg) : EntM P w K mg base CX0 4 (He.ga K "Moves") "shows" ["self", "deal", "bounds"] (spMovesShows K) := by
  obtain ⟨fd, F⟩ := T.f_Moves_shows
  have e_check_change := ok_check_change (P := P) (w := w) (base := base) T
  have e_moved := ok_moved (P := P) (w := w) (base := base) T
  have e_all_readers := ok_all_readers (P := P) (w := w) (base := base) T
  have e_loads_of := ok_loads_of (P := P) (w := w) (base := base) T
  have e_barred := ok_barred (P := P) (w := w) (base := base) T
  have e_are_distinct := ok_are_distinct (P := P) (w := w) (base := base) T
  refine EntM.mk' T.m_Moves_shows F (FunD.ok0 F sc_Moves_shows (fun vs H Q E h => ?_) (fun cdv A outer s H vs Q E hr h => ?_)) (fun _ _ _ _ _ _ us hl => match us, hl with | [_, _, _], _ => rfl)
  · obtain ⟨x, d, b, L, D, B, ms, way, rds, ns, h, rfl, hx, lm, hd, okd, hb, okb, can, n64, nms, q⟩ := h
    rfl
  · obtain ⟨x, d, b, L, D, B, ms, way, rds, ns, h, rfl, hx, lm, hd, okd, hb, okb, can, n64, nms, q⟩ := h
    refine ⟨_, (pss_cons (ps_expr (pe_e e_check_change (hr.mono (by decide)) pass0 (pa_cons (pv 1) (pa_cons (pv 2) pa_nil))))
      (pss_cons (ps_set (i := 3) sc_Moves_shows.nd rfl (Or.inl rfl) (pe_e e_moved (hr.mono (by decide)) pass0 (pa_cons (pv 1) (pa_cons (pe_fldK (K := K) rfl (pv 0) rfl) pa_nil))))
      (pss_cons (ps_if (PW.pt (pw_or (pt_cmpR op_isN (pv 3) pe_non (nomark _)) (pw_or (pt_cmpR (op_notIn_seqK (K := K) rfl) (pe_fldK (K := K) rfl (pv 0) rfl) (pe_tup (pa_cons pe_str (pa_cons pe_str pa_nil))) (by with_unfolding_all rfl)) (pw_or1 (pt_not (pt_val (pe_e e_are_distinct (hr.mono (by decide)) pass0 (pa_cons (pe_fldK (K := K) rfl (pv 0) rfl) pa_nil)))))))) (pss_one (ps_ret pe_bl)) pss_nil)
      (pss_cons (ps_set (i := 4) sc_Moves_shows.nd rfl (Or.inr rfl) (pe_e e_all_readers (hr.mono (by decide)) pass0 (pa_cons (pv 1) (pa_cons (pv 2) pa_nil))))
      (pss_cons (ps_asg (pe_tup (pa_cons (pe_e e_loads_of (hr.mono (by decide)) pass0 (pa_cons (pv 1) (pa_cons (pv 4) pa_nil))) (pa_cons (pe_e e_loads_of (hr.mono (by decide)) pass0 (pa_cons (pv 3) (pa_cons (pe_e e_all_readers (hr.mono (by decide)) pass0 (pa_cons (pv 3) (pa_cons (pv 2) pa_nil))) pa_nil))) pa_nil))) (pg_tup rfl (pgs_cons (pg_name (i := 5) sc_Moves_shows.nd rfl (Or.inl rfl)) (pgs_cons (pg_name (i := 6) sc_Moves_shows.nd rfl (Or.inr rfl)) pgs_nil))))
      (pss_cons (ps_if (pt_val (pe_callB (cr_anyK (K := K) rfl rfl) (by rfl) T.n_any (by decide +kernel) (pa_cons (pe_lock (pe_lc (own := [("reader", 7)]) (g := gName 7) (tt := _) rfl sc_Moves_shows.nd (pi_keys (pv 6)) (blkOk_by (N := ["self", "deal", "bounds", "late", "names", "loads", "ends", "reader"]) (sc := defScope s_Moves_shows) (by decide +kernel)) (fun _ _ _ _ _ => (pg_name (i := 7) sc_Moves_shows.nd rfl (Or.inl rfl))) (fun _ _ _ _ _ => (pts_one (pt_cmpR op_gt (pe_dget (hu_of hr) (pv 6) (pv 7) (fun _ _ => rfl)) pe_int (nomark _)))) (fun _ _ _ _ _ => (pe_cmp (pc_dnotin (hu_of hr) (pv 7) (pv 2)))))) pa_nil))) (pss_one (ps_ret pe_bl)) pss_nil)
      (pss_cons (ps_if (pt_not (pt_val (pe_callB (cr_allK (K := K) rfl rfl) (by rfl) T.n_all (by decide +kernel) (pa_cons (pe_lock (pe_lc (own := [("reader", 7)]) (g := gName 7) (tt := tYes) rfl sc_Moves_shows.nd (pi_keys (pv 2)) (blkOk_by (N := ["self", "deal", "bounds", "late", "names", "loads", "ends", "reader"]) (sc := defScope s_Moves_shows) (by decide +kernel)) (fun _ _ _ _ _ => (pg_name (i := 7) sc_Moves_shows.nd rfl (Or.inl rfl))) (fun _ _ _ _ _ => pts_nil) (fun _ _ _ _ _ => (pe_chain op_le op_le (pe_ix (ix_tupK (K := K) rfl) (pe_dget (hu_of hr) (pv 2) (pv 7) (fun _ _ => rfl)) pe_int (fun _ _ => rfl)) (pe_dget (hu_of hr) (pv 6) (pv 7) (fun _ _ => rfl)) (pe_ix (ix_tupK (K := K) rfl) (pe_dget (hu_of hr) (pv 2) (pv 7) (fun _ _ => rfl)) pe_int (fun _ _ => rfl)))))) pa_nil)))) (pss_one (ps_ret pe_bl)) pss_nil)
      (pss_cons (ps_if (pt_not (pt_val (pe_callB (cr_allK (K := K) rfl rfl) (by rfl) T.n_all (by decide +kernel) (pa_cons (pe_lc (own := [("reader", 7)]) (g := gName 7) (tt := tYes) rfl sc_Moves_shows.nd (pi_listK (K := K) rfl (pe_fldK (K := K) rfl (pv 0) rfl)) (blkOk_by (N := ["self", "deal", "bounds", "late", "names", "loads", "ends", "reader"]) (sc := defScope s_Moves_shows) (by decide +kernel)) (fun _ _ _ _ _ => (pg_name (i := 7) sc_Moves_shows.nd rfl (Or.inl rfl))) (fun _ _ _ _ _ => pts_nil) (fun _ _ _ _ _ => (pe_cmpR (op_in_seqK (K := K) rfl) (pv 7) (pv 4) (by with_unfolding_all rfl)))) pa_nil)))) (pss_one (ps_ret pe_bl)) pss_nil)
      (pss_one (ps_ret (pe_cmpR op_eq (pe_e e_barred (hr.mono (by decide)) pass0 (pa_cons (pv 5) (pa_cons (pv 2) (pa_cons (pe_fldK (K := K) rfl (pv 0) rfl) (pa_cons (pe_fldK (K := K) rfl (pv 0) rfl) pa_nil))))) (pe_callB (call_lenK (K := K) rfl) (by rfl) T.n_len PySem.boot_len (pa_cons (pe_fldK (K := K) rfl (pv 0) rfl) pa_nil)) (nomark _)))))))))))), ?_⟩
    refine ⟨_, rfl, _, rfl, d, b, L, D, B, rfl, hd, okd, hb, okb, can, fun H1 e1 => ?_⟩
    obtain ⟨dx, m, r, hx, hm, hr'⟩ := hx
    refine ⟨_, rfl, _, rfl, x, _, dx, _, _, rfl, e1 _ _ hx, T.c_Moves, T.a_Moves_moves, rfl, ?_⟩
    refine ⟨d, m, L, D, ms, rfl, e1 _ _ hd, okd.n, hm.ex e1, lm.mv.ok, nms, fun p2 H2 hp2 e2 h2 => ?_⟩
    have e12 := e1.trans e2
    have hx2 := e12 _ _ hx
    refine ⟨_, rfl, rfl, false, bl_f (fun h => by cases h), iteF ?_⟩
    refine ⟨_, rfl, x, _, dx, _, _, rfl, hx2, T.c_Moves, T.a_Moves_way, rfl, le2, fun t ht => ⟨t, _, rfl, .inr (sqt upd_same), rfl, rfl, false, congrArg V.bl ?_, iteF ?_⟩⟩
    · rcases lm.wy with h | h <;> rw [h] <;> rfl
    have e3 : Ex H (upd H2 t (.tup [.str "leaving", .str "coming"])) := ex_upd e12 (no_of e12 ht)
    have h23 := (Ex.new ht (o := .tup [.str "leaving", .str "coming"])) _ _ h2
    generalize upd H2 t (.tup [.str "leaving", .str "coming"]) = H3 at e3 h23
    have hw : ∀ r ∈ ns, isW r = true := fun r hr => by
      rcases (lm.all.2.2.2 r).mp hr with h | ⟨l, h, rfl⟩
      · exact okb.w r h
      · exact okd.v l h
    have rl : rds.length ≤ 40000 := by
      have := lm.rl
      omega
    refine ⟨_, rfl, x, _, dx, _, _, rfl, e3 _ _ hx, T.c_Moves, T.a_Moves_readers, rfl, r, rds, rfl, e3 _ _ hr', rl, fun r hr => hw r (lm.sub r hr), lm.nd, fun H4 e4 => ⟨true, rfl, iteF ?_⟩⟩
    have e04 := e3.trans e4
    have hb4 := hb.ex e04
    have hb4' := hb4
    obtain ⟨U, hU1, hU2⟩ := hb4'
    refine ⟨_, rfl, _, rfl, d, b, L, D, B.rs, _, rfl, e04 _ _ hd, hU1, okb.nd, n64, fun p4 H5 ns4 hp4 e5 hall4 h4 => ?_⟩
    obtain ⟨nd4, _, nl4, hm4⟩ := hall4
    refine ⟨_, rfl, _, rfl, d, p4, L, D, ns4, rfl, e5 _ _ (e04 _ _ hd), okd.n, nd4, nl4, fun l hl => (hm4 _).mpr (.inr ⟨l, hl, rfl⟩), .inl (sql h4), fun p5 H6 hp5 e6 h5 => ?_⟩
    have e46 := e5.trans e6
    refine ⟨_, rfl, _, rfl, _, rfl, p2, b, L, after D ms, B.rs, _, rfl, e46 _ _ (e4 _ _ h23), e46 _ _ hU1, okb.nd, n64, fun p6 H7 ns6 hp6 e7 hall6 h6 => ?_⟩
    obtain ⟨nd6, _, nl6, hm6⟩ := hall6
    refine ⟨p2, p6, L, after D ms, ns6, rfl, e7 _ _ (e46 _ _ (e4 _ _ h23)), okd.n, nd6, nl6, fun l hl => (hm6 _).mpr (.inr ⟨l, hl, rfl⟩), .inl (sql h6), fun p7 H8 hp7 e8 h7 => ?_⟩
    refine ⟨le2, fun t2 ht2 => ⟨t2, _, rfl, sqt upd_same, rfl, _, _, rfl, _, _, rfl, rfl, ?_⟩⟩
    have e48 := (e46.trans e7).trans e8
    have e49 : Ex H4 (upd H8 t2 (.tup [.ref p5, .ref p7])) := e48.trans (Ex.new ht2)
    have h79 := (Ex.new ht2 (o := .tup [.ref p5, .ref p7])) _ _ h7
    have h59 := (Ex.new ht2 (o := .tup [.ref p5, .ref p7])) _ _ (e8 _ _ (e7 _ _ h5))
    have h49 := (Ex.new ht2 (o := .tup [.ref p5, .ref p7])) _ _ (e8 _ _ (e7 _ _ (e6 _ _ h4)))
    generalize upd H8 t2 (.tup [.ref p5, .ref p7]) = H9 at e49 h79 h59 h49
    have sub6 : ∀ r ∈ ns6, r ∈ ns := fun r hr => by
      rcases (hm6 r).mp hr with h | ⟨l, hl, rfl⟩
      · exact (lm.all.2.2.2 r).mpr (.inl h)
      · exact after_mem ((lm.all.2.2.2 _).mpr (.inr ⟨l, hl, rfl⟩)) fun m hm => (lm.mv.to m hm).1
    have val6 : ∀ r ∈ ns6, cntI (after D ms) L r = h r := fun r hr => lm.mv.ld r (sub6 r hr)
    have in6 : ∀ r ∈ ns6, 0 < cntI (after D ms) L r → r ∈ B.rs := fun r hr hp => by
      rw [val6 r hr] at hp
      have := (lm.nl.b r (sub6 r hr)).2
      unfold Bn.high at this
      by_cases q : r ∈ B.rs
      · exact q
      · rw [if_neg q] at this; omega
    have hU9 := e49 _ _ hU1
    have nb7 : b ≠ p7 := (fresh_ne ((e46.trans e7) _ _ hU1) hp7).symm
    dsimp only [tSeq_ap, tAsg_ap, gName_ap, tC_ap, tNext_ap, tRet_ap, tAndV_ap, tCB_ap, tCons_ap, tNil_ap, tB_ap, tTest_ap, tNot_ap, tOr_ap, tAnd_ap, tIfS_ap, tOp_ap, tDrop_ap]
    refine lcd h79 (by omega) (fun H1 Q' q' => ⟨_, rfl, q'⟩) (fun r => decide (0 < cntI (after D ms) L r)) (fun _ => .bl false) (fun z hz H1 eb rd Qy Qn g1 g2 => ?_) fun p10 H10 hp10 e10 h10 => ?_
    · refine ⟨rfl, ⟨_, rfl, _, rfl, p7, _, rfl, gk rd hz, _, _, rfl, rfl, _, rfl, ?_⟩⟩
      by_cases hq : 0 < cntI (after D ms) L z
      · rw [decide_eq_true hq]
        exact iteT ⟨_, rfl, _, rfl, b, _, rfl, gk (.inl (eb _ _ nb7 hU9)) (in6 z hz hq), g1 (decide_eq_true hq) _ (Ex.refl _)⟩
      · rw [decide_eq_false hq]
        exact iteF (g2 (decide_eq_false hq) _ (Ex.refl _))
    refine ⟨p10, (ns6.filter fun r => decide (0 < cntI (after D ms) L r)).map fun _ => false, rfl, sql (by rw [h10, List.map_map]; rfl), false, congrArg V.bl (any_false _), iteF ?_⟩
    refine lcd (e10 _ _ hU9) (by have := okb.n2; omega) (fun H1 Q' q' => ⟨_, rfl, q'⟩) (fun _ => true) (fun _ => .bl true) (fun z hz H1 eb rd Qy Qn g1 g2 => ?_) fun p11 H11 hp11 e11 h11 => ?_
    · have hT := eb _ _ (ne_td (e10 _ _ (e49 _ _ (hU2 z hz))) (e10 _ _ hU9)) (e10 _ _ (e49 _ _ (hU2 z hz)))
      have hz6 : z ∈ ns6 := (hm6 z).mpr (.inl hz)
      have hbz := lm.nl.b z (sub6 z hz6)
      unfold Bn.low Bn.high at hbz
      rw [if_pos hz, if_pos hz, ← val6 z hz6] at hbz
      refine ⟨rfl, tyes ⟨_, rfl, _, rfl, b, _, rfl, gk rd hz, _, _, _, _, rfl, rfl, sqt hT, rfl, ?_⟩⟩
      refine ⟨_, rfl, _, rfl, p7, _, rfl, gk (.inl (eb _ _ nb7.symm (e10 _ _ h79))) hz6, _, _, rfl, rfl, true, bl_t hbz.1, iteT ?_⟩
      refine ⟨_, rfl, _, rfl, b, _, rfl, gk rd hz, _, _, _, _, rfl, rfl, sqt hT, rfl, _, _, rfl, rfl, ?_⟩
      exact cgv (Q := Qy) (bl_t hbz.2) (g1 rfl _ (Ex.refl _))
    refine ⟨p11, B.rs.map fun _ => true, rfl, sql (by rw [h11, List.map_map, List.filter_eq_self.mpr fun _ _ => rfl]; rfl), true, congrArg V.bl (all_true _), iteF ?_⟩
    have e0b : Ex H H11 := ((e04.trans e49).trans e10).trans e11
    have h4b := (e10.trans e11) _ _ h49
    have sub4 : ∀ r ∈ rds, r ∈ ns4 := fun r hr => (hm4 r).mpr ((lm.all.2.2.2 r).mp (lm.sub r hr))
    refine lcsF rds (sql (e0b _ _ hr')) rl (fun Q' q' => ⟨_, rfl, x, _, dx, _, _, rfl, e0b _ _ hx, T.c_Moves, T.a_Moves_readers, rfl, q'⟩) (fun _ => true) (fun _ => .bl true) (fun z hz H1 eb Qy Qn g1 g2 => ?_) fun p12 H12 hp12 e12' h12 => ?_
    · refine ⟨rfl, tyes ⟨_, rfl, _, rfl, p4, _, rfl, .inl (sql (eb _ _ h4b)), rfl, flat_strs _, ?_⟩⟩
      exact cgv (Q := Qy) (congrArg V.bl (inV_str (sub4 z hz))) (g1 rfl _ (Ex.refl _))
    refine ⟨p12, rds.map fun _ => true, rfl, sql (by rw [h12, List.map_map, List.filter_eq_self.mpr fun _ _ => rfl]; rfl), true, congrArg V.bl (all_true _), iteF ?_⟩
    have e0c := e0b.trans e12'
    refine ⟨_, rfl, _, rfl, _, rfl, x, _, dx, _, _, rfl, e0c _ _ hx, T.c_Moves, T.a_Moves_way, rfl, ?_⟩
    refine ⟨_, rfl, x, _, dx, _, _, rfl, e0c _ _ hx, T.c_Moves, T.a_Moves_readers, rfl, ?_⟩
    refine ⟨p5, b, way, r, ns4, cntI D L, B, rds, rfl, e12' _ _ ((e10.trans e11) _ _ h59), hb.ex e0c, e0c _ _ hr', sub4, fun H13 e13 => ?_⟩
    have e0d := e0c.trans e13
    obtain ⟨ts, ht1, ht2⟩ := hm.ex e0d
    refine ⟨_, rfl, x, _, dx, _, _, rfl, e0d _ _ hx, T.c_Moves, T.a_Moves_moves, rfl, ?_⟩
    refine ⟨_, _, rfl, lenL (sql ht1), rfl, ?_⟩
    refine cgv (Q := Q) (bl_t (congrArg V.int ?_)) (q _ e0d)
    rw [lm.bar, List.length_map, Paired.length ht2]
end
end K55


set_option Elab.async false
set_option linter.all false
set_option maxRecDepth 100000
set_option maxHeartbeats 4000000
namespace K55
open PySem PySem.Spec PyProof.Rows L2 Evl
open K55M (Nd Lb Net Arc Fnd Lay FlowOk BF Closed IsWay Plan)
abbrev ND := Nd Str
abbrev LB := Lb Str
abbrev NET := Net ND LB
def nk : ND → List Key
  | .src => [.inr "source"]
  | .out t r => [.inr "out", .inl (t : Int), .inr r]
  | .inn t r => [.inr "in", .inl (t : Int), .inr r]
  | .hub t => [.inr "hub", .inl (t : Int)]
  | .snk => [.inr "sink"]
theorem nk_inj : ∀ {a b : ND}, nk a = nk b → a = b
  | .src, .src, _ => rfl
  | .src, .out _ _, h => by simp [nk] at h
  | .src, .inn _ _, h => by simp [nk] at h
  | .src, .hub _, h => by simp [nk] at h
  | .src, .snk, h => by
    have h : ([Sum.inr ("source" : Str)] : List Key) = [Sum.inr ("sink" : Str)] := h
    injection h with h _
    injection h with h
    exact absurd h (by decide)
  | .out _ _, .src, h => by simp [nk] at h
  | .out t r, .out t' r', h => by
    simp [nk] at h
    rw [show t = t' by omega, h.2]
  | .out _ _, .inn _ _, h => by
    have h := congrArg List.head? h
    have h : some (Sum.inr ("out" : Str) : Key) = some (Sum.inr ("in" : Str)) := h
    injection h with h
    injection h with h
    exact absurd h (by decide)
  | .out _ _, .hub _, h => by simp [nk] at h
  | .out _ _, .snk, h => by simp [nk] at h
  | .inn _ _, .src, h => by simp [nk] at h
  | .inn _ _, .out _ _, h => by
    have h := congrArg List.head? h
    have h : some (Sum.inr ("in" : Str) : Key) = some (Sum.inr ("out" : Str)) := h
    injection h with h
    injection h with h
    exact absurd h (by decide)
  | .inn t r, .inn t' r', h => by
    simp [nk] at h
    rw [show t = t' by omega, h.2]
  | .inn _ _, .hub _, h => by simp [nk] at h
  | .inn _ _, .snk, h => by simp [nk] at h
  | .hub _, .src, h => by simp [nk] at h
  | .hub _, .out _ _, h => by simp [nk] at h
  | .hub _, .inn _ _, h => by simp [nk] at h
  | .hub t, .hub t', h => by
    simp [nk] at h
    rw [show t = t' by omega]
  | .hub _, .snk, h => by simp [nk] at h
  | .snk, .src, h => by
    have h : ([Sum.inr ("sink" : Str)] : List Key) = [Sum.inr ("source" : Str)] := h
    injection h with h _
    injection h with h
    exact absurd h (by decide)
  | .snk, .out _ _, h => by simp [nk] at h
  | .snk, .inn _ _, h => by simp [nk] at h
  | .snk, .hub _, h => by simp [nk] at h
  | .snk, .snk, _ => rfl
/-! ### tuples of keys compared -/
def kD : Key → PyData
  | .inl i => .int i
  | .inr x => .str x
theorem kD_eqv : ∀ (a b : Key), PyData.eqv (kD a) (kD b) = decide (a = b)
  | .inl i, .inl j => by
    show (i == j) = _
    by_cases h : i = j
    · subst h; simp
    · simp [h]
  | .inl _, .inr _ => by simp [kD, PyData.eqv]
  | .inr _, .inl _ => by simp [kD, PyData.eqv]
  | .inr x, .inr y => by
    show (x == y) = _
    by_cases h : x = y
    · subst h; simp
    · simp [h]
theorem kD_all : ∀ (a b : List Key), PyData.eqvAll (a.map kD) (b.map kD) = decide (a = b)
  | [], [] => rfl
  | [], _ :: _ => by simp [PyData.eqvAll]
  | _ :: _, [] => by simp [PyData.eqvAll]
  | x :: xs, y :: ys => by
    show (PyData.eqv (kD x) (kD y) && PyData.eqvAll (xs.map kD) (ys.map kD)) = _
    rw [kD_eqv, kD_all xs ys]
    by_cases h : x = y
    · subst h
      by_cases h2 : xs = ys
      · subst h2; simp
      · simp [h2]
    · simp [h]
theorem kD_dp {K : PySem.W.Frag} {H : Hp} : ∀ k : Key, Dp K H (kV k) (kD k)
  | .inl i => .int i
  | .inr x => .str x
theorem kD_dpAll {K : PySem.W.Frag} {H : Hp} : ∀ ks : List Key, DpAll K H (ks.map kV) (ks.map kD)
  | [] => .nil
  | k :: ks => .cons (kD_dp k) (kD_dpAll ks)
theorem nk_dp {K : PySem.W.Frag} {H : Hp} {a : Addr} {v : ND} (h : H a = some (.tup ((nk v).map kV))) : Dp K H (.ref a) (.tuple ((nk v).map kD)) := .tup (sqt h) (kD_dpAll _)
def okN : ND → Prop
  | .out _ r => PyData.strOk r = true
  | .inn _ r => PyData.strOk r = true
  | _ => True
theorem nk_shaped : ∀ {v : ND}, okN v → SeqAt.shaped (.tuple ((nk v).map kD)) = true
  | .src, _ => by simp [SeqAt.shaped, nk, kD, PyData.canLay0, PyData.canLayAll0, PyData.depth, PyData.depthAll]; decide +kernel
  | .hub _, _ => by simp [SeqAt.shaped, nk, kD, PyData.canLay0, PyData.canLayAll0, PyData.depth, PyData.depthAll]; decide +kernel
  | .snk, _ => by simp [SeqAt.shaped, nk, kD, PyData.canLay0, PyData.canLayAll0, PyData.depth, PyData.depthAll]; decide +kernel
  | .out _ r, h => by simp [SeqAt.shaped, nk, kD, PyData.canLay0, PyData.canLayAll0, PyData.depth, PyData.depthAll, show PyData.strOk r = true from h]; decide +kernel
  | .inn _ r, h => by simp [SeqAt.shaped, nk, kD, PyData.canLay0, PyData.canLayAll0, PyData.depth, PyData.depthAll, show PyData.strOk r = true from h]; decide +kernel
theorem nk_eqv (u v : ND) : PyData.eqv (.tuple ((nk u).map kD)) (.tuple ((nk v).map kD)) = decide (u = v) := by
  show PyData.eqvAll _ _ = _
  rw [kD_all]
  exact decide_eq_decide.mpr ⟨nk_inj, fun e => by rw [e]⟩
/-- a == b, a != b of nodes -/
theorem nk_eq {K : PySem.W.Frag} {H : Hp} {a b : Addr} {u v : ND} {Q : VK} (ha : H a = some (.tup ((nk u).map kV))) (hb : H b = some (.tup ((nk v).map kV))) (hu : okN u) (hv : okN v) (q : Q (.bl (decide (u = v))) H) : rEqD K (.ref a) (.ref b) H Q :=
  ⟨_, _, nk_dp ha, nk_dp hb, nk_shaped hu, nk_shaped hv, by rw [nk_eqv]; exact q⟩
theorem nk_ne {K : PySem.W.Frag} {H : Hp} {a b : Addr} {u v : ND} {Q : VK} (ha : H a = some (.tup ((nk u).map kV))) (hb : H b = some (.tup ((nk v).map kV))) (hu : okN u) (hv : okN v) (q : Q (.bl (!decide (u = v))) H) : rNeD K (.ref a) (.ref b) H Q :=
  ⟨_, _, nk_dp ha, nk_dp hb, nk_shaped hu, nk_shaped hv, by rw [nk_eqv]; exact q⟩
/-! ### dicts with nodes as keys -/
def kt (vs : List ND) (g : ND → V) : List (List Key × V) := vs.map fun v => (nk v, g v)
theorem kt_len (vs : List ND) (g : ND → V) : (kt vs g).length = vs.length := List.length_map _
theorem valV_kt (vs : List ND) (g : ND → V) (k : ND) : valV (kt vs g) (nk k) = if k ∈ vs then some (g k) else none := by
  induction vs with
  | nil => rfl
  | cons x r ih =>
    show valV ((nk x, g x) :: kt r g) (nk k) = _
    by_cases e : x = k
    · subst e
      rw [valV_pos rfl, if_pos List.mem_cons_self]
    · rw [valV_neg (fun q => e (nk_inj q)), ih]
      by_cases h : k ∈ r
      · rw [if_pos h, if_pos (List.mem_cons_of_mem _ h)]
      · rw [if_neg h, if_neg (fun q => (List.mem_cons.mp q).elim (fun z => e z.symm) h)]
theorem kt_congr {vs : List ND} {g h : ND → V} (e : ∀ k ∈ vs, g k = h k) : kt vs g = kt vs h := List.map_congr_left fun k hk => by rw [e k hk]
theorem putK_kt_mem {vs : List ND} {g : ND → V} {k : ND} (v : V) (h : k ∈ vs) : putK (kt vs g) (nk k) v = kt vs (fun j => if j = k then v else g j) := by
  unfold putK
  have e : ((kt vs g).any fun kv => decide (kv.1 = nk k)) = true := by
    rw [valV_any, valV_kt, if_pos h]; rfl
  rw [if_pos e]
  unfold kt
  rw [List.map_map]
  refine List.map_congr_left fun j _ => ?_
  show (if nk j = nk k then (nk j, v) else (nk j, g j)) = (nk j, if j = k then v else g j)
  by_cases e : j = k
  · subst e; simp
  · rw [if_neg (fun q => e (nk_inj q)), if_neg e]
theorem putK_kt_new {vs : List ND} {g : ND → V} {k : ND} (v : V) (h : k ∉ vs) : putK (kt vs g) (nk k) v = kt (vs ++ [k]) (fun j => if j = k then v else g j) := by
  rw [putK_new v (by rw [valV_kt, if_neg h])]
  unfold kt
  rw [List.map_append]
  have e : vs.map (fun k' => (nk k', g k')) = vs.map fun j => (nk j, if j = k then v else g j) := List.map_congr_left fun j hj => by
    rw [if_neg (fun q : j = k => h (q ▸ hj))]
  rw [e]
  show _ ++ [(nk k, v)] = _ ++ [(nk k, if k = k then v else g k)]
  rw [if_pos rfl]
abbrev KT (H : Hp) (a : Addr) (vs : List ND) (g : ND → V) : Prop := H a = some (.dT (kt vs g))
def NdAt (H : Hp) (a : Addr) (v : ND) : Prop := H a = some (.tup ((nk v).map kV))
theorem tk {H : Hp} {a b : Addr} {vs : List ND} {g : ND → V} {v : ND} (h : Rd H a (.dT (kt vs g))) (hb : NdAt H b v) (m : v ∈ vs) : DGet H a (.ref b) (some (g v)) := .inr ⟨_, nk v, b, h, rfl, hb, by rw [valV_kt, if_pos m]⟩
theorem tkn {H : Hp} {a b : Addr} {vs : List ND} {g : ND → V} {v : ND} (h : Rd H a (.dT (kt vs g))) (hb : NdAt H b v) (m : v ∉ vs) : DGet H a (.ref b) none := .inr ⟨_, nk v, b, h, rfl, hb, by rw [valV_kt, if_neg m]⟩
theorem tp {H : Hp} {a b : Addr} {vs : List ND} {g : ND → V} {v : ND} {x : V} (h : KT H a vs g) (hb : NdAt H b v) (m : v ∈ vs) (n : vs.length ≤ 40000) : DPut H a (.ref b) x (upd H a (.dT (kt vs fun j => if j = v then x else g j))) := by
  rw [← putK_kt_mem x m]
  exact DPut.t h hb (by rw [kt_len]; exact sz_lt (by omega))
theorem tpn {H : Hp} {a b : Addr} {vs : List ND} {g : ND → V} {v : ND} {x : V} (h : KT H a vs g) (hb : NdAt H b v) (m : v ∉ vs) (n : vs.length ≤ 40000) : DPut H a (.ref b) x (upd H a (.dT (kt (vs ++ [v]) fun j => if j = v then x else g j))) := by
  rw [← putK_kt_new x m]
  exact DPut.t h hb (by rw [kt_len]; exact sz_lt (by omega))
/-! ### edges, flows -/
def EdgeAt (K : PySem.W.Frag) (H : Hp) (a : Addr) (G : NET) (i : LB) (amt : Int) : Prop :=
  ∃ dx b e, H a = some (.ins (He.ga K "Edge") dx [("begin", .ref b), ("end", .ref e), ("low", .int (G.lo i)), ("high", .int (G.hi i)), ("price", .int (G.pr i)), ("amount", .int amt)]) ∧ NdAt H b (G.bg i) ∧ NdAt H e (G.en i)
theorem EdgeAt.ex {K : PySem.W.Frag} {H H' : Hp} {a : Addr} {G : NET} {i : LB} {amt : Int} (h : EdgeAt K H a G i amt) (e : Ex H H') : EdgeAt K H' a G i amt := by
  obtain ⟨dx, b, e', h1, h2, h3⟩ := h
  exact ⟨dx, b, e', e _ _ h1, e _ _ h2, e _ _ h3⟩
def addN (vs : List ND) (v : ND) : List ND := if v ∈ vs then vs else vs ++ [v]
theorem mem_addN {vs : List ND} {v z : ND} : z ∈ addN vs v ↔ z ∈ vs ∨ z = v := by
  unfold addN
  by_cases h : v ∈ vs
  · rw [if_pos h]
    exact ⟨.inl, fun q => q.elim id fun e => e ▸ h⟩
  · rw [if_neg h, List.mem_append, List.mem_singleton]
theorem addN_nodup {vs : List ND} {v : ND} (h : vs.Nodup) : (addN vs v).Nodup := by
  unfold addN
  by_cases m : v ∈ vs
  · rw [if_pos m]; exact h
  · rw [if_neg m]
    refine List.nodup_append.mpr ⟨h, by simp, fun a ha b hb e => ?_⟩
    rw [List.mem_singleton] at hb
    exact m (by rw [← hb, ← e]; exact ha)
theorem addN_len (vs : List ND) (v : ND) : (addN vs v).length ≤ vs.length + 1 := by
  unfold addN
  split
  · omega
  · rw [List.length_append, List.length_singleton]; omega
def ndsOf (G : NET) (ls : List LB) : List ND := ls.foldl (fun vs i => addN (addN vs (G.bg i)) (G.en i)) []
theorem ndsOf_snoc (G : NET) (ls : List LB) (i : LB) : ndsOf G (ls ++ [i]) = addN (addN (ndsOf G ls) (G.bg i)) (G.en i) := by
  unfold ndsOf
  rw [List.foldl_append]
  rfl
theorem ndsOf_nodup (G : NET) : ∀ ls, (ndsOf G ls).Nodup := snoc_ind List.nodup_nil fun ls i h => by
  rw [ndsOf_snoc]
  exact addN_nodup (addN_nodup h)
theorem ndsOf_len (G : NET) : ∀ ls, (ndsOf G ls).length ≤ 2 * ls.length := snoc_ind (Nat.le_refl _) fun ls i h => by
  rw [ndsOf_snoc, List.length_append, List.length_singleton]
  have := addN_len (addN (ndsOf G ls) (G.bg i)) (G.en i)
  have := addN_len (ndsOf G ls) (G.bg i)
  omega
theorem mem_ndsOf (G : NET) (v : ND) : ∀ ls, v ∈ ndsOf G ls ↔ ∃ i ∈ ls, v = G.bg i ∨ v = G.en i := snoc_ind (by simp [ndsOf]) fun ls i h => by
  rw [ndsOf_snoc, mem_addN, mem_addN, h]
  constructor
  · rintro ((⟨j, hj, e⟩ | e) | e)
    · exact ⟨j, List.mem_append_left _ hj, e⟩
    · exact ⟨i, by simp, .inl e⟩
    · exact ⟨i, by simp, .inr e⟩
  · rintro ⟨j, hj, e⟩
    rcases List.mem_append.mp hj with hj | hj
    · exact .inl (.inl ⟨j, hj, e⟩)
    · rw [List.mem_singleton] at hj
      subst hj
      rcases e with e | e
      · exact .inl (.inr e)
      · exact .inr e
structure FlowAt (K : PySem.W.Frag) (H : Hp) (x dx el nd : Addr) (E : LB → Addr) (G : NET) (ls : List LB) (f : LB → Int) (many : Int) : Prop where
  o : H x = some (.ins (He.ga K "Flow") dx [("many", .int many), ("edges", .ref el), ("nodes", .ref nd)])
  e : H el = some (.lst (ls.map fun i => V.ref (E i)))
  n : KT H nd (ndsOf G ls) fun _ => .bl true
  at_ : ∀ i ∈ ls, EdgeAt K H (E i) G i (f i)
  inj : ∀ i ∈ ls, ∀ j ∈ ls, E i = E j → i = j
  ok : ∀ i ∈ ls, okN (G.bg i) ∧ okN (G.en i)
theorem FlowAt.ex {K : PySem.W.Frag} {H H' : Hp} {x dx el nd : Addr} {E : LB → Addr} {G : NET} {ls : List LB} {f : LB → Int} {many : Int} (h : FlowAt K H x dx el nd E G ls f many) (e : Ex H H') : FlowAt K H' x dx el nd E G ls f many :=
  ⟨e _ _ h.o, e _ _ h.e, e _ _ h.n, fun i hi => (h.at_ i hi).ex e, h.inj, h.ok⟩
/-- instances and tuples stand -/
structure KIT (H H' : Hp) : Prop where
  i : ∀ b C dx fs, H b = some (.ins C dx fs) → H' b = some (.ins C dx fs)
  t : ∀ b xs, H b = some (.tup xs) → H' b = some (.tup xs)
theorem KIT.trans {H H1 H2 : Hp} (a : KIT H H1) (b : KIT H1 H2) : KIT H H2 := ⟨fun x C d f h => b.i _ _ _ _ (a.i _ _ _ _ h), fun x xs h => b.t _ _ (a.t _ _ h)⟩
theorem KIT.of {H H' : Hp} (e : Ex H H') : KIT H H' := ⟨fun _ _ _ _ h => e _ _ h, fun _ _ h => e _ _ h⟩
theorem KIT.upd {H : Hp} {p : Addr} {o : HO} (h1 : ∀ C dx fs, H p ≠ some (.ins C dx fs)) (h2 : ∀ xs, H p ≠ some (.tup xs)) : KIT H (L2.upd H p o) := ⟨fun b C dx fs h => by
  rw [upd_ne (fun e : b = p => h1 C dx fs (e ▸ h))]; exact h, fun b xs h => by
  rw [upd_ne (fun e : b = p => h2 xs (e ▸ h))]; exact h⟩
theorem KIT.updL {H : Hp} {p : Addr} {o : HO} {xs : List V} (h : H p = some (.lst xs)) : KIT H (L2.upd H p o) := KIT.upd (fun _ _ _ e => by rw [h] at e; cases e) (fun _ e => by rw [h] at e; cases e)
theorem KIT.updT {H : Hp} {p : Addr} {o : HO} {kvs : List (List Key × V)} (h : H p = some (.dT kvs)) : KIT H (L2.upd H p o) := KIT.upd (fun _ _ _ e => by rw [h] at e; cases e) (fun _ e => by rw [h] at e; cases e)
theorem EdgeAt.kit {K : PySem.W.Frag} {H H' : Hp} {a : Addr} {G : NET} {i : LB} {amt : Int} (h : EdgeAt K H a G i amt) (e : KIT H H') : EdgeAt K H' a G i amt := by
  obtain ⟨dx, b, e', h1, h2, h3⟩ := h
  exact ⟨dx, b, e', e.i _ _ _ _ h1, e.t _ _ h2, e.t _ _ h3⟩
theorem putN {H : Hp} {nd b : Addr} {vs : List ND} {v : ND} (h : KT H nd vs fun _ => .bl true) (hb : NdAt H b v) (n : vs.length ≤ 40000) : DPut H nd (.ref b) (.bl true) (L2.upd H nd (.dT (kt (addN vs v) fun _ => .bl true))) := by
  unfold addN
  by_cases m : v ∈ vs
  · rw [if_pos m]
    have := tp (x := .bl true) h hb m n
    rw [kt_congr (h := fun _ => V.bl true) (fun k _ => by split <;> rfl)] at this
    exact this
  · rw [if_neg m]
    have := tpn (x := .bl true) h hb m n
    rw [kt_congr (h := fun _ => V.bl true) (fun k _ => by split <;> rfl)] at this
    exact this
end K55

set_option Elab.async false
set_option linter.all false
set_option maxRecDepth 100000
set_option maxHeartbeats 4000000
namespace K55
open PySem PySem.Spec PyProof.Rows L2 Evl
/-! own rules: dicts with tuples as keys made by a comprehension, a display (they follow the library's rules for dicts with texts as keys) -/
theorem d_dictSetT {X : Cx} {pins : List (Addr × Obj)} {σ : L2.St} {H : Hp} {s : Shared} {E : Value → Shared → Prop} {D a : Addr} {kvs : List (List Key × V)} {k : List Key} {v : V} {u r : Value} {Q : Unit → Shared → Prop} {A : Around} (hu : A.units + 1 < cLine) (I : Inv X pins σ H s) (hD : H D = some (.dT kvs)) (ha : H a = some (.tup (k.map kV))) (hz : kvs.length < sizeLine)
    (ry : RelV (.ref a) u) (rv : RelV v r) (h : ∀ s', Inv X pins σ (upd H D (.dT (putK kvs k v))) s' → Q () s') : wpAny (model X.prog X.w) A (dictSet D u r) Q E s := by
  cases (show u = Value.ref a from ry)
  obtain ⟨z, hd, xs, rel, dd⟩ := dt_of I.hok hD
  have hzv : xs.length ≤ sizeLine := by rw [← Paired.length rel]; exact z
  have hl : (putK kvs k v).length ≤ sizeLine := by have := length_putK kvs k v; omega
  refine wpAny_dictSet_heap (hsz := hzv) (show A.units < cLine by omega) (key_of I.hok ha) dd fun h' dd' hs => h _ ?_
  obtain ⟨q, es, ep, hq, h2, h3, h4, _, h5⟩ := dd'
  refine d_write I (by rw [hD]; exact True.intro) hs ⟨q, hq⟩ ⟨hl, hd, _, (rel.put k ha rv).keeps fun c ys ec => ?_, q, es, ep, hq, h2, h3, h4, h5⟩
  rw [upd_ne (ne_of ec hD (fun z => nomatch z))]
  exact ec
section
variable {X : Cx}
def tDcT (wi : TI) (g : TG) (tt : TT) (tk tv : TE) (vs : List Nat) : TE := fun σ H Q => wi σ H fun J H1 => ∀ D, H1 D = none → ∃ W : Nat → Nat → Hp → Prop, (∃ m, W 0 m (upd H1 D (.dT []))) ∧ ∀ i m H, W i m H →
  (J.stop i H ∧ Q (.ref D) H) ∨ (J.go i H ∧ ∃ Nx : Hp → Prop, (∀ H', Nx H' → ∃ m', m' < m ∧ W (i + 1) m' H') ∧ ∀ x H', J.yld i H x H' → g x (wipe σ vs) H' fun σ2 H2 => wipe σ2 vs = wipe σ vs ∧ tt σ2 H2 fun b H3 =>
    if b = true then tk σ2 H3 fun y H4 => tv σ2 H4 fun z H5 => ∃ kvs k a, y = .ref a ∧ H5 a = some (.tup (k.map kV)) ∧ H5 D = some (.dT kvs) ∧ kvs.length < sizeLine ∧ Nx (upd H5 D (.dT (putK kvs k z))) else Nx H3)
theorem dcT_core {pins : List (Addr × Obj)} {s : Shared} {σ : L2.St} {H : Hp} {Q : VK} {kx vx tg iter : Expr} {ifs : List Expr} {scope : Scope} {own : List (Str × Nat)} {pos pos' : Pos} {wi : TI} {g : TG} {tt : TT} {tk tv : TE} {use : Option (Value → Sem Unit)} {Qf : Value → Shared → Prop}
    (hu : X.A.units + 1 < cLine) (hc : X.calm = true) (hN : X.N.Nodup) (I : Inv X pins σ H s) (hi : PI X tg iter wi) (ok : BlkOk X.N X.env.scope scope own)
    (hg : ∀ (s : Shared) (H : Hp) (C : Addr) (cl : List (Str × Addr)) (fp : List Addr), PG (X.blk s H scope (compEnvC scope cl C X.env) fp) tg g) (ht : ∀ (s : Shared) (H : Hp) (C : Addr) (cl : List (Str × Addr)) (fp : List Addr), PTs (X.blk s H scope (compEnvC scope cl C X.env) fp) ifs tt)
    (hk : ∀ (s : Shared) (H : Hp) (C : Addr) (cl : List (Str × Addr)) (fp : List Addr), PE (X.blk s H scope (compEnvC scope cl C X.env) fp) kx tk)
    (he : ∀ (s : Shared) (H : Hp) (C : Addr) (cl : List (Str × Addr)) (fp : List Addr), PE (X.blk s H scope (compEnvC scope cl C X.env) fp) vx tv) (hs : ∀ x, foldedSetIterable iter X.env x = pure x)
    (h : tDcT wi g tt tk tv (own.map (·.2)) σ H Q)
    (hRR : ∀ D C s' m H', Inv X pins σ H' s' → Q (.ref D) H' → s'.heap.Ns C m → FpOk X pins H' C → compPost (model X.prog X.w) X.A X.xe use Qf (.ref D) C (.ok .next) s') :
    wpAny (model X.prog X.w) X.A (comprehension (.DictComp kx vx [⟨tg, iter, ifs, 0⟩] scope pos) scope X.env pos' newDict false (eval iter X.env) use) Qf X.xe s := by
  have hfree : ∀ y ∈ scope.names, y.2 = .free → ∃ c, X.env.cells.lookup y.1 = some c := fun y hy e => by
    rcases ok.free y hy e with k | k
    · exact I.ok.has _ (.inl k)
    · exact I.ok.has _ (.inr k)
  refine wpAny_comprehension_free (use := use) rfl hs (closure_ok hfree) ok.kind (fun y hy e => by rw [ok.uniq y hy, e])
    (thn (hi.run pins s σ H _ I h) fun xv s1 hx => thn hx fun itv s2 h2 => ?_)
  obtain ⟨it, fp, tn, J, H2, e, I2, T, st2, f2, q⟩ := h2
  subst e
  refine wpAny_newObj_type (newEnv_comp ?_)
  generalize hD : s2.heap.objs.size = D
  have hDn : H2 D = none := I2.hok.fresh (Nat.le_of_eq hD)
  obtain ⟨W, ⟨m0, w0⟩, turn⟩ := q D hDn
  -- the new list
  generalize hs3 : ({ s2 with heap := s2.heap.push { cls := .type "dict", data := .dict #[] } } : Shared) = s3
  have I3 : Inv X pins σ (upd H2 D (.dT [])) s3 := by
    rw [← hs3]
    refine I2.laid (t' := s2.toks) (fun b o e => Heap.get?_push_of_some _ e) (Nat.le_of_eq hD) ?_
    rw [← hD]
    exact dt_empty s2.heap I2.big
  have h3 : s3.heap = s2.heap.push { cls := .type "dict", data := .dict #[] } := by rw [← hs3]
  have sz : ∀ b ∈ fp, b < s2.heap.objs.size := fun b hb => by
    obtain ⟨o, e, _⟩ := T.obj _ _ st2 b hb
    exact Heap.lt_size e
  have f3 : ∀ b ∈ fp, FpOk X pins (upd H2 D (.dT [])) b ∧ b < s3.heap.objs.size := fun b hb => by
    have hlt := sz b hb
    refine ⟨⟨?_, (f2 b hb).2⟩, by rw [h3, Heap.size_push]; exact Nat.lt_succ_of_lt hlt⟩
    rw [upd_ne (by rw [← hD]; exact Nat.ne_of_lt hlt)]
    exact (f2 b hb).1
  have st3 : tn 0 s3.heap := T.keep _ _ _ st2 fun b _ o e => by rw [h3]; exact Heap.get?_push_of_some _ e
  have I4 := block_start I3 ok hN f3
  have pg := hg s3 (upd H2 D (.dT [])) s3.heap.objs.size (cellsFrom (s3.heap.objs.size + 1) scope.names (cloFrom X.env.cells scope.names [])) fp
  have pt := ht s3 (upd H2 D (.dT [])) s3.heap.objs.size (cellsFrom (s3.heap.objs.size + 1) scope.names (cloFrom X.env.cells scope.names [])) fp
  have pk := hk s3 (upd H2 D (.dT [])) s3.heap.objs.size (cellsFrom (s3.heap.objs.size + 1) scope.names (cloFrom X.env.cells scope.names [])) fp
  have pe := he s3 (upd H2 D (.dT [])) s3.heap.objs.size (cellsFrom (s3.heap.objs.size + 1) scope.names (cloFrom X.env.cells scope.names [])) fp
  show codeAny _ _ (.compStart (.DictComp kx vx [⟨tg, iter, ifs, 0⟩] scope pos) 0 (.ref it) (.ref D) (compEnvC scope (cellsFrom (s3.heap.objs.size + 1) scope.names (cloFrom X.env.cells scope.names [])) s3.heap.objs.size X.env)) (compPost (model X.prog X.w) X.A X.xe use Qf (.ref D) s3.heap.objs.size) { s3 with heap := pushCells (s3.heap.push { cls := .type "dict", data := .dict #[] }) scope.names }
  have nfp : ∀ b ∈ fp, (upd H2 D (.dT [])) b = none := fun b hb => (f3 b hb).1.1
  generalize hce : compEnvC scope (cellsFrom (s3.heap.objs.size + 1) scope.names (cloFrom X.env.cells scope.names [])) s3.heap.objs.size X.env = ce at I4 pg pt pk pe ⊢
  have cL : ce.locals = s3.heap.objs.size := by subst hce; rfl
  generalize hH3 : upd H2 D (.dT []) = H3 at I3 I4 pg pt pk pe w0 nfp f3
  generalize hs4 : ({ s3 with heap := pushCells (s3.heap.push { cls := .type "dict", data := .dict #[] }) scope.names } : Shared) = s4 at I4 ⊢
  have st4 : tn 0 s4.heap := T.keep _ _ _ st3 fun b _ o e => by rw [← hs4]; exact pushCells_keeps _ _ _ _ (Heap.get?_push_of_some _ e)
  have stat : ∀ {σ' : L2.St} {H' : Hp} {s' : Shared}, Inv (X.blk s3 H3 scope ce fp) [] σ' H' s' → (∀ b ∈ fp, H' b = none) → ∀ b ∈ fp, FpOk (X.blk s3 H3 scope ce fp) [] H' b := fun {σ' H' s'} I' hn b hb =>
    ⟨hn b hb, (I'.ok.exf b hb).1, I'.ok.exfs b hb, .inl hb, fun x c e => (I'.ok.exf b hb).2 x c e, fun p hp => absurd (show p ∈ ([] : List (Addr × Obj)) ++ [] from hp) (by simp)⟩
  have loop : codeAny (model X.prog X.w) X.A (.compLoop (.DictComp kx vx [⟨tg, iter, ifs, 0⟩] scope pos) 0 (.ref it) (.ref D) ce) (compPost (model X.prog X.w) X.A X.xe use Qf (.ref D) s3.heap.objs.size) s4 := by
    refine compLoop_anyD (fun n s' => ∃ i H', Inv (X.blk s3 H3 scope ce fp) [] (wipe σ (own.map (·.2))) H' s' ∧ tn i s'.heap ∧ (∀ b ∈ fp, H' b = none) ∧ W i n H') ?_ m0 ⟨0, H3, I4, st4, nfp, w0⟩
    rintro n s5 ⟨i, H5, I5, st5, n5, w5⟩
    rcases turn i n H5 w5 with ⟨stop, qq⟩ | ⟨go, Nx, hNx, step⟩
    · have td := T.done (X.blk s3 H3 scope ce fp) rfl rfl rfl hc i [] s5 _ H5 (fun _ _ => False) I5 (stat I5 n5) st5 stop
      refine thnF td fun r s6 ⟨hr, I6⟩ => ?_
      subst hr
      -- back in the def's context
      have I7 : Inv X pins σ H5 s6 := I3.call' (ch := fp) I6.os I6.base I6.hok I6.bare fun b hb => ⟨(f3 b hb).1.2.2.2.1, (f3 b hb).1.2.1, (f3 b hb).1.2.2.2.2.1, (f3 b hb).1.2.2.2.2.2⟩
      have nC : H5 s3.heap.objs.size = none := by
        have z : H5 ce.locals = none := I6.free
        rw [cL] at z
        exact z
      obtain ⟨m, hn, _⟩ := I6.loc
      have hn : s6.heap.Ns ce.locals m := hn
      rw [cL] at hn
      exact hRR D s3.heap.objs.size s6 m H5 I7 qq hn (I3.fpOk (Nat.le_refl _) nC)
    · have ti := T.item (X.blk s3 H3 scope ce fp) rfl rfl rfl hc i [] s5 _ H5 (fun _ _ => False) I5 (stat I5 n5) st5 go
      refine thnF ti fun r s6 ⟨u, hr, h6⟩ => ?_
      subst hr
      refine thnF h6 fun _ s7 ⟨x, H7, I7, r7, y7, st7, n7⟩ => ?_
      have I7' := I7.pinned (stat I7 n7) (T.obj _ _ st7)
      refine thnF (pg.run _ s7 _ H7 x u _ I7' r7 (step x H7 y7)) fun _ s8 ⟨σ8, H8, I8, hw8, q8⟩ => ?_
      refine thnF (pt.run _ s8 σ8 H8 _ I8 q8) fun b s9 ⟨H9, I9, q9⟩ => ?_
      -- the turn's end
      have fin : ∀ {s' : Shared} {H' : Hp}, Inv (X.blk s3 H3 scope ce fp) ([] ++ pinsAt fp s7.heap) σ8 H' s' → Nx H' → ∃ m, m < n ∧ ∃ i H', Inv (X.blk s3 H3 scope ce fp) [] (wipe σ (own.map (·.2))) H' s' ∧ tn i s'.heap ∧ (∀ b ∈ fp, H' b = none) ∧ W i m H' := fun {s' H'} I' nx => by
        obtain ⟨m', hm, w'⟩ := hNx H' nx
        have pin' : ∀ b ∈ fp, ∀ o, s7.heap.get? b = some o → s'.heap.get? b = some o ∧ H' b = none := fun b hb o e =>
          let z := I'.pin (b, o) (List.mem_append_right _ (List.mem_append_right _ (mem_pinsAt hb e)))
          ⟨z.1, z.2.1⟩
        have hl : (wipe σ (own.map (·.2))).length = σ8.length := by rw [← hw8, wipe_length]
        refine ⟨m', hm, i + 1, H', (I'.unpinned (pins := [])).weak hl (fun j v e => ?_), T.keep _ _ _ st7 fun b hb o e => (pin' b hb o e).1, fun b hb => ?_, w'⟩
        · rw [← hw8] at e
          exact (wipe_some e).1
        · obtain ⟨o, e, _⟩ := T.obj _ _ st7 b hb
          exact (pin' b hb o e).2
      cases b with
      | false =>
        simp only [Bool.false_eq_true, if_false] at q9 ⊢
        exact fin I9 q9
      | true =>
        simp only [if_true] at q9 ⊢
        refine thnF (pk.run _ s9 σ8 H9 _ I9 q9) fun z s10 ⟨yk, H10, I10, r10, q10⟩ => ?_
        refine thnF (pe.run _ s10 σ8 H10 _ I10 q10) fun z2 s11 ⟨yv, H11, I11, r11, kvs, k, ka, ek, hka, hD11, hz11, nx⟩ => ?_
        subst ek
        exact d_dictSetT (X := X.blk s3 H3 scope ce fp) hu I11 hD11 hka hz11 r10 r11 fun s12 I12 => fin I12 nx
  exact codeAny_compStart_dict loop (T.self X.A 0 _ _ _ st4 loop)
/-- as a value -/
theorem pe_dcT {kx vx tg iter : Expr} {ifs : List Expr} {scope : Scope} {own : List (Str × Nat)} {pos : Pos} {wi : TI} {g : TG} {tt : TT} {tk tv : TE} (hu : X.A.units + 1 < cLine) (hc : X.calm = true) (hN : X.N.Nodup) (hi : PI X tg iter wi) (ok : BlkOk X.N X.env.scope scope own)
    (hg : ∀ (s : Shared) (H : Hp) (C : Addr) (cl : List (Str × Addr)) (fp : List Addr), PG (X.blk s H scope (compEnvC scope cl C X.env) fp) tg g) (ht : ∀ (s : Shared) (H : Hp) (C : Addr) (cl : List (Str × Addr)) (fp : List Addr), PTs (X.blk s H scope (compEnvC scope cl C X.env) fp) ifs tt)
    (hk : ∀ (s : Shared) (H : Hp) (C : Addr) (cl : List (Str × Addr)) (fp : List Addr), PE (X.blk s H scope (compEnvC scope cl C X.env) fp) kx tk)
    (he : ∀ (s : Shared) (H : Hp) (C : Addr) (cl : List (Str × Addr)) (fp : List Addr), PE (X.blk s H scope (compEnvC scope cl C X.env) fp) vx tv) (hs : ∀ x, foldedSetIterable iter X.env x = pure x := by intro _; rfl) :
    PE X (.DictComp kx vx [⟨tg, iter, ifs, 0⟩] scope pos) (tDcT wi g tt tk tv (own.map (·.2))) := by
  refine ⟨fun pins s σ H Q I h => ?_⟩
  rw [arm_eval_DictComp]
  refine dcT_core hu hc hN I hi ok hg ht hk he hs h fun D C s' m H' I' q hn f => ⟨m, hn, fun h'' sb => ?_⟩
  obtain ⟨f0, f1, f2, f3, f4, f5⟩ := f
  exact ⟨.ref D, H', I'.turned (t' := s'.toks) (fun b o hb e => (sb.2 b hb).trans e) f0 f1 f3 f4 f5, rfl, q⟩
theorem ps_setDcT {i : Nat} {y : Str} {py : Pos} {kx vx tg iter : Expr} {ifs : List Expr} {scope : Scope} {own : List (Str × Nat)} {pos spos : Pos} {wi : TI} {g : TG} {tt : TT} {tk tv : TE} (hu : X.A.units + 1 < cLine) (hc : X.calm = true) (hN : X.N.Nodup) (hy : X.N[i]? = some y) (hyl : X.env.scope.names.lookup y = some .local)
    (hsw : swapsWith (.DictComp kx vx [⟨tg, iter, ifs, 0⟩] scope pos) (some (.Name y py)) spos.line X.env = pure true) (hi : PI X tg iter wi) (ok : BlkOk X.N X.env.scope scope own)
    (hg : ∀ (s : Shared) (H : Hp) (C : Addr) (cl : List (Str × Addr)) (fp : List Addr), PG (X.blk s H scope (compEnvC scope cl C X.env) fp) tg g) (ht : ∀ (s : Shared) (H : Hp) (C : Addr) (cl : List (Str × Addr)) (fp : List Addr), PTs (X.blk s H scope (compEnvC scope cl C X.env) fp) ifs tt)
    (hk : ∀ (s : Shared) (H : Hp) (C : Addr) (cl : List (Str × Addr)) (fp : List Addr), PE (X.blk s H scope (compEnvC scope cl C X.env) fp) kx tk)
    (he : ∀ (s : Shared) (H : Hp) (C : Addr) (cl : List (Str × Addr)) (fp : List Addr), PE (X.blk s H scope (compEnvC scope cl C X.env) fp) vx tv) (hs : ∀ x, foldedSetIterable iter X.env x = pure x := by intro _; rfl) :
    PS X (.Assign [.Name y py] (.DictComp kx vx [⟨tg, iter, ifs, 0⟩] scope pos) spos) (tAsg (tDcT wi g tt tk tv (own.map (·.2))) (gName i)) := by
  refine ⟨fun pins s σ H D I h => ?_⟩
  rw [exec_Assign_Name_used _ _ _ _ hsw]
  refine wpAny_bind (wpAny_standAt (wpAny_bind ?_))
  show wpAny _ X.A (do let _ ← comprehension (.DictComp kx vx [⟨tg, iter, ifs, 0⟩] scope pos) scope X.env (firstIterPos [⟨tg, iter, ifs, 0⟩] pos) newDict false (eval iter X.env) (some (assign (.Name y py) X.env))) _ _ s
  have h : tDcT wi g tt tk tv (own.map (·.2)) σ H (fun x H1 => gName i x σ H1 D.nx) := h
  refine wpAny_bind (thn (dcT_core (Qf := fun _ s' => SP X pins D .next s') hu hc hN I hi ok hg ht hk he hs h fun L C s' m H' I' q hn f => ?_) fun _ s' hq => wpAny_pure (wpAny_pure hq))
  show wpAny _ _ (assign (.Name y py) X.env (.ref L)) _ _ _
  refine wpAny_assign_Name (store_ok2 (v := V.ref L) I' hN hy (.inl hyl) rfl (fun s2 I2 ⟨a, sb, ha⟩ => ?_) (.inr hyl))
  obtain ⟨f0, f1, f2, f3, f4, f5⟩ := f
  have haC : C ≠ a := by
    rcases ha with z | z
    · rw [z]; exact f1
    · exact fun e => f4 y a z e.symm
  refine ⟨m, hn.sameBut sb haC, fun h3 sb3 => ?_⟩
  exact ⟨_, H', I2.turned (t' := s2.toks) (fun b o hb e => (sb3.2 b hb).trans e) f0 f1 f3 f4 f5, q⟩
/-- {k: v}, k a tuple -/
def tDispT (tk tv : TE) : TE := fun σ H Q => ∀ p, H p = none → tk σ (upd H p (.dT [])) fun x H1 => tv σ H1 fun y H2 => ∃ a k, x = .ref a ∧ H2 a = some (.tup (k.map kV)) ∧ H2 p = some (.dT []) ∧ Q (.ref p) (upd H2 p (.dT [(k, y)]))
theorem pe_dispT {pos : Pos} {k v : Expr} {tk tv : TE} (hu : X.A.units + 1 < cLine) (hk : PE X k tk) (hv : PE X v tv) : PE X (.Dict [some k] [v] pos) (tDispT tk tv) := by
  refine ⟨fun pins s σ H Q I q => ?_⟩
  have hn := I.hok.fresh (Nat.le_refl s.heap.objs.size)
  have I1 := I.laid (a := s.heap.objs.size) (o := .dT []) (h' := s.heap.push { cls := .type "dict", data := .dict #[] }) (t' := s.toks) (fun _ _ q => Heap.get?_push_of_some _ q) (Nat.le_refl _) (dt_empty s.heap I.big)
  refine wpAny_Dict_any rfl rfl (by simp) (by show 1 ≤ 15; decide) (pairTrees_cons_walk (thn (hk.run pins _ σ _ _ I1 (q _ hn)) fun u s1 ⟨x, H1, I2, rx, q1⟩ => thn (hv.run pins s1 σ H1 _ I2 q1) fun w2 s2 ⟨y, H2, I3, ry, a, kk, ex, ha, hp, q2⟩ => pairTrees_nil_walk ?_))
  subst ex
  unfold storeAll
  rw [List.forIn_cons]
  refine wpAny_bind (wpAny_bind (d_dictSetT hu I3 hp ha (by rw [sizeLine_eq]; simp) rx ry fun s3 I4 => wpAny_pure ?_))
  dsimp only
  rw [List.forIn_nil]
  exact wpAny_pure ⟨.ref s.heap.objs.size, _, I4, rfl, q2⟩
end
/-- [e for z in xs if ..], xs a list of told values -/
theorem lcv {α : Type} [Inhabited α] {K : PySem.W.Frag} {σ : L2.St} {H : Hp} {Q : VK} {gg : TG} {tt : TT} {te td : TE} {vs : List Nat} {a : Addr} (xs : List α) (val : α → V) (hx : SqL K H a (xs.map val)) (hn : xs.length ≤ 40000) (hd : ∀ (Q' : VK), Q' (.ref a) H → td σ H Q') (f : α → Bool) (v : α → V)
    (turn : ∀ z ∈ xs, ∀ H1, Ex H H1 → ∀ (Qy : V → Hp → Prop) (Qn : Hp → Prop), (f z = true → ∀ H4, Ex H1 H4 → Qy (v z) H4) → (f z = false → ∀ H3, Ex H1 H3 → Qn H3) →
      gg (val z) (wipe σ vs) H1 fun σ2 H2 => wipe σ2 vs = wipe σ vs ∧ tt σ2 H2 fun b H3 => if b = true then te σ2 H3 Qy else Qn H3)
    (k : ∀ p H2, H p = none → Ex H H2 → H2 p = some (.lst ((xs.filter f).map v)) → Q (.ref p) H2) : tLc (iList K td) gg tt te vs σ H Q := by
  refine hd _ ⟨a, rfl, ⟨_, hx⟩, fun D hD => ?_⟩
  refine lc_val (Src.list hx) (Ex.refl _) hD (by rw [List.length_map]; exact hn) (fun i => f (xs.getD i default)) (fun i => v (xs.getD i default)) (fun i x H1 hi e y Qy Qn h1 h2 => ?_) fun H2 e2 h2 => ?_
  · rw [List.getElem?_map] at y
    cases hz : xs[i]? with
    | none => rw [hz] at y; cases y
    | some z =>
      rw [hz] at y
      cases y
      rw [getD_of hz] at h1 h2
      exact turn z (mem_of_at hz) H1 e Qy Qn h1 h2
  · rw [List.length_map, range_fm] at h2
    exact k D H2 hD e2 h2
/-- for z in xs: the list read by td at this heap -/
theorem forlF {K : PySem.W.Frag} {σ : L2.St} {H : Hp} {g : TG} {td : TE} {a : Addr} {D : Ends} {tb : TS} {xs : List V} (hx : SqL K H a xs) (hd : ∀ (Q' : VK), Q' (.ref a) H → td σ H Q') (Pv : Nat → L2.St → Hp → Prop) (h0 : Pv 0 σ H) (hG : ∀ i σ' H', Pv i σ' H' → SqL K H' a xs)
    (turn : ∀ i x σ' H', xs[i]? = some x → Pv i σ' H' → g x σ' H' fun σ2 H2 => tb ⟨Pv (i + 1), D.rt, D.nx, Pv (i + 1)⟩ σ2 H2) (hE : ∀ σ' H', Pv xs.length σ' H' → D.nx σ' H') : tFor (iList K td) g tb D σ H := by
  have h := (forl (td := tC (.ref a)) hx (fun H1 Q' q' => q') Pv h0 hG turn hE : tFor (iList K (tC (.ref a))) g tb D σ H)
  exact hd _ h
end K55

set_option Elab.async false
set_option linter.all false
set_option maxRecDepth 100000
set_option maxHeartbeats 4000000
namespace K55
open PySem PySem.Spec PyProof.Rows L2 Evl
open K55M (Nd Lb Net Arc Fnd Lay FlowOk BF Closed IsWay Plan)
theorem le2' : 2 ≤ sizeLine := by rw [sizeLine_eq]; omega
theorem le3' : 3 ≤ sizeLine := by rw [sizeLine_eq]; omega
section
variable {P : Program} {w : World} {K : PySem.W.Frag} {mg : Str → Option Value} {base : Heap}
/-! ### Edge(..) -/
def spEdgeInit (K : PySem.W.Frag) : Sp := fun vs H Q _ => ∃ (x dx b e : Addr) (lo hi pr : Int), vs = [.ref x, .ref b, .ref e, .int lo, .int hi, .int pr] ∧ H x = some (.ins (He.ga K "Edge") dx []) ∧
  ∀ H', ExB x H H' → H' x = some (.ins (He.ga K "Edge") dx [("begin", .ref b), ("end", .ref e), ("low", .int lo), ("high", .int hi), ("price", .int pr), ("amount", .int 0)]) → Q .non H'
theorem sc_Edge_init : FnScope ["self", "begin", "end", "low", "high", "price"] ["self", "begin", "end", "low", "high", "price"] (defScope s_Edge_init) := ⟨rfl, rfl, rfl, by decide +kernel, rfl, by decide +kernel, by decide +kernel⟩
theorem ok_Edge_init (T : Txt K mg) : EntC P w K mg base CX0 1 "Edge" (He.ga K "Edge") ["self", "begin", "end", "low", "high", "price"] (spEdgeInit K) := by
  obtain ⟨fd, F⟩ := T.f_Edge_init
  refine EntC.mk' T.g_Edge T.k_Edge F (FunD.ok0 F sc_Edge_init (fun vs H Q E h => ?_) (fun cdv A outer s H vs Q E hr h => ?_)) (fun _ _ _ _ _ _ us hl => match us, hl with | [_, _, _, _, _, _], _ => rfl)
  · obtain ⟨x, dx, b, e, lo, hi, pr, rfl, hx, q⟩ := h
    rfl
  · obtain ⟨x, dx, b, e, lo, hi, pr, rfl, hx, q⟩ := h
    refine ⟨_, (pss_cons (ps_fld (pv 0) (pv 1) rfl)
      (pss_cons (ps_fld (pv 0) (pv 2) rfl)
      (pss_cons (ps_fld (pv 0) (pv 3) rfl)
      (pss_cons (ps_fld (pv 0) (pv 4) rfl)
      (pss_cons (ps_fld (pv 0) (pv 5) rfl)
      (pss_one (ps_fld (pv 0) pe_int rfl))))))), ?_⟩
    refine ⟨_, rfl, _, rfl, x, _, dx, _, rfl, hx, T.c_Edge, T.a_Edge_begin, (of_decide_eq_true (by rfl)), ?_⟩
    refine ⟨_, rfl, _, rfl, x, _, dx, _, rfl, upd_same, T.c_Edge, T.a_Edge_end, (of_decide_eq_true (by rfl)), ?_⟩
    refine ⟨_, rfl, _, rfl, x, _, dx, _, rfl, upd_same, T.c_Edge, T.a_Edge_low, (of_decide_eq_true (by rfl)), ?_⟩
    refine ⟨_, rfl, _, rfl, x, _, dx, _, rfl, upd_same, T.c_Edge, T.a_Edge_high, (of_decide_eq_true (by rfl)), ?_⟩
    refine ⟨_, rfl, _, rfl, x, _, dx, _, rfl, upd_same, T.c_Edge, T.a_Edge_price, (of_decide_eq_true (by rfl)), ?_⟩
    refine ⟨_, rfl, x, _, dx, _, rfl, upd_same, T.c_Edge, T.a_Edge_amount, (of_decide_eq_true (by rfl)), ?_⟩
    exact q _ (((((ExB.refl x H).upd.upd).upd).upd).upd).upd upd_same
/-! ### Flow(..) -/
def spFlowInit (K : PySem.W.Frag) : Sp := fun vs H Q _ => ∃ (x dx : Addr) (many : Int), vs = [.ref x, .int many] ∧ H x = some (.ins (He.ga K "Flow") dx []) ∧
  ∀ H' el nd, H el = none → H nd = none → el ≠ nd → ExB x H H' → H' x = some (.ins (He.ga K "Flow") dx [("many", .int many), ("edges", .ref el), ("nodes", .ref nd)]) → H' el = some (.lst []) → H' nd = some (.dT []) → Q .non H'
theorem sc_Flow_init : FnScope ["self", "many"] ["self", "many"] (defScope s_Flow_init) := ⟨rfl, rfl, rfl, by decide +kernel, rfl, by decide +kernel, by decide +kernel⟩
theorem ok_Flow_init (T : Txt K mg) : EntC P w K mg base CX0 1 "Flow" (He.ga K "Flow") ["self", "many"] (spFlowInit K) := by
  obtain ⟨fd, F⟩ := T.f_Flow_init
  refine EntC.mk' T.g_Flow T.k_Flow F (FunD.ok0 F sc_Flow_init (fun vs H Q E h => ?_) (fun cdv A outer s H vs Q E hr h => ?_)) (fun _ _ _ _ _ _ us hl => match us, hl with | [_, _], _ => rfl)
  · obtain ⟨x, dx, many, rfl, hx, q⟩ := h
    rfl
  · obtain ⟨x, dx, many, rfl, hx, q⟩ := h
    refine ⟨_, (pss_cons (ps_fld (pv 0) (pv 1) rfl)
      (pss_cons (ps_fld (pv 0) (pe_lst pa_nil) rfl)
      (pss_one (ps_fld (pv 0) pe_dnewT rfl)))), ?_⟩
    refine ⟨_, rfl, _, rfl, x, _, dx, _, rfl, hx, T.c_Flow, T.a_Flow_many, (of_decide_eq_true (by rfl)), ?_⟩
    refine ⟨Nat.zero_le _, fun el hel => ?_⟩
    have n1 : el ≠ x := fun e => by rw [e, upd_same] at hel; cases hel
    have hel0 : H el = none := by rw [upd_ne n1] at hel; exact hel
    refine ⟨_, rfl, x, _, dx, _, rfl, (upd_ne n1.symm).trans upd_same, T.c_Flow, T.a_Flow_edges, (of_decide_eq_true (by rfl)), ?_⟩
    refine fun nd hnd => ?_
    have n2 : nd ≠ x := fun e => by rw [e, upd_same] at hnd; cases hnd
    have n3 : nd ≠ el := fun e => by rw [e, upd_ne n1, upd_same] at hnd; cases hnd
    have hnd0 : H nd = none := by rw [upd_ne n2, upd_ne n3, upd_ne n2] at hnd; exact hnd
    refine ⟨_, rfl, x, _, dx, _, rfl, (upd_ne n2.symm).trans upd_same, T.c_Flow, T.a_Flow_nodes, (of_decide_eq_true (by rfl)), ?_⟩
    refine q _ el nd hel0 hnd0 n3.symm ?_ upd_same ((upd_ne n1).trans ((upd_ne n3.symm).trans ((upd_ne n1).trans upd_same))) ((upd_ne n2).trans upd_same)
    intro b o hb h
    rw [upd_ne hb, upd_ne (ne_of_none h hnd0), upd_ne hb, upd_ne (ne_of_none h hel0), upd_ne hb]
    exact h
/-! ### Flow.edge -/
def spFlowEdge (K : PySem.W.Frag) : Sp := fun vs H Q _ => ∃ (G : NET) (x dx el nd b e : Addr) (E : LB → Addr) (ls : List LB) (many : Int) (i : LB), vs = [.ref x, .ref b, .ref e, .int (G.lo i), .int (G.hi i), .int (G.pr i)] ∧
  FlowAt K H x dx el nd E G ls (fun _ => 0) many ∧ NdAt H b (G.bg i) ∧ NdAt H e (G.en i) ∧ i ∉ ls ∧ okN (G.bg i) ∧ okN (G.en i) ∧ ls.length ≤ 5000 ∧
  ∀ H' E', (∀ b o, b ≠ el → b ≠ nd → H b = some o → H' b = some o) → (∀ j ∈ ls, E' j = E j) → H (E' i) = none → FlowAt K H' x dx el nd E' G (ls ++ [i]) (fun _ => 0) many → Q .non H'
theorem sc_Flow_edge : FnScope ["self", "begin", "end", "low", "high", "price"] ["self", "begin", "end", "low", "high", "price"] (defScope s_Flow_edge) := ⟨rfl, rfl, rfl, by decide +kernel, rfl, by decide +kernel, by decide +kernel⟩
theorem ok_Flow_edge (T : Txt K mg) : EntM P w K mg base CX0 3 (He.ga K "Flow") "edge" ["self", "begin", "end", "low", "high", "price"] (spFlowEdge K) := by
  obtain ⟨fd, F⟩ := T.f_Flow_edge
  have e_Edge := ok_Edge_init (P := P) (w := w) (base := base) T
  refine EntM.mk' T.m_Flow_edge F (FunD.ok0 F sc_Flow_edge (fun vs H Q E h => ?_) (fun cdv A outer s H vs Q E hr h => ?_)) (fun _ _ _ _ _ _ us hl => match us, hl with | [_, _, _, _, _, _], _ => rfl)
  · obtain ⟨G, x, dx, el, nd, b, e, E', ls, many, i, rfl, fl, hb, he, hi, ok1, ok2, n5, q⟩ := h
    rfl
  · obtain ⟨G, x, dx, el, nd, b, e, E', ls, many, i, rfl, fl, hb, he, hi, ok1, ok2, n5, q⟩ := h
    refine ⟨_, (pss_cons (ps_expr (pe_bm PySem.F.plainAttrs_list PySem.F.slot_list_append PySem.F.type_list_append mt_append (pe_fldK (K := K) rfl (pv 0) rfl) (pa_cons (pe_ec e_Edge (hr.mono (by decide)) pass0 (pa_cons (pv 1) (pa_cons (pv 2) (pa_cons (pv 3) (pa_cons (pv 4) (pa_cons (pv 5) pa_nil)))))) pa_nil)))
      (pss_cons (ps_dput (hu_of hr) (pe_fldK (K := K) rfl (pv 0) rfl) (pv 1) pe_bl rfl)
      (pss_one (ps_dput (hu_of hr) (pe_fldK (K := K) rfl (pv 0) rfl) (pv 2) pe_bl rfl)))), ?_⟩
    refine ⟨_, rfl, x, _, dx, _, _, rfl, fl.o, T.c_Flow, T.a_Flow_edges, rfl, .inl ⟨rfl, _, sql fl.e⟩, ?_⟩
    refine ⟨_, rfl, _, rfl, _, rfl, _, rfl, _, rfl, fun ed dd hed hdd hne => ?_⟩
    refine ⟨ed, dd, b, e, G.lo i, G.hi i, G.pr i, rfl, upd_same, fun H1 eb hed1 => ⟨rfl, ?_⟩⟩
    have e1 := mk_ex hed hdd eb
    have fl1 := fl.ex e1
    refine ⟨el, _, _, rfl, rfl, fl1.e, by rw [List.length_map]; exact sz_lt (by omega), ?_⟩
    have nen : el ≠ nd := fun h => by have := fl.e; rw [h, fl.n] at this; cases this
    have k1 : KIT H1 (upd H1 el (.lst (ls.map (fun i => V.ref (E' i)) ++ [.ref ed]))) := KIT.updL fl1.e
    have hn2 : KT (upd H1 el (.lst (ls.map (fun i => V.ref (E' i)) ++ [.ref ed]))) nd (ndsOf G ls) fun _ => .bl true := (upd_ne nen.symm).trans fl1.n
    have l0 := ndsOf_len G ls
    refine ⟨_, rfl, x, _, dx, _, _, rfl, k1.i _ _ _ _ fl1.o, T.c_Flow, T.a_Flow_nodes, rfl, _, rfl, nd, _, rfl, putN hn2 (k1.t _ _ (e1 _ _ hb)) (by omega), ?_⟩
    have k2 := k1.trans (KIT.updT (o := .dT (kt (addN (ndsOf G ls) (G.bg i)) fun _ => .bl true)) hn2)
    have l1 := addN_len (ndsOf G ls) (G.bg i)
    refine ⟨_, rfl, x, _, dx, _, _, rfl, k2.i _ _ _ _ fl1.o, T.c_Flow, T.a_Flow_nodes, rfl, _, rfl, nd, _, rfl, putN upd_same (k2.t _ _ (e1 _ _ he)) (by omega), ?_⟩
    have k3 := k2.trans (KIT.updT (o := .dT (kt (addN (addN (ndsOf G ls) (G.bg i)) (G.en i)) fun _ => .bl true)) upd_same)
    have ned : ∀ j ∈ ls, E' j ≠ ed := fun j hj h => by
      obtain ⟨_, _, _, h1, _⟩ := fl.at_ j hj
      rw [h, hed] at h1; cases h1
    refine q _ (fun j => if j = i then ed else E' j) ?_ (fun j hj => if_neg (fun h : j = i => hi (h ▸ hj))) (by rw [if_pos rfl]; exact hed) ⟨k3.i _ _ _ _ fl1.o, ?_, ?_, fun j hj => ?_, fun j hj k hk h => ?_, fun j hj => ?_⟩
    · intro b o h1 h2 h3
      rw [upd_ne h2, upd_ne h2, upd_ne h1]
      exact e1 _ _ h3
    · refine (upd_ne nen).trans ((upd_ne nen).trans (upd_same.trans (congrArg some (congrArg HO.lst ?_))))
      rw [List.map_append]
      have : ls.map (fun i_1 => V.ref (if i_1 = i then ed else E' i_1)) = ls.map fun i => V.ref (E' i) := List.map_congr_left fun j hj => by
        rw [if_neg (fun h : j = i => hi (h ▸ hj))]
      rw [this]
      show _ = _ ++ [V.ref (if i = i then ed else E' i)]
      rw [if_pos rfl]
    · rw [ndsOf_snoc]; exact upd_same
    · rcases List.mem_append.mp hj with hj | hj
      · rw [if_neg (fun h : j = i => hi (h ▸ hj))]
        exact (fl1.at_ j hj).kit k3
      · rw [List.mem_singleton] at hj
        subst hj
        rw [if_pos rfl]
        exact ⟨dd, b, e, k3.i _ _ _ _ hed1, k3.t _ _ (e1 _ _ hb), k3.t _ _ (e1 _ _ he)⟩
    · rcases List.mem_append.mp hj with hj | hj <;> rcases List.mem_append.mp hk with hk | hk
      · rw [if_neg (fun h : j = i => hi (h ▸ hj)), if_neg (fun h : k = i => hi (h ▸ hk))] at h
        exact fl.inj j hj k hk h
      · rw [List.mem_singleton] at hk
        rw [if_neg (fun h : j = i => hi (h ▸ hj)), if_pos hk] at h
        exact absurd h (ned j hj)
      · rw [List.mem_singleton] at hj
        rw [if_pos hj, if_neg (fun h : k = i => hi (h ▸ hk))] at h
        exact absurd h.symm (ned k hk)
      · rw [List.mem_singleton] at hj hk
        rw [hj, hk]
    · rcases List.mem_append.mp hj with hj | hj
      · exact fl.ok j hj
      · rw [List.mem_singleton] at hj
        subst hj
        exact ⟨ok1, ok2⟩
/-! ### Flow.through -/
instance : Inhabited LB := ⟨.src default⟩
def thr (G : NET) (ls : List LB) (f : LB → Int) (u v : ND) : Int := ((ls.filter fun i => decide (G.bg i = u) && decide (G.en i = v)).map f).sum
def spFlowThrough (K : PySem.W.Frag) : Sp := fun vs H Q _ => ∃ (G : NET) (x dx el nd b e : Addr) (E : LB → Addr) (ls : List LB) (f : LB → Int) (many : Int) (u v : ND), vs = [.ref x, .ref b, .ref e] ∧
  FlowAt K H x dx el nd E G ls f many ∧ NdAt H b u ∧ NdAt H e v ∧ okN u ∧ okN v ∧ ls.length ≤ 5000 ∧ ∀ H', Ex H H' → Q (.int (thr G ls f u v)) H'
theorem sc_Flow_through : FnScope ["self", "begin", "end", "edge"] ["self", "begin", "end"] (defScope s_Flow_through) := ⟨rfl, rfl, rfl, by decide +kernel, rfl, by decide +kernel, by decide +kernel⟩
theorem ok_Flow_through (T : Txt K mg) : EntM P w K mg base CX0 1 (He.ga K "Flow") "through" ["self", "begin", "end"] (spFlowThrough K) := by
  obtain ⟨fd, F⟩ := T.f_Flow_through
  refine EntM.mk' T.m_Flow_through F (FunD.ok0 F sc_Flow_through (fun vs H Q E h => ?_) (fun cdv A outer s H vs Q E hr h => ?_)) (fun _ _ _ _ _ _ us hl => match us, hl with | [_, _, _], _ => rfl)
  · obtain ⟨G, x, dx, el, nd, b, e, E', ls, f, many, u, v, rfl, fl, hb, he, ok1, ok2, n5, q⟩ := h
    rfl
  · obtain ⟨G, x, dx, el, nd, b, e, E', ls, f, many, u, v, rfl, fl, hb, he, ok1, ok2, n5, q⟩ := h
    refine ⟨_, (pss_one (ps_ret (pe_callB (cr_sumK (K := K) rfl rfl) (by rfl) T.n_sum (by decide +kernel) (pa_cons (pe_lc (own := [("edge", 3)]) (g := gName 3) (tt := _) rfl sc_Flow_through.nd (pi_listK (K := K) rfl (pe_fldK (K := K) rfl (pv 0) rfl)) (blkOk_by (N := ["self", "begin", "end", "edge"]) (sc := defScope s_Flow_through) (by decide +kernel)) (fun _ _ _ _ _ => (pg_name (i := 3) sc_Flow_through.nd rfl (Or.inl rfl))) (fun _ _ _ _ _ => (pts_one (PW.pt (pw_and (pt_cmpR (op_eqDK (K := K) rfl hr.units) (pe_fldK (K := K) rfl (pv 3) rfl) (pv 1) (nomark _)) (pw_and1 (pt_cmpR (op_eqDK (K := K) rfl hr.units) (pe_fldK (K := K) rfl (pv 3) rfl) (pv 2) (nomark _))))))) (fun _ _ _ _ _ => (pe_fldK (K := K) rfl (pv 3) rfl))) pa_nil)))), ?_⟩
    dsimp only [tSeq_ap, tAsg_ap, gName_ap, tC_ap, tNext_ap, tRet_ap, tAndV_ap, tCB_ap, tCons_ap, tNil_ap, tB_ap, tTest_ap, tNot_ap, tOr_ap, tAnd_ap, tIfS_ap, tOp_ap, tDrop_ap]
    refine lcv ls (fun i => V.ref (E' i)) (sql fl.e) (by omega) (fun Q' q' => ⟨_, rfl, x, _, dx, _, _, rfl, fl.o, T.c_Flow, T.a_Flow_edges, rfl, q'⟩) (fun i => decide (G.bg i = u) && decide (G.en i = v)) (fun i => .int (f i)) (fun i hi H1 e1 Qy Qn g1 g2 => ?_) fun p H2 hp e2 h2 => ?_
    · obtain ⟨de, bb, ee, h1, h2, h3⟩ := (fl.at_ i hi).ex e1
      refine ⟨rfl, ?_⟩
      refine ⟨_, rfl, _, _, de, _, _, rfl, h1, T.c_Edge, T.a_Edge_begin, rfl, ?_⟩
      refine ⟨_, rfl, nk_eq h2 (e1 _ _ hb) (fl.ok i hi).1 ok1 ⟨_, rfl, ?_⟩⟩
      by_cases q1 : G.bg i = u
      · rw [decide_eq_true q1]
        refine iteT ⟨_, rfl, _, _, de, _, _, rfl, h1, T.c_Edge, T.a_Edge_end, rfl, ?_⟩
        refine ⟨_, rfl, nk_eq h3 (e1 _ _ he) (fl.ok i hi).2 ok2 ⟨_, rfl, ?_⟩⟩
        by_cases q2 : G.en i = v
        · rw [decide_eq_true q2]
          exact iteT ⟨_, rfl, _, _, de, _, _, rfl, h1, T.c_Edge, T.a_Edge_amount, rfl, g1 (by rw [decide_eq_true q1, decide_eq_true q2]; rfl) _ (Ex.refl _)⟩
        · rw [decide_eq_false q2]
          exact iteF (g2 (by rw [decide_eq_false q2, Bool.and_false]) _ (Ex.refl _))
      · rw [decide_eq_false q1]
        exact iteF (iteF (g2 (by rw [decide_eq_false q1, Bool.false_and]) _ (Ex.refl _)))
    · refine ⟨p, ((ls.filter fun i => decide (G.bg i = u) && decide (G.en i = v)).map f), rfl, sql (by rw [h2, List.map_map]; rfl), q H2 e2⟩
/-! ### better -/
open K55M (sg)
abbrev FND := Fnd ND LB
def qV (E : LB → Addr) : Option (Arc LB) → V
  | none => .non
  | some a => .ref (E a.1)
def qC : Option (Arc LB) → Int
  | none => 0
  | some a => sg a.2
structure FndAt (H : Hp) (a : Addr) (E : LB → Addr) (ns : List ND) (F : FND) (vs : List ND) (T : ND → Addr) : Prop where
  d : KT H a vs (fun v => .ref (T v))
  nd : vs.Nodup
  dom : ∀ v, v ∈ vs ↔ (F v).isSome = true
  ns : ∀ v ∈ vs, v ∈ ns
  val : ∀ v ∈ vs, ∀ d q, F v = some (d, q) → H (T v) = some (.tup [.int d, qV E q, .int (qC q)])
theorem FndAt.ex {H H' : Hp} {a : Addr} {E : LB → Addr} {ns : List ND} {F : FND} {vs : List ND} {T : ND → Addr} (h : FndAt H a E ns F vs T) (e : Ex H H') : FndAt H' a E ns F vs T := ⟨e _ _ h.d, h.nd, h.dom, h.ns, fun v hv d q hF => e _ _ (h.val v hv d q hF)⟩
theorem FndAt.len {H : Hp} {a : Addr} {E : LB → Addr} {ns : List ND} {F : FND} {vs : List ND} {T : ND → Addr} (h : FndAt H a E ns F vs T) : vs.length ≤ ns.length := K55M.nodup_le vs ns h.nd h.ns
theorem FndAt.put {H : Hp} {a b t : Addr} {E : LB → Addr} {ns : List ND} {F : FND} {vs : List ND} {T : ND → Addr} (h : FndAt H a E ns F vs T) {v : ND} (hb : NdAt H b v) (hv : v ∈ ns) (n : ns.length ≤ 10000) {d : Int} {q : Option (Arc LB)} (ht : H t = some (.tup [.int d, qV E q, .int (qC q)])) :
    ∃ H' vs' T', DPut H a (.ref b) (.ref t) H' ∧ ExB a H H' ∧ FndAt H' a E ns (fun u => if u = v then some (d, q) else F u) vs' T' := by
  have hl := h.len
  have na : ∀ u ∈ vs, T u ≠ a := fun u hu e => by
    have := (h.dom u).mp hu
    obtain ⟨⟨d', q'⟩, e'⟩ := Option.isSome_iff_exists.mp this
    have := h.val u hu d' q' e'
    rw [e, h.d] at this
    cases this
  have nta : t ≠ a := fun e => by rw [e, h.d] at ht; cases ht
  by_cases m : v ∈ vs
  · refine ⟨_, vs, fun u => if u = v then t else T u, tp h.d hb m (by omega), (ExB.refl a H).upd, ⟨upd_same.trans (congrArg some (congrArg HO.dT (kt_congr fun u _ => ?_))), h.nd, fun u => ?_, h.ns, fun u hu d' q' hF => ?_⟩⟩
    · by_cases e : u = v
      · rw [if_pos e, if_pos e]
      · rw [if_neg e, if_neg e]
    · by_cases e : u = v
      · rw [if_pos e, e]; exact ⟨fun _ => rfl, fun _ => m⟩
      · rw [if_neg e]; exact h.dom u
    · by_cases e : u = v
      · rw [if_pos e] at hF ⊢
        cases hF
        exact (upd_ne nta).trans ht
      · rw [if_neg e] at hF ⊢
        exact (upd_ne (na u hu)).trans (h.val u hu d' q' hF)
  · refine ⟨_, vs ++ [v], fun u => if u = v then t else T u, tpn h.d hb m (by omega), (ExB.refl a H).upd, ⟨upd_same.trans (congrArg some (congrArg HO.dT (kt_congr fun u _ => ?_))), ?_, fun u => ?_, fun u hu => ?_, fun u hu d' q' hF => ?_⟩⟩
    · by_cases e : u = v
      · rw [if_pos e, if_pos e]
      · rw [if_neg e, if_neg e]
    · refine List.nodup_append.mpr ⟨h.nd, by simp, fun x hx y hy e => ?_⟩
      rw [List.mem_singleton] at hy
      exact m (by rw [← hy, ← e]; exact hx)
    · rw [List.mem_append, List.mem_singleton]
      by_cases e : u = v
      · rw [if_pos e]; exact ⟨fun _ => rfl, fun _ => .inr e⟩
      · rw [if_neg e]; exact ⟨fun q => (h.dom u).mp (q.resolve_right e), fun q => .inl ((h.dom u).mpr q)⟩
    · rcases List.mem_append.mp hu with hu | hu
      · exact h.ns u hu
      · rw [List.mem_singleton] at hu
        rw [hu]; exact hv
    · by_cases e : u = v
      · rw [if_pos e] at hF ⊢
        cases hF
        exact (upd_ne nta).trans ht
      · rw [if_neg e] at hF ⊢
        rcases List.mem_append.mp hu with hu | hu
        · exact (upd_ne (na u hu)).trans (h.val u hu d' q' hF)
        · rw [List.mem_singleton] at hu
          exact absurd hu e
def spBetter : Sp := fun vs H Q _ => ∃ (G : NET) (f : LB → Int) (a b e : Addr) (E : LB → Addr) (ns : List ND) (F : FND) (vs0 : List ND) (T : ND → Addr) (r : Arc LB), vs = [.ref a, .ref b, .ref e, .int (G.cost f r), .ref (E r.1), .int (sg r.2)] ∧
  FndAt H a E ns F vs0 T ∧ NdAt H b (G.frm r) ∧ NdAt H e (G.to r) ∧ G.to r ∈ ns ∧ ns.length ≤ 10000 ∧
  ∀ H' vs' T', ExB a H H' → FndAt H' a E ns (G.better f F r).2 vs' T' → Q (.bl (G.better f F r).1) H'
theorem sc_better : FnScope ["found", "begin", "end", "price", "edge", "change", "late"] ["found", "begin", "end", "price", "edge", "change"] (defScope s_better) := ⟨rfl, rfl, rfl, by decide +kernel, rfl, by decide +kernel, by decide +kernel⟩
theorem ok_better (T : Txt K mg) : Ent P w K mg base CX0 1 "better" ["found", "begin", "end", "price", "edge", "change"] [] spBetter := by
  obtain ⟨fd, F⟩ := T.f_better
  refine Ent.mk' T.g_better F (FunD.ok0 F sc_better (fun vs H Q E h => ?_) (fun cdv A outer s H vs Q E hr h => ?_)) (fun _ _ _ _ _ _ us hl => match us, hl with | [_, _, _, _, _, _], _ => rfl)
  · obtain ⟨G, f, a, b, e, E', ns, F, vs0, T0, r, rfl, fd, hb, he, hns, n10, q⟩ := h
    rfl
  · obtain ⟨G, f, a, b, e, E', ns, F, vs0, T0, r, rfl, fd, hb, he, hns, n10, q⟩ := h
    refine ⟨_, (pss_cons (ps_if (pt_cmp (pc_dnotin (hu_of hr) (pv 1) (pv 0))) (pss_one (ps_ret pe_bl)) pss_nil)
      (pss_cons (ps_set (i := 6) sc_better.nd rfl (Or.inl rfl) (pe_op op_add (pe_ix (ix_tupK (K := K) rfl) (pe_dget (hu_of hr) (pv 0) (pv 1) (fun _ _ => rfl)) pe_int (fun _ _ => rfl)) (pv 3)))
      (pss_cons (ps_if (PW.pt (pw_and (pt_cmp (pc_din (hu_of hr) (pv 2) (pv 0))) (pw_and1 (pt_cmpR op_le (pe_ix (ix_tupK (K := K) rfl) (pe_dget (hu_of hr) (pv 0) (pv 2) (fun _ _ => rfl)) pe_int (fun _ _ => rfl)) (pv 6) (nomark _))))) (pss_one (ps_ret pe_bl)) pss_nil)
      (pss_cons (ps_dput (hu_of hr) (pv 0) (pv 2) (pe_tup (pa_cons (pv 6) (pa_cons (pv 4) (pa_cons (pv 5) pa_nil)))) rfl)
      (pss_one (ps_ret pe_bl)))))), ?_⟩
    by_cases m : G.frm r ∈ vs0
    · obtain ⟨⟨du, pu⟩, hF⟩ := Option.isSome_iff_exists.mp ((fd.dom _).mp m)
      have hv := fd.val _ m du pu hF
      refine ⟨_, rfl, _, rfl, a, _, rfl, tk (.inl fd.d) hb m, _, rfl, iteF ?_⟩
      refine ⟨_, rfl, _, rfl, a, _, rfl, tk (.inl fd.d) hb m, _, _, _, _, rfl, rfl, sqt hv, rfl, _, rfl, _, _, rfl, rfl, ?_⟩
      have fin : ∀ X : Prop, (G.better f F r = (true, fun v => if v = G.to r then some (du + G.cost f r, some r) else F v)) → ∀ t, H t = none →
          ∃ H', DPut (upd H t (.tup [.int (du + G.cost f r), .ref (E' r.1), .int (sg r.2)])) a (.ref e) (.ref t) H' ∧ Q (.bl true) H' := fun _ hb' t ht => by
        have fd1 := fd.ex (Ex.new ht (o := .tup [.int (du + G.cost f r), .ref (E' r.1), .int (sg r.2)]))
        obtain ⟨H', vs', T', dp, eb, fd2⟩ := fd1.put (Ex.new ht _ _ he) hns n10 (d := du + G.cost f r) (q := some r) upd_same
        refine ⟨H', dp, ?_⟩
        have q := q H' vs' T' ((ExB.of (Ex.new ht)).trans eb)
        rw [hb'] at q
        exact q fd2
      by_cases m2 : G.to r ∈ vs0
      · obtain ⟨⟨dv, pv⟩, hF2⟩ := Option.isSome_iff_exists.mp ((fd.dom _).mp m2)
        have hv2 := fd.val _ m2 dv pv hF2
        refine ⟨_, rfl, _, rfl, a, _, rfl, tk (.inl fd.d) he m2, _, rfl, iteT ?_⟩
        refine ⟨_, rfl, _, rfl, a, _, rfl, tk (.inl fd.d) he m2, _, _, _, _, rfl, rfl, sqt hv2, rfl, _, rfl, _, _, rfl, rfl, ?_⟩
        by_cases hle : dv ≤ du + G.cost f r
        · have hbt : G.better f F r = (false, F) := by unfold Net.better; rw [hF, hF2]; exact if_pos hle
          refine ⟨true, bl_t hle, iteT ?_⟩
          have q := q H vs0 T0 (ExB.refl a H)
          rw [hbt] at q
          exact q fd
        · have hbt : G.better f F r = (true, fun v => if v = G.to r then some (du + G.cost f r, some r) else F v) := by unfold Net.better; rw [hF, hF2]; exact if_neg hle
          refine ⟨false, bl_f hle, iteF ?_⟩
          refine ⟨_, rfl, _, rfl, _, rfl, le3', fun t ht => ?_⟩
          obtain ⟨H', dp, q'⟩ := fin True hbt t ht
          exact ⟨_, rfl, _, rfl, a, H', rfl, dp, q'⟩
      · have hF2 : F (G.to r) = none := by
          cases h : F (G.to r) with
          | none => rfl
          | some _ => exact absurd ((fd.dom _).mpr (by rw [h]; rfl)) m2
        have hbt : G.better f F r = (true, fun v => if v = G.to r then some (du + G.cost f r, some r) else F v) := by unfold Net.better; rw [hF, hF2]
        refine ⟨_, rfl, _, rfl, a, _, rfl, tkn (.inl fd.d) he m2, _, rfl, iteF (iteF ?_)⟩
        refine ⟨_, rfl, _, rfl, _, rfl, le3', fun t ht => ?_⟩
        obtain ⟨H', dp, q'⟩ := fin True hbt t ht
        exact ⟨_, rfl, _, rfl, a, H', rfl, dp, q'⟩
    · have hF : F (G.frm r) = none := by
        cases h : F (G.frm r) with
        | none => rfl
        | some _ => exact absurd ((fd.dom _).mpr (by rw [h]; rfl)) m
      have hbt : G.better f F r = (false, F) := by unfold Net.better; rw [hF]
      refine ⟨_, rfl, _, rfl, a, _, rfl, tkn (.inl fd.d) hb m, _, rfl, iteT ?_⟩
      have q := q H vs0 T0 (ExB.refl a H)
      rw [hbt] at q
      exact q fd
end
end K55


set_option Elab.async false
set_option linter.all false
set_option maxRecDepth 100000
set_option maxHeartbeats 4000000
namespace K55
open PySem PySem.Spec PyProof.Rows L2 Evl
open K55M (Nd Lb Net Arc Fnd Lay FlowOk BF Closed IsWay Plan Bnd Up mu sg)
def ClosedAt (G : NET) (f : LB → Int) (F : FND) (r : Arc LB) : Prop := ∀ du pu, F (G.frm r) = some (du, pu) → ∃ dv pv, F (G.to r) = some (dv, pv) ∧ dv ≤ du + G.cost f r
theorem better_step {G : NET} {ls : List LB} {f : LB → Int} {pot : ND → Int} {F : FND} {ns : List ND} {P C : Int} (B : BF G ls f pot .src F) (U : Up ns P F) (hp : G.Feas ls f pot) (Bd : Bnd G ls f ns P) (hC : P * (ns.length : Int) ≤ C) {r : Arc LB} (hr : r.1 ∈ ls) (hres : G.res f r) :
    ((G.better f F r).1 = false ∧ (G.better f F r).2 = F ∧ ClosedAt G f F r) ∨
    ((G.better f F r).1 = true ∧ BF G ls f pot .src (G.better f F r).2 ∧ Up ns P (G.better f F r).2 ∧ mu ns pot .src C (G.better f F r).2 < mu ns pot .src C F) := by
  have go : ∀ du pu, F (G.frm r) = some (du, pu) → (F (G.to r) = none ∨ ∃ dv pv, F (G.to r) = some (dv, pv) ∧ du + G.cost f r < dv) → G.better f F r = (true, fun v => if v = G.to r then some (du + G.cost f r, some r) else F v) →
      ((G.better f F r).1 = true ∧ BF G ls f pot .src (G.better f F r).2 ∧ Up ns P (G.better f F r).2 ∧ mu ns pot .src C (G.better f F r).2 < mu ns pot .src C F) := fun du pu hu hv e => by
    rw [e]
    have U2 := U.put Bd hr hu hv
    exact ⟨rfl, B.put hp hr hres hu hv, U2, K55M.mu_put U2 Bd hC hr hv⟩
  cases h1 : F (G.frm r) with
  | none =>
    have e : G.better f F r = (false, F) := by unfold Net.better; rw [h1]
    rw [e]
    exact .inl ⟨rfl, rfl, fun du pu h => by rw [h1] at h; cases h⟩
  | some x =>
    obtain ⟨du, pu⟩ := x
    cases h2 : F (G.to r) with
    | none =>
      have e : G.better f F r = (true, fun v => if v = G.to r then some (du + G.cost f r, some r) else F v) := by unfold Net.better; rw [h1, h2]
      exact .inr (go du pu h1 (.inl h2) e)
    | some y =>
      obtain ⟨dv, pv⟩ := y
      by_cases hle : dv ≤ du + G.cost f r
      · have e : G.better f F r = (false, F) := by unfold Net.better; rw [h1, h2]; exact if_pos hle
        rw [e]
        exact .inl ⟨rfl, rfl, fun du' pu' h => by rw [h1] at h; cases h; exact ⟨dv, pv, h2, hle⟩⟩
      · have e : G.better f F r = (true, fun v => if v = G.to r then some (du + G.cost f r, some r) else F v) := by unfold Net.better; rw [h1, h2]; exact if_neg hle
        exact .inr (go du pu h1 (.inr ⟨dv, pv, h2, by omega⟩) e)
theorem bnd_of (G : NET) (ls : List LB) (f : LB → Int) : ∃ P, Bnd G ls f (.src :: ndsOf G ls) P := by
  obtain ⟨K1, h1⟩ := K55M.list_max ls fun i => G.cost f (i, true)
  obtain ⟨K2, h2⟩ := K55M.list_max ls fun i => G.cost f (i, false)
  refine ⟨max 0 (max K1 K2), by omega, fun r hr => ?_, fun r hr => ?_⟩
  · obtain ⟨i, b⟩ := r
    cases b with
    | true => have := h1 i hr; omega
    | false => have := h2 i hr; omega
  · obtain ⟨i, b⟩ := r
    refine List.mem_cons_of_mem _ ((mem_ndsOf G _ ls).mpr ⟨i, hr, ?_⟩)
    cases b with
    | true => exact .inr rfl
    | false => exact .inl rfl
theorem ite_VC {c : Bool} {σ : L2.St} {H : Hp} {Q : VK} {i : Nat} {v1 v2 v : V} (h0 : σ[i]? = some (some v1)) (h1 : c = true → v1 = v) (h2 : c = false → v2 = v) (h : Q v H) : if c = true then tVar i σ H Q else tC v2 σ H Q := by
  cases c with
  | true => rw [if_pos rfl]; exact ⟨v1, h0, by rw [h1 rfl]; exact h⟩
  | false => rw [if_neg (by decide), h2 rfl]; exact h
theorem or_V {c ag : Bool} {σ : L2.St} {H : Hp} {Q : VK} {i : Nat} (h0 : σ[i]? = some (some (.bl ag))) (h : Q (.bl (c || ag)) H) : if c = true then Q (.bl true) H else tVar i σ H Q := by
  cases c with
  | true => rw [if_pos rfl]; exact h
  | false => rw [if_neg (by decide)]; exact ⟨_, h0, h⟩
/-- a pass under way: D the arcs that have been looked at -/
structure PSt (H : Hp) (G : NET) (ls : List LB) (f : LB → Int) (pot : ND → Int) (PB C : Int) (E : LB → Addr) (p : Addr) (M0 : Int) (D : Arc LB → Prop) (ag : Bool) (F : FND) (vs : List ND) (T : ND → Addr) (H' : Hp) : Prop where
  ex : Ex H H'
  fd : FndAt H' p E (.src :: ndsOf G ls) F vs T
  B : BF G ls f pot .src F
  U : Up (.src :: ndsOf G ls) PB F
  le : mu (.src :: ndsOf G ls) pot .src C F ≤ M0
  lt : ag = true → mu (.src :: ndsOf G ls) pot .src C F < M0
  cl : ag = false → ∀ r, D r → G.res f r → ClosedAt G f F r
section
variable {H H' : Hp} {G : NET} {ls : List LB} {f : LB → Int} {pot : ND → Int} {PB C : Int} {E : LB → Addr} {p : Addr} {M0 : Int} {D : Arc LB → Prop} {ag : Bool} {F : FND} {vs : List ND} {T : ND → Addr}
theorem PSt.mono {D' : Arc LB → Prop} (h : PSt H G ls f pot PB C E p M0 D ag F vs T H') (hd : ∀ r, D' r → D r) : PSt H G ls f pot PB C E p M0 D' ag F vs T H' := ⟨h.ex, h.fd, h.B, h.U, h.le, h.lt, fun ha r hr => h.cl ha r (hd r hr)⟩
theorem PSt.skip (h : PSt H G ls f pot PB C E p M0 D ag F vs T H') {r : Arc LB} (hn : ¬ G.res f r) : PSt H G ls f pot PB C E p M0 (fun r' => D r' ∨ r' = r) ag F vs T H' := ⟨h.ex, h.fd, h.B, h.U, h.le, h.lt, fun ha r' hr' hres => by
  rcases hr' with hr' | hr'
  · exact h.cl ha r' hr' hres
  · rw [hr'] at hres; exact absurd hres hn⟩
theorem PSt.step (h : PSt H G ls f pot PB C E p M0 D ag F vs T H') (hp : H p = none) (hpot : G.Feas ls f pot) (Bd : Bnd G ls f (.src :: ndsOf G ls) PB) (hC : PB * ((.src :: ndsOf G ls : List ND).length : Int) ≤ C) {r : Arc LB} (hr : r.1 ∈ ls) (hres : G.res f r) {H2 : Hp} {vs' : List ND} {T' : ND → Addr}
    (eb : ExB p H' H2) (fd2 : FndAt H2 p E (.src :: ndsOf G ls) (G.better f F r).2 vs' T') : PSt H G ls f pot PB C E p M0 (fun r' => D r' ∨ r' = r) ((G.better f F r).1 || ag) (G.better f F r).2 vs' T' H2 := by
  have e2 : Ex H H2 := ((ExB.of h.ex).trans eb).ex hp
  rcases better_step h.B h.U hpot Bd hC hr hres with ⟨b1, b2, b3⟩ | ⟨b1, b2, b3, b4⟩
  · rw [b2] at fd2 ⊢
    rw [b1, Bool.false_or]
    exact ⟨e2, fd2, h.B, h.U, h.le, h.lt, fun ha r' hr' hres' => by
      rcases hr' with hr' | hr'
      · exact h.cl ha r' hr' hres'
      · rw [hr']; exact b3⟩
  · have := h.le
    refine ⟨e2, fd2, b2, b3, by omega, fun _ => by omega, fun ha => ?_⟩
    rw [b1] at ha
    cases ha
end
theorem FndAt.kit {H H' : Hp} {a : Addr} {E : LB → Addr} {ns : List ND} {F : FND} {vs : List ND} {T : ND → Addr} (h : FndAt H a E ns F vs T) (k : KIT H H') (hd : H' a = H a) : FndAt H' a E ns F vs T := ⟨hd.trans h.d, h.nd, h.dom, h.ns, fun v hv d q hF => k.t _ _ (h.val v hv d q hF)⟩
theorem ne_Tl {H : Hp} {a b : Addr} {kvs : List (List Key × V)} {ys : List V} (h : H a = some (.dT kvs)) (h' : H b = some (.lst ys)) : a ≠ b := fun e => by rw [e, h'] at h; cases h
theorem seq_cut {t rest : TS} {D : Ends} {σ : L2.St} {H : Hp} (Pm : L2.St → Hp → Prop) (h2 : ∀ σ' H', Pm σ' H' → rest D σ' H') (h1 : ∀ R : L2.St → Hp → Prop, (∀ σ' H', Pm σ' H' → R σ' H') → t { D with nx := R } σ H) : tSeq t rest D σ H := h1 _ h2
def StepsAt (H : Hp) (p : Addr) (E : LB → Addr) (as : List (Arc LB)) : Prop := ∃ ts : List Addr, H p = some (.lst (ts.map V.ref)) ∧ Paired (fun t (r : Arc LB) => H t = some (.tup [.ref (E r.1), .int (sg r.2)])) ts as
section
variable {P : Program} {w : World} {K : PySem.W.Frag} {mg : Str → Option Value} {base : Heap}
def spFlowWay (K : PySem.W.Frag) : Sp := fun vs H Q _ => ∃ (G : NET) (x dx el nd s t : Addr) (E : LB → Addr) (ls : List LB) (f g : LB → Int) (many k m : Int), vs = [.ref x, .ref s, .ref t, .int G.big] ∧
  FlowAt K H x dx el nd E G ls f many ∧ NdAt H s .src ∧ NdAt H t .snk ∧ ls.length ≤ 2000 ∧ FlowOk G ls .src .snk f k ∧ k < m ∧ Plan G ls .src .snk g m ∧ (∀ i ∈ ls, 0 ≤ G.lo i) ∧
  ∀ p H' F as pot, H p = none → Ex H H' → G.Feas ls f pot → BF G ls f pot .src F → Closed G ls f F → IsWay G .src F .snk as → StepsAt H' p E as → Q (.ref p) H'
theorem sc_Flow_way : FnScope ["self", "source", "sink", "big", "found", "again", "edge", "price", "steps", "node", "change"] ["self", "source", "sink", "big"] (defScope s_Flow_way) := ⟨rfl, rfl, rfl, by decide +kernel, rfl, by decide +kernel, by decide +kernel⟩
theorem ok_Flow_way (T : Txt K mg) : EntM P w K mg base CX0 2 (He.ga K "Flow") "way" ["self", "source", "sink", "big"] (spFlowWay K) := by
  obtain ⟨fd, F⟩ := T.f_Flow_way
  have e_better := ok_better (P := P) (w := w) (base := base) T
  refine EntM.mk' T.m_Flow_way F (FunD.ok0 F sc_Flow_way (fun vs H Q E h => ?_) (fun cdv A outer s H vs Q E hr h => ?_)) (fun _ _ _ _ _ _ us hl => match us, hl with | [_, _, _, _], _ => rfl)
  · obtain ⟨G, x, dx, el, nd, s, t, E', ls, f, g, many, k, m, rfl, fl, hs, ht, n2, W, hkm, Pl, hlo, q⟩ := h
    rfl
  · obtain ⟨G, x, dx, el, nd, s, t, E', ls, f, g, many, k, m, rfl, fl, hs, ht, n2, W, hkm, Pl, hlo, q⟩ := h
    refine ⟨_, (pss_cons (ps_set (i := 4) sc_Flow_way.nd rfl (Or.inl rfl) (pe_dispT (hu_of hr) (pv 1) (pe_tup (pa_cons pe_int (pa_cons pe_non (pa_cons pe_int pa_nil))))))
      (pss_cons (ps_set (i := 5) sc_Flow_way.nd rfl (Or.inl rfl) pe_bl)
      (pss_cons (ps_while PassesOwn.never (pt_val (pv 5)) (pss_cons (ps_set (i := 5) sc_Flow_way.nd rfl (Or.inl rfl) pe_bl)
      (pss_one (ps_for PassesOwn.never rfl (pi_listK (K := K) rfl (pe_fldK (K := K) rfl (pv 0) rfl)) (pg_name (i := 6) sc_Flow_way.nd rfl (Or.inl rfl)) (pss_cons (ps_if (pt_cmpR op_lt (pe_fldK (K := K) rfl (pv 6) rfl) (pe_fldK (K := K) rfl (pv 6) rfl) (nomark _)) (pss_cons (ps_set (i := 7) sc_Flow_way.nd rfl (Or.inl rfl) (pe_op op_sub (pe_fldK (K := K) rfl (pv 6) rfl) (pe_ifExp (pt_cmpR op_lt (pe_fldK (K := K) rfl (pv 6) rfl) (pe_fldK (K := K) rfl (pv 6) rfl) (nomark _)) (pv 3) pe_int)))
      (pss_one (ps_set (i := 5) sc_Flow_way.nd rfl (Or.inl rfl) (pe_or (pe_e e_better (hr.mono (by decide)) pass0 (pa_cons (pv 4) (pa_cons (pe_fldK (K := K) rfl (pv 6) rfl) (pa_cons (pe_fldK (K := K) rfl (pv 6) rfl) (pa_cons (pv 7) (pa_cons (pv 6) (pa_cons pe_int pa_nil))))))) (pe_one (pv 5)))))) pss_nil)
      (pss_one (ps_if (pt_cmpR op_gt (pe_fldK (K := K) rfl (pv 6) rfl) pe_int (nomark _)) (pss_cons (ps_set (i := 7) sc_Flow_way.nd rfl (Or.inl rfl) (pe_op op_sub (pe_ifExp (pt_cmpR op_le (pe_fldK (K := K) rfl (pv 6) rfl) (pe_fldK (K := K) rfl (pv 6) rfl) (nomark _)) (pv 3) pe_int) (pe_fldK (K := K) rfl (pv 6) rfl)))
      (pss_one (ps_set (i := 5) sc_Flow_way.nd rfl (Or.inl rfl) (pe_or (pe_e e_better (hr.mono (by decide)) pass0 (pa_cons (pv 4) (pa_cons (pe_fldK (K := K) rfl (pv 6) rfl) (pa_cons (pe_fldK (K := K) rfl (pv 6) rfl) (pa_cons (pv 7) (pa_cons (pv 6) (pa_cons (pe_un un_neg pe_int) pa_nil))))))) (pe_one (pv 5)))))) pss_nil)))))))
      (pss_cons (ps_par (i := 8) (j := 9) rfl sc_Flow_way.nd rfl rfl (by decide) rfl rfl (pa_cons (pe_lst pa_nil) (pa_cons (pv 2) pa_nil)) rfl)
      (pss_cons (ps_while PassesOwn.never (pt_cmpR (op_neDK (K := K) rfl hr.units) (pv 9) (pv 1) (nomark _)) (pss_cons (ps_asg (pe_dget (hu_of hr) (pv 4) (pv 9) (fun _ _ => rfl)) (pg_tup rfl (pgs_cons (pg_name (i := 7) sc_Flow_way.nd rfl (Or.inl rfl)) (pgs_cons (pg_name (i := 6) sc_Flow_way.nd rfl (Or.inl rfl)) (pgs_cons (pg_name (i := 10) sc_Flow_way.nd rfl (Or.inl rfl)) pgs_nil)))))
      (pss_cons (ps_expr (pe_bm PySem.F.plainAttrs_list PySem.F.slot_list_append PySem.F.type_list_append mt_append (pv 8) (pa_cons (pe_tup (pa_cons (pv 6) (pa_cons (pv 10) pa_nil))) pa_nil)))
      (pss_one (ps_set (i := 9) sc_Flow_way.nd rfl (Or.inl rfl) (pe_ifExp (pt_cmpR op_eq (pv 10) pe_int (nomark _)) (pe_fldK (K := K) rfl (pv 6) rfl) (pe_fldK (K := K) rfl (pv 6) rfl)))))))
      (pss_one (ps_ret (pv 8)))))))), ?_⟩
    obtain ⟨pot, hpot⟩ := W.pot
    obtain ⟨PB, Bd⟩ := bnd_of G ls f
    intro p hp
    have e0 : Ex H (upd H p (.dT [])) := ex_upd (Ex.refl _) hp
    refine ⟨_, rfl, le3', fun t0 ht0 => ?_⟩
    have e1 : Ex (upd H p (.dT [])) (upd (upd H p (.dT [])) t0 (.tup [.int 0, .non, .int 0])) := Ex.new ht0
    refine ⟨s, nk .src, rfl, e1 _ _ (e0 _ _ hs), e1 _ _ upd_same, ?_⟩
    dsimp only [tSeq_ap, tAsg_ap, gName_ap, tC_ap, tNext_ap, tRet_ap, tAndV_ap, tCB_ap, tCons_ap, tNil_ap, tB_ap, tTest_ap, tNot_ap, tOr_ap, tAnd_ap, tIfS_ap, tOp_ap, tDrop_ap]
    generalize hns : (Nd.src :: ndsOf G ls : List ND) = ns at Bd
    have hC : PB * (ns.length : Int) ≤ PB * (ns.length : Int) := Int.le_refl _
    generalize hCC : PB * (ns.length : Int) = C at hC
    subst hns
    refine ⟨fun n σ' H' => ∃ ag x6 x7 F vs T0, σ' = [some (V.ref x), some (.ref s), some (.ref t), some (.int G.big), some (.ref p), some (.bl ag), x6, x7, none, none, none] ∧
      PSt H G ls f pot PB C E' p (mu (.src :: ndsOf G ls) pot .src C F + 1) (fun r => r.1 ∈ ls) ag F vs T0 H' ∧ n = (mu (.src :: ndsOf G ls) pot .src C F).toNat + (if ag = true then 1 else 0), ?_, ?_⟩
    · have n0 : t0 ≠ p := fresh_ne upd_same ht0
      have ht00 : H t0 = none := no_of e0 ht0
      refine ⟨_, true, none, none, (fun v => if v = Nd.src then some (0, none) else none), [.src], fun _ => t0, rfl, ⟨ex_upd (ex_upd e0 ht00) hp, ⟨upd_same, by simp, fun v => ?_, fun v hv => ?_, fun v hv d q' hF => ?_⟩, BF.start, Up.start Bd.pos, by omega, fun _ => by omega, fun h => by cases h⟩, rfl⟩
      · rw [List.mem_singleton]
        by_cases e : v = Nd.src
        · rw [if_pos e]; exact ⟨fun _ => rfl, fun _ => e⟩
        · rw [if_neg e]; exact ⟨fun h => absurd h e, fun h => by cases h⟩
      · rw [List.mem_singleton] at hv
        rw [hv]; exact List.mem_cons_self
      · rw [List.mem_singleton] at hv
        rw [if_pos hv] at hF
        cases hF
        exact (upd_ne n0).trans upd_same
    · rintro n σ' H' ⟨ag, x6, x7, F, vs, T0, rfl, ps, rfl⟩
      refine ⟨_, rfl, ag, rfl, ?_⟩
      cases ag with
      | true =>
        refine iteT ⟨_, fun σ' H' h => h, ?_⟩
        dsimp only [tSeq_ap, tAsg_ap, gName_ap, tC_ap, tNext_ap, tRet_ap, tAndV_ap, tCB_ap, tCons_ap, tNil_ap, tB_ap, tTest_ap, tNot_ap, tOr_ap, tAnd_ap, tIfS_ap, tOp_ap, tDrop_ap]
        refine forlF (sql (ps.ex _ _ fl.e)) (fun Q' q' => ⟨_, rfl, x, _, dx, _, _, rfl, ps.ex _ _ fl.o, T.c_Flow, T.a_Flow_edges, rfl, q'⟩)
          (fun i σ' H' => ∃ ag x6 x7 F' vs T0, σ' = [some (V.ref x), some (.ref s), some (.ref t), some (.int G.big), some (.ref p), some (.bl ag), x6, x7, none, none, none] ∧ PSt H G ls f pot PB C E' p (mu (.src :: ndsOf G ls) pot .src C F) (fun r => r.1 ∈ ls.take i) ag F' vs T0 H')
          ⟨false, _, _, F, vs, T0, rfl, ⟨ps.ex, ps.fd, ps.B, ps.U, Int.le_refl _, fun h => (by cases h), fun _ r hr => (by cases hr)⟩⟩ (fun i σ' H' pv => ?_) (fun j v σ' H' hx pv => ?_) fun σ' H' pv => ?_
        · obtain ⟨_, _, _, _, _, _, _, h⟩ := pv
          exact sql (h.ex _ _ fl.e)
        · obtain ⟨ag, x6', x7', F', vs', T1, rfl, ps'⟩ := pv
          rw [List.getElem?_map] at hx
          cases hz : ls[j]? with
          | none => rw [hz] at hx; cases hx
          | some i =>
          rw [hz] at hx
          cases hx
          have hi := mem_of_at hz
          dsimp only [gName_ap]
          have bdt : ∀ (b : Bool), G.to (i, b) ∈ (Nd.src :: ndsOf G ls : List ND) := fun b => Bd.to (i, b) hi
          have nl : (Nd.src :: ndsOf G ls : List ND).length ≤ 10000 := by
            have := ndsOf_len G ls
            rw [List.length_cons]
            omega
          refine seq_cut (fun σ' H' => ∃ ag x7 F' vs T0, σ' = [some (V.ref x), some (.ref s), some (.ref t), some (.int G.big), some (.ref p), some (.bl ag), some (.ref (E' i)), x7, none, none, none] ∧ PSt H G ls f pot PB C E' p (mu (.src :: ndsOf G ls) pot .src C F) (fun r => r.1 ∈ ls.take j ∨ r = (i, true)) ag F' vs T0 H') (fun σ' H' pv => ?_) (fun R hR => ?_)
          · obtain ⟨ag, x7', F'', vs', T1, rfl, ps'⟩ := pv
            obtain ⟨de, bb, ee, h1, h2, h3⟩ := (fl.at_ i hi).ex ps'.ex
            refine ⟨_, rfl, _, _, de, _, _, rfl, h1, T.c_Edge, T.a_Edge_amount, rfl, ?_⟩
            refine ⟨_, _, rfl, rfl, ?_⟩
            have dn : ∀ r : Arc LB, r.1 ∈ ls.take (j + 1) → ((r.1 ∈ ls.take j ∨ r = (i, true)) ∨ r = (i, false)) := fun r hr => by
              rw [take_succ_at hz] at hr
              rcases List.mem_append.mp hr with hr | hr
              · exact .inl (.inl hr)
              · rw [List.mem_singleton] at hr
                obtain ⟨r1, r2⟩ := r
                have hr : r1 = i := hr
                subst hr
                cases r2 with
                | true => exact .inl (.inr rfl)
                | false => exact .inr rfl
            by_cases hres : 0 < f i
            · refine ⟨true, bl_t hres, iteT ?_⟩
              refine ⟨_, rfl, _, _, de, _, _, rfl, h1, T.c_Edge, T.a_Edge_amount, rfl, ?_⟩
              refine ⟨_, rfl, _, _, de, _, _, rfl, h1, T.c_Edge, T.a_Edge_low, rfl, ?_⟩
              refine ⟨_, _, rfl, rfl, _, rfl, ite_VC (v := .int (if f i ≤ G.lo i then G.big else 0)) rfl (fun h => by rw [if_pos (of_decide_eq_true h)]) (fun h => by rw [if_neg (of_decide_eq_false h)]) ?_⟩
              refine ⟨_, rfl, _, _, de, _, _, rfl, h1, T.c_Edge, T.a_Edge_price, rfl, ?_⟩
              refine ⟨_, _, rfl, rfl, ?_⟩
              refine ⟨_, rfl, _, rfl, _, _, de, _, _, rfl, h1, T.c_Edge, T.a_Edge_end, rfl, ?_⟩
              refine ⟨_, rfl, _, _, de, _, _, rfl, h1, T.c_Edge, T.a_Edge_begin, rfl, ?_⟩
              refine ⟨_, rfl, _, rfl, _, rfl, ?_⟩
              refine ⟨G, f, p, ee, bb, E', _, F'', vs', T1, (i, false), rfl, ps'.fd, h3, h2, bdt false, nl, fun H2 vs2 T2 eb fd2 => ⟨_, rfl, or_V rfl ?_⟩⟩
              exact ⟨_, _, _, _, vs2, T2, rfl, (ps'.step hp hpot Bd (by omega) (r := (i, false)) hi hres eb fd2).mono dn⟩
            · refine ⟨false, bl_f hres, iteF ?_⟩
              exact ⟨_, _, _, _, _, _, rfl, (ps'.skip (r := (i, false)) hres).mono dn⟩
          · obtain ⟨de, bb, ee, h1, h2, h3⟩ := (fl.at_ i hi).ex ps'.ex
            refine ⟨_, rfl, _, _, de, _, _, rfl, h1, T.c_Edge, T.a_Edge_amount, rfl, ?_⟩
            refine ⟨_, rfl, _, _, de, _, _, rfl, h1, T.c_Edge, T.a_Edge_high, rfl, ?_⟩
            refine ⟨_, _, rfl, rfl, ?_⟩
            by_cases hres : f i < G.hi i
            · refine ⟨true, bl_t hres, iteT ?_⟩
              refine ⟨_, rfl, _, _, de, _, _, rfl, h1, T.c_Edge, T.a_Edge_price, rfl, ?_⟩
              refine ⟨_, rfl, _, _, de, _, _, rfl, h1, T.c_Edge, T.a_Edge_amount, rfl, ?_⟩
              refine ⟨_, rfl, _, _, de, _, _, rfl, h1, T.c_Edge, T.a_Edge_low, rfl, ?_⟩
              refine ⟨_, _, rfl, rfl, _, rfl, ite_VC (v := .int (if f i < G.lo i then G.big else 0)) rfl (fun h => by rw [if_pos (of_decide_eq_true h)]) (fun h => by rw [if_neg (of_decide_eq_false h)]) ?_⟩
              refine ⟨_, _, rfl, rfl, ?_⟩
              refine ⟨_, rfl, _, rfl, _, _, de, _, _, rfl, h1, T.c_Edge, T.a_Edge_begin, rfl, ?_⟩
              refine ⟨_, rfl, _, _, de, _, _, rfl, h1, T.c_Edge, T.a_Edge_end, rfl, ?_⟩
              refine ⟨_, rfl, _, rfl, G, f, p, bb, ee, E', _, F', vs', T1, (i, true), rfl, ps'.fd, h2, h3, bdt true, nl, fun H2 vs2 T2 eb fd2 => ⟨_, rfl, or_V rfl ?_⟩⟩
              exact hR _ _ ⟨_, _, _, vs2, T2, rfl, ps'.step hp hpot Bd (by omega) (r := (i, true)) hi hres eb fd2⟩
            · refine ⟨false, bl_f hres, iteF ?_⟩
              exact hR _ _ ⟨_, _, _, _, _, rfl, ps'.skip (r := (i, true)) hres⟩
        · obtain ⟨ag, x6', x7', F', vs', T1, rfl, ps'⟩ := pv
          rw [List.length_map, List.take_of_length_le (Nat.le_refl _)] at ps'
          have m1 := ps'.B.mu_nonneg (.src :: ndsOf G ls) C
          have m2 := ps.B.mu_nonneg (.src :: ndsOf G ls) C
          have hle := ps'.le
          refine ⟨(mu (.src :: ndsOf G ls) pot .src C F').toNat + (if ag = true then 1 else 0), ?_, ag, x6', x7', F', vs', T1, rfl, ⟨ps'.ex, ps'.fd, ps'.B, ps'.U, by omega, fun _ => by omega, ps'.cl⟩, rfl⟩
          rw [if_pos rfl]
          cases ag with
          | true => have := ps'.lt rfl; rw [if_pos rfl]; omega
          | false => rw [if_neg (by decide)]; omega
      | false =>
        refine iteF ?_
        have C0 : Closed G ls f F := fun r hr hres => ps.cl rfl r hr hres
        have hsrc : (F .src).isSome = true := by rw [ps.B.s0]; rfl
        have hsnk := W.reach hkm Pl hlo hsrc C0
        obtain ⟨⟨d0, q0⟩, hF0⟩ := Option.isSome_iff_exists.mp hsnk
        obtain ⟨as, way⟩ := ps.B.way hF0
        have was := way.arcs ps.B C0
        have alen : as.length ≤ 2000 := by
          have := K55M.nodup_le (as.map (·.1)) ls (way.nodup ps.B) fun i hi => by
            obtain ⟨r, hr, rfl⟩ := List.mem_map.mp hi
            exact (was r hr).1
          rw [List.length_map] at this
          omega
        refine ⟨Nat.zero_le _, fun sp hsp => ⟨_, rfl, _, _, rfl, ?_⟩⟩
        have hsp0 : H sp = none := no_of ps.ex hsp
        have e2 : Ex H' (upd H' sp (.lst [])) := Ex.new hsp
        dsimp only [tSeq_ap, tAsg_ap, gName_ap, tC_ap, tNext_ap, tRet_ap, tAndV_ap, tCB_ap, tCons_ap, tNil_ap, tB_ap, tTest_ap, tNot_ap, tOr_ap, tAnd_ap, tIfS_ap, tOp_ap, tDrop_ap]
        refine ⟨fun n σ' H' => ∃ x6 x7 x10 na v rest done, σ' = [some (V.ref x), some (.ref s), some (.ref t), some (.int G.big), some (.ref p), some (.bl false), x6, x7, some (.ref sp), some (.ref na), x10] ∧ Ex H H' ∧ FndAt H' p E' (.src :: ndsOf G ls) F vs T0 ∧ NdAt H' na v ∧ IsWay G .src F v rest ∧ as = done ++ rest ∧ StepsAt H' sp E' done ∧ n = rest.length,
          ⟨as.length, _, _, _, t, .snk, as, [], rfl, ex_upd ps.ex hsp0, ps.fd.ex e2, e2 _ _ (ps.ex _ _ ht), way, rfl, ⟨[], upd_same, .nil⟩, rfl⟩, ?_⟩
        rintro n σ' H2 ⟨x6, x7, x10, na, v, rest, done, rfl, ex2, fd2, hna, way2, eas, ⟨ts, ht1, ht2⟩, rfl⟩
        have okv : okN v := by
          cases way2 with
          | nil => trivial
          | cons hne h ih =>
            obtain ⟨r, _, hr1, _, hr2, _⟩ := ps.B.par _ _ _ h hne
            rw [← hr2]
            obtain ⟨i, b⟩ := r
            cases b with
            | true => exact (fl.ok i hr1).2
            | false => exact (fl.ok i hr1).1
        refine ⟨_, rfl, _, rfl, nk_ne hna (ex2 _ _ hs) okv trivial ?_⟩
        cases way2 with
        | nil =>
          refine ⟨false, bl_nt rfl, iteF ?_⟩
          rw [List.append_nil] at eas
          subst eas
          exact ⟨_, rfl, q sp H2 F _ pot hsp0 ex2 hpot ps.B C0 way ⟨ts, ht1, ht2⟩⟩
        | @cons _ d r rest' hne h ih =>
          refine ⟨true, bl_nf hne, iteT ⟨_, fun σ' H' h => h, ?_⟩⟩
          have hv : v ∈ vs := (fd2.dom v).mpr (by rw [h]; rfl)
          have hT := fd2.val v hv d (some r) h
          have hlen : done.length < 2000 := by
            have := congrArg List.length eas
            rw [List.length_append, List.length_cons] at this
            omega
          refine ⟨_, rfl, _, rfl, p, _, rfl, tk (.inl fd2.d) hna hv, _, _, rfl, sqt hT, rfl, _, _, rfl, _, _, rfl, _, _, rfl, rfl, ?_⟩
          refine ⟨_, rfl, .inl ⟨rfl, _, sql ht1⟩, _, rfl, _, rfl, le2', fun tt htt => ⟨sp, _, _, rfl, rfl, (upd_ne (fresh_ne ht1 htt).symm).trans ht1, ?_, ?_⟩⟩
          · rw [List.length_map, Paired.length ht2]; exact sz_lt (by omega)
          have k1 : KIT H2 (upd H2 tt (.tup [.ref (E' r.1), .int (sg r.2)])) := KIT.of (Ex.new htt)
          have hspl : (upd H2 tt (.tup [.ref (E' r.1), .int (sg r.2)])) sp = some (.lst (ts.map V.ref)) := (upd_ne (fresh_ne ht1 htt).symm).trans ht1
          have k2 := k1.trans (KIT.updL (o := .lst (ts.map V.ref ++ [.ref tt])) hspl)
          have nps : p ≠ sp := ne_Tl fd2.d ht1
          have npt : p ≠ tt := (fresh_ne fd2.d htt).symm
          have hn0 : H tt = none := no_of ex2 htt
          have ex3 : Ex H (upd (upd H2 tt (.tup [.ref (E' r.1), .int (sg r.2)])) sp (.lst (ts.map V.ref ++ [.ref tt]))) := ex_upd (ex_upd ex2 hn0) hsp0
          have fd3 := fd2.kit k2 ((upd_ne nps).trans (upd_ne npt))
          have st3 : StepsAt (upd (upd H2 tt (.tup [.ref (E' r.1), .int (sg r.2)])) sp (.lst (ts.map V.ref ++ [.ref tt]))) sp E' (done ++ [r]) := by
            refine ⟨ts ++ [tt], by rw [List.map_append]; exact upd_same, paired_snoc (Paired.mapP ht2 fun _ _ h => k2.t _ _ h) ?_⟩
            exact (upd_ne (fresh_ne ht1 htt)).trans upd_same
          obtain ⟨rr, hrr, hr1, _, hr2, _⟩ := ps.B.par _ _ _ h hne
          cases hrr
          obtain ⟨de, bb, ee, h1, h2, h3⟩ := ((fl.at_ r.1 hr1).ex ex2).kit k2
          have eas2 : as = (done ++ [r]) ++ rest' := by rw [eas, List.append_assoc]; rfl
          obtain ⟨ri, rb⟩ := r
          cases rb with
          | true =>
            refine ⟨_, rfl, rfl, true, bl_t rfl, iteT ⟨_, rfl, _, _, de, _, _, rfl, h1, T.c_Edge, T.a_Edge_begin, rfl, ?_⟩⟩
            exact ⟨rest'.length, by rw [List.length_cons]; omega, _, _, _, bb, _, rest', done ++ [(ri, true)], rfl, ex3, fd3, h2, ih, eas2, st3, rfl⟩
          | false =>
            refine ⟨_, rfl, rfl, false, bl_f (fun h => by injection h with h; have h : (-1 : Int) = 1 := h; omega), iteF ⟨_, rfl, _, _, de, _, _, rfl, h1, T.c_Edge, T.a_Edge_end, rfl, ?_⟩⟩
            exact ⟨rest'.length, by rw [List.length_cons]; omega, _, _, _, ee, _, rest', done ++ [(ri, false)], rfl, ex3, fd3, h3, ih, eas2, st3, rfl⟩
/-! ### Flow.fill -/
open K55M (push)
/-- all but the edges stands -/
def ExE (E : LB → Addr) (ls : List LB) (H H' : Hp) : Prop := ∀ b o, (∀ i ∈ ls, E i ≠ b) → H b = some o → H' b = some o
theorem ExE.refl (E : LB → Addr) (ls : List LB) (H : Hp) : ExE E ls H H := fun _ _ _ h => h
theorem ExE.ex {E : LB → Addr} {ls : List LB} {H H1 H2 : Hp} (a : ExE E ls H H1) (e : Ex H1 H2) : ExE E ls H H2 := fun b o n h => e _ _ (a b o n h)
theorem ExE.set {E : LB → Addr} {ls : List LB} {H H1 : Hp} (a : ExE E ls H H1) {i : LB} (hi : i ∈ ls) {o : HO} : ExE E ls H (upd H1 (E i) o) := fun b u n h => by
  rw [upd_ne (fun e => n i hi e.symm)]; exact a b u n h
theorem FlowAt.nodeE {K : PySem.W.Frag} {H : Hp} {x dx el nd : Addr} {E : LB → Addr} {G : NET} {ls : List LB} {f : LB → Int} {many : Int} (fl : FlowAt K H x dx el nd E G ls f many) {a : Addr} {xs : List V} (h : H a = some (.tup xs)) : ∀ i ∈ ls, E i ≠ a := fun i hi e => by
  obtain ⟨_, _, _, h1, _⟩ := fl.at_ i hi
  rw [e, h] at h1
  cases h1
theorem FlowAt.set {K : PySem.W.Frag} {H : Hp} {x dx el nd : Addr} {E : LB → Addr} {G : NET} {ls : List LB} {f : LB → Int} {many : Int} (fl : FlowAt K H x dx el nd E G ls f many) {i : LB} (hi : i ∈ ls) {de bb ee : Addr}
    (h1 : H (E i) = some (.ins (He.ga K "Edge") de [("begin", .ref bb), ("end", .ref ee), ("low", .int (G.lo i)), ("high", .int (G.hi i)), ("price", .int (G.pr i)), ("amount", .int (f i))])) (h2 : NdAt H bb (G.bg i)) (h3 : NdAt H ee (G.en i)) (v : Int) :
    FlowAt K (upd H (E i) (.ins (He.ga K "Edge") de [("begin", .ref bb), ("end", .ref ee), ("low", .int (G.lo i)), ("high", .int (G.hi i)), ("price", .int (G.pr i)), ("amount", .int v)])) x dx el nd E G ls (fun j => if j = i then v else f j) many := by
  have tu : ∀ {a : Addr} {u : ND}, NdAt H a u → NdAt (upd H (E i) (.ins (He.ga K "Edge") de [("begin", .ref bb), ("end", .ref ee), ("low", .int (G.lo i)), ("high", .int (G.hi i)), ("price", .int (G.pr i)), ("amount", .int v)])) a u := fun {a u} h => (upd_ne (fun e => fl.nodeE h i hi e.symm)).trans h
  refine ⟨(upd_ne fun e => ?_).trans fl.o, (upd_ne fun e => ?_).trans fl.e, (upd_ne fun e => ?_).trans fl.n, fun j hj => ?_, fl.inj, fl.ok⟩
  · have := fl.o
    rw [e, h1] at this
    simp at this
  · have := fl.e
    rw [e, h1] at this
    cases this
  · have this : H nd = some (.dT _) := fl.n
    rw [e, h1] at this
    cases this
  · by_cases q : j = i
    · subst q
      rw [if_pos rfl]
      exact ⟨de, bb, ee, upd_same, tu h2, tu h3⟩
    · rw [if_neg q]
      obtain ⟨d', b', e', g1, g2, g3⟩ := fl.at_ j hj
      exact ⟨d', b', e', (upd_ne (fun e => q (fl.inj j hj i hi e))).trans g1, tu g2, tu g3⟩
theorem forr {g : TG} {D : Ends} {tb : TS} {lo : Int} {n : Nat} {σ : L2.St} {H : Hp} (Pv : Nat → L2.St → Hp → Prop) (h0 : Pv 0 σ H) (turn : ∀ i σ' H', i < n → Pv i σ' H' → g (.int (lo + i)) σ' H' fun σ2 H2 => tb ⟨Pv (i + 1), D.rt, D.nx, Pv (i + 1)⟩ σ2 H2) (hE : ∀ σ' H', Pv n σ' H' → D.nx σ' H') :
    ∃ W : Nat → Nat → L2.St → Hp → Prop, (∃ m, W 0 m σ H) ∧ ∀ i m σ H, W i m σ H →
      ((Itr lo n).stop i H ∧ D.nx σ H) ∨ ((Itr lo n).go i H ∧ ∃ N : L2.St → Hp → Prop, (∀ σ' H', N σ' H' → ∃ m', m' < m ∧ W (i + 1) m' σ' H') ∧ ∀ x H', (Itr lo n).yld i H x H' → g x σ H' fun σ2 H2 => tb { D with nx := N, ct := N, bk := D.nx } σ2 H2) := by
  refine ⟨fun i m σ' H' => m = n - i ∧ i ≤ n ∧ Pv i σ' H', ⟨n, by simp, Nat.zero_le _, h0⟩, ?_⟩
  rintro i m σ' H' ⟨rfl, hi, p⟩
  by_cases hlt : i < n
  · refine .inr ⟨hlt, Pv (i + 1), fun σ2 H2 p' => ⟨n - (i + 1), by omega, rfl, hlt, p'⟩, fun x H1 y => ?_⟩
    obtain ⟨rfl, rfl⟩ := y
    exact turn i σ' H1 hlt p
  · have ei : i = n := by omega
    subst ei
    exact .inl ⟨Nat.le_refl _, hE σ' H' p⟩
def spFlowFill (K : PySem.W.Frag) : Sp := fun vs H Q _ => ∃ (G : NET) (x dx el nd s t : Addr) (E : LB → Addr) (ls : List LB) (g : LB → Int) (n : Nat), vs = [.ref x, .ref s, .ref t, .int G.big] ∧
  FlowAt K H x dx el nd E G ls (fun _ => 0) n ∧ NdAt H s .src ∧ NdAt H t .snk ∧ ls.length ≤ 2000 ∧ ls.Nodup ∧ n ≤ 1000 ∧ 0 ≤ G.big ∧ FlowOk G ls .src .snk (fun _ => 0) 0 ∧ Plan G ls .src .snk g n ∧ (∀ i ∈ ls, 0 ≤ G.lo i) ∧
  ∀ H' f, ExE E ls H H' → FlowAt K H' x dx el nd E G ls f n → FlowOk G ls .src .snk f n → Q .non H'
theorem sc_Flow_fill : FnScope ["self", "source", "sink", "big", "turn", "steps", "edge", "change"] ["self", "source", "sink", "big"] (defScope s_Flow_fill) := ⟨rfl, rfl, rfl, by decide +kernel, rfl, by decide +kernel, by decide +kernel⟩
theorem ok_Flow_fill (T : Txt K mg) : EntM P w K mg base CX0 3 (He.ga K "Flow") "fill" ["self", "source", "sink", "big"] (spFlowFill K) := by
  obtain ⟨fd, F⟩ := T.f_Flow_fill
  have em_Flow_way := ok_Flow_way (P := P) (w := w) (base := base) T
  refine EntM.mk' T.m_Flow_fill F (FunD.ok0 F sc_Flow_fill (fun vs H Q E h => ?_) (fun cdv A outer s H vs Q E hr h => ?_)) (fun _ _ _ _ _ _ us hl => match us, hl with | [_, _, _, _], _ => rfl)
  · obtain ⟨G, x, dx, el, nd, s, t, E', ls, g, n, rfl, fl, hs, ht, n2, ndl, n1, hbig, W0, Pl, hlo, q⟩ := h
    rfl
  · obtain ⟨G, x, dx, el, nd, s, t, E', ls, g, n, rfl, fl, hs, ht, n2, ndl, n1, hbig, W0, Pl, hlo, q⟩ := h
    refine ⟨_, (pss_one (ps_for PassesOwn.never rfl (pi_range1 rfl T.n_range (pa_cons (pe_fldK (K := K) rfl (pv 0) rfl) pa_nil)) (pg_name (i := 4) sc_Flow_fill.nd rfl (Or.inl rfl)) (pss_cons (ps_set (i := 5) sc_Flow_fill.nd rfl (Or.inl rfl) (pe_em em_Flow_way T.c_Flow (pv 0) (hr.mono (by decide)) pass0 (pa_cons (pv 1) (pa_cons (pv 2) (pa_cons (pv 3) pa_nil)))))
      (pss_one (ps_for PassesOwn.never rfl (pi_listK (K := K) rfl (pv 5)) (pg_tup rfl (pgs_cons (pg_name (i := 6) sc_Flow_fill.nd rfl (Or.inl rfl)) (pgs_cons (pg_name (i := 7) sc_Flow_fill.nd rfl (Or.inl rfl)) pgs_nil))) (pss_one (ps_fldaug (pv 6) (pv 7) in_add))))))), ?_⟩
    refine ⟨_, rfl, x, _, dx, _, _, rfl, fl.o, T.c_Flow, T.a_Flow_many, rfl, _, rfl, by omega, by omega, ?_⟩
    rw [Int.toNat_natCast]
    refine forr (fun k σ' H' => (∃ x4 x5 x6 x7, σ' = [some (V.ref x), some (.ref s), some (.ref t), some (.int G.big), x4, x5, x6, x7]) ∧ ∃ f, ExE E' ls H H' ∧ FlowAt K H' x dx el nd E' G ls f n ∧ FlowOk G ls .src .snk f k) ⟨⟨_, _, _, _, rfl⟩, _, ExE.refl _ _ _, fl, W0⟩ (fun k σ' H' hk pv => ?_) fun σ' H' pv => ?_
    · obtain ⟨⟨x4, x5, x6, x7, rfl⟩, f, ee, flk, Wk⟩ := pv
      have hs' := ee _ _ (fl.nodeE hs) hs
      have ht' := ee _ _ (fl.nodeE ht) ht
      refine ⟨_, rfl, x, dx, _, rfl, flk.o, rfl, _, rfl, _, rfl, _, rfl, G, x, dx, el, nd, s, t, E', ls, f, g, n, k, n, rfl, flk, hs', ht', n2, Wk, by omega, Pl, hlo, fun p H2 F as pot hp e2 hf B C way st => ?_⟩
      have was := way.arcs B C
      have W2 := Wk.more ndl hbig hf B C way
      obtain ⟨ts, hp2, hts⟩ := st
      refine forl (td := tVar 5) (sql hp2) (fun H1 Q' q' => ⟨_, rfl, q'⟩) (fun j σ' H' => (∃ x4 x6 x7, σ' = [some (V.ref x), some (.ref s), some (.ref t), some (.int G.big), x4, some (.ref p), x6, x7]) ∧ ExE E' ls H H' ∧ FlowAt K H' x dx el nd E' G ls (push f (as.take j)) n ∧ H' p = some (.lst (ts.map V.ref)) ∧
          Paired (fun t (r : Arc LB) => H' t = some (.tup [.ref (E' r.1), .int (sg r.2)])) ts as) ⟨⟨_, _, _, rfl⟩, ee.ex e2, flk.ex e2, hp2, hts⟩ (fun j σ' H' pv => sql pv.2.2.2.1) (fun j v σ' H' hx pv => ?_) fun σ' H' pv => ?_
      · obtain ⟨⟨x4, x6, x7, rfl⟩, ee', flj, hp3, hts3⟩ := pv
        rw [List.getElem?_map] at hx
        cases hz : ts[j]? with
        | none => rw [hz] at hx; cases hx
        | some tj =>
        rw [hz] at hx
        cases hx
        obtain ⟨r, hr, hT⟩ := paired_at hts3 hz
        have hrl := (was r (mem_of_at hr)).1
        obtain ⟨de, bb, e3, h1, h2, h3⟩ := flj.at_ r.1 hrl
        refine ⟨tj, _, rfl, sqt hT, rfl, _, _, rfl, _, _, rfl, rfl, ?_⟩
        refine ⟨_, rfl, _, _, de, _, _, rfl, h1, T.c_Edge, T.a_Edge_amount, rfl, _, rfl, _, _, rfl, rfl, _, _, h1, (of_decide_eq_true (by rfl)), ⟨_, _, _, rfl⟩, ee'.set hrl, ?_, ?_, ?_⟩
        · have := flj.set hrl h1 h2 h3 (push f (as.take j) r.1 + sg r.2)
          rw [take_succ_at hr, K55M.push_append]
          exact this
        · exact (upd_ne (fun e => by rw [← e] at h1; rw [h1] at hp3; cases hp3)).trans hp3
        · exact Paired.mapP hts3 fun a r' h => (upd_ne (fun e => by rw [e, h1] at h; cases h)).trans h
      · obtain ⟨⟨x4, x6, x7, rfl⟩, ee', flj, hp3, hts3⟩ := pv
        rw [List.length_map, Paired.length hts, List.take_of_length_le (Nat.le_refl _)] at flj
        exact ⟨⟨_, _, _, _, rfl⟩, _, ee', flj, W2⟩
    · obtain ⟨⟨x4, x5, x6, x7, rfl⟩, f, ee, flk, Wk⟩ := pv
      exact q H' f ee flk Wk
end
end K55


set_option Elab.async false
set_option linter.all false
set_option maxRecDepth 100000
set_option maxHeartbeats 4000000
namespace K55
open PySem PySem.Spec PyProof.Rows L2 Evl
open K55M (Nd Lb Net Arc Fnd Lay FlowOk Plan Ds Tame su)
/-- name = {v: c for v in nodes} -/
theorem dcn {σ : L2.St} {H : Hp} {D : Ends} {tk tv td : TE} {js : List Nat} {a : Addr} {vs : List ND} {g : ND → V} {i : Nat} {ga : TG} (h : KT H a vs g) (ndv : vs.Nodup) (hn : vs.length ≤ 40000) (hd : ∀ od (Q' : VK), Q' (.ref a) (upd H a (.frz od (.dT (kt vs g)))) → td σ (upd H a (.frz od (.dT (kt vs g)))) Q') (gv : ND → V)
    (turn : ∀ v ∈ vs, ∀ q H1, NdAt H1 q v → ∀ (Q : V → V → Hp → Prop), Q (.ref q) (gv v) H1 →
      wipe ((wipe σ js).set i (some (.ref q))) js = wipe σ js ∧ tk ((wipe σ js).set i (some (.ref q))) H1 fun y H4 => tv ((wipe σ js).set i (some (.ref q))) H4 fun z H5 => Q y z H5)
    (k : ∀ p H2 od, H p = none → Ex H (upd H2 a (.dT (kt vs g))) → KT (upd H2 a (.dT (kt vs g))) p vs gv → H2 a = some (.frz od (.dT (kt vs g))) →
      ga (.ref p) σ H2 fun σ' H' => H' a = some (.frz od (.dT (kt vs g))) ∧ D.nx σ' (upd H' a (.dT (kt vs g)))) : tLock (tAsg (tDcT (iKeys td) (gName i) tYes tk tv js) ga) D σ H := by
  refine ⟨a, _, h, True.intro, fun od => ?_⟩
  refine hd od _ ⟨a, od, rfl, .inr ⟨kt vs g, upd_same, fun D' hD => ?_⟩⟩
  have hDa : D' ≠ a := fun e => by rw [e, upd_same] at hD; cases hD
  have hD0 : H D' = none := by rw [upd_ne hDa] at hD; exact hD
  refine ⟨fun i m H' => m = vs.length - i ∧ i ≤ vs.length ∧ Ex (upd H a (.frz od (.dT (kt vs g)))) H' ∧ KT H' D' (vs.take i) gv, ⟨vs.length, by simp, Nat.zero_le _, Ex.new hD, upd_same⟩, ?_⟩
  rintro j m H' ⟨rfl, hi, e, hys⟩
  have hl := e _ _ upd_same
  by_cases hlt : j < vs.length
  · refine .inr ⟨⟨hl, by rw [kt_len]; exact hlt⟩, fun H2 => Ex (upd H a (.frz od (.dT (kt vs g)))) H2 ∧ KT H2 D' (vs.take (j + 1)) gv, fun H2 p => ⟨vs.length - (j + 1), by omega, rfl, hlt, p⟩, fun x H2 y => ?_⟩
    obtain ⟨rfl, k', v', q, hk, rfl, hq⟩ := y
    unfold kt at hk
    rw [List.getElem?_map, List.getElem?_eq_getElem hlt] at hk
    cases hk
    have hz : vs[j]? = some vs[j] := List.getElem?_eq_getElem hlt
    have hnot := not_mem_take ndv hz
    obtain ⟨w1, w2⟩ := turn vs[j] (List.getElem_mem hlt) q H2 hq (fun y z H5 => ∃ kvs k a', y = .ref a' ∧ H5 a' = some (.tup (k.map kV)) ∧ H5 D' = some (.dT kvs) ∧ kvs.length < sizeLine ∧ (Ex (upd H a (.frz od (.dT (kt vs g)))) (upd H5 D' (.dT (putK kvs k z))) ∧ KT (upd H5 D' (.dT (putK kvs k z))) D' (vs.take (j + 1)) gv)) (by
      refine ⟨_, nk vs[j], q, rfl, hq, hys, ?_, fun b o hb => ?_, ?_⟩
      · rw [kt_len, List.length_take]; exact sz_lt (by omega)
      · rw [upd_ne (ne_of_none hb hD)]
        exact e b o hb
      · refine upd_same.trans (congrArg some (congrArg HO.dT ?_))
        rw [putK_kt_new _ hnot, take_succ_at hz]
        refine kt_congr fun u hu => ?_
        by_cases eu : u = vs[j]
        · rw [if_pos eu, eu]
        · rw [if_neg eu])
    refine ⟨w1, ?_⟩
    unfold tYes
    exact iteT w2
  · have ei : j = vs.length := by omega
    subst ei
    rw [List.take_of_length_le (Nat.le_refl _)] at hys
    refine .inl ⟨⟨hl, by rw [kt_len]; exact Nat.le_refl _⟩, k D' H' od hD0 (ex_unlock h e) ?_ hl⟩
    exact (upd_ne hDa).trans hys
def ArcOk (G : NET) (f : LB → Int) (x : ND → Int) (r : LB × Bool) : Prop := if r.2 = true then (f r.1 < G.hi r.1 → x (G.bg r.1) ≤ x (G.en r.1) + G.pr r.1) else (G.lo r.1 < f r.1 → x (G.en r.1) ≤ x (G.bg r.1) - G.pr r.1)
structure DSt (H : Hp) (G : NET) (ls : List LB) (f : LB → Int) (p : Addr) (most M0 : Int) (n : Nat) (D : LB × Bool → Prop) (ag : Bool) (x : ND → Int) (H' : Hp) : Prop where
  ex : Ex H H'
  d : KT H' p (ndsOf G ls) (fun v => .int (x v))
  ds : Ds (G.arc ls f) .snk most x
  s : x .snk ≤ 0
  up : ∀ v, x v ≤ most
  le : su (ndsOf G ls) (fun v => x v + n) ≤ M0
  lt : ag = true → su (ndsOf G ls) (fun v => x v + n) < M0
  cl : ag = false → ∀ r, D r → ArcOk G f x r
section
variable {H H' : Hp} {G : NET} {ls : List LB} {f : LB → Int} {p : Addr} {most M0 : Int} {n : Nat} {D : LB × Bool → Prop} {ag : Bool} {x : ND → Int}
theorem DSt.mono {D' : LB × Bool → Prop} (h : DSt H G ls f p most M0 n D ag x H') (hd : ∀ r, D' r → D r) : DSt H G ls f p most M0 n D' ag x H' := ⟨h.ex, h.d, h.ds, h.s, h.up, h.le, h.lt, fun ha r hr => h.cl ha r (hd r hr)⟩
theorem DSt.skip (h : DSt H G ls f p most M0 n D ag x H') {r : LB × Bool} (hn : ArcOk G f x r) : DSt H G ls f p most M0 n (fun r' => D r' ∨ r' = r) ag x H' := ⟨h.ex, h.d, h.ds, h.s, h.up, h.le, h.lt, fun ha r' hr' => by
  rcases hr' with hr' | hr'
  · exact h.cl ha r' hr'
  · rw [hr']; exact hn⟩
theorem DSt.step (h : DSt H G ls f p most M0 n D ag x H') (hp : H p = none) {u v : ND} {c : Int} (ha : G.arc ls f u v c) (hu : u ∈ ndsOf G ls) (hlt : x v + c < x u) {D' : LB × Bool → Prop} :
    DSt H G ls f p most M0 n D' true (fun y => if y = u then x v + c else x y) (upd H' p (.dT (kt (ndsOf G ls) fun j => if j = u then V.int (x v + c) else .int (x j)))) := by
  have lt2 : su (ndsOf G ls) (fun y => (if y = u then x v + c else x y) + (n : Int)) < su (ndsOf G ls) (fun v => x v + n) := by
    refine K55M.su_lt _ _ _ (fun y _ => ?_) u hu ?_
    · by_cases e : y = u
      · rw [if_pos e, e]; omega
      · rw [if_neg e]; exact Int.le_refl _
    · rw [if_pos rfl]; omega
  have := h.le
  refine ⟨ex_upd h.ex hp, upd_same.trans (congrArg some (congrArg HO.dT (kt_congr fun y _ => ?_))), h.ds.put ha, ?_, fun y => ?_, by omega, fun _ => by omega, fun h => by cases h⟩
  · by_cases e : y = u
    · rw [if_pos e, if_pos e]
    · rw [if_neg e, if_neg e]
  · have := h.s
    by_cases e : (Nd.snk : ND) = u
    · rw [if_pos e]; rw [e] at this; omega
    · rw [if_neg e]; exact this
  · have := h.up u
    by_cases e : y = u
    · rw [if_pos e]; omega
    · rw [if_neg e]; exact h.up y
end
section
variable {P : Program} {w : World} {K : PySem.W.Frag} {mg : Str → Option Value} {base : Heap}
def spFlowDist (K : PySem.W.Frag) : Sp := fun vs H Q _ => ∃ (G : NET) (x dx el nd t : Addr) (E : LB → Addr) (ls : List LB) (f : LB → Int) (many most : Int) (S : List ND), vs = [.ref x, .ref t, .int most] ∧
  FlowAt K H x dx el nd E G ls f many ∧ NdAt H t .snk ∧ ls.length ≤ 2000 ∧ Tame (G.arc ls f) S ∧ (S.length : Int) ≤ most ∧ .snk ∈ ndsOf G ls ∧
  ∀ p H' (y : ND → Int), H p = none → Ex H H' → KT H' p (ndsOf G ls) (fun v => .int (y v)) → (∀ u v c, G.arc ls f u v c → y u ≤ y v + c) → y .snk = 0 → (∀ v, -(S.length : Int) ≤ y v ∧ y v ≤ most) → Q (.ref p) H'
theorem sc_Flow_distances : FnScope ["self", "sink", "most", "found", "node", "again", "edge"] ["self", "sink", "most"] (defScope s_Flow_distances) := ⟨rfl, rfl, rfl, by decide +kernel, rfl, by decide +kernel, by decide +kernel⟩
theorem ok_Flow_distances (T : Txt K mg) : EntM P w K mg base CX0 1 (He.ga K "Flow") "distances" ["self", "sink", "most"] (spFlowDist K) := by
  obtain ⟨fd, F⟩ := T.f_Flow_distances
  refine EntM.mk' T.m_Flow_distances F (FunD.ok0 F sc_Flow_distances (fun vs H Q E h => ?_) (fun cdv A outer s H vs Q E hr h => ?_)) (fun _ _ _ _ _ _ us hl => match us, hl with | [_, _, _], _ => rfl)
  · obtain ⟨G, x, dx, el, nd, t, E', ls, f, many, most, S, rfl, fl, ht, n2, tame, hS, hsnk, q⟩ := h
    rfl
  · obtain ⟨G, x, dx, el, nd, t, E', ls, f, many, most, S, rfl, fl, ht, n2, tame, hS, hsnk, q⟩ := h
    refine ⟨_, (pss_cons (ps_lock (ps_setDcT (i := 3) (own := [("node", 4)]) (g := gName 4) (tt := tYes) (hu_of hr) rfl sc_Flow_distances.nd rfl rfl (sw_trueD rfl rfl rfl (by decide +kernel)) (pi_keys (pe_fldK (K := K) rfl (pv 0) rfl)) (blkOk_by (N := ["self", "sink", "most", "found", "node", "again", "edge"]) (sc := defScope s_Flow_distances) (by decide +kernel)) (fun _ _ _ _ _ => (pg_name (i := 4) sc_Flow_distances.nd rfl (Or.inl rfl))) (fun _ _ _ _ _ => pts_nil) (fun _ _ _ _ _ => (pv 4)) (fun _ _ _ _ _ => (pv 2))))
      (pss_cons (ps_dput (hu_of hr) (pv 3) (pv 1) pe_int rfl)
      (pss_cons (ps_set (i := 5) sc_Flow_distances.nd rfl (Or.inl rfl) pe_bl)
      (pss_cons (ps_while PassesOwn.never (pt_val (pv 5)) (pss_cons (ps_set (i := 5) sc_Flow_distances.nd rfl (Or.inl rfl) pe_bl)
      (pss_one (ps_for PassesOwn.never rfl (pi_listK (K := K) rfl (pe_fldK (K := K) rfl (pv 0) rfl)) (pg_name (i := 6) sc_Flow_distances.nd rfl (Or.inl rfl)) (pss_cons (ps_if (PW.pt (pw_and (pt_cmpR op_lt (pe_fldK (K := K) rfl (pv 6) rfl) (pe_fldK (K := K) rfl (pv 6) rfl) (nomark _)) (pw_and1 (pt_cmpR op_lt (pe_op op_add (pe_dget (hu_of hr) (pv 3) (pe_fldK (K := K) rfl (pv 6) rfl) (fun _ _ => rfl)) (pe_fldK (K := K) rfl (pv 6) rfl)) (pe_dget (hu_of hr) (pv 3) (pe_fldK (K := K) rfl (pv 6) rfl) (fun _ _ => rfl)) (nomark _))))) (pss_cons (ps_dput (hu_of hr) (pv 3) (pe_fldK (K := K) rfl (pv 6) rfl) (pe_op op_add (pe_dget (hu_of hr) (pv 3) (pe_fldK (K := K) rfl (pv 6) rfl) (fun _ _ => rfl)) (pe_fldK (K := K) rfl (pv 6) rfl)) rfl)
      (pss_one (ps_set (i := 5) sc_Flow_distances.nd rfl (Or.inl rfl) pe_bl))) pss_nil)
      (pss_one (ps_if (PW.pt (pw_and (pt_cmpR op_gt (pe_fldK (K := K) rfl (pv 6) rfl) (pe_fldK (K := K) rfl (pv 6) rfl) (nomark _)) (pw_and1 (pt_cmpR op_lt (pe_op op_sub (pe_dget (hu_of hr) (pv 3) (pe_fldK (K := K) rfl (pv 6) rfl) (fun _ _ => rfl)) (pe_fldK (K := K) rfl (pv 6) rfl)) (pe_dget (hu_of hr) (pv 3) (pe_fldK (K := K) rfl (pv 6) rfl) (fun _ _ => rfl)) (nomark _))))) (pss_cons (ps_dput (hu_of hr) (pv 3) (pe_fldK (K := K) rfl (pv 6) rfl) (pe_op op_sub (pe_dget (hu_of hr) (pv 3) (pe_fldK (K := K) rfl (pv 6) rfl) (fun _ _ => rfl)) (pe_fldK (K := K) rfl (pv 6) rfl)) rfl)
      (pss_one (ps_set (i := 5) sc_Flow_distances.nd rfl (Or.inl rfl) pe_bl))) pss_nil)))))))
      (pss_one (ps_ret (pv 3))))))), ?_⟩
    have l0 := ndsOf_len G ls
    have nxn : x ≠ nd := fun e => by
      have h1 : H nd = some (.dT _) := fl.n
      rw [← e, fl.o] at h1
      cases h1
    refine dcn fl.n (ndsOf_nodup G ls) (by omega) (fun od Q' q' => ⟨_, rfl, x, _, dx, _, _, rfl, (upd_ne nxn).trans fl.o, T.c_Flow, T.a_Flow_nodes, rfl, q'⟩) (fun _ => .int most) (fun v hv q' H1 hq Q2 h2 => ⟨rfl, ⟨_, rfl, _, rfl, h2⟩⟩) fun p H2 od hp e2 h2 hl2 => ⟨hl2, ?_⟩
    generalize upd H2 nd (.dT (kt (ndsOf G ls) fun _ => .bl true)) = H3 at e2 h2
    refine ⟨_, rfl, _, rfl, p, _, rfl, tp h2 (e2 _ _ ht) hsnk (by omega), ?_⟩
    dsimp only [tSeq_ap, tAsg_ap, gName_ap, tC_ap, tNext_ap, tRet_ap, tAndV_ap, tCB_ap, tCons_ap, tNil_ap, tB_ap, tTest_ap, tNot_ap, tOr_ap, tAnd_ap, tIfS_ap, tOp_ap, tDrop_ap]
    have d0 : ∀ M0, su (ndsOf G ls) (fun v => (if v = Nd.snk then 0 else most) + (S.length : Int)) < M0 → ∀ D, DSt H G ls f p most M0 S.length D true (fun v => if v = Nd.snk then 0 else most) (upd H3 p (.dT (kt (ndsOf G ls) fun j => if j = Nd.snk then V.int 0 else .int most))) := fun M0 hM D => by
      refine ⟨ex_upd e2 hp, upd_same.trans (congrArg some (congrArg HO.dT (kt_congr fun y _ => ?_))), Ds.start _ _, by rw [if_pos rfl]; exact Int.le_refl _, fun v => by split <;> omega, by omega, fun _ => hM, fun h => by cases h⟩
      by_cases e : y = Nd.snk
      · rw [if_pos e, if_pos e]
      · rw [if_neg e, if_neg e]
    have nn : ∀ (y : ND → Int), Ds (G.arc ls f) .snk most y → 0 ≤ su (ndsOf G ls) (fun v => y v + (S.length : Int)) := fun y D => K55M.su_nonneg _ _ fun v _ => by have := D.low tame hS v; omega
    refine ⟨fun n σ' H' => ∃ ag x6 M0 y, σ' = [some (V.ref x), some (.ref t), some (.int most), some (.ref p), none, some (.bl ag), x6] ∧
      DSt H G ls f p most M0 S.length (fun r => r.1 ∈ ls) ag y H' ∧ n = (su (ndsOf G ls) (fun v => y v + (S.length : Int))).toNat + (if ag = true then 1 else 0), ⟨_, true, none, _, _, rfl, d0 _ (Int.lt_succ _) _, rfl⟩, ?_⟩
    rintro n σ' H' ⟨ag, x6, M0, y, rfl, ps, rfl⟩
    refine ⟨_, rfl, ag, rfl, ?_⟩
    cases ag with
    | true =>
      refine iteT ⟨_, fun σ' H' h => h, ?_⟩
      dsimp only [tSeq_ap, tAsg_ap, gName_ap, tC_ap, tNext_ap, tRet_ap, tAndV_ap, tCB_ap, tCons_ap, tNil_ap, tB_ap, tTest_ap, tNot_ap, tOr_ap, tAnd_ap, tIfS_ap, tOp_ap, tDrop_ap]
      refine forlF (sql (ps.ex _ _ fl.e)) (fun Q' q' => ⟨_, rfl, x, _, dx, _, _, rfl, ps.ex _ _ fl.o, T.c_Flow, T.a_Flow_edges, rfl, q'⟩)
        (fun i σ' H' => ∃ ag x6 y', σ' = [some (V.ref x), some (.ref t), some (.int most), some (.ref p), none, some (.bl ag), x6] ∧ DSt H G ls f p most (su (ndsOf G ls) (fun v => y v + (S.length : Int))) S.length (fun r => r.1 ∈ ls.take i) ag y' H')
        ⟨false, _, y, rfl, ⟨ps.ex, ps.d, ps.ds, ps.s, ps.up, Int.le_refl _, fun h => (by cases h), fun _ r hr => (by cases hr)⟩⟩ (fun i σ' H' pv => ?_) (fun j v σ' H' hx pv => ?_) fun σ' H' pv => ?_
      · obtain ⟨_, _, _, _, h⟩ := pv
        exact sql (h.ex _ _ fl.e)
      · obtain ⟨ag, x6', y', rfl, ps'⟩ := pv
        rw [List.getElem?_map] at hx
        cases hz : ls[j]? with
        | none => rw [hz] at hx; cases hx
        | some i =>
        rw [hz] at hx
        cases hx
        have hi := mem_of_at hz
        have hbn : G.bg i ∈ ndsOf G ls := (mem_ndsOf G _ ls).mpr ⟨i, hi, .inl rfl⟩
        have hen : G.en i ∈ ndsOf G ls := (mem_ndsOf G _ ls).mpr ⟨i, hi, .inr rfl⟩
        dsimp only [gName_ap]
        refine seq_cut (fun σ' H' => ∃ ag y', σ' = [some (V.ref x), some (.ref t), some (.int most), some (.ref p), none, some (.bl ag), some (.ref (E' i))] ∧ DSt H G ls f p most (su (ndsOf G ls) (fun v => y v + (S.length : Int))) S.length (fun r => r.1 ∈ ls.take j ∨ r = (i, true)) ag y' H') (fun σ' H' pv => ?_) (fun R hR => ?_)
        · obtain ⟨ag, y', rfl, ps'⟩ := pv
          obtain ⟨de, bb, ee, h1, h2, h3⟩ := (fl.at_ i hi).ex ps'.ex
          have dn : ∀ r : LB × Bool, r.1 ∈ ls.take (j + 1) → ((r.1 ∈ ls.take j ∨ r = (i, true)) ∨ r = (i, false)) := fun r hr => by
            rw [take_succ_at hz] at hr
            rcases List.mem_append.mp hr with hr | hr
            · exact .inl (.inl hr)
            · rw [List.mem_singleton] at hr
              obtain ⟨r1, r2⟩ := r
              have hr : r1 = i := hr
              subst hr
              cases r2 with
              | true => exact .inl (.inr rfl)
              | false => exact .inr rfl
          refine ⟨_, rfl, _, _, de, _, _, rfl, h1, T.c_Edge, T.a_Edge_amount, rfl, ?_⟩
          refine ⟨_, rfl, _, _, de, _, _, rfl, h1, T.c_Edge, T.a_Edge_low, rfl, ?_⟩
          refine ⟨_, _, rfl, rfl, ?_⟩
          by_cases hres : G.lo i < f i
          · refine ⟨true, bl_t hres, iteT ?_⟩
            refine ⟨_, rfl, _, rfl, _, _, de, _, _, rfl, h1, T.c_Edge, T.a_Edge_begin, rfl, p, _, rfl, tk (.inl ps'.d) h2 hbn, ?_⟩
            refine ⟨_, rfl, _, _, de, _, _, rfl, h1, T.c_Edge, T.a_Edge_price, rfl, _, _, rfl, rfl, ?_⟩
            refine ⟨_, rfl, _, rfl, _, _, de, _, _, rfl, h1, T.c_Edge, T.a_Edge_end, rfl, p, _, rfl, tk (.inl ps'.d) h3 hen, _, _, rfl, rfl, ?_⟩
            by_cases hlt : y' (G.bg i) - G.pr i < y' (G.en i)
            · refine ⟨true, bl_t hlt, iteT ?_⟩
              refine ⟨_, rfl, _, rfl, _, _, de, _, _, rfl, h1, T.c_Edge, T.a_Edge_begin, rfl, p, _, rfl, tk (.inl ps'.d) h2 hbn, ?_⟩
              refine ⟨_, rfl, _, _, de, _, _, rfl, h1, T.c_Edge, T.a_Edge_price, rfl, _, _, rfl, rfl, ?_⟩
              refine ⟨_, rfl, _, rfl, _, _, de, _, _, rfl, h1, T.c_Edge, T.a_Edge_end, rfl, p, _, rfl, tp ps'.d h3 hen (by omega), ?_⟩
              have harc : G.arc ls f (G.en i) (G.bg i) (- G.pr i) := ⟨i, hi, .inr ⟨hres, rfl, rfl, rfl⟩⟩
              have st := ps'.step hp harc hen (by omega) (D' := fun r => r.1 ∈ ls.take (j + 1))
              exact ⟨true, _, _, rfl, st⟩
            · refine ⟨false, bl_f hlt, iteF ?_⟩
              exact ⟨_, _, _, rfl, (ps'.skip (r := (i, false)) (fun _ => by show y' (G.en i) ≤ y' (G.bg i) - G.pr i; omega)).mono dn⟩
          · refine ⟨false, bl_f hres, iteF (iteF ?_)⟩
            exact ⟨_, _, _, rfl, (ps'.skip (r := (i, false)) (fun h => absurd h hres)).mono dn⟩
        · obtain ⟨de, bb, ee, h1, h2, h3⟩ := (fl.at_ i hi).ex ps'.ex
          refine ⟨_, rfl, _, _, de, _, _, rfl, h1, T.c_Edge, T.a_Edge_amount, rfl, ?_⟩
          refine ⟨_, rfl, _, _, de, _, _, rfl, h1, T.c_Edge, T.a_Edge_high, rfl, ?_⟩
          refine ⟨_, _, rfl, rfl, ?_⟩
          by_cases hres : f i < G.hi i
          · refine ⟨true, bl_t hres, iteT ?_⟩
            refine ⟨_, rfl, _, rfl, _, _, de, _, _, rfl, h1, T.c_Edge, T.a_Edge_end, rfl, p, _, rfl, tk (.inl ps'.d) h3 hen, ?_⟩
            refine ⟨_, rfl, _, _, de, _, _, rfl, h1, T.c_Edge, T.a_Edge_price, rfl, _, _, rfl, rfl, ?_⟩
            refine ⟨_, rfl, _, rfl, _, _, de, _, _, rfl, h1, T.c_Edge, T.a_Edge_begin, rfl, p, _, rfl, tk (.inl ps'.d) h2 hbn, _, _, rfl, rfl, ?_⟩
            by_cases hlt : y' (G.en i) + G.pr i < y' (G.bg i)
            · refine ⟨true, bl_t hlt, iteT ?_⟩
              refine ⟨_, rfl, _, rfl, _, _, de, _, _, rfl, h1, T.c_Edge, T.a_Edge_end, rfl, p, _, rfl, tk (.inl ps'.d) h3 hen, ?_⟩
              refine ⟨_, rfl, _, _, de, _, _, rfl, h1, T.c_Edge, T.a_Edge_price, rfl, _, _, rfl, rfl, ?_⟩
              refine ⟨_, rfl, _, rfl, _, _, de, _, _, rfl, h1, T.c_Edge, T.a_Edge_begin, rfl, p, _, rfl, tp ps'.d h2 hbn (by omega), ?_⟩
              have harc : G.arc ls f (G.bg i) (G.en i) (G.pr i) := ⟨i, hi, .inl ⟨hres, rfl, rfl, rfl⟩⟩
              exact hR _ _ ⟨true, _, rfl, ps'.step hp harc hbn hlt⟩
            · refine ⟨false, bl_f hlt, iteF ?_⟩
              exact hR _ _ ⟨_, _, rfl, ps'.skip (r := (i, true)) (fun _ => by show y' (G.bg i) ≤ y' (G.en i) + G.pr i; omega)⟩
          · refine ⟨false, bl_f hres, iteF (iteF ?_)⟩
            exact hR _ _ ⟨_, _, rfl, ps'.skip (r := (i, true)) (fun h => absurd h hres)⟩
      · obtain ⟨ag, x6', y', rfl, ps'⟩ := pv
        rw [List.length_map, List.take_of_length_le (Nat.le_refl _)] at ps'
        have m1 := nn y' ps'.ds
        have m2 := nn y ps.ds
        have hle := ps'.le
        refine ⟨(su (ndsOf G ls) (fun v => y' v + (S.length : Int))).toNat + (if ag = true then 1 else 0), ?_, ag, x6', _, y', rfl, ps', rfl⟩
        rw [if_pos rfl]
        cases ag with
        | true => have := ps'.lt rfl; rw [if_pos rfl]; omega
        | false => rw [if_neg (by decide)]; omega
    | false =>
      refine iteF ⟨_, rfl, q p H' y hp ps.ex ps.d (fun u v c h => ?_) ?_ fun v => ⟨ps.ds.low tame hS v, ps.up v⟩⟩
      · obtain ⟨i, hi, ⟨h1, rfl, rfl, rfl⟩ | ⟨h1, rfl, rfl, rfl⟩⟩ := h
        · exact (ps.cl rfl (i, true) hi : _ → _) h1
        · have := (ps.cl rfl (i, false) hi : _ → _) h1
          have this : y (G.en i) ≤ y (G.bg i) - G.pr i := this
          omega
      · have := ps.ds.sink tame hS
        have := ps.s
        omega
end
end K55


set_option Elab.async false
set_option linter.all false
set_option maxRecDepth 100000
set_option maxHeartbeats 4000000
namespace K55
open PySem PySem.Spec PyProof.Rows L2 Evl
section
variable {P : Program} {w : World} {K : PySem.W.Frag} {mg : Str → Option Value} {base : Heap}
/-- a history: a list of bounds -/
def HistAt (H : Hp) (h : Addr) (Bs : List Bn) : Prop := ∃ as : List Addr, H h = some (.lst (as.map V.ref)) ∧ Paired (fun a B => BndAt H a B) as Bs
theorem HistAt.ex {H H' : Hp} {h : Addr} {Bs : List Bn} (x : HistAt H h Bs) (e : Ex H H') : HistAt H' h Bs := by
  obtain ⟨as, h1, h2⟩ := x
  exact ⟨as, e _ _ h1, Paired.mapP h2 fun _ _ r => r.ex e⟩
/-- all that is asked of a deal and a history; U: the readers there may be -/
structure HOk (U L : List Str) (D : Str → Str) (Bs : List Bn) : Prop where
  dl : DlOk L D
  du : ∀ l ∈ L, D l ∈ U
  bo : ∀ B ∈ Bs, B.Ok
  bu : ∀ B ∈ Bs, ∀ r ∈ B.rs, r ∈ U
  un : U.length ≤ 20
  uw : ∀ r ∈ U, isW r = true
  b1 : 1 ≤ Bs.length
  b2 : Bs.length ≤ 12
  l : L.length ≤ 20
def NmOf (L : List Str) (D : Str → Str) (Bs : List Bn) (ns : List Str) : Prop := ns.Nodup ∧ (∀ r, r ∈ ns ↔ (∃ l ∈ L, D l = r) ∨ ∃ B ∈ Bs, r ∈ B.rs) ∧ ns.length ≤ 20
/-! ### names_of -/
def spNamesOf : Sp := fun vs H Q _ => ∃ (d h : Addr) (U L : List Str) (D : Str → Str) (Bs : List Bn), vs = [.ref d, .ref h] ∧ DlAt H d L D ∧ HistAt H h Bs ∧ HOk U L D Bs ∧
  ∀ p H' ns, H p = none → Ex H H' → NmOf L D Bs ns → H' p = some (.lst (ns.map V.str)) → Q (.ref p) H'
theorem putK_all (c : V) (xs : List Str) (y : Str) : putK (kd xs fun _ => c) (.inr y : Key) c = kd (addAll xs [y]) fun _ => c := mergeK_all c [y] xs
theorem addAll_app (xs ys zs : List Str) : addAll xs (ys ++ zs) = addAll (addAll xs ys) zs := by
  induction ys generalizing xs with
  | nil => rfl
  | cons y ys ih => exact ih _
theorem putA {H : Hp} {p : Addr} {xs : List Str} {y : Str} (h : KD H p xs fun _ => .bl true) (n : xs.length ≤ 40000) : DPut H p (.str y) (.bl true) (L2.upd H p (.dK (kd (addAll xs [y]) fun _ => .bl true))) := by
  rw [← putK_all]
  exact DPut.k (k := .inr y) h (by rw [kd_len]; exact sz_lt (by omega))
/-- {z: e for z in xs}, the list being just made -/
theorem dcsP {K : PySem.W.Frag} {σ : L2.St} {H : Hp} {Q : VK} {tk tv td : TE} {vs : List Nat} {i : Nat} (PP : List Str → Prop) (hd : ∀ Q' : VK, (∀ q1 zs H1, Ex H H1 → SqL K H1 q1 (zs.map V.str) → PP zs → Q' (.ref q1) H1) → td σ H Q') (nd : ∀ zs, PP zs → zs.Nodup) (hn : ∀ zs, PP zs → zs.length ≤ 40000) (gv : Str → V)
    (turn : ∀ zs, PP zs → ∀ z ∈ zs, ∀ H1, Ex H H1 → ∀ (Q : V → V → Hp → Prop), (∀ H4, Ex H1 H4 → Q (.str z) (gv z) H4) →
      wipe ((wipe σ vs).set i (some (.str z))) vs = wipe σ vs ∧ tk ((wipe σ vs).set i (some (.str z))) H1 fun y H4 => tv ((wipe σ vs).set i (some (.str z))) H4 fun z H5 => Q y z H5)
    (k : ∀ p H2 zs, PP zs → H p = none → Ex H H2 → KD H2 p zs gv → Q (.ref p) H2) : tDc (iList K td) (gName i) tYes tk tv vs σ H Q := by
  refine hd _ fun q1 zs H1 e1 hx pz => ?_
  exact (dcs (td := tC (.ref q1)) zs hx (nd zs pz) (hn zs pz) (fun H1 Q' q' => q') gv (fun z hz H2 e2 => turn zs pz z hz H2 (e1.trans e2)) fun p H2 hp e2 h2 => k p H2 zs pz (no_of e1 hp) (e1.trans e2) h2 : tDc (iList K (tC (.ref q1))) (gName i) tYes tk tv vs σ H1 Q)
theorem mem_hist {Bs : List Bn} {i : Nat} {B : Bn} (h : Bs[i]? = some B) : B ∈ Bs := mem_of_at h
theorem sc_names_of : FnScope ["deal", "history", "found", "reader", "bounds"] ["deal", "history"] (defScope s_names_of) := ⟨rfl, rfl, rfl, by decide +kernel, rfl, by decide +kernel, by decide +kernel⟩
theorem ok_names_of (T : Txt K mg) : Ent P w K mg base CX0 2 "names_of" ["deal", "history"] [] spNamesOf := by
  obtain ⟨fd, F⟩ := T.f_names_of
  have e_all_readers := ok_all_readers (P := P) (w := w) (base := base) T
  refine Ent.mk' T.g_names_of F (FunD.ok0 F sc_names_of (fun vs H Q E h => ?_) (fun cdv A outer s H vs Q E hr h => ?_)) (fun _ _ _ _ _ _ us hl => match us, hl with | [_, _], _ => rfl)
  · obtain ⟨d, h, U, L, D, Bs, rfl, hd, hh, ok, q⟩ := h
    rfl
  · obtain ⟨d, h, U, L, D, Bs, rfl, hd, hh, ok, q⟩ := h
    refine ⟨_, (pss_cons (ps_setDc (i := 2) (own := [("reader", 3)]) (g := gName 3) (tt := tYes) rfl sc_names_of.nd rfl rfl (sw_trueD rfl rfl rfl (by decide +kernel)) (pi_listK (K := K) rfl (pe_e e_all_readers (hr.mono (by decide)) pass0 (pa_cons (pv 0) (pa_cons pe_dnewK pa_nil)))) (blkOk_by (N := ["deal", "history", "found", "reader", "bounds"]) (sc := defScope s_names_of) (by decide +kernel)) (fun _ _ _ _ _ => (pg_name (i := 3) sc_names_of.nd rfl (Or.inl rfl))) (fun _ _ _ _ _ => pts_nil) (fun _ _ _ _ _ => (pv 3)) (fun _ _ _ _ _ => pe_bl))
      (pss_cons (ps_for PassesOwn.never rfl (pi_listK (K := K) rfl (pv 1)) (pg_name (i := 4) sc_names_of.nd rfl (Or.inl rfl)) (pss_one (ps_lock (ps_for PassesOwn.never rfl (pi_keys (pv 4)) (pg_name (i := 3) sc_names_of.nd rfl (Or.inl rfl)) (pss_one (ps_dput (hu_of hr) (pv 2) (pv 3) pe_bl rfl))))))
      (pss_one (ps_ret (pe_callB (call_sortedD rfl) (by rfl) T.n_sorted (by decide +kernel) (pa_cons (pv 2) pa_nil)))))), ?_⟩
    obtain ⟨as, hh1, hh2⟩ := hh
    have l20 := ok.l
    dsimp only [tSeq_ap, tAsg_ap, gName_ap, tC_ap, tNext_ap, tRet_ap, tAndV_ap, tCB_ap, tCons_ap, tNil_ap, tB_ap, tTest_ap, tNot_ap, tOr_ap, tAnd_ap, tIfS_ap, tOp_ap, tDrop_ap]
    refine dcsP (fun zs => AllOf L D [] zs) (fun Q' q' => ⟨_, rfl, fun b hb => ⟨d, b, L, D, [], fun _ => .non, rfl, (ex_upd (Ex.refl _) hb) _ _ hd, upd_same, List.nodup_nil, by rw [List.length_nil]; omega, fun p1 H1 zs hp1 e1 hz h1 => q' p1 zs H1 ((ex_upd (Ex.refl _) hb).trans e1) (sql h1) hz⟩⟩)
      (fun zs h => h.1) (fun zs h => by have := h.2.2.1; omega) (fun _ => .bl true) (fun zs hz z hz2 H1 e1 Q' q' => ⟨rfl, ⟨_, rfl, q' _ (Ex.refl _)⟩⟩) fun p H1 ns0 hall hp e1 h1 => ?_
    have sub0 : ∀ xs : List Str, (∀ r ∈ xs, r ∈ U) → ∀ r ∈ addAll ns0 xs, r ∈ U := fun xs hxs r hr => by
      rcases (mem_addAll r xs ns0).mp hr with hr | hr
      · rcases (hall.2.2.2 r).mp hr with hr | ⟨l, hl, rfl⟩
        · cases hr
        · exact ok.du l hl
      · exact hxs r hr
    have len0 : ∀ xs : List Str, (∀ r ∈ xs, r ∈ U) → (addAll ns0 xs).length ≤ 20 := fun xs hxs => Nat.le_trans (K55M.nodup_le _ U (addAll_nodup xs ns0 hall.1) (sub0 xs hxs)) ok.un
    have hsubB : ∀ i, ∀ r ∈ (Bs.take i).flatMap (·.rs), r ∈ U := fun i r hr => by
      obtain ⟨B, hB, hr⟩ := List.mem_flatMap.mp hr
      exact ok.bu B (List.mem_of_mem_take hB) r hr
    refine forl (td := tVar 1) (sql (e1 _ _ hh1)) (fun H1 Q' q' => ⟨_, rfl, q'⟩) (fun i σ' H' => (∃ x y, σ' = [some (V.ref d), some (.ref h), some (.ref p), x, y]) ∧ Ex H H' ∧ KD H' p (addAll ns0 ((Bs.take i).flatMap (·.rs))) (fun _ => .bl true)) ⟨⟨_, _, rfl⟩, e1, h1⟩ (fun i σ' H' pv => sql (pv.2.1 _ _ hh1)) (fun i x σ' H' hx pv => ?_) fun σ' H' pv => ?_
    · obtain ⟨⟨x3, x4, rfl⟩, e, hI⟩ := pv
      rw [List.getElem?_map] at hx
      cases hz : as[i]? with
      | none => rw [hz] at hx; cases hx
      | some a =>
      rw [hz] at hx
      cases hx
      obtain ⟨B, hB, hBa⟩ := paired_at hh2 hz
      obtain ⟨V0, hU1, hU2⟩ := hBa.ex e
      have hBa' := hBa
      obtain ⟨V1, hU3, _⟩ := hBa'
      have nap : a ≠ p := (fresh_ne hU3 hp).symm
      refine ford hU1 (fun H1 Q' q' => ⟨_, rfl, q'⟩) (fun od j σ' H2 => (∃ x y, σ' = [some (V.ref d), some (.ref h), some (.ref p), x, y]) ∧ ExB p (upd H' a (.frz od (.dK (kd B.rs fun r => .ref (V0 r))))) H2 ∧ KD H2 p (addAll ns0 ((Bs.take i).flatMap (·.rs) ++ B.rs.take j)) (fun _ => .bl true))
        (fun od => ⟨⟨_, _, rfl⟩, ExB.refl _ _, by rw [List.take_zero, List.append_nil]; exact (upd_ne nap.symm).trans hI⟩) (fun od j σ' H2 pv => pv.2.1 _ _ nap upd_same) (fun od j z σ' H2 hz2 pv => ?_) fun od σ' H2 pv => ?_
      · obtain ⟨⟨x3, x4, rfl⟩, e2, hI2⟩ := pv
        have hsu : ∀ r ∈ (Bs.take i).flatMap (·.rs) ++ B.rs.take j, r ∈ U := fun r hr => by
          rcases List.mem_append.mp hr with hr | hr
          · exact hsubB i r hr
          · exact ok.bu B (mem_of_at hB) r (List.mem_of_mem_take hr)
        have := len0 _ hsu
        refine ⟨_, rfl, _, rfl, p, _, rfl, putA hI2 (by omega), ⟨_, _, rfl⟩, e2.upd, ?_⟩
        rw [take_succ_at hz2, ← List.append_assoc, addAll_app _ _ [z]]
        exact upd_same
      · obtain ⟨⟨x3, x4, rfl⟩, e2, hI2⟩ := pv
        refine ⟨⟨_, _, rfl⟩, ((ExB.of e).trans (ex_unlockB hU1 e2 nap)).ex hp, ?_⟩
        rw [List.take_of_length_le (Nat.le_refl _)] at hI2
        rw [take_succ_at hB, List.flatMap_append]
        simp only [List.flatMap_cons, List.flatMap_nil, List.append_nil]
        exact (upd_ne nap.symm).trans hI2
    · obtain ⟨⟨x3, x4, rfl⟩, e, hI⟩ := pv
      rw [List.length_map, Paired.length hh2, List.take_of_length_le (Nat.le_refl _)] at hI
      have hsu : ∀ r ∈ Bs.flatMap (·.rs), r ∈ U := fun r hr => by
        obtain ⟨B, hB, hr⟩ := List.mem_flatMap.mp hr
        exact ok.bu B hB r hr
      have hl := len0 _ hsu
      refine ⟨_, rfl, p, _, _, rfl, .inl hI, kd_fst _ _, by omega, fun ys p3 hy1 hy2 hp3 => ?_⟩
      refine q p3 _ ys (no_of e hp3) (ex_upd e (no_of e hp3)) ⟨hy1.nodup_iff.mpr (addAll_nodup _ _ hall.1), fun r => ?_, by rw [hy1.length_eq]; exact hl⟩ upd_same
      rw [hy1.mem_iff, mem_addAll, hall.2.2.2 r, List.mem_flatMap]
      simp
end
end K55


set_option Elab.async false
set_option linter.all false
set_option maxRecDepth 100000
set_option maxHeartbeats 4000000
namespace K55
open PySem PySem.Spec PyProof.Rows L2 Evl
open K55M (cst pco InL IsMin)
/-! ### dicts of ints -/
def ki (ks : List Int) (g : Int → Int) : List (Key × V) := ks.map fun k => (Sum.inl k, V.int (g k))
theorem ki_len (ks : List Int) (g : Int → Int) : (ki ks g).length = ks.length := List.length_map _
theorem valV_ki (ks : List Int) (g : Int → Int) (k : Int) : valV (ki ks g) (.inl k : Key) = if k ∈ ks then some (.int (g k)) else none := by
  induction ks with
  | nil => rfl
  | cons x r ih =>
    show valV ((Sum.inl x, V.int (g x)) :: ki r g) (.inl k : Key) = _
    by_cases e : x = k
    · subst e
      rw [valV_pos rfl, if_pos List.mem_cons_self]
    · rw [valV_neg (fun q => e (Sum.inl.inj q)), ih]
      by_cases h : k ∈ r
      · rw [if_pos h, if_pos (List.mem_cons_of_mem _ h)]
      · rw [if_neg h, if_neg (fun q => (List.mem_cons.mp q).elim (fun z => e z.symm) h)]
theorem ki_congr {ks : List Int} {g h : Int → Int} (e : ∀ k ∈ ks, g k = h k) : ki ks g = ki ks h := List.map_congr_left fun k hk => by rw [e k hk]
abbrev KI (H : Hp) (a : Addr) (ks : List Int) (g : Int → Int) : Prop := H a = some (.dK (ki ks g))
theorem gi {H : Hp} {a : Addr} {ks : List Int} {g : Int → Int} {k : Int} (h : Rd H a (.dK (ki ks g))) (m : k ∈ ks) : DGet H a (.int k) (some (.int (g k))) := .inl ⟨_, .inl k, h, rfl, by rw [valV_ki, if_pos m]⟩
theorem pin {H : Hp} {a : Addr} {ks : List Int} {g : Int → Int} {k v : Int} (h : KI H a ks g) (m : k ∉ ks) (n : ks.length ≤ 40000) : DPut H a (.int k) (.int v) (upd H a (.dK (ki (ks ++ [k]) fun j => if j = k then v else g j))) := by
  have e : putK (ki ks g) (.inl k : Key) (.int v) = ki (ks ++ [k]) (fun j => if j = k then v else g j) := by
    rw [putK_new _ (by rw [valV_ki, if_neg m])]
    unfold ki
    rw [List.map_append]
    have e2 : ks.map (fun k' => ((Sum.inl k' : Key), V.int (g k'))) = ks.map fun j => ((Sum.inl j : Key), V.int (if j = k then v else g j)) := List.map_congr_left fun j hj => by
      rw [if_neg (fun q : j = k => m (q ▸ hj))]
    rw [e2]
    show _ ++ [((Sum.inl k : Key), V.int v)] = _ ++ [((Sum.inl k : Key), V.int (if k = k then v else g k))]
    rw [if_pos rfl]
  rw [← e]
  exact DPut.k (k := .inl k) h (by rw [ki_len]; exact sz_lt (by omega))
/-- [e for z in d], d a dict of ints -/
theorem lci {σ : L2.St} {H : Hp} {Q : VK} {gg : TG} {te td : TE} {vs : List Nat} {a : Addr} {ks : List Int} {g : Int → Int} (h : KI H a ks g) (hn : ks.length ≤ 40000) (hd : ∀ (H1 : Hp) (Q' : VK), Q' (.ref a) H1 → td σ H1 Q') (v : Int → V)
    (turn : ∀ z ∈ ks, ∀ H1, ExB a H H1 → Rd H1 a (.dK (ki ks g)) → ∀ (Qy : V → Hp → Prop), (∀ H4, Ex H1 H4 → Qy (v z) H4) → gg (.int z) (wipe σ vs) H1 fun σ2 H2 => wipe σ2 vs = wipe σ vs ∧ te σ2 H2 Qy)
    (gmono : ∀ x σ1 H1 (Q Q' : L2.St → Hp → Prop), gg x σ1 H1 Q → (∀ s h, Q s h → Q' s h) → gg x σ1 H1 Q')
    (k : ∀ p H2, H p = none → Ex H H2 → H2 p = some (.lst (ks.map v)) → Q (.ref p) H2) : tLockE (tLc (iKeys td) gg tYes te vs) σ H Q := by
  refine ⟨a, _, h, True.intro, fun od => ?_⟩
  refine hd _ _ ⟨a, od, rfl, .inl ⟨ki ks g, upd_same, fun D hD => ?_⟩⟩
  have hDa : D ≠ a := fun e => by rw [e, upd_same] at hD; cases hD
  have hD0 : H D = none := by rw [upd_ne hDa] at hD; exact hD
  refine lc_val (Src.keys (G := upd H a (.frz od (.dK (ki ks g)))) upd_same) (Ex.refl _) hD (by rw [ki_len]; exact hn) (fun _ => true) (fun i => v (ks.getD i default)) (fun i x H1 hi e y Qy Qn h1 h2 => ?_) fun H2 e2 h2 => ?_
  · obtain ⟨k, v', hk, rfl⟩ := y
    unfold ki at hk
    rw [List.getElem?_map] at hk
    cases hz : ks[i]? with
    | none => rw [hz] at hk; cases hk
    | some z =>
      rw [hz] at hk
      cases hk
      rw [getD_of hz] at h1
      exact gmono _ _ _ _ _ (turn z (mem_of_at hz) H1 (exb_lock e) (.inr ⟨od, e a _ upd_same⟩) Qy (fun H4 e4 => h1 rfl H4 e4)) fun s h q => ⟨q.1, tyes q.2⟩
  · have e3 : ((List.range (ki ks g).length).filter fun _ => true).map (fun i => v (ks.getD i default)) = ks.map v := by
      have := range_fm default ks (fun _ => true) v
      rw [ki_len, this, List.filter_eq_self.mpr fun _ _ => rfl]
    rw [e3] at h2
    refine ⟨e2 a _ upd_same, k D _ hD0 (ex_unlock h e2) ?_⟩
    rw [upd_ne hDa]
    exact h2
/-! ### paths -/
def lastL (b : Int) : List Int → Int
  | [] => b
  | x :: xs => lastL x xs
theorem lastL_snoc (b : Int) (xs : List Int) (x : Int) : lastL b (xs ++ [x]) = x := by
  induction xs generalizing b with
  | nil => rfl
  | cons y ys ih => exact ih y
theorem pco_snoc (p x : Int) : ∀ (xs ps : List Int) (b : Int), xs.length = ps.length → pco b (xs ++ [x]) (ps ++ [p]) = pco b xs ps + cst (lastL b xs) x p
  | [], [], b, _ => by
    show cst b x p + pco x [] [] = 0 + cst b x p
    show cst b x p + 0 = 0 + cst b x p
    omega
  | y :: ys, q :: qs, b, h => by
    show cst b y q + pco y (ys ++ [x]) (qs ++ [p]) = cst b y q + pco y ys qs + cst (lastL y ys) x p
    rw [pco_snoc p x ys qs y (by simpa using h)]
    omega
theorem inL_len : ∀ {xs : List Int} {qs : List (Int × Int)}, InL xs qs → xs.length = qs.length
  | [], [], _ => rfl
  | _ :: _, _ :: _, h => by rw [List.length_cons, List.length_cons, inL_len h.2]
  | [], _ :: _, h => h.elim
  | _ :: _, [], h => h.elim
theorem inL_snoc : ∀ {xs : List Int} {qs : List (Int × Int)} {x : Int} {q : Int × Int}, InL xs qs → q.1 ≤ x → x ≤ q.2 → InL (xs ++ [x]) (qs ++ [q])
  | [], [], _, _, _, h1, h2 => ⟨⟨h1, h2⟩, trivial⟩
  | _ :: _, _ :: _, _, _, h, h1, h2 => ⟨h.1, inL_snoc h.2 h1 h2⟩
  | [], _ :: _, _, _, h, _, _ => h.elim
  | _ :: _, [], _, _, h, _, _ => h.elim
theorem inL_split : ∀ {ys : List Int} {qs : List (Int × Int)} {q : Int × Int}, InL ys (qs ++ [q]) → ∃ xs x, ys = xs ++ [x] ∧ InL xs qs ∧ q.1 ≤ x ∧ x ≤ q.2
  | [], [], _, h => h.elim
  | [], _ :: _, _, h => h.elim
  | y :: [], [], _, h => ⟨[], y, rfl, trivial, h.1.1, h.1.2⟩
  | _ :: _ :: _, [], _, h => h.2.elim
  | y :: ys, q' :: qs, q, h => by
    obtain ⟨xs, x, e, h1, h2, h3⟩ := inL_split (ys := ys) (qs := qs) (q := q) h.2
    exact ⟨y :: xs, x, by rw [e]; rfl, ⟨h.1, h1⟩, h2, h3⟩
/-- the least costs by the last load -/
structure Ends2 (b : Int) (qs : List (Int × Int)) (ps : List Int) (ks : List Int) (g : Int → Int) : Prop where
  nd : ks.Nodup
  ne : ks ≠ []
  len : ks.length ≤ 100
  in_ : ∀ xs, InL xs qs → lastL b xs ∈ ks
  le : ∀ xs, InL xs qs → g (lastL b xs) ≤ pco b xs ps
  ex : ∀ x ∈ ks, ∃ xs, InL xs qs ∧ lastL b xs = x ∧ pco b xs ps = g x
theorem Ends2.start (b : Int) : Ends2 b [] [] [b] (fun _ => 0) where
  nd := by simp
  ne := by simp
  len := by simp
  in_ := fun xs h => by
    cases xs with
    | nil => exact List.mem_singleton.mpr rfl
    | cons _ _ => exact h.elim
  le := fun xs h => by
    cases xs with
    | nil => exact Int.le_refl _
    | cons _ _ => exact h.elim
  ex := fun x hx => by
    rw [List.mem_singleton] at hx
    exact ⟨[], trivial, hx.symm, rfl⟩
def rngI (lo : Int) (n : Nat) : List Int := (List.range n).map fun (j : Nat) => lo + (j : Int)
theorem mem_rngI {lo x : Int} {n : Nat} : x ∈ rngI lo n ↔ lo ≤ x ∧ x < lo + n := by
  unfold rngI
  rw [List.mem_map]
  constructor
  · rintro ⟨j, hj, rfl⟩
    have := List.mem_range.mp hj
    omega
  · rintro ⟨h1, h2⟩
    exact ⟨(x - lo).toNat, List.mem_range.mpr (by omega), by omega⟩
theorem rngI_succ (lo : Int) (n : Nat) : rngI lo (n + 1) = rngI lo n ++ [lo + (n : Int)] := by
  unfold rngI
  rw [List.range_succ, List.map_append]
  rfl
theorem rngI_nodup (lo : Int) (n : Nat) : (rngI lo n).Nodup := by
  induction n with
  | zero => exact List.nodup_nil
  | succ n ih =>
    rw [rngI_succ]
    refine List.nodup_append.mpr ⟨ih, by simp, fun a ha b hb e => ?_⟩
    rw [List.mem_singleton] at hb
    have := mem_rngI.mp ha
    omega
/-- the least of the costs to a load -/
def Least (ks : List Int) (g : Int → Int) (p x m : Int) : Prop := m ∈ ks.map (fun b => g b + cst b x p) ∧ ∀ b ∈ ks, m ≤ g b + cst b x p
theorem Ends2.next {b p lo hi : Int} {qs : List (Int × Int)} {ps ks : List Int} {g g' : Int → Int} (E : Ends2 b qs ps ks g) (hl : qs.length = ps.length) (h : lo ≤ hi) (h100 : hi - lo < 100) (hg : ∀ x ∈ rngI lo (hi + 1 - lo).toNat, Least ks g p x (g' x)) :
    Ends2 b (qs ++ [(lo, hi)]) (ps ++ [p]) (rngI lo (hi + 1 - lo).toNat) g' where
  nd := rngI_nodup _ _
  ne := fun e => by
    have : lo ∈ rngI lo (hi + 1 - lo).toNat := mem_rngI.mpr ⟨Int.le_refl _, by omega⟩
    rw [e] at this
    cases this
  len := by
    unfold rngI
    rw [List.length_map, List.length_range]
    omega
  in_ := fun ys hy => by
    obtain ⟨xs, x, rfl, h1, h2, h3⟩ := inL_split hy
    rw [lastL_snoc]
    have h2 : lo ≤ x := h2
    have h3 : x ≤ hi := h3
    exact mem_rngI.mpr ⟨h2, by omega⟩
  le := fun ys hy => by
    obtain ⟨xs, x, rfl, h1, h2, h3⟩ := inL_split hy
    have h2 : lo ≤ x := h2
    have h3 : x ≤ hi := h3
    rw [lastL_snoc, pco_snoc p x xs ps b ((inL_len h1).trans hl)]
    have := (hg x (mem_rngI.mpr ⟨h2, by omega⟩)).2 _ (E.in_ xs h1)
    have := E.le xs h1
    omega
  ex := fun x hx => by
    obtain ⟨m1, _⟩ := hg x hx
    obtain ⟨y, hy, e⟩ := List.mem_map.mp m1
    obtain ⟨xs, h1, h2, h3⟩ := E.ex y hy
    have := mem_rngI.mp hx
    refine ⟨xs ++ [x], inL_snoc h1 this.1 (by show x ≤ hi; omega), lastL_snoc _ _ _, ?_⟩
    rw [pco_snoc p x xs ps b ((inL_len h1).trans hl), h2, h3]
    exact e
theorem Ends2.done {b m : Int} {qs : List (Int × Int)} {ps ks : List Int} {g : Int → Int} (E : Ends2 b qs ps ks g) (h1 : m ∈ ks.map g) (h2 : ∀ k ∈ ks, m ≤ g k) : IsMin m b qs ps := by
  obtain ⟨k, hk, rfl⟩ := List.mem_map.mp h1
  obtain ⟨xs, a1, a2, a3⟩ := E.ex k hk
  refine ⟨⟨xs, a1, a3⟩, fun ys hy => ?_⟩
  have := E.le ys hy
  have := h2 _ (E.in_ ys hy)
  omega
theorem paired_split {α β : Type} {F : α → β → Prop} : ∀ {xs1 xs2 : List α} {ys : List β}, Paired F (xs1 ++ xs2) ys → ∃ y1 y2, ys = y1 ++ y2 ∧ Paired F xs1 y1 ∧ Paired F xs2 y2
  | [], xs2, ys, h => ⟨[], ys, rfl, .nil, h⟩
  | x :: xs, xs2, _, h => by
    cases h with
    | cons r t =>
      obtain ⟨y1, y2, rfl, p1, p2⟩ := paired_split t
      exact ⟨_ :: y1, y2, rfl, .cons r p1, p2⟩
section
variable {P : Program} {w : World} {K : PySem.W.Frag} {mg : Str → Option Value} {base : Heap}
/-! ### cost -/
def spCost : Sp := fun vs H Q _ => ∃ b a p : Int, vs = [.int b, .int a, .int p] ∧ -10000 ≤ p ∧ p ≤ 10000 ∧ Q (.int (cst b a p)) H
theorem sc_cost : FnScope ["before", "after", "price"] ["before", "after", "price"] (defScope s_cost) := ⟨rfl, rfl, rfl, by decide +kernel, rfl, by decide +kernel, by decide +kernel⟩
theorem ok_cost (T : Txt K mg) : Ent P w K mg base CX0 1 "cost" ["before", "after", "price"] [] spCost := by
  obtain ⟨fd, F⟩ := T.f_cost
  refine Ent.mk' T.g_cost F (FunD.ok0 F sc_cost (fun vs H Q E h => ?_) (fun cdv A outer s H vs Q E hr h => ?_)) (fun _ _ _ _ _ _ us hl => match us, hl with | [_, _, _], _ => rfl)
  · obtain ⟨b, a, p, rfl, h1, h2, q⟩ := h
    rfl
  · obtain ⟨b, a, p, rfl, h1, h2, q⟩ := h
    refine ⟨_, (pss_one (ps_ret (pe_op op_sub (pe_callB (call_max2 rfl) (by rfl) T.n_max (by decide +kernel) (pa_cons pe_int (pa_cons (pe_op op_sub (pv 0) (pv 1)) pa_nil))) (pe_op op_mul (pv 2) (pe_op op_sub (pv 0) (pv 1)))))), ?_⟩
    refine ⟨_, rfl, _, rfl, _, _, rfl, rfl, _, _, rfl, _, rfl, _, rfl, _, rfl, _, _, rfl, rfl, _, _, rfl, rfl, ?_⟩
    refine ⟨.inl ⟨by omega, by omega⟩, _, _, rfl, rfl, cgv (Q := Q) (congrArg V.int ?_) q⟩
    unfold cst
    rw [show (if b - a > 0 then b - a else 0) = max 0 (b - a) by omega]
/-! ### cheapest_path -/
def LimsAt (H : Hp) (l : Addr) (qs : List (Int × Int)) : Prop := ∃ ts : List Addr, H l = some (.lst (ts.map V.ref)) ∧ Paired (fun t (q : Int × Int) => H t = some (.tup [.int q.1, .int q.2])) ts qs
def spCheapest : Sp := fun vs H Q _ => ∃ (b : Int) (l p : Addr) (qs : List (Int × Int)) (ps : List Int), vs = [.int b, .ref l, .ref p] ∧ LimsAt H l qs ∧ H p = some (.lst (ps.map V.int)) ∧ qs.length = ps.length ∧ (∀ q ∈ qs, 0 ≤ q.1 ∧ q.1 ≤ q.2 ∧ q.2 ≤ 60) ∧ (∀ p ∈ ps, -10000 ≤ p ∧ p ≤ 10000) ∧
  ∀ H' m, Ex H H' → IsMin m b qs ps → Q (.int m) H'
theorem sc_cheapest_path : FnScope ["begin", "limits", "prices", "now", "low", "high", "price", "late", "load", "before"] ["begin", "limits", "prices"] (defScope s_cheapest_path) := ⟨rfl, rfl, rfl, by decide +kernel, rfl, by decide +kernel, by decide +kernel⟩
theorem ok_cheapest_path (T : Txt K mg) : Ent P w K mg base CX0 2 "cheapest_path" ["begin", "limits", "prices"] [] spCheapest := by
  obtain ⟨fd, F⟩ := T.f_cheapest_path
  have e_cost := ok_cost (P := P) (w := w) (base := base) T
  refine Ent.mk' T.g_cheapest_path F (FunD.ok0 F sc_cheapest_path (fun vs H Q E h => ?_) (fun cdv A outer s H vs Q E hr h => ?_)) (fun _ _ _ _ _ _ us hl => match us, hl with | [_, _, _], _ => rfl)
  · obtain ⟨b, l, p, qs, ps, rfl, ⟨ts, hl, hts⟩, hp, hlen, hq, hpr, q⟩ := h
    rfl
  · obtain ⟨b, l, p, qs, ps, rfl, ⟨ts, hl, hts⟩, hp, hlen, hq, hpr, q⟩ := h
    refine ⟨_, (pss_cons (ps_set (i := 3) sc_cheapest_path.nd rfl (Or.inr rfl) (pe_disp (pps_cons (pv 0) pe_int pps_nil) (by rfl) (by rfl) (fun z => by cases z) (by decide)))
      (pss_cons (ps_for PassesOwn.never rfl (pi_zip rfl T.n_zip (pa_cons (pv 1) (pa_cons (pv 2) pa_nil))) (pg_tup rfl (pgs_cons (pg_tup rfl (pgs_cons (pg_name (i := 4) sc_cheapest_path.nd rfl (Or.inl rfl)) (pgs_cons (pg_name (i := 5) sc_cheapest_path.nd rfl (Or.inl rfl)) pgs_nil))) (pgs_cons (pg_name (i := 6) sc_cheapest_path.nd rfl (Or.inr rfl)) pgs_nil))) (pss_cons (ps_set (i := 7) sc_cheapest_path.nd rfl (Or.inl rfl) pe_dnewK)
      (pss_cons (ps_for PassesOwn.never rfl (pi_range2 rfl T.n_range (pa_cons (pv 4) (pa_cons (pe_op op_add (pv 5) pe_int) pa_nil))) (pg_name (i := 8) sc_cheapest_path.nd rfl (Or.inr rfl)) (pss_one (ps_dput (hu_of hr) (pv 7) (pv 8) (pe_callB (cr_min rfl) (by rfl) T.n_min (by decide +kernel) (pa_cons (pe_lock (pe_lc (own := [("before", 9)]) (g := gName 9) (tt := tYes) rfl sc_cheapest_path.nd (pi_keys (pv 3)) (blkOk_by (N := ["begin", "limits", "prices", "now", "low", "high", "price", "late", "load", "before"]) (sc := defScope s_cheapest_path) (by decide +kernel)) (fun _ _ _ _ _ => (pg_name (i := 9) sc_cheapest_path.nd rfl (Or.inl rfl))) (fun _ _ _ _ _ => pts_nil) (fun _ _ _ _ _ => (pe_op op_add (pe_dget (hu_of hr) (pv 3) (pv 9) (fun _ _ => rfl)) (pe_e e_cost (hr.mono (by decide)) pass0 (pa_cons (pv 9) (pa_cons (pv 8) (pa_cons (pv 6) pa_nil)))))))) pa_nil)) rfl)))
      (pss_one (ps_set (i := 3) sc_cheapest_path.nd rfl (Or.inr rfl) (pv 7))))))
      (pss_one (ps_ret (pe_callB (cr_min rfl) (by rfl) T.n_min (by decide +kernel) (pa_cons (pe_lock (pe_lc (own := [("load", 8)]) (g := gName 8) (tt := tYes) rfl sc_cheapest_path.nd (pi_keys (pv 3)) (blkOk_by (N := ["begin", "limits", "prices", "now", "low", "high", "price", "late", "load", "before"]) (sc := defScope s_cheapest_path) (by decide +kernel)) (fun _ _ _ _ _ => (pg_name (i := 8) sc_cheapest_path.nd rfl (Or.inl rfl))) (fun _ _ _ _ _ => pts_nil) (fun _ _ _ _ _ => (pe_dget (hu_of hr) (pv 3) (pv 8) (fun _ _ => rfl))))) pa_nil)))))), ?_⟩
    refine fun a0 ha0 => ⟨_, rfl, upd_same, [(.inl b, .int 0)], rfl, (by show 1 ≤ 15; decide), ?_⟩
    have e0 : Ex H (upd (upd H a0 (.dK [])) a0 (.dK (mergeK [] [(.inl b, .int 0)]))) := ex_upd (ex_upd (Ex.refl _) ha0) ha0
    have h0 : KI (upd (upd H a0 (.dK [])) a0 (.dK (mergeK [] [(.inl b, .int 0)]))) a0 [b] (fun _ => 0) := upd_same
    generalize upd (upd H a0 (.dK [])) a0 (.dK (mergeK [] [(.inl b, .int 0)])) = H0 at e0 h0
    dsimp only [tSeq_ap, tAsg_ap, gName_ap, tC_ap, tNext_ap, tRet_ap, tAndV_ap, tCB_ap, tCons_ap, tNil_ap, tB_ap, tTest_ap, tNot_ap, tOr_ap, tAnd_ap, tIfS_ap, tOp_ap, tDrop_ap]
    have hlt : (ts.map V.ref).length = (ps.map V.int).length := by rw [List.length_map, List.length_map, Paired.length hts, hlen]
    refine ⟨_, rfl, _, rfl, l, p, _, _, rfl, sql (e0 _ _ hl), sql (e0 _ _ hp), ?_⟩
    refine for_src (Src.zip (G := H) (sql hl) (sql hp) hlt) (fun i σ' H' => ∃ an ks g x4 x5 x6 x7 x8 x9, σ' = [some (V.int b), some (.ref l), some (.ref p), some (.ref an), x4, x5, x6, x7, x8, x9] ∧ Ex H H' ∧ KI H' an ks g ∧ Ends2 b (qs.take i) (ps.take i) ks g)
      ⟨a0, _, _, _, _, _, _, _, _, rfl, e0, h0, Ends2.start b⟩ (fun i σ' H' pv => ?_) (fun i x σ' H' H1 hi pv e1 y => ?_) fun σ' H' pv => ?_
    · obtain ⟨_, _, _, _, _, _, _, _, _, _, h, _⟩ := pv
      exact h
    · obtain ⟨an, ks, g, x4, x5, x6, x7, x8, x9, rfl, eH, hn, En⟩ := pv
      obtain ⟨Tt, v1, v2, hv1, hv2, rfl, hT⟩ := y
      rw [List.getElem?_map] at hv1 hv2
      cases hz : ts[i]? with
      | none => rw [hz] at hv1; cases hv1
      | some t =>
      rw [hz] at hv1
      cases hv1
      cases hz2 : ps[i]? with
      | none => rw [hz2] at hv2; cases hv2
      | some pr =>
      rw [hz2] at hv2
      cases hv2
      obtain ⟨⟨lo, hi'⟩, hqi, htt⟩ := paired_at hts hz
      have eH1 := eH.trans e1
      obtain ⟨b1, b2, b3⟩ := hq _ (mem_of_at hqi)
      obtain ⟨c1, c2⟩ := hpr _ (mem_of_at hz2)
      have b1 : 0 ≤ lo := b1
      have b2 : lo ≤ hi' := b2
      have b3 : hi' ≤ 60 := b3
      refine ⟨Tt, _, rfl, sqt hT, rfl, _, _, rfl, t, _, rfl, sqt (eH1 _ _ htt), rfl, _, _, rfl, _, _, rfl, rfl, _, _, rfl, rfl, ?_⟩
      refine fun al hal => ?_
      have e2 : Ex H1 (upd H1 al (.dK [])) := Ex.new hal
      dsimp only [tSeq_ap, tAsg_ap, gName_ap, tC_ap, tNext_ap, tRet_ap, tAndV_ap, tCB_ap, tCons_ap, tNil_ap, tB_ap, tTest_ap, tNot_ap, tOr_ap, tAnd_ap, tIfS_ap, tOp_ap, tDrop_ap]
      refine ⟨_, rfl, _, rfl, _, _, rfl, rfl, _, _, rfl, ⟨by omega, by omega, by omega, by omega⟩, ?_⟩
      have hn1 := e2 _ _ (e1 _ _ hn)
      have nna : an ≠ al := (fresh_ne (e1 _ _ hn) hal).symm
      refine forr (fun j σ' H' => ∃ g' x8 x9, σ' = [some (V.int b), some (.ref l), some (.ref p), some (.ref an), some (.int lo), some (.int hi'), some (.int pr), some (.ref al), x8, x9] ∧ Ex H H' ∧ KI H' an ks g ∧ KI H' al (rngI lo j) g' ∧ ∀ x ∈ rngI lo j, Least ks g pr x (g' x))
        ⟨fun _ => 0, _, _, rfl, eH1.trans e2, hn1, upd_same, fun x hx => by cases hx⟩ (fun j σ' H' hj pv => ?_) fun σ' H' pv => ?_
      · obtain ⟨g', x8, x9, rfl, eX, hn2, hal2, hg'⟩ := pv
        have lenr : (rngI lo j).length = j := by unfold rngI; rw [List.length_map, List.length_range]
        dsimp only [tSeq_ap, tAsg_ap, gName_ap, tC_ap, tNext_ap, tRet_ap, tAndV_ap, tCB_ap, tCons_ap, tNil_ap, tB_ap, tTest_ap, tNot_ap, tOr_ap, tAnd_ap, tIfS_ap, tOp_ap, tDrop_ap]
        refine lci hn2 (by have := En.len; omega) (fun H1 Q' q' => ⟨_, rfl, q'⟩) (fun z => .int (g z + cst z (lo + (j : Int)) pr)) (fun z hz3 H3 e3 rd Qy h1 => ⟨rfl, ?_⟩) (fun _ _ _ _ _ h k => k _ _ h) fun p3 H3 hp3 e3 h3 => ?_
        · refine ⟨_, rfl, _, rfl, an, _, rfl, gi rd hz3, ?_⟩
          exact ⟨_, rfl, _, rfl, _, rfl, z, _, pr, rfl, c1, c2, _, _, rfl, rfl, h1 _ (Ex.refl _)⟩
        · refine ⟨p3, ks.map (fun z => g z + cst z (lo + (j : Int)) pr), rfl, sql (by rw [h3, List.map_map]; rfl), ?_, fun m hm1 hm2 => ?_⟩
          · rw [List.length_map]
            exact List.length_pos_iff.mpr En.ne
          have hnot : lo + (j : Int) ∉ rngI lo j := fun h => by have := mem_rngI.mp h; omega
          refine ⟨_, rfl, _, rfl, al, _, rfl, pin (e3 _ _ hal2) hnot (by omega), fun x => if x = lo + (j : Int) then m else g' x, _, _, rfl, ?_, ?_, ?_, ?_⟩
          · exact fun b' o' hb' => by
              have h4 := (eX.trans e3) b' o' hb'
              by_cases q9 : b' = al
              · subst q9
                rw [no_of eH1 hal] at hb'
                cases hb'
              · rw [upd_ne q9]; exact h4
          · exact (upd_ne nna).trans (e3 _ _ hn2)
          · rw [rngI_succ]; exact upd_same
          · intro x hx
            rw [rngI_succ] at hx
            dsimp only
            rcases List.mem_append.mp hx with hx | hx
            · rw [if_neg (fun e : x = lo + (j : Int) => hnot (e ▸ hx))]
              exact hg' x hx
            · rw [List.mem_singleton] at hx
              subst hx
              rw [if_pos rfl]
              exact ⟨hm1, fun b' hb' => hm2 _ (List.mem_map.mpr ⟨b', hb', rfl⟩)⟩
      · obtain ⟨g', x8, x9, rfl, eX, hn2, hal2, hg'⟩ := pv
        refine ⟨_, rfl, al, _, g', _, _, _, _, _, _, rfl, eX, hal2, ?_⟩
        rw [take_succ_at hqi, take_succ_at hz2]
        refine En.next ?_ b2 (by omega) hg'
        rw [List.length_take, List.length_take, hlen]
    · obtain ⟨an, ks, g, x4, x5, x6, x7, x8, x9, rfl, eH, hn, En⟩ := pv
      rw [List.length_map, Paired.length hts, List.take_of_length_le (Nat.le_refl _), List.take_of_length_le (by omega)] at En
      dsimp only [tSeq_ap, tAsg_ap, gName_ap, tC_ap, tNext_ap, tRet_ap, tAndV_ap, tCB_ap, tCons_ap, tNil_ap, tB_ap, tTest_ap, tNot_ap, tOr_ap, tAnd_ap, tIfS_ap, tOp_ap, tDrop_ap]
      refine lci hn (by have := En.len; omega) (fun H1 Q' q' => ⟨_, rfl, q'⟩) (fun z => .int (g z)) (fun z hz3 H3 e3 rd Qy h1 => ⟨rfl, ⟨_, rfl, _, rfl, an, _, rfl, gi rd hz3, h1 _ (Ex.refl _)⟩⟩) (fun _ _ _ _ _ h k => k _ _ h) fun p3 H3 hp3 e3 h3 => ?_
      refine ⟨p3, ks.map g, rfl, sql (by rw [h3, List.map_map]; rfl), ?_, fun m hm1 hm2 => q H3 m (eH.trans e3) (En.done hm1 fun k hk => hm2 _ (List.mem_map.mpr ⟨k, hk, rfl⟩))⟩
      rw [List.length_map]
      exact List.length_pos_iff.mpr En.ne
/-- [e for z in xs], each a new object -/
theorem lcO {β : Type} {K : PySem.W.Frag} {σ : L2.St} {H : Hp} {Q : VK} {gg : TG} {te td : TE} {vs : List Nat} {a : Addr} (xs : List V) (zs : List β) (hz : xs.length = zs.length) (W : β → HO) (hW : ∀ z ys, W z ≠ .lst ys) (hx : SqL K H a xs) (hn : xs.length ≤ 40000) (hd : ∀ (Q' : VK), Q' (.ref a) H → td σ H Q')
    (turn : ∀ (i : Nat) x z, xs[i]? = some x → zs[i]? = some z → ∀ H1, Ex H H1 → ∀ (Qy : V → Hp → Prop), (∀ t H4, Ex H1 H4 → H4 t = some (W z) → Qy (.ref t) H4) → gg x (wipe σ vs) H1 fun σ2 H2 => wipe σ2 vs = wipe σ vs ∧ te σ2 H2 Qy)
    (gmono : ∀ x σ1 H1 (Q Q' : L2.St → Hp → Prop), gg x σ1 H1 Q → (∀ s h, Q s h → Q' s h) → gg x σ1 H1 Q')
    (k : ∀ p H2 ts, H p = none → Ex H H2 → H2 p = some (.lst (ts.map V.ref)) → Paired (fun t z => H2 t = some (W z)) ts zs → Q (.ref p) H2) : tLc (iList K td) gg tYes te vs σ H Q := by
  refine hd _ ⟨a, rfl, ⟨_, hx⟩, fun D hD => ?_⟩
  refine lc_src (Src.list hx) (Ex.refl _) hD hn (fun i y H' => ∃ t z, y = .ref t ∧ zs[i]? = some z ∧ t ≠ D ∧ H' t = some (W z)) (fun i y H1 H2 ⟨t, z, h1, h2, h3, h4⟩ e => ⟨t, z, h1, h2, h3, e _ _ h3 h4⟩) (fun _ => true) (fun i x H1 hi e hDl y Qy Qn h1 h2 => ?_) fun ys H2 e2 h2 pr => ?_
  · have hzi : zs[i]? = some zs[i] := List.getElem?_eq_getElem (by omega)
    refine gmono _ _ _ _ _ (turn i x _ y hzi H1 e Qy fun t H4 e4 h4 => ?_) fun s h q => ⟨q.1, tyes q.2⟩
    obtain ⟨l, hl⟩ := hDl
    exact h1 rfl _ H4 e4 ⟨t, _, rfl, hzi, fun e5 => by rw [e5, e4 _ _ hl] at h4; exact hW _ _ (Option.some.inj h4).symm, h4⟩
  · rw [List.filter_eq_self.mpr fun _ _ => rfl] at pr
    have key : ∀ (n : Nat) (ys : List V), n ≤ zs.length → Paired (fun i y => ∃ t z, y = V.ref t ∧ zs[i]? = some z ∧ t ≠ D ∧ H2 t = some (W z)) (List.range n) ys → ∃ ts : List Addr, ys = ts.map V.ref ∧ Paired (fun t z => H2 t = some (W z)) ts (zs.take n) := by
      intro n
      induction n with
      | zero =>
        intro ys _ p
        cases p
        exact ⟨[], rfl, .nil⟩
      | succ n ih =>
        intro ys hn p
        rw [List.range_succ] at p
        obtain ⟨y1, y2, rfl, p1, p2⟩ := paired_split p
        obtain ⟨ts, rfl, q⟩ := ih y1 (by omega) p1
        cases p2 with
        | cons h t =>
          cases t
          obtain ⟨t, z, rfl, hz', _, ht⟩ := h
          refine ⟨ts ++ [t], by rw [List.map_append]; rfl, ?_⟩
          rw [take_succ_at hz']
          exact paired_snoc q ht
    obtain ⟨ts, rfl, q⟩ := key xs.length ys (by omega) pr
    rw [List.take_of_length_le (by omega)] at q
    exact k D H2 ts hD e2 h2 q
/-! ### bound_by -/
instance : Inhabited Bn := ⟨⟨[], fun _ => 0, fun _ => 0⟩⟩
/-- a reader's bounds at all ticks -/
def limsOf (Bs : List Bn) (m : Int) (r : Str) : List (Int × Int) := Bs.map fun B => (B.low r, min (B.high r) m)
def spBoundBy : Sp := fun vs H Q _ => ∃ (d h p : Addr) (U L : List Str) (D : Str → Str) (Bs : List Bn) (ps : List Int), vs = [.ref d, .ref h, .ref p] ∧ DlAt H d L D ∧ HistAt H h Bs ∧ HOk U L D Bs ∧ (∀ B ∈ Bs, B.Can L.length) ∧ H p = some (.lst (ps.map V.int)) ∧ Bs.length = ps.length ∧ (∀ p ∈ ps, -10000 ≤ p ∧ p ≤ 10000) ∧
  ∀ H' ns c, Ex H H' → NmOf L D Bs ns → (∀ r ∈ ns, IsMin (c r) (cntI D L r) (limsOf Bs L.length r) ps) → Q (.int (sumOf ns c)) H'
theorem sc_bound_by : FnScope ["deal", "history", "prices", "names", "loads", "found", "reader", "limits", "bounds", "low", "high"] ["deal", "history", "prices"] (defScope s_bound_by) := ⟨rfl, rfl, rfl, by decide +kernel, rfl, by decide +kernel, by decide +kernel⟩
theorem ok_bound_by (T : Txt K mg) : Ent P w K mg base CX0 3 "bound_by" ["deal", "history", "prices"] [] spBoundBy := by
  obtain ⟨fd, F⟩ := T.f_bound_by
  have e_names_of := ok_names_of (P := P) (w := w) (base := base) T
  have e_loads_of := ok_loads_of (P := P) (w := w) (base := base) T
  have e_cheapest_path := ok_cheapest_path (P := P) (w := w) (base := base) T
  have e_bound_of := ok_bound_of (P := P) (w := w) (base := base) T
  refine Ent.mk' T.g_bound_by F (FunD.ok0 F sc_bound_by (fun vs H Q E h => ?_) (fun cdv A outer s H vs Q E hr h => ?_)) (fun _ _ _ _ _ _ us hl => match us, hl with | [_, _, _], _ => rfl)
  · obtain ⟨d, h, p, U, L, D, Bs, ps, rfl, hd, hh, ok, can, hp, hlen, hpr, q⟩ := h
    rfl
  · obtain ⟨d, h, p, U, L, D, Bs, ps, rfl, hd, hh, ok, can, hp, hlen, hpr, q⟩ := h
    refine ⟨_, (pss_cons (ps_set (i := 3) sc_bound_by.nd rfl (Or.inl rfl) (pe_e e_names_of (hr.mono (by decide)) pass0 (pa_cons (pv 0) (pa_cons (pv 1) pa_nil))))
      (pss_cons (ps_set (i := 4) sc_bound_by.nd rfl (Or.inl rfl) (pe_e e_loads_of (hr.mono (by decide)) pass0 (pa_cons (pv 0) (pa_cons (pv 3) pa_nil))))
      (pss_cons (ps_set (i := 5) sc_bound_by.nd rfl (Or.inl rfl) pe_int)
      (pss_cons (ps_for PassesOwn.never rfl (pi_listK (K := K) rfl (pv 3)) (pg_name (i := 6) sc_bound_by.nd rfl (Or.inr rfl)) (pss_cons (ps_setLc (i := 7) (own := [("bounds", 8)]) (g := gName 8) (tt := tYes) rfl sc_bound_by.nd rfl rfl (sw_true rfl rfl rfl (by decide +kernel)) (pi_listK (K := K) rfl (pv 1)) (blkOk_by (N := ["deal", "history", "prices", "names", "loads", "found", "reader", "limits", "bounds", "low", "high"]) (sc := defScope s_bound_by) (by decide +kernel)) (fun _ _ _ _ _ => (pg_name (i := 8) sc_bound_by.nd rfl (Or.inl rfl))) (fun _ _ _ _ _ => pts_nil) (fun _ _ _ _ _ => (pe_e e_bound_of (hr.mono (by decide)) pass0 (pa_cons (pv 8) (pa_cons (pv 6) pa_nil)))))
      (pss_one (ps_aug (i := 5) sc_bound_by.nd rfl (Or.inl rfl) (pe_e e_cheapest_path (hr.mono (by decide)) pass0 (pa_cons (pe_dget (hu_of hr) (pv 4) (pv 6) (fun _ _ => rfl)) (pa_cons (pe_lc (own := [("low", 9), ("high", 10)]) (g := gTup K 2 (gCons (gName 9) (gCons (gName 10) (gNil)))) (tt := tYes) rfl sc_bound_by.nd (pi_listK (K := K) rfl (pv 7)) (blkOk_by (N := ["deal", "history", "prices", "names", "loads", "found", "reader", "limits", "bounds", "low", "high"]) (sc := defScope s_bound_by) (by decide +kernel)) (fun _ _ _ _ _ => (pg_tup rfl (pgs_cons (pg_name (i := 9) sc_bound_by.nd rfl (Or.inl rfl)) (pgs_cons (pg_name (i := 10) sc_bound_by.nd rfl (Or.inl rfl)) pgs_nil)))) (fun _ _ _ _ _ => pts_nil) (fun _ _ _ _ _ => (pe_tup (pa_cons (pv 9) (pa_cons (pe_callB (call_min2 rfl) (by rfl) T.n_min (by decide +kernel) (pa_cons (pv 10) (pa_cons (pe_callB call_lenD (by rfl) T.n_len PySem.boot_len (pa_cons (pv 0) pa_nil)) pa_nil))) pa_nil))))) (pa_cons (pv 2) pa_nil)))) ip_add))))
      (pss_one (ps_ret (pv 5))))))), ?_⟩
    refine ⟨_, rfl, _, rfl, d, h, U, L, D, Bs, rfl, hd, hh, ok, fun p1 H1 ns hp1 e1 hn h1 => ?_⟩
    have hDn : ∀ l ∈ L, D l ∈ ns := fun l hl => (hn.2.1 _).mpr (.inl ⟨l, hl, rfl⟩)
    have l20 := ok.l
    have n20 := hn.2.2
    refine ⟨_, rfl, _, rfl, d, p1, L, D, ns, rfl, e1 _ _ hd, by omega, hn.1, by omega, hDn, .inl (sql h1), fun p2 H2 hp2 e2 h2 => ?_⟩
    have e02 := e1.trans e2
    dsimp only [tSeq_ap, tAsg_ap, gName_ap, tC_ap, tNext_ap, tRet_ap, tAndV_ap, tCB_ap, tCons_ap, tNil_ap, tB_ap, tTest_ap, tNot_ap, tOr_ap, tAnd_ap, tIfS_ap, tOp_ap, tDrop_ap]
    obtain ⟨as, hh1, hh2⟩ := hh
    have lenB : as.length = Bs.length := Paired.length hh2
    have ex1 : ∀ r ∈ ns, ∃ c : Int → Prop, True := fun _ _ => ⟨fun _ => True, trivial⟩
    refine forl (td := tVar 3) (sql (e2 _ _ h1)) (fun H1 Q' q' => ⟨_, rfl, q'⟩) (fun i σ' H' => ∃ c : Str → Int, (∃ v x6 x7 x8 x9 x10, σ' = [some (V.ref d), some (.ref h), some (.ref p), some (.ref p1), some (.ref p2), some v, x6, x7, x8, x9, x10] ∧ v = .int (sumOf (ns.take i) c)) ∧ Ex H2 H' ∧ ∀ r ∈ ns.take i, IsMin (c r) (cntI D L r) (limsOf Bs L.length r) ps)
      ⟨fun _ => 0, ⟨_, _, _, _, _, _, rfl, rfl⟩, Ex.refl _, fun r hr => by cases hr⟩ (fun i σ' H' pv => ?_) (fun i x σ' H' hx pv => ?_) fun σ' H' pv => ?_
    · obtain ⟨_, _, e, _⟩ := pv
      exact sql (e _ _ (e2 _ _ h1))
    · obtain ⟨c, ⟨_, x6, x7, x8, x9, x10, rfl, rfl⟩, e, hc⟩ := pv
      rw [List.getElem?_map] at hx
      cases hz : ns[i]? with
      | none => rw [hz] at hx; cases hx
      | some r =>
      rw [hz] at hx
      cases hx
      have hrn := mem_of_at hz
      have eH := e02.trans e
      dsimp only [tSeq_ap, tAsg_ap, gName_ap, tC_ap, tNext_ap, tRet_ap, tAndV_ap, tCB_ap, tCons_ap, tNil_ap, tB_ap, tTest_ap, tNot_ap, tOr_ap, tAnd_ap, tIfS_ap, tOp_ap, tDrop_ap]
      refine lcO (as.map V.ref) Bs (by rw [List.length_map, lenB]) (fun B => .tup [.int (B.low r), .int (B.high r)]) (fun _ _ h => by cases h) (sql (eH _ _ hh1)) (by rw [List.length_map, lenB]; have := ok.b2; omega) (fun Q' q' => ⟨_, rfl, q'⟩) (fun j x B hx hB H3 e3 Qy h4 => ⟨rfl, ?_⟩) (fun _ _ _ _ _ h k => k _ _ h) fun pl H3 tl hpl e3 hpl2 htl => ?_
      · rw [List.getElem?_map] at hx
        cases hz2 : as[j]? with
        | none => rw [hz2] at hx; cases hx
        | some a =>
        rw [hz2] at hx
        cases hx
        obtain ⟨B', hB', hBa⟩ := paired_at hh2 hz2
        rw [hB] at hB'
        cases hB'
        exact ⟨_, rfl, _, rfl, a, r, B, rfl, hBa.ex (eH.trans e3), fun t H4 e4 ht => h4 t H4 e4 ht⟩
      refine ⟨_, rfl, _, rfl, _, rfl, p2, _, rfl, gk (.inl (e3 _ _ (e _ _ h2))) hrn, ?_⟩
      have lent : tl.length = Bs.length := Paired.length htl
      refine lcO (tl.map V.ref) (limsOf Bs L.length r) (by rw [List.length_map, lent]; unfold limsOf; rw [List.length_map]) (fun q => .tup [.int q.1, .int q.2]) (fun _ _ h => by cases h) (sql hpl2) (by rw [List.length_map, lent]; have := ok.b2; omega) (fun Q' q' => ⟨_, rfl, q'⟩) (fun j x z hx hB H4 e4 Qy h5 => ?_) (fun x σ1 H1 Q Q' h k => ?_) fun pm H4 tm hpm e4 hpm2 htm => ?_
      · rw [List.getElem?_map] at hx
        cases hz2 : tl[j]? with
        | none => rw [hz2] at hx; cases hx
        | some t =>
        rw [hz2] at hx
        cases hx
        obtain ⟨B', hB', hBa⟩ := paired_at htl hz2
        unfold limsOf at hB
        rw [List.getElem?_map, hB'] at hB
        cases hB
        refine ⟨t, _, rfl, sqt (e4 _ _ hBa), rfl, _, _, rfl, _, _, rfl, rfl, rfl, ?_⟩
        refine ⟨_, rfl, _, rfl, _, rfl, d, _, rfl, e4 _ _ (e3 _ _ (eH _ _ hd)), _, _, rfl, le2, fun t2 ht2 => ?_⟩
        refine h5 t2 _ (Ex.new ht2) (upd_same.trans (congrArg (fun v => some (HO.tup [.int (B'.low r), .int v])) ?_))
        rw [kd_len]
        show _ = min (B'.high r) (L.length : Int)
        omega
      · obtain ⟨a, ys, h1, h2, h3, h4⟩ := h
        refine ⟨a, ys, h1, h2, h3, ?_⟩
        obtain ⟨v1, r1, h5, v2, r2, h6, h7, h8⟩ := h4
        exact ⟨v1, r1, h5, v2, r2, h6, h7, k _ _ h8⟩
      have e24 := (e3.trans e4)
      refine ⟨_, rfl, cntI D L r, pm, p, limsOf Bs L.length r, ps, rfl, ⟨tm, hpm2, htm⟩, e4 _ _ (e3 _ _ (eH _ _ hp)), by unfold limsOf; rw [List.length_map, hlen], fun q hq => ?_, hpr, fun H5 m e5 hm => ?_⟩
      · unfold limsOf at hq
        obtain ⟨B, hB, rfl⟩ := List.mem_map.mp hq
        have okB := ok.bo B hB
        have h0 := okB.l0' r
        have h1' := okB.lh' r
        have hcan := (can B hB).1
        have hlow : B.low r ≤ sumOf B.rs B.lo := by
          unfold Bn.low
          by_cases q : r ∈ B.rs
          · rw [if_pos q]; exact sumOf_mem_le okB.l0 q
          · rw [if_neg q]
            have := sumOf_le (xs := B.rs) (f := fun _ => 0) (g := B.lo) okB.l0
            rw [sumOf_zero] at this
            exact this
        have h60 : B.high r ≤ 60 := by
          unfold Bn.high
          by_cases q : r ∈ B.rs
          · rw [if_pos q]; exact okB.h60 r q
          · rw [if_neg q]; omega
        exact ⟨h0, by show B.low r ≤ min (B.high r) _; omega, by show min (B.high r) _ ≤ 60; omega⟩
      · refine ⟨_, _, rfl, rfl, fun z => if z = r then m else c z, ⟨_, _, _, _, _, _, rfl, ?_⟩, (e.trans e24).trans e5, fun z hz3 => ?_⟩
        · have hnot := not_mem_take hn.1 hz
          rw [take_succ_at hz, sumOf_snoc, if_pos rfl]
          rw [sumOf_congr (g := c) fun z hz4 => if_neg (fun e : z = r => hnot (e ▸ hz4))]
        · dsimp only
          by_cases ez : z = r
          · rw [if_pos ez, ez]; exact hm
          · rw [if_neg ez]
            rw [take_succ_at hz] at hz3
            rcases List.mem_append.mp hz3 with h | h
            · exact hc z h
            · rw [List.mem_singleton] at h; exact absurd h ez
    · obtain ⟨c, ⟨_, x6, x7, x8, x9, x10, rfl, rfl⟩, e, hc⟩ := pv
      rw [List.length_map, List.take_of_length_le (Nat.le_refl _)] at hc ⊢
      exact ⟨_, rfl, q H' ns c (e02.trans e) hn hc⟩
end
end K55


set_option Elab.async false
set_option linter.all false
set_option maxRecDepth 100000
set_option maxHeartbeats 4000000
namespace K55
open PySem PySem.Spec PyProof.Rows L2 Evl
def leS (a b : Str) : Prop := a.cps.toList ≤ b.cps.toList
theorem leS_trans {a b c : Str} (h : leS a b) (k : leS b c) : leS a c := List.le_trans h k
theorem leS_antisymm {a b : Str} (h : leS a b) (k : leS b a) : a = b := by
  have e : a.cps.toList = b.cps.toList := List.le_antisymm h k
  cases a
  cases b
  exact congrArg Str.mk (Array.toList_inj.mp e)
theorem rising_pw : ∀ (p : Str) (l : List Str), risingS p l = true → (p :: l).Pairwise leS
  | p, [], _ => by simp
  | p, x :: r, h => by
    have h : (!ltCps x.cps.toList p.cps.toList && risingS x r) = true := h
    rw [Bool.and_eq_true] at h
    obtain ⟨h1, h2⟩ := h
    have ih := rising_pw x r h2
    have hpx : leS p x := by
      rw [ltCps_eq] at h1
      simp only [Bool.not_eq_true', decide_eq_false_iff_not] at h1
      exact h1
    refine List.pairwise_cons.mpr ⟨fun y hy => ?_, ih⟩
    rcases List.mem_cons.mp hy with rfl | hy
    · exact hpx
    · exact leS_trans hpx ((List.pairwise_cons.mp ih).1 y hy)
theorem sorted_pw : ∀ (l : List Str), sortedS l = true → l.Pairwise leS
  | [], _ => List.Pairwise.nil
  | x :: r, h => rising_pw x r h
theorem sorted_uniq {xs ys : List Str} (p : xs.Perm ys) (h : sortedS xs = true) (k : sortedS ys = true) : xs = ys :=
  List.Perm.eq_of_pairwise (fun _ _ _ _ a b => leS_antisymm a b) (sorted_pw xs h) (sorted_pw ys k) p
/-! ### lists of texts compared -/
theorem strs_dpAll {K : PySem.W.Frag} {H : Hp} : ∀ xs : List Str, DpAll K H (xs.map V.str) (xs.map PyData.str)
  | [] => .nil
  | x :: xs => .cons (.str x) (strs_dpAll xs)
theorem strs_eqv : ∀ xs : List Str, PyData.eqvAll (xs.map PyData.str) (xs.map PyData.str) = true
  | [] => rfl
  | x :: xs => by
    show (PyData.eqv (.str x) (.str x) && PyData.eqvAll (xs.map PyData.str) (xs.map PyData.str)) = true
    rw [strs_eqv xs]
    show ((x == x) && true) = true
    simp
theorem strs_canLay : ∀ xs : List Str, (∀ x ∈ xs, PyData.strOk x = true) → PyData.canLayAll0 (xs.map PyData.str) = true
  | [], _ => by simp [PyData.canLayAll0]
  | x :: xs, h => by
    simp only [List.map_cons, PyData.canLayAll0, PyData.canLay0, Bool.and_eq_true]
    exact ⟨h x List.mem_cons_self, strs_canLay xs fun y hy => h y (List.mem_cons_of_mem _ hy)⟩
theorem strs_depth : ∀ xs : List Str, PyData.depthAll (xs.map PyData.str) ≤ 1
  | [] => by simp [PyData.depthAll]
  | x :: xs => by
    have := strs_depth xs
    simp only [List.map_cons, PyData.depthAll, PyData.depth]
    omega
theorem strs_shaped (xs : List Str) (h : ∀ x ∈ xs, PyData.strOk x = true) : SeqAt.shaped (.list (xs.map PyData.str)) = true := by
  unfold SeqAt.shaped
  rw [Bool.and_eq_true, decide_eq_true_eq]
  refine ⟨by simp only [PyData.canLay0]; exact strs_canLay xs h, ?_⟩
  have := strs_depth xs
  simp only [PyData.depth]
  omega
theorem isW_strOk {z : Str} (h : isW z = true) : PyData.strOk z = true := by
  unfold isW at h
  simp only [Bool.and_eq_true] at h
  unfold PyData.strOk
  rw [Array.all_eq_true']
  intro c hc
  have := Array.all_eq_true'.mp h.2 c hc
  unfold chrOk at this
  simp only [Bool.and_eq_true, Bool.not_eq_true', decide_eq_false_iff_not] at this
  have h2 := this.2
  rw [decide_eq_true_eq]
  have e : ("z" : Str).cps.toList = [122] := rfl
  rw [e] at h2
  have h3 : ¬ ([122] : List Nat) < [c] := h2
  have h4 : ¬ 122 < c := fun q => h3 (List.Lex.rel q)
  omega
/-- xs != xs, two lists of the same texts -/
theorem strs_ne {K : PySem.W.Frag} {H : Hp} {a b : Addr} {xs : List Str} {Q : VK} (ha : H a = some (.lst (xs.map V.str))) (hb : H b = some (.lst (xs.map V.str))) (h : ∀ x ∈ xs, PyData.strOk x = true) (q : Q (.bl false) H) : rNeD K (.ref a) (.ref b) H Q := by
  refine ⟨_, _, .lst (sql ha) (strs_dpAll xs), .lst (sql hb) (strs_dpAll xs), strs_shaped xs h, strs_shaped xs h, ?_⟩
  have e : PyData.eqv (.list (xs.map PyData.str)) (.list (xs.map PyData.str)) = true := strs_eqv xs
  rw [e]
  exact q
end K55

set_option Elab.async false
set_option linter.all false
set_option maxRecDepth 100000
set_option maxHeartbeats 4000000
namespace K55
open PySem PySem.Spec PyProof.Rows L2 Evl
section
variable {P : Program} {w : World} {K : PySem.W.Frag} {mg : Str → Option Value} {base : Heap}
theorem ne_db {H : Hp} {t b : Addr} {L rs : List Str} {D : Str → Str} {U : Str → Addr} (ht : DlAt H t L D) (hb : KD H b rs fun r => .ref (U r)) (n : 1 ≤ rs.length) : t ≠ b := fun e => by
  have hb : H b = some (.dK (kd rs fun r => .ref (U r))) := hb
  have ht : H t = some (.dK (kd L fun l => .str (D l))) := ht
  rw [e, hb] at ht
  injection ht with ht
  injection ht with ht
  cases rs with
  | nil => simp at n
  | cons r rs =>
    cases L with
    | nil => cases ht
    | cons l L =>
      injection ht with h1 h2
      injection h1 with h3 h4
      cases h4
theorem sFld_ap {K : PySem.W.Frag} {ta tv : TE} {f : Str} {D : Ends} {σ : L2.St} {H : Hp} : sFld K ta tv f D σ H = tv σ H fun y H1 => ta σ H1 fun x H2 => ∃ a C dx fs, x = .ref a ∧ H2 a = some (.ins C dx fs) ∧ Cls K C ∧ NoAttr K C f ∧ fs.length < 1000 ∧ D.nx σ (upd H2 a (.ins C dx (putF f y fs))) := rfl
/-! ### is_within -/
def Within' (L : List Str) (D : Str → Str) (B : Bn) : Prop := (∀ l ∈ L, D l ∈ B.rs) ∧ ∀ r ∈ B.rs, B.lo r ≤ cntI D L r ∧ cntI D L r ≤ B.hi r
def spIsWithin : Sp := fun vs H Q _ => ∃ (t b d : Addr) (L : List Str) (D D' : Str → Str) (B : Bn), vs = [.ref t, .ref b, .ref d] ∧ DlAt H t L D' ∧ BndAt H b B ∧ DlAt H d L D ∧ DlOk L D ∧ B.Ok ∧ Within' L D' B ∧ ∀ H', Ex H H' → Q (.bl true) H'
theorem sc_is_within : FnScope ["late", "bounds", "deal", "lane", "loads", "reader"] ["late", "bounds", "deal"] (defScope s_is_within) := ⟨rfl, rfl, rfl, by decide +kernel, rfl, by decide +kernel, by decide +kernel⟩
theorem ok_is_within (T : Txt K mg) : Ent P w K mg base CX0 2 "is_within" ["late", "bounds", "deal"] [] spIsWithin := by
  obtain ⟨fd, F⟩ := T.f_is_within
  have e_loads_of := ok_loads_of (P := P) (w := w) (base := base) T
  have e_is_word := ok_is_word (P := P) (w := w) (base := base) T
  refine Ent.mk' T.g_is_within F (FunD.ok0 F sc_is_within (fun vs H Q E h => ?_) (fun cdv A outer s H vs Q E hr h => ?_)) (fun _ _ _ _ _ _ us hl => match us, hl with | [_, _, _], _ => rfl)
  · obtain ⟨t, b, d, L, D, D', B, rfl, ht, hb, hd, okd, okb, wi, q⟩ := h
    rfl
  · obtain ⟨t, b, d, L, D, D', B, rfl, ht, hb, hd, okd, okb, wi, q⟩ := h
    refine ⟨_, (pss_cons (ps_if (PW.pt (pw_or (pt_cmpR (op_neDK (K := K) rfl hr.units) (pe_callB (call_sortedD rfl) (by rfl) T.n_sorted (by decide +kernel) (pa_cons (pv 0) pa_nil)) (pe_callB (call_sortedD rfl) (by rfl) T.n_sorted (by decide +kernel) (pa_cons (pv 2) pa_nil)) (nomark _)) (pw_or1 (pt_not (pt_val (pe_callB (cr_allK (K := K) rfl rfl) (by rfl) T.n_all (by decide +kernel) (pa_cons (pe_lock (pe_lc (own := [("lane", 3)]) (g := gName 3) (tt := tYes) rfl sc_is_within.nd (pi_keys (pv 0)) (blkOk_by (N := ["late", "bounds", "deal", "lane", "loads", "reader"]) (sc := defScope s_is_within) (by decide +kernel)) (fun _ _ _ _ _ => (pg_name (i := 3) sc_is_within.nd rfl (Or.inl rfl))) (fun _ _ _ _ _ => pts_nil) (fun _ _ _ _ _ => (pe_and (pe_e e_is_word (hr.mono (by decide)) pass0 (pa_cons (pe_dget (hu_of hr) (pv 0) (pv 3) (fun _ _ => rfl)) pa_nil)) (pe_one (pe_cmp (pc_din (hu_of hr) (pe_dget (hu_of hr) (pv 0) (pv 3) (fun _ _ => rfl)) (pv 1)))))))) pa_nil))))))) (pss_one (ps_ret pe_bl)) pss_nil)
      (pss_cons (ps_set (i := 4) sc_is_within.nd rfl (Or.inr rfl) (pe_e e_loads_of (hr.mono (by decide)) pass0 (pa_cons (pv 0) (pa_cons (pv 1) pa_nil))))
      (pss_one (ps_ret (pe_callB (cr_allK (K := K) rfl rfl) (by rfl) T.n_all (by decide +kernel) (pa_cons (pe_lock (pe_lc (own := [("reader", 5)]) (g := gName 5) (tt := tYes) rfl sc_is_within.nd (pi_keys (pv 1)) (blkOk_by (N := ["late", "bounds", "deal", "lane", "loads", "reader"]) (sc := defScope s_is_within) (by decide +kernel)) (fun _ _ _ _ _ => (pg_name (i := 5) sc_is_within.nd rfl (Or.inl rfl))) (fun _ _ _ _ _ => pts_nil) (fun _ _ _ _ _ => (pe_chain op_le op_le (pe_ix (ix_tupK (K := K) rfl) (pe_dget (hu_of hr) (pv 1) (pv 5) (fun _ _ => rfl)) pe_int (fun _ _ => rfl)) (pe_dget (hu_of hr) (pv 4) (pv 5) (fun _ _ => rfl)) (pe_ix (ix_tupK (K := K) rfl) (pe_dget (hu_of hr) (pv 1) (pv 5) (fun _ _ => rfl)) pe_int (fun _ _ => rfl)))))) pa_nil)))))), ?_⟩
    have n60 := okd.n
    obtain ⟨U, hU1, hU2⟩ := hb
    refine ⟨_, rfl, t, _, L, rfl, .inl ht, kd_fst _ _, by omega, fun ys p1 hy1 hy2 hp1 => ?_⟩
    have ey := sorted_uniq hy1 hy2 okd.so
    subst ey
    have e1 : Ex H (upd H p1 (.lst (ys.map V.str))) := Ex.new hp1
    refine ⟨_, rfl, d, _, ys, rfl, .inl (e1 _ _ hd), kd_fst _ _, by omega, fun zs p2 hz1 hz2 hp2 => ?_⟩
    have ez := sorted_uniq hz1 hz2 okd.so
    subst ez
    have e2 : Ex (upd H p1 (.lst (zs.map V.str))) (upd (upd H p1 (.lst (zs.map V.str))) p2 (.lst (zs.map V.str))) := Ex.new hp2
    refine strs_ne (e2 _ _ upd_same) upd_same (fun x hx => isW_strOk (okd.w x hx)) ⟨false, rfl, iteF ?_⟩
    generalize upd (upd H p1 (.lst (zs.map V.str))) p2 (.lst (zs.map V.str)) = H2 at e2
    have e02 := e1.trans e2
    dsimp only [tSeq_ap, tAsg_ap, gName_ap, tC_ap, tNext_ap, tRet_ap, tAndV_ap, tCB_ap, tCons_ap, tNil_ap, tB_ap, tTest_ap, tNot_ap, tOr_ap, tAnd_ap, tIfS_ap, tOp_ap, tDrop_ap]
    refine lcd (e02 _ _ ht) (by omega) (fun H1 Q' q' => ⟨_, rfl, q'⟩) (fun _ => true) (fun _ => .bl true) (fun z hz H3 eb rd Qy Qn g1 g2 => ?_) fun p3 H3 hp3 e3 h3 => ?_
    · refine ⟨rfl, tyes ⟨_, rfl, _, rfl, t, _, rfl, gk rd hz, _, rfl, okb.w _ (wi.1 z hz), fun H4 e4 => ⟨true, rfl, iteT ?_⟩⟩⟩
      have ntb := ne_db ht hU1 okb.n1
      exact ⟨_, rfl, _, rfl, t, _, rfl, gk (rde rd e4) hz, _, rfl, b, _, rfl, gk (.inl (e4 _ _ (eb _ _ ntb.symm (e02 _ _ hU1)))) (wi.1 z hz), g1 rfl _ e4⟩
    refine ⟨p3, zs.map fun _ => true, rfl, sql (by rw [h3, List.map_map, List.filter_eq_self.mpr fun _ _ => rfl]; rfl), true, congrArg V.bl (all_true _), iteF ?_⟩
    have e03 := e02.trans e3
    refine ⟨_, rfl, _, rfl, t, b, zs, D', B.rs, rfl, e03 _ _ ht, by omega, okb.nd, by have := okb.n2; omega, wi.1, .inr ⟨_, e03 _ _ hU1⟩, fun p4 H4 hp4 e4 h4 => ?_⟩
    have e04 := e03.trans e4
    dsimp only [tSeq_ap, tAsg_ap, gName_ap, tC_ap, tNext_ap, tRet_ap, tAndV_ap, tCB_ap, tCons_ap, tNil_ap, tB_ap, tTest_ap, tNot_ap, tOr_ap, tAnd_ap, tIfS_ap, tOp_ap, tDrop_ap]
    refine lcd (e04 _ _ hU1) (by have := okb.n2; omega) (fun H1 Q' q' => ⟨_, rfl, q'⟩) (fun _ => true) (fun _ => .bl true) (fun z hz H5 eb rd Qy Qn g1 g2 => ?_) fun p5 H5 hp5 e5 h5 => ?_
    · have hT := eb _ _ (ne_td (e04 _ _ (hU2 z hz)) (e04 _ _ hU1)) (e04 _ _ (hU2 z hz))
      have n4 : p4 ≠ b := fun e => by rw [e, e03 _ _ hU1] at hp4; cases hp4
      have hbz := wi.2 z hz
      refine ⟨rfl, tyes ⟨_, rfl, _, rfl, b, _, rfl, gk rd hz, _, _, _, _, rfl, rfl, sqt hT, rfl, ?_⟩⟩
      refine ⟨_, rfl, _, rfl, p4, _, rfl, gk (.inl (eb _ _ n4 h4)) hz, _, _, rfl, rfl, true, bl_t hbz.1, iteT ?_⟩
      refine ⟨_, rfl, _, rfl, b, _, rfl, gk rd hz, _, _, _, _, rfl, rfl, sqt hT, rfl, _, _, rfl, rfl, ?_⟩
      exact cgv (Q := Qy) (bl_t hbz.2) (g1 rfl _ (Ex.refl _))
    exact ⟨p5, B.rs.map fun _ => true, rfl, sql (by rw [h5, List.map_map, List.filter_eq_self.mpr fun _ _ => rfl]; rfl), cgv (Q := Q) (congrArg V.bl (all_true _)) (q _ (e04.trans e5))⟩
/-! ### History(..) -/
/-- a list of deals, of the same lanes -/
def DealsAt (H : Hp) (a : Addr) (L : List Str) (Ds : List (Str → Str)) : Prop := ∃ ts : List Addr, H a = some (.lst (ts.map V.ref)) ∧ Paired (fun t D => DlAt H t L D) ts Ds
theorem DealsAt.ex {H H' : Hp} {a : Addr} {L : List Str} {Ds : List (Str → Str)} (h : DealsAt H a L Ds) (e : Ex H H') : DealsAt H' a L Ds := by
  obtain ⟨ts, h1, h2⟩ := h
  exact ⟨ts, e _ _ h1, Paired.mapP h2 fun _ _ r => e _ _ r⟩
def HiAt (K : PySem.W.Frag) (H : Hp) (x : Addr) (L : List Str) (Ds : List (Str → Str)) (mv : Int) (ps : List Int) : Prop :=
  ∃ dx a p, H x = some (.ins (He.ga K "History") dx [("deals", .ref a), ("moves", .int mv), ("prices", .ref p)]) ∧ DealsAt H a L Ds ∧ H p = some (.lst (ps.map V.int))
theorem HiAt.ex {K : PySem.W.Frag} {H H' : Hp} {x : Addr} {L : List Str} {Ds : List (Str → Str)} {mv : Int} {ps : List Int} (h : HiAt K H x L Ds mv ps) (e : Ex H H') : HiAt K H' x L Ds mv ps := by
  obtain ⟨dx, a, p, h1, h2, h3⟩ := h
  exact ⟨dx, a, p, e _ _ h1, h2.ex e, e _ _ h3⟩
def spHistoryInit (K : PySem.W.Frag) : Sp := fun vs H Q _ => ∃ (x dx a p : Addr) (L : List Str) (Ds : List (Str → Str)) (mv : Int) (ps : List Int), vs = [.ref x, .ref a, .int mv, .ref p] ∧ H x = some (.ins (He.ga K "History") dx []) ∧ DealsAt H a L Ds ∧ Ds.length ≤ 100 ∧ H p = some (.lst (ps.map V.int)) ∧
  ∀ H', ExB x H H' → HiAt K H' x L Ds mv ps → Q .non H'
theorem sc_History_init : FnScope ["self", "deals", "moves", "prices", "deal"] ["self", "deals", "moves", "prices"] (defScope s_History_init) := ⟨rfl, rfl, rfl, by decide +kernel, rfl, by decide +kernel, by decide +kernel⟩
theorem ok_History_init (T : Txt K mg) : EntC P w K mg base CX0 1 "History" (He.ga K "History") ["self", "deals", "moves", "prices"] (spHistoryInit K) := by
  obtain ⟨fd, F⟩ := T.f_History_init
  refine EntC.mk' T.g_History T.k_History F (FunD.ok0 F sc_History_init (fun vs H Q E h => ?_) (fun cdv A outer s H vs Q E hr h => ?_)) (fun _ _ _ _ _ _ us hl => match us, hl with | [_, _, _, _], _ => rfl)
  · obtain ⟨x, dx, a, p, L, Ds, mv, ps, rfl, hx, ⟨ts, ha, hts⟩, n100, hp, q⟩ := h
    rfl
  · obtain ⟨x, dx, a, p, L, Ds, mv, ps, rfl, hx, ⟨ts, ha, hts⟩, n100, hp, q⟩ := h
    refine ⟨_, (pss_cons (ps_fld (pv 0) (pe_lc (own := [("deal", 4)]) (g := gName 4) (tt := tYes) rfl sc_History_init.nd (pi_listK (K := K) rfl (pv 1)) (blkOk_by (N := ["self", "deals", "moves", "prices", "deal"]) (sc := defScope s_History_init) (by decide +kernel)) (fun _ _ _ _ _ => (pg_name (i := 4) sc_History_init.nd rfl (Or.inl rfl))) (fun _ _ _ _ _ => pts_nil) (fun _ _ _ _ _ => (pe_callTy call_dictD (by rfl) T.n_dict (by decide +kernel) (pa_cons (pv 4) pa_nil)))) rfl)
      (pss_cons (ps_fld (pv 0) (pv 2) rfl)
      (pss_one (ps_fld (pv 0) (pe_callTy (call_list_ofK (K := K) rfl) (by rfl) T.n_list (by decide +kernel) (pa_cons (pv 3) pa_nil)) rfl)))), ?_⟩
    have lt : ts.length = Ds.length := Paired.length hts
    dsimp only [tSeq_ap, tAsg_ap, gName_ap, tC_ap, tNext_ap, tRet_ap, tAndV_ap, tCB_ap, tCons_ap, tNil_ap, tB_ap, tTest_ap, tNot_ap, tOr_ap, tAnd_ap, tIfS_ap, tOp_ap, tDrop_ap]
    dsimp only [sFld_ap]
    refine lcO (td := tVar 1) (ts.map V.ref) Ds (by rw [List.length_map, lt]) (fun D => .dK (kd L fun l => .str (D l))) (fun _ _ h => by cases h) (sql ha) (by rw [List.length_map, lt]; omega) (fun Q' q' => ⟨_, rfl, q'⟩) (fun i v D hx2 hD H1 e1 Qy h1 => ⟨rfl, ?_⟩) (fun _ _ _ _ _ h k => k _ _ h) fun p1 H1 t1 hp1 e1 h1 ht1 => ?_
    · rw [List.getElem?_map] at hx2
      cases hz : ts[i]? with
      | none => rw [hz] at hx2; cases hx2
      | some t =>
      rw [hz] at hx2
      cases hx2
      obtain ⟨D', hD', htt⟩ := paired_at hts hz
      rw [hD] at hD'
      cases hD'
      exact ⟨_, rfl, t, _, rfl, .inl (e1 _ _ htt), fun p2 hp2 => h1 p2 _ (Ex.new hp2) upd_same⟩
    refine ⟨_, rfl, x, _, dx, _, rfl, e1 _ _ hx, T.c_History, T.a_History_deals, (of_decide_eq_true (by rfl)), ?_⟩
    refine ⟨_, rfl, _, rfl, x, _, dx, _, rfl, upd_same, T.c_History, T.a_History_moves, (of_decide_eq_true (by rfl)), ?_⟩
    have npx : p ≠ x := fun e => by rw [e, hx] at hp; cases hp
    refine ⟨_, rfl, p, _, rfl, .inl (sql ((upd_ne npx).trans ((upd_ne npx).trans (e1 _ _ hp)))), fun p2 hp2 => ?_⟩
    have n2x : p2 ≠ x := fun e => by rw [e, upd_same] at hp2; cases hp2
    refine ⟨_, rfl, x, _, dx, _, rfl, (upd_ne n2x.symm).trans upd_same, T.c_History, T.a_History_prices, (of_decide_eq_true (by rfl)), ?_⟩
    have hp20 : H1 p2 = none := by rw [upd_ne n2x, upd_ne n2x] at hp2; exact hp2
    have n1x : p1 ≠ x := (fresh_ne hx hp1)
    have n12 : p1 ≠ p2 := (fresh_ne h1 hp20).symm
    refine q _ ?_ ⟨dx, p1, p2, upd_same, ⟨t1, (upd_ne n1x).trans ((upd_ne n12).trans ((upd_ne n1x).trans ((upd_ne n1x).trans h1))), Paired.mapP ht1 fun t D h => ?_⟩, (upd_ne n2x).trans upd_same⟩
    · intro b o hb h
      have h2 := e1 _ _ h
      rw [upd_ne hb, upd_ne (ne_of_none h2 hp20), upd_ne hb, upd_ne hb]
      exact h2
    · have ntx : t ≠ x := fun e => by
        rw [e, e1 _ _ hx] at h
        cases h
      exact (upd_ne ntx).trans ((upd_ne (fresh_ne h hp20).symm).trans ((upd_ne ntx).trans ((upd_ne ntx).trans h)))
end
end K55


set_option Elab.async false
set_option linter.all false
set_option maxRecDepth 100000
set_option maxHeartbeats 4000000
namespace K55
open PySem PySem.Spec PyProof.Rows L2 Evl
open K55M (Nd Lb Net Arc Lay FlowOk Plan lab4)
/-- all but a flow's list of edges and dict of nodes -/
def ExF (el nd : Addr) (H H' : Hp) : Prop := ∀ b o, b ≠ el → b ≠ nd → H b = some o → H' b = some o
theorem ExF.trans {el nd : Addr} {H H1 H2 : Hp} (a : ExF el nd H H1) (b : ExF el nd H1 H2) : ExF el nd H H2 := fun x o h1 h2 h => b x o h1 h2 (a x o h1 h2 h)
theorem ExF.of {el nd : Addr} {H H' : Hp} (e : Ex H H') : ExF el nd H H' := fun _ _ _ _ h => e _ _ h
theorem ExF.refl (el nd : Addr) (H : Hp) : ExF el nd H H := fun _ _ _ _ h => h
abbrev LY := Lay Str
def LayO (K : PySem.W.Frag) (H : Hp) (Y : LY) (x dx n h fl : Addr) : Prop := H x = some (.ins (He.ga K "Layers") dx [("names", .ref n), ("history", .ref h), ("many", .int Y.many), ("flow", .ref fl), ("big", .int Y.net.big)])
theorem noF {el nd a : Addr} {H H' : Hp} (e : ExF el nd H H') (h1 : H' el ≠ none) (h2 : H' nd ≠ none) (h : H' a = none) : H a = none := by
  cases q : H a with
  | none => rfl
  | some o =>
    have n1 : a ≠ el := fun e => h1 (e ▸ h)
    have n2 : a ≠ nd := fun e => h2 (e ▸ h)
    rw [e a o n1 n2 q] at h
    cases h
theorem FlowAt.there {K : PySem.W.Frag} {H : Hp} {x dx el nd : Addr} {E : LB → Addr} {G : NET} {ls : List LB} {f : LB → Int} {many : Int} (fl : FlowAt K H x dx el nd E G ls f many) : H el ≠ none ∧ H nd ≠ none :=
  ⟨fun h => (by rw [fl.e] at h; cases h), fun h => by have hn : H nd = some (.dT _) := fl.n; rw [h] at hn; cases hn⟩
theorem FlowAt.nel {K : PySem.W.Frag} {H : Hp} {x dx el nd : Addr} {E : LB → Addr} {G : NET} {ls : List LB} {f : LB → Int} {many : Int} (fl : FlowAt K H x dx el nd E G ls f many) {a : Addr} {o : HO} (h : H a = some o) (h1 : ∀ xs, o ≠ .lst xs) (h2 : ∀ kvs, o ≠ .dT kvs) : a ≠ el ∧ a ≠ nd := by
  constructor
  · intro e
    rw [e, fl.e] at h
    exact h1 _ (Option.some.inj h).symm
  · intro e
    have hn : H nd = some (.dT _) := fl.n
    rw [e, hn] at h
    exact h2 _ (Option.some.inj h).symm
theorem two_tup {H : Hp} {b e : Addr} {xs ys : List V} (hb : H b = none) (he : upd H b (.tup xs) e = none) : Ex H (upd (upd H b (.tup xs)) e (.tup ys)) ∧ upd (upd H b (.tup xs)) e (.tup ys) b = some (.tup xs) ∧ upd (upd H b (.tup xs)) e (.tup ys) e = some (.tup ys) :=
  ⟨(Ex.new hb).trans (Ex.new he), (upd_ne (fresh_ne upd_same he).symm).trans upd_same, upd_same⟩
section
variable {P : Program} {w : World} {K : PySem.W.Frag} {mg : Str → Option Value} {base : Heap}
/-! ### Layers.layer -/
def spLayer (K : PySem.W.Frag) : Sp := fun vs H Q _ => ∃ (Y : LY) (x dx n h fl fdx el nd lt : Addr) (E : LB → Addr) (ls : List LB) (t : Nat) (r : Str), vs = [.ref x, .int ((t : Int) + 1), .str r, .ref lt] ∧ LayO K H Y x dx n h fl ∧
  FlowAt K H fl fdx el nd E Y.net ls (fun _ => 0) Y.many ∧ H lt = some (.tup [.int (Y.lim t r).1, .int (Y.lim t r).2]) ∧ (∀ i ∈ lab4 t r, i ∉ ls) ∧ PyData.strOk r = true ∧ ls.length ≤ 4000 ∧
  ∀ H' E', ExF el nd H H' → (∀ j ∈ ls, E' j = E j) → (∀ j ∈ lab4 t r, H (E' j) = none) → FlowAt K H' fl fdx el nd E' Y.net (ls ++ lab4 t r) (fun _ => 0) Y.many → Q .non H'
theorem sc_Layers_layer : FnScope ["self", "tick", "reader", "limits"] ["self", "tick", "reader", "limits"] (defScope s_Layers_layer) := ⟨rfl, rfl, rfl, by decide +kernel, rfl, by decide +kernel, by decide +kernel⟩
theorem ok_Layers_layer (T : Txt K mg) : EntM P w K mg base CX0 4 (He.ga K "Layers") "layer" ["self", "tick", "reader", "limits"] (spLayer K) := by
  obtain ⟨fd, F⟩ := T.f_Layers_layer
  have em_Flow_edge := ok_Flow_edge (P := P) (w := w) (base := base) T
  refine EntM.mk' T.m_Layers_layer F (FunD.ok0 F sc_Layers_layer (fun vs H Q E h => ?_) (fun cdv A outer s H vs Q E hr h => ?_)) (fun _ _ _ _ _ _ us hl => match us, hl with | [_, _, _, _], _ => rfl)
  · obtain ⟨Y, x, dx, n, h, fl, fdx, el, nd, lt, E', ls, t, r, rfl, hx, hf, hlt, hnl, hr', n4, q⟩ := h
    rfl
  · obtain ⟨Y, x, dx, n, h, fl, fdx, el, nd, lt, E', ls, t, r, rfl, hx, hf, hlt, hnl, hr', n4, q⟩ := h
    refine ⟨_, (pss_cons (ps_expr (pe_em em_Flow_edge T.c_Flow (pe_fldK (K := K) rfl (pv 0) rfl) (hr.mono (by decide)) pass0 (pa_cons (pe_tup (pa_cons pe_str (pa_cons (pe_op op_sub (pv 1) pe_int) (pa_cons (pv 2) pa_nil)))) (pa_cons (pe_tup (pa_cons pe_str (pa_cons (pv 1) (pa_cons (pv 2) pa_nil)))) (pa_cons pe_int (pa_cons (pe_fldK (K := K) rfl (pv 0) rfl) (pa_cons pe_int pa_nil)))))))
      (pss_cons (ps_expr (pe_em em_Flow_edge T.c_Flow (pe_fldK (K := K) rfl (pv 0) rfl) (hr.mono (by decide)) pass0 (pa_cons (pe_tup (pa_cons pe_str (pa_cons (pe_op op_sub (pv 1) pe_int) (pa_cons (pv 2) pa_nil)))) (pa_cons (pe_tup (pa_cons pe_str (pa_cons (pv 1) pa_nil))) (pa_cons pe_int (pa_cons (pe_fldK (K := K) rfl (pv 0) rfl) (pa_cons pe_int pa_nil)))))))
      (pss_cons (ps_expr (pe_em em_Flow_edge T.c_Flow (pe_fldK (K := K) rfl (pv 0) rfl) (hr.mono (by decide)) pass0 (pa_cons (pe_tup (pa_cons pe_str (pa_cons (pv 1) pa_nil))) (pa_cons (pe_tup (pa_cons pe_str (pa_cons (pv 1) (pa_cons (pv 2) pa_nil)))) (pa_cons pe_int (pa_cons (pe_fldK (K := K) rfl (pv 0) rfl) (pa_cons pe_int pa_nil)))))))
      (pss_one (ps_expr (pe_em em_Flow_edge T.c_Flow (pe_fldK (K := K) rfl (pv 0) rfl) (hr.mono (by decide)) pass0 (pa_cons (pe_tup (pa_cons pe_str (pa_cons (pv 1) (pa_cons (pv 2) pa_nil)))) (pa_cons (pe_tup (pa_cons pe_str (pa_cons (pv 1) (pa_cons (pv 2) pa_nil)))) (pa_cons (pe_ix (ix_tupK (K := K) rfl) (pv 3) pe_int (fun _ _ => rfl)) (pa_cons (pe_callB (call_min2 rfl) (by rfl) T.n_min (by decide +kernel) (pa_cons (pe_ix (ix_tupK (K := K) rfl) (pv 3) pe_int (fun _ _ => rfl)) (pa_cons (pe_fldK (K := K) rfl (pv 0) rfl) pa_nil))) (pa_cons pe_int pa_nil))))))))))), ?_⟩
    have tw : ((t : Int) + 1) - 1 = (t : Int) := by omega
    have inx : ∀ xs, (HO.ins (He.ga K "Layers") dx [("names", .ref n), ("history", .ref h), ("many", .int Y.many), ("flow", .ref fl), ("big", .int Y.net.big)]) ≠ .lst xs := fun _ h => by cases h
    refine ⟨_, rfl, x, _, dx, _, _, rfl, hx, T.c_Layers, T.a_Layers_flow, rfl, fl, fdx, _, rfl, hf.o, rfl, ?_⟩
    refine ⟨_, rfl, _, _, rfl, rfl, _, rfl, le3, fun b1 hb1 => ?_⟩
    refine ⟨_, rfl, _, rfl, le3, fun e1 he1 => ?_⟩
    obtain ⟨x12, hB1, hE1⟩ := two_tup (ys := [.str "in", .int ((t : Int) + 1), .str r]) hb1 he1
    generalize upd (upd H b1 (.tup [.str "out", .int ((t : Int) + 1 - 1), .str r])) e1 (.tup [.str "in", .int ((t : Int) + 1), .str r]) = H1 at x12 hB1 hE1
    dsimp only at hB1
    rw [tw] at hB1
    have hf1 := hf.ex x12
    refine ⟨_, rfl, x, _, dx, _, _, rfl, x12 _ _ hx, T.c_Layers, T.a_Layers_many, rfl, ?_⟩
    refine ⟨Y.net, fl, fdx, el, nd, b1, e1, E', ls, Y.many, .stay (t + 1) r, rfl, hf1, hB1, hE1, hnl _ (by simp [lab4]), hr', hr', by omega, fun H2 E2 y1 s1 z1 hf2 => ?_⟩
    have f2 := (ExF.of x12).trans y1
    have hx2 : LayO K H2 Y x dx n h fl := f2 _ _ (hf.nel hx (fun _ h => by cases h) (fun _ h => by cases h)).1 (hf.nel hx (fun _ h => by cases h) (fun _ h => by cases h)).2 hx
    refine ⟨_, rfl, x, _, dx, _, _, rfl, hx2, T.c_Layers, T.a_Layers_flow, rfl, fl, fdx, _, rfl, hf2.o, rfl, ?_⟩
    refine ⟨_, rfl, _, _, rfl, rfl, _, rfl, le3, fun b2 hb2 => ?_⟩
    refine ⟨_, rfl, le2, fun e2 he2 => ?_⟩
    obtain ⟨x34, hB2, hE2⟩ := two_tup (ys := [.str "hub", .int ((t : Int) + 1)]) hb2 he2
    generalize upd (upd H2 b2 (.tup [.str "out", .int ((t : Int) + 1 - 1), .str r])) e2 (.tup [.str "hub", .int ((t : Int) + 1)]) = H3 at x34 hB2 hE2
    dsimp only at hB2
    rw [tw] at hB2
    refine ⟨_, rfl, x, _, dx, _, _, rfl, x34 _ _ hx2, T.c_Layers, T.a_Layers_many, rfl, ?_⟩
    refine ⟨Y.net, fl, fdx, el, nd, b2, e2, E2, _, Y.many, .leave (t + 1) r, rfl, hf2.ex x34, hB2, hE2, fun hm => ?_, hr', trivial, by rw [List.length_append, List.length_singleton]; omega, fun H4 E4 y2 s2 z2 hf4 => ?_⟩
    · rcases List.mem_append.mp hm with hm | hm
      · exact hnl _ (by simp [lab4]) hm
      · simp at hm
    have f4 := (f2.trans (ExF.of x34)).trans y2
    have nx := hf.nel hx (fun _ h => by cases h) (fun _ h => by cases h)
    have hx4 : LayO K H4 Y x dx n h fl := f4 _ _ nx.1 nx.2 hx
    refine ⟨_, rfl, x, _, dx, _, _, rfl, hx4, T.c_Layers, T.a_Layers_flow, rfl, fl, fdx, _, rfl, hf4.o, rfl, ?_⟩
    refine ⟨_, rfl, le2, fun b3 hb3 => ?_⟩
    refine ⟨_, rfl, _, rfl, le3, fun e3 he3 => ?_⟩
    obtain ⟨x56, hB3, hE3⟩ := two_tup (ys := [.str "in", .int ((t : Int) + 1), .str r]) hb3 he3
    generalize upd (upd H4 b3 (.tup [.str "hub", .int ((t : Int) + 1)])) e3 (.tup [.str "in", .int ((t : Int) + 1), .str r]) = H5 at x56 hB3 hE3
    refine ⟨_, rfl, x, _, dx, _, _, rfl, x56 _ _ hx4, T.c_Layers, T.a_Layers_many, rfl, ?_⟩
    refine ⟨Y.net, fl, fdx, el, nd, b3, e3, E4, _, Y.many, .come (t + 1) r, rfl, hf4.ex x56, hB3, hE3, fun hm => ?_, trivial, hr', by rw [List.length_append, List.length_append, List.length_singleton, List.length_singleton]; omega, fun H6 E6 y3 s3 z3 hf6 => ?_⟩
    · rcases List.mem_append.mp hm with hm | hm
      · rcases List.mem_append.mp hm with hm | hm
        · exact hnl _ (by simp [lab4]) hm
        · simp at hm
      · simp at hm
    have f6 := (f4.trans (ExF.of x56)).trans y3
    have hx6 : LayO K H6 Y x dx n h fl := f6 _ _ nx.1 nx.2 hx
    have nl := hf.nel hlt (fun _ h => by cases h) (fun _ h => by cases h)
    refine ⟨_, rfl, x, _, dx, _, _, rfl, hx6, T.c_Layers, T.a_Layers_flow, rfl, fl, fdx, _, rfl, hf6.o, rfl, ?_⟩
    refine ⟨_, rfl, _, rfl, le3, fun b4 hb4 => ?_⟩
    refine ⟨_, rfl, _, rfl, le3, fun e4 he4 => ?_⟩
    obtain ⟨x78, hB4, hE4⟩ := two_tup (ys := [.str "out", .int ((t : Int) + 1), .str r]) hb4 he4
    generalize upd (upd H6 b4 (.tup [.str "in", .int ((t : Int) + 1), .str r])) e4 (.tup [.str "out", .int ((t : Int) + 1), .str r]) = H7 at x78 hB4 hE4
    have hlt7 := x78 _ _ (f6 _ _ nl.1 nl.2 hlt)
    refine ⟨_, rfl, _, _, _, _, rfl, rfl, sqt hlt7, rfl, ?_⟩
    refine ⟨_, rfl, _, _, _, _, rfl, rfl, sqt hlt7, rfl, ?_⟩
    refine ⟨_, rfl, x, _, dx, _, _, rfl, x78 _ _ hx6, T.c_Layers, T.a_Layers_many, rfl, _, _, rfl, ?_⟩
    refine ⟨Y.net, fl, fdx, el, nd, b4, e4, E6, _, Y.many, .io (t + 1) r, ?_, hf6.ex x78, hB4, hE4, fun hm => ?_, hr', hr', by simp only [List.length_append, List.length_singleton]; omega, fun H8 E8 y4 s4 z4 hf8 => ?_⟩
    · show [V.ref fl, .ref b4, .ref e4, .int (Y.lim t r).1, .int (if Y.many < (Y.lim t r).2 then Y.many else (Y.lim t r).2), .int 0] = [V.ref fl, .ref b4, .ref e4, .int (Y.lim t r).1, .int (min (Y.lim t r).2 Y.many), .int 0]
      rw [show (if Y.many < (Y.lim t r).2 then Y.many else (Y.lim t r).2) = min (Y.lim t r).2 Y.many by omega]
    · simp only [List.mem_append, List.mem_singleton] at hm
      rcases hm with ((hm | hm) | hm) | hm
      · exact hnl _ (by simp [lab4]) hm
      · cases hm
      · cases hm
      · cases hm
    have m1 : Lb.stay (t + 1) r ∈ ls ++ [Lb.stay (t + 1) r] := by simp
    refine q H8 E8 ((f6.trans (ExF.of x78)).trans y4) (fun j hj => ?_) (fun j hj => ?_) ?_
    · rw [s4 j (by simp [hj]), s3 j (by simp [hj]), s2 j (by simp [hj]), s1 j hj]
    · simp only [lab4, List.mem_cons, List.not_mem_nil, or_false] at hj
      rcases hj with rfl | rfl | rfl | rfl
      · rw [s4 _ (by simp), s3 _ (by simp), s2 _ (by simp)]
        exact no_of x12 z1
      · rw [s4 _ (by simp), s3 _ (by simp)]
        exact noF (f2.trans (ExF.of x34)) (hf2.ex x34).there.1 (hf2.ex x34).there.2 z2
      · rw [s4 _ (by simp)]
        exact noF (f4.trans (ExF.of x56)) (hf4.ex x56).there.1 (hf4.ex x56).there.2 z3
      · exact noF (f6.trans (ExF.of x78)) (hf6.ex x78).there.1 (hf6.ex x78).there.2 z4
    have : ls ++ lab4 t r = ls ++ [.stay (t + 1) r] ++ [.leave (t + 1) r] ++ [.come (t + 1) r] ++ [.io (t + 1) r] := by simp [lab4]
    rw [this]
    exact hf8
end
end K55


set_option Elab.async false
set_option linter.all false
set_option maxRecDepth 100000
set_option maxHeartbeats 4000000
namespace K55
open PySem PySem.Spec PyProof.Rows L2 Evl
/-! own rule: enumerate(xs, 1) (it follows the library's rule for enumerate(xs)) -/
def Ite1 (K : PySem.W.Frag) (a : Addr) : It :=
  ⟨fun i H => ∃ (xs : List V) (x : V), SqL K H a xs ∧ xs[i]? = some x, fun i H v H' => ∃ T x, v = .ref T ∧ H T = none ∧ H' = upd H T (.tup [.int ((i + 1 : Nat) : Int), x]) ∧ ∀ xs, SqL K H a xs → xs[i]? = some x, fun i H => ∃ xs : List V, SqL K H a xs ∧ xs.length ≤ i⟩
theorem enum_endC {prog : Program} {w : World} {A : Around} {E : Value → Shared → Prop} {s : Shared} {e it l : Addr} {i : Nat} {c : Int} {items : Array Value} {old : Value} {Q : Option Value → Shared → Prop} (hh : A.handled = none)
    (he : IsEnum s.heap e it c old) (hit : s.heap.IsListIter it l i) (hl : s.heap.IsList l items) (hx : items[i]? = none)
    (hQ : ∀ h', Heap.ExtBut it s.heap h' → Q none { s with heap := h' }) : wpAny (model prog w) A (pyNext (.ref e)) Q E s := by
  have hT : s.TypeIs (.ref e) "enumerate" := ⟨_, he, rfl⟩
  unfold pyNext
  refine wpAny_bind (wpAny_attempt (wpAny_callSpecial?_slot (name := Str.ofString "__next__") hT F.slot_enumerate_next
    (wpAny_call_entry F.slot_enumerate_next hT F.entry_enumerate_next ?_ (F.args_enumerate_next_1 _))))
  show wpAny _ _ (field (.ref e) 2 >>= _) _ _ _
  refine wpAny_bind (wpAny_field he rfl (x := .ref it) rfl ?_)
  refine wpAny_bind (wpAny_nextOf_list_end hh hit hl hx fun h' x he' hx' => ?_)
  obtain ⟨o, ho, hc⟩ := hx'
  refine wpAny_bind (wpAny_isInstance (T := "StopIteration") (b := true) ⟨o, ho, hc⟩ isSubtype_stop ?_)
  exact wpAny_pure (hQ _ he')
theorem turn_enum1 {P : Program} {w : World} {K : PySem.W.Frag} {elts : List Expr} {kk : Nat} {tpos : Pos} (a e it : Addr) :
    Turn P w K (.Tuple elts kk tpos) (Ite1 K a) [e, it] e (fun i h => (∃ old, IsEnum h e it ((i + 1 : Nat) : Int) old) ∧ h.IsListIter it a i ∧ e ≠ it ∧ a ≠ it ∧ a ≠ e) where
  mem := by simp
  obj := fun i h st b hb => by
    obtain ⟨⟨old, he⟩, ⟨o, ho, hc, hd⟩, _⟩ := st
    have e' : b = e ∨ b = it := by simpa using hb
    rcases e' with z | z
    · rw [z]; exact ⟨_, he, fun v q => nomatch q⟩
    · rw [z]; exact ⟨o, ho, fun v q => by rw [hd] at q; cases q⟩
  keep := fun i h h' st k => let ⟨⟨old, he⟩, hi, hne⟩ := st; ⟨⟨old, k e (by simp) _ he⟩, hi.at fun o q => k it (by simp) o q, hne⟩
  item := by
    intro X hP hw hK hc i pins s σ H E I hf st hg
    subst hP hw hK
    obtain ⟨⟨old, he⟩, hit, hne, hai, hae⟩ := st
    obtain ⟨xs, x, hq, hx⟩ := hg
    obtain ⟨its, rv, p, hz⟩ := I.list hq
    obtain ⟨u, hu, ru⟩ := rv.get hx
    have hel : e < s.heap.objs.size := Heap.lt_size he
    have hil : it < s.heap.objs.size := by obtain ⟨_, q, _⟩ := hit; exact Heap.lt_size q
    have hil' : i < its.toArray.size := by
      have := (List.getElem?_eq_some_iff.mp hu).1
      simpa using this
    have hin : (X.A.in1).handled = none := I.ok.hd hc
    refine wpAny_pyNext_enum_itemC (Draws.list hin it a hai its.toArray) he ⟨hit, p.isList⟩ hil' hne (by simp [hne, hae.symm]) fun x' h' tk' hx' ho hit' hT hsz hk => ?_
    have hx' : its.toArray[i]? = some x' := hx'
    have exu : u = x' := by
      have h2 := hx'
      simp only [List.getElem?_toArray] at h2
      rw [hu] at h2
      exact Option.some.inj h2
    subst exu
    refine ⟨_, rfl, wpAny_letOwnedTupleGo_enum (s := { s with heap := h', toks := tk' + 1 }) ho fun h'' he' sb => ?_⟩
    have hT2 : h''.get? s.heap.objs.size = some { cls := .type "tuple", data := .seq #[.int ((i + 1 : Nat) : Int) tk', u] } := (sb.2 _ (Nat.ne_of_gt hel)).trans hT
    have new : ObjOk X.prog X.w (upd H s.heap.objs.size (.tup [.int ((i + 1 : Nat) : Int), x])) h'' s.heap.objs.size (.tup [.int ((i + 1 : Nat) : Int), x]) :=
      ⟨by show 2 ≤ sizeLine; decide, [.int ((i + 1 : Nat) : Int) tk', u], .cons ⟨_, rfl⟩ (.cons ru .nil), ⟨_, hT2, rfl, _, rfl⟩⟩
    have I1 : Inv X pins σ (upd H s.heap.objs.size (.tup [.int ((i + 1 : Nat) : Int), x])) { s with heap := h'', toks := tk' + 1 } :=
      I.turnedNew (ch := [e, it]) (fun b ob hb q => (sb.2 b (fun z => hb (by simp [z]))).trans (hk b ob (fun z => hb (by simp [z])) (fun z => hb (by simp [z])) q)) hf (Nat.le_refl _) new
    refine ⟨.ref s.heap.objs.size, _, I1, rfl, ⟨_, x, rfl, I.hok.fresh (Nat.le_refl _), rfl, fun ys hy => by rw [I.list_inj hy hq]; exact hx⟩, ⟨⟨u, ?_⟩, hit'.1.at fun o q => (sb.2 it (Ne.symm hne)).trans q, hne, hai, hae⟩, fun b hb => ?_⟩
    · have e1 : ((i + 1 + 1 : Nat) : Int) = ((i + 1 : Nat) : Int) + 1 := by omega
      rw [e1]; exact he'
    · have hb' : b < s.heap.objs.size := by
        have e' : b = e ∨ b = it := by simpa using hb
        rcases e' with z | z
        · rw [z]; exact hel
        · rw [z]; exact hil
      rw [upd_ne (Nat.ne_of_lt hb')]
      exact (hf b hb).1
  done := by
    intro X hP hw hK hc i pins s σ H E I hf st hg
    subst hP hw hK
    obtain ⟨⟨old, he⟩, hit, hne, hai, hae⟩ := st
    obtain ⟨xs, hq, hx⟩ := hg
    obtain ⟨its, rv, p, hz⟩ := I.list hq
    obtain ⟨f0, f1, f2, f3, f4, f5⟩ := hf it (by simp)
    have hl := rv.length
    exact enum_endC (I.ok.hd hc) he hit p.isList (by simp; omega) fun h' eb => ⟨rfl, I.turned (t' := s.toks) (fun b o hb q => eb b o hb q) f0 f1 f3 f4 f5⟩
  self := fun A i s Q E st h => let ⟨⟨_, he⟩, _⟩ := st; wpAny_pyIter_enum he h
def iEnum1 (K : PySem.W.Frag) (ta : TA) : TI := fun σ H R => ta σ H fun vs H1 => ∃ a xs, vs = [.ref a, .int 1] ∧ SqL K H1 a xs ∧ R (Ite1 K a) H1
theorem pi_enum1 {X : Cx} {e e2 : Expr} {ta : TA} {p pos tpos : Pos} {elts : List Expr} {kk : Nat} (hg : Gl X "enumerate") (hm : X.mg "enumerate" = none) (ha : PA X [e, e2] ta) (hs : starEach [e, e2] X.env = (false, eval e X.env) :: starEach [e2] X.env := by rfl) (hpl : (backTo pos (starEach [e2] X.env)).any (·.1) = false := by rfl) :
    PI X (.Tuple elts kk tpos) (.Call (.Name "enumerate" p) [e, e2] [] pos) (iEnum1 X.K ta) := by
  refine ⟨fun pins s σ H R I h => ?_⟩
  refine Call_ (ld_blt I hg hm boot_enumerate (PyProof.Rows.callWith_type1 (thn (ha.run pos pins s σ H _ I h) fun us s1 ⟨vs, H1, I1, r1, q1⟩ => ?_) hs hpl))
  obtain ⟨a, xs, ex, hq, q⟩ := q1
  subst ex
  obtain ⟨u1, u2, rfl, ra, rb⟩ := r1.two
  obtain ⟨t, rfl⟩ := (show ∃ t, u2 = Value.int 1 t from rb)
  cases (show u1 = Value.ref a from ra)
  obtain ⟨its, rv, p', hz⟩ := I1.list hq
  have hal : a < s1.heap.objs.size := by
    obtain ⟨o, ho, _⟩ := p'.isList
    exact Heap.lt_size ho
  refine enum_begins (begins_list a its.toArray) p'.isList (by decide) (by decide) fun h' he hit hsz hk => wpAny_pyIter_enum he ?_
  have I2 : Inv X pins σ H1 { s1 with heap := h' } := I1.kept (t' := s1.toks) hk
  refine ⟨s1.heap.objs.size + 1, [s1.heap.objs.size + 1, s1.heap.objs.size], _, _, H1, rfl, I2, turn_enum1 a (s1.heap.objs.size + 1) s1.heap.objs.size, ⟨⟨.none, he⟩, ⟨_, hit, rfl, rfl⟩, Nat.succ_ne_self _, Nat.ne_of_lt hal, Nat.ne_of_lt (Nat.lt_succ_of_lt hal)⟩, fun b hb => ?_, q⟩
  have e' : b = s1.heap.objs.size + 1 ∨ b = s1.heap.objs.size := by simpa using hb
  have hle : s1.heap.objs.size ≤ b := by
    rcases e' with z | z
    · rw [z]; exact Nat.le_add_right _ _
    · rw [z]; exact Nat.le_refl _
  exact I1.fpOk hle (I1.hok.fresh hle)
theorem pi_enum1K {X : Cx} {K : PySem.W.Frag} {e e2 : Expr} {ta : TA} {p pos tpos : Pos} {elts : List Expr} {kk : Nat} (hK : X.K = K) (hg : Gl X "enumerate") (hm : X.mg "enumerate" = none) (ha : PA X [e, e2] ta) (hs : starEach [e, e2] X.env = (false, eval e X.env) :: starEach [e2] X.env := by rfl) (hpl : (backTo pos (starEach [e2] X.env)).any (·.1) = false := by rfl) :
    PI X (.Tuple elts kk tpos) (.Call (.Name "enumerate" p) [e, e2] [] pos) (iEnum1 K ta) := hK ▸ pi_enum1 hg hm ha hs hpl
theorem Src.enum1 {K : PySem.W.Frag} {G : Hp} {a : Addr} {xs : List V} (h : SqL K G a xs) : Src (Ite1 K a) G xs.length (fun i v H => ∃ T x, xs[i]? = some x ∧ v = .ref T ∧ H T = some (.tup [.int ((i + 1 : Nat) : Int), x])) where
  go := fun i H e hi => ⟨xs, xs[i], ex_l e h, by simp [hi]⟩
  stop := fun i H e hi => ⟨xs, ex_l e h, hi⟩
  yld := fun i H v H' e hi y => by
    obtain ⟨T, x, rfl, hT, rfl, h3⟩ := y
    exact ⟨Ex.new hT, T, x, h3 _ (ex_l e h), rfl, upd_same⟩
end K55

set_option Elab.async false
set_option linter.all false
set_option maxRecDepth 100000
set_option maxHeartbeats 4000000
namespace K55
open PySem PySem.Spec PyProof.Rows L2 Evl
open K55M (Nd Lb Net Arc Lay FlowOk Plan lab4 su)
/-- the layers of a deal and a history -/
def layOf (L : List Str) (D : Str → Str) (Bs : List Bn) (ns : List Str) : LY where
  names := ns
  T := Bs.length
  begin_ := cntI D L
  lim := fun t r => ((Bs.getD t default).low r, (Bs.getD t default).high r)
  many := L.length
theorem dflt_low (r : Str) : Bn.low default r = 0 := if_neg (by intro h; cases h)
theorem dflt_high (r : Str) : Bn.high default r = 0 := if_neg (by intro h; cases h)
theorem getD_mem {Bs : List Bn} (t : Nat) : Bs.getD t default ∈ Bs ∨ Bs.getD t default = default := by
  cases h : Bs[t]? with
  | none => exact .inr (by simp [List.getD, h])
  | some B => exact .inl (by rw [getD_of h]; exact mem_of_at h)
theorem layOf_ok {U L : List Str} {D : Str → Str} {Bs : List Bn} {ns : List Str} (ok : HOk U L D Bs) (hn : NmOf L D Bs ns) : (layOf L D Bs ns).Ok where
  nd := hn.1
  b0 := fun r _ => cnt1_nonneg _ _
  bs := sum_cntI D L hn.1 fun l hl => (hn.2.1 _).mpr (.inl ⟨l, hl, rfl⟩)
  l0 := fun t r => by
    show 0 ≤ (Bs.getD t default).low r
    rcases getD_mem (Bs := Bs) t with h | h
    · exact (ok.bo _ h).l0' r
    · rw [h, dflt_low]; exact Int.le_refl _
  l1 := fun t r => by
    show (Bs.getD t default).low r ≤ (Bs.getD t default).high r
    rcases getD_mem (Bs := Bs) t with h | h
    · exact (ok.bo _ h).lh' r
    · rw [h, dflt_low, dflt_high]; exact Int.le_refl _
theorem layOf_loads {U L : List Str} {D : Str → Str} {Bs : List Bn} {ns : List Str} (ok : HOk U L D Bs) (hn : NmOf L D Bs ns) (can : ∀ B ∈ Bs, B.Can L.length) : ∃ l, (layOf L D Bs ns).Loads l := by
  refine (layOf_ok ok hn).has_loads fun t ht => ?_
  have ht : t < Bs.length := ht
  have hB : Bs.getD t default ∈ Bs := by
    rw [getD_of (List.getElem?_eq_getElem ht)]
    exact List.getElem_mem ht
  have hs := (ok.bo _ hB).sums hn.1 fun r hr => (hn.2.1 r).mpr (.inr ⟨_, hB, hr⟩)
  have hc := can _ hB
  exact ⟨by show sumOf ns (Bs.getD t default).low ≤ _; rw [hs.1]; exact hc.1, by show _ ≤ sumOf ns (Bs.getD t default).high; rw [hs.2]; exact hc.2⟩
/-- the labels at a stage of the building -/
def stage1 (ns : List Str) (i : Nat) : List LB := (ns.take i).map .src
def stage2 (ns : List Str) (i j : Nat) : List LB := ns.map .src ++ ((List.range i).flatMap fun t => ns.flatMap fun r => lab4 t r) ++ (ns.take j).flatMap fun r => lab4 i r
def stage3 (ns : List Str) (T i : Nat) : List LB := ns.map .src ++ ((List.range T).flatMap fun t => ns.flatMap fun r => lab4 t r) ++ (ns.take i).map .snk
theorem stage2_zero (ns : List Str) : stage2 ns 0 0 = stage1 ns ns.length := by
  unfold stage2 stage1
  simp
theorem stage2_next (ns : List Str) (i : Nat) : stage2 ns i ns.length = stage2 ns (i + 1) 0 := by
  unfold stage2
  rw [List.range_succ, List.flatMap_append, List.take_of_length_le (Nat.le_refl _)]
  simp
theorem stage3_zero (ns : List Str) (T : Nat) : stage2 ns T 0 = stage3 ns T 0 := by
  unfold stage2 stage3
  simp
theorem stage3_all (L : List Str) (D : Str → Str) (Bs : List Bn) (ns : List Str) : stage3 ns Bs.length ns.length = (layOf L D Bs ns).labs := by
  unfold stage3 K55M.Lay.labs
  rw [List.take_of_length_le (Nat.le_refl _)]
  rfl
theorem stage1_succ {ns : List Str} {i : Nat} {r : Str} (h : ns[i]? = some r) : stage1 ns (i + 1) = stage1 ns i ++ [.src r] := by
  unfold stage1
  rw [take_succ_at h, List.map_append]
  rfl
theorem stage2_succ {ns : List Str} {i j : Nat} {r : Str} (h : ns[j]? = some r) : stage2 ns i (j + 1) = stage2 ns i j ++ lab4 i r := by
  unfold stage2
  rw [take_succ_at h, List.flatMap_append, ← List.append_assoc]
  simp
theorem stage3_succ {ns : List Str} {T i : Nat} {r : Str} (h : ns[i]? = some r) : stage3 ns T (i + 1) = stage3 ns T i ++ [.snk r] := by
  unfold stage3
  rw [take_succ_at h, List.map_append, ← List.append_assoc]
  rfl
theorem lab4_len (t : Nat) (r : Str) : (lab4 t r).length = 4 := rfl
theorem flat4_len (t : Nat) (xs : List Str) : (xs.flatMap fun r => lab4 t r).length = 4 * xs.length := by
  induction xs with
  | nil => rfl
  | cons x xs ih => rw [List.flatMap_cons, List.length_append, ih, lab4_len, List.length_cons]; omega
theorem flatT_len (ns : List Str) (T : Nat) : ((List.range T).flatMap fun t => ns.flatMap fun r => lab4 t r).length = T * (4 * ns.length) := by
  induction T with
  | zero => simp
  | succ T ih =>
    rw [List.range_succ, List.flatMap_append, List.length_append, ih]
    simp only [List.flatMap_cons, List.flatMap_nil, List.append_nil, flat4_len]
    rw [Nat.add_mul, Nat.one_mul]
theorem mem_lab4 {i : LB} {t : Nat} {r : Str} (h : i ∈ lab4 t r) : (∃ k, i = .stay k r ∨ i = .leave k r ∨ i = .come k r ∨ i = .io k r) ∧ (i = .stay (t + 1) r ∨ i = .leave (t + 1) r ∨ i = .come (t + 1) r ∨ i = .io (t + 1) r) := by
  simp only [lab4, List.mem_cons, List.not_mem_nil, or_false] at h
  rcases h with rfl | rfl | rfl | rfl
  · exact ⟨⟨_, .inl rfl⟩, .inl rfl⟩
  · exact ⟨⟨_, .inr (.inl rfl)⟩, .inr (.inl rfl)⟩
  · exact ⟨⟨_, .inr (.inr (.inl rfl))⟩, .inr (.inr (.inl rfl))⟩
  · exact ⟨⟨_, .inr (.inr (.inr rfl))⟩, .inr (.inr (.inr rfl))⟩
theorem lab4_inj {i : LB} {t u : Nat} {r s : Str} (h : i ∈ lab4 t r) (k : i ∈ lab4 u s) : t = u ∧ r = s := by
  simp only [lab4, List.mem_cons, List.not_mem_nil, or_false] at h k
  rcases h with rfl | rfl | rfl | rfl <;> rcases k with k | k | k | k <;> first | (cases k; exact ⟨rfl, rfl⟩) | cases k
theorem lab4_new {ns : List Str} {i j : Nat} {r : Str} (nd : ns.Nodup) (h : ns[j]? = some r) : ∀ l ∈ lab4 i r, l ∉ stage2 ns i j := fun l hl hm => by
  unfold stage2 at hm
  rcases List.mem_append.mp hm with hm | hm
  · rcases List.mem_append.mp hm with hm | hm
    · obtain ⟨r', _, rfl⟩ := List.mem_map.mp hm
      simp [lab4] at hl
    · obtain ⟨t, ht, hm⟩ := List.mem_flatMap.mp hm
      obtain ⟨r', _, hm⟩ := List.mem_flatMap.mp hm
      have := (lab4_inj hl hm).1
      have := List.mem_range.mp ht
      omega
  · obtain ⟨r', hr', hm⟩ := List.mem_flatMap.mp hm
    have := (lab4_inj hl hm).2
    exact not_mem_take nd h (this ▸ hr')
theorem src_new {ns : List Str} {i : Nat} {r : Str} (nd : ns.Nodup) (h : ns[i]? = some r) : (.src r : LB) ∉ stage1 ns i := fun hm => by
  obtain ⟨r', hr', e⟩ := List.mem_map.mp hm
  injection e with e
  exact not_mem_take nd h (e ▸ hr')
theorem snk_new {ns : List Str} {T i : Nat} {r : Str} (nd : ns.Nodup) (h : ns[i]? = some r) : (.snk r : LB) ∉ stage3 ns T i := fun hm => by
  unfold stage3 at hm
  rcases List.mem_append.mp hm with hm | hm
  · rcases List.mem_append.mp hm with hm | hm
    · obtain ⟨r', _, e⟩ := List.mem_map.mp hm
      cases e
    · obtain ⟨t, ht, hm⟩ := List.mem_flatMap.mp hm
      obtain ⟨r', _, hm⟩ := List.mem_flatMap.mp hm
      simp [lab4] at hm
  · obtain ⟨r', hr', e⟩ := List.mem_map.mp hm
    injection e with e
    exact not_mem_take nd h (e ▸ hr')
section
variable {P : Program} {w : World} {K : PySem.W.Frag} {mg : Str → Option Value} {base : Heap}
/-- the Layers object behind its __init__ -/
def LayAt (K : PySem.W.Frag) (H : Hp) (x : Addr) (Y : LY) (f : LB → Int) : Prop :=
  ∃ dx n h fl fdx el nd E, LayO K H Y x dx n h fl ∧ H n = some (.lst (Y.names.map V.str)) ∧ (∃ as : List Addr, H h = some (.lst (as.map V.ref)) ∧ as.length = Y.T) ∧ FlowAt K H fl fdx el nd E Y.net Y.labs f Y.many
/-- while it is built: H0 the heap before -/
structure Bld (K : PySem.W.Frag) (H0 : Hp) (Y : LY) (x dx n h fl fdx el nd : Addr) (ls : List LB) (H : Hp) : Prop where
  eb : ExB x H0 H
  bo : LayO K H Y x dx n h fl
  bn : H n = some (.lst (Y.names.map V.str))
  bf : ∃ E, FlowAt K H fl fdx el nd E Y.net ls (fun _ => 0) Y.many ∧ ∀ i ∈ ls, H0 (E i) = none
  be : H0 el = none
  bd : H0 nd = none
  bne : n ≠ el ∧ n ≠ nd
theorem Bld.ex {H0 : Hp} {Y : LY} {x dx n h fl fdx el nd : Addr} {ls : List LB} {H H' : Hp} (b : Bld K H0 Y x dx n h fl fdx el nd ls H) (e : Ex H H') : Bld K H0 Y x dx n h fl fdx el nd ls H' := by
  obtain ⟨E, h1, h2⟩ := b.bf
  exact ⟨b.eb.trans (ExB.of e), e _ _ b.bo, e _ _ b.bn, ⟨E, h1.ex e, h2⟩, b.be, b.bd, b.bne⟩
/-- an edge more, or four -/
theorem Bld.step {H0 : Hp} {Y : LY} {x dx n h fl fdx el nd : Addr} {ls ms : List LB} {H H' : Hp} {E E' : LB → Addr} (b : Bld K H0 Y x dx n h fl fdx el nd ls H) (h1 : FlowAt K H fl fdx el nd E Y.net ls (fun _ => 0) Y.many) (h2 : ∀ i ∈ ls, H0 (E i) = none) (hx0 : H0 x ≠ none) (e : ExF el nd H H') (s : ∀ j ∈ ls, E' j = E j) (z : ∀ j ∈ ms, H (E' j) = none)
    (hf : FlowAt K H' fl fdx el nd E' Y.net (ls ++ ms) (fun _ => 0) Y.many) : Bld K H0 Y x dx n h fl fdx el nd (ls ++ ms) H' := by
  have nx := h1.nel b.bo (fun _ h => by cases h) (fun _ h => by cases h)
  refine ⟨fun a o hn ha => ?_, e _ _ nx.1 nx.2 b.bo, e _ _ b.bne.1 b.bne.2 b.bn, ⟨E', hf, fun i hi => ?_⟩, b.be, b.bd, b.bne⟩
  · exact e a o (ne_of_none ha b.be) (ne_of_none ha b.bd) (b.eb a o hn ha)
  · rcases List.mem_append.mp hi with hi | hi
    · rw [s i hi]; exact h2 i hi
    · have := z i hi
      cases q : H0 (E' i) with
      | none => rfl
      | some o =>
        by_cases ex : E' i = x
        · have hb := b.bo
          unfold LayO at hb
          rw [ex, hb] at this; cases this
        · rw [b.eb _ o ex q] at this; cases this
def spLayersInit (K : PySem.W.Frag) : Sp := fun vs H Q _ => ∃ (x dx d h : Addr) (U L : List Str) (D : Str → Str) (Bs : List Bn), vs = [.ref x, .ref d, .ref h] ∧ H x = some (.ins (He.ga K "Layers") dx []) ∧ DlAt H d L D ∧ HistAt H h Bs ∧ HOk U L D Bs ∧ (∀ B ∈ Bs, B.Can L.length) ∧
  ∀ H' ns f, ExB x H H' → NmOf L D Bs ns → LayAt K H' x (layOf L D Bs ns) f → FlowOk (layOf L D Bs ns).net (layOf L D Bs ns).labs .src .snk f L.length → Q .non H'
theorem sc_Layers_init : FnScope ["self", "deal", "history", "begin", "reader", "tick", "bounds"] ["self", "deal", "history"] (defScope s_Layers_init) := ⟨rfl, rfl, rfl, by decide +kernel, rfl, by decide +kernel, by decide +kernel⟩
theorem ok_Layers_init (T : Txt K mg) : EntC P w K mg base CX0 5 "Layers" (He.ga K "Layers") ["self", "deal", "history"] (spLayersInit K) := by
  obtain ⟨fd, F⟩ := T.f_Layers_init
  have e_names_of := ok_names_of (P := P) (w := w) (base := base) T
  have e_loads_of := ok_loads_of (P := P) (w := w) (base := base) T
  have e_bound_of := ok_bound_of (P := P) (w := w) (base := base) T
  have em_Flow_fill := ok_Flow_fill (P := P) (w := w) (base := base) T
  have em_Flow_edge := ok_Flow_edge (P := P) (w := w) (base := base) T
  have em_Layers_layer := ok_Layers_layer (P := P) (w := w) (base := base) T
  have e_Flow := ok_Flow_init (P := P) (w := w) (base := base) T
  refine EntC.mk' T.g_Layers T.k_Layers F (FunD.ok0 F sc_Layers_init (fun vs H Q E h => ?_) (fun cdv A outer s H vs Q E hr h => ?_)) (fun _ _ _ _ _ _ us hl => match us, hl with | [_, _, _], _ => rfl)
  · obtain ⟨x, dx, d, h, U, L, D, Bs, rfl, hx, hd, hh, ok, can, q⟩ := h
    rfl
  · obtain ⟨x, dx, d, h, U, L, D, Bs, rfl, hx, hd, hh, ok, can, q⟩ := h
    refine ⟨_, (pss_cons (ps_fld (pv 0) (pe_e e_names_of (hr.mono (by decide)) pass0 (pa_cons (pv 1) (pa_cons (pv 2) pa_nil))) rfl)
      (pss_cons (ps_fld (pv 0) (pv 2) rfl)
      (pss_cons (ps_fld (pv 0) (pe_callB call_lenD (by rfl) T.n_len PySem.boot_len (pa_cons (pv 1) pa_nil)) rfl)
      (pss_cons (ps_fld (pv 0) (pe_ec e_Flow (hr.mono (by decide)) pass0 (pa_cons (pe_fldK (K := K) rfl (pv 0) rfl) pa_nil)) rfl)
      (pss_cons (ps_fld (pv 0) (pe_op op_add (pe_op op_mul (pe_callB (call_lenK (K := K) rfl) (by rfl) T.n_len PySem.boot_len (pa_cons (pv 2) pa_nil)) (pe_fldK (K := K) rfl (pv 0) rfl)) pe_int) rfl)
      (pss_cons (ps_set (i := 3) sc_Layers_init.nd rfl (Or.inl rfl) (pe_e e_loads_of (hr.mono (by decide)) pass0 (pa_cons (pv 1) (pa_cons (pe_fldK (K := K) rfl (pv 0) rfl) pa_nil))))
      (pss_cons (ps_for PassesOwn.never rfl (pi_listK (K := K) rfl (pe_fldK (K := K) rfl (pv 0) rfl)) (pg_name (i := 4) sc_Layers_init.nd rfl (Or.inl rfl)) (pss_one (ps_expr (pe_em em_Flow_edge T.c_Flow (pe_fldK (K := K) rfl (pv 0) rfl) (hr.mono (by decide)) pass0 (pa_cons (pe_tup (pa_cons pe_str pa_nil)) (pa_cons (pe_tup (pa_cons pe_str (pa_cons pe_int (pa_cons (pv 4) pa_nil)))) (pa_cons pe_int (pa_cons (pe_dget (hu_of hr) (pv 3) (pv 4) (fun _ _ => rfl)) (pa_cons pe_int pa_nil)))))))))
      (pss_cons (ps_for PassesOwn.never rfl (pi_enum1K (K := K) rfl rfl T.n_enumerate (pa_cons (pv 2) (pa_cons pe_int pa_nil))) (pg_tup rfl (pgs_cons (pg_name (i := 5) sc_Layers_init.nd rfl (Or.inl rfl)) (pgs_cons (pg_name (i := 6) sc_Layers_init.nd rfl (Or.inl rfl)) pgs_nil))) (pss_one (ps_for PassesOwn.never rfl (pi_listK (K := K) rfl (pe_fldK (K := K) rfl (pv 0) rfl)) (pg_name (i := 4) sc_Layers_init.nd rfl (Or.inl rfl)) (pss_one (ps_expr (pe_em em_Layers_layer T.c_Layers (pv 0) (hr.mono (by decide)) pass0 (pa_cons (pv 5) (pa_cons (pv 4) (pa_cons (pe_e e_bound_of (hr.mono (by decide)) pass0 (pa_cons (pv 6) (pa_cons (pv 4) pa_nil))) pa_nil)))))))))
      (pss_cons (ps_for PassesOwn.never rfl (pi_listK (K := K) rfl (pe_fldK (K := K) rfl (pv 0) rfl)) (pg_name (i := 4) sc_Layers_init.nd rfl (Or.inl rfl)) (pss_one (ps_expr (pe_em em_Flow_edge T.c_Flow (pe_fldK (K := K) rfl (pv 0) rfl) (hr.mono (by decide)) pass0 (pa_cons (pe_tup (pa_cons pe_str (pa_cons (pe_callB (call_lenK (K := K) rfl) (by rfl) T.n_len PySem.boot_len (pa_cons (pv 2) pa_nil)) (pa_cons (pv 4) pa_nil)))) (pa_cons (pe_tup (pa_cons pe_str pa_nil)) (pa_cons pe_int (pa_cons (pe_fldK (K := K) rfl (pv 0) rfl) (pa_cons pe_int pa_nil)))))))))
      (pss_one (ps_expr (pe_em em_Flow_fill T.c_Flow (pe_fldK (K := K) rfl (pv 0) rfl) (hr.mono (by decide)) pass0 (pa_cons (pe_tup (pa_cons pe_str pa_nil)) (pa_cons (pe_tup (pa_cons pe_str pa_nil)) (pa_cons (pe_fldK (K := K) rfl (pv 0) rfl) pa_nil))))))))))))))), ?_⟩
    have ndx : d ≠ x := fun e => by
      have hd : H d = some (.dK _) := hd
      rw [e, hx] at hd; cases hd
    obtain ⟨as, hh1, hh2⟩ := id hh
    have lenB : as.length = Bs.length := Paired.length hh2
    have nhx : h ≠ x := fun e => by rw [e, hx] at hh1; cases hh1
    have l20 := ok.l
    have b12 := ok.b2
    refine ⟨_, rfl, _, rfl, d, h, U, L, D, Bs, rfl, hd, hh, ok, fun p1 H1 ns hp1 e1 hn h1 => ?_⟩
    have n1x : p1 ≠ x := fresh_ne hx hp1
    have ok' := layOf_ok ok hn
    refine ⟨_, rfl, x, _, dx, _, rfl, e1 _ _ hx, T.c_Layers, T.a_Layers_names, (of_decide_eq_true (by rfl)), ?_⟩
    refine ⟨_, rfl, _, rfl, x, _, dx, _, rfl, upd_same, T.c_Layers, T.a_Layers_history, (of_decide_eq_true (by rfl)), ?_⟩
    refine ⟨_, rfl, d, _, rfl, (upd_ne ndx).trans ((upd_ne ndx).trans (e1 _ _ hd)), _, rfl, x, _, dx, _, rfl, upd_same, T.c_Layers, T.a_Layers_many, (of_decide_eq_true (by rfl)), ?_⟩
    rw [kd_len]
    refine ⟨_, rfl, x, _, dx, _, _, rfl, upd_same, T.c_Layers, T.a_Layers_many, rfl, fun fl fdx hfl hfdx hne => ?_⟩
    have nflx : fl ≠ x := fun e => by rw [e, upd_same] at hfl; cases hfl
    have nfdx : fdx ≠ x := fun e => by rw [e, upd_same] at hfdx; cases hfdx
    refine ⟨fl, fdx, (L.length : Int), rfl, upd_same, fun H4 el nd hel hnd hneq eb4 o4 hel4 hnd4 => ⟨rfl, ?_⟩⟩
    have x4 := mk_ex hfl hfdx eb4
    generalize hA3 : upd (upd (upd H1 x _) x _) x _ = A3 at hfl hfdx eb4 hel hnd x4
    have f3 : ∀ b o, b ≠ x → H1 b = some o → A3 b = some o := fun b o hb h => by rw [← hA3, upd_ne hb, upd_ne hb, upd_ne hb]; exact h
    have hx4 : H4 x = some (.ins (He.ga K "Layers") dx [("names", .ref p1), ("history", .ref h), ("many", .int L.length)]) := x4 _ _ (by rw [← hA3]; exact upd_same)
    have eb14 : ExB x H H4 := fun b o hb hq => x4 _ _ (f3 b o hb (e1 _ _ hq))
    have h14 : H4 p1 = some (.lst (ns.map V.str)) := x4 _ _ (f3 _ _ n1x h1)
    have hel0 : H el = none := by
      cases q9 : H el with
      | none => rfl
      | some o =>
        exfalso
        by_cases ex : el = x
        · rw [ex, hx4] at hel4; cases hel4
        · have hA : A3 el = some o := f3 _ _ ex (e1 _ _ q9)
          have nfl : el ≠ fl := fun e => by rw [e, hfl] at hA; cases hA
          have nfd : el ≠ fdx := fun e => by rw [e, hfdx] at hA; cases hA
          rw [upd_ne nfl, upd_ne nfd, hA] at hel
          cases hel
    have hnd0 : H nd = none := by
      cases q9 : H nd with
      | none => rfl
      | some o =>
        exfalso
        by_cases ex : nd = x
        · rw [ex, hx4] at hnd4; cases hnd4
        · have hA : A3 nd = some o := f3 _ _ ex (e1 _ _ q9)
          have nfl : nd ≠ fl := fun e => by rw [e, hfl] at hA; cases hA
          have nfd : nd ≠ fdx := fun e => by rw [e, hfdx] at hA; cases hA
          rw [upd_ne nfl, upd_ne nfd, hA] at hnd
          cases hnd
    refine ⟨_, rfl, x, _, dx, _, rfl, hx4, T.c_Layers, T.a_Layers_flow, (of_decide_eq_true (by rfl)), ?_⟩
    refine ⟨_, rfl, _, _, rfl, lenL (sql ((upd_ne nhx).trans (eb14 _ _ nhx hh1))), ?_⟩
    refine ⟨_, rfl, x, _, dx, _, _, rfl, upd_same, T.c_Layers, T.a_Layers_many, rfl, _, _, rfl, rfl, .inl ⟨by omega, by rw [List.length_map, lenB]; omega⟩, _, _, rfl, rfl, ?_⟩
    refine ⟨_, rfl, x, _, dx, _, rfl, upd_same, T.c_Layers, T.a_Layers_big, (of_decide_eq_true (by rfl)), ?_⟩
    have n1el : p1 ≠ el := fun e => by
      have hA : A3 p1 = _ := f3 _ _ n1x h1
      have nfl : p1 ≠ fl := (fresh_ne hA hfl).symm
      have nfd : p1 ≠ fdx := (fresh_ne hA hfdx).symm
      rw [← e, upd_ne nfl, upd_ne nfd, hA] at hel
      cases hel
    have b5 : Bld K H (layOf L D Bs ns) x dx p1 h fl fdx el nd [] (upd (upd H4 x (.ins (He.ga K "Layers") dx (putF "flow" (.ref fl) [("names", .ref p1), ("history", .ref h), ("many", .int L.length)]))) x (.ins (He.ga K "Layers") dx (putF "big" (.int (((as.map V.ref).length : Int) * (L.length : Int) + 1)) (putF "flow" (.ref fl) [("names", .ref p1), ("history", .ref h), ("many", .int L.length)])))) := by
      have nex : el ≠ x := fun e => by rw [e, hx4] at hel4; cases hel4
      have nnx : nd ≠ x := fun e => by rw [e, hx4] at hnd4; cases hnd4
      refine ⟨fun b o hb hq => (upd_ne hb).trans ((upd_ne hb).trans (eb14 b o hb hq)), upd_same.trans ?_, (upd_ne n1x).trans ((upd_ne n1x).trans h14), ⟨fun _ => x, ⟨(upd_ne nflx).trans ((upd_ne nflx).trans o4), (upd_ne nex).trans ((upd_ne nex).trans hel4), (upd_ne nnx).trans ((upd_ne nnx).trans hnd4), fun i hi => (by cases hi), fun i hi => (by cases hi), fun i hi => (by cases hi)⟩, fun i hi => (by cases hi)⟩, hel0, hnd0, ?_⟩
      · rw [List.length_map, lenB]
        rfl
      · exact ⟨n1el, fun e => by rw [e, hnd4] at h14; cases h14⟩
    generalize upd (upd H4 x _) x _ = A5 at b5
    have hx0 : H x ≠ none := fun e => by rw [hx] at e; cases e
    have hDn : ∀ l ∈ L, D l ∈ ns := fun l hl => (hn.2.1 _).mpr (.inl ⟨l, hl, rfl⟩)
    have n20 := hn.2.2
    have nsw : ∀ r ∈ ns, PyData.strOk r = true := fun r hr => by
      refine isW_strOk ?_
      rcases (hn.2.1 r).mp hr with ⟨l, hl, rfl⟩ | ⟨B, hB, hr⟩
      · exact ok.dl.v l hl
      · exact (ok.bo B hB).w r hr
    refine ⟨_, rfl, _, rfl, x, _, dx, _, _, rfl, b5.bo, T.c_Layers, T.a_Layers_names, rfl, d, p1, L, D, ns, rfl, b5.eb _ _ ndx hd, by omega, hn.1, by omega, hDn, .inl (sql b5.bn), fun pb H6 hpb e6 hb6 => ?_⟩
    have b6 := b5.ex e6
    have hpbH : H pb = none := by
      cases q9 : H pb with
      | none => rfl
      | some o =>
        exfalso
        by_cases ex : pb = x
        · have := b5.bo
          unfold LayO at this
          rw [ex, this] at hpb; cases hpb
        · rw [b5.eb _ o ex q9] at hpb; cases hpb
    -- the sources
    have c1 : ∃ E, FlowAt K H6 fl fdx el nd E (layOf L D Bs ns).net [] (fun _ => 0) L.length := ⟨_, (Classical.choose_spec b6.bf).1⟩
    obtain ⟨Ec, hEc⟩ := c1
    have npb : pb ≠ el ∧ pb ≠ nd := hEc.nel hb6 (fun _ h => by cases h) (fun _ h => by cases h)
    dsimp only [tSeq_ap, tAsg_ap, gName_ap, tC_ap, tNext_ap, tRet_ap, tAndV_ap, tCB_ap, tCons_ap, tNil_ap, tB_ap, tTest_ap, tNot_ap, tOr_ap, tAnd_ap, tIfS_ap, tOp_ap, tDrop_ap]
    refine forlF (sql b6.bn) (fun Q' q' => ⟨_, rfl, x, _, dx, _, _, rfl, b6.bo, T.c_Layers, T.a_Layers_names, rfl, q'⟩) (fun i σ' H' => (∃ x4 x5 x6, σ' = [some (V.ref x), some (.ref d), some (.ref h), some (.ref pb), x4, x5, x6]) ∧ Bld K H (layOf L D Bs ns) x dx p1 h fl fdx el nd (stage1 ns i) H' ∧ IntD H' pb ns (cntI D L))
      ⟨⟨_, _, _, rfl⟩, b6, hb6⟩ (fun i σ' H' pv => sql pv.2.1.bn) (fun i v σ' H' hv pv => ?_) fun σ' H' pv => ?_
    · obtain ⟨⟨x4, x5, x6, rfl⟩, bl, hpb'⟩ := pv
      rw [List.getElem?_map] at hv
      cases hz : ns[i]? with
      | none => rw [show (layOf L D Bs ns).names = ns from rfl, hz] at hv; cases hv
      | some r =>
      rw [show (layOf L D Bs ns).names = ns from rfl, hz] at hv
      cases hv
      obtain ⟨E0, hf0, hfr0⟩ := bl.bf
      refine ⟨_, rfl, x, _, dx, _, _, rfl, bl.bo, T.c_Layers, T.a_Layers_flow, rfl, fl, fdx, _, rfl, hf0.o, rfl, ?_⟩
      refine ⟨by show 1 ≤ sizeLine; rw [sizeLine_eq]; omega, fun t1 ht1 => ?_⟩
      refine ⟨_, rfl, le3, fun t2 ht2 => ?_⟩
      obtain ⟨y12, hB1, hE1⟩ := two_tup (ys := [.str "out", .int 0, .str r]) ht1 ht2
      generalize upd (upd H' t1 (.tup [.str "source"])) t2 (.tup [.str "out", .int 0, .str r]) = H7 at y12 hB1 hE1
      refine ⟨_, rfl, _, rfl, pb, _, rfl, gk (.inl (y12 _ _ hpb')) (mem_of_at hz), ?_⟩
      have len1 : (stage1 ns i).length ≤ 20 := by unfold stage1; rw [List.length_map, List.length_take]; omega
      refine ⟨(layOf L D Bs ns).net, fl, fdx, el, nd, t1, t2, E0, stage1 ns i, L.length, .src r, rfl, hf0.ex y12, hB1, hE1, src_new hn.1 hz, trivial, nsw r (mem_of_at hz), by omega, fun H8 E8 f8 s8 z8 hf8 => ?_⟩
      have bl2 := (bl.ex y12).step (hf0.ex y12) hfr0 hx0 f8 s8 (fun j hj => by rw [List.mem_singleton] at hj; rw [hj]; exact z8) hf8
      rw [← stage1_succ hz] at bl2
      exact ⟨⟨_, _, _, rfl⟩, bl2, f8 _ _ npb.1 npb.2 (y12 _ _ hpb')⟩
    obtain ⟨⟨x4, x5, x6, rfl⟩, bl, hpb'⟩ := pv
    rw [List.length_map, show (layOf L D Bs ns).names = ns from rfl, ← stage2_zero] at bl
    -- the ticks
    have len2 : ∀ i j, i ≤ 12 → (stage2 ns i j).length ≤ 2000 := fun i j hi => by
      unfold stage2
      rw [List.length_append, List.length_append, List.length_map, flatT_len, flat4_len, List.length_take]
      have : i * (4 * ns.length) ≤ 12 * (4 * ns.length) := Nat.mul_le_mul_right _ hi
      omega
    have hhE : ∀ {ls H'}, Bld K H (layOf L D Bs ns) x dx p1 h fl fdx el nd ls H' → H' h = some (.lst (as.map V.ref)) := fun b => b.eb _ _ nhx hh1
    have hBE : ∀ {ls H'}, Bld K H (layOf L D Bs ns) x dx p1 h fl fdx el nd ls H' → Paired (fun a B => BndAt H' a B) as Bs := fun {ls H'} b => Paired.mapP hh2 fun a B hB => by
      obtain ⟨V0, g1, g2⟩ := hB
      refine ⟨V0, b.eb _ _ (fun e => by have g1 : H a = some (.dK _) := g1; rw [e, hx] at g1; cases g1) g1, fun r hr => b.eb _ _ (fun e => by have := g2 r hr; rw [e, hx] at this; cases this) (g2 r hr)⟩
    refine ⟨_, rfl, h, _, rfl, sql (hhE bl), ?_⟩
    refine for_src (Src.enum1 (G := fun b => if b = h then some (.lst (as.map V.ref)) else none) (sql (if_pos rfl))) (fun i σ' H' => (∃ x4 x5 x6, σ' = [some (V.ref x), some (.ref d), some (.ref h), some (.ref pb), x4, x5, x6]) ∧ Bld K H (layOf L D Bs ns) x dx p1 h fl fdx el nd (stage2 ns i 0) H')
      ⟨⟨_, _, _, rfl⟩, bl⟩ (fun i σ' H' pv b o hb => ?_) (fun i v σ' H' H7 hi pv e7 y => ?_) fun σ' H' pv => ?_
    · have hb : (if b = h then some (HO.lst (as.map V.ref)) else none) = some o := hb
      by_cases q : b = h
      · subst q
        rw [if_pos rfl] at hb
        cases hb
        exact hhE pv.2
      · rw [if_neg q] at hb
        cases hb
    · obtain ⟨⟨x4, x5, x6, rfl⟩, bl⟩ := pv
      obtain ⟨Tt, v1, hv1, rfl, hT⟩ := y
      rw [List.getElem?_map] at hv1
      cases hz : as[i]? with
      | none => rw [hz] at hv1; cases hv1
      | some a =>
      rw [hz] at hv1
      cases hv1
      have bl7 := bl.ex e7
      obtain ⟨B, hB, _⟩ := paired_at (hBE bl7) hz
      have hi12 : i < Bs.length := (List.getElem?_eq_some_iff.mp hB).1
      refine ⟨Tt, _, rfl, sqt hT, rfl, _, _, rfl, _, _, rfl, rfl, ?_⟩
      refine forlF (sql bl7.bn) (fun Q' q' => ⟨_, rfl, x, _, dx, _, _, rfl, bl7.bo, T.c_Layers, T.a_Layers_names, rfl, q'⟩) (fun j σ' H' => (∃ x4, σ' = [some (V.ref x), some (.ref d), some (.ref h), some (.ref pb), x4, some (.int ((i + 1 : Nat) : Int)), some (.ref a)]) ∧ Bld K H (layOf L D Bs ns) x dx p1 h fl fdx el nd (stage2 ns i j) H')
        ⟨⟨_, rfl⟩, bl7⟩ (fun i σ' H' pv => sql pv.2.bn) (fun j v σ' H' hv pv => ?_) fun σ' H' pv => ?_
      · obtain ⟨⟨x4, rfl⟩, bl⟩ := pv
        rw [List.getElem?_map] at hv
        cases hz2 : ns[j]? with
        | none => rw [show (layOf L D Bs ns).names = ns from rfl, hz2] at hv; cases hv
        | some r =>
        rw [show (layOf L D Bs ns).names = ns from rfl, hz2] at hv
        cases hv
        obtain ⟨B2, hB2, hBa⟩ := paired_at (hBE bl) hz
        refine ⟨_, rfl, x, dx, _, rfl, bl.bo, rfl, _, rfl, _, rfl, _, rfl, _, rfl, a, r, B2, rfl, hBa, fun pt H8 e8 hpt => ?_⟩
        have bl8 := bl.ex e8
        obtain ⟨E0, hf0, hfr0⟩ := bl8.bf
        have hlm : (layOf L D Bs ns).lim i r = (B2.low r, B2.high r) := by
          show ((Bs.getD i default).low r, (Bs.getD i default).high r) = _
          rw [getD_of hB2]
        refine ⟨layOf L D Bs ns, x, dx, p1, h, fl, fdx, el, nd, pt, E0, stage2 ns i j, i, r, rfl, bl8.bo, hf0, by rw [hlm]; exact hpt, lab4_new hn.1 hz2, nsw r (mem_of_at hz2), by have := len2 i j (by omega); omega, fun H9 E9 f9 s9 z9 hf9 => ?_⟩
        have bl9 := bl8.step hf0 hfr0 hx0 f9 s9 z9 hf9
        rw [← stage2_succ hz2] at bl9
        exact ⟨⟨_, rfl⟩, bl9⟩
      · obtain ⟨⟨x4, rfl⟩, bl⟩ := pv
        rw [List.length_map, show (layOf L D Bs ns).names = ns from rfl, stage2_next] at bl
        exact ⟨⟨_, _, _, rfl⟩, bl⟩
    obtain ⟨⟨x4, x5, x6, rfl⟩, bl⟩ := pv
    rw [List.length_map, lenB, stage3_zero] at bl
    -- the sinks
    have len3 : ∀ i, (stage3 ns Bs.length i).length ≤ 2000 := fun i => by
      unfold stage3
      rw [List.length_append, List.length_append, List.length_map, flatT_len, List.length_map, List.length_take]
      have : Bs.length * (4 * ns.length) ≤ 12 * (4 * ns.length) := Nat.mul_le_mul_right _ b12
      omega
    dsimp only [tSeq_ap, tAsg_ap, gName_ap, tC_ap, tNext_ap, tRet_ap, tAndV_ap, tCB_ap, tCons_ap, tNil_ap, tB_ap, tTest_ap, tNot_ap, tOr_ap, tAnd_ap, tIfS_ap, tOp_ap, tDrop_ap]
    refine forlF (sql bl.bn) (fun Q' q' => ⟨_, rfl, x, _, dx, _, _, rfl, bl.bo, T.c_Layers, T.a_Layers_names, rfl, q'⟩) (fun i σ' H' => (∃ x4 x5 x6, σ' = [some (V.ref x), some (.ref d), some (.ref h), some (.ref pb), x4, x5, x6]) ∧ Bld K H (layOf L D Bs ns) x dx p1 h fl fdx el nd (stage3 ns Bs.length i) H')
      ⟨⟨_, _, _, rfl⟩, bl⟩ (fun i σ' H' pv => sql pv.2.bn) (fun i v σ' H' hv pv => ?_) fun σ' H' pv => ?_
    · obtain ⟨⟨x4, x5, x6, rfl⟩, bl⟩ := pv
      rw [List.getElem?_map] at hv
      cases hz : ns[i]? with
      | none => rw [show (layOf L D Bs ns).names = ns from rfl, hz] at hv; cases hv
      | some r =>
      rw [show (layOf L D Bs ns).names = ns from rfl, hz] at hv
      cases hv
      obtain ⟨E0, hf0, hfr0⟩ := bl.bf
      refine ⟨_, rfl, x, _, dx, _, _, rfl, bl.bo, T.c_Layers, T.a_Layers_flow, rfl, fl, fdx, _, rfl, hf0.o, rfl, ?_⟩
      refine ⟨_, rfl, _, _, rfl, lenL (sql (hhE bl)), _, rfl, le3, fun t1 ht1 => ?_⟩
      refine ⟨by show 1 ≤ sizeLine; rw [sizeLine_eq]; omega, fun t2 ht2 => ?_⟩
      obtain ⟨y12, hB1, hE1⟩ := two_tup (ys := [.str "sink"]) ht1 ht2
      generalize upd (upd H' t1 _) t2 (.tup [.str "sink"]) = H7 at y12 hB1 hE1
      rw [List.length_map, lenB] at hB1
      refine ⟨_, rfl, x, _, dx, _, _, rfl, (bl.ex y12).bo, T.c_Layers, T.a_Layers_many, rfl, ?_⟩
      refine ⟨(layOf L D Bs ns).net, fl, fdx, el, nd, t1, t2, E0, stage3 ns Bs.length i, L.length, .snk r, rfl, hf0.ex y12, hB1, hE1, snk_new hn.1 hz, nsw r (mem_of_at hz), trivial, by have := len3 i; omega, fun H8 E8 f8 s8 z8 hf8 => ?_⟩
      have bl2 := (bl.ex y12).step (hf0.ex y12) hfr0 hx0 f8 s8 (fun j hj => by rw [List.mem_singleton] at hj; rw [hj]; exact z8) hf8
      rw [← stage3_succ hz] at bl2
      exact ⟨⟨_, _, _, rfl⟩, bl2⟩
    obtain ⟨⟨x4, x5, x6, rfl⟩, bl⟩ := pv
    rw [List.length_map, show (layOf L D Bs ns).names = ns from rfl, stage3_all L D Bs ns] at bl
    -- filled
    obtain ⟨E0, hf0, hfr0⟩ := bl.bf
    obtain ⟨ld, hld⟩ := layOf_loads ok hn can
    refine ⟨_, rfl, x, _, dx, _, _, rfl, bl.bo, T.c_Layers, T.a_Layers_flow, rfl, fl, fdx, _, rfl, hf0.o, rfl, ?_⟩
    refine ⟨by show 1 ≤ sizeLine; rw [sizeLine_eq]; omega, fun t1 ht1 => ?_⟩
    refine ⟨by show 1 ≤ sizeLine; rw [sizeLine_eq]; omega, fun t2 ht2 => ?_⟩
    obtain ⟨y12, hB1, hE1⟩ := two_tup (ys := [.str "sink"]) ht1 ht2
    generalize upd (upd H' t1 _) t2 (.tup [.str "sink"]) = H7 at y12 hB1 hE1
    have bl7 := bl.ex y12
    refine ⟨_, rfl, x, _, dx, _, _, rfl, bl7.bo, T.c_Layers, T.a_Layers_big, rfl, ?_⟩
    have hlen : (layOf L D Bs ns).labs.length ≤ 2000 := by rw [← stage3_all L D Bs ns]; exact len3 _
    refine ⟨(layOf L D Bs ns).net, fl, fdx, el, nd, t1, t2, E0, (layOf L D Bs ns).labs, _, L.length, rfl, hf0.ex y12, hB1, hE1, hlen, ok'.labs_nodup, by omega, ok'.big0, ok'.start, hld.plan ok', ok'.net_lo, fun H9 f ee hf9 W => ?_⟩
    have nE : ∀ {b o}, H b = some o → ∀ i ∈ (layOf L D Bs ns).labs, E0 i ≠ b := fun {b o} hb i hi e => by rw [← e, hfr0 i hi] at hb; cases hb
    have fl7 := hf0.ex y12
    have kx : ∀ i ∈ (layOf L D Bs ns).labs, E0 i ≠ x := fun i hi e => by
      have := hfr0 i hi
      rw [e] at this
      exact hx0 this
    have kn : ∀ i ∈ (layOf L D Bs ns).labs, E0 i ≠ p1 := fun i hi e => by
      obtain ⟨_, _, _, g1, _⟩ := fl7.at_ i hi
      rw [e, bl7.bn] at g1
      cases g1
    refine q H9 ns f (fun b o hb hq => ee b o (fun i hi => nE hq i hi) (bl7.eb b o hb hq)) hn ⟨dx, p1, h, fl, fdx, el, nd, E0, ee _ _ kx bl7.bo, ee _ _ kn bl7.bn, ⟨as, ee _ _ (nE hh1) (hhE bl7), lenB⟩, hf9⟩ W
end
end K55


set_option Elab.async false
set_option linter.all false
set_option maxRecDepth 100000
set_option maxHeartbeats 4000000
namespace K55
open PySem PySem.Spec PyProof.Rows L2 Evl
open K55M (Nd Lb Net Arc Lay FlowOk Plan lab4 su lf mem_labs)
theorem LayAt.ex {K : PySem.W.Frag} {H H' : Hp} {x : Addr} {Y : LY} {f : LB → Int} (h : LayAt K H x Y f) (e : Ex H H') : LayAt K H' x Y f := by
  obtain ⟨dx, n, h', fl, fdx, el, nd, E, h1, h2, ⟨as, h3, h4⟩, h5⟩ := h
  exact ⟨dx, n, h', fl, fdx, el, nd, E, e _ _ h1, e _ _ h2, ⟨as, e _ _ h3, h4⟩, h5.ex e⟩
theorem thr_io {Y : LY} (O : Y.Ok) (f : LB → Int) {t : Nat} {r : Str} (ht : t < Y.T) (hr : r ∈ Y.names) : thr Y.net Y.labs f (.inn (t + 1) r) (.out (t + 1) r) = lf Y f (t + 1) r := by
  have hm : (Lb.io (t + 1) r) ∈ Y.labs := (mem_labs _).mpr ⟨by omega, by omega, hr⟩
  have e1 := K55M.su_one_of Y.labs O.labs_nodup (.io (t + 1) r) hm f
  show _ = f (.io (t + 1) r)
  rw [← e1]
  unfold thr
  have key : ∀ ls : List LB, (ls.filter fun i => decide (Y.net.bg i = .inn (t + 1) r) && decide (Y.net.en i = .out (t + 1) r)) = ls.filter fun i => decide (i = .io (t + 1) r) := fun ls => by
    refine List.filter_congr fun i _ => ?_
    cases i with
    | io s q =>
      simp only [K55M.Lay.net, Nd.inn.injEq, Nd.out.injEq, Lb.io.injEq]
      by_cases h : s = t + 1 ∧ q = r <;> simp [h]
    | _ => simp [K55M.Lay.net]
  rw [key]
  generalize Y.labs = ls
  induction ls with
  | nil => rfl
  | cons a ls ih =>
    rw [K55M.su_cons, List.filter_cons]
    by_cases h : a = .io (t + 1) r
    · rw [if_pos (decide_eq_true h), if_pos h, List.map_cons, List.sum_cons, ih]
    · rw [if_neg (by rw [decide_eq_true_eq]; exact h), if_neg h, ih]; omega
theorem Lay_labs_len {Y : LY} : Y.labs.length = Y.names.length + Y.T * (4 * Y.names.length) + Y.names.length := by
  unfold K55M.Lay.labs
  rw [List.length_append, List.length_append, List.length_map, List.length_map, flatT_len]
section
variable {P : Program} {w : World} {K : PySem.W.Frag} {mg : Str → Option Value} {base : Heap}
/-! ### Layers.loads -/
def spLayersLoads (K : PySem.W.Frag) : Sp := fun vs H Q _ => ∃ (x : Addr) (Y : LY) (f : LB → Int) (t : Nat), vs = [.ref x, .int ((t : Int) + 1)] ∧ LayAt K H x Y f ∧ Y.Ok ∧ t < Y.T ∧ (∀ r ∈ Y.names, PyData.strOk r = true) ∧ Y.labs.length ≤ 5000 ∧
  ∀ p H', H p = none → Ex H H' → IntD H' p Y.names (lf Y f (t + 1)) → Q (.ref p) H'
theorem sc_Layers_loads : FnScope ["self", "tick", "reader"] ["self", "tick"] (defScope s_Layers_loads) := ⟨rfl, rfl, rfl, by decide +kernel, rfl, by decide +kernel, by decide +kernel⟩
theorem ok_Layers_loads (T : Txt K mg) : EntM P w K mg base CX0 2 (He.ga K "Layers") "loads" ["self", "tick"] (spLayersLoads K) := by
  obtain ⟨fd, F⟩ := T.f_Layers_loads
  have em_Flow_through := ok_Flow_through (P := P) (w := w) (base := base) T
  refine EntM.mk' T.m_Layers_loads F (FunD.ok0 F sc_Layers_loads (fun vs H Q E h => ?_) (fun cdv A outer s H vs Q E hr h => ?_)) (fun _ _ _ _ _ _ us hl => match us, hl with | [_, _], _ => rfl)
  · obtain ⟨x, Y, f, t, rfl, hl, ok, ht, hs, n5, q⟩ := h
    rfl
  · obtain ⟨x, Y, f, t, rfl, hl, ok, ht, hs, n5, q⟩ := h
    refine ⟨_, (pss_one (ps_ret (pe_dc (own := [("reader", 2)]) (g := gName 2) (tt := tYes) rfl sc_Layers_loads.nd (pi_listK (K := K) rfl (pe_fldK (K := K) rfl (pv 0) rfl)) (blkOk_by (N := ["self", "tick", "reader"]) (sc := defScope s_Layers_loads) (by decide +kernel)) (fun _ _ _ _ _ => (pg_name (i := 2) sc_Layers_loads.nd rfl (Or.inl rfl))) (fun _ _ _ _ _ => pts_nil) (fun _ _ _ _ _ => (pv 2)) (fun _ _ _ _ _ => (pe_em em_Flow_through T.c_Flow (pe_fldK (K := K) rfl (pv 0) rfl) (hr.mono (by decide)) pass0 (pa_cons (pe_tup (pa_cons pe_str (pa_cons (pv 1) (pa_cons (pv 2) pa_nil)))) (pa_cons (pe_tup (pa_cons pe_str (pa_cons (pv 1) (pa_cons (pv 2) pa_nil)))) pa_nil))))))), ?_⟩
    obtain ⟨dx, n, h, fl, fdx, el, nd, E', h1, h2, ⟨as, h3, h4⟩, h5⟩ := hl
    dsimp only [tSeq_ap, tAsg_ap, gName_ap, tC_ap, tNext_ap, tRet_ap, tAndV_ap, tCB_ap, tCons_ap, tNil_ap, tB_ap, tTest_ap, tNot_ap, tOr_ap, tAnd_ap, tIfS_ap, tOp_ap, tDrop_ap]
    have hY := @Lay_labs_len Y
    refine dcsP (fun zs => zs = Y.names) (fun Q' q' => ⟨_, rfl, x, _, dx, _, _, rfl, h1, T.c_Layers, T.a_Layers_names, rfl, q' _ Y.names _ (Ex.refl _) (sql h2) rfl⟩) (fun zs e => e ▸ ok.nd) (fun zs e => by rw [e]; omega)
      (fun r => .int (lf Y f (t + 1) r)) (fun zs e r hr H1 e1 Q' q' => ⟨rfl, ?_⟩) fun p H2 zs e hp e2 h2' => ?_
    · rw [e] at hr
      have f1 := h5.ex e1
      refine ⟨_, rfl, _, rfl, x, _, dx, _, _, rfl, e1 _ _ h1, T.c_Layers, T.a_Layers_flow, rfl, fl, fdx, _, rfl, f1.o, rfl, ?_⟩
      refine ⟨_, rfl, _, rfl, le3, fun b1 hb1 => ?_⟩
      refine ⟨_, rfl, _, rfl, le3, fun b2 hb2 => ?_⟩
      obtain ⟨x12, hB1, hE1⟩ := two_tup (ys := [.str "out", .int ((t : Int) + 1), .str r]) hb1 hb2
      generalize upd (upd H1 b1 (.tup [.str "in", .int ((t : Int) + 1), .str r])) b2 (.tup [.str "out", .int ((t : Int) + 1), .str r]) = H3 at x12 hB1 hE1
      refine ⟨Y.net, fl, fdx, el, nd, b1, b2, E', Y.labs, f, Y.many, .inn (t + 1) r, .out (t + 1) r, rfl, f1.ex x12, hB1, hE1, hs r hr, hs r hr, n5, fun H4 e4 => ?_⟩
      rw [thr_io ok f ht hr]
      exact q' _ (x12.trans e4)
    · rw [e] at h2'
      exact q p H2 hp e2 h2'
/-! ### Layers.prices -/
def spLayersPrices (K : PySem.W.Frag) : Sp := fun vs H Q _ => ∃ (x : Addr) (Y : LY) (f : LB → Int), vs = [.ref x] ∧ LayAt K H x Y f ∧ Y.Ok ∧ FlowOk Y.net Y.labs .src .snk f Y.many ∧ (∀ i ∈ Y.labs, Y.net.lo i ≤ f i) ∧ 0 < Y.names.length ∧ Y.T ≤ 12 ∧ Y.labs.length ≤ 2000 ∧
  ∀ p H' (y : ND → Int), H p = none → Ex H H' → (∀ u v c, Y.net.arc Y.labs f u v c → y u ≤ y v + c) → y .snk = 0 → (∀ v, -12 ≤ y v ∧ y v ≤ 26) → H' p = some (.lst (((List.range Y.T).map fun t => - y (.hub (t + 1))).map V.int)) → Q (.ref p) H'
theorem sc_Layers_prices : FnScope ["self", "ways", "tick"] ["self"] (defScope s_Layers_prices) := ⟨rfl, rfl, rfl, by decide +kernel, rfl, by decide +kernel, by decide +kernel⟩
theorem ok_Layers_prices (T : Txt K mg) : EntM P w K mg base CX0 2 (He.ga K "Layers") "prices" ["self"] (spLayersPrices K) := by
  obtain ⟨fd, F⟩ := T.f_Layers_prices
  have em_Flow_distances := ok_Flow_distances (P := P) (w := w) (base := base) T
  refine EntM.mk' T.m_Layers_prices F (FunD.ok0 F sc_Layers_prices (fun vs H Q E h => ?_) (fun cdv A outer s H vs Q E hr h => ?_)) (fun _ _ _ _ _ _ us hl => match us, hl with | [_], _ => rfl)
  · obtain ⟨x, Y, f, rfl, hl, ok, W, lo, nn, t12, n2, q⟩ := h
    rfl
  · obtain ⟨x, Y, f, rfl, hl, ok, W, lo, nn, t12, n2, q⟩ := h
    refine ⟨_, (pss_cons (ps_set (i := 1) sc_Layers_prices.nd rfl (Or.inr rfl) (pe_em em_Flow_distances T.c_Flow (pe_fldK (K := K) rfl (pv 0) rfl) (hr.mono (by decide)) pass0 (pa_cons (pe_tup (pa_cons pe_str pa_nil)) (pa_cons (pe_op op_add (pe_op op_mul pe_int (pe_callB (call_lenK (K := K) rfl) (by rfl) T.n_len PySem.boot_len (pa_cons (pe_fldK (K := K) rfl (pv 0) rfl) pa_nil))) pe_int) pa_nil))))
      (pss_one (ps_ret (pe_lc (own := [("tick", 2)]) (g := gName 2) (tt := tYes) rfl sc_Layers_prices.nd (pi_range2 rfl T.n_range (pa_cons pe_int (pa_cons (pe_op op_add (pe_callB (call_lenK (K := K) rfl) (by rfl) T.n_len PySem.boot_len (pa_cons (pe_fldK (K := K) rfl (pv 0) rfl) pa_nil)) pe_int) pa_nil))) (blkOk_by (N := ["self", "ways", "tick"]) (sc := defScope s_Layers_prices) (by decide +kernel)) (fun _ _ _ _ _ => (pg_name (i := 2) sc_Layers_prices.nd rfl (Or.inl rfl))) (fun _ _ _ _ _ => pts_nil) (fun _ _ _ _ _ => (pe_un un_neg (pe_dget (hu_of hr) (pv 1) (pe_tup (pa_cons pe_str (pa_cons (pv 2) pa_nil))) (fun _ _ => rfl)))))))), ?_⟩
    obtain ⟨dx, n, h, fl, fdx, el, nd, E', h1, h2, ⟨as, h3, h4⟩, h5⟩ := hl
    have sn : (Nd.snk : ND) ∈ ndsOf Y.net Y.labs := by
      obtain ⟨r, hr⟩ : ∃ r, r ∈ Y.names := List.exists_mem_of_length_pos nn
      exact (mem_ndsOf _ _ _).mpr ⟨.snk r, (mem_labs _).mpr hr, .inr rfl⟩
    have tm := W.tame lo ok.net_lo K55M.net_pr (K55M.hubs Y) K55M.net_hubs
    refine ⟨_, rfl, x, _, dx, _, _, rfl, h1, T.c_Layers, T.a_Layers_flow, rfl, fl, fdx, _, rfl, h5.o, rfl, ?_⟩
    refine ⟨by show 1 ≤ sizeLine; rw [sizeLine_eq]; omega, fun b1 hb1 => ?_⟩
    have e1 : Ex H (upd H b1 (.tup [.str "sink"])) := Ex.new hb1
    generalize hH1 : upd H b1 (.tup [.str "sink"]) = H1 at e1
    have hb1' : NdAt H1 b1 .snk := by rw [← hH1]; exact upd_same
    dsimp only [tSeq_ap, tAsg_ap, gName_ap, tC_ap, tNext_ap, tRet_ap, tAndV_ap, tCB_ap, tCons_ap, tNil_ap, tB_ap, tTest_ap, tNot_ap, tOr_ap, tAnd_ap, tIfS_ap, tOp_ap, tDrop_ap]
    refine ⟨_, rfl, x, _, dx, _, _, rfl, e1 _ _ h1, T.c_Layers, T.a_Layers_history, rfl, ?_⟩
    refine ⟨_, _, rfl, lenL (sql (e1 _ _ h3)), _, _, rfl, rfl, .inl ⟨by omega, by omega⟩, _, _, rfl, rfl, ?_⟩
    have hT : (((as.map V.ref).length : Nat) : Int) = Y.T := by rw [List.length_map, h4]
    refine ⟨Y.net, fl, fdx, el, nd, b1, E', Y.labs, f, Y.many, _, K55M.hubs Y, rfl, h5.ex e1, hb1', n2, tm, ?_, sn, fun p1 H2 y hp1 e2 hk hA h0 hb => ?_⟩
    · rw [K55M.hubs_len, hT]; omega
    rw [K55M.hubs_len, hT] at hb
    have e12 := e1.trans e2
    refine ⟨_, rfl, x, _, dx, _, _, rfl, e12 _ _ h1, T.c_Layers, T.a_Layers_history, rfl, _, _, rfl, lenL (sql (e12 _ _ h3)), _, _, rfl, rfl, _, _, rfl, ⟨by omega, by omega, by rw [hT]; omega, by rw [hT]; omega⟩, fun D hD => ?_⟩
    have hn : ((((as.map V.ref).length : Nat) : Int) + 1 - 1).toNat = Y.T := by rw [hT]; omega
    rw [hn]
    have hpD : D ≠ p1 := fresh_ne hk hD
    refine lc_val (Src.range (G := H2) 1 Y.T) (Ex.refl _) hD (by omega) (fun _ => true) (fun t => .int (- y (.hub (t + 1)))) (fun t v H3 ht e3 yv Qy Qn q1 _ => ?_) fun H3 e3 h3' => ?_
    · subst yv
      refine ⟨rfl, ?_⟩
      unfold tYes
      refine iteT ?_
      rw [show (1 + (t : Int)) = ((t + 1 : Nat) : Int) by omega]
      obtain ⟨r, hr⟩ : ∃ r, r ∈ Y.names := List.exists_mem_of_length_pos nn
      have hm : (Nd.hub (t + 1) : ND) ∈ ndsOf Y.net Y.labs := (mem_ndsOf _ _ _).mpr ⟨.leave (t + 1) r, (mem_labs _).mpr ⟨by omega, by omega, hr⟩, .inr rfl⟩
      refine ⟨_, rfl, _, rfl, le2, fun b hb => ⟨p1, _, rfl, tk (v := .hub (t + 1)) (.inl (Ex.new hb _ _ (e3 _ _ hk))) (show NdAt _ _ _ from upd_same) hm, ⟨_, rfl, q1 rfl _ (Ex.new hb)⟩⟩⟩
    · refine q D H3 y (no_of e12 hD) (e12.trans e3) hA h0 (fun v => by have := hb v; omega) ?_
      rw [h3', List.filter_eq_self.mpr (fun _ _ => rfl), List.map_map]
      rfl
end
end K55


set_option Elab.async false
set_option linter.all false
set_option maxRecDepth 100000
set_option maxHeartbeats 4000000
namespace K55
open PySem PySem.Spec PyProof.Rows L2 Evl
/-! ### super().__init__('..') in an own exception's __init__ -/
section
variable {X : Cx} {pins : List (Addr × Obj)} {σ : L2.St} {H : Hp} {s : Shared} {E : Value → Shared → Prop}
theorem ld_name {i : Nat} {x : Str} {v : V} {Q : Value → Shared → Prop} (I : Inv X pins σ H s) (hN : X.N[i]? = some x) (hv : Vis X.env.scope x) (e : σ[i]? = some (some v)) (h : ∀ u, L2.RelV v u → Q u s) (hcd : (x == ("__classdict__" : Str)) = false := by decide) :
    wpAny (model X.prog X.w) X.A (loadName X.env x) Q E s := by
  obtain ⟨m, hn, hl⟩ := I.loc
  obtain ⟨u, r, l⟩ := hl i x v hN e hv
  have fin := h u r
  rcases l with ⟨hk, hm⟩ | ⟨hk, c, hc, hcell⟩
  · exact wpAny_loadName_local I.ok.kind hk hn hm fin
  · rcases hk with hk | hk
    · exact wpAny_loadName_cell I.ok.kind hk hc hcell fin
    · exact wpAny_loadName_free I.ok.kind hk hc hcell fin hcd
/-- what the written part says of such a def, of its class -/
structure SupF (X : Cx) (f cda D : Addr) (ar : Arg) : Prop where
  oc : OexC X.K D
  ks : X.env.kindOf "super" = some .globalImplicit
  kc : X.env.kindOf "__class__" = some .free
  fu : X.env.func = some f
  co : X.env.code = .ref cda
  fn : ∃ of fd, X.K.lookup f = some of ∧ of.data = .func fd ∧ (fd.params.posonlyargs ++ fd.params.args).head? = some ar
  cd : ∃ o vs file tf, X.K.lookup cda = some o ∧ o.data = .fields vs ∧ vs[2]? = some (.str file tf) ∧ ((X.prog.main.file : Str) == file) = true
  top : (X.prog.main.scope.names.lookup ("super" : Str)).isSome = false
  hm : X.mg "super" = none
  cls : (PySem.W.clsIn X.K D).isSome = true
  mro : PySem.W.mroIn X.K D (.ref D) = some true
  sub : PySem.W.subIn X.K (.ref D) (.type "ValueError") = some true
  op : PySem.W.nsIn X.K PySem.cStatics "thirdparty.any" = some none
  sup : PySem.W.ks_superIn X.K D D "__init__" = some (some (.builtin "ValueError.__init__"))
theorem super_first {f cda D a : Addr} {ar : Arg} {body : List Stmt} {p0 p1 p2 p3 pos : Pos} {msg : Str} {j : Nat} (S : SupF X f cda D ar) (I : Inv X pins σ H s) (hN0 : X.N[0]? = some ar.arg) (v0 : Vis X.env.scope ar.arg) (c0 : (ar.arg == ("__classdict__" : Str)) = false) (s0 : σ[0]? = some (some (.ref a)))
    {i : Nat} (hN1 : X.N[i]? = some ("__class__" : Str)) (v1 : Vis X.env.scope "__class__") (s1 : σ[i]? = some (some (.ref D))) (ha : H a = some (exo a D none)) {pl : Sem Bool}
    (he : eval (.Call (.Attribute (.Call (.Name "super" p0) [] [] p1) "__init__" p2) [.Constant (.str msg) j p3] [] pos) X.env = (do
      let ov ← attributeBase (.Call (.Name "super" p0) [] [] p1) "__init__" X.env (eval (.Call (.Name "super" p0) [] [] p1) X.env)
      standAt p2.atName
      let (f, first) ← holding [ov] (getMethod ov "__init__" pl)
      callWith pos f first (backTo pos (starEach [.Constant (.str msg) j p3] X.env)) [])) :
    PySem.wpAt (model X.prog X.w) X.A (.func body X.env) (eval (.Call (.Attribute (.Call (.Name "super" p0) [] [] p1) "__init__" p2) [.Constant (.str msg) j p3] [] pos) X.env) (fun _ s' => Inv X pins σ H s') E s := by
  obtain ⟨of, fd, hf, hfd, hp⟩ := S.fn
  obtain ⟨oc, vs, file, tf, hc, hcv, hvs, hfile⟩ := S.cd
  refine PySem.ks_wpAt_MethodCall ?_ he
  refine PySem.ks_wpAt_super_base S.ks S.kc (by decide) S.fu (I.kIn _ _ hf) hfd hp S.co (I.kIn _ _ hc) hcv hvs hfile S.top ?_
  obtain ⟨mb, b1, b2⟩ := I.mod.blt
  refine PySem.W.ks_loadName_global I.ok.kind S.ks (Calls.loadGlobal_builtin (by rw [I.ok.glob]; exact I.mod.glob.keeps I.bk) S.hm (by rw [I.ok.blt]; exact b1.keeps I.bk) ((b2 "super" (by decide)).trans (show bootBuiltins "super" = some (.type "super") by first | boot_by_name | rfl | kernel_rfl)) ⟨rfl, ?_⟩)
  refine ld_name I hN1 v1 s1 fun u ru => ?_
  obtain rfl : u = .ref D := ru
  refine ld_name I hN0 v0 s0 (fun u ru => ?_) c0
  obtain rfl : u = .ref a := ru
  obtain ⟨nm, q, N, bs, bm, sn, sub, ab, col, dd, k0, k1, k2, k3, k5, hC, hbm⟩ := S.oc.cls
  have hcl : PySem.W.clsIn X.K D = some { name := nm, bases := bs, mro := .ref D :: bm, ns := N, qualname := q, hasDict := true, slotNames := sn, subclasses := sub, abstract := ab, collection := col, hasDel := false } := by unfold PySem.W.clsIn; rw [hC] <;> rfl
  obtain ⟨t1, ho⟩ := exo_at I.hok ha
  obtain ⟨hp, g, d, t, os⟩ := s
  have IA : PySem.W.InstAt hp a { cls := .ref D, dict := none, data := .fields #[.ref t1, .none, .none, .none, .bool false, .none] } D none := ⟨ho, rfl, rfl, trivial⟩
  refine PySem.ks_wpAny_isType_cls (I.kIn _ _ hC) rfl ⟨rfl, ?_⟩
  refine PySem.ks_wpAny_call_super (I.kIn _ _ hC) rfl ho rfl (fun c e => by cases e) (PySem.W.looks_mroIn I.kIn S.mro) (fun h1 e1 k1' => ?_)
  have I1 : Inv X pins σ H ⟨h1, g, d, t, os⟩ := I.kept (t' := t) k1'
  have IA1 : PySem.W.InstAt h1 a { cls := .ref D, dict := none, data := .fields #[.ref t1, .none, .none, .none, .bool false, .none] } D none := ⟨k1' _ _ ho, rfl, rfl, trivial⟩
  have hsup := S.sup
  unfold PySem.W.ks_superIn at hsup
  rw [hcl, Option.bind_some] at hsup
  refine PySem.W.kxs_getMethod PySem.W.kxs_ValueError e1 (PySem.W.looks_opaque I1.kIn S.op) (l₀ := .ref D :: bm) (fun A Q E s k q => wpAny_bind ((PySem.W.looks_clsIn I1.kIn hcl) A _ E s k (wpAny_pure q))) rfl I1.kIn hsup (IA1.type.andThen (PySem.W.looks_subIn I1.kIn S.sub)) (PySem.W.ks_ne I1.kIn IA1 hcl) (by decide) ?_
  have kp : ∀ b o, h1.get? b = some o → (h1.push (PySem.W.kxs_mw "ValueError.__init__" a)).get? b = some o := fun b o e => Heap.get?_push_of_some _ e
  have I2 : Inv X pins σ H ⟨h1.push (PySem.W.kxs_mw "ValueError.__init__" a), g, d, t + 1, os⟩ := I1.kept (t' := t + 1) kp
  have hu : (h1.push (PySem.W.kxs_mw "ValueError.__init__" a)).get? h1.objs.size = some (PySem.W.kxs_mw "ValueError.__init__" a) := Heap.get?_push_at rfl rfl
  have ho2 := kp _ _ (k1' _ _ ho)
  generalize h1.push (PySem.W.kxs_mw "ValueError.__init__" a) = h2 at I2 hu ho2
  refine PySem.W.kxs_callWith (i := "ValueError.__init__") (x := a) rfl (Calls.evalArgs_plain ?_)
  refine Calls.spliced_cons (Calls.Constant_str (k := j) (pos := p3) (Calls.spliced_nil ⟨hu, ?_⟩))
  have I3 : Inv X pins σ H ⟨h2, g, d, t + 1 + 1, os⟩ := I2.tok _
  refine wpAny_call (codeAny_of_tree ?_)
  show wpAny _ X.A.in1 (callAny (.ref h1.objs.size) ⟨_, []⟩) _ _ _
  simp only [callAny]
  refine wpAny_bind (wpAny_load hu ?_)
  simp only [PySem.W.kxs_mw, show (Value.type "method-wrapper" == Value.type "method" || Value.type "method-wrapper" == Value.type "builtin_function_or_method" || Value.type "method-wrapper" == Value.type "method-wrapper") = true by decide, if_true]
  refine PySem.W.KFB.if_so (by decide) ?_
  refine wpAny_bind (PySem.W.check_bound_init F.excBase_ValueError.toExcCallFacts (I3.kIn _ _ hC) ho2 rfl ?_)
  refine wpAny_bind (wpAny_pure (wpAny_pure ?_))
  refine ⟨plainId_quiet F.excBase_ValueError.init.plain _, codeAny_builtin F.excBase_ValueError.initEntry ?_⟩
  refine PySem.W.exc_init_tree (cls := .ref D) (t0 := t1) (dv := none) (c2 := .none) (c3 := .none) (b4 := .bool false) ho2 (by show 1 ≤ sizeLine; rw [sizeLine_eq]; omega) fun h3 k3' hx _ => ?_
  have J := I3.write (t' := t + 1 + 1) (x := a) (e := a) (o := exo a D none) (by rw [ha]; exact True.intro) (.inl rfl) k3' ⟨_, hx⟩ (exo_ok hx)
  have eu : upd H a (exo a D none) = H := by
    funext b
    by_cases hb : b = a
    · rw [hb, upd_same, ha]
    · rw [upd_ne hb]
  rw [eu] at J
  exact J
end
section
open NdefX
variable {CX : CXT} {P : Program} {w : World} {K : PySem.W.Frag} {mg : Str → Option Value} {base : Heap} {k : Nat} {f cc cda D : Addr} {name qual : Str} {params : Arguments} {rest : List Stmt} {scope : Scope} {dV kV doc pm ct oc ccl : Value} {an od cdd : Option Addr}
  {osl ccs : Array (Option Value)} {N ps : List Str} {sp : Sp} {ar : Arg} {p0 p1 p2 p3 p4 p5 : Pos} {msg : Str} {j : Nat}
/-- the def of such an __init__; i: the slot of __class__ -/
theorem fn_sup {pl : Env → Sem Bool}
    (lk : K.lookup f = some ⟨oc, od, .func (PySem.W.fnX name qual params (.Expr (.Call (.Attribute (.Call (.Name "super" p0) [] [] p1) "__init__" p2) [.Constant (.str msg) j p3] [] p4) p5 :: rest) scope [("__class__", cc)] dV kV doc pm an (.ref cda) ct), osl⟩)
    (hcd : PySem.W.codeIn K (.ref cda) qual = true) (S : NScope N ps ["__class__"] scope) (hcc : K.lookup cc = some ⟨ccl, cdd, .cell (some (.ref D)), ccs⟩)
    (hN0 : N[0]? = some ar.arg) (v0 : Vis scope ar.arg) (c0 : (ar.arg == ("__classdict__" : Str)) = false) (hN1 : N[ps.length]? = some ("__class__" : Str)) (v1 : Vis scope "__class__")
    (len : ∀ vs H Q E, sp vs H Q E → vs.length = ps.length)
    (he : ∀ env, eval (.Call (.Attribute (.Call (.Name "super" p0) [] [] p1) "__init__" p2) [.Constant (.str msg) j p3] [] p4) env = (do
      let ov ← attributeBase (.Call (.Name "super" p0) [] [] p1) "__init__" env (eval (.Call (.Name "super" p0) [] [] p1) env)
      standAt p2.atName
      let (f, first) ← holding [ov] (getMethod ov "__init__" (pl env))
      callWith p4 f first (backTo p4 (starEach [.Constant (.str msg) j p3] env)) []))
    (hi : ∀ L, interactive (PySem.W.envX qual scope L f (.ref cda) [("__class__", cc)]) = false) (hs : ∀ env, swapsWith (.Call (.Attribute (.Call (.Name "super" p0) [] [] p1) "__init__" p2) [.Constant (.str msg) j p3] [] p4) none p5.line env = pure false)
    (hbody : ∀ (A : Around) (outer : List Env) (s : Shared) (H : Hp) (vs : List V) (Q : VK) (E : XK), sp vs H Q E →
      ∃ a vs', vs = .ref a :: vs' ∧ H a = some (exo a D none) ∧ SupF (ncx CX P w K mg base N ⟨name, qual, params, (.Expr (.Call (.Attribute (.Call (.Name "super" p0) [] [] p1) "__init__" p2) [.Constant (.str msg) j p3] [] p4) p5 :: rest), scope, [("__class__", cc)], cda⟩ f A outer s H E) f cda D ar ∧
        ∃ t, PSs (ncx CX P w K mg base N ⟨name, qual, params, (.Expr (.Call (.Attribute (.Call (.Name "super" p0) [] [] p1) "__init__" p2) [.Constant (.str msg) j p3] [] p4) p5 :: rest), scope, [("__class__", cc)], cda⟩ f A outer s H E) rest t ∧ t { nx := fun _ H' => Q .non H', rt := Q } (startF N vs [some (.ref D)]) H) :
    FnOk P w K mg base CX (k + 1) f (PySem.W.fnX name qual params (.Expr (.Call (.Attribute (.Call (.Name "super" p0) [] [] p1) "__init__" p2) [.Constant (.str msg) j p3] [] p4) p5 :: rest) scope [("__class__", cc)] dV kV doc pm an (.ref cda) ct) ps sp := by
  refine ⟨len, fun A outer s H args us vs Q E hr e0 hb r hsp => ?_⟩
  have KX : K.In s.heap := e0.mod.kin.keeps fun b o e => (e0.bs b o e).1
  have hl := len _ _ _ _ hsp
  have lim : s.heap.NoLimit := e0.mod.nolimit.keeps fun b o e => (e0.bs b o e).1
  obtain ⟨a, vs', rfl, ha, SF, t, ht, hq⟩ := hbody A outer s H vs Q E hsp
  generalize hF : (⟨name, qual, params, (.Expr (.Call (.Attribute (.Call (.Name "super" p0) [] [] p1) "__init__" p2) [.Constant (.str msg) j p3] [] p4) p5 :: rest), scope, [("__class__", cc)], cda⟩ : NF) = F at SF ht
  have C : CellsAt F.cl ["__class__"] [some (.ref D)] s.heap H := by
    subst hF
    have hcb := e0.mod.kin _ _ hcc
    have hcs := e0.bs _ _ hcb
    have lk1 : ∀ y c, List.lookup y [(("__class__" : Str), cc)] = some c → y = "__class__" ∧ c = cc := fun y c h => by
      rw [List.lookup_cons] at h
      by_cases e : (y == ("__class__" : Str)) = true
      · rw [e] at h
        exact ⟨eq_of_beq e, (Option.some.inj h).symm⟩
      · rw [Bool.not_eq_true] at e
        rw [e] at h
        cases h
    refine ⟨rfl, fun y c h => ?_, fun x y c h1 h2 => (lk1 _ _ h1).1.trans (lk1 _ _ h2).1.symm, fun i y h => ?_⟩
    · obtain ⟨_, rfl⟩ := lk1 y c h
      exact ⟨hcs.2, _, _, hcs.1, rfl⟩
    · cases i with
      | zero =>
        cases h
        exact ⟨cc, rfl, fun v hv => by cases hv; exact ⟨.ref D, rfl, _, hcs.1, rfl⟩⟩
      | succ i => cases h
  refine codeAny_call_function hr.depth (KX _ _ lk) rfl S.co S.gen rfl (PySem.W.codeRec_of KX hcd) (hb _ _ _ _ ?_)
  refine wpAny_newFunctionEnv S.nocell (fun ⟨n, _⟩ hy => S.par n (List.of_mem_zip hy).1) (fun h₁ hns hsb => ⟨lim.fresh _ hsb, ?_⟩) S.kind
  have kp : ∀ b o, s.heap.get? b = some o → h₁.get? b = some o := fun b o e => hsb.extBut b o (Nat.ne_of_lt (Heap.lt_size e)) (Heap.get?_push_of_some _ e)
  have I : Inv (ncx CX P w K mg base N F f A outer s H E) [] (startF N (.ref a :: vs') [some (.ref D)]) H { s with heap := h₁, toks := s.toks + (ps.zip us).length } := inv_startN (by subst hF; exact S) hr.hd e0 hl r C hns kp
  have fin : ∀ {s' : Shared} {σ' : L2.St} {H' : Hp} {v : V} {u : Value}, Inv (ncx CX P w K mg base N F f A outer s H E) [] σ' H' s' → L2.RelV v u → Q v H' → CE outer P w H s Q u s' :=
    fun {s' σ' H' v u} J rv q => ⟨v, H', J.os, J.bare, J.base, J.hok, rv, q⟩
  subst hF
  refine PySem.ks_codeAny_funcAt ?_
  refine PySem.ks_wpAt_execs_cons (PySem.ks_wpAt_Expr_any ?_ (hi _) (hs _))
  have c1 : (startF N (.ref a :: vs') [some (.ref D)])[0]? = some (some (.ref a)) := rfl
  have c2 : (startF N (.ref a :: vs') [some (.ref D)])[ps.length]? = some (some (.ref D)) := by
    unfold startF
    rw [List.getElem?_append_right (by rw [List.length_map]; omega), List.length_map, hl, Nat.sub_self]
    rfl
  refine PySem.ks_wpAt_mono (super_first (X := ncx CX P w K mg base N _ f A outer s H E) SF I hN0 v0 c0 c1 hN1 v1 c2 ha (he _)) (fun _ s' I' => ?_) (fun _ _ z => z)
  refine PySem.wpAt_of_wpAny ?_
  refine wpAny_mono (ht.run [] _ (startF N _ _) H _ I' hq) (fun fl s' hs => ?_) fun e s' hs => hs
  cases fl with
  | ret u =>
    obtain ⟨v, σ', H', J, rv, q⟩ := hs
    exact fin J rv q
  | next =>
    obtain ⟨σ', H', J, q⟩ := hs
    exact fin (v := V.non) (u := Value.none) J rfl q
  | brk =>
    obtain ⟨_, _, _, q⟩ := hs
    exact False.elim q
  | cont =>
    obtain ⟨_, _, _, q⟩ := hs
    exact False.elim q
end
end K55

set_option Elab.async false
set_option linter.all false
set_option maxRecDepth 100000
set_option maxHeartbeats 4000000
namespace K55
open PySem PySem.Spec PyProof.Rows L2 Evl NdefX
/-! ### NoDeal(tick) -/
abbrev P : Program := pw
def spNoDeal (K : PySem.W.Frag) : Sp := fun vs H Q _ => ∃ (a : Addr) (v : V), vs = [.ref a, v] ∧ H a = some (exo a (nD K) none) ∧
  ∀ dx, H dx = none → dx ≠ a → Q .non (upd (upd H dx (exd dx [("tick", v)])) a (exo a (nD K) (some dx)))
theorem ns_NoDeal : NScope ["self", "tick", "__class__"] ["self", "tick"] ["__class__"] (defScope s_NoDeal_init) := nscope_by (by decide +kernel)
section
variable {w : World} {K : PySem.W.Frag} {mg : Str → Option Value} {base : Heap}
theorem fn_NoDeal (T : Txt K mg) : ∃ fd, FnOk P w K mg base CX0 1 (nF K) fd ["self", "tick"] (spNoDeal K) ∧ Binds K fd ["self", "tick"] [] := by
  have ok := T.nd.ok
  obtain ⟨oc, od, osl, kV, doc, pm, ct, an, cda, cc, F⟩ := ok.fn
  obtain ⟨ccl, cdd, ccs, hcc⟩ := F.cl
  have hcls : (PySem.W.clsIn K (nD K)).isSome = true := by
    obtain ⟨nm, q, N, bs, bm, sn, sub, ab, col, dd, k0, k1, k2, k3, k5, hC, hbm⟩ := ok.oc.cls
    unfold PySem.W.clsIn
    rw [hC]
    rfl
  refine ⟨_, fn_sup (ar := ((defArgs s_NoDeal_init).posonlyargs ++ (defArgs s_NoDeal_init).args).headD ⟨"", none, ⟨0, 0, 0, 0⟩⟩) F.lk F.cd ns_NoDeal hcc rfl (.inl rfl) (by decide) rfl (.inr (.inr rfl)) (fun vs H Q E h => ?_) (fun env => rfl) (fun L => rfl) (fun env => rfl) (fun A outer s H vs Q E h => ?_), fun s us X hl => ?_⟩
  · obtain ⟨a, v, rfl, _⟩ := h
    rfl
  · obtain ⟨a, v, rfl, ha, q⟩ := h
    refine ⟨a, [v], rfl, ha, ⟨ok.oc, rfl, rfl, rfl, rfl, ⟨_, _, F.lk, rfl, rfl⟩, F.cf, (show (pw.main.scope.names.lookup ("super" : Str)).isSome = false by decide +kernel), T.n_super, hcls, ok.mro, ok.sub, ok.op, ok.sup⟩, ?_⟩
    exact ⟨_, pss_one (ps_ost (f := "tick") (pv 0) (pv 1)), ⟨_, rfl, _, rfl, a, nD K, rfl, ok.oc, ok.tick, .inl ⟨ha, fun dx h1 h2 => q dx h1 h2⟩⟩⟩
  · rw [List.append_nil] at hl ⊢
    exact .of_eq (match us, hl with | [_, _], _ => rfl)
/-- what tMkO asks of NoDeal(v) -/
theorem nd_make {H : Hp} {v : V} {Q : XK} (h : ∀ d H2, H d = none → Ex H H2 → Q (.ref (nD K)) (some d) H2) : [v].length ≤ 1000 ∧ ∀ a, H a = none → spNoDeal K (.ref a :: ([v] ++ [])) (upd H a (exo a (nD K) none))
    (fun v H2 => v = .non ∧ ∃ (d : Addr) (fs : List (Str × V)), H2 a = some (exo a (nD K) (some d)) ∧ H2 d = some (exd d fs) ∧ H d = none ∧ Q (.ref (nD K)) (some d) (upd (del H2 a) d (.xd fs))) (fun _ _ _ => False) := by
  refine ⟨by show 1 ≤ 1000; decide, fun a ha => ⟨a, v, rfl, upd_same, fun dx h1 h2 => ?_⟩⟩
  have h1' : H dx = none := by rw [upd_ne h2] at h1; exact h1
  refine ⟨rfl, dx, _, upd_same, (upd_ne h2).trans upd_same, h1', h dx _ h1' fun b o hb => ?_⟩
  have n1 : b ≠ dx := ne_of_none hb h1'
  have n2 : b ≠ a := ne_of_none hb ha
  rw [upd_ne n1, del_ne n2, upd_ne n2, upd_ne n1, upd_ne n2]
  exact hb
theorem pmk_NoDeal {X : Cx} {e : Expr} {ta : TA} {p pos : Pos} (T : Txt X.K X.mg) (hP : X.prog = P) (hr : Room 2 X.A) (ha : PA X [e] ta) (hg : Gl X "NoDeal")
    (he : starEach [e] X.env = (false, eval e X.env) :: starEach [] X.env := by rfl) (hpl : (backTo pos (starEach [] X.env)).any (·.1) = false := by rfl) : PMk X (.Call (.Name "NoDeal" p) [e] [] pos) (tMkO (nD X.K) (spNoDeal X.K) [] ta) := by
  obtain ⟨fd, F, hb⟩ := fn_NoDeal (w := X.w) (base := X.base) T
  rw [← hP] at F
  have ok := T.nd.ok
  exact pmk_oex ok.oc ok.ini ok.ty F hr hb .nil (fun _ _ _ _ _ _ _ h => by cases h) hg T.g_NoDeal ha (by decide) he hpl
end
end K55

set_option Elab.async false
set_option linter.all false
set_option maxRecDepth 100000
set_option maxHeartbeats 4000000
namespace K55
open PySem PySem.Spec PyProof.Rows L2 Evl
open K55M (Nd Lb Net Arc Lay FlowOk Plan lab4 su lf)
theorem Src.enum0 {K : PySem.W.Frag} {G : Hp} {a : Addr} {xs : List V} (h : SqL K G a xs) : Src (Ite K a) G xs.length (fun i v H => ∃ T x, xs[i]? = some x ∧ v = .ref T ∧ H T = some (.tup [.int (i : Nat), x])) where
  go := fun i H e hi => ⟨xs, xs[i], ex_l e h, by simp [hi]⟩
  stop := fun i H e hi => ⟨xs, ex_l e h, hi⟩
  yld := fun i H v H' e hi y => by
    obtain ⟨T, x, rfl, hT, rfl, h3⟩ := y
    exact ⟨Ex.new hT, T, x, h3 _ (ex_l e h), rfl, upd_same⟩
section
variable {w : World} {K : PySem.W.Frag} {mg : Str → Option Value} {base : Heap}
/-! ### check_history -/
def spCheckHistory (K : PySem.W.Frag) : Sp := fun vs H Q E => ∃ (d h : Addr) (U L : List Str) (D : Str → Str) (Bs : List Bn), vs = [.ref d, .ref h] ∧ DlAt H d L D ∧ HistAt H h Bs ∧ HOk U L D Bs ∧
  ((∀ B ∈ Bs, B.Can L.length) → ∀ H', Ex H H' → Q .non H') ∧ ((∃ B ∈ Bs, ¬ B.Can L.length) → ∀ x H', Ex H H' → E (.ref (nD K)) (some x) H')
theorem sc_check_history : FnScope ["deal", "history", "bounds", "tick"] ["deal", "history"] (defScope s_check_history) := ⟨rfl, rfl, rfl, by decide +kernel, rfl, by decide +kernel, by decide +kernel⟩
theorem ok_check_history (T : Txt K mg) : Ent P w K mg base (L2.CX P w) 3 "check_history" ["deal", "history"] [] (spCheckHistory K) := by
  obtain ⟨fd, F⟩ := T.f_check_history
  have e_check_deal := ok_check_deal (P := P) (w := w) (base := base) T
  have e_check_bounds := ok_check_bounds (P := P) (w := w) (base := base) T
  have e_is_possible := ok_is_possible (P := P) (w := w) (base := base) T
  obtain ⟨_, gMOST_TICKS⟩ := T.i_MOST_TICKS
  refine Ent.mk' T.g_check_history F (L2.FunD.ok F sc_check_history (fun vs H Q E h => ?_) (fun cdv A outer s H vs Q E hr h => ?_)) (fun _ _ _ _ _ _ us hl => match us, hl with | [_, _], _ => rfl)
  · obtain ⟨d, h, U, L, D, Bs, rfl, hd, hh, ok, q, qE⟩ := h
    rfl
  · obtain ⟨d, h, U, L, D, Bs, rfl, hd, hh, ok, q, qE⟩ := h
    refine ⟨_, (pss_cons (ps_expr (pe_e e_check_deal (hr.mono (by decide)) pass0 (pa_cons (pv 0) pa_nil)))
      (pss_cons (ps_if (PW.pt (pw_or (pt_not (pt_val (pe_callB call_isiT (by rfl) T.n_isinstance (by decide +kernel) (pa_cons (pv 1) (pa_cons (pe_tup (pa_cons (pe_bltn (v := .ty "list") (by rfl) T.n_list (by decide +kernel) rfl) (pa_cons (pe_bltn (v := .ty "tuple") (by rfl) T.n_tuple (by decide +kernel) rfl) pa_nil))) pa_nil))))) (pw_or1 (pt_not (pt_chain op_le op_le pe_int (pe_callB (call_lenK (K := K) rfl) (by rfl) T.n_len PySem.boot_len (pa_cons (pv 1) pa_nil)) (pe_glob (v := .int 12) rfl gMOST_TICKS ⟨_, rfl⟩)))))) (pss_one ps_never) pss_nil)
      (pss_cons (ps_for (L2.passes_of rfl) rfl (pi_listK (K := K) rfl (pv 1)) (pg_name (i := 2) sc_check_history.nd rfl (Or.inl rfl)) (pss_one (ps_expr (pe_e e_check_bounds (hr.mono (by decide)) pass0 (pa_cons (pv 2) pa_nil)))))
      (pss_one (ps_for (L2.passes_of rfl) rfl (pi_enum rfl T.n_enumerate (pa_cons (pv 1) pa_nil)) (pg_tup rfl (pgs_cons (pg_name (i := 3) sc_check_history.nd rfl (Or.inl rfl)) (pgs_cons (pg_name (i := 2) sc_check_history.nd rfl (Or.inl rfl)) pgs_nil))) (pss_one (ps_if (pt_not (pt_val (pe_e e_is_possible (hr.mono (by decide)) pass0 (pa_cons (pe_callB call_lenD (by rfl) T.n_len PySem.boot_len (pa_cons (pv 0) pa_nil)) (pa_cons (pv 2) pa_nil))))) (pss_one (L2.ps_raise rfl (L2.takes_of rfl rfl rfl rfl) (pmk_NoDeal T rfl (hr.mono (by decide)) (pa_cons (pv 3) pa_nil) rfl))) pss_nil))))))), ?_⟩
    obtain ⟨as, hh1, hh2⟩ := hh
    have b1 := ok.b1
    have b2 := ok.b2
    have lenB := Paired.length hh2
    dsimp only [tSeq_ap, tAsg_ap, gName_ap, tC_ap, tNext_ap, tRet_ap, tAndV_ap, tCB_ap, tCons_ap, tNil_ap, tB_ap, tTest_ap, tNot_ap, tOr_ap, tAnd_ap, tIfS_ap, tOp_ap, tDrop_ap]
    refine ⟨_, rfl, d, L, D, rfl, hd, ok.dl, fun H1 e1 => ?_⟩
    refine ⟨_, rfl, le2, fun tt htt => ?_⟩
    have e2 : Ex H1 (upd H1 tt (.tup [.ty "list", .ty "tuple"])) := Ex.new htt
    have htt2 : upd H1 tt (.tup [.ty "list", .ty "tuple"]) tt = _ := upd_same
    generalize upd H1 tt _ = H2 at e2 htt2
    have e12 := e1.trans e2
    refine ⟨_, _, _, _, _, true, rfl, htt2, .cons (.ty _) (.cons (.ty _) .nil), .base (.lst (e12 _ _ hh1)), kitAny_cons (b := true) (kit_ty (by decide +kernel)) (fun h => by cases h) (fun _ => rfl), true, rfl, iteF ?_⟩
    refine ⟨_, rfl, _, _, rfl, lenL (sql (e12 _ _ hh1)), _, _, rfl, rfl, true, bl_t (by rw [List.length_map]; omega), iteT ⟨_, _, rfl, rfl, true, bl_t (by rw [List.length_map]; omega), iteF ?_⟩⟩
    refine forl (td := tVar 1) (sql (e12 _ _ hh1)) (fun H1 Q' q' => ⟨_, rfl, q'⟩) (fun i σ' H' => (∃ x y, σ' = [some (V.ref d), some (.ref h), x, y]) ∧ Ex H H') ⟨⟨_, _, rfl⟩, e12⟩ (fun i σ' H' pv => sql (pv.2 _ _ hh1)) (fun i x σ' H' hx pv => ?_) fun σ' H' pv => ?_
    · obtain ⟨⟨x2, x3, rfl⟩, e⟩ := pv
      rw [List.getElem?_map] at hx
      cases hz : as[i]? with
      | none => rw [hz] at hx; cases hx
      | some a =>
      rw [hz] at hx
      cases hx
      obtain ⟨B, hB, hBa⟩ := paired_at hh2 hz
      exact ⟨_, rfl, a, B, rfl, hBa.ex e, ok.bo B (mem_of_at hB), fun H3 e3 => ⟨⟨_, _, rfl⟩, e.trans e3⟩⟩
    obtain ⟨⟨x2, x3, rfl⟩, e⟩ := pv
    refine ⟨_, rfl, h, _, rfl, sql (e _ _ hh1), ?_⟩
    refine for_src (Src.enum0 (G := H') (sql (e _ _ hh1))) (fun i σ' H2 => (∃ x y, σ' = [some (V.ref d), some (.ref h), x, y]) ∧ Ex H' H2 ∧ ∀ B ∈ Bs.take i, B.Can L.length) ⟨⟨_, _, rfl⟩, Ex.refl _, fun B hB => by rw [List.take_zero] at hB; cases hB⟩ (fun i σ' H2 pv => pv.2.1) (fun i v σ' H2 H3 hi pv e3 y => ?_) fun σ' H2 pv => ?_
    · obtain ⟨⟨x2, x3, rfl⟩, e4, can⟩ := pv
      obtain ⟨Tt, v1, hv1, rfl, hT⟩ := y
      rw [List.getElem?_map] at hv1
      cases hz : as[i]? with
      | none => rw [hz] at hv1; cases hv1
      | some a =>
      rw [hz] at hv1
      cases hv1
      obtain ⟨B, hB, hBa⟩ := paired_at hh2 hz
      have e5 := (e.trans e4).trans e3
      refine ⟨Tt, _, rfl, sqt hT, rfl, _, _, rfl, _, _, rfl, rfl, ?_⟩
      refine ⟨_, rfl, d, _, rfl, e5 _ _ hd, _, rfl, L.length, a, B, by rw [kd_len]; rfl, hBa.ex e5, ok.bo B (mem_of_at hB), fun H6 e6 => ?_⟩
      by_cases hc : B.Can L.length
      · refine ⟨true, bl_t hc, iteF ⟨⟨_, _, rfl⟩, (e4.trans e3).trans e6, fun B' hB' => ?_⟩⟩
        rw [take_succ_at hB] at hB'
        rcases List.mem_append.mp hB' with hB' | hB'
        · exact can B' hB'
        · rw [List.mem_singleton] at hB'
          rw [hB']; exact hc
      · refine ⟨false, bl_f hc, iteT ⟨_, rfl, nd_make fun x H7 _ e7 => qE ⟨B, mem_of_at hB, hc⟩ x H7 ((e5.trans e6).trans e7)⟩⟩
    · obtain ⟨_, e4, can⟩ := pv
      rw [List.length_map, lenB, List.take_of_length_le (Nat.le_refl _)] at can
      exact q can H2 (e.trans e4)
end
end K55


set_option Elab.async false
set_option linter.all false
set_option maxRecDepth 100000
set_option maxHeartbeats 4000000
namespace K55
open PySem PySem.Spec PyProof.Rows L2 Evl
open K55M (Lay su cst IsMin)
/-! ### how many lanes change their readers -/
def chg (L : List Str) (D E : Str → Str) : Int := ((L.filter fun l => decide (D l ≠ E l)).length : Int)
theorem chg_def (L : List Str) (D E : Str → Str) : chg L D E = cnt1 L fun l => decide (D l ≠ E l) := rfl
theorem chg_nil (D E : Str → Str) : chg [] D E = 0 := rfl
theorem chg_cons (l : Str) (L : List Str) (D E : Str → Str) : chg (l :: L) D E = chg L D E + if D l ≠ E l then 1 else 0 := by
  rw [chg_def, chg_def, cnt1_cons]
  by_cases h : D l ≠ E l
  · rw [if_pos (decide_eq_true h), if_pos h]
  · rw [if_neg (by rw [decide_eq_true_eq]; exact h), if_neg h]
theorem chg_nonneg (L : List Str) (D E : Str → Str) : 0 ≤ chg L D E := Int.natCast_nonneg _
theorem chg_self (L : List Str) (D : Str → Str) : chg L D D = 0 := by
  induction L with
  | nil => rfl
  | cons l L ih => rw [chg_cons, ih, if_neg (fun h => h rfl)]; rfl
theorem chg_tri (L : List Str) (D E F : Str → Str) : chg L D F ≤ chg L D E + chg L E F := by
  induction L with
  | nil => exact Int.le_refl _
  | cons l L ih =>
    rw [chg_cons, chg_cons, chg_cons]
    by_cases h1 : D l = E l
    · by_cases h2 : E l = F l
      · rw [if_neg (show ¬ D l ≠ F l from fun h => h (h1.trans h2)), if_neg (show ¬ D l ≠ E l from fun h => h h1), if_neg (show ¬ E l ≠ F l from fun h => h h2)]; omega
      · rw [if_neg (show ¬ D l ≠ E l from fun h => h h1), if_pos h2]; split <;> omega
    · rw [if_pos (show D l ≠ E l from h1)]; split <;> split <;> omega
theorem chg_comm (L : List Str) (D E : Str → Str) : chg L D E = chg L E D := by
  induction L with
  | nil => rfl
  | cons l L ih =>
    rw [chg_cons, chg_cons, ih]
    by_cases h : D l = E l
    · rw [if_neg (fun q => q h), if_neg (fun q => q h.symm)]
    · rw [if_pos h, if_pos (fun q => h q.symm)]
theorem cntI_cons (D : Str → Str) (l : Str) (L : List Str) (r : Str) : cntI D (l :: L) r = cntI D L r + if D l = r then 1 else 0 := by
  rw [cntI_def, cntI_def, cnt1_cons]
  by_cases h : D l = r
  · rw [if_pos (decide_eq_true h), if_pos h]
  · rw [if_neg (by rw [decide_eq_true_eq]; exact h), if_neg h]
theorem chg_ge {ns : List Str} (nd : ns.Nodup) (L : List Str) (D E : Str → Str) : sumOf ns (fun r => max 0 (cntI D L r - cntI E L r)) ≤ chg L D E := by
  induction L with
  | nil =>
    rw [chg_nil, sumOf_congr (g := fun _ => 0) (fun r _ => by show max 0 ((0 : Int) - 0) = 0; omega), sumOf_zero]
    exact Int.le_refl _
  | cons l L ih =>
    rw [chg_cons]
    by_cases h : D l = E l
    · rw [if_neg (fun q => q h), sumOf_congr (g := fun r => max 0 (cntI D L r - cntI E L r)) (fun r _ => by rw [cntI_cons, cntI_cons, h]; split <;> omega)]
      omega
    · rw [if_pos h]
      have h1 : sumOf ns (fun r => max 0 (cntI D (l :: L) r - cntI E (l :: L) r)) ≤ sumOf ns (fun r => max 0 (cntI D L r - cntI E L r) + if D l = r then 1 else 0) := sumOf_le fun r _ => by
        rw [cntI_cons, cntI_cons]
        by_cases a : D l = r
        · have b : ¬ E l = r := fun q => h (a.trans q.symm)
          rw [if_pos a, if_neg b]; omega
        · rw [if_neg a]; split <;> omega
      rw [sumOf_add] at h1
      have h2 : sumOf ns (fun r => if D l = r then (1 : Int) else 0) ≤ 1 := by
        by_cases m : D l ∈ ns
        · rw [sumOf_one nd m 1]; exact Int.le_refl _
        · rw [sumOf_congr (g := fun _ => 0) (fun r hr => if_neg (fun q : D l = r => m (q ▸ hr))), sumOf_zero]; decide
      omega
theorem chg_after {L : List Str} (nd : L.Nodup) (D : Str → Str) : ∀ ms : List (Str × Str × Str), MvOk L D ms → chg L D (after D ms) = ms.length := by
  refine snoc_ind (fun _ => ?_) fun ms m ih ok => ?_
  · exact chg_self L D
  · have ndm : (ms.map (·.1)).Nodup ∧ m.1 ∉ ms.map (·.1) := by
      have := ok.nd
      rw [List.map_append, List.nodup_append] at this
      exact ⟨this.1, fun h => this.2.2 _ h _ (by simp) rfl⟩
    have ih := ih ⟨ndm.1, fun x hx => ok.at_ x (List.mem_append_left _ hx), fun x hx => ok.w x (List.mem_append_left _ hx)⟩
    obtain ⟨a1, a2, a3⟩ := ok.at_ m (by simp)
    have hz : after D ms m.1 = D m.1 := by
      unfold after
      rw [List.find?_eq_none.mpr fun x hx => by rw [decide_eq_true_eq]; exact fun q => ndm.2 (List.mem_map.mpr ⟨x, hx, q⟩)]
    rw [List.length_append, List.length_singleton]
    have key : ∀ L' : List Str, L'.Nodup → chg L' D (after D (ms ++ [m])) = chg L' D (after D ms) + if m.1 ∈ L' then 1 else 0 := fun L' => by
      induction L' with
      | nil => intro _; rfl
      | cons l L' ih2 =>
        intro nd'
        obtain ⟨n1, n2⟩ := List.nodup_cons.mp nd'
        rw [chg_cons, chg_cons, ih2 n2, after_snoc D ms m ndm.2]
        by_cases e : l = m.1
        · subst e
          rw [if_neg n1, if_pos rfl, if_pos (show D m.1 ≠ m.2.2 from fun q => a3 (a2.trans q)), hz, if_neg (fun q => q rfl), if_pos List.mem_cons_self]
        · rw [if_neg e]
          by_cases q : m.1 ∈ L'
          · rw [if_pos q, if_pos (List.mem_cons_of_mem _ q)]; omega
          · rw [if_neg q, if_neg (fun z => (List.mem_cons.mp z).elim (fun y => e y.symm) q)]; omega
    rw [key L nd, if_pos a1, ih]
    push_cast
    rfl
/-! ### sequences of deals -/
def pth (L : List Str) (D : Str → Str) : List (Str → Str) → Int
  | [] => 0
  | E :: r => chg L D E + pth L E r
def lst (D : Str → Str) : List (Str → Str) → Str → Str
  | [] => D
  | E :: r => lst E r
theorem pth_nonneg (L : List Str) : ∀ (Es : List (Str → Str)) (D : Str → Str), 0 ≤ pth L D Es
  | [], D => Int.le_refl _
  | E :: r, D => by
    have := pth_nonneg L r E
    have := chg_nonneg L D E
    show 0 ≤ chg L D E + pth L E r
    omega
theorem pth_app (L : List Str) : ∀ (xs ys : List (Str → Str)) (D : Str → Str), pth L D (xs ++ ys) = pth L D xs + pth L (lst D xs) ys
  | [], ys, D => by show pth L D ys = 0 + pth L D ys; omega
  | E :: r, ys, D => by
    show chg L D E + pth L E (r ++ ys) = chg L D E + pth L E r + pth L (lst E r) ys
    rw [pth_app L r ys E]; omega
theorem lst_app : ∀ (xs ys : List (Str → Str)) (D : Str → Str), lst D (xs ++ ys) = lst (lst D xs) ys
  | [], ys, D => rfl
  | E :: r, ys, D => lst_app r ys E
/-- the start may be moved -/
theorem pth_start (L : List Str) (D E : Str → Str) : ∀ Es : List (Str → Str), pth L D Es ≤ chg L D E + pth L E Es
  | [] => by show 0 ≤ chg L D E + 0; have := chg_nonneg L D E; omega
  | F :: r => by
    show chg L D F + pth L F r ≤ chg L D E + (chg L E F + pth L F r)
    have := chg_tri L D E F
    omega
structure Whole (L : List Str) (D : Str → Str) (Bs : List Bn) (m : Int) : Prop where
  ex : ∃ Es, Paired (fun E B => Within' L E B) Es Bs ∧ pth L D Es = m
  le : ∀ Es, Paired (fun E B => Within' L E B) Es Bs → m ≤ pth L D Es
section
variable {L : List Str} {D : Str → Str} {Bs Cs : List Bn} {B : Bn} {m n : Int}
theorem Whole.uniq (a : Whole L D Bs m) (b : Whole L D Bs n) : m = n := by
  obtain ⟨E, h1, rfl⟩ := a.ex
  obtain ⟨F, h2, rfl⟩ := b.ex
  exact Int.le_antisymm (a.le F h2) (b.le E h1)
theorem paired_snoc_inv {α β : Type} {F : α → β → Prop} : ∀ {ys : List β} {xs : List α} {y : β}, Paired F xs (ys ++ [y]) → ∃ xs' x, xs = xs' ++ [x] ∧ Paired F xs' ys ∧ F x y
  | [], _, y, h => by
    cases h with
    | cons r t => cases t; exact ⟨[], _, rfl, .nil, r⟩
  | z :: ys, _, y, h => by
    cases h with
    | cons r t =>
      obtain ⟨xs', x, rfl, p, q⟩ := paired_snoc_inv t
      exact ⟨_ :: xs', x, rfl, .cons r p, q⟩
theorem paired_app_inv {α β : Type} {F : α → β → Prop} : ∀ {ys zs : List β} {xs : List α}, Paired F xs (ys ++ zs) → ∃ as bs, xs = as ++ bs ∧ Paired F as ys ∧ Paired F bs zs
  | [], zs, xs, h => ⟨[], xs, rfl, .nil, h⟩
  | y :: ys, zs, _, h => by
    cases h with
    | cons r t =>
      obtain ⟨as, bs, rfl, p, q⟩ := paired_app_inv t
      exact ⟨_ :: as, bs, rfl, .cons r p, q⟩
theorem Whole.wide (a : Whole L D Bs m) (b : Whole L D Cs n) (h : ∀ Es, Paired (fun E B => Within' L E B) Es Bs → Paired (fun E B => Within' L E B) Es Cs) : n ≤ m := by
  obtain ⟨E, h1, rfl⟩ := a.ex
  exact b.le E (h E h1)
theorem Whole.pre (a : Whole L D (Bs ++ Cs) m) (b : Whole L D Bs n) : n ≤ m := by
  obtain ⟨E, h1, rfl⟩ := a.ex
  obtain ⟨as, bs, rfl, p, _⟩ := paired_app_inv h1
  have := b.le as p
  have := pth_nonneg L bs (lst D as)
  rw [pth_app]; omega
theorem Whole.drop (a : Whole L D (Bs ++ B :: Cs) m) (b : Whole L D (Bs ++ Cs) n) : n ≤ m := by
  obtain ⟨E, h1, rfl⟩ := a.ex
  obtain ⟨as, bs, rfl, p, q⟩ := paired_app_inv h1
  cases q with
  | @cons x _ xs _ r t =>
    have := b.le (as ++ xs) (paired_app p t)
    rw [pth_app] at this ⊢
    have e : pth L (lst D as) (x :: xs) = chg L (lst D as) x + pth L x xs := rfl
    have := pth_start L (lst D as) x xs
    omega
/-- the last bounds once more -/
theorem Whole.again (a : Whole L D (Bs ++ [B]) m) (b : Whole L D (Bs ++ [B] ++ [B]) n) : n = m := by
  refine Int.le_antisymm ?_ (b.pre a)
  obtain ⟨E, h1, rfl⟩ := a.ex
  have h1' := h1
  obtain ⟨xs, x, rfl, p, q⟩ := paired_snoc_inv h1'
  have := b.le (xs ++ [x] ++ [x]) (paired_app h1 (.cons q .nil))
  rw [pth_app] at this
  have e : lst D (xs ++ [x]) = x := by rw [lst_app]; rfl
  rw [e] at this
  have e2 : pth L x [x] = 0 := by show chg L x x + 0 = 0; rw [chg_self]; rfl
  omega
/-- the first bounds once more -/
theorem Whole.first (a : Whole L D (B :: Cs) m) (b : Whole L D (B :: B :: Cs) n) : n = m := by
  refine Int.le_antisymm ?_ (Whole.drop (Bs := []) b a)
  obtain ⟨E, h1, rfl⟩ := a.ex
  cases h1 with
  | @cons x _ xs _ r t =>
    have := b.le (x :: x :: xs) (.cons r (.cons r t))
    have e : pth L D (x :: x :: xs) = chg L D x + (chg L x x + pth L x xs) := rfl
    have e2 : pth L D (x :: xs) = chg L D x + pth L x xs := rfl
    rw [chg_self] at e
    omega
/-- from the middle on -/
theorem Whole.rest (a : Whole L D (Bs ++ Cs) m) {as bs : List (Str → Str)} (p : Paired (fun E B => Within' L E B) as Bs) (q : Paired (fun E B => Within' L E B) bs Cs) (e : pth L D (as ++ bs) = m) (b : Whole L (lst D as) Cs n) : n + pth L D as = m := by
  rw [pth_app] at e
  have h1 := b.le bs q
  obtain ⟨F, h2, h3⟩ := b.ex
  have h4 := a.le (as ++ F) (paired_app p h2)
  rw [pth_app] at h4
  omega
end
end K55

set_option Elab.async false
set_option linter.all false
set_option maxRecDepth 100000
set_option maxHeartbeats 4000000
namespace K55
open PySem PySem.Spec PyProof.Rows L2 Evl
open K55M (Nd Lb Net Arc Lay FlowOk Plan lab4 su lf IsMin InL pco cst su_range_succ')
/-! ### least costs there are -/
theorem int_min (g : Int → Int) (lo : Int) : ∀ n : Nat, ∃ a, lo ≤ a ∧ a ≤ lo + n ∧ ∀ x, lo ≤ x → x ≤ lo + n → g a ≤ g x
  | 0 => ⟨lo, Int.le_refl _, by omega, fun x h1 h2 => by
    have : x = lo := by omega
    rw [this]; exact Int.le_refl _⟩
  | n + 1 => by
    obtain ⟨a, h1, h2, h3⟩ := int_min g lo n
    by_cases h : g a ≤ g (lo + (n + 1 : Nat))
    · refine ⟨a, h1, by omega, fun x h4 h5 => ?_⟩
      by_cases e : x = lo + (n + 1 : Nat)
      · rw [e]; exact h
      · exact h3 x h4 (by omega)
    · refine ⟨lo + (n + 1 : Nat), by omega, by omega, fun x h4 h5 => ?_⟩
      by_cases e : x = lo + (n + 1 : Nat)
      · rw [e]; exact Int.le_refl _
      · have := h3 x h4 (by omega); omega
theorem isMin_ex : ∀ (qs : List (Int × Int)), (∀ q ∈ qs, q.1 ≤ q.2) → ∀ (ps : List Int) (b : Int), qs.length = ps.length → ∃ c, IsMin c b qs ps
  | [], _, ps, b, _ => ⟨0, ⟨[], True.intro, by unfold pco; rfl⟩, fun xs h => by cases xs with | nil => unfold pco; exact Int.le_refl _ | cons x xs => exact False.elim h⟩
  | q :: qs, h, [], b, hl => by cases hl
  | q :: qs, h, p :: ps, b, hl => by
    have ih : ∀ a, ∃ c, IsMin c a qs ps := fun a => isMin_ex qs (fun z hz => h z (List.mem_cons_of_mem _ hz)) ps a (by simpa using hl)
    have hq := h q List.mem_cons_self
    obtain ⟨a, h1, h2, h3⟩ := int_min (fun a => cst b a p + Classical.choose (ih a)) q.1 (q.2 - q.1).toNat
    have e : q.1 + ((q.2 - q.1).toNat : Int) = q.2 := by omega
    rw [e] at h2 h3
    have ca := Classical.choose_spec (ih a)
    refine ⟨cst b a p + Classical.choose (ih a), ?_, fun xs hx => ?_⟩
    · obtain ⟨ys, y1, y2⟩ := ca.ex
      exact ⟨a :: ys, ⟨⟨h1, h2⟩, y1⟩, by show cst b a p + pco a ys ps = _; rw [y2]⟩
    · cases xs with
      | nil => exact False.elim hx
      | cons x xs =>
        obtain ⟨⟨x1, x2⟩, x3⟩ := hx
        have k := h3 x x1 x2
        have k2 := (Classical.choose_spec (ih x)).le xs x3
        show _ ≤ cst b x p + pco x xs ps
        omega
/-! ### the loads of deals -/
def nthD (D : Str → Str) (Es : List (Str → Str)) (t : Nat) : Str → Str := (D :: Es).getD t fun _ => default
theorem nthD_zero (D : Str → Str) (Es : List (Str → Str)) : nthD D Es 0 = D := rfl
theorem nthD_succ (D E : Str → Str) (Es : List (Str → Str)) (t : Nat) : nthD D (E :: Es) (t + 1) = nthD E Es t := rfl
theorem nthD_at {D E : Str → Str} {Es : List (Str → Str)} {t : Nat} (h : Es[t]? = some E) : nthD D Es (t + 1) = E := by
  unfold nthD
  rw [List.getD_cons_succ, List.getD, h]
  rfl
def pcD (ns L : List Str) (D : Str → Str) (Es : List (Str → Str)) : Int := su (List.range Es.length) fun t => su ns fun r => max 0 (cntI (nthD D Es t) L r - cntI (nthD D Es (t + 1)) L r)
theorem pcD_le {ns : List Str} (nd : ns.Nodup) (L : List Str) : ∀ (Es : List (Str → Str)) (D : Str → Str), pcD ns L D Es ≤ pth L D Es
  | [], D => Int.le_refl _
  | E :: Es, D => by
    unfold pcD
    rw [List.length_cons, su_range_succ']
    have h1 := chg_ge nd L D E
    have h2 := pcD_le nd L Es E
    unfold pcD at h2
    show su ns (fun r => max 0 (cntI D L r - cntI E L r)) + su (List.range Es.length) (fun t => su ns fun r => max 0 (cntI (nthD E Es t) L r - cntI (nthD E Es (t + 1)) L r)) ≤ chg L D E + pth L E Es
    have h1 : su ns (fun r => max 0 (cntI D L r - cntI E L r)) ≤ chg L D E := h1
    omega
theorem range_getD2 {α : Type} (g : α → Int × Int) (d : α) (Bs : List α) : (List.range Bs.length).map (fun t => g (Bs.getD t d)) = Bs.map g := by
  apply List.ext_getElem?
  intro i
  rw [List.getElem?_map, List.getElem?_map]
  by_cases h : i < Bs.length
  · rw [List.getElem?_range h, List.getElem?_eq_getElem h, Option.map_some, Option.map_some, getD_of (List.getElem?_eq_getElem h)]
  · rw [List.getElem?_eq_none (by rw [List.length_range]; omega), List.getElem?_eq_none (by omega)]
    rfl
section
variable {U L : List Str} {D : Str → Str} {Bs : List Bn} {ns : List Str}
theorem lims_eq (L : List Str) (D : Str → Str) (Bs : List Bn) (ns : List Str) (r : Str) : (layOf L D Bs ns).lims r = limsOf Bs L.length r := range_getD2 (fun B : Bn => (B.low r, min (B.high r) (L.length : Int))) default Bs
theorem lims_le {Bs : List Bn} (bo : ∀ B ∈ Bs, B.Ok) (m : Int) (hm : 0 ≤ m) (can : ∀ B ∈ Bs, B.Can m) (r : Str) : ∀ q ∈ limsOf Bs m r, q.1 ≤ q.2 := fun q hq => by
  obtain ⟨B, hB, rfl⟩ := List.mem_map.mp hq
  have ok := bo B hB
  have h1 := ok.lh' r
  have h2 := ok.l0' r
  show B.low r ≤ min (B.high r) m
  have h3 : B.low r ≤ m := by
    by_cases hr : r ∈ B.rs
    · have s : sumOf B.rs (fun x => if r = x then B.lo r else 0) ≤ sumOf B.rs B.lo := sumOf_le fun x hx => by
        by_cases e : r = x
        · subst e; rw [if_pos rfl]; exact Int.le_refl _
        · rw [if_neg e]; exact ok.l0 x hx
      rw [sumOf_one ok.nd hr] at s
      have e : B.low r = B.lo r := if_pos hr
      rw [e]
      exact Int.le_trans s (can B hB).1
    · rw [show B.low r = 0 from if_neg hr]; exact hm
  omega
theorem Within'.bnd {E : Str → Str} {B : Bn} (w : Within' L E B) (r : Str) : B.low r ≤ cntI E L r ∧ cntI E L r ≤ B.high r := by
  by_cases hr : r ∈ B.rs
  · rw [show B.low r = B.lo r from if_pos hr, show B.high r = B.hi r from if_pos hr]
    exact w.2 r hr
  · rw [show B.low r = 0 from if_neg hr, show B.high r = 0 from if_neg hr]
    refine ⟨cnt1_nonneg _ _, ?_⟩
    have : L.filter (fun l => decide (E l = r)) = [] := List.filter_eq_nil_iff.mpr fun l hl h => hr (of_decide_eq_true h ▸ w.1 l hl)
    unfold cntI
    rw [this]
    exact Int.le_refl _
theorem within_loads (hn : NmOf L D Bs ns) {Es : List (Str → Str)} (w : Paired (fun E B => Within' L E B) Es Bs) : (layOf L D Bs ns).Loads (fun t r => cntI (nthD D Es t) L r) := by
  have key : ∀ t, t < Bs.length → ∃ E, Es[t]? = some E ∧ Within' L E (Bs.getD t default) := fun t ht => by
    have hE : t < Es.length := by rw [w.length]; exact ht
    have h1 := List.getElem?_eq_getElem hE
    obtain ⟨B, hB, q⟩ := paired_at w h1
    exact ⟨_, h1, by rw [getD_of hB]; exact q⟩
  refine ⟨fun r _ => rfl, fun t ht r _ => ?_, fun t ht r _ => ?_, fun t ht => ?_⟩
  · obtain ⟨E, h1, q⟩ := key t ht
    rw [nthD_at h1]
    exact (q.bnd r).1
  · obtain ⟨E, h1, q⟩ := key t ht
    rw [nthD_at h1]
    exact (q.bnd r).2
  · obtain ⟨E, h1, q⟩ := key t ht
    have e : (fun r => cntI (nthD D Es (t + 1)) L r) = cntI E L := by rw [nthD_at h1]
    show su ns (fun r => cntI (nthD D Es (t + 1)) L r) = L.length
    rw [e]
    refine sum_cntI E L hn.1 fun l hl => (hn.2.1 _).mpr (.inr ⟨_, ?_, q.1 l hl⟩)
    have ht : t < Bs.length := ht
    rw [getD_of (List.getElem?_eq_getElem ht)]
    exact List.getElem_mem ht
theorem within_pc (hn : NmOf L D Bs ns) {Es : List (Str → Str)} (w : Paired (fun E B => Within' L E B) Es Bs) : (layOf L D Bs ns).pc (fun t r => cntI (nthD D Es t) L r) ≤ pth L D Es := by
  have h := pcD_le hn.1 L Es D
  unfold pcD at h
  rw [w.length] at h
  exact h
variable {f : LB → Int} {y : ND → Int}
/-- the flow's loads are the least ones -/
theorem flow_lo (ok : HOk U L D Bs) (hn : NmOf L D Bs ns) (can : ∀ B ∈ Bs, B.Can L.length) (W : FlowOk (layOf L D Bs ns).net (layOf L D Bs ns).labs .src .snk f L.length) : ∀ i ∈ (layOf L D Bs ns).labs, (layOf L D Bs ns).net.lo i ≤ f i := by
  have O := layOf_ok ok hn
  obtain ⟨ld, hld⟩ := layOf_loads ok hn can
  exact W.least (hld.plan O) K55M.net_pr0 O.net_lo (by rw [hld.cost O]; exact hld.cheap O)
theorem flow_bound (ok : HOk U L D Bs) (hn : NmOf L D Bs ns) (can : ∀ B ∈ Bs, B.Can L.length) (W : FlowOk (layOf L D Bs ns).net (layOf L D Bs ns).labs .src .snk f L.length) (hA : ∀ u v c, (layOf L D Bs ns).net.arc (layOf L D Bs ns).labs f u v c → y u ≤ y v + c) (h0 : y .snk = 0)
    (c : Str → Int) (hc : ∀ r ∈ ns, IsMin (c r) (cntI D L r) (limsOf Bs L.length r) ((List.range Bs.length).map fun t => - y (.hub (t + 1)))) : sumOf ns c = (layOf L D Bs ns).pc (lf (layOf L D Bs ns) f) :=
  W.strong (layOf_ok ok hn) (flow_lo ok hn can W) hA h0 c fun r hr => by rw [lims_eq]; exact hc r hr
theorem flow_whole (ok : HOk U L D Bs) (hn : NmOf L D Bs ns) (can : ∀ B ∈ Bs, B.Can L.length) (W : FlowOk (layOf L D Bs ns).net (layOf L D Bs ns).labs .src .snk f L.length) (hA : ∀ u v c, (layOf L D Bs ns).net.arc (layOf L D Bs ns).labs f u v c → y u ≤ y v + c) (h0 : y .snk = 0)
    {Es : List (Str → Str)} (w : Paired (fun E B => Within' L E B) Es Bs) (hp : pth L D Es = (layOf L D Bs ns).pc (lf (layOf L D Bs ns) f)) : Whole L D Bs (pth L D Es) := by
  refine ⟨⟨Es, w, rfl⟩, fun Fs wF => ?_⟩
  have hex : ∀ r, ∃ c, IsMin c (cntI D L r) (limsOf Bs L.length r) ((List.range Bs.length).map fun t => - y (.hub (t + 1))) := fun r => isMin_ex _ (lims_le ok.bo _ (Int.natCast_nonneg _) can r) _ _ (by unfold limsOf; rw [List.length_map, List.length_map, List.length_range])
  have hs := flow_bound ok hn can W hA h0 (fun r => Classical.choose (hex r)) fun r _ => Classical.choose_spec (hex r)
  have hw := (within_loads hn wF).weak (layOf_ok ok hn) (fun t => - y (.hub (t + 1))) (fun r => Classical.choose (hex r)) fun r _ => by rw [lims_eq]; exact Classical.choose_spec (hex r)
  have hq := within_pc hn wF
  have hw : sumOf ns (fun r => Classical.choose (hex r)) ≤ _ := hw
  rw [hp, ← hs]
  exact Int.le_trans hw hq
end
end K55

set_option Elab.async false
set_option linter.all false
set_option maxRecDepth 100000
set_option maxHeartbeats 4000000
namespace K55
open PySem PySem.Spec PyProof.Rows L2 Evl
open K55M (Nd Lb Net Arc Lay FlowOk Plan lab4 su lf IsMin)
/-! ### each reader gives or gets -/
def Clean (L : List Str) (D E : Str → Str) : Prop := ∀ r, (∀ l ∈ L, D l = r → E l = r) ∨ (∀ l ∈ L, E l = r → D l = r)
def Chain (L : List Str) (D : Str → Str) : List (Str → Str) → Prop
  | [] => True
  | E :: r => Clean L D E ∧ Chain L E r
theorem Chain.snoc {L : List Str} : ∀ {Es : List (Str → Str)} {D E : Str → Str}, Chain L D Es → Clean L (lst D Es) E → Chain L D (Es ++ [E])
  | [], D, E, _, h => ⟨h, True.intro⟩
  | F :: r, D, E, h, k => ⟨h.1, Chain.snoc h.2 k⟩
theorem after_cases (D : Str → Str) (ms : List (Str × Str × Str)) (l : Str) : (∃ m ∈ ms, m.1 = l ∧ after D ms l = m.2.2) ∨ after D ms l = D l := by
  unfold after
  cases h : ms.find? (fun m => decide (m.1 = l)) with
  | none => exact .inr rfl
  | some m =>
    have h2 := List.find?_some h
    exact .inl ⟨m, List.mem_of_find?_eq_some h, of_decide_eq_true h2, rfl⟩
theorem Mvs.clean {L ks : List Str} {D : Str → Str} {f g : Str → Int} {ms : List (Str × Str × Str)} (h : Mvs L D ks f g ms) : Clean L D (after D ms) := fun r => by
  by_cases c : ∃ m ∈ ms, m.2.1 = r
  · obtain ⟨m, hm, rfl⟩ := c
    refine .inr fun l hl e => ?_
    rcases after_cases D ms l with ⟨m', hm', _, q⟩ | q
    · have h1 := h.fr m hm
      have h2 := (h.to m' hm').2
      rw [q] at e
      rw [e] at h2
      omega
    · rw [← q]; exact e
  · refine .inl fun l hl e => ?_
    rcases after_cases D ms l with ⟨m', hm', q1, q⟩ | q
    · exact absurd ⟨m', hm', by rw [(h.ok.at_ m' hm').2.1, q1]; exact e⟩ c
    · rw [q]; exact e
theorem after_ok {L : List Str} {D : Str → Str} {ms : List (Str × Str × Str)} (ok : DlOk L D) (h : MvOk L D ms) : DlOk L (after D ms) := ⟨ok.nd, ok.n, ok.so, ok.w, fun l hl => by
  rcases after_cases D ms l with ⟨m, hm, _, q⟩ | q
  · rw [q]; exact (h.w m hm).2.2
  · rw [q]; exact ok.v l hl⟩
/-- what is told of a History that was found -/
structure HiOk (U L : List Str) (D : Str → Str) (Bs : List Bn) (Es : List (Str → Str)) (m : Int) (ps : List Int) : Prop where
  whole : Whole L D Bs m
  win : Paired (fun E B => Within' L E B) Es Bs
  eq : pth L D Es = m
  cln : Chain L D Es
  ok : ∀ E ∈ Es, DlOk L E ∧ ∀ l ∈ L, E l ∈ U
  pl : ps.length = Bs.length
  pb : ∀ p ∈ ps, -10000 ≤ p ∧ p ≤ 10000
  bb : ∀ ns c, NmOf L D Bs ns → (∀ r ∈ ns, IsMin (c r) (cntI D L r) (limsOf Bs L.length r) ps) → sumOf ns c = m
theorem mv_len {L : List Str} {D : Str → Str} {ms : List (Str × Str × Str)} (h : MvOk L D ms) : ms.length ≤ L.length := by
  have := K55M.nodup_le (ms.map (·.1)) L h.nd fun x hx => by
    obtain ⟨m, hm, rfl⟩ := List.mem_map.mp hx
    exact (h.at_ m hm).1
  rw [List.length_map] at this
  exact this
theorem within_cnt {L ns : List Str} {E : Str → Str} {B : Bn} (hB : ∀ r ∈ B.rs, r ∈ ns) (hE : ∀ l ∈ L, E l ∈ ns) (h : ∀ r ∈ ns, B.low r ≤ cntI E L r ∧ cntI E L r ≤ B.high r) : Within' L E B := by
  refine ⟨fun l hl => ?_, fun r hr => ?_⟩
  · by_cases m : E l ∈ B.rs
    · exact m
    · have h1 := (h (E l) (hE l hl)).2
      rw [show B.high (E l) = 0 from if_neg m] at h1
      have : l ∈ L.filter fun x => decide (E x = E l) := List.mem_filter.mpr ⟨hl, decide_eq_true rfl⟩
      have h2 := List.length_pos_of_mem this
      unfold cntI at h1
      omega
  · have := h r (hB r hr)
    rw [show B.low r = B.lo r from if_pos hr, show B.high r = B.hi r from if_pos hr] at this
    exact this
theorem paired_snoc' {α β : Type} {F : α → β → Prop} {xs : List α} {ys : List β} {x : α} {y : β} (h : Paired F xs ys) (r : F x y) : Paired F (xs ++ [x]) (ys ++ [y]) := paired_app h (.cons r .nil)
theorem lst_snoc (D : Str → Str) (Es : List (Str → Str)) (E : Str → Str) : lst D (Es ++ [E]) = E := by rw [lst_app]; rfl
theorem pth_snoc (L : List Str) (D : Str → Str) (Es : List (Str → Str)) (E : Str → Str) : pth L D (Es ++ [E]) = pth L D Es + chg L (lst D Es) E := by
  rw [pth_app]
  show _ + (chg L (lst D Es) E + 0) = _
  omega
/-- how far least_history is -/
structure LHs (U L : List Str) (D : Str → Str) (Bs : List Bn) (ns : List Str) (f : LB → Int) (i : Nat) (Es : List (Str → Str)) : Prop where
  cnt : ∀ r ∈ ns, cntI (lst D Es) L r = lf (layOf L D Bs ns) f i r
  pc : pth L D Es = su (List.range i) fun t => su ns fun r => max 0 (lf (layOf L D Bs ns) f t r - lf (layOf L D Bs ns) f (t + 1) r)
  cln : Chain L D Es
  ok : ∀ E ∈ Es, DlOk L E ∧ ∀ l ∈ L, E l ∈ U
  lo : DlOk L (lst D Es)
  ln : ∀ l ∈ L, lst D Es l ∈ ns
  win : Paired (fun E B => Within' L E B) Es (Bs.take i)
theorem LHs.step {U L : List Str} {D : Str → Str} {Bs : List Bn} {ns : List Str} {f : LB → Int} {i : Nat} {Es : List (Str → Str)} {ms : List (Str × Str × Str)} (h : LHs U L D Bs ns f i Es) (ok : HOk U L D Bs) (hn : NmOf L D Bs ns) (hi : i < Bs.length)
    (W : (layOf L D Bs ns).Loads (lf (layOf L D Bs ns) f)) (m : Mvs L (lst D Es) ns (cntI (lst D Es) L) (lf (layOf L D Bs ns) f (i + 1)) ms) : LHs U L D Bs ns f (i + 1) (Es ++ [after (lst D Es) ms]) ∧ pth L D (Es ++ [after (lst D Es) ms]) = pth L D Es + ms.length := by
  have hU : ∀ r ∈ ns, r ∈ U := fun r hr => by
    rcases (hn.2.1 r).mp hr with ⟨l, hl, rfl⟩ | ⟨B, hB, hr⟩
    · exact ok.du l hl
    · exact ok.bu B hB r hr
  have e1 : pth L D (Es ++ [after (lst D Es) ms]) = pth L D Es + ms.length := by rw [pth_snoc, chg_after ok.dl.nd _ ms m.ok]
  have hln : ∀ l ∈ L, after (lst D Es) ms l ∈ ns := fun l hl => by
    rcases after_cases (lst D Es) ms l with ⟨x, hx, _, q⟩ | q
    · rw [q]; exact (m.to x hx).1
    · rw [q]; exact h.ln l hl
  have hok := after_ok h.lo m.ok
  have hBi : Bs[i]? = some Bs[i] := List.getElem?_eq_getElem hi
  refine ⟨⟨fun r hr => by rw [lst_snoc]; exact m.ld r hr, ?_, h.cln.snoc m.clean, fun E hE => ?_, by rw [lst_snoc]; exact hok, by rw [lst_snoc]; exact hln, ?_⟩, e1⟩
  · rw [e1, h.pc, m.len, List.range_succ, K55M.su_append, K55M.su_cons, K55M.su_nil]
    have : sumOf ns (fun r => max 0 (cntI (lst D Es) L r - lf (layOf L D Bs ns) f (i + 1) r)) = su ns fun r => max 0 (lf (layOf L D Bs ns) f i r - lf (layOf L D Bs ns) f (i + 1) r) := sumOf_congr fun r hr => by rw [h.cnt r hr]
    omega
  · rcases List.mem_append.mp hE with hE | hE
    · exact h.ok E hE
    · rw [List.mem_singleton] at hE
      rw [hE]
      exact ⟨hok, fun l hl => hU _ (hln l hl)⟩
  · rw [take_succ_at hBi]
    refine paired_snoc' h.win (within_cnt (ns := ns) (fun r hr => (hn.2.1 r).mpr (.inr ⟨_, List.getElem_mem hi, hr⟩)) hln fun r hr => ?_)
    rw [m.ld r hr]
    have h1 := W.lo i hi r hr
    have h2 := W.hi i hi r hr
    have e : (layOf L D Bs ns).lim i r = (Bs[i].low r, Bs[i].high r) := by
      show ((Bs.getD i default).low r, (Bs.getD i default).high r) = _
      rw [getD_of hBi]
    rw [e] at h1 h2
    exact ⟨h1, h2⟩
section
variable {w : World} {K : PySem.W.Frag} {mg : Str → Option Value} {base : Heap}
/-! ### least_history -/
def spLeastHistory (K : PySem.W.Frag) : Sp := fun vs H Q E => ∃ (d h : Addr) (U L : List Str) (D : Str → Str) (Bs : List Bn), vs = [.ref d, .ref h] ∧ DlAt H d L D ∧ HistAt H h Bs ∧ HOk U L D Bs ∧
  ((∀ B ∈ Bs, B.Can L.length) → ∀ x H' Es m ps, Ex H H' → HiAt K H' x L Es m ps → HiOk U L D Bs Es m ps → Q (.ref x) H') ∧ ((∃ B ∈ Bs, ¬ B.Can L.length) → ∀ x H', Ex H H' → E (.ref (nD K)) (some x) H')
theorem sc_least_history : FnScope ["deal", "history", "layers", "deals", "now", "moves", "tick", "goals", "steps"] ["deal", "history"] (defScope s_least_history) := ⟨rfl, rfl, rfl, by decide +kernel, rfl, by decide +kernel, by decide +kernel⟩
theorem ok_least_history (T : Txt K mg) : Ent P w K mg base (L2.CX P w) 8 "least_history" ["deal", "history"] [] (spLeastHistory K) := by
  obtain ⟨fd, F⟩ := T.f_least_history
  have e_check_history := ok_check_history (w := w) (base := base) T
  have e_moves_between := ok_moves_between (P := P) (w := w) (base := base) T
  have e_moved := ok_moved (P := P) (w := w) (base := base) T
  have e_loads_of := ok_loads_of (P := P) (w := w) (base := base) T
  have em_Layers_loads := ok_Layers_loads (P := P) (w := w) (base := base) T
  have em_Layers_prices := ok_Layers_prices (P := P) (w := w) (base := base) T
  have e_Layers := ok_Layers_init (P := P) (w := w) (base := base) T
  have e_History := ok_History_init (P := P) (w := w) (base := base) T
  refine Ent.mk' T.g_least_history F (L2.FunD.ok F sc_least_history (fun vs H Q E h => ?_) (fun cdv A outer s H vs Q E hr h => ?_)) (fun _ _ _ _ _ _ us hl => match us, hl with | [_, _], _ => rfl)
  · obtain ⟨d, h, U, L, D, Bs, rfl, hd, hh, ok, q, qE⟩ := h
    rfl
  · obtain ⟨d, h, U, L, D, Bs, rfl, hd, hh, ok, q, qE⟩ := h
    refine ⟨_, (pss_cons (ps_expr (pe_e e_check_history (hr.mono (by decide)) (L2.passes_call (L2.takes_of rfl rfl rfl rfl) (fun _ _ _ _ h => h)) (pa_cons (pv 0) (pa_cons (pv 1) pa_nil))))
      (pss_cons (ps_set (i := 2) sc_least_history.nd rfl (Or.inl rfl) (pe_ec e_Layers (hr.mono (by decide)) pass0 (pa_cons (pv 0) (pa_cons (pv 1) pa_nil))))
      (pss_cons (ps_par3 (i := 3) (j := 4) (l := 5) rfl sc_least_history.nd rfl rfl rfl (by decide) (by decide) (by decide) rfl rfl rfl (pa_cons (pe_lst pa_nil) (pa_cons (pe_callTy call_dictD (by rfl) T.n_dict (by decide +kernel) (pa_cons (pv 0) pa_nil)) (pa_cons pe_int pa_nil))) rfl)
      (pss_cons (ps_for (L2.passes_of rfl) rfl (pi_range2 rfl T.n_range (pa_cons pe_int (pa_cons (pe_op op_add (pe_callB (call_lenK (K := K) rfl) (by rfl) T.n_len PySem.boot_len (pa_cons (pv 1) pa_nil)) pe_int) pa_nil))) (pg_name (i := 6) sc_least_history.nd rfl (Or.inl rfl)) (pss_cons (ps_set (i := 7) sc_least_history.nd rfl (Or.inl rfl) (pe_em em_Layers_loads T.c_Layers (pv 2) (hr.mono (by decide)) pass0 (pa_cons (pv 6) pa_nil)))
      (pss_cons (ps_set (i := 8) sc_least_history.nd rfl (Or.inl rfl) (pe_e e_moves_between (hr.mono (by decide)) pass0 (pa_cons (pv 4) (pa_cons (pe_e e_loads_of (hr.mono (by decide)) pass0 (pa_cons (pv 4) (pa_cons (pe_fldK (K := K) rfl (pv 2) rfl) pa_nil))) (pa_cons (pv 7) pa_nil)))))
      (pss_cons (ps_set (i := 4) sc_least_history.nd rfl (Or.inl rfl) (pe_e e_moved (hr.mono (by decide)) pass0 (pa_cons (pv 4) (pa_cons (pv 8) pa_nil))))
      (pss_cons (ps_aug (i := 5) sc_least_history.nd rfl (Or.inl rfl) (pe_callB (call_lenK (K := K) rfl) (by rfl) T.n_len PySem.boot_len (pa_cons (pv 8) pa_nil)) ip_add)
      (pss_one (ps_expr (pe_bm PySem.F.plainAttrs_list PySem.F.slot_list_append PySem.F.type_list_append mt_append (pv 3) (pa_cons (pv 4) pa_nil)))))))))
      (pss_one (ps_ret (pe_ec e_History (hr.mono (by decide)) pass0 (pa_cons (pv 3) (pa_cons (pv 5) (pa_cons (pe_em0 em_Layers_prices T.c_Layers (pv 2) (hr.mono (by decide)) pass0) pa_nil)))))))))), ?_⟩
    refine ⟨_, rfl, _, rfl, d, h, U, L, D, Bs, rfl, hd, hh, ok, fun can H1 e1 => ?_, qE⟩
    refine ⟨_, rfl, _, rfl, fun x dx hx hdx hne => ?_⟩
    have b1 := ok.b1
    have b2 := ok.b2
    have l20 := ok.l
    refine ⟨x, dx, d, h, U, L, D, Bs, rfl, upd_same, (ex_upd (Ex.new hdx) hx) _ _ (e1 _ _ hd), (hh.ex e1).ex (ex_upd (Ex.new hdx) hx), ok, can, fun H3 ns f eb hn hl W => ⟨rfl, ?_⟩⟩
    have e3 := e1.trans (mk_ex hx hdx eb)
    have O := layOf_ok ok hn
    have lo := flow_lo ok hn can W
    have WL := W.loads O lo
    have n20 := hn.2.2
    have nsw : ∀ r ∈ ns, isW r = true := fun r hr => by
      rcases (hn.2.1 r).mp hr with ⟨l, hl, rfl⟩ | ⟨B, hB, hr⟩
      · exact ok.dl.v l hl
      · exact (ok.bo B hB).w r hr
    have nso : ∀ r ∈ (layOf L D Bs ns).names, PyData.strOk r = true := fun r hr => isW_strOk (nsw r hr)
    have lab : (layOf L D Bs ns).labs.length ≤ 2000 := by
      rw [Lay_labs_len]
      show ns.length + Bs.length * (4 * ns.length) + ns.length ≤ 2000
      have : Bs.length * (4 * ns.length) ≤ 12 * (4 * ns.length) := Nat.mul_le_mul_right _ b2
      omega
    clear eb
    dsimp only [tSeq_ap, tAsg_ap, gName_ap, tC_ap, tNext_ap, tRet_ap, tAndV_ap, tCB_ap, tCons_ap, tNil_ap, tB_ap, tTest_ap, tNot_ap, tOr_ap, tAnd_ap, tIfS_ap, tOp_ap, tDrop_ap]
    refine ⟨by rw [sizeLine_eq]; decide, fun pd hpd => ?_⟩
    have e4 : Ex H3 (upd H3 pd (.lst [])) := Ex.new hpd
    have hpd4 : upd H3 pd (.lst []) pd = some (.lst []) := upd_same
    generalize upd H3 pd (.lst []) = H4 at e4 hpd4
    refine ⟨_, rfl, d, _, rfl, .inl (e4 _ _ (e3 _ _ hd)), fun a0 ha0 => ?_⟩
    refine ⟨_, _, _, rfl, ?_⟩
    have e5 : Ex H4 (upd H4 a0 (.dK (kd L fun l => .str (D l)))) := Ex.new ha0
    have ha5 : DlAt (upd H4 a0 (.dK (kd L fun l => .str (D l)))) a0 L D := upd_same
    generalize upd H4 a0 (.dK (kd L fun l => .str (D l))) = H5 at e5 ha5
    have e35 := e4.trans e5
    obtain ⟨as, hh1, hh2⟩ := hh
    have lenB := Paired.length hh2
    have hh5 := e35 _ _ (e3 _ _ hh1)
    have hT : (((as.map V.ref).length : Nat) : Int) = Bs.length := by rw [List.length_map, lenB]
    dsimp only [tSeq_ap, tAsg_ap, gName_ap, tC_ap, tNext_ap, tRet_ap, tAndV_ap, tCB_ap, tCons_ap, tNil_ap, tB_ap, tTest_ap, tNot_ap, tOr_ap, tAnd_ap, tIfS_ap, tOp_ap, tDrop_ap]
    refine ⟨_, rfl, _, _, rfl, lenL (sql hh5), _, _, rfl, rfl, _, _, rfl, ⟨by omega, by omega, by rw [hT]; omega, by rw [hT]; omega⟩, ?_⟩
    have hnT : ((((as.map V.ref).length : Nat) : Int) + 1 - 1).toNat = Bs.length := by rw [hT]; omega
    rw [hnT]
    refine forr (fun i σ' H' => ∃ (Es : List (Str → Str)) (a : Addr) (x6 x7 x8 : Option V), σ' = [some (V.ref d), some (.ref h), some (.ref x), some (.ref pd), some (.ref a), some (.int (pth L D Es)), x6, x7, x8] ∧ Ex H3 H' ∧ DealsAt H' pd L Es ∧ DlAt H' a L (lst D Es) ∧ LHs U L D Bs ns f i Es)
      ⟨[], a0, _, _, _, rfl, e35, ⟨[], e5 _ _ hpd4, .nil⟩, ha5, ⟨fun r _ => rfl, rfl, True.intro, fun E hE => (by cases hE), ok.dl, fun l hl' => (hn.2.1 _).mpr (.inl ⟨l, hl', rfl⟩), .nil⟩⟩ (fun i σ' H' hi pv => ?_) fun σ' H' pv => ?_
    · obtain ⟨Es, a, x6, x7, x8, rfl, e, hdl, ha, st⟩ := pv
      obtain ⟨dxl, n, h', fl, fdx, el, nd, E', k1, k2, ⟨as', k3, k4⟩, k5⟩ := hl.ex e
      rw [show (1 : Int) + (i : Int) = (i : Int) + 1 by omega]
      refine ⟨_, rfl, x, dxl, _, rfl, k1, rfl, _, rfl, ?_⟩
      refine ⟨x, layOf L D Bs ns, f, i, rfl, hl.ex e, O, hi, nso, by omega, fun pg H6 hpg e6 hg6 => ?_⟩
      refine ⟨_, rfl, _, rfl, _, rfl, x, _, dxl, _, _, rfl, e6 _ _ k1, T.c_Layers, T.a_Layers_names, rfl, ?_⟩
      refine ⟨a, n, L, lst D Es, ns, rfl, e6 _ _ ha, by omega, hn.1, by omega, st.ln, .inl (sql (e6 _ _ k2)), fun pb H7 hpb e7 hb7 => ?_⟩
      refine ⟨_, rfl, ?_⟩
      refine ⟨a, pb, pg, L, lst D Es, ns, ns, lf (layOf L D Bs ns) f (i + 1), rfl, e7 _ _ (e6 _ _ ha), st.lo, hb7, e7 _ _ hg6, fun r hr => hr, fresh_ne hg6 hpb, hn.1, by omega, nsw, st.ln, ?_, fun r hr => WL.nonneg O (i + 1) hi r hr, fun pm H8 ms hpm e8 hms hmv => ?_⟩
      · rw [sumOf_congr (fun r hr => st.cnt r hr)]
        exact (WL.total O i (by show i ≤ Bs.length; omega)).trans (WL.total O (i + 1) hi).symm
      have ln := mv_len hmv.ok
      obtain ⟨nst, npth⟩ := st.step ok hn hi WL hmv
      refine ⟨_, rfl, _, rfl, a, pm, L, lst D Es, ms, rfl, e8 _ _ (e7 _ _ (e6 _ _ ha)), by omega, hms, hmv.ok, by omega, fun pn H9 hpn e9 hn9 => ?_⟩
      obtain ⟨tms, hms1, hms2⟩ := hms
      have e69 : Ex H' H9 := e6.trans (e7.trans (e8.trans e9))
      have lms := Paired.length hms2
      dsimp only [tSeq_ap, tAsg_ap, gName_ap, tC_ap, tNext_ap, tRet_ap, tAndV_ap, tCB_ap, tCons_ap, tNil_ap, tB_ap, tTest_ap, tNot_ap, tOr_ap, tAnd_ap, tIfS_ap, tOp_ap, tDrop_ap]
      refine ⟨_, rfl, _, rfl, _, _, rfl, lenL (sql (e9 _ _ hms1)), _, _, rfl, rfl, ?_⟩
      obtain ⟨ts, hd1, hd2⟩ := hdl
      have lts := Paired.length hd2
      have lEs : Es.length = i := by rw [st.win.length, List.length_take]; omega
      refine ⟨_, rfl, .inl ⟨rfl, _, sql (e69 _ _ hd1)⟩, _, rfl, pd, _, _, rfl, rfl, e69 _ _ hd1, by rw [List.length_map]; exact sz_lt (by omega), ?_⟩
      have nep : ∀ {t : Addr} {E : Str → Str}, DlAt H9 t L E → t ≠ pd := fun {t E} h2 h3 => by
        have h1 := e69 _ _ hd1
        have h2 : H9 t = some (.dK _) := h2
        rw [h3, h1] at h2
        cases h2
      refine ⟨Es ++ [after (lst D Es) ms], pn, some (.int ((i : Int) + 1)), some (.ref pg), some (.ref pm), ?_, ex_upd (e.trans e69) hpd, ⟨ts ++ [pn], ?_, paired_snoc' (Paired.mapP hd2 fun t E ht => (upd_ne (nep (e69 _ _ ht))).trans (e69 _ _ ht)) ((upd_ne (nep hn9)).trans hn9)⟩, ?_, nst⟩
      · rw [npth, List.length_map, lms]
        rfl
      · rw [List.map_append]; exact upd_same
      · rw [lst_snoc]; exact (upd_ne (nep hn9)).trans hn9
    · obtain ⟨Es, a, x6, x7, x8, rfl, e, hdl, ha, st⟩ := pv
      obtain ⟨dxl, n, h', fl, fdx, el, nd, E', k1, k2, ⟨as', k3, k4⟩, k5⟩ := hl.ex e
      have hwin := st.win
      rw [List.take_of_length_le (Nat.le_refl _)] at hwin
      have hEs := hwin.length
      refine ⟨_, rfl, _, rfl, _, rfl, x, dxl, _, rfl, k1, rfl, ?_⟩
      have nn : 0 < ns.length := by
        have hB : Bs[0]? = some Bs[0] := List.getElem?_eq_getElem (by omega)
        have okB := ok.bo _ (mem_of_at hB)
        have n1 := okB.n1
        obtain ⟨r, hr⟩ : ∃ r, r ∈ Bs[0].rs := List.exists_mem_of_length_pos n1
        exact List.length_pos_of_mem ((hn.2.1 r).mpr (.inr ⟨_, mem_of_at hB, hr⟩))
      refine ⟨x, layOf L D Bs ns, f, rfl, hl.ex e, O, W, lo, nn, b2, lab, fun pp H6 y hpp e6 hA h0 hb hpr => ?_⟩
      refine fun xh dxh hxh hdxh hneh => ?_
      have e7 : Ex H6 (upd (upd H6 dxh (.own xh)) xh (.ins (He.ga K "History") dxh [])) := ex_upd (Ex.new hdxh) hxh
      generalize hH7 : upd (upd H6 dxh (.own xh)) xh (.ins (He.ga K "History") dxh []) = H7 at e7
      refine ⟨xh, dxh, pd, pp, L, Es, pth L D Es, _, rfl, by rw [← hH7]; exact upd_same, (hdl.ex e6).ex e7, by omega, e7 _ _ hpr, fun H8 eb8 hi8 => ⟨rfl, ?_⟩⟩
      have e8 : Ex H6 H8 := mk_ex hxh hdxh (by rw [hH7]; exact eb8)
      have hpc : pth L D Es = (layOf L D Bs ns).pc (lf (layOf L D Bs ns) f) := st.pc
      refine q can xh H8 Es (pth L D Es) _ (e3.trans (e.trans (e6.trans e8))) hi8 ⟨flow_whole ok hn can W hA h0 hwin hpc, hwin, rfl, st.cln, st.ok, by rw [List.length_map, List.length_range]; rfl, fun p hp => ?_, fun ns' c hn' hc => ?_⟩
      · obtain ⟨t, _, rfl⟩ := List.mem_map.mp hp
        have := hb (.hub (t + 1))
        omega
      · have hp : ns'.Perm ns := (List.perm_ext_iff_of_nodup hn'.1 hn.1).mpr fun r => (hn'.2.1 r).trans (hn.2.1 r).symm
        rw [sumOf_perm hp]
        rw [flow_bound ok hn can W hA h0 c fun r hr => hc r (hp.mem_iff.mpr hr), hpc]
end
end K55


set_option Elab.async false
set_option linter.all false
set_option maxRecDepth 100000
set_option maxHeartbeats 4000000
namespace K55
open PySem PySem.Spec PyProof.Rows L2 Evl
open K55M (Nd Lb Net Arc Lay FlowOk Plan lab4 su lf IsMin)
theorem rd_of {H H1 : Hp} {a b : Addr} {L L' : List Str} {g g' : Str → V} (h : KD H a L g) (k : KD H b L' g') (e : ExB a H H1) (rd : Rd H1 a (.dK (kd L g))) : Rd H1 b (.dK (kd L' g')) := by
  by_cases q : b = a
  · subst q
    have h : H b = some (.dK (kd L g)) := h
    have k : H b = some (.dK (kd L' g')) := k
    rw [h] at k
    have k := Option.some.inj k
    injection k with k
    rw [← k]
    exact rd
  · exact .inl (e _ _ q k)
theorem sum_ones (L : List Str) (p : Str → Bool) : ((L.filter p).map fun _ => (1 : Int)).sum = ((L.filter p).length : Int) := by
  induction L.filter p with
  | nil => rfl
  | cons x xs ih => rw [List.map_cons, List.sum_cons, ih, List.length_cons]; push_cast; omega
theorem lst_take {D : Str → Str} {Es : List (Str → Str)} {i : Nat} {E : Str → Str} (h : Es[i]? = some E) : lst D (Es.take (i + 1)) = E := by rw [take_succ_at h, lst_snoc]
theorem pth_take {L : List Str} {D : Str → Str} {Es : List (Str → Str)} {i : Nat} {E : Str → Str} (h : Es[i]? = some E) : pth L D (Es.take (i + 1)) = pth L D (Es.take i) + chg L (lst D (Es.take i)) E := by rw [take_succ_at h, pth_snoc]
section
variable {w : World} {K : PySem.W.Frag} {mg : Str → Option Value} {base : Heap}
/-! ### History.shows -/
def spHistoryShows (K : PySem.W.Frag) : Sp := fun vs H Q E => ∃ (x d h : Addr) (U L : List Str) (D : Str → Str) (Bs : List Bn) (Es : List (Str → Str)) (m : Int) (ps : List Int), vs = [.ref x, .ref d, .ref h] ∧ HiAt K H x L Es m ps ∧ HiOk U L D Bs Es m ps ∧ DlAt H d L D ∧ HistAt H h Bs ∧ HOk U L D Bs ∧
  (∀ B ∈ Bs, B.Can L.length) ∧ ∀ H', Ex H H' → Q (.bl true) H'
theorem sc_History_shows : FnScope ["self", "deal", "history", "price", "found", "now", "late", "bounds", "lane"] ["self", "deal", "history"] (defScope s_History_shows) := ⟨rfl, rfl, rfl, by decide +kernel, rfl, by decide +kernel, by decide +kernel⟩
theorem ok_History_shows (T : Txt K mg) : EntM P w K mg base CX0 4 (He.ga K "History") "shows" ["self", "deal", "history"] (spHistoryShows K) := by
  obtain ⟨fd, F⟩ := T.f_History_shows
  have e_check_history := ok_check_history (w := w) (base := base) T
  have e_bound_by := ok_bound_by (P := P) (w := w) (base := base) T
  have e_is_within := ok_is_within (P := P) (w := w) (base := base) T
  refine EntM.mk' T.m_History_shows F (FunD.ok0 F sc_History_shows (fun vs H Q E h => ?_) (fun cdv A outer s H vs Q E hr h => ?_)) (fun _ _ _ _ _ _ us hl => match us, hl with | [_, _, _], _ => rfl)
  · obtain ⟨x, d, h, U, L, D, Bs, Es, m, ps, rfl, hx, hk, hd, hh, ok, can, q⟩ := h
    rfl
  · obtain ⟨x, d, h, U, L, D, Bs, Es, m, ps, rfl, hx, hk, hd, hh, ok, can, q⟩ := h
    refine ⟨_, (pss_cons (ps_expr (pe_e e_check_history (hr.mono (by decide)) L2.passL (pa_cons (pv 1) (pa_cons (pv 2) pa_nil))))
      (pss_cons (ps_if (PW.pt (pw_or (pt_cmpR op_ne (pe_callB (call_lenK (K := K) rfl) (by rfl) T.n_len PySem.boot_len (pa_cons (pe_fldK (K := K) rfl (pv 0) rfl) pa_nil)) (pe_callB (call_lenK (K := K) rfl) (by rfl) T.n_len PySem.boot_len (pa_cons (pv 2) pa_nil)) (nomark _)) (pw_or1 (pt_cmpR op_ne (pe_callB (call_lenK (K := K) rfl) (by rfl) T.n_len PySem.boot_len (pa_cons (pe_fldK (K := K) rfl (pv 0) rfl) pa_nil)) (pe_callB (call_lenK (K := K) rfl) (by rfl) T.n_len PySem.boot_len (pa_cons (pv 2) pa_nil)) (nomark _))))) (pss_one (ps_ret pe_bl)) pss_nil)
      (pss_cons (ps_if (pt_not (pt_val (pe_callB (cr_allK (K := K) rfl rfl) (by rfl) T.n_all (by decide +kernel) (pa_cons (pe_lc (own := [("price", 3)]) (g := gName 3) (tt := tYes) rfl sc_History_shows.nd (pi_listK (K := K) rfl (pe_fldK (K := K) rfl (pv 0) rfl)) (blkOk_by (N := ["self", "deal", "history", "price", "found", "now", "late", "bounds", "lane"]) (sc := defScope s_History_shows) (by decide +kernel)) (fun _ _ _ _ _ => (pg_name (i := 3) sc_History_shows.nd rfl (Or.inl rfl))) (fun _ _ _ _ _ => pts_nil) (fun _ _ _ _ _ => (pe_and (pe_callB (call_isiK (K := K) rfl) (by rfl) T.n_isinstance (by decide +kernel) (pa_cons (pv 3) (pa_cons (pe_bltn (v := .ty "int") (by rfl) T.n_int (by decide +kernel) rfl) pa_nil))) (pe_one (pe_not (pe_callB (call_isiK (K := K) rfl) (by rfl) T.n_isinstance (by decide +kernel) (pa_cons (pv 3) (pa_cons (pe_bltn (v := .ty "bool") (by rfl) T.n_bool (by decide +kernel) rfl) pa_nil)))))))) pa_nil)))) (pss_one (ps_ret pe_bl)) pss_nil)
      (pss_cons (ps_asg (pe_tup (pa_cons pe_int (pa_cons (pv 1) pa_nil))) (pg_tup rfl (pgs_cons (pg_name (i := 4) sc_History_shows.nd rfl (Or.inl rfl)) (pgs_cons (pg_name (i := 5) sc_History_shows.nd rfl (Or.inr rfl)) pgs_nil))))
      (pss_cons (ps_for PassesOwn.never rfl (pi_zip rfl T.n_zip (pa_cons (pe_fldK (K := K) rfl (pv 0) rfl) (pa_cons (pv 2) pa_nil))) (pg_tup rfl (pgs_cons (pg_name (i := 6) sc_History_shows.nd rfl (Or.inr rfl)) (pgs_cons (pg_name (i := 7) sc_History_shows.nd rfl (Or.inl rfl)) pgs_nil))) (pss_cons (ps_if (pt_not (pt_val (pe_e e_is_within (hr.mono (by decide)) pass0 (pa_cons (pv 6) (pa_cons (pv 7) (pa_cons (pv 1) pa_nil)))))) (pss_one (ps_ret pe_bl)) pss_nil)
      (pss_cons (ps_aug (i := 4) sc_History_shows.nd rfl (Or.inl rfl) (pe_callB (cr_sumK (K := K) rfl rfl) (by rfl) T.n_sum (by decide +kernel) (pa_cons (pe_lock (pe_lc (own := [("lane", 8)]) (g := gName 8) (tt := _) rfl sc_History_shows.nd (pi_keys (pv 1)) (blkOk_by (N := ["self", "deal", "history", "price", "found", "now", "late", "bounds", "lane"]) (sc := defScope s_History_shows) (by decide +kernel)) (fun _ _ _ _ _ => (pg_name (i := 8) sc_History_shows.nd rfl (Or.inl rfl))) (fun _ _ _ _ _ => (pts_one (pt_cmpR op_ne (pe_dget (hu_of hr) (pv 5) (pv 8) (fun _ _ => rfl)) (pe_dget (hu_of hr) (pv 6) (pv 8) (fun _ _ => rfl)) (nomark _)))) (fun _ _ _ _ _ => pe_int))) pa_nil)) ip_add)
      (pss_one (ps_set (i := 5) sc_History_shows.nd rfl (Or.inr rfl) (pv 6))))))
      (pss_one (ps_ret (pe_chain op_eq op_eq (pv 4) (pe_fldK (K := K) rfl (pv 0) rfl) (pe_e e_bound_by (hr.mono (by decide)) pass0 (pa_cons (pv 1) (pa_cons (pv 2) (pa_cons (pe_fldK (K := K) rfl (pv 0) rfl) pa_nil)))))))))))), ?_⟩
    have b1 := ok.b1
    have b2 := ok.b2
    have l20 := ok.l
    refine ⟨_, rfl, _, rfl, d, h, U, L, D, Bs, rfl, hd, hh, ok, fun _ H1 e1 => ?_, fun ⟨B, hB, hn⟩ => absurd (can B hB) hn⟩
    obtain ⟨dx, a, p, h1, ⟨ts, h2, h2'⟩, h3⟩ := hx.ex e1
    obtain ⟨as, hh1, hh2⟩ := hh.ex e1
    have lB := hh2.length
    have lE := h2'.length
    have lW := hk.win.length
    have lp := hk.pl
    dsimp only [tSeq_ap, tAsg_ap, gName_ap, tC_ap, tNext_ap, tRet_ap, tAndV_ap, tCB_ap, tCons_ap, tNil_ap, tB_ap, tTest_ap, tNot_ap, tOr_ap, tAnd_ap, tIfS_ap, tOp_ap, tDrop_ap]
    refine ⟨_, rfl, x, _, dx, _, _, rfl, h1, T.c_History, T.a_History_deals, rfl, _, _, rfl, lenL (sql h2), _, rfl, _, _, rfl, lenL (sql hh1), rfl, false, ?_, iteF ?_⟩
    · rw [List.length_map, List.length_map, lE, lW, lB, decide_eq_true rfl]; rfl
    refine ⟨_, rfl, x, _, dx, _, _, rfl, h1, T.c_History, T.a_History_prices, rfl, _, _, rfl, lenL (sql h3), _, rfl, _, _, rfl, lenL (sql hh1), rfl, false, ?_, iteF ?_⟩
    · rw [List.length_map, List.length_map, lp, lB, decide_eq_true rfl]; rfl
    refine lcv ps V.int (sql h3) (by omega) (fun Q' q' => ⟨_, rfl, x, _, dx, _, _, rfl, h1, T.c_History, T.a_History_prices, rfl, q'⟩) (fun _ => true) (fun _ => .bl true) (fun z hz H2 e2 Qy Qn g1 g2 => ⟨rfl, tyes ⟨_, rfl, _, _, _, _, true, rfl, .ty _, .base (.int z), kit_ty (by decide +kernel), true, rfl, iteT ⟨_, rfl, _, _, _, _, false, rfl, .ty _, .base (.int z), kit_ty (by decide +kernel), false, rfl, g1 rfl _ (Ex.refl _)⟩⟩⟩) fun p2 H2 hp2 e2 hl2 => ?_
    refine ⟨p2, ps.map fun _ => true, rfl, sql (by rw [hl2, List.map_map, List.filter_eq_self.mpr fun _ _ => rfl]; rfl), true, ?_, iteF ?_⟩
    · rw [List.all_eq_true.mpr fun b hb => by obtain ⟨_, _, rfl⟩ := List.mem_map.mp hb; rfl]
    refine ⟨_, rfl, le2, fun tt htt => ?_⟩
    have e3 : Ex H2 (upd H2 tt (.tup [.int 0, .ref d])) := Ex.new htt
    have htt2 : upd H2 tt (.tup [.int 0, .ref d]) tt = _ := upd_same
    generalize upd H2 tt (.tup [.int 0, .ref d]) = H3 at e3 htt2
    refine ⟨tt, _, rfl, sqt htt2, rfl, _, _, rfl, _, _, rfl, rfl, ?_⟩
    have e13 := e2.trans e3
    dsimp only [tSeq_ap, tAsg_ap, gName_ap, tC_ap, tNext_ap, tRet_ap, tAndV_ap, tCB_ap, tCons_ap, tNil_ap, tB_ap, tTest_ap, tNot_ap, tOr_ap, tAnd_ap, tIfS_ap, tOp_ap, tDrop_ap]
    refine ⟨_, rfl, x, _, dx, _, _, rfl, e13 _ _ h1, T.c_History, T.a_History_deals, rfl, _, rfl, a, h, _, _, rfl, sql (e13 _ _ h2), sql (e13 _ _ hh1), ?_⟩
    have lTA : (ts.map V.ref).length = (as.map V.ref).length := by rw [List.length_map, List.length_map, lE, lW, lB]
    refine for_src (Src.zip (G := H3) (sql (e13 _ _ h2)) (sql (e13 _ _ hh1)) lTA) (fun i σ' H' => ∃ na x6 x7 x8, σ' = [some (V.ref x), some (.ref d), some (.ref h), none, some (.int (pth L D (Es.take i))), some (.ref na), x6, x7, x8] ∧ Ex H3 H' ∧ DlAt H' na L (lst D (Es.take i)))
      ⟨d, _, _, _, rfl, Ex.refl _, e13 _ _ (e1 _ _ hd)⟩ (fun i σ' H' pv => by obtain ⟨_, _, _, _, _, h, _⟩ := pv; exact h) (fun i v σ' H' H4 hi pv e4 y => ?_) fun σ' H' pv => ?_
    · obtain ⟨na, x6, x7, x8, rfl, e, hna⟩ := pv
      obtain ⟨Tt, v1, v2, hv1, hv2, rfl, hT⟩ := y
      rw [List.getElem?_map] at hv1 hv2
      cases hz : ts[i]? with
      | none => rw [hz] at hv1; cases hv1
      | some t =>
      cases hz2 : as[i]? with
      | none => rw [hz2] at hv2; cases hv2
      | some b =>
      rw [hz] at hv1
      rw [hz2] at hv2
      cases hv1
      cases hv2
      obtain ⟨E', hE', htE⟩ := paired_at h2' hz
      obtain ⟨B, hB, hBb⟩ := paired_at hh2 hz2
      obtain ⟨B', hB', hw⟩ := paired_at hk.win hE'
      rw [hB] at hB'
      cases hB'
      have e14 := (e13.trans e).trans e4
      refine ⟨Tt, _, rfl, sqt hT, rfl, _, _, rfl, _, _, rfl, rfl, ?_⟩
      have hna4 := e4 _ _ hna
      have ht4 := e14 _ _ htE
      have hd4 := e14 _ _ (e1 _ _ hd)
      refine ⟨_, rfl, _, rfl, _, rfl, t, b, d, L, D, E', B, rfl, ht4, hBb.ex e14, hd4, ok.dl, ok.bo B (mem_of_at hB), hw, fun H5 e5 => ⟨true, rfl, iteF ?_⟩⟩
      refine ⟨_, rfl, ?_⟩
      have hd5 := e5 _ _ hd4
      have hna5 := e5 _ _ hna4
      have ht5 := e5 _ _ ht4
      refine lcd hd5 (by omega) (fun H1 Q' q' => ⟨_, rfl, q'⟩) (fun l => decide (lst D (Es.take i) l ≠ E' l)) (fun _ => .int 1) (fun z hz H6 eb rd Qy Qn g1 g2 => ⟨rfl, ?_⟩) fun pl H6 hpl e6 h6 => ?_
      · refine ⟨_, rfl, _, rfl, na, _, rfl, gk (rd_of hd5 hna5 eb rd) hz, _, rfl, _, rfl, t, _, rfl, gk (rd_of hd5 ht5 eb rd) hz, rfl, ?_⟩
        by_cases hq : lst D (Es.take i) z = E' z
        · refine ⟨false, ?_, iteF (g2 ?_ _ (Ex.refl _))⟩
          · rw [hq, decide_eq_true rfl]; rfl
          · exact decide_eq_false fun h => h hq
        · refine ⟨true, ?_, iteT (g1 ?_ _ (Ex.refl _))⟩
          · rw [decide_eq_false fun h => hq (by injection h)]; rfl
          · exact decide_eq_true hq
      refine ⟨pl, (L.filter fun l => decide (lst D (Es.take i) l ≠ E' l)).map (fun _ => (1 : Int)), rfl, sql (by rw [h6, List.map_map]; rfl), _, _, rfl, rfl, ?_⟩
      dsimp only [tSeq_ap, tAsg_ap, gName_ap, tC_ap, tNext_ap, tRet_ap, tAndV_ap, tCB_ap, tCons_ap, tNil_ap, tB_ap, tTest_ap, tNot_ap, tOr_ap, tAnd_ap, tIfS_ap, tOp_ap, tDrop_ap]
      refine ⟨_, rfl, t, some (.ref t), some (.ref b), x8, ?_, e.trans (e4.trans (e5.trans e6)), by rw [lst_take hE']; exact e6 _ _ ht5⟩
      rw [pth_take hE', sum_ones]
      rfl
    · obtain ⟨na, x6, x7, x8, rfl, e, hna⟩ := pv
      have e14 := e13.trans e
      rw [List.length_map, lE, List.take_of_length_le (Nat.le_refl _), hk.eq]
      refine ⟨_, rfl, _, rfl, x, _, dx, _, _, rfl, e14 _ _ h1, T.c_History, T.a_History_moves, rfl, rfl, true, congrArg V.bl (decide_eq_true rfl), iteT ?_⟩
      refine ⟨_, rfl, _, rfl, _, rfl, x, _, dx, _, _, rfl, e14 _ _ h1, T.c_History, T.a_History_prices, rfl, ?_⟩
      refine ⟨d, h, p, U, L, D, Bs, ps, rfl, e14 _ _ (e1 _ _ hd), (hh.ex e1).ex e14, ok, can, e14 _ _ h3, by omega, hk.pb, fun H5 ns c e5 hn hc => ⟨rfl, ?_⟩⟩
      rw [hk.bb ns c hn hc, decide_eq_true rfl]
      exact q H5 (e1.trans (e14.trans e5))
end
end K55


set_option Elab.async false
set_option linter.all false
set_option maxRecDepth 100000
set_option maxHeartbeats 4000000
namespace K55
open PySem PySem.Spec PyProof.Rows L2 Evl
theorem ints_dpAll {K : PySem.W.Frag} {H : Hp} : ∀ xs : List Int, DpAll K H (xs.map V.int) (xs.map PyData.int)
  | [] => .nil
  | x :: xs => .cons (.int x) (ints_dpAll xs)
theorem ints_canLay : ∀ xs : List Int, PyData.canLayAll0 (xs.map PyData.int) = true
  | [] => by simp [PyData.canLayAll0]
  | x :: xs => by
    simp only [List.map_cons, PyData.canLayAll0, PyData.canLay0, Bool.and_eq_true]
    exact ⟨trivial, ints_canLay xs⟩
theorem ints_depth : ∀ xs : List Int, PyData.depthAll (xs.map PyData.int) ≤ 1
  | [] => by simp [PyData.depthAll]
  | x :: xs => by
    have := ints_depth xs
    simp only [List.map_cons, PyData.depthAll, PyData.depth]
    omega
theorem ints_shaped (xs : List Int) : SeqAt.shaped (.list (xs.map PyData.int)) = true := by
  unfold SeqAt.shaped
  rw [Bool.and_eq_true, decide_eq_true_eq]
  refine ⟨by simp only [PyData.canLay0]; exact ints_canLay xs, ?_⟩
  have := ints_depth xs
  simp only [PyData.depth]
  omega
/-- xs == [] -/
theorem ints_eq_nil {K : PySem.W.Frag} {H : Hp} {a b : Addr} {xs : List Int} {Q : VK} (ha : SqL K H a (xs.map V.int)) (hb : H b = some (.lst [])) (q : Q (.bl xs.isEmpty) H) : rEqD K (.ref a) (.ref b) H Q := by
  refine ⟨_, _, .lst ha (ints_dpAll xs), .lst (sql (xs := []) hb) (ints_dpAll []), ints_shaped xs, ints_shaped [], ?_⟩
  cases xs with
  | nil => exact q
  | cons x xs => exact q
section
variable {P : Program} {w : World} {K : PySem.W.Frag} {mg : Str → Option Value} {base : Heap}
/-! ### _law_number -/
def spLawNumber (K : PySem.W.Frag) : Sp := fun vs H Q E => ∃ (s : Addr) (xs : List Int) (i : Int), vs = [.ref s, .int i] ∧ SqL K H s (xs.map V.int) ∧ xs.length ≤ 100000 ∧ 0 ≤ i ∧ i ≤ 100000 ∧ ∀ (n : Int) H', Ex H H' → 0 ≤ n → Q (.int n) H'
theorem sc_law_number : FnScope ["_law_script", "_law_index", "_law_cell", "_law_blend"] ["_law_script", "_law_index"] (defScope s_law_number) := ⟨rfl, rfl, rfl, by decide +kernel, rfl, by decide +kernel, by decide +kernel⟩
theorem ok_law_number (T : Txt K mg) : Ent P w K mg base CX0 1 "_law_number" ["_law_script", "_law_index"] [] (spLawNumber K) := by
  obtain ⟨fd, F⟩ := T.f_law_number
  refine Ent.mk' T.g_law_number F (FunD.ok0 F sc_law_number (fun vs H Q E h => ?_) (fun cdv A outer s H vs Q E hr h => ?_)) (fun _ _ _ _ _ _ us hl => match us, hl with | [_, _], _ => rfl)
  · obtain ⟨s, xs, i, rfl, hs, n5, i0, i1, q⟩ := h
    rfl
  · obtain ⟨s, xs, i, rfl, hs, n5, i0, i1, q⟩ := h
    refine ⟨_, (pss_cons (ps_if (pt_cmpR (op_eqDK (K := K) rfl hr.units) (pv 0) (pe_lst pa_nil) (nomark _)) (pss_one (ps_ret (pe_callTy call_int1 (by rfl) T.n_int (by decide +kernel) (pa_cons (pe_op op_mod (pe_op op_add (pe_op op_mul (pv 1) pe_int) pe_int) pe_int) pa_nil)))) pss_nil)
      (pss_cons (ps_set (i := 2) sc_law_number.nd rfl (Or.inl rfl) (pe_ix (ix_listK (K := K) rfl) (pv 0) (pe_op op_mod (pv 1) (pe_callB (call_lenK (K := K) rfl) (by rfl) T.n_len PySem.boot_len (pa_cons (pv 0) pa_nil))) (fun _ _ => rfl)))
      (pss_cons (ps_if (pt_cmpR op_ge (pe_callB call_abs (by rfl) T.n_abs (by decide +kernel) (pa_cons (pv 2) pa_nil)) (pe_op op_pow pe_int pe_int) (nomark _)) (pss_one (ps_set (i := 2) sc_law_number.nd rfl (Or.inl rfl) (pe_op op_mod (pv 2) (pe_op op_pow pe_int pe_int)))) pss_nil)
      (pss_cons (ps_set (i := 3) sc_law_number.nd rfl (Or.inl rfl) (pe_op op_mod (pe_op op_add (pe_op op_mul (pe_op op_add (pv 2) (pe_op op_mul pe_int (pv 1))) pe_int) (pe_op op_mul pe_int (pe_callB (call_lenK (K := K) rfl) (by rfl) T.n_len PySem.boot_len (pa_cons (pv 0) pa_nil)))) pe_int))
      (pss_one (ps_ret (pe_callTy call_int1 (by rfl) T.n_int (by decide +kernel) (pa_cons (pe_op op_mod (pe_op op_add (pe_op op_mul (pe_op op_mod (pe_op op_mul (pv 3) pe_int) pe_int) pe_int) (pv 1)) pe_int) pa_nil)))))))), ?_⟩
    refine ⟨_, rfl, by rw [sizeLine_eq]; decide, fun p hp => ints_eq_nil (ex_l (Ex.new hp) hs) upd_same ?_⟩
    have e1 : Ex H (upd H p (.lst [])) := Ex.new hp
    have hs1 := ex_l e1 hs
    generalize upd H p (.lst []) = H1 at e1 hs1
    refine ⟨xs.isEmpty, rfl, ?_⟩
    cases xs with
    | nil => exact iteT ⟨_, rfl, _, _, rfl, rfl, .inl ⟨by omega, by omega⟩, _, _, rfl, rfl, _, _, rfl, rfl, (show (0 : Int) < 2147483647 by decide), .inl ⟨_, rfl, q _ H1 e1 (Int.emod_nonneg _ (by decide))⟩⟩
    | cons z zs =>
    refine iteF ?_
    generalize hxs : z :: zs = xs at hs1 n5
    have hpos : 0 < xs.length := by rw [← hxs]; exact Nat.zero_lt_succ _
    have hlen : ((xs.map V.int).length : Int) = xs.length := by rw [List.length_map]
    have hm0 : 0 ≤ i % (xs.length : Int) := Int.emod_nonneg _ (by omega)
    have hm1 : i % (xs.length : Int) < xs.length := Int.emod_lt_of_pos _ (by omega)
    have hat : ∃ c, atI (xs.map V.int) (i % ((xs.map V.int).length : Int)) = some (.int c) := by
      obtain ⟨j, hj⟩ : ∃ j : Nat, i % (xs.length : Int) = j := ⟨_, (Int.toNat_of_nonneg hm0).symm⟩
      rw [hlen, hj]
      have hjl : j < xs.length := by omega
      exact ⟨xs[j], atI_nat (by rw [List.getElem?_map, List.getElem?_eq_getElem hjl]; rfl)⟩
    obtain ⟨c, hc⟩ := hat
    refine ⟨_, rfl, _, rfl, _, rfl, _, _, rfl, lenL (hs1), _, _, rfl, rfl, by rw [hlen]; omega, s, _, _, _, rfl, rfl, hs1, hc, ?_⟩
    dsimp only [gName_ap]
    refine seq_cut (fun σ' H' => ∃ c' x3, σ' = [some (V.ref s), some (.int i), some (.int c'), x3] ∧ Ex H1 H') (fun σ' H' pv => ?_) (fun R hR => ?_)
    · obtain ⟨c', x3, rfl, e2⟩ := pv
      have hs2 := ex_l e2 hs1
      dsimp only [tSeq_ap, tAsg_ap, gName_ap, tC_ap, tNext_ap, tRet_ap, tAndV_ap, tCB_ap, tCons_ap, tNil_ap, tB_ap, tTest_ap, tNot_ap, tOr_ap, tAnd_ap, tIfS_ap, tOp_ap, tDrop_ap]
      refine ⟨_, rfl, _, rfl, _, _, rfl, rfl, .inl ⟨by decide, by decide⟩, _, _, rfl, rfl, _, _, rfl, rfl, .inr ⟨by decide, by decide⟩, ?_⟩
      refine ⟨_, rfl, _, _, rfl, lenL (hs2), _, _, rfl, rfl, .inl ⟨by decide, by decide⟩, _, _, rfl, rfl, _, _, rfl, rfl, (show (0 : Int) < 2147483647 by decide), ?_⟩
      refine ⟨_, rfl, _, _, rfl, rfl, .inr ⟨by decide, by decide⟩, _, _, rfl, rfl, (show (0 : Int) < 2147483629 by decide), _, _, rfl, rfl, .inr ⟨by decide, by decide⟩, ?_⟩
      refine ⟨_, rfl, _, _, rfl, rfl, _, _, rfl, rfl, (show (0 : Int) < 2147483587 by decide), .inl ⟨_, rfl, ?_⟩⟩
      exact q _ H' (e1.trans e2) (Int.emod_nonneg _ (by decide))
    · dsimp only [tSeq_ap, tAsg_ap, gName_ap, tC_ap, tNext_ap, tRet_ap, tAndV_ap, tCB_ap, tCons_ap, tNil_ap, tB_ap, tTest_ap, tNot_ap, tOr_ap, tAnd_ap, tIfS_ap, tOp_ap, tDrop_ap]
      refine ⟨_, rfl, _, rfl, _, _, rfl, rfl, ⟨by decide, by decide, by decide⟩, _, _, rfl, rfl, ?_⟩
      by_cases big : (10 : Int) ^ (60 : Int).toNat ≤ if c < 0 then -c else c
      · refine ⟨true, bl_t big, iteT ?_⟩
        refine ⟨_, rfl, _, _, rfl, rfl, ⟨by decide, by decide, by decide⟩, _, _, rfl, rfl, (show (0 : Int) < (10 : Int) ^ (18 : Int).toNat by decide), ?_⟩
        exact hR _ _ ⟨_, _, rfl, Ex.refl _⟩
      · exact ⟨false, bl_f big, iteF (hR _ _ ⟨_, _, rfl, Ex.refl _⟩)⟩
end
end K55


set_option Elab.async false
set_option linter.all false
set_option maxRecDepth 100000
set_option maxHeartbeats 4000000
namespace K55
open PySem PySem.Spec PyProof.Rows L2 Evl
/-! ### a list's item by values (follows the library's ix_list) -/
def rGetN (K : PySem.W.Frag) : V → V → Hp → VK → Prop := fun o i H Q => ∃ p xs k v, o = .ref p ∧ i = .int k ∧ SqL K H p xs ∧ 0 ≤ k ∧ xs[k.toNat]? = some v ∧ Q v H
theorem get_listN {X : Cx} : PGet X (rGetN X.K) := by
  intro pins s σ H o i ov iv Q I ro ri h
  obtain ⟨p, xs, k, z, rfl, rfl, hq, h0, he, q⟩ := h
  cases ro
  obtain ⟨t, rfl⟩ := ri
  obtain ⟨its, r, pl, hz⟩ := I.list hq
  obtain ⟨w, ew, rw'⟩ := r.get he
  have hl := r.length
  have hn := line63
  have hk : k.toNat < xs.length := (List.getElem?_eq_some_iff.mp he).1
  exact wpAny_getItem_list pl.isList h0 (by omega) (by simpa using ew) ⟨z, H, I, rw', q⟩
/-- a list that stays, but where the heap is written: it is tracked and not in l, or the module's own -/
def SqF (K : PySem.W.Frag) (l : List Addr) (H : Hp) (s : Addr) (ys : List V) : Prop := (Rd H s (.lst ys) ∧ s ∉ l) ∨ ∀ H', SqL K H' s ys
theorem SqF.l {K : PySem.W.Frag} {l : List Addr} {H : Hp} {s : Addr} {ys : List V} (h : SqF K l H s ys) : SqL K H s ys := h.elim (fun h => .inl h.1) fun h => h H
theorem SqF.of {K : PySem.W.Frag} {H : Hp} {s : Addr} {ys : List V} (h : SqL K H s ys) : SqF K [] H s ys := h.elim (fun h => .inl ⟨h, List.not_mem_nil⟩) fun h => .inr fun _ => .inr h
theorem SqF.new {K : PySem.W.Frag} {l : List Addr} {H : Hp} {s p : Addr} {ys : List V} (h : SqF K l H s ys) (hp : H p = none) : SqF K (p :: l) H s ys := by
  rcases h with ⟨h, n⟩ | h
  · refine .inl ⟨h, fun m => ?_⟩
    rcases List.mem_cons.mp m with rfl | m
    · rcases h with h | ⟨o, h⟩ <;> (rw [hp] at h; cases h)
    · exact n m
  · exact .inr h
theorem SqF.exA {K : PySem.W.Frag} {l : List Addr} {H H' : Hp} {s : Addr} {ys : List V} (h : SqF K l H s ys) (e : ∀ b o, b ∉ l → H b = some o → H' b = some o) : SqF K l H' s ys := by
  rcases h with ⟨h, n⟩ | h
  · refine .inl ⟨?_, n⟩
    rcases h with h | ⟨o, h⟩
    · exact .inl (e _ _ n h)
    · exact .inr ⟨o, e _ _ n h⟩
  · exact .inr h
theorem SqF.sub {K : PySem.W.Frag} {l m : List Addr} {H : Hp} {s : Addr} {ys : List V} (h : SqF K l H s ys) (k : ∀ a ∈ m, a ∈ l) : SqF K m H s ys := h.elim (fun h => .inl ⟨h.1, fun q => h.2 (k _ q)⟩) .inr
theorem SqF.updN {K : PySem.W.Frag} {l : List Addr} {H : Hp} {s p : Addr} {ys : List V} {o : HO} (h : SqF K l H s ys) (hp : H p = none) : SqF K l (upd H p o) s ys := h.exA fun b u _ q => (Ex.new hp) b u q
theorem SqF.updD {K : PySem.W.Frag} {l : List Addr} {H : Hp} {s p : Addr} {ys : List V} {o : HO} {kvs : List (Key × V)} (h : SqF K l H s ys) (hp : H p = some (.dK kvs)) : SqF K l (upd H p o) s ys := by
  rcases h with ⟨h, n⟩ | h
  · have ne : s ≠ p := fun e => by
      rw [e] at h
      rcases h with h | ⟨u, h⟩ <;> (rw [hp] at h; cases h)
    refine .inl ⟨?_, n⟩
    rcases h with h | ⟨u, h⟩
    · exact .inl ((upd_ne ne).trans h)
    · exact .inr ⟨u, (upd_ne ne).trans h⟩
  · exact .inr h
theorem exB_l {a : Addr} {H H' : Hp} (e : ExB a H H') : ∀ b o, b ∉ [a] → H b = some o → H' b = some o := fun b o hb h => e b o (fun z => hb (by rw [z]; exact List.mem_singleton.mpr rfl)) h
/-- the draw: the script, how many numbers were taken -/
structure DrawAt (K : PySem.W.Frag) (H : Hp) (dr s : Addr) (xs : List Int) (k : Nat) : Prop where
  d : H dr = some (.lst [.ref s, .int (k : Int)])
  s : SqF K [dr] H s (xs.map V.int)
theorem DrawAt.ex {K : PySem.W.Frag} {H H' : Hp} {dr s : Addr} {xs : List Int} {k : Nat} (h : DrawAt K H dr s xs k) (e : Ex H H') : DrawAt K H' dr s xs k := ⟨e _ _ h.d, h.s.exA fun b o _ q => e b o q⟩
section
variable {P : Program} {w : World} {K : PySem.W.Frag} {mg : Str → Option Value} {base : Heap}
/-! ### _law_take -/
def spLawTake (K : PySem.W.Frag) : Sp := fun vs H Q E => ∃ (dr s : Addr) (xs : List Int) (k : Nat) (m : Int), vs = [.ref dr, .int m] ∧ DrawAt K H dr s xs k ∧ xs.length ≤ 100000 ∧ k ≤ 90000 ∧ 0 < m ∧
  ∀ (n : Int) H', ExB dr H H' → DrawAt K H' dr s xs (k + 1) → 0 ≤ n → n < m → Q (.int n) H'
theorem sc_law_take : FnScope ["_law_draw", "_law_many"] ["_law_draw", "_law_many"] (defScope s_law_take) := ⟨rfl, rfl, rfl, by decide +kernel, rfl, by decide +kernel, by decide +kernel⟩
theorem ok_law_take (T : Txt K mg) : Ent P w K mg base CX0 2 "_law_take" ["_law_draw", "_law_many"] [] (spLawTake K) := by
  obtain ⟨fd, F⟩ := T.f_law_take
  have e_law_number := ok_law_number (P := P) (w := w) (base := base) T
  refine Ent.mk' T.g_law_take F (FunD.ok0 F sc_law_take (fun vs H Q E h => ?_) (fun cdv A outer s H vs Q E hr h => ?_)) (fun _ _ _ _ _ _ us hl => match us, hl with | [_, _], _ => rfl)
  · obtain ⟨dr, s, xs, k, m, rfl, hd, n5, hk, hm, q⟩ := h
    rfl
  · obtain ⟨dr, s, xs, k, m, rfl, hd, n5, hk, hm, q⟩ := h
    refine ⟨_, (pss_cons (ps_augS (pv 0) pe_int get_listN pe_int ip_add set_list)
      (pss_one (ps_ret (pe_op op_mod (pe_callTy call_int1 (by rfl) T.n_int (by decide +kernel) (pa_cons (pe_e e_law_number (hr.mono (by decide)) pass0 (pa_cons (pe_ix (ix_listK (K := K) rfl) (pv 0) pe_int (fun _ _ => rfl)) (pa_cons (pe_callTy call_int1 (by rfl) T.n_int (by decide +kernel) (pa_cons (pe_ix (ix_listK (K := K) rfl) (pv 0) pe_int (fun _ _ => rfl)) pa_nil)) pa_nil))) pa_nil)) (pv 1))))), ?_⟩
    refine ⟨_, rfl, dr, _, 1, _, rfl, rfl, sql hd.d, by decide, rfl, _, _, rfl, rfl, dr, _, 1, 1, rfl, rfl, hd.d, rfl, ?_⟩
    have hdr : upd H dr (.lst ([V.ref s, .int (k : Int)].set 1 (.int ((k : Int) + 1)))) dr = some (.lst [.ref s, .int ((k : Int) + 1)]) := upd_same
    have eb : ExB dr H (upd H dr (.lst ([V.ref s, .int (k : Int)].set 1 (.int ((k : Int) + 1))))) := (ExB.refl _ _).upd
    generalize upd H dr (.lst ([V.ref s, .int (k : Int)].set 1 (.int ((k : Int) + 1)))) = H1 at hdr eb
    have hds := hd.s.exA (exB_l eb)
    refine ⟨_, rfl, dr, _, _, _, rfl, rfl, sql hdr, rfl, _, rfl, dr, _, _, _, rfl, rfl, sql hdr, rfl, .inl ⟨_, rfl, s, xs, (k : Int) + 1, rfl, hds.l, n5, by omega, by omega, fun n H2 e2 n0 => .inl ⟨_, rfl, _, rfl, _, _, rfl, rfl, hm, ?_⟩⟩⟩
    exact q _ H2 (eb.trans (ExB.of e2)) ⟨e2 _ _ hdr, hds.exA fun b o _ q => e2 b o q⟩ (Int.emod_nonneg _ (by omega)) (Int.emod_lt_of_pos _ hm)
/-! ### _law_pick: any item -/
def spLawPick (K : PySem.W.Frag) : Sp := fun vs H Q E => ∃ (dr s it : Addr) (xs : List Int) (k : Nat) (ys : List V), vs = [.ref dr, .ref it] ∧ DrawAt K H dr s xs k ∧ xs.length ≤ 100000 ∧ k ≤ 90000 ∧ H it = some (.lst ys) ∧ it ≠ dr ∧ 0 < ys.length ∧
  ∀ y H', y ∈ ys → ExB dr H H' → DrawAt K H' dr s xs (k + 1) → Q y H'
theorem sc_law_pick : FnScope ["_law_draw", "_law_items"] ["_law_draw", "_law_items"] (defScope s_law_pick) := ⟨rfl, rfl, rfl, by decide +kernel, rfl, by decide +kernel, by decide +kernel⟩
theorem ok_law_pick (T : Txt K mg) : Ent P w K mg base CX0 3 "_law_pick" ["_law_draw", "_law_items"] [] (spLawPick K) := by
  obtain ⟨fd, F⟩ := T.f_law_pick
  have e_law_take := ok_law_take (P := P) (w := w) (base := base) T
  refine Ent.mk' T.g_law_pick F (FunD.ok0 F sc_law_pick (fun vs H Q E h => ?_) (fun cdv A outer s H vs Q E hr h => ?_)) (fun _ _ _ _ _ _ us hl => match us, hl with | [_, _], _ => rfl)
  · obtain ⟨dr, s, it, xs, k, ys, rfl, hd, n5, hk, hy, nid, hpos, q⟩ := h
    rfl
  · obtain ⟨dr, s, it, xs, k, ys, rfl, hd, n5, hk, hy, nid, hpos, q⟩ := h
    refine ⟨_, (pss_one (ps_ret (pe_ix (ix_listK (K := K) rfl) (pv 1) (pe_e e_law_take (hr.mono (by decide)) pass0 (pa_cons (pv 0) (pa_cons (pe_callB (call_lenK (K := K) rfl) (by rfl) T.n_len PySem.boot_len (pa_cons (pv 1) pa_nil)) pa_nil))) (fun _ _ => rfl)))), ?_⟩
    refine ⟨_, rfl, _, rfl, _, rfl, _, _, rfl, lenL (sql hy), dr, s, xs, k, _, rfl, hd, n5, hk, by omega, fun n H' eb hd' n0 n1 => ?_⟩
    obtain ⟨j, rfl⟩ : ∃ j : Nat, n = j := ⟨n.toNat, (Int.toNat_of_nonneg n0).symm⟩
    have hj : j < ys.length := by omega
    exact ⟨it, ys, _, _, rfl, rfl, sql (eb _ _ nid hy), atI_nat (List.getElem?_eq_getElem hj), q _ H' (List.getElem_mem hj) eb hd'⟩
end
end K55


set_option Elab.async false
set_option linter.all false
set_option maxRecDepth 100000
set_option maxHeartbeats 4000000
namespace K55
open PySem PySem.Spec PyProof.Rows L2 Evl
def lanes : List Str := ["a", "b", "c", "d", "e", "f", "g"]
theorem cut_lanes : ∀ m : Fin 9, 1 ≤ m.1 → (cutS "abcdefg" none (some (m.1 : Int))).cps.toList.map (fun c => (⟨#[c]⟩ : Str)) = lanes.take m.1 := by decide +kernel
theorem lane_at {m i c : Nat} (m1 : 1 ≤ m) (m8 : m ≤ 8) (h : (cutS "abcdefg" none (some (m : Int))).cps[i]? = some c) : (lanes.take m)[i]? = some (⟨#[c]⟩ : Str) := by
  rw [← cut_lanes ⟨m, by omega⟩ m1, List.getElem?_map, Array.getElem?_toList, h]
  rfl
theorem lane_len {m : Nat} (m1 : 1 ≤ m) (m8 : m ≤ 8) : (cutS "abcdefg" none (some (m : Int))).cps.size = (lanes.take m).length := by
  rw [← cut_lanes ⟨m, by omega⟩ m1, List.length_map, Array.length_toList]
theorem lanes_nodup (m : Nat) : (lanes.take m).Nodup := List.Nodup.sublist (List.take_sublist m lanes) (by decide +kernel)
theorem lanes_len (m : Nat) : (lanes.take m).length ≤ 7 := by
  rw [List.length_take]
  have : lanes.length = 7 := rfl
  omega
section
variable {P : Program} {w : World} {K : PySem.W.Frag} {mg : Str → Option Value} {base : Heap}
/-! ### _law_deal -/
def spLawDeal (K : PySem.W.Frag) : Sp := fun vs H Q E => ∃ (dr s rd : Addr) (xs : List Int) (k m : Nat) (rs : List Str), vs = [.ref dr, .ref rd, .int m] ∧ DrawAt K H dr s xs k ∧ xs.length ≤ 100000 ∧ k ≤ 80000 ∧ 1 ≤ m ∧ m ≤ 8 ∧ H rd = some (.lst (rs.map V.str)) ∧ rd ≠ dr ∧ 0 < rs.length ∧
  ∀ p H' D, H p = none → ExB dr H H' → DrawAt K H' dr s xs (k + (lanes.take m).length) → DlAt H' p (lanes.take m) D → (∀ l ∈ lanes.take m, D l ∈ rs) → Q (.ref p) H'
theorem sc_law_deal : FnScope ["_law_draw", "_law_readers", "_law_many", "_law_found", "_law_lane"] ["_law_draw", "_law_readers", "_law_many"] (defScope s_law_deal) := ⟨rfl, rfl, rfl, by decide +kernel, rfl, by decide +kernel, by decide +kernel⟩
theorem ok_law_deal (T : Txt K mg) : Ent P w K mg base CX0 4 "_law_deal" ["_law_draw", "_law_readers", "_law_many"] [] (spLawDeal K) := by
  obtain ⟨fd, F⟩ := T.f_law_deal
  have e_law_pick := ok_law_pick (P := P) (w := w) (base := base) T
  refine Ent.mk' T.g_law_deal F (FunD.ok0 F sc_law_deal (fun vs H Q E h => ?_) (fun cdv A outer s H vs Q E hr h => ?_)) (fun _ _ _ _ _ _ us hl => match us, hl with | [_, _, _], _ => rfl)
  · obtain ⟨dr, s, rd, xs, k, m, rs, rfl, hd, n5, hk, m1, m8, hr', nrd, hpos, q⟩ := h
    rfl
  · obtain ⟨dr, s, rd, xs, k, m, rs, rfl, hd, n5, hk, m1, m8, hr', nrd, hpos, q⟩ := h
    refine ⟨_, (pss_cons (ps_set (i := 3) sc_law_deal.nd rfl (Or.inl rfl) pe_dnewK)
      (pss_cons (ps_for PassesOwn.never rfl (pi_str (pe_slice sl_str pe_str po_none (po_some (pv 2)))) (pg_name (i := 4) sc_law_deal.nd rfl (Or.inl rfl)) (pss_one (ps_dput (hu_of hr) (pv 3) (pv 4) (pe_e e_law_pick (hr.mono (by decide)) pass0 (pa_cons (pv 0) (pa_cons (pv 1) pa_nil))) rfl)))
      (pss_one (ps_ret (pv 3))))), ?_⟩
    intro p hp
    have e1 : Ex H (upd H p (.dK [])) := Ex.new hp
    have hp1 : upd H p (.dK []) p = some (.dK []) := upd_same
    generalize upd H p (.dK []) = H1 at e1 hp1
    refine ⟨_, rfl, _, rfl, _, rfl, by rw [sizeLine_eq]; decide, _, rfl, ?_⟩
    have ndp : p ≠ dr := fun e => by rw [e, hd.d] at hp; cases hp
    have l7 := lanes_len m
    refine for_src (Src.str (G := fun _ => none) _) (fun i σ' H' => ∃ D x4, σ' = [some (V.ref dr), some (.ref rd), some (.int m), some (.ref p), x4] ∧ ExB dr H H' ∧ DrawAt K H' dr s xs (k + i) ∧ DlAt H' p ((lanes.take m).take i) D ∧ ∀ l ∈ (lanes.take m).take i, D l ∈ rs)
      ⟨fun _ => default, _, rfl, ExB.of e1, hd.ex e1, hp1, fun l hl => by cases hl⟩ (fun i σ' H' pv b o hb => by cases hb) (fun i v σ' H' H2 hi pv e2 y => ?_) fun σ' H' pv => ?_
    · obtain ⟨D, x4, rfl, e, hd', hD, hDr⟩ := pv
      obtain ⟨c, hc, rfl⟩ := y
      have hl := lane_at m1 m8 hc
      have hii : i < (lanes.take m).length := (List.getElem?_eq_some_iff.mp hl).1
      have eb2 := e.trans (ExB.of e2)
      refine ⟨_, rfl, _, rfl, dr, s, rd, xs, k + i, _, rfl, hd'.ex e2, n5, by omega, eb2 _ _ nrd hr', nrd, by rw [List.length_map]; exact hpos, fun y H3 hy e3 hd3 => ?_⟩
      obtain ⟨r, hr, rfl⟩ := List.mem_map.mp hy
      have hD3 := e3 _ _ ndp (e2 _ _ hD)
      have hnot := not_mem_take (lanes_nodup m) hl
      refine ⟨_, rfl, _, rfl, p, _, rfl, pn hD3 hnot (by rw [List.length_take]; omega), fun j => if j = (⟨#[c]⟩ : Str) then r else D j, some (.str ⟨#[c]⟩), rfl, fun b o hb h => ?_, ⟨(upd_ne ndp.symm).trans hd3.d, ?_⟩, ?_, fun l hl' => ?_⟩
      · have nbp : b ≠ p := ne_of_none h hp
        exact (upd_ne nbp).trans (e3 _ _ hb (eb2 _ _ hb h))
      · exact hd3.s.updD hD3
      · rw [take_succ_at hl]
        refine upd_same.trans (congrArg some (congrArg HO.dK (List.map_congr_left fun j _ => ?_)))
        dsimp only
        by_cases e : j = (⟨#[c]⟩ : Str)
        · rw [if_pos e, if_pos e]
        · rw [if_neg e, if_neg e]
      · rw [take_succ_at hl] at hl'
        dsimp only
        by_cases e : l = (⟨#[c]⟩ : Str)
        · rw [if_pos e]; exact hr
        · rw [if_neg e]
          rcases List.mem_append.mp hl' with h | h
          · exact hDr l h
          · exact absurd (List.mem_singleton.mp h) e
    · obtain ⟨D, x4, rfl, e, hd', hD, hDr⟩ := pv
      rw [lane_len m1 m8] at hd' hD hDr
      rw [List.take_of_length_le (Nat.le_refl _)] at hD hDr
      exact ⟨_, rfl, q p H' D hp e hd' hD hDr⟩
/-! ### _law_bounds -/
def spLawBounds (K : PySem.W.Frag) : Sp := fun vs H Q E => ∃ (dr s rd : Addr) (xs : List Int) (k m : Nat) (rs : List Str), vs = [.ref dr, .ref rd, .int m] ∧ DrawAt K H dr s xs k ∧ xs.length ≤ 100000 ∧ k ≤ 80000 ∧ m ≤ 8 ∧ H rd = some (.lst (rs.map V.str)) ∧ rd ≠ dr ∧ rs.Nodup ∧ rs.length ≤ 100 ∧
  ∀ p H' lo hi, H p = none → ExB dr H H' → DrawAt K H' dr s xs (k + 2 * rs.length) → BndAt H' p ⟨rs, lo, hi⟩ → (∀ r ∈ rs, 0 ≤ lo r ∧ lo r ≤ hi r ∧ hi r ≤ 10) → Q (.ref p) H'
theorem sc_law_bounds : FnScope ["_law_draw", "_law_readers", "_law_many", "_law_found", "_law_reader", "_law_low"] ["_law_draw", "_law_readers", "_law_many"] (defScope s_law_bounds) := ⟨rfl, rfl, rfl, by decide +kernel, rfl, by decide +kernel, by decide +kernel⟩
theorem ok_law_bounds (T : Txt K mg) : Ent P w K mg base CX0 3 "_law_bounds" ["_law_draw", "_law_readers", "_law_many"] [] (spLawBounds K) := by
  obtain ⟨fd, F⟩ := T.f_law_bounds
  have e_law_take := ok_law_take (P := P) (w := w) (base := base) T
  refine Ent.mk' T.g_law_bounds F (FunD.ok0 F sc_law_bounds (fun vs H Q E h => ?_) (fun cdv A outer s H vs Q E hr h => ?_)) (fun _ _ _ _ _ _ us hl => match us, hl with | [_, _, _], _ => rfl)
  · obtain ⟨dr, s, rd, xs, k, m, rs, rfl, hd, n5, hk, m8, hr', nrd, ndr, n100, q⟩ := h
    rfl
  · obtain ⟨dr, s, rd, xs, k, m, rs, rfl, hd, n5, hk, m8, hr', nrd, ndr, n100, q⟩ := h
    refine ⟨_, (pss_cons (ps_set (i := 3) sc_law_bounds.nd rfl (Or.inl rfl) pe_dnewK)
      (pss_cons (ps_for PassesOwn.never rfl (pi_listK (K := K) rfl (pv 1)) (pg_name (i := 4) sc_law_bounds.nd rfl (Or.inl rfl)) (pss_cons (ps_set (i := 5) sc_law_bounds.nd rfl (Or.inl rfl) (pe_e e_law_take (hr.mono (by decide)) pass0 (pa_cons (pv 0) (pa_cons pe_int pa_nil))))
      (pss_one (ps_dput (hu_of hr) (pv 3) (pv 4) (pe_tup (pa_cons (pv 5) (pa_cons (pe_op op_add (pv 5) (pe_e e_law_take (hr.mono (by decide)) pass0 (pa_cons (pv 0) (pa_cons (pe_op op_add (pv 2) pe_int) pa_nil)))) pa_nil))) rfl))))
      (pss_one (ps_ret (pv 3))))), ?_⟩
    intro p hp
    have e1 : Ex H (upd H p (.dK [])) := Ex.new hp
    have hp1 : upd H p (.dK []) p = some (.dK []) := upd_same
    generalize upd H p (.dK []) = H1 at e1 hp1
    have ndp : p ≠ dr := fun e => by rw [e, hd.d] at hp; cases hp
    have nrp : rd ≠ p := fun e => by rw [← e, hr'] at hp; cases hp
    dsimp only [tSeq_ap, tAsg_ap, gName_ap, tC_ap, tNext_ap, tRet_ap, tAndV_ap, tCB_ap, tCons_ap, tNil_ap, tB_ap, tTest_ap, tNot_ap, tOr_ap, tAnd_ap, tIfS_ap, tOp_ap, tDrop_ap]
    refine forl (td := tVar 1) (sql (e1 _ _ hr')) (fun H1 Q' q' => ⟨_, rfl, q'⟩) (fun i σ' H' => ∃ lo hi x4 x5, σ' = [some (V.ref dr), some (.ref rd), some (.int m), some (.ref p), x4, x5] ∧ ExB dr H H' ∧ DrawAt K H' dr s xs (k + 2 * i) ∧ BndAt H' p ⟨rs.take i, lo, hi⟩ ∧ ∀ r ∈ rs.take i, 0 ≤ lo r ∧ lo r ≤ hi r ∧ hi r ≤ 10)
      ⟨fun _ => default, fun _ => default, _, _, rfl, ExB.of e1, hd.ex e1, ⟨fun _ => p, hp1, fun r hr => by cases hr⟩, fun l hl => by cases hl⟩ (fun i σ' H' pv => ?_) (fun i v σ' H' hv pv => ?_) fun σ' H' pv => ?_
    · obtain ⟨_, _, _, _, _, e, _⟩ := pv
      exact sql (e _ _ nrd hr')
    · obtain ⟨lo, hi, x4, x5, rfl, e, hd', ⟨Tt, hB1, hB2⟩, hlh⟩ := pv
      rw [List.getElem?_map] at hv
      cases hz : rs[i]? with
      | none => rw [hz] at hv; cases hv
      | some r =>
      rw [hz] at hv
      cases hv
      have hii : i < rs.length := (List.getElem?_eq_some_iff.mp hz).1
      refine ⟨_, rfl, dr, s, xs, k + 2 * i, 3, rfl, hd', n5, by omega, by decide, fun a H2 e2 hd2 a0 a3 => ?_⟩
      refine ⟨_, rfl, _, rfl, _, rfl, _, rfl, _, _, rfl, rfl, dr, s, xs, k + 2 * i + 1, (m : Int) + 1, rfl, hd2, n5, by omega, by omega, fun c H3 e3 hd3 c0 c1 => ⟨_, _, rfl, rfl, le2, fun t ht => ?_⟩⟩
      have e23 := e2.trans e3
      have hp3 := e23 _ _ ndp hB1
      have npt : p ≠ t := (fresh_ne hp3 ht).symm
      have hp4 : KD (upd H3 t (.tup [.int a, .int (a + c)])) p (rs.take i) fun r => .ref (Tt r) := (upd_ne npt).trans hp3
      have hnot := not_mem_take ndr hz
      refine ⟨_, rfl, _, rfl, p, _, rfl, pn hp4 hnot (by rw [List.length_take]; omega), fun j => if j = r then a else lo j, fun j => if j = r then a + c else hi j, _, _, rfl, fun b o hb h => ?_, ⟨?_, ?_⟩, ⟨fun j => if j = r then t else Tt j, ?_, fun j hj => ?_⟩, fun j hj => ?_⟩
      · have nbp : b ≠ p := ne_of_none h hp
        have h3 := e23 _ _ hb (e _ _ hb h)
        exact (upd_ne nbp).trans ((upd_ne (ne_of_none h3 ht)).trans h3)
      · exact (upd_ne ndp.symm).trans ((upd_ne (ne_of_none hd3.d ht)).trans hd3.d)
      · exact (hd3.s.updN ht).updD hp4
      · dsimp only
        rw [take_succ_at hz]
        refine upd_same.trans (congrArg some (congrArg HO.dK (List.map_congr_left fun j _ => ?_)))
        dsimp only
        by_cases e : j = r
        · rw [if_pos e, if_pos e]
        · rw [if_neg e, if_neg e]
      · dsimp only at hj ⊢
        rw [take_succ_at hz] at hj
        by_cases e : j = r
        · rw [if_pos e, if_pos e, if_pos e]
          exact (upd_ne npt.symm).trans upd_same
        · rw [if_neg e, if_neg e, if_neg e]
          rcases List.mem_append.mp hj with h | h
          · have h0 := hB2 j h
            have n1 : Tt j ≠ dr := fun q => by rw [q, hd'.d] at h0; cases h0
            have h3 := e23 _ _ n1 h0
            have n2 : Tt j ≠ p := fun q => by rw [q, hp3] at h3; cases h3
            exact (upd_ne n2).trans ((upd_ne (ne_of_none h3 ht)).trans h3)
          · exact absurd (List.mem_singleton.mp h) e
      · rw [take_succ_at hz] at hj
        dsimp only
        by_cases e : j = r
        · rw [if_pos e, if_pos e]; omega
        · rw [if_neg e, if_neg e]
          rcases List.mem_append.mp hj with h | h
          · exact hlh j h
          · exact absurd (List.mem_singleton.mp h) e
    · obtain ⟨lo, hi, x4, x5, rfl, e, hd', hB, hlh⟩ := pv
      rw [List.length_map] at hd' hB hlh
      rw [List.take_of_length_le (Nat.le_refl _)] at hB hlh
      exact ⟨_, rfl, q p H' lo hi hp e hd' hB hlh⟩
end
end K55


set_option Elab.async false
set_option linter.all false
set_option maxRecDepth 100000
set_option maxHeartbeats 4000000
namespace K55
open PySem PySem.Spec PyProof.Rows L2 Evl
section
variable {X : Cx} {CX : CXT} {k : Nat} {ps : List Str} {sp : Sp} {E : L2.St → XK} {x : Str} {p pos : Pos} {e : Expr} {es : List Expr} {t : TA}
theorem pe_eS (G : Ent X.prog X.w X.K X.mg X.base CX k x ps [] sp) (hr : Room k X.A) (hx : ∀ σ, L2.PassesAt CX X σ (E σ)) (ha : PA X (e :: es) t) (hg : Gl X x := by rfl)
    (hdb : (x == ("__debug__" : Str)) = false := by decide) (he : starEach (e :: es) X.env = (false, eval e X.env) :: starEach es X.env := by rfl) (hpl : (backTo pos (starEach es X.env)).any (·.1) = false := by rfl) :
    PE X (.Call (.Name x p) (e :: es) [] pos) (L2.tCallS sp E t) := by
  obtain ⟨f, fd, ds, h1, h2, h3, h4, h5⟩ := G.ex
  cases h4
  exact L2.pe_callS h5 hr hg h1 h2 h3 hx ha hdb he hpl
end
section
variable {w : World} {K : PySem.W.Frag} {mg : Str → Option Value} {base : Heap}
/-! ### _law_moves -/
def spLawMoves : Sp := fun vs H Q E => ∃ (d h : Addr) (U L : List Str) (D : Str → Str) (Bs : List Bn), vs = [.ref d, .ref h] ∧ DlAt H d L D ∧ HistAt H h Bs ∧ HOk U L D Bs ∧
  ((∀ B ∈ Bs, B.Can L.length) → ∀ m H', Ex H H' → Whole L D Bs m → Q (.int m) H') ∧ ((∃ B ∈ Bs, ¬ B.Can L.length) → ∀ H', Ex H H' → Q .non H')
theorem sc_law_moves : FnScope ["_law_deal_here", "_law_history"] ["_law_deal_here", "_law_history"] (defScope s_law_moves) := ⟨rfl, rfl, rfl, by decide +kernel, rfl, by decide +kernel, by decide +kernel⟩
theorem ok_law_moves (T : Txt K mg) : Ent P w K mg base CX0 10 "_law_moves" ["_law_deal_here", "_law_history"] [] spLawMoves := by
  obtain ⟨fd, F⟩ := T.f_law_moves
  have e_least_history := ok_least_history (w := w) (base := base) T
  refine Ent.mk' T.g_law_moves F (FunD.ok0 F sc_law_moves (fun vs H Q E h => ?_) (fun cdv A outer s H vs Q E hr h => ?_)) (fun _ _ _ _ _ _ us hl => match us, hl with | [_, _], _ => rfl)
  · obtain ⟨d, h, U, L, D, Bs, rfl, hd, hh, ok, q, qN⟩ := h
    rfl
  · obtain ⟨d, h, U, L, D, Bs, rfl, hd, hh, ok, q, qN⟩ := h
    refine ⟨_, (pss_one (L2.ps_try_only rfl rfl ⟨rfl, by decide, .inl T.g_NoDeal⟩ L2.takes0 (fun W pn xe tk _ => (pss_one (ps_ret (pe_fldK (K := K) rfl (pe_eS e_least_history (hr.mono (by decide)) (fun σ => L2.passAt tk σ) (pa_cons (pv 0) (pa_cons (pv 1) pa_nil))) rfl)))) (fun a oe cls d pn _ _ => (pss_one (ps_ret pe_non))))), ?_⟩
    refine ⟨_, rfl, _, rfl, d, h, U, L, D, Bs, rfl, hd, hh, ok, fun can x H' Es m ps e hi hk => ?_, fun hn x H' e => ?_⟩
    · obtain ⟨dx, a, p, h1, _, _⟩ := hi
      exact ⟨x, _, dx, _, _, rfl, h1, T.c_History, T.a_History_moves, rfl, q can m H' e hk.whole⟩
    · exact ⟨true, T.nd.ok.exm, fun _ a ha => qN hn H' e, fun h => by cases h⟩
end
end K55


set_option Elab.async false
set_option linter.all false
set_option maxRecDepth 100000
set_option maxHeartbeats 4000000
namespace K55
open PySem PySem.Spec PyProof.Rows L2 Evl
section
variable {P : Program} {w : World} {K : PySem.W.Frag} {mg : Str → Option Value} {base : Heap}
/-! ### _law_wider -/
def spLawWider (K : PySem.W.Frag) : Sp := fun vs H Q E => ∃ (dr s b : Addr) (xs : List Int) (k : Nat) (m : Int) (B : Bn), vs = [.ref dr, .ref b, .int m] ∧ DrawAt K H dr s xs k ∧ xs.length ≤ 100000 ∧ k ≤ 80000 ∧ BndAt H b B ∧ B.Ok ∧ b ≠ dr ∧
  ∀ p H' lo hi, H p = none → ExB dr H H' → DrawAt K H' dr s xs (k + 3) → BndAt H' p ⟨B.rs, lo, hi⟩ → (∀ r ∈ B.rs, 0 ≤ lo r ∧ lo r ≤ B.lo r ∧ B.hi r ≤ hi r ∧ hi r ≤ 60) → Q (.ref p) H'
theorem sc_law_wider : FnScope ["_law_draw", "_law_bounds_here", "_law_many", "_law_found", "_law_reader"] ["_law_draw", "_law_bounds_here", "_law_many"] (defScope s_law_wider) := ⟨rfl, rfl, rfl, by decide +kernel, rfl, by decide +kernel, by decide +kernel⟩
theorem ok_law_wider (T : Txt K mg) : Ent P w K mg base CX0 4 "_law_wider" ["_law_draw", "_law_bounds_here", "_law_many"] [] (spLawWider K) := by
  obtain ⟨fd, F⟩ := T.f_law_wider
  have e_law_pick := ok_law_pick (P := P) (w := w) (base := base) T
  have e_law_take := ok_law_take (P := P) (w := w) (base := base) T
  refine Ent.mk' T.g_law_wider F (FunD.ok0 F sc_law_wider (fun vs H Q E h => ?_) (fun cdv A outer s H vs Q E hr h => ?_)) (fun _ _ _ _ _ _ us hl => match us, hl with | [_, _, _], _ => rfl)
  · obtain ⟨dr, s, b, xs, k, m, B, rfl, hd, n5, hk, ⟨Tt, hB1, hB2⟩, okB, nbd, q⟩ := h
    rfl
  · obtain ⟨dr, s, b, xs, k, m, B, rfl, hd, n5, hk, ⟨Tt, hB1, hB2⟩, okB, nbd, q⟩ := h
    refine ⟨_, (pss_cons (ps_set (i := 3) sc_law_wider.nd rfl (Or.inl rfl) (pe_callTy call_dictD (by rfl) T.n_dict (by decide +kernel) (pa_cons (pv 1) pa_nil)))
      (pss_cons (ps_set (i := 4) sc_law_wider.nd rfl (Or.inl rfl) (pe_e e_law_pick (hr.mono (by decide)) pass0 (pa_cons (pv 0) (pa_cons (pe_callB (cr_sortedSK (K := K) rfl) (by rfl) T.n_sorted (by decide +kernel) (pa_cons (pe_callTy (call_listD rfl) (by rfl) T.n_list (by decide +kernel) (pa_cons (pv 1) pa_nil)) pa_nil)) pa_nil))))
      (pss_cons (ps_dput (hu_of hr) (pv 3) (pv 4) (pe_tup (pa_cons (pe_callB (call_max2 rfl) (by rfl) T.n_max (by decide +kernel) (pa_cons pe_int (pa_cons (pe_op op_sub (pe_ix (ix_tupK (K := K) rfl) (pe_dget (hu_of hr) (pv 1) (pv 4) (fun _ _ => rfl)) pe_int (fun _ _ => rfl)) (pe_e e_law_take (hr.mono (by decide)) pass0 (pa_cons (pv 0) (pa_cons pe_int pa_nil)))) pa_nil))) (pa_cons (pe_callB (call_min2 rfl) (by rfl) T.n_min (by decide +kernel) (pa_cons pe_int (pa_cons (pe_op op_add (pe_ix (ix_tupK (K := K) rfl) (pe_dget (hu_of hr) (pv 1) (pv 4) (fun _ _ => rfl)) pe_int (fun _ _ => rfl)) (pe_e e_law_take (hr.mono (by decide)) pass0 (pa_cons (pv 0) (pa_cons pe_int pa_nil)))) pa_nil))) pa_nil))) rfl)
      (pss_one (ps_ret (pv 3)))))), ?_⟩
    have n1 := okB.n1
    have n2 := okB.n2
    refine ⟨_, rfl, b, _, rfl, .inl hB1, fun p hp => ?_⟩
    have e1 : Ex H (upd H p (.dK (kd B.rs fun r => .ref (Tt r)))) := Ex.new hp
    have hp1 : upd H p (.dK (kd B.rs fun r => .ref (Tt r))) p = _ := upd_same
    generalize upd H p (.dK (kd B.rs fun r => .ref (Tt r))) = H1 at e1 hp1
    have ndp : p ≠ dr := fun e => by rw [e, hd.d] at hp; cases hp
    refine ⟨_, rfl, _, rfl, b, _, rfl, .inl (e1 _ _ hB1), fun pl hpl => ?_⟩
    have e2 : Ex H1 (upd H1 pl (.lst ((kd B.rs fun r => .ref (Tt r)).map fun kv => kV kv.1))) := Ex.new hpl
    have hpl2 : upd H1 pl (.lst ((kd B.rs fun r => .ref (Tt r)).map fun kv => kV kv.1)) pl = some (.lst (B.rs.map V.str)) := upd_same.trans (by unfold kd; rw [List.map_map]; rfl)
    generalize upd H1 pl (.lst ((kd B.rs fun r => .ref (Tt r)).map fun kv => kV kv.1)) = H2 at e2 hpl2
    refine ⟨pl, B.rs, rfl, sql hpl2, by omega, fun ys p3 hperm _ hp3 => ?_⟩
    have e3 : Ex H2 (upd H2 p3 (.lst (ys.map V.str))) := Ex.new hp3
    have hp33 : upd H2 p3 (.lst (ys.map V.str)) p3 = _ := upd_same
    generalize upd H2 p3 (.lst (ys.map V.str)) = H3 at e3 hp33
    have e13 := e1.trans (e2.trans e3)
    have n3d : p3 ≠ dr := fun e => by
      have := e2 _ _ (e1 _ _ hd.d)
      rw [e, this] at hp3; cases hp3
    have lys := hperm.length_eq
    refine ⟨dr, s, p3, xs, k, _, rfl, hd.ex e13, n5, by omega, hp33, n3d, by rw [List.length_map]; omega, fun y H4 hy e4 hd4 => ?_⟩
    obtain ⟨r, hr, rfl⟩ := List.mem_map.mp hy
    have hr : r ∈ B.rs := hperm.mem_iff.mp hr
    have eb4 : ExB dr H H4 := (ExB.of e13).trans e4
    have hb4 := eb4 _ _ nbd hB1
    have t4 : ∀ j ∈ B.rs, H4 (Tt j) = some (.tup [.int (B.lo j), .int (B.hi j)]) := fun j hj => by
      have h0 := hB2 j hj
      exact eb4 _ _ (fun q => by rw [q, hd.d] at h0; cases h0) h0
    have hp4 : KD H4 p B.rs fun r => .ref (Tt r) := e4 _ _ ndp ((e2.trans e3) _ _ hp1)
    have lo0 := okB.l0 r hr
    have hi60 := okB.h60 r hr
    have lh := okB.lh r hr
    refine ⟨_, rfl, _, rfl, b, _, rfl, gk (.inl hb4) hr, Tt r, _, _, _, rfl, rfl, sqt (t4 r hr), rfl, ?_⟩
    refine ⟨_, rfl, dr, s, xs, k + 1, 2, rfl, hd4, n5, by omega, by decide, fun c H5 e5 hd5 c0 c2 => ⟨_, _, rfl, rfl, _, _, rfl, ?_⟩⟩
    have hb5 := e5 _ _ nbd hb4
    have t5 : ∀ j ∈ B.rs, H5 (Tt j) = some (.tup [.int (B.lo j), .int (B.hi j)]) := fun j hj => by
      have h0 := t4 j hj
      exact e5 _ _ (fun q => by rw [q, hd4.d] at h0; cases h0) h0
    have hp5 := e5 _ _ ndp hp4
    refine ⟨_, rfl, _, rfl, b, _, rfl, gk (.inl hb5) hr, Tt r, _, _, _, rfl, rfl, sqt (t5 r hr), rfl, ?_⟩
    refine ⟨_, rfl, dr, s, xs, k + 1 + 1, 3, rfl, hd5, n5, by omega, by decide, fun f H6 e6 hd6 f0 f3 => ⟨_, _, rfl, rfl, _, _, rfl, le2, fun t ht => ?_⟩⟩
    have t6 : ∀ j ∈ B.rs, H6 (Tt j) = some (.tup [.int (B.lo j), .int (B.hi j)]) := fun j hj => by
      have h0 := t5 j hj
      exact e6 _ _ (fun q => by rw [q, hd5.d] at h0; cases h0) h0
    have hp6 := e6 _ _ ndp hp5
    have npt : p ≠ t := (fresh_ne hp6 ht).symm
    have eb6 : ExB dr H H6 := (eb4.trans e5).trans e6
    refine ⟨_, rfl, _, rfl, p, _, rfl, pm ((upd_ne npt).trans hp6) hr (by omega), ?_⟩
    refine ⟨_, rfl, q p _ (fun j => if j = r then (if B.lo r - c > 0 then B.lo r - c else 0) else B.lo j) (fun j => if j = r then (if B.hi r + f < 60 then B.hi r + f else 60) else B.hi j) hp (fun b' o hb h => ?_) ⟨?_, ?_⟩ ⟨fun j => if j = r then t else Tt j, ?_, fun j hj => ?_⟩ fun j hj => ?_⟩
    · have h6 := eb6 _ _ hb h
      exact (upd_ne (ne_of_none h hp)).trans ((upd_ne (ne_of_none h6 ht)).trans h6)
    · exact (upd_ne ndp.symm).trans ((upd_ne (ne_of_none hd6.d ht)).trans hd6.d)
    · exact (hd6.s.updN ht).updD ((upd_ne npt).trans hp6)
    · refine upd_same.trans (congrArg some (congrArg HO.dK (List.map_congr_left fun j _ => ?_)))
      (try dsimp only)
      by_cases e : j = r
      · rw [if_pos e, if_pos e]
      · rw [if_neg e, if_neg e]
    · (try dsimp only at hj ⊢)
      by_cases e : j = r
      · rw [if_pos e, if_pos e, if_pos e]
        exact (upd_ne npt.symm).trans upd_same
      · rw [if_neg e, if_neg e, if_neg e]
        have h6 := t6 j hj
        have n2 : Tt j ≠ p := fun q => by rw [q, hp6] at h6; cases h6
        exact (upd_ne n2).trans ((upd_ne (ne_of_none h6 ht)).trans h6)
    · try dsimp only
      have g1 := okB.l0 j hj
      have g2 := okB.h60 j hj
      by_cases e : j = r
      · rw [if_pos e, if_pos e, e]
        refine ⟨?_, ?_, ?_, ?_⟩ <;> split <;> omega
      · rw [if_neg e, if_neg e]
        omega
end
end K55


set_option Elab.async false
set_option linter.all false
set_option maxRecDepth 100000
set_option maxHeartbeats 4000000
namespace K55
open PySem PySem.Spec PyProof.Rows L2 Evl
/-- caps within which two deals are -/
structure CapOk (L : List Str) (D G : Str → Str) (ks : List Str) (cp : Str → Int) : Prop where
  nd : ks.Nodup
  n1 : 1 ≤ ks.length
  n2 : ks.length ≤ 12
  w : ∀ r ∈ ks, isW r = true
  c0 : ∀ r ∈ ks, 0 ≤ cp r
  c60 : ∀ r ∈ ks, cp r ≤ 60
  d : ∀ l ∈ L, D l ∈ ks
  g : ∀ l ∈ L, G l ∈ ks
  ld : ∀ r ∈ ks, cntI D L r ≤ cp r
  lg : ∀ r ∈ ks, cntI G L r ≤ cp r
section
variable {P : Program} {w : World} {K : PySem.W.Frag} {mg : Str → Option Value} {base : Heap}
/-! ### check_caps -/
def spCheckCaps (K : PySem.W.Frag) : Sp := fun vs H Q E => ∃ (d g c : Addr) (L : List Str) (D G : Str → Str) (ks : List Str) (cp : Str → Int), vs = [.ref d, .ref g, .ref c] ∧ DlAt H d L D ∧ DlAt H g L G ∧ DlOk L D ∧ DlOk L G ∧ IntD H c ks cp ∧ CapOk L D G ks cp ∧
  ∀ H', Ex H H' → Q .non H'
theorem sc_check_caps : FnScope ["deal", "goal", "caps", "reader", "told", "lane", "loads"] ["deal", "goal", "caps"] (defScope s_check_caps) := ⟨rfl, rfl, rfl, by decide +kernel, rfl, by decide +kernel, by decide +kernel⟩
theorem ok_check_caps (T : Txt K mg) : Ent P w K mg base CX0 3 "check_caps" ["deal", "goal", "caps"] [] (spCheckCaps K) := by
  obtain ⟨fd, F⟩ := T.f_check_caps
  have e_check_deal := ok_check_deal (P := P) (w := w) (base := base) T
  have e_loads_of := ok_loads_of (P := P) (w := w) (base := base) T
  have e_is_word := ok_is_word (P := P) (w := w) (base := base) T
  have e_is_natural := ok_is_natural (P := P) (w := w) (base := base) T
  obtain ⟨_, gMOST_READERS_handing⟩ := T.i_MOST_READERS_handing
  refine Ent.mk' T.g_check_caps F (FunD.ok0 F sc_check_caps (fun vs H Q E h => ?_) (fun cdv A outer s H vs Q E hr h => ?_)) (fun _ _ _ _ _ _ us hl => match us, hl with | [_, _, _], _ => rfl)
  · obtain ⟨d, g, c, L, D, G, ks, cp, rfl, hd, hg, okD, okG, hc, ck, q⟩ := h
    rfl
  · obtain ⟨d, g, c, L, D, G, ks, cp, rfl, hd, hg, okD, okG, hc, ck, q⟩ := h
    refine ⟨_, (pss_cons (ps_expr (pe_e e_check_deal (hr.mono (by decide)) pass0 (pa_cons (pv 0) pa_nil)))
      (pss_cons (ps_expr (pe_e e_check_deal (hr.mono (by decide)) pass0 (pa_cons (pv 1) pa_nil)))
      (pss_cons (ps_if (pt_cmpR (op_neDK (K := K) rfl hr.units) (pe_callB (call_sortedD rfl) (by rfl) T.n_sorted (by decide +kernel) (pa_cons (pv 0) pa_nil)) (pe_callB (call_sortedD rfl) (by rfl) T.n_sorted (by decide +kernel) (pa_cons (pv 1) pa_nil)) (nomark _)) (pss_one ps_never) pss_nil)
      (pss_cons (ps_if (PW.pt (pw_or (pt_not (pt_val (pe_callB (call_isiK (K := K) rfl) (by rfl) T.n_isinstance (by decide +kernel) (pa_cons (pv 2) (pa_cons (pe_bltn (v := .ty "dict") (by rfl) T.n_dict (by decide +kernel) rfl) pa_nil))))) (pw_or1 (pt_not (pt_chain op_le op_le pe_int (pe_callB call_lenD (by rfl) T.n_len PySem.boot_len (pa_cons (pv 2) pa_nil)) (pe_glob (v := .int 12) rfl gMOST_READERS_handing ⟨_, rfl⟩)))))) (pss_one ps_never) pss_nil)
      (pss_cons (ps_if (pt_not (pt_val (pe_callB (cr_allK (K := K) rfl rfl) (by rfl) T.n_all (by decide +kernel) (pa_cons (pe_lock (pe_lc (own := [("reader", 3)]) (g := gName 3) (tt := tYes) rfl sc_check_caps.nd (pi_keys (pv 2)) (blkOk_by (N := ["deal", "goal", "caps", "reader", "told", "lane", "loads"]) (sc := defScope s_check_caps) (by decide +kernel)) (fun _ _ _ _ _ => (pg_name (i := 3) sc_check_caps.nd rfl (Or.inl rfl))) (fun _ _ _ _ _ => pts_nil) (fun _ _ _ _ _ => (pe_and (pe_e e_is_word (hr.mono (by decide)) pass0 (pa_cons (pv 3) pa_nil)) (pe_one (pe_e e_is_natural (hr.mono (by decide)) pass0 (pa_cons (pe_dget (hu_of hr) (pv 2) (pv 3) (fun _ _ => rfl)) pa_nil))))))) pa_nil)))) (pss_one ps_never) pss_nil)
      (pss_one (ps_for PassesOwn.never rfl (pi_tupK (K := K) rfl (pe_tup (pa_cons (pv 0) (pa_cons (pv 1) pa_nil)))) (pg_name (i := 4) sc_check_caps.nd rfl (Or.inr rfl)) (pss_cons (ps_if (pt_not (pt_val (pe_callB (cr_allK (K := K) rfl rfl) (by rfl) T.n_all (by decide +kernel) (pa_cons (pe_lock (pe_lc (own := [("lane", 5)]) (g := gName 5) (tt := tYes) rfl sc_check_caps.nd (pi_keys (pv 4)) (blkOk_by (N := ["deal", "goal", "caps", "reader", "told", "lane", "loads"]) (sc := defScope s_check_caps) (by decide +kernel)) (fun _ _ _ _ _ => (pg_name (i := 5) sc_check_caps.nd rfl (Or.inl rfl))) (fun _ _ _ _ _ => pts_nil) (fun _ _ _ _ _ => (pe_cmp (pc_din (hu_of hr) (pe_dget (hu_of hr) (pv 4) (pv 5) (fun _ _ => rfl)) (pv 2)))))) pa_nil)))) (pss_one ps_never) pss_nil)
      (pss_cons (ps_set (i := 6) sc_check_caps.nd rfl (Or.inr rfl) (pe_e e_loads_of (hr.mono (by decide)) pass0 (pa_cons (pv 4) (pa_cons (pv 2) pa_nil))))
      (pss_one (ps_if (pt_val (pe_callB (cr_anyK (K := K) rfl rfl) (by rfl) T.n_any (by decide +kernel) (pa_cons (pe_lock (pe_lc (own := [("reader", 3)]) (g := gName 3) (tt := tYes) rfl sc_check_caps.nd (pi_keys (pv 2)) (blkOk_by (N := ["deal", "goal", "caps", "reader", "told", "lane", "loads"]) (sc := defScope s_check_caps) (by decide +kernel)) (fun _ _ _ _ _ => (pg_name (i := 3) sc_check_caps.nd rfl (Or.inl rfl))) (fun _ _ _ _ _ => pts_nil) (fun _ _ _ _ _ => (pe_cmpR op_gt (pe_dget (hu_of hr) (pv 6) (pv 3) (fun _ _ => rfl)) (pe_dget (hu_of hr) (pv 2) (pv 3) (fun _ _ => rfl)) (nomark _))))) pa_nil))) (pss_one ps_never) pss_nil))))))))))), ?_⟩
    have n60 := okD.n
    have k1 := ck.n1
    have k2 := ck.n2
    refine ⟨_, rfl, d, L, D, rfl, hd, okD, fun H0 e0 => ⟨_, rfl, g, L, G, rfl, e0 _ _ hg, okG, fun H1 e01 => ?_⟩⟩
    have e1 := e0.trans e01
    refine ⟨_, rfl, d, _, L, rfl, .inl (e1 _ _ hd), kd_fst _ _, by omega, fun ys p1 hy1 hy2 hp1 => ?_⟩
    have ey := sorted_uniq hy1 hy2 okD.so
    subst ey
    have e2 : Ex H1 (upd H1 p1 (.lst (ys.map V.str))) := Ex.new hp1
    have hp11 : upd H1 p1 (.lst (ys.map V.str)) p1 = _ := upd_same
    generalize upd H1 p1 (.lst (ys.map V.str)) = H2 at e2 hp11
    refine ⟨_, rfl, g, _, ys, rfl, .inl ((e1.trans e2) _ _ hg), kd_fst _ _, by omega, fun zs p2 hz1 hz2 hp2 => ?_⟩
    have ez := sorted_uniq hz1 hz2 okD.so
    subst ez
    have e3 : Ex H2 (upd H2 p2 (.lst (zs.map V.str))) := Ex.new hp2
    refine strs_ne (e3 _ _ hp11) upd_same (fun x hx => isW_strOk (okD.w x hx)) ⟨false, rfl, iteF ?_⟩
    generalize upd H2 p2 (.lst (zs.map V.str)) = H3 at e3
    have e13 := e1.trans (e2.trans e3)
    refine ⟨_, rfl, _, _, _, _, true, rfl, .ty _, tDict (e13 _ _ hc), kDict, true, rfl, iteF ?_⟩
    refine ⟨_, rfl, c, _, rfl, e13 _ _ hc, _, _, rfl, rfl, true, bl_t (by rw [kd_len]; omega), iteT ⟨_, _, rfl, rfl, true, bl_t (by rw [kd_len]; omega), iteF ?_⟩⟩
    refine lcd (e13 _ _ hc) (by omega) (fun H1 Q' q' => ⟨_, rfl, q'⟩) (fun _ => true) (fun _ => .bl true) (fun z hz H4 eb rd Qy Qn g1 g2 => ?_) fun p4 H4 hp4 e4 h4 => ?_
    · refine ⟨rfl, tyes ⟨_, rfl, z, rfl, ck.w z hz, fun H5 e5 => ⟨true, rfl, iteT ?_⟩⟩⟩
      exact ⟨_, rfl, _, rfl, c, _, rfl, gk (rde rd e5) hz, _, rfl, ck.c0 z hz, ck.c60 z hz, g1 rfl _ e5⟩
    refine ⟨p4, ks.map fun _ => true, rfl, sql (by rw [h4, List.map_map, List.filter_eq_self.mpr fun _ _ => rfl]; rfl), true, congrArg V.bl (all_true _), iteF ?_⟩
    have e14 := e13.trans e4
    refine ⟨_, rfl, _, rfl, le2, fun tt htt => ?_⟩
    have e5 : Ex H4 (upd H4 tt (.tup [.ref d, .ref g])) := Ex.new htt
    have htt5 : upd H4 tt (.tup [.ref d, .ref g]) tt = _ := upd_same
    generalize upd H4 tt (.tup [.ref d, .ref g]) = H5 at e5 htt5
    have e15 := e14.trans e5
    refine ⟨tt, rfl, ⟨_, sqt htt5⟩, ?_⟩
    refine for_src (Src.tup (G := H5) (sqt htt5)) (fun i σ' H' => ∃ x4 x5 x6, σ' = [some (V.ref d), some (.ref g), some (.ref c), none, x4, x5, x6] ∧ Ex H5 H') ⟨_, _, _, rfl, Ex.refl _⟩ (fun i σ' H' pv => by obtain ⟨_, _, _, _, e⟩ := pv; exact e) (fun i v σ' H' H6 hi pv e6 y => ?_) fun σ' H' pv => ?_
    · obtain ⟨x4, x5, x6, rfl, e⟩ := pv
      obtain ⟨a, E', rfl, ha, hE1, hE2⟩ : ∃ a E', v = .ref a ∧ DlAt H a zs E' ∧ (∀ l ∈ zs, E' l ∈ ks) ∧ ∀ r ∈ ks, cntI E' zs r ≤ cp r := by
        match i, y with
        | 0, y => cases y; exact ⟨d, D, rfl, hd, ck.d, ck.ld⟩
        | 1, y => cases y; exact ⟨g, G, rfl, hg, ck.g, ck.lg⟩
        | n + 2, y => simp at y
      have e16 := (e15.trans e).trans e6
      have ha6 := e16 _ _ ha
      have hc6 := e16 _ _ hc
      dsimp only [tSeq_ap, tAsg_ap, gName_ap, tC_ap, tNext_ap, tRet_ap, tAndV_ap, tCB_ap, tCons_ap, tNil_ap, tB_ap, tTest_ap, tNot_ap, tOr_ap, tAnd_ap, tIfS_ap, tOp_ap, tDrop_ap]
      refine lcd ha6 (by omega) (fun H1 Q' q' => ⟨_, rfl, q'⟩) (fun _ => true) (fun _ => .bl true) (fun z hz H7 eb rd Qy Qn g1 g2 => ?_) fun p7 H7 hp7 e7 h7 => ?_
      · exact ⟨rfl, tyes ⟨_, rfl, _, rfl, a, _, rfl, gk rd hz, _, rfl, c, _, rfl, gk (rd_of ha6 hc6 eb rd) (hE1 z hz), g1 rfl _ (Ex.refl _)⟩⟩
      refine ⟨p7, zs.map fun _ => true, rfl, sql (by rw [h7, List.map_map, List.filter_eq_self.mpr fun _ _ => rfl]; rfl), true, congrArg V.bl (all_true _), iteF ?_⟩
      refine ⟨_, rfl, _, rfl, a, c, zs, E', ks, rfl, e7 _ _ ha6, by omega, ck.nd, by omega, hE1, .inr ⟨_, e7 _ _ hc6⟩, fun p8 H8 hp8 e8 h8 => ?_⟩
      have hc8 := e8 _ _ (e7 _ _ hc6)
      refine lcd hc8 (by omega) (fun H1 Q' q' => ⟨_, rfl, q'⟩) (fun _ => true) (fun _ => .bl false) (fun z hz H9 eb rd Qy Qn g1 g2 => ?_) fun p9 H9 hp9 e9 h9 => ?_
      · refine ⟨rfl, tyes ⟨_, rfl, _, rfl, p8, _, rfl, gk (rd_of hc8 h8 eb rd) hz, _, rfl, _, rfl, c, _, rfl, gk rd hz, _, _, rfl, rfl, ?_⟩⟩
        exact cgv (Q := Qy) (bl_f (by have := hE2 z hz; omega)) (g1 rfl _ (Ex.refl _))
      refine ⟨p9, ks.map fun _ => false, rfl, sql (by rw [h9, List.map_map, List.filter_eq_self.mpr fun _ _ => rfl]; rfl), false, ?_, iteF ⟨_, _, _, rfl, e.trans (e6.trans (e7.trans (e8.trans e9)))⟩⟩
      rw [List.any_eq_false.mpr fun b hb => by obtain ⟨_, _, rfl⟩ := List.mem_map.mp hb; decide]
    · obtain ⟨_, _, _, rfl, e⟩ := pv
      exact q _ (e15.trans e)
end
end K55


set_option Elab.async false
set_option linter.all false
set_option maxRecDepth 100000
set_option maxHeartbeats 4000000
namespace K55
open PySem PySem.Spec PyProof.Rows L2 Evl
/-- the moves that are wanted -/
def wnt (L : List Str) (D G : Str → Str) : List (Str × Str × Str) := (L.filter fun l => decide (D l ≠ G l)).map fun l => (l, D l, G l)
theorem wnt_of {H : Hp} {Dd : Addr} {D G : Str → Str} (ys : List Str) : ∀ (n : Nat) (zs : List V), n ≤ ys.length → Paired (fun i y => ∃ t l, ys[i]? = some l ∧ y = V.ref t ∧ t ≠ Dd ∧ H t = some (.tup [.str l, .str (D l), .str (G l)])) ((List.range n).filter fun i => decide (D (ys.getD i default) ≠ G (ys.getD i default))) zs →
    ∃ ts : List Addr, zs = ts.map V.ref ∧ Paired (fun t m => H t = some (.tup [.str m.1, .str m.2.1, .str m.2.2])) ts (wnt (ys.take n) D G)
  | 0, zs, _, p => by
    cases p
    exact ⟨[], rfl, .nil⟩
  | n + 1, zs, hn, p => by
    have hz : ys[n]? = some ys[n] := List.getElem?_eq_getElem (by omega)
    rw [List.range_succ, List.filter_append, List.filter_cons, List.filter_nil, getD_of hz] at p
    by_cases hq : D ys[n] ≠ G ys[n]
    · rw [if_pos (decide_eq_true hq)] at p
      obtain ⟨z1, z2, rfl, q1, q2⟩ := paired_split p
      obtain ⟨ts, rfl, h2⟩ := wnt_of ys n z1 (by omega) q1
      cases q2 with
      | cons r t =>
        cases t
        obtain ⟨t, l, h3, rfl, h4, h5⟩ := r
        rw [hz] at h3
        cases h3
        refine ⟨ts ++ [t], by rw [List.map_append]; rfl, ?_⟩
        unfold wnt
        rw [take_succ_at hz, List.filter_append, List.filter_cons, if_pos (decide_eq_true hq), List.filter_nil, List.map_append]
        exact paired_snoc h2 h5
    · rw [if_neg (by rw [decide_eq_true_eq]; exact hq), List.append_nil] at p
      obtain ⟨ts, h1, h2⟩ := wnt_of ys n zs (by omega) p
      refine ⟨ts, h1, ?_⟩
      unfold wnt
      rw [take_succ_at hz, List.filter_append, List.filter_cons, if_neg (by rw [decide_eq_true_eq]; exact hq), List.filter_nil, List.append_nil]
      exact h2
section
variable {P : Program} {w : World} {K : PySem.W.Frag} {mg : Str → Option Value} {base : Heap}
/-! ### wanted -/
def spWanted (K : PySem.W.Frag) : Sp := fun vs H Q E => ∃ (d g : Addr) (L : List Str) (D G : Str → Str), vs = [.ref d, .ref g] ∧ DlAt H d L D ∧ DlAt H g L G ∧ DlOk L D ∧
  ∀ p H', H p = none → Ex H H' → MvAt H' p (wnt L D G) → Q (.ref p) H'
theorem sc_wanted : FnScope ["deal", "goal", "lane"] ["deal", "goal"] (defScope s_wanted) := ⟨rfl, rfl, rfl, by decide +kernel, rfl, by decide +kernel, by decide +kernel⟩
theorem ok_wanted (T : Txt K mg) : Ent P w K mg base CX0 1 "wanted" ["deal", "goal"] [] (spWanted K) := by
  obtain ⟨fd, F⟩ := T.f_wanted
  refine Ent.mk' T.g_wanted F (FunD.ok0 F sc_wanted (fun vs H Q E h => ?_) (fun cdv A outer s H vs Q E hr h => ?_)) (fun _ _ _ _ _ _ us hl => match us, hl with | [_, _], _ => rfl)
  · obtain ⟨d, g, L, D, G, rfl, hd, hg, okD, q⟩ := h
    rfl
  · obtain ⟨d, g, L, D, G, rfl, hd, hg, okD, q⟩ := h
    refine ⟨_, (pss_one (ps_ret (pe_lc (own := [("lane", 2)]) (g := gName 2) (tt := _) rfl sc_wanted.nd (pi_listK (K := K) rfl (pe_callB (call_sortedD rfl) (by rfl) T.n_sorted (by decide +kernel) (pa_cons (pv 0) pa_nil))) (blkOk_by (N := ["deal", "goal", "lane"]) (sc := defScope s_wanted) (by decide +kernel)) (fun _ _ _ _ _ => (pg_name (i := 2) sc_wanted.nd rfl (Or.inl rfl))) (fun _ _ _ _ _ => (pts_one (pt_cmpR op_ne (pe_dget (hu_of hr) (pv 0) (pv 2) (fun _ _ => rfl)) (pe_dget (hu_of hr) (pv 1) (pv 2) (fun _ _ => rfl)) (nomark _)))) (fun _ _ _ _ _ => (pe_tup (pa_cons (pv 2) (pa_cons (pe_dget (hu_of hr) (pv 0) (pv 2) (fun _ _ => rfl)) (pa_cons (pe_dget (hu_of hr) (pv 1) (pv 2) (fun _ _ => rfl)) pa_nil)))))))), ?_⟩
    have n60 := okD.n
    refine ⟨_, rfl, d, _, L, rfl, .inl hd, kd_fst _ _, by omega, fun ys p1 hy1 hy2 hp1 => ?_⟩
    have ey := sorted_uniq hy1 hy2 okD.so
    subst ey
    have e1 : Ex H (upd H p1 (.lst (ys.map V.str))) := Ex.new hp1
    have hp11 : upd H p1 (.lst (ys.map V.str)) p1 = _ := upd_same
    generalize upd H p1 (.lst (ys.map V.str)) = H1 at e1 hp11
    refine ⟨p1, rfl, ⟨_, sql hp11⟩, fun Dd hDd => ?_⟩
    have hd1 := e1 _ _ hd
    have hg1 := e1 _ _ hg
    refine lc_src (Src.list (sql hp11)) (Ex.refl _) hDd (by rw [List.length_map]; omega) (fun i y H' => ∃ t l, ys[i]? = some l ∧ y = V.ref t ∧ t ≠ Dd ∧ H' t = some (.tup [.str l, .str (D l), .str (G l)])) (fun i y H' H'' ⟨t, l, h1, h2, h3, h4⟩ e => ⟨t, l, h1, h2, h3, e _ _ h3 h4⟩)
      (fun i => decide (D (ys.getD i default) ≠ G (ys.getD i default))) (fun i x H2 hi e2 ⟨acc, hacc⟩ y Qy Qn g1 g2 => ?_) fun zs H2 e2 h2 pr => ?_
    · rw [List.getElem?_map] at y
      cases hz : ys[i]? with
      | none => rw [hz] at y; cases y
      | some l =>
      rw [hz] at y
      cases y
      rw [getD_of hz] at g1 g2
      have hl := mem_of_at hz
      refine ⟨rfl, _, rfl, _, rfl, d, _, rfl, gk (.inl (e2 _ _ hd1)) hl, _, rfl, _, rfl, g, _, rfl, gk (.inl (e2 _ _ hg1)) hl, rfl, ?_⟩
      by_cases hq : D l = G l
      · refine ⟨false, ?_, iteF (g2 ?_ _ (Ex.refl _))⟩
        · rw [hq, decide_eq_true rfl]; rfl
        · exact decide_eq_false fun h => h hq
      · refine ⟨true, ?_, iteT ?_⟩
        · rw [decide_eq_false fun h => hq (by injection h)]; rfl
        refine ⟨_, rfl, _, rfl, _, rfl, d, _, rfl, gk (.inl (e2 _ _ hd1)) hl, _, rfl, _, rfl, g, _, rfl, gk (.inl (e2 _ _ hg1)) hl, le3, fun t ht => ?_⟩
        exact g1 (decide_eq_true hq) _ _ (Ex.new ht) ⟨t, l, hz, rfl, fun e => (by rw [e, hacc] at ht; cases ht), upd_same⟩
    · rw [List.length_map] at pr
      obtain ⟨ts, rfl, h3⟩ := wnt_of ys ys.length zs (Nat.le_refl _) pr
      rw [List.take_of_length_le (Nat.le_refl _)] at h3
      exact q Dd H2 (no_of e1 hDd) (e1.trans e2) ⟨ts, h2, h3⟩
end
end K55


set_option Elab.async false
set_option linter.all false
set_option maxRecDepth 100000
set_option maxHeartbeats 4000000
/-! own rules: a dict not in a list of dicts; sorted(..) of lists of texts -/
namespace K55S
open PySem PySem.SeqAt PySem.W PyProof.Rows
open AutoSeq1 (wpAny_loadPart')
open MeetsSeq MeetsSeq2 MeetsSeq3 SeqRoads2
section
variable {prog : Program} {w : World}
/-- the walk of a list for an item, each answer told at this model alone -/
theorem has_loop (l : Addr) (its : Array Value) (n : Nat) (dd : Option Addr) (sl : Array (Option Value)) (x : Value) (ans : Value → Bool) (k : Nat) :
    ∀ i : Nat, its.size - i = k → MeetsIn prog w (Builtin.«list.__contains__.loop» ⟨[.ref l, x, rawInt i], []⟩)
      (fun A R s => s.heap.get? l = some { cls := .type "list", dict := dd, data := .seq its n, slots := sl } ∧ (∀ y, y ∈ its → EqP prog w A.in1 s y x (ans y)) ∧ R (.ok (.ret (.bool ((its.toList.drop i).any ans)))) s) := by
  induction k with
  | zero =>
    intro i hk A R s h
    obtain ⟨hp, g, d, tk, os⟩ := s
    obtain ⟨hl, _, h⟩ := h
    wp_walk using wpAny_loadPart' hl
    have e1 : its[((i : Nat) : Int).toNat]? = none := by simp; omega
    have e2 : its.toList.drop i = [] := by simp; omega
    rw [e2] at h
    rw [e1]
    wp_walk
    exact h
  | succ k ih =>
    intro i hk A R s h
    obtain ⟨hp, g, d, tk, os⟩ := s
    obtain ⟨hl, he, h⟩ := h
    wp_walk using wpAny_loadPart' hl
    have lt : i < its.size := by omega
    have e1 : its[((i : Nat) : Int).toNat]? = some its[i] := by simp [lt]
    have e2 : its.toList.drop i = its[i] :: its.toList.drop (i + 1) := by simp [List.drop_eq_getElem_cons, lt]
    rw [e2, List.any_cons] at h
    rw [e1]
    refine wpAny_bind (he _ (Array.getElem_mem lt) _ _ ?_)
    cases q : ans its[i] with
    | true =>
      rw [q] at h
      wp_walk
      exact h
    | false =>
      rw [q] at h
      have e3 : ((i : Int) + 1) = ((i + 1 : Nat) : Int) := by push_cast; rfl
      wp_walk
      rw [e3]
      exact ⟨plainId_quiet plain_contains_loop _, codeAny_builtin entry_contains_loop (by
        rw [Around.under_plainId plain_contains_loop _]
        exact ih (i + 1) (by omega) A R _ ⟨hl, he, by simpa using h⟩)⟩
theorem has_list (l : Addr) (its : Array Value) (n : Nat) (dd : Option Addr) (sl : Array (Option Value)) (x : Value) (ans : Value → Bool) :
    MeetsIn prog w (Builtin.«list.__contains__» ⟨[.ref l, x], []⟩)
      (fun A R s => s.heap.get? l = some { cls := .type "list", dict := dd, data := .seq its n, slots := sl } ∧ (∀ y, y ∈ its → EqP prog w A.in1 s y x (ans y)) ∧ R (.ok (.ret (.bool (its.any ans)))) s) := by
  intro A R s h
  obtain ⟨hp, g, d, tk, os⟩ := s
  obtain ⟨hl, he, h⟩ := h
  wp_walk using wpAny_loadPart' hl
  exact ⟨plainId_quiet plain_contains_loop _, codeAny_builtin entry_contains_loop (by
    rw [Around.under_plainId plain_contains_loop _]
    exact has_loop l its n dd sl x ans _ 0 rfl A R _ ⟨hl, he, by simpa using h⟩)⟩
variable {A : Around} {E : Value → Shared → Prop} {s : Shared}
theorem not_in_list {l : Addr} {its : Array Value} {x : Value} {Q : Value → Shared → Prop} (ans : Value → Bool) (hl : s.heap.IsList l its) (he : ∀ y, y ∈ its → EqP prog w A.in1 s y x (ans y))
    (h : Q (.bool (!its.any ans)) s) : wpAny (model prog w) A (compareOp .NotIn x (.ref l)) Q E s := by
  obtain ⟨⟨cls, dd, data, sl⟩, ho, hc, n, hd⟩ := id hl
  simp only at hc hd
  subst hc hd
  have hT : s.TypeIs (.ref l) "list" := ⟨_, ho, rfl⟩
  show wpAny _ A (do return .bool (!(← contains (.ref l) x))) Q E s
  refine wpAny_bind (wpAny_contains_slot hT F.slot_list_contains (wpAny_mono (Q := fun v s' => ∃ b, v = .bool b ∧ Q (.bool (!b)) s') (call_meetsIn F.slot_list_contains hT F.entry_list_contains (F.args_list_contains_2 _ _) (has_list l its n dd sl x ans) ⟨ho, he, _, rfl, h⟩) (fun v s' hv => ?_) fun _ _ e => e))
  obtain ⟨b, rfl, q⟩ := hv
  exact wpAny_truthy_bool (wpAny_pure q)
end
/-! ### sorted of lists of texts -/
/-- at v: a list of texts, not the one at a -/
def IsSL (h : Heap) (a : Addr) (v : Value) : Prop := ∃ t its, v = .ref t ∧ t ≠ a ∧ h.IsList t its ∧ ∀ u ∈ its.toList, ∃ z k, u = Value.str z k
theorem IsSL.keeps {h h' : Heap} {a : Addr} {v : Value} (x : IsSL h a v) (k : ∀ b o, b ≠ a → h.get? b = some o → h'.get? b = some o) : IsSL h' a v := by
  obtain ⟨t, its, e, n, ⟨o, ho, hd⟩, hs⟩ := x
  exact ⟨t, its, e, n, ⟨o, k t o n ho, hd⟩, hs⟩
section
variable {prog : Program} {w : World} {A : Around} {s : Shared}
def txtOf : Value → Str
  | .str z _ => z
  | _ => ""
theorem lt_SL {a : Addr} {x y : Value} (hu : A.units < cLine) (hx : IsSL s.heap a x) (hy : IsSL s.heap a y) : ∃ b : Bool, wpAny (model prog w) A (keyLt' oneType' x y) (fun r s' => s' = s ∧ r = b) (fun _ _ => False) s := by
  obtain ⟨t, its, rfl, _, hl, hs⟩ := hx
  obtain ⟨t', its', rfl, _, hl', hs'⟩ := hy
  rw [keyLt'_oneType, oneLt'_eq]
  simp only [if_true]
  have tt : s.TypeIs (.ref t) "list" := by
    obtain ⟨o, ho, hc, _⟩ := hl
    exact ⟨o, ho, hc⟩
  have key : ∀ j (h1 : j < its.size), ∃ z k, its[j] = Value.str z k := fun j h1 => hs _ (by simp)
  have key' : ∀ j (h1 : j < its'.size), ∃ z k, its'[j] = Value.str z k := fun j h1 => hs' _ (by simp)
  have at_ : ∀ (xs : Array Value) j (h1 : j < xs.size), xs.getD j .none = xs[j] := fun xs j h1 => by simp [Array.getD, h1]
  refine ⟨firstLt (fun j => txtOf (its.getD j .none) == txtOf (its'.getD j .none)) (fun j => decide ((txtOf (its.getD j .none)).cps.toList < (txtOf (its'.getD j .none)).cps.toList)) (decide (its.size < its'.size)) (List.range (min its.size its'.size)), ?_⟩
  refine wpAny_bind (wpAny_cRoomFor hu ?_)
  refine wpAny_bind (wpAny_callSpecialIfBound?_slot tt F.slot_list_lt (call_list_lt (e := fun j => txtOf (its.getD j .none) == txtOf (its'.getD j .none)) (r := fun j => decide ((txtOf (its.getD j .none)).cps.toList < (txtOf (its'.getD j .none)).cps.toList)) hl hl' (fun j h1 h2 => ?_) (fun j h1 h2 _ => ?_) ?_))
  · obtain ⟨z, k, e⟩ := key j h1
    obtain ⟨z', k', e'⟩ := key' j h2
    rw [at_ _ _ h1, at_ _ _ h2, e, e']
    exact EqAt.str_str z k z' k'
  · obtain ⟨z, k, e⟩ := key j h1
    obtain ⟨z', k', e'⟩ := key' j h2
    rw [at_ _ _ h1, at_ _ _ h2, e, e']
    intro prog w E Q h
    exact P.lt_str h
  · exact wpAny_truthy_bool ⟨rfl, rfl⟩
theorem sortable_SL {a : Addr} {vs : List Value} (h2 : 2 ≤ vs.length) (hu : A.units < cLine) (hv : ∀ v ∈ vs, IsSL s.heap a v) : Srt.Sortable prog w A s a vs := by
  intro h' keep
  have hv' : ∀ v ∈ vs, IsSL h' a v := fun v hm => (hv v hm).keeps keep
  refine ⟨oneType', fun Q E hq => ?_, fun p q hp hq => lt_SL (s := { s with heap := h' }) hu (hv' _ hp) (hv' _ hq)⟩
  refine kas_kind (s := { s with heap := h' }) (T := .type "list") h2 (fun v hm => ?_) (by decide) (by decide) hq
  obtain ⟨t, its, rfl, _, ⟨o, ho, hc, _⟩, _⟩ := hv' v hm
  exact fun A Q E s k q => wpAny_typeOf_ref (k _ _ ho) (by rw [hc]; exact q)
end
end K55S
namespace K55
open PySem PySem.Spec PyProof.Rows L2 Evl
theorem addr_of : ∀ {ts : List Addr} {us : List Value}, Vals (ts.map V.ref) us → us = ts.map Value.ref
  | [], us, r => by
    rw [List.map_nil] at r
    cases r
    rfl
  | t :: ts, us, r => by
    rw [List.map_cons] at r
    cases r with
    | cons h q =>
      cases h
      rw [List.map_cons, ← addr_of q]
theorem addr_vals : ∀ ts : List Addr, Vals (ts.map V.ref) (ts.map Value.ref)
  | [] => .nil
  | _ :: ts => .cons rfl (addr_vals ts)
theorem strs_of : ∀ {xs : List Str} {us : List Value}, Vals (xs.map V.str) us → ∀ u ∈ us, ∃ z k, u = Value.str z k
  | [], us, r => by
    rw [List.map_nil] at r
    cases r
    exact fun u hu => absurd hu List.not_mem_nil
  | x :: xs, us, r => by
    rw [List.map_cons] at r
    cases r with
    | cons h q =>
      obtain ⟨k, rfl⟩ := h
      intro u hu
      rcases List.mem_cons.mp hu with rfl | hu
      · exact ⟨_, _, rfl⟩
      · exact strs_of q u hu
section
variable {X : Cx}
/-- sorted(xs), xs a list of lists of texts -/
def rSortLL (K : PySem.W.Frag) : List V → Hp → VK → Prop := fun vs H Q => ∃ (a : Addr) (ts : List Addr), vs = [V.ref a] ∧ SqL K H a (ts.map V.ref) ∧ (∀ t ∈ ts, ∃ xs : List Str, H t = some (.lst (xs.map V.str))) ∧
  ∀ (ts' : List Addr) (p : Addr), ts'.Perm ts → H p = none → Q (.ref p) (upd H p (.lst (ts'.map V.ref)))
theorem cr_sortedLL (hu : X.A.units + 64 < cLine) : CallR X (.builtin "sorted") (rSortLL X.K) := by
  intro pins s σ H vs us Q I r h
  obtain ⟨a, ts, rfl, hs, hx, q⟩ := h
  obtain ⟨its, rv, hl, hz⟩ := I.list hs
  obtain ⟨u, rfl, ru⟩ := vals1 r
  obtain rfl : u = Value.ref a := ru
  have ei := addr_of rv
  subst ei
  rw [List.length_map] at hz
  refine Srt.sorted_any hl.isList (by rw [List.length_map]; exact hz) (fun h2 h₁ a' ha' kk => ?_) fun out ho => ?_
  · refine K55S.sortable_SL (s := { s with heap := h₁ }) h2 (by show X.A.units + 1 + 1 < cLine; omega) fun v hv => ?_
    obtain ⟨t, ht, rfl⟩ := List.mem_map.mp hv
    obtain ⟨xs, hxs⟩ := hx t ht
    obtain ⟨_, us', n, r2, hob⟩ := I.hok _ _ hxs
    obtain ⟨ne, k⟩ := kk _ _ hob
    exact ⟨t, us'.toArray, rfl, ne, ⟨_, k, rfl, _, rfl⟩, fun u hu => strs_of r2 u (by simpa using hu)⟩
  · obtain ⟨ts', hp', rfl⟩ : ∃ ts' : List Addr, ts'.Perm ts ∧ out = ts'.map Value.ref := by
      have hr : ∀ v ∈ out, ∃ t, v = Value.ref t := fun v hv => by
        obtain ⟨t, _, e⟩ := List.mem_map.mp (ho.mem_iff.mp hv)
        exact ⟨t, e.symm⟩
      let f : Value → Addr := fun v => match v with
        | .ref a => a
        | _ => 0
      have e2 : out = (out.map f).map Value.ref := by
        rw [List.map_map]
        refine (List.map_id out).symm.trans (List.map_congr_left fun v hv => ?_)
        obtain ⟨t, rfl⟩ := hr v hv
        rfl
      refine ⟨out.map f, ?_, e2⟩
      have := ho.map f
      rw [List.map_map] at this
      exact this.trans (List.Perm.of_eq ((List.map_congr_left fun _ _ => rfl).trans (List.map_id ts)))
    obtain ⟨n, hn⟩ := sortedAll_at s.heap (ts.map Value.ref) (ts'.map Value.ref).toArray
    refine ⟨.ref _, upd H (s.heap.objs.size + 1) (.lst (ts'.map V.ref)), I.laid (t' := s.toks) (fun b o e => sortedAll_old e) (Nat.le_succ _) ⟨?_, ts'.map Value.ref, n, addr_vals ts', hn⟩, rfl, q _ _ hp' (I.hok.fresh (Nat.le_succ _))⟩
    rw [List.length_map, hp'.length_eq]
    exact hz
theorem cr_sortedLLK {K : PySem.W.Frag} (h : X.K = K) (hu : X.A.units + 64 < cLine) : CallR X (.builtin "sorted") (rSortLL K) := h ▸ cr_sortedLL hu
/-! ### a dict of texts not in a list of such dicts -/
theorem hits_all {P : Program} {w : World} {A : Around} {s : Shared} {ls : List Str} {vb : List (Key × Value)} (rb : KV (kd ls fun _ => V.bl true) vb) : ∀ {ks : List Str} {va : List (Key × Value)},
    KV (kd ks fun _ => V.bl true) va → PySem.W.KeqHitsP P w A s vb va (ks.all fun k => decide (k ∈ ls))
  | [], va, ra => by
    unfold KV at ra
    cases ra
    exact .nil
  | k :: ks, va, ra => by
    unfold KV at ra
    cases ra with
    | @cons p q ps qs h t =>
    obtain ⟨h1, h2⟩ := h
    obtain ⟨key, v⟩ := q
    have h1 : (Sum.inr k : Key) = key := h1
    subst h1
    have rr := rb.val (Sum.inr k : Key)
    rw [List.all_cons]
    by_cases m : k ∈ ls
    · rw [valV_kd_mem m] at rr
      obtain ⟨y, hy, ry⟩ := rr.some_of
      rw [decide_eq_true m]
      exact .hit hy (eqAt_V h2 ry rfl rfl).eqP (hits_all rb t)
    · rw [valV_kd_not m] at rr
      rw [decide_eq_false m, Bool.false_and]
      exact .miss rr.none_of
def rNotInR (K : PySem.W.Frag) : R2 := fun x y H Q => ∃ (a p : Addr) (bs : List Addr) (c : Addr → List Str), x = .ref a ∧ y = .ref p ∧ KD H a (c a) (fun _ => .bl true) ∧ SqL K H p (bs.map V.ref) ∧ (∀ b ∈ bs, KD H b (c b) fun _ => .bl true) ∧
  (a ∉ bs → ∀ b ∈ bs, ∃ k ∈ c b, k ∉ c a) ∧ Q (.bl (!decide (a ∈ bs))) H
theorem op_notInR (hu : X.A.units + 64 < cLine) : OpR X (compareOp .NotIn) (rNotInR X.K) := by
  intro pins s σ H x y v u Q I rx ry h
  obtain ⟨a, p, bs, c, rfl, rfl, ha, hp, hb, hd, q⟩ := h
  cases rx
  cases ry
  obtain ⟨its, rv, pl, hz⟩ := I.list hp
  have ei := addr_of rv
  subst ei
  obtain ⟨_, ya, va, ra, da⟩ := (show ObjOk X.prog X.w H s.heap a (.dK (kd (c a) fun _ => V.bl true)) from I.hok a _ ha)
  refine K55S.not_in_list (fun v => match v with
    | .ref b => decide (b = a) || (decide ((c b).length = (c a).length) && (c b).all fun k => decide (k ∈ c a))
    | _ => false) pl.isList (fun y hy => ?_) ?_
  · obtain ⟨b, hb', rfl⟩ := List.mem_map.mp (by simpa using hy : y ∈ bs.map Value.ref)
    by_cases e : b = a
    · subst e
      dsimp only
      rw [decide_eq_true rfl, Bool.true_or]
      exact (SeqAt.EqAt.same _).eqP
    · dsimp only
      rw [decide_eq_false e, Bool.false_or]
      obtain ⟨_, yb, vb, rb, db⟩ := (show ObjOk X.prog X.w H s.heap b (.dK (kd (c b) fun _ => V.bl true)) from I.hok b _ (hb b hb'))
      refine SeqAt.eqP_refs e fun E Q q => PySem.W.rcP_dicts (knd := mixKind X.prog X.w) yb ya db da (by show X.A.units + 1 < cLine; omega) (fun _ => hits_all ra rb) E Q ?_
      have e1 : (vb.length == va.length) = decide ((c b).length = (c a).length) := by
        rw [← rb.length, ← ra.length, kd_len, kd_len]
        by_cases z : (c b).length = (c a).length
        · rw [z, decide_eq_true rfl]
          exact beq_self_eq_true _
        · rw [decide_eq_false z]
          exact beq_eq_false_iff_ne.mpr z
      rw [e1]
      exact q
  · have e2 : ((bs.map Value.ref).toArray.any fun v => match v with
        | .ref b => decide (b = a) || (decide ((c b).length = (c a).length) && (c b).all fun k => decide (k ∈ c a))
        | _ => false) = decide (a ∈ bs) := by
      rw [List.any_toArray, List.any_map]
      by_cases m : a ∈ bs
      · rw [decide_eq_true m, List.any_eq_true]
        exact ⟨a, m, by simp⟩
      · rw [decide_eq_false m, List.any_eq_false]
        intro b hb'
        obtain ⟨k, k1, k2⟩ := hd m b hb'
        have ne : b ≠ a := fun e => m (e ▸ hb')
        have f : ((c b).all fun k => decide (k ∈ c a)) = false := by
          rw [List.all_eq_false]
          exact ⟨k, k1, by simp [k2]⟩
        show ¬ ((decide (b = a) || (decide ((c b).length = (c a).length) && (c b).all fun k => decide (k ∈ c a))) = true)
        rw [f, decide_eq_false ne]
        simp
    refine ⟨.bl _, H, I, rfl, ?_⟩
    rw [e2]
    exact q
theorem op_notInRK {K : PySem.W.Frag} (h : X.K = K) (hu : X.A.units + 64 < cLine) : OpR X (compareOp .NotIn) (rNotInR K) := h ▸ op_notInR hu
end
end K55

set_option Elab.async false
set_option linter.all false
set_option maxRecDepth 100000
set_option maxHeartbeats 4000000
namespace K55
open PySem PySem.Spec PyProof.Rows L2 Evl
/-! ### the truth of an instance by its own __bool__ -/
def rTruO (C : Addr) (sp : Sp) (E : XK) : V → Hp → (Bool → Hp → Prop) → Prop := fun x H Q => ∃ a dx fs, x = .ref a ∧ H a = some (.ins C dx fs) ∧ sp [.ref a] H (fun z H' => ∃ b, z = .bl b ∧ Q b H') E
section
variable {X : Cx} {CX : CXT} {k : Nat} {C : Addr} {ps : List Str} {sp : Sp} {E : XK} {a : Expr} {ta : TE}
theorem tru_own (G : EntM X.prog X.w X.K X.mg X.base CX k C "__bool__" ps sp) (hr : Room k X.A) (hx : Passes CX X E) : TruR X (rTruO C sp E) := by
  intro pins s σ H x v Q I rx h
  obtain ⟨b, dx, fs, rfl, hb, q⟩ := h
  cases rx
  obtain ⟨f, fd, M, hbd, F⟩ := G.ex
  obtain ⟨mA, O, _, _, _, _⟩ := ins_get I.hok hb
  obtain ⟨od, J, _⟩ := O.look
  unfold truthy
  dsimp only
  refine wpAny_bind (PySem.W.special_fn I.kIn J M.at_ (beq_iff_eq.mp M.fn) (wpAny_mono (wpAny_call (run_fnR (us := [.ref b]) (vs := [.ref b]) (F.raw hbd .nil) hr hx I (.cons rfl .nil) (by rw [List.append_nil]; exact q))) (fun w s' z => ?_) fun _ _ y => y))
  obtain ⟨z', H', I', rz, c, ez, qz⟩ := z
  subst ez
  cases (show w = Value.bool c from rz)
  exact wpAny_pure ⟨H', I', qz⟩
theorem pt_own (G : EntM X.prog X.w X.K X.mg X.base CX k C "__bool__" ps sp) (hr : Room k X.A) (hx : Passes CX X E) (ha : PE X a ta) (he : ∀ whole, isTrue a X.env whole = (do let v ← whole; standAt a.pos; holding [v] (truthy v))) :
    PT X a (fun σ H Q => ta σ H fun x H' => rTruO C sp E x H' Q) := pt_truthR ha (tru_own G hr hx) he
end
/-! ### Order.__bool__ -/
section
variable {P : Program} {w : World} {K : PySem.W.Frag} {mg : Str → Option Value} {base : Heap}
def spOrderBool : Sp := fun vs H Q _ => ∃ v, vs = [v] ∧ Q (.bl true) H
theorem sc_Good_bool : FnScope ["self"] ["self"] (defScope s_Good_bool) := ⟨rfl, rfl, rfl, by decide +kernel, rfl, by decide +kernel, by decide +kernel⟩
theorem ok_Order_bool (T : Txt K mg) : EntM P w K mg base CX0 1 (He.ga K "Order") "__bool__" ["self"] spOrderBool := by
  obtain ⟨fd, F⟩ := T.f_Good_bool
  refine EntM.mk' T.m_Order___bool__ F (FunD.ok0 F sc_Good_bool (fun vs H Q E h => ?_) (fun cdv A outer s H vs Q E hr h => ?_)) (fun _ _ _ _ _ _ us hl => match us, hl with | [_], _ => rfl)
  · obtain ⟨v, rfl, _⟩ := h
    rfl
  · obtain ⟨v, rfl, q⟩ := h
    exact ⟨_, pss_one (ps_ret pe_bl), q⟩
end
end K55
/-! ### any(xs) of a list of ints -/
namespace K55
open PySem PySem.Spec PyProof.Rows L2 Evl
theorem truth_ints {prog : Program} {w : World} {A : Around} {ns : List Int} {its : List Value} (r : Vals (ns.map V.int) its) :
    TruthOf prog w A (fun i v => its.toArray[i]? = some v) (fun i => (ns.map fun n => n != 0).getD i false) := fun i v s Q E hv hq => by
  have hv' : its[i]? = some v := by simpa using hv
  have hl := r.length
  rw [List.length_map] at hl
  have hi : i < ns.length := by
    have := (List.getElem?_eq_some_iff.mp hv').1
    omega
  obtain ⟨u, hu, ru⟩ := r.get (i := i) (x := V.int ns[i]) (by rw [List.getElem?_map, List.getElem?_eq_getElem hi]; rfl)
  rw [hv'] at hu
  cases hu
  obtain ⟨t, rfl⟩ := ru
  have hg : (ns.map fun n => n != 0).getD i false = (ns[i] != 0) := by rw [List.getD_eq_getElem?_getD, List.getElem?_map, List.getElem?_eq_getElem hi] <;> rfl
  have hq' : Q ((ns.map fun n => n != 0).getD i false) s := hq
  rw [hg] at hq'
  exact PySem.P.truthy_int hq'
section
variable {X : Cx}
def rAnyI (K : PySem.W.Frag) : List V → Hp → VK → Prop := fun vs H Q => ∃ (a : Addr) (ns : List Int), vs = [V.ref a] ∧ SqL K H a (ns.map V.int) ∧ Q (.bl ((ns.map fun n => n != 0).any id)) H
theorem cr_anyI (hc : X.calm = true) : CallR X (.builtin "any") (rAnyI X.K) := by
  intro pins s σ H vs us Q I r h
  obtain ⟨a, ns, rfl, hs, q⟩ := h
  obtain ⟨its, rv, hl, _⟩ := I.list hs
  rw [Vals.ref1 r]
  have hn : its.length = ns.length := by rw [← rv.length, List.length_map]
  refine call_any_walk (iter_any hl.isList fun s₂ e2 st hne => ?_)
  subst e2
  refine ⟨_, _, _, _, _, _, _, rfl, Walks.list (A := X.A.in1) (I.ok.hd hc) _ a hne its.toArray, st, truth_ints rv, fun h' tk hk => ?_⟩
  refine ⟨.bl _, H, I.kept fun b o eo => hk b o (fun hmem => ?_) (Heap.get?_push_of_some _ eo), ?_, q⟩
  · rcases List.mem_cons.mp hmem with e1 | hmem
    · exact absurd (e1 ▸ Heap.lt_size eo) (Nat.lt_irrefl _)
    · cases hmem
  · show Value.bool _ = Value.bool _
    rw [← L2.any_range, List.size_toArray, List.length_map, hn]
theorem cr_anyIK {K : PySem.W.Frag} (hc : X.calm = true) (h : X.K = K) : CallR X (.builtin "any") (rAnyI K) := h ▸ cr_anyI hc
end
end K55

set_option Elab.async false
set_option linter.all false
set_option maxRecDepth 100000
set_option maxHeartbeats 4000000
namespace K55
open PySem PySem.Spec PyProof.Rows L2 Evl
abbrev tru : Str → V := fun _ => .bl true
abbrev Mv : Type := Str × Str × Str
/-! ### parts: sets of readers, closed under the moves -/
structure Pts (ms : List Mv) (qs : List (List Str)) : Prop where
  nd : ∀ q ∈ qs, q.Nodup
  ne : ∀ q ∈ qs, q ≠ []
  mem : ∀ q ∈ qs, ∀ r ∈ q, ∃ m ∈ ms, r = m.2.1 ∨ r = m.2.2
  cl : ∀ q ∈ qs, ∀ m ∈ ms, m.2.1 ∈ q ↔ m.2.2 ∈ q
structure PtsC (ms : List Mv) (qs : List (List Str)) : Prop extends Pts ms qs where
  cov : ∀ m ∈ ms, ∃ q ∈ qs, m.2.1 ∈ q
theorem Pts.len {ms : List Mv} {qs : List (List Str)} (h : Pts ms qs) {q : List Str} (hq : q ∈ qs) : q.length ≤ 2 * ms.length := by
  have := K55M.nodup_le q (ms.map (·.2.1) ++ ms.map (·.2.2)) (h.nd q hq) fun x hx => by
    obtain ⟨m, hm, e⟩ := h.mem q hq x hx
    rcases e with e | e
    · exact List.mem_append_left _ (List.mem_map.mpr ⟨m, hm, e.symm⟩)
    · exact List.mem_append_right _ (List.mem_map.mpr ⟨m, hm, e.symm⟩)
  rw [List.length_append, List.length_map, List.length_map] at this
  omega
def nearB (m : Mv) (q : List Str) : Bool := decide (m.2.1 ∈ q) || decide (m.2.2 ∈ q)
theorem nearB_t {m : Mv} {q : List Str} : nearB m q = true ↔ m.2.1 ∈ q ∨ m.2.2 ∈ q := by
  unfold nearB
  rw [Bool.or_eq_true, decide_eq_true_eq, decide_eq_true_eq]
theorem PtsC.step {ms : List Mv} {qs qs' : List (List Str)} {m : Mv} {J : List Str} (h : PtsC ms qs) (hJ : J.Nodup) (hm : ∀ x, x ∈ J ↔ (x = m.2.1 ∨ x = m.2.2) ∨ ∃ q ∈ qs, nearB m q = true ∧ x ∈ q)
    (hq : ∀ q, q ∈ qs' ↔ (q ∈ qs ∧ nearB m q = false) ∨ q = J) : PtsC (ms ++ [m]) qs' := by
  have j1 : m.2.1 ∈ J := (hm _).mpr (.inl (.inl rfl))
  have j2 : m.2.2 ∈ J := (hm _).mpr (.inl (.inr rfl))
  have cov2 : ∀ x ∈ ms, ∃ q ∈ qs, x.2.1 ∈ q ∧ x.2.2 ∈ q := fun x hx => by
    obtain ⟨q, h1, h2⟩ := h.cov x hx
    exact ⟨q, h1, h2, (h.cl q h1 x hx).mp h2⟩
  -- what meets the joint part lies in it
  have inJ : ∀ x ∈ ms, (x.2.1 ∈ J → x.2.2 ∈ J) ∧ (x.2.2 ∈ J → x.2.1 ∈ J) := fun x hx => by
    obtain ⟨q, h1, h2, h3⟩ := cov2 x hx
    have key : nearB m q = true → x.2.1 ∈ J ∧ x.2.2 ∈ J := fun n => ⟨(hm _).mpr (.inr ⟨q, h1, n, h2⟩), (hm _).mpr (.inr ⟨q, h1, n, h3⟩)⟩
    refine ⟨fun hj => ?_, fun hj => ?_⟩
    · rcases (hm _).mp hj with (e | e) | ⟨q', a1, a2, a3⟩
      · exact (key (nearB_t.mpr (.inl (e ▸ h2)))).2
      · exact (key (nearB_t.mpr (.inr (e ▸ h2)))).2
      · exact (hm _).mpr (.inr ⟨q', a1, a2, (h.cl q' a1 x hx).mp a3⟩)
    · rcases (hm _).mp hj with (e | e) | ⟨q', a1, a2, a3⟩
      · exact (key (nearB_t.mpr (.inl (e ▸ h3)))).1
      · exact (key (nearB_t.mpr (.inr (e ▸ h3)))).1
      · exact (hm _).mpr (.inr ⟨q', a1, a2, (h.cl q' a1 x hx).mpr a3⟩)
  refine ⟨⟨fun q hq' => ?_, fun q hq' => ?_, fun q hq' r hr => ?_, fun q hq' x hx => ?_⟩, fun x hx => ?_⟩
  · rcases (hq q).mp hq' with ⟨a, _⟩ | rfl
    · exact h.nd q a
    · exact hJ
  · rcases (hq q).mp hq' with ⟨a, _⟩ | rfl
    · exact h.ne q a
    · exact List.ne_nil_of_mem j1
  · have old : ∀ q ∈ qs, r ∈ q → ∃ x ∈ ms ++ [m], r = x.2.1 ∨ r = x.2.2 := fun q a hr => by
      obtain ⟨x, hx, e⟩ := h.mem q a r hr
      exact ⟨x, List.mem_append_left _ hx, e⟩
    rcases (hq q).mp hq' with ⟨a, _⟩ | rfl
    · exact old q a hr
    · rcases (hm r).mp hr with e | ⟨q', a1, _, a3⟩
      · exact ⟨m, by simp, e⟩
      · exact old q' a1 a3
  · rcases (hq q).mp hq' with ⟨a, n⟩ | rfl
    · rcases List.mem_append.mp hx with hx | hx
      · exact h.cl q a x hx
      · rw [List.mem_singleton] at hx
        subst hx
        have n1 : x.2.1 ∉ q := fun z => by rw [nearB_t.mpr (.inl z)] at n; cases n
        have n2 : x.2.2 ∉ q := fun z => by rw [nearB_t.mpr (.inr z)] at n; cases n
        exact ⟨fun z => absurd z n1, fun z => absurd z n2⟩
    · rcases List.mem_append.mp hx with hx | hx
      · exact ⟨(inJ x hx).1, (inJ x hx).2⟩
      · rw [List.mem_singleton] at hx
        subst hx
        exact ⟨fun _ => j2, fun _ => j1⟩
  · rcases List.mem_append.mp hx with hx | hx
    · obtain ⟨q, a1, a2⟩ := h.cov x hx
      cases n : nearB m q with
      | false => exact ⟨q, (hq q).mpr (.inl ⟨a1, n⟩), a2⟩
      | true => exact ⟨J, (hq J).mpr (.inr rfl), (hm _).mpr (.inr ⟨q, a1, n, a2⟩)⟩
    · rw [List.mem_singleton] at hx
      subst hx
      exact ⟨J, (hq J).mpr (.inr rfl), j1⟩
/-- lists of texts -/
def PrAt (H : Hp) (a : Addr) (ps : List (List Str)) : Prop := ∃ ts : List Addr, H a = some (.lst (ts.map V.ref)) ∧ Paired (fun t q => H t = some (.lst (q.map V.str))) ts ps
theorem PrAt.ex {H H' : Hp} {a : Addr} {ps : List (List Str)} (h : PrAt H a ps) (e : Ex H H') : PrAt H' a ps := by
  obtain ⟨ts, h1, h2⟩ := h
  exact ⟨ts, e _ _ h1, Paired.mapP h2 fun _ _ r => e _ _ r⟩
theorem Pts.perm {ms : List Mv} {qs ps : List (List Str)} (h : Pts ms qs) (k : ∀ p ∈ ps, ∃ q ∈ qs, p.Perm q) : Pts ms ps where
  nd := fun p hp => by
    obtain ⟨q, hq, e⟩ := k p hp
    exact e.nodup_iff.mpr (h.nd q hq)
  ne := fun p hp z => by
    obtain ⟨q, hq, e⟩ := k p hp
    rw [z] at e
    exact h.ne q hq e.nil_eq.symm
  mem := fun p hp r hr => by
    obtain ⟨q, hq, e⟩ := k p hp
    exact h.mem q hq r (e.mem_iff.mp hr)
  cl := fun p hp m hm => by
    obtain ⟨q, hq, e⟩ := k p hp
    rw [e.mem_iff, e.mem_iff]
    exact h.cl q hq m hm
theorem paired_ex {α β : Type} {F : α → β → Prop} {P : β → Prop} : ∀ (xs : List α), (∀ x ∈ xs, ∃ y, F x y ∧ P y) → ∃ ys, Paired F xs ys ∧ ∀ y ∈ ys, P y
  | [], _ => ⟨[], .nil, fun y hy => absurd hy List.not_mem_nil⟩
  | x :: xs, h => by
    obtain ⟨y, h1, h2⟩ := h x List.mem_cons_self
    obtain ⟨ys, h3, h4⟩ := paired_ex xs fun z hz => h z (List.mem_cons_of_mem _ hz)
    refine ⟨y :: ys, .cons h1 h3, fun z hz => ?_⟩
    rcases List.mem_cons.mp hz with rfl | hz
    · exact h2
    · exact h4 z hz
theorem refs_of {H : Hp} {n : Nat} {F : Nat → Addr → Prop} {R : Nat → V → Prop} (hR : ∀ i y, R i y → ∃ u, y = V.ref u ∧ F i u) {f : List Nat} {ys : List V} (h : Paired R f ys) : ∃ us : List Addr, ys = us.map V.ref ∧ Paired F f us := by
  induction h with
  | nil => exact ⟨[], rfl, .nil⟩
  | cons r _ ih =>
    obtain ⟨us, rfl, h2⟩ := ih
    obtain ⟨u, rfl, h3⟩ := hR _ _ r
    exact ⟨u :: us, rfl, .cons h3 h2⟩
theorem paired_mem {α β : Type} {F : α → β → Prop} {xs : List α} {ys : List β} (h : Paired F xs ys) : ∀ y ∈ ys, ∃ x ∈ xs, F x y := by
  induction h with
  | nil => exact fun y hy => absurd hy List.not_mem_nil
  | cons r _ ih =>
    intro y hy
    rcases List.mem_cons.mp hy with rfl | hy
    · exact ⟨_, List.mem_cons_self, r⟩
    · obtain ⟨x, h1, h2⟩ := ih y hy
      exact ⟨x, List.mem_cons_of_mem _ h1, h2⟩
section
variable {P : Program} {w : World} {K : PySem.W.Frag} {mg : Str → Option Value} {base : Heap}
/-! ### parts_of -/
def spPartsOf : Sp := fun vs H Q E => ∃ (a : Addr) (ms : List Mv), vs = [.ref a] ∧ MvAt H a ms ∧ ms.length ≤ 30 ∧ (∀ m ∈ ms, m.2.1 ≠ m.2.2) ∧
  ∀ p H' ps, H p = none → Ex H H' → PrAt H' p ps → Pts ms ps → ps.length ≤ ms.length → Q (.ref p) H'
theorem sc_parts_of : FnScope ["moves", "found", "lane", "reader", "goal", "near", "part", "joint"] ["moves"] (defScope s_parts_of) := ⟨rfl, rfl, rfl, by decide +kernel, rfl, by decide +kernel, by decide +kernel⟩
theorem ok_parts_of (T : Txt K mg) : Ent P w K mg base CX0 1 "parts_of" ["moves"] [] spPartsOf := by
  obtain ⟨fd, F⟩ := T.f_parts_of
  refine Ent.mk' T.g_parts_of F (FunD.ok0 F sc_parts_of (fun vs H Q E h => ?_) (fun cdv A outer s H vs Q E hr h => ?_)) (fun _ _ _ _ _ _ us hl => match us, hl with | [_], _ => rfl)
  · obtain ⟨a, ms, rfl, ⟨tm, hm1, hm2⟩, n30, hne, q⟩ := h
    rfl
  · obtain ⟨a, ms, rfl, ⟨tm, hm1, hm2⟩, n30, hne, q⟩ := h
    refine ⟨_, (pss_cons (ps_set (i := 1) sc_parts_of.nd rfl (Or.inl rfl) (pe_lst pa_nil))
      (pss_cons (ps_for PassesOwn.never rfl (pi_listK (K := K) rfl (pv 0)) (pg_tup rfl (pgs_cons (pg_name (i := 2) sc_parts_of.nd rfl (Or.inl rfl)) (pgs_cons (pg_name (i := 3) sc_parts_of.nd rfl (Or.inr rfl)) (pgs_cons (pg_name (i := 4) sc_parts_of.nd rfl (Or.inr rfl)) pgs_nil)))) (pss_cons (ps_set (i := 5) sc_parts_of.nd rfl (Or.inr rfl) (pe_lc (own := [("part", 6)]) (g := gName 6) (tt := _) rfl sc_parts_of.nd (pi_listK (K := K) rfl (pv 1)) (blkOk_by (N := ["moves", "found", "lane", "reader", "goal", "near", "part", "joint"]) (sc := defScope s_parts_of) (by decide +kernel)) (fun _ _ _ _ _ => (pg_name (i := 6) sc_parts_of.nd rfl (Or.inl rfl))) (fun _ _ _ _ _ => (pts_one (PW.pt (pw_or (pt_cmp (pc_din (hu_of hr) (pv 3) (pv 6))) (pw_or1 (pt_cmp (pc_din (hu_of hr) (pv 4) (pv 6)))))))) (fun _ _ _ _ _ => (pv 6))))
      (pss_cons (ps_set (i := 7) sc_parts_of.nd rfl (Or.inl rfl) (pe_disp (pps_cons (pv 3) pe_bl (pps_cons (pv 4) pe_bl pps_nil)) (by rfl) (by rfl) (fun z => by cases z) (by decide)))
      (pss_cons (ps_for PassesOwn.never rfl (pi_listK (K := K) rfl (pv 5)) (pg_name (i := 6) sc_parts_of.nd rfl (Or.inl rfl)) (pss_one (ps_set (i := 7) sc_parts_of.nd rfl (Or.inl rfl) (pe_star (pv 7) (pv 6)))))
      (pss_one (ps_set (i := 1) sc_parts_of.nd rfl (Or.inl rfl) (pe_op op_cat (pe_lc (own := [("part", 6)]) (g := gName 6) (tt := _) rfl sc_parts_of.nd (pi_listK (K := K) rfl (pv 1)) (blkOk_by (N := ["moves", "found", "lane", "reader", "goal", "near", "part", "joint"]) (sc := defScope s_parts_of) (by decide +kernel)) (fun _ _ _ _ _ => (pg_name (i := 6) sc_parts_of.nd rfl (Or.inl rfl))) (fun _ _ _ _ _ => (pts_one (pt_cmpR (op_notInRK (K := K) rfl hr.units) (pv 6) (pv 5) (by with_unfolding_all rfl)))) (fun _ _ _ _ _ => (pv 6))) (pe_lst (pa_cons (pv 7) pa_nil)))))))))
      (pss_one (ps_ret (pe_callB (cr_sortedLLK (K := K) rfl hr.units) (by rfl) T.n_sorted (by decide +kernel) (pa_cons (pe_lc (own := [("part", 6)]) (g := gName 6) (tt := tYes) rfl sc_parts_of.nd (pi_listK (K := K) rfl (pv 1)) (blkOk_by (N := ["moves", "found", "lane", "reader", "goal", "near", "part", "joint"]) (sc := defScope s_parts_of) (by decide +kernel)) (fun _ _ _ _ _ => (pg_name (i := 6) sc_parts_of.nd rfl (Or.inl rfl))) (fun _ _ _ _ _ => pts_nil) (fun _ _ _ _ _ => (pe_callB (call_sortedD rfl) (by rfl) T.n_sorted (by decide +kernel) (pa_cons (pv 6) pa_nil)))) pa_nil)))))), ?_⟩
    have lm := Paired.length hm2
    refine ⟨by rw [sizeLine_eq]; decide, fun f0 hf0 => ?_⟩
    have e0 : Ex H (upd H f0 (.lst [])) := Ex.new hf0
    have hf00 : upd H f0 (.lst []) f0 = some (.lst []) := upd_same
    generalize upd H f0 (.lst []) = H0 at e0 hf00
    dsimp only [tSeq_ap, tAsg_ap, gName_ap, tC_ap, tNext_ap, tRet_ap, tAndV_ap, tCB_ap, tCons_ap, tNil_ap, tB_ap, tTest_ap, tNot_ap, tOr_ap, tAnd_ap, tIfS_ap, tOp_ap, tDrop_ap]
    refine forl (td := tVar 0) (sql (e0 _ _ hm1)) (fun H1 Q' q' => ⟨_, rfl, q'⟩) (fun i σ' H' => ∃ (f : Addr) (ts : List Addr) (c : Addr → List Str) (x2 x3 x4 x5 x6 x7 : Option V), σ' = [some (V.ref a), some (.ref f), x2, x3, x4, x5, x6, x7] ∧ Ex H H' ∧ H' f = some (.lst (ts.map V.ref)) ∧ (∀ t ∈ ts, KD H' t (c t) tru) ∧ PtsC (ms.take i) (ts.map c) ∧ ts.length ≤ i)
      ⟨f0, [], fun _ => [], _, _, _, _, _, _, rfl, e0, hf00, fun t ht => absurd ht List.not_mem_nil, ⟨⟨fun q hq => absurd hq List.not_mem_nil, fun q hq => absurd hq List.not_mem_nil, fun q hq => absurd hq List.not_mem_nil, fun q hq => absurd hq List.not_mem_nil⟩, fun m hm => absurd hm (by rw [List.take_zero]; exact List.not_mem_nil)⟩, Nat.le_refl _⟩
      (fun i σ' H' pv => ?_) (fun i x σ' H' hx pv => ?_) fun σ' H' pv => ?_
    · obtain ⟨_, _, _, _, _, _, _, _, _, _, e, _⟩ := pv
      exact sql (e _ _ hm1)
    · obtain ⟨f, ts, c, x2, x3, x4, x5, x6, x7, rfl, e, hf, hc, pt, lt⟩ := pv
      rw [List.getElem?_map] at hx
      cases htz : tm[i]? with
      | none => rw [htz] at hx; cases hx
      | some t0 =>
      rw [htz] at hx
      cases hx
      obtain ⟨m, hmv, hT0⟩ := paired_at hm2 htz
      have hi : i < ms.length := (List.getElem?_eq_some_iff.mp hmv).1
      have hmm := mem_of_at hmv
      refine ⟨t0, _, rfl, sqt (e _ _ hT0), rfl, _, _, rfl, _, _, rfl, _, _, rfl, rfl, ?_⟩
      have cl : ∀ t ∈ ts, (c t).length ≤ 60 := fun t ht => by
        have := pt.toPts.len (List.mem_map.mpr ⟨t, ht, rfl⟩)
        rw [List.length_take] at this
        omega
      dsimp only [tSeq_ap, tAsg_ap, gName_ap, tC_ap, tNext_ap, tRet_ap, tAndV_ap, tCB_ap, tCons_ap, tNil_ap, tB_ap, tTest_ap, tNot_ap, tOr_ap, tAnd_ap, tIfS_ap, tOp_ap, tDrop_ap]
      refine lcv ts V.ref (sql hf) (by omega) (fun Q' q' => ⟨_, rfl, q'⟩) (fun t => nearB m (c t)) (fun t => V.ref t) (fun z hz H1 e1 Qy Qn g1 g2 => ⟨rfl, ?_⟩) fun pn H1 hpn e1 h1 => ?_
      · have kz := e1 _ _ (hc z hz)
        by_cases r1 : m.2.1 ∈ c z
        · exact ⟨_, rfl, _, rfl, z, _, rfl, gk (.inl kz) r1, true, rfl, iteT (iteT ⟨_, rfl, g1 (nearB_t.mpr (.inl r1)) _ (Ex.refl _)⟩)⟩
        · refine ⟨_, rfl, _, rfl, z, _, rfl, gn (.inl kz) r1, false, rfl, iteF ?_⟩
          by_cases r2 : m.2.2 ∈ c z
          · exact ⟨_, rfl, _, rfl, z, _, rfl, gk (.inl kz) r2, true, rfl, iteT ⟨_, rfl, g1 (nearB_t.mpr (.inr r2)) _ (Ex.refl _)⟩⟩
          · refine ⟨_, rfl, _, rfl, z, _, rfl, gn (.inl kz) r2, false, rfl, iteF (g2 ?_ _ (Ex.refl _))⟩
            unfold nearB
            rw [decide_eq_false r1, decide_eq_false r2]
            rfl
      generalize hns : ts.filter (fun t => nearB m (c t)) = ns at h1
      have nsm : ∀ t, t ∈ ns ↔ t ∈ ts ∧ nearB m (c t) = true := fun t => by rw [← hns, List.mem_filter]
      have lns : ns.length ≤ ts.length := by rw [← hns]; exact List.length_filter_le _ _
      intro pj hpj
      refine ⟨_, rfl, _, rfl, ?_⟩
      refine ⟨upd_same, [(.inr m.2.1, .bl true), (.inr m.2.2, .bl true)], rfl, (by show 2 ≤ 15; decide), ?_⟩
      have hpj0 : H' pj = none := no_of e1 hpj
      have e2 : Ex H1 (upd (upd H1 pj (.dK [])) pj (.dK (mergeK [] [(.inr m.2.1, .bl true), (.inr m.2.2, .bl true)]))) := ex_upd (Ex.new hpj) hpj
      have h2 : KD (upd (upd H1 pj (.dK [])) pj (.dK (mergeK [] [(.inr m.2.1, .bl true), (.inr m.2.2, .bl true)]))) pj (addAll [] [m.2.1, m.2.2]) tru := upd_same.trans (congrArg (fun l => some (HO.dK l)) (mergeK_all (.bl true) [m.2.1, m.2.2] []))
      generalize upd (upd H1 pj (.dK [])) pj (.dK (mergeK [] [(.inr m.2.1, .bl true), (.inr m.2.2, .bl true)])) = H2 at e2 h2
      have e02 := e1.trans e2
      dsimp only [tSeq_ap, tAsg_ap, gName_ap, tC_ap, tNext_ap, tRet_ap, tAndV_ap, tCB_ap, tCons_ap, tNil_ap, tB_ap, tTest_ap, tNot_ap, tOr_ap, tAnd_ap, tIfS_ap, tOp_ap, tDrop_ap]
      refine forl (td := tVar 5) (sql (e2 _ _ h1)) (fun H1 Q' q' => ⟨_, rfl, q'⟩) (fun j σ2 H3 => ∃ (pj : Addr) (J : List Str) (x6 : Option V), σ2 = [some (V.ref a), some (.ref f), some (.str m.1), some (.str m.2.1), some (.str m.2.2), some (.ref pn), x6, some (.ref pj)] ∧ Ex H2 H3 ∧ H' pj = none ∧ KD H3 pj J tru ∧ J.Nodup ∧ (∀ x, x ∈ J ↔ (x = m.2.1 ∨ x = m.2.2) ∨ ∃ t ∈ ns.take j, x ∈ c t) ∧ J.length ≤ 2 + 60 * j)
        ⟨pj, addAll [] [m.2.1, m.2.2], _, rfl, Ex.refl _, hpj0, h2, addAll_nodup _ _ List.nodup_nil, fun x => ?_, ?_⟩ (fun j σ2 H3 pv => ?_) (fun j x σ2 H3 hx pv => ?_) fun σ2 H3 pv => ?_
      · rw [mem_addAll]
        simp
      · have := addAll_len [m.2.1, m.2.2] []
        simp at this
        omega
      · obtain ⟨_, _, _, _, e3, _⟩ := pv
        exact sql (e3 _ _ (e2 _ _ h1))
      · obtain ⟨pj, J, x6, rfl, e3, hpj0, hJ, ndJ, mJ, lJ⟩ := pv
        rw [List.getElem?_map] at hx
        cases hz : ns[j]? with
        | none => rw [hz] at hx; cases hx
        | some z =>
        rw [hz] at hx
        cases hx
        have hj : j < ns.length := (List.getElem?_eq_some_iff.mp hz).1
        have hzt := ((nsm z).mp (mem_of_at hz)).1
        have kz := e3 _ _ (e02 _ _ (hc z hzt))
        have lz := cl z hzt
        intro p hp
        have ep : Ex H3 (upd H3 p (.dK [])) := Ex.new hp
        have m1 : mergeK [] (kd J tru) = kd (addAll [] J) tru := mergeK_all _ J []
        refine ⟨_, rfl, pj, _, rfl, fresh_ne hJ hp |>.symm, upd_same, .inl (ep _ _ hJ), by rw [kd_len]; omega, ?_⟩
        rw [m1]
        have ep2 : Ex H3 (upd (upd H3 p (.dK [])) p (.dK (kd (addAll [] J) tru))) := ex_upd ep hp
        refine ⟨_, rfl, z, _, rfl, (fresh_ne kz hp).symm, upd_same, .inl (ep2 _ _ kz), by rw [kd_len]; omega, ?_⟩
        have m2 : mergeK (kd (addAll [] J) tru) (kd (c z) tru) = kd (addAll (addAll [] J) (c z)) tru := mergeK_all _ _ _
        rw [m2]
        have ep3 : Ex H3 (upd (upd (upd H3 p (.dK [])) p (.dK (kd (addAll [] J) tru))) p (.dK (kd (addAll (addAll [] J) (c z)) tru))) := ex_upd ep2 hp
        refine ⟨p, _, _, rfl, e3.trans ep3, no_of e02 (no_of e3 hp), upd_same, addAll_nodup _ _ (addAll_nodup _ _ List.nodup_nil), fun x => ?_, ?_⟩
        · rw [mem_addAll, mem_addAll, mJ, take_succ_at hz]
          constructor
          · rintro ((y | y | ⟨t, h1, h2⟩) | y)
            · exact absurd y List.not_mem_nil
            · exact .inl y
            · exact .inr ⟨t, List.mem_append_left _ h1, h2⟩
            · exact .inr ⟨z, by simp, y⟩
          · rintro (y | ⟨t, h1, h2⟩)
            · exact .inl (.inr (.inl y))
            · rcases List.mem_append.mp h1 with h1 | h1
              · exact .inl (.inr (.inr ⟨t, h1, h2⟩))
              · rw [List.mem_singleton] at h1
                exact .inr (h1 ▸ h2)
        · have l1 := addAll_len (c z) (addAll [] J)
          have l2 := addAll_len J []
          simp at l2
          omega
      · obtain ⟨pj, J, x6, rfl, e3, hpj0, hJ, ndJ, mJ, lJ⟩ := pv
        rw [List.length_map, List.take_of_length_le (Nat.le_refl _)] at mJ
        have e03 := e02.trans e3
        have hc3 : ∀ t ∈ ts, KD H3 t (c t) tru := fun t ht => e03 _ _ (hc t ht)
        dsimp only [tSeq_ap, tAsg_ap, gName_ap, tC_ap, tNext_ap, tRet_ap, tAndV_ap, tCB_ap, tCons_ap, tNil_ap, tB_ap, tTest_ap, tNot_ap, tOr_ap, tAnd_ap, tIfS_ap, tOp_ap, tDrop_ap]
        refine lcv ts V.ref (sql (e03 _ _ hf)) (by omega) (fun Q' q' => ⟨_, rfl, q'⟩) (fun t => !decide (t ∈ ns)) (fun t => V.ref t) (fun z hz H4 e4 Qy Qn g1 g2 => ⟨rfl, ?_⟩) fun p4 H4 hp4 e4 h4 => ?_
        · refine ⟨_, rfl, _, rfl, z, pn, ns, c, rfl, rfl, e4 _ _ (hc3 z hz), sql (e4 _ _ (e3 _ _ (e2 _ _ h1))), fun b hb => e4 _ _ (hc3 b ((nsm b).mp hb).1), fun hn b hb => ?_, _, rfl, ?_⟩
          · have nb := ((nsm b).mp hb).2
            have nz : nearB m (c z) = false := by
              cases q : nearB m (c z) with
              | false => rfl
              | true => exact absurd ((nsm z).mpr ⟨hz, q⟩) hn
            rcases nearB_t.mp nb with h | h
            · exact ⟨_, h, fun y => by rw [nearB_t.mpr (.inl y)] at nz; cases nz⟩
            · exact ⟨_, h, fun y => by rw [nearB_t.mpr (.inr y)] at nz; cases nz⟩
          · by_cases hn : z ∈ ns
            · rw [decide_eq_true hn]
              exact iteF (g2 (by rw [decide_eq_true hn]; rfl) _ (Ex.refl _))
            · rw [decide_eq_false hn]
              exact iteT ⟨_, rfl, g1 (by rw [decide_eq_false hn]; rfl) _ (Ex.refl _)⟩
        refine ⟨_, rfl, (by rw [sizeLine_eq]; show 1 ≤ 16777216; decide), fun p5 hp5 => ?_⟩
        have e5 : Ex H4 (upd H4 p5 (.lst [V.ref pj])) := Ex.new hp5
        refine ⟨p4, p5, _, _, rfl, rfl, e5 _ _ h4, upd_same, ?_, fun p6 hp6 => ?_⟩
        · rw [List.length_map, List.length_singleton]
          have := List.length_filter_le (fun t => !decide (t ∈ ns)) ts
          exact sz_lt (by omega) |> Nat.le_of_lt
        have e6 : Ex H4 (upd (upd H4 p5 (.lst [V.ref pj])) p6 (.lst ((ts.filter fun t => !decide (t ∈ ns)).map (fun t => V.ref t) ++ [V.ref pj]))) := ex_upd e5 (no_of e5 hp6)
        have e46 := e4.trans e6
        have ne : ∀ t ∈ ts, t ≠ pj := fun t ht => ne_of_none (hc t ht) hpj0
        refine ⟨p6, (ts.filter fun t => !decide (t ∈ ns)) ++ [pj], fun t => if t = pj then J else c t, _, _, _, _, _, _, rfl, (e.trans e03).trans e46, upd_same.trans (by rw [List.map_append]; rfl), fun t ht => ?_, ?_, ?_⟩
        · rcases List.mem_append.mp ht with ht | ht
          · have ht := (List.mem_filter.mp ht).1
            show KD _ t (if t = pj then J else c t) tru
            rw [if_neg (ne t ht)]
            exact e46 _ _ (hc3 t ht)
          · rw [List.mem_singleton] at ht
            subst ht
            show KD _ t (if t = t then J else c t) tru
            rw [if_pos rfl]
            exact e46 _ _ hJ
        · rw [take_succ_at hmv]
          refine pt.step ndJ (fun x => ?_) fun q => ?_
          · rw [mJ]
            refine or_congr Iff.rfl ⟨fun ⟨t, h1, h2⟩ => ⟨c t, List.mem_map.mpr ⟨t, ((nsm t).mp h1).1, rfl⟩, ((nsm t).mp h1).2, h2⟩, fun ⟨q, h1, h2, h3⟩ => ?_⟩
            obtain ⟨t, h4, rfl⟩ := List.mem_map.mp h1
            exact ⟨t, (nsm t).mpr ⟨h4, h2⟩, h3⟩
          · rw [List.map_append, List.mem_append, List.map_singleton, List.mem_singleton, if_pos rfl]
            refine or_congr ⟨fun h => ?_, fun ⟨h1, h2⟩ => ?_⟩ Iff.rfl
            · obtain ⟨t, h1, rfl⟩ := List.mem_map.mp h
              obtain ⟨h1, h2⟩ := List.mem_filter.mp h1
              rw [if_neg (ne t h1)]
              refine ⟨List.mem_map.mpr ⟨t, h1, rfl⟩, ?_⟩
              cases q : nearB m (c t) with
              | false => rfl
              | true =>
                rw [decide_eq_true ((nsm t).mpr ⟨h1, q⟩)] at h2
                cases h2
            · obtain ⟨t, h3, rfl⟩ := List.mem_map.mp h1
              refine List.mem_map.mpr ⟨t, List.mem_filter.mpr ⟨h3, ?_⟩, if_neg (ne t h3)⟩
              rw [decide_eq_false fun y => by rw [((nsm t).mp y).2] at h2; cases h2]
              rfl
        · rw [List.length_append, List.length_singleton]
          have := List.length_filter_le (fun t => !decide (t ∈ ns)) ts
          omega
    · obtain ⟨f, ts, c, x2, x3, x4, x5, x6, x7, rfl, e, hf, hc, pt, lt⟩ := pv
      rw [List.length_map, lm] at pt lt
      rw [List.take_of_length_le (Nat.le_refl _)] at pt
      refine ⟨_, rfl, f, rfl, ⟨_, sql hf⟩, fun Dd hDd => ?_⟩
      refine lc_src (Src.list (sql hf)) (Ex.refl _) hDd (by rw [List.length_map]; omega) (fun i y H2 => ∃ u, y = V.ref u ∧ u ≠ Dd ∧ ∃ (t : Addr) (q : List Str), ts[i]? = some t ∧ q.Perm (c t) ∧ H2 u = some (.lst (q.map V.str))) (fun i y H2 H3 ⟨u, h1, h2, t, q, h3, h4, h5⟩ e => ⟨u, h1, h2, t, q, h3, h4, e _ _ h2 h5⟩)
        (fun _ => true) (fun i x H2 hi e2 ⟨acc, hacc⟩ y Qy Qn g1 g2 => ?_) fun zs H2 e2 h2 pr => ?_
      · rw [List.getElem?_map] at y
        cases hz : ts[i]? with
        | none => rw [hz] at y; cases y
        | some t =>
        rw [hz] at y
        cases y
        have ht := mem_of_at hz
        have lc := pt.toPts.len (List.mem_map.mpr ⟨t, ht, rfl⟩)
        refine ⟨rfl, tyes ⟨_, rfl, t, _, c t, rfl, .inl (e2 _ _ (hc t ht)), kd_fst _ _, by omega, fun ys u hy1 hy2 hu => ?_⟩⟩
        exact g1 rfl _ _ (Ex.new hu) ⟨u, rfl, fun e => (by rw [e, hacc] at hu; cases hu), t, ys, hz, hy1, upd_same⟩
      · obtain ⟨us, rfl, h3⟩ := refs_of (H := H2) (n := 0) (F := fun i u => ∃ (t : Addr) (q : List Str), ts[i]? = some t ∧ q.Perm (c t) ∧ H2 u = some (.lst (q.map V.str))) (fun i y ⟨u, h1, _, h2⟩ => ⟨u, h1, h2⟩) pr
        have h4 : ∀ u ∈ us, ∃ q : List Str, H2 u = some (.lst (q.map V.str)) ∧ ∃ q' ∈ ts.map c, q.Perm q' := fun u hu => by
          obtain ⟨i, _, t, q, h5, h6, h7⟩ := paired_mem h3 u hu
          exact ⟨q, h7, c t, List.mem_map.mpr ⟨t, mem_of_at h5, rfl⟩, h6⟩
        refine ⟨Dd, us, rfl, sql h2, fun u hu => ?_, fun us' p hp1 hp2 => ?_⟩
        · obtain ⟨q, h5, _⟩ := h4 u hu
          exact ⟨q, h5⟩
        have e3 : Ex H2 (upd H2 p (.lst (us'.map V.ref))) := Ex.new hp2
        obtain ⟨ps, h5, h6⟩ := paired_ex (F := fun (t : Addr) (q : List Str) => upd H2 p (.lst (us'.map V.ref)) t = some (.lst (q.map V.str))) (P := fun q => ∃ q' ∈ ts.map c, q.Perm q') us' fun u hu => by
          obtain ⟨q, h5, h6⟩ := h4 u (hp1.mem_iff.mp hu)
          exact ⟨q, e3 _ _ h5, h6⟩
        exact q p _ ps (no_of (e.trans e2) hp2) ((e.trans e2).trans e3) ⟨us', upd_same, h5⟩ (pt.toPts.perm h6) (by
          have l1 := h5.length
          have l2 := hp1.length_eq
          have l3 := h3.length
          rw [List.filter_eq_self.mpr fun _ _ => rfl, List.length_range, List.length_map] at l3
          omega)
end
end K55


set_option Elab.async false
set_option linter.all false
set_option maxRecDepth 100000
set_option maxHeartbeats 4000000
namespace K55
open PySem PySem.Spec PyProof.Rows L2 Evl
/-! ### moves in which no reader gives and gets -/
def Sep (ms : List Mv) : Prop := ∀ m ∈ ms, ∀ x ∈ ms, m.2.1 ≠ x.2.2
theorem mem_wnt {L : List Str} {D G : Str → Str} {m : Mv} : m ∈ wnt L D G ↔ ∃ l ∈ L, D l ≠ G l ∧ m = (l, D l, G l) := by
  unfold wnt
  rw [List.mem_map]
  constructor
  · rintro ⟨l, h, rfl⟩
    obtain ⟨h1, h2⟩ := List.mem_filter.mp h
    exact ⟨l, h1, of_decide_eq_true h2, rfl⟩
  · rintro ⟨l, h1, h2, rfl⟩
    exact ⟨l, List.mem_filter.mpr ⟨h1, decide_eq_true h2⟩, rfl⟩
theorem wnt_sep {L : List Str} {D G : Str → Str} (h : Clean L D G) : Sep (wnt L D G) := fun m hm x hx e => by
  obtain ⟨l, h1, h2, rfl⟩ := mem_wnt.mp hm
  obtain ⟨k, h3, h4, rfl⟩ := mem_wnt.mp hx
  have e : D l = G k := e
  rcases h (D l) with c | c
  · exact h2 (c l h1 rfl).symm
  · exact h4 ((c k h3 e.symm).trans e)
theorem wnt_len (L : List Str) (D G : Str → Str) : (wnt L D G).length ≤ L.length := by
  unfold wnt
  rw [List.length_map]
  exact List.length_filter_le _ _
theorem wnt_ne {L : List Str} {D G : Str → Str} : ∀ m ∈ wnt L D G, m.2.1 ≠ m.2.2 := fun m hm => by
  obtain ⟨l, _, h2, rfl⟩ := mem_wnt.mp hm
  exact h2
theorem wnt_nodup {L : List Str} (nd : L.Nodup) (D G : Str → Str) : ((wnt L D G).map (·.1)).Nodup := by
  unfold wnt
  rw [List.map_map]
  exact (List.map_id _).symm ▸ nd.filter _
/-- how many moves of a part lead from a reader, less those that lead to it -/
def givI (ms : List Mv) (q : List Str) (r : Str) : Int := ((ms.filter fun m => decide (m.2.1 ∈ q) && decide (m.2.1 = r)).length : Int) - ((ms.filter fun m => decide (m.2.1 ∈ q) && decide (m.2.2 = r)).length : Int)
theorem givI_snoc (ms : List Mv) (q : List Str) (m : Mv) (r : Str) (h : m.2.1 ∈ q) (ne : m.2.1 ≠ m.2.2) : givI (ms ++ [m]) q r = (if r = m.2.2 then (if r = m.2.1 then givI ms q r + 1 else givI ms q r) - 1 else (if r = m.2.1 then givI ms q r + 1 else givI ms q r)) := by
  unfold givI
  rw [List.filter_append, List.filter_append, List.length_append, List.length_append, List.filter_cons, List.filter_nil, List.filter_cons, List.filter_nil, decide_eq_true h, Bool.true_and, Bool.true_and]
  by_cases e1 : m.2.1 = r
  · have e2 : ¬ m.2.2 = r := fun e => ne (e1.trans e.symm)
    rw [if_pos (decide_eq_true e1), if_neg (by simpa using e2), if_neg (fun e => e2 e.symm), if_pos e1.symm, List.length_singleton, List.length_nil]
    omega
  · rw [if_neg (by simpa using e1)]
    by_cases e2 : m.2.2 = r
    · rw [if_pos (decide_eq_true e2), if_pos e2.symm, if_neg (fun e => e1 e.symm), List.length_singleton, List.length_nil]
      omega
    · rw [if_neg (by simpa using e2), if_neg (fun e => e2 e.symm), if_neg (fun e => e1 e.symm)]
      rfl
theorem givI_skip (ms : List Mv) (q : List Str) (m : Mv) (r : Str) (h : m.2.1 ∉ q) : givI (ms ++ [m]) q r = givI ms q r := by
  unfold givI
  rw [List.filter_append, List.filter_append, List.filter_cons, List.filter_nil, List.filter_cons, List.filter_nil, decide_eq_false h, Bool.false_and, Bool.false_and]
  simp
theorem givI_nil (q : List Str) (r : Str) : givI [] q r = 0 := rfl
/-- each reader of a part gives or gets -/
theorem givI_ne {ms : List Mv} {ps : List (List Str)} (pt : Pts ms ps) (sep : Sep ms) {q : List Str} (hq : q ∈ ps) {r : Str} (hr : r ∈ q) : givI ms q r ≠ 0 := by
  obtain ⟨m, hm, e⟩ := pt.mem q hq r hr
  unfold givI
  rcases e with rfl | rfl
  · have h1 : m ∈ ms.filter fun x => decide (x.2.1 ∈ q) && decide (x.2.1 = m.2.1) := List.mem_filter.mpr ⟨hm, by rw [decide_eq_true hr, decide_eq_true rfl]; rfl⟩
    have h2 : (ms.filter fun x => decide (x.2.1 ∈ q) && decide (x.2.2 = m.2.1)) = [] := List.filter_eq_nil_iff.mpr fun x hx h => by
      rw [Bool.and_eq_true] at h
      exact sep m hm x hx (of_decide_eq_true h.2).symm
    have h3 := List.length_pos_of_mem h1
    rw [h2, List.length_nil]
    omega
  · have hr' := (pt.cl q hq m hm).mpr hr
    have h1 : m ∈ ms.filter fun x => decide (x.2.1 ∈ q) && decide (x.2.2 = m.2.2) := List.mem_filter.mpr ⟨hm, by rw [decide_eq_true hr', decide_eq_true rfl]; rfl⟩
    have h2 : (ms.filter fun x => decide (x.2.1 ∈ q) && decide (x.2.1 = m.2.2)) = [] := List.filter_eq_nil_iff.mpr fun x hx h => by
      rw [Bool.and_eq_true] at h
      exact sep x hx m hm (of_decide_eq_true h.2)
    have h3 := List.length_pos_of_mem h1
    rw [h2, List.length_nil]
    omega
/-- a dict of numbers, a number put -/
theorem pmI {H : Hp} {a : Addr} {ks : List Str} {f : Str → Int} {k : Str} {v : Int} (h : IntD H a ks f) (m : k ∈ ks) (n : ks.length ≤ 40000) : DPut H a (.str k) (.int v) (upd H a (.dK (kd ks fun j => .int (if j = k then v else f j)))) := by
  have := pm (v := .int v) h m n
  rw [kd_congr (h := fun j => V.int (if j = k then v else f j)) (fun j _ => by split <;> rfl)] at this
  exact this
theorem paired_at2 {α β : Type} {F : α → β → Prop} {xs : List α} {ys : List β} (h : Paired F xs ys) {i : Nat} {x : α} (hx : xs[i]? = some x) : ∃ y, y ∈ ys ∧ F x y := by
  obtain ⟨y, h1, h2⟩ := paired_at h hx
  exact ⟨y, mem_of_at h1, h2⟩
section
variable {P : Program} {w : World} {K : PySem.W.Frag} {mg : Str → Option Value} {base : Heap}
/-! ### stuck_parts: none -/
def spStuckParts : Sp := fun vs H Q E => ∃ (d g c : Addr) (L : List Str) (D G : Str → Str) (ks : List Str) (cp : Str → Int), vs = [.ref d, .ref g, .ref c] ∧ DlAt H d L D ∧ DlAt H g L G ∧ DlOk L D ∧ DlOk L G ∧ IntD H c ks cp ∧ CapOk L D G ks cp ∧ Clean L D G ∧ L.length ≤ 30 ∧
  ∀ p H', H p = none → Ex H H' → H' p = some (.lst []) → Q (.ref p) H'
theorem sc_stuck_parts : FnScope ["deal", "goal", "caps", "moves", "loads", "found", "part", "full", "reader", "gives", "lane", "late"] ["deal", "goal", "caps"] (defScope s_stuck_parts) := ⟨rfl, rfl, rfl, by decide +kernel, rfl, by decide +kernel, by decide +kernel⟩
theorem ok_stuck_parts (T : Txt K mg) : Ent P w K mg base CX0 2 "stuck_parts" ["deal", "goal", "caps"] [] spStuckParts := by
  obtain ⟨fd, F⟩ := T.f_stuck_parts
  have e_parts_of := ok_parts_of (P := P) (w := w) (base := base) T
  have e_wanted := ok_wanted (P := P) (w := w) (base := base) T
  have e_loads_of := ok_loads_of (P := P) (w := w) (base := base) T
  refine Ent.mk' T.g_stuck_parts F (FunD.ok0 F sc_stuck_parts (fun vs H Q E h => ?_) (fun cdv A outer s H vs Q E hr h => ?_)) (fun _ _ _ _ _ _ us hl => match us, hl with | [_, _, _], _ => rfl)
  · obtain ⟨d, g, c, L, D, G, ks, cp, rfl, hd, hg, okD, okG, hc, ck, cln, n30, q⟩ := h
    rfl
  · obtain ⟨d, g, c, L, D, G, ks, cp, rfl, hd, hg, okD, okG, hc, ck, cln, n30, q⟩ := h
    refine ⟨_, (pss_cons (ps_asg (pe_tup (pa_cons (pe_e e_wanted (hr.mono (by decide)) pass0 (pa_cons (pv 0) (pa_cons (pv 1) pa_nil))) (pa_cons (pe_e e_loads_of (hr.mono (by decide)) pass0 (pa_cons (pv 0) (pa_cons (pv 2) pa_nil))) (pa_cons (pe_lst pa_nil) pa_nil)))) (pg_tup rfl (pgs_cons (pg_name (i := 3) sc_stuck_parts.nd rfl (Or.inl rfl)) (pgs_cons (pg_name (i := 4) sc_stuck_parts.nd rfl (Or.inr rfl)) (pgs_cons (pg_name (i := 5) sc_stuck_parts.nd rfl (Or.inl rfl)) pgs_nil)))))
      (pss_cons (ps_for PassesOwn.never rfl (pi_listK (K := K) rfl (pe_e e_parts_of (hr.mono (by decide)) pass0 (pa_cons (pv 3) pa_nil))) (pg_name (i := 6) sc_stuck_parts.nd rfl (Or.inl rfl)) (pss_cons (ps_set (i := 7) sc_stuck_parts.nd rfl (Or.inl rfl) (pe_callB (cr_allK (K := K) rfl rfl) (by rfl) T.n_all (by decide +kernel) (pa_cons (pe_lc (own := [("reader", 8)]) (g := gName 8) (tt := tYes) rfl sc_stuck_parts.nd (pi_listK (K := K) rfl (pv 6)) (blkOk_by (N := ["deal", "goal", "caps", "moves", "loads", "found", "part", "full", "reader", "gives", "lane", "late"]) (sc := defScope s_stuck_parts) (by decide +kernel)) (fun _ _ _ _ _ => (pg_name (i := 8) sc_stuck_parts.nd rfl (Or.inl rfl))) (fun _ _ _ _ _ => pts_nil) (fun _ _ _ _ _ => (pe_cmpR op_eq (pe_dget (hu_of hr) (pv 4) (pv 8) (fun _ _ => rfl)) (pe_dget (hu_of hr) (pv 2) (pv 8) (fun _ _ => rfl)) (nomark _)))) pa_nil)))
      (pss_cons (ps_set (i := 9) sc_stuck_parts.nd rfl (Or.inr rfl) (pe_dc (own := [("reader", 8)]) (g := gName 8) (tt := tYes) rfl sc_stuck_parts.nd (pi_listK (K := K) rfl (pv 6)) (blkOk_by (N := ["deal", "goal", "caps", "moves", "loads", "found", "part", "full", "reader", "gives", "lane", "late"]) (sc := defScope s_stuck_parts) (by decide +kernel)) (fun _ _ _ _ _ => (pg_name (i := 8) sc_stuck_parts.nd rfl (Or.inl rfl))) (fun _ _ _ _ _ => pts_nil) (fun _ _ _ _ _ => (pv 8)) (fun _ _ _ _ _ => pe_int)))
      (pss_cons (ps_for PassesOwn.never rfl (pi_listK (K := K) rfl (pv 3)) (pg_tup rfl (pgs_cons (pg_name (i := 10) sc_stuck_parts.nd rfl (Or.inl rfl)) (pgs_cons (pg_name (i := 8) sc_stuck_parts.nd rfl (Or.inl rfl)) (pgs_cons (pg_name (i := 11) sc_stuck_parts.nd rfl (Or.inl rfl)) pgs_nil)))) (pss_one (ps_if (pt_cmp (pc_din (hu_of hr) (pv 8) (pv 9))) (pss_cons (ps_daug (hu_of hr) (pv 9) (pv 8) pe_int in_add (fun _ _ _ => rfl))
      (pss_one (ps_daug (hu_of hr) (pv 9) (pv 11) pe_int in_sub (fun _ _ _ => rfl)))) pss_nil)))
      (pss_one (ps_if (PW.pt (pw_and (pt_val (pv 7)) (pw_and1 (pt_not (pt_val (pe_callB (cr_anyIK (K := K) rfl rfl) (by rfl) T.n_any (by decide +kernel) (pa_cons (pe_lc (own := [("reader", 8)]) (g := gName 8) (tt := tYes) rfl sc_stuck_parts.nd (pi_listK (K := K) rfl (pv 6)) (blkOk_by (N := ["deal", "goal", "caps", "moves", "loads", "found", "part", "full", "reader", "gives", "lane", "late"]) (sc := defScope s_stuck_parts) (by decide +kernel)) (fun _ _ _ _ _ => (pg_name (i := 8) sc_stuck_parts.nd rfl (Or.inl rfl))) (fun _ _ _ _ _ => pts_nil) (fun _ _ _ _ _ => (pe_dget (hu_of hr) (pv 9) (pv 8) (fun _ _ => rfl)))) pa_nil))))))) (pss_one (ps_expr (pe_bm PySem.F.plainAttrs_list PySem.F.slot_list_append PySem.F.type_list_append mt_append (pv 5) (pa_cons (pv 6) pa_nil)))) pss_nil))))))
      (pss_one (ps_ret (pv 5))))), ?_⟩
    have k2 := ck.n2
    refine ⟨_, rfl, _, rfl, d, g, L, D, G, rfl, hd, hg, okD, fun am H1 hpm e1 hm1 => ?_⟩
    refine ⟨_, rfl, _, rfl, d, c, L, D, ks, rfl, e1 _ _ hd, okD.n, ck.nd, by omega, ck.d, .inr ⟨_, e1 _ _ hc⟩, fun pl H2 hpl e2 hl2 => ?_⟩
    refine ⟨by rw [sizeLine_eq]; decide, fun pf hpf => ?_⟩
    have e3 : Ex H2 (upd H2 pf (.lst [])) := Ex.new hpf
    have hf3 : upd H2 pf (.lst []) pf = some (.lst []) := upd_same
    generalize upd H2 pf (.lst []) = H3 at e3 hf3
    refine ⟨le3, fun tt htt => ?_⟩
    have e4 : Ex H3 (upd H3 tt (.tup [.ref am, .ref pl, .ref pf])) := Ex.new htt
    have htt4 : upd H3 tt (.tup [.ref am, .ref pl, .ref pf]) tt = _ := upd_same
    generalize upd H3 tt (.tup [.ref am, .ref pl, .ref pf]) = H4 at e4 htt4
    refine ⟨tt, _, rfl, sqt htt4, rfl, _, _, rfl, _, _, rfl, _, _, rfl, rfl, ?_⟩
    have e14 := e2.trans (e3.trans e4)
    have e04 := e1.trans e14
    have hm4 := hm1.ex e14
    have hpf0 : H pf = none := no_of e1 (no_of e2 hpf)
    have sep := wnt_sep cln
    have lw := wnt_len L D G
    generalize hw : wnt L D G = ms at hm1 hm4 sep lw
    have wne : ∀ m ∈ ms, m.2.1 ≠ m.2.2 := hw ▸ wnt_ne
    have inC : ∀ m ∈ ms, m.2.1 ∈ ks ∧ m.2.2 ∈ ks := fun m hm => by
      rw [← hw] at hm
      obtain ⟨l, h1, _, rfl⟩ := mem_wnt.mp hm
      exact ⟨ck.d l h1, ck.g l h1⟩
    obtain ⟨tm, hm4a, hm4b⟩ := hm4
    have lm := Paired.length hm4b
    dsimp only [tSeq_ap, tAsg_ap, gName_ap, tC_ap, tNext_ap, tRet_ap, tAndV_ap, tCB_ap, tCons_ap, tNil_ap, tB_ap, tTest_ap, tNot_ap, tOr_ap, tAnd_ap, tIfS_ap, tOp_ap, tDrop_ap]
    refine ⟨_, rfl, am, ms, rfl, ⟨tm, hm4a, hm4b⟩, by omega, wne, fun pp H5 ps hpp e5 ⟨tp, hp1, hp2⟩ pt _ => ?_⟩
    refine forl (td := tC (.ref pp)) (sql hp1) (fun H1 Q' q' => q') (fun i σ' H' => ∃ (x6 x7 x8 x9 x10 x11 : Option V), σ' = [some (V.ref d), some (.ref g), some (.ref c), some (.ref am), some (.ref pl), some (.ref pf), x6, x7, x8, x9, x10, x11] ∧ Ex H5 H')
      ⟨_, _, _, _, _, _, rfl, Ex.refl _⟩ (fun i σ' H' pv => ?_) (fun i x σ' H' hx pv => ?_) fun σ' H' pv => ?_
    · obtain ⟨_, _, _, _, _, _, _, e⟩ := pv
      exact sql (e _ _ hp1)
    · obtain ⟨x6, x7, x8, x9, x10, x11, rfl, e⟩ := pv
      rw [List.getElem?_map] at hx
      cases htz : tp[i]? with
      | none => rw [htz] at hx; cases hx
      | some t0 =>
      rw [htz] at hx
      cases hx
      obtain ⟨qq, hqq, ht0⟩ := paired_at2 hp2 htz
      have lq := pt.len hqq
      have inQ : ∀ r ∈ qq, r ∈ ks := fun r hr => by
        obtain ⟨m, hm, e⟩ := pt.mem qq hqq r hr
        rcases e with rfl | rfl
        · exact (inC m hm).1
        · exact (inC m hm).2
      have e45 := e5.trans e
      have e15 := e14.trans e45
      dsimp only [gName_ap]
      dsimp only [tSeq_ap, tAsg_ap, gName_ap, tC_ap, tNext_ap, tRet_ap, tAndV_ap, tCB_ap, tCons_ap, tNil_ap, tB_ap, tTest_ap, tNot_ap, tOr_ap, tAnd_ap, tIfS_ap, tOp_ap, tDrop_ap]
      refine lcs qq (sql (e _ _ ht0)) (by omega) (fun H1 Q' q' => ⟨_, rfl, q'⟩) (fun _ => true) (fun r => .bl (decide (V.int (cntI D L r) = V.int (cp r)))) (fun z hz H6 e6 Qy Qn g1 g2 => ⟨rfl, tyes ?_⟩) fun p6 H6 hp6 e6 h6 => ?_
      · exact ⟨_, rfl, _, rfl, pl, _, rfl, gk (.inl (e6 _ _ ((e3.trans e4).trans e45 _ _ hl2))) (inQ z hz), _, rfl, _, rfl, c, _, rfl, gk (.inl (e6 _ _ (e15 _ _ (e1 _ _ hc)))) (inQ z hz), rfl, g1 rfl _ (Ex.refl _)⟩
      refine ⟨p6, qq.map fun r => decide (V.int (cntI D L r) = V.int (cp r)), rfl, sql (by rw [h6, List.map_map, List.filter_eq_self.mpr fun _ _ => rfl]; rfl), ?_⟩
      generalize ((qq.map fun r => decide (V.int (cntI D L r) = V.int (cp r))).all id) = full
      refine dcs qq (sql (e6 _ _ (e _ _ ht0))) (pt.nd qq hqq) (by omega) (fun H1 Q' q' => ⟨_, rfl, q'⟩) (fun _ => .int 0) (fun z hz H7 e7 Q' q' => ⟨rfl, ⟨_, rfl, q' _ (Ex.refl _)⟩⟩) fun pg H7 hpg e7 h7 => ?_
      have e47 := e45.trans (e6.trans e7)
      refine forl (td := tVar 3) (sql (e47 _ _ hm4a)) (fun H1 Q' q' => ⟨_, rfl, q'⟩) (fun j σ2 H8 => ∃ (x8 x10 x11 : Option V), σ2 = [some (V.ref d), some (.ref g), some (.ref c), some (.ref am), some (.ref pl), some (.ref pf), some (.ref t0), some (.bl full), x8, some (.ref pg), x10, x11] ∧ ExB pg H7 H8 ∧ IntD H8 pg qq (givI (ms.take j) qq))
        ⟨_, _, _, rfl, ExB.refl _ _, h7⟩ (fun j σ2 H8 pv => ?_) (fun j x σ2 H8 hx pv => ?_) fun σ2 H8 pv => ?_
      · obtain ⟨_, _, _, _, e8, _⟩ := pv
        exact sql (e8 _ _ (ne_ld (e47 _ _ hm4a) h7) (e47 _ _ hm4a))
      · obtain ⟨x8, x10, x11, rfl, e8, hI⟩ := pv
        rw [List.getElem?_map] at hx
        cases hz : tm[j]? with
        | none => rw [hz] at hx; cases hx
        | some t =>
        rw [hz] at hx
        cases hx
        obtain ⟨m, hmv, hT0⟩ := paired_at hm4b hz
        have hmm := mem_of_at hmv
        have hT := e8 _ _ (ne_td (e47 _ _ hT0) h7) (e47 _ _ hT0)
        refine ⟨t, _, rfl, sqt hT, rfl, _, _, rfl, _, _, rfl, _, _, rfl, rfl, ?_⟩
        by_cases hin : m.2.1 ∈ qq
        · have hin2 := (pt.cl qq hqq m hmm).mp hin
          refine ⟨_, rfl, _, rfl, pg, _, rfl, gk (.inl hI) hin, true, rfl, iteT ?_⟩
          refine ⟨_, rfl, _, rfl, pg, _, rfl, gk (.inl hI) hin, _, _, rfl, rfl, _, pmI hI hin (by omega), ?_⟩
          have hI1 : IntD (upd H8 pg (.dK (kd qq fun k => .int (if k = m.2.1 then givI (ms.take j) qq m.2.1 + 1 else givI (ms.take j) qq k)))) pg qq _ := upd_same
          refine ⟨_, rfl, _, rfl, pg, _, rfl, gk (.inl hI1) hin2, _, _, rfl, rfl, _, pmI hI1 hin2 (by omega), ?_⟩
          refine ⟨_, _, _, rfl, e8.upd.upd, ?_⟩
          rw [take_succ_at hmv]
          refine upd_same.trans (congrArg (fun l => some (HO.dK l)) (kd_congr fun k _ => congrArg V.int ?_))
          rw [givI_snoc _ _ _ _ hin (wne m hmm)]
          by_cases k1 : k = m.2.2
          · have n21 : ¬ m.2.2 = m.2.1 := fun e => wne m hmm e.symm
            rw [if_pos k1, if_pos k1, k1, if_neg n21]
            dsimp only
            rw [if_neg n21]
          · rw [if_neg k1, if_neg k1]
            by_cases k2 : k = m.2.1
            · rw [if_pos k2, if_pos k2, k2]
            · rw [if_neg k2, if_neg k2]
        · refine ⟨_, rfl, _, rfl, pg, _, rfl, gn (.inl hI) hin, false, rfl, iteF ?_⟩
          refine ⟨_, _, _, rfl, e8, ?_⟩
          rw [take_succ_at hmv]
          exact hI.trans (congrArg (fun l => some (HO.dK l)) (kd_congr fun k _ => by rw [givI_skip _ _ _ _ hin]))
      · obtain ⟨x8, x10, x11, rfl, e8, hI⟩ := pv
        rw [List.length_map, lm, List.take_of_length_le (Nat.le_refl _)] at hI
        have ht8 := e8 _ _ (ne_ld (e7 _ _ (e6 _ _ (e _ _ ht0))) h7) (e7 _ _ (e6 _ _ (e _ _ ht0)))
        have e48 : Ex H4 H8 := e45.trans (e6.trans (((ExB.of e7).trans e8).ex hpg))
        have e08 : Ex H' H8 := e6.trans (((ExB.of e7).trans e8).ex hpg)
        have fin : ∀ H9 : Hp, Ex H8 H9 → ∃ (y6 y7 y8 y9 y10 y11 : Option V), [some (V.ref d), some (.ref g), some (.ref c), some (.ref am), some (.ref pl), some (.ref pf), some (.ref t0), some (.bl full), x8, some (.ref pg), x10, x11] = [some (V.ref d), some (.ref g), some (.ref c), some (.ref am), some (.ref pl), some (.ref pf), y6, y7, y8, y9, y10, y11] ∧ Ex H5 H9 := fun H9 e9 => ⟨_, _, _, _, _, _, rfl, e.trans (e08.trans e9)⟩
        cases full with
        | false => exact ⟨_, rfl, false, rfl, iteF (fin _ (Ex.refl _))⟩
        | true =>
        refine ⟨_, rfl, true, rfl, iteT ?_⟩
        dsimp only [tSeq_ap, tAsg_ap, gName_ap, tC_ap, tNext_ap, tRet_ap, tAndV_ap, tCB_ap, tCons_ap, tNil_ap, tB_ap, tTest_ap, tNot_ap, tOr_ap, tAnd_ap, tIfS_ap, tOp_ap, tDrop_ap]
        refine lcs qq (sql ht8) (by omega) (fun H1 Q' q' => ⟨_, rfl, q'⟩) (fun _ => true) (fun r => .int (givI ms qq r)) (fun z hz H9 e9 Qy Qn g1 g2 => ⟨rfl, tyes ?_⟩) fun p9 H9 hp9 e9 h9 => ?_
        · exact ⟨_, rfl, _, rfl, pg, _, rfl, gk (.inl (e9 _ _ hI)) hz, g1 rfl _ (Ex.refl _)⟩
        have any : ((qq.map (givI ms qq)).map fun n => n != 0).any id = true := by
          obtain ⟨r, hr⟩ := List.exists_mem_of_ne_nil qq (pt.ne qq hqq)
          rw [List.any_eq_true]
          refine ⟨true, ?_, rfl⟩
          rw [List.map_map]
          exact List.mem_map.mpr ⟨r, hr, bne_iff_ne.mpr (givI_ne pt sep hqq hr)⟩
        refine ⟨p9, qq.map (givI ms qq), rfl, sql (by rw [h9, List.map_map, List.filter_eq_self.mpr fun _ _ => rfl]; rfl), true, congrArg V.bl any, iteF (fin _ e9)⟩
    · obtain ⟨x6, x7, x8, x9, x10, x11, rfl, e⟩ := pv
      have e45 := e5.trans e
      exact ⟨_, rfl, q pf H' hpf0 (e04.trans e45) ((e4.trans e45) _ _ hf3)⟩
end
end K55


set_option Elab.async false
set_option linter.all false
set_option maxRecDepth 100000
set_option maxHeartbeats 4000000
namespace K55
open PySem PySem.Spec PyProof.Rows L2 Evl
/-! ### objects -/
def OrdAt (K : PySem.W.Frag) (H : Hp) (x : Addr) (ms : List Mv) : Prop := ∃ dx m p, H x = some (.ins (He.ga K "Order") dx [("moves", .ref m), ("parts", .ref p)]) ∧ MvAt H m ms ∧ H p = some (.lst [])
theorem OrdAt.ex {K : PySem.W.Frag} {H H' : Hp} {x : Addr} {ms : List Mv} (h : OrdAt K H x ms) (e : Ex H H') : OrdAt K H' x ms := by
  obtain ⟨dx, m, p, h1, h2, h3⟩ := h
  exact ⟨dx, m, p, e _ _ h1, h2.ex e, e _ _ h3⟩
/-- a Trails: its parts -/
structure TrAt (K : PySem.W.Frag) (H : Hp) (x dx n ld c rs dn : Addr) (L : List Str) (N : Str → Str) (ks : List Str) (cp : Str → Int) (rest done : List Mv) : Prop where
  o : H x = some (.ins (He.ga K "Trails") dx [("now", .ref n), ("loads", .ref ld), ("caps", .ref c), ("rest", .ref rs), ("done", .ref dn)])
  hn : DlAt H n L N
  hl : IntD H ld ks (cntI N L)
  hc : IntD H c ks cp
  hr : MvAt H rs rest
  hd : MvAt H dn done
  nl : n ≠ ld
  nc : n ≠ c
  lc : ld ≠ c
  rd : rs ≠ dn
theorem TrAt.ex {K : PySem.W.Frag} {H H' : Hp} {x dx n ld c rs dn : Addr} {L : List Str} {N : Str → Str} {ks : List Str} {cp : Str → Int} {rest done : List Mv} (h : TrAt K H x dx n ld c rs dn L N ks cp rest done) (e : Ex H H') : TrAt K H' x dx n ld c rs dn L N ks cp rest done :=
  ⟨e _ _ h.o, e _ _ h.hn, e _ _ h.hl, e _ _ h.hc, h.hr.ex e, h.hd.ex e, h.nl, h.nc, h.lc, h.rd⟩
/-- all but these is as it was -/
def ExA (as : List Addr) (H H' : Hp) : Prop := ∀ b o, b ∉ as → H b = some o → H' b = some o
theorem ExA.refl (as : List Addr) (H : Hp) : ExA as H H := fun _ _ _ h => h
theorem ExA.trans {as : List Addr} {H H1 H2 : Hp} (a : ExA as H H1) (b : ExA as H1 H2) : ExA as H H2 := fun x o n h => b x o n (a x o n h)
theorem ExA.of {as : List Addr} {H H' : Hp} (e : Ex H H') : ExA as H H' := fun b o _ h => e b o h
theorem ExA.upd {as : List Addr} {H H' : Hp} {p : Addr} {o : HO} (e : ExA as H H') (h : p ∈ as) : ExA as H (upd H' p o) := fun b u n q => by rw [upd_ne (fun z : b = p => n (z ▸ h))]; exact e b u n q
theorem ExA.ex {as : List Addr} {H H' : Hp} (e : ExA as H H') (h : ∀ a ∈ as, H a = none) : Ex H H' := fun b o hb => e b o (fun m => by rw [h b m] at hb; cases hb) hb
section
variable {P : Program} {w : World} {K : PySem.W.Frag} {mg : Str → Option Value} {base : Heap}
/-! ### Order(..): no parts -/
def spOrderInit (K : PySem.W.Frag) : Sp := fun vs H Q _ => ∃ (x dx m p : Addr) (ms : List Mv), vs = [.ref x, .ref m, .ref p] ∧ H x = some (.ins (He.ga K "Order") dx []) ∧ MvAt H m ms ∧ H p = some (.lst []) ∧
  ∀ H', ExB x H H' → OrdAt K H' x ms → Q .non H'
theorem sc_Order_init : FnScope ["self", "moves", "parts", "part"] ["self", "moves", "parts"] (defScope s_Order_init) := ⟨rfl, rfl, rfl, by decide +kernel, rfl, by decide +kernel, by decide +kernel⟩
theorem ok_Order_init (T : Txt K mg) : EntC P w K mg base CX0 1 "Order" (He.ga K "Order") ["self", "moves", "parts"] (spOrderInit K) := by
  obtain ⟨fd, F⟩ := T.f_Order_init
  refine EntC.mk' T.g_Order T.k_Order F (FunD.ok0 F sc_Order_init (fun vs H Q E h => ?_) (fun cdv A outer s H vs Q E hr h => ?_)) (fun _ _ _ _ _ _ us hl => match us, hl with | [_, _, _], _ => rfl)
  · obtain ⟨x, dx, m, p, ms, rfl, hx, ⟨ts, hm, hts⟩, hp, q⟩ := h
    rfl
  · obtain ⟨x, dx, m, p, ms, rfl, hx, ⟨ts, hm, hts⟩, hp, q⟩ := h
    refine ⟨_, (pss_cons (ps_fld (pv 0) (pe_callTy (call_list_ofK (K := K) rfl) (by rfl) T.n_list (by decide +kernel) (pa_cons (pv 1) pa_nil)) rfl)
      (pss_one (ps_fld (pv 0) (pe_lc (own := [("part", 3)]) (g := gName 3) (tt := tYes) rfl sc_Order_init.nd (pi_listK (K := K) rfl (pv 2)) (blkOk_by (N := ["self", "moves", "parts", "part"]) (sc := defScope s_Order_init) (by decide +kernel)) (fun _ _ _ _ _ => (pg_name (i := 3) sc_Order_init.nd rfl (Or.inl rfl))) (fun _ _ _ _ _ => pts_nil) (fun _ _ _ _ _ => (pe_callTy (call_list_ofK (K := K) rfl) (by rfl) T.n_list (by decide +kernel) (pa_cons (pv 3) pa_nil)))) rfl))), ?_⟩
    dsimp only [tSeq_ap, tAsg_ap, gName_ap, tC_ap, tNext_ap, tRet_ap, tAndV_ap, tCB_ap, tCons_ap, tNil_ap, tB_ap, tTest_ap, tNot_ap, tOr_ap, tAnd_ap, tIfS_ap, tOp_ap, tDrop_ap]
    dsimp only [sFld_ap]
    refine ⟨_, rfl, m, _, rfl, .inl (sql hm), fun m' hm' => ?_⟩
    have e1 : Ex H (upd H m' (.lst (ts.map V.ref))) := Ex.new hm'
    have hm1 : upd H m' (.lst (ts.map V.ref)) m' = _ := upd_same
    generalize upd H m' (.lst (ts.map V.ref)) = H1 at e1 hm1
    have nmx : m' ≠ x := fresh_ne hx hm'
    refine ⟨_, rfl, x, _, dx, _, rfl, e1 _ _ hx, T.c_Order, T.a_Order_moves, (of_decide_eq_true (by rfl)), ?_⟩
    have npx : p ≠ x := fun e => by rw [e, hx] at hp; cases hp
    refine lcs [] (sql ((upd_ne npx).trans (e1 _ _ hp))) (by decide) (fun H1 Q' q' => ⟨_, rfl, q'⟩) (fun _ => true) (fun z => .str z) (fun z hz => absurd hz List.not_mem_nil) fun p2 H2 hp2 e2 h2 => ?_
    refine ⟨_, rfl, x, _, dx, _, rfl, e2 _ _ upd_same, T.c_Order, T.a_Order_parts, (of_decide_eq_true (by rfl)), ?_⟩
    have n2x : p2 ≠ x := fun e => by rw [e, upd_same] at hp2; cases hp2
    have eb : ExB x H (upd H2 x (.ins (He.ga K "Order") dx (putF "parts" (.ref p2) (putF "moves" (.ref m') [])))) := ((((ExB.of e1).upd).trans (ExB.of e2)).upd)
    refine q _ eb ⟨dx, m', p2, upd_same, ⟨ts, (upd_ne nmx).trans (e2 _ _ ((upd_ne nmx).trans hm1)), Paired.mapP hts fun t mv h => ?_⟩, (upd_ne n2x).trans h2⟩
    exact eb _ _ (fun e => by rw [e, hx] at h; cases h) h
/-! ### Trails(..) -/
def spTrailsInit (K : PySem.W.Frag) : Sp := fun vs H Q _ => ∃ (x dx d g c : Addr) (L : List Str) (D G : Str → Str) (ks : List Str) (cp : Str → Int), vs = [.ref x, .ref d, .ref g, .ref c] ∧ H x = some (.ins (He.ga K "Trails") dx []) ∧
  DlAt H d L D ∧ DlAt H g L G ∧ DlOk L D ∧ IntD H c ks cp ∧ CapOk L D G ks cp ∧
  ∀ H' n ld rs dn, ExB x H H' → H n = none → H ld = none → H dn = none → TrAt K H' x dx n ld c rs dn L D ks cp (wnt L D G) [] → Q .non H'
theorem sc_Trails_init : FnScope ["self", "deal", "goal", "caps"] ["self", "deal", "goal", "caps"] (defScope s_Trails_init) := ⟨rfl, rfl, rfl, by decide +kernel, rfl, by decide +kernel, by decide +kernel⟩
theorem ok_Trails_init (T : Txt K mg) : EntC P w K mg base CX0 2 "Trails" (He.ga K "Trails") ["self", "deal", "goal", "caps"] (spTrailsInit K) := by
  obtain ⟨fd, F⟩ := T.f_Trails_init
  have e_loads_of := ok_loads_of (P := P) (w := w) (base := base) T
  have e_wanted := ok_wanted (P := P) (w := w) (base := base) T
  refine EntC.mk' T.g_Trails T.k_Trails F (FunD.ok0 F sc_Trails_init (fun vs H Q E h => ?_) (fun cdv A outer s H vs Q E hr h => ?_)) (fun _ _ _ _ _ _ us hl => match us, hl with | [_, _, _, _], _ => rfl)
  · obtain ⟨x, dx, d, g, c, L, D, G, ks, cp, rfl, hx, hd, hg, okD, hc, ck, q⟩ := h
    rfl
  · obtain ⟨x, dx, d, g, c, L, D, G, ks, cp, rfl, hx, hd, hg, okD, hc, ck, q⟩ := h
    refine ⟨_, (pss_cons (ps_fld (pv 0) (pe_callTy call_dictD (by rfl) T.n_dict (by decide +kernel) (pa_cons (pv 1) pa_nil)) rfl)
      (pss_cons (ps_fld (pv 0) (pe_e e_loads_of (hr.mono (by decide)) pass0 (pa_cons (pv 1) (pa_cons (pv 3) pa_nil))) rfl)
      (pss_cons (ps_fld (pv 0) (pv 3) rfl)
      (pss_cons (ps_fld (pv 0) (pe_e e_wanted (hr.mono (by decide)) pass0 (pa_cons (pv 1) (pa_cons (pv 2) pa_nil))) rfl)
      (pss_one (ps_fld (pv 0) (pe_lst pa_nil) rfl)))))), ?_⟩
    have k2 := ck.n2
    dsimp only [tSeq_ap, tAsg_ap, gName_ap, tC_ap, tNext_ap, tRet_ap, tAndV_ap, tCB_ap, tCons_ap, tNil_ap, tB_ap, tTest_ap, tNot_ap, tOr_ap, tAnd_ap, tIfS_ap, tOp_ap, tDrop_ap]
    dsimp only [sFld_ap]
    refine ⟨_, rfl, d, _, rfl, .inl hd, fun n hn => ?_⟩
    have nex : ∀ {a : Addr} {kvs : List (Key × V)}, H a = some (.dK kvs) → a ≠ x := fun h e => by rw [e, hx] at h; cases h
    have hn1 : upd H n (.dK (kd L fun l => .str (D l))) n = some (.dK (kd L fun l => .str (D l))) := upd_same
    have e1 : Ex H (upd H n (.dK (kd L fun l => .str (D l)))) := Ex.new hn
    generalize upd H n (.dK (kd L fun l => .str (D l))) = H1 at hn1 e1
    have nnx : n ≠ x := fresh_ne hx hn
    refine ⟨_, rfl, x, _, dx, _, rfl, e1 _ _ hx, T.c_Trails, T.a_Trails_now, (of_decide_eq_true (by rfl)), ?_⟩
    have x2 : upd H1 x (.ins (He.ga K "Trails") dx (putF "now" (.ref n) [])) x = some (.ins (He.ga K "Trails") dx [("now", .ref n)]) := upd_same
    have b2 : ExB x H1 (upd H1 x (.ins (He.ga K "Trails") dx (putF "now" (.ref n) []))) := (ExB.refl _ _).upd
    generalize upd H1 x (.ins (He.ga K "Trails") dx (putF "now" (.ref n) [])) = H2 at x2 b2
    have b02 := (ExB.of e1).trans b2
    refine ⟨_, rfl, _, rfl, d, c, L, D, ks, rfl, b02 _ _ (nex hd) hd, okD.n, ck.nd, by omega, ck.d, .inr ⟨_, b02 _ _ (nex hc) hc⟩, fun ld H3 hld e3 h3 => ?_⟩
    have nlx : ld ≠ x := fresh_ne x2 hld
    refine ⟨_, rfl, x, _, dx, _, rfl, e3 _ _ x2, T.c_Trails, T.a_Trails_loads, (of_decide_eq_true (by rfl)), ?_⟩
    have x4 : upd H3 x (.ins (He.ga K "Trails") dx (putF "loads" (.ref ld) [("now", .ref n)])) x = some (.ins (He.ga K "Trails") dx [("now", .ref n), ("loads", .ref ld)]) := upd_same
    have b4 : ExB x H3 (upd H3 x (.ins (He.ga K "Trails") dx (putF "loads" (.ref ld) [("now", .ref n)]))) := (ExB.refl _ _).upd
    generalize upd H3 x (.ins (He.ga K "Trails") dx (putF "loads" (.ref ld) [("now", .ref n)])) = H4 at x4 b4
    refine ⟨_, rfl, _, rfl, x, _, dx, _, rfl, x4, T.c_Trails, T.a_Trails_caps, (of_decide_eq_true (by rfl)), ?_⟩
    have x5 : upd H4 x (.ins (He.ga K "Trails") dx (putF "caps" (.ref c) [("now", .ref n), ("loads", .ref ld)])) x = some (.ins (He.ga K "Trails") dx [("now", .ref n), ("loads", .ref ld), ("caps", .ref c)]) := upd_same
    have b5 : ExB x H4 (upd H4 x (.ins (He.ga K "Trails") dx (putF "caps" (.ref c) [("now", .ref n), ("loads", .ref ld)]))) := (ExB.refl _ _).upd
    generalize upd H4 x (.ins (He.ga K "Trails") dx (putF "caps" (.ref c) [("now", .ref n), ("loads", .ref ld)])) = H5 at x5 b5
    have b35 := b4.trans b5
    have b05 := (b02.trans (ExB.of e3)).trans b35
    refine ⟨_, rfl, _, rfl, d, g, L, D, G, rfl, b05 _ _ (nex hd) hd, b05 _ _ (nex hg) hg, okD, fun rs H6 hrs e6 h6 => ?_⟩
    have nrx : rs ≠ x := fresh_ne x5 hrs
    refine ⟨_, rfl, x, _, dx, _, rfl, e6 _ _ x5, T.c_Trails, T.a_Trails_rest, (of_decide_eq_true (by rfl)), ?_⟩
    have x7 : upd H6 x (.ins (He.ga K "Trails") dx (putF "rest" (.ref rs) [("now", .ref n), ("loads", .ref ld), ("caps", .ref c)])) x = some (.ins (He.ga K "Trails") dx [("now", .ref n), ("loads", .ref ld), ("caps", .ref c), ("rest", .ref rs)]) := upd_same
    have b7 : ExB x H6 (upd H6 x (.ins (He.ga K "Trails") dx (putF "rest" (.ref rs) [("now", .ref n), ("loads", .ref ld), ("caps", .ref c)]))) := (ExB.refl _ _).upd
    generalize upd H6 x (.ins (He.ga K "Trails") dx (putF "rest" (.ref rs) [("now", .ref n), ("loads", .ref ld), ("caps", .ref c)])) = H7 at x7 b7
    refine ⟨by rw [sizeLine_eq]; decide, fun dn hdn => ?_⟩
    have ndx : dn ≠ x := fresh_ne x7 hdn
    have e8 : Ex H7 (upd H7 dn (.lst [])) := Ex.new hdn
    have hd8 : upd H7 dn (.lst []) dn = some (.lst []) := upd_same
    generalize upd H7 dn (.lst []) = H8 at e8 hd8
    refine ⟨_, rfl, x, _, dx, _, rfl, e8 _ _ x7, T.c_Trails, T.a_Trails_done, (of_decide_eq_true (by rfl)), ?_⟩
    have b9 : ExB x H8 (upd H8 x (.ins (He.ga K "Trails") dx (putF "done" (.ref dn) [("now", .ref n), ("loads", .ref ld), ("caps", .ref c), ("rest", .ref rs)]))) := (ExB.refl _ _).upd
    have x9 : upd H8 x (.ins (He.ga K "Trails") dx (putF "done" (.ref dn) [("now", .ref n), ("loads", .ref ld), ("caps", .ref c), ("rest", .ref rs)])) x = some (.ins (He.ga K "Trails") dx [("now", .ref n), ("loads", .ref ld), ("caps", .ref c), ("rest", .ref rs), ("done", .ref dn)]) := upd_same
    generalize upd H8 x (.ins (He.ga K "Trails") dx (putF "done" (.ref dn) [("now", .ref n), ("loads", .ref ld), ("caps", .ref c), ("rest", .ref rs)])) = H9 at x9 b9
    have b69 : ExB x H6 H9 := (b7.trans (ExB.of e8)).trans b9
    have b39 : ExB x H3 H9 := (b35.trans (ExB.of e6)).trans b69
    have b29 : ExB x H2 H9 := (ExB.of e3).trans b39
    have b09 : ExB x H H9 := b02.trans b29
    have none_ : ∀ {H' : Hp} {a : Addr}, ExB x H H' → a ≠ x → H' a = none → H a = none := fun {H' a} b h1 h2 => by
      cases q : H a with
      | none => rfl
      | some o => rw [b a o h1 q] at h2; cases h2
    have hn9 : H9 n = some (.dK (kd L fun l => .str (D l))) := b29 _ _ nnx (b2 _ _ nnx hn1)
    have hc9 := b09 _ _ (nex hc) hc
    have hl9 := b39 _ _ nlx h3
    obtain ⟨ts, h61, h62⟩ := h6
    refine q H9 n ld rs dn b09 hn (none_ b02 nlx hld) (none_ ((b05.trans (ExB.of e6)).trans b7) ndx hdn) ⟨x9, hn9, hl9, hc9, ⟨ts, b69 _ _ nrx h61, Paired.mapP h62 fun t m h => b69 _ _ (fun e => ?_) h⟩, ⟨[], b9 _ _ ndx hd8, .nil⟩, ?_, fun e => ?_, fun e => ?_, ?_⟩
    · have := e6 _ _ x5
      rw [← e, h] at this
      cases this
    · exact (fresh_ne (b2 _ _ nnx hn1) hld).symm
    · rw [e, hc] at hn
      cases hn
    · have := b02 _ _ (nex hc) hc
      rw [← e, hld] at this
      cases this
    · exact (fresh_ne (b7 _ _ nrx h61) hdn).symm
end
end K55


set_option Elab.async false
set_option linter.all false
set_option maxRecDepth 100000
set_option maxHeartbeats 4000000
namespace K55
open PySem PySem.Spec PyProof.Rows L2 Evl
theorem ne_il {H : Hp} {a b C dx : Addr} {fs : List (Str × V)} {xs : List V} (h : H a = some (.ins C dx fs)) (h' : H b = some (.lst xs)) : a ≠ b := fun e => by rw [e, h'] at h; cases h
theorem ne_ti {H : Hp} {a b C dx : Addr} {fs : List (Str × V)} {xs : List V} (h : H a = some (.tup xs)) (h' : H b = some (.ins C dx fs)) : a ≠ b := fun e => by rw [e, h'] at h; cases h
/-- moves stand where tuples and the list stand -/
theorem MvAt.kit {H H' : Hp} {a : Addr} {ms : List Mv} (h : MvAt H a ms) (ea : ∀ xs, H a = some (.lst xs) → H' a = some (.lst xs)) (et : ∀ b xs, H b = some (.tup xs) → H' b = some (.tup xs)) : MvAt H' a ms := by
  obtain ⟨ts, h1, h2⟩ := h
  exact ⟨ts, ea _ h1, Paired.mapP h2 fun _ _ r => et _ _ r⟩
theorem cntI_mv {N : Str → Str} {L : List Str} (nd : L.Nodup) {x q : Str} (hx : x ∈ L) (ne : N x ≠ q) (k : Str) :
    cntI (fun l => if l = x then q else N l) L k = if k = q then (if k = N x then cntI N L k - 1 else cntI N L k) + 1 else (if k = N x then cntI N L k - 1 else cntI N L k) := by
  rw [cntI_put nd hx (fun _ => rfl) k]
  by_cases k1 : k = q
  · have k2 : ¬ k = N x := fun e => ne (e.symm.trans k1)
    rw [if_pos k1, if_neg k2, if_neg (fun e => k2 e.symm), if_pos k1.symm]
    omega
  · rw [if_neg k1, if_neg (fun e : q = k => k1 e.symm)]
    by_cases k2 : k = N x
    · rw [if_pos k2, if_pos k2.symm]
      omega
    · rw [if_neg k2, if_neg (fun e => k2 e.symm)]
      omega
section
variable {P : Program} {w : World} {K : PySem.W.Frag} {mg : Str → Option Value} {base : Heap}
/-! ### Trails.make -/
def spMake (K : PySem.W.Frag) : Sp := fun vs H Q _ => ∃ (x dx n ld c rs dn : Addr) (L : List Str) (N : Str → Str) (ks : List Str) (cp : Str → Int) (rest done : List Mv) (lane goal : Str), vs = [.ref x, .str lane, .str goal] ∧ TrAt K H x dx n ld c rs dn L N ks cp rest done ∧
  L.Nodup ∧ L.length ≤ 60 ∧ ks.length ≤ 60 ∧ done.length ≤ 1000 ∧ lane ∈ L ∧ N lane ∈ ks ∧ goal ∈ ks ∧ N lane ≠ goal ∧
  ∀ H', ExA [n, ld, dn] H H' → TrAt K H' x dx n ld c rs dn L (fun l => if l = lane then goal else N l) ks cp rest (done ++ [(lane, N lane, goal)]) → Q .non H'
theorem sc_Trails_make : FnScope ["self", "lane", "goal", "reader"] ["self", "lane", "goal"] (defScope s_Trails_make) := ⟨rfl, rfl, rfl, by decide +kernel, rfl, by decide +kernel, by decide +kernel⟩
theorem ok_Trails_make (T : Txt K mg) : EntM P w K mg base CX0 1 (He.ga K "Trails") "make" ["self", "lane", "goal"] (spMake K) := by
  obtain ⟨fd, F⟩ := T.f_Trails_make
  refine EntM.mk' T.m_Trails_make F (FunD.ok0 F sc_Trails_make (fun vs H Q E h => ?_) (fun cdv A outer s H vs Q E hr h => ?_)) (fun _ _ _ _ _ _ us hl => match us, hl with | [_, _, _], _ => rfl)
  · obtain ⟨x, dx, n, ld, c, rs, dn, L, N, ks, cp, rest, done, lane, goal, rfl, h, nd, n60, k60, d1000, hl, hk, hg, ne, q⟩ := h
    rfl
  · obtain ⟨x, dx, n, ld, c, rs, dn, L, N, ks, cp, rest, done, lane, goal, rfl, h, nd, n60, k60, d1000, hl, hk, hg, ne, q⟩ := h
    refine ⟨_, (pss_cons (ps_set (i := 3) sc_Trails_make.nd rfl (Or.inl rfl) (pe_dget (hu_of hr) (pe_fldK (K := K) rfl (pv 0) rfl) (pv 1) (fun _ _ => rfl)))
      (pss_cons (ps_expr (pe_bm PySem.F.plainAttrs_list PySem.F.slot_list_append PySem.F.type_list_append mt_append (pe_fldK (K := K) rfl (pv 0) rfl) (pa_cons (pe_tup (pa_cons (pv 1) (pa_cons (pv 3) (pa_cons (pv 2) pa_nil)))) pa_nil)))
      (pss_cons (ps_dput (hu_of hr) (pe_fldK (K := K) rfl (pv 0) rfl) (pv 1) (pv 2) rfl)
      (pss_cons (ps_daug (hu_of hr) (pe_fldK (K := K) rfl (pv 0) rfl) (pv 3) pe_int in_sub (fun _ _ _ => rfl))
      (pss_one (ps_daug (hu_of hr) (pe_fldK (K := K) rfl (pv 0) rfl) (pv 2) pe_int in_add (fun _ _ _ => rfl))))))), ?_⟩
    obtain ⟨ts, hd1, hd2⟩ := h.hd
    have lts := Paired.length hd2
    refine ⟨_, rfl, x, _, dx, _, _, rfl, h.o, T.c_Trails, T.a_Trails_now, rfl, _, rfl, n, _, rfl, gk (.inl h.hn) hl, ?_⟩
    refine ⟨_, rfl, x, _, dx, _, _, rfl, h.o, T.c_Trails, T.a_Trails_done, rfl, .inl ⟨rfl, _, sql hd1⟩, _, rfl, _, rfl, _, rfl, le3, fun t ht => ?_⟩
    have e1 : Ex H (upd H t (.tup [.str lane, .str (N lane), .str goal])) := Ex.new ht
    have ht1 : upd H t (.tup [.str lane, .str (N lane), .str goal]) t = some (.tup [.str lane, .str (N lane), .str goal]) := upd_same
    generalize upd H t (.tup [.str lane, .str (N lane), .str goal]) = H1 at e1 ht1
    have h1 := h.ex e1
    refine ⟨dn, _, _, rfl, rfl, e1 _ _ hd1, by rw [List.length_map]; exact sz_lt (by omega), ?_⟩
    have nxd : x ≠ dn := ne_il h.o hd1
    have nnd : n ≠ dn := fun e => by have a := h.hn; have b := hd1; rw [e] at a; rw [show H dn = _ from a] at b; cases b
    have nld : ld ≠ dn := fun e => by have a := h.hl; have b := hd1; rw [e] at a; rw [show H dn = _ from a] at b; cases b
    have ncd : c ≠ dn := fun e => by have a := h.hc; have b := hd1; rw [e] at a; rw [show H dn = _ from a] at b; cases b
    have nxn : x ≠ n := ne_id h.o h.hn
    have nxl : x ≠ ld := ne_id h.o h.hl
    obtain ⟨tr, hr1, hr2⟩ := h.hr
    have nrn : rs ≠ n := ne_ld hr1 h.hn
    have nrl : rs ≠ ld := ne_ld hr1 h.hl
    have a2 : upd H1 dn (.lst (ts.map V.ref ++ [V.ref t])) dn = some (.lst (ts.map V.ref ++ [V.ref t])) := upd_same
    have b2 : ExA [n, ld, dn] H1 (upd H1 dn (.lst (ts.map V.ref ++ [V.ref t]))) := (ExA.refl _ _).upd (by simp)
    have n2 : DlAt (upd H1 dn (.lst (ts.map V.ref ++ [V.ref t]))) n L N := (upd_ne nnd).trans h1.hn
    have l2 : IntD (upd H1 dn (.lst (ts.map V.ref ++ [V.ref t]))) ld ks (cntI N L) := (upd_ne nld).trans h1.hl
    generalize upd H1 dn (.lst (ts.map V.ref ++ [V.ref t])) = H2 at a2 b2 n2 l2
    have nx : x ∉ [n, ld, dn] := by simp [nxd, nxn, nxl]
    have nc : c ∉ [n, ld, dn] := by simp [ncd, h.nc.symm, h.lc.symm]
    have o2 := b2 _ _ nx h1.o
    refine ⟨_, rfl, _, rfl, x, _, dx, _, _, rfl, o2, T.c_Trails, T.a_Trails_now, rfl, _, rfl, n, _, rfl, pm n2 hl (by omega), ?_⟩
    have n3 : DlAt (upd H2 n (.dK (kd L fun j => if j = lane then .str goal else .str (N j)))) n L (fun l => if l = lane then goal else N l) := upd_same.trans (congrArg (fun z => some (HO.dK z)) (kd_congr fun j _ => by show (if j = lane then V.str goal else V.str (N j)) = V.str (if j = lane then goal else N j); split <;> rfl))
    have b3 : ExA [n, ld, dn] H2 (upd H2 n (.dK (kd L fun j => if j = lane then .str goal else .str (N j)))) := (ExA.refl _ _).upd (by simp)
    have a3 := (upd_ne nnd.symm (H := H2) (o := .dK (kd L fun j => if j = lane then .str goal else .str (N j)))).trans a2
    have l3 : IntD (upd H2 n (.dK (kd L fun j => if j = lane then .str goal else .str (N j)))) ld ks (cntI N L) := (upd_ne h.nl.symm).trans l2
    generalize upd H2 n (.dK (kd L fun j => if j = lane then .str goal else .str (N j))) = H3 at n3 b3 a3 l3
    have o3 := b3 _ _ nx o2
    refine ⟨_, rfl, x, _, dx, _, _, rfl, o3, T.c_Trails, T.a_Trails_loads, rfl, _, rfl, ld, _, rfl, gk (.inl l3) hk, _, _, rfl, rfl, _, pmI l3 hk (by omega), ?_⟩
    have nnl := h.nl
    have nlc := h.lc
    have nld' := nld
    have l4 : IntD (upd H3 ld (.dK (kd ks fun j => .int (if j = N lane then cntI N L (N lane) - 1 else cntI N L j)))) ld ks (fun j => if j = N lane then cntI N L (N lane) - 1 else cntI N L j) := upd_same
    have b4 : ExA [n, ld, dn] H3 (upd H3 ld (.dK (kd ks fun j => .int (if j = N lane then cntI N L (N lane) - 1 else cntI N L j)))) := (ExA.refl _ _).upd (by simp)
    have n4 : DlAt (upd H3 ld (.dK (kd ks fun j => .int (if j = N lane then cntI N L (N lane) - 1 else cntI N L j)))) n L (fun l => if l = lane then goal else N l) := (upd_ne nnl).trans n3
    have a4 := (upd_ne nld.symm (H := H3) (o := .dK (kd ks fun j => .int (if j = N lane then cntI N L (N lane) - 1 else cntI N L j)))).trans a3
    generalize upd H3 ld (.dK (kd ks fun j => .int (if j = N lane then cntI N L (N lane) - 1 else cntI N L j))) = H4 at l4 b4 n4 a4
    have o4 := b4 _ _ nx o3
    refine ⟨_, rfl, x, _, dx, _, _, rfl, o4, T.c_Trails, T.a_Trails_loads, rfl, _, rfl, ld, _, rfl, gk (.inl l4) hg, _, _, rfl, rfl, _, pmI l4 hg (by omega), ?_⟩
    have b5 : ExA [n, ld, dn] H4 (upd H4 ld (.dK (kd ks fun j => .int (if j = goal then (if goal = N lane then cntI N L (N lane) - 1 else cntI N L goal) + 1 else (if j = N lane then cntI N L (N lane) - 1 else cntI N L j))))) := (ExA.refl _ _).upd (by simp)
    have b15 := ((b2.trans b3).trans b4).trans b5
    have b05 : ExA [n, ld, dn] H _ := (ExA.of e1).trans b15
    have tn : ∀ {H' : Hp} {b : Addr} {xs : List V}, H b = some (.tup xs) → b ∉ [n, ld, dn] := fun {H' b xs} hb m => by
      rcases List.mem_cons.mp m with rfl | m
      · have := h.hn; rw [show H _ = _ from this] at hb; cases hb
      rcases List.mem_cons.mp m with rfl | m
      · have := h.hl; rw [show H _ = _ from this] at hb; cases hb
      rcases List.mem_cons.mp m with rfl | m
      · rw [hd1] at hb; cases hb
      · cases m
    have nt : t ∉ [n, ld, dn] := fun m => by
      rcases List.mem_cons.mp m with rfl | m
      · have := h.hn; rw [show H _ = _ from this] at ht; cases ht
      rcases List.mem_cons.mp m with rfl | m
      · have := h.hl; rw [show H _ = _ from this] at ht; cases ht
      rcases List.mem_cons.mp m with rfl | m
      · rw [hd1] at ht; cases ht
      · cases m
    have nrs : rs ∉ [n, ld, dn] := by simp [nrn, nrl, h.rd]
    refine q _ b05 ⟨b5 _ _ nx o4, (upd_ne nnl).trans n4, ?_, b05 _ _ nc h.hc, h.hr.kit (fun xs e => b05 _ _ nrs e) (fun b xs e => b05 _ _ (tn (H' := H) e) e), ⟨ts ++ [t], ?_, paired_snoc (Paired.mapP hd2 fun b m e => b05 _ _ (tn (H' := H) e) e) (b15 _ _ nt ht1)⟩, h.nl, h.nc, h.lc, h.rd⟩
    · refine upd_same.trans (congrArg (fun z => some (HO.dK z)) (kd_congr fun j _ => congrArg V.int ?_))
      rw [cntI_mv nd hl ne j]
      by_cases k1 : j = goal
      · have n1 : ¬ goal = N lane := fun e => ne e.symm
        rw [if_pos k1, if_pos k1, k1, if_neg n1]
        dsimp only
        rw [if_neg n1]
      · rw [if_neg k1, if_neg k1]
        by_cases k2 : j = N lane
        · rw [if_pos k2, if_pos k2, k2]
        · rw [if_neg k2, if_neg k2]
    · rw [List.map_append]
      exact (upd_ne nld.symm).trans a4
end
end K55


set_option Elab.async false
set_option linter.all false
set_option maxRecDepth 100000
set_option maxHeartbeats 4000000
namespace K55
open PySem PySem.Spec PyProof.Rows L2 Evl
/-! ### moves with their places -/
def tupM (m : Mv) : HO := .tup [.str m.1, .str m.2.1, .str m.2.2]
theorem paired_zs {H : Hp} {ts : List Addr} {ms : List Mv} (h : Paired (fun t m => H t = some (tupM m)) ts ms) : ∃ zs : List (Addr × Mv), zs.map (·.1) = ts ∧ zs.map (·.2) = ms ∧ ∀ z ∈ zs, H z.1 = some (tupM z.2) := by
  induction h with
  | nil => exact ⟨[], rfl, rfl, fun z hz => absurd hz List.not_mem_nil⟩
  | @cons t m ts ms r _ ih =>
    obtain ⟨zs, h1, h2, h3⟩ := ih
    refine ⟨(t, m) :: zs, by rw [List.map_cons, h1], by rw [List.map_cons, h2], fun z hz => ?_⟩
    rcases List.mem_cons.mp hz with rfl | hz
    · exact r
    · exact h3 z hz
theorem MvAt.zs {H : Hp} {a : Addr} {ms : List Mv} (h : MvAt H a ms) : ∃ zs : List (Addr × Mv), H a = some (.lst (zs.map fun z => V.ref z.1)) ∧ zs.map (·.2) = ms ∧ ∀ z ∈ zs, H z.1 = some (tupM z.2) := by
  obtain ⟨ts, h1, h2⟩ := h
  obtain ⟨zs, rfl, h4, h5⟩ := paired_zs h2
  exact ⟨zs, by rw [h1, List.map_map]; rfl, h4, h5⟩
theorem MvAt.of {H : Hp} {a : Addr} : ∀ {zs : List (Addr × Mv)}, H a = some (.lst (zs.map fun z => V.ref z.1)) → (∀ z ∈ zs, H z.1 = some (tupM z.2)) → MvAt H a (zs.map (·.2)) := fun {zs} h k =>
  ⟨zs.map (·.1), by rw [h, List.map_map]; rfl, by
    clear h
    induction zs with
    | nil => exact .nil
    | cons z zs ih => exact .cons (k z List.mem_cons_self) (ih fun y hy => k y (List.mem_cons_of_mem _ hy))⟩
theorem zs_filter (p : Mv → Bool) (zs : List (Addr × Mv)) : (zs.filter fun z => p z.2).map (·.2) = (zs.map (·.2)).filter p := by
  rw [List.filter_map]
  rfl
/-! ### moves compared -/
def mvD (m : Mv) : PyData := .tuple [.str m.1, .str m.2.1, .str m.2.2]
def OkM (m : Mv) : Prop := isW m.1 = true ∧ isW m.2.1 = true ∧ isW m.2.2 = true
theorem mv_dp {K : PySem.W.Frag} {H : Hp} {t : Addr} {m : Mv} (h : H t = some (tupM m)) : Dp K H (.ref t) (mvD m) := .tup (sqt h) (.cons (.str _) (.cons (.str _) (.cons (.str _) .nil)))
theorem mv_shaped {m : Mv} (h : OkM m) : SeqAt.shaped (mvD m) = true := by
  simp [SeqAt.shaped, mvD, PyData.canLay0, PyData.canLayAll0, PyData.depth, PyData.depthAll, isW_strOk h.1, isW_strOk h.2.1, isW_strOk h.2.2]
theorem mv_eqv (m m' : Mv) : PyData.eqv (mvD m) (mvD m') = decide (m = m') := by
  show ((m.1 == m'.1) && ((m.2.1 == m'.2.1) && ((m.2.2 == m'.2.2) && true))) = _
  by_cases e : m = m'
  · subst e; simp
  · rw [decide_eq_false e]
    cases h1 : m.1 == m'.1 with
    | false => rfl
    | true =>
    cases h2 : m.2.1 == m'.2.1 with
    | false => rfl
    | true =>
    cases h3 : m.2.2 == m'.2.2 with
    | false => rfl
    | true => exact absurd (Prod.ext (eq_of_beq h1) (Prod.ext (eq_of_beq h2) (eq_of_beq h3))) e
theorem mv_ne {K : PySem.W.Frag} {H : Hp} {a b : Addr} {m m' : Mv} {Q : VK} (ha : H a = some (tupM m)) (hb : H b = some (tupM m')) (hm : OkM m) (hm' : OkM m') (q : Q (.bl (!decide (m = m'))) H) : rNeD K (.ref a) (.ref b) H Q :=
  ⟨_, _, mv_dp ha, mv_dp hb, mv_shaped hm, mv_shaped hm', by rw [mv_eqv]; exact q⟩
theorem mvs_dp {K : PySem.W.Frag} {H : Hp} : ∀ {ts : List Addr} {ms : List Mv}, Paired (fun t m => H t = some (tupM m)) ts ms → DpAll K H (ts.map V.ref) (ms.map mvD)
  | _, _, .nil => .nil
  | _, _, .cons r t => .cons (mv_dp r) (mvs_dp t)
theorem mvs_canLay : ∀ ms : List Mv, (∀ m ∈ ms, OkM m) → PyData.canLayAll0 (ms.map mvD) = true
  | [], _ => by simp [PyData.canLayAll0]
  | m :: ms, h => by
    have h1 := h m List.mem_cons_self
    simp only [List.map_cons, PyData.canLayAll0, mvD, PyData.canLay0, Bool.and_eq_true]
    exact ⟨⟨isW_strOk h1.1, isW_strOk h1.2.1, isW_strOk h1.2.2, trivial⟩, mvs_canLay ms fun y hy => h y (List.mem_cons_of_mem _ hy)⟩
theorem mvs_depth : ∀ ms : List Mv, PyData.depthAll (ms.map mvD) ≤ 2
  | [] => by simp [PyData.depthAll]
  | m :: ms => by
    have := mvs_depth ms
    simp only [List.map_cons, PyData.depthAll, mvD, PyData.depth]
    omega
theorem mvs_shaped (ms : List Mv) (h : ∀ m ∈ ms, OkM m) : SeqAt.shaped (.list (ms.map mvD)) = true := by
  unfold SeqAt.shaped
  rw [Bool.and_eq_true, decide_eq_true_eq]
  refine ⟨by simp only [PyData.canLay0]; exact mvs_canLay ms h, ?_⟩
  have := mvs_depth ms
  simp only [PyData.depth]
  omega
theorem mvs_eqv (ms : List Mv) : PyData.eqv (.list (ms.map mvD)) (.list []) = ms.isEmpty := by
  cases ms with
  | nil => rfl
  | cons m ms => rfl
/-- moves != [] -/
theorem mvs_ne_nil {K : PySem.W.Frag} {H : Hp} {a b : Addr} {ms : List Mv} {Q : VK} (ha : MvAt H a ms) (hb : H b = some (.lst [])) (hm : ∀ m ∈ ms, OkM m) (q : Q (.bl (!ms.isEmpty)) H) : rNeD K (.ref a) (.ref b) H Q := by
  obtain ⟨ts, h1, h2⟩ := ha
  exact ⟨_, _, .lst (sql h1) (mvs_dp h2), .lst (sql (xs := []) hb) .nil, mvs_shaped ms hm, mvs_shaped [] (fun _ h => absurd h List.not_mem_nil), by rw [mvs_eqv]; exact q⟩
theorem mvs_eq_nil {K : PySem.W.Frag} {H : Hp} {a b : Addr} {ms : List Mv} {Q : VK} (ha : MvAt H a ms) (hb : H b = some (.lst [])) (hm : ∀ m ∈ ms, OkM m) (q : Q (.bl ms.isEmpty) H) : rEqD K (.ref a) (.ref b) H Q := by
  obtain ⟨ts, h1, h2⟩ := ha
  exact ⟨_, _, .lst (sql h1) (mvs_dp h2), .lst (sql (xs := []) hb) .nil, mvs_shaped ms hm, mvs_shaped [] (fun _ h => absurd h List.not_mem_nil), by rw [mvs_eqv]; exact q⟩
section
variable {P : Program} {w : World} {K : PySem.W.Frag} {mg : Str → Option Value} {base : Heap}
/-! ### Trails.into -/
def intoM (ms : List Mv) (r : Str) : List Mv := ms.filter fun m => decide (m.2.2 = r)
def fromM (ms : List Mv) (r : Str) : List Mv := ms.filter fun m => decide (m.2.1 = r)
def spInto (K : PySem.W.Frag) : Sp := fun vs H Q _ => ∃ (x dx n ld c rs dn : Addr) (L : List Str) (N : Str → Str) (ks : List Str) (cp : Str → Int) (rest done : List Mv) (r : Str), vs = [.ref x, .str r] ∧ TrAt K H x dx n ld c rs dn L N ks cp rest done ∧ rest.length ≤ 1000 ∧
  ∀ p H', H p = none → Ex H H' → MvAt H' p (intoM rest r) → Q (.ref p) H'
theorem sc_Trails_into : FnScope ["self", "reader", "move"] ["self", "reader"] (defScope s_Trails_into) := ⟨rfl, rfl, rfl, by decide +kernel, rfl, by decide +kernel, by decide +kernel⟩
theorem ok_Trails_into (T : Txt K mg) : EntM P w K mg base CX0 1 (He.ga K "Trails") "into" ["self", "reader"] (spInto K) := by
  obtain ⟨fd, F⟩ := T.f_Trails_into
  refine EntM.mk' T.m_Trails_into F (FunD.ok0 F sc_Trails_into (fun vs H Q E h => ?_) (fun cdv A outer s H vs Q E hr h => ?_)) (fun _ _ _ _ _ _ us hl => match us, hl with | [_, _], _ => rfl)
  · obtain ⟨x, dx, n, ld, c, rs, dn, L, N, ks, cp, rest, done, r, rfl, h, n1000, q⟩ := h
    rfl
  · obtain ⟨x, dx, n, ld, c, rs, dn, L, N, ks, cp, rest, done, r, rfl, h, n1000, q⟩ := h
    refine ⟨_, (pss_one (ps_ret (pe_lc (own := [("move", 2)]) (g := gName 2) (tt := _) rfl sc_Trails_into.nd (pi_listK (K := K) rfl (pe_fldK (K := K) rfl (pv 0) rfl)) (blkOk_by (N := ["self", "reader", "move"]) (sc := defScope s_Trails_into) (by decide +kernel)) (fun _ _ _ _ _ => (pg_name (i := 2) sc_Trails_into.nd rfl (Or.inl rfl))) (fun _ _ _ _ _ => (pts_one (pt_cmpR op_eq (pe_ix (ix_tupK (K := K) rfl) (pv 2) pe_int (fun _ _ => rfl)) (pv 1) (nomark _)))) (fun _ _ _ _ _ => (pv 2))))), ?_⟩
    obtain ⟨zs, h1, h2, h3⟩ := h.hr.zs
    have lz : zs.length = rest.length := by rw [← h2, List.length_map]
    refine lcv zs (fun z => V.ref z.1) (sql h1) (by omega) (fun Q' q' => ⟨_, rfl, x, _, dx, _, _, rfl, h.o, T.c_Trails, T.a_Trails_rest, rfl, q'⟩) (fun z => decide (z.2.2.2 = r)) (fun z => V.ref z.1) (fun z hz H1 e1 Qy Qn g1 g2 => ⟨rfl, ?_⟩) fun p H1 hp e1 hl => ?_
    · refine ⟨_, rfl, z.1, _, _, _, rfl, rfl, sqt (e1 _ _ (h3 z hz)), rfl, _, rfl, rfl, ?_⟩
      by_cases e : z.2.2.2 = r
      · exact ⟨true, bl_t (congrArg V.str e), iteT ⟨_, rfl, g1 (decide_eq_true e) _ (Ex.refl _)⟩⟩
      · exact ⟨false, bl_f (fun y => e (by injection y)), iteF (g2 (decide_eq_false e) _ (Ex.refl _))⟩
    · refine q p H1 hp e1 ?_
      have := MvAt.of (zs := zs.filter fun z => decide (z.2.2.2 = r)) hl fun z hz => e1 _ _ (h3 z (List.mem_filter.mp hz).1)
      rw [zs_filter (fun m => decide (m.2.2 = r)), h2] at this
      exact this
/-! ### Trails.excess -/
def spExcess (K : PySem.W.Frag) : Sp := fun vs H Q _ => ∃ (x dx n ld c rs dn : Addr) (L : List Str) (N : Str → Str) (ks : List Str) (cp : Str → Int) (rest done : List Mv) (r : Str), vs = [.ref x, .str r] ∧ TrAt K H x dx n ld c rs dn L N ks cp rest done ∧ rest.length ≤ 1000 ∧
  ∀ H', Ex H H' → Q (.int ((intoM rest r).length - (fromM rest r).length)) H'
theorem sc_Trails_excess : FnScope ["self", "reader", "move"] ["self", "reader"] (defScope s_Trails_excess) := ⟨rfl, rfl, rfl, by decide +kernel, rfl, by decide +kernel, by decide +kernel⟩
theorem ok_Trails_excess (T : Txt K mg) : EntM P w K mg base CX0 2 (He.ga K "Trails") "excess" ["self", "reader"] (spExcess K) := by
  obtain ⟨fd, F⟩ := T.f_Trails_excess
  have em_Trails_into := ok_Trails_into (P := P) (w := w) (base := base) T
  refine EntM.mk' T.m_Trails_excess F (FunD.ok0 F sc_Trails_excess (fun vs H Q E h => ?_) (fun cdv A outer s H vs Q E hr h => ?_)) (fun _ _ _ _ _ _ us hl => match us, hl with | [_, _], _ => rfl)
  · obtain ⟨x, dx, n, ld, c, rs, dn, L, N, ks, cp, rest, done, r, rfl, h, n1000, q⟩ := h
    rfl
  · obtain ⟨x, dx, n, ld, c, rs, dn, L, N, ks, cp, rest, done, r, rfl, h, n1000, q⟩ := h
    refine ⟨_, (pss_one (ps_ret (pe_op op_sub (pe_callB (call_lenK (K := K) rfl) (by rfl) T.n_len PySem.boot_len (pa_cons (pe_em em_Trails_into T.c_Trails (pv 0) (hr.mono (by decide)) pass0 (pa_cons (pv 1) pa_nil)) pa_nil)) (pe_callB (call_lenK (K := K) rfl) (by rfl) T.n_len PySem.boot_len (pa_cons (pe_lc (own := [("move", 2)]) (g := gName 2) (tt := _) rfl sc_Trails_excess.nd (pi_listK (K := K) rfl (pe_fldK (K := K) rfl (pv 0) rfl)) (blkOk_by (N := ["self", "reader", "move"]) (sc := defScope s_Trails_excess) (by decide +kernel)) (fun _ _ _ _ _ => (pg_name (i := 2) sc_Trails_excess.nd rfl (Or.inl rfl))) (fun _ _ _ _ _ => (pts_one (pt_cmpR op_eq (pe_ix (ix_tupK (K := K) rfl) (pv 2) pe_int (fun _ _ => rfl)) (pv 1) (nomark _)))) (fun _ _ _ _ _ => (pv 2))) pa_nil))))), ?_⟩
    refine ⟨_, rfl, x, dx, _, rfl, h.o, rfl, _, rfl, x, dx, n, ld, c, rs, dn, L, N, ks, cp, rest, done, r, rfl, h, n1000, fun p H1 hp e1 ⟨ts, hm1, hm2⟩ => ?_⟩
    have lt := Paired.length hm2
    refine ⟨_, _, rfl, lenL (sql hm1), ?_⟩
    have h' := h.ex e1
    obtain ⟨zs, h1, h2, h3⟩ := h'.hr.zs
    have lz : zs.length = rest.length := by rw [← h2, List.length_map]
    dsimp only [tSeq_ap, tAsg_ap, gName_ap, tC_ap, tNext_ap, tRet_ap, tAndV_ap, tCB_ap, tCons_ap, tNil_ap, tB_ap, tTest_ap, tNot_ap, tOr_ap, tAnd_ap, tIfS_ap, tOp_ap, tDrop_ap]
    refine lcv zs (fun z => V.ref z.1) (sql h1) (by omega) (fun Q' q' => ⟨_, rfl, x, _, dx, _, _, rfl, h'.o, T.c_Trails, T.a_Trails_rest, rfl, q'⟩) (fun z => decide (z.2.2.1 = r)) (fun z => V.ref z.1) (fun z hz H2 e2 Qy Qn g1 g2 => ⟨rfl, ?_⟩) fun p2 H2 hp2 e2 hl => ?_
    · refine ⟨_, rfl, z.1, _, _, _, rfl, rfl, sqt (e2 _ _ (h3 z hz)), rfl, _, rfl, rfl, ?_⟩
      by_cases e : z.2.2.1 = r
      · exact ⟨true, bl_t (congrArg V.str e), iteT ⟨_, rfl, g1 (decide_eq_true e) _ (Ex.refl _)⟩⟩
      · exact ⟨false, bl_f (fun y => e (by injection y)), iteF (g2 (decide_eq_false e) _ (Ex.refl _))⟩
    · refine ⟨_, _, rfl, lenL (sql hl), _, _, rfl, rfl, ?_⟩
      have e3 : (((zs.filter fun z => decide (z.2.2.1 = r)).map fun z => V.ref z.1).length : Int) = (fromM rest r).length := by
        rw [List.length_map, ← List.length_map (f := fun z : Addr × Mv => z.2), zs_filter (fun m => decide (m.2.1 = r)), h2]
        rfl
      rw [e3, List.length_map, lt]
      exact q H2 (e1.trans e2)
/-! ### Trails.walk: one move -/
def spWalk (K : PySem.W.Frag) : Sp := fun vs H Q _ => ∃ (x dx n ld c rs dn : Addr) (L : List Str) (N : Str → Str) (ks : List Str) (cp : Str → Int) (rest done : List Mv) (tl : Addr) (m : Mv), vs = [.ref x, .ref tl] ∧ TrAt K H x dx n ld c rs dn L N ks cp rest done ∧ MvAt H tl [m] ∧ tl ≠ dn ∧
  L.Nodup ∧ L.length ≤ 60 ∧ ks.length ≤ 60 ∧ done.length ≤ 1000 ∧ m.1 ∈ L ∧ N m.1 = m.2.1 ∧ m.2.1 ∈ ks ∧ m.2.2 ∈ ks ∧ m.2.1 ≠ m.2.2 ∧
  ∀ H', ExA [n, ld, dn] H H' → TrAt K H' x dx n ld c rs dn L (fun l => if l = m.1 then m.2.2 else N l) ks cp rest (done ++ [m]) → Q .non H'
theorem sc_Trails_walk : FnScope ["self", "trail", "lane", "reader", "goal"] ["self", "trail"] (defScope s_Trails_walk) := ⟨rfl, rfl, rfl, by decide +kernel, rfl, by decide +kernel, by decide +kernel⟩
theorem ok_Trails_walk (T : Txt K mg) : EntM P w K mg base CX0 2 (He.ga K "Trails") "walk" ["self", "trail"] (spWalk K) := by
  obtain ⟨fd, F⟩ := T.f_Trails_walk
  have em_Trails_make := ok_Trails_make (P := P) (w := w) (base := base) T
  refine EntM.mk' T.m_Trails_walk F (FunD.ok0 F sc_Trails_walk (fun vs H Q E h => ?_) (fun cdv A outer s H vs Q E hr h => ?_)) (fun _ _ _ _ _ _ us hl => match us, hl with | [_, _], _ => rfl)
  · obtain ⟨x, dx, n, ld, c, rs, dn, L, N, ks, cp, rest, done, tl, m, rfl, h, ⟨ts, ht1, ht2⟩, ntd, nd, n60, k60, d1000, hl, hN, hk, hg, ne, q⟩ := h
    rfl
  · obtain ⟨x, dx, n, ld, c, rs, dn, L, N, ks, cp, rest, done, tl, m, rfl, h, ⟨ts, ht1, ht2⟩, ntd, nd, n60, k60, d1000, hl, hN, hk, hg, ne, q⟩ := h
    refine ⟨_, (pss_one (ps_for PassesOwn.never rfl (pi_listK (K := K) rfl (pv 1)) (pg_tup rfl (pgs_cons (pg_name (i := 2) sc_Trails_walk.nd rfl (Or.inl rfl)) (pgs_cons (pg_name (i := 3) sc_Trails_walk.nd rfl (Or.inl rfl)) (pgs_cons (pg_name (i := 4) sc_Trails_walk.nd rfl (Or.inl rfl)) pgs_nil)))) (pss_one (ps_expr (pe_em em_Trails_make T.c_Trails (pv 0) (hr.mono (by decide)) pass0 (pa_cons (pv 2) (pa_cons (pv 4) pa_nil))))))), ?_⟩
    obtain ⟨t, rfl⟩ : ∃ t, ts = [t] := by
      have := Paired.length ht2
      match ts, this with
      | [t], _ => exact ⟨t, rfl⟩
    cases ht2 with
    | cons ht _ =>
    have ntn : tl ≠ n := ne_ld ht1 h.hn
    have ntl : tl ≠ ld := ne_ld ht1 h.hl
    refine forl (td := tVar 1) (sql ht1) (fun H1 Q' q' => ⟨_, rfl, q'⟩) (fun i σ' H' => ∃ (x2 x3 x4 : Option V), σ' = [some (V.ref x), some (.ref tl), x2, x3, x4] ∧ ExA [n, ld, dn] H H' ∧ ((i = 0 ∧ H' = H) ∨ (i = 1 ∧ TrAt K H' x dx n ld c rs dn L (fun l => if l = m.1 then m.2.2 else N l) ks cp rest (done ++ [m]))))
      ⟨_, _, _, rfl, ExA.refl _ _, .inl ⟨rfl, rfl⟩⟩ (fun i σ' H' pv => ?_) (fun i x' σ' H' hx pv => ?_) fun σ' H' pv => ?_
    · obtain ⟨_, _, _, _, e, _⟩ := pv
      exact sql (e _ _ (by simp [ntn, ntl, ntd]) ht1)
    · obtain ⟨x2, x3, x4, rfl, e, hh⟩ := pv
      rcases hh with ⟨rfl, rfl⟩ | ⟨rfl, _⟩
      · cases hx
        refine ⟨t, _, rfl, sqt ht, rfl, _, _, rfl, _, _, rfl, _, _, rfl, rfl, ?_⟩
        refine ⟨_, rfl, x, dx, _, rfl, h.o, rfl, _, rfl, _, rfl, x, dx, n, ld, c, rs, dn, L, N, ks, cp, rest, done, m.1, m.2.2, rfl, h, nd, n60, k60, d1000, hl, hN ▸ hk, hg, hN ▸ ne, fun H2 e2 h2 => ?_⟩
        rw [hN] at h2
        exact ⟨_, _, _, rfl, e2, .inr ⟨rfl, h2⟩⟩
      · cases hx
    · obtain ⟨x2, x3, x4, rfl, e, hh⟩ := pv
      rcases hh with ⟨h0, _⟩ | ⟨_, h2⟩
      · cases h0
      · exact q H' e h2
end
end K55


set_option Elab.async false
set_option linter.all false
set_option maxRecDepth 100000
set_option maxHeartbeats 4000000
namespace K55
open PySem PySem.Spec PyProof.Rows L2 Evl
/-- [e for z in xs if ..], the list being just made -/
theorem lcvP {α : Type} [Inhabited α] {K : PySem.W.Frag} {σ : L2.St} {H : Hp} {Q : VK} {gg : TG} {tt : TT} {te td : TE} {vs : List Nat} {val : α → V} (PP : Hp → List α → Prop)
    (hd : ∀ Q' : VK, (∀ a (xs : List α) H1, Ex H H1 → SqL K H1 a (xs.map val) → PP H1 xs → Q' (.ref a) H1) → td σ H Q') (hn : ∀ H1 xs, PP H1 xs → xs.length ≤ 40000) (f : α → Bool) (v : α → V)
    (turn : ∀ H1 xs, Ex H H1 → PP H1 xs → ∀ z ∈ xs, ∀ H2, Ex H1 H2 → ∀ (Qy : V → Hp → Prop) (Qn : Hp → Prop), (f z = true → ∀ H4, Ex H2 H4 → Qy (v z) H4) → (f z = false → ∀ H3, Ex H2 H3 → Qn H3) →
      gg (val z) (wipe σ vs) H2 fun σ2 H3 => wipe σ2 vs = wipe σ vs ∧ tt σ2 H3 fun b H4 => if b = true then te σ2 H4 Qy else Qn H4)
    (k : ∀ H1 xs, Ex H H1 → PP H1 xs → ∀ p H2, H1 p = none → Ex H1 H2 → H2 p = some (.lst ((xs.filter f).map v)) → Q (.ref p) H2) : tLc (iList K td) gg tt te vs σ H Q := by
  refine hd _ fun a xs H1 e1 hx pp => ?_
  exact (lcv (td := tC (.ref a)) xs val hx (hn H1 xs pp) (fun Q' q' => q') f v (turn H1 xs e1 pp) (k H1 xs e1 pp) : tLc (iList K (tC (.ref a))) gg tt te vs σ H1 Q)
/-! ### lists of texts with their places -/
theorem paired_zs2 {H : Hp} {ts : List Addr} {ps : List (List Str)} (h : Paired (fun t q => H t = some (.lst (q.map V.str))) ts ps) : ∃ zs : List (Addr × List Str), zs.map (·.1) = ts ∧ zs.map (·.2) = ps ∧ ∀ z ∈ zs, H z.1 = some (.lst (z.2.map V.str)) := by
  induction h with
  | nil => exact ⟨[], rfl, rfl, fun z hz => absurd hz List.not_mem_nil⟩
  | @cons t m ts ms r _ ih =>
    obtain ⟨zs, h1, h2, h3⟩ := ih
    refine ⟨(t, m) :: zs, by rw [List.map_cons, h1], by rw [List.map_cons, h2], fun z hz => ?_⟩
    rcases List.mem_cons.mp hz with rfl | hz
    · exact r
    · exact h3 z hz
theorem PrAt.zs {H : Hp} {a : Addr} {ps : List (List Str)} (h : PrAt H a ps) : ∃ zs : List (Addr × List Str), H a = some (.lst (zs.map fun z => V.ref z.1)) ∧ zs.map (·.2) = ps ∧ ∀ z ∈ zs, H z.1 = some (.lst (z.2.map V.str)) := by
  obtain ⟨ts, h1, h2⟩ := h
  obtain ⟨zs, rfl, h4, h5⟩ := paired_zs2 h2
  exact ⟨zs, by rw [h1, List.map_map]; rfl, h4, h5⟩
theorem inV_strs (z : Str) (xs : List Str) : inV (.str z) (xs.map V.str) = decide (z ∈ xs) := by
  by_cases h : z ∈ xs
  · rw [inV_str h, decide_eq_true h]
  · rw [decide_eq_false h]
    unfold inV
    rw [List.any_eq_false]
    intro v hv
    obtain ⟨y, hy, rfl⟩ := List.mem_map.mp hv
    have n : ¬ (y == z) = true := fun e => h (eq_of_beq e ▸ hy)
    show ¬ (y == z) = true
    exact n
/-! ### lists of lists of texts compared with the empty one -/
def llD (ps : List (List Str)) : List PyData := ps.map fun q => .list (q.map PyData.str)
theorem ll_dp {K : PySem.W.Frag} {H : Hp} : ∀ {zs : List (Addr × List Str)}, (∀ z ∈ zs, H z.1 = some (.lst (z.2.map V.str))) → DpAll K H (zs.map fun z => V.ref z.1) (llD (zs.map (·.2)))
  | [], _ => .nil
  | z :: zs, h => .cons (.lst (sql (h z List.mem_cons_self)) (strs_dpAll _)) (ll_dp fun y hy => h y (List.mem_cons_of_mem _ hy))
theorem ll_canLay : ∀ ps : List (List Str), (∀ q ∈ ps, ∀ x ∈ q, isW x = true) → PyData.canLayAll0 (llD ps) = true
  | [], _ => by simp [PyData.canLayAll0, llD]
  | q :: ps, h => by
    have ih := ll_canLay ps fun y hy => h y (List.mem_cons_of_mem _ hy)
    unfold llD at ih ⊢
    simp only [List.map_cons, PyData.canLayAll0, PyData.canLay0, Bool.and_eq_true]
    exact ⟨strs_canLay q fun x hx => isW_strOk (h q List.mem_cons_self x hx), ih⟩
theorem ll_depth : ∀ ps : List (List Str), PyData.depthAll (llD ps) ≤ 3
  | [] => by simp [PyData.depthAll, llD]
  | q :: ps => by
    have := ll_depth ps
    have := strs_depth q
    unfold llD at *
    simp only [List.map_cons, PyData.depthAll, PyData.depth]
    omega
theorem ll_shaped (ps : List (List Str)) (h : ∀ q ∈ ps, ∀ x ∈ q, isW x = true) : SeqAt.shaped (.list (llD ps)) = true := by
  unfold SeqAt.shaped
  rw [Bool.and_eq_true, decide_eq_true_eq]
  refine ⟨by simp only [PyData.canLay0]; exact ll_canLay ps h, ?_⟩
  have := ll_depth ps
  simp only [PyData.depth]
  omega
theorem ll_eqv (ps : List (List Str)) : PyData.eqv (.list (llD ps)) (.list []) = ps.isEmpty := by
  cases ps with
  | nil => rfl
  | cons m ms => rfl
theorem ll_eq_nil {K : PySem.W.Frag} {H : Hp} {a b : Addr} {zs : List (Addr × List Str)} {Q : VK} (ha : H a = some (.lst (zs.map fun z => V.ref z.1))) (hz : ∀ z ∈ zs, H z.1 = some (.lst (z.2.map V.str))) (hb : H b = some (.lst [])) (hm : ∀ q ∈ zs.map (·.2), ∀ x ∈ q, isW x = true) (q : Q (.bl zs.isEmpty) H) : rEqD K (.ref a) (.ref b) H Q :=
  ⟨_, _, .lst (sql ha) (ll_dp hz), .lst (sql (xs := []) hb) .nil, ll_shaped _ hm, ll_shaped [] (fun _ h => absurd h List.not_mem_nil), by rw [ll_eqv]; cases zs with | nil => exact q | cons z zs => exact q⟩
/-- [] == [], [] != [] -/
theorem nil_ne_nil {K : PySem.W.Frag} {H : Hp} {a b : Addr} {Q : VK} (ha : H a = some (.lst [])) (hb : H b = some (.lst [])) (q : Q (.bl false) H) : rNeD K (.ref a) (.ref b) H Q :=
  ⟨_, _, .lst (sql (xs := []) ha) .nil, .lst (sql (xs := []) hb) .nil, ll_shaped [] (fun _ h => absurd h List.not_mem_nil), ll_shaped [] (fun _ h => absurd h List.not_mem_nil), q⟩
theorem nil_eq_nil {K : PySem.W.Frag} {H : Hp} {a b : Addr} {Q : VK} (ha : H a = some (.lst [])) (hb : H b = some (.lst [])) (q : Q (.bl true) H) : rEqD K (.ref a) (.ref b) H Q :=
  ⟨_, _, .lst (sql (xs := []) ha) .nil, .lst (sql (xs := []) hb) .nil, ll_shaped [] (fun _ h => absurd h List.not_mem_nil), ll_shaped [] (fun _ h => absurd h List.not_mem_nil), q⟩
/-! ### more into a reader than out of it -/
def excI (ms : List Mv) (r : Str) : Int := (intoM ms r).length - (fromM ms r).length
theorem into_nil {ms : List Mv} (sep : Sep ms) {m : Mv} (hm : m ∈ ms) : intoM ms m.2.1 = [] := List.filter_eq_nil_iff.mpr fun x hx h => sep m hm x hx (of_decide_eq_true h).symm
theorem from_nil {ms : List Mv} (sep : Sep ms) {m : Mv} (hm : m ∈ ms) : fromM ms m.2.2 = [] := List.filter_eq_nil_iff.mpr fun x hx h => sep x hx m hm (of_decide_eq_true h)
theorem into_mem {ms : List Mv} {m : Mv} (hm : m ∈ ms) : 0 < (intoM ms m.2.2).length := List.length_pos_of_mem (List.mem_filter.mpr ⟨hm, decide_eq_true rfl⟩)
theorem from_mem {ms : List Mv} {m : Mv} (hm : m ∈ ms) : 0 < (fromM ms m.2.1).length := List.length_pos_of_mem (List.mem_filter.mpr ⟨hm, decide_eq_true rfl⟩)
theorem exc_pos {ms : List Mv} (sep : Sep ms) {m : Mv} (hm : m ∈ ms) : 0 < excI ms m.2.2 := by
  unfold excI
  rw [from_nil sep hm, List.length_nil]
  have := into_mem hm
  omega
theorem exc_neg {ms : List Mv} (sep : Sep ms) {m : Mv} (hm : m ∈ ms) : excI ms m.2.1 < 0 := by
  unfold excI
  rw [into_nil sep hm, List.length_nil]
  have := from_mem hm
  omega
theorem exc_ne {ms : List Mv} {ps : List (List Str)} (pt : Pts ms ps) (sep : Sep ms) {q : List Str} (hq : q ∈ ps) {r : Str} (hr : r ∈ q) : excI ms r ≠ 0 := by
  obtain ⟨m, hm, e⟩ := pt.mem q hq r hr
  rcases e with rfl | rfl
  · have := exc_neg sep hm; omega
  · have := exc_pos sep hm; omega
section
variable {P : Program} {w : World} {K : PySem.W.Frag} {mg : Str → Option Value} {base : Heap}
/-! ### Trails.loop: none -/
def spLoop (K : PySem.W.Frag) : Sp := fun vs H Q _ => ∃ (x dx n ld c rs dn : Addr) (L : List Str) (N : Str → Str) (ks : List Str) (cp : Str → Int) (rest done : List Mv) (node : Str), vs = [.ref x, .str node] ∧ TrAt K H x dx n ld c rs dn L N ks cp rest done ∧ rest.length ≤ 30 ∧
  Sep rest ∧ (∀ m ∈ rest, OkM m) ∧ (∀ m ∈ rest, m.2.1 ≠ m.2.2) ∧ ∀ p H', H p = none → Ex H H' → H' p = some (.lst []) → Q (.ref p) H'
theorem sc_Trails_loop : FnScope ["self", "node", "part", "one", "reader", "found", "now", "move"] ["self", "node"] (defScope s_Trails_loop) := ⟨rfl, rfl, rfl, by decide +kernel, rfl, by decide +kernel, by decide +kernel⟩
theorem ok_Trails_loop (T : Txt K mg) : EntM P w K mg base CX0 3 (He.ga K "Trails") "loop" ["self", "node"] (spLoop K) := by
  obtain ⟨fd, F⟩ := T.f_Trails_loop
  have e_parts_of := ok_parts_of (P := P) (w := w) (base := base) T
  have em_Trails_into := ok_Trails_into (P := P) (w := w) (base := base) T
  have em_Trails_excess := ok_Trails_excess (P := P) (w := w) (base := base) T
  refine EntM.mk' T.m_Trails_loop F (FunD.ok0 F sc_Trails_loop (fun vs H Q E h => ?_) (fun cdv A outer s H vs Q E hr h => ?_)) (fun _ _ _ _ _ _ us hl => match us, hl with | [_, _], _ => rfl)
  · obtain ⟨x, dx, n, ld, c, rs, dn, L, N, ks, cp, rest, done, node, rfl, h, n30, sep, okm, mne, q⟩ := h
    rfl
  · obtain ⟨x, dx, n, ld, c, rs, dn, L, N, ks, cp, rest, done, node, rfl, h, n30, sep, okm, mne, q⟩ := h
    refine ⟨_, (pss_cons (ps_setLc (i := 2) (own := [("one", 3)]) (g := gName 3) (tt := _) rfl sc_Trails_loop.nd rfl rfl (sw_true rfl rfl rfl (by decide +kernel)) (pi_listK (K := K) rfl (pe_e e_parts_of (hr.mono (by decide)) pass0 (pa_cons (pe_fldK (K := K) rfl (pv 0) rfl) pa_nil))) (blkOk_by (N := ["self", "node", "part", "one", "reader", "found", "now", "move"]) (sc := defScope s_Trails_loop) (by decide +kernel)) (fun _ _ _ _ _ => (pg_name (i := 3) sc_Trails_loop.nd rfl (Or.inl rfl))) (fun _ _ _ _ _ => (pts_one (pt_cmpR (op_in_seqK (K := K) rfl) (pv 1) (pv 3) (by with_unfolding_all rfl)))) (fun _ _ _ _ _ => (pv 3)))
      (pss_cons (ps_if (PW.pt (pw_or (pt_cmpR (op_eqDK (K := K) rfl hr.units) (pv 2) (pe_lst pa_nil) (nomark _)) (pw_or (pt_val (pe_callB (cr_anyK (K := K) rfl rfl) (by rfl) T.n_any (by decide +kernel) (pa_cons (pe_lc (own := [("reader", 4)]) (g := gName 4) (tt := tYes) rfl sc_Trails_loop.nd (pi_listK (K := K) rfl (pe_ix (ix_listK (K := K) rfl) (pv 2) pe_int (fun _ _ => rfl))) (blkOk_by (N := ["self", "node", "part", "one", "reader", "found", "now", "move"]) (sc := defScope s_Trails_loop) (by decide +kernel)) (fun _ _ _ _ _ => (pg_name (i := 4) sc_Trails_loop.nd rfl (Or.inl rfl))) (fun _ _ _ _ _ => pts_nil) (fun _ _ _ _ _ => (pe_cmpR op_ne (pe_em em_Trails_excess T.c_Trails (pv 0) (hr.mono (by decide)) pass0 (pa_cons (pv 4) pa_nil)) pe_int (nomark _)))) pa_nil))) (pw_or1 (pt_cmpR (op_eqDK (K := K) rfl hr.units) (pe_em em_Trails_into T.c_Trails (pv 0) (hr.mono (by decide)) pass0 (pa_cons (pv 1) pa_nil)) (pe_lst pa_nil) (nomark _)))))) (pss_one (ps_ret (pe_lst pa_nil))) pss_nil)
      (pss_cons (ps_par (i := 5) (j := 6) rfl sc_Trails_loop.nd rfl rfl (by decide) rfl rfl (pa_cons (pe_lst pa_nil) (pa_cons (pv 1) pa_nil)) rfl)
      (pss_cons (ps_while PassesOwn.never (PW.pt (pw_or (pt_cmpR (op_eqDK (K := K) rfl hr.units) (pv 5) (pe_lst pa_nil) (nomark _)) (pw_or1 (pt_cmpR op_ne (pv 6) (pv 1) (nomark _))))) (pss_cons (ps_set (i := 7) sc_Trails_loop.nd rfl (Or.inr rfl) (pe_ix (ix_listK (K := K) rfl) (pe_em em_Trails_into T.c_Trails (pv 0) (hr.mono (by decide)) pass0 (pa_cons (pv 6) pa_nil)) pe_int (fun _ _ => rfl)))
      (pss_cons (ps_fld (pv 0) (pe_lc (own := [("one", 3)]) (g := gName 3) (tt := _) rfl sc_Trails_loop.nd (pi_listK (K := K) rfl (pe_fldK (K := K) rfl (pv 0) rfl)) (blkOk_by (N := ["self", "node", "part", "one", "reader", "found", "now", "move"]) (sc := defScope s_Trails_loop) (by decide +kernel)) (fun _ _ _ _ _ => (pg_name (i := 3) sc_Trails_loop.nd rfl (Or.inl rfl))) (fun _ _ _ _ _ => (pts_one (pt_cmpR (op_neDK (K := K) rfl hr.units) (pv 3) (pv 7) (nomark _)))) (fun _ _ _ _ _ => (pv 3))) rfl)
      (pss_cons (ps_expr (pe_bm PySem.F.plainAttrs_list PySem.F.slot_list_append PySem.F.type_list_append mt_append (pv 5) (pa_cons (pv 7) pa_nil)))
      (pss_one (ps_set (i := 6) sc_Trails_loop.nd rfl (Or.inl rfl) (pe_ix (ix_tupK (K := K) rfl) (pv 7) pe_int (fun _ _ => rfl))))))))
      (pss_one (ps_ret (pv 5))))))), ?_⟩
    dsimp only [tSeq_ap, tAsg_ap, gName_ap, tC_ap, tNext_ap, tRet_ap, tAndV_ap, tCB_ap, tCons_ap, tNil_ap, tB_ap, tTest_ap, tNot_ap, tOr_ap, tAnd_ap, tIfS_ap, tOp_ap, tDrop_ap]
    refine lcvP (α := Addr × List Str) (val := fun z => V.ref z.1) (fun H1 zs => Pts rest (zs.map (·.2)) ∧ (∀ z ∈ zs, H1 z.1 = some (.lst (z.2.map V.str))) ∧ zs.length ≤ 40000)
      (fun Q' k => ⟨_, rfl, x, _, dx, _, _, rfl, h.o, T.c_Trails, T.a_Trails_rest, rfl, rs, rest, rfl, h.hr, n30, mne, fun pp H1 ps hpp e1 hps pt lps => ?_⟩) (fun _ _ h => h.2.2) (fun z => decide (node ∈ z.2)) (fun z => V.ref z.1)
      (fun H1 zs e1 ⟨pt, hz3, _⟩ z hz H2 e2 Qy Qn g1 g2 => ⟨rfl, ?_⟩) fun H1 zs e1 ⟨pt, hz3, lz⟩ p2 H2 hp2 e2 h2 => ?_
    · obtain ⟨zs, hz1, rfl, hz3⟩ := hps.zs
      rw [List.length_map] at lps
      exact k pp zs H1 e1 (sql hz1) ⟨pt, hz3, by omega⟩
    · refine ⟨_, rfl, _, rfl, z.1, _, rfl, .inl (sql (e2 _ _ (hz3 z hz))), rfl, flat_strs _, decide (node ∈ z.2), congrArg V.bl (inV_strs _ _), ?_⟩
      by_cases hn : node ∈ z.2
      · rw [decide_eq_true hn]
        exact iteT ⟨_, rfl, g1 (decide_eq_true hn) _ (Ex.refl _)⟩
      · rw [decide_eq_false hn]
        exact iteF (g2 (decide_eq_false hn) _ (Ex.refl _))
    have h1 := h.ex e1
    have pw : ∀ q ∈ zs.map (·.2), ∀ r ∈ q, isW r = true := fun q hq r hr => by
      obtain ⟨m, hm, e⟩ := pt.mem q hq r hr
      rcases e with rfl | rfl
      · exact (okm m hm).2.1
      · exact (okm m hm).2.2
    have sub : ∀ z ∈ zs.filter (fun z => decide (node ∈ z.2)), z ∈ zs ∧ z.2 ∈ zs.map (·.2) := fun z hz => by
      have hz := (List.mem_filter.mp hz).1
      exact ⟨hz, List.mem_map.mpr ⟨z, hz, rfl⟩⟩
    generalize zs.filter (fun z => decide (node ∈ z.2)) = ys at h2 sub
    have e02 := e1.trans e2
    have h22 := h1.ex e2
    refine ⟨_, rfl, by rw [sizeLine_eq]; decide, fun p3 hp3 => ?_⟩
    have e3 : Ex H2 (upd H2 p3 (.lst [])) := Ex.new hp3
    refine ll_eq_nil (e3 _ _ h2) (fun z hz => (e2.trans e3) _ _ (hz3 z (sub z hz).1)) upd_same (fun q hq r hr => ?_) ?_
    · obtain ⟨z, hz, rfl⟩ := List.mem_map.mp hq
      exact pw _ (sub z hz).2 r hr
    have h33 := h22.ex e3
    have hp33 : upd H2 p3 (.lst []) p3 = some (.lst []) := upd_same
    have h23 := e3 _ _ h2
    generalize upd H2 p3 (.lst []) = H3 at e3 h33 hp33 h23
    have e03 := e02.trans e3
    refine ⟨_, rfl, ?_⟩
    cases ys with
    | nil => exact iteT (iteT ⟨by rw [sizeLine_eq]; decide, fun p4 hp4 => q p4 _ (no_of e03 hp4) (e03.trans (Ex.new hp4)) upd_same⟩)
    | cons y ys =>
    obtain ⟨hy1, hy2⟩ := sub y List.mem_cons_self
    have ly := pt.len hy2
    have at0 : atI ((y :: ys).map fun z => V.ref z.1) 0 = some (V.ref y.1) := atI_nat (j := 0) rfl
    refine iteF ?_
    refine lcsF y.2 (sql ((e2.trans e3) _ _ (hz3 y hy1))) (by omega) (fun Q' q' => ⟨_, rfl, p2, _, _, _, rfl, rfl, sql h23, at0, q'⟩) (fun _ => true) (fun r => .bl (!decide (V.int (excI rest r) = V.int 0))) (fun z hz H4 e4 Qy Qn g1 g2 => ⟨rfl, tyes ?_⟩) fun p4 H4 hp4 e4 h4 => ?_
    · have h44 := h33.ex e4
      refine ⟨_, rfl, x, dx, _, rfl, h44.o, rfl, _, rfl, x, dx, n, ld, c, rs, dn, L, N, ks, cp, rest, done, z, rfl, h44, by omega, fun H5 e5 => ?_⟩
      exact ⟨rfl, g1 rfl H5 e5⟩
    have any : (y.2.map fun r => !decide (V.int (excI rest r) = V.int 0)).any id = true := by
      obtain ⟨r, hr⟩ := List.exists_mem_of_ne_nil y.2 (pt.ne _ hy2)
      rw [List.any_eq_true]
      refine ⟨true, List.mem_map.mpr ⟨r, hr, ?_⟩, rfl⟩
      rw [decide_eq_false fun e => exc_ne pt sep hy2 hr (by injection e)]
      rfl
    refine ⟨p4, _, rfl, sql (by rw [h4, List.map_map, List.filter_eq_self.mpr fun _ _ => rfl]; rfl), true, congrArg V.bl any, ?_⟩
    exact iteT (iteT ⟨by rw [sizeLine_eq]; decide, fun p5 hp5 => q p5 _ (no_of (e03.trans e4) hp5) ((e03.trans e4).trans (Ex.new hp5)) upd_same⟩)
end
end K55


set_option Elab.async false
set_option linter.all false
set_option maxRecDepth 100000
set_option maxHeartbeats 4000000
namespace K55
open PySem PySem.Spec PyProof.Rows L2 Evl
/-- the moves but one -/
def butM (ms : List Mv) (m : Mv) : List Mv := ms.filter fun x => !decide (x = m)
theorem butM_sub {ms : List Mv} {m x : Mv} (h : x ∈ butM ms m) : x ∈ ms := (List.mem_filter.mp h).1
theorem butM_len (ms : List Mv) (m : Mv) : (butM ms m).length ≤ ms.length := List.length_filter_le _ _
theorem Sep.sub {ms ns : List Mv} (h : Sep ms) (k : ∀ x ∈ ns, x ∈ ms) : Sep ns := fun m hm x hx => h m (k m hm) x (k x hx)
section
variable {P : Program} {w : World} {K : PySem.W.Frag} {mg : Str → Option Value} {base : Heap}
/-! ### Trails.trail: one move -/
def spTrail (K : PySem.W.Frag) : Sp := fun vs H Q _ => ∃ (x dx n ld c rs dn : Addr) (L : List Str) (N : Str → Str) (ks : List Str) (cp : Str → Int) (rest done : List Mv) (start : Str), vs = [.ref x, .str start] ∧ TrAt K H x dx n ld c rs dn L N ks cp rest done ∧ rest.length ≤ 30 ∧
  Sep rest ∧ (∀ m ∈ rest, OkM m) ∧ (∀ m ∈ rest, m.2.1 ≠ m.2.2) ∧ (∃ m ∈ rest, m.2.2 = start) ∧
  ∀ p H' rs' m, ExA [x] H H' → p ≠ dn → MvAt H' p [m] → m ∈ rest → m.2.2 = start → TrAt K H' x dx n ld c rs' dn L N ks cp (butM rest m) done → Q (.ref p) H'
theorem sc_Trails_trail : FnScope ["self", "start", "found", "node", "move", "one", "at", "round_trip"] ["self", "start"] (defScope s_Trails_trail) := ⟨rfl, rfl, rfl, by decide +kernel, rfl, by decide +kernel, by decide +kernel⟩
theorem ok_Trails_trail (T : Txt K mg) : EntM P w K mg base CX0 4 (He.ga K "Trails") "trail" ["self", "start"] (spTrail K) := by
  obtain ⟨fd, F⟩ := T.f_Trails_trail
  have em_Trails_into := ok_Trails_into (P := P) (w := w) (base := base) T
  have em_Trails_loop := ok_Trails_loop (P := P) (w := w) (base := base) T
  refine EntM.mk' T.m_Trails_trail F (FunD.ok0 F sc_Trails_trail (fun vs H Q E h => ?_) (fun cdv A outer s H vs Q E hr h => ?_)) (fun _ _ _ _ _ _ us hl => match us, hl with | [_, _], _ => rfl)
  · obtain ⟨x, dx, n, ld, c, rs, dn, L, N, ks, cp, rest, done, st, rfl, h, n30, sep, okm, mne, ⟨m0, hm0, hs0⟩, q⟩ := h
    rfl
  · obtain ⟨x, dx, n, ld, c, rs, dn, L, N, ks, cp, rest, done, st, rfl, h, n30, sep, okm, mne, ⟨m0, hm0, hs0⟩, q⟩ := h
    refine ⟨_, (pss_cons (ps_par (i := 2) (j := 3) rfl sc_Trails_trail.nd rfl rfl (by decide) rfl rfl (pa_cons (pe_lst pa_nil) (pa_cons (pv 1) pa_nil)) rfl)
      (pss_cons (ps_while PassesOwn.never (pt_cmpR (op_neDK (K := K) rfl hr.units) (pe_em em_Trails_into T.c_Trails (pv 0) (hr.mono (by decide)) pass0 (pa_cons (pv 3) pa_nil)) (pe_lst pa_nil) (nomark _)) (pss_cons (ps_set (i := 4) sc_Trails_trail.nd rfl (Or.inr rfl) (pe_ix (ix_listK (K := K) rfl) (pe_em em_Trails_into T.c_Trails (pv 0) (hr.mono (by decide)) pass0 (pa_cons (pv 3) pa_nil)) pe_int (fun _ _ => rfl)))
      (pss_cons (ps_fld (pv 0) (pe_lc (own := [("one", 5)]) (g := gName 5) (tt := _) rfl sc_Trails_trail.nd (pi_listK (K := K) rfl (pe_fldK (K := K) rfl (pv 0) rfl)) (blkOk_by (N := ["self", "start", "found", "node", "move", "one", "at", "round_trip"]) (sc := defScope s_Trails_trail) (by decide +kernel)) (fun _ _ _ _ _ => (pg_name (i := 5) sc_Trails_trail.nd rfl (Or.inl rfl))) (fun _ _ _ _ _ => (pts_one (pt_cmpR (op_neDK (K := K) rfl hr.units) (pv 5) (pv 4) (nomark _)))) (fun _ _ _ _ _ => (pv 5))) rfl)
      (pss_cons (ps_expr (pe_bm PySem.F.plainAttrs_list PySem.F.slot_list_append PySem.F.type_list_append mt_append (pv 2) (pa_cons (pv 4) pa_nil)))
      (pss_one (ps_set (i := 3) sc_Trails_trail.nd rfl (Or.inl rfl) (pe_ix (ix_tupK (K := K) rfl) (pv 4) pe_int (fun _ _ => rfl))))))))
      (pss_cons (ps_set (i := 6) sc_Trails_trail.nd rfl (Or.inl rfl) pe_int)
      (pss_cons (ps_while PassesOwn.never (pt_cmpR op_le (pv 6) (pe_callB (call_lenK (K := K) rfl) (by rfl) T.n_len PySem.boot_len (pa_cons (pv 2) pa_nil)) (nomark _)) (pss_cons (ps_set (i := 3) sc_Trails_trail.nd rfl (Or.inl rfl) (pe_ifExp (pt_cmpR op_eq (pv 6) pe_int (nomark _)) (pv 1) (pe_ix (ix_tupK (K := K) rfl) (pe_ix (ix_listK (K := K) rfl) (pv 2) (pe_op op_sub (pv 6) pe_int) (fun _ _ => rfl)) pe_int (fun _ _ => rfl))))
      (pss_cons (ps_set (i := 7) sc_Trails_trail.nd rfl (Or.inl rfl) (pe_em em_Trails_loop T.c_Trails (pv 0) (hr.mono (by decide)) pass0 (pa_cons (pv 3) pa_nil)))
      (pss_one (ps_if (pt_cmpR (op_eqDK (K := K) rfl hr.units) (pv 7) (pe_lst pa_nil) (nomark _)) (pss_one (ps_aug (i := 6) sc_Trails_trail.nd rfl (Or.inl rfl) pe_int ip_add)) (pss_one (ps_set (i := 2) sc_Trails_trail.nd rfl (Or.inl rfl) (pe_op op_cat (pe_op op_cat (pe_slice (sl_listK (K := K) rfl) (pv 2) po_none (po_some (pv 6))) (pv 7)) (pe_slice (sl_listK (K := K) rfl) (pv 2) (po_some (pv 6)) po_none)))))))))
      (pss_one (ps_ret (pv 2))))))), ?_⟩
    refine ⟨by rw [sizeLine_eq]; decide, fun pf hpf => ?_⟩
    have e0 : Ex H (upd H pf (.lst [])) := Ex.new hpf
    have hf0 : upd H pf (.lst []) pf = some (.lst []) := upd_same
    generalize upd H pf (.lst []) = H0 at e0 hf0
    have h0 := h.ex e0
    refine ⟨_, rfl, ?_⟩
    refine ⟨_, _, rfl, ?_⟩
    have oki : ∀ r, ∀ m ∈ intoM rest r, OkM m := fun r m hm => okm m (List.mem_filter.mp hm).1
    have hne : intoM rest st ≠ [] := List.ne_nil_of_mem (List.mem_filter.mpr ⟨hm0, decide_eq_true hs0⟩)
    obtain ⟨m, mr, hmr⟩ := List.exists_cons_of_ne_nil hne
    have hmm : m ∈ intoM rest st := by rw [hmr]; exact List.mem_cons_self
    obtain ⟨hm1, hm2⟩ := List.mem_filter.mp hmm
    have hm2 : m.2.2 = st := of_decide_eq_true hm2
    have n2 := butM_len rest m
    refine ⟨fun k σ' H' => (k = 1 ∧ σ' = [some (V.ref x), some (.str st), some (.ref pf), some (.str st), none, none, none, none] ∧ H0 = H') ∨
      (k = 0 ∧ ∃ (t rs' : Addr), σ' = [some (V.ref x), some (.str st), some (.ref pf), some (.str m.2.1), some (.ref t), none, none, none] ∧ ExA [x, pf] H0 H' ∧ H' pf = some (.lst [V.ref t]) ∧ H' t = some (tupM m) ∧ TrAt K H' x dx n ld c rs' dn L N ks cp (butM rest m) done), ⟨1, .inl ⟨rfl, rfl, rfl⟩⟩, fun k σ' H' pv => ?_⟩
    rcases pv with ⟨rfl, rfl, rfl⟩ | ⟨rfl, t, rs', rfl, e1, hf1, ht1, h1⟩
    · refine ⟨_, rfl, x, dx, _, rfl, h0.o, rfl, _, rfl, x, dx, n, ld, c, rs, dn, L, N, ks, cp, rest, done, st, rfl, h0, by omega, fun p1 H1 hp1 e1 hm1' => ?_⟩
      refine ⟨by rw [sizeLine_eq]; decide, fun p2 hp2 => mvs_ne_nil (hm1'.ex (Ex.new hp2)) upd_same (oki st) ⟨_, rfl, ?_⟩⟩
      have e2 : Ex H1 (upd H1 p2 (.lst [])) := Ex.new hp2
      generalize upd H1 p2 (.lst []) = H2 at e2
      have e12 := e1.trans e2
      have h2 := h0.ex e12
      have hE : (!(intoM rest st).isEmpty) = true := by rw [hmr]; rfl
      rw [hE]
      refine iteT ⟨fun σ' H' => ∃ (t rs' : Addr), σ' = [some (V.ref x), some (.str st), some (.ref pf), some (.str m.2.1), some (.ref t), none, none, none] ∧ ExA [x, pf] H0 H' ∧ H' pf = some (.lst [V.ref t]) ∧ H' t = some (tupM m) ∧ TrAt K H' x dx n ld c rs' dn L N ks cp (butM rest m) done, fun σ' H' h => ⟨0, Nat.lt_succ_self _, .inr ⟨rfl, h⟩⟩, ?_⟩
      dsimp only [tSeq_ap, tAsg_ap, gName_ap, tC_ap, tNext_ap, tRet_ap, tAndV_ap, tCB_ap, tCons_ap, tNil_ap, tB_ap, tTest_ap, tNot_ap, tOr_ap, tAnd_ap, tIfS_ap, tOp_ap, tDrop_ap]
      refine ⟨_, rfl, x, dx, _, rfl, h2.o, rfl, _, rfl, x, dx, n, ld, c, rs, dn, L, N, ks, cp, rest, done, st, rfl, h2, by omega, fun p3 H3 hp3 e3 hm3 => ?_⟩
      rw [hmr] at hm3
      obtain ⟨ts, hm31, hm32⟩ := hm3
      cases hm32 with
      | @cons t _ ts' _ ht htr =>
      have ht : H3 t = some (tupM m) := ht
      refine ⟨_, _, _, _, rfl, rfl, sql hm31, atI_nat (j := 0) rfl, ?_⟩
      have h3 := h2.ex e3
      obtain ⟨zs, z1, z2, z3⟩ := h3.hr.zs
      have lz : zs.length = rest.length := by rw [← z2, List.length_map]
      refine lcv zs (fun z => V.ref z.1) (sql z1) (by omega) (fun Q' q' => ⟨_, rfl, x, _, dx, _, _, rfl, h3.o, T.c_Trails, T.a_Trails_rest, rfl, q'⟩) (fun z => !decide (z.2 = m)) (fun z => V.ref z.1) (fun z hz H4 e4 Qy Qn g1 g2 => ⟨rfl, ?_⟩) fun p5 H5 hp5 e5 h5 => ?_
      · refine ⟨_, rfl, _, rfl, mv_ne (e4 _ _ (z3 z hz)) (e4 _ _ ht) (okm _ (z2 ▸ List.mem_map.mpr ⟨z, hz, rfl⟩)) (okm m hm1) ⟨_, rfl, ?_⟩⟩
        by_cases e : z.2 = m
        · rw [decide_eq_true e]
          exact iteF (g2 (by rw [decide_eq_true e]; rfl) _ (Ex.refl _))
        · rw [decide_eq_false e]
          exact iteT ⟨_, rfl, g1 (by rw [decide_eq_false e]; rfl) _ (Ex.refl _)⟩
      have h55 := h3.ex e5
      refine ⟨_, rfl, x, _, dx, _, rfl, h55.o, T.c_Trails, T.a_Trails_rest, (of_decide_eq_true (by rfl)), ?_⟩
      have e05 : Ex H0 H5 := e12.trans (e3.trans e5)
      have hf5 := e05 _ _ hf0
      have ne1 : ∀ {b : Addr} {o : HO}, H5 b = some o → (∀ fs, o ≠ .ins (He.ga K "Trails") dx fs) → b ≠ x := fun {b o} hb ho e => by
        rw [e, h55.o] at hb
        exact ho _ (Option.some.inj hb).symm
      have b6 : ExA [x, pf] H5 (upd H5 x (.ins (He.ga K "Trails") dx (putF "rest" (.ref p5) [("now", .ref n), ("loads", .ref ld), ("caps", .ref c), ("rest", .ref rs), ("done", .ref dn)]))) := (ExA.refl _ _).upd (by simp)
      have o6 : upd H5 x (.ins (He.ga K "Trails") dx (putF "rest" (.ref p5) [("now", .ref n), ("loads", .ref ld), ("caps", .ref c), ("rest", .ref rs), ("done", .ref dn)])) x = some (.ins (He.ga K "Trails") dx [("now", .ref n), ("loads", .ref ld), ("caps", .ref c), ("rest", .ref p5), ("done", .ref dn)]) := upd_same
      have k6 : ∀ b o, b ≠ x → H5 b = some o → upd H5 x (.ins (He.ga K "Trails") dx (putF "rest" (.ref p5) [("now", .ref n), ("loads", .ref ld), ("caps", .ref c), ("rest", .ref rs), ("done", .ref dn)])) b = some o := fun b o hb h => (upd_ne hb).trans h
      generalize upd H5 x (.ins (He.ga K "Trails") dx (putF "rest" (.ref p5) [("now", .ref n), ("loads", .ref ld), ("caps", .ref c), ("rest", .ref rs), ("done", .ref dn)])) = H6 at b6 o6 k6
      have hf6 := k6 _ _ (ne1 hf5 fun _ e => by cases e) hf5
      refine ⟨_, rfl, .inl ⟨rfl, _, sql hf6⟩, _, rfl, pf, _, _, rfl, rfl, hf6, by rw [sizeLine_eq]; decide, ?_⟩
      have k7 : ∀ b o, b ≠ pf → H6 b = some o → upd H6 pf (.lst ([] ++ [V.ref t])) b = some o := fun b o hb h => (upd_ne hb).trans h
      have f7 : upd H6 pf (.lst ([] ++ [V.ref t])) pf = some (.lst [V.ref t]) := upd_same
      have b7 : ExA [x, pf] H6 (upd H6 pf (.lst ([] ++ [V.ref t]))) := (ExA.refl _ _).upd (by simp)
      generalize upd H6 pf (.lst ([] ++ [V.ref t])) = H7 at k7 f7 b7
      have ne2 : ∀ {b : Addr} {o : HO}, H b = some o → b ≠ pf := fun hb => ne_of_none hb hpf
      have k57 : ∀ b o, b ≠ x → b ≠ pf → H5 b = some o → H7 b = some o := fun b o n1 n2 h => k7 _ _ n2 (k6 _ _ n1 h)
      have tupk : ∀ b xs, H5 b = some (.tup xs) → H7 b = some (.tup xs) := fun b xs hb => k57 b _ (ne1 hb fun _ e => by cases e) (fun e => by rw [e, hf5] at hb; cases hb) hb
      refine ⟨_, rfl, t, _, _, _, rfl, rfl, sqt (tupk _ _ (e5 _ _ ht)), rfl, ?_⟩
      have nx : ∀ {b : Addr} {kvs : List (Key × V)}, H5 b = some (.dK kvs) → b ≠ x := fun hb => ne1 hb fun _ e => by cases e
      obtain ⟨td, hd1, hd2⟩ := h.hd
      have hd3 := (e0.trans (e12.trans e3)) _ _ hd1
      have hp55 : MvAt H5 p5 (butM rest m) := by
        have := MvAt.of (zs := zs.filter fun z => !decide (z.2 = m)) h5 fun z hz => e5 _ _ (z3 z (List.mem_filter.mp hz).1)
        rw [zs_filter (fun y => !decide (y = m)), z2] at this
        exact this
      refine ⟨t, p5, rfl, ((ExA.of e05).trans b6).trans b7, f7, tupk _ _ (e5 _ _ ht), k7 _ _ (ne2 h.o) o6, k57 _ _ (nx h55.hn) (ne2 h.hn) h55.hn, k57 _ _ (nx h55.hl) (ne2 h.hl) h55.hl, k57 _ _ (nx h55.hc) (ne2 h.hc) h55.hc,
        hp55.kit (fun xs e => k57 _ _ (ne1 e fun _ e => by cases e) (fresh_ne ((e12.trans e3) _ _ hf0) hp5) e) tupk, h55.hd.kit (fun xs e => k57 _ _ (ne1 e fun _ e => by cases e) (ne2 hd1) e) tupk, h.nl, h.nc, h.lc, fresh_ne hd3 hp5⟩
    · have inN : intoM (butM rest m) m.2.1 = [] := List.filter_eq_nil_iff.mpr fun y hy e => sep m hm1 y (butM_sub hy) (of_decide_eq_true e).symm
      refine ⟨_, rfl, x, dx, _, rfl, h1.o, rfl, _, rfl, x, dx, n, ld, c, rs', dn, L, N, ks, cp, butM rest m, done, m.2.1, rfl, h1, by omega, fun p1 H2 hp1 e2 hm2' => ?_⟩
      rw [inN] at hm2'
      refine ⟨by rw [sizeLine_eq]; decide, fun p2 hp2 => mvs_ne_nil (hm2'.ex (Ex.new hp2)) upd_same (fun _ h => absurd h List.not_mem_nil) ⟨_, rfl, iteF ?_⟩⟩
      have e3 : Ex H2 (upd H2 p2 (.lst [])) := Ex.new hp2
      generalize upd H2 p2 (.lst []) = H3 at e3
      have e13 := e2.trans e3
      have h3 := h1.ex e13
      have hf3 := e13 _ _ hf1
      have ht3 := e13 _ _ ht1
      dsimp only [tSeq_ap, tAsg_ap, gName_ap, tC_ap, tNext_ap, tRet_ap, tAndV_ap, tCB_ap, tCons_ap, tNil_ap, tB_ap, tTest_ap, tNot_ap, tOr_ap, tAnd_ap, tIfS_ap, tOp_ap, tDrop_ap]
      refine ⟨fun k σ' H4 => ∃ (at_ : Nat) (x3 x7 : Option V), at_ ≤ 2 ∧ k = 2 - at_ ∧ σ' = [some (V.ref x), some (.str st), some (.ref pf), x3, some (.ref t), none, some (.int (at_ : Int)), x7] ∧ Ex H3 H4, ⟨2, 0, _, _, by omega, rfl, rfl, Ex.refl _⟩, fun k σ' H4 pv => ?_⟩
      obtain ⟨at_, x3, x7, a2, rfl, rfl, e4⟩ := pv
      have hf4 := e4 _ _ hf3
      have ht4 := e4 _ _ ht3
      have h4 := h3.ex e4
      refine ⟨_, rfl, _, rfl, _, _, rfl, lenL (sql hf4), _, _, rfl, rfl, ?_⟩
      by_cases a1 : at_ ≤ 1
      · refine ⟨true, bl_t (by show (at_ : Int) ≤ ((1 : Nat) : Int); omega), iteT ⟨fun σ' H5 => ∃ (x3 x7 : Option V), σ' = [some (V.ref x), some (.str st), some (.ref pf), x3, some (.ref t), none, some (.int ((at_ : Int) + 1)), x7] ∧ Ex H3 H5, fun σ' H5 h => ?_, ?_⟩⟩
        · obtain ⟨x3, x7, rfl, e5⟩ := h
          exact ⟨2 - (at_ + 1), by omega, at_ + 1, x3, x7, by omega, rfl, rfl, e5⟩
        dsimp only [tSeq_ap, tAsg_ap, gName_ap, tC_ap, tNext_ap, tRet_ap, tAndV_ap, tCB_ap, tCons_ap, tNil_ap, tB_ap, tTest_ap, tNot_ap, tOr_ap, tAnd_ap, tIfS_ap, tOp_ap, tDrop_ap]
        obtain rfl | rfl : at_ = 0 ∨ at_ = 1 := by omega
        · refine ⟨_, rfl, rfl, true, rfl, iteT ⟨_, rfl, ?_⟩⟩
          refine ⟨_, rfl, x, dx, _, rfl, h4.o, rfl, _, rfl, x, dx, n, ld, c, rs', dn, L, N, ks, cp, butM rest m, done, st, rfl, h4, by omega, sep.sub (fun _ => butM_sub), fun y hy => okm y (butM_sub hy), fun y hy => mne y (butM_sub hy), fun p5 H5 hp5 e5 h5 => ?_⟩
          refine ⟨_, rfl, by rw [sizeLine_eq]; decide, fun p6 hp6 => nil_eq_nil ((Ex.new hp6) _ _ h5) upd_same ⟨_, rfl, iteT ?_⟩⟩
          exact ⟨_, rfl, _, _, rfl, rfl, _, _, rfl, e4.trans (e5.trans (Ex.new hp6))⟩
        · refine ⟨_, rfl, rfl, false, rfl, iteF ⟨_, rfl, _, rfl, _, _, rfl, rfl, pf, _, _, _, rfl, rfl, sql hf4, atI_nat (j := 0) rfl, t, _, _, _, rfl, rfl, sqt ht4, rfl, ?_⟩⟩
          refine ⟨_, rfl, x, dx, _, rfl, h4.o, rfl, _, rfl, x, dx, n, ld, c, rs', dn, L, N, ks, cp, butM rest m, done, m.2.1, rfl, h4, by omega, sep.sub (fun _ => butM_sub), fun y hy => okm y (butM_sub hy), fun y hy => mne y (butM_sub hy), fun p5 H5 hp5 e5 h5 => ?_⟩
          refine ⟨_, rfl, by rw [sizeLine_eq]; decide, fun p6 hp6 => nil_eq_nil ((Ex.new hp6) _ _ h5) upd_same ⟨_, rfl, iteT ?_⟩⟩
          exact ⟨_, rfl, _, _, rfl, rfl, _, _, rfl, e4.trans (e5.trans (Ex.new hp6))⟩
      · refine ⟨false, bl_f (by show ¬ (at_ : Int) ≤ ((1 : Nat) : Int); omega), iteF ⟨_, rfl, ?_⟩⟩
        obtain ⟨td, hd1, hd2⟩ := h.hd
        refine q pf H4 rs' m (fun b o hb hh => e4 _ _ (e13 _ _ (e1 _ _ ?_ (e0 _ _ hh)))) (fresh_ne hd1 hpf) ⟨[t], hf4, .cons ht4 .nil⟩ hm1 hm2 h4
        have n1 : b ≠ pf := ne_of_none hh hpf
        have n2 : b ≠ x := fun e => hb (by simp [e])
        simp [n1, n2]
end
end K55


set_option Elab.async false
set_option linter.all false
set_option maxRecDepth 100000
set_option maxHeartbeats 4000000
namespace K55
open PySem PySem.Spec PyProof.Rows L2 Evl
theorem strs_eq_nil {K : PySem.W.Frag} {H : Hp} {a b : Addr} {xs : List Str} {Q : VK} (ha : H a = some (.lst (xs.map V.str))) (hb : H b = some (.lst [])) (h : ∀ x ∈ xs, PyData.strOk x = true) (q : Q (.bl xs.isEmpty) H) : rEqD K (.ref a) (.ref b) H Q := by
  refine ⟨_, _, .lst (sql ha) (strs_dpAll xs), .lst (sql (xs := []) hb) .nil, strs_shaped xs h, strs_shaped [] (fun _ h => absurd h List.not_mem_nil), ?_⟩
  cases xs with
  | nil => exact q
  | cons x xs => exact q
theorem perm_but {ms : List Mv} (nd : ms.Nodup) {m : Mv} (h : m ∈ ms) : ms.Perm (m :: butM ms m) := by
  have e : butM ms m = ms.erase m := by
    rw [List.Nodup.erase_eq_filter nd]
    unfold butM
    refine List.filter_congr fun x _ => ?_
    by_cases e : x = m
    · rw [decide_eq_true e, e]; simp
    · rw [decide_eq_false e]; simp [e]
  rw [e]
  exact List.perm_cons_erase h
/-- where handing over is -/
structure Hand (L : List Str) (D G : Str → Str) (rest done : List Mv) : Prop where
  p : (done ++ rest).Perm (wnt L D G)
theorem Hand.mem {L : List Str} {D G : Str → Str} {rest done : List Mv} (h : Hand L D G rest done) {m : Mv} (hm : m ∈ rest) : m ∈ wnt L D G := h.p.mem_iff.mp (List.mem_append_right _ hm)
theorem Hand.nd {L : List Str} {D G : Str → Str} {rest done : List Mv} (h : Hand L D G rest done) (nd : L.Nodup) : ((done ++ rest).map (·.1)).Nodup := (h.p.map (·.1)).nodup_iff.mpr (wnt_nodup nd D G)
theorem Hand.not_done {L : List Str} {D G : Str → Str} {rest done : List Mv} (h : Hand L D G rest done) (nd : L.Nodup) {m : Mv} (hm : m ∈ rest) : m.1 ∉ done.map (·.1) := fun hd => by
  have := h.nd nd
  rw [List.map_append, List.nodup_append] at this
  exact this.2.2 _ hd _ (List.mem_map.mpr ⟨m, hm, rfl⟩) rfl
theorem Hand.ndr {L : List Str} {D G : Str → Str} {rest done : List Mv} (h : Hand L D G rest done) (nd : L.Nodup) : rest.Nodup := by
  have := h.nd nd
  rw [List.map_append, List.nodup_append] at this
  exact List.Pairwise.of_map (S := (· ≠ ·)) (fun m : Mv => m.1) (fun a b z e => z (by rw [e])) this.2.1
theorem Hand.len {L : List Str} {D G : Str → Str} {rest done : List Mv} (h : Hand L D G rest done) : done.length + rest.length ≤ L.length := by
  have := h.p.length_eq
  rw [List.length_append] at this
  have := wnt_len L D G
  omega
theorem Hand.step {L : List Str} {D G : Str → Str} {rest done : List Mv} (h : Hand L D G rest done) (nd : L.Nodup) {m : Mv} (hm : m ∈ rest) : Hand L D G (butM rest m) (done ++ [m]) ∧ (butM rest m).length + 1 = rest.length := by
  have p := perm_but (h.ndr nd) hm
  refine ⟨⟨?_⟩, ?_⟩
  · rw [List.append_assoc]
    exact (List.Perm.append_left done p.symm).trans h.p
  · have := p.length_eq
    rw [List.length_cons] at this
    omega
theorem after_next {D : Str → Str} {done : List Mv} {m : Mv} (h : m.1 ∉ done.map (·.1)) : (fun l => if l = m.1 then m.2.2 else after D done l) = after D (done ++ [m]) := funext fun l => (after_snoc D done m h l).symm
theorem wnt_ok {L : List Str} {D G : Str → Str} (okD : DlOk L D) (okG : DlOk L G) : ∀ m ∈ wnt L D G, OkM m := fun m hm => by
  obtain ⟨l, h1, _, rfl⟩ := mem_wnt.mp hm
  exact ⟨okD.w l h1, okD.v l h1, okG.v l h1⟩
section
variable {P : Program} {w : World} {K : PySem.W.Frag} {mg : Str → Option Value} {base : Heap}
/-! ### hand_over -/
def spHandOver (K : PySem.W.Frag) : Sp := fun vs H Q E => ∃ (d g c : Addr) (L : List Str) (D G : Str → Str) (ks : List Str) (cp : Str → Int), vs = [.ref d, .ref g, .ref c] ∧ DlAt H d L D ∧ DlAt H g L G ∧ DlOk L D ∧ DlOk L G ∧ IntD H c ks cp ∧ CapOk L D G ks cp ∧ Clean L D G ∧ L.length ≤ 30 ∧
  (∃ r ∈ ks, cntI D L r < cp r) ∧ ∀ x H' ms, Ex H H' → OrdAt K H' x ms → ms.Perm (wnt L D G) → Q (.ref x) H'
theorem sc_hand_over : FnScope ["deal", "goal", "caps", "loads", "parts", "trails", "reader", "starts", "part"] ["deal", "goal", "caps"] (defScope s_hand_over) := ⟨rfl, rfl, rfl, by decide +kernel, rfl, by decide +kernel, by decide +kernel⟩
theorem ok_hand_over (T : Txt K mg) : Ent P w K mg base CX0 8 "hand_over" ["deal", "goal", "caps"] [] (spHandOver K) := by
  obtain ⟨fd, F⟩ := T.f_hand_over
  have e_check_caps := ok_check_caps (P := P) (w := w) (base := base) T
  have e_parts_of := ok_parts_of (P := P) (w := w) (base := base) T
  have e_loads_of := ok_loads_of (P := P) (w := w) (base := base) T
  have e_stuck_parts := ok_stuck_parts (P := P) (w := w) (base := base) T
  have em_Trails_walk := ok_Trails_walk (P := P) (w := w) (base := base) T
  have em_Trails_trail := ok_Trails_trail (P := P) (w := w) (base := base) T
  have em_Trails_excess := ok_Trails_excess (P := P) (w := w) (base := base) T
  have e_Trails := ok_Trails_init (P := P) (w := w) (base := base) T
  have e_Order := ok_Order_init (P := P) (w := w) (base := base) T
  refine Ent.mk' T.g_hand_over F (FunD.ok0 F sc_hand_over (fun vs H Q E h => ?_) (fun cdv A outer s H vs Q E hr h => ?_)) (fun _ _ _ _ _ _ us hl => match us, hl with | [_, _, _], _ => rfl)
  · obtain ⟨d, g, c, L, D, G, ks, cp, rfl, hd, hg, okD, okG, hc, ck, cln, n30, ⟨r0, hr0, lt0⟩, q⟩ := h
    rfl
  · obtain ⟨d, g, c, L, D, G, ks, cp, rfl, hd, hg, okD, okG, hc, ck, cln, n30, ⟨r0, hr0, lt0⟩, q⟩ := h
    refine ⟨_, (pss_cons (ps_expr (pe_e e_check_caps (hr.mono (by decide)) pass0 (pa_cons (pv 0) (pa_cons (pv 1) (pa_cons (pv 2) pa_nil)))))
      (pss_cons (ps_asg (pe_tup (pa_cons (pe_e e_loads_of (hr.mono (by decide)) pass0 (pa_cons (pv 0) (pa_cons (pv 2) pa_nil))) (pa_cons (pe_e e_stuck_parts (hr.mono (by decide)) pass0 (pa_cons (pv 0) (pa_cons (pv 1) (pa_cons (pv 2) pa_nil)))) pa_nil))) (pg_tup rfl (pgs_cons (pg_name (i := 3) sc_hand_over.nd rfl (Or.inr rfl)) (pgs_cons (pg_name (i := 4) sc_hand_over.nd rfl (Or.inl rfl)) pgs_nil))))
      (pss_cons (ps_set (i := 5) sc_hand_over.nd rfl (Or.inr rfl) (pe_ec e_Trails (hr.mono (by decide)) pass0 (pa_cons (pv 0) (pa_cons (pv 1) (pa_cons (pv 2) pa_nil)))))
      (pss_cons (ps_if (PW.pt (pw_and (pt_cmpR (op_neDK (K := K) rfl hr.units) (pe_fldK (K := K) rfl (pv 5) rfl) (pe_lst pa_nil) (nomark _)) (pw_and1 (pt_val (pe_callB (cr_allK (K := K) rfl rfl) (by rfl) T.n_all (by decide +kernel) (pa_cons (pe_lock (pe_lc (own := [("reader", 6)]) (g := gName 6) (tt := tYes) rfl sc_hand_over.nd (pi_keys (pv 2)) (blkOk_by (N := ["deal", "goal", "caps", "loads", "parts", "trails", "reader", "starts", "part"]) (sc := defScope s_hand_over) (by decide +kernel)) (fun _ _ _ _ _ => (pg_name (i := 6) sc_hand_over.nd rfl (Or.inl rfl))) (fun _ _ _ _ _ => pts_nil) (fun _ _ _ _ _ => (pe_cmpR op_eq (pe_dget (hu_of hr) (pv 3) (pv 6) (fun _ _ => rfl)) (pe_dget (hu_of hr) (pv 2) (pv 6) (fun _ _ => rfl)) (nomark _))))) pa_nil)))))) (pss_one ps_never) pss_nil)
      (pss_cons (ps_while PassesOwn.never (pt_val pe_bl) (pss_cons (ps_setLc (i := 7) (own := [("reader", 6)]) (g := gName 6) (tt := _) rfl sc_hand_over.nd rfl rfl (sw_true rfl rfl rfl (by decide +kernel)) (pi_listK (K := K) rfl (pe_callB (call_sortedD rfl) (by rfl) T.n_sorted (by decide +kernel) (pa_cons (pv 2) pa_nil))) (blkOk_by (N := ["deal", "goal", "caps", "loads", "parts", "trails", "reader", "starts", "part"]) (sc := defScope s_hand_over) (by decide +kernel)) (fun _ _ _ _ _ => (pg_name (i := 6) sc_hand_over.nd rfl (Or.inl rfl))) (fun _ _ _ _ _ => (pts_one (pt_cmpR op_gt (pe_em em_Trails_excess T.c_Trails (pv 5) (hr.mono (by decide)) pass0 (pa_cons (pv 6) pa_nil)) pe_int (nomark _)))) (fun _ _ _ _ _ => (pv 6)))
      (pss_cons (ps_if (pt_cmpR (op_eqDK (K := K) rfl hr.units) (pv 7) (pe_lst pa_nil) (nomark _)) (pss_one ps_break) pss_nil)
      (pss_one (ps_expr (pe_em em_Trails_walk T.c_Trails (pv 5) (hr.mono (by decide)) pass0 (pa_cons (pe_em em_Trails_trail T.c_Trails (pv 5) (hr.mono (by decide)) pass0 (pa_cons (pe_ix (ix_listK (K := K) rfl) (pv 7) pe_int (fun _ _ => rfl)) pa_nil)) pa_nil)))))))
      (pss_cons (ps_for PassesOwn.never rfl (pi_listK (K := K) rfl (pe_e e_parts_of (hr.mono (by decide)) pass0 (pa_cons (pe_fldK (K := K) rfl (pv 5) rfl) pa_nil))) (pg_name (i := 8) sc_hand_over.nd rfl (Or.inl rfl)) (pss_one ps_never))
      (pss_one (ps_ret (pe_ec e_Order (hr.mono (by decide)) pass0 (pa_cons (pe_fldK (K := K) rfl (pv 5) rfl) (pa_cons (pv 4) pa_nil))))))))))), ?_⟩
    have k2 := ck.n2
    have sepW := wnt_sep cln
    have okW := wnt_ok okD okG
    have neW : ∀ m ∈ wnt L D G, m.2.1 ≠ m.2.2 := wnt_ne
    have lW := wnt_len L D G
    refine ⟨_, rfl, _, rfl, _, rfl, d, g, c, L, D, G, ks, cp, rfl, hd, hg, okD, okG, hc, ck, fun H1 e1 => ?_⟩
    refine ⟨_, rfl, _, rfl, d, c, L, D, ks, rfl, e1 _ _ hd, okD.n, ck.nd, by omega, ck.d, .inr ⟨_, e1 _ _ hc⟩, fun pl H2 hpl e2 hl2 => ?_⟩
    have e12 := e1.trans e2
    refine ⟨_, rfl, _, rfl, _, rfl, d, g, c, L, D, G, ks, cp, rfl, e12 _ _ hd, e12 _ _ hg, okD, okG, e12 _ _ hc, ck, cln, n30, fun pk H3 hpk e3 hk3 => ?_⟩
    have e13 := e12.trans e3
    refine ⟨le2, fun tt htt => ?_⟩
    have e4 : Ex H3 (upd H3 tt (.tup [.ref pl, .ref pk])) := Ex.new htt
    have htt4 : upd H3 tt (.tup [.ref pl, .ref pk]) tt = _ := upd_same
    generalize upd H3 tt (.tup [.ref pl, .ref pk]) = H4 at e4 htt4
    refine ⟨tt, _, rfl, sqt htt4, rfl, _, _, rfl, _, _, rfl, rfl, ?_⟩
    have e14 := e13.trans e4
    refine ⟨_, rfl, _, rfl, _, rfl, fun x dx hx hdx hne => ?_⟩
    have ei : Ex H4 (upd (upd H4 dx (.own x)) x (.ins (He.ga K "Trails") dx [])) := ex_upd (Ex.new hdx) hx
    have hi : upd (upd H4 dx (.own x)) x (.ins (He.ga K "Trails") dx []) x = some (.ins (He.ga K "Trails") dx []) := upd_same
    refine ⟨x, dx, d, g, c, L, D, G, ks, cp, rfl, hi, ei _ _ (e14 _ _ hd), ei _ _ (e14 _ _ hg), okD, ei _ _ (e14 _ _ hc), ck, fun H5 n ld rs dn eb hn hld hdn ht => ⟨rfl, ?_⟩⟩
    have e5 : Ex H4 H5 := mk_ex hx hdx eb
    have f4 : ∀ a, upd (upd H4 dx (.own x)) x (.ins (He.ga K "Trails") dx []) a = none → H4 a = none := fun a h => no_of ei h
    have e15 := e14.trans e5
    generalize hw : wnt L D G = W0 at sepW okW neW lW ht q
    have hh0 : Hand L D G W0 [] := ⟨by rw [hw]; exact List.Perm.refl _⟩
    have inK : ∀ m ∈ W0, m.1 ∈ L ∧ D m.1 = m.2.1 ∧ m.2.1 ∈ ks ∧ m.2.2 ∈ ks := fun m hm => by
      rw [← hw] at hm
      obtain ⟨l, h1, _, rfl⟩ := mem_wnt.mp hm
      exact ⟨h1, rfl, ck.d l h1, ck.g l h1⟩
    have hl5 := (e3.trans (e4.trans e5)) _ _ hl2
    have hc5 := e15 _ _ hc
    -- not all are full
    have test : ∀ (Qt : Bool → Hp → Prop), (∀ H6, Ex H5 H6 → Qt false H6) → tAnd (tTest (tOp (rNeD K) (tFld K (tVar 5) "rest") (tLst tNil))) (tB (tCB (rAll K) (tCons (tLockE (tLc (iKeys (tVar 2)) (gName 6) tYes (tOp rEq (tDGet (tVar 3) (tVar 6)) (tDGet (tVar 2) (tVar 6))) [6])) tNil)))
        [some (V.ref d), some (.ref g), some (.ref c), some (.ref pl), some (.ref pk), some (.ref x), none, none, none] H5 Qt := fun Qt hQ => by
      refine ⟨_, rfl, x, _, dx, _, _, rfl, ht.o, T.c_Trails, T.a_Trails_rest, rfl, by rw [sizeLine_eq]; decide, fun p6 hp6 => mvs_ne_nil (ht.hr.ex (Ex.new hp6)) upd_same okW ⟨_, rfl, ?_⟩⟩
      have e6 : Ex H5 (upd H5 p6 (.lst [])) := Ex.new hp6
      generalize upd H5 p6 (.lst []) = H6 at e6
      by_cases hE : W0.isEmpty = true
      · rw [hE]
        exact iteF (hQ _ e6)
      · rw [Bool.not_eq_true] at hE
        rw [hE]
        refine iteT ?_
        refine lcd (e6 _ _ hc5) (by omega) (fun H1 Q' q' => ⟨_, rfl, q'⟩) (fun _ => true) (fun r => .bl (decide (V.int (cntI D L r) = V.int (cp r)))) (fun z hz H7 eb7 rd Qy Qn g1 g2 => ⟨rfl, tyes ?_⟩) fun p7 H7 hp7 e7 h7 => ?_
        · exact ⟨_, rfl, _, rfl, pl, _, rfl, gk (rd_of (e6 _ _ hc5) (e6 _ _ hl5) eb7 rd) hz, _, rfl, _, rfl, c, _, rfl, gk rd hz, rfl, g1 rfl _ (Ex.refl _)⟩
        have all : (ks.map fun r => decide (V.int (cntI D L r) = V.int (cp r))).all id = false := by
          rw [List.all_eq_false]
          refine ⟨false, List.mem_map.mpr ⟨r0, hr0, ?_⟩, by decide⟩
          exact decide_eq_false fun e => by injection e with e; omega
        exact ⟨p7, ks.map fun r => decide (V.int (cntI D L r) = V.int (cp r)), rfl, sql (by rw [h7, List.map_map, List.filter_eq_self.mpr fun _ _ => rfl]; rfl), false, congrArg V.bl all, hQ _ (e6.trans e7)⟩
    refine test _ fun H6 e6 => iteF ?_
    clear test
    have ht6 := ht.ex e6
    refine ⟨fun k σ' H' => ∃ (rs : Addr) (rest done : List Mv) (x6 x7 : Option V), rest.length = k ∧ σ' = [some (V.ref d), some (.ref g), some (.ref c), some (.ref pl), some (.ref pk), some (.ref x), x6, x7, none] ∧ ExA [x, n, ld, dn] H6 H' ∧ TrAt K H' x dx n ld c rs dn L (after D done) ks cp rest done ∧ Hand L D G rest done,
      ⟨W0.length, rs, W0, [], _, _, rfl, rfl, ExA.refl _ _, ht6, hh0⟩, fun k σ' H' pv => ?_⟩
    obtain ⟨rs, rest, done, x6, x7, hk, rfl, eA, hT, hh⟩ := pv
    have ndL := okD.nd
    have inW : ∀ m ∈ rest, m ∈ W0 := fun m hm => hw ▸ hh.mem hm
    have sep : Sep rest := sepW.sub inW
    have okR : ∀ m ∈ rest, OkM m := fun m hm => okW m (inW m hm)
    have neR : ∀ m ∈ rest, m.2.1 ≠ m.2.2 := fun m hm => neW m (inW m hm)
    have ln := hh.len
    refine ⟨true, rfl, iteT ⟨fun σ' H' => ∃ (rs : Addr) (rest' done : List Mv) (x6 x7 : Option V), rest'.length < k ∧ σ' = [some (V.ref d), some (.ref g), some (.ref c), some (.ref pl), some (.ref pk), some (.ref x), x6, x7, none] ∧ ExA [x, n, ld, dn] H6 H' ∧ TrAt K H' x dx n ld c rs dn L (after D done) ks cp rest' done ∧ Hand L D G rest' done,
      fun σ' H' ⟨rs, rest', done, x6, x7, h1, h2, h3, h4, h5⟩ => ⟨rest'.length, h1, rs, rest', done, x6, x7, rfl, h2, h3, h4, h5⟩, ?_⟩⟩
    dsimp only [tSeq_ap, tAsg_ap, gName_ap, tC_ap, tNext_ap, tRet_ap, tAndV_ap, tCB_ap, tCons_ap, tNil_ap, tB_ap, tTest_ap, tNot_ap, tOr_ap, tAnd_ap, tIfS_ap, tOp_ap, tDrop_ap]
    refine lcvP (α := Str) (val := V.str) (fun H1 ys => Ex H' H1 ∧ ys.Perm ks) (fun Q' k => ⟨_, rfl, c, _, ks, rfl, .inl hT.hc, kd_fst _ _, by omega, fun ys p hy1 hy2 hp => k p ys _ (Ex.new hp) (sql upd_same) ⟨Ex.new hp, hy1⟩⟩) (fun H1 ys h => by have := h.2.length_eq; omega) (fun r => decide (0 < excI rest r)) V.str
      (fun H1 ys e1 ⟨_, _⟩ z hz H2 e2 Qy Qn g1 g2 => ⟨rfl, ?_⟩) fun H1 ys e1' ⟨_, hys⟩ p7 H7 hp7 e7 h7 => ?_
    · have h2 := hT.ex (e1.trans e2)
      refine ⟨_, rfl, x, dx, _, rfl, h2.o, rfl, _, rfl, x, dx, n, ld, c, rs, dn, L, after D done, ks, cp, rest, done, z, rfl, h2, by omega, fun H5 e5 => ?_⟩
      by_cases hz0 : 0 < excI rest z
      · exact ⟨_, _, rfl, rfl, true, bl_t hz0, iteT ⟨_, rfl, g1 (decide_eq_true hz0) _ e5⟩⟩
      · exact ⟨_, _, rfl, rfl, false, bl_f hz0, iteF (g2 (decide_eq_false hz0) _ e5)⟩
    have e07 := e1'.trans e7
    have h77 := hT.ex e07
    have sm : ∀ r, r ∈ ys.filter (fun r => decide (0 < excI rest r)) ↔ r ∈ ks ∧ 0 < excI rest r := fun r => by rw [List.mem_filter, decide_eq_true_eq, hys.mem_iff]
    generalize ys.filter (fun r => decide (0 < excI rest r)) = ss at h7 sm
    refine ⟨_, rfl, by rw [sizeLine_eq]; decide, fun p8 hp8 => strs_eq_nil ((Ex.new hp8) _ _ h7) upd_same (fun r hr => isW_strOk (ck.w r ((sm r).mp hr).1)) ⟨_, rfl, ?_⟩⟩
    have e8 : Ex H7 (upd H7 p8 (.lst [])) := Ex.new hp8
    generalize upd H7 p8 (.lst []) = H8 at e8
    have e08 := e07.trans e8
    have h88 := h77.ex e8
    have h78 := e8 _ _ h7
    cases ss with
    | nil =>
      refine iteT ?_
      have rnil : rest = [] := by
        cases rest with
        | nil => rfl
        | cons m rest =>
          have hm : m ∈ m :: rest := List.mem_cons_self
          exact absurd ((sm m.2.2).mpr ⟨(inK m (inW m hm)).2.2.2, exc_pos sep hm⟩) List.not_mem_nil
      subst rnil
      refine ⟨_, rfl, x, _, dx, _, _, rfl, h88.o, T.c_Trails, T.a_Trails_rest, rfl, rs, [], rfl, h88.hr, by simp, fun m hm => absurd hm List.not_mem_nil, fun pp H9 ps hpp e9 hps pt _ => ?_⟩
      have pnil : ps = [] := by
        cases ps with
        | nil => rfl
        | cons p ps =>
          obtain ⟨r, hr⟩ := List.exists_mem_of_ne_nil p (pt.ne p List.mem_cons_self)
          obtain ⟨m, hm, _⟩ := pt.mem p List.mem_cons_self r hr
          exact absurd hm List.not_mem_nil
      subst pnil
      obtain ⟨tp, hp1, hp2⟩ := hps
      cases hp2
      refine forl (td := tC (.ref pp)) (xs := []) (sql hp1) (fun H1 Q' q' => q') (fun i σ' H' => σ' = [some (V.ref d), some (.ref g), some (.ref c), some (.ref pl), some (.ref pk), some (.ref x), x6, some (.ref p7), none] ∧ Ex H9 H') ⟨rfl, Ex.refl _⟩ (fun i σ' H' pv => sql (pv.2 _ _ hp1)) (fun i x σ' H' hx pv => by cases hx) fun σ' H10 pv => ?_
      obtain ⟨rfl, e10⟩ := pv
      have e90 := e9.trans e10
      have h99 := h88.ex e90
      refine ⟨_, rfl, x, _, dx, _, _, rfl, h99.o, T.c_Trails, T.a_Trails_done, rfl, _, rfl, fun xo dxo hxo hdxo hneo => ?_⟩
      have eo : Ex H10 (upd (upd H10 dxo (.own xo)) xo (.ins (He.ga K "Order") dxo [])) := ex_upd (Ex.new hdxo) hxo
      -- what was there when the Trails was made stands
      have al : ∀ b o, H4 b = some o → H10 b = some o := fun b o hb => by
        have n1 : b ≠ x := ne_of_none hb hx
        have n2 : b ≠ n := ne_of_none hb (f4 _ hn)
        have n3 : b ≠ ld := ne_of_none hb (f4 _ hld)
        have n4 : b ≠ dn := ne_of_none hb (f4 _ hdn)
        exact e90 _ _ (e08 _ _ (eA b o (by simp [n1, n2, n3, n4]) (e6 _ _ (e5 _ _ hb))))
      refine ⟨xo, dxo, dn, pk, done, rfl, upd_same, h99.hd.ex eo, eo _ _ (al _ _ (e4 _ _ hk3)), fun H11 ebo ho => ⟨rfl, ?_⟩⟩
      have e11 := mk_ex hxo hdxo ebo
      have pd : done.Perm W0 := by
        have := hh.p
        rw [List.append_nil, hw] at this
        exact this
      exact q xo H11 done (fun b o hb => e11 _ _ (al _ _ (e14 _ _ hb))) ho pd
    | cons s0 ss =>
      refine iteF ?_
      obtain ⟨hs1, hs2⟩ := (sm s0).mp List.mem_cons_self
      have hex : ∃ m ∈ rest, m.2.2 = s0 := by
        unfold excI at hs2
        have : 0 < (intoM rest s0).length := by omega
        obtain ⟨m, hm⟩ := List.exists_mem_of_length_pos this
        obtain ⟨h1, h2⟩ := List.mem_filter.mp hm
        exact ⟨m, h1, of_decide_eq_true h2⟩
      refine ⟨_, rfl, x, dx, _, rfl, h88.o, rfl, ?_⟩
      refine ⟨_, rfl, x, dx, _, rfl, h88.o, rfl, _, rfl, p7, _, _, _, rfl, rfl, sql h78, atI_nat (j := 0) rfl, ?_⟩
      refine ⟨x, dx, n, ld, c, rs, dn, L, after D done, ks, cp, rest, done, s0, rfl, h88, by omega, sep, okR, neR, hex, fun p9 H9 rs9 m eA9 np9 hm9 hm hms h9 => ?_⟩
      have nd9 := hh.not_done ndL hm
      obtain ⟨st, sl⟩ := hh.step ndL hm
      obtain ⟨i1, i2, i3, i4⟩ := inK m (inW m hm)
      refine ⟨x, dx, n, ld, c, rs9, dn, L, after D done, ks, cp, butM rest m, done, p9, m, rfl, h9, hm9, np9, ndL, okD.n, by omega, by omega, i1, (after_not D done m.1 nd9).trans i2, i3, i4, neR m hm, fun H10 eA10 h10 => ?_⟩
      rw [after_next nd9] at h10
      have b1 : ExA [x, n, ld, dn] H8 H9 := fun b o hb h => eA9 b o (fun z => hb (by simp at z; simp [z])) h
      have b2 : ExA [x, n, ld, dn] H9 H10 := fun b o hb h => eA10 b o (fun z => hb (by simp at z; simp [z])) h
      exact ⟨rs9, butM rest m, done ++ [m], _, _, by omega, rfl, ((eA.trans (ExA.of e08)).trans b1).trans b2, h10, st⟩
end
end K55


set_option Elab.async false
set_option linter.all false
set_option maxRecDepth 100000
set_option maxHeartbeats 4000000
namespace K55
open PySem PySem.Spec PyProof.Rows L2 Evl
/-! ### an order of all moves -/
theorem filter_lt {α : Type} {p q : α → Bool} : ∀ {L : List α}, (∀ x ∈ L, p x = true → q x = true) → (∃ x ∈ L, q x = true ∧ p x = false) → (L.filter p).length < (L.filter q).length
  | [], _, ⟨x, h, _⟩ => absurd h List.not_mem_nil
  | y :: L, h, ⟨x, hx, hq, hp⟩ => by
    have le : (L.filter p).length ≤ (L.filter q).length := by
      have : ∀ M : List α, (∀ z ∈ M, p z = true → q z = true) → (M.filter p).length ≤ (M.filter q).length := fun M => by
        induction M with
        | nil => exact fun _ => Nat.le_refl _
        | cons z M ih =>
          intro hz
          have i := ih fun w hw => hz w (List.mem_cons_of_mem _ hw)
          rw [List.filter_cons, List.filter_cons]
          cases e : p z with
          | true =>
            rw [hz z List.mem_cons_self e, if_pos rfl, if_pos rfl, List.length_cons, List.length_cons]
            omega
          | false =>
            rw [if_neg (by decide)]
            split
            · rw [List.length_cons]; omega
            · exact i
      exact this L fun z hz => h z (List.mem_cons_of_mem _ hz)
    rw [List.filter_cons, List.filter_cons]
    rcases List.mem_cons.mp hx with rfl | hx
    · rw [hq, hp, if_neg (by decide), if_pos rfl, List.length_cons]
      omega
    · have i := filter_lt (L := L) (fun z hz => h z (List.mem_cons_of_mem _ hz)) ⟨x, hx, hq, hp⟩
      cases e : p y with
      | true =>
        rw [h y List.mem_cons_self e, if_pos rfl, if_pos rfl, List.length_cons, List.length_cons]
        omega
      | false =>
        rw [if_neg (by decide)]
        split
        · rw [List.length_cons]; omega
        · exact i
section
variable {L : List Str} {D G : Str → Str} {ms : List Mv}
theorem ord_nd (nd : L.Nodup) (p : ms.Perm (wnt L D G)) : (ms.map (·.1)).Nodup := (p.map (·.1)).nodup_iff.mpr (wnt_nodup nd D G)
theorem ord_mem (p : ms.Perm (wnt L D G)) {m : Mv} (h : m ∈ ms) : m.1 ∈ L ∧ D m.1 ≠ G m.1 ∧ m.2.1 = D m.1 ∧ m.2.2 = G m.1 := by
  obtain ⟨l, h1, h2, rfl⟩ := mem_wnt.mp (p.mem_iff.mp h)
  exact ⟨h1, h2, rfl, rfl⟩
theorem ord_end (p : ms.Perm (wnt L D G)) : ∀ l ∈ L, after D ms l = G l := fun l hl => by
  rcases after_cases D ms l with ⟨m, hm, h1, h2⟩ | h
  · rw [h2, (ord_mem p hm).2.2.2, h1]
  · by_cases e : D l = G l
    · rw [h, e]
    · have hm : (l, D l, G l) ∈ ms := p.mem_iff.mpr (mem_wnt.mpr ⟨l, hl, e, rfl⟩)
      unfold after
      cases q : ms.find? (fun m => decide (m.1 = l)) with
      | none =>
        have := List.find?_eq_none.mp q _ hm
        simp at this
      | some m =>
        have h3 := List.find?_some q
        have h4 : m.1 = l := of_decide_eq_true h3
        show m.2.2 = G l
        rw [(ord_mem p (List.mem_of_find?_eq_some q)).2.2.2, h4]
theorem ord_not (nd : L.Nodup) (p : ms.Perm (wnt L D G)) {i : Nat} {m : Mv} (h : ms[i]? = some m) : m.1 ∉ (ms.take i).map (·.1) := by
  rw [List.map_take]
  exact not_mem_take (ord_nd nd p) (by rw [List.getElem?_map, h]; rfl)
/-- ahead of a move there is a free place -/
theorem ord_room (nd : L.Nodup) (cln : Clean L D G) (p : ms.Perm (wnt L D G)) {i : Nat} {m : Mv} (h : ms[i]? = some m) : cntI (after D (ms.take i)) L m.2.2 < cntI G L m.2.2 := by
  obtain ⟨h1, h2, h3, h4⟩ := ord_mem p (mem_of_at h)
  have hn := ord_not nd p h
  have hD : after D (ms.take i) m.1 = D m.1 := after_not _ _ _ hn
  unfold cntI
  refine Int.ofNat_lt.mpr (filter_lt (fun l hl e => ?_) ⟨m.1, h1, ?_, ?_⟩)
  · have e := of_decide_eq_true e
    refine decide_eq_true ?_
    rcases after_cases D (ms.take i) l with ⟨x, hx, e1, e2⟩ | e1
    · obtain ⟨_, _, _, x4⟩ := ord_mem p (List.mem_of_mem_take hx)
      rw [← e, e2, x4, e1]
    · rw [e1] at e
      rcases cln m.2.2 with c | c
      · exact c l hl e
      · exact absurd (c m.1 h1 h4.symm) (fun z => h2 (z.trans h4))
  · exact decide_eq_true h4.symm
  · refine decide_eq_false fun e => h2 ?_
    rw [← hD, e, h4]
end
section
variable {P : Program} {w : World} {K : PySem.W.Frag} {mg : Str → Option Value} {base : Heap}
/-! ### Order.shows -/
def spOrderShows (K : PySem.W.Frag) : Sp := fun vs H Q E => ∃ (x d g c : Addr) (L : List Str) (D G : Str → Str) (ks : List Str) (cp : Str → Int) (ms : List Mv), vs = [.ref x, .ref d, .ref g, .ref c] ∧ OrdAt K H x ms ∧ ms.Perm (wnt L D G) ∧ DlAt H d L D ∧ DlAt H g L G ∧ DlOk L D ∧ DlOk L G ∧ IntD H c ks cp ∧ CapOk L D G ks cp ∧ Clean L D G ∧ L.length ≤ 30 ∧
  ∀ H', Ex H H' → Q (.bl true) H'
theorem sc_Order_shows : FnScope ["self", "deal", "goal", "caps", "now", "loads", "move", "part"] ["self", "deal", "goal", "caps"] (defScope s_Order_shows) := ⟨rfl, rfl, rfl, by decide +kernel, rfl, by decide +kernel, by decide +kernel⟩
theorem ok_Order_shows (T : Txt K mg) : EntM P w K mg base CX0 4 (He.ga K "Order") "shows" ["self", "deal", "goal", "caps"] (spOrderShows K) := by
  obtain ⟨fd, F⟩ := T.f_Order_shows
  have e_check_caps := ok_check_caps (P := P) (w := w) (base := base) T
  have e_loads_of := ok_loads_of (P := P) (w := w) (base := base) T
  have e_stuck_parts := ok_stuck_parts (P := P) (w := w) (base := base) T
  have e_wanted := ok_wanted (P := P) (w := w) (base := base) T
  refine EntM.mk' T.m_Order_shows F (FunD.ok0 F sc_Order_shows (fun vs H Q E h => ?_) (fun cdv A outer s H vs Q E hr h => ?_)) (fun _ _ _ _ _ _ us hl => match us, hl with | [_, _, _, _], _ => rfl)
  · obtain ⟨x, d, g, c, L, D, G, ks, cp, ms, rfl, hx, pw, hd, hg, okD, okG, hc, ck, cln, n30, q⟩ := h
    rfl
  · obtain ⟨x, d, g, c, L, D, G, ks, cp, ms, rfl, hx, pw, hd, hg, okD, okG, hc, ck, cln, n30, q⟩ := h
    refine ⟨_, (pss_cons (ps_expr (pe_e e_check_caps (hr.mono (by decide)) pass0 (pa_cons (pv 1) (pa_cons (pv 2) (pa_cons (pv 3) pa_nil)))))
      (pss_cons (ps_par (i := 4) (j := 5) rfl sc_Order_shows.nd rfl rfl (by decide) rfl rfl (pa_cons (pe_callTy call_dictD (by rfl) T.n_dict (by decide +kernel) (pa_cons (pv 1) pa_nil)) (pa_cons (pe_e e_loads_of (hr.mono (by decide)) pass0 (pa_cons (pv 1) (pa_cons (pv 3) pa_nil))) pa_nil)) rfl)
      (pss_cons (ps_for PassesOwn.never rfl (pi_listK (K := K) rfl (pe_fldK (K := K) rfl (pv 0) rfl)) (pg_name (i := 6) sc_Order_shows.nd rfl (Or.inl rfl)) (pss_cons (ps_if (PW.pt (pw_or (pt_not (pt_val (pe_callB (call_isiK (K := K) rfl) (by rfl) T.n_isinstance (by decide +kernel) (pa_cons (pv 6) (pa_cons (pe_bltn (v := .ty "tuple") (by rfl) T.n_tuple (by decide +kernel) rfl) pa_nil))))) (pw_or (pt_cmpR op_ne (pe_callB (call_lenK (K := K) rfl) (by rfl) T.n_len PySem.boot_len (pa_cons (pv 6) pa_nil)) pe_int (nomark _)) (pw_or (pt_cmpR op_ne (pe_dget1 (hu_of hr) (pv 4) (pe_ix (ix_tupK (K := K) rfl) (pv 6) pe_int (fun _ _ => rfl)) ⟨rfl, rfl, rfl, rfl⟩) (pe_ix (ix_tupK (K := K) rfl) (pv 6) pe_int (fun _ _ => rfl)) (nomark _)) (pw_or1 (pt_cmp (pc_dnotin (hu_of hr) (pe_ix (ix_tupK (K := K) rfl) (pv 6) pe_int (fun _ _ => rfl)) (pv 3)))))))) (pss_one (ps_ret pe_bl)) pss_nil)
      (pss_cons (ps_if (PW.pt (pw_or (pt_cmpR op_ge (pe_dget (hu_of hr) (pv 5) (pe_ix (ix_tupK (K := K) rfl) (pv 6) pe_int (fun _ _ => rfl)) (fun _ _ => rfl)) (pe_dget (hu_of hr) (pv 3) (pe_ix (ix_tupK (K := K) rfl) (pv 6) pe_int (fun _ _ => rfl)) (fun _ _ => rfl)) (nomark _)) (pw_or1 (pt_cmpR op_eq (pe_ix (ix_tupK (K := K) rfl) (pv 6) pe_int (fun _ _ => rfl)) (pe_ix (ix_tupK (K := K) rfl) (pv 6) pe_int (fun _ _ => rfl)) (nomark _))))) (pss_one (ps_ret pe_bl)) pss_nil)
      (pss_cons (ps_dput (hu_of hr) (pv 4) (pe_ix (ix_tupK (K := K) rfl) (pv 6) pe_int (fun _ _ => rfl)) (pe_ix (ix_tupK (K := K) rfl) (pv 6) pe_int (fun _ _ => rfl)) rfl)
      (pss_cons (ps_daug (hu_of hr) (pv 5) (pe_ix (ix_tupK (K := K) rfl) (pv 6) pe_int (fun _ _ => rfl)) pe_int in_sub (fun _ _ _ => rfl))
      (pss_one (ps_daug (hu_of hr) (pv 5) (pe_ix (ix_tupK (K := K) rfl) (pv 6) pe_int (fun _ _ => rfl)) pe_int in_add (fun _ _ _ => rfl))))))))
      (pss_cons (ps_if (PW.pt (pw_or (pt_cmpR (op_ne_dictA hr.units0) (pv 4) (pv 2) (nomark _)) (pw_or1 (pt_cmpR (op_neDK (K := K) rfl hr.units) (pe_callB (cr_sortedLLK (K := K) rfl hr.units) (by rfl) T.n_sorted (by decide +kernel) (pa_cons (pe_lc (own := [("part", 7)]) (g := gName 7) (tt := tYes) rfl sc_Order_shows.nd (pi_listK (K := K) rfl (pe_fldK (K := K) rfl (pv 0) rfl)) (blkOk_by (N := ["self", "deal", "goal", "caps", "now", "loads", "move", "part"]) (sc := defScope s_Order_shows) (by decide +kernel)) (fun _ _ _ _ _ => (pg_name (i := 7) sc_Order_shows.nd rfl (Or.inl rfl))) (fun _ _ _ _ _ => pts_nil) (fun _ _ _ _ _ => (pe_callB (cr_sortedSK (K := K) rfl) (by rfl) T.n_sorted (by decide +kernel) (pa_cons (pv 7) pa_nil)))) pa_nil)) (pe_e e_stuck_parts (hr.mono (by decide)) pass0 (pa_cons (pv 1) (pa_cons (pv 2) (pa_cons (pv 3) pa_nil)))) (nomark _))))) (pss_one (ps_ret pe_bl)) pss_nil)
      (pss_one (ps_ret (pe_cmpR op_eq (pe_callB (call_lenK (K := K) rfl) (by rfl) T.n_len PySem.boot_len (pa_cons (pe_fldK (K := K) rfl (pv 0) rfl) pa_nil)) (pe_op op_add (pe_callB (call_lenK (K := K) rfl) (by rfl) T.n_len PySem.boot_len (pa_cons (pe_e e_wanted (hr.mono (by decide)) pass0 (pa_cons (pv 1) (pa_cons (pv 2) pa_nil))) pa_nil)) (pe_callB (call_lenK (K := K) rfl) (by rfl) T.n_len PySem.boot_len (pa_cons (pe_fldK (K := K) rfl (pv 0) rfl) pa_nil))) (nomark _)))))))), ?_⟩
    have k2 := ck.n2
    have lW := wnt_len L D G
    have lM := pw.length_eq
    refine ⟨_, rfl, _, rfl, _, rfl, d, g, c, L, D, G, ks, cp, rfl, hd, hg, okD, okG, hc, ck, fun H1 e1 => ?_⟩
    refine ⟨_, rfl, d, _, rfl, .inl (e1 _ _ hd), fun n hn => ?_⟩
    have e2 : Ex H1 (upd H1 n (.dK (kd L fun l => .str (D l)))) := Ex.new hn
    have hn2 : upd H1 n (.dK (kd L fun l => .str (D l))) n = some (.dK (kd L fun l => .str (D l))) := upd_same
    generalize upd H1 n (.dK (kd L fun l => .str (D l))) = H2 at e2 hn2
    have e12 := e1.trans e2
    refine ⟨_, rfl, _, rfl, d, c, L, D, ks, rfl, e12 _ _ hd, okD.n, ck.nd, by omega, ck.d, .inr ⟨_, e12 _ _ hc⟩, fun ld H3 hld e3 hl3 => ?_⟩
    refine ⟨_, _, rfl, ?_⟩
    have e13 := e12.trans e3
    obtain ⟨dx, am, ap, hx1, hm1, hp1⟩ := hx
    obtain ⟨ts, hm2, hm3⟩ := hm1
    have lts := Paired.length hm3
    have hn3 := e3 _ _ hn2
    have nnl : n ≠ ld := (fresh_ne hn2 hld).symm
    have kx : ∀ {b : Addr} {o : HO}, H b = some o → b ∉ [n, ld] := fun {b o} hb m => by
      rcases List.mem_cons.mp m with rfl | m
      · rw [e1 _ _ hb] at hn; cases hn
      rcases List.mem_cons.mp m with rfl | m
      · rw [e12 _ _ hb] at hld; cases hld
      · cases m
    dsimp only [tSeq_ap, tAsg_ap, gName_ap, tC_ap, tNext_ap, tRet_ap, tAndV_ap, tCB_ap, tCons_ap, tNil_ap, tB_ap, tTest_ap, tNot_ap, tOr_ap, tAnd_ap, tIfS_ap, tOp_ap, tDrop_ap]
    refine forlF (sql (e13 _ _ hm2)) (fun Q' q' => ⟨_, rfl, x, _, dx, _, _, rfl, e13 _ _ hx1, T.c_Order, T.a_Order_moves, rfl, q'⟩) (fun i σ' H' => ∃ (x6 x7 : Option V), σ' = [some (V.ref x), some (.ref d), some (.ref g), some (.ref c), some (.ref n), some (.ref ld), x6, x7] ∧ ExA [n, ld] H3 H' ∧ DlAt H' n L (after D (ms.take i)) ∧ IntD H' ld ks (cntI (after D (ms.take i)) L))
      ⟨_, _, rfl, ExA.refl _ _, hn3, hl3⟩ (fun i σ' H' pv => ?_) (fun i v σ' H' hv pv => ?_) fun σ' H' pv => ?_
    · obtain ⟨_, _, _, eA, _⟩ := pv
      exact sql (eA _ _ (kx hm2) (e13 _ _ hm2))
    · obtain ⟨x6, x7, rfl, eA, hN, hLd⟩ := pv
      rw [List.getElem?_map] at hv
      cases htz : ts[i]? with
      | none => rw [htz] at hv; cases hv
      | some t =>
      rw [htz] at hv
      cases hv
      obtain ⟨m, hmv, hT0⟩ := paired_at hm3 htz
      obtain ⟨m1, m2, m3, m4⟩ := ord_mem pw (mem_of_at hmv)
      have hn1 := ord_not okD.nd pw hmv
      have room := ord_room okD.nd cln pw hmv
      have aN : after D (ms.take i) m.1 = m.2.1 := (after_not _ _ _ hn1).trans m3.symm
      have ne : m.2.1 ≠ m.2.2 := fun e => m2 (m3.symm.trans (e.trans m4))
      have g1 : m.2.1 ∈ ks := m3 ▸ ck.d m.1 m1
      have g2 : m.2.2 ∈ ks := m4 ▸ ck.g m.1 m1
      have cap : cntI (after D (ms.take i)) L m.2.2 < cp m.2.2 := by
        have := ck.lg m.2.2 g2
        omega
      have hT := eA _ _ (kx hT0) (e13 _ _ hT0)
      have hcc := eA _ _ (kx hc) (e13 _ _ hc)
      refine ⟨_, rfl, _, _, _, _, true, rfl, .ty _, tTupl hT, kTup, true, rfl, iteF ?_⟩
      refine ⟨_, rfl, _, _, rfl, lenT (sqt hT), rfl, false, rfl, iteF ?_⟩
      refine ⟨_, rfl, n, rfl, .inl ⟨_, .inl hN⟩, _, rfl, t, _, _, _, rfl, rfl, sqt hT, rfl, _, gk (.inl hN) m1, _, rfl, t, _, _, _, rfl, rfl, sqt hT, rfl, rfl, false, bl_nt (congrArg V.str aN), iteF ?_⟩
      refine ⟨_, rfl, t, _, _, _, rfl, rfl, sqt hT, rfl, _, rfl, c, _, rfl, gk (.inl hcc) g2, false, rfl, iteF ?_⟩
      refine ⟨_, rfl, _, rfl, t, _, _, _, rfl, rfl, sqt hT, rfl, ld, _, rfl, gk (.inl hLd) g2, _, rfl, _, rfl, t, _, _, _, rfl, rfl, sqt hT, rfl, c, _, rfl, gk (.inl hcc) g2, _, _, rfl, rfl, false, bl_f (by omega), iteF ?_⟩
      refine ⟨_, rfl, t, _, _, _, rfl, rfl, sqt hT, rfl, _, rfl, t, _, _, _, rfl, rfl, sqt hT, rfl, rfl, false, bl_f (fun e => ne (by injection e)), iteF ?_⟩
      refine ⟨_, rfl, t, _, _, _, rfl, rfl, sqt hT, rfl, _, rfl, _, rfl, t, _, _, _, rfl, rfl, sqt hT, rfl, n, _, rfl, pm hN m1 (by omega), ?_⟩
      have tn : t ∉ [n, ld] := kx hT0
      have tnn : t ≠ n := fun e => tn (by simp [e])
      have tnl : t ≠ ld := fun e => tn (by simp [e])
      have hN4 : DlAt (upd H' n (.dK (kd L fun j => if j = m.1 then .str m.2.2 else .str (after D (ms.take i) j)))) n L (after D (ms.take (i + 1))) := by
        refine upd_same.trans (congrArg (fun z => some (HO.dK z)) (kd_congr fun j _ => ?_))
        rw [take_succ_at hmv, after_snoc _ _ _ hn1]
        split <;> rfl
      have b4 : ExA [n, ld] H' (upd H' n (.dK (kd L fun j => if j = m.1 then .str m.2.2 else .str (after D (ms.take i) j)))) := (ExA.refl _ _).upd (by simp)
      have l4 : IntD (upd H' n (.dK (kd L fun j => if j = m.1 then .str m.2.2 else .str (after D (ms.take i) j)))) ld ks (cntI (after D (ms.take i)) L) := (upd_ne nnl.symm).trans hLd
      generalize upd H' n (.dK (kd L fun j => if j = m.1 then .str m.2.2 else .str (after D (ms.take i) j))) = H4 at hN4 b4 l4
      have hT4 := b4 _ _ tn hT
      refine ⟨_, rfl, _, rfl, t, _, _, _, rfl, rfl, sqt hT4, rfl, ld, _, rfl, gk (.inl l4) g1, _, _, rfl, rfl, _, pmI l4 g1 (by omega), ?_⟩
      have l5 : IntD (upd H4 ld (.dK (kd ks fun j => .int (if j = m.2.1 then cntI (after D (ms.take i)) L m.2.1 - 1 else cntI (after D (ms.take i)) L j)))) ld ks (fun j => if j = m.2.1 then cntI (after D (ms.take i)) L m.2.1 - 1 else cntI (after D (ms.take i)) L j) := upd_same
      have b5 : ExA [n, ld] H4 (upd H4 ld (.dK (kd ks fun j => .int (if j = m.2.1 then cntI (after D (ms.take i)) L m.2.1 - 1 else cntI (after D (ms.take i)) L j)))) := (ExA.refl _ _).upd (by simp)
      have n5 : DlAt (upd H4 ld (.dK (kd ks fun j => .int (if j = m.2.1 then cntI (after D (ms.take i)) L m.2.1 - 1 else cntI (after D (ms.take i)) L j)))) n L (after D (ms.take (i + 1))) := (upd_ne nnl).trans hN4
      generalize upd H4 ld (.dK (kd ks fun j => .int (if j = m.2.1 then cntI (after D (ms.take i)) L m.2.1 - 1 else cntI (after D (ms.take i)) L j))) = H5 at l5 b5 n5
      have hT5 := b5 _ _ tn hT4
      refine ⟨_, rfl, _, rfl, t, _, _, _, rfl, rfl, sqt hT5, rfl, ld, _, rfl, gk (.inl l5) g2, _, _, rfl, rfl, _, pmI l5 g2 (by omega), ?_⟩
      refine ⟨_, _, rfl, ((eA.trans b4).trans b5).trans ((ExA.refl _ _).upd (by simp)), (upd_ne nnl).trans n5, ?_⟩
      refine upd_same.trans (congrArg (fun z => some (HO.dK z)) (kd_congr fun j _ => congrArg V.int ?_))
      have nx : after D (ms.take (i + 1)) = fun l => if l = m.1 then m.2.2 else after D (ms.take i) l := by
        rw [take_succ_at hmv]
        exact (after_next hn1).symm
      rw [nx, cntI_mv okD.nd m1 (by rw [aN]; exact ne) j, aN]
      by_cases k1 : j = m.2.2
      · have n1 : ¬ m.2.2 = m.2.1 := fun e => ne e.symm
        rw [if_pos k1, if_pos k1, k1, if_neg n1]
        dsimp only
        rw [if_neg n1]
      · rw [if_neg k1, if_neg k1]
        by_cases k2 : j = m.2.1
        · rw [if_pos k2, if_pos k2, k2]
        · rw [if_neg k2, if_neg k2]
    · obtain ⟨x6, x7, rfl, eA, hN, hLd⟩ := pv
      rw [List.length_map, lts, List.take_of_length_le (Nat.le_refl _)] at hN
      have k3 : ∀ {b : Addr} {o : HO}, H b = some o → H' b = some o := fun hb => eA _ _ (kx hb) (e13 _ _ hb)
      have hN' : DlAt H' n L G := hN.trans (congrArg (fun z => some (HO.dK z)) (kd_congr fun l hl => congrArg V.str (ord_end pw l hl)))
      refine ⟨_, rfl, _, rfl, n, g, _, _, rfl, rfl, hN', k3 hg, rfl, fun p hp => ?_, false, rfl, iteF ?_⟩
      · obtain ⟨l, hl, rfl⟩ := List.mem_map.mp hp
        exact ⟨valV_kd_mem hl, rfl⟩
      dsimp only [tSeq_ap, tAsg_ap, gName_ap, tC_ap, tNext_ap, tRet_ap, tAndV_ap, tCB_ap, tCons_ap, tNil_ap, tB_ap, tTest_ap, tNot_ap, tOr_ap, tAnd_ap, tIfS_ap, tOp_ap, tDrop_ap]
      refine lcsF [] (sql (k3 hp1)) (by decide) (fun Q' q' => ⟨_, rfl, x, _, dx, _, _, rfl, k3 hx1, T.c_Order, T.a_Order_parts, rfl, q'⟩) (fun _ => true) (fun z => .str z) (fun z hz => absurd hz List.not_mem_nil) fun p4 H4 hp4 e4 h4 => ?_
      refine ⟨p4, [], rfl, sql h4, fun t ht => absurd ht List.not_mem_nil, fun ts' p5 hpm hp5 => ?_⟩
      have ets : ts' = [] := hpm.eq_nil
      subst ets
      have e5 : Ex H4 (upd H4 p5 (.lst (([] : List Addr).map V.ref))) := Ex.new hp5
      have h5 : upd H4 p5 (.lst (([] : List Addr).map V.ref)) p5 = some (.lst []) := upd_same
      generalize upd H4 p5 (.lst (([] : List Addr).map V.ref)) = H5 at e5 h5
      have k5 : ∀ {b : Addr} {o : HO}, H b = some o → H5 b = some o := fun hb => e5 _ _ (e4 _ _ (k3 hb))
      refine ⟨_, rfl, _, rfl, _, rfl, d, g, c, L, D, G, ks, cp, rfl, k5 hd, k5 hg, okD, okG, k5 hc, ck, cln, n30, fun p6 H6 hp6 e6 h6 => nil_ne_nil (e6 _ _ h5) h6 ⟨false, rfl, iteF ?_⟩⟩
      have k6 : ∀ {b : Addr} {o : HO}, H b = some o → H6 b = some o := fun hb => e6 _ _ (k5 hb)
      refine ⟨_, rfl, x, _, dx, _, _, rfl, k6 hx1, T.c_Order, T.a_Order_moves, rfl, _, _, rfl, lenL (sql (k6 hm2)), _, rfl, _, rfl, d, g, L, D, G, rfl, k6 hd, k6 hg, okD, fun p7 H7 hp7 e7 ⟨tw, hw1, hw2⟩ => ?_⟩
      have lw := Paired.length hw2
      have k7 : ∀ {b : Addr} {o : HO}, H b = some o → H7 b = some o := fun hb => e7 _ _ (k6 hb)
      refine ⟨_, _, rfl, lenL (sql hw1), _, rfl, x, _, dx, _, _, rfl, k7 hx1, T.c_Order, T.a_Order_parts, rfl, _, _, rfl, lenL (sql (xs := []) (k7 hp1)), _, _, rfl, rfl, rfl, ?_⟩
      refine cgv (Q := Q) (bl_t (congrArg V.int ?_)) (q H7 fun b o hb => k7 hb)
      rw [List.length_map, List.length_map, lts, lw, lM]
      rfl
end
end K55


set_option Elab.async false
set_option linter.all false
set_option maxRecDepth 100000
set_option maxHeartbeats 4000000
/-! own rules: list(d.values()) -/
namespace K55
open PySem PySem.Spec PyProof.Rows L2 Evl
/-- at p: the view of the values of the dict at a -/
def ViewO (p a : Addr) : HO := .ext fun h => h.IsValuesView p a
section
variable {X : Cx} {o : Expr} {td : TE} {apos cpos : Pos}
theorem view_ok {P : Program} {w : World} {H : Hp} {h : Heap} {p a : Addr} (v : h.IsValuesView p a) : ObjOk P w H h p (ViewO p a) := by
  have ⟨u, hu, _⟩ := v
  exact ⟨v, ⟨u, hu⟩, fun h1 h2 ⟨u, hu, r⟩ k => ⟨u, k u hu, r⟩⟩
def tVals (td : TE) : TE := fun σ H Q => td σ H fun x H1 => ∃ a kvs, x = .ref a ∧ H1 a = some (.dK kvs) ∧ ∀ p, H1 p = none → Q (.ref p) (upd H1 p (ViewO p a))
theorem pe_values (he : PE X o td) (hbase : attributeBase o "values" X.env (eval o X.env) = eval o X.env := by rfl) (hline : (apos.endLine == cpos.line) = true := by rfl) : PE X (.Call (.Attribute o "values" apos) [] [] cpos) (tVals td) := by
  refine ⟨fun pins s σ H Q I h => ?_⟩
  refine wpAny_Call_method (T := "dict") (id := "dict.values") hbase rfl hline F.plainAttrs_dict F.slot_dict_values F.type_dict_values (thn (he.run pins s σ H _ I h) fun u s1 ⟨x, H1, I1, rx, a, kvs, ex, hd, q⟩ => ?_)
  subst ex
  obtain rfl : u = Value.ref a := rx
  obtain ⟨z, lo, vs, rel, dd⟩ := dk_of I1.hok hd
  refine ⟨dd.typeIs, dd.mapOf.noDict, ?_⟩
  have v : (s1.heap.push { cls := .type "dict_values", data := .fields #[.ref a] }).IsValuesView s1.heap.objs.size a := ⟨_, Heap.get?_push_size _ rfl, rfl, rfl⟩
  have I2 : Inv X pins σ (upd H1 s1.heap.objs.size (ViewO s1.heap.objs.size a)) { s1 with heap := s1.heap.push { cls := .type "dict_values", data := .fields #[.ref a] } } :=
    I1.laid (t' := s1.toks) (fun b ob q => Heap.get?_push_of_some _ q) (Nat.le_refl _) (view_ok v)
  show wpAny _ _ (callWith cpos (.builtin "dict.values") [.ref a] [] []) _ X.xe s1
  exact method_meetsIn F.slot_dict_values F.entry_dict_values rfl (PySem.evalArgs_none ⟨rfl, dd.typeIs, F.args_dict_values_1 _, _, meets_dict_values (mixKind X.prog X.w) a lo, ⟨vs, dd⟩, .ref s1.heap.objs.size, _, I2, rfl, q _ (I1.hok.fresh (Nat.le_refl _))⟩)
/-- list(d.values()) -/
theorem call_listV (hcalm : X.calm = true) : CallR X (.type "list") (fun xs H Q => ∃ (p a : Addr) (kvs : List (Key × V)), xs = [.ref p] ∧ H p = some (ViewO p a) ∧ H a = some (.dK kvs) ∧ ∀ q, H q = none → Q (.ref q) (upd H q (.lst (kvs.map fun kv => kv.2)))) := by
  intro pins s σ H xs us Q I r q
  obtain ⟨p, a, kvs, ex, hv, hd, q⟩ := q
  subst ex
  obtain ⟨u, eu, rx⟩ := vals1 r
  subst eu
  cases rx
  obtain ⟨z, lo, vs, rel, dd⟩ := dk_of I.hok hd
  obtain ⟨ep, hat⟩ := dd.dictAt
  have view : s.heap.IsValuesView p a := (show ObjOk X.prog X.w H s.heap p (ViewO p a) from I.hok p _ hv).1
  have hl : kvs.length = vs.length := rel.length
  refine PySem.W.kdl_call (PySem.W.kdl_values (r := p) (knd := mixKind X.prog X.w) (kvs := vs) (ep := ep)) (I.ok.hd hcalm) ⟨view, hat⟩ (by rw [← rel.length]; exact z) fun h' tk acc c' hk hD hacc => ?_
  have e : acc.toList = vs.map fun p => p.2 := by
    apply List.ext_getElem
    · rw [Array.length_toList, hacc.1, List.length_map]
    · intro i h1 h2
      have hi : i < acc.size := by rw [Array.length_toList] at h1; exact h1
      obtain ⟨k, hk⟩ := hacc.2 i _ (Array.getElem?_eq_getElem hi)
      have hi2 : i < vs.length := by rw [List.length_map] at h2; exact h2
      rw [List.getElem?_eq_getElem hi2] at hk
      rw [List.getElem_map, Option.some.inj hk, Array.getElem_toList]
  have hv : Vals (kvs.map fun kv => kv.2) acc.toList := by
    rw [e]
    clear e hacc hD hk hat dd q z hl hd
    unfold KV at rel
    induction rel with
    | nil => exact .nil
    | cons h _ ih => exact .cons h.2 ih
  refine ⟨.ref s.heap.objs.size, upd H s.heap.objs.size (.lst (kvs.map fun kv => kv.2)), I.laid (t' := tk) hk (Nat.le_refl _)
    (show ObjOk X.prog X.w _ _ _ (.lst (kvs.map fun kv => kv.2)) from ⟨by rw [List.length_map]; exact z, acc.toList, c', hv, by rw [Array.toArray_toList]; exact hD⟩), rfl, q _ (I.hok.fresh (Nat.le_refl _))⟩
end
end K55

set_option Elab.async false
set_option linter.all false
set_option maxRecDepth 100000
set_option maxHeartbeats 4000000
/-! own rules: set(..) of a list of texts, sorted(..) of it (they follow the library's rules for sets of ints) -/
namespace K55T
open PySem PySem.Spec PyProof.Rows L2
def keyT (e : Int × Value) : Str := match e.2 with
  | .str z _ => z
  | _ => ""
def GoodT (P : Program) (w : World) (e : Int × Value) : Prop := ∃ k tk, e.2 = Value.str k tk ∧ e.1 = (strKind P w).hash k
/-- the set of texts at a -/
def SetT (P : Program) (w : World) (h : Heap) (a : Addr) (S : Str → Bool) (n : Nat) : Prop :=
  ∃ o es ep t, h.get? a = some o ∧ o.ExactSet ∧ o.data = .set es ep t ∧ (∀ e ∈ es.toList, GoodT P w e) ∧ (es.toList.map keyT).Nodup ∧ (∀ k, S k = true ↔ k ∈ es.toList.map keyT) ∧
    es.size < scanBound ∧ t.fits es.size = true ∧ es.size = n ∧ Ris t.place.toList ∧ (w.params.followText "set-order" = true ∨ t.led = true)
section
variable {P : Program} {w : World} {h h' : Heap} {a : Addr} {S : Str → Bool} {n : Nat}
theorem SetT.at (R : SetT P w h a S n) (k : ∀ o, h.get? a = some o → h'.get? a = some o) : SetT P w h' a S n := by
  obtain ⟨o, es, ep, t, ho, r⟩ := R
  exact ⟨o, es, ep, t, k o ho, r⟩
theorem SetT.congr {S' : Str → Bool} (R : SetT P w h a S n) (e : ∀ k, S' k = S k) : SetT P w h a S' n := (funext e : S' = S) ▸ R
theorem good_el {l : List (Int × Value)} (g : ∀ e ∈ l, GoodT P w e) : ElemsOf (strKind P w) l := fun e he => by
  obtain ⟨k, tk, h1, h2⟩ := g e he
  exact ⟨⟨k, by rw [h1]; exact strKind_is P w k tk, h2⟩, by rw [h1] <;> rfl⟩
theorem good_iff {e : Int × Value} (g : GoodT P w e) (k : Str) : (strKind P w).is k e.2 = true ↔ keyT e = k := by
  obtain ⟨k0, tk, h1, _⟩ := g
  unfold keyT
  rw [h1]
  show ((k0 == k) = true) ↔ k0 = k
  exact beq_iff_eq
theorem good_in {l : List (Int × Value)} (g : ∀ e ∈ l, GoodT P w e) (k : Str) : k ∈ l.map keyT ↔ ∃ e ∈ l, (strKind P w).is k e.2 = true := by
  rw [List.mem_map]
  constructor
  · rintro ⟨e, he, q⟩
    exact ⟨e, he, (good_iff (g e he) k).2 q⟩
  · rintro ⟨e, he, q⟩
    exact ⟨e, he, (good_iff (g e he) k).1 q⟩
end
section
variable {P : Program} {w : World} {A : Around} {E : Value → Shared → Prop} {s : Shared} {a : Addr} {S : Str → Bool} {n : Nat}
theorem add_tail {g : Bool → Sem Unit} (hg : ∀ (b : Bool) (s₁ : Shared) (Q' : Unit → Shared → Prop), Q' () s₁ → wpAny (model P w) A (g b) Q' E s₁)
    {o : Obj} {es : Array (Int × Value)} {ep : Nat} {t : SetTable} (ho : s.heap.get? a = some o) (hex : o.ExactSet) (hd : o.data = .set es ep t)
    {es1 : Array (Int × Value)} {t2 : SetTable} {S' : Str → Bool} (g1 : ∀ e ∈ es1.toList, GoodT P w e) (nd1 : (es1.toList.map keyT).Nodup) (m1 : ∀ k, S' k = true ↔ k ∈ es1.toList.map keyT)
    (hb1 : es1.size < scanBound) (hf2 : t2.fits es1.size = true) (hr : Ris t2.place.toList) (hl : w.params.followText "set-order" = true ∨ t2.led = true) {wd : Bool} {R : Option Bool → Shared → Prop}
    (hR : ∀ h', Heap.SameBut a s.heap h' → SetT P w h' a S' es1.size → R (some true) { s with heap := h' }) :
    wpAny (model P w) A (do
        storeSet a es1 t2
        if (!wd && t2.tooFull) = true then do
            g (relayAll t2 es1 (SetTable.grown es1.size)).2.2
            storeSet a (relayAll t2 es1 (SetTable.grown es1.size)).1 (relayAll t2 es1 (SetTable.grown es1.size)).2.1
            pure (some true)
          else pure (some true)) R E s := by
  refine wpAny_bind (wpAny_storeSet_of ho hd ?_ (fits_of_scanBound hb1))
  have ho1 := store_at (es' := es1) (t' := t2) ho hd
  have sb1 := Heap.SameBut.update s.heap a (Obj.putSet es1 t2)
  split
  · have pm := relayAll_perm t2 es1 (SetTable.grown es1.size)
    have hf3 := relayAll_fits t2 es1 (SetTable.grown es1.size)
    have hr3 := relayAll_ris t2 es1 (SetTable.grown es1.size)
    have hl3 := relayAll_led t2 es1 (SetTable.grown es1.size)
    generalize relayAll t2 es1 (SetTable.grown es1.size) = Z at pm hf3 hr3 hl3 ⊢
    obtain ⟨es2, t3, gave⟩ := Z
    dsimp only at pm hf3 hr3 hl3 ⊢
    have hsz : es2.size = es1.size := by rw [← Array.length_toList, pm.length_eq, Array.length_toList]
    have hb2 : es2.size < scanBound := by rw [hsz]; exact hb1
    refine wpAny_bind (hg _ _ _ ?_)
    refine wpAny_bind (wpAny_storeSet_of ho1 rfl ?_ (fits_of_scanBound hb2))
    have ho2 := store_at (es' := es2) (t' := t3) ho1 rfl
    refine wpAny_pure (hR _ (sb1.trans (Heap.SameBut.update _ a _)) ?_)
    exact ⟨_, es2, _, t3, ho2, hex, rfl, fun e he => g1 e (pm.mem_iff.mp he), (pm.map keyT).nodup_iff.mpr nd1, fun k => (m1 k).trans (pm.map keyT).mem_iff.symm, hb2, hf3, hsz, hr3,
      hl.imp id fun z => by rw [hl3]; exact z⟩
  · exact wpAny_pure (hR _ sb1 ⟨_, es1, _, t2, ho1, hex, rfl, g1, nd1, m1, hb1, hf2, rfl, hr, hl⟩)
theorem add_hashed {k : Str} {tk : Tok} {Q : Bool → Shared → Prop} (R : SetT P w s.heap a S n) (room : n + 1 < scanBound)
    (hQ : ∀ h', Heap.SameBut a s.heap h' → SetT P w h' a (fun j => S j || decide (j = k)) (if S k = true then n else n + 1) → Q (!S k) { s with heap := h' }) :
    wpAny (model P w) A (setAddHashed a (.str k tk) ((strKind P w).hash k)) Q E s := by
  obtain ⟨o, es, ep, t, ho, hex, hd, g, nd, hm, hb, hf, hn, hr, hl⟩ := R
  have hkey : (strKind P w).is k (.str k tk) = true := strKind_is P w k tk
  have hsc : (Value.str k tk).scannable = true := rfl
  have hel : ElemsOf (strKind P w) es.toList := good_el g
  unfold setAddHashed setAddHashedIn
  refine wpAny_holding (wpAny_bind (wpAny_setState_of ho hd hf ?_))
  dsimp only
  rw [byScan_of hsc hb hel]
  simp only [↓reduceIte]
  unfold setAddByScan
  refine wpAny_bind ?_
  refine wpAny_bind (wpAny_rule ?_)
  refine wpAny_bind (wpAny_setScan_of hkey ho hd hf hel ?_)
  cases hfi : List.findIdx? (fun e => (strKind P w).is k e.2) es.toList with
  | some j =>
    dsimp only
    obtain ⟨hj, pj, _⟩ := List.findIdx?_eq_some_iff_getElem.mp hfi
    have hSk : S k = true := (hm k).2 ((good_in g k).2 ⟨es.toList[j], List.getElem_mem hj, pj⟩)
    refine wpAny_pure (wpAny_pure ?_)
    have q := hQ s.heap (Heap.SameBut.refl a s.heap) ⟨o, es, ep, t, ho, hex, hd, g, nd, fun i => by
      rw [Bool.or_eq_true, decide_eq_true_eq, ← hm i]
      exact ⟨fun z => z.elim id (fun e => e ▸ hSk), .inl⟩, hb, hf, by rw [if_pos hSk]; exact hn, hr, hl⟩
    rw [hSk] at q
    exact q
  | none =>
    dsimp only
    have hnk : k ∉ es.toList.map keyT := fun z => by
      obtain ⟨e, he, q⟩ := (good_in g k).1 z
      have c := List.findIdx?_eq_none_iff.mp hfi e he
      rw [q] at c
      cases c
    have hSk : S k = false := by
      cases q : S k with
      | false => rfl
      | true => exact absurd ((hm k).1 q) hnk
    have hgw : ∀ (b : Bool) {s₁ : Shared} {Q' : Unit → Shared → Prop}, Q' () s₁ → wpAny (model P w) A (match b with | true => rule "set.scan.the-table-gave-way" | false => pure ()) Q' E s₁ :=
      fun b s₁ Q' q => by cases b <;> first | exact wpAny_pure q | exact wpAny_rule q
    have pm := layNew_perm t es ((strKind P w).hash k) (.str k tk)
    have hf1 := layNew_fits t es ((strKind P w).hash k) (.str k tk)
    have hr1 := layNew_ris t es ((strKind P w).hash k) (.str k tk) hr
    have hl1 := layNew_led t es ((strKind P w).hash k) (.str k tk)
    generalize layNew t es ((strKind P w).hash k) (.str k tk) = Z at pm hf1 hr1 hl1 ⊢
    obtain ⟨es1, t1, wd, gave⟩ := Z
    dsimp only at pm hf1 hr1 hl1 ⊢
    rw [Array.toList_push] at pm
    have pc : es1.toList.Perm (((strKind P w).hash k, Value.str k tk) :: es.toList) := pm.trans (List.perm_append_singleton _ _)
    have pk : (es1.toList.map keyT).Perm (k :: es.toList.map keyT) := pc.map keyT
    have g1 : ∀ e ∈ es1.toList, GoodT P w e := fun e he => by
      rcases List.mem_cons.mp (pc.mem_iff.mp he) with z | z
      · rw [z]; exact ⟨k, tk, rfl, rfl⟩
      · exact g e z
    have nd1 : (es1.toList.map keyT).Nodup := pk.nodup_iff.mpr (List.nodup_cons.mpr ⟨hnk, nd⟩)
    have m1 : ∀ i, (S i || decide (i = k)) = true ↔ i ∈ es1.toList.map keyT := fun i => by
      rw [Bool.or_eq_true, decide_eq_true_eq, hm i, pk.mem_iff, List.mem_cons]
      exact Or.comm
    have hsz : es1.size = n + 1 := by rw [← Array.length_toList, pc.length_eq, List.length_cons, Array.length_toList, hn]
    have hb1 : es1.size < scanBound := by rw [hsz]; exact room
    have hled : w.params.followText "set-order" = true ∨ t1.led = true := hl.imp id fun z => by rw [hl1]; exact z
    have fin : ∀ h', Heap.SameBut a s.heap h' → SetT P w h' a (fun j => S j || decide (j = k)) es1.size → Q true { s with heap := h' } := fun h' sb r => by
      have q := hQ h' sb
      rw [hSk] at q
      rw [hsz] at r
      exact q r
    refine wpAny_bind (hgw _ ?_)
    split
    · refine wpAny_bind ?_
      rw [hashByValue_scannable 8 hsc]
      refine wpAny_pure ?_
      refine add_tail ?_ ho hex hd g1 nd1 m1 hb1 ?_ ?_ ?_ ?_
      · intro b s₁ Q' q; cases b <;> first | exact wpAny_pure q | exact wpAny_rule q
      · first | (split <;> first | exact hf1 | exact SetTable.fits_plain_off hf1) | exact hf1
      · first | (split <;> exact hr1) | exact hr1
      · first | (split <;> exact hled) | exact hled
      · intro h' sb r; dsimp only; exact wpAny_pure (fin h' sb r)
    · refine wpAny_bind (wpAny_pure ?_)
      simp only [↓reduceIte]
      refine add_tail ?_ ho hex hd g1 nd1 m1 hb1 hf1 hr1 hled ?_
      · intro b s₁ Q' q; cases b <;> first | exact wpAny_pure q | exact wpAny_rule q
      · intro h' sb r; dsimp only; exact wpAny_pure (fin h' sb r)
end
/-! ### set(xs) of a list of texts -/
theorem new_at {P : Program} {w : World} {h : Heap} {a : Addr} {ns : List Str} (ho : h.get? a = some { cls := .type "set", dict := none, data := .set #[] 0 (.fresh 0 0 (!w.params.followText "set-order")) }) : SetT P w h a (fun j => decide (j ∈ ns.take 0)) 0 :=
  ⟨_, #[], 0, _, ho, ⟨rfl, rfl, rfl⟩, rfl, (fun e he => by simp at he), (by simp), (fun k => by simp), (by decide), (by rfl), rfl, List.Pairwise.nil, by
    show _ ∨ (!w.params.followText "set-order") = true
    cases w.params.followText "set-order"
    · exact .inr rfl
    · exact .inl rfl⟩
section
variable {P : Program} {w : World} {A : Around} {E : Value → Shared → Prop} {s : Shared}
theorem upd_texts {I : Addr} {fp wr : List Addr} {G : Array GenState → Array GenState → Prop} {n : Nat} {Pv : Nat → Value → Prop} {St : Nat → Shared → Prop} {R : Result → Shared → Prop}
    (W : WalksS P w A.in1 I fp wr G n Pv St) (S : Addr) (hSf : S ∉ fp) (ns : List Str) (hn : n = ns.length) (hb : ns.length + 1 < scanBound) (hval : ∀ i v, Pv i v → ∃ k t, ns[i]? = some k ∧ v = .str k t) :
    ∀ (k i : Nat) (s : Shared), n - i = k → i ≤ n → St i s → (∃ c, c ≤ i ∧ SetT P w s.heap S (fun j => decide (j ∈ ns.take i)) c) →
      (∀ s' c, Moved (S :: wr) G s s' → c ≤ n → SetT P w s'.heap S (fun j => decide (j ∈ ns)) c → R (.ok (.ret .none)) s') →
      codeAny (model P w) A (.builtin "set.update.loop" ⟨[.ref S, .ref I], []⟩) R s := by
  have hSw : S ∉ wr := fun h => hSf (W.sub _ h)
  have hsub : ∀ b ∈ wr, b ∈ S :: wr := fun b hb => List.mem_cons_of_mem _ hb
  intro k
  induction k with
  | zero =>
    intro i s hk' hi hst ⟨c, hc, hS⟩ hR
    have hin : i = n := by omega
    subst hin
    refine codeAny_builtin F.entry_set_update_loop ?_
    rw [Around.under_plainId F.plain_set_update_loop _]
    show wpAny _ A.in1 (pyNext (.ref I) >>= _) _ _ s
    refine wpAny_bind (W.done s _ _ hst fun s' hm => ?_)
    show wpAny _ A.in1 (ret Value.none) _ _ s'
    have e : ns.take i = ns := List.take_of_length_le (by omega)
    rw [e] at hS
    exact wpAny_pure (hR s' c (hm.mono hsub) hc (hS.at fun o e => hm.heap S o hSw e))
  | succ k ih =>
    intro i s hk' hi hst ⟨c, hc, hS⟩ hR
    have hlt : i < n := by omega
    refine codeAny_builtin F.entry_set_update_loop ?_
    rw [Around.under_plainId F.plain_set_update_loop _]
    show wpAny _ A.in1 (pyNext (.ref I) >>= _) _ _ s
    refine wpAny_bind (W.item i s _ _ hlt hst fun v s' hP hst' hm => ?_)
    obtain ⟨z, t, hz, rfl⟩ := hval i v hP
    have hS' : SetT P w s'.heap S (fun j => decide (j ∈ ns.take i)) c := hS.at fun o e => hm.heap S o hSw e
    show wpAny _ A.in1 (holding [Value.str z t] (setAdd S (.str z t)) >>= _) _ _ s'
    refine wpAny_bind (wpAny_holding ?_)
    unfold setAdd
    refine wpAny_holding ?_
    refine wpAny_bind ((strKind P w).pyHash (k := z) (strKind_is _ _ _ _) ?_)
    refine add_hashed (s := { s' with toks := s'.toks + 1 }) hS' (by omega) fun h' hsb hS2 => ?_
    have hS3 : SetT P w h' S (fun j => decide (j ∈ ns.take (i + 1))) (if decide (z ∈ ns.take i) = true then c else c + 1) := hS2.congr fun j => by
      rw [List.take_add_one, hz]
      simp [List.mem_append]
    have hc3 : (if decide (z ∈ ns.take i) = true then c else c + 1) ≤ i + 1 := by
      split <;> omega
    refine wpAny_pure ⟨plainId_quiet F.plain_set_update_loop _, ih (i + 1) _ (by omega) hlt (W.frame _ s' _ _ hst' (Nat.le_succ _) fun b hb o e => ?_) ⟨_, hc3, hS3⟩ fun s'' c2 hm'' hc'' hS'' => ?_⟩
    · rw [hsb.2 b (fun h : b = S => hSf (by rw [← h]; exact hb))]; exact e
    · refine hR s'' c2 (Moved.trans W.gtrans ((hm.mono hsub).then_heap (Nat.le_succ _) fun b o hb e => ?_) hm'') hc'' hS''
      rw [hsb.2 b (fun h : b = S => hb (by rw [h]; exact List.mem_cons_self))]; exact e
theorem call_set_texts {l : Addr} {items : Array Value} (ns : List Str) {Q : Value → Shared → Prop} (hh : A.handled = none) (hl : s.heap.IsList l items) (hit : StrsAre items.toList ns) (hb : ns.length + 1 < scanBound)
    (h : ∀ (h' : Heap) (tk c : Nat), SetT P w h' s.heap.objs.size (fun j => decide (j ∈ ns)) c → c ≤ ns.length → (∀ b o, s.heap.get? b = some o → h'.get? b = some o) → Q (.ref s.heap.objs.size) { s with heap := h', toks := tk }) :
    wpAny (model P w) A (call (.type "set") [.ref l]) Q E s := by
  have hisz : items.size = ns.length := by
    have q := StrsAre.len_eq hit
    rw [Array.length_toList] at q
    exact q
  obtain ⟨c, tl, hmro⟩ := F.called_set.mro
  have hmade := F.called_set.made
  have hsub := F.called_set.sub
  refine wpAny_call (codeAny_of_tree ?_)
  show wpAny _ _ (callAny (.type "set") _) _ _ _
  refine wpAny_pure ⟨Code.quiet_builtin _ (by decide +kernel), codeAny_builtin F.entry_type_call ?_⟩
  rw [Around.under_plain (weight_type_call_type "set" [.ref l] []) rfl]
  have h1 := F.called_set.notType
  have h2 := F.called_set.canCreate
  have hct := F.typeCall_set_1 (.ref l)
  repeat (any_goals (first | assumption | wp_step))
  refine codeAny_mono (code_set_led1 (.ref l) (E := E) (Q₁ := fun obj s₁ => obj = .ref s.heap.objs.size ∧ s₁ = { s with heap := s.heap.push { cls := .type "set", dict := none, data := .set #[] 0 (.fresh 0 0 (!w.params.followText "set-order")) } }) ⟨rfl, rfl⟩) fun r s₁ hr => ?_
  cases r with
  | error e => exact hr
  | ok fl =>
    cases fl with
    | ret obj =>
      obtain ⟨rfl, rfl⟩ := hr
      have hS : (s.heap.push { cls := .type "set", dict := none, data := .set #[] 0 (.fresh 0 0 (!w.params.followText "set-order")) }).get? s.heap.objs.size = some { cls := .type "set", dict := none, data := .set #[] 0 (.fresh 0 0 (!w.params.followText "set-order")) } := Heap.get?_push_size _ rfl
      have hT : Shared.TypeIs { s with heap := s.heap.push { cls := .type "set", dict := none, data := .set #[] 0 (.fresh 0 0 (!w.params.followText "set-order")) } } (.ref s.heap.objs.size) "set" := ⟨_, hS, rfl⟩
      have hli := F.called_set.init.lookup
      have hbi := F.called_set.init.bind (.ref s.heap.objs.size)
      repeat (any_goals (first | assumption | wp_step))
      refine codeAny_mono (codeAny_call_builtin (R := wants (fun r s₂ => r = .none ∧ ∃ h' tk c, s₂ = { s with heap := h', toks := tk } ∧ SetT P w h' s.heap.objs.size (fun j => decide (j ∈ ns)) c ∧ c ≤ ns.length ∧
          (∀ b o, s.heap.get? b = some o → h'.get? b = some o)) E) F.called_set.init.plain F.entry_set_init (check_set_init_1 hT ?_)) fun r₂ s₂ hr₂ => ?_
      · obtain ⟨ol, hol, hcl, nl, hdl⟩ := hl
        obtain ⟨ocls, odict, odata, oslots⟩ := ol
        simp only at hcl hdl
        subst hcl; subst hdl
        have hol' : (s.heap.push { cls := .type "set", dict := none, data := .set #[] 0 (.fresh 0 0 (!w.params.followText "set-order")) }).get? l = some { cls := .type "list", dict := odict, data := .seq items nl, slots := oslots } := Heap.get?_push_of_some _ hol
        have hsls := PySem.F.sub_list_set
        have hslf := PySem.F.sub_list_frozenset
        have hne : (Value.type "list" == Value.type "dict") = false := by decide
        have hl1 : (s.heap.push { cls := .type "set", dict := none, data := .set #[] 0 (.fresh 0 0 (!w.params.followText "set-order")) }).IsList l items := ⟨_, hol', rfl, nl, rfl⟩
        unfold Builtin.«set.__init__» noKeywords Builtin.Frozenset.updateFrom
        generalize hPI : pyIter = PI
        wp_walk
        subst hPI
        refine wpAny_pyIter_list hl1 ?_
        refine wpAny_bind (wpAny_runValue ?_)
        have hlS : l < s.heap.objs.size := Heap.lt_size hol
        have hh3 : A.in1.in1.in1.handled = none := by simp [hh]
        have hneI : l ≠ (s.heap.push { cls := .type "set", dict := none, data := .set #[] 0 (.fresh 0 0 (!w.params.followText "set-order")) }).objs.size := by
          rw [Heap.size_push]; exact Nat.ne_of_lt (Nat.lt_succ_of_lt hlS)
        have hSf : s.heap.objs.size ∉ [(s.heap.push { cls := .type "set", dict := none, data := .set #[] 0 (.fresh 0 0 (!w.params.followText "set-order")) }).objs.size, l] := by
          rw [Heap.size_push]; simp only [List.mem_cons, List.mem_singleton, List.not_mem_nil, or_false, not_or]
          exact ⟨Nat.ne_of_lt (Nat.lt_succ_self _), Nat.ne_of_gt hlS⟩
        have hval : ∀ (i : Nat) (v : Value), items[i]? = some v → ∃ k t, ns[i]? = some k ∧ v = .str k t := fun i v hv => by
          have hi : i < ns.length := by rw [← hisz]; exact (Array.getElem?_eq_some_iff.mp hv).1
          obtain ⟨t, e⟩ := SS.strs_at hit i v (by rw [Array.getElem?_toList]; exact hv)
          refine ⟨ns[i], t, List.getElem?_eq_getElem hi, ?_⟩
          rw [e, List.getD_eq_getElem?_getD, List.getElem?_eq_getElem hi] <;> rfl
        refine upd_texts ((Walks.list hh3 _ l hneI items).toS) s.heap.objs.size
          hSf ns hisz hb hval (items.size - 0) 0 _ (by omega) (Nat.zero_le _)
          ⟨⟨_, Heap.get?_push_size _ rfl, rfl, rfl⟩, (hl1.push _)⟩ ?hS0 ?hR
        case hS0 =>
          have hget : ((s.heap.push { cls := .type "set", dict := none, data := .set #[] 0 (.fresh 0 0 (!w.params.followText "set-order")) }).push { cls := .type "list_iterator", data := .fields #[.ref l, .int 0 0] }).get? s.heap.objs.size
              = some { cls := .type "set", dict := none, data := .set #[] 0 (.fresh 0 0 (!w.params.followText "set-order")) } := Heap.get?_push_of_some _ hS
          exact ⟨0, Nat.le_refl 0, new_at hget⟩
        case hR =>
          intro s' c' hm hc' hS'
          obtain ⟨h', g2, d', tk', os'⟩ := s'
          have eg : g2 = s.gens := hm.gens
          have ed : d' = s.drawn := hm.drawn
          have eo : os' = s.os := hm.os
          subst eg; subst ed; subst eo
          show wpAny _ _ _ _ _ _
          refine wpAny_pure ?_
          show wpAny _ _ (ret Value.none) _ _ _
          rw [hisz] at hc'
          refine wpAny_pure ⟨rfl, h', tk', c', rfl, hS', hc', fun b o e => ?_⟩
          have hb0 : b < s.heap.objs.size := Heap.lt_size e
          have hb1 : b ≠ s.heap.objs.size := Nat.ne_of_lt hb0
          have hb2 : b ≠ (s.heap.push { cls := .type "set", dict := none, data := .set #[] 0 (.fresh 0 0 (!w.params.followText "set-order")) }).objs.size := by
            rw [Heap.size_push]; exact Nat.ne_of_lt (Nat.lt_succ_of_lt hb0)
          exact hm.heap b o (by simp only [List.mem_cons, List.mem_singleton, List.not_mem_nil, or_false, not_or]; exact ⟨hb1, hb2⟩) (Heap.get?_push_of_some _ (Heap.get?_push_of_some _ e))
      · cases r₂ with
        | error e => exact hr₂
        | ok fl₂ =>
          cases fl₂ with
          | ret r =>
            obtain ⟨rfl, h', tk, c', rfl, hS', hc', hk'⟩ := hr₂
            repeat (any_goals (first | assumption | wp_step))
            exact h _ _ _ hS' hc' hk'
          | _ => exact hr₂.elim
    | _ => exact hr.elim
/-! ### sorted -/
theorem strs_all : ∀ (l : List Value), (∀ v ∈ l, ∃ k tk, v = Value.str k tk) → StrsAre l (l.map K55S.txtOf)
  | [], _ => .nil
  | v :: l, h => by
    obtain ⟨k, tk, rfl⟩ := h v List.mem_cons_self
    exact .cons k tk (strs_all l fun u hu => h u (List.mem_cons_of_mem _ hu))
theorem sorted_setT {a : Addr} {S : Str → Bool} {n : Nat} {Q : Value → Shared → Prop} (R : SetT P w s.heap a S n) (hh : A.handled = none) (h64 : n < 64)
    (hQ : ∀ s' p (out : List Value) (c : Nat) (ns : List Str), (∀ b o, s.heap.get? b = some o → s'.heap.get? b = some o) → s'.gens = s.gens → s'.os = s.os → s.heap.objs.size ≤ p →
      s'.heap.get? p = some (seqObj "list" out.toArray c) → StrsAre out ns → sortedS ns = true → ns.Nodup → (∀ k, k ∈ ns ↔ S k = true) → ns.length = n → Q (.ref p) s') :
    wpAny (model P w) A (call (.builtin "sorted") [.ref a]) Q E s := by
  obtain ⟨o, es, ep, t, ho, hex, hd, g, nd, hm, hb, hf, hn, hr, hl⟩ := R
  refine Calls.call_function_entry kind_sorted plain_sorted entry_sorted (args_sorted1 _) ?_
  unfold Builtin.«sorted»
  refine wpAny_bind (m := checkCount "sorted" 1 1 _) (wpAny_pure ?_)
  refine wpAny_bind (collect_set (A := A.in1) hh ⟨o, ho, hex.1, hd⟩ hf hb hr hl fun s1 vs k1 hz g1 o1 pm => ?_)
  have hvl : vs.length = n := by rw [pm.length_eq, List.length_map, Array.length_toList]; exact hn
  have hI : StrsAre vs (vs.map K55S.txtOf) := strs_all vs fun v hv => by
    obtain ⟨e, he, q⟩ := List.mem_map.mp (pm.mem_iff.mp hv)
    obtain ⟨k, tk, h1, _⟩ := g e he
    exact ⟨k, tk, by rw [← q]; exact h1⟩
  have pk : (vs.map K55S.txtOf).Perm (es.toList.map keyT) := by
    have q := pm.map K55S.txtOf
    rw [List.map_map] at q
    exact q
  refine wpAny_bind (wpAny_newList ?_ (by rw [hvl, sizeLine_eq]; omega))
  have hoL : (s1.heap.push (seqObj "list" vs.toArray 0)).get? s1.heap.objs.size = some (seqObj "list" vs.toArray 0) := Heap.get?_push_size _ rfl
  refine wpAny_bind (wpAny_holding (wpAny_call_entry slot_list_sort ⟨_, hoL, rfl⟩ entry_list_sort (list_sort_treeK strKind_oneLt hoL hI.keysOf (fun v₁ v₂ rest e => keyKind_strs (by rw [← e]; exact hI)) (by rw [hvl]; exact h64) fun st' hp hs => ⟨_, rfl, ?_⟩) (args_list_sort _)))
  obtain ⟨ys, a1, a2, a3⟩ := sorted_out_str hI hp hs
  obtain ⟨c, hc⟩ := sortedHeap_at (vs := vs) (out := (arrOf st').map (·.2)) hoL
  have pn : ys.Perm (es.toList.map keyT) := a2.trans pk
  refine wpAny_pure ⟨_, rfl, hQ _ s1.heap.objs.size ((arrOf st').map (·.2)).toList c ys (fun b u e => ?_) g1 o1 hz (by rw [Array.toArray_toList]; exact hc) a1 a3 (pn.nodup_iff.mpr nd) (fun k => by rw [pn.mem_iff, ← hm k]) ?_⟩
  · have q := k1 b u e
    have hlt := Heap.lt_size q
    show (sortedHeap (s1.heap.push (seqObj "list" vs.toArray 0)) s1.heap.objs.size vs _).get? b = some u
    rw [sortedHeap_old (Nat.ne_of_lt hlt) (by rw [size_push']; exact Nat.lt_succ_of_lt hlt)]
    exact Heap.get?_push_of_some _ q
  · rw [pn.length_eq, List.length_map, Array.length_toList]; exact hn
end
end K55T
/-! ### over the layer -/
namespace K55
open PySem PySem.Spec PyProof.Rows L2 Evl
/-- the set of these texts at a -/
def SetTO (P : Program) (w : World) (a : Addr) (S : Str → Bool) (n : Nat) : HO := .ext fun h => K55T.SetT P w h a S n
section
variable {X : Cx}
theorem setT_ok {P : Program} {w : World} {H : Hp} {h : Heap} {a : Addr} {S : Str → Bool} {n : Nat} (R : K55T.SetT P w h a S n) : ObjOk P w H h a (SetTO P w a S n) := by
  have ⟨o, _, _, _, ho, _⟩ := R
  exact ⟨R, ⟨o, ho⟩, fun h1 h2 p k => K55T.SetT.at p k⟩
/-- set(xs), xs a list of texts -/
def rSetT (P : Program) (w : World) (K : PySem.W.Frag) : List V → Hp → VK → Prop := fun vs H Q => ∃ (a : Addr) (xs : List Str), vs = [V.ref a] ∧ SqL K H a (xs.map V.str) ∧ xs.length ≤ 1000 ∧
  ∀ p c, c ≤ xs.length → H p = none → Q (.ref p) (upd H p (SetTO P w p (fun j => decide (j ∈ xs)) c))
theorem call_setS (hc : X.calm = true) : CallR X (.type "set") (rSetT X.prog X.w X.K) := by
  intro pins s σ H vs us Q I r h
  obtain ⟨a, xs, rfl, hs, hn, q⟩ := h
  obtain ⟨its, rv, hl, hz⟩ := I.list hs
  rw [Vals.ref1 r]
  have hit : StrsAre its.toArray.toList xs := by
    have := L2.strsAre_of rv
    simpa using this
  refine K55T.call_set_texts xs (I.ok.hd hc) hl.isList hit (by unfold scanBound; omega) fun h' tk c R hc' k => ?_
  exact ⟨.ref s.heap.objs.size, _, I.laid (t' := tk) k (Nat.le_refl _) (setT_ok R), rfl, q _ c hc' (I.hok.fresh (Nat.le_refl _))⟩
theorem call_setSK {P : Program} {w : World} {K : PySem.W.Frag} (hc : X.calm = true) (hP : X.prog = P) (hw : X.w = w) (hK : X.K = K) : CallR X (.type "set") (rSetT P w K) := by
  subst hP hw hK
  exact call_setS hc
/-- sorted(a set of texts) -/
def rSortST (P : Program) (w : World) : List V → Hp → VK → Prop := fun vs H Q => ∃ (a : Addr) (S : Str → Bool) (n : Nat), vs = [V.ref a] ∧ H a = some (SetTO P w a S n) ∧ n < 64 ∧
  ∀ (ns : List Str) (p : Addr), sortedS ns = true → ns.Nodup → (∀ k, k ∈ ns ↔ S k = true) → ns.length = n → H p = none → Q (.ref p) (upd H p (.lst (ns.map V.str)))
theorem cr_sortedST (hc : X.calm = true) : CallR X (.builtin "sorted") (rSortST X.prog X.w) := by
  intro pins s σ H vs us Q I r h
  obtain ⟨a, S, n, rfl, ha, h64, q⟩ := h
  have R : K55T.SetT X.prog X.w s.heap a S n := (I.hok a _ ha).1
  rw [Vals.ref1 r]
  refine K55T.sorted_setT R (I.ok.hd hc) h64 fun s' p out c ns k g o hp hg hi hs nd hm hl => ?_
  have hlen : (ns.map V.str).length ≤ sizeLine := by rw [List.length_map, hl, sizeLine_eq]; omega
  have hn : H p = none := I.hok.fresh hp
  have J : Inv X pins σ (upd H p (.lst (ns.map V.str))) { s with heap := s'.heap, gens := s'.gens, drawn := s'.drawn, toks := s'.toks } :=
    I.call (ch := []) (Un.laid k hp hn) (I.hok.laid k hp ⟨hlen, out, c, vals_of_strs hi, hg⟩) (by rw [g]; exact I.bare) (fun _ z => nomatch z)
  have e : s' = { s with heap := s'.heap, gens := s'.gens, drawn := s'.drawn, toks := s'.toks } := by
    cases s'
    cases s
    cases o
    rfl
  rw [e]
  exact ⟨.ref p, _, J, rfl, q ns p hs nd hm hl hn⟩
theorem cr_sortedSTK {P : Program} {w : World} (hc : X.calm = true) (hP : X.prog = P) (hw : X.w = w) : CallR X (.builtin "sorted") (rSortST P w) := by
  subst hP hw
  exact cr_sortedST hc
end
end K55

set_option Elab.async false
set_option linter.all false
set_option maxRecDepth 100000
set_option maxHeartbeats 4000000
namespace K55
open PySem PySem.Spec PyProof.Rows L2 Evl
theorem chain_at {L : List Str} : ∀ {Es : List (Str → Str)} {D : Str → Str} {i : Nat} {E : Str → Str}, Chain L D Es → Es[i]? = some E → Clean L (lst D (Es.take i)) E
  | [], D, i, E, _, h => by simp at h
  | F :: r, D, 0, E, h, e => by
    cases e
    exact h.1
  | F :: r, D, i + 1, E, h, e => chain_at (Es := r) (D := F) h.2 e
theorem lst_mem : ∀ (Es : List (Str → Str)) (D : Str → Str), lst D Es = D ∨ lst D Es ∈ Es
  | [], D => .inl rfl
  | F :: r, D => .inr (by
    show lst F r ∈ F :: r
    rcases lst_mem r F with h | h
    · rw [h]; exact List.mem_cons_self
    · exact List.mem_cons_of_mem _ h)
theorem Clean.symm {L : List Str} {D E : Str → Str} (h : Clean L D E) : Clean L E D := fun r => (h r).symm
theorem wnt_comm (L : List Str) (D E : Str → Str) : (wnt L E D).length = (wnt L D E).length := by
  unfold wnt
  rw [List.length_map, List.length_map]
  refine congrArg List.length (List.filter_congr fun l _ => ?_)
  exact decide_eq_decide.mpr ⟨fun h e => h e.symm, fun h e => h e.symm⟩
def zz : Str := "zz"
theorem cntI_le (D : Str → Str) (L : List Str) (r : Str) : cntI D L r ≤ L.length := by
  unfold cntI
  exact Int.ofNat_le.mpr (List.length_filter_le _ _)
theorem cntI_zero {D : Str → Str} {L : List Str} {r : Str} (h : ∀ l ∈ L, D l ≠ r) : cntI D L r = 0 := by
  unfold cntI
  rw [List.filter_eq_nil_iff.mpr fun l hl e => h l hl (of_decide_eq_true e)]
  rfl
/-- the readers of two deals, and the spare one -/
structure Rds (U L : List Str) (D E : Str → Str) (rs : List Str) : Prop where
  nd : rs.Nodup
  mem : ∀ r, r ∈ rs ↔ (∃ l ∈ L, D l = r) ∨ ∃ l ∈ L, E l = r
  u : ∀ r ∈ rs, r ∈ U
  w : ∀ r ∈ rs, isW r = true
  n : rs.length ≤ 8
  z : zz ∉ rs
theorem Rds.caps {U L : List Str} {D E : Str → Str} {rs : List Str} (h : Rds U L D E rs) (hL : L.length ≤ 10) {cp : Str → Int} (hz : cp zz = 1) (k : Int) (k0 : 0 ≤ k) (k9 : k ≤ 9) (hc : ∀ r ∈ rs, cp r = max (cntI D L r) (cntI E L r) + k) : CapOk L D E (rs ++ [zz]) cp where
  nd := List.nodup_append.mpr ⟨h.nd, by simp, fun a ha b hb e => h.z (by rw [List.mem_singleton] at hb; rw [← hb, ← e]; exact ha)⟩
  n1 := by rw [List.length_append, List.length_singleton]; omega
  n2 := by have := h.n; rw [List.length_append, List.length_singleton]; omega
  w := fun r hr => by
    rcases List.mem_append.mp hr with hr | hr
    · exact h.w r hr
    · rw [List.mem_singleton.mp hr]; decide +kernel
  c0 := fun r hr => by
    rcases List.mem_append.mp hr with hr | hr
    · rw [hc r hr]
      have : 0 ≤ cntI D L r := cnt1_nonneg _ _
      omega
    · rw [List.mem_singleton.mp hr, hz]; decide
  c60 := fun r hr => by
    rcases List.mem_append.mp hr with hr | hr
    · rw [hc r hr]
      have := cntI_le D L r
      have := cntI_le E L r
      omega
    · rw [List.mem_singleton.mp hr, hz]; decide
  d := fun l hl => List.mem_append_left _ ((h.mem _).mpr (.inl ⟨l, hl, rfl⟩))
  g := fun l hl => List.mem_append_left _ ((h.mem _).mpr (.inr ⟨l, hl, rfl⟩))
  ld := fun r hr => by
    rcases List.mem_append.mp hr with hr | hr
    · rw [hc r hr]; omega
    · rw [List.mem_singleton.mp hr, hz, cntI_zero fun l hl e => h.z ((h.mem _).mpr (.inl ⟨l, hl, e⟩))]; decide
  lg := fun r hr => by
    rcases List.mem_append.mp hr with hr | hr
    · rw [hc r hr]; omega
    · rw [List.mem_singleton.mp hr, hz, cntI_zero fun l hl e => h.z ((h.mem _).mpr (.inr ⟨l, hl, e⟩))]; decide
theorem CapOk.symm {L : List Str} {D E : Str → Str} {ks : List Str} {cp : Str → Int} (h : CapOk L D E ks cp) : CapOk L E D ks cp := ⟨h.nd, h.n1, h.n2, h.w, h.c0, h.c60, h.g, h.d, h.lg, h.ld⟩
theorem kd_snd (L : List Str) (f : Str → Str) : ((kd L fun l => V.str (f l)).map fun kv => kv.2) = (L.map f).map V.str := by
  unfold kd
  rw [List.map_map, List.map_map]
  rfl
theorem pnI {H : Hp} {a : Addr} {ks : List Str} {f : Str → Int} {k : Str} {v : Int} (h : IntD H a ks f) (m : k ∉ ks) (n : ks.length ≤ 40000) : DPut H a (.str k) (.int v) (upd H a (.dK (kd (ks ++ [k]) fun j => .int (if j = k then v else f j)))) := by
  have := pn (v := .int v) h m n
  rw [kd_congr (h := fun j => V.int (if j = k then v else f j)) (fun j _ => by split <;> rfl)] at this
  exact this
section
variable {P : Program} {w : World} {K : PySem.W.Frag} {mg : Str → Option Value} {base : Heap}
/-! ### a comprehension within a comprehension -/
theorem relabel_look {env : Env} {x : Str} : ∀ {names : List (Str × NameKind)}, names.lookup x = some .cell ∨ names.lookup x = some .free →
    (names.map fun (n, k) => if (k == NameKind.free && env.scope.kind == .function && env.kindOf n == some .cell) then (n, NameKind.cell) else (n, k)).lookup x = some .cell ∨
    (names.map fun (n, k) => if (k == NameKind.free && env.scope.kind == .function && env.kindOf n == some .cell) then (n, NameKind.cell) else (n, k)).lookup x = some .free
  | [], h => by simp at h
  | (n, k) :: r, h => by
    have ih := relabel_look (env := env) (x := x) (names := r)
    rw [List.map_cons]
    by_cases e : (x == n) = true
    · rw [List.lookup_cons, e] at h
      dsimp only at h ⊢
      split
      · rw [List.lookup_cons, e]
        exact .inl rfl
      · rw [List.lookup_cons, e]
        exact h
    · rw [Bool.not_eq_true] at e
      rw [List.lookup_cons, e] at h
      dsimp only
      split
      · rw [List.lookup_cons, e]
        exact ih h
      · rw [List.lookup_cons, e]
        exact ih h
theorem blk_relabel {N : List Str} {sc scope : Scope} {own : List (Str × Nat)} {env : Env} (h : BlkOk N sc scope own) : BlkOk N (relabel sc env) scope own :=
  ⟨h.kind, h.uniq, h.ix, fun y hy e => relabel_look (h.free y hy e), h.own⟩
/-! ### _law_handed -/
abbrev nest_law_handed : Scope := { kind := .function, names := [(".0", .local), ("_law_told", .cell), ("len", .globalImplicit), ("_law_reader", .free)], isGenerator := false, isCoroutine := false }
def spLawHanded : Sp := fun vs H Q E => ∃ (dr d ds : Addr) (U L : List Str) (D : Str → Str) (Es : List (Str → Str)), vs = [.ref dr, .ref d, .ref ds] ∧ DlAt H d L D ∧ DlOk L D ∧ DealsAt H ds L Es ∧ Chain L D Es ∧ (∀ l ∈ L, D l ∈ U) ∧ (∀ E ∈ Es, DlOk L E ∧ ∀ l ∈ L, E l ∈ U) ∧
  U.length ≤ 8 ∧ (∀ r ∈ U, isW r = true) ∧ zz ∉ U ∧ L.length ≤ 10 ∧ ∀ H', Ex H H' → Q (.bl true) H'
theorem sc_law_handed : FnScope ["_law_draw", "_law_deal_here", "_law_deals", "_law_now", "_law_late", "_law_readers", "_law_caps", "_law_reader", "_law_lane", "_law_told", "_law_unlike", "_law_found"] ["_law_draw", "_law_deal_here", "_law_deals"] (defScope s_law_handed) := ⟨rfl, rfl, rfl, by decide +kernel, rfl, by decide +kernel, by decide +kernel⟩
theorem ok_law_handed (T : Txt K mg) : Ent P w K mg base CX0 11 "_law_handed" ["_law_draw", "_law_deal_here", "_law_deals"] [] spLawHanded := by
  obtain ⟨fd, F⟩ := T.f_law_handed
  have e_hand_over := ok_hand_over (P := P) (w := w) (base := base) T
  have em_Order_shows := ok_Order_shows (P := P) (w := w) (base := base) T
  have em_Order_bool := ok_Order_bool (P := P) (w := w) (base := base) T
  refine Ent.mk' T.g_law_handed F (FunD.ok0 F sc_law_handed (fun vs H Q E h => ?_) (fun cdv A outer s H vs Q E hr h => ?_)) (fun _ _ _ _ _ _ us hl => match us, hl with | [_, _, _], _ => rfl)
  · obtain ⟨dr, d, ds, U, L, D, Es, rfl, hd, okD, ⟨te, hs1, hs2⟩, chn, hDU, hEs, u8, uw, zu, l10, q⟩ := h
    rfl
  · obtain ⟨dr, d, ds, U, L, D, Es, rfl, hd, okD, ⟨te, hs1, hs2⟩, chn, hDU, hEs, u8, uw, zu, l10, q⟩ := h
    refine ⟨_, (pss_cons (ps_set (i := 3) sc_law_handed.nd rfl (Or.inr rfl) (pv 1))
      (pss_cons (ps_for PassesOwn.never rfl (pi_listK (K := K) rfl (pv 2)) (pg_name (i := 4) sc_law_handed.nd rfl (Or.inr rfl)) (pss_cons (ps_set (i := 5) sc_law_handed.nd rfl (Or.inl rfl) (pe_callB (cr_sortedSTK (P := P) (w := w) rfl rfl rfl) (by rfl) T.n_sorted (by decide +kernel) (pa_cons (pe_callTy (call_setSK (P := P) (w := w) (K := K) rfl rfl rfl rfl) (by rfl) T.n_set (by decide +kernel) (pa_cons (pe_op op_cat (pe_callTy (call_listV rfl) (by rfl) T.n_list (by decide +kernel) (pa_cons (pe_values (pv 3)) pa_nil)) (pe_callTy (call_listV rfl) (by rfl) T.n_list (by decide +kernel) (pa_cons (pe_values (pv 4)) pa_nil))) pa_nil)) pa_nil)))
      (pss_cons (ps_set (i := 6) sc_law_handed.nd rfl (Or.inl rfl) pe_dnewK)
      (pss_cons (ps_for PassesOwn.never rfl (pi_listK (K := K) rfl (pv 5)) (pg_name (i := 7) sc_law_handed.nd rfl (Or.inr rfl)) (pss_one (ps_dput (hu_of hr) (pv 6) (pv 7) (pe_callB (cr_max rfl) (by rfl) T.n_max (by decide +kernel) (pa_cons (pe_lc (own := [("_law_told", 9)]) (g := gName 9) (tt := tYes) rfl sc_law_handed.nd (pi_tupK (K := K) rfl (pe_tup (pa_cons (pv 3) (pa_cons (pv 4) pa_nil)))) (blkOk_by (N := ["_law_draw", "_law_deal_here", "_law_deals", "_law_now", "_law_late", "_law_readers", "_law_caps", "_law_reader", "_law_lane", "_law_told", "_law_unlike", "_law_found"]) (sc := defScope s_law_handed) (by decide +kernel)) (fun _ _ _ _ _ => (pg_name (i := 9) sc_law_handed.nd rfl (Or.inr rfl))) (fun _ _ _ _ _ => pts_nil) (fun _ _ _ _ _ => (pe_callB (call_lenK (K := K) rfl) (by rfl) T.n_len PySem.boot_len (pa_cons (pe_lock (pe_lc (own := [("_law_lane", 8)]) (g := gName 8) (tt := _) rfl sc_law_handed.nd (pi_keys (pv 9)) (blk_relabel (blkOk_by (N := ["_law_draw", "_law_deal_here", "_law_deals", "_law_now", "_law_late", "_law_readers", "_law_caps", "_law_reader", "_law_lane", "_law_told", "_law_unlike", "_law_found"]) (sc := nest_law_handed) (by decide +kernel))) (fun _ _ _ _ _ => (pg_name (i := 8) sc_law_handed.nd rfl (Or.inl rfl))) (fun _ _ _ _ _ => (pts_one (pt_cmpR op_eq (pe_dget (hu_of hr) (pv 9) (pv 8) (fun _ _ => rfl)) (pv 7) (nomark _)))) (fun _ _ _ _ _ => (pv 8)))) pa_nil)))) pa_nil)) rfl)))
      (pss_cons (ps_set (i := 10) sc_law_handed.nd rfl (Or.inl rfl) (pe_callB (call_lenK (K := K) rfl) (by rfl) T.n_len PySem.boot_len (pa_cons (pe_lock (pe_lc (own := [("_law_lane", 8)]) (g := gName 8) (tt := _) rfl sc_law_handed.nd (pi_keys (pv 3)) (blkOk_by (N := ["_law_draw", "_law_deal_here", "_law_deals", "_law_now", "_law_late", "_law_readers", "_law_caps", "_law_reader", "_law_lane", "_law_told", "_law_unlike", "_law_found"]) (sc := defScope s_law_handed) (by decide +kernel)) (fun _ _ _ _ _ => (pg_name (i := 8) sc_law_handed.nd rfl (Or.inl rfl))) (fun _ _ _ _ _ => (pts_one (pt_cmpR op_ne (pe_dget (hu_of hr) (pv 3) (pv 8) (fun _ _ => rfl)) (pe_dget (hu_of hr) (pv 4) (pv 8) (fun _ _ => rfl)) (nomark _)))) (fun _ _ _ _ _ => (pv 8)))) pa_nil)))
      (pss_cons (ps_dput (hu_of hr) (pv 6) pe_str pe_int rfl)
      (pss_cons (ps_set (i := 11) sc_law_handed.nd rfl (Or.inl rfl) (pe_e e_hand_over (hr.mono (by decide)) pass0 (pa_cons (pv 3) (pa_cons (pv 4) (pa_cons (pv 6) pa_nil)))))
      (pss_cons (ps_if (PW.pt (pw_or (pt_not (pt_own em_Order_bool (hr.mono (by decide)) pass0 (pv 11) (by intro _; rfl))) (pw_or (pt_cmpR op_ne (pe_callB (call_lenK (K := K) rfl) (by rfl) T.n_len PySem.boot_len (pa_cons (pe_fldK (K := K) rfl (pv 11) rfl) pa_nil)) (pe_op op_add (pv 10) (pe_callB (call_lenK (K := K) rfl) (by rfl) T.n_len PySem.boot_len (pa_cons (pe_fldK (K := K) rfl (pv 11) rfl) pa_nil))) (nomark _)) (pw_or1 (pt_not (pt_val (pe_em em_Order_shows T.c_Order (pv 11) (hr.mono (by decide)) pass0 (pa_cons (pv 3) (pa_cons (pv 4) (pa_cons (pv 6) pa_nil)))))))))) (pss_one (ps_ret pe_bl)) pss_nil)
      (pss_cons (ps_for PassesOwn.never rfl (pi_listK (K := K) rfl (pv 5)) (pg_name (i := 7) sc_law_handed.nd rfl (Or.inr rfl)) (pss_one (ps_daug (hu_of hr) (pv 6) (pv 7) pe_int in_add (fun _ _ _ => rfl))))
      (pss_cons (ps_if (PW.pt (pw_or (pt_cmpR (op_neDK (K := K) rfl hr.units) (pe_fldK (K := K) rfl (pe_e e_hand_over (hr.mono (by decide)) pass0 (pa_cons (pv 3) (pa_cons (pv 4) (pa_cons (pv 6) pa_nil)))) rfl) (pe_lst pa_nil) (nomark _)) (pw_or1 (pt_cmpR op_ne (pe_callB (call_lenK (K := K) rfl) (by rfl) T.n_len PySem.boot_len (pa_cons (pe_fldK (K := K) rfl (pe_e e_hand_over (hr.mono (by decide)) pass0 (pa_cons (pv 4) (pa_cons (pv 3) (pa_cons (pv 6) pa_nil)))) rfl) pa_nil)) (pv 10) (nomark _))))) (pss_one (ps_ret pe_bl)) pss_nil)
      (pss_one (ps_set (i := 3) sc_law_handed.nd rfl (Or.inr rfl) (pv 4)))))))))))))
      (pss_one (ps_ret pe_bl)))), ?_⟩
    have lE := Paired.length hs2
    dsimp only [tSeq_ap, tAsg_ap, gName_ap, tC_ap, tNext_ap, tRet_ap, tAndV_ap, tCB_ap, tCons_ap, tNil_ap, tB_ap, tTest_ap, tNot_ap, tOr_ap, tAnd_ap, tIfS_ap, tOp_ap, tDrop_ap]
    refine ⟨_, rfl, ?_⟩
    refine forl (td := tVar 2) (sql hs1) (fun H1 Q' q' => ⟨_, rfl, q'⟩) (fun i σ' H' => ∃ (na : Addr) (x4 x5 x6 x7 x8 x9 x10 x11 : Option V), σ' = [some (V.ref dr), some (.ref d), some (.ref ds), some (.ref na), x4, x5, x6, x7, x8, x9, x10, x11] ∧ Ex H H' ∧ DlAt H' na L (lst D (Es.take i)))
      ⟨d, _, _, _, _, _, _, _, _, rfl, Ex.refl _, hd⟩ (fun i σ' H' pv => ?_) (fun i v σ' H' hv pv => ?_) fun σ' H' pv => ?_
    · obtain ⟨_, _, _, _, _, _, _, _, _, _, e, _⟩ := pv
      exact sql (e _ _ hs1)
    · obtain ⟨na, x4, x5, x6, x7, x8, x9, x10, x11, rfl, e, hna⟩ := pv
      rw [List.getElem?_map] at hv
      cases htz : te[i]? with
      | none => rw [htz] at hv; cases hv
      | some b =>
      rw [htz] at hv
      cases hv
      obtain ⟨E, hE, hbE⟩ := paired_at hs2 htz
      have cln := chain_at chn hE
      obtain ⟨okE, hEU⟩ := hEs E (mem_of_at hE)
      have okN : DlOk L (lst D (Es.take i)) ∧ ∀ l ∈ L, lst D (Es.take i) l ∈ U := by
        rcases lst_mem (Es.take i) D with h | h
        · rw [h]; exact ⟨okD, hDU⟩
        · exact hEs _ (List.mem_of_mem_take h)
      have hNE : lst D (Es.take (i + 1)) = E := lst_take hE
      generalize lst D (Es.take i) = N at hna cln okN
      obtain ⟨okN, hNU⟩ := okN
      have hb := e _ _ hbE
      have n60 := okN.n
      refine ⟨_, rfl, na, _, rfl, hna, fun p1 hp1 => ?_⟩
      have e1 : Ex H' (upd H' p1 (ViewO p1 na)) := Ex.new hp1
      refine ⟨p1, na, _, rfl, upd_same, e1 _ _ hna, fun p2 hp2 => ?_⟩
      have e2 := e1.trans (Ex.new hp2 (o := .lst ((kd L fun l => V.str (N l)).map fun kv => kv.2)))
      have h2 : upd (upd H' p1 (ViewO p1 na)) p2 (.lst ((kd L fun l => V.str (N l)).map fun kv => kv.2)) p2 = some (.lst ((kd L fun l => V.str (N l)).map fun kv => kv.2)) := upd_same
      generalize upd (upd H' p1 (ViewO p1 na)) p2 (.lst ((kd L fun l => V.str (N l)).map fun kv => kv.2)) = H2 at e2 h2
      refine ⟨_, rfl, b, _, rfl, e2 _ _ hb, fun p3 hp3 => ?_⟩
      have e3 : Ex H2 (upd H2 p3 (ViewO p3 b)) := Ex.new hp3
      refine ⟨p3, b, _, rfl, upd_same, e3 _ _ (e2 _ _ hb), fun p4 hp4 => ?_⟩
      have e4 := e3.trans (Ex.new hp4 (o := .lst ((kd L fun l => V.str (E l)).map fun kv => kv.2)))
      have h4 : upd (upd H2 p3 (ViewO p3 b)) p4 (.lst ((kd L fun l => V.str (E l)).map fun kv => kv.2)) p4 = some (.lst ((kd L fun l => V.str (E l)).map fun kv => kv.2)) := upd_same
      generalize upd (upd H2 p3 (ViewO p3 b)) p4 (.lst ((kd L fun l => V.str (E l)).map fun kv => kv.2)) = H4 at e4 h4
      rw [kd_snd] at h2 h4
      refine ⟨p2, p4, _, _, rfl, rfl, e4 _ _ h2, h4, by simp [sizeLine_eq]; omega, fun p5 hp5 => ?_⟩
      have e5 : Ex H4 (upd H4 p5 (.lst ((L.map N).map V.str ++ (L.map E).map V.str))) := Ex.new hp5
      have h5 : upd H4 p5 (.lst ((L.map N).map V.str ++ (L.map E).map V.str)) p5 = some (.lst ((L.map N ++ L.map E).map V.str)) := by rw [upd_same, List.map_append]
      generalize upd H4 p5 (.lst ((L.map N).map V.str ++ (L.map E).map V.str)) = H5 at e5 h5
      refine ⟨p5, L.map N ++ L.map E, rfl, sql h5, by simp; omega, fun p6 c hc hp6 => ?_⟩
      have hc : c ≤ 20 := by simp at hc; omega
      have e6 : Ex H5 (upd H5 p6 (SetTO P w p6 (fun j => decide (j ∈ L.map N ++ L.map E)) c)) := Ex.new hp6
      refine ⟨p6, _, c, rfl, upd_same, by omega, fun rs p7 _ ndr mr lr hp7 => ?_⟩
      have e7 : Ex H' (upd (upd H5 p6 (SetTO P w p6 (fun j => decide (j ∈ L.map N ++ L.map E)) c)) p7 (.lst (rs.map V.str))) := e2.trans (e4.trans (e5.trans (e6.trans (Ex.new hp7))))
      have h7 : upd (upd H5 p6 (SetTO P w p6 (fun j => decide (j ∈ L.map N ++ L.map E)) c)) p7 (.lst (rs.map V.str)) p7 = some (.lst (rs.map V.str)) := upd_same
      generalize upd (upd H5 p6 (SetTO P w p6 (fun j => decide (j ∈ L.map N ++ L.map E)) c)) p7 (.lst (rs.map V.str)) = H7 at e7 h7
      have rd : Rds U L N E rs := by
        have mem : ∀ r, r ∈ rs ↔ (∃ l ∈ L, N l = r) ∨ ∃ l ∈ L, E l = r := fun r => by
          rw [mr, decide_eq_true_eq, List.mem_append, List.mem_map, List.mem_map]
        have u : ∀ r ∈ rs, r ∈ U := fun r hr => by
          rcases (mem r).mp hr with ⟨l, hl, rfl⟩ | ⟨l, hl, rfl⟩
          · exact hNU l hl
          · exact hEU l hl
        exact ⟨ndr, mem, u, fun r hr => uw r (u r hr), Nat.le_trans (List.Nodup.length_le_of_subset ndr u) u8, fun h => zu (u _ h)⟩
      intro cp hcp
      have nr := rd.n
      have e8 : Ex H7 (upd H7 cp (.dK [])) := Ex.new hcp
      have hc0 : upd H7 cp (.dK []) cp = some (.dK []) := upd_same
      have k8 : ∀ {c : Addr} {o : HO}, H7 c = some o → c ∉ [cp] := fun hb m => by
        rw [List.mem_singleton.mp m, hcp] at hb; cases hb
      generalize upd H7 cp (.dK []) = H8 at e8 hc0
      dsimp only [tSeq_ap, tAsg_ap, gName_ap, tC_ap, tNext_ap, tRet_ap, tAndV_ap, tCB_ap, tCons_ap, tNil_ap, tB_ap, tTest_ap, tNot_ap, tOr_ap, tAnd_ap, tIfS_ap, tOp_ap, tDrop_ap]
      refine forl (td := tVar 5) (sql (e8 _ _ h7)) (fun H1 Q' q' => ⟨_, rfl, q'⟩) (fun i σ' H' => ∃ (x7 x8 x9 : Option V), σ' = [some (V.ref dr), some (.ref d), some (.ref ds), some (.ref na), some (.ref b), some (.ref p7), some (.ref cp), x7, x8, x9, x10, x11] ∧ ExA [cp] H8 H' ∧ IntD H' cp (rs.take i) (fun r => max (cntI N L r) (cntI E L r)))
        ⟨_, _, _, rfl, ExA.refl _ _, hc0⟩ (fun i σ' H' pv => ?_) (fun i v σ' H' hv pv => ?_) fun σ' H9 pv => ?_
      · obtain ⟨_, _, _, _, eA, _⟩ := pv
        exact sql (eA _ _ (k8 h7) (e8 _ _ h7))
      · obtain ⟨x7, x8, x9, rfl, eA, hci⟩ := pv
        rw [List.getElem?_map] at hv
        cases hri : rs[i]? with
        | none => rw [hri] at hv; cases hv
        | some r =>
        rw [hri] at hv
        cases hv
        have hn8 := eA _ _ (k8 (e7 _ _ hna)) (e8 _ _ (e7 _ _ hna))
        have hb8 := eA _ _ (k8 (e7 _ _ hb)) (e8 _ _ (e7 _ _ hb))
        dsimp only [tSeq_ap, tAsg_ap, gName_ap, tC_ap, tNext_ap, tRet_ap, tAndV_ap, tCB_ap, tCons_ap, tNil_ap, tB_ap, tTest_ap, tNot_ap, tOr_ap, tAnd_ap, tIfS_ap, tOp_ap, tDrop_ap]
        refine ⟨_, rfl, _, rfl, (of_decide_eq_true (by rfl)), fun t ht => ?_⟩
        have e9 : Ex H' (upd H' t (.tup [.ref na, .ref b])) := Ex.new ht
        have ht9 : upd H' t (.tup [.ref na, .ref b]) t = some (.tup [V.ref na, .ref b]) := upd_same
        refine ⟨t, rfl, ⟨_, sqt ht9⟩, fun p10 hp10 => ?_⟩
        refine lc_val (Src.tup (sqt ht9)) (Ex.refl _) hp10 (by simp) (fun _ => true) (fun j => V.int (if j = 0 then cntI N L r else cntI E L r)) (fun j z H1 hj e1 hz Qy Qn g1 g2 => ?_) fun H10 e10 h10 => ?_
        · obtain ⟨c, M, rfl, hM, em⟩ : ∃ (c : Addr) (M : Str → Str), z = V.ref c ∧ DlAt H' c L M ∧ (if j = 0 then cntI N L r else cntI E L r) = cntI M L r := by
            have hz : ([V.ref na, V.ref b] : List V)[j]? = some z := hz
            obtain rfl | rfl : j = 0 ∨ j = 1 := by simp at hj; omega
            · cases hz
              exact ⟨na, N, rfl, hn8, rfl⟩
            · cases hz
              exact ⟨b, E, rfl, hb8, rfl⟩
          have g1 := g1 rfl
          rw [em] at g1
          refine ⟨rfl, tyes ?_⟩
          refine lcd ((e9.trans e1) _ _ hM) (by omega) (fun H1 Q' q' => ⟨_, rfl, q'⟩) (fun l => decide (M l = r)) V.str (fun y hy H2 eb rdd Qy Qn k1 k2 => ⟨rfl, ?_⟩) fun p11 H11 hp11 e11 h11 => ?_
          · by_cases eq : M y = r
            · exact ⟨_, rfl, _, rfl, c, _, rfl, gk rdd hy, _, rfl, rfl, true, bl_t (congrArg V.str eq), iteT ⟨_, rfl, k1 (decide_eq_true eq) _ (Ex.refl _)⟩⟩
            · exact ⟨_, rfl, _, rfl, c, _, rfl, gk rdd hy, _, rfl, rfl, false, bl_f (fun z => eq (by injection z)), iteF (k2 (decide_eq_false eq) _ (Ex.refl _))⟩
          · refine ⟨_, _, rfl, lenL (sql h11), ?_⟩
            rw [List.length_map]
            exact g1 _ e11
        have h10 : H10 p10 = some (.lst ([cntI N L r, cntI E L r].map V.int)) := h10
        have e90 := e9.trans e10
        refine ⟨p10, _, rfl, sql h10, by simp, fun mx hm hmax => ?_⟩
        have emx : mx = max (cntI N L r) (cntI E L r) := by
          have h1 := hmax (cntI N L r) (by simp)
          have h2 := hmax (cntI E L r) (by simp)
          simp only [List.mem_cons, List.not_mem_nil, or_false] at hm
          omega
        subst emx
        have hc10 : IntD H10 cp (rs.take i) (fun r => max (cntI N L r) (cntI E L r)) := e90 _ _ hci
        refine ⟨_, rfl, _, rfl, cp, _, rfl, pnI hc10 (not_mem_take ndr hri) (by simp; omega), ?_⟩
        refine ⟨_, _, _, rfl, (eA.trans (ExA.of e90)).upd (by simp), ?_⟩
        rw [take_succ_at hri]
        show upd _ _ _ _ = _
        rw [upd_same, kd_congr (h := fun j => .int (max (cntI N L j) (cntI E L j))) (fun j _ => by split <;> simp_all)]
      · obtain ⟨x7, x8, x9, rfl, eA, hci⟩ := pv
        rw [List.length_map, List.take_length] at hci
        have k9 : ∀ {c : Addr} {o : HO}, H7 c = some o → H9 c = some o := fun h => eA _ _ (k8 h) (e8 _ _ h)
        have hn9 := k9 (e7 _ _ hna)
        have hb9 := k9 (e7 _ _ hb)
        have hr9 := k9 h7
        dsimp only [tSeq_ap, tAsg_ap, gName_ap, tC_ap, tNext_ap, tRet_ap, tAndV_ap, tCB_ap, tCons_ap, tNil_ap, tB_ap, tTest_ap, tNot_ap, tOr_ap, tAnd_ap, tIfS_ap, tOp_ap, tDrop_ap]
        refine lcd hn9 (by omega) (fun H1 Q' q' => ⟨_, rfl, q'⟩) (fun l => !decide (N l = E l)) V.str (fun y hy H2 eb rdd Qy Qn k1 k2 => ⟨rfl, ?_⟩) fun p10 H10 hp10 e10 h10 => ?_
        · have r2 := rd_of hn9 hb9 eb rdd
          by_cases eq : N y = E y
          · exact ⟨_, rfl, _, rfl, na, _, rfl, gk rdd hy, _, rfl, _, rfl, b, _, rfl, gk r2 hy, rfl, false, bl_nt (congrArg V.str eq), iteF (k2 (by rw [decide_eq_true eq]; rfl) _ (Ex.refl _))⟩
          · exact ⟨_, rfl, _, rfl, na, _, rfl, gk rdd hy, _, rfl, _, rfl, b, _, rfl, gk r2 hy, rfl, true, bl_nf (fun z => eq (by injection z)), iteT ⟨_, rfl, k1 (by rw [decide_eq_false eq]; rfl) _ (Ex.refl _)⟩⟩
        refine ⟨_, _, rfl, lenL (sql h10), ?_⟩
        have eu : ((List.filter (fun l => !decide (N l = E l)) L).map V.str).length = (wnt L N E).length := by
          unfold wnt
          rw [List.length_map, List.length_map]
          exact congrArg List.length (List.filter_congr fun l _ => (decide_not (p := N l = E l)).symm)
        rw [eu]
        have hc10 : IntD H10 cp rs (fun r => max (cntI N L r) (cntI E L r)) := e10 _ _ hci
        refine ⟨_, rfl, cp, _, rfl, pnI (k := zz) hc10 rd.z (by omega), ?_⟩
        have b11 : ExA [cp] H8 (upd H10 cp (.dK (kd (rs ++ [zz]) fun j => .int (if j = zz then 1 else max (cntI N L j) (cntI E L j))))) := (eA.trans (ExA.of e10)).upd (by simp)
        have hc11 : IntD (upd H10 cp (.dK (kd (rs ++ [zz]) fun j => .int (if j = zz then 1 else max (cntI N L j) (cntI E L j))))) cp (rs ++ [zz]) (fun j => if j = zz then 1 else max (cntI N L j) (cntI E L j)) := upd_same
        generalize upd H10 cp (.dK (kd (rs ++ [zz]) fun j => .int (if j = zz then 1 else max (cntI N L j) (cntI E L j)))) = H11 at b11 hc11
        have k11 : ∀ {c : Addr} {o : HO}, H7 c = some o → H11 c = some o := fun h => b11 _ _ (k8 h) (e8 _ _ h)
        have hn11 := k11 (e7 _ _ hna)
        have hb11 := k11 (e7 _ _ hb)
        have hr11 := k11 h7
        have ck : CapOk L N E (rs ++ [zz]) (fun j => if j = zz then 1 else max (cntI N L j) (cntI E L j)) :=
          rd.caps l10 (if_pos rfl) 0 (by decide) (by decide) fun r hr => by
            have ne : r ≠ zz := fun e => rd.z (by rw [← e]; exact hr)
            show (if r = zz then 1 else max (cntI N L r) (cntI E L r)) = _
            rw [if_neg ne]; omega
        have cz : cntI N L zz = 0 := cntI_zero fun l hl e => rd.z ((rd.mem _).mpr (.inl ⟨l, hl, e⟩))
        have cz2 : cntI E L zz = 0 := cntI_zero fun l hl e => rd.z ((rd.mem _).mpr (.inr ⟨l, hl, e⟩))
        refine ⟨_, rfl, _, rfl, _, rfl, na, b, cp, L, N, E, _, _, rfl, hn11, hb11, okN, okE, hc11, ck, cln, by omega, ⟨zz, by simp, ?_⟩, fun x12 H12 ms12 e12 ho12 hp12 => ?_⟩
        · show cntI N L zz < (if zz = zz then 1 else max (cntI N L zz) (cntI E L zz))
          rw [if_pos rfl, cz]; decide
        obtain ⟨dx, am, ap, hx12, hm12, hap12⟩ := id ho12
        obtain ⟨ts, hts, hts2⟩ := id hm12
        have lts : ts.length = ms12.length := Paired.length hts2
        have lms := hp12.length_eq
        refine ⟨_, rfl, x12, dx, _, rfl, hx12, _, rfl, _, rfl, ?_⟩
        have k12 : ∀ {c : Addr} {o : HO}, H7 c = some o → H12 c = some o := fun h => e12 _ _ (k11 h)
        refine iteF ⟨_, rfl, x12, _, dx, _, _, rfl, hx12, T.c_Order, T.a_Order_moves, rfl, _, _, rfl, lenL (sql hts), _, rfl, _, rfl, x12, _, dx, _, _, rfl, hx12, T.c_Order, T.a_Order_parts, rfl, _, _, rfl, lenL (sql hap12), ?_⟩
        refine ⟨_, _, rfl, rfl, rfl, false, bl_nt (congrArg V.int (by rw [List.length_map, lts, lms]; simp)), iteF ?_⟩
        refine ⟨_, rfl, x12, dx, _, rfl, hx12, rfl, _, rfl, _, rfl, _, rfl, x12, na, b, cp, L, N, E, _, _, ms12, rfl, ho12, hp12, e12 _ _ hn11, e12 _ _ hb11, okN, okE, e12 _ _ hc11, ck, cln, by omega, fun H13 e13 => ⟨true, rfl, iteF ?_⟩⟩
        have hc13 : IntD H13 cp (rs ++ [zz]) (fun j => if j = zz then 1 else max (cntI N L j) (cntI E L j)) := e13 _ _ (e12 _ _ hc11)
        have k13 : ∀ {c : Addr} {o : HO}, H7 c = some o → H13 c = some o := fun h => e13 _ _ (k12 h)
        refine forl (td := tVar 5) (sql (k13 h7)) (fun H1 Q' q' => ⟨_, rfl, q'⟩) (fun i σ' H' => ∃ (x7 : Option V), σ' = [some (V.ref dr), some (.ref d), some (.ref ds), some (.ref na), some (.ref b), some (.ref p7), some (.ref cp), x7, x8, x9, some (.int ((wnt L N E).length : Int)), some (.ref x12)] ∧ ExA [cp] H13 H' ∧ IntD H' cp (rs ++ [zz]) (fun j => if j ∈ rs.take i then (if j = zz then 1 else max (cntI N L j) (cntI E L j)) + 1 else if j = zz then 1 else max (cntI N L j) (cntI E L j)))
          ⟨_, rfl, ExA.refl _ _, hc13⟩ (fun i σ' H' pv => ?_) (fun i v σ' H' hv pv => ?_) fun σ' H14 pv => ?_
        · obtain ⟨_, _, eA, _⟩ := pv
          exact sql (eA _ _ (k8 h7) (k13 h7))
        · obtain ⟨x7, rfl, eA, hci⟩ := pv
          rw [List.getElem?_map] at hv
          cases hri : rs[i]? with
          | none => rw [hri] at hv; cases hv
          | some r =>
          rw [hri] at hv
          cases hv
          have hm : r ∈ rs ++ [zz] := List.mem_append_left _ (mem_of_at hri)
          have ni : r ∉ rs.take i := not_mem_take ndr hri
          refine ⟨_, rfl, _, rfl, cp, _, rfl, gk (.inl hci) hm, _, _, rfl, rfl, _, pmI hci hm (by simp; omega), ?_⟩
          refine ⟨_, rfl, eA.upd (by simp), ?_⟩
          rw [take_succ_at hri]
          show upd _ _ _ _ = _
          rw [upd_same]
          refine congrArg some (congrArg HO.dK (kd_congr fun j _ => congrArg V.int ?_))
          by_cases q : j = r
          · subst q
            rw [if_pos rfl]
            dsimp only
            have m1 : j ∈ rs.take i ++ [j] := by simp
            rw [if_neg ni, if_pos m1]
          · rw [if_neg q]
            have this : (j ∈ rs.take i ++ [r]) ↔ j ∈ rs.take i := by simp [q]
            dsimp only
            by_cases h : j ∈ rs.take i
            · rw [if_pos h, if_pos (this.mpr h)]
            · rw [if_neg h, if_neg (mt this.mp h)]
        · obtain ⟨x7, rfl, eA, hci⟩ := pv
          rw [List.length_map, List.take_length] at hci
          have k14 : ∀ {c : Addr} {o : HO}, H7 c = some o → H14 c = some o := fun h => eA _ _ (k8 h) (k13 h)
          have hn14 := k14 (e7 _ _ hna)
          have hb14 := k14 (e7 _ _ hb)
          have cqz : (fun j => if j ∈ rs then (if j = zz then 1 else max (cntI N L j) (cntI E L j)) + 1 else if j = zz then 1 else max (cntI N L j) (cntI E L j)) zz = (1 : Int) := by
            dsimp only
            rw [if_neg rd.z, if_pos rfl]
          have cqr : ∀ r ∈ rs, (fun j => if j ∈ rs then (if j = zz then 1 else max (cntI N L j) (cntI E L j)) + 1 else if j = zz then 1 else max (cntI N L j) (cntI E L j)) r = max (cntI N L r) (cntI E L r) + 1 := fun r hr => by
            have ne : r ≠ zz := fun e => rd.z (by rw [← e]; exact hr)
            dsimp only
            rw [if_pos hr, if_neg ne]
          generalize (fun j => if j ∈ rs then (if j = zz then 1 else max (cntI N L j) (cntI E L j)) + 1 else if j = zz then 1 else max (cntI N L j) (cntI E L j)) = cq at hci cqz cqr
          have ck2 := rd.caps l10 cqz 1 (by decide) (by decide) cqr
          refine ⟨_, rfl, _, rfl, _, rfl, na, b, cp, L, N, E, _, _, rfl, hn14, hb14, okN, okE, hci, ck2, cln, by omega, ⟨zz, by simp, by rw [cz, cqz]; decide⟩, fun x15 H15 ms15 e15 ho15 hp15 => ?_⟩
          obtain ⟨dx15, am15, ap15, hx15, hm15, hap15⟩ := ho15
          refine ⟨x15, _, dx15, _, _, rfl, hx15, T.c_Order, T.a_Order_parts, rfl, by rw [sizeLine_eq]; decide, fun p16 hp16 => nil_ne_nil ((Ex.new hp16) _ _ hap15) upd_same ⟨false, rfl, iteF ?_⟩⟩
          have e16 := e15.trans (Ex.new hp16 (o := .lst []))
          generalize upd H15 p16 (.lst []) = H16 at e16
          refine ⟨_, rfl, _, rfl, _, rfl, b, na, cp, L, E, N, _, _, rfl, e16 _ _ hb14, e16 _ _ hn14, okE, okN, e16 _ _ hci, ck2.symm, cln.symm, by omega, ⟨zz, by simp, by rw [cz2, cqz]; decide⟩, fun x17 H17 ms17 e17 ho17 hp17 => ?_⟩
          obtain ⟨dx17, am17, ap17, hx17, ⟨ts17, hts17, hm17⟩, hap17⟩ := ho17
          have l17 : ts17.length = ms17.length := Paired.length hm17
          have n17 := hp17.length_eq
          refine ⟨x17, _, dx17, _, _, rfl, hx17, T.c_Order, T.a_Order_moves, rfl, _, _, rfl, lenL (sql hts17), _, rfl, rfl, false, bl_nt (congrArg V.int (by rw [List.length_map, l17, n17, wnt_comm])), iteF ?_⟩
          refine ⟨_, rfl, b, _, _, _, _, _, _, _, _, rfl, fun c o h => e17 _ _ (e16 _ _ (k14 (e7 _ _ (e _ _ h)))), ?_⟩
          rw [hNE]
          exact e17 _ _ (e16 _ _ hb14)
    · obtain ⟨_, _, _, _, _, _, _, _, _, rfl, e, _⟩ := pv
      exact q _ e
end
end K55


set_option Elab.async false
set_option linter.all false
set_option maxRecDepth 100000
set_option maxHeartbeats 4000000
/-! own rules: a list (of anything) != [] -/
namespace K55
open PySem PySem.Spec PyProof.Rows L2 Evl
section
variable {X : Cx}
def rNeN (K : PySem.W.Frag) : R2 := fun x y H Q => ∃ (a b : Addr) (xs : List V), x = .ref a ∧ y = .ref b ∧ SqL K H a xs ∧ SqL K H b [] ∧ Q (.bl (!xs.isEmpty)) H
theorem op_neN (hu : X.A.units + 64 < cLine) : OpR X (compareOp .NotEq) (rNeN X.K) := by
  intro pins s σ H x y v u Q I rx ry h
  obtain ⟨a, b, xs, rfl, rfl, ha, hb, q⟩ := h
  cases rx
  cases ry
  obtain ⟨its, rv, pl, hz⟩ := I.list ha
  obtain ⟨itb, rb, plb, hzb⟩ := I.list hb
  cases rb
  cases rv with
  | nil => exact SeqAt.RcNeAt.lists (e := fun _ => true) pl.isList plb.isList rfl (by omega) (fun j h1 _ => absurd h1 (by simp)) _ _ _ _ ⟨.bl false, H, I, rfl, q⟩
  | cons r1 r2 => exact SeqAt.RcNeAt.lists_lengths pl.isList plb.isList (by simp) (by omega) _ _ _ _ ⟨.bl true, H, I, rfl, q⟩
theorem op_neNK {K : PySem.W.Frag} (h : X.K = K) (hu : X.A.units + 64 < cLine) : OpR X (compareOp .NotEq) (rNeN K) := h ▸ op_neN hu
end
/-! ### the answer of least_moves is the least -/
theorem lm_whole {L : List Str} {D : Str → Str} {B : Bn} {ns rds : List Str} {h : Str → Int} {ms : List (Str × Str × Str)} {way : Str} (okd : DlOk L D) (lm : LM L D B ns h ms way rds) : Whole L D [B] ms.length := by
  have wE : Within' L (after D ms) B := within_cnt (ns := ns) (fun r hr => (lm.all.2.2.2 r).mpr (.inl hr)) (fun l hl => after_mem ((lm.all.2.2.2 _).mpr (.inr ⟨l, hl, rfl⟩)) fun m hm => (lm.mv.to m hm).1) fun r hr => by
    rw [lm.mv.ld r hr]
    exact lm.nl.b r hr
  refine ⟨⟨[after D ms], .cons wE .nil, ?_⟩, fun Es hE => ?_⟩
  · show chg L D (after D ms) + 0 = _
    rw [chg_after okd.nd D ms lm.mv.ok]; omega
  · cases hE with
    | @cons E _ Es' _ w t =>
      cases t
      show _ ≤ chg L D E + 0
      rw [← lm.bar]
      rcases lm.wy with e | e
      · subst e
        have h1 := chg_ge lm.nd L D E
        have h2 : sumOf rds (barI (cntI D L) B "leaving") ≤ sumOf rds (fun r => max 0 (cntI D L r - cntI E L r)) := sumOf_le fun r _ => by
          rw [barI_l]
          have := (w.bnd r).2
          omega
        omega
      · subst e
        have h1 := chg_ge lm.nd L E D
        rw [chg_comm L E D] at h1
        have h2 : sumOf rds (barI (cntI D L) B "coming") ≤ sumOf rds (fun r => max 0 (cntI E L r - cntI D L r)) := sumOf_le fun r _ => by
          rw [barI_c]
          have := (w.bnd r).1
          omega
        omega
end K55

set_option Elab.async false
set_option linter.all false
set_option maxRecDepth 100000
set_option maxHeartbeats 4000000
namespace K55
open PySem PySem.Spec PyProof.Rows L2 Evl
/-! ### histories with their places -/
abbrev Z := Addr × Bn
def bns (zs : List Z) : List Bn := zs.map (·.2)
def HZ (H : Hp) (h : Addr) (zs : List Z) : Prop := H h = some (.lst (zs.map fun z => V.ref z.1)) ∧ ∀ z ∈ zs, BndAt H z.1 z.2
theorem HZ.ex {H H' : Hp} {h : Addr} {zs : List Z} (x : HZ H h zs) (e : Ex H H') : HZ H' h zs := ⟨e _ _ x.1, fun z hz => (x.2 z hz).ex e⟩
theorem bnd_paired {H : Hp} : ∀ {zs : List Z}, (∀ z ∈ zs, BndAt H z.1 z.2) → Paired (fun a B => BndAt H a B) (zs.map (·.1)) (bns zs)
  | [], _ => .nil
  | z :: zs, h => .cons (h z List.mem_cons_self) (bnd_paired fun y hy => h y (List.mem_cons_of_mem _ hy))
theorem HZ.hist {H : Hp} {h : Addr} {zs : List Z} (x : HZ H h zs) : HistAt H h (bns zs) := ⟨zs.map (·.1), by rw [List.map_map]; exact x.1, bnd_paired x.2⟩
theorem bns_app (xs ys : List Z) : bns (xs ++ ys) = bns xs ++ bns ys := List.map_append
theorem bns_len (xs : List Z) : (bns xs).length = xs.length := List.length_map _
theorem mem_bns {zs : List Z} {B : Bn} (h : B ∈ bns zs) : ∃ z ∈ zs, z.2 = B := by
  obtain ⟨z, h1, h2⟩ := List.mem_map.mp h
  exact ⟨z, h1, h2⟩
theorem cut_take {xs : List V} {j : Nat} (h : j ≤ xs.length) : cutV xs none (some (j : Int)) = xs.take j := by
  unfold cutV
  rw [HT.sIx_none, HT.sIx_nat, Nat.min_eq_left h, List.drop_zero, Nat.sub_zero]
theorem cut_drop {xs : List V} {j : Nat} (h : j ≤ xs.length) : cutV xs (some (j : Int)) none = xs.drop j := by
  unfold cutV
  rw [HT.sIx_none, HT.sIx_nat, Nat.min_eq_left h]
  exact List.take_of_length_le (by rw [List.length_drop]; omega)
theorem cut_last {xs : List V} (h : 1 ≤ xs.length) : cutV xs (some (-1)) none = xs.drop (xs.length - 1) := by
  have e : HT.sIx xs.length 0 (some (-1)) = xs.length - 1 := by
    show (if (-1 : Int) < 0 then ((-1 : Int) + (xs.length : Int)).toNat else min (-1 : Int).toNat xs.length) = _
    rw [if_pos (by decide)]; omega
  unfold cutV
  rw [HT.sIx_none, e]
  exact List.take_of_length_le (by rw [List.length_drop]; omega)
/-! ### the readers of law -/
def U0 : List Str := ["x", "y", "w", "v"]
def OkZ (z : Z) : Prop := z.2.Ok ∧ ∀ r ∈ z.2.rs, r ∈ U0
def CanZ (L : List Str) (zs : List Z) : Prop := ∀ z ∈ zs, z.2.Can L.length
theorem CanZ.b {L : List Str} {zs : List Z} (h : CanZ L zs) : ∀ B ∈ bns zs, B.Can L.length := fun B hB => by
  obtain ⟨z, h1, rfl⟩ := mem_bns hB
  exact h z h1
def canB (L : List Str) (B : Bn) : Bool := decide (sumOf B.rs B.lo ≤ (L.length : Int) ∧ (L.length : Int) ≤ sumOf B.rs B.hi)
structure Dl0 (L : List Str) (D : Str → Str) : Prop where
  dl : DlOk L D
  du : ∀ l ∈ L, D l ∈ U0
  n : L.length ≤ 7
theorem U0_w : ∀ r ∈ U0, isW r = true := by decide +kernel
theorem hok {L : List Str} {D : Str → Str} {zs : List Z} (d : Dl0 L D) (hz : ∀ z ∈ zs, OkZ z) (n1 : 1 ≤ zs.length) (n2 : zs.length ≤ 12) : HOk U0 L D (bns zs) where
  dl := d.dl
  du := d.du
  bo := fun B hB => by obtain ⟨z, h1, rfl⟩ := mem_bns hB; exact (hz z h1).1
  bu := fun B hB => by obtain ⟨z, h1, rfl⟩ := mem_bns hB; exact (hz z h1).2
  un := by decide
  uw := U0_w
  b1 := by rw [bns_len]; exact n1
  b2 := by rw [bns_len]; exact n2
  l := by have := d.n; omega
/-- wider bounds -/
structure Wider (B C : Bn) : Prop where
  rs : C.rs = B.rs
  w : ∀ r ∈ B.rs, 0 ≤ C.lo r ∧ C.lo r ≤ B.lo r ∧ B.hi r ≤ C.hi r ∧ C.hi r ≤ 60
theorem Wider.ok {B C : Bn} (h : Wider B C) (ok : B.Ok) : C.Ok where
  nd := h.rs ▸ ok.nd
  n1 := h.rs ▸ ok.n1
  n2 := h.rs ▸ ok.n2
  w := h.rs ▸ ok.w
  l0 := fun r hr => (h.w r (h.rs ▸ hr)).1
  lh := fun r hr => by
    have hr := h.rs ▸ hr
    have := h.w r hr
    have := ok.lh r hr
    omega
  h60 := fun r hr => (h.w r (h.rs ▸ hr)).2.2.2
theorem Wider.can {B C : Bn} {m : Int} (h : Wider B C) (c : B.Can m) : C.Can m := by
  have h1 : sumOf B.rs C.lo ≤ sumOf B.rs B.lo := sumOf_le fun r hr => (h.w r hr).2.1
  have h2 : sumOf B.rs B.hi ≤ sumOf B.rs C.hi := sumOf_le fun r hr => (h.w r hr).2.2.1
  obtain ⟨c1, c2⟩ := c
  unfold Bn.Can
  rw [h.rs]
  omega
theorem Wider.win {B C : Bn} {L : List Str} {E : Str → Str} (h : Wider B C) (w : Within' L E B) : Within' L E C := by
  unfold Within'
  rw [h.rs]
  refine ⟨w.1, fun r hr => ?_⟩
  have := w.2 r hr
  have := h.w r hr
  omega
theorem paired_wide {L : List Str} {B C : Bn} (h : Wider B C) : ∀ {xs ys : List Bn} {Es : List (Str → Str)}, Paired (fun E B => Within' L E B) Es (xs ++ [B] ++ ys) → Paired (fun E B => Within' L E B) Es (xs ++ [C] ++ ys)
  | [], ys, _, p => by
    cases p with
    | cons r t => exact .cons (h.win r) t
  | x :: xs, ys, _, p => by
    cases p with
    | cons r t => exact .cons r (paired_wide h t)
theorem Wider.okz {b p : Addr} {B C : Bn} (h : Wider B C) (o : OkZ (b, B)) : OkZ (p, C) := ⟨h.ok o.1, fun r hr => o.2 r (h.rs ▸ hr)⟩
/-! ### the drawn history -/
structure RsOk (rs : List Str) : Prop where
  nd : rs.Nodup
  n1 : 1 ≤ rs.length
  n3 : rs.length ≤ 3
  u : ∀ r ∈ rs, r ∈ U0
theorem rs1 : RsOk ["x", "y"] := ⟨by decide +kernel, by decide, by decide, by decide +kernel⟩
theorem rs2 : RsOk ["x", "y", "w"] := ⟨by decide +kernel, by decide, by decide, by decide +kernel⟩
theorem rs3 : RsOk ["y", "w", "v"] := ⟨by decide +kernel, by decide, by decide, by decide +kernel⟩
theorem rs4 : RsOk ["x", "v"] := ⟨by decide +kernel, by decide, by decide, by decide +kernel⟩
theorem okz_of {p : Addr} {rs : List Str} {lo hi : Str → Int} (o : RsOk rs) (h : ∀ r ∈ rs, 0 ≤ lo r ∧ lo r ≤ hi r ∧ hi r ≤ 10) : OkZ (p, ⟨rs, lo, hi⟩) := by
  refine ⟨⟨o.nd, o.n1, Nat.le_trans o.n3 (by decide), fun r hr => U0_w r (o.u r hr), fun r hr => (h r hr).1, fun r hr => (h r hr).2.1, fun r hr => ?_⟩, o.u⟩
  have := (h r hr).2.2
  show hi r ≤ 60
  omega
theorem BndAt.exA {l : List Addr} {H H' : Hp} {b : Addr} {B : Bn} (h : BndAt H b B) (e : ExA l H H') (hl : ∀ a ∈ l, ∃ ys, H a = some (.lst ys)) : BndAt H' b B := by
  obtain ⟨T, h1, h2⟩ := h
  refine ⟨T, e _ _ (fun m => ?_) h1, fun r hr => e _ _ (fun m => ?_) (h2 r hr)⟩
  · obtain ⟨ys, hy⟩ := hl _ m
    have h1 : H b = some _ := h1
    rw [hy] at h1; cases h1
  · obtain ⟨ys, hy⟩ := hl _ m
    have h3 := h2 r hr
    rw [hy] at h3; cases h3
theorem dl0 {m : Nat} {D : Str → Str} (h : ∀ l ∈ lanes.take m, D l ∈ (["x", "y", "w"] : List Str)) : Dl0 (lanes.take m) D := by
  have hu : ∀ l ∈ lanes.take m, D l ∈ U0 := fun l hl => (by decide +kernel : ∀ r ∈ (["x", "y", "w"] : List Str), r ∈ U0) _ (h l hl)
  have lw : ∀ l ∈ lanes, isW l = true := by decide +kernel
  have so : ∀ j : Fin 8, sortedS (lanes.take j.1) = true := by decide +kernel
  refine ⟨⟨lanes_nodup m, by have := lanes_len m; omega, ?_, fun l hl => lw l (List.mem_of_mem_take hl), fun l hl => U0_w _ (hu l hl)⟩, hu, lanes_len m⟩
  by_cases q : m < 8
  · exact so ⟨m, q⟩
  · have e : lanes.take m = lanes.take 7 := by
      rw [List.take_of_length_le (show lanes.length ≤ m by show 7 ≤ m; omega)]
      rfl
    rw [e]
    exact so ⟨7, by decide⟩
theorem kd_ne_lst {H : Hp} {d p : Addr} {L : List Str} {g : Str → V} {ys : List V} (h : KD H d L g) (k : H p = some (.lst ys)) : d ≠ p := fun e => by
  have h : H d = some _ := h
  rw [e, k] at h
  cases h
theorem ne_of_none' {H : Hp} {a q1 q2 q3 q4 q5 : Addr} {o o1 o2 o3 o4 : HO} (h : H a = some o) (h1 : H q1 = none) (h2 : upd H q1 o1 q2 = none) (h3 : upd (upd H q1 o1) q2 o2 q3 = none) (h4 : upd (upd (upd H q1 o1) q2 o2) q3 o3 q4 = none)
    (h5 : upd (upd (upd (upd H q1 o1) q2 o2) q3 o3) q4 o4 q5 = none) : q5 ≠ a := (ne_of_none (((Ex.new h1).trans ((Ex.new h2).trans ((Ex.new h3).trans (Ex.new h4)))) _ _ h) h5).symm
theorem picks {H : Hp} {q1 q2 q3 q4 q5 : Addr} (h1 : H q1 = none) (h2 : upd H q1 (.lst [.str "x", .str "y"]) q2 = none) (h3 : upd (upd H q1 (.lst [.str "x", .str "y"])) q2 (.lst [.str "x", .str "y", .str "w"]) q3 = none)
    (h4 : upd (upd (upd H q1 (.lst [.str "x", .str "y"])) q2 (.lst [.str "x", .str "y", .str "w"])) q3 (.lst [.str "y", .str "w", .str "v"]) q4 = none)
    (h5 : upd (upd (upd (upd H q1 (.lst [.str "x", .str "y"])) q2 (.lst [.str "x", .str "y", .str "w"])) q3 (.lst [.str "y", .str "w", .str "v"])) q4 (.lst [.str "x", .str "v"]) q5 = none) :
    Ex H (upd (upd (upd (upd (upd H q1 (.lst [.str "x", .str "y"])) q2 (.lst [.str "x", .str "y", .str "w"])) q3 (.lst [.str "y", .str "w", .str "v"])) q4 (.lst [.str "x", .str "v"])) q5 (.lst [.ref q1, .ref q2, .ref q3, .ref q4])) ∧
    (upd (upd (upd (upd (upd H q1 (.lst [.str "x", .str "y"])) q2 (.lst [.str "x", .str "y", .str "w"])) q3 (.lst [.str "y", .str "w", .str "v"])) q4 (.lst [.str "x", .str "v"])) q5 (.lst [.ref q1, .ref q2, .ref q3, .ref q4])) q5 = some (.lst [.ref q1, .ref q2, .ref q3, .ref q4]) ∧
    ∀ y ∈ [V.ref q1, .ref q2, .ref q3, .ref q4], ∃ q rs, y = .ref q ∧ (upd (upd (upd (upd (upd H q1 (.lst [.str "x", .str "y"])) q2 (.lst [.str "x", .str "y", .str "w"])) q3 (.lst [.str "y", .str "w", .str "v"])) q4 (.lst [.str "x", .str "v"])) q5 (.lst [.ref q1, .ref q2, .ref q3, .ref q4])) q = some (.lst (rs.map V.str)) ∧ RsOk rs := by
  refine ⟨(Ex.new h1).trans ((Ex.new h2).trans ((Ex.new h3).trans ((Ex.new h4).trans (Ex.new h5)))), upd_same, fun y hy => ?_⟩
  simp only [List.mem_cons, List.not_mem_nil, or_false] at hy
  rcases hy with rfl | rfl | rfl | rfl
  · exact ⟨q1, ["x", "y"], rfl, (((Ex.new h2).trans ((Ex.new h3).trans ((Ex.new h4).trans (Ex.new h5)))) _ _ upd_same), rs1⟩
  · exact ⟨q2, ["x", "y", "w"], rfl, (((Ex.new h3).trans ((Ex.new h4).trans (Ex.new h5))) _ _ upd_same), rs2⟩
  · exact ⟨q3, ["y", "w", "v"], rfl, (((Ex.new h4).trans (Ex.new h5)) _ _ upd_same), rs3⟩
  · exact ⟨q4, ["x", "v"], rfl, (Ex.new h5) _ _ upd_same, rs4⟩
/-! ### parts of the history -/
theorem HZ.take {H : Hp} {h p : Addr} {zs : List Z} {c : Int} {j : Nat} (x : HZ H h zs) (hp : H p = none) (hc : c = (j : Int)) (hj : j ≤ zs.length) : HZ (upd H p (.lst (cutV (zs.map fun z => V.ref z.1) none (some c)))) p (zs.take j) := by
  subst hc
  refine ⟨?_, fun z hz => (x.2 z (List.mem_of_mem_take hz)).ex (Ex.new hp)⟩
  rw [upd_same, cut_take (by rw [List.length_map]; exact hj), List.map_take]
theorem HZ.drop {H : Hp} {h p : Addr} {zs : List Z} {c : Int} {j : Nat} (x : HZ H h zs) (hp : H p = none) (hc : c = (j : Int)) (hj : j ≤ zs.length) : HZ (upd H p (.lst (cutV (zs.map fun z => V.ref z.1) (some c) none))) p (zs.drop j) := by
  subst hc
  refine ⟨?_, fun z hz => (x.2 z (List.mem_of_mem_drop hz)).ex (Ex.new hp)⟩
  rw [upd_same, cut_drop (by rw [List.length_map]; exact hj), List.map_drop]
theorem HZ.last {H : Hp} {h p : Addr} {zs : List Z} (x : HZ H h zs) (hp : H p = none) (hj : 1 ≤ zs.length) : HZ (upd H p (.lst (cutV (zs.map fun z => V.ref z.1) (some (-1)) none))) p (zs.drop (zs.length - 1)) := by
  refine ⟨?_, fun z hz => (x.2 z (List.mem_of_mem_drop hz)).ex (Ex.new hp)⟩
  rw [upd_same, cut_last (by rw [List.length_map]; exact hj), List.map_drop, List.length_map]
theorem HZ.cat {H : Hp} {a b p : Addr} {xs ys : List Z} (x : HZ H a xs) (y : HZ H b ys) (hp : H p = none) : HZ (upd H p (.lst ((xs.map fun z => V.ref z.1) ++ ys.map fun z => V.ref z.1))) p (xs ++ ys) := by
  refine ⟨?_, fun z hz => ?_⟩
  · rw [upd_same, List.map_append]
  · rcases List.mem_append.mp hz with hz | hz
    · exact (x.2 z hz).ex (Ex.new hp)
    · exact (y.2 z hz).ex (Ex.new hp)
theorem HZ.one {H : Hp} {b p : Addr} {B : Bn} (x : BndAt H b B) (hp : H p = none) : HZ (upd H p (.lst [.ref b])) p [(b, B)] := by
  refine ⟨upd_same, fun z hz => ?_⟩
  rw [List.mem_singleton.mp hz]
  exact x.ex (Ex.new hp)
theorem HZ.exB {H H' : Hp} {h dr : Addr} {zs : List Z} {ys : List V} (x : HZ H h zs) (e : ExB dr H H') (hd : H dr = some (.lst ys)) (n : h ≠ dr) : HZ H' h zs :=
  ⟨e _ _ n x.1, fun z hz => (x.2 z hz).exA (l := [dr]) (fun b o hb hs => e b o (fun q => hb (by simp [q])) hs) fun a ha => by rw [List.mem_singleton.mp ha]; exact ⟨_, hd⟩⟩
theorem mv_call {H : Hp} {Q : VK} {E : XK} {d p : Addr} {L : List Str} {D : Str → Str} {zs : List Z} (d0 : Dl0 L D) (hD : DlAt H d L D) (hz : HZ H p zs) (ho : ∀ z ∈ zs, OkZ z) (can : CanZ L zs) (n1 : 1 ≤ zs.length) (n2 : zs.length ≤ 12)
    (q : ∀ m H', Ex H H' → Whole L D (bns zs) m → Q (.int m) H') : spLawMoves [.ref d, .ref p] H Q E :=
  ⟨d, p, U0, L, D, bns zs, rfl, hD, hz.hist, hok d0 ho n1 n2, fun _ m H' e wh => q m H' e wh, fun ⟨B, hB, hn⟩ => absurd (can.b B hB) hn⟩
theorem okz_take {zs : List Z} (j : Nat) (h : ∀ z ∈ zs, OkZ z) : ∀ z ∈ zs.take j, OkZ z := fun z hz => h z (List.mem_of_mem_take hz)
theorem okz_drop {zs : List Z} (j : Nat) (h : ∀ z ∈ zs, OkZ z) : ∀ z ∈ zs.drop j, OkZ z := fun z hz => h z (List.mem_of_mem_drop hz)
theorem okz_app {xs ys : List Z} (h : ∀ z ∈ xs, OkZ z) (k : ∀ z ∈ ys, OkZ z) : ∀ z ∈ xs ++ ys, OkZ z := fun z hz => (List.mem_append.mp hz).elim (h z) (k z)
theorem CanZ.take {L : List Str} {zs : List Z} (j : Nat) (h : CanZ L zs) : CanZ L (zs.take j) := fun z hz => h z (List.mem_of_mem_take hz)
theorem CanZ.drop {L : List Str} {zs : List Z} (j : Nat) (h : CanZ L zs) : CanZ L (zs.drop j) := fun z hz => h z (List.mem_of_mem_drop hz)
theorem CanZ.app {L : List Str} {xs ys : List Z} (h : CanZ L xs) (k : CanZ L ys) : CanZ L (xs ++ ys) := fun z hz => (List.mem_append.mp hz).elim (h z) (k z)
/-! ### what law asks of the histories, in plain -/
theorem w_single {L : List Str} {D : Str → Str} {z0 : Z} {zr : List Z} {m n : Int} (a : Whole L D (bns ((z0 :: zr).take 1)) m) (b : Whole L D [z0.2] n) : m = n := Whole.uniq a b
theorem w_again {L : List Str} {D : Str → Str} {zs : List Z} {m n : Int} (n1 : 1 ≤ zs.length) (a : Whole L D (bns zs) m) (b : Whole L D (bns (zs ++ zs.drop (zs.length - 1))) n) : n = m := by
  obtain ⟨i, l, rfl⟩ : ∃ i l, zs = i ++ [l] := ⟨zs.dropLast, zs.getLast (fun e => by rw [e] at n1; exact absurd n1 (by decide)), (List.dropLast_concat_getLast _).symm⟩
  have e : (i ++ [l]).drop ((i ++ [l]).length - 1) = [l] := by simp
  rw [e, bns_app, bns_app] at b
  rw [bns_app] at a
  exact Whole.again a b
theorem w_first {L : List Str} {D : Str → Str} {z0 : Z} {zr : List Z} {m n : Int} (a : Whole L D (bns (z0 :: zr)) m) (b : Whole L D (bns ((z0 :: zr).take 1 ++ (z0 :: zr))) n) : n = m := Whole.first a b
theorem z_split {zs : List Z} {j : Nat} {z : Z} (h : zs[j]? = some z) : zs = zs.take j ++ z :: zs.drop (j + 1) := by
  obtain ⟨h1, h2⟩ := List.getElem?_eq_some_iff.mp h
  rw [← h2, ← List.drop_eq_getElem_cons h1, List.take_append_drop]
theorem w_wide {L : List Str} {D : Str → Str} {zs : List Z} {j : Nat} {z : Z} {p : Addr} {C : Bn} {m n : Int} (h : zs[j]? = some z) (wd : Wider z.2 C) (a : Whole L D (bns zs) m) (b : Whole L D (bns (zs.take j ++ [(p, C)] ++ zs.drop (j + 1))) n) : n ≤ m := by
  refine Whole.wide a b fun Es he => ?_
  rw [bns_app, bns_app]
  have e : bns zs = bns (zs.take j) ++ [z.2] ++ bns (zs.drop (j + 1)) := by
    conv => lhs; rw [z_split h]
    rw [bns_app, List.append_assoc]
    rfl
  rw [e] at he
  exact paired_wide wd he
theorem w_pre {L : List Str} {D : Str → Str} {zs : List Z} (j : Nat) {m n : Int} (a : Whole L D (bns zs) m) (b : Whole L D (bns (zs.take j)) n) : n ≤ m := by
  have e : bns zs = bns (zs.take j) ++ bns (zs.drop j) := by rw [← bns_app, List.take_append_drop]
  rw [e] at a
  exact Whole.pre a b
theorem w_less {L : List Str} {D : Str → Str} {zs : List Z} {j : Nat} {z : Z} {m n : Int} (h : zs[j]? = some z) (a : Whole L D (bns zs) m) (b : Whole L D (bns (zs.take j ++ zs.drop (j + 1))) n) : n ≤ m := by
  have e : bns zs = bns (zs.take j) ++ z.2 :: bns (zs.drop (j + 1)) := by
    conv => lhs; rw [z_split h]
    rw [bns_app]
    rfl
  rw [e] at a
  rw [bns_app] at b
  exact Whole.drop a b
theorem w_rest {L : List Str} {D : Str → Str} {zs : List Z} {j : Nat} {m n : Int} {Es : List (Str → Str)} (win : Paired (fun E B => Within' L E B) Es (bns zs)) (e : pth L D Es = m) (a : Whole L D (bns zs) m) (b : Whole L (lst D (Es.take (j + 1))) (bns (zs.drop (j + 1))) n) : n + pth L D (Es.take (j + 1)) = m := by
  have eb : bns zs = bns (zs.take (j + 1)) ++ bns (zs.drop (j + 1)) := by rw [← bns_app, List.take_append_drop]
  rw [eb] at win a
  obtain ⟨as, bs, rfl, p, q⟩ := paired_app_inv win
  have la : as.length = (zs.take (j + 1)).length := by rw [p.length, bns_len]
  by_cases hj : j + 1 ≤ zs.length
  · have l2 : as.length = j + 1 := by rw [la, List.length_take]; omega
    have et : (as ++ bs).take (j + 1) = as := by rw [← l2, List.take_left]
    rw [et] at b ⊢
    exact Whole.rest a p q e b
  · have e1 : zs.drop (j + 1) = [] := List.drop_eq_nil_of_le (by omega)
    rw [e1] at q b
    cases q
    have et : (as ++ []).take (j + 1) = as := by rw [List.append_nil, List.take_of_length_le (by rw [la, List.length_take]; omega)]
    rw [et] at b ⊢
    rw [List.append_nil] at e
    have hb : n = 0 := by
      obtain ⟨F, h1, h2⟩ := b.ex
      cases h1
      exact h2.symm
    omega
theorem tailed {H : Hp} {G : Prop} {C : Hp → Prop} (main : (∀ H', Ex H H' → C H') → G) (tl : ∀ H', Ex H H' → C H') : G := main tl
end K55

set_option Elab.async false
set_option linter.all false
set_option maxRecDepth 100000
set_option maxHeartbeats 4000000
namespace K55
open PySem PySem.Spec PyProof.Rows L2 Evl
section
variable {w : World} {K : PySem.W.Frag} {mg : Str → Option Value} {base : Heap}
/-! ### law -/
def spLaw (K : PySem.W.Frag) : Sp := fun vs H Q E => ∃ (s : Addr) (xs : List Int), vs = [.ref s] ∧ SqL K H s (xs.map V.int) ∧ xs.length ≤ 100000 ∧ ∀ H', Ex H H' → Q (.bl true) H'
theorem sc_law : FnScope ["_law_script", "_law_draw", "_law_many", "_law_deal_here", "_law_history", "_law_turn", "_law_whole", "_law_bounds_here", "_law_single", "_law_at", "_law_wide", "_law_less", "_law_found", "_law_middle", "_law_rest", "_law_done", "_law_now", "_law_late", "_law_lane"] ["_law_script"] (defScope s_law) := ⟨rfl, rfl, rfl, by decide +kernel, rfl, by decide +kernel, by decide +kernel⟩
theorem fn_law (T : Txt K mg) {fd : FuncData} (F : FunD K "law" "law" (defArgs s_law) (defBody s_law) (defScope s_law) [] [] (He.fAd K ("law", none)) fd) : FnOk P w K mg base (L2.CX P w) 12 (He.fAd K ("law", none)) fd ["_law_script"] (spLaw K) := by
  have e_law_deal := ok_law_deal (P := P) (w := w) (base := base) T
  have e_law_moves := ok_law_moves (w := w) (base := base) T
  have e_least_moves := ok_least_moves (P := P) (w := w) (base := base) T
  have e_law_take := ok_law_take (P := P) (w := w) (base := base) T
  have e_least_history := ok_least_history (w := w) (base := base) T
  have e_law_handed := ok_law_handed (P := P) (w := w) (base := base) T
  have e_law_bounds := ok_law_bounds (P := P) (w := w) (base := base) T
  have e_law_pick := ok_law_pick (P := P) (w := w) (base := base) T
  have e_law_wider := ok_law_wider (P := P) (w := w) (base := base) T
  have em_Moves_shows := ok_Moves_shows (P := P) (w := w) (base := base) T
  have em_History_shows := ok_History_shows (w := w) (base := base) T
  refine L2.FunD.ok F sc_law (fun vs H Q E h => ?_) (fun cdv A outer s H vs Q E hr h => ?_)
  · obtain ⟨s, xs, rfl, hs, n5, q⟩ := h
    rfl
  · obtain ⟨s, xs, rfl, hs, n5, q⟩ := h
    refine ⟨_, (pss_cons (ps_set (i := 1) sc_law.nd rfl (Or.inr rfl) (pe_lst (pa_cons (pv 0) (pa_cons pe_int pa_nil))))
      (pss_cons (ps_set (i := 2) sc_law.nd rfl (Or.inr rfl) (pe_op op_add pe_int (pe_e e_law_take (hr.mono (by decide)) pass0 (pa_cons (pv 1) (pa_cons pe_int pa_nil)))))
      (pss_cons (ps_set (i := 3) sc_law.nd rfl (Or.inr rfl) (pe_e e_law_deal (hr.mono (by decide)) pass0 (pa_cons (pv 1) (pa_cons (pe_lst (pa_cons pe_str (pa_cons pe_str (pa_cons pe_str pa_nil)))) (pa_cons (pv 2) pa_nil)))))
      (pss_cons (ps_setLc (i := 4) (own := [("_law_turn", 5)]) (g := gName 5) (tt := tYes) rfl sc_law.nd rfl rfl (sw_true rfl rfl rfl (by decide +kernel)) (pi_range1 rfl T.n_range (pa_cons (pe_op op_add pe_int (pe_e e_law_take (hr.mono (by decide)) pass0 (pa_cons (pv 1) (pa_cons pe_int pa_nil)))) pa_nil)) (blkOk_by (N := ["_law_script", "_law_draw", "_law_many", "_law_deal_here", "_law_history", "_law_turn", "_law_whole", "_law_bounds_here", "_law_single", "_law_at", "_law_wide", "_law_less", "_law_found", "_law_middle", "_law_rest", "_law_done", "_law_now", "_law_late", "_law_lane"]) (sc := defScope s_law) (by decide +kernel)) (fun _ _ _ _ _ => (pg_name (i := 5) sc_law.nd rfl (Or.inl rfl))) (fun _ _ _ _ _ => pts_nil) (fun _ _ _ _ _ => (pe_e e_law_bounds (hr.mono (by decide)) pass0 (pa_cons (pv 1) (pa_cons (pe_e e_law_pick (hr.mono (by decide)) pass0 (pa_cons (pv 1) (pa_cons (pe_lst (pa_cons (pe_lst (pa_cons pe_str (pa_cons pe_str pa_nil))) (pa_cons (pe_lst (pa_cons pe_str (pa_cons pe_str (pa_cons pe_str pa_nil)))) (pa_cons (pe_lst (pa_cons pe_str (pa_cons pe_str (pa_cons pe_str pa_nil)))) (pa_cons (pe_lst (pa_cons pe_str (pa_cons pe_str pa_nil))) pa_nil))))) pa_nil))) (pa_cons (pv 2) pa_nil))))))
      (pss_cons (ps_set (i := 6) sc_law.nd rfl (Or.inl rfl) (pe_e e_law_moves (hr.mono (by decide)) pass0 (pa_cons (pv 3) (pa_cons (pv 4) pa_nil))))
      (pss_cons (ps_if (pt_cmpR op_isN (pv 6) pe_non (nomark _)) (pss_one (ps_ret (pe_callB (cr_anyK (K := K) rfl rfl) (by rfl) T.n_any (by decide +kernel) (pa_cons (pe_lc (own := [("_law_bounds_here", 7)]) (g := gName 7) (tt := tYes) rfl sc_law.nd (pi_listK (K := K) rfl (pv 4)) (blkOk_by (N := ["_law_script", "_law_draw", "_law_many", "_law_deal_here", "_law_history", "_law_turn", "_law_whole", "_law_bounds_here", "_law_single", "_law_at", "_law_wide", "_law_less", "_law_found", "_law_middle", "_law_rest", "_law_done", "_law_now", "_law_late", "_law_lane"]) (sc := defScope s_law) (by decide +kernel)) (fun _ _ _ _ _ => (pg_name (i := 7) sc_law.nd rfl (Or.inl rfl))) (fun _ _ _ _ _ => pts_nil) (fun _ _ _ _ _ => (pe_cmpR op_isN (pe_e e_law_moves (hr.mono (by decide)) pass0 (pa_cons (pv 3) (pa_cons (pe_lst (pa_cons (pv 7) pa_nil)) pa_nil))) pe_non (nomark _)))) pa_nil)))) pss_nil)
      (pss_cons (ps_set (i := 8) sc_law.nd rfl (Or.inl rfl) (pe_e e_least_moves (hr.mono (by decide)) pass0 (pa_cons (pv 3) (pa_cons (pe_ix (ix_listK (K := K) rfl) (pv 4) pe_int (fun _ _ => rfl)) pa_nil))))
      (pss_cons (ps_if (PW.pt (pw_or (pt_cmpR op_ne (pe_e e_law_moves (hr.mono (by decide)) pass0 (pa_cons (pv 3) (pa_cons (pe_slice (sl_listK (K := K) rfl) (pv 4) po_none (po_some pe_int)) pa_nil))) (pe_callB (call_lenK (K := K) rfl) (by rfl) T.n_len PySem.boot_len (pa_cons (pe_fldK (K := K) rfl (pv 8) rfl) pa_nil)) (nomark _)) (pw_or1 (pt_not (pt_val (pe_em em_Moves_shows T.c_Moves (pv 8) (hr.mono (by decide)) pass0 (pa_cons (pv 3) (pa_cons (pe_ix (ix_listK (K := K) rfl) (pv 4) pe_int (fun _ _ => rfl)) pa_nil)))))))) (pss_one (ps_ret pe_bl)) pss_nil)
      (pss_cons (ps_if (PW.pt (pw_or (pt_cmpR op_ne (pe_e e_law_moves (hr.mono (by decide)) pass0 (pa_cons (pv 3) (pa_cons (pe_op op_cat (pv 4) (pe_slice (sl_listK (K := K) rfl) (pv 4) (po_some (pe_un un_neg pe_int)) po_none)) pa_nil))) (pv 6) (nomark _)) (pw_or1 (pt_cmpR op_ne (pe_e e_law_moves (hr.mono (by decide)) pass0 (pa_cons (pv 3) (pa_cons (pe_op op_cat (pe_slice (sl_listK (K := K) rfl) (pv 4) po_none (po_some pe_int)) (pv 4)) pa_nil))) (pv 6) (nomark _))))) (pss_one (ps_ret pe_bl)) pss_nil)
      (pss_cons (ps_set (i := 9) sc_law.nd rfl (Or.inl rfl) (pe_e e_law_take (hr.mono (by decide)) pass0 (pa_cons (pv 1) (pa_cons (pe_callB (call_lenK (K := K) rfl) (by rfl) T.n_len PySem.boot_len (pa_cons (pv 4) pa_nil)) pa_nil))))
      (pss_cons (ps_set (i := 10) sc_law.nd rfl (Or.inl rfl) (pe_op op_cat (pe_op op_cat (pe_slice (sl_listK (K := K) rfl) (pv 4) po_none (po_some (pv 9))) (pe_lst (pa_cons (pe_e e_law_wider (hr.mono (by decide)) pass0 (pa_cons (pv 1) (pa_cons (pe_ix (ix_listK (K := K) rfl) (pv 4) (pv 9) (fun _ _ => rfl)) (pa_cons (pv 2) pa_nil)))) pa_nil))) (pe_slice (sl_listK (K := K) rfl) (pv 4) (po_some (pe_op op_add (pv 9) pe_int)) po_none)))
      (pss_cons (ps_set (i := 11) sc_law.nd rfl (Or.inl rfl) (pe_op op_cat (pe_slice (sl_listK (K := K) rfl) (pv 4) po_none (po_some (pv 9))) (pe_slice (sl_listK (K := K) rfl) (pv 4) (po_some (pe_op op_add (pv 9) pe_int)) po_none)))
      (pss_cons (ps_if (PW.pt (pw_or (pt_cmpR op_gt (pe_e e_law_moves (hr.mono (by decide)) pass0 (pa_cons (pv 3) (pa_cons (pv 10) pa_nil))) (pv 6) (nomark _)) (pw_or1 (pt_cmpR op_gt (pe_e e_law_moves (hr.mono (by decide)) pass0 (pa_cons (pv 3) (pa_cons (pe_slice (sl_listK (K := K) rfl) (pv 4) po_none (po_some (pe_op op_add (pv 9) pe_int))) pa_nil))) (pv 6) (nomark _))))) (pss_one (ps_ret pe_bl)) pss_nil)
      (pss_cons (ps_if (PW.pt (pw_and (pt_cmpR (op_neNK (K := K) rfl hr.units) (pv 11) (pe_lst pa_nil) (nomark _)) (pw_and1 (pt_cmpR op_gt (pe_e e_law_moves (hr.mono (by decide)) pass0 (pa_cons (pv 3) (pa_cons (pv 11) pa_nil))) (pv 6) (nomark _))))) (pss_one (ps_ret pe_bl)) pss_nil)
      (pss_cons (ps_set (i := 12) sc_law.nd rfl (Or.inl rfl) (pe_e e_least_history (hr.mono (by decide)) (L2.passes_call (L2.takes_of rfl rfl rfl rfl) (fun _ _ _ _ h => h)) (pa_cons (pv 3) (pa_cons (pv 4) pa_nil))))
      (pss_cons (ps_if (PW.pt (pw_or (pt_cmpR op_ne (pe_fldK (K := K) rfl (pv 12) rfl) (pv 6) (nomark _)) (pw_or1 (pt_not (pt_val (pe_em em_History_shows T.c_History (pv 12) (hr.mono (by decide)) pass0 (pa_cons (pv 3) (pa_cons (pv 4) pa_nil)))))))) (pss_one (ps_ret pe_bl)) pss_nil)
      (pss_cons (ps_set (i := 13) sc_law.nd rfl (Or.inl rfl) (pe_ix (ix_listK (K := K) rfl) (pe_fldK (K := K) rfl (pv 12) rfl) (pv 9) (fun _ _ => rfl)))
      (pss_cons (ps_asg (pe_tup (pa_cons (pe_slice (sl_listK (K := K) rfl) (pv 4) (po_some (pe_op op_add (pv 9) pe_int)) po_none) (pa_cons pe_int (pa_cons (pv 3) pa_nil)))) (pg_tup rfl (pgs_cons (pg_name (i := 14) sc_law.nd rfl (Or.inl rfl)) (pgs_cons (pg_name (i := 15) sc_law.nd rfl (Or.inl rfl)) (pgs_cons (pg_name (i := 16) sc_law.nd rfl (Or.inr rfl)) pgs_nil)))))
      (pss_cons (ps_for (L2.passes_of rfl) rfl (pi_listK (K := K) rfl (pe_slice (sl_listK (K := K) rfl) (pe_fldK (K := K) rfl (pv 12) rfl) po_none (po_some (pe_op op_add (pv 9) pe_int)))) (pg_name (i := 17) sc_law.nd rfl (Or.inr rfl)) (pss_cons (ps_aug (i := 15) sc_law.nd rfl (Or.inl rfl) (pe_callB (call_lenK (K := K) rfl) (by rfl) T.n_len PySem.boot_len (pa_cons (pe_lock (pe_lc (own := [("_law_lane", 18)]) (g := gName 18) (tt := _) rfl sc_law.nd (pi_keys (pv 3)) (blkOk_by (N := ["_law_script", "_law_draw", "_law_many", "_law_deal_here", "_law_history", "_law_turn", "_law_whole", "_law_bounds_here", "_law_single", "_law_at", "_law_wide", "_law_less", "_law_found", "_law_middle", "_law_rest", "_law_done", "_law_now", "_law_late", "_law_lane"]) (sc := defScope s_law) (by decide +kernel)) (fun _ _ _ _ _ => (pg_name (i := 18) sc_law.nd rfl (Or.inl rfl))) (fun _ _ _ _ _ => (pts_one (pt_cmpR op_ne (pe_dget (hu_of hr) (pv 16) (pv 18) (fun _ _ => rfl)) (pe_dget (hu_of hr) (pv 17) (pv 18) (fun _ _ => rfl)) (nomark _)))) (fun _ _ _ _ _ => (pv 18)))) pa_nil)) ip_add)
      (pss_one (ps_set (i := 16) sc_law.nd rfl (Or.inr rfl) (pv 17)))))
      (pss_cons (ps_if (PW.pt (pw_and (pt_cmpR (op_neNK (K := K) rfl hr.units) (pv 14) (pe_lst pa_nil) (nomark _)) (pw_and1 (pt_cmpR op_ne (pe_op op_add (pe_e e_law_moves (hr.mono (by decide)) pass0 (pa_cons (pv 13) (pa_cons (pv 14) pa_nil))) (pv 15)) (pv 6) (nomark _))))) (pss_one (ps_ret pe_bl)) pss_nil)
      (pss_one (ps_ret (pe_e e_law_handed (hr.mono (by decide)) pass0 (pa_cons (pv 1) (pa_cons (pv 3) (pa_cons (pe_fldK (K := K) rfl (pv 12) rfl) pa_nil)))))))))))))))))))))))))), ?_⟩
    dsimp only [tSeq_ap, tAsg_ap, gName_ap, tC_ap, tNext_ap, tRet_ap, tAndV_ap, tCB_ap, tCons_ap, tNil_ap, tB_ap, tTest_ap, tNot_ap, tOr_ap, tAnd_ap, tIfS_ap, tOp_ap, tDrop_ap]
    refine ⟨_, rfl, (of_decide_eq_true (by rfl)), fun dr hdr => ?_⟩
    have e1 : Ex H (upd H dr (.lst [.ref s, .int 0])) := Ex.new hdr
    have hd1 : DrawAt K (upd H dr (.lst [.ref s, .int 0])) dr s xs 0 := ⟨upd_same, ((SqF.of hs).new hdr).exA (ExA.of e1)⟩
    have nold : ∀ {b : Addr} {o : HO}, H b = some o → b ≠ dr := fun hb => ne_of_none hb hdr
    generalize upd H dr (.lst [.ref s, .int 0]) = H1 at e1 hd1
    refine ⟨_, rfl, dr, s, xs, 0, 8, rfl, hd1, n5, by omega, by decide, fun n H2 eb2 hd2 n0 n8 => ?_⟩
    obtain ⟨j, rfl⟩ : ∃ j : Nat, n = j := ⟨n.toNat, (Int.toNat_of_nonneg n0).symm⟩
    refine ⟨_, _, rfl, rfl, ?_⟩
    dsimp only [tSeq_ap, tAsg_ap, gName_ap, tC_ap, tNext_ap, tRet_ap, tAndV_ap, tCB_ap, tCons_ap, tNil_ap, tB_ap, tTest_ap, tNot_ap, tOr_ap, tAnd_ap, tIfS_ap, tOp_ap, tDrop_ap]
    rw [show (1 : Int) + (j : Int) = ((1 + j : Nat) : Int) by push_cast; rfl]
    have m1 : 1 ≤ 1 + j := by omega
    have m8 : 1 + j ≤ 8 := by omega
    generalize 1 + j = m at m1 m8
    refine ⟨_, rfl, (of_decide_eq_true (by rfl)), fun p3 hp3 => ?_⟩
    have e3 : Ex H2 (upd H2 p3 (.lst [.str "x", .str "y", .str "w"])) := Ex.new hp3
    have hp33 : upd H2 p3 (.lst [.str "x", .str "y", .str "w"]) p3 = some (.lst ((["x", "y", "w"] : List Str).map V.str)) := upd_same
    have hd3 := hd2.ex e3
    have n3 : p3 ≠ dr := (ne_of_none hd2.d hp3).symm
    refine ⟨_, rfl, dr, s, p3, xs, _, m, ["x", "y", "w"], rfl, hd3, n5, by omega, m1, m8, hp33, n3, by decide, fun d H4 D hdn eb4 hd4 hD4 hDm => ?_⟩
    have o4 : ∀ b o, H b = some o → H4 b = some o := fun b o h => eb4 _ _ (nold h) (e3 _ _ (eb2 _ _ (nold h) (e1 _ _ h)))
    have d0 := dl0 hDm
    have L7 := lanes_len m
    have k4 : 0 + 1 + (lanes.take m).length ≤ 20 := by omega
    generalize lanes.take m = L at hD4 d0 hDm L7 k4 hd4
    generalize 0 + 1 + L.length = k at hd4 k4
    clear hDm hdn eb4 hd3 hp33 n3 e3 hd2 hp3 eb2 hd1 e1
    refine ⟨_, rfl, dr, s, xs, k, 5, rfl, hd4, n5, by omega, by decide, fun n H5 eb5 hd5 n0 nn => ?_⟩
    obtain ⟨t, rfl⟩ : ∃ t : Nat, n = t := ⟨n.toNat, (Int.toNat_of_nonneg n0).symm⟩
    refine ⟨_, _, rfl, rfl, _, rfl, by omega, by omega, fun h hh0 => ?_⟩
    have o5 : ∀ b o, H b = some o → H5 b = some o := fun b o h => eb5 _ _ (nold h) (o4 _ _ h)
    have hD5 : DlAt H5 d L D := eb5 _ _ (kd_ne_lst hD4 hd4.d) hD4
    have nh : dr ≠ h := ne_of_none hd5.d hh0
    have s5 : SqF K [dr, h] H5 s (xs.map V.int) := (hd5.s.new hh0).sub fun a ha => by
      rcases List.mem_cons.mp ha with rfl | ha
      · exact List.mem_cons_of_mem _ (List.mem_singleton.mpr rfl)
      · rw [List.mem_singleton.mp ha]; exact List.mem_cons_self
    refine lc_range (lo := 0) (fun i H' => ∃ (zs : List Z) (k' : Nat), zs.length = i ∧ H' h = some (.lst (zs.map fun z => V.ref z.1)) ∧ (∀ z ∈ zs, BndAt H' z.1 z.2) ∧ (∀ z ∈ zs, OkZ z) ∧ ExA [dr, h] H5 H' ∧ k' ≤ 21 + 10 * i ∧ DrawAt K H' dr s xs k')
      ⟨[], _, rfl, upd_same, fun z hz => absurd hz List.not_mem_nil, fun z hz => absurd hz List.not_mem_nil, ExA.of (Ex.new hh0), by omega, hd5.ex (Ex.new hh0)⟩ (fun i H' hi pv => ?_) fun H6 pv => ?_
    · obtain ⟨zs, k', zl, hzh, hzb, hzo, eA, kk, hd'⟩ := pv
      have i5 : i < 6 := by omega
      refine ⟨rfl, tyes ?_⟩
      refine ⟨_, rfl, _, rfl, (of_decide_eq_true (by rfl)), fun q1 hq1 => ⟨(of_decide_eq_true (by rfl)), fun q2 hq2 => ⟨(of_decide_eq_true (by rfl)), fun q3 hq3 => ⟨(of_decide_eq_true (by rfl)), fun q4 hq4 => ⟨(of_decide_eq_true (by rfl)), fun q5 hq5 => ?_⟩⟩⟩⟩⟩
      have pc := picks hq1 hq2 hq3 hq4 hq5
      have e6 := pc.1
      have pc := pc.2
      have hd6 := hd'.ex e6
      refine ⟨dr, s, q5, xs, k', _, rfl, hd6, n5, by omega, pc.1, ne_of_none' hd'.d hq1 hq2 hq3 hq4 hq5, by simp, fun y H7 hy eb7 hd7 => ?_⟩
      obtain ⟨q, rs, rfl, hq, ro⟩ := pc.2 y hy
      have nqd : q ≠ dr := fun e => by
        have h1 := hd6.d
        rw [← e, hq] at h1
        have h1 := Option.some.inj h1
        injection h1 with h1
        cases rs with
        | nil => cases h1
        | cons a b => injection h1 with h2 _; cases h2
      have hq7 := eb7 _ _ nqd hq
      have n3 := ro.n3
      refine ⟨_, rfl, dr, s, q, xs, _, m, rs, rfl, hd7, n5, by omega, m8, hq7, nqd, ro.nd, by omega, fun p H8 lo hi hp8 eb8 hd8 hB8 hlo => ?_⟩
      have oA : ExA [dr, h] H' H8 := fun b o hb hs => eb8 _ _ (fun z => hb (by simp [z])) (eb7 _ _ (fun z => hb (by simp [z])) (e6 _ _ hs))
      have hh8 : H8 h = some (.lst (zs.map fun z => V.ref z.1)) := eb8 _ _ nh.symm (eb7 _ _ nh.symm (e6 _ _ hzh))
      refine ⟨_, hh8, by rw [sizeLine_eq, List.length_map]; omega, zs ++ [(p, ⟨rs, lo, hi⟩)], _, by simp; omega, by rw [upd_same, List.map_append]; rfl, fun z hz => ?_, fun z hz => ?_, (eA.trans oA).upd (by simp), ?_, ⟨(upd_ne nh).trans hd8.d, (s5.exA ((eA.trans oA).upd (by simp))).sub fun a ha => by rw [List.mem_singleton.mp ha]; exact List.mem_cons_self⟩⟩
      · have up : ∀ {b : Addr} {B : Bn} {o : HO}, BndAt H8 b B → BndAt (upd H8 h o) b B := fun x => x.exA (l := [h]) ((ExA.refl _ _).upd (by simp)) fun a ha => by
          rw [List.mem_singleton.mp ha]
          exact ⟨_, hh8⟩
        rcases List.mem_append.mp hz with hz | hz
        · refine up ((hzb z hz).exA oA fun a ha => ?_)
          rcases List.mem_cons.mp ha with rfl | ha
          · exact ⟨_, hd'.d⟩
          · rw [List.mem_singleton.mp ha]
            exact ⟨_, hzh⟩
        · rw [List.mem_singleton.mp hz]
          exact up hB8
      · rcases List.mem_append.mp hz with hz | hz
        · exact hzo z hz
        · rw [List.mem_singleton.mp hz]
          exact okz_of ro hlo
      · omega
    · obtain ⟨zs, k6, zl, hzh, hzb, hzo, eA, kk, hd6⟩ := pv
      have o6 : ∀ b o, H b = some o → H6 b = some o := fun b o hb => eA _ _ (by simp [nold hb, ne_of_none (o5 _ _ hb) hh0]) (o5 _ _ hb)
      have hD6 : DlAt H6 d L D := eA _ _ (by simp [kd_ne_lst hD5 hd5.d, ne_of_none hD5 hh0]) hD5
      have hz6 : HZ H6 h zs := ⟨hzh, hzb⟩
      have z1 : 1 ≤ zs.length := by omega
      have z5 : zs.length ≤ 5 := by omega
      have k90 : k6 ≤ 90 := by omega
      clear hzh hzb eA hD5 hh0 s5 hd5 o5 eb5 hd4 hD4 k4 o4 zl kk
      have ok := hok d0 hzo z1 (by omega)
      have ndr : h ≠ dr := nh.symm
      refine ⟨_, rfl, _, rfl, d, h, U0, L, D, bns zs, rfl, hD6, hz6.hist, ok, fun can mw H7 e7 wh => ?_, fun hn H7 e7 => ?_⟩
      · refine ⟨_, rfl, rfl, false, bl_f (fun e => by cases e), iteF ?_⟩
        have canz : CanZ L zs := fun z hz => can z.2 (List.mem_map.mpr ⟨z, hz, rfl⟩)
        obtain ⟨z0, zr, hcons⟩ := List.exists_cons_of_length_pos (show 0 < zs.length by omega)
        have hz7 := hz6.ex e7
        have hD7 := e7 _ _ hD6
        have hd7 := hd6.ex e7
        have o7 : ∀ b o, H b = some o → H7 b = some o := fun b o h => e7 _ _ (o6 _ _ h)
        have m0 : z0 ∈ zs := by rw [hcons]; exact List.mem_cons_self
        have at0 : (zs.map fun z => V.ref z.1)[0]? = some (V.ref z0.1) := by rw [hcons]; rfl
        have ok0 := (hzo z0 m0).1
        have n12 := ok0.n2
        clear e7 hD6 hz6 hd6 o6
        refine ⟨_, rfl, _, rfl, _, _, _, _, rfl, rfl, sql hz7.1, atI_nat (j := 0) at0, d, z0.1, L, D, z0.2, rfl, hD7, d0.dl, hz7.2 z0 m0, ok0, canz z0 m0, by omega, fun x H8 ms way rds ns hh e8 hx8 lm => ?_⟩
        have hz8 := hz7.ex e8
        have hD8 := e8 _ _ hD7
        have ms60 : ms.length ≤ 60 := by
          have h1 := List.Nodup.length_le_of_subset lm.mv.ok.nd (l₂ := L) fun y hy => by
            obtain ⟨mm, h1, rfl⟩ := List.mem_map.mp hy
            exact (lm.mv.ok.at_ mm h1).1
          rw [List.length_map] at h1
          omega
        refine ⟨_, rfl, _, rfl, _, rfl, h, _, rfl, sql hz8.1, fun p hp => ?_⟩
        dsimp only [tSeq_ap, tAsg_ap, gName_ap, tC_ap, tNext_ap, tRet_ap, tAndV_ap, tCB_ap, tCons_ap, tNil_ap, tB_ap, tTest_ap, tNot_ap, tOr_ap, tAnd_ap, tIfS_ap, tOp_ap, tDrop_ap]
        refine mv_call d0 ((Ex.new hp) _ _ hD8) (hz8.take (c := 1) (j := 1) hp rfl z1) (okz_take 1 hzo) (canz.take 1) (by rw [List.length_take]; omega) (by rw [List.length_take]; omega) fun w1 H9 e9 wh1 => ?_
        have e89 := (Ex.new hp).trans e9
        have e79 := e8.trans e89
        have hx9 := hx8.ex e89
        obtain ⟨dx, am, ar, hx1, ⟨ts, hm1, hm2⟩, hr1⟩ := id hx9
        have lts := Paired.length hm2
        have ew : w1 = (ms.length : Int) := by
          rw [hcons] at wh1
          exact w_single wh1 (lm_whole d0.dl lm)
        refine ⟨_, rfl, x, _, dx, _, _, rfl, hx1, T.c_Moves, T.a_Moves_moves, rfl, _, _, rfl, lenL (sql hm1), rfl, false, bl_nt (congrArg V.int (by rw [ew, List.length_map, lts])), iteF ?_⟩
        refine ⟨_, rfl, x, dx, _, rfl, hx1, rfl, _, rfl, _, rfl, _, _, _, _, rfl, rfl, sql (e79 _ _ hz7.1), atI_nat (j := 0) at0, x, d, z0.1, L, D, z0.2, ms, way, rds, ns, hh, rfl, hx9, lm, e79 _ _ hD7, d0.dl, (hz7.2 z0 m0).ex e79, ok0, canz z0 m0, by omega, ms60, fun H10 e10 => ⟨true, rfl, iteF ?_⟩⟩
        have e710 := e79.trans e10
        have hz10 := hz7.ex e710
        have hD10 := e710 _ _ hD7
        have hd10 := hd7.ex e710
        have o10 : ∀ b o, H b = some o → H10 b = some o := fun b o h => e710 _ _ (o7 _ _ h)
        clear e710 e79 e8 e89 hx8 hx9 hx1 hm1 hm2 hr1 hz7 hD7 hd7 o7 hz8 hD8 e10 e9 hp lm
        refine ⟨_, rfl, _, rfl, _, rfl, _, rfl, _, rfl, h, _, rfl, sql hz10.1, fun p11 hp11 => ?_⟩
        have hy11 := hz10.last hp11 z1
        have hz11 := hz10.ex (Ex.new hp11 (o := .lst (cutV (zs.map fun z => V.ref z.1) (some (-1)) none)))
        refine ⟨h, p11, _, _, rfl, rfl, hz11.1, hy11.1, by rw [sizeLine_eq, List.length_map, List.length_map, List.length_drop]; omega, fun p12 hp12 => ?_⟩
        have hy12 := hz11.cat hy11 hp12
        have e12 := (Ex.new hp11 (o := .lst (cutV (zs.map fun z => V.ref z.1) (some (-1)) none))).trans (Ex.new hp12 (o := .lst ((zs.map fun z => V.ref z.1) ++ (zs.drop (zs.length - 1)).map fun z => V.ref z.1)))
        dsimp only [tSeq_ap, tAsg_ap, gName_ap, tC_ap, tNext_ap, tRet_ap, tAndV_ap, tCB_ap, tCons_ap, tNil_ap, tB_ap, tTest_ap, tNot_ap, tOr_ap, tAnd_ap, tIfS_ap, tOp_ap, tDrop_ap]
        refine mv_call d0 (e12 _ _ hD10) hy12 (okz_app hzo (okz_drop _ hzo)) (canz.app (canz.drop _)) (by rw [List.length_append, List.length_drop]; omega) (by rw [List.length_append, List.length_drop]; omega) fun w13 H13 e13 wh13 => ?_
        have e1013 := e12.trans e13
        have ew : w13 = mw := w_again z1 wh wh13
        refine ⟨_, rfl, rfl, false, bl_nt (congrArg V.int ew), iteF ?_⟩
        have hz13 := hz10.ex e1013
        have hD13 := e1013 _ _ hD10
        refine ⟨_, rfl, _, rfl, _, rfl, h, _, rfl, sql hz13.1, fun p14 hp14 => ?_⟩
        have hy14 := hz13.take (c := 1) (j := 1) hp14 rfl z1
        have hz14 := hz13.ex (Ex.new hp14 (o := .lst (cutV (zs.map fun z => V.ref z.1) none (some 1))))
        refine ⟨_, rfl, p14, h, _, _, rfl, rfl, hy14.1, hz14.1, by rw [sizeLine_eq, List.length_map, List.length_map, List.length_take]; omega, fun p15 hp15 => ?_⟩
        have hy15 := hy14.cat hz14 hp15
        have e15 := (Ex.new hp14 (o := .lst (cutV (zs.map fun z => V.ref z.1) none (some 1)))).trans (Ex.new hp15 (o := .lst (((zs.take 1).map fun z => V.ref z.1) ++ zs.map fun z => V.ref z.1)))
        dsimp only [tSeq_ap, tAsg_ap, gName_ap, tC_ap, tNext_ap, tRet_ap, tAndV_ap, tCB_ap, tCons_ap, tNil_ap, tB_ap, tTest_ap, tNot_ap, tOr_ap, tAnd_ap, tIfS_ap, tOp_ap, tDrop_ap]
        refine mv_call d0 (e15 _ _ hD13) hy15 (okz_app (okz_take _ hzo) hzo) ((canz.take _).app canz) (by rw [List.length_append, List.length_take]; omega) (by rw [List.length_append, List.length_take]; omega) fun w16 H16 e16 wh16 => ?_
        have e1316 := e15.trans e16
        have ew : w16 = mw := by
          rw [hcons] at wh wh16
          exact w_first wh wh16
        refine ⟨_, rfl, rfl, false, bl_nt (congrArg V.int ew), iteF ?_⟩
        have hz16 := hz13.ex e1316
        have hD16 := e1316 _ _ hD13
        have hd16 := (hd10.ex e1013).ex e1316
        have o16 : ∀ b o, H b = some o → H16 b = some o := fun b o h => e1316 _ _ (e1013 _ _ (o10 _ _ h))
        clear e1316 e1013 e12 e13 e15 e16 hy11 hz11 hy12 hy14 hz14 hy15 hp11 hp12 hp14 hp15 hz13 hz10 hD13 hD10 hd10 o10 wh13 wh16 ew
        refine ⟨_, rfl, _, rfl, _, _, rfl, lenL (sql hz16.1), dr, s, xs, k6, _, rfl, hd16, n5, by omega, by rw [List.length_map]; omega, fun n H17 eb17 hd17 n0 nn => ?_⟩
        obtain ⟨a, rfl⟩ : ∃ a : Nat, n = a := ⟨n.toNat, (Int.toNat_of_nonneg n0).symm⟩
        rw [List.length_map] at nn
        have ha : a < zs.length := by omega
        have hz17 := hz16.exB eb17 hd16.d ndr
        have hD17 : DlAt H17 d L D := eb17 _ _ (kd_ne_lst hD16 hd16.d) hD16
        have o17 : ∀ b o, H b = some o → H17 b = some o := fun b o h => eb17 _ _ (nold h) (o16 _ _ h)
        obtain ⟨za, hza⟩ : ∃ za, zs[a]? = some za := ⟨_, List.getElem?_eq_getElem ha⟩
        have mza := mem_of_at hza
        have ata : (zs.map fun z => V.ref z.1)[a]? = some (V.ref za.1) := by rw [List.getElem?_map, hza]; rfl
        clear hz16 eb17 hd16 hD16 o16
        refine ⟨_, rfl, _, rfl, _, rfl, h, _, rfl, sql hz17.1, fun p18 hp18 => ?_⟩
        have hy18 := hz17.take (c := (a : Int)) (j := a) hp18 rfl (by omega)
        have e18 := Ex.new hp18 (o := .lst (cutV (zs.map fun z => V.ref z.1) none (some (a : Int))))
        have hz18 := hz17.ex e18
        have hd18 := hd17.ex e18
        have nza : za.1 ≠ dr := by
          obtain ⟨T, h1, _⟩ := hz18.2 za mza
          exact kd_ne_lst h1 hd18.d
        have n18 : p18 ≠ dr := (ne_of_none hd17.d hp18).symm
        refine ⟨_, rfl, _, rfl, _, rfl, _, _, _, _, rfl, rfl, sql hz18.1, atI_nat ata, _, rfl, dr, s, za.1, xs, _, m, za.2, rfl, hd18, n5, by omega, hz18.2 za mza, (hzo za mza).1, nza, fun p19 H19 lo hi hp19 eb19 hd19 hB19 hlo => ?_⟩
        have wd : Wider za.2 ⟨za.2.rs, lo, hi⟩ := ⟨rfl, hlo⟩
        have hy19 := hy18.exB eb19 hd18.d n18
        have hz19 := hz18.exB eb19 hd18.d ndr
        have hD19 : DlAt H19 d L D := eb19 _ _ (kd_ne_lst (e18 _ _ hD17) hd18.d) (e18 _ _ hD17)
        have o19 : ∀ b o, H b = some o → H19 b = some o := fun b o h => eb19 _ _ (nold h) (e18 _ _ (o17 _ _ h))
        clear hy18 e18 hz18 hd18 n18 eb19 hz17 hD17 o17 hd17 hp18
        refine ⟨(of_decide_eq_true (by rfl)), fun p20 hp20 => ?_⟩
        have e20 := Ex.new hp20 (o := .lst [.ref p19])
        have hy20 := HZ.one hB19 hp20
        have hw20 := hy19.ex e20
        have hz20 := hz19.ex e20
        have hd20 := hd19.ex e20
        have hD20 := e20 _ _ hD19
        have o20 : ∀ b o, H b = some o → _ := fun b o h => e20 _ _ (o19 _ _ h)
        generalize upd H19 p20 (.lst [.ref p19]) = H20 at e20 hy20 hw20 hz20 hd20 hD20 o20
        refine ⟨p18, p20, _, _, rfl, rfl, hw20.1, hy20.1, by rw [sizeLine_eq, List.length_map, List.length_take]; simp; omega, fun p21 hp21 => ?_⟩
        have hy21 := hw20.cat hy20 hp21
        have e21 := Ex.new hp21 (o := .lst (((zs.take a).map fun z => V.ref z.1) ++ [((p19, ⟨za.2.rs, lo, hi⟩) : Z)].map fun z => V.ref z.1))
        refine ⟨_, rfl, _, rfl, _, _, rfl, rfl, _, rfl, h, _, rfl, sql (hz20.ex e21).1, fun p22 hp22 => ?_⟩
        have hy22 := (hz20.ex e21).drop (c := (a : Int) + 1) (j := a + 1) hp22 (by omega) (by omega)
        have e22 := e21.trans (Ex.new hp22 (o := .lst (cutV (zs.map fun z => V.ref z.1) (some ((a : Int) + 1)) none)))
        have hy21' := hy21.ex (Ex.new hp22 (o := .lst (cutV (zs.map fun z => V.ref z.1) (some ((a : Int) + 1)) none)))
        refine ⟨p21, p22, _, _, rfl, rfl, hy21'.1, hy22.1, by rw [sizeLine_eq, List.length_map, List.length_map, List.length_append, List.length_take, List.length_drop]; simp; omega, fun p23 hp23 => ?_⟩
        have hy23 := hy21'.cat hy22 hp23
        have e23 := e22.trans (Ex.new hp23 (o := .lst (((zs.take a ++ [((p19, ⟨za.2.rs, lo, hi⟩) : Z)]).map fun z => V.ref z.1) ++ (zs.drop (a + 1)).map fun z => V.ref z.1)))
        have hz23 := hz20.ex e23
        have hd23 := hd20.ex e23
        have hD23 := e23 _ _ hD20
        have o23 : ∀ b o, H b = some o → _ := fun b o h => e23 _ _ (o20 _ _ h)
        clear hy21 e21 hy22 e22 hy21' e23 hw20 hy20 hz20 hd20 hD20 o20 e20 hy19 hz19 hd19 hD19 o19 hB19
        generalize upd _ p23 _ = H23 at hy23 hz23 hd23 hD23 o23
        refine ⟨_, rfl, _, rfl, _, rfl, h, _, rfl, sql hz23.1, fun p24 hp24 => ?_⟩
        have hy24 := hz23.take (c := (a : Int)) (j := a) hp24 rfl (by omega)
        have e24 := Ex.new hp24 (o := .lst (cutV (zs.map fun z => V.ref z.1) none (some (a : Int))))
        refine ⟨_, rfl, _, rfl, _, _, rfl, rfl, _, rfl, h, _, rfl, sql (hz23.ex e24).1, fun p25 hp25 => ?_⟩
        have hy25 := (hz23.ex e24).drop (c := (a : Int) + 1) (j := a + 1) hp25 (by omega) (by omega)
        have e25 := Ex.new hp25 (o := .lst (cutV (zs.map fun z => V.ref z.1) (some ((a : Int) + 1)) none))
        have hy24' := hy24.ex e25
        refine ⟨p24, p25, _, _, rfl, rfl, hy24'.1, hy25.1, by rw [sizeLine_eq, List.length_map, List.length_map, List.length_take, List.length_drop]; omega, fun p26 hp26 => ?_⟩
        have hl26 := hy24'.cat hy25 hp26
        have e26 := (e24.trans e25).trans (Ex.new hp26 (o := .lst (((zs.take a).map fun z => V.ref z.1) ++ (zs.drop (a + 1)).map fun z => V.ref z.1)))
        have hw26 := hy23.ex e26
        have hz26 := hz23.ex e26
        have hd26 := hd23.ex e26
        have hD26 := e26 _ _ hD23
        have o26 : ∀ b o, H b = some o → _ := fun b o h => e26 _ _ (o23 _ _ h)
        clear hy24 e24 hy25 e25 hy24' e26 hy23 hz23 hd23 hD23 o23
        generalize upd _ p26 _ = H26 at hl26 hw26 hz26 hd26 hD26 o26
        -- wider bounds cost no more
        have okw : ∀ z ∈ zs.take a ++ [((p19, ⟨za.2.rs, lo, hi⟩) : Z)] ++ zs.drop (a + 1), OkZ z := okz_app (okz_app (okz_take _ hzo) fun z hz => by rw [List.mem_singleton.mp hz]; exact wd.okz (b := za.1) (hzo za mza)) (okz_drop _ hzo)
        have canw : CanZ L (zs.take a ++ [((p19, ⟨za.2.rs, lo, hi⟩) : Z)] ++ zs.drop (a + 1)) := ((canz.take _).app fun z hz => by rw [List.mem_singleton.mp hz]; exact wd.can (canz za mza)).app (canz.drop _)
        refine ⟨_, rfl, _, rfl, ?_⟩
        dsimp only [tSeq_ap, tAsg_ap, gName_ap, tC_ap, tNext_ap, tRet_ap, tAndV_ap, tCB_ap, tCons_ap, tNil_ap, tB_ap, tTest_ap, tNot_ap, tOr_ap, tAnd_ap, tIfS_ap, tOp_ap, tDrop_ap]
        refine mv_call d0 hD26 hw26 okw canw (by rw [List.length_append, List.length_append, List.length_singleton]; omega) (by rw [List.length_append, List.length_append, List.length_take, List.length_drop, List.length_singleton]; omega) fun w27 H27 e27 wh27 => ?_
        have lw := w_wide hza wd wh wh27
        refine ⟨_, rfl, _, _, rfl, rfl, false, bl_f (by omega), iteF ?_⟩
        have hz27 := hz26.ex e27
        have hD27 := e27 _ _ hD26
        refine ⟨_, rfl, _, rfl, _, rfl, _, _, rfl, rfl, _, rfl, h, _, rfl, sql hz27.1, fun p28 hp28 => ?_⟩
        have hy28 := hz27.take (c := (a : Int) + 1) (j := a + 1) hp28 (by omega) (by omega)
        dsimp only [tSeq_ap, tAsg_ap, gName_ap, tC_ap, tNext_ap, tRet_ap, tAndV_ap, tCB_ap, tCons_ap, tNil_ap, tB_ap, tTest_ap, tNot_ap, tOr_ap, tAnd_ap, tIfS_ap, tOp_ap, tDrop_ap]
        refine mv_call d0 ((Ex.new hp28) _ _ hD27) hy28 (okz_take _ hzo) (canz.take _) (by rw [List.length_take]; omega) (by rw [List.length_take]; omega) fun w29 H29 e29 wh29 => ?_
        have lw := w_pre _ wh wh29
        refine ⟨_, rfl, _, _, rfl, rfl, false, bl_f (by omega), iteF ?_⟩
        have e2629 := e27.trans ((Ex.new hp28).trans e29)
        have hl29 := hl26.ex e2629
        have hz29 := hz26.ex e2629
        have hd29 := hd26.ex e2629
        have hD29 := e2629 _ _ hD26
        have o29 : ∀ b o, H b = some o → H29 b = some o := fun b o h => e2629 _ _ (o26 _ _ h)
        clear e27 wh27 hz27 hD27 hp28 hy28 e29 wh29 e2629 hl26 hw26 hz26 hd26 hD26 o26
        apply tailed (H := H29)
        · intro tail
          refine ⟨_, rfl, (of_decide_eq_true (by rfl)), fun p30 hp30 => ?_⟩
          have e30 : Ex H29 (upd H29 p30 (.lst [])) := Ex.new hp30
          have hn30 : upd H29 p30 (.lst []) p30 = some (.lst []) := upd_same
          generalize upd H29 p30 (.lst []) = H30 at e30 hn30
          have hl30 := hl29.ex e30
          refine ⟨p26, p30, _, rfl, rfl, sql hl30.1, sql (xs := []) hn30, ?_⟩
          by_cases q1 : zs.length = 1
          · refine ⟨false, congrArg V.bl ?_, iteF ?_⟩
            · have : zs.take a ++ zs.drop (a + 1) = [] := List.eq_nil_of_length_eq_zero (by rw [List.length_append, List.length_take, List.length_drop]; omega)
              rw [this]; rfl
            · exact tail H30 e30
          · have l0 : 1 ≤ (zs.take a ++ zs.drop (a + 1)).length := by rw [List.length_append, List.length_take, List.length_drop]; omega
            refine ⟨true, congrArg V.bl ?_, iteT ?_⟩
            · obtain ⟨y, ys, e⟩ := List.exists_cons_of_length_pos l0
              rw [e]; rfl
            · refine ⟨_, rfl, _, rfl, ?_⟩
              dsimp only [tSeq_ap, tAsg_ap, gName_ap, tC_ap, tNext_ap, tRet_ap, tAndV_ap, tCB_ap, tCons_ap, tNil_ap, tB_ap, tTest_ap, tNot_ap, tOr_ap, tAnd_ap, tIfS_ap, tOp_ap, tDrop_ap]
              refine mv_call d0 (e30 _ _ hD29) hl30 (okz_app (okz_take _ hzo) (okz_drop _ hzo)) ((canz.take _).app (canz.drop _)) l0 (by rw [List.length_append, List.length_take, List.length_drop]; omega) fun w31 H31 e31 wh31 => ?_
              have lw := w_less hza wh wh31
              exact ⟨_, rfl, _, _, rfl, rfl, false, bl_f (by omega), iteF (tail _ (e30.trans e31))⟩
        intro H32 e32
        have hl32 := hl29.ex e32
        have hz32 := hz29.ex e32
        have hd32 := hd29.ex e32
        have hD32 := e32 _ _ hD29
        have o32 : ∀ b o, H b = some o → H32 b = some o := fun b o h => e32 _ _ (o29 _ _ h)
        clear e32 hl29 hz29 hd29 hD29 o29
        refine iteF ⟨_, rfl, _, rfl, d, h, U0, L, D, bns zs, rfl, hD32, hz32.hist, ok, fun can x33 H33 Es mm ps e33 hi33 hk => ?_, fun ⟨B, hB, hn⟩ => absurd (can B hB) hn⟩
        have em : mm = mw := hk.whole.uniq wh
        subst em
        obtain ⟨dx33, ad, ap, hx33, ⟨ts, hts, htp⟩, hps⟩ := id hi33
        refine ⟨_, rfl, x33, _, dx33, _, _, rfl, hx33, T.c_History, T.a_History_moves, rfl, _, rfl, rfl, false, bl_nt rfl, iteF ?_⟩
        refine ⟨_, rfl, x33, dx33, _, rfl, hx33, rfl, _, rfl, _, rfl, x33, d, h, U0, L, D, bns zs, Es, mm, ps, rfl, hi33, hk, e33 _ _ hD32, (hz32.ex e33).hist, ok, can, fun H34 e34 => ⟨true, rfl, iteF ?_⟩⟩
        have e3234 := e33.trans e34
        have hz34 := hz32.ex e3234
        have hd34 := hd32.ex e3234
        have hD34 := e3234 _ _ hD32
        have o34 : ∀ b o, H b = some o → H34 b = some o := fun b o h => e3234 _ _ (o32 _ _ h)
        have hx34 := e34 _ _ hx33
        have hts34 := e34 _ _ hts
        have htp34 : Paired (fun t E => DlAt H34 t L E) ts Es := Paired.mapP htp fun _ _ r => e34 _ _ r
        clear hl32 hz32 hd32 hD32 o32 hi33 hx33 hts htp hps e33 e34 e3234
        have lE : Es.length = zs.length := by rw [hk.win.length, bns_len]
        have lT : ts.length = Es.length := htp34.length
        obtain ⟨ta, hta⟩ : ∃ ta, ts[a]? = some ta := ⟨_, List.getElem?_eq_getElem (by omega)⟩
        obtain ⟨Ea, hEa, hDa⟩ := paired_at htp34 hta
        have att : (ts.map V.ref)[a]? = some (V.ref ta) := by rw [List.getElem?_map, hta]; rfl
        refine ⟨_, rfl, x33, _, dx33, _, _, rfl, hx34, T.c_History, T.a_History_deals, rfl, _, rfl, _, _, _, _, rfl, rfl, sql hts34, atI_nat att, ?_⟩
        refine ⟨_, rfl, _, rfl, _, _, rfl, rfl, _, rfl, h, _, rfl, sql hz34.1, fun p35 hp35 => ?_⟩
        have hy35 := hz34.drop (c := (a : Int) + 1) (j := a + 1) hp35 (by omega) (by omega)
        have e35 := Ex.new hp35 (o := .lst (cutV (zs.map fun z => V.ref z.1) (some ((a : Int) + 1)) none))
        refine ⟨_, rfl, (of_decide_eq_true (by rfl)), fun t36 ht36 => ?_⟩
        have e36 := Ex.new ht36 (o := .tup [.ref p35, .int 0, .ref d])
        have hy36 := hy35.ex e36
        have e3436 := e35.trans e36
        have hz36 := hz34.ex e3436
        have hd36 := hd34.ex e3436
        have hD36 := e3436 _ _ hD34
        have o36 : ∀ b o, H b = some o → _ := fun b o h => e3436 _ _ (o34 _ _ h)
        have hx36 := e3436 _ _ hx34
        have hts36 := e3436 _ _ hts34
        have htp36 := Paired.mapP htp34 fun t E (r : DlAt H34 t L E) => (e3436 _ _ r : DlAt _ t L E)
        have htt36 : upd (upd H34 p35 (.lst (cutV (zs.map fun z => V.ref z.1) (some ((a : Int) + 1)) none))) t36 (.tup [.ref p35, .int 0, .ref d]) t36 = some (.tup [.ref p35, .int 0, .ref d]) := upd_same
        clear hy35 e35 e36 e3436 hz34 hd34 hD34 o34 hx34 hts34 htp34
        generalize upd _ t36 _ = H36 at hy36 hz36 hd36 hD36 o36 hx36 hts36 htp36 htt36
        refine ⟨t36, _, rfl, sqt htt36, rfl, _, _, rfl, _, _, rfl, _, _, rfl, rfl, ?_⟩
        dsimp only [tSeq_ap, tAsg_ap, gName_ap, tC_ap, tNext_ap, tRet_ap, tAndV_ap, tCB_ap, tCons_ap, tNil_ap, tB_ap, tTest_ap, tNot_ap, tOr_ap, tAnd_ap, tIfS_ap, tOp_ap, tDrop_ap]
        refine ⟨_, rfl, x33, _, dx33, _, _, rfl, hx36, T.c_History, T.a_History_deals, rfl, _, rfl, _, _, rfl, rfl, _, rfl, ad, _, rfl, sql hts36, fun p37 hp37 => ?_⟩
        have e37 := Ex.new hp37 (o := .lst (cutV (ts.map V.ref) none (some ((a : Int) + 1))))
        have hp37' : upd H36 p37 (.lst (cutV (ts.map V.ref) none (some ((a : Int) + 1)))) p37 = some (.lst ((ts.take (a + 1)).map V.ref)) := by
          rw [upd_same, show (a : Int) + 1 = ((a + 1 : Nat) : Int) by omega, cut_take (by rw [List.length_map]; omega), List.map_take]
        have hy37 := hy36.ex e37
        have hz37 := hz36.ex e37
        have hd37 := hd36.ex e37
        have hD37 := e37 _ _ hD36
        have o37 : ∀ b o, H b = some o → _ := fun b o h => e37 _ _ (o36 _ _ h)
        have hx37 := e37 _ _ hx36
        have hts37 := e37 _ _ hts36
        have htp37 := Paired.mapP htp36 fun t E (r : DlAt H36 t L E) => (e37 _ _ r : DlAt _ t L E)
        clear hy36 hz36 hd36 hD36 o36 hx36 hts36 htp36 htt36 e37
        generalize upd _ p37 _ = H37 at hp37' hy37 hz37 hd37 hD37 o37 hx37 hts37 htp37
        refine forl (td := tC (.ref p37)) (sql hp37') (fun H1 Q' q' => q') (fun i σ' H' => ∃ (na : Addr) (x17 x18 : Option V), σ' = [some (V.ref s), some (.ref dr), some (.int m), some (.ref d), some (.ref h), none, some (.int mm), none, some (.ref x), some (.int a), some (.ref p23), some (.ref p26), some (.ref x33), some (.ref ta), some (.ref p35), some (.int (pth L D (Es.take i))), some (.ref na), x17, x18] ∧ Ex H37 H' ∧ DlAt H' na L (lst D (Es.take i)))
          ⟨d, _, _, rfl, Ex.refl _, hD37⟩ (fun i σ' H' pv => ?_) (fun i v σ' H' hv pv => ?_) fun σ' H38 pv => ?_
        · obtain ⟨_, _, _, _, e, _⟩ := pv
          exact sql (e _ _ hp37')
        · obtain ⟨na, x17, x18, rfl, e, hna⟩ := pv
          rw [List.getElem?_map] at hv
          cases hti : (ts.take (a + 1))[i]? with
          | none => rw [hti] at hv; cases hv
          | some t =>
          rw [hti] at hv
          cases hv
          have hti : ts[i]? = some t := by
            rw [List.getElem?_take] at hti
            split at hti
            · exact hti
            · cases hti
          obtain ⟨E', hE', htE⟩ := paired_at htp37 hti
          have hD38 := e _ _ hD37
          have ht38 := e _ _ htE
          refine ⟨_, rfl, ?_⟩
          refine lcd hD38 (by omega) (fun H1 Q' q' => ⟨_, rfl, q'⟩) (fun l => decide (lst D (Es.take i) l ≠ E' l)) V.str (fun z hz H6 eb rd Qy Qn g1 g2 => ⟨rfl, ?_⟩) fun pl H6 hpl e6 h6 => ?_
          · refine ⟨_, rfl, _, rfl, na, _, rfl, gk (rd_of hD38 hna eb rd) hz, _, rfl, _, rfl, t, _, rfl, gk (rd_of hD38 ht38 eb rd) hz, rfl, ?_⟩
            by_cases hq : lst D (Es.take i) z = E' z
            · refine ⟨false, ?_, iteF (g2 ?_ _ (Ex.refl _))⟩
              · rw [hq, decide_eq_true rfl]; rfl
              · exact decide_eq_false fun h => h hq
            · refine ⟨true, ?_, iteT ⟨_, rfl, g1 ?_ _ (Ex.refl _)⟩⟩
              · rw [decide_eq_false fun h => hq (by injection h)]; rfl
              · exact decide_eq_true hq
          refine ⟨_, _, rfl, lenL (sql h6), _, _, rfl, rfl, ?_⟩
          refine ⟨_, rfl, t, some (.ref t), x18, ?_, e.trans e6, by rw [lst_take hE']; exact e6 _ _ ht38⟩
          rw [pth_take hE', List.length_map]
          rfl
        · obtain ⟨na, x17, x18, rfl, e, hna⟩ := pv
          rw [List.length_map, List.length_take, lT, lE, Nat.min_eq_left (by omega)]
          have hy38 := hy37.ex e
          have hz38 := hz37.ex e
          have hd38 := hd37.ex e
          have hD38 := e _ _ hD37
          have o38 : ∀ b o, H b = some o → H38 b = some o := fun b o h => e _ _ (o37 _ _ h)
          have hx38 := e _ _ hx37
          have hts38 := e _ _ hts37
          have htp38 := Paired.mapP htp37 fun t E (r : DlAt H37 t L E) => (e _ _ r : DlAt H38 t L E)
          clear hy37 hz37 hd37 hD37 o37 hx37 hts37 htp37 e hp37'
          apply tailed (H := H38)
          · intro tail
            refine ⟨_, rfl, (of_decide_eq_true (by rfl)), fun p39 hp39 => ?_⟩
            have e39 : Ex H38 (upd H38 p39 (.lst [])) := Ex.new hp39
            have hn39 : upd H38 p39 (.lst []) p39 = some (.lst []) := upd_same
            generalize upd H38 p39 (.lst []) = H39 at e39 hn39
            have hy39 := hy38.ex e39
            refine ⟨p35, p39, _, rfl, rfl, sql hy39.1, sql (xs := []) hn39, ?_⟩
            by_cases q1 : zs.length ≤ a + 1
            · refine ⟨false, congrArg V.bl ?_, iteF ?_⟩
              · rw [List.drop_eq_nil_of_le q1]; rfl
              · exact tail H39 e39
            · have l0 : 1 ≤ (zs.drop (a + 1)).length := by rw [List.length_drop]; omega
              refine ⟨true, congrArg V.bl ?_, iteT ?_⟩
              · obtain ⟨y, ys, e⟩ := List.exists_cons_of_length_pos l0
                rw [e]; rfl
              · obtain ⟨Ea', hEa', hDa'⟩ := paired_at htp38 hta
                rw [hEa] at hEa'
                cases hEa'
                have hok := hk.ok Ea (mem_of_at hEa)
                refine ⟨_, rfl, _, rfl, ?_⟩
                dsimp only [tSeq_ap, tAsg_ap, gName_ap, tC_ap, tNext_ap, tRet_ap, tAndV_ap, tCB_ap, tCons_ap, tNil_ap, tB_ap, tTest_ap, tNot_ap, tOr_ap, tAnd_ap, tIfS_ap, tOp_ap, tDrop_ap]
                refine mv_call ⟨hok.1, hok.2, d0.n⟩ (e39 _ _ hDa') hy39 (okz_drop _ hzo) (canz.drop _) l0 (by rw [List.length_drop]; omega) fun w41 H41 e41 wh41 => ?_
                have lw := w_rest hk.win hk.eq wh (n := w41) (j := a) (by rw [lst_take hEa]; exact wh41)
                exact ⟨_, rfl, _, _, rfl, rfl, _, rfl, rfl, false, bl_nt (congrArg V.int lw), iteF (tail _ (e39.trans e41))⟩
          intro H40 e40
          have htp40 := Paired.mapP htp38 fun t E (r : DlAt H38 t L E) => (e40 _ _ r : DlAt H40 t L E)
          refine iteF ⟨_, rfl, _, rfl, _, rfl, x33, _, dx33, _, _, rfl, e40 _ _ hx38, T.c_History, T.a_History_deals, rfl, dr, d, ad, U0, L, D, Es, rfl, e40 _ _ hD38, d0.dl, ⟨ts, e40 _ _ hts38, htp40⟩, hk.cln, d0.du, hk.ok, by decide, U0_w, by decide +kernel, by omega, fun H' e => q _ fun b o h => e _ _ (e40 _ _ (o38 _ _ h))⟩
      · refine ⟨_, rfl, rfl, true, rfl, iteT ?_⟩
        have hz7 := hz6.ex e7
        have hD7 := e7 _ _ hD6
        refine lcv zs (fun z => V.ref z.1) (sql hz7.1) (by omega) (fun Q' q' => ⟨_, rfl, q'⟩) (fun _ => true) (fun z => .bl (!canB L z.2)) (fun z hz H8 e8 Qy Qn g1 g2 => ⟨rfl, tyes ?_⟩) fun p9 H9 hp9 e9 h9 => ?_
        · refine ⟨_, rfl, _, rfl, (of_decide_eq_true (by rfl)), fun p hp => ⟨d, p, U0, L, D, bns [z], rfl, (Ex.new hp) _ _ (e8 _ _ hD7), HZ.hist ⟨upd_same, fun y hy => ?_⟩, hok d0 (fun y hy => ?_) (by simp) (by simp), fun can m H2 e2 _ => ⟨rfl, ?_⟩, fun hn H2 e2 => ⟨rfl, ?_⟩⟩⟩
          · rw [List.mem_singleton.mp hy]
            exact ((hz7.2 z hz).ex e8).ex (Ex.new hp)
          · rw [List.mem_singleton.mp hy]
            exact hzo z hz
          · have c : canB L z.2 = true := decide_eq_true (can z.2 (List.mem_singleton.mpr rfl))
            refine cgv (congrArg V.bl ?_) (g1 rfl _ ((Ex.new hp).trans e2))
            rw [c]; rfl
          · have c : canB L z.2 = false := decide_eq_false fun c => by
              obtain ⟨B, hB, hn⟩ := hn
              rw [List.mem_singleton.mp hB] at hn
              exact hn c
            refine cgv (congrArg V.bl ?_) (g1 rfl _ ((Ex.new hp).trans e2))
            rw [c]; rfl
        · refine ⟨p9, zs.map (fun z => !canB L z.2), rfl, sql (by rw [h9, List.map_map, List.filter_eq_self.mpr fun _ _ => rfl]; rfl), ?_⟩
          refine cgv (congrArg V.bl ?_) (q _ fun b o h => e9 _ _ (e7 _ _ (o6 _ _ h)))
          obtain ⟨B, hB, hn⟩ := hn
          obtain ⟨z, hz, rfl⟩ := mem_bns hB
          refine (List.any_eq_true.mpr ⟨_, List.mem_map.mpr ⟨z, hz, rfl⟩, ?_⟩)
          show (!canB L z.2) = true
          rw [show canB L z.2 = false from decide_eq_false hn]; rfl
end
end K55


set_option Elab.async false
set_option linter.all false
set_option maxRecDepth 100000
set_option maxHeartbeats 0
namespace K55
open PySem PySem.Spec PyProof.Rows L2 Evl
/-- what promises the same whatever flies out lets nothing out -/
theorem FnOk.quiet {w : World} {K : PySem.W.Frag} {mg : Str → Option Value} {base : Heap} {k : Nat} {f : Addr} {fd : FuncData} {ps : List Str} {sp : Sp} (F : FnOk P w K mg base (L2.CX P w) k f fd ps sp) (h : ∀ vs H Q E, sp vs H Q E → sp vs H Q E0) : FnOk P w K mg base CX0 k f fd ps sp :=
  ⟨F.len, fun A outer s H args us vs Q E hr he hb hv hs => codeAny_mono (F.run A outer s H args us vs Q E0 hr he hb hv (h _ _ _ _ hs)) fun r s' q => by
    cases r with
    | ok c => cases c <;> exact q
    | error e =>
      obtain ⟨_, _, _, _, _, _, _, _, _, _, _, _, x⟩ := q
      exact x⟩
theorem sp_law_any {K : PySem.W.Frag} (vs : List V) (H : Hp) (Q : VK) (E : XK) (h : spLaw K vs H Q E) : spLaw K vs H Q E0 := h
theorem law_facts {w : World} {K : PySem.W.Frag} {h : Heap} {mg : Str → Option Value} {f : Addr} (X : K.In h) (G : h.Ns mainGlobals mg) (hf : mg ("law" : Str) = some (.ref f)) (c : SaysN K) :
    ∃ fd : FuncData, (∀ (s : Shared) (u : Value), BindsTo s fd ⟨[u], []⟩ [("_law_script", u)]) ∧ ∀ base : Heap, K.In base → base.Ns mainGlobals mg → FnOk P w K mg base CX0 12 f fd ["_law_script"] (spLaw K) := by
  have T : Txt K mg := ⟨⟨h, X, G⟩, c.d, c.nd⟩
  obtain ⟨fd, F⟩ := T.f_law
  have e := hf.symm.trans T.g_law
  cases e
  have b := FunD.bindsA (ps := ["_law_script"]) F fun _ _ _ _ _ _ us hl => match us, hl with | [_], _ => rfl
  exact ⟨fd, fun s u => b s [u] rfl, fun base _ _ => FnOk.quiet (fn_law (w := w) (base := base) T F) sp_law_any⟩
end K55
open PySem PySem.W PySem.Calls PyProof.Rows
theorem PySem.Challenge.cw_allbrokers_k55_whole_histories_and_moves_holds : PySem.Challenge.rw_allbrokers_k55_whole_histories_and_moves.Holds := by
  w_on; o_law
  refine HandSHeadRun.head_any (r := K55.R) (q := view K55.R.prog [66]) (H := K55.hk) (ob := K55.ob) (M := 20000) (loose := K55.names) (d := HandSHeadRun.topDef K55.R.prog 66) (kwd := []) K55.ob_eq
    (by kernel_rfl) (fun s => by kernel_rfl) K55.run (by kernel_rfl) (by kernel_rfl) (by kernel_rfl) (by rfl) (by first | assumption | decide +kernel) (by decide +kernel) ⟨rfl, rfl, rfl, rfl, rfl, by decide +kernel⟩ ?hw ?hc
  case hw => w_witness2
  case hc =>
    refine L2.walk_ofE (l := PySem.Challenge.rw_allbrokers_k55_whole_histories_and_moves) (n := 63) (k := 12) (x := "_law_script") (CX := L2.CX0) rfl (by decide) (by kernel_rfl) ⟨rfl, by decide, by decide⟩ ?F (fun _ _ _ _ z => z)
    intro w mg fa h Y G hmg0
    obtain ⟨K, KX, c⟩ := Y
    have hmg : mg ("law" : PySem.Str) = some (.ref fa) := by
      have e : (HandSHeadRun.topDef K55.R.prog 66).name = ("law" : PySem.Str) := by kernel_rfl
      rw [← e]
      exact hmg0
    obtain ⟨fd, hb, hF⟩ := K55.law_facts (w := w) KX G hmg c
    exact ⟨K, fd, K55.spLaw K, KX, hb, fun H a ns hl _ hS => ⟨a, ns, rfl, hS, Nat.le_trans hl (by decide), fun _ _ => rfl⟩, hF⟩

