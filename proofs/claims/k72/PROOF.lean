import PyProof.Rows.All
import Wide.All
import OpenK.AllK
import Wide.FinOn
import PySem.Challenge.RW_cointakes_k72_known_long_rows
import HandS.Base
import HandS.Call
import HandS.List
import HandS.Comp
import HandS.Dict
import KE.KeyNested
import HandS.HeadHook1
import KE.SortData
import HandS.TupLe
import HandS.Style
import HandS.TupAny
import HandS.Deep
import HandS.Conv
import HandS.SortInts
import HandS.IsInst
import KE.DataCmp
import HandS.Wide
import HandS.TupMul
import KE.KDictWalk
import KE.KDictCopyH
import HandS.DictTup
import HandS.Strs
import KE.KTupSum
import KE.DataMinMax
import HandS.SetFor
import KE.DataFind
import HandS.TupLen
import HandS.TupSets
import HandS.Iter
import HandS.Zip
import KE.GoesEnum
import HandS.WordsExc
import KE.SortKeyHeap
import HandS.SortKw
import KE.KDictDisplayH
import KE.KDictKeyed
import KE.KDictPairs
import HandS.CallRecv
import HandS.HeadWalk
import HandS.CallLocal
import HandS.ExcIs
import HandS.ExcOwn
import HandS.ExcInit
import HandS.Defaults
import HandS.Ends
import KE.KStateDown
import HandS.More
import HandS.Words
import HandS.Head0
import HandS.Head1
import HandS.Head2
import HandS.HeadEnd
import HandS.HeadHook2
set_option Elab.async false
set_option linter.all false
set_option maxRecDepth 100000
set_option maxHeartbeats 4000000
set_option maxHeartbeats 0
section
namespace Q
open PySem PySem.Spec PyProof.Rows L2
/-- what isinstance asks of a class of errors -/
def exFa (K : PySem.W.Frag) (x : Str) : Bool := He.eqO (PySem.W.findIn K (.ref (He.ga K x)) "__getattribute__") (some (some (.builtin "BaseException.__getattribute__"))) && (PySem.W.hasDictIn K (He.ga K x) && (He.eqO (PySem.W.findIn K (.ref (He.ga K x)) "__class__") (some (some (.builtin "object.__class__"))) &&
  (He.eqO (PySem.W.specialIn K (.builtin "object.__class__") "__get__") (some (some (.builtin "getset_descriptor.__get__"))) && (decide (PySem.W.takesIn K (.builtin "object.__class__") = some true) && decide (PySem.W.mroIn K (He.ga K x) (.type "object") = some true)))))
/-- the places that the head's facts want: the globals, what they name, what that names; of the classes cs the methods and their code, too -/
def asK (cs : List Str) (g : Addr → Option Obj) : List Addr :=
  let b := He.asD g 2
  let K := He.frG g b
  let nx := fun (as : List Addr) => as.flatMap fun a => match g a with
    | some o => He.refsD o
    | none => []
  let m := nx (cs.map (He.ga K))
  let m2 := nx m
  b ++ (m2 ++ nx m2)
def obsKG (cs xs : List Str) (fa : List He.Fa) (fn : List He.DefD) (g : Addr → Option Obj) : He.AlD × Bool := (He.obsD fa fn (He.frG g (asK cs g)), xs.all fun x => exFa (He.frG g (asK cs g)) x)
def hookK (cs xs : List Str) (fa : List He.Fa) (fn : List He.DefD) : PySem.W.Hook where
  α := He.AlD × Bool
  obs := fun s => obsKG cs xs fa fn s.heap.get?
  val := fun _ => (He.valD fn, true)
  says := fun _ h => ∃ K : PySem.W.Frag, K.In h ∧ He.SaysD fa fn K ∧ (xs.all fun x => exFa K x) = true
  of := fun _ _ e => ⟨_, He.frG_in, congrArg Prod.fst e, congrArg Prod.snd e⟩
  keeps := fun _ _ _ ⟨K, hK, c⟩ k => ⟨K, PySem.W.Frag.In.keeps hK k, c⟩
theorem obsKG_eq {cs xs : List Str} {fa : List He.Fa} {fn : List He.DefD} {g : Addr → Option Obj} {s : Shared} (h : ∀ a, g a = s.heap.get? a) : obsKG cs xs fa fn g = (hookK cs xs fa fn).obs s := by
  have e : g = s.heap.get? := funext h
  rw [e] <;> rfl
def top (i : Nat) : Stmt := PySem.Challenge.pw_cointakes_k72_known_long_rows.main.body.getD i (.Pass ⟨0, 0, 0, 0⟩)
def plc : Nat → Nat
  | 0 => 1
  | 1 => 2
  | 2 => 3
  | 3 => 4
  | 4 => 5
  | 5 => 22
  | 6 => 23
  | 7 => 24
  | 8 => 25
  | 9 => 26
  | 10 => 27
  | 11 => 29
  | 12 => 30
  | 13 => 31
  | 14 => 32
  | 15 => 35
  | 16 => 36
  | 17 => 37
  | 18 => 38
  | 19 => 39
  | 20 => 40
  | 21 => 41
  | 22 => 42
  | 23 => 43
  | 24 => 44
  | 25 => 47
  | 26 => 48
  | 27 => 49
  | 28 => 50
  | 29 => 51
  | 30 => 52
  | 31 => 53
  | 32 => 54
  | 33 => 55
  | 34 => 56
  | 35 => 57
  | 36 => 58
  | 37 => 60
  | 38 => 62
  | 39 => 65
  | 40 => 67
  | 41 => 68
  | 42 => 69
  | 43 => 70
  | 44 => 71
  | 45 => 72
  | 46 => 73
  | 47 => 74
  | 48 => 75
  | 49 => 78
  | 50 => 79
  | 51 => 80
  | 52 => 81
  | 53 => 82
  | 54 => 83
  | 55 => 84
  | 56 => 86
  | 57 => 87
  | 58 => 88
  | 59 => 89
  | 60 => 92
  | 61 => 93
  | 62 => 94
  | 63 => 96
  | 64 => 97
  | 65 => 98
  | 66 => 100
  | 67 => 101
  | 68 => 102
  | 69 => 103
  | 70 => 104
  | 71 => 105
  | 72 => 107
  | 73 => 108
  | 74 => 109
  | 75 => 111
  | 76 => 112
  | 77 => 113
  | 78 => 117
  | 79 => 118
  | 80 => 119
  | 81 => 121
  | 82 => 122
  | 83 => 123
  | 84 => 124
  | 85 => 125
  | 86 => 126
  | 87 => 127
  | 88 => 128
  | 89 => 129
  | 90 => 130
  | 91 => 131
  | 92 => 132
  | 93 => 134
  | 94 => 135
  | 95 => 34
  | 96 => 34
  | 97 => 34
  | 98 => 34
  | 99 => 34
  | _ => 0
def nmT : Nat → Str
  | 0 => "is_in"
  | 1 => "gcd"
  | 2 => "reduced"
  | 3 => "plus"
  | 4 => "times"
  | 5 => "need_row"
  | 6 => "falls_in"
  | 7 => "next_counts"
  | 8 => "count_of"
  | 9 => "parts_behind"
  | 10 => "chosen"
  | 11 => "count_parts"
  | 12 => "choices"
  | 13 => "is_row_order"
  | 14 => "order_falls"
  | 15 => "without_carry"
  | 16 => "whole"
  | 17 => "left_in"
  | 18 => "worth_in"
  | 19 => "chance_in"
  | 20 => "row_left"
  | 21 => "row_worth"
  | 22 => "row_wins"
  | 23 => "row_chance"
  | 24 => "row_mean_left"
  | 25 => "is_edge"
  | 26 => "need_web"
  | 27 => "need_place"
  | 28 => "need_laying"
  | 29 => "need_full"
  | 30 => "need_both"
  | 31 => "neighbours_in"
  | 32 => "part_in"
  | 33 => "parts_in"
  | 34 => "is_forest_in"
  | 35 => "heads_in"
  | 36 => "taken_in"
  | 37 => "count_in"
  | 38 => "full_layings"
  | 39 => "counts_in"
  | 40 => "layings_by_count"
  | 41 => "most_in"
  | 42 => "most_orders"
  | 43 => "heads_by_count"
  | 44 => "tree_count"
  | 45 => "tree_edges"
  | 46 => "all_trees"
  | 47 => "shape_of"
  | 48 => "tree_orders"
  | 49 => "need_many"
  | 50 => "orders_by_falls"
  | 51 => "rows_by_falls"
  | 52 => "row_mirrored"
  | 53 => "row_turned"
  | 54 => "step"
  | 55 => "row_times"
  | 56 => "behind_in"
  | 57 => "ready_in"
  | 58 => "more"
  | 59 => "on_in"
  | 60 => "need_few"
  | 61 => "later_counts"
  | 62 => "counts_in"
  | 63 => "gaps_in"
  | 64 => "gap_chances"
  | 65 => "mean_gap"
  | 66 => "need_forest"
  | 67 => "side_of"
  | 68 => "heads_of"
  | 69 => "is_clear"
  | 70 => "way_for"
  | 71 => "chosen"
  | 72 => "joined"
  | 73 => "branch"
  | 74 => "count_by_way"
  | 75 => "leafed_in"
  | 76 => "leafed"
  | 77 => "leaf_pair"
  | 78 => "need_ring"
  | 79 => "opened_in"
  | 80 => "count_row"
  | 81 => "openings"
  | 82 => "ring_left"
  | 83 => "ring_worth"
  | 84 => "chances_in"
  | 85 => "ring_chance"
  | 86 => "ring_mean_left"
  | 87 => "row_place"
  | 88 => "ring_place"
  | 89 => "takes_of"
  | 90 => "is_clearing"
  | 91 => "ring_number"
  | 92 => "ring_at"
  | 93 => "_law_alike"
  | 94 => "law"
  | 95 => "coins"
  | 96 => "takes"
  | 97 => "left"
  | 98 => "worth"
  | 99 => "chance"
  | _ => ""
def gloT : Nat → Str × Option Str
  | 0 => ("is_in", none)
  | 1 => ("gcd", none)
  | 2 => ("reduced", none)
  | 3 => ("plus", none)
  | 4 => ("times", none)
  | 5 => ("need_row", none)
  | 6 => ("falls_in", none)
  | 7 => ("next_counts", none)
  | 8 => ("count_of", none)
  | 9 => ("parts_behind", none)
  | 10 => ("chosen_rows", none)
  | 11 => ("count_parts", none)
  | 12 => ("choices", none)
  | 13 => ("is_row_order", none)
  | 14 => ("order_falls", none)
  | 15 => ("without_carry", none)
  | 16 => ("whole", none)
  | 17 => ("left_in", none)
  | 18 => ("worth_in", none)
  | 19 => ("chance_in", none)
  | 20 => ("row_left", none)
  | 21 => ("row_worth", none)
  | 22 => ("row_wins", none)
  | 23 => ("row_chance", none)
  | 24 => ("row_mean_left", none)
  | 25 => ("is_edge", none)
  | 26 => ("need_web", none)
  | 27 => ("need_place", none)
  | 28 => ("need_laying", none)
  | 29 => ("need_full", none)
  | 30 => ("need_both", none)
  | 31 => ("neighbours_in", none)
  | 32 => ("part_in", none)
  | 33 => ("parts_in", none)
  | 34 => ("is_forest_in", none)
  | 35 => ("heads_in", none)
  | 36 => ("taken_in", none)
  | 37 => ("count_in", none)
  | 38 => ("full_layings", none)
  | 39 => ("counts_in_counting", none)
  | 40 => ("layings_by_count", none)
  | 41 => ("most_in", none)
  | 42 => ("most_orders", none)
  | 43 => ("heads_by_count", none)
  | 44 => ("tree_count", none)
  | 45 => ("tree_edges", none)
  | 46 => ("all_trees", none)
  | 47 => ("shape_of", none)
  | 48 => ("tree_orders", none)
  | 49 => ("need_many", none)
  | 50 => ("orders_by_falls", none)
  | 51 => ("rows_by_falls", none)
  | 52 => ("row_mirrored", none)
  | 53 => ("row_turned", none)
  | 54 => ("step", none)
  | 55 => ("row_times", none)
  | 56 => ("behind_in", none)
  | 57 => ("ready_in", none)
  | 58 => ("more", none)
  | 59 => ("on_in", none)
  | 60 => ("need_few", none)
  | 61 => ("later_counts", none)
  | 62 => ("counts_in_gaps", none)
  | 63 => ("gaps_in", none)
  | 64 => ("gap_chances", none)
  | 65 => ("mean_gap", none)
  | 66 => ("need_forest", none)
  | 67 => ("side_of", none)
  | 68 => ("heads_of", none)
  | 69 => ("is_clear", none)
  | 70 => ("way_for", none)
  | 71 => ("chosen_forests", none)
  | 72 => ("joined", none)
  | 73 => ("branch", none)
  | 74 => ("count_by_way", none)
  | 75 => ("leafed_in", none)
  | 76 => ("leafed", none)
  | 77 => ("leaf_pair", none)
  | 78 => ("need_ring", none)
  | 79 => ("opened_in", none)
  | 80 => ("count_row", none)
  | 81 => ("openings", none)
  | 82 => ("ring_left", none)
  | 83 => ("ring_worth", none)
  | 84 => ("chances_in", none)
  | 85 => ("ring_chance", none)
  | 86 => ("ring_mean_left", none)
  | 87 => ("row_place", none)
  | 88 => ("ring_place", none)
  | 89 => ("takes_of", none)
  | 90 => ("is_clearing", none)
  | 91 => ("ring_number", none)
  | 92 => ("ring_at", none)
  | 93 => ("_law_alike", none)
  | 94 => ("law", none)
  | 95 => ("Parts", some "coins")
  | 96 => ("Parts", some "takes")
  | 97 => ("Parts", some "left")
  | 98 => ("Parts", some "worth")
  | 99 => ("Parts", some "chance")
  | _ => ("", none)
def quaT : Nat → Str
  | 0 => "is_in"
  | 1 => "gcd"
  | 2 => "reduced"
  | 3 => "plus"
  | 4 => "times"
  | 5 => "need_row"
  | 6 => "falls_in"
  | 7 => "next_counts"
  | 8 => "count_of"
  | 9 => "parts_behind"
  | 10 => "chosen"
  | 11 => "count_parts"
  | 12 => "choices"
  | 13 => "is_row_order"
  | 14 => "order_falls"
  | 15 => "without_carry"
  | 16 => "whole"
  | 17 => "left_in"
  | 18 => "worth_in"
  | 19 => "chance_in"
  | 20 => "row_left"
  | 21 => "row_worth"
  | 22 => "row_wins"
  | 23 => "row_chance"
  | 24 => "row_mean_left"
  | 25 => "is_edge"
  | 26 => "need_web"
  | 27 => "need_place"
  | 28 => "need_laying"
  | 29 => "need_full"
  | 30 => "need_both"
  | 31 => "neighbours_in"
  | 32 => "part_in"
  | 33 => "parts_in"
  | 34 => "is_forest_in"
  | 35 => "heads_in"
  | 36 => "taken_in"
  | 37 => "count_in"
  | 38 => "full_layings"
  | 39 => "counts_in"
  | 40 => "layings_by_count"
  | 41 => "most_in"
  | 42 => "most_orders"
  | 43 => "heads_by_count"
  | 44 => "tree_count"
  | 45 => "tree_edges"
  | 46 => "all_trees"
  | 47 => "shape_of"
  | 48 => "tree_orders"
  | 49 => "need_many"
  | 50 => "orders_by_falls"
  | 51 => "rows_by_falls"
  | 52 => "row_mirrored"
  | 53 => "row_turned"
  | 54 => "step"
  | 55 => "row_times"
  | 56 => "behind_in"
  | 57 => "ready_in"
  | 58 => "more"
  | 59 => "on_in"
  | 60 => "need_few"
  | 61 => "later_counts"
  | 62 => "counts_in"
  | 63 => "gaps_in"
  | 64 => "gap_chances"
  | 65 => "mean_gap"
  | 66 => "need_forest"
  | 67 => "side_of"
  | 68 => "heads_of"
  | 69 => "is_clear"
  | 70 => "way_for"
  | 71 => "chosen"
  | 72 => "joined"
  | 73 => "branch"
  | 74 => "count_by_way"
  | 75 => "leafed_in"
  | 76 => "leafed"
  | 77 => "leaf_pair"
  | 78 => "need_ring"
  | 79 => "opened_in"
  | 80 => "count_row"
  | 81 => "openings"
  | 82 => "ring_left"
  | 83 => "ring_worth"
  | 84 => "chances_in"
  | 85 => "ring_chance"
  | 86 => "ring_mean_left"
  | 87 => "row_place"
  | 88 => "ring_place"
  | 89 => "takes_of"
  | 90 => "is_clearing"
  | 91 => "ring_number"
  | 92 => "ring_at"
  | 93 => "_law_alike"
  | 94 => "law"
  | 95 => "Parts.coins"
  | 96 => "Parts.takes"
  | 97 => "Parts.left"
  | 98 => "Parts.worth"
  | 99 => "Parts.chance"
  | _ => ""
def stT : Nat → Stmt
  | 95 => inClass (top 34) 1
  | 96 => inClass (top 34) 2
  | 97 => inClass (top 34) 3
  | 98 => inClass (top 34) 4
  | 99 => inClass (top 34) 5
  | f => top (plc f)
def clsT : Nat → Str
  | 0 => "Parts"
  | _ => ""
def istT : Nat → Stmt
  | 0 => inClass (top 34) 0
  | _ => top 0
def looseL : List Str := [("is_in" : Str), ("gcd" : Str), ("reduced" : Str), ("plus" : Str), ("times" : Str), ("CoinError" : Str), ("BadWeb" : Str), ("BadLaying" : Str), ("BadPlace" : Str), ("BadOrder" : Str), ("NotForest" : Str), ("BadIndex" : Str), ("TooMany" : Str), ("BadRow" : Str), ("BadCount" : Str), ("BadRing" : Str), ("BadCoin" : Str), ("NotClear" : Str), ("MOST_ROW" : Str), ("need_row" : Str), ("falls_in" : Str), ("next_counts" : Str), ("count_of" : Str), ("parts_behind" : Str), ("chosen" : Str), ("chosen_rows" : Str), ("count_parts" : Str), ("choices" : Str), ("is_row_order" : Str), ("order_falls" : Str), ("Parts" : Str), ("without_carry" : Str), ("whole" : Str), ("left_in" : Str), ("worth_in" : Str), ("chance_in" : Str), ("row_left" : Str), ("row_worth" : Str), ("row_wins" : Str), ("row_chance" : Str), ("row_mean_left" : Str), ("MOST_PLACES" : Str), ("is_edge" : Str), ("need_web" : Str), ("need_place" : Str), ("need_laying" : Str), ("need_full" : Str), ("need_both" : Str), ("neighbours_in" : Str), ("part_in" : Str), ("parts_in" : Str), ("is_forest_in" : Str), ("heads_in" : Str), ("taken_in" : Str), ("count_in" : Str), ("full_layings" : Str), ("MOST_TREES" : Str), ("counts_in" : Str), ("counts_in_counting" : Str), ("layings_by_count" : Str), ("most_in" : Str), ("most_orders" : Str), ("heads_by_count" : Str), ("tree_count" : Str), ("tree_edges" : Str), ("all_trees" : Str), ("shape_of" : Str), ("tree_orders" : Str), ("MOST_TIMED" : Str), ("need_many" : Str), ("orders_by_falls" : Str), ("rows_by_falls" : Str), ("row_mirrored" : Str), ("row_turned" : Str), ("step" : Str), ("row_times" : Str), ("behind_in" : Str), ("ready_in" : Str), ("more" : Str), ("on_in" : Str), ("MOST_GAPPED" : Str), ("need_few" : Str), ("later_counts" : Str), ("counts_in_gaps" : Str), ("gaps_in" : Str), ("gap_chances" : Str), ("mean_gap" : Str), ("need_forest" : Str), ("side_of" : Str), ("heads_of" : Str), ("is_clear" : Str), ("way_for" : Str), ("chosen_forests" : Str), ("joined" : Str), ("branch" : Str), ("count_by_way" : Str), ("leafed_in" : Str), ("leafed" : Str), ("leaf_pair" : Str), ("LEAST_RING" : Str), ("MOST_RING" : Str), ("need_ring" : Str), ("opened_in" : Str), ("count_row" : Str), ("openings" : Str), ("ring_left" : Str), ("ring_worth" : Str), ("chances_in" : Str), ("ring_chance" : Str), ("ring_mean_left" : Str), ("row_place" : Str), ("ring_place" : Str), ("takes_of" : Str), ("is_clearing" : Str), ("ring_number" : Str), ("ring_at" : Str), ("_law_alike" : Str)]
def faL : List He.Fa := [.glo "is_in", .glo "gcd", .glo "reduced", .glo "plus", .glo "times", .glo "need_row", .glo "falls_in", .glo "next_counts", .glo "count_of", .glo "parts_behind", .glo "chosen_rows", .glo "count_parts", .glo "choices", .glo "is_row_order", .glo "order_falls", .glo "without_carry", .glo "whole", .glo "left_in", .glo "worth_in", .glo "chance_in", .glo "row_left", .glo "row_worth", .glo "row_wins", .glo "row_chance", .glo "row_mean_left", .glo "is_edge", .glo "need_web", .glo "need_place", .glo "need_laying", .glo "need_full", .glo "need_both", .glo "neighbours_in", .glo "part_in", .glo "parts_in", .glo "is_forest_in", .glo "heads_in", .glo "taken_in", .glo "count_in", .glo "full_layings", .glo "counts_in_counting", .glo "layings_by_count", .glo "most_in", .glo "most_orders", .glo "heads_by_count", .glo "tree_count", .glo "tree_edges", .glo "all_trees", .glo "shape_of", .glo "tree_orders", .glo "need_many", .glo "orders_by_falls", .glo "rows_by_falls", .glo "row_mirrored", .glo "row_turned", .glo "step", .glo "row_times", .glo "behind_in", .glo "ready_in", .glo "more", .glo "on_in", .glo "need_few", .glo "later_counts", .glo "counts_in_gaps", .glo "gaps_in", .glo "gap_chances", .glo "mean_gap", .glo "need_forest", .glo "side_of", .glo "heads_of", .glo "is_clear", .glo "way_for", .glo "chosen_forests", .glo "joined", .glo "branch", .glo "count_by_way", .glo "leafed_in", .glo "leafed", .glo "leaf_pair", .glo "need_ring", .glo "opened_in", .glo "count_row", .glo "openings", .glo "ring_left", .glo "ring_worth", .glo "chances_in", .glo "ring_chance", .glo "ring_mean_left", .glo "row_place", .glo "ring_place", .glo "takes_of", .glo "is_clearing", .glo "ring_number", .glo "ring_at", .glo "_law_alike", .glo "law", .int "MOST_ROW" (40), .int "MOST_PLACES" (9), .int "MOST_TREES" (6), .int "MOST_TIMED" (12), .int "MOST_GAPPED" (7), .int "LEAST_RING" (3), .int "MOST_RING" (20), .free "len", .free "tuple", .free "list", .free "sorted", .free "min", .free "max", .free "sum", .free "abs", .free "int", .free "range", .free "enumerate", .free "zip", .free "isinstance", .free "bool", .free "str", .free "dict", .free "set", .glo "Parts", .mkr "Parts", .cls "Parts", .cls "Parts", .cls "Parts", .noat "Parts" "row", .noat "Parts" "known", .cls "Parts", .cls "Parts", .cls "Parts", .cls "Parts", .cls "Parts", .meth "Parts" "coins", .meth "Parts" "takes", .meth "Parts" "left", .meth "Parts" "worth", .meth "Parts" "chance"]
def fnL : List He.DefD := (List.range 100).map (fun f => (⟨gloT f, nmT f, quaT f, defArgs (stT f), defBody (stT f), defScope (stT f), [], []⟩ : He.DefD)) ++ ([⟨(clsT 0, some "__init__"), "__init__", clsT 0 ++ ".__init__", defArgs (istT 0), defBody (istT 0), defScope (istT 0), [], []⟩] : List He.DefD)
abbrev R : PySem.W.OpenRow := PySem.W.OpenLaw.row PySem.Challenge.rw_cointakes_k72_known_long_rows
abbrev hkT : PySem.W.Hook := hookK [("Parts" : Str)] ([] : List Str) faL fnL
def ob (s : PySem.W.SharedT) : He.AlD × Bool := obsKG [("Parts" : Str)] ([] : List Str) faL fnL (HandSHeadRun.getT s)
theorem ob_eq (s : PySem.W.SharedT) : ob s = hkT.obs s.abs := obsKG_eq (HandSHeadRun.getT_eq s)
theorem run_top (w : World) : HandSHeadRun.RunEq R (PySem.W.view R.prog [135]) hkT ob 8000 looseL w := by
  intro os
  kernel_rfl
end Q
end
set_option maxHeartbeats 4000000
section
namespace Q
open PySem PySem.Spec PyProof.Rows L2

/-! ## data, cells, outcomes -/
/-- a value of the program as plain data: `fl` a list that is never changed, `ml` a list that may change (by its place among the cells), `md` a dict likewise -/
inductive D where
  | non | bl (b : Bool) | int (i : Int) | str (s : Str) | tup (ds : List D) | pr (ds : List D) | fl (ds : List D) | rl (ds : List D) | ml (i : Nat) | md (i : Nat) | fn (x : Str)
  deriving Inhabited
/-- what may change -/
inductive Cell where
  | lst (ds : List D)
  | dK (kvs : List (Key × D))
  | dT (kvs : List (List D × D))
  | lK (kvs : List (Key × D))
  | lT (kvs : List (List D × D))
  | obj (c : Nat) (fs : List (Str × D))
/-- a locked dict is read as it would be unlocked -/
def unl : Cell → Cell
  | .lK kvs => .dK kvs
  | .lT kvs => .dT kvs
  | c => c
abbrev Hh := List Cell
/-- an error: its class by number, its own attribute where it has one -/
structure Exc where
  cls : Nat
  arg : Option (Str × D) := none
inductive Oc (α : Type) where
  | bad
  | ok (a : α) (h : Hh)
  | ex (x : Exc) (h : Hh)
abbrev Ev := List (Option D)

mutual
/-- only cells below n are named in it -/
def low (n : Nat) : D → Bool
  | .ml i => decide (i < n)
  | .md i => decide (i < n)
  | .tup ds => lows n ds
  | .pr ds => lows n ds
  | .fl ds => lows n ds
  | .rl ds => lows n ds
  | _ => true
def lows (n : Nat) : List D → Bool
  | [] => true
  | d :: ds => low n d && lows n ds
end
def lowC (n : Nat) : Cell → Bool
  | .lst ds => lows n ds
  | .dK kvs => lows n (kvs.map (·.2))
  | .dT kvs => lows n (kvs.map (·.2))
  | .lK kvs => lows n (kvs.map (·.2))
  | .lT kvs => lows n (kvs.map (·.2))
  | .obj _ fs => lows n (fs.map (·.2))

/-! ## how data lie in the abstract heap -/
/-- what is never changed: tracked, and none of the addresses that may change -/
def FZ (κ ρ : List Addr) (H : Hp) (a : Addr) (u : HO) : Prop := Rd H a u ∧ a ∉ ρ ∧ a ∉ κ
/-- a tuple: its object is known, it has no dict of its own -/
def FT (κ ρ : List Addr) (H : Hp) (a : Addr) (vs : List V) : Prop := (∃ o, H a = some (.frz o (.tup vs)) ∧ o.dict = none) ∧ a ∉ ρ ∧ a ∉ κ
/-- a tuple that an iterator made -/
def FP (κ ρ : List Addr) (H : Hp) (a : Addr) (vs : List V) : Prop := H a = some (.tup vs) ∧ a ∉ ρ ∧ a ∉ κ
def FL (κ ρ : List Addr) (H : Hp) (a : Addr) (vs : List V) : Prop := H a = some (.lst vs) ∧ a ∉ ρ ∧ a ∉ κ
/-- a list that is read only: locked, or written with the module -/
def FR (K : PySem.W.Frag) (κ ρ : List Addr) (H : Hp) (a : Addr) (vs : List V) : Prop := (∃ o, H a = some (.frz o (.lst vs)) ∧ a ∉ ρ ∧ a ∉ κ) ∨ SqL K (fun _ => none) a vs
theorem seqT_any {K : PySem.W.Frag} {H : Hp} {a : Addr} {vs : List V} (h : SqT K (fun _ => none) a vs) : SqT K H a vs := by
  rcases h with (h | ⟨o, h⟩) | h
  · cases h
  · cases h
  · exact .inr h
theorem seqL_any {K : PySem.W.Frag} {H : Hp} {a : Addr} {vs : List V} (h : SqL K (fun _ => none) a vs) : SqL K H a vs := by
  rcases h with (h | ⟨o, h⟩) | h
  · cases h
  · cases h
  · exact .inr h
theorem FT.sq {K κ ρ H a vs} (h : FT κ ρ H a vs) : SqT K H a vs := let ⟨⟨o, z, _⟩, _⟩ := h; .inl (.inr ⟨o, z⟩)
theorem FP.sq {K κ ρ H a vs} (h : FP κ ρ H a vs) : SqT K H a vs := .inl (.inl h.1)
theorem FL.sq {K κ ρ H a vs} (h : FL κ ρ H a vs) : SqL K H a vs := .inl (.inl h.1)
theorem FR.sq {K κ ρ H a vs} (h : FR K κ ρ H a vs) : SqL K H a vs := h.elim (fun ⟨o, z⟩ => .inl (.inr ⟨o, z.1⟩)) seqL_any

mutual
def Rep (K : PySem.W.Frag) (κ ρ : List Addr) (H : Hp) : D → V → Prop
  | .non, v => v = .non
  | .bl b, v => v = .bl b
  | .int i, v => v = .int i
  | .str s, v => v = .str s
  | .tup ds, v => ∃ a vs, v = .ref a ∧ FT κ ρ H a vs ∧ Reps K κ ρ H ds vs
  | .pr ds, v => ∃ a vs, v = .ref a ∧ FP κ ρ H a vs ∧ Reps K κ ρ H ds vs
  | .fl ds, v => ∃ a vs, v = .ref a ∧ FL κ ρ H a vs ∧ Reps K κ ρ H ds vs
  | .rl ds, v => ∃ a vs, v = .ref a ∧ FR K κ ρ H a vs ∧ Reps K κ ρ H ds vs
  | .ml i, v => ∃ a, v = .ref a ∧ ρ[i]? = some a
  | .md i, v => ∃ a, v = .ref a ∧ ρ[i]? = some a
  | .fn x, v => v = .ref (He.ga K x)
def Reps (K : PySem.W.Frag) (κ ρ : List Addr) (H : Hp) : List D → List V → Prop
  | [], vs => vs = []
  | d :: ds, vs => ∃ v r, vs = v :: r ∧ Rep K κ ρ H d v ∧ Reps K κ ρ H ds r
end
section
variable {K : PySem.W.Frag} {κ κ' ρ ρ' : List Addr} {H H' : Hp}
theorem Reps.len : ∀ {ds : List D} {vs : List V}, Reps K κ ρ H ds vs → vs.length = ds.length
  | [], _, h => by cases h; rfl
  | _ :: ds, _, ⟨v, r, e, _, h⟩ => by subst e; simp [Reps.len h]
theorem Reps.get : ∀ {ds : List D} {vs : List V} {i : Nat} {d : D}, Reps K κ ρ H ds vs → ds[i]? = some d → ∃ v, vs[i]? = some v ∧ Rep K κ ρ H d v
  | [], _, _, _, _, e => by simp at e
  | _ :: _, _, 0, _, ⟨v, r, e1, hr, _⟩, e => by simp at e; subst e; subst e1; exact ⟨v, rfl, hr⟩
  | _ :: ds, _, i + 1, d, ⟨v, r, e1, _, h⟩, e => by
    subst e1
    obtain ⟨w, h1, h2⟩ := Reps.get (i := i) (d := d) h (by simpa using e)
    exact ⟨w, by simpa using h1, h2⟩
theorem Reps.append : ∀ {ds es : List D} {vs ws : List V}, Reps K κ ρ H ds vs → Reps K κ ρ H es ws → Reps K κ ρ H (ds ++ es) (vs ++ ws)
  | [], _, _, _, h, g => by cases h; exact g
  | _ :: _, _, _, _, ⟨v, r, e, hr, h⟩, g => by subst e; exact ⟨v, _, rfl, hr, Reps.append h g⟩
theorem Reps.take : ∀ {ds : List D} {vs : List V} (n : Nat), Reps K κ ρ H ds vs → Reps K κ ρ H (ds.take n) (vs.take n)
  | _, _, 0, _ => rfl
  | [], _, n + 1, h => by cases h; rfl
  | _ :: _, _, n + 1, ⟨v, r, e, hr, h⟩ => by subst e; exact ⟨v, _, rfl, hr, Reps.take n h⟩
theorem Reps.drop : ∀ {ds : List D} {vs : List V} (n : Nat), Reps K κ ρ H ds vs → Reps K κ ρ H (ds.drop n) (vs.drop n)
  | _, _, 0, h => h
  | [], _, n + 1, h => by cases h; rfl
  | _ :: _, _, n + 1, ⟨v, r, e, hr, h⟩ => by subst e; exact Reps.drop n h
theorem Reps.set : ∀ {ds : List D} {vs : List V} {d : D} {v : V} (i : Nat), Reps K κ ρ H ds vs → Rep K κ ρ H d v → Reps K κ ρ H (ds.set i d) (vs.set i v)
  | [], _, _, _, _, h, _ => by cases h; rfl
  | _ :: _, _, _, _, 0, ⟨v, r, e, hr, h⟩, g => by subst e; exact ⟨_, _, rfl, g, h⟩
  | _ :: _, _, _, _, i + 1, ⟨v, r, e, hr, h⟩, g => by subst e; exact ⟨_, _, rfl, hr, Reps.set i h g⟩
theorem Reps.rev : ∀ {ds : List D} {vs : List V}, Reps K κ ρ H ds vs → Reps K κ ρ H ds.reverse vs.reverse
  | [], _, h => by cases h; rfl
  | _ :: _, _, ⟨v, r, e, hr, h⟩ => by
    subst e
    rw [List.reverse_cons, List.reverse_cons]
    exact Reps.append (Reps.rev h) ⟨v, [], rfl, hr, rfl⟩

mutual
theorem Rep.mono (ht : ∀ a vs, FT κ ρ H a vs → FT κ' ρ' H' a vs) (hp : ∀ a vs, FP κ ρ H a vs → FP κ' ρ' H' a vs) (hl : ∀ a vs, FL κ ρ H a vs → FL κ' ρ' H' a vs) (hR : ∀ a vs, FR K κ ρ H a vs → FR K κ' ρ' H' a vs) (hr : ∀ (i : Nat) (a : Addr), ρ[i]? = some a → ρ'[i]? = some a) : ∀ {d : D} {v : V}, Rep K κ ρ H d v → Rep K κ' ρ' H' d v
  | .non, _, h => h
  | .bl _, _, h => h
  | .int _, _, h => h
  | .str _, _, h => h
  | .tup _, _, ⟨a, vs, e, f, r⟩ => ⟨a, vs, e, ht a vs f, Reps.mono ht hp hl hR hr r⟩
  | .pr _, _, ⟨a, vs, e, f, r⟩ => ⟨a, vs, e, hp a vs f, Reps.mono ht hp hl hR hr r⟩
  | .fl _, _, ⟨a, vs, e, f, r⟩ => ⟨a, vs, e, hl a vs f, Reps.mono ht hp hl hR hr r⟩
  | .rl _, _, ⟨a, vs, e, f, r⟩ => ⟨a, vs, e, hR a vs f, Reps.mono ht hp hl hR hr r⟩
  | .ml i, _, ⟨a, e, f⟩ => ⟨a, e, hr i a f⟩
  | .md i, _, ⟨a, e, f⟩ => ⟨a, e, hr i a f⟩
  | .fn _, _, h => h
theorem Reps.mono (ht : ∀ a vs, FT κ ρ H a vs → FT κ' ρ' H' a vs) (hp : ∀ a vs, FP κ ρ H a vs → FP κ' ρ' H' a vs) (hl : ∀ a vs, FL κ ρ H a vs → FL κ' ρ' H' a vs) (hR : ∀ a vs, FR K κ ρ H a vs → FR K κ' ρ' H' a vs) (hr : ∀ (i : Nat) (a : Addr), ρ[i]? = some a → ρ'[i]? = some a) : ∀ {ds : List D} {vs : List V}, Reps K κ ρ H ds vs → Reps K κ' ρ' H' ds vs
  | [], _, h => h
  | _ :: _, _, ⟨v, r, e, h1, h2⟩ => ⟨v, r, e, Rep.mono ht hp hl hR hr h1, Reps.mono ht hp hl hR hr h2⟩
end
end

/-! ## how the state goes on -/
structure Go (ρ : List Addr) (H : Hp) (ρ' : List Addr) (H' : Hp) : Prop where
  pre : ∃ t, ρ' = ρ ++ t
  stay : ∀ a o, H a = some o → a ∉ ρ → H' a = some o
  new : ∀ a ∈ ρ', a ∉ ρ → H a = none
  fz : ∀ a od u, H a = some (.frz od u) → H' a = some (.frz od u)
section
variable {K : PySem.W.Frag} {κ ρ ρ1 ρ2 : List Addr} {H H1 H2 : Hp}
theorem Go.refl (ρ : List Addr) (H : Hp) : Go ρ H ρ H := ⟨⟨[], by simp⟩, fun _ _ h _ => h, fun _ h n => absurd h n, fun _ _ _ h => h⟩
theorem Go.at_ (g : Go ρ H ρ1 H1) {i : Nat} {a : Addr} (h : ρ[i]? = some a) : ρ1[i]? = some a := by
  obtain ⟨t, e⟩ := g.pre
  subst e
  have hi : i < ρ.length := by
    rcases Nat.lt_or_ge i ρ.length with z | z
    · exact z
    · rw [List.getElem?_eq_none z] at h; cases h
  rw [List.getElem?_append_left hi]; exact h
theorem Go.sub (g : Go ρ H ρ1 H1) {a : Addr} (h : a ∈ ρ) : a ∈ ρ1 := by
  obtain ⟨t, e⟩ := g.pre
  subst e
  exact List.mem_append_left _ h
theorem Go.notin (g : Go ρ H ρ1 H1) {a : Addr} {o : HO} (h : a ∉ ρ) (e : H a = some o) : a ∉ ρ1 := fun z => by
  have := g.new a z h
  rw [e] at this; cases this
theorem Go.trans (g : Go ρ H ρ1 H1) (k : Go ρ1 H1 ρ2 H2) : Go ρ H ρ2 H2 := by
  refine ⟨?_, fun a o h n => k.stay a o (g.stay a o h n) (g.notin n h), fun a h n => ?_, fun a od u q => k.fz a od u (g.fz a od u q)⟩
  · obtain ⟨t, e⟩ := g.pre
    obtain ⟨u, f⟩ := k.pre
    subst e
    exact ⟨t ++ u, by rw [f, List.append_assoc]⟩
  · by_cases z : a ∈ ρ1
    · exact g.new a z n
    · have q := k.new a h z
      cases e : H a with
      | none => rfl
      | some o =>
        rw [g.stay a o e n] at q
        cases q
theorem Rd.some {H : Hp} {a : Addr} {u : HO} (h : Rd H a u) : ∃ o, H a = some o := by
  rcases h with h | ⟨o, h⟩
  · exact ⟨_, h⟩
  · exact ⟨_, h⟩
theorem FZ.go {u : HO} {a : Addr} (g : Go ρ H ρ1 H1) (h : FZ κ ρ H a u) : FZ κ ρ1 H1 a u := by
  obtain ⟨r, n, k⟩ := h
  obtain ⟨o, e⟩ := Rd.some r
  refine ⟨?_, g.notin n e, k⟩
  rcases r with r | ⟨o, r⟩
  · exact .inl (g.stay _ _ r n)
  · exact .inr ⟨o, g.stay _ _ r n⟩
theorem FT.go {a : Addr} {vs : List V} (g : Go ρ H ρ1 H1) (h : FT κ ρ H a vs) : FT κ ρ1 H1 a vs :=
  let ⟨⟨o, z, y⟩, h2, h3⟩ := h
  ⟨⟨o, g.stay _ _ z h2, y⟩, g.notin h2 z, h3⟩
theorem FP.go {a : Addr} {vs : List V} (g : Go ρ H ρ1 H1) (h : FP κ ρ H a vs) : FP κ ρ1 H1 a vs := ⟨g.stay _ _ h.1 h.2.1, g.notin h.2.1 h.1, h.2.2⟩
theorem FL.go {a : Addr} {vs : List V} (g : Go ρ H ρ1 H1) (h : FL κ ρ H a vs) : FL κ ρ1 H1 a vs := ⟨g.stay _ _ h.1 h.2.1, g.notin h.2.1 h.1, h.2.2⟩
theorem FR.go {a : Addr} {vs : List V} (g : Go ρ H ρ1 H1) (h : FR K κ ρ H a vs) : FR K κ ρ1 H1 a vs := h.imp (fun ⟨o, z1, z2, z3⟩ => ⟨o, g.stay _ _ z1 z2, g.notin z2 z1, z3⟩) id
theorem Rep.go {d : D} {v : V} (g : Go ρ H ρ1 H1) (h : Rep K κ ρ H d v) : Rep K κ ρ1 H1 d v := h.mono (fun _ _ => FT.go g) (fun _ _ => FP.go g) (fun _ _ => FL.go g) (fun _ _ => FR.go g) fun _ _ => g.at_
theorem Reps.go {d : List D} {v : List V} (g : Go ρ H ρ1 H1) (h : Reps K κ ρ H d v) : Reps K κ ρ1 H1 d v := h.mono (fun _ _ => FT.go g) (fun _ _ => FP.go g) (fun _ _ => FL.go g) (fun _ _ => FR.go g) fun _ _ => g.at_
end

/-- what is fixed through a law: the text, the world, the written part, the classes' addresses -/
structure G where
  P : Program
  w : World
  K : PySem.W.Frag
  cm : Nat → Addr
mutual
/-- data as a key of a dict: no lists in it, depth at most n -/
def nk : Nat → D → Option NestedKey
  | _, .non => some .none
  | _, .bl b => some (.num (if b = true then 1 else 0))
  | _, .int i => some (.num i)
  | _, .str s => some (.text s)
  | 0, _ => none
  | n + 1, .tup ds => (nks n ds).map .tup
  | _, _ => none
def nks : Nat → List D → Option (List NestedKey)
  | _, [] => some []
  | n, d :: ds => match nk n d, nks n ds with
    | some k, some ks => some (k :: ks)
    | _, _ => none
end
/-- a dict whose keys are tuples, by its own object: the keys stand at the addresses told -/
def DTO (g : G) (a : Addr) (kvs : List (NestedKey × Addr × V)) : Heap → Prop := fun h =>
  ∃ xs : List (NestedKey × Addr × Value), Paired (fun p q => p.1 = q.1 ∧ p.2.1 = q.2.1 ∧ RelV p.2.2 q.2.2) kvs xs ∧
    ∃ o es ep, h.get? a = some o ∧ o.ExactDict ∧ o.data = .dict es ep ∧ es.toList = xs.map (entryOfKey (nestedKind g.P g.w)) ∧ (xs.map (·.1)).Nodup
def TRep (K : PySem.W.Frag) (κ ρ : List Addr) (H : Hp) : List (List D × D) → List (NestedKey × Addr × V) → Prop := Paired fun p q => nk 8 (.tup p.1) = some q.1 ∧ Rep K κ ρ H (.tup p.1) (.ref q.2.1) ∧ Rep K κ ρ H p.2 q.2.2
/-! ## the cells -/
def KRep {κt : Type} (K : PySem.W.Frag) (κ ρ : List Addr) (H : Hp) : List (κt × D) → List (κt × V) → Prop := Paired fun p q => p.1 = q.1 ∧ Rep K κ ρ H p.2 q.2
def CellR (g : G) (κ ρ : List Addr) (H : Hp) (a : Addr) : Cell → Prop
  | .lst ds => ∃ vs, H a = some (.lst vs) ∧ Reps g.K κ ρ H ds vs
  | .dK kvs => ∃ vs, H a = some (.dK vs) ∧ KRep g.K κ ρ H kvs vs
  | .dT kvs => ∃ vs, H a = some (.ext (DTO g a vs)) ∧ (a == sysModules) = false ∧ vs.length ≤ sizeLine ∧ TRep g.K κ ρ H kvs vs
  | .lK kvs => ∃ od vs, H a = some (.frz od (.dK vs)) ∧ KRep g.K κ ρ H kvs vs
  | .lT kvs => ∃ od vs, H a = some (.frz od (.ext (DTO g a vs))) ∧ (a == sysModules) = false ∧ vs.length ≤ sizeLine ∧ TRep g.K κ ρ H kvs vs
  | .obj c fs => ∃ dx vs, H a = some (.ins (g.cm c) dx vs) ∧ KRep g.K κ ρ H fs vs
structure CS (g : G) (κ ρ : List Addr) (h : Hh) (H : Hp) : Prop where
  len : ρ.length = h.length
  nd : ρ.Nodup
  cell : ∀ (i : Nat) (a : Addr) (c : Cell), ρ[i]? = some a → h[i]? = some c → CellR g κ ρ H a c
  low : ∀ (i : Nat) (c : Cell), h[i]? = some c → lowC i c = true
  kap : ∀ a ∈ κ, ∃ o, H a = some o
theorem KRep.mono {κt : Type} {K : PySem.W.Frag} {κ ρ κ' ρ' : List Addr} {H H' : Hp} {kvs : List (κt × D)} {vs : List (κt × V)} (h : KRep K κ ρ H kvs vs) (f : ∀ d v, Rep K κ ρ H d v → Rep K κ' ρ' H' d v) : KRep K κ' ρ' H' kvs vs :=
  Paired.mapP h fun _ _ q => ⟨q.1, f _ _ q.2⟩
section
variable {g : G} {κ ρ ρ1 ρ2 : List Addr} {H H1 H2 : Hp} {h h1 : Hh}
theorem CS.get (c : CS g κ ρ h H) {i : Nat} {a : Addr} (e : ρ[i]? = some a) : ∃ u, h[i]? = some u ∧ CellR g κ ρ H a u := by
  have hi : i < ρ.length := by
    rcases Nat.lt_or_ge i ρ.length with z | z
    · exact z
    · rw [List.getElem?_eq_none z] at e; cases e
  have hj : i < h.length := by rw [← c.len]; exact hi
  exact ⟨h[i], by simp [hj], c.cell i a _ e (by simp [hj])⟩
theorem CellR.trk {a : Addr} {u : Cell} (c : CellR g κ ρ H a u) : ∃ o, H a = some o ∧ (Mut (some o) ∨ ∃ d v, o = .frz d v) := by
  cases u with
  | lK ds => obtain ⟨od, vs, e, _⟩ := c; exact ⟨_, e, .inr ⟨_, _, rfl⟩⟩
  | lT ds => obtain ⟨od, vs, e, _⟩ := c; exact ⟨_, e, .inr ⟨_, _, rfl⟩⟩
  | lst ds => obtain ⟨vs, e, _⟩ := c; exact ⟨_, e, .inl trivial⟩
  | dK ds => obtain ⟨vs, e, _⟩ := c; exact ⟨_, e, .inl trivial⟩
  | dT ds => obtain ⟨vs, e, _⟩ := c; exact ⟨_, e, .inl trivial⟩
  | obj k fs => obtain ⟨dx, vs, e, _⟩ := c; exact ⟨_, e, .inl trivial⟩
theorem CS.trk (c : CS g κ ρ h H) {a : Addr} (e : a ∈ ρ) : ∃ o, H a = some o ∧ (Mut (some o) ∨ ∃ d v, o = .frz d v) := by
  obtain ⟨i, hi, q⟩ := List.getElem_of_mem e
  obtain ⟨u, _, r⟩ := c.get (i := i) (a := a) (by rw [List.getElem?_eq_getElem hi, q])
  exact r.trk
theorem CS.fresh (c : CS g κ ρ h H) {p : Addr} (e : H p = none) : p ∉ ρ := fun z => by
  obtain ⟨o, q, _⟩ := c.trk z
  rw [e] at q; cases q
theorem CS.freshK (c : CS g κ ρ h H) {p : Addr} (e : H p = none) : p ∉ κ := fun z => by
  obtain ⟨o, q⟩ := c.kap p z
  rw [e] at q; cases q
theorem CS.lst (c : CS g κ ρ h H) {i : Nat} {a : Addr} {ds : List D} (e : ρ[i]? = some a) (f : h[i]? = some (.lst ds)) : ∃ vs, H a = some (.lst vs) ∧ Reps g.K κ ρ H ds vs := c.cell i a _ e f
theorem CellR.mono {κ' ρ' : List Addr} {H' : Hp} {a : Addr} {u : Cell} (c : CellR g κ ρ H a u) (he : H' a = H a) (f : ∀ d v, Rep g.K κ ρ H d v → Rep g.K κ' ρ' H' d v) (fs : ∀ d v, Reps g.K κ ρ H d v → Reps g.K κ' ρ' H' d v) (ft : ∀ b vs, FT κ ρ H b vs → FT κ' ρ' H' b vs) : CellR g κ' ρ' H' a u := by
  cases u with
  | lst ds => obtain ⟨vs, e, r⟩ := c; exact ⟨vs, he.trans e, fs _ _ r⟩
  | dK ds => obtain ⟨vs, e, r⟩ := c; exact ⟨vs, he.trans e, r.mono f⟩
  | dT ds => obtain ⟨vs, e, z, y, r⟩ := c; exact ⟨vs, he.trans e, z, y, Paired.mapP r fun _ _ q => ⟨q.1, f _ _ q.2.1, f _ _ q.2.2⟩⟩
  | lK ds => obtain ⟨od, vs, e, r⟩ := c; exact ⟨od, vs, he.trans e, r.mono f⟩
  | lT ds => obtain ⟨od, vs, e, z, y, r⟩ := c; exact ⟨od, vs, he.trans e, z, y, Paired.mapP r fun _ _ q => ⟨q.1, f _ _ q.2.1, f _ _ q.2.2⟩⟩
  | obj k fs => obtain ⟨dx, vs, e, r⟩ := c; exact ⟨dx, vs, he.trans e, r.mono f⟩
/-- a dict with plain keys, locked or not -/
theorem CS.rdK (c : CS g κ ρ h H) {i : Nat} {a : Addr} {kvs : List (Key × D)} (e : ρ[i]? = some a) (f : (h[i]?).map unl = some (.dK kvs)) : ∃ vs, Rd H a (.dK vs) ∧ KRep g.K κ ρ H kvs vs := by
  obtain ⟨u, hu, r⟩ := c.get e
  rw [hu] at f
  have f := Option.some.inj (show some (unl u) = some (.dK kvs) from f)
  cases u with
  | dK z => cases f; obtain ⟨vs, q1, q2⟩ := r; exact ⟨vs, .inl q1, q2⟩
  | lK z => cases f; obtain ⟨od, vs, q1, q2⟩ := r; exact ⟨vs, .inr ⟨od, q1⟩, q2⟩
  | _ => cases f
theorem CS.rdT (c : CS g κ ρ h H) {i : Nat} {a : Addr} {kvs : List (List D × D)} (e : ρ[i]? = some a) (f : (h[i]?).map unl = some (.dT kvs)) : ∃ vs, Rd H a (.ext (DTO g a vs)) ∧ (a == sysModules) = false ∧ vs.length ≤ sizeLine ∧ TRep g.K κ ρ H kvs vs := by
  obtain ⟨u, hu, r⟩ := c.get e
  rw [hu] at f
  have f := Option.some.inj (show some (unl u) = some (.dT kvs) from f)
  cases u with
  | dT z => cases f; obtain ⟨vs, q1, q2⟩ := r; exact ⟨vs, .inl q1, q2⟩
  | lT z => cases f; obtain ⟨od, vs, q1, q2⟩ := r; exact ⟨vs, .inr ⟨od, q1⟩, q2⟩
  | _ => cases f

/-- a new object is laid that never changes -/
theorem Go.laid (c : CS g κ ρ h H) {p : Addr} (e : H p = none) (o : HO) : Go ρ H ρ (upd H p o) :=
  ⟨⟨[], by simp⟩, fun a u q _ => by rw [upd_ne (ne_of_none q e)]; exact q, fun _ z n => absurd z n, fun a od u q => by rw [upd_ne (ne_of_none q e)]; exact q⟩
theorem CS.laid (c : CS g κ ρ h H) {p : Addr} (e : H p = none) (o : HO) : CS g κ ρ h (upd H p o) := by
  have k := Go.laid c e o
  refine ⟨c.len, c.nd, fun i a u h1 h2 => ?_, c.low, fun a ha => ?_⟩
  · have q := c.cell i a u h1 h2
    obtain ⟨w, hw, _⟩ := q.trk
    exact q.mono (upd_ne (ne_of_none hw e)) (fun _ _ r => r.go k) (fun _ _ r => r.go k) (fun _ _ r => r.go k)
  · obtain ⟨w, hw⟩ := c.kap a ha
    exact ⟨w, by rw [upd_ne (ne_of_none hw e)]; exact hw⟩
theorem FZ.laid (c : CS g κ ρ h H) {p : Addr} (e : H p = none) (o : HO) : FZ κ ρ (upd H p o) p o := ⟨.inl upd_same, c.fresh e, c.freshK e⟩
/-- a new object that may change: a new cell -/
theorem Go.born (c : CS g κ ρ h H) {p : Addr} (e : H p = none) (o : HO) : Go ρ H (ρ ++ [p]) (upd H p o) :=
  ⟨⟨[p], rfl⟩, fun a u q _ => by rw [upd_ne (ne_of_none q e)]; exact q, fun a z n => by
    rcases List.mem_append.mp z with z | z
    · exact absurd z n
    · have : a = p := by simpa using z
      subst this; exact e, fun a od u q => by rw [upd_ne (ne_of_none q e)]; exact q⟩
theorem CS.born (c : CS g κ ρ h H) {p : Addr} (e : H p = none) {o : HO} {u : Cell} (hu : CellR g κ (ρ ++ [p]) (upd H p o) p u) (hl : lowC h.length u = true) : CS g κ (ρ ++ [p]) (h ++ [u]) (upd H p o) := by
  have k := Go.born c e o
  have hnp : p ∉ ρ := c.fresh e
  refine ⟨by simp [c.len], List.nodup_append.mpr ⟨c.nd, by simp, fun a h1 b h2 => ?_⟩, fun i a w h1 h2 => ?_, fun i w h2 => ?_, fun a ha => ?_⟩
  · have : b = p := by simpa using h2
    subst this; intro z; subst z; exact hnp h1
  · by_cases hi : i < ρ.length
    · rw [List.getElem?_append_left hi] at h1
      rw [List.getElem?_append_left (by rw [← c.len]; exact hi)] at h2
      have q := c.cell i a w h1 h2
      obtain ⟨x, hw, _⟩ := q.trk
      exact q.mono (upd_ne (ne_of_none hw e)) (fun _ _ r => r.go k) (fun _ _ r => r.go k) (fun _ _ r => r.go k)
    · have hi' : ρ.length ≤ i := Nat.le_of_not_lt hi
      rw [List.getElem?_append_right hi'] at h1
      have e0 : i - ρ.length = 0 := by
        rcases Nat.eq_zero_or_pos (i - ρ.length) with z | z
        · exact z
        · rw [List.getElem?_eq_none (by simp; omega)] at h1; cases h1
      rw [e0] at h1
      have ea : p = a := by simpa using h1
      subst ea
      rw [List.getElem?_append_right (by rw [← c.len]; exact hi'), ← c.len, e0] at h2
      have ew : u = w := by simpa using h2
      subst ew
      exact hu
  · by_cases hi : i < h.length
    · rw [List.getElem?_append_left hi] at h2
      exact c.low i w h2
    · have hi' : h.length ≤ i := Nat.le_of_not_lt hi
      rw [List.getElem?_append_right hi'] at h2
      have e0 : i - h.length = 0 := by
        rcases Nat.eq_zero_or_pos (i - h.length) with z | z
        · exact z
        · rw [List.getElem?_eq_none (by simp; omega)] at h2; cases h2
      rw [e0] at h2
      have ew : u = w := by simpa using h2
      subst ew
      have : i = h.length := by omega
      rw [this]; exact hl
  · obtain ⟨w, hw⟩ := c.kap a ha
    exact ⟨w, by rw [upd_ne (ne_of_none hw e)]; exact hw⟩
/-- a cell is changed -/
theorem Go.write {a : Addr} (ha : a ∈ ρ) (nf : ∀ od u, H a ≠ some (.frz od u)) (o : HO) : Go ρ H ρ (upd H a o) :=
  ⟨⟨[], by simp⟩, fun b u q n => by rw [upd_ne (fun z => n (by rw [z]; exact ha))]; exact q, fun _ z n => absurd z n, fun b od u q => by rw [upd_ne (fun z => nf od u (by rw [← z]; exact q))]; exact q⟩
theorem upd_off {K : PySem.W.Frag} {a b : Addr} {o v : HO} (ha : a ∈ ρ) (n : b ∉ ρ) (q : H b = some v) : upd H a o b = some v := by rw [upd_ne (fun z => n (by rw [z]; exact ha))]; exact q
theorem Rep.upd {K : PySem.W.Frag} {a : Addr} {o : HO} (ha : a ∈ ρ) {d : D} {v : V} (h : Rep K κ ρ H d v) : Rep K κ ρ (upd H a o) d v :=
  h.mono (fun _ _ ⟨⟨o, z, y⟩, h2, h3⟩ => ⟨⟨o, upd_off (K := K) ha h2 z, y⟩, h2, h3⟩) (fun _ _ h => ⟨upd_off (K := K) ha h.2.1 h.1, h.2.1, h.2.2⟩) (fun _ _ h => ⟨upd_off (K := K) ha h.2.1 h.1, h.2.1, h.2.2⟩) (fun _ _ h => h.imp (fun ⟨o, z1, z2, z3⟩ => ⟨o, upd_off (K := K) ha z2 z1, z2, z3⟩) id) fun _ _ q => q
theorem Reps.upd {K : PySem.W.Frag} {a : Addr} {o : HO} (ha : a ∈ ρ) {d : List D} {v : List V} (h : Reps K κ ρ H d v) : Reps K κ ρ (upd H a o) d v :=
  h.mono (fun _ _ ⟨⟨o, z, y⟩, h2, h3⟩ => ⟨⟨o, upd_off (K := K) ha h2 z, y⟩, h2, h3⟩) (fun _ _ h => ⟨upd_off (K := K) ha h.2.1 h.1, h.2.1, h.2.2⟩) (fun _ _ h => ⟨upd_off (K := K) ha h.2.1 h.1, h.2.1, h.2.2⟩) (fun _ _ h => h.imp (fun ⟨o, z1, z2, z3⟩ => ⟨o, upd_off (K := K) ha z2 z1, z2, z3⟩) id) fun _ _ q => q
theorem CS.write (c : CS g κ ρ h H) {i : Nat} {a : Addr} (ha : ρ[i]? = some a) {o : HO} {u : Cell} (hu : CellR g κ ρ (upd H a o) a u) (hl : lowC i u = true) : CS g κ ρ (h.set i u) (upd H a o) := by
  have hm : a ∈ ρ := List.mem_of_getElem? ha
  refine ⟨by simp [c.len], c.nd, fun j b w h1 h2 => ?_, fun j w h2 => ?_, fun b hb => ?_⟩
  · by_cases e : i = j
    · subst e
      rw [ha] at h1; cases h1
      have hj : i < h.length := by
        rw [← c.len]
        exact (List.getElem?_eq_some_iff.mp ha).1
      rw [List.getElem?_set_self hj] at h2
      cases h2; exact hu
    · rw [List.getElem?_set_ne e] at h2
      have q := c.cell j b w h1 h2
      have hne : b ≠ a := fun z => by
        subst z
        obtain ⟨p1, q1⟩ := List.getElem?_eq_some_iff.mp ha
        obtain ⟨p2, q2⟩ := List.getElem?_eq_some_iff.mp h1
        exact e ((List.getElem_inj c.nd).mp (q1.trans q2.symm))
      exact q.mono (upd_ne hne) (fun _ _ r => r.upd hm) (fun _ _ r => r.upd hm) (fun _ _ ⟨⟨o, z, y⟩, h2, h3⟩ => ⟨⟨o, upd_off (K := g.K) hm h2 z, y⟩, h2, h3⟩)
  · by_cases e : i = j
    · subst e
      have hj : i < h.length := by
        rw [← c.len]
        exact (List.getElem?_eq_some_iff.mp ha).1
      rw [List.getElem?_set_self hj] at h2
      cases h2; exact hl
    · rw [List.getElem?_set_ne e] at h2
      exact c.low j w h2
  · obtain ⟨w, hw⟩ := c.kap b hb
    by_cases z : b = a
    · subst z; exact ⟨o, upd_same⟩
    · exact ⟨w, by rw [upd_ne z]; exact hw⟩
end
end Q
end
section
namespace Q
open PySem PySem.Spec PyProof.Rows L2

def XRep (g : G) (κ ρ : List Addr) (H : Hp) (x : Exc) (c : Value) (dO : Option Addr) : Prop :=
  c = .ref (g.cm x.cls) ∧ match x.arg with
  | none => dO = none
  | some (nm, d) => ∃ p v, dO = some p ∧ H p = some (.xd [(nm, v)]) ∧ Rep g.K κ ρ H d v

/-- what an outcome asks of what follows -/
def Wp (g : G) (E : XK) (κ ρ : List Addr) (H : Hp) (r : Oc D) (Q : VK) : Prop :=
  match r with
  | .bad => False
  | .ok d h' => ∀ ρ' v H', Go ρ H ρ' H' → CS g κ ρ' h' H' → Rep g.K κ ρ' H' d v → Q v H'
  | .ex x h' => ∀ ρ' H' c dO, Go ρ H ρ' H' → CS g κ ρ' h' H' → XRep g κ ρ' H' x c dO → E c dO H'
def WpA (g : G) (E : XK) (κ ρ : List Addr) (H : Hp) (r : Oc (List D)) (Q : List V → Hp → Prop) : Prop :=
  match r with
  | .bad => False
  | .ok ds h' => ∀ ρ' vs H', Go ρ H ρ' H' → CS g κ ρ' h' H' → Reps g.K κ ρ' H' ds vs → Q vs H'
  | .ex x h' => ∀ ρ' H' c dO, Go ρ H ρ' H' → CS g κ ρ' h' H' → XRep g κ ρ' H' x c dO → E c dO H'
def WpB (g : G) (E : XK) (κ ρ : List Addr) (H : Hp) (r : Oc Bool) (Q : Bool → Hp → Prop) : Prop :=
  match r with
  | .bad => False
  | .ok b h' => ∀ ρ' H', Go ρ H ρ' H' → CS g κ ρ' h' H' → Q b H'
  | .ex x h' => ∀ ρ' H' c dO, Go ρ H ρ' H' → CS g κ ρ' h' H' → XRep g κ ρ' H' x c dO → E c dO H'
/-- slots -/
def EnvR (g : G) (κ ρ : List Addr) (H : Hp) (env : Ev) (σ : L2.St) : Prop :=
  env.length = σ.length ∧ ∀ (i : Nat) (d : D), env[i]? = some (some d) → ∃ v, σ[i]? = some (some v) ∧ Rep g.K κ ρ H d v
structure Sit (g : G) (κ ρ : List Addr) (env : Ev) (h : Hh) (σ : L2.St) (H : Hp) : Prop where
  cs : CS g κ ρ h H
  en : EnvR g κ ρ H env σ
abbrev DE := Ev → Hh → Oc D
abbrev DA := Ev → Hh → Oc (List D)
abbrev DB := Ev → Hh → Oc Bool
def RE (g : G) (E : XK) (f : DE) : TE := fun σ H Q => ∃ κ ρ env h, Sit g κ ρ env h σ H ∧ Wp g E κ ρ H (f env h) Q
def RA (g : G) (E : XK) (f : DA) : TA := fun σ H Q => ∃ κ ρ env h, Sit g κ ρ env h σ H ∧ WpA g E κ ρ H (f env h) Q
def RB (g : G) (E : XK) (f : DB) : TT := fun σ H Q => ∃ κ ρ env h, Sit g κ ρ env h σ H ∧ WpB g E κ ρ H (f env h) Q

inductive Fl where
  | next | brk | cont | ret (d : D)
abbrev DS := Ev → Hh → Oc (Fl × Ev)
def WpS (g : G) (E : XK) (κ ρ : List Addr) (H : Hp) (r : Oc (Fl × Ev)) (D : Ends) : Prop :=
  match r with
  | .bad => False
  | .ok (fl, env') h' => ∀ ρ' σ' H', Go ρ H ρ' H' → CS g κ ρ' h' H' → EnvR g κ ρ' H' env' σ' → (match fl with
    | .next => D.nx σ' H'
    | .brk => D.bk σ' H'
    | .cont => D.ct σ' H'
    | .ret d => ∀ v, Rep g.K κ ρ' H' d v → D.rt v H')
  | .ex x h' => ∀ ρ' H' c dO, Go ρ H ρ' H' → CS g κ ρ' h' H' → XRep g κ ρ' H' x c dO → E c dO H'
def RS (g : G) (E : XK) (f : DS) : TS := fun D σ H => ∃ κ ρ env h, Sit g κ ρ env h σ H ∧ WpS g E κ ρ H (f env h) D
/-- a target: the value to be stored -/
abbrev DG := D → Ev → Hh → Oc Ev
def WpG (g : G) (E : XK) (κ ρ : List Addr) (H : Hp) (r : Oc Ev) (Q : L2.St → Hp → Prop) : Prop :=
  match r with
  | .bad => False
  | .ok env' h' => ∀ ρ' σ' H', Go ρ H ρ' H' → CS g κ ρ' h' H' → EnvR g κ ρ' H' env' σ' → Q σ' H'
  | .ex x h' => ∀ ρ' H' c dO, Go ρ H ρ' H' → CS g κ ρ' h' H' → XRep g κ ρ' H' x c dO → E c dO H'
def RG (g : G) (E : XK) (f : DG) : TG := fun v σ H Q => ∃ κ ρ env h d, Sit g κ ρ env h σ H ∧ Rep g.K κ ρ H d v ∧ WpG g E κ ρ H (f d env h) Q

section
variable {g : G} {E : XK} {κ ρ ρ1 : List Addr} {H H1 : Hp} {env env' : Ev} {σ : L2.St} {h h1 : Hh}
theorem EnvR.go (k : Go ρ H ρ1 H1) (e : EnvR g κ ρ H env σ) : EnvR g κ ρ1 H1 env σ :=
  ⟨e.1, fun i d q => let ⟨v, h1, h2⟩ := e.2 i d q; ⟨v, h1, h2.go k⟩⟩
theorem Sit.go (s : Sit g κ ρ env h σ H) (k : Go ρ H ρ1 H1) (c : CS g κ ρ1 h1 H1) : Sit g κ ρ1 env h1 σ H1 := ⟨c, s.en.go k⟩
theorem Wp.go {r : Oc D} {Q : VK} (k : Go ρ H ρ1 H1) (w : Wp g E κ ρ H r Q) : Wp g E κ ρ1 H1 r Q := by
  cases r with
  | bad => exact w
  | ok d h' => exact fun ρ' v H' k' => w ρ' v H' (k.trans k')
  | ex x h' => exact fun ρ' H' c dO k' => w ρ' H' c dO (k.trans k')
theorem WpA.go {r : Oc (List D)} {Q} (k : Go ρ H ρ1 H1) (w : WpA g E κ ρ H r Q) : WpA g E κ ρ1 H1 r Q := by
  cases r with
  | bad => exact w
  | ok d h' => exact fun ρ' v H' k' => w ρ' v H' (k.trans k')
  | ex x h' => exact fun ρ' H' c dO k' => w ρ' H' c dO (k.trans k')
theorem WpB.go {r : Oc Bool} {Q} (k : Go ρ H ρ1 H1) (w : WpB g E κ ρ H r Q) : WpB g E κ ρ1 H1 r Q := by
  cases r with
  | bad => exact w
  | ok d h' => exact fun ρ' H' k' => w ρ' H' (k.trans k')
  | ex x h' => exact fun ρ' H' c dO k' => w ρ' H' c dO (k.trans k')
theorem WpS.go {r : Oc (Fl × Ev)} {D} (k : Go ρ H ρ1 H1) (w : WpS g E κ ρ H r D) : WpS g E κ ρ1 H1 r D := by
  cases r with
  | bad => exact w
  | ok d h' => obtain ⟨fl, e⟩ := d; exact fun ρ' σ' H' k' => w ρ' σ' H' (k.trans k')
  | ex x h' => exact fun ρ' H' c dO k' => w ρ' H' c dO (k.trans k')
theorem WpG.go {r : Oc Ev} {Q} (k : Go ρ H ρ1 H1) (w : WpG g E κ ρ H r Q) : WpG g E κ ρ1 H1 r Q := by
  cases r with
  | bad => exact w
  | ok d h' => exact fun ρ' σ' H' k' => w ρ' σ' H' (k.trans k')
  | ex x h' => exact fun ρ' H' c dO k' => w ρ' H' c dO (k.trans k')
theorem EnvR.get (e : EnvR g κ ρ H env σ) {i : Nat} {d : D} (q : env[i]? = some (some d)) : ∃ v, σ[i]? = some (some v) ∧ Rep g.K κ ρ H d v := e.2 i d q
theorem EnvR.set (e : EnvR g κ ρ H env σ) (i : Nat) {d : D} {v : V} (r : Rep g.K κ ρ H d v) : EnvR g κ ρ H (env.set i (some d)) (σ.set i (some v)) := by
  refine ⟨by simp [e.1], fun j d' q => ?_⟩
  by_cases z : i = j
  · subst z
    by_cases hi : i < env.length
    · rw [List.getElem?_set_self hi] at q
      cases q
      exact ⟨v, by rw [List.getElem?_set_self (by rw [← e.1]; exact hi)], r⟩
    · rw [List.getElem?_eq_none (by simpa using hi)] at q; cases q
  · rw [List.getElem?_set_ne z] at q
    rw [List.getElem?_set_ne z]
    exact e.2 j d' q
end

/-- binding of outcomes -/
@[inline] def Oc.bind {α β : Type} (r : Oc α) (f : α → Hh → Oc β) : Oc β :=
  match r with
  | .bad => .bad
  | .ok a h => f a h
  | .ex x h => .ex x h

/-! ## rules made over readings -/
section
variable {X : Cx} {g : G} {E : XK} {a b c : Expr} {es : List Expr} {st : Stmt} {pos : Pos}
theorem PE.imp {t t' : TE} {e : Expr} (p : PE X e t) (h : ∀ σ H Q, t' σ H Q → t σ H Q) : PE X e t' := ⟨fun pins s σ H Q I q => p.run pins s σ H Q I (h σ H Q q)⟩
theorem PT.imp {t t' : TT} {e : Expr} (p : PT X e t) (h : ∀ σ H Q, t' σ H Q → t σ H Q) : PT X e t' := ⟨fun pins s σ H Q I q => p.run pins s σ H Q I (h σ H Q q)⟩
theorem PW.imp {t t' : TT} {e : Expr} (p : PW X e t) (h : ∀ σ H Q, t' σ H Q → t σ H Q) : PW X e t' := ⟨fun wh pins s σ H Q I q => p.run wh pins s σ H Q I (h σ H Q q)⟩
theorem PA.imp {t t' : TA} {e : List Expr} (p : PA X e t) (h : ∀ σ H Q, t' σ H Q → t σ H Q) : PA X e t' := ⟨fun ps pins s σ H Q I q => p.run ps pins s σ H Q I (h σ H Q q)⟩
theorem PS.imp {t t' : TS} {e : Stmt} (p : PS X e t) (h : ∀ D σ H, t' D σ H → t D σ H) : PS X e t' := ⟨fun pins s σ H D I q => p.run pins s σ H D I (h D σ H q)⟩
theorem PSs.imp {t t' : TS} {e : List Stmt} (p : PSs X e t) (h : ∀ D σ H, t' D σ H → t D σ H) : PSs X e t' := ⟨fun pins s σ H D I q => p.run pins s σ H D I (h D σ H q)⟩
theorem PG.imp {t t' : TG} {e : Expr} (p : PG X e t) (h : ∀ v σ H Q, t' v σ H Q → t v σ H Q) : PG X e t' := ⟨fun pins s σ H v u Q I r q => p.run pins s σ H v u Q I r (h v σ H Q q)⟩

/-- the first part -/
theorem Wp.fst {g : G} {E : XK} {κ ρ : List Addr} {H : Hp} {r : Oc D} {f : D → Hh → Oc D} {Q : VK} (w : Wp g E κ ρ H (r.bind f) Q) :
    Wp g E κ ρ H r fun v H1 => ∃ ρ1 d h1, Go ρ H ρ1 H1 ∧ CS g κ ρ1 h1 H1 ∧ Rep g.K κ ρ1 H1 d v ∧ Wp g E κ ρ1 H1 (f d h1) Q := by
  cases r with
  | bad => exact w
  | ok d h' => exact fun ρ' v H' k c rp => ⟨ρ', d, h', k, c, rp, Wp.go k w⟩
  | ex x h' => exact w
end

/-- values' operations -/
def r2 (g : G) (E : XK) (op : D → D → Hh → Oc D) : R2 := fun x y H Q => ∃ κ ρ h d e, CS g κ ρ h H ∧ Rep g.K κ ρ H d x ∧ Rep g.K κ ρ H e y ∧ Wp g E κ ρ H (op d e h) Q
def r1 (g : G) (E : XK) (op : D → Hh → Oc D) : V → Hp → VK → Prop := fun x H Q => ∃ κ ρ h d, CS g κ ρ h H ∧ Rep g.K κ ρ H d x ∧ Wp g E κ ρ H (op d h) Q
def rN (g : G) (E : XK) (op : List D → Hh → Oc D) : List V → Hp → VK → Prop := fun xs H Q => ∃ κ ρ h ds, CS g κ ρ h H ∧ Reps g.K κ ρ H ds xs ∧ Wp g E κ ρ H (op ds h) Q
def rM (g : G) (E : XK) (op : D → List D → Hh → Oc D) : V → List V → Hp → VK → Prop := fun x xs H Q => ∃ κ ρ h d ds, CS g κ ρ h H ∧ Rep g.K κ ρ H d x ∧ Reps g.K κ ρ H ds xs ∧ Wp g E κ ρ H (op d ds h) Q

def d2 (op : D → D → Hh → Oc D) (fa fb : DE) : DE := fun env h => (fa env h).bind fun x h1 => (fb env h1).bind fun y h2 => op x y h2
def d1 (op : D → Hh → Oc D) (fa : DE) : DE := fun env h => (fa env h).bind op
def dN (op : List D → Hh → Oc D) (fa : DA) : DE := fun env h => (fa env h).bind op
section
variable {X : Cx} {g : G} {E : XK} {a b c : Expr} {es : List Expr} {st : Stmt} {pos : Pos} {fa fb fc : DE} {fA : DA}
theorem tOp_of {op : D → D → Hh → Oc D} {σ : L2.St} {H : Hp} {Q : VK} (w : RE g E (d2 op fa fb) σ H Q) : tOp (r2 g E op) (RE g E fa) (RE g E fb) σ H Q := by
  obtain ⟨κ, ρ, env, h, S, w⟩ := w
  refine ⟨κ, ρ, env, h, S, ?_⟩
  unfold d2 at w
  revert w
  cases fa env h with
  | bad => exact id
  | ex x h' => exact id
  | ok d h1 =>
    intro w ρ1 x H1 k1 c1 q1
    refine ⟨κ, ρ1, env, h1, S.go k1 c1, ?_⟩
    have w : Wp g E κ ρ H ((fb env h1).bind fun y h2 => op d y h2) Q := w
    revert w
    cases fb env h1 with
    | bad => exact id
    | ex x h' => exact fun w ρ' H' c dO k => w ρ' H' c dO (k1.trans k)
    | ok e h2 =>
      intro w ρ2 y H2 k2 c2 q2
      exact ⟨κ, ρ2, h2, d, e, c2, q1.go k2, q2, Wp.go (k1.trans k2) w⟩
theorem tUn_of {op : D → Hh → Oc D} {σ : L2.St} {H : Hp} {Q : VK} (w : RE g E (d1 op fa) σ H Q) : tUn (r1 g E op) (RE g E fa) σ H Q := by
  obtain ⟨κ, ρ, env, h, S, w⟩ := w
  refine ⟨κ, ρ, env, h, S, ?_⟩
  unfold d1 at w
  revert w
  cases fa env h with
  | bad => exact id
  | ex x h' => exact id
  | ok d h1 =>
    intro w ρ1 x H1 k1 c1 q1
    exact ⟨κ, ρ1, h1, d, c1, q1, Wp.go k1 w⟩
theorem p_bin {op : Operator} {vop : D → D → Hh → Oc D} (ho : OpR X (binaryOp op) (r2 g E vop)) (ha : PE X a (RE g E fa)) (hb : PE X b (RE g E fb)) : PE X (.BinOp a op b pos) (RE g E (d2 vop fa fb)) :=
  PE.imp (pe_op ho ha hb) fun _ _ _ => tOp_of
theorem p_un {op : UnaryOp} {vop : D → Hh → Oc D} (ho : UnR X (unaryOp op) (r1 g E vop)) (ha : PE X a (RE g E fa)) : PE X (.UnaryOp op a pos) (RE g E (d1 vop fa)) :=
  PE.imp (pe_un ho ha) fun _ _ _ => tUn_of
theorem p_cmp {op : CmpOp} {vop : D → D → Hh → Oc D} (ho : OpR X (compareOp op) (r2 g E vop)) (ha : PE X a (RE g E fa)) (hb : PE X b (RE g E fb)) (hm : behindInMarks op b = false) : PE X (.Compare a [op] [b] pos) (RE g E (d2 vop fa fb)) :=
  PE.imp (pe_cmpR ho ha hb hm) fun _ _ _ => tOp_of

/-- a truth -/
def asB (f : DE) : DB := fun env h => (f env h).bind fun d h => match d with
  | .bl b => .ok b h
  | _ => .bad
theorem RB_asB {f : DE} {σ : L2.St} {H : Hp} {Q : Bool → Hp → Prop} (w : RB g E (asB f) σ H Q) : RE g E f σ H fun x H1 => ∃ k, x = .bl k ∧ Q k H1 := by
  obtain ⟨κ, ρ, env, h, S, w⟩ := w
  refine ⟨κ, ρ, env, h, S, ?_⟩
  unfold asB at w
  revert w
  cases f env h with
  | bad => exact id
  | ex x h' => exact id
  | ok d h1 =>
    intro w ρ1 x H1 k1 c1 q1
    cases d with
    | bl b =>
      have q1 : x = .bl b := q1
      exact ⟨b, q1, w ρ1 H1 k1 c1⟩
    | _ => exact absurd (show False from w) id
theorem p_tcmp {op : CmpOp} {vop : D → D → Hh → Oc D} (ho : OpR X (compareOp op) (r2 g E vop)) (ha : PE X a (RE g E fa)) (hb : PE X b (RE g E fb)) (hm : behindInMarks op b = false) : PT X (.Compare a [op] [b] pos) (RB g E (asB (d2 vop fa fb))) :=
  PT.imp (pt_cmpR ho ha hb hm) fun _ _ _ w => tOp_of (RB_asB w)

/-! lists of arguments -/
def dNil : DA := fun _ h => .ok [] h
def dCons (fa : DE) (fr : DA) : DA := fun env h => (fa env h).bind fun x h1 => (fr env h1).bind fun xs h2 => .ok (x :: xs) h2
theorem p_nil : PA X [] (RA g E dNil) := PA.imp pa_nil fun σ H Q w => by
  obtain ⟨κ, ρ, env, h, S, w⟩ := w
  exact w ρ [] H (Go.refl _ _) S.cs rfl
theorem tCons_of {σ : L2.St} {H : Hp} {Q} (w : RA g E (dCons fa fA) σ H Q) : tCons (RE g E fa) (RA g E fA) σ H Q := by
  obtain ⟨κ, ρ, env, h, S, w⟩ := w
  refine ⟨κ, ρ, env, h, S, ?_⟩
  unfold dCons at w
  revert w
  cases fa env h with
  | bad => exact id
  | ex x h' => exact id
  | ok d h1 =>
    intro w ρ1 x H1 k1 c1 q1
    refine ⟨κ, ρ1, env, h1, S.go k1 c1, ?_⟩
    have w : WpA g E κ ρ H ((fA env h1).bind fun xs h2 => .ok (d :: xs) h2) Q := w
    revert w
    cases fA env h1 with
    | bad => exact id
    | ex x h' => exact fun w ρ' H' c dO k => w ρ' H' c dO (k1.trans k)
    | ok e h2 =>
      intro w ρ2 y H2 k2 c2 q2
      exact w ρ2 (x :: y) H2 (k1.trans k2) c2 ⟨x, y, rfl, q1.go k2, q2⟩
theorem p_cons (ha : PE X a (RE g E fa)) (hr : PA X es (RA g E fA)) (hs : starEach (a :: es) X.env = (false, eval a X.env) :: starEach es X.env) : PA X (a :: es) (RA g E (dCons fa fA)) :=
  PA.imp (pa_cons ha hr hs) fun _ _ _ => tCons_of

/-- the arguments, then an operation -/
theorem RA_of {op : List D → Hh → Oc D} {σ : L2.St} {H : Hp} {Q : VK} (w : RE g E (dN op fA) σ H Q) : RA g E fA σ H fun xs H1 => ∃ κ ρ h ds, CS g κ ρ h H1 ∧ Reps g.K κ ρ H1 ds xs ∧ Wp g E κ ρ H1 (op ds h) Q := by
  obtain ⟨κ, ρ, env, h, S, w⟩ := w
  refine ⟨κ, ρ, env, h, S, ?_⟩
  unfold dN at w
  revert w
  cases fA env h with
  | bad => exact id
  | ex x h' => exact id
  | ok ds h1 =>
    intro w ρ1 xs H1 k1 c1 q1
    exact ⟨κ, ρ1, h1, ds, c1, q1, Wp.go k1 w⟩
end
end Q
end
section
namespace Q
open PySem PySem.Spec PyProof.Rows L2

/-! ## the own tree of a def -/
inductive Bop where
  | add | sub | mul | fdiv | mod | pow
  deriving DecidableEq
inductive Cop where
  | eq | ne | lt | le | gt | ge | is | isnot | isin | notin
  deriving DecidableEq
inductive Ty where
  | int | bool | tuple | list | str | dict
  deriving DecidableEq
/-- a built-in that is called by its name -/
inductive Blt where
  | len | tuple | list | sorted | min | max | sum | abs | int | str | dict
  deriving DecidableEq
inductive Mth where
  | append | pop | index | keys | get | count | values | items | join | split | replace | insert
  deriving DecidableEq
/-- how an attribute of a new object is filled: from an argument, by an empty dict, by a whole number -/
inductive Ini where
  | arg (i : Nat) | dT | dK | int (i : Int)
  deriving DecidableEq
mutual
inductive E where
  | var (i : Nat) | non | bl (b : Bool) | int (i : Int) | str (s : Str) | glo (x : Str) (i : Int)
  | bin (m : Bool) (op : Bop) (a b : E) | neg (a : E) | nt (a : E) | and (a b : E) | or (a b : E)
  | cmp (op : Cop) (a b : E) | chain (o1 o2 : Cop) (a b c : E) | chain3 (o1 o2 o3 : Cop) (a b c d : E) | ife (c a b : E)
  | tup (es : List E) | lst (m : Bool) (es : List E) | isi (a : E) (one : Bool) (ts : List Ty)
  | call (f : Nat) (m : Bool) (es : List E) | blt (f : Blt) (m : Bool) (es : List E) | mth (f : Mth) (m : Bool) (o : E) (es : List E)
  | lrg (m : Bool) (a : E) | trg (a : E) | lrg2 (m : Bool) (a b : E) | trg2 (a b : E) | trg3 (a b c : E)
  | ix (a i : E) | sl (m : Bool) (a : E) (lo hi : Option E) | rev (m : Bool) (a : E)
  | dnew (t : Bool) | dsp (t : Bool) (ks vs : List E)
  | lc (m : Bool) (own : List Nat) (t : T) (it : I) (ifs : List E) (e : E)
  | lc2 (m : Bool) (own own1 : List Nat) (t : T) (it : I) (ifs : List E) (t1 : T) (it1 : I) (ifs1 : List E) (e : E)
  | srtk (m : Bool) (a : E) | lenk (a : E) | srts (m : Bool) (a : E) | lens (a : E) | srtl (m : Bool) (a : E) | mink (a : E) | maxv (a : E) | dpr (a : E)
  | fld (c : Nat) (x : Str) (a : E) | cm (c : Nat) (x : Str) (f : Nat) (m : Bool) (o : E) (es : List E) | mko (c : Nat) (fs : List (Str × Ini)) (es : List E)
  | fnv (x : Str) | callv (i : Nat) (tb : List (Str × Nat)) (m : Bool) (es : List E)
  | dead
inductive T where
  | nm (i : Nat) | tup (ts : List T) | sub (a i : E)
inductive I where
  | rng1 (a : E) | rng2 (a b : E) | enum (a : E) | zip (a b : E) | seq (a : E) | keys (a : E) | vals (a : E) | items (a : E)
end
inductive S where
  | asg (t : T) (e : E) | par (is : List Nat) (es : List E) | aug (i : Nat) (op : Bop) (e : E) | augs (a i : E) (op : Bop) (e : E)
  | ife (c : E) (a b : List S) | for_ (t : T) (it : I) (b : List S) | wh (c : E) (b : List S)
  | ret (e : E) | retn | ex (e : E) | brk | cont | pass | raise (c : Nat) (es : List E) | dead
  | nx (s : S) | ifr (c : E) (C : Nat) | tryr (ei j C : Nat) (a : Str) (f : Nat) (es : List E)
structure Fn where
  names : List Str
  np : Nat
  body : List S

/-! ## what is seen of a value -/
def seqOf (h : Hh) : D → Option (List D)
  | .pr ds => some ds
  | .fl ds => some ds
  | .rl ds => some ds
  | .tup ds => some ds
  | .ml i => match h[i]? with
    | some (.lst ds) => some ds
    | _ => none
  | _ => none
def lstOf (h : Hh) : D → Option (List D)
  | .fl ds => some ds
  | .rl ds => some ds
  | .ml i => match h[i]? with
    | some (.lst ds) => some ds
    | _ => none
  | _ => none
/-- lists that are tracked as such -/
def lstW (h : Hh) : D → Option (List D)
  | .fl ds => some ds
  | .ml i => match h[i]? with
    | some (.lst ds) => some ds
    | _ => none
  | _ => none
def big : Nat := 10000000
/-- a list that is just made -/
def mk (m : Bool) (ds : List D) (h : Hh) : Oc D :=
  match m with
  | true => if lows h.length ds then .ok (.ml h.length) (h ++ [.lst ds]) else .bad
  | false => .ok (.fl ds) h

mutual
def py : D → PyData
  | .non => .none
  | .bl b => .bool b
  | .int i => .int i
  | .str s => .str s
  | .tup ds => .tuple (pys ds)
  | .fl ds => .list (pys ds)
  | .rl ds => .list (pys ds)
  | _ => .dict []
def pys : List D → List PyData
  | [] => []
  | d :: ds => py d :: pys ds
end
/-- a changing list at the top is seen as it stands -/
def view (h : Hh) : D → D
  | .ml i => match h[i]? with
    | some (.lst ds) => .fl ds
    | _ => .ml i
  | d => d
mutual
/-- may be compared: depth at most n -/
def shp : Nat → D → Bool
  | _, .non => true
  | _, .bl _ => true
  | _, .int _ => true
  | _, .str s => PyData.strOk s
  | 0, _ => false
  | n + 1, .tup ds => shps n ds
  | n + 1, .fl ds => shps n ds
  | n + 1, .rl ds => shps n ds
  | _, _ => false
def shps : Nat → List D → Bool
  | _, [] => true
  | n, d :: ds => shp n d && shps n ds
end
mutual
def deq : D → D → Bool
  | .non, .non => true
  | .bl a, .bl b => a == b
  | .bl a, .int j => (if a then 1 else 0) == j
  | .int i, .bl b => i == (if b then 1 else 0)
  | .int i, .int j => i == j
  | .str x, .str y => x == y
  | .tup xs, .tup ys => deqs xs ys
  | .fl xs, .fl ys => deqs xs ys
  | .fl xs, .rl ys => deqs xs ys
  | .rl xs, .fl ys => deqs xs ys
  | .rl xs, .rl ys => deqs xs ys
  | _, _ => false
def deqs : List D → List D → Bool
  | [], [] => true
  | x :: xs, y :: ys => deq x y && deqs xs ys
  | _, _ => false
end
def vEq (neg : Bool) (a b : D) (h : Hh) : Oc D :=
  match a, b with
  | .int i, .int j => .ok (.bl (neg != (i == j))) h
  | a, b => if shp 8 (view h a) && shp 8 (view h b) then .ok (.bl (neg != deq (view h a) (view h b))) h else .bad

def bnd (i : Int) : Bool := decide (-(2 ^ 64) < i ∧ i < 2 ^ 64)
def wid (i : Int) : Bool := decide (i.natAbs < 2 ^ 8000)
def vBin (m : Bool) (op : Bop) (a b : D) (h : Hh) : Oc D :=
  match op, a, b with
  | .add, .int i, .int j => .ok (.int (i + j)) h
  | .add, .str i, .str j => if i.length + j.length ≤ big then .ok (.str (i ++ j)) h else .bad
  | .add, .tup xs, .tup ys => if xs.length + ys.length ≤ big then .ok (.tup (xs ++ ys)) h else .bad
  | .sub, .int i, .int j => .ok (.int (i - j)) h
  | .mul, .int i, .int j => if (bnd i || bnd j) || (wid i && wid j) then .ok (.int (i * j)) h else .bad
  | .fdiv, .int i, .int j => if 0 < j ∧ j.natAbs < 2 ^ 8000 then .ok (.int (i / j)) h else .bad
  | .mod, .int i, .int j => if 0 < j then .ok (.int (i % j)) h else .bad
  | .pow, .int i, .int j => if 0 ≤ j ∧ j ≤ 1000000 ∧ i.natAbs < 2 ^ 64 then .ok (.int (i ^ j.toNat)) h else .bad
  | .add, a, b => match lstW h a, lstW h b with
    | some xs, some ys => if xs.length + ys.length ≤ big then mk m (xs ++ ys) h else .bad
    | _, _ => .bad
  | .mul, .tup xs, .int k => if -(2 ^ 63) ≤ k ∧ k ≤ 1000 ∧ xs.length ≤ 1000 then .ok (.tup (List.replicate k.toNat xs).flatten) h else .bad
  | .mul, a, .int k => match lstW h a with
    | some xs => if k < 2 ^ 63 ∧ -(2 ^ 63) ≤ k ∧ xs.length * k.toNat ≤ big then mk m (List.replicate k.toNat xs).flatten h else .bad
    | none => .bad
  | _, _, _ => .bad
def vAugI (op : Bop) (a b : Int) : Option Int := match op with
  | .add => some (a + b)
  | .sub => some (a - b)
  | .mul => if bnd a || bnd b then some (a * b) else none
  | _ => none
def vAug (op : Bop) (x y : D) : Option D := match x, y with
  | .int a, .int b => (vAugI op a b).map .int
  | _, _ => none
def vNeg (a : D) (h : Hh) : Oc D :=
  match a with
  | .int i => .ok (.int (-i)) h
  | _ => .bad
def vNot (a : D) (h : Hh) : Oc D :=
  match a with
  | .bl b => .ok (.bl (!b)) h
  | _ => .bad
/-- the order of lists of whole numbers -/
def intsOf : List D → Option (List Int)
  | [] => some []
  | .int i :: r => (intsOf r).map (i :: ·)
  | _ => none
/-- as a key of a dict -/
def keyOf : D → Option Key
  | .int i => some (.inl i)
  | .str s => some (.inr s)
  | _ => none
/-- may be a key, as a tuple -/
def hk (ds : List D) : Bool := (nk 8 (.tup ds)).isSome
def dgetT (kvs : List (List D × D)) (k : List D) : Option D := (kvs.find? fun kv => deqs kv.1 k).map (·.2)
def dputT (kvs : List (List D × D)) (k : List D) (v : D) : List (List D × D) :=
  if kvs.any (fun kv => deqs kv.1 k) then kvs.map fun kv => if deqs kv.1 k = true then (kv.1, v) else kv else kvs ++ [(k, v)]
def dget {κ : Type} [DecidableEq κ] (kvs : List (κ × D)) (k : κ) : Option D := (kvs.find? fun kv => decide (kv.1 = k)).map (·.2)
def dput {κ : Type} [DecidableEq κ] (kvs : List (κ × D)) (k : κ) (v : D) : List (κ × D) :=
  if kvs.any (fun kv => decide (kv.1 = k)) then kvs.map fun kv => if kv.1 = k then (kv.1, v) else kv else kvs ++ [(k, v)]
/-- what a dict has for a value: some (some d), some none, or no answer -/
def dlook (h : Hh) (o k : D) : Option (Option D) :=
  match o with
  | .md i => match (h[i]?).map unl with
    | some (.dK kvs) => match keyOf k with
      | some k => some (dget kvs k)
      | none => none
    | some (.dT kvs) => match k with
      | .tup ds => if hk ds then some (dgetT kvs ds) else none
      | _ => none
    | _ => none
  | _ => none
def keyD : Key → D
  | .inl i => .int i
  | .inr s => .str s
/-- the keys of a dict -/
def keysD (h : Hh) : D → Option (List D)
  | .md i => match (h[i]?).map unl with
    | some (.dK kvs) => some (kvs.map fun p => keyD p.1)
    | some (.dT kvs) => some (kvs.map fun p => .tup p.1)
    | _ => none
  | _ => none
def valsD (h : Hh) : D → Option (List D)
  | .md i => match (h[i]?).map unl with
    | some (.dK kvs) => some (kvs.map (·.2))
    | some (.dT kvs) => some (kvs.map (·.2))
    | _ => none
  | _ => none
def flat : D → Bool
  | .non => true
  | .bl _ => true
  | .int _ => true
  | .str _ => true
  | _ => false
def vIn (neg : Bool) (a b : D) (h : Hh) : Oc D :=
  match b with
  | .md i => match dlook h b a with
    | some o => .ok (.bl (neg != o.isSome)) h
    | none => .bad
  | b => match seqOf h b with
    | some ds => if shp 7 (view h a) && shps 7 ds then .ok (.bl (neg != ds.any fun z => deq z (view h a))) h else .bad
    | none => .bad
/-- tuples of alike data, by their order -/
def okLt (a b : D) : Bool := shp 7 a && (shp 7 b && (PySem.W.alike (py a) (py b) && PySem.W.alike (py b) (py a)))
def vLtT (a b : D) (h : Hh) : Oc D := if okLt a b then .ok (.bl (PySem.W.dataLt (py a) (py b))) h else .bad
def vCmp (op : Cop) (a b : D) (h : Hh) : Oc D :=
  match op, a, b with
  | .eq, a, b => vEq false a b h
  | .ne, a, b => vEq true a b h
  | .lt, .int i, .int j => .ok (.bl (decide (i < j))) h
  | .lt, .tup xs, .tup ys => vLtT (.tup xs) (.tup ys) h
  | .gt, .tup xs, .tup ys => vLtT (.tup ys) (.tup xs) h
  | .le, .int i, .int j => .ok (.bl (decide (i ≤ j))) h
  | .gt, .int i, .int j => .ok (.bl (decide (j < i))) h
  | .ge, .int i, .int j => .ok (.bl (decide (j ≤ i))) h
  | .is, a, .non => .ok (.bl (match a with | .non => true | _ => false)) h
  | .isnot, a, .non => .ok (.bl (match a with | .non => false | _ => true)) h
  | .is, .bl a, .bl b => .ok (.bl (decide (a = b))) h
  | .isnot, .bl a, .bl b => .ok (.bl (!decide (a = b))) h
  | .isin, a, b => vIn false a b h
  | .notin, a, b => vIn true a b h
  | .le, .tup xs, .tup ys => match intsOf xs, intsOf ys with
    | some ns, some ms => .ok (.bl (lexLeI ns ms)) h
    | _, _ => .bad
  | _, _, _ => .bad
def isTy (t : Ty) : D → Option Bool
  | .non => some false
  | .bl _ => some (match t with | .int => true | .bool => true | _ => false)
  | .int _ => some (match t with | .int => true | _ => false)
  | .str _ => some (match t with | .str => true | _ => false)
  | .tup _ => some (match t with | .tuple => true | _ => false)
  | .fl _ => some (match t with | .list => true | _ => false)
  | .ml _ => some (match t with | .list => true | _ => false)
  | .md _ => some (match t with | .dict => true | _ => false)
  | _ => none
def isTys : List Ty → D → Option Bool
  | [], _ => some false
  | t :: r, d => match isTy t d with
    | some true => some true
    | some false => isTys r d
    | none => none
def mlOk (h : Hh) (d : D) : Bool := match d with
  | .ml _ => (lstOf h d).isSome
  | .md i => match h[i]? with
    | some (.dK _) => true
    | _ => false
  | _ => true
def vIsi (ts : List Ty) (a : D) (h : Hh) : Oc D := if mlOk h a then match isTys ts a with
  | some b => .ok (.bl b) h
  | none => .bad else .bad
def vIx (a i : D) (h : Hh) : Oc D :=
  match a with
  | .md j => match dlook h a i with
    | some (some d) => .ok d h
    | _ => .bad
  | .str s => match i with
    | .int k => if s.length ≤ big then match atI s.cps.toList k with
      | some c => .ok (.str ⟨#[c]⟩) h
      | none => .bad else .bad
    | _ => .bad
  | a => match seqOf h a, i with
    | some ds, .int k => match atI ds k with
      | some d => .ok d h
      | none => .bad
    | _, _ => .bad
def cut (xs : List D) (lo hi : Option Int) : List D := (xs.drop (HT.sIx xs.length 0 lo)).take (HT.sIx xs.length xs.length hi - HT.sIx xs.length 0 lo)
def vSl (m : Bool) (a : D) (lo hi : Option Int) (h : Hh) : Oc D :=
  match a with
  | .tup ds => .ok (.tup (cut ds lo hi)) h
  | a => match lstOf h a with
    | some ds => mk m (cut ds lo hi) h
    | none => .bad
def vRev (m : Bool) (a : D) (h : Hh) : Oc D :=
  match a with
  | .tup ds => .ok (.tup ds.reverse) h
  | a => match lstOf h a with
    | some ds => mk m ds.reverse h
    | none => .bad

def alikes : List D → Bool
  | [] => true
  | d :: ds => PySem.W.alike (py d) (py d) && ds.all (fun e => PySem.W.alike (py d) (py e) && PySem.W.alike (py e) (py d)) && alikes ds
def isTup : D → Bool
  | .tup _ => true
  | _ => false
def noTup : D → Bool
  | .tup _ => false
  | .non => false
  | _ => true
def dle (a b : D) : Bool := PySem.W.dataLe false py a b
mutual
/-- the same data -/
def same : D → D → Bool
  | .non, .non => true
  | .bl a, .bl b => a == b
  | .int i, .int j => i == j
  | .str x, .str y => x == y
  | .tup xs, .tup ys => sames xs ys
  | .pr xs, .pr ys => sames xs ys
  | .fl xs, .fl ys => sames xs ys
  | .rl xs, .rl ys => sames xs ys
  | .ml i, .ml j => i == j
  | .md i, .md j => i == j
  | .fn x, .fn y => x == y
  | _, _ => false
def sames : List D → List D → Bool
  | [], [] => true
  | x :: xs, y :: ys => same x y && sames xs ys
  | _, _ => false
end
def insD (x : D) : List D → List D
  | [] => [x]
  | y :: r => if dle x y then x :: y :: r else y :: insD x r
def isrt (l : List D) : List D := l.foldr insD []
/-- ascending, and equal ones are the same -/
def okSrt : List D → Bool
  | a :: b :: r => (dle a b && (!dle b a || same a b)) && okSrt (b :: r)
  | _ => true
def vSort (m : Bool) (ds : List D) (h : Hh) : Oc D :=
  if ds.length ≤ big ∧ shps 7 ds = true ∧ alikes ds = true ∧ (ds.all isTup = true ∨ ds.all noTup = true) ∧ okSrt (isrt ds) = true then mk m (isrt ds) h else .bad
def vMax : Int → List Int → Int
  | a, [] => a
  | a, b :: r => vMax (if b > a then b else a) r
def vMin : Int → List Int → Int
  | a, [] => a
  | a, b :: r => vMin (if b < a then b else a) r
/-- the list of one argument -/
def v1 (op : D → Hh → Oc D) (ds : List D) (h : Hh) : Oc D := match ds with
  | [d] => op d h
  | _ => .bad
def vLen (d : D) (h : Hh) : Oc D := match d with
  | .str s => if s.length ≤ big then .ok (.int s.length) h else .bad
  | .md i => match keysD h (.md i) with
    | some ks => .ok (.int ks.length) h
    | none => .bad
  | d => match seqOf h d with
    | some xs => .ok (.int xs.length) h
    | none => .bad
def vTuple (d : D) (h : Hh) : Oc D := match d with
  | .tup xs => .ok (.tup xs) h
  | d => match lstOf h d with
    | some xs => .ok (.tup xs) h
    | none => .bad
def vList (m : Bool) (d : D) (h : Hh) : Oc D := match seqOf h d with
  | some xs => mk m xs h
  | none => .bad
def vSum (d : D) (h : Hh) : Oc D := match (seqOf h d).bind intsOf with
  | some ns => .ok (.int ns.sum) h
  | none => .bad
/-- the greatest of a tuple of ints -/
def vMaxI (d : D) (h : Hh) : Oc D := match d with
  | .tup ds => match intsOf ds with
    | some (a :: r) => .ok (.int (vMax a r)) h
    | _ => .bad
  | _ => .bad
def vMaxD (ds : List D) (h : Hh) : Oc D := match ds with
  | [.int i, .int j] => .ok (.int (if j > i then j else i)) h
  | [d] => match (lstOf h d).bind intsOf with
    | some (a :: r) => .ok (.int (vMax a r)) h
    | _ => vMaxI d h
  | _ => .bad
/-- the first of the least of some tuples -/
def fstL (a : D) (r : List D) : D := r.foldl (fun u y => if PySem.W.dataLt (py y) (py u) then y else u) a
def vMinT (d : D) (h : Hh) : Oc D := match seqOf h d with
  | some (a :: r) => if (a :: r).length ≤ big ∧ shps 7 (a :: r) = true ∧ alikes (a :: r) = true ∧ (a :: r).all isTup = true then .ok (fstL a r) h else .bad
  | _ => .bad
def vMinD (ds : List D) (h : Hh) : Oc D := match ds with
  | [.int i, .int j] => .ok (.int (if j < i then j else i)) h
  | [d] => match (lstOf h d).bind intsOf with
    | some (a :: r) => .ok (.int (vMin a r)) h
    | _ => vMinT d h
  | _ => .bad
def vAbs (d : D) (h : Hh) : Oc D := match d with
  | .int i => .ok (.int (if i < 0 then -i else i)) h
  | _ => .bad
def vInt (d : D) (h : Hh) : Oc D := match d with
  | .int i => .ok (.int i) h
  | .bl b => .ok (.int (if b then 1 else 0)) h
  | _ => .bad
/-- the members of a set of ints, ascending -/
def insI (i : Int) : List Int → List Int
  | [] => [i]
  | j :: r => if i < j then i :: j :: r else if i = j then j :: r else j :: insI i r
def sset (ns : List Int) : List Int := ns.foldr insI []
/-- tuples of whole numbers, without those that came before -/
def tupsOf : List D → Option (List (List Int))
  | [] => some []
  | .tup ds :: r => match intsOf ds, tupsOf r with
    | some k, some ks => some (k :: ks)
    | _, _ => none
  | _ => none
def insT (k : List Int) (l : List (List Int)) : List (List Int) := if l.contains k then l else k :: l
def tset (ks : List (List Int)) : List (List Int) := ks.foldr insT []
def tupI (k : List Int) : D := .tup (k.map .int)
def vSrtsT (m : Bool) (d : D) (h : Hh) : Oc D := match (seqOf h d).bind tupsOf with
  | some ks => if ks.length ≤ 1000 ∧ (tset ks).length ≤ 60 then vSort m ((tset ks).map tupI) h else .bad
  | none => .bad
def vLensT (d : D) (h : Hh) : Oc D := match (seqOf h d).bind tupsOf with
  | some ks => if ks.length ≤ 1000 ∧ (tset ks).length ≤ 60 then .ok (.int (tset ks).length) h else .bad
  | none => .bad
def vSrts (m : Bool) (d : D) (h : Hh) : Oc D := match (seqOf h d).bind intsOf with
  | some ns => if ns.length ≤ 1000 ∧ (sset ns).length ≤ 60 then mk m ((sset ns).map .int) h else .bad
  | none => vSrtsT m d h
def vLens (d : D) (h : Hh) : Oc D := match (seqOf h d).bind intsOf with
  | some ns => if ns.length ≤ 1000 then .ok (.int (sset ns).length) h else .bad
  | none => vLensT d h
/-- dict(xs) of pairs whose first ones are tuples -/
def pairsOf (n : Nat) : List D → Option (List (List D × D))
  | [] => some []
  | .tup [.tup k, v] :: r => match pairsOf n r with
    | some ps => if hk k = true ∧ low n v = true then some ((k, v) :: ps) else none
    | none => none
  | _ => none
def dprOf (h : Hh) : D → Option (List D)
  | .tup ds => some ds
  | d => lstOf h d
def vDpr (d : D) (h : Hh) : Oc D := match (dprOf h d).bind (pairsOf h.length) with
  | some ps => if ps.length ≤ big then .ok (.md h.length) (h ++ [.dT (ps.foldl (fun l p => dputT l p.1 p.2) [])]) else .bad
  | none => .bad
/-- sorted(d.keys()), len(d.keys()) -/
def vSrtk (m : Bool) (d : D) (h : Hh) : Oc D := match keysD h d with
  | some xs => vSort m xs h
  | none => .bad
def vLenk (d : D) (h : Hh) : Oc D := match keysD h d with
  | some xs => .ok (.int xs.length) h
  | none => .bad
def vSorted (m : Bool) (d : D) (h : Hh) : Oc D := match seqOf h d with
  | some xs => vSort m xs h
  | none => .bad
def rgOk (i j : Int) : Bool := decide (-(2 ^ 62) ≤ i ∧ i < 2 ^ 62 ∧ -(2 ^ 62) ≤ j ∧ j < 2 ^ 62 ∧ (j - i).toNat ≤ 2 ^ 23)
def rgI (a b : Int) : List D := (List.range (b - a).toNat).map fun i => .int (a + (i : Nat))
def vLrg2 (m : Bool) (d e : D) (h : Hh) : Oc D := match d, e with
  | .int i, .int j => if rgOk i j then mk m (rgI i j) h else .bad
  | _, _ => .bad
def vTrg2 (d e : D) (h : Hh) : Oc D := match d, e with
  | .int i, .int j => if rgOk i j then .ok (.tup (rgI i j)) h else .bad
  | _, _ => .bad
def rgS (a c : Int) (n : Nat) : List D := (List.range n).map fun i => .int (a + (i : Nat) * c)
def vTrg3 (ds : List D) (h : Hh) : Oc D := match ds with
  | [.int i, .int j, .int c] => if c ≠ 0 ∧ c.natAbs < 1073741824 ∧ PySem.Builtin.Range.small i j c = true ∧ (PySem.Builtin.Range.rangeSize i j c).toNat ≤ 2 ^ 23 ∧ 0 ≤ PySem.Builtin.Range.rangeSize i j c then .ok (.tup (rgS i c (PySem.Builtin.Range.rangeSize i j c).toNat)) h else .bad
  | _ => .bad
def vLrg (m : Bool) (d : D) (h : Hh) : Oc D := vLrg2 m (.int 0) d h
def vTrg (d : D) (h : Hh) : Oc D := vTrg2 (.int 0) d h
def vBlt (f : Blt) (m : Bool) (ds : List D) (h : Hh) : Oc D :=
  match f with
  | .len => v1 vLen ds h
  | .tuple => v1 vTuple ds h
  | .list => v1 (vList m) ds h
  | .sorted => v1 (vSorted m) ds h
  | .sum => v1 vSum ds h
  | .max => vMaxD ds h
  | .min => vMinD ds h
  | .abs => v1 vAbs ds h
  | .int => v1 vInt ds h
  | _ => .bad
def simD : D → Bool
  | .non => true
  | .bl _ => true
  | .int _ => true
  | _ => false
def vMth (f : Mth) (m : Bool) (o : D) (ds : List D) (h : Hh) : Oc D :=
  match f, o, ds with
  | .append, .ml i, [d] => match h[i]? with
    | some (.lst xs) => if xs.length < big ∧ low i d = true then .ok .non (h.set i (.lst (xs ++ [d]))) else .bad
    | _ => .bad
  | .pop, .ml i, [] => match h[i]? with
    | some (.lst xs) => match xs[xs.length - 1]? with
      | some d => .ok d (h.set i (.lst xs.dropLast))
      | none => .bad
    | _ => .bad
  | .get, o, [k] => match dlook h o k with
    | some r => .ok (r.getD .non) h
    | none => .bad
  | .get, o, [k, d] => match dlook h o k with
    | some r => .ok (r.getD d) h
    | none => .bad
  | .index, o, [d] => match seqOf h o with
    | some xs => if shp 7 d && shps 7 xs then match xs.findIdx? (fun z => deq z d) with
      | some j => .ok (.int j) h
      | none => .bad else .bad
    | none => .bad
  | .count, o, [.int k] => match (lstOf h o).bind intsOf with
    | some ns => .ok (.int (ns.count k : Nat)) h
    | none => .bad
  | .count, .tup xs, [.non] => if xs.all simD then .ok (.int (xs.countP fun z => deq z .non : Nat)) h else .bad
  | _, _, _ => .bad
def isDct (h : Hh) : D → Bool
  | .md i => match (h[i]?).map unl with
    | some (.dK _) => true
    | some (.dT _) => true
    | _ => false
  | _ => false
def isTupD : D → Bool
  | .tup _ => true
  | _ => false
/-- has the method -/
def tyM (f : Mth) (d : D) (h : Hh) : Bool := match f with
  | .append => (lstOf h d).isSome
  | .pop => (lstOf h d).isSome
  | .index => (lstOf h d).isSome || isTupD d
  | .count => (lstOf h d).isSome || isTupD d
  | .get => isDct h d
  | _ => false
def tupOf : D → Option (List D)
  | .tup ds => some ds
  | _ => none
def vSetL (j : Nat) (k : Int) (v : D) (h : Hh) : Oc Unit := match h[j]? with
  | some (.lst xs) => match ixN xs.length k with
    | some n => if low j v then .ok () (h.set j (.lst (xs.set n v))) else .bad
    | none => .bad
  | _ => .bad
def vSetD (j : Nat) (k v : D) (h : Hh) : Oc Unit := match h[j]? with
  | some (.dK kvs) => match keyOf k with
    | some k => if kvs.length < big ∧ low j v = true then .ok () (h.set j (.dK (dput kvs k v))) else .bad
    | none => .bad
  | some (.dT kvs) => match tupOf k with
    | some ks => if hk ks = true ∧ kvs.length < big ∧ low j v = true then .ok () (h.set j (.dT (dputT kvs ks v))) else .bad
    | none => .bad
  | _ => .bad
/-- o[i] = v -/
def vSet (o i v : D) (h : Hh) : Oc Unit :=
  match o, i with
  | .ml j, .int k => vSetL j k v h
  | .md j, k => vSetD j k v h
  | _, _ => .bad

/-- sorted(.., key=len) -/
def lenD (h : Hh) (d : D) : Nat := match seqOf h d with
  | some xs => xs.length
  | none => 0
def insL (h : Hh) (x : D) : List D → List D
  | [] => [x]
  | y :: r => if lenD h x ≤ lenD h y then x :: y :: r else y :: insL h x r
def isrtL (h : Hh) (l : List D) : List D := l.foldr (insL h) []
def vSrtl (m : Bool) (d : D) (h : Hh) : Oc D := match lstOf h d with
  | some ds => if ds.length ≤ big ∧ ds.all (fun x => (seqOf h x).isSome) = true then mk m (isrtL h ds) h else .bad
  | none => .bad
/-- min(d.keys()) of tuples, max(d.values()) of whole numbers -/
def vMink (d : D) (h : Hh) : Oc D := match keysD h d with
  | some (a :: r) => if (a :: r).length ≤ big ∧ shps 7 (a :: r) = true ∧ alikes (a :: r) = true ∧ (a :: r).all isTup = true then .ok (fstL a r) h else .bad
  | _ => .bad
def vMaxv (d : D) (h : Hh) : Oc D := match (valsD h d).bind intsOf with
  | some (a :: r) => if (a :: r).length ≤ big then .ok (.int (vMax a r)) h else .bad
  | _ => .bad
/-! ## the evaluator -/
def evs (f : E → DE) : List E → DA
  | [] => dNil
  | e :: r => dCons (f e) (evs f r)
def evA (fa fb : DE) : DE := fun env h => (fa env h).bind fun d h1 => match d with
  | .bl true => fb env h1
  | .bl false => .ok (.bl false) h1
  | _ => .bad
def evO (fa fb : DE) : DE := fun env h => (fa env h).bind fun d h1 => match d with
  | .bl true => .ok (.bl true) h1
  | .bl false => fb env h1
  | _ => .bad
def evIf (fc fa fb : DE) : DE := fun env h => (fc env h).bind fun d h1 => match d with
  | .bl true => fa env h1
  | .bl false => fb env h1
  | _ => .bad
/-- a < b < c -/
def evCh (o1 o2 : Cop) (fa fb fc : DE) : DE := fun env h => (fa env h).bind fun x h1 => (fb env h1).bind fun y h2 => (vCmp o1 x y h2).bind fun z h3 => match z with
  | .bl true => (fc env h3).bind fun u h4 => vCmp o2 y u h4
  | .bl false => .ok (.bl false) h3
  | _ => .bad
/-- the rest of a < b < c < d behind a < b -/
def evTl (o2 o3 : Cop) (y : D) (fc fd : DE) : DE := fun env h => (fc env h).bind fun u h4 => (vCmp o2 y u h4).bind fun z h5 => match z with
  | .bl true => (fd env h5).bind fun t h6 => vCmp o3 u t h6
  | .bl false => .ok (.bl false) h5
  | _ => .bad
/-- a < b < c < d -/
def evCh3 (o1 o2 o3 : Cop) (fa fb fc fd : DE) : DE := fun env h => (fa env h).bind fun x h1 => (fb env h1).bind fun y h2 => (vCmp o1 x y h2).bind fun z h3 => match z with
  | .bl true => evTl o2 o3 y fc fd env h3
  | .bl false => .ok (.bl false) h3
  | _ => .bad
/-- {k: v}: the new dict stands empty while key and value are made -/
def evDsp (fk fv : DE) : DE := fun env h => (fk env (h ++ [.dT []])).bind fun k h1 => (fv env h1).bind fun v h2 => match h2[h.length]?, tupOf k with
  | some (.dT []), some ks => if hk ks = true ∧ low h.length v = true then .ok (.md h.length) (h2.set h.length (.dT [(ks, v)])) else .bad
  | _, _ => .bad
def evOpt (f : E → DE) : Option E → Ev → Hh → Oc (Option Int)
  | none => fun _ h => .ok none h
  | some e => fun env h => (f e env h).bind fun d h1 => match d with
    | .int i => .ok (some i) h1
    | _ => .bad
/-- what is walked: its items, and whether it stands as it stood -/
structure Src where
  items : List D
  still : Hh → Bool
def lstIs (i : Nat) (ds : List D) (h : Hh) : Bool := match h[i]? with
  | some (.lst xs) => sames xs ds
  | _ => false
/-- what a name stands for that is walked -/
def srcOf (h : Hh) (d : D) : Option Src := match d with
  | .ml i => match h[i]? with
    | some (.lst xs) => some ⟨xs, lstIs i xs⟩
    | _ => none
  | d => (seqOf h d).map fun xs => ⟨xs, fun _ => true⟩
def inRg (a : Int) : Bool := decide (-(2 ^ 62) ≤ a ∧ a < 2 ^ 62)
def enI (ds : List D) : List D := ds.zipIdx.map fun p => .pr [.int (p.2 : Nat), p.1]
def zipI (xs ys : List D) : List D := (xs.zip ys).map fun p => .pr [p.1, p.2]
def vSeq (d : D) (h : Hh) : Oc Src := match srcOf h d with
  | some s => .ok s h
  | none => .bad
def vEnum (d : D) (h : Hh) : Oc Src := match srcOf h d with
  | some s => .ok ⟨enI s.items, s.still⟩ h
  | none => .bad
/-- the keys of a dict: it is locked from then on -/
def vKeys (d : D) (h : Hh) : Oc Src := match d with
  | .md i => match h[i]? with
    | some (.dK kvs) => .ok ⟨kvs.map fun p => keyD p.1, fun _ => true⟩ (h.set i (.lK kvs))
    | some (.dT kvs) => .ok ⟨kvs.map fun p => .tup p.1, fun _ => true⟩ (h.set i (.lT kvs))
    | some (.lK kvs) => .ok ⟨kvs.map fun p => keyD p.1, fun _ => true⟩ h
    | some (.lT kvs) => .ok ⟨kvs.map fun p => .tup p.1, fun _ => true⟩ h
    | _ => .bad
  | _ => .bad
/-- the values of a dict, its pairs: locked from then on -/
def vVals (d : D) (h : Hh) : Oc Src := match d with
  | .md i => match h[i]? with
    | some (.dK kvs) => .ok ⟨kvs.map (·.2), fun _ => true⟩ (h.set i (.lK kvs))
    | some (.dT kvs) => .ok ⟨kvs.map (·.2), fun _ => true⟩ (h.set i (.lT kvs))
    | some (.lK kvs) => .ok ⟨kvs.map (·.2), fun _ => true⟩ h
    | some (.lT kvs) => .ok ⟨kvs.map (·.2), fun _ => true⟩ h
    | _ => .bad
  | _ => .bad
def itemD (p : Key × D) : D := .pr [keyD p.1, p.2]
def vItems (d : D) (h : Hh) : Oc Src := match d with
  | .md i => match h[i]? with
    | some (.dK kvs) => .ok ⟨kvs.map itemD, fun _ => true⟩ (h.set i (.lK kvs))
    | some (.lK kvs) => .ok ⟨kvs.map itemD, fun _ => true⟩ h
    | _ => .bad
  | _ => .bad
def vRg1 (d : D) (h : Hh) : Oc Src := match d with
  | .int j => if inRg j then .ok ⟨rgI 0 j, fun _ => true⟩ h else .bad
  | _ => .bad
def vRg2 (d e : D) (h : Hh) : Oc Src := match d, e with
  | .int i, .int j => if inRg i && inRg j then .ok ⟨rgI i j, fun _ => true⟩ h else .bad
  | _, _ => .bad
def vZip (d e : D) (h : Hh) : Oc Src := match lstOf h d, lstOf h e, srcOf h d, srcOf h e with
  | some _, some _, some s, some t => .ok ⟨zipI s.items t.items, fun h => s.still h && t.still h⟩ h
  | _, _, _, _ => match d, e with
    | .tup xs, .tup ys => .ok ⟨zipI xs ys, fun _ => true⟩ h
    | _, _ => .bad
def evIt (f : E → DE) : I → Ev → Hh → Oc Src
  | .rng1 a => fun env h => (f a env h).bind vRg1
  | .rng2 a b => fun env h => (f a env h).bind fun d h1 => (f b env h1).bind fun e h2 => vRg2 d e h2
  | .seq a => fun env h => (f a env h).bind vSeq
  | .enum a => fun env h => (f a env h).bind vEnum
  | .zip a b => fun env h => (f a env h).bind fun d h1 => (f b env h1).bind fun e h2 => vZip d e h2
  | .keys a => fun env h => (f a env h).bind vKeys
  | .vals a => fun env h => (f a env h).bind vVals
  | .items a => fun env h => (f a env h).bind vItems
mutual
def evT (f : E → DE) : T → DG
  | .nm i => fun d env h => .ok (env.set i (some d)) h
  | .tup ts => fun d env h => match d with
    | .tup ds => if ds.length = ts.length then evTs f ts ds env h else .bad
    | .pr ds => if ds.length = ts.length then evTs f ts ds env h else .bad
    | _ => .bad
  | .sub a i => fun d env h => (f a env h).bind fun o h1 => (f i env h1).bind fun k h2 => (vSet o k d h2).bind fun _ h3 => .ok env h3
def evTs (f : E → DE) : List T → List D → Ev → Hh → Oc Ev
  | [], [] => fun env h => .ok env h
  | t :: ts, d :: ds => fun env h => (evT f t d env h).bind fun env1 h1 => evTs f ts ds env1 h1
  | _, _ => fun _ _ => .bad
end
def wipeE (env : Ev) : List Nat → Ev
  | [] => env
  | v :: vs => (wipeE env vs).set v none
def tests (f : E → DE) : List E → Ev → Hh → Oc Bool
  | [] => fun _ h => .ok true h
  | [c] => asB (f c)
  | _ => fun _ _ => .bad
/-- no error is let out -/
@[inline] def Oc.then {α β : Type} (r : Oc α) (f : α → Hh → Oc β) : Oc β :=
  match r with
  | .ok a h => f a h
  | _ => .bad
/-- the turns of a comprehension: acc so far -/
def lcL (own : List Nat) (still : Hh → Bool) (g : DG) (tt : Ev → Hh → Oc Bool) (fe : DE) : List D → List D → Ev → Hh → Oc (List D)
  | [], acc => fun _ h => if still h then .ok acc h else .bad
  | d :: ds, acc => fun env h => if still h then
      match g d (wipeE env own) h with
      | .ok env1 h1 => match tt env1 h1 with
        | .ok true h2 => match fe env1 h2 with
          | .ok y h3 => if acc.length < big then lcL own still g tt fe ds (acc ++ [y]) env h3 else .bad
          | _ => .bad
        | .ok false h2 => lcL own still g tt fe ds acc env h2
        | _ => .bad
      | _ => .bad
    else .bad
/-- .. of two clauses -/
def lcK (own1 : List Nat) (it1 : Ev → Hh → Oc Src) (g1 : DG) (tt1 : Ev → Hh → Oc Bool) (fe : DE) (acc : List D) (env1 : Ev) (h2 : Hh) : Oc (List D) :=
  (it1 env1 h2).then fun s h3 => lcL own1 s.still g1 tt1 fe s.items acc env1 h3
def lc2L (own own1 : List Nat) (still : Hh → Bool) (g : DG) (tt : Ev → Hh → Oc Bool) (it1 : Ev → Hh → Oc Src) (g1 : DG) (tt1 : Ev → Hh → Oc Bool) (fe : DE) : List D → List D → Ev → Hh → Oc (List D)
  | [], acc => fun _ h => if still h then .ok acc h else .bad
  | d :: ds, acc => fun env h => if still h then
      match g d (wipeE env own) h with
      | .ok env1 h1 => match tt env1 h1 with
        | .ok true h2 => (lcK own1 it1 g1 tt1 fe acc env1 h2).then fun acc' h4 => lc2L own own1 still g tt it1 g1 tt1 fe ds acc' env h4
        | .ok false h2 => lc2L own own1 still g tt it1 g1 tt1 fe ds acc env h2
        | _ => .bad
      | _ => .bad
    else .bad
/-! objects -/
def vFld (c : Nat) (x : Str) (a : D) (h : Hh) : Oc D := match a with
  | .md i => match h[i]? with
    | some (.obj c' fs) => if c' = c then match fs.lookup x with
      | some d => .ok d h
      | none => .bad
      else .bad
    | _ => .bad
  | _ => .bad
/-- an object of the class that has no attribute of the name -/
def isObj (c : Nat) (x : Str) (a : D) (h : Hh) : Bool := match a with
  | .md i => match h[i]? with
    | some (.obj c' fs) => decide (c' = c) && (fs.lookup x).isNone
    | _ => false
  | _ => false
def putD (x : Str) (d : D) : List (Str × D) → List (Str × D)
  | [] => [(x, d)]
  | (y, e) :: r => if y = x then (y, d) :: r else (y, e) :: putD x d r
def inis (ds : List D) : List (Str × Ini) → List (Str × D) → Hh → Oc (List (Str × D))
  | [], acc, h => .ok acc h
  | (x, .arg i) :: r, acc, h => match ds[i]? with
    | some d => inis ds r (putD x d acc) h
    | none => .bad
  | (x, .dT) :: r, acc, h => inis ds r (putD x (.md h.length) acc) (h ++ [.dT []])
  | (x, .dK) :: r, acc, h => inis ds r (putD x (.md h.length) acc) (h ++ [.dK []])
  | (x, .int i) :: r, acc, h => inis ds r (putD x (.int i) acc) h
def vMko (c : Nat) (fs : List (Str × Ini)) (ds : List D) (h : Hh) : Oc D := (inis ds fs [] h).bind fun vs h1 => .ok (.md h1.length) (h1 ++ [.obj c vs])
/-- the def that a slot holds -/
def fnOf (tb : List (Str × Nat)) : Option (Option D) → Option Nat
  | some (some (.fn x)) => tb.lookup x
  | _ => none
abbrev Tbl := Nat → Bool → List D → Hh → Oc D
def ev (Φ : Tbl) : Nat → E → DE
  | 0, _ => fun _ _ => .bad
  | n + 1, e => match e with
    | .var i => fun env h => match env[i]? with
      | some (some d) => .ok d h
      | _ => .bad
    | .non => fun _ h => .ok .non h
    | .bl b => fun _ h => .ok (.bl b) h
    | .int i => fun _ h => .ok (.int i) h
    | .str s => fun _ h => .ok (.str s) h
    | .glo _ i => fun _ h => .ok (.int i) h
    | .bin m op a b => d2 (vBin m op) (ev Φ n a) (ev Φ n b)
    | .neg a => d1 vNeg (ev Φ n a)
    | .nt a => d1 vNot (ev Φ n a)
    | .and a b => evA (ev Φ n a) (ev Φ n b)
    | .or a b => evO (ev Φ n a) (ev Φ n b)
    | .cmp op a b => d2 (vCmp op) (ev Φ n a) (ev Φ n b)
    | .chain o1 o2 a b c => evCh o1 o2 (ev Φ n a) (ev Φ n b) (ev Φ n c)
    | .chain3 o1 o2 o3 a b c d => evCh3 o1 o2 o3 (ev Φ n a) (ev Φ n b) (ev Φ n c) (ev Φ n d)
    | .ife c a b => evIf (ev Φ n c) (ev Φ n a) (ev Φ n b)
    | .tup es => dN (fun ds h => if ds.length ≤ big then .ok (.tup ds) h else .bad) (evs (ev Φ n) es)
    | .lst m es => dN (fun ds h => if ds.length ≤ big then mk m ds h else .bad) (evs (ev Φ n) es)
    | .isi a _ ts => d1 (vIsi ts) (ev Φ n a)
    | .call f m es => dN (Φ f m) (evs (ev Φ n) es)
    | .blt f m es => dN (vBlt f m) (evs (ev Φ n) es)
    | .mth f m o es => fun env h => (ev Φ n o env h).bind fun x h1 => if tyM f x h1 then (evs (ev Φ n) es env h1).bind fun xs h2 => vMth f m x xs h2 else .bad
    | .lrg m a => d1 (vLrg m) (ev Φ n a)
    | .trg a => d1 vTrg (ev Φ n a)
    | .lrg2 m a b => d2 (vLrg2 m) (ev Φ n a) (ev Φ n b)
    | .trg2 a b => d2 vTrg2 (ev Φ n a) (ev Φ n b)
    | .trg3 a b c => dN vTrg3 (evs (ev Φ n) [a, b, c])
    | .ix a i => d2 vIx (ev Φ n a) (ev Φ n i)
    | .sl m a lo hi => fun env h => (ev Φ n a env h).bind fun x h1 => (evOpt (ev Φ n) lo env h1).bind fun l h2 => (evOpt (ev Φ n) hi env h2).bind fun u h3 => vSl m x l u h3
    | .rev m a => d1 (vRev m) (ev Φ n a)
    | .dsp _ ks vs => match ks, vs with
      | [k], [v] => evDsp (ev Φ n k) (ev Φ n v)
      | _, _ => fun _ _ => .bad
    | .srtk m a => d1 (vSrtk m) (ev Φ n a)
    | .lenk a => d1 vLenk (ev Φ n a)
    | .srts m a => d1 (vSrts m) (ev Φ n a)
    | .lens a => d1 vLens (ev Φ n a)
    | .srtl m a => d1 (vSrtl m) (ev Φ n a)
    | .mink a => d1 vMink (ev Φ n a)
    | .maxv a => d1 vMaxv (ev Φ n a)
    | .dpr a => d1 vDpr (ev Φ n a)
    | .dnew t => fun _ h => .ok (.md h.length) (h ++ [if t then .dT [] else .dK []])
    | .fld c x a => d1 (vFld c x) (ev Φ n a)
    | .cm c x f m o es => fun env h => (ev Φ n o env h).bind fun a h1 => if isObj c x a h1 then (evs (ev Φ n) es env h1).bind fun ds h2 => Φ f m (a :: ds) h2 else .bad
    | .mko c fs es => dN (vMko c fs) (evs (ev Φ n) es)
    | .fnv x => fun _ h => .ok (.fn x) h
    | .callv i tb m es => fun env h => match fnOf tb (env[i]?) with
      | some f => dN (Φ f m) (evs (ev Φ n) es) env h
      | none => .bad
    | .lc m own t it ifs e => fun env h => (evIt (ev Φ n) it env h).bind fun s h1 =>
        (lcL own s.still (evT (ev Φ n) t) (tests (ev Φ n) ifs) (ev Φ n e) s.items [] env h1).then fun ds h2 => mk m ds h2
    | .lc2 m own own1 t it ifs t1 it1 ifs1 e => fun env h => (evIt (ev Φ n) it env h).bind fun s h1 =>
        (lc2L own own1 s.still (evT (ev Φ n) t) (tests (ev Φ n) ifs) (evIt (ev Φ n) it1) (evT (ev Φ n) t1) (tests (ev Φ n) ifs1) (ev Φ n e) s.items [] env h1).then fun ds h2 => mk m ds h2
    | _ => fun _ _ => .bad

/-! statements -/
def sSeq (f g : DS) : DS := fun env h => (f env h).bind fun r h1 => match r with
  | (.next, env1) => g env1 h1
  | r => .ok r h1
def sIf (c : DB) (f g : DS) : DS := fun env h => (c env h).bind fun b h1 => if b then f env h1 else g env h1
def sWh (c : DB) (b : DS) : Nat → DS
  | 0 => fun _ _ => .bad
  | n + 1 => fun env h => (c env h).bind fun k h1 => match k with
    | false => .ok (.next, env) h1
    | true => (b env h1).bind fun r h2 => match r with
      | (.next, env2) => sWh c b n env2 h2
      | (.cont, env2) => sWh c b n env2 h2
      | (.brk, env2) => .ok (.next, env2) h2
      | (.ret d, env2) => .ok (.ret d, env2) h2
def sFor (still : Hh → Bool) (g : DG) (b : DS) : List D → DS
  | [] => fun env h => if still h then .ok (.next, env) h else .bad
  | d :: ds => fun env h => if still h then
      (g d env h).bind fun env1 h1 => (b env1 h1).bind fun r h2 => match r with
        | (.next, env2) => sFor still g b ds env2 h2
        | (.cont, env2) => sFor still g b ds env2 h2
        | (.brk, env2) => .ok (.next, env2) h2
        | (.ret d, env2) => .ok (.ret d, env2) h2
    else .bad
def setAll : List Nat → List D → Ev → Ev
  | i :: is, d :: ds, env => setAll is ds (env.set i (some d))
  | _, _, env => env
def LOOPS : Nat := 1000000
/-- a[i] of a list that may change, i not negative -/
def ixS (d e : D) (h : Hh) : Oc D := match seqOf h d, e with
  | some ds, .int k => match atI ds k with
    | some d => .ok d h
    | none => .bad
  | _, _ => .bad
def vIxL (d e : D) (h : Hh) : Oc D := match d, e with
  | .ml j, .int k => if 0 ≤ k ∧ k < 2 ^ 62 then ixS (.ml j) (.int k) h else .bad
  | _, _ => .bad
def sAugS (op : Bop) (fa fi fe : DE) : DS := fun env h => (fa env h).bind fun o h1 => (fi env h1).bind fun k h2 => (vIxL o k h2).bind fun x h3 => (fe env h3).bind fun y h4 => match vAug op x y with
  | some z => (vSet o k z h4).bind fun _ h5 => .ok (.next, env) h5
  | none => .bad
/-- nothing is let out -/
def nxO {α : Type} : Oc α → Oc α
  | .ok r h => .ok r h
  | _ => .bad
/-- try: f(..) except .. as e: x = a if isinstance(e, C) else .. -/
def tryO (ei j C : Nat) (a : Str) (env : Ev) : Oc D → Oc (Fl × Ev)
  | .ok _ h => .ok (.next, env) h
  | .ex x h => if x.cls = C ∧ x.arg.isNone = true ∧ ei < env.length then .ok (.next, (env.set ei none).set j (some (.str a))) h else .bad
  | .bad => .bad
def evSs (f : S → DS) : List S → DS
  | [] => fun env h => .ok (.next, env) h
  | s :: r => sSeq (f s) (evSs f r)
def evS (Φ : Tbl) : Nat → S → DS
  | 0, _ => fun _ _ => .bad
  | n + 1, s => match s with
    | .asg t e => fun env h => (ev Φ n e env h).bind fun d h1 => (evT (ev Φ n) t d env h1).bind fun env1 h2 => .ok (.next, env1) h2
    | .par is es => fun env h => (evs (ev Φ n) es env h).bind fun ds h1 => if ds.length = is.length then .ok (.next, setAll is ds env) h1 else .bad
    | .aug i op e => fun env h => match env[i]? with
      | some (some x) => (ev Φ n e env h).bind fun y h1 => match vAug op x y with
        | some z => .ok (.next, env.set i (some z)) h1
        | none => .bad
      | _ => .bad
    | .augs a i op e => sAugS op (ev Φ n a) (ev Φ n i) (ev Φ n e)
    | .ife c a b => sIf (asB (ev Φ n c)) (evSs (evS Φ n) a) (evSs (evS Φ n) b)
    | .for_ t it b => fun env h => (evIt (ev Φ n) it env h).bind fun s h1 => sFor s.still (evT (ev Φ n) t) (evSs (evS Φ n) b) s.items env h1
    | .wh c b => sWh (asB (ev Φ n c)) (evSs (evS Φ n) b) LOOPS
    | .ret e => fun env h => (ev Φ n e env h).bind fun d h1 => .ok (.ret d, env) h1
    | .retn => fun env h => .ok (.ret .non, env) h
    | .ex e => fun env h => (ev Φ n e env h).bind fun _ h1 => .ok (.next, env) h1
    | .brk => fun env h => .ok (.brk, env) h
    | .cont => fun env h => .ok (.cont, env) h
    | .pass => fun env h => .ok (.next, env) h
    | .nx s => fun env h => nxO (evS Φ n s env h)
    | .ifr c C => fun env h => (nxO (asB (ev Φ n c) env h)).bind fun b h1 => if b then .ex ⟨C, none⟩ h1 else .ok (.next, env) h1
    | .tryr ei j C a f es => fun env h => (evs (ev Φ n) es env h).bind fun ds h1 => tryO ei j C a env (Φ f false ds h1)
    | _ => fun _ _ => .bad
/-! calls -/
def mapO {α β : Type} (f : α → Option β) : List α → Option (List β)
  | [] => some []
  | d :: ds => match f d, mapO f ds with
    | some e, some es => some (e :: es)
    | _, _ => none
/-- what lies behind the cells from n on is told as it stands -/
def frz (h : Hh) (n : Nat) : Nat → D → Option D
  | 0, _ => none
  | k + 1, d => match d with
    | .ml i => if i < n then some (.ml i) else match h[i]? with
      | some (.lst ds) => (mapO (frz h n k) ds).map .fl
      | _ => none
    | .md i => if i < n then some (.md i) else none
    | .tup ds => (mapO (frz h n k) ds).map .tup
    | .pr ds => (mapO (frz h n k) ds).map .pr
    | .fl ds => (mapO (frz h n k) ds).map .fl
    | .rl ds => (mapO (frz h n k) ds).map .rl
    | d => some d
def frzC (h : Hh) (n k : Nat) : Cell → Option Cell
  | .lst ds => (mapO (frz h n k) ds).map .lst
  | .dK kvs => (mapO (fun p : Key × D => (frz h n k p.2).map fun d => (p.1, d)) kvs).map .dK
  | .dT kvs => (mapO (fun p : List D × D => (frz h n k p.2).map fun d => (p.1, d)) kvs).map .dT
  | _ => none
def fin0 (n : Nat) (h' : Hh) (d : D) : Oc D := match frz h' n 8 d with
  | some e => .ok e (h'.take n)
  | none => .bad
/-- the end of a call: m: the list or dict that comes back is new, and may change -/
def finC (n : Nat) (h' : Hh) (i : Nat) (d : D) : Oc D := match h'[i]? with
  | some c => match frzC h' n 8 c with
    | some c' => .ok d (h'.take n ++ [c'])
    | none => .bad
  | none => .bad
def fin (m : Bool) (n : Nat) (h' : Hh) (d : D) : Oc D :=
  match m with
  | false => fin0 n h' d
  | true => match d with
    | .ml i => if i < n then fin0 n h' d else finC n h' i (.ml n)
    | .md i => if i < n then fin0 n h' d else finC n h' i (.md n)
    | d => fin0 n h' d
/-- .. by an error without a value -/
def finX (n : Nat) (h' : Hh) (x : Exc) : Oc D := match x.arg with
  | none => .ex x (h'.take n)
  | some _ => .bad
def start0 (fn : Fn) (ds : List D) : Ev := ds.map some ++ List.replicate (fn.names.length - ds.length) none
def FUEL : Nat := 300
def callB (Φ : Tbl) (fn : Fn) (m : Bool) (ds : List D) (h : Hh) : Oc D :=
  if ds.length = fn.np then match evSs (evS Φ FUEL) fn.body (start0 fn ds) h with
    | .ok (.ret d, _) h' => fin m h.length h' d
    | .ok (.next, _) h' => fin m h.length h' .non
    | .ok _ _ => .bad
    | .bad => .bad
    | .ex x h' => finX h.length h' x
  else .bad
def run (P : Nat → Option Fn) : Nat → Tbl
  | 0 => fun _ _ _ _ => .bad
  | k + 1 => fun f m ds h => match P f with
    | some fn => callB (run P k) fn m ds h
    | none => .bad
end Q
end
section
namespace Q
open PySem PySem.Spec L2

section
variable {g : G} {E : XK} {κ ρ : List Addr} {H : Hp} {h : Hh}
theorem big_line : big ≤ sizeLine := by rw [sizeLine_eq]; decide
theorem lstW_ok (c : CS g κ ρ h H) {d : D} {x : V} {ds : List D} (r : Rep g.K κ ρ H d x) (e : lstW h d = some ds) : ∃ a vs, x = .ref a ∧ H a = some (.lst vs) ∧ Reps g.K κ ρ H ds vs := by
  cases d with
  | fl es => cases e; obtain ⟨a, vs, rfl, f, q⟩ := r; exact ⟨a, vs, rfl, f.1, q⟩
  | ml i =>
    obtain ⟨a, rfl, ha⟩ := r
    simp only [lstW] at e
    split at e
    · rename_i xs hx
      cases e
      obtain ⟨vs, h1, h2⟩ := c.lst ha hx
      exact ⟨a, vs, rfl, h1, h2⟩
    · cases e
  | _ => cases e
theorem lstOf_ok (c : CS g κ ρ h H) {d : D} {x : V} {ds : List D} (r : Rep g.K κ ρ H d x) (e : lstOf h d = some ds) : ∃ a vs, x = .ref a ∧ SqL g.K H a vs ∧ Reps g.K κ ρ H ds vs := by
  cases d with
  | fl es => cases e; obtain ⟨a, vs, rfl, f, q⟩ := r; exact ⟨a, vs, rfl, f.sq, q⟩
  | rl es => cases e; obtain ⟨a, vs, rfl, f, q⟩ := r; exact ⟨a, vs, rfl, f.sq, q⟩
  | ml i =>
    obtain ⟨a, rfl, ha⟩ := r
    simp only [lstOf] at e
    split at e
    · rename_i xs hx
      cases e
      obtain ⟨vs, h1, h2⟩ := c.lst ha hx
      exact ⟨a, vs, rfl, SqL.of h1, h2⟩
    · cases e
  | _ => cases e
theorem seqOf_ok (c : CS g κ ρ h H) {d : D} {x : V} {ds : List D} (r : Rep g.K κ ρ H d x) (e : seqOf h d = some ds) : ∃ a vs, x = .ref a ∧ (SqL g.K H a vs ∨ SqT g.K H a vs) ∧ Reps g.K κ ρ H ds vs := by
  cases d with
  | fl es => cases e; obtain ⟨a, vs, rfl, f, q⟩ := r; exact ⟨a, vs, rfl, .inl f.sq, q⟩
  | rl es => cases e; obtain ⟨a, vs, rfl, f, q⟩ := r; exact ⟨a, vs, rfl, .inl f.sq, q⟩
  | tup es => cases e; obtain ⟨a, vs, rfl, f, q⟩ := r; exact ⟨a, vs, rfl, .inr f.sq, q⟩
  | pr es => cases e; obtain ⟨a, vs, rfl, f, q⟩ := r; exact ⟨a, vs, rfl, .inr f.sq, q⟩
  | ml i =>
    obtain ⟨a, rfl, ha⟩ := r
    simp only [seqOf] at e
    split at e
    · rename_i xs hx
      cases e
      obtain ⟨vs, h1, h2⟩ := c.lst ha hx
      exact ⟨a, vs, rfl, .inl (SqL.of h1), h2⟩
    · cases e
  | _ => cases e
/-- a new list -/
theorem wp_mk {m : Bool} {ds : List D} {vs : List V} {Q : VK} (c : CS g κ ρ h H) (r : Reps g.K κ ρ H ds vs) (w : Wp g E κ ρ H (mk m ds h) Q) : ∀ p, H p = none → Q (.ref p) (upd H p (.lst vs)) := by
  intro p hp
  cases m with
  | false => exact w ρ (.ref p) _ (Go.laid c hp _) (CS.laid c hp _) ⟨p, vs, rfl, ⟨upd_same, c.fresh hp, c.freshK hp⟩, r.go (Go.laid c hp _)⟩
  | true =>
    unfold mk at w
    dsimp only at w
    split at w
    · rename_i hl
      have gb := Go.born c hp (.lst vs)
      refine w (ρ ++ [p]) (.ref p) _ gb (CS.born c hp ⟨vs, upd_same, r.go gb⟩ hl) ⟨p, rfl, ?_⟩
      rw [← c.len, List.getElem?_append_right (Nat.le_refl _)]
      simp
    · exact absurd w id
theorem wp_tup {ds : List D} {vs : List V} {Q : VK} (c : CS g κ ρ h H) (r : Reps g.K κ ρ H ds vs) (w : Wp g E κ ρ H (.ok (.tup ds) h) Q) : ∀ p o, H p = none → o.dict = none → Q (.ref p) (upd H p (.frz o (.tup vs))) := fun p o hp ho =>
  w ρ (.ref p) _ (Go.laid c hp _) (CS.laid c hp _) ⟨p, vs, rfl, ⟨⟨o, upd_same, ho⟩, c.fresh hp, c.freshK hp⟩, r.go (Go.laid c hp _)⟩
/-- a value that stands -/
theorem wp_bl {b : Bool} {Q : VK} (c : CS g κ ρ h H) (w : Wp g E κ ρ H (.ok (.bl b) h) Q) : Q (.bl b) H := w ρ _ H (Go.refl _ _) c rfl
theorem wp_int {b : Int} {Q : VK} (c : CS g κ ρ h H) (w : Wp g E κ ρ H (.ok (.int b) h) Q) : Q (.int b) H := w ρ _ H (Go.refl _ _) c rfl
theorem wp_str {b : Str} {Q : VK} (c : CS g κ ρ h H) (w : Wp g E κ ρ H (.ok (.str b) h) Q) : Q (.str b) H := w ρ _ H (Go.refl _ _) c rfl
theorem wp_non {Q : VK} (c : CS g κ ρ h H) (w : Wp g E κ ρ H (.ok .non h) Q) : Q .non H := w ρ _ H (Go.refl _ _) c rfl
theorem wp_at {d : D} {v : V} {Q : VK} (c : CS g κ ρ h H) (r : Rep g.K κ ρ H d v) (w : Wp g E κ ρ H (.ok d h) Q) : Q v H := w ρ v H (Go.refl _ _) c r

mutual
theorem dp_of {K : PySem.W.Frag} : ∀ {n : Nat} {d : D} {x : V}, Rep K κ ρ H d x → shp n d = true → Dp K H x (py d)
  | _, .non, _, r, _ => by cases r; exact .non
  | _, .bl _, _, r, _ => by cases r; exact .bl _
  | _, .int _, _, r, _ => by cases r; exact .int _
  | _, .str _, _, r, _ => by cases r; exact .str _
  | 0, .tup _, _, _, s => by simp [shp] at s
  | 0, .fl _, _, _, s => by simp [shp] at s
  | 0, .rl _, _, _, s => by simp [shp] at s
  | n + 1, .tup ds, _, ⟨a, vs, e, f, q⟩, s => by subst e; exact .tup f.sq (dps_of (n := n) q (by simpa [shp] using s))
  | n + 1, .fl ds, _, ⟨a, vs, e, f, q⟩, s => by subst e; exact .lst f.sq (dps_of (n := n) q (by simpa [shp] using s))
  | n + 1, .rl ds, _, ⟨a, vs, e, f, q⟩, s => by subst e; exact .lst f.sq (dps_of (n := n) q (by simpa [shp] using s))
  | n, .ml _, _, _, s => by cases n <;> simp [shp] at s
  | n, .pr _, _, _, s => by cases n <;> simp [shp] at s
  | n, .md _, _, _, s => by cases n <;> simp [shp] at s
  | n, .fn _, _, _, s => by cases n <;> simp [shp] at s
theorem dps_of {K : PySem.W.Frag} : ∀ {n : Nat} {ds : List D} {xs : List V}, Reps K κ ρ H ds xs → shps n ds = true → DpAll K H xs (pys ds)
  | _, [], _, r, _ => by cases r; exact .nil
  | n, d :: ds, _, ⟨v, r, e, h1, h2⟩, s => by
    subst e
    have s : shp n d = true ∧ shps n ds = true := by simpa [shps] using s
    exact .cons (dp_of h1 s.1) (dps_of h2 s.2)
end
mutual
theorem lay_of : ∀ {n : Nat} {d : D}, shp n d = true → (py d).canLay0 = true ∧ (py d).depth ≤ n
  | _, .non, _ => by simp [py, PyData.canLay0, PyData.depth]
  | _, .bl _, _ => by simp [py, PyData.canLay0, PyData.depth]
  | _, .int _, _ => by simp [py, PyData.canLay0, PyData.depth]
  | n, .str x, s => by
    have s : PyData.strOk x = true := by cases n <;> simpa [shp] using s
    simp [py, PyData.canLay0, PyData.depth, s]
  | 0, .tup _, s => by simp [shp] at s
  | 0, .fl _, s => by simp [shp] at s
  | 0, .rl _, s => by simp [shp] at s
  | n + 1, .tup ds, s => by
    obtain ⟨h1, h2⟩ := lays_of (n := n) (ds := ds) (by simpa [shp] using s)
    simp only [py, PyData.canLay0, PyData.depth, h1, true_and]; omega
  | n + 1, .fl ds, s => by
    obtain ⟨h1, h2⟩ := lays_of (n := n) (ds := ds) (by simpa [shp] using s)
    simp only [py, PyData.canLay0, PyData.depth, h1, true_and]; omega
  | n + 1, .rl ds, s => by
    obtain ⟨h1, h2⟩ := lays_of (n := n) (ds := ds) (by simpa [shp] using s)
    simp only [py, PyData.canLay0, PyData.depth, h1, true_and]; omega
  | n, .ml _, s => by cases n <;> simp [shp] at s
  | n, .pr _, s => by cases n <;> simp [shp] at s
  | n, .md _, s => by cases n <;> simp [shp] at s
  | n, .fn _, s => by cases n <;> simp [shp] at s
theorem lays_of : ∀ {n : Nat} {ds : List D}, shps n ds = true → PyData.canLayAll0 (pys ds) = true ∧ PyData.depthAll (pys ds) ≤ n
  | _, [], _ => by simp [pys, PyData.canLayAll0, PyData.depthAll]
  | n, d :: ds, s => by
    have s : shp n d = true ∧ shps n ds = true := by simpa [shps] using s
    obtain ⟨h1, h2⟩ := lay_of s.1
    obtain ⟨h3, h4⟩ := lays_of s.2
    simp only [pys, PyData.canLayAll0, PyData.depthAll, h1, h3]
    exact ⟨rfl, by omega⟩
end
theorem shaped_of {n : Nat} {d : D} (s : shp n d = true) (hn : n ≤ 64) : SeqAt.shaped (py d) = true := by
  obtain ⟨h1, h2⟩ := lay_of s
  unfold SeqAt.shaped
  rw [h1, decide_eq_true (by omega)]; rfl
mutual
theorem deq_eqv : ∀ (a b : D), deq a b = PyData.eqv (py a) (py b)
  | .tup xs, b => by
    cases b with
    | tup ys => simp only [deq, py, PyData.eqv]; exact deqs_eqv xs ys
    | _ => simp [deq, py, PyData.eqv]
  | .fl xs, b => by
    cases b with
    | fl ys => simp only [deq, py, PyData.eqv]; exact deqs_eqv xs ys
    | rl ys => simp only [deq, py, PyData.eqv]; exact deqs_eqv xs ys
    | _ => simp [deq, py, PyData.eqv]
  | .rl xs, b => by
    cases b with
    | fl ys => simp only [deq, py, PyData.eqv]; exact deqs_eqv xs ys
    | rl ys => simp only [deq, py, PyData.eqv]; exact deqs_eqv xs ys
    | _ => simp [deq, py, PyData.eqv]
  | .non, b => by cases b <;> simp [deq, py, PyData.eqv]
  | .bl x, b => by cases b <;> simp [deq, py, PyData.eqv]
  | .int x, b => by cases b <;> simp [deq, py, PyData.eqv]
  | .str x, b => by cases b <;> simp [deq, py, PyData.eqv]
  | .ml x, b => by cases b <;> simp [deq, py, PyData.eqv]
  | .pr x, b => by cases b <;> simp [deq, py, PyData.eqv]
  | .md x, b => by cases b <;> simp [deq, py, PyData.eqv]
  | .fn x, b => by cases b <;> simp [deq, py, PyData.eqv]
theorem deqs_eqv : ∀ (a b : List D), deqs a b = PyData.eqvAll (pys a) (pys b)
  | [], [] => by simp [deqs, pys, PyData.eqvAll]
  | [], _ :: _ => by simp [deqs, pys, PyData.eqvAll]
  | _ :: _, [] => by simp [deqs, pys, PyData.eqvAll]
  | x :: xs, y :: ys => by simp only [deqs, pys, PyData.eqvAll]; rw [deq_eqv x y, deqs_eqv xs ys]
end
/-- what is seen at the top -/
theorem dp_view (c : CS g κ ρ h H) {n : Nat} {d : D} {x : V} (r : Rep g.K κ ρ H d x) (s : shp n (view h d) = true) : Dp g.K H x (py (view h d)) := by
  cases d with
  | ml i =>
    obtain ⟨a, rfl, ha⟩ := r
    simp only [view] at s ⊢
    split
    · rename_i xs hx
      rw [hx] at s
      obtain ⟨vs, h1, h2⟩ := c.lst ha hx
      cases n with
      | zero => simp [shp] at s
      | succ n => exact .lst (SqL.of h1) (dps_of (n := n) h2 (by simpa [shp] using s))
    · rename_i hx
      split at s
      · rename_i xs hx'
        exact absurd hx' (hx xs)
      · cases n <;> simp [shp] at s
  | _ => exact dp_of r s

section
variable {X : Cx}
theorem o_eq (hK : X.K = g.K) (hu : X.A.units + 64 < cLine) : OpR X (compareOp .Eq) (r2 g E (vCmp .eq)) := by
  have key : ∀ (x y : V) (H : Hp) (Q : VK), r2 g E (vCmp .eq) x y H Q → rEqD X.K x y H Q := by
    rintro x y H Q ⟨κ, ρ, h, d, e, c, r1, r2, w⟩
    have w : Wp g E κ ρ H (vEq false d e h) Q := w
    have gen : shp 8 (view h d) = true → shp 8 (view h e) = true → Wp g E κ ρ H (.ok (.bl (false != deq (view h d) (view h e))) h) Q → rEqD X.K x y H Q := fun s1 s2 w => by
      refine ⟨_, _, hK ▸ dp_view c r1 s1, hK ▸ dp_view c r2 s2, shaped_of s1 (by decide), shaped_of s2 (by decide), ?_⟩
      have := wp_at (d := .bl (false != deq (view h d) (view h e))) (v := .bl (false != deq (view h d) (view h e))) c rfl w
      rw [← deq_eqv]
      simpa using this
    by_cases hi : ∃ i j, d = .int i ∧ e = .int j
    · obtain ⟨i, j, rfl, rfl⟩ := hi
      exact gen (by simp [view, shp]) (by simp [view, shp]) (by simpa [vEq, view, deq] using w)
    · have e1 : vEq false d e h = if shp 8 (view h d) && shp 8 (view h e) then .ok (.bl (false != deq (view h d) (view h e))) h else .bad := by
        unfold vEq
        split
        · exact absurd ⟨_, _, rfl, rfl⟩ hi
        · rfl
      rw [e1] at w
      split at w
      · rename_i hs
        obtain ⟨s1, s2⟩ := Bool.and_eq_true_iff.mp hs
        exact gen s1 s2 w
      · exact absurd w id
  intro pins s σ H x y v u Q I rx ry q
  exact op_eqD hu pins s σ H x y v u Q I rx ry (key x y H Q q)
theorem o_ne (hK : X.K = g.K) (hu : X.A.units + 64 < cLine) : OpR X (compareOp .NotEq) (r2 g E (vCmp .ne)) := by
  have key : ∀ (x y : V) (H : Hp) (Q : VK), r2 g E (vCmp .ne) x y H Q → rNeD X.K x y H Q := by
    rintro x y H Q ⟨κ, ρ, h, d, e, c, r1, r2, w⟩
    have w : Wp g E κ ρ H (vEq true d e h) Q := w
    have gen : shp 8 (view h d) = true → shp 8 (view h e) = true → Wp g E κ ρ H (.ok (.bl (true != deq (view h d) (view h e))) h) Q → rNeD X.K x y H Q := fun s1 s2 w => by
      refine ⟨_, _, hK ▸ dp_view c r1 s1, hK ▸ dp_view c r2 s2, shaped_of s1 (by decide), shaped_of s2 (by decide), ?_⟩
      have := wp_at (d := .bl (true != deq (view h d) (view h e))) (v := .bl (true != deq (view h d) (view h e))) c rfl w
      rw [← deq_eqv]
      simpa using this
    by_cases hi : ∃ i j, d = .int i ∧ e = .int j
    · obtain ⟨i, j, rfl, rfl⟩ := hi
      exact gen (by simp [view, shp]) (by simp [view, shp]) (by simpa [vEq, view, deq] using w)
    · have e1 : vEq true d e h = if shp 8 (view h d) && shp 8 (view h e) then .ok (.bl (true != deq (view h d) (view h e))) h else .bad := by
        unfold vEq
        split
        · exact absurd ⟨_, _, rfl, rfl⟩ hi
        · rfl
      rw [e1] at w
      split at w
      · rename_i hs
        obtain ⟨s1, s2⟩ := Bool.and_eq_true_iff.mp hs
        exact gen s1 s2 w
      · exact absurd w id
  intro pins s σ H x y v u Q I rx ry q
  exact op_neD hu pins s σ H x y v u Q I rx ry (key x y H Q q)
/-- by the outcome's form -/
theorem okey {f : Value → Value → Sem Value} {r r' : R2} (h : OpR X f r) (k : ∀ x y H Q, r' x y H Q → r x y H Q) : OpR X f r' := fun pins s σ H x y v u Q I rx ry q => h pins s σ H x y v u Q I rx ry (k x y H Q q)
def rLtD (K : PySem.W.Frag) (x y : V) (H : Hp) (b : Bool → Prop) : Prop := ∃ d e, Dp K H x d ∧ Dp K H y e ∧ PySem.W.alike d e = true ∧ d ≠ .none ∧ d.depth ≤ 9 ∧ b (PySem.W.dataLt d e)
def rGtD (K : PySem.W.Frag) (x y : V) (H : Hp) (b : Bool → Prop) : Prop := ∃ d e, Dp K H x d ∧ Dp K H y e ∧ PySem.W.alike d e = true ∧ d ≠ .none ∧ d.depth ≤ 9 ∧ b (PySem.W.dataLt e d)
theorem op_ltD (hu : X.A.units + 9 < cLine) : OpR X (compareOp .Lt) (fun x y H Q => rLtD X.K x y H fun b => Q (.bl b) H) := by
  intro pins s σ H x y v u Q I rx ry h
  obtain ⟨d, e, hd, he, ha, hn, hp, q⟩ := h
  obtain ⟨as, k1⟩ := Dp.reads I d x v hd rx
  obtain ⟨bs, k2⟩ := Dp.reads I e y u he ry
  have z := Nat.min_le_left d.depth e.depth
  have r := PySem.W.rcLt_alike _ _ X.A s v u _ _ k1 k2 ha hn (by omega) X.prog X.w X.xe (EP X pins σ Q)
  exact r ⟨.bl _, H, I, rfl, q⟩
theorem op_gtD (hu : X.A.units + 9 < cLine) : OpR X (compareOp .Gt) (fun x y H Q => rGtD X.K x y H fun b => Q (.bl b) H) := by
  intro pins s σ H x y v u Q I rx ry h
  obtain ⟨d, e, hd, he, ha, hn, hp, q⟩ := h
  obtain ⟨as, k1⟩ := Dp.reads I d x v hd rx
  obtain ⟨bs, k2⟩ := Dp.reads I e y u he ry
  have z := Nat.min_le_left d.depth e.depth
  have r := PySem.W.rcGt_alike _ _ X.A s v u _ _ k1 k2 ha hn (by omega) X.prog X.w X.xe (EP X pins σ Q)
  exact r ⟨.bl _, H, I, rfl, q⟩
theorem o_lt (hK : X.K = g.K) (hu : X.A.units + 9 < cLine) : OpR X (compareOp .Lt) (r2 g E (vCmp .lt)) := okey (OpR.or op_lt (op_ltD hu)) fun x y H Q ⟨κ, ρ, h, d, e, c, r1, r2, w⟩ => by
  cases d with
  | int i => cases e with
    | int j => exact .inl ⟨i, j, r1, r2, wp_bl c w⟩
    | _ => exact absurd w id
  | tup xs => cases e with
    | tup ys =>
      have w : Wp g E κ ρ H (if okLt (.tup xs) (.tup ys) = true then .ok (.bl (PySem.W.dataLt (py (.tup xs)) (py (.tup ys)))) h else .bad) Q := w
      split at w
      · rename_i hl
        obtain ⟨h1, hl⟩ := Bool.and_eq_true_iff.mp hl
        obtain ⟨h2, hl⟩ := Bool.and_eq_true_iff.mp hl
        obtain ⟨h3, h4⟩ := Bool.and_eq_true_iff.mp hl
        refine .inr ⟨_, _, hK ▸ dp_of r1 h1, hK ▸ dp_of r2 h2, h3, by simp [py], ?_, wp_bl c w⟩
        have := (lay_of h1).2
        omega
      · exact absurd w id
    | _ => exact absurd w id
  | _ => exact absurd w id
theorem o_gt (hK : X.K = g.K) (hu : X.A.units + 9 < cLine) : OpR X (compareOp .Gt) (r2 g E (vCmp .gt)) := okey (OpR.or op_gt (op_gtD hu)) fun x y H Q ⟨κ, ρ, h, d, e, c, r1, r2, w⟩ => by
  cases d with
  | int i => cases e with
    | int j => exact .inl ⟨i, j, r1, r2, wp_bl c w⟩
    | _ => exact absurd w id
  | tup xs => cases e with
    | tup ys =>
      have w : Wp g E κ ρ H (if okLt (.tup ys) (.tup xs) = true then .ok (.bl (PySem.W.dataLt (py (.tup ys)) (py (.tup xs)))) h else .bad) Q := w
      split at w
      · rename_i hl
        obtain ⟨h1, hl⟩ := Bool.and_eq_true_iff.mp hl
        obtain ⟨h2, hl⟩ := Bool.and_eq_true_iff.mp hl
        obtain ⟨h3, h4⟩ := Bool.and_eq_true_iff.mp hl
        refine .inr ⟨_, _, hK ▸ dp_of r1 h2, hK ▸ dp_of r2 h1, h4, by simp [py], ?_, wp_bl c w⟩
        have := (lay_of h2).2
        omega
      · exact absurd w id
    | _ => exact absurd w id
  | _ => exact absurd w id
theorem o_ge : OpR X (compareOp .GtE) (r2 g E (vCmp .ge)) := okey op_ge fun x y H Q ⟨κ, ρ, h, d, e, c, r1, r2, w⟩ => by
  cases d with
  | int i => cases e with
    | int j => exact ⟨i, j, r1, r2, wp_bl c w⟩
    | _ => exact absurd w id
  | _ => exact absurd w id
theorem ints_rep {K : PySem.W.Frag} : ∀ {ds : List D} {vs : List V} {ns : List Int}, Reps K κ ρ H ds vs → intsOf ds = some ns → vs = ns.map V.int
  | [], _, _, r, e => by cases r; simp [intsOf] at e; subst e; rfl
  | d :: ds, _, ns, ⟨v, r, e1, h1, h2⟩, e => by
    subst e1
    cases d with
    | int i =>
      simp only [intsOf, Option.map_eq_some_iff] at e
      obtain ⟨ms, h3, rfl⟩ := e
      have h1 : v = .int i := h1
      rw [h1, ints_rep h2 h3]; rfl
    | _ => simp [intsOf] at e
theorem lexAt_shift {e r : Nat → Bool} {z : Bool} : ∀ (k i : Nat), Ob.lexAt e r z (i + 1) k = Ob.lexAt (fun j => e (j + 1)) (fun j => r (j + 1)) z i k
  | 0, i => by rw [Ob.lexAt_zero, Ob.lexAt_zero]
  | k + 1, i => by rw [Ob.lexAt_succ, Ob.lexAt_succ, lexAt_shift k (i + 1)]
theorem lexAt_le : ∀ (ns ms : List Int), Ob.lexAt (fun j => decide (ns.getD j 0 = ms.getD j 0)) (fun j => decide (ns.getD j 0 ≤ ms.getD j 0)) (decide (ns.length ≤ ms.length)) 0 (min ns.length ms.length) = lexLeI ns ms
  | [], ms => by simp [Ob.lexAt_zero, lexLeI]
  | _ :: _, [] => by simp [Ob.lexAt_zero, lexLeI]
  | x :: xs, y :: ys => by
    have ih := lexAt_le xs ys
    have e1 : min (x :: xs).length (y :: ys).length = min xs.length ys.length + 1 := by simp only [List.length_cons]; omega
    rw [e1, Ob.lexAt_succ, lexAt_shift]
    unfold lexLeI
    have e2 : decide ((x :: xs).length ≤ (y :: ys).length) = decide (xs.length ≤ ys.length) := by simp
    rw [e2]
    have e3 : Ob.lexAt (fun j => decide ((x :: xs).getD (j + 1) 0 = (y :: ys).getD (j + 1) 0)) (fun j => decide ((x :: xs).getD (j + 1) 0 ≤ (y :: ys).getD (j + 1) 0)) (decide (xs.length ≤ ys.length)) 0 (min xs.length ys.length) = lexLeI xs ys := by
      simpa using ih
    rw [e3]
    simp
theorem o_le (hK : X.K = g.K) (hu : X.A.units < cLine) : OpR X (compareOp .LtE) (r2 g E (vCmp .le)) := okey (OpR.or op_le (op_leT hu)) fun x y H Q ⟨κ, ρ, h, d, e, c, r1, r2, w⟩ => by
  cases d with
  | int i => cases e with
    | int j => exact .inl ⟨i, j, r1, r2, wp_bl c w⟩
    | _ => exact absurd w id
  | tup xs => cases e with
    | tup ys =>
      have w : Wp g E κ ρ H (match intsOf xs, intsOf ys with
        | some ns, some ms => .ok (.bl (lexLeI ns ms)) h
        | _, _ => .bad) Q := w
      split at w
      · rename_i ns ms e1 e2
        obtain ⟨a, vs, rfl, f, q⟩ := r1
        obtain ⟨b, us, rfl, f', q'⟩ := r2
        rw [ints_rep q e1] at f
        rw [ints_rep q' e2] at f'
        exact .inr ⟨a, b, ns, ms, rfl, rfl, hK ▸ f.sq, hK ▸ f'.sq, by rw [lexAt_le]; exact wp_bl c w⟩
      · exact absurd w id
    | _ => exact absurd w id
  | _ => exact absurd w id
theorem rep_non {K : PySem.W.Frag} {d : D} {x : V} (r : Rep K κ ρ H d x) : decide (x = .non) = (match d with | .non => true | _ => false) := by
  cases d with
  | non => cases r; rfl
  | bl b => cases r; rfl
  | int b => cases r; rfl
  | str b => cases r; rfl
  | tup b => obtain ⟨a, vs, rfl, _⟩ := r; rfl
  | pr b => obtain ⟨a, vs, rfl, _⟩ := r; rfl
  | fl b => obtain ⟨a, vs, rfl, _⟩ := r; rfl
  | rl b => obtain ⟨a, vs, rfl, _⟩ := r; rfl
  | ml b => obtain ⟨a, rfl, _⟩ := r; rfl
  | md b => obtain ⟨a, rfl, _⟩ := r; rfl
  | fn b => cases r; rfl
theorem o_is : OpR X (compareOp .Is) (r2 g E (vCmp .is)) := okey (OpR.or op_isN op_isBl) fun x y H Q ⟨κ, ρ, h, d, e, c, r1, r2, w⟩ => by
  cases e with
  | non =>
    refine .inl ⟨r2, ?_⟩
    rw [rep_non r1]
    cases d <;> exact wp_bl c w
  | bl b => cases d with
    | bl a => exact .inr ⟨a, b, r1, r2, wp_bl c w⟩
    | _ => exact absurd w id
  | _ => cases d <;> exact absurd w id
theorem o_isnot : OpR X (compareOp .IsNot) (r2 g E (vCmp .isnot)) := okey (OpR.or op_notN op_notBl) fun x y H Q ⟨κ, ρ, h, d, e, c, r1, r2, w⟩ => by
  cases e with
  | non =>
    refine .inl ⟨r2, ?_⟩
    rw [rep_non r1]
    cases d <;> exact wp_bl c w
  | bl b => cases d with
    | bl a => exact .inr ⟨a, b, r1, r2, wp_bl c w⟩
    | _ => exact absurd w id
  | _ => cases d <;> exact absurd w id
end
end
end Q
end
section
namespace Q
open PySem PySem.Spec L2
section
variable {g : G} {E : XK} {κ ρ : List Addr} {H : Hp} {h : Hh} {X : Cx}
theorem rlen {K : PySem.W.Frag} {ds : List D} {vs : List V} (r : Reps K κ ρ H ds vs) : vs.length = ds.length := r.len
theorem lineOf {n : Nat} (h : n ≤ big) : n ≤ sizeLine := Nat.le_trans h big_line
theorem bnd_ok {i : Int} (h : bnd i = true) : -(2 ^ 64) < i ∧ i < 2 ^ 64 := of_decide_eq_true h
theorem reps_flat {K : PySem.W.Frag} {ds : List D} {vs : List V} (r : Reps K κ ρ H ds vs) : ∀ n, Reps K κ ρ H (List.replicate n ds).flatten (List.replicate n vs).flatten
  | 0 => rfl
  | n + 1 => by
    rw [List.replicate_succ, List.replicate_succ, List.flatten_cons, List.flatten_cons]
    exact r.append (reps_flat r n)
theorem nil_of {K : PySem.W.Frag} {ds : List D} (r : Reps K κ ρ H ds []) : ds = [] := by
  have := r.len
  exact List.length_eq_zero_iff.mp (by simpa using this.symm)
def nott (d : D) : Prop := ∀ ds, d ≠ .tup ds
/-- a new tuple's object -/
abbrev tupO (its : List Value) : Obj := { cls := .type "tuple", data := .seq its.toArray }
theorem laid_tup {pins : List (Addr × Obj)} {σ : L2.St} {s : Shared} {vs : List V} {its : List Value} (I : Inv X pins σ H s) (r : Vals vs its) (hz : vs.length ≤ sizeLine) :
    Inv X pins σ (upd H s.heap.objs.size (.frz (tupO its) (.tup vs))) { s with heap := s.heap.push (tupO its) } :=
  I.laid (t' := s.toks) (fun b u e => Heap.get?_push_of_some _ e) (Nat.le_refl _) ⟨Heap.get?_push_size _ rfl, hz, its, r, ⟨_, Heap.get?_push_size _ rfl, rfl, _, rfl⟩⟩
/-- what is asked where a tuple is made -/
def NewT (H : Hp) (Q : VK) (vs : List V) : Prop := ∀ p o, H p = none → o.dict = none → Q (.ref p) (upd H p (.frz o (.tup vs)))
theorem ep_tup {pins : List (Addr × Obj)} {σ : L2.St} {s : Shared} {vs : List V} {its : List Value} {Q : VK} (I : Inv X pins σ H s) (r : Vals vs its) (hz : vs.length ≤ sizeLine) (q : NewT H Q vs) :
    EP X pins σ Q (.ref s.heap.objs.size) { s with heap := s.heap.push (tupO its) } :=
  ⟨.ref s.heap.objs.size, _, laid_tup I r hz, rfl, q _ _ (I.hok.fresh (Nat.le_refl _)) rfl⟩
def tTupF (t : TA) : TE := fun σ H Q => t σ H fun xs H1 => xs.length ≤ sizeLine ∧ NewT H1 Q xs
theorem pe_tupF {es : List Expr} {t : TA} {k : Nat} {pos : Pos} (p : PA X es t) : PE X (.Tuple es k pos) (tTupF t) :=
  ⟨fun pins s σ H Q I hq => wpAny_Tuple_spliced <|
    thn (p.run pos pins s σ H _ I hq) fun us s1 ⟨xs, H1, I1, r, z, q⟩ =>
      ⟨by rw [← r.length]; exact z, ep_tup I1 r z q⟩⟩
def rCatF (K : PySem.W.Frag) : R2 := fun x y H Q => ∃ a b xs ys, x = .ref a ∧ y = .ref b ∧ SqT K H a xs ∧ SqT K H b ys ∧ xs.length + ys.length ≤ sizeLine ∧
  (xs = [] → Q (.ref b) H) ∧ (xs ≠ [] → ys = [] → Q (.ref a) H) ∧ (xs ≠ [] → ys ≠ [] → NewT H Q (xs ++ ys))
theorem op_catF : OpR X (binaryOp .Add) (rCatF X.K) := by
  rintro pins s σ H x y v u Q I rx ry ⟨a, b, xs, ys, rfl, rfl, ha, hb, hz, q0, q1, q2⟩
  obtain ⟨its, k1, p1, _⟩ := I.tuple ha
  obtain ⟨its2, k2, p2, _⟩ := I.tuple hb
  cases rx
  cases ry
  by_cases hx : xs = []
  · subst hx
    cases k1
    exact cat_tup0 p1 p2 ⟨.ref b, H, I, rfl, q0 rfl⟩
  · have n1 : its ≠ [] := fun z => hx (k1.nil_iff.mp z)
    refine HT.cat_tup p1 p2 n1 (fun z => ?_) (fun z => ?_) ?_
    · exact ⟨.ref a, H, I, rfl, q1 hx (k2.nil_iff.mp z)⟩
    · exact ep_tup I (k1.append k2) (by rw [List.length_append]; exact hz) (q2 hx fun w => z (k2.nil_iff.mpr w))
    · rw [← k1.length, ← k2.length]; exact hz
/-- + -/
theorem o_add {m : Bool} (hK : X.K = g.K) : OpR X (binaryOp .Add) (r2 g E (vBin m .add)) :=
  okey (OpR.or op_add (OpR.or op_add_str (OpR.or op_catF op_cat))) fun x y H Q ⟨κ, ρ, h, d, e, c, q1, q2, w⟩ => by
    have lists : ∀ {r : Oc D}, (∀ xs ys, lstW h d = some xs → lstW h e = some ys → r = if xs.length + ys.length ≤ big then mk m (xs ++ ys) h else .bad) → (¬ (∃ xs ys, lstW h d = some xs ∧ lstW h e = some ys) → r = .bad) → Wp g E κ ρ H r Q → rCat x y H Q := fun {r} a1 a2 w => by
      by_cases z : ∃ xs ys, lstW h d = some xs ∧ lstW h e = some ys
      · obtain ⟨xs, ys, e1, e2⟩ := z
        rw [a1 xs ys e1 e2] at w
        split at w
        · rename_i hl
          obtain ⟨a, vs, rfl, h1, h2⟩ := lstW_ok c q1 e1
          obtain ⟨b, us, rfl, h3, h4⟩ := lstW_ok c q2 e2
          exact ⟨a, b, vs, us, rfl, rfl, h1, h3, by rw [h2.len, h4.len]; exact lineOf hl, wp_mk c (h2.append h4) w⟩
        · exact absurd w id
      · rw [a2 z] at w; exact absurd w id
    cases d with
    | int i => cases e with
      | int j => exact .inl ⟨i, j, q1, q2, wp_int c w⟩
      | _ => exact absurd w id
    | str i => cases e with
      | str j =>
        have w : Wp g E κ ρ H (if i.length + j.length ≤ big then .ok (.str (i ++ j)) h else .bad) Q := w
        split at w
        · rename_i hl
          exact .inr (.inl ⟨i, j, q1, q2, lineOf hl, wp_str c w⟩)
        · exact absurd w id
      | _ => exact absurd w id
    | tup xs => cases e with
      | tup ys =>
        have w : Wp g E κ ρ H (if xs.length + ys.length ≤ big then .ok (.tup (xs ++ ys)) h else .bad) Q := w
        split at w
        · rename_i hl
          obtain ⟨a, vs, rfl, f1, r1⟩ := q1
          obtain ⟨b, us, rfl, f2, r2⟩ := q2
          refine .inr (.inr (.inl ⟨a, b, vs, us, rfl, rfl, hK ▸ f1.sq, hK ▸ f2.sq, by rw [r1.len, r2.len]; exact lineOf hl, fun e => ?_, fun _ e => ?_, fun _ _ => wp_tup c (r1.append r2) w⟩))
          · subst e
            have := nil_of r1; subst this
            exact w ρ (.ref b) H (Go.refl _ _) c ⟨b, us, rfl, f2, r2⟩
          · subst e
            have := nil_of r2; subst this
            rw [List.append_nil] at w
            exact w ρ (.ref a) H (Go.refl _ _) c ⟨a, vs, rfl, f1, r1⟩
        · exact absurd w id
      | _ => exact absurd w id
    | fl xs =>
      have w : Wp g E κ ρ H (match lstW h (.fl xs), lstW h e with
        | some xs, some ys => if xs.length + ys.length ≤ big then mk m (xs ++ ys) h else .bad
        | _, _ => .bad) Q := by cases e <;> exact w
      refine .inr (.inr (.inr (lists (r := _) (fun xs ys e1 e2 => by rw [e1, e2]) (fun z => ?_) w)))
      split
      · rename_i e1 e2; exact absurd ⟨_, _, e1, e2⟩ z
      · rfl
    | ml i =>
      have w : Wp g E κ ρ H (match lstW h (.ml i), lstW h e with
        | some xs, some ys => if xs.length + ys.length ≤ big then mk m (xs ++ ys) h else .bad
        | _, _ => .bad) Q := by cases e <;> exact w
      refine .inr (.inr (.inr (lists (r := _) (fun xs ys e1 e2 => by rw [e1, e2]) (fun z => ?_) w)))
      split
      · rename_i e1 e2; exact absurd ⟨_, _, e1, e2⟩ z
      · rfl
    | _ => cases e <;> exact absurd w id
theorem o_sub {m : Bool} : OpR X (binaryOp .Sub) (r2 g E (vBin m .sub)) := okey op_sub fun x y H Q ⟨κ, ρ, h, d, e, c, q1, q2, w⟩ => by
  cases d with
  | int i => cases e with
    | int j => exact ⟨i, j, q1, q2, wp_int c w⟩
    | _ => exact absurd w id
  | _ => exact absurd w id
theorem o_fdiv {m : Bool} : OpR X (binaryOp .FloorDiv) (r2 g E (vBin m .fdiv)) := okey op_fdivW fun x y H Q ⟨κ, ρ, h, d, e, c, q1, q2, w⟩ => by
  cases d with
  | int i => cases e with
    | int j =>
      have w : Wp g E κ ρ H (if 0 < j ∧ j.natAbs < 2 ^ 8000 then .ok (.int (i / j)) h else .bad) Q := w
      split at w
      · rename_i hl; exact ⟨i, j, q1, q2, wide_div hl.1 hl.2 (by decide) (by decide), wp_int c w⟩
      · exact absurd w id
    | _ => exact absurd w id
  | _ => exact absurd w id
theorem o_mod {m : Bool} : OpR X (binaryOp .Mod) (r2 g E (vBin m .mod)) := okey op_mod fun x y H Q ⟨κ, ρ, h, d, e, c, q1, q2, w⟩ => by
  cases d with
  | int i => cases e with
    | int j =>
      have w : Wp g E κ ρ H (if 0 < j then .ok (.int (i % j)) h else .bad) Q := w
      split at w
      · rename_i hl; exact ⟨i, j, q1, q2, hl, wp_int c w⟩
      · exact absurd w id
    | _ => exact absurd w id
  | _ => exact absurd w id
theorem o_pow {m : Bool} : OpR X (binaryOp .Pow) (r2 g E (vBin m .pow)) := okey op_pow fun x y H Q ⟨κ, ρ, h, d, e, c, q1, q2, w⟩ => by
  cases d with
  | int i => cases e with
    | int j =>
      have w : Wp g E κ ρ H (if 0 ≤ j ∧ j ≤ 1000000 ∧ i.natAbs < 2 ^ 64 then .ok (.int (i ^ j.toNat)) h else .bad) Q := w
      split at w
      · rename_i hl; exact ⟨i, j, q1, q2, hl, wp_int c w⟩
      · exact absurd w id
    | _ => exact absurd w id
  | _ => exact absurd w id
theorem o_neg : UnR X (unaryOp .USub) (r1 g E vNeg) := fun pins s σ H x v Q I rx ⟨κ, ρ, h, d, c, q1, w⟩ => by
  cases d with
  | int i => exact un_neg pins s σ H x v Q I rx ⟨i, q1, wp_int c w⟩
  | _ => exact absurd w id
/-- in, not in: a dict, a list -/
theorem keyOf_rep {K : PySem.W.Frag} {d : D} {x : V} {k : Key} (r : Rep K κ ρ H d x) (e : keyOf d = some k) : x = kV k := by
  cases d with
  | int i => cases e; exact r
  | str i => cases e; exact r
  | _ => cases e
theorem krep_get {κt : Type} [DecidableEq κt] {K : PySem.W.Frag} : ∀ {kvs : List (κt × D)} {vs : List (κt × V)}, KRep K κ ρ H kvs vs → ∀ k : κt, match dget kvs k, valV vs k with
    | some d, some v => Rep K κ ρ H d v
    | none, none => True
    | _, _ => False
  | _, _, .nil, k => by simp [dget, valV]
  | p :: kvs, q :: vs, .cons hpq t, k => by
    have ih := krep_get t k
    by_cases e : p.1 = k
    · have e2 : q.1 = k := hpq.1 ▸ e
      have a1 : dget (p :: kvs) k = some p.2 := by simp [dget, List.find?_cons, e]
      have a2 : valV (q :: vs) k = some q.2 := valV_pos e2
      rw [a1, a2]
      exact hpq.2
    · have e2 : ¬ q.1 = k := fun z => e (hpq.1.trans z)
      have a1 : dget (p :: kvs) k = dget kvs k := by simp [dget, List.find?_cons, e]
      rw [a1, valV_neg e2]
      exact ih
theorem look_rep {κt : Type} [DecidableEq κt] {K : PySem.W.Frag} {kvs : List (κt × D)} {vs : List (κt × V)} (r : KRep K κ ρ H kvs vs) {k : κt} {o : Option D} (e : dget kvs k = o) : (valV vs k).isSome = o.isSome ∧ ∀ d, o = some d → ∃ v, valV vs k = some v ∧ Rep K κ ρ H d v := by
  have q := krep_get r k
  rw [e] at q
  cases o with
  | none =>
    cases e2 : valV vs k with
    | none => exact ⟨rfl, fun d z => by cases z⟩
    | some v => rw [e2] at q; exact q.elim
  | some d =>
    cases e2 : valV vs k with
    | none => rw [e2] at q; exact q.elim
    | some v => rw [e2] at q; exact ⟨rfl, fun d' z => by cases z; exact ⟨v, rfl, q⟩⟩

/-! ## dicts whose keys are tuples -/
mutual
theorem nk_depth : ∀ {n : Nat} {d : D} {k : NestedKey}, nk n d = some k → k.depth ≤ n
  | n, .non, k, e => by cases n <;> (simp only [nk, Option.some.injEq] at e; subst e; exact Nat.zero_le _)
  | n, .bl b, k, e => by cases n <;> (simp only [nk, Option.some.injEq] at e; subst e; exact Nat.zero_le _)
  | n, .int b, k, e => by cases n <;> (simp only [nk, Option.some.injEq] at e; subst e; exact Nat.zero_le _)
  | n, .str b, k, e => by cases n <;> (simp only [nk, Option.some.injEq] at e; subst e; exact Nat.zero_le _)
  | 0, .tup ds, k, e => by simp only [nk] at e; cases e
  | n + 1, .tup ds, k, e => by
    simp only [nk, Option.map_eq_some_iff] at e
    obtain ⟨ks, e1, e2⟩ := e
    subst e2
    have := nks_depth e1
    simp only [NestedKey.depth]
    omega
  | n, .pr _, k, e => by cases n <;> (simp only [nk] at e; cases e)
  | n, .fl _, k, e => by cases n <;> (simp only [nk] at e; cases e)
  | n, .rl _, k, e => by cases n <;> (simp only [nk] at e; cases e)
  | n, .ml _, k, e => by cases n <;> (simp only [nk] at e; cases e)
  | n, .md _, k, e => by cases n <;> (simp only [nk] at e; cases e)
  | n, .fn _, k, e => by cases n <;> (simp only [nk] at e; cases e)
theorem nks_depth : ∀ {n : Nat} {ds : List D} {ks : List NestedKey}, nks n ds = some ks → NestedKey.depthAll ks ≤ n
  | n, [], ks, e => by simp only [nks, Option.some.injEq] at e; subst e; exact Nat.zero_le _
  | n, d :: ds, ks, e => by
    unfold nks at e
    split at e
    · rename_i k ks' h1 h2
      cases e
      have a1 := nk_depth h1
      have a2 := nks_depth h2
      simp only [NestedKey.depthAll]
      omega
    · cases e
end
theorem nk_inv {n : Nat} {d : D} {k : NestedKey} (e : nk n d = some k) : (d = .non ∧ k = .none) ∨ (∃ b, d = .bl b ∧ k = .num (if b = true then 1 else 0)) ∨ (∃ i, d = .int i ∧ k = .num i) ∨ (∃ s, d = .str s ∧ k = .text s) ∨ (∃ m ds ks, n = m + 1 ∧ d = .tup ds ∧ k = .tup ks ∧ nks m ds = some ks) := by
  cases d with
  | non => cases n <;> (simp only [nk, Option.some.injEq] at e; subst e; exact .inl ⟨rfl, rfl⟩)
  | bl b => cases n <;> (simp only [nk, Option.some.injEq] at e; subst e; exact .inr (.inl ⟨b, rfl, rfl⟩))
  | int b => cases n <;> (simp only [nk, Option.some.injEq] at e; subst e; exact .inr (.inr (.inl ⟨b, rfl, rfl⟩)))
  | str b => cases n <;> (simp only [nk, Option.some.injEq] at e; subst e; exact .inr (.inr (.inr (.inl ⟨b, rfl, rfl⟩))))
  | tup ds =>
    cases n with
    | zero => simp only [nk] at e; cases e
    | succ n =>
      simp only [nk, Option.map_eq_some_iff] at e
      obtain ⟨ks, e1, e2⟩ := e
      exact .inr (.inr (.inr (.inr ⟨n, ds, ks, rfl, rfl, e2.symm, e1⟩)))
  | _ => cases n <;> (simp only [nk] at e; cases e)
mutual
theorem deq_nk : ∀ {n m : Nat} {a b : D} {x y : NestedKey}, nk n a = some x → nk m b = some y → deq a b = NestedKey.beq x y
  | n, m, .non, b, x, y, e, f => by
    have : x = .none := by cases n <;> (simp only [nk, Option.some.injEq] at e; exact e.symm)
    subst this
    rcases nk_inv f with ⟨rfl, rfl⟩ | ⟨c, rfl, rfl⟩ | ⟨c, rfl, rfl⟩ | ⟨c, rfl, rfl⟩ | ⟨m', ds, ks, rfl, rfl, rfl, _⟩ <;> simp [deq, NestedKey.beq]
  | n, m, .bl c, b, x, y, e, f => by
    have : x = .num (if c = true then 1 else 0) := by cases n <;> (simp only [nk, Option.some.injEq] at e; exact e.symm)
    subst this
    rcases nk_inv f with ⟨rfl, rfl⟩ | ⟨d, rfl, rfl⟩ | ⟨d, rfl, rfl⟩ | ⟨d, rfl, rfl⟩ | ⟨m', ds, ks, rfl, rfl, rfl, _⟩
    · simp [deq, NestedKey.beq]
    · cases c <;> cases d <;> simp [deq, NestedKey.beq]
    · cases c <;> simp [deq, NestedKey.beq] <;> rfl
    · simp [deq, NestedKey.beq]
    · simp [deq, NestedKey.beq]
  | n, m, .int c, b, x, y, e, f => by
    have : x = .num c := by cases n <;> (simp only [nk, Option.some.injEq] at e; exact e.symm)
    subst this
    rcases nk_inv f with ⟨rfl, rfl⟩ | ⟨d, rfl, rfl⟩ | ⟨d, rfl, rfl⟩ | ⟨d, rfl, rfl⟩ | ⟨m', ds, ks, rfl, rfl, rfl, _⟩
    · simp [deq, NestedKey.beq]
    · cases d <;> simp [deq, NestedKey.beq] <;> rfl
    · simp [deq, NestedKey.beq] <;> rfl
    · simp [deq, NestedKey.beq]
    · simp [deq, NestedKey.beq]
  | n, m, .str c, b, x, y, e, f => by
    have : x = .text c := by cases n <;> (simp only [nk, Option.some.injEq] at e; exact e.symm)
    subst this
    rcases nk_inv f with ⟨rfl, rfl⟩ | ⟨d, rfl, rfl⟩ | ⟨d, rfl, rfl⟩ | ⟨d, rfl, rfl⟩ | ⟨m', ds, ks, rfl, rfl, rfl, _⟩ <;> simp [deq, NestedKey.beq]
    all_goals (by_cases h : c = d <;> simp [h])
  | 0, m, .tup ds, b, x, y, e, f => by simp only [nk] at e; cases e
  | n + 1, m, .tup ds, b, x, y, e, f => by
    simp only [nk, Option.map_eq_some_iff] at e
    obtain ⟨ks, e1, e2⟩ := e
    subst e2
    rcases nk_inv f with ⟨rfl, rfl⟩ | ⟨d, rfl, rfl⟩ | ⟨d, rfl, rfl⟩ | ⟨d, rfl, rfl⟩ | ⟨m', es, ls, rfl, rfl, rfl, f1⟩
    · simp [deq, NestedKey.beq]
    · simp [deq, NestedKey.beq]
    · simp [deq, NestedKey.beq]
    · simp [deq, NestedKey.beq]
    · simp only [deq, NestedKey.beq]
      exact deqs_nk e1 f1
  | n, _, .pr _, _, _, _, e, _ => by cases n <;> (simp only [nk] at e; cases e)
  | n, _, .fl _, _, _, _, e, _ => by cases n <;> (simp only [nk] at e; cases e)
  | n, _, .rl _, _, _, _, e, _ => by cases n <;> (simp only [nk] at e; cases e)
  | n, _, .ml _, _, _, _, e, _ => by cases n <;> (simp only [nk] at e; cases e)
  | n, _, .md _, _, _, _, e, _ => by cases n <;> (simp only [nk] at e; cases e)
  | n, _, .fn _, _, _, _, e, _ => by cases n <;> (simp only [nk] at e; cases e)
theorem deqs_nk : ∀ {n m : Nat} {a b : List D} {x y : List NestedKey}, nks n a = some x → nks m b = some y → deqs a b = NestedKey.beqAll x y
  | n, m, [], b, x, y, e, f => by
    simp only [nks, Option.some.injEq] at e; subst e
    cases b with
    | nil => simp only [nks, Option.some.injEq] at f; subst f; rfl
    | cons c cs =>
      unfold nks at f
      split at f
      · cases f; rfl
      · cases f
  | n, m, d :: ds, b, x, y, e, f => by
    unfold nks at e
    split at e
    · rename_i k ks h1 h2
      cases e
      cases b with
      | nil => simp only [nks, Option.some.injEq] at f; subst f; rfl
      | cons c cs =>
        unfold nks at f
        split at f
        · rename_i l ls g1 g2
          cases f
          simp only [deqs, NestedKey.beqAll]
          rw [deq_nk h1 g1, deqs_nk h2 g2]
        · cases f
    · cases e
end
mutual
theorem nk_low : ∀ {n m : Nat} {d : D} {k : NestedKey}, nk n d = some k → low m d = true
  | _, _, .non, _, _ => by unfold low; rfl
  | _, _, .bl _, _, _ => by unfold low; rfl
  | _, _, .int _, _, _ => by unfold low; rfl
  | _, _, .str _, _, _ => by unfold low; rfl
  | _, _, .fn _, _, _ => by unfold low; rfl
  | 0, _, .tup ds, k, e => by simp only [nk] at e; cases e
  | n + 1, m, .tup ds, k, e => by
    simp only [nk, Option.map_eq_some_iff] at e
    obtain ⟨ks, e1, _⟩ := e
    unfold low
    exact nks_low e1
  | n, _, .pr _, _, e => by cases n <;> (simp only [nk] at e; cases e)
  | n, _, .fl _, _, e => by cases n <;> (simp only [nk] at e; cases e)
  | n, _, .rl _, _, e => by cases n <;> (simp only [nk] at e; cases e)
  | n, _, .ml _, _, e => by cases n <;> (simp only [nk] at e; cases e)
  | n, _, .md _, _, e => by cases n <;> (simp only [nk] at e; cases e)
theorem nks_low : ∀ {n m : Nat} {ds : List D} {ks : List NestedKey}, nks n ds = some ks → lows m ds = true
  | _, _, [], _, _ => by unfold lows; rfl
  | n, m, d :: ds, ks, e => by
    unfold nks at e
    split at e
    · rename_i k ks' h1 h2
      unfold lows
      rw [nk_low h1, nks_low h2]; rfl
    · cases e
end
theorem hk_some {ds : List D} (e : hk ds = true) : ∃ k, nk 8 (.tup ds) = some k := Option.isSome_iff_exists.mp e
theorem key_deqs {a b : List D} {x y : NestedKey} (e : nk 8 (.tup a) = some x) (f : nk 8 (.tup b) = some y) : deqs a b = decide (x = y) := by
  have := deq_nk e f
  rw [NestedKey.decide_eq]
  simpa only [deq] using this
abbrev AV := List (NestedKey × Addr × V)
def valA (kvs : AV) (k : NestedKey) : Option V := valV (kvs.map fun p => (p.1, p.2.2)) k
/-- at b stands the tuple k -/
def KeyAt (g : G) (H : Hp) (b : Addr) (k : NestedKey) : Prop := ∃ κ ρ d, Rep g.K κ ρ H d (.ref b) ∧ nk 8 d = some k
/-- the keys stand -/
def KeysAt (g : G) (H : Hp) (kvs : AV) : Prop := ∀ p ∈ kvs, KeyAt g H p.2.1 p.1
def TGet (g : G) (H : Hp) (a : Addr) (y : V) (r : Option V) : Prop :=
  ∃ kvs k b, Rd H a (.ext (DTO g a kvs)) ∧ (a == sysModules) = false ∧ KeysAt g H kvs ∧ y = .ref b ∧ KeyAt g H b k ∧ r = valA kvs k
abbrev XV (kvs : AV) (xs : List (NestedKey × Addr × Value)) : Prop := Paired (fun (p : NestedKey × Addr × V) (q : NestedKey × Addr × Value) => p.1 = q.1 ∧ p.2.1 = q.2.1 ∧ RelV p.2.2 q.2.2) kvs xs
section
variable {pins : List (Addr × Obj)} {σ : L2.St} {s : Shared}
mutual
theorem nested_of (I : Inv X pins σ H s) (hK : X.K = g.K) : ∀ {n : Nat} {d : D} {v : V} {u : Value} {k : NestedKey}, Rep g.K κ ρ H d v → RelV v u → nk n d = some k → NestedIs s.heap k u
  | n, .non, v, u, k, r, rv, e => by
    have : k = .none := by cases n <;> (simp only [nk, Option.some.injEq] at e; exact e.symm)
    subst this; cases r; cases rv; exact .none
  | n, .bl b, v, u, k, r, rv, e => by
    have : k = .num (if b = true then 1 else 0) := by cases n <;> (simp only [nk, Option.some.injEq] at e; exact e.symm)
    subst this; cases r; cases rv; exact .bool rfl
  | n, .int b, v, u, k, r, rv, e => by
    have : k = .num b := by cases n <;> (simp only [nk, Option.some.injEq] at e; exact e.symm)
    subst this; cases r; obtain ⟨t, rfl⟩ := rv; exact .int _ _
  | n, .str b, v, u, k, r, rv, e => by
    have : k = .text b := by cases n <;> (simp only [nk, Option.some.injEq] at e; exact e.symm)
    subst this; cases r; obtain ⟨t, rfl⟩ := rv; exact .text _ _
  | 0, .tup ds, v, u, k, r, rv, e => by simp only [nk] at e; cases e
  | n + 1, .tup ds, v, u, k, ⟨a, vs, ev, f, rr⟩, rv, e => by
    simp only [nk, Option.map_eq_some_iff] at e
    obtain ⟨ks, e1, e2⟩ := e
    subst e2 ev
    cases rv
    have sq : SqT g.K H a vs := f.sq
    rw [← hK] at sq
    obtain ⟨its, k1, pl, _⟩ := I.tuple sq
    obtain ⟨o, h1, h2, m, h3⟩ := pl
    refine .tup h1 h2 h3 ?_
    have := nesteds_of I hK rr k1 e1
    simpa using this
  | n, .pr _, _, _, _, _, _, e => by cases n <;> (simp only [nk] at e; cases e)
  | n, .fl _, _, _, _, _, _, e => by cases n <;> (simp only [nk] at e; cases e)
  | n, .rl _, _, _, _, _, _, e => by cases n <;> (simp only [nk] at e; cases e)
  | n, .ml _, _, _, _, _, _, e => by cases n <;> (simp only [nk] at e; cases e)
  | n, .md _, _, _, _, _, _, e => by cases n <;> (simp only [nk] at e; cases e)
  | n, .fn _, _, _, _, _, _, e => by cases n <;> (simp only [nk] at e; cases e)
theorem nesteds_of (I : Inv X pins σ H s) (hK : X.K = g.K) : ∀ {n : Nat} {ds : List D} {vs : List V} {us : List Value} {ks : List NestedKey}, Reps g.K κ ρ H ds vs → Vals vs us → nks n ds = some ks → NestedAll s.heap ks us
  | n, [], vs, us, ks, r, rv, e => by
    simp only [nks, Option.some.injEq] at e; subst e
    cases r; cases rv; exact .nil
  | n, d :: ds, _, us, ks, ⟨v, r, ev, r1, r2⟩, rv, e => by
    subst ev
    unfold nks at e
    split at e
    · rename_i k ks' h1 h2
      cases e
      cases rv with
      | cons v1 v2 => exact .cons (nested_of I hK r1 v1 h1) (nesteds_of I hK r2 v2 h2)
    · cases e
end
theorem key_is (I : Inv X pins σ H s) (hK : X.K = g.K) {b : Addr} {k : NestedKey} (h : KeyAt g H b k) : (nestedKind X.prog X.w).is s.heap k b := by
  obtain ⟨κ, ρ, d, r, e⟩ := h
  exact ⟨nested_of I hK r rfl e, nk_depth e⟩
theorem dto_at {a : Addr} {kvs : AV} (I : Inv X pins σ H s) (hK : X.K = g.K) (hP : X.prog = g.P) (hw : X.w = g.w) (e : Rd H a (.ext (DTO g a kvs))) (ks : KeysAt g H kvs) :
    ∃ xs, XV kvs xs ∧ s.heap.DictOfH (nestedKind X.prog X.w) a xs := by
  obtain ⟨⟨xs, r, o, es, ep, h1, h2, h3, h4, h5⟩, _⟩ := Rd.ok e I.hok
  refine ⟨xs, r, o, es, ep, h1, h2, h3, by rw [hP, hw]; exact h4, fun x hx => ?_, h5⟩
  have : ∀ {l : AV} {m : List (NestedKey × Addr × Value)}, XV l m → (∀ p ∈ l, KeyAt g H p.2.1 p.1) → ∀ x ∈ m, (nestedKind X.prog X.w).is s.heap x.1 x.2.1 := by
    intro l m q
    induction q with
    | nil => intro _ x hx; cases hx
    | @cons p q ps qs hq t ih =>
      intro hl x hx
      rcases List.mem_cons.mp hx with z | z
      · subst z
        rw [← hq.1, ← hq.2.1]
        exact key_is I hK (hl p List.mem_cons_self)
      · exact ih (fun p hp => hl p (List.mem_cons_of_mem _ hp)) x z
  exact this r ks x hx
end
theorem xv_get : ∀ {kvs : AV} {xs : List (NestedKey × Addr × Value)}, XV kvs xs → ∀ k, RelO (valA kvs k) ((atKey xs k).map (·.2))
  | _, _, .nil, k => trivial
  | p :: ps, q :: qs, .cons hp t, k => by
    have ih := xv_get t k
    unfold valA at ih ⊢
    by_cases e : p.1 = k
    · have e2 : q.1 = k := hp.1 ▸ e
      rw [List.map_cons, valV_pos (by exact e)]
      have : atKey (q :: qs) k = some q.2 := by simp only [atKey, List.find?_cons, e2, decide_true, Option.map_some]
      rw [this]
      exact hp.2.2
    · have e2 : ¬ q.1 = k := fun z => e (hp.1.trans z)
      rw [List.map_cons, valV_neg (by exact e)]
      have : ∀ r, atKey (q :: r) k = atKey r k := fun r => by simp only [atKey, List.find?_cons, e2, decide_false]
      rw [this]
      exact ih
section
variable {pins : List (Addr × Obj)} {σ : L2.St} {s : Shared} {a : Addr} {y v : V} {o : Option V} {u : Value} {A : Around} {E' : Value → Shared → Prop}
theorem room8 {A : Around} (hu : A.units + 20 < cLine) : (nestedKind X.prog X.w).room A := by show A.units + 8 < cLine; omega
theorem room9 {A : Around} (hu : A.units + 20 < cLine) : (nestedKind X.prog X.w).room A.in1 := by
  show A.in1.units + 8 < cLine
  rw [Around.in1_units]; omega
theorem relO_some {o : Option V} {u : Option Value} {v : V} (r : RelO o u) (e : o = some v) : ∃ w, u = some w ∧ RelV v w := by
  subst e
  cases u with
  | none => exact r.elim
  | some w => exact ⟨w, rfl, r⟩
theorem relO_is {o : Option V} {u : Option Value} (r : RelO o u) : u.isSome = o.isSome := by
  cases o <;> cases u <;> first | rfl | exact r.elim
theorem t_getItem {Q : Value → Shared → Prop} (hK : X.K = g.K) (hP : X.prog = g.P) (hw : X.w = g.w) (hu : A.units + 20 < cLine) (I : Inv X pins σ H s) (t : TGet g H a y (some v)) (ry : RelV y u)
    (h : ∀ w' s', Inv X pins σ H s' → RelV v w' → Q w' s') : wpAny (model X.prog X.w) A (getItem (.ref a) u) Q E' s := by
  obtain ⟨kvs, k, b, e, _, ks, rfl, eb, l⟩ := t
  cases ry
  obtain ⟨xs, r, dd⟩ := dto_at I hK hP hw e ks
  obtain ⟨w', e1, rw'⟩ := relO_some (xv_get r k) l.symm
  obtain ⟨p, hp, rfl⟩ := Option.map_eq_some_iff.mp e1
  exact wpAny_getItem_heap (room9 hu) (key_is I hK eb) dd hp (h _ _ (I.tok _) rw')
theorem t_in {Q : Value → Shared → Prop} (hK : X.K = g.K) (hP : X.prog = g.P) (hw : X.w = g.w) (hu : A.units + 20 < cLine) (I : Inv X pins σ H s) (t : TGet g H a y o) (ry : RelV y u)
    (h : ∀ s', Inv X pins σ H s' → Q (.bool o.isSome) s') : wpAny (model X.prog X.w) A (compareOp .In u (.ref a)) Q E' s := by
  obtain ⟨kvs, k, b, e, hd, ks, rfl, eb, rfl⟩ := t
  cases ry
  obtain ⟨xs, r, dd⟩ := dto_at I hK hP hw e ks
  have z := relO_is (xv_get r k)
  rw [Option.isSome_map] at z
  exact wpAny_in_heap (room9 hu) (key_is I hK eb) hd dd (by rw [z]; exact h _ (I.tok _))
theorem t_notIn {Q : Value → Shared → Prop} (hK : X.K = g.K) (hP : X.prog = g.P) (hw : X.w = g.w) (hu : A.units + 20 < cLine) (I : Inv X pins σ H s) (t : TGet g H a y o) (ry : RelV y u)
    (h : ∀ s', Inv X pins σ H s' → Q (.bool (!o.isSome)) s') : wpAny (model X.prog X.w) A (compareOp .NotIn u (.ref a)) Q E' s := by
  obtain ⟨kvs, k, b, e, hd, ks, rfl, eb, rfl⟩ := t
  cases ry
  obtain ⟨xs, r, dd⟩ := dto_at I hK hP hw e ks
  have z := relO_is (xv_get r k)
  rw [Option.isSome_map] at z
  exact PyProof.Rows.wpAny_notIn_heap (room9 hu) (key_is I hK eb) hd dd (by rw [z]; exact h _ (I.tok _))
theorem getD_rel {o : Option V} {u : Option Value} {d : V} {w : Value} (r : RelO o u) (rd : RelV d w) : RelV (o.getD d) (u.getD w) := by
  cases o <;> cases u <;> first | exact rd | exact r | exact r.elim
theorem t_get1 {Q : Value → Shared → Prop} (hK : X.K = g.K) (hP : X.prog = g.P) (hw : X.w = g.w) (hu : A.units + 20 < cLine) (I : Inv X pins σ H s) (t : TGet g H a y o) (ry : RelV y u)
    (h : ∀ w' s', Inv X pins σ H s' → RelV (o.getD .non) w' → Q w' s') : wpAny (model X.prog X.w) A (call (.builtin "dict.get") [.ref a, u]) Q E' s := by
  obtain ⟨kvs, k, b, e, hd, ks, rfl, eb, rfl⟩ := t
  cases ry
  obtain ⟨xs, r, dd⟩ := dto_at I hK hP hw e ks
  have m := meetsH_dict_get (nestedKind X.prog X.w) a b hd
  refine call_meetsIn PySem.F.slot_dict_get dd.typeIs PySem.F.entry_dict_get (PySem.F.args_dict_get_2 _ _) m ?_
  · exact ⟨room9 hu, k, xs, key_is I hK eb, dd, h _ _ (I.tok _) (getD_rel (xv_get r k) rfl)⟩
theorem t_get2 {d : V} {z : Value} {Q : Value → Shared → Prop} (hK : X.K = g.K) (hP : X.prog = g.P) (hw : X.w = g.w) (hu : A.units + 20 < cLine) (I : Inv X pins σ H s) (t : TGet g H a y o) (ry : RelV y u) (rd : RelV d z)
    (h : ∀ w' s', Inv X pins σ H s' → RelV (o.getD d) w' → Q w' s') : wpAny (model X.prog X.w) A (call (.builtin "dict.get") [.ref a, u, z]) Q E' s := by
  obtain ⟨kvs, k, b, e, hd, ks, rfl, eb, rfl⟩ := t
  cases ry
  obtain ⟨xs, r, dd⟩ := dto_at I hK hP hw e ks
  have m := meetsH_dict_get_default (nestedKind X.prog X.w) a b hd z
  refine call_meetsIn PySem.F.slot_dict_get dd.typeIs PySem.F.entry_dict_get (PySem.F.args_dict_get_3 _ _ _) m ?_
  · exact ⟨room9 hu, k, xs, key_is I hK eb, dd, h _ _ (I.tok _) (getD_rel (xv_get r k) rd)⟩
/-- the pairs behind a store -/
def putA (kvs : AV) (k : NestedKey) (b : Addr) (v : V) : AV :=
  if kvs.any (fun p => decide (p.1 = k)) then kvs.map fun p => if p.1 = k then (p.1, p.2.1, v) else p else kvs ++ [(k, b, v)]
theorem xv_any {k : NestedKey} : ∀ {kvs : AV} {xs : List (NestedKey × Addr × Value)}, XV kvs xs → (atKey xs k).isSome = kvs.any (fun p => decide (p.1 = k))
  | _, _, .nil => rfl
  | p :: ps, q :: qs, .cons hp t => by
    have ih := xv_any (k := k) t
    by_cases e : q.1 = k
    · have e2 : p.1 = k := hp.1.trans e
      simp [atKey, List.find?_cons, e, e2]
    · have e2 : ¬ p.1 = k := fun z => e (hp.1.symm.trans z)
      have : atKey (q :: qs) k = atKey qs k := by simp only [atKey, List.find?_cons, e, decide_false]
      rw [this, ih]
      simp [e2]
theorem xv_map (k : NestedKey) {w : Value} (rv : RelV v w) : ∀ {kvs : AV} {xs : List (NestedKey × Addr × Value)}, XV kvs xs → XV (kvs.map fun p => if p.1 = k then (p.1, p.2.1, v) else p) (xs.map (putAt k w))
  | _, _, .nil => .nil
  | p :: ps, q :: qs, .cons hq t => by
    rw [List.map_cons, List.map_cons]
    refine .cons ?_ (xv_map k rv t)
    unfold putAt
    by_cases e : p.1 = k
    · rw [if_pos e, if_pos (hq.1.symm.trans e)]; exact ⟨hq.1, hq.2.1, rv⟩
    · rw [if_neg e, if_neg fun z => e (hq.1.trans z)]; exact hq
theorem xv_put {kvs : AV} {xs : List (NestedKey × Addr × Value)} (r : XV kvs xs) (k : NestedKey) (b : Addr) {w : Value} (rv : RelV v w) : XV (putA kvs k b v) (storedH xs k b w) := by
  unfold putA storedH
  rw [xv_any r]
  split
  · exact xv_map k rv r
  · exact Paired.snoc r ⟨rfl, rfl, rv⟩
theorem t_setItem {kvs : AV} {k : NestedKey} {b : Addr} {r : Value} {Q : Unit → Shared → Prop} (hK : X.K = g.K) (hP : X.prog = g.P) (hw : X.w = g.w) (hu : A.units + 20 < cLine) (I : Inv X pins σ H s) (e : H a = some (.ext (DTO g a kvs)))
    (ks : KeysAt g H kvs) (hz : kvs.length ≤ sizeLine) (eb : KeyAt g H b k) (rv : RelV v r)
    (h : ∀ s', Inv X pins σ (upd H a (.ext (DTO g a (putA kvs k b v)))) s' → Q () s') : wpAny (model X.prog X.w) A (setItem (.ref a) (.ref b) r) Q E' s := by
  obtain ⟨xs, rel, dd⟩ := dto_at I hK hP hw (.inl e) ks
  have hz' : xs.length ≤ sizeLine := by rw [← Paired.length rel]; exact hz
  refine wpAny_setItem_heap (hsz := hz') (room9 hu) (key_is I hK eb) dd fun h' dd' hs => h _ ?_
  obtain ⟨q, es, ep, h1, h2, h3, h4, _, h5⟩ := dd'
  refine d_write I (by rw [e]; exact True.intro) hs ⟨q, h1⟩ ⟨⟨_, xv_put rel k b rv, q, es, ep, h1, h2, h3, by rw [← hP, ← hw]; exact h4, h5⟩, ⟨q, h1⟩, ?_⟩
  rintro g1 g2 ⟨ys, r1, o1, es1, ep1, z1, z2⟩ st
  exact ⟨ys, r1, o1, es1, ep1, st _ z1, z2⟩
end
end
end Q
end
section
open PySem PySem.Spec L2 PyProof.Rows
namespace Q
theorem tup_times_same (l : Addr) (its : Array Value) (n : Nat) (dd : Option Addr) (sl : Array (Option Value)) (x : Int) (u : Tok)
    (c0 : (decide (x < -(2 ^ 63)) || decide (x ≥ 2 ^ 63)) = false) (c1 : (its.isEmpty || x == 1) = true) :
    Meets (Builtin.«tuple.__mul__» ⟨[.ref l, .int x u], []⟩) (fun _ R s => s.heap.get? l = some { cls := .type "tuple", dict := dd, data := .seq its n, slots := sl } ∧ R (.ok (.ret (.ref l))) s) :=
  .of_wp fun prog w A R s h => by
    obtain ⟨hp, g, d, tk, os⟩ := s
    obtain ⟨hl, h⟩ := h
    have f1 := AutoSeq1.idx_int
    wp_walk using wpAny_loadPart' hl
    repeat (first
      | (refine wpAny_ite_false (decide_eq_false (by rw [c0]; exact Bool.false_ne_true)) ?_; wp_walk using wpAny_loadPart' hl)
      | (refine wpAny_ite_true (decide_eq_true c1) ?_; wp_walk using wpAny_loadPart' hl))
    exact ⟨_, rfl, h⟩
theorem tup_times_none (l : Addr) (its : Array Value) (n : Nat) (dd : Option Addr) (sl : Array (Option Value)) (x : Int) (u : Tok)
    (c0 : (decide (x < -(2 ^ 63)) || decide (x ≥ 2 ^ 63)) = false) (c1 : (its.isEmpty || x == 1) = false) (c2 : (decide (x ≤ 0) || its.isEmpty) = true) :
    Meets (Builtin.«tuple.__mul__» ⟨[.ref l, .int x u], []⟩) (fun _ R s => s.heap.get? l = some { cls := .type "tuple", dict := dd, data := .seq its n, slots := sl } ∧
      R (.ok (.ret (.ref s.heap.objs.size))) { s with heap := s.heap.push { cls := .type "tuple", data := .seq #[] }, toks := s.toks }) :=
  .of_wp fun prog w A R s h => by
    obtain ⟨hp, g, d, tk, os⟩ := s
    obtain ⟨hl, h⟩ := h
    have f1 := AutoSeq1.idx_int
    wp_walk using wpAny_loadPart' hl
    repeat (first
      | (refine wpAny_ite_false (decide_eq_false (by rw [c0]; exact Bool.false_ne_true)) ?_; wp_walk using wpAny_loadPart' hl)
      | (refine wpAny_ite_false (decide_eq_false (by rw [c1]; exact Bool.false_ne_true)) ?_; wp_walk using wpAny_loadPart' hl)
      | (refine wpAny_ite_true (decide_eq_true c2) ?_; wp_walk using wpAny_loadPart' hl))
    exact ⟨_, rfl, h⟩
section
variable {g : G} {E : XK} {κ ρ : List Addr} {H : Hp} {h : Hh} {X : Cx}
/-- tuple * int, frozen -/
def rRepF (K : PySem.W.Frag) : R2 := fun x y H Q => ∃ l k xs, x = .ref l ∧ y = .int k ∧ SqT K H l xs ∧ -(2 ^ 63) ≤ k ∧ k ≤ 1000 ∧ xs.length ≤ 1000 ∧
  (xs = [] ∨ k = 1 → Q (.ref l) H) ∧ (xs ≠ [] → k ≠ 1 → NewT H Q (List.replicate k.toNat xs).flatten)
theorem op_repF : OpR X (binaryOp .Mult) (rRepF X.K) := by
  rintro pins s σ H x y v u Q I rx ry ⟨l, k, xs, rfl, rfl, hT, k1, k2, hz, q1, q2⟩
  cases rx
  obtain ⟨t, rfl⟩ := ry
  obtain ⟨its, r, ⟨⟨cls, dd, data, sl⟩, ho, hc, n, hd⟩, hs⟩ := I.tuple hT
  simp only at hc hd
  subst hc hd
  have hle : its.length = xs.length := r.length.symm
  have sz : its.toArray.size = xs.length := by rw [List.size_toArray, hle]
  have c0 : (decide (k < -(2 ^ 63)) || decide (k ≥ 2 ^ 63)) = false := by
    rw [decide_eq_false (by omega), decide_eq_false (by omega)] <;> rfl
  refine wpAny_binaryOp_repeat_ref (T := "tuple") (U := "int") (by decide) ⟨_, ho, rfl⟩ (fun s' => typeIs_int s' k t) noFill_tuple_mul F.fills_int_mul F.slot_int_rmul repeat_tuple F.slot_int_index.lookup
    (call_meets F.slot_int_rmul (typeIs_int s k t) F.entry_int_rmul (F.args_int_rmul_2 _ _) (int_rmul_tuple k t l its.toArray n dd sl) ⟨ho, rfl, ⟨_, ho, rfl⟩, ?_⟩)
  by_cases hk : xs = [] ∨ k = 1
  · have c1 : (its.toArray.isEmpty || k == 1) = true := by
      rcases hk with z | z
      · subst z
        cases r
        rfl
      · subst z
        exact Bool.or_true _
    exact call_meets F.slot_tuple_mul ⟨_, ho, rfl⟩ F.entry_tuple_mul (F.args_tuple_mul_2 _ _) (tup_times_same l its.toArray n dd sl k t c0 c1) ⟨ho, .ref l, H, I, rfl, q1 hk⟩
  · have hn : xs ≠ [] := fun z => hk (.inl z)
    have h1 : k ≠ 1 := fun z => hk (.inr z)
    have emp : its.toArray.isEmpty = false := by
      cases r with
      | nil => exact absurd rfl hn
      | cons a b => rfl
    have c1 : (its.toArray.isEmpty || k == 1) = false := by
      rw [emp, Bool.false_or]
      exact beq_eq_false_iff_ne.mpr h1
    by_cases h0 : k ≤ 0
    · have c2 : (decide (k ≤ 0) || its.toArray.isEmpty) = true := by
        rw [decide_eq_true h0]
        rfl
      have e0 : (List.replicate k.toNat xs).flatten = [] := by
        rw [Int.toNat_of_nonpos h0]
        rfl
      have q := q2 hn h1
      rw [e0] at q
      exact call_meets F.slot_tuple_mul ⟨_, ho, rfl⟩ F.entry_tuple_mul (F.args_tuple_mul_2 _ _) (tup_times_none l its.toArray n dd sl k t c0 c1 c2) ⟨ho, ep_tup (its := []) I .nil (Nat.zero_le _) q⟩
    · have c2 : (decide (k ≤ 0) || its.toArray.isEmpty) = false := by
        rw [emp, Bool.or_false]
        exact decide_eq_false h0
      have b0 : k.toNat * xs.length ≤ 1000 * 1000 := Nat.mul_le_mul (by omega) hz
      have hm : ((its.toArray.size : Nat) : Int) * k ≤ 1000000 := by
        rw [sz]
        have a1 : ((xs.length : Nat) : Int) * k ≤ 1000 * k := Int.mul_le_mul_of_nonneg_right (by omega) (by omega)
        omega
      have fl : (List.replicate k.toNat its).flatten.length ≤ sizeLine := by
        rw [PyProof.Rows.lm_len_rep_flat, hle, sizeLine_eq]
        omega
      have c4 : Builtin.Tuple.tupleTooMany (((its.toArray.size : Nat) : Int) * k) = false := by
        unfold Builtin.Tuple.tupleTooMany
        rw [sizeLine_eq]
        exact decide_eq_false (by omega)
      refine call_meets F.slot_tuple_mul ⟨_, ho, rfl⟩ F.entry_tuple_mul (F.args_tuple_mul_2 _ _) (tuple_mulW l its.toArray n dd sl k t c0 c1 c2 (by omega) c4 (by rw [size_rep, List.size_toArray]; exact fl)) ⟨ho, ?_⟩
      rw [size_rep]
      refine ep_tup I (r.rep k.toNat) ?_ (q2 hn h1)
      rw [PyProof.Rows.lm_len_rep_flat, sizeLine_eq]
      omega
theorem op_mulB : OpR X (binaryOp .Mult) (rI (fun i j => CMul i j ∨ CMulW i j) fun i j => .int (i * j)) := opI fun _ _ _ _ _ _ _ hc q => mul_int q (hc.elim (fun z => z.ok) fun z => z.ok)
theorem o_mul {m : Bool} (hK : X.K = g.K) : OpR X (binaryOp .Mult) (r2 g E (vBin m .mul)) := okey (OpR.or (OpR.or op_mulB op_rep) op_repF) fun x y H Q ⟨κ, ρ, h, d, e, c, q1, q2, w⟩ => by
  have lists : ∀ k : Int, e = .int k → Wp g E κ ρ H (match lstW h d with
      | some xs => if k < 2 ^ 63 ∧ -(2 ^ 63) ≤ k ∧ xs.length * k.toNat ≤ big then mk m (List.replicate k.toNat xs).flatten h else .bad
      | none => .bad) Q → rRep x y H Q := fun k ek w2 => by
    subst ek
    clear w
    have w := w2
    clear w2
    split at w
    · rename_i xs e1
      split at w
      · rename_i hl
        obtain ⟨a, vs, rfl, h1, h2⟩ := lstW_ok c q1 e1
        exact ⟨a, k, vs, rfl, q2, h1, hl.2.1, hl.1, by rw [h2.len]; exact lineOf hl.2.2, wp_mk c (reps_flat h2 _) w⟩
      · exact absurd w id
    · exact absurd w id
  cases d with
  | int i => cases e with
    | int j =>
      have w : Wp g E κ ρ H (if ((bnd i || bnd j) || (wid i && wid j)) = true then .ok (.int (i * j)) h else .bad) Q := w
      split at w
      · rename_i hl
        refine .inl (.inl ⟨i, j, q1, q2, ?_, wp_int c w⟩)
        rcases Bool.or_eq_true_iff.mp hl with z | z
        · rcases Bool.or_eq_true_iff.mp z with z | z
          · exact .inl (.inl (bnd_ok z))
          · exact .inl (.inr (bnd_ok z))
        · obtain ⟨z1, z2⟩ := Bool.and_eq_true_iff.mp z
          exact .inr (wide_mul (of_decide_eq_true z1) (of_decide_eq_true z2) (by decide) (by decide) (by decide))
      · exact absurd w id
    | _ => exact absurd w id
  | fl xs => cases e with
    | int k => exact .inl (.inr (lists k rfl w))
    | _ => exact absurd w id
  | ml xs => cases e with
    | int k => exact .inl (.inr (lists k rfl w))
    | _ => exact absurd w id
  | tup xs => cases e with
    | int k =>
      have w : Wp g E κ ρ H (if -(2 ^ 63) ≤ k ∧ k ≤ 1000 ∧ xs.length ≤ 1000 then .ok (.tup (List.replicate k.toNat xs).flatten) h else .bad) Q := w
      split at w
      · rename_i hl
        obtain ⟨z1, z2, z3⟩ := hl
        obtain ⟨a, vs, rfl, f1, r1⟩ := q1
        have r2 := reps_flat r1 k.toNat
        refine .inr ⟨a, k, vs, rfl, q2, hK ▸ f1.sq, z1, z2, by rw [r1.len]; exact z3, fun z => ?_, fun _ _ => wp_tup c r2 w⟩
        rcases z with z | z
        · subst z
          have := nil_of r1; subst this
          rw [List.flatten_replicate_nil] at w
          exact wp_at (d := .tup []) c ⟨a, [], rfl, f1, r1⟩ w
        · subst z
          rw [show (List.replicate (1 : Int).toNat xs).flatten = xs from List.append_nil xs] at w
          exact wp_at (d := .tup xs) c ⟨a, vs, rfl, f1, r1⟩ w
      · exact absurd w id
    | _ => exact absurd w id
  | _ => cases e <;> exact absurd w id
end
end Q
end
section
namespace Q
open PySem PySem.Spec L2
section
variable {g : G} {E : XK} {κ ρ : List Addr} {H : Hp} {h : Hh} {X : Cx}
/-- a dict asked for a key: what comes -/
def AnyGet (g : G) (H : Hp) (a : Addr) (y : V) (r : Option V) : Prop := DGet H a y r ∨ TGet g H a y r
theorem trep_get {K : PySem.W.Frag} : ∀ {kvs : List (List D × D)} {vs : AV}, TRep K κ ρ H kvs vs → ∀ (ds : List D) (k : NestedKey), nk 8 (.tup ds) = some k → match dgetT kvs ds, valA vs k with
    | some d, some v => Rep K κ ρ H d v
    | none, none => True
    | _, _ => False
  | _, _, .nil, ds, k, _ => by simp [dgetT, valA, valV]
  | p :: kvs, q :: vs, .cons hpq t, ds, k, hk => by
    have ih := trep_get t ds k hk
    have dq := key_deqs hpq.1 hk
    unfold valA at ih ⊢
    by_cases e : q.1 = k
    · rw [decide_eq_true e] at dq
      have a1 : dgetT (p :: kvs) ds = some p.2 := by simp [dgetT, List.find?_cons, dq]
      rw [a1, List.map_cons, valV_pos (by exact e)]
      exact hpq.2.2
    · rw [decide_eq_false e] at dq
      have a1 : dgetT (p :: kvs) ds = dgetT kvs ds := by simp [dgetT, List.find?_cons, dq]
      rw [a1, List.map_cons, valV_neg (by exact e)]
      exact ih
theorem tlook_rep {K : PySem.W.Frag} {kvs : List (List D × D)} {vs : AV} (r : TRep K κ ρ H kvs vs) {ds : List D} {k : NestedKey} {o : Option D} (hk : nk 8 (.tup ds) = some k) (e : dgetT kvs ds = o) : (valA vs k).isSome = o.isSome ∧ ∀ d, o = some d → ∃ v, valA vs k = some v ∧ Rep K κ ρ H d v := by
  have q := trep_get r ds k hk
  rw [e] at q
  cases o with
  | none =>
    cases e2 : valA vs k with
    | none => exact ⟨rfl, fun d z => by cases z⟩
    | some v => rw [e2] at q; exact q.elim
  | some d =>
    cases e2 : valA vs k with
    | none => rw [e2] at q; exact q.elim
    | some v => rw [e2] at q; exact ⟨rfl, fun d' z => by cases z; exact ⟨v, rfl, q⟩⟩
theorem trep_keys : ∀ {kvs : List (List D × D)} {vs : AV}, TRep g.K κ ρ H kvs vs → KeysAt g H vs
  | _, _, .nil, p, hp => by cases hp
  | _, q :: _, .cons hpq t, p, hp => by
    rcases List.mem_cons.mp hp with z | z
    · subst z
      exact ⟨κ, ρ, _, hpq.2.1, hpq.1⟩
    · exact trep_keys t p z
theorem dlook_ok (c : CS g κ ρ h H) {o k : D} {x y : V} {r : Option D} (q1 : Rep g.K κ ρ H o x) (q2 : Rep g.K κ ρ H k y) (e : dlook h o k = some r) :
    ∃ a v, x = .ref a ∧ AnyGet g H a y v ∧ v.isSome = r.isSome ∧ ∀ d, r = some d → ∃ u, v = some u ∧ Rep g.K κ ρ H d u := by
  cases o with
  | md i =>
    obtain ⟨a, rfl, ha⟩ := q1
    simp only [dlook] at e
    split at e
    · rename_i kvs hc
      obtain ⟨vs, h1, h2⟩ := c.rdK ha hc
      split at e
      · rename_i k' hk
        cases e
        obtain ⟨z1, z2⟩ := look_rep h2 (k := k') rfl
        exact ⟨a, valV vs k', rfl, .inl (by rw [keyOf_rep q2 hk]; exact .inl ⟨vs, k', h1, rfl, rfl⟩), z1, z2⟩
      · cases e
    · rename_i kvs hc
      obtain ⟨vs, h1, h2, h3, h4⟩ := c.rdT ha hc
      split at e
      · rename_i ds
        obtain ⟨b, us, rfl, f, q⟩ := q2
        split at e
        · rename_i hk'
          cases e
          obtain ⟨kk, hkk⟩ := hk_some hk'
          obtain ⟨z1, z2⟩ := tlook_rep h4 hkk rfl
          exact ⟨a, valA vs kk, rfl, .inr ⟨vs, kk, b, h1, h2, trep_keys h4, rfl, ⟨κ, ρ, .tup ds, ⟨b, us, rfl, f, q⟩, hkk⟩, rfl⟩, z1, z2⟩
        · cases e
      · cases e
    · cases e
  | _ => cases e
/-- what holds in the def where an operation stands -/
structure Okx (g : G) (X : Cx) : Prop where
  K : X.K = g.K
  P : X.prog = g.P
  w : X.w = g.w
  u : X.A.units + 100 < cLine
  calm : X.calm = true
theorem c_in (ok : Okx g X) : OpR X (compareOp .In) (fun x y H Q => ∃ a o, y = .ref a ∧ AnyGet g H a x o ∧ Q (.bl o.isSome) H) := by
  intro pins s σ H x y v u Q I rx ry h
  obtain ⟨a, o, rfl, gg, q⟩ := h
  have hu := ok.u
  cases ry
  rcases gg with gg | gg
  · exact d_in (by omega) I gg rx fun s3 I3 => ⟨.bl o.isSome, H, I3, rfl, q⟩
  · exact t_in ok.K ok.P ok.w (by omega) I gg rx fun s3 I3 => ⟨.bl o.isSome, H, I3, rfl, q⟩
theorem c_notin (ok : Okx g X) : OpR X (compareOp .NotIn) (fun x y H Q => ∃ a o, y = .ref a ∧ AnyGet g H a x o ∧ Q (.bl (!o.isSome)) H) := by
  intro pins s σ H x y v u Q I rx ry h
  obtain ⟨a, o, rfl, gg, q⟩ := h
  have hu := ok.u
  cases ry
  rcases gg with gg | gg
  · exact d_notIn (by omega) I gg rx fun s3 I3 => ⟨.bl (!o.isSome), H, I3, rfl, q⟩
  · exact t_notIn ok.K ok.P ok.w (by omega) I gg rx fun s3 I3 => ⟨.bl (!o.isSome), H, I3, rfl, q⟩
def rInT (K : PySem.W.Frag) (neg : Bool) : R2 := fun x y H Q => ∃ d ds, Dp K H x d ∧ Dp K H y (.tuple ds) ∧ SeqAt.shaped d = true ∧ SeqAt.shaped (.tuple ds) = true ∧ Q (.bl (neg != ds.any fun z => PyData.eqv z d)) H
theorem lay_tuple {ds : List PyData} (s : SeqAt.shaped (.tuple ds) = true) : PyData.canLayAll0 ds = true := SeqAt.canLay_of_shaped s
theorem op_inT (hu : X.A.units + 65 < cLine) : OpR X (compareOp .In) (rInT X.K false) := by
  intro pins s σ H x y v u Q I rx ry h
  obtain ⟨d, ds, hd, he, sd, se, q⟩ := h
  obtain ⟨as, k1⟩ := Dp.reads I d x v hd rx
  obtain ⟨bs, k2⟩ := Dp.reads I (.tuple ds) y u he ry
  have hr : X.A.units + 1 + min (PyData.depthAll ds) d.depth < cLine := by
    have z1 := SeqAt.depth_of_shaped sd
    have z2 := Nat.min_le_right (PyData.depthAll ds) d.depth
    omega
  exact SeqAt.in_tuple_reads k2 k1 (lay_tuple se) (SeqAt.canLay_of_shaped sd) hr ⟨.bl _, H, I, rfl, by simpa using q⟩
theorem op_notInT (hu : X.A.units + 65 < cLine) : OpR X (compareOp .NotIn) (rInT X.K true) := by
  intro pins s σ H x y v u Q I rx ry h
  obtain ⟨d, ds, hd, he, sd, se, q⟩ := h
  obtain ⟨as, k1⟩ := Dp.reads I d x v hd rx
  obtain ⟨bs, k2⟩ := Dp.reads I (.tuple ds) y u he ry
  have hr : X.A.units + 1 + min (PyData.depthAll ds) d.depth < cLine := by
    have z1 := SeqAt.depth_of_shaped sd
    have z2 := Nat.min_le_right (PyData.depthAll ds) d.depth
    omega
  exact SeqAt.notIn_tuple_reads k2 k1 (lay_tuple se) (SeqAt.canLay_of_shaped sd) hr ⟨.bl _, H, I, rfl, by simpa using q⟩
theorem any_deq (z : D) : ∀ ds : List D, (pys ds).any (fun y => PyData.eqv y (py z)) = ds.any fun y => deq y z
  | [] => by simp [pys]
  | d :: ds => by simp only [pys, List.any_cons]; rw [any_deq z ds, deq_eqv]
/-- what stands right of in -/
theorem in_split {neg : Bool} (ok : Okx g X) {x y : V} {Q : VK} (q : r2 g E (fun a b h => vIn neg a b h) x y H Q) :
    (∃ a o, y = .ref a ∧ AnyGet g H a x o ∧ Q (.bl (neg != o.isSome)) H) ∨ (∃ d ds, Dp X.K H x d ∧ Dp X.K H y (.list ds) ∧ SeqAt.shaped d = true ∧ SeqAt.shaped (.list ds) = true ∧ Q (.bl (neg != ds.any fun z => PyData.eqv z d)) H) ∨
      rInT X.K neg x y H Q := by
  obtain ⟨κ, ρ, h, d, e, c, q1, q2, w⟩ := q
  have seqs : ∀ ds, seqOf h e = some ds → (∃ a vs, y = .ref a ∧ (SqL g.K H a vs ∨ SqT g.K H a vs) ∧ Reps g.K κ ρ H ds vs) → Wp g E κ ρ H (if shp 7 (view h d) && shps 7 ds then .ok (.bl (neg != ds.any fun z => deq z (view h d))) h else .bad) Q →
      (∃ d ds, Dp X.K H x d ∧ Dp X.K H y (.list ds) ∧ SeqAt.shaped d = true ∧ SeqAt.shaped (.list ds) = true ∧ Q (.bl (neg != ds.any fun z => PyData.eqv z d)) H) ∨ rInT X.K neg x y H Q := fun ds es hs w => by
    obtain ⟨a, vs, rfl, hs, rr⟩ := hs
    split at w
    · rename_i hc
      obtain ⟨s1, s2⟩ := Bool.and_eq_true_iff.mp hc
      have qq := wp_bl c w
      rw [← any_deq] at qq
      have dp := dp_view c q1 s1
      have dps := dps_of rr s2
      have sh : shp 8 (.tup ds) = true := by simpa [shp] using s2
      have sl : shp 8 (.fl ds) = true := by simpa [shp] using s2
      rw [ok.K]
      rcases hs with hs | hs
      · exact .inl ⟨_, _, dp, .lst hs dps, shaped_of s1 (by decide), shaped_of sl (by decide), qq⟩
      · refine .inr ⟨_, _, ?_, .tup hs ?_, shaped_of s1 (by decide), shaped_of sh (by decide), qq⟩
        · exact dp
        · exact dps
    · exact absurd w id
  cases e with
  | md i =>
    have w : Wp g E κ ρ H (match dlook h (.md i) d with
      | some o => .ok (.bl (neg != o.isSome)) h
      | none => .bad) Q := w
    split at w
    · rename_i o eo
      obtain ⟨a, v, rfl, gg, z, _⟩ := dlook_ok c q2 q1 eo
      exact .inl ⟨a, v, rfl, gg, by rw [z]; exact wp_bl c w⟩
    · exact absurd w id
  | tup ds => exact .inr (seqs ds rfl (seqOf_ok c q2 rfl) w)
  | pr ds => exact .inr (seqs ds rfl (seqOf_ok c q2 rfl) w)
  | fl ds => exact .inr (seqs ds rfl (seqOf_ok c q2 rfl) w)
  | rl ds => exact .inr (seqs ds rfl (seqOf_ok c q2 rfl) w)
  | ml i =>
    have w : Wp g E κ ρ H (match seqOf h (.ml i) with
      | some ds => if shp 7 (view h d) && shps 7 ds then .ok (.bl (neg != ds.any fun z => deq z (view h d))) h else .bad
      | none => .bad) Q := w
    split at w
    · rename_i ds es
      exact .inr (seqs ds es (seqOf_ok c q2 es) w)
    · exact absurd w id
  | _ => exact absurd w id
theorem o_in (ok : Okx g X) : OpR X (compareOp .In) (r2 g E (vCmp .isin)) := by
  have hu := ok.u
  refine okey (OpR.or (c_in ok) (OpR.or (op_inD (by omega)) (op_inT (by omega)))) fun x y H Q q => ?_
  have q : r2 g E (fun a b h => vIn false a b h) x y H Q := q
  rcases in_split ok q with ⟨a, o, z1, z2, z3⟩ | ⟨d, ds, z1, z2, z3, z4, z5⟩ | z
  · exact .inl ⟨a, o, z1, z2, by simpa using z3⟩
  · exact .inr (.inl ⟨d, ds, z1, z2, z3, z4, by simpa using z5⟩)
  · exact .inr (.inr z)
theorem o_notin (ok : Okx g X) : OpR X (compareOp .NotIn) (r2 g E (vCmp .notin)) := by
  have hu := ok.u
  refine okey (OpR.or (c_notin ok) (OpR.or (op_notInD (by omega)) (op_notInT (by omega)))) fun x y H Q q => ?_
  have q : r2 g E (fun a b h => vIn true a b h) x y H Q := q
  rcases in_split ok q with ⟨a, o, z1, z2, z3⟩ | ⟨d, ds, z1, z2, z3, z4, z5⟩ | z
  · exact .inl ⟨a, o, z1, z2, by simpa using z3⟩
  · exact .inr (.inl ⟨d, ds, z1, z2, z3, z4, by simpa using z5⟩)
  · exact .inr (.inr z)

/-! ## items, slices -/
theorem ix_any (ok : Okx g X) : IxR X (fun x y H Q => ∃ a v, x = .ref a ∧ AnyGet g H a y (some v) ∧ Q v H) := by
  intro value slice pins s σ H x y v u Q I rx ry h hs
  obtain ⟨a, z, rfl, gg, q⟩ := h
  have hu := ok.u
  cases rx
  rcases gg with gg | gg
  · exact PyProof.Rows.tail_any (dict_typeIs I gg) PySem.F.slot_dict_getitem.lookup (d_getItem (by omega) I gg ry fun w' s3 I3 rw' => ⟨z, H, I3, rw', q⟩) hs
  · have gg2 := gg
    obtain ⟨kvs, k, b, e, _, ks, _⟩ := gg2
    obtain ⟨xs, r, dd⟩ := dto_at I ok.K ok.P ok.w e ks
    exact PyProof.Rows.tail_any dd.typeIs PySem.F.slot_dict_getitem.lookup (t_getItem ok.K ok.P ok.w (by omega) I gg ry fun w' s3 I3 rw' => ⟨z, H, I3, rw', q⟩) hs
theorem atI_rep {K : PySem.W.Frag} {ds : List D} {vs : List V} {k : Int} {d : D} (r : Reps K κ ρ H ds vs) (e : atI ds k = some d) : ∃ v, atI vs k = some v ∧ Rep K κ ρ H d v := by
  unfold atI at e ⊢
  rw [r.len]
  cases q : ixN ds.length k with
  | none => rw [q] at e; cases e
  | some j =>
    rw [q] at e
    exact r.get e
theorem ix_seqs (ok : Okx g X) {d e : D} {x y : V} {Q : VK} (c : CS g κ ρ h H) (q1 : Rep g.K κ ρ H d x) (q2 : Rep g.K κ ρ H e y) (w : Wp g E κ ρ H (ixS d e h) Q) : rIx X.K x y H Q := by
  unfold ixS at w
  split at w
  · rename_i ds k es
    split at w
    · rename_i z ez
      obtain ⟨a, vs, rfl, hq, rr⟩ := seqOf_ok c q1 es
      obtain ⟨v, h1, h2⟩ := atI_rep rr ez
      have qv := wp_at c h2 w
      have q2 : y = .int k := q2
      rw [ok.K]
      rcases hq with hq | hq
      · exact .inl ⟨a, vs, k, v, rfl, q2, hq, h1, qv⟩
      · exact .inr (.inl ⟨a, vs, k, v, rfl, q2, hq, h1, qv⟩)
    · exact absurd w id
  · exact absurd w id
theorem ix_of (ok : Okx g X) : IxR X (r2 g E vIx) := by
  have base := IxR.or (ix_any ok) (ix_seq (X := X))
  intro value slice pins s σ H x y v u Q I rx ry h hs
  refine base value slice pins s σ H x y v u Q I rx ry ?_ hs
  obtain ⟨κ, ρ, h, d, e, c, q1, q2, w⟩ := h
  have seqs := fun w => ix_seqs (E := E) (X := X) (Q := Q) ok c q1 q2 w
  cases d with
  | md j =>
    have w : Wp g E κ ρ H (match dlook h (.md j) e with
      | some (some d) => .ok d h
      | _ => .bad) Q := w
    split at w
    · rename_i d ed
      obtain ⟨a, o, rfl, gg, _, z⟩ := dlook_ok c q1 q2 ed
      obtain ⟨u, rfl, ru⟩ := z d rfl
      exact .inl ⟨a, u, rfl, gg, wp_at c ru w⟩
    · exact absurd w id
  | str z =>
    cases e with
    | int k =>
      have w : Wp g E κ ρ H (if z.length ≤ big then match atI z.cps.toList k with
        | some c => .ok (.str ⟨#[c]⟩) h
        | none => .bad else .bad) Q := w
      split at w
      · rename_i hz
        split at w
        · rename_i cc hc
          exact .inr (.inr (.inr ⟨z, k, cc, q1, q2, lineOf hz, hc, wp_str c w⟩))
        · exact absurd w id
      · exact absurd w id
    | _ => exact absurd w id
  | tup ds => exact .inr (seqs w)
  | pr ds => exact .inr (seqs w)
  | fl ds => exact .inr (seqs w)
  | rl ds => exact .inr (seqs w)
  | ml ds => exact .inr (seqs w)
  | non => exact .inr (seqs w)
  | bl ds => exact .inr (seqs w)
  | int ds => exact .inr (seqs w)
  | fn ds => exact .inr (seqs w)
end
end Q
end
section
namespace PySem.W
open PySem PySem.Calls PyProof.Rows
section
variable {prog : Program} {w : World} {A : Around} {E : Value → Shared → Prop} {s : Shared} {d : Addr} {es : Array DictEntry} {ep : Nat}
theorem call_len_rawD {Q : Value → Shared → Prop} (hd : (d == sysModules) = false) (hm : s.heap.DictRaw d es ep) (hfit : (es.size : Int) < 2 ^ 63) (q : Q (.int es.size (s.toks + 1)) { s with toks := s.toks + 1 + 1 }) :
    wpAny (model prog w) A (call (.builtin "len") [.ref d]) Q E s := by
  have ht : s.TypeIs (.ref d) "dict" := by
    obtain ⟨o, ho, hc, _⟩ := id hm
    exact ⟨o, ho, hc.1⟩
  refine Calls.call_function_entry kind_len plain_len entry_len (args_len1 _) ?_
  unfold Builtin.«len»
  refine wpAny_bind (m := oneArg "len" _) (wpAny_pure ?_)
  refine wpAny_bind (m := callSpecial? (.ref d) (Str.ofString "__len__")) (wpAny_callSpecial?_slot (name := Str.ofString "__len__") ht PySem.F.slot_dict_len (call_len_raw hd hm ?_))
  refine wpAny_bind (wpAny_holding (wpAny_pure ?_))
  refine wpAny_bind (wpAny_letGo ?_)
  show wpAny _ _ (if ((es.size : Nat) : Int) < 0 then _ else _) _ _ _
  rw [if_neg (by omega)]
  show wpAny _ _ (if ((es.size : Nat) : Int) ≥ 2 ^ 63 then _ else _) _ _ _
  rw [if_neg (by omega)]
  exact wpAny_bind (wpAny_mkInt (wpAny_pure ⟨_, rfl, q⟩))
end
end PySem.W
namespace Q
open PySem PySem.Spec L2 PySem.W PyProof.Rows
section
variable {g : G} {E : XK} {κ ρ : List Addr} {H : Hp} {h : Hh} {X : Cx}
/-! ## d.keys(), d.values() -/
theorem keyD_rep {K : PySem.W.Frag} {k : Key} : Rep K κ ρ H (keyD k) (kV k) := by cases k <;> rfl
/-- the entries of a dict stand for these keys and values -/
def Ents (g : G) (X : Cx) (κ ρ : List Addr) (H : Hp) (a : Addr) (ks vs : List D) : Prop :=
  ∃ kv vv : List V, Reps g.K κ ρ H ks kv ∧ Reps g.K κ ρ H vs vv ∧ ∀ (pins : List (Addr × Obj)) (σ : L2.St) (s : Shared), Inv X pins σ H s →
    (a == sysModules) = false ∧ kv.length ≤ sizeLine ∧ ∃ es ep, s.heap.DictRaw a es ep ∧ Vals kv (es.toList.map (·.key)) ∧ Vals vv (es.toList.map (·.val))
theorem krep_ents {K : PySem.W.Frag} : ∀ {kvs : List (Key × D)} {vs : List (Key × V)}, KRep K κ ρ H kvs vs → Reps K κ ρ H (kvs.map fun p => keyD p.1) (vs.map fun p => kV p.1) ∧ Reps K κ ρ H (kvs.map (·.2)) (vs.map (·.2))
  | _, _, .nil => ⟨rfl, rfl⟩
  | p :: ps, q :: qs, .cons z t => by
    obtain ⟨h1, h2⟩ := krep_ents t
    refine ⟨⟨_, _, rfl, ?_, h1⟩, ⟨_, _, rfl, z.2, h2⟩⟩
    show Rep K κ ρ H (keyD p.1) (kV q.1)
    rw [z.1]; exact keyD_rep
theorem trep_ents {K : PySem.W.Frag} : ∀ {kvs : List (List D × D)} {vs : AV}, TRep K κ ρ H kvs vs → Reps K κ ρ H (kvs.map fun p => .tup p.1) (vs.map fun p => .ref p.2.1) ∧ Reps K κ ρ H (kvs.map (·.2)) (vs.map (·.2.2))
  | _, _, .nil => ⟨rfl, rfl⟩
  | p :: ps, q :: qs, .cons z t => by
    obtain ⟨h1, h2⟩ := trep_ents t
    exact ⟨⟨_, _, rfl, z.2.1, h1⟩, ⟨_, _, rfl, z.2.2, h2⟩⟩
theorem xv_ents {P : Program} {w : World} {kvs : AV} {xs : List (NestedKey × Addr × Value)} {es : List DictEntry} (r : XV kvs xs) (e : es = xs.map (entryOfKey (nestedKind P w))) : Vals (kvs.map fun p => V.ref p.2.1) (es.map (·.key)) ∧ Vals (kvs.map (·.2.2)) (es.map (·.val)) := by
  subst e
  induction r with
  | nil => exact ⟨.nil, .nil⟩
  | @cons p q ps qs h t ih => exact ⟨.cons (show Value.ref q.2.1 = Value.ref p.2.1 by rw [h.2.1]) ih.1, .cons h.2.2 ih.2⟩
theorem kv_ents {P : Program} {w : World} {kvs : List (Key × V)} {vs : List (Key × Value)} {es : List DictEntry} (r : KV kvs vs) (e : Pairs (mixKind P w) es vs) : Vals (kvs.map fun p => kV p.1) (es.map (·.key)) ∧ Vals (kvs.map (·.2)) (es.map (·.val)) := by
  induction r generalizing es with
  | nil => cases e; exact ⟨.nil, .nil⟩
  | @cons p q ps qs h t ih =>
    cases e with
    | cons e1 e2 e3 =>
      obtain ⟨i1, i2⟩ := ih e3
      refine ⟨.cons ?_ i1, .cons ?_ i2⟩
      · show RelV (kV p.1) _
        rw [h.1]
        exact keyIs_rel e1
      · rename_i e0 _ 
        have : RelV p.2 q.2 := h.2
        rw [← e2] at this
        exact this
theorem ents_of (c : CS g κ ρ h H) {d : D} {x : V} {ks : List D} (r : Rep g.K κ ρ H d x) (e : keysD h d = some ks) : ∃ a vs, x = .ref a ∧ valsD h d = some vs ∧ Ents g X κ ρ H a ks vs := by
  cases d with
  | md i =>
    obtain ⟨a, rfl, ha⟩ := r
    simp only [keysD] at e
    simp only [valsD]
    split at e
    · rename_i kvs hc
      cases e
      obtain ⟨vs, h1, h2⟩ := c.rdK ha hc
      obtain ⟨e1, e2⟩ := krep_ents h2
      refine ⟨a, _, rfl, rfl, _, _, e1, e2, fun pins σ s I => ?_⟩
      obtain ⟨z, lo, ws, rk, o, es, ep, q1, q2, q3, _, q4, _⟩ := Rd.ok h1 I.hok
      obtain ⟨v1, v2⟩ := kv_ents rk q4
      exact ⟨lo, by rw [List.length_map]; exact z, es, ep, ⟨o, q1, q2, q3⟩, v1, v2⟩
    · rename_i kvs hc
      cases e
      obtain ⟨vs, h1, h2, h3, h4⟩ := c.rdT ha hc
      obtain ⟨e1, e2⟩ := trep_ents h4
      refine ⟨a, _, rfl, rfl, _, _, e1, e2, fun pins σ s I => ⟨h2, by rw [List.length_map]; exact h3, ?_⟩⟩
      obtain ⟨⟨xs, r, o, es, ep, q1, q2, q3, q4, _⟩, _⟩ := Rd.ok h1 I.hok
      obtain ⟨v1, v2⟩ := xv_ents r q4
      exact ⟨es, ep, ⟨o, q1, q2, q3⟩, v1, v2⟩
    · cases e
  | _ => cases e
/-- len(d) -/
def rLenD (g : G) (E : XK) : List V → Hp → VK → Prop := fun xs H Q => ∃ κ ρ h d x ks, xs = [x] ∧ CS g κ ρ h H ∧ Rep g.K κ ρ H d x ∧ keysD h d = some ks ∧ Q (.int ks.length) H
theorem call_lenD : CallR X (.builtin "len") (rLenD g E) := by
  rintro pins s σ H xs us Q I rs ⟨κ, ρ, h, d, x, ks, rfl, c, r, ek, q⟩
  obtain ⟨u, rfl, ru⟩ := vals1 rs
  obtain ⟨a, _, rfl, _, kv, vv, r1, r2, en⟩ := ents_of (X := X) c r ek
  cases ru
  obtain ⟨lo, hz, es, ep, dr, v1, v2⟩ := en pins σ s I
  have hn : es.size = ks.length := by
    rw [← r1.len, v1.length, List.length_map, Array.length_toList]
  exact call_len_rawD lo dr (by rw [hn, ← r1.len]; rw [sizeLine_eq] at hz; omega) ⟨.int ks.length, H, I.tok _, ⟨_, by rw [hn]⟩, q⟩
end
end Q
end
section
namespace Q
open PySem PySem.Spec L2
section
variable {g : G} {E : XK} {κ ρ : List Addr} {H : Hp} {h : Hh} {X : Cx}
/-! ## slices -/
def rSlF (K : PySem.W.Frag) : V → Option Int → Option Int → Hp → VK → Prop := fun x lo hi H Q => ∃ a xs, x = .ref a ∧ SqT K H a xs ∧
  (HT.sIx xs.length 0 lo = 0 ∧ HT.sIx xs.length xs.length hi = xs.length → Q (.ref a) H) ∧ NewT H Q (cutV xs lo hi)
theorem sl_tupF : SlR X (rSlF X.K) := by
  rintro pins s σ H x v vl vu lo hi sl Q I rx hs pl pu ⟨a, xs, rfl, hx, q1, q2⟩
  obtain ⟨its, r, ht, hz⟩ := I.tuple hx
  have hlen : its.toArray.size = xs.length := by rw [List.size_toArray]; exact r.length.symm
  cases rx
  refine ⟨"tuple", _, PyProof.Rows.slot_tuple_getitem.lookup, ht.typeIs, ?_⟩
  by_cases hw : HT.sIx xs.length 0 lo = 0 ∧ HT.sIx xs.length xs.length hi = xs.length
  · exact getItem_tuple_whole ht hs pl pu (by rw [hlen]; exact hw) ⟨.ref a, H, I, rfl, q1 hw⟩
  · refine HT.getItem_tuple_cut ht hs pl pu (by rw [hlen]; exact hw) ?_ (by rw [hlen]; exact hz)
    rw [hlen]
    have r2 := (r.drop (HT.sIx xs.length 0 lo)).take (HT.sIx xs.length xs.length hi - HT.sIx xs.length 0 lo)
    exact ep_tup I r2 (Nat.le_trans (cutV_length xs lo hi) hz) q2
theorem cut_rep {K : PySem.W.Frag} {ds : List D} {vs : List V} {lo hi : Option Int} (r : Reps K κ ρ H ds vs) : Reps K κ ρ H (cut ds lo hi) (cutV vs lo hi) := by
  unfold cut cutV
  rw [r.len]
  exact (r.drop _).take _
theorem cut_whole {ds : List D} {lo hi : Option Int} (hw : HT.sIx ds.length 0 lo = 0 ∧ HT.sIx ds.length ds.length hi = ds.length) : cut ds lo hi = ds := by
  unfold cut
  rw [hw.1, hw.2]
  simp
def rS (g : G) (E : XK) (m : Bool) : V → Option Int → Option Int → Hp → VK → Prop := fun x lo hi H Q => ∃ κ ρ h d, CS g κ ρ h H ∧ Rep g.K κ ρ H d x ∧ Wp g E κ ρ H (vSl m d lo hi h) Q
theorem sl_any {m : Bool} (ok : Okx g X) : SlR X (rS g E m) := by
  have base := SlR.or (sl_tupF (X := X)) (sl_list (X := X))
  intro pins s σ H x v vl vu lo hi sl Q I rx hs pl pu q
  refine base pins s σ H x v vl vu lo hi sl Q I rx hs pl pu ?_
  obtain ⟨κ, ρ, h, d, c, q1, w⟩ := q
  have lists : Wp g E κ ρ H (match lstOf h d with
      | some ds => mk m (cut ds lo hi) h
      | none => .bad) Q → rSlL X.K x lo hi H Q := fun w => by
    split at w
    · rename_i ds es
      obtain ⟨a, vs, rfl, hq, rr⟩ := lstOf_ok c q1 es
      exact ⟨a, vs, rfl, by rw [ok.K]; exact hq, wp_mk c (cut_rep rr) w⟩
    · exact absurd w id
  cases d with
  | tup ds =>
    have w : Wp g E κ ρ H (.ok (.tup (cut ds lo hi)) h) Q := w
    obtain ⟨a, vs, rfl, f, rr⟩ := q1
    refine .inl ⟨a, vs, rfl, by rw [ok.K]; exact f.sq, fun hw => ?_, wp_tup c (cut_rep rr) w⟩
    rw [rr.len] at hw
    rw [cut_whole hw] at w
    exact w ρ (.ref a) H (Go.refl _ _) c ⟨a, vs, rfl, f, rr⟩
  | _ => exact .inr (lists w)
def WpO (g : G) (E : XK) (κ ρ : List Addr) (H : Hp) (r : Oc (Option Int)) (Q : Option Int → Hp → Prop) : Prop :=
  match r with
  | .bad => False
  | .ok o h' => ∀ ρ' H', Go ρ H ρ' H' → CS g κ ρ' h' H' → Q o H'
  | .ex x h' => ∀ ρ' H' c dO, Go ρ H ρ' H' → CS g κ ρ' h' H' → XRep g κ ρ' H' x c dO → E c dO H'
def RO (g : G) (E : XK) (f : Ev → Hh → Oc (Option Int)) : TO := fun σ H Q => ∃ κ ρ env h, Sit g κ ρ env h σ H ∧ WpO g E κ ρ H (f env h) Q
theorem PO.imp {t t' : TO} {e : Option Expr} (p : PO X e t) (k : ∀ σ H Q, t' σ H Q → t σ H Q) : PO X e t' := ⟨fun pins s σ H Q I q => p.run pins s σ H Q I (k σ H Q q)⟩
theorem p_onone {f : Q.E → DE} : PO X none (RO g E (evOpt f none)) := PO.imp po_none fun σ H Q ⟨κ, ρ, env, h, S, w⟩ => w ρ H (Go.refl _ _) S.cs
theorem p_osome {f : Q.E → DE} {e : Expr} {e' : Q.E} (p : PE X e (RE g E (f e'))) : PO X (some e) (RO g E (evOpt f (some e'))) := PO.imp (po_some p) fun σ H Q ⟨κ, ρ, env, h, S, w⟩ => by
  refine ⟨κ, ρ, env, h, S, ?_⟩
  have w : WpO g E κ ρ H ((f e' env h).bind fun d h1 => match d with
    | .int i => .ok (some i) h1
    | _ => .bad) Q := w
  revert w
  cases f e' env h with
  | bad => exact id
  | ex x h' => exact id
  | ok d h1 =>
    intro w ρ1 x H1 k1 c1 q1
    cases d with
    | int i => exact ⟨i, q1, w ρ1 H1 k1 c1⟩
    | _ => exact absurd (show False from w) id
def evSl (m : Bool) (fa : DE) (fl fh : Ev → Hh → Oc (Option Int)) : DE := fun env h => (fa env h).bind fun x h1 => (fl env h1).bind fun l h2 => (fh env h2).bind fun u h3 => vSl m x l u h3
theorem p_slice {m : Bool} {a : Expr} {lo hi : Option Expr} {p2 pos : Pos} {fa : DE} {fl fh : Ev → Hh → Oc (Option Int)} (ok : Okx g X) (ha : PE X a (RE g E fa)) (hl : PO X lo (RO g E fl)) (hh : PO X hi (RO g E fh)) :
    PE X (.Subscript a (.Slice lo hi none p2) pos) (RE g E (evSl m fa fl fh)) := PE.imp (pe_slice (sl_any (m := m) ok) ha hl hh) fun σ H Q ⟨κ, ρ, env, h, S, w⟩ => by
  refine ⟨κ, ρ, env, h, S, ?_⟩
  unfold evSl at w
  revert w
  cases fa env h with
  | bad => exact id
  | ex x h' => exact id
  | ok d h1 =>
    intro w ρ1 x H1 k1 c1 q1
    refine ⟨κ, ρ1, env, h1, S.go k1 c1, ?_⟩
    have w : Wp g E κ ρ H ((fl env h1).bind fun l h2 => (fh env h2).bind fun u h3 => vSl m d l u h3) Q := w
    revert w
    cases fl env h1 with
    | bad => exact id
    | ex x h' => exact fun w ρ' H' c dO k => w ρ' H' c dO (k1.trans k)
    | ok l h2 =>
      intro w ρ2 H2 k2 c2
      refine ⟨κ, ρ2, env, h2, S.go (k1.trans k2) c2, ?_⟩
      have w : Wp g E κ ρ H ((fh env h2).bind fun u h3 => vSl m d l u h3) Q := w
      revert w
      cases fh env h2 with
      | bad => exact id
      | ex x h' => exact fun w ρ' H' c dO k => w ρ' H' c dO ((k1.trans k2).trans k)
      | ok u h3 =>
        intro w ρ3 H3 k3 c3
        exact ⟨κ, ρ3, h3, d, c3, (q1.go k2).go k3, Wp.go ((k1.trans k2).trans k3) w⟩
/-! ## built-ins -/
theorem ckey {f : Value} {r r' : List V → Hp → VK → Prop} (k0 : CallR X f r) (k : ∀ xs H Q, r' xs H Q → r xs H Q) : CallR X f r' := fun pins s σ H xs us Q I rs q => k0 pins s σ H xs us Q I rs (k xs H Q q)
theorem one_of {K : PySem.W.Frag} {d : D} {vs : List V} (r : Reps K κ ρ H [d] vs) : ∃ v, vs = [v] ∧ Rep K κ ρ H d v := by
  obtain ⟨v, r, rfl, h1, h2⟩ := r
  cases h2
  exact ⟨v, rfl, h1⟩
theorem two_of {K : PySem.W.Frag} {d e : D} {vs : List V} (r : Reps K κ ρ H [d, e] vs) : ∃ v u, vs = [v, u] ∧ Rep K κ ρ H d v ∧ Rep K κ ρ H e u := by
  obtain ⟨v, r, rfl, h1, h2⟩ := r
  obtain ⟨u, rfl, h3⟩ := one_of h2
  exact ⟨v, u, rfl, h1, h3⟩
theorem b_len (ok : Okx g X) : CallR X (.builtin "len") (rN g E (v1 vLen)) := ckey (CallR.or call_len (call_lenD (g := g) (E := E))) fun xs H Q ⟨κ, ρ, h, ds, c, r, w⟩ => by
  match ds, r, w with
  | [d], r, w =>
    obtain ⟨x, rfl, r1⟩ := one_of r
    have w : Wp g E κ ρ H (vLen d h) Q := w
    have seqs : Wp g E κ ρ H (match seqOf h d with
      | some xs => .ok (.int xs.length) h
      | none => .bad) Q → ∃ n, LenV X.K x H n ∧ Q (.int n) H := fun w => by
      split at w
      · rename_i xs es
        obtain ⟨a, vs, rfl, hq, rr⟩ := seqOf_ok c r1 es
        refine ⟨xs.length, ?_, wp_int c w⟩
        rw [ok.K, ← rr.len]
        rcases hq with hq | hq
        · exact .inl ⟨vs, hq, rfl⟩
        · exact .inr ⟨vs, hq, rfl⟩
      · exact absurd w id
    have fin : (∃ n, LenV X.K x H n ∧ Q (.int n) H) → (∃ x' n, [x] = [x'] ∧ LenV X.K x' H n ∧ Q (.int n) H) ∨ rLenD g E [x] H Q := fun ⟨n, z⟩ => .inl ⟨x, n, rfl, z⟩
    cases d with
    | md i =>
      have w : Wp g E κ ρ H (match keysD h (.md i) with
        | some ks => .ok (.int ks.length) h
        | none => .bad) Q := w
      split at w
      · rename_i ks ek
        exact .inr ⟨κ, ρ, h, .md i, x, ks, rfl, c, r1, ek, wp_int c w⟩
      · exact absurd w id
    | str s =>
      have r1 : x = .str s := r1
      subst r1
      have w : Wp g E κ ρ H (if s.length ≤ big then .ok (.int s.length) h else .bad) Q := w
      split at w
      · rename_i hz
        exact fin ⟨s.length, ⟨lineOf hz, rfl⟩, wp_int c w⟩
      · exact absurd w id
    | _ => exact fin (seqs w)
  | [], _, w => exact absurd w id
  | _ :: _ :: _, _, w => exact absurd w id
def rTupleF (K : PySem.W.Frag) : List V → Hp → VK → Prop := fun xs H Q => ∃ p ys, xs = [.ref p] ∧ ((SqL K H p ys ∧ NewT H Q ys) ∨ (SqT K H p ys ∧ Q (.ref p) H))
theorem call_tupleF : CallR X (.type "tuple") (rTupleF X.K) := by
  rintro pins s σ H xs us Q I r ⟨p, ys, rfl, q⟩
  obtain ⟨u, rfl, rx⟩ := vals1 r
  cases rx
  rcases q with ⟨hq, q⟩ | ⟨hq, q⟩
  · obtain ⟨its, r', pl, hz⟩ := I.list hq
    have hlen := r'.length
    refine call_tuple_list pl.isList (fun h' kp => ?_) (by rw [List.size_toArray]; omega)
    exact ep_tup (I.kept (t' := s.toks) kp) r' hz q
  · obtain ⟨its, _, pl, _⟩ := I.tuple hq
    exact call_tuple_same pl ⟨.ref p, H, I, rfl, q⟩
theorem b_tuple (ok : Okx g X) : CallR X (.type "tuple") (rN g E (v1 vTuple)) := ckey call_tupleF fun xs H Q ⟨κ, ρ, h, ds, c, r, w⟩ => by
  match ds, r, w with
  | [d], r, w =>
    obtain ⟨x, rfl, r1⟩ := one_of r
    have w : Wp g E κ ρ H (vTuple d h) Q := w
    have lists : Wp g E κ ρ H (match lstOf h d with
      | some xs => .ok (.tup xs) h
      | none => .bad) Q → rTupleF X.K [x] H Q := fun w => by
      split at w
      · rename_i xs es
        obtain ⟨a, vs, rfl, hq, rr⟩ := lstOf_ok c r1 es
        exact ⟨a, vs, rfl, .inl ⟨by rw [ok.K]; exact hq, wp_tup c rr w⟩⟩
      · exact absurd w id
    cases d with
    | tup xs =>
      obtain ⟨a, vs, rfl, f, rr⟩ := r1
      exact ⟨a, vs, rfl, .inr ⟨by rw [ok.K]; exact f.sq, w ρ (.ref a) H (Go.refl _ _) c ⟨a, vs, rfl, f, rr⟩⟩⟩
    | _ => exact lists w
  | [], _, w => exact absurd w id
  | _ :: _ :: _, _, w => exact absurd w id
theorem b_list {m : Bool} (ok : Okx g X) : CallR X (.type "list") (rN g E (v1 (vList m))) := ckey call_list_of fun xs H Q ⟨κ, ρ, h, ds, c, r, w⟩ => by
  match ds, r, w with
  | [d], r, w =>
    obtain ⟨x, rfl, r1⟩ := one_of r
    have w : Wp g E κ ρ H (match seqOf h d with
      | some xs => mk m xs h
      | none => .bad) Q := w
    split at w
    · rename_i xs es
      obtain ⟨a, vs, rfl, hq, rr⟩ := seqOf_ok c r1 es
      exact ⟨a, vs, rfl, by rw [ok.K]; exact hq, wp_mk c rr w⟩
    · exact absurd w id
  | [], _, w => exact absurd w id
  | _ :: _ :: _, _, w => exact absurd w id
theorem ints_of (c : CS g κ ρ h H) {d : D} {x : V} {ns : List Int} (r : Rep g.K κ ρ H d x) (e : (lstOf h d).bind intsOf = some ns) : ∃ a, x = .ref a ∧ SqL g.K H a (ns.map V.int) := by
  obtain ⟨ds, e1, e2⟩ := Option.bind_eq_some_iff.mp e
  obtain ⟨a, vs, rfl, hq, rr⟩ := lstOf_ok c r e1
  rw [ints_rep rr e2] at hq
  exact ⟨a, rfl, hq⟩
def rSumA (K : PySem.W.Frag) : List V → Hp → VK → Prop := fun vs H Q => ∃ (a : Addr) (ns : List Int), vs = [V.ref a] ∧ (SqL K H a (ns.map V.int) ∨ SqT K H a (ns.map V.int)) ∧ Q (.int ns.sum) H
theorem cr_sumA (hc : X.calm = true) : CallR X (.builtin "sum") (rSumA X.K) := by
  rintro pins s σ H vs us Q I r ⟨a, ns, rfl, hs | hs, q⟩
  · exact cr_sum hc pins s σ H _ us Q I r ⟨a, ns, rfl, hs, q⟩
  · obtain ⟨its, rv, hl, _⟩ := I.tuple hs
    rw [Vals.ref1 r]
    have pT : s.heap.IsTuple a its.toArray := hl
    have hi := rv.ints
    obtain ⟨xs, e⟩ := hi.allInts.items
    have hn : numsOf (intItems xs).toList = ns := by rw [← e]; exact hi.numsOf
    rw [nums_intItems] at hn
    rw [e] at pT
    refine PySem.W.ktm_sumG (I.ok.hd hc) pT fun h' tk t' hk => ?_
    rw [preSum_eq, List.take_of_length_le (by simp), hn]
    exact ⟨.int _, H, I.kept hk, ⟨_, rfl⟩, q⟩
theorem b_sum (ok : Okx g X) : CallR X (.builtin "sum") (rN g E (v1 vSum)) := ckey (cr_sumA ok.calm) fun xs H Q ⟨κ, ρ, h, ds, c, r, w⟩ => by
  match ds, r, w with
  | [d], r, w =>
    obtain ⟨x, rfl, r1⟩ := one_of r
    have w : Wp g E κ ρ H (match (seqOf h d).bind intsOf with
      | some ns => .ok (.int ns.sum) h
      | none => .bad) Q := w
    split at w
    · rename_i ns es
      obtain ⟨ds, e1, e2⟩ := Option.bind_eq_some_iff.mp es
      obtain ⟨a, vs, rfl, hq, rr⟩ := seqOf_ok c r1 e1
      rw [ints_rep rr e2] at hq
      exact ⟨a, ns, rfl, by rw [ok.K]; exact hq, wp_int c w⟩
    · exact absurd w id
  | [], _, w => exact absurd w id
  | _ :: _ :: _, _, w => exact absurd w id
theorem vMax_is : ∀ (r : List Int) (a : Int), vMax a r ∈ a :: r ∧ ∀ y ∈ a :: r, y ≤ vMax a r
  | [], a => by simp [vMax]
  | b :: r, a => by
    obtain ⟨h1, h2⟩ := vMax_is r (if b > a then b else a)
    unfold vMax
    generalize vMax (if b > a then b else a) r = t at h1 h2 ⊢
    refine ⟨?_, fun y hy => ?_⟩
    · rcases List.mem_cons.mp h1 with z | z
      · rw [z]; split <;> simp
      · exact List.mem_cons_of_mem _ (List.mem_cons_of_mem _ z)
    · have h3 := h2 _ List.mem_cons_self
      rcases List.mem_cons.mp hy with z | z
      · subst z; split at h3 <;> omega
      · rcases List.mem_cons.mp z with z | z
        · subst z; split at h3 <;> omega
        · exact h2 y (List.mem_cons_of_mem _ z)
theorem vMin_is : ∀ (r : List Int) (a : Int), vMin a r ∈ a :: r ∧ ∀ y ∈ a :: r, vMin a r ≤ y
  | [], a => by simp [vMin]
  | b :: r, a => by
    obtain ⟨h1, h2⟩ := vMin_is r (if b < a then b else a)
    unfold vMin
    generalize vMin (if b < a then b else a) r = t at h1 h2 ⊢
    refine ⟨?_, fun y hy => ?_⟩
    · rcases List.mem_cons.mp h1 with z | z
      · rw [z]; split <;> simp
      · exact List.mem_cons_of_mem _ (List.mem_cons_of_mem _ z)
    · have h3 := h2 _ List.mem_cons_self
      rcases List.mem_cons.mp hy with z | z
      · subst z; split at h3 <;> omega
      · rcases List.mem_cons.mp z with z | z
        · subst z; split at h3 <;> omega
        · exact h2 y (List.mem_cons_of_mem _ z)
theorem ints_reads {hp : Heap} : ∀ {us : List Value} {ns : List Int}, PyProof.Rows.IntsAre us ns → ReadsAll hp us (ns.map PyData.int) []
  | _, _, .nil => .nil
  | _, _, .cons _ _ t => ReadsAll.cons (as := []) (bs := []) (.int _ _) (ints_reads t)
theorem depth_ints : ∀ ns : List Int, PyData.depthAll (ns.map PyData.int) = 0
  | [] => rfl
  | n :: ns => by
    show max 0 (PyData.depthAll (ns.map PyData.int)) = 0
    rw [depth_ints ns]; rfl
theorem foldl_max : ∀ (ns : List Int) (n : Int), ns.foldl max n ∈ n :: ns ∧ ∀ y ∈ n :: ns, y ≤ ns.foldl max n
  | [], n => by simp
  | b :: r, n => by
    obtain ⟨h1, h2⟩ := foldl_max r (max n b)
    rw [List.foldl_cons]
    generalize r.foldl max (max n b) = t at h1 h2 ⊢
    refine ⟨?_, fun y hy => ?_⟩
    · rcases List.mem_cons.mp h1 with z | z
      · by_cases c : n ≤ b
        · have : t = b := by omega
          simp [this]
        · have : t = n := by omega
          simp [this]
      · exact List.mem_cons_of_mem _ (List.mem_cons_of_mem _ z)
    · have h3 := h2 _ List.mem_cons_self
      rcases List.mem_cons.mp hy with z | z
      · omega
      · rcases List.mem_cons.mp z with z | z
        · omega
        · exact h2 y (List.mem_cons_of_mem _ z)
def rMaxA (K : PySem.W.Frag) : List V → Hp → VK → Prop := fun vs H Q => ∃ (a : Addr) (ns : List Int), vs = [V.ref a] ∧ (SqL K H a (ns.map V.int) ∨ SqT K H a (ns.map V.int)) ∧ 0 < ns.length ∧ ∀ m, m ∈ ns → (∀ y, y ∈ ns → y ≤ m) → Q (.int m) H
theorem cr_maxA (hc : X.calm = true) (hu : X.A.units + 1 < cLine) : CallR X (.builtin "max") (rMaxA X.K) := by
  rintro pins s σ H vs us Q I r ⟨a, ns, rfl, hs | hs, hne, q⟩
  · exact cr_max hc pins s σ H _ us Q I r ⟨a, ns, rfl, hs, hne, q⟩
  · obtain ⟨its, rv, hl, _⟩ := I.tuple hs
    rw [Vals.ref1 r]
    have pT : s.heap.IsTuple a its.toArray := hl
    have hi := rv.ints
    cases ns with
    | nil => simp at hne
    | cons n ns =>
      have rd : ReadsAll s.heap its.toArray.toList (PyData.int n :: ns.map PyData.int) [] := ints_reads hi
      refine PySem.W.max_tuple_data (I.ok.hd hc) pT rd ⟨fun x hx y hy => ?_, fun x hx => ?_⟩ ?_ fun j v h' tk bs hv rr hk => ?_
      · obtain ⟨i, _, rfl⟩ := List.mem_map.mp (show x ∈ (n :: ns).map PyData.int from hx)
        obtain ⟨k, _, rfl⟩ := List.mem_map.mp (show y ∈ (n :: ns).map PyData.int from hy)
        rfl
      · obtain ⟨i, _, rfl⟩ := List.mem_map.mp (show x ∈ (n :: ns).map PyData.int from hx)
        exact fun e => nomatch e
      · rw [show PyData.depthAll (PyData.int n :: ns.map PyData.int) = 0 from depth_ints (n :: ns)]
        exact hu
      · rw [PySem.W.maxD_ints] at rr
        obtain ⟨h1, h2⟩ := foldl_max ns n
        cases rr
        exact ⟨.int _, H, I.kept hk, ⟨_, rfl⟩, q _ h1 h2⟩
theorem b_max (ok : Okx g X) : CallR X (.builtin "max") (rN g E vMaxD) := ckey (CallR.or (call_max2 ok.calm) (cr_maxA ok.calm (by have := ok.u; omega))) fun xs H Q ⟨κ, ρ, h, ds, c, r, w⟩ => by
  unfold vMaxD at w
  split at w
  · rename_i i j
    obtain ⟨x, y, rfl, r1, r2⟩ := two_of r
    have r1 : x = .int i := r1
    have r2 : y = .int j := r2
    subst r1 r2
    exact .inl ⟨i, j, rfl, wp_int c w⟩
  · rename_i d
    obtain ⟨x, rfl, r1⟩ := one_of r
    split at w
    · rename_i a rr es
      obtain ⟨p, rfl, hq⟩ := ints_of c r1 es
      obtain ⟨z1, z2⟩ := vMax_is rr a
      refine .inr ⟨p, a :: rr, rfl, by rw [ok.K]; exact .inl hq, by simp, fun m hm hy => ?_⟩
      have e : m = vMax a rr := Int.le_antisymm (z2 m hm) (hy _ z1)
      rw [e]; exact wp_int c w
    · unfold vMaxI at w
      split at w
      · rename_i ds hnot
        split at w
        · rename_i a rr es
          obtain ⟨p, vs, rfl, hq, rr2⟩ := seqOf_ok c r1 (show seqOf h (.tup ds) = some ds from rfl)
          rw [ints_rep rr2 es] at hq
          obtain ⟨z1, z2⟩ := vMax_is rr a
          refine .inr ⟨p, a :: rr, rfl, by rw [ok.K]; exact hq, by simp, fun m hm hy => ?_⟩
          have e : m = vMax a rr := Int.le_antisymm (z2 m hm) (hy _ z1)
          rw [e]; exact wp_int c w
        · exact absurd w id
      · exact absurd w id
  · exact absurd w id
theorem b_abs : CallR X (.builtin "abs") (rN g E (v1 vAbs)) := ckey call_abs fun xs H Q ⟨κ, ρ, h, ds, c, r, w⟩ => by
  match ds, r, w with
  | [.int i], r, w =>
    obtain ⟨x, rfl, r1⟩ := one_of r
    have r1 : x = .int i := r1
    subst r1
    exact ⟨i, rfl, wp_int c w⟩
  | [.non], _, w => exact absurd w id
  | [.bl _], _, w => exact absurd w id
  | [.str _], _, w => exact absurd w id
  | [.tup _], _, w => exact absurd w id
  | [.pr _], _, w => exact absurd w id
  | [.fl _], _, w => exact absurd w id
  | [.rl _], _, w => exact absurd w id
  | [.ml _], _, w => exact absurd w id
  | [.md _], _, w => exact absurd w id
  | [], _, w => exact absurd w id
  | _ :: _ :: _, _, w => exact absurd w id
theorem b_int : CallR X (.type "int") (rN g E (v1 vInt)) := ckey call_int1 fun xs H Q ⟨κ, ρ, h, ds, c, r, w⟩ => by
  match ds, r, w with
  | [.int i], r, w =>
    obtain ⟨x, rfl, r1⟩ := one_of r
    have r1 : x = .int i := r1
    subst r1
    exact .inl ⟨i, rfl, wp_int c w⟩
  | [.bl i], r, w =>
    obtain ⟨x, rfl, r1⟩ := one_of r
    have r1 : x = .bl i := r1
    subst r1
    exact .inr ⟨i, rfl, wp_int c w⟩
  | [.non], _, w => exact absurd w id
  | [.str _], _, w => exact absurd w id
  | [.tup _], _, w => exact absurd w id
  | [.pr _], _, w => exact absurd w id
  | [.fl _], _, w => exact absurd w id
  | [.rl _], _, w => exact absurd w id
  | [.ml _], _, w => exact absurd w id
  | [.md _], _, w => exact absurd w id
  | [], _, w => exact absurd w id
  | _ :: _ :: _, _, w => exact absurd w id
end
end Q
end
section
namespace Q
open PySem PySem.Spec PyProof.Rows L2
/-! ## a tuple, turned -/
section
variable {pr : Program} {w : World} {A : Around} {E : Value → Shared → Prop} {s : Shared}
theorem places_rev (n : Nat) : Builtin.Slice.slicePlaces ((n : Int) - 1) (-1) (-1) = n := by
  unfold Builtin.Slice.slicePlaces
  rw [if_neg (by decide)]
  by_cases h : (0 : Nat) < n
  · rw [if_pos (by omega)]
    simp
  · have : n = 0 := by omega
    subst this
    rfl
theorem applied_rev {sl : Addr} {vl vu vs : Value} {n : Nat} {Q : Int × Int × Nat → Shared → Prop} (hs : s.heap.IsSliceOf sl vl vu vs) (pl : IsPart vl none) (pu : IsPart vu none) (ps : IsPart vs (some (-1)))
    (h : Q ((n : Int) - 1, -1, n) s) : wpAny (model pr w) A (Builtin.Slice.sliceApplied (.ref sl) (pure (n : Int))) Q E s := by
  obtain ⟨os, hos, hcs, hds⟩ := id hs
  unfold Builtin.Slice.sliceApplied Builtin.Slice.sliceFields
  refine wpAny_bind (wpAny_bind (wpAny_field hos hds (x := vl) rfl (wpAny_bind (wpAny_field hos hds (x := vu) rfl (wpAny_bind (wpAny_field hos hds (x := vs) rfl (wpAny_pure ?_)))))))
  refine wpAny_bind (HT.slicePart_ ps ?_)
  show wpAny _ _ (if ((-1 : Int) == 0) = true then _ else _) _ _ s
  rw [if_neg (by decide)]
  refine wpAny_bind (HT.slicePart_ pl (wpAny_bind (HT.slicePart_ pu (wpAny_bind (wpAny_pure ?_)))))
  show wpAny _ _ (pure ((n : Int) - 1, (-1 : Int), Builtin.Slice.slicePlaces ((n : Int) - 1) (-1) (-1))) _ _ s
  rw [places_rev]
  exact wpAny_pure h
theorem fm_map {α β : Type} {f : α → Option β} {k : α → β} : ∀ {l : List α}, (∀ m ∈ l, f m = some (k m)) → l.filterMap f = l.map k
  | [], _ => rfl
  | a :: l, h => by
    rw [List.filterMap_cons, h a (List.mem_cons_self ..), List.map_cons]
    exact congrArg _ (fm_map fun m hm => h m (List.mem_cons_of_mem _ hm))
theorem pick_rev (xs : Array Value) : ((List.range xs.size).filterMap fun (m : Nat) => xs[(((xs.size : Int) - 1) + (m : Int) * (-1)).toNat]?).toArray = xs.toList.reverse.toArray := by
  have : ((List.range xs.size).filterMap fun (m : Nat) => xs[(((xs.size : Int) - 1) + (m : Int) * (-1)).toNat]?) = xs.toList.reverse := by
    apply List.ext_getElem?
    intro i
    have e : (List.range xs.size).filterMap (fun (m : Nat) => xs[(((xs.size : Int) - 1) + (m : Int) * (-1)).toNat]?) = (List.range xs.size).map fun m => xs.toList.getD (xs.size - 1 - m) .none := by
      apply fm_map
      intro m hm
      have hm := List.mem_range.mp hm
      have e1 : (((xs.size : Int) - 1) + (m : Int) * (-1)).toNat = xs.size - 1 - m := by omega
      rw [e1]
      have hl : xs.size - 1 - m < xs.size := by omega
      simp [hl]
    rw [e]
    by_cases hi : i < xs.size
    · rw [List.getElem?_map, List.getElem?_range hi, List.getElem?_reverse (by simpa using hi)]
      have hl : xs.size - 1 - i < xs.size := by omega
      simp [hl]
    · rw [List.getElem?_eq_none (by simpa using hi), List.getElem?_eq_none (by simpa using hi)]
  rw [this]
theorem item_rev {t sl : Addr} {items : Array Value} {vl vu vs : Value} {Q : Value → Shared → Prop} (ht : IsTup s.heap t items) (hs : s.heap.IsSliceOf sl vl vu vs) (pl : IsPart vl none) (pu : IsPart vu none) (ps : IsPart vs (some (-1)))
    (h : Q (.ref s.heap.objs.size) { s with heap := s.heap.push { cls := .type "tuple", data := .seq items.toList.reverse.toArray } })
    (hsz : items.size ≤ sizeLine) : wpAny (model pr w) A (getItem (.ref t) (.ref sl)) Q E s := by
  have hfit : sizeOk (.seq items.toList.reverse.toArray) := by
    show items.toList.reverse.toArray.size ≤ sizeLine
    simpa using hsz
  obtain ⟨os, hos, hcs, hds⟩ := id hs
  have tS : s.TypeIs (.ref sl) "slice" := ⟨os, hos, hcs⟩
  unfold getItem
  try with_reducible refine wpAny_holding ?_
  first | refine wpAny_bind (wpAny_pure ?_) | skip
  refine wpAny_bind (wpAny_sequenceKey ht.typeIs (by decide) ?_)
  refine wpAny_bind (wpAny_callSpecial?_slot (name := Str.ofString "__getitem__") ht.typeIs PyProof.Rows.slot_tuple_getitem (wpAny_call_entry PyProof.Rows.slot_tuple_getitem ht.typeIs entry_tuple_getitem ?_ (args_tuple_getitem _ _)))
  show wpAny _ _ (Builtin.Tuple.tupleItemsOf (.ref t) >>= _) _ _ s
  refine wpAny_bind (tupleItemsOf_ ht ?_)
  refine wpAny_bind (wpAny_typeOf tS ?_)
  rw [if_pos (by decide)]
  refine wpAny_bind (applied_rev hs pl pu ps ?_)
  have hno : ¬ ((((items.size : Int) - 1) == 0 && (-1 : Int) == 1 && items.size == items.size) = true) := by
    rw [show ((-1 : Int) == 1) = false from rfl, Bool.and_false, Bool.false_and]
    exact Bool.false_ne_true
  show wpAny _ _ (if (((items.size : Int) - 1) == 0 && (-1 : Int) == 1 && items.size == items.size) = true then _ else _) _ _ s
  rw [if_neg hno, pick_rev]
  first
    | exact wpAny_bind (m := Builtin.Tuple.tupleExact _) (wpAny_newObj_type (wpAny_pure ⟨_, rfl, wpAny_pure h⟩) hfit)
    | exact wpAny_bind (m := Builtin.Tuple.tupleExact _) (wpAny_newObj_type (wpAny_bind (wpAny_pure (wpAny_pure ⟨_, rfl, wpAny_pure h⟩))) hfit)
end
section
variable {g : G} {E : XK} {κ ρ : List Addr} {H : Hp} {h : Hh} {X : Cx}
def tRevT (K : PySem.W.Frag) (te : TE) : TE := fun σ H Q => te σ H fun x H1 => ∃ a xs, x = .ref a ∧ ((SqL K H1 a xs ∧ ∀ p, H1 p = none → Q (.ref p) (upd H1 p (.lst xs.reverse))) ∨ (SqT K H1 a xs ∧ NewT H1 Q xs.reverse))
theorem pe_revA {e : Expr} {te : TE} {k : Nat} {p1 p2 p3 pos : Pos} (he : PE X e te) : PE X (.Subscript e (.Slice none none (some (.UnaryOp .USub (.Constant (.int 1) k p1) p2)) p3) pos) (tRevT X.K te) := by
  refine ⟨fun pins s σ H Q I hq => ?_⟩
  refine Subscript_ (thn (he.run pins s σ H _ I hq) fun v s1 ⟨x, H1, I1, r1, a, xs, ex, q⟩ => ?_)
  subst ex
  cases r1
  have st : PO X (some (.UnaryOp .USub (.Constant (.int 1) k p1) p2)) (tPart (tUn (rU fun i => .int (-i)) (tC (.int 1)))) := po_some (pe_un un_neg pe_int)
  refine wpAny_Slice (thn (po_none.run pins s1 σ H1 (fun o H2 => o = none ∧ H2 = H1) I1 ⟨rfl, rfl⟩) fun vl s2 ⟨l, H2, I2, pl, el, e2⟩ => ?_)
  subst el e2
  refine thn (po_none.run pins s2 σ H2 (fun o H3 => o = none ∧ H3 = H2) I2 ⟨rfl, rfl⟩) fun vu s3 ⟨u, H3, I3, pu, eu, e3⟩ => ?_
  subst eu e3
  refine thn (st.run pins s3 σ H3 (fun o H4 => o = some (-1) ∧ H4 = H3) I3 ⟨1, rfl, -1, rfl, rfl, rfl⟩) fun vs s4 ⟨o, H4, I4, ps, eo, e4⟩ => ?_
  subst eo e4
  have I5 : Inv X pins σ H4 { s4 with heap := s4.heap.push { cls := .type "slice", data := .fields #[vl, vu, vs] } } := I4.kept (t' := s4.toks) fun b ob q => Heap.get?_push_of_some _ q
  have sl := Heap.IsSliceOf.new s4.heap vl vu vs
  show wpAny (model X.prog X.w) X.A (subscriptTail e (.Slice none none (some (.UnaryOp .USub (.Constant (.int 1) k p1) p2)) p3) (.ref a) (.ref s4.heap.objs.size)) (EP X pins σ Q) X.xe { s4 with heap := s4.heap.push { cls := .type "slice", data := .fields #[vl, vu, vs] } }
  rcases q with ⟨hx, q⟩ | ⟨hx, q⟩
  · obtain ⟨its, r, ht, hz⟩ := I5.list hx
    have hlen := r.length
    refine tail_any (ops := [.ref a, .ref s4.heap.objs.size]) ht.isList.typeIs (PySem.slot_list_getitem.lookup) ?_ (by with_unfolding_all rfl)
    refine wpAny_getItem_list_slice ht.isList sl pl pu ps (by decide) ?_ (by rw [List.size_toArray]; omega)
    rw [PySem.W.krv_pick]
    exact ⟨.ref _, _, I5.laid (t' := s4.toks) (o := .lst xs.reverse) (fun b ob q => Heap.get?_push_of_some _ q) (Nat.le_refl _) ⟨by rw [List.length_reverse]; exact hz, _, 0, r.reverse, Heap.get?_push_size _ rfl⟩, rfl, q _ (I5.hok.fresh (Nat.le_refl _))⟩
  · obtain ⟨its, r, ht, hz⟩ := I5.tuple hx
    have hlen := r.length
    have pT : IsTup (s4.heap.push { cls := .type "slice", data := .fields #[vl, vu, vs] }) a its.toArray := ht
    refine tail_any (ops := [.ref a, .ref s4.heap.objs.size]) ht.typeIs (PyProof.Rows.slot_tuple_getitem.lookup) ?_ (by with_unfolding_all rfl)
    refine item_rev pT sl pl pu ps ?_ (by rw [List.size_toArray]; omega)
    exact ep_tup (its := its.reverse) I5 r.reverse (by rw [List.length_reverse]; exact hz) q
theorem p_revA {m : Bool} {e : Expr} {k : Nat} {p1 p2 p3 pos : Pos} {fa : DE} (ok : Okx g X) (ha : PE X e (RE g E fa)) : PE X (.Subscript e (.Slice none none (some (.UnaryOp .USub (.Constant (.int 1) k p1) p2)) p3) pos) (RE g E (d1 (vRev m) fa)) :=
  PE.imp (pe_revA ha) fun σ H Q w => by
    obtain ⟨κ, ρ, env, h, S, w⟩ := tUn_of w
    refine ⟨κ, ρ, env, h, S, ?_⟩
    revert w
    cases fa env h with
    | bad => exact id
    | ex x h' => exact id
    | ok d h1 =>
      intro w ρ1 x H1 k1 c1 q1
      obtain ⟨κ', ρ', h', d', c', r', w'⟩ := w ρ1 x H1 k1 c1 q1
      have lists : Wp g E κ' ρ' H1 (match lstOf h' d' with
        | some ds => mk m ds.reverse h'
        | none => .bad) Q → ∃ a xs, x = .ref a ∧ ((SqL X.K H1 a xs ∧ ∀ p, H1 p = none → Q (.ref p) (upd H1 p (.lst xs.reverse))) ∨ (SqT X.K H1 a xs ∧ NewT H1 Q xs.reverse)) := fun w' => by
        split at w'
        · rename_i ds es
          obtain ⟨a, vs, rfl, hq, rr⟩ := lstOf_ok c' r' es
          exact ⟨a, vs, rfl, .inl ⟨by rw [ok.K]; exact hq, wp_mk c' rr.rev w'⟩⟩
        · exact absurd w' id
      cases d' with
      | tup ds =>
        obtain ⟨a, vs, rfl, f, rr⟩ := r'
        exact ⟨a, vs, rfl, .inr ⟨by rw [ok.K]; exact f.sq, wp_tup c' rr.rev w'⟩⟩
      | _ => exact lists w'
end
end Q
end
section
namespace Q
open PySem PySem.Spec L2 PySem.W PyProof.Rows PySem.Calls
section
variable {prog : Program} {w : World} {A : Around} {E : Value → Shared → Prop} {s : Shared}
/-- the call of tuple's own __lt__, as sorting makes it -/
theorem call_tuple_ltA {Q : Value → Shared → Prop} {l b : Addr} {items items2 : Array Value} {e r : Nat → Bool} (hl : s.heap.IsTuple l items) (hb : s.heap.IsTuple b items2)
    (he : ∀ j (h1 : j < items.size) (h2 : j < items2.size), SeqAt.EqAt A.in1 s items[j] items2[j] (e j)) (hr : ∀ j (h1 : j < items.size) (h2 : j < items2.size), e j = false → SeqAt.RcLt A.in1 s items[j] items2[j] (r j))
    (h : Q (.bool (SeqAt.firstLt e r (decide (items.size < items2.size)) (List.range (min items.size items2.size)))) s) : wpAny (model prog w) A (call (.builtin "tuple.__lt__") [.ref l, .ref b]) Q E s := by
  obtain ⟨⟨cls, dd, data, sl⟩, ho, hc, n, hd⟩ := id hl
  obtain ⟨⟨cls2, dd2, data2, sl2⟩, ho2, hc2, n2, hd2⟩ := id hb
  simp only at hc hd hc2 hd2
  subst hc hd hc2 hd2
  exact call_meets PySem.F.slot_tuple_lt ⟨_, ho, rfl⟩ PySem.F.entry_tuple_lt (PySem.F.args_tuple_lt_2 _ _) (SeqAt.tuple_ltAt l b items items2 n n2 dd dd2 sl sl2 e r) ⟨ho, ho2, he, hr, h⟩
theorem oneLt_tuples {xs ys : List PyData} {a b : Value} {as bs : List Addr} {Q : Bool → Shared → Prop} (ra : Reads s.heap a (.tuple xs) as) (rb : Reads s.heap b (.tuple ys) bs) (h : alike (.tuple xs) (.tuple ys) = true)
    (hu : A.units + min (PyData.tuple xs).depth (PyData.tuple ys).depth < cLine) (hq : Q (dataLt (.tuple xs) (.tuple ys)) s) : wpAny (model prog w) A (oneLt' true a b) Q E s := by
  have hal : alikeAll xs ys = true := by simpa [alike] using h
  cases ra with
  | @tuple l o vs n _ as₁ h1 h2 h3 h4 =>
    cases rb with
    | @tuple l' o' vs' n' _ bs₁ k1 k2 k3 k4 =>
      have n1 : vs.size = xs.length := by simpa using SeqAt.ReadsAll.length _ _ _ h4
      have n2 : vs'.size = ys.length := by simpa using SeqAt.ReadsAll.length _ _ _ k4
      rw [dataLt_tuple, ← firstLt_toks xs ys hal, ← n1, ← n2] at hq
      rw [oneLt'_eq]
      simp only [if_true]
      refine wpAny_bind (wpAny_cRoomFor (SeqAt.room_here hu) ?_)
      refine wpAny_bind (wpAny_callSpecialIfBound?_slot (T := "tuple") ⟨_, h1, h2⟩ PySem.F.slot_tuple_lt (call_tuple_ltA (e := SeqAt.pairEq xs ys) (r := fun j => dataLt (xs.getD j .none) (ys.getD j .none)) ⟨_, h1, h2, _, h3⟩ ⟨_, k1, k2, _, k3⟩ (fun j j1 j2 => ?_) (fun j j1 j2 hj => ?_) ?_))
      · have := eqAt_alikeAll xs ys A.in1 s vs.toList vs'.toList _ _ h4 k4 hal (SeqAt.room_in hu) j (by simpa using j1) (by simpa using j2)
        simpa using this
      · have := rcLt_alikeAll xs ys A.in1 s vs.toList vs'.toList _ _ h4 k4 hal (SeqAt.room_in hu) j (by simpa using j1) (by simpa using j2) hj
        simpa using this
      · exact wpAny_truthy_bool hq
def full : PyData → Bool
  | .tuple (_ :: _) => true
  | _ => false
theorem any_firsts {M : Model} : ∀ {vs : List Value} {ds : List PyData}, EachIs (fun v d => ∃ as, Reads s.heap v d as) vs ds → (∀ d, d ∈ ds → ∃ xs, d = .tuple xs) →
    ∃ fs : List (Option Value), fs.map Option.isSome = ds.map full ∧ ∀ {Q : List (Option Value) → Shared → Prop}, Q fs s → wpAny M A (vs.mapM firstOfTuple') Q E s
  | _, _, .nil, _ => ⟨[], rfl, fun h => by rw [List.mapM_nil]; exact wpAny_pure h⟩
  | _, _, .cons (a := v) (b := d) ⟨as, r⟩ t, ht => by
    obtain ⟨fs, h1, h2⟩ := any_firsts t fun d hd => ht d (List.mem_cons_of_mem _ hd)
    obtain ⟨xs, rfl⟩ := ht _ (List.mem_cons_self ..)
    cases r with
    | @tuple a o its n _ _ ho hc hd hr =>
      have hl := SeqAt.ReadsAll.length _ _ _ hr
      refine ⟨its[0]? :: fs, ?_, fun {Q} hq => ?_⟩
      · rw [List.map_cons, List.map_cons, h1]
        congr 1
        cases xs with
        | nil =>
          have : its.size = 0 := by simpa using hl
          rw [Array.getElem?_eq_none (by omega)]; rfl
        | cons x r =>
          have : 0 < its.size := by have : its.size = r.length + 1 := by simpa using hl
                                    omega
          rw [Array.getElem?_eq_getElem this]; rfl
      · rw [List.mapM_cons]
        refine wpAny_bind ?_
        rw [kas_first_eq]
        refine wpAny_bind ((looks_reads (M := M) (Reads.tuple ho hc hd hr)).here ?_)
        rw [if_neg (by simp [dataType])]
        refine wpAny_bind (listItems_at ho hd (wpAny_pure ?_))
        exact wpAny_bind (h2 (wpAny_pure hq))
theorem keyLt'_general (x y : Value) : keyLt' general' x y = oneLt' false x y := rfl
theorem kind_tups {M : Model} {vs : List Value} {ds : List PyData} {Q : SortKind → Shared → Prop} (e : EachIs (fun v d => ∃ as, Reads s.heap v d as) vs ds) (ht : ∀ d, d ∈ ds → ∃ xs, d = .tuple xs) (hn : ¬ ds.all full = true) (h2 : 2 ≤ vs.length)
    (h : (∀ d r, ds = d :: r → full d = true) ∧ Q general' s ∨ (∀ d r, ds = d :: r → full d = false) ∧ Q oneType' s) : wpAny M A (keyKind' vs.toArray) Q E s := by
  obtain ⟨fs, h1, hf⟩ := any_firsts (M := M) (A := A) (E := E) e ht
  rw [kat_kind_eq, List.mapM_toArray, map_eq_pure_bind]
  refine wpAny_bind (wpAny_bind (hf (wpAny_pure ?_)))
  have hall : ¬ ((fs.toArray.all fun x => x.isSome) = true) := by
    intro z
    apply hn
    rw [List.all_toArray] at z
    have z' : (fs.map Option.isSome).all id = true := by simpa [List.all_map] using z
    rw [h1] at z'
    simpa [List.all_map] using z'
  rw [if_neg hall]
  cases e with
  | nil => simp at h2
  | @cons v d vs ds r0 t =>
    cases fs with
    | nil => simp at h1
    | cons f fr =>
      have hfd : f.isSome = full d := by simpa using (List.cons.inj h1).1
      have e0 : ((f :: fr).toArray[0]?.bind id) = f := by simp
      rw [e0]
      rcases h with ⟨ha, hq⟩ | ⟨ha, hq⟩
      · rw [if_pos (by rw [hfd]; exact ha d ds rfl)]
        exact wpAny_pure hq
      · rw [if_neg (by rw [hfd, ha d ds rfl]; exact Bool.false_ne_true)]
        rw [oneTypeOnly'_eq, List.mapM_toArray, map_eq_pure_bind]
        have tt : ∀ u ∈ v :: vs, ∀ {Q' : Value → Shared → Prop}, Q' (Value.type "tuple") s → wpAny M A (typeOf u) Q' E s := fun u hu Q' hq' => by
          obtain ⟨dd, hd, as, rr⟩ := (EachIs.cons r0 t).left u hu
          obtain ⟨xs, rfl⟩ := ht dd hd
          exact (looks_reads (M := M) rr).here hq'
        refine wpAny_bind (wpAny_bind (wpAny_bind (kas_mapM (r := Value.type "tuple") _ (fun u hu Q' hq' => tt u hu hq') (wpAny_pure ?_))))
        have hall2 : ((List.map (fun _ => Value.type "tuple") (v :: vs)).toArray.all fun x => x == Value.type "tuple") = true := by
          simp only [List.all_toArray, List.all_map, List.all_eq_true]
          intro _ _
          rfl
        have h0 : (List.map (fun _ => Value.type "tuple") (v :: vs)).toArray[0]? = some (Value.type "tuple") := by simp
        rw [h0]
        simp only [hall2, if_true]
        exact wpAny_pure (wpAny_pure hq)
/-- tuples, some of them empty -/
theorem sorts_tups {vs : List Value} {ds : List PyData} (e : EachIs (fun v d => ∃ as, Reads s.heap v d as) vs ds) (hal : AllAlike ds) (ht : ∀ d, d ∈ ds → ∃ xs, d = .tuple xs) (hu : ∀ d, d ∈ ds → A.units + d.depth < cLine) : SortsAt prog w A s (dataKind s.heap ds) vs := by
  by_cases hf : ds.all full = true
  · exact SortsAt.data e hal (.inl fun d hd => by
      have := List.all_eq_true.mp hf d hd
      obtain ⟨xs, rfl⟩ := ht d hd
      cases xs with
      | nil => cases this
      | cons x r => exact ⟨x, r, rfl⟩) hu
  · have room : ∀ {d d' : PyData}, d ∈ ds → A.units + min d.depth d'.depth < cLine := fun {d d'} hd => Nat.lt_of_le_of_lt (Nat.add_le_add_left (Nat.min_le_left _ _) _) (hu d hd)
    have ne : ∀ d, d ∈ ds → d ≠ .none := fun d hd => by
      obtain ⟨xs, rfl⟩ := ht d hd
      exact fun z => by cases z
    refine ⟨fun v hv => ?_, ?_⟩
    · obtain ⟨d, hd, as, r⟩ := e.left v hv
      exact ⟨_, dataKind_some hal hd r⟩
    · by_cases h0 : ∀ d r, ds = d :: r → full d = true
      · refine ⟨general', fun E x y a b Q ha hb hq => ?_, fun h2 E Q hq => kind_tups e ht hf h2 (.inl ⟨h0, hq⟩)⟩
        obtain ⟨d, as, hd, ra, rfl⟩ := dataKind_inv ha
        obtain ⟨d', as', hd', rb, rfl⟩ := dataKind_inv hb
        rw [keyLt'_general]
        exact oneLt_alike (fun z => by cases z) ra rb (hal d hd d' hd') (ne d hd) (room hd) hq
      · refine ⟨oneType', fun E x y a b Q ha hb hq => ?_, fun h2 E Q hq => kind_tups e ht hf h2 (.inr ⟨fun d r ed => ?_, hq⟩)⟩
        · obtain ⟨d, as, hd, ra, rfl⟩ := dataKind_inv ha
          obtain ⟨d', as', hd', rb, rfl⟩ := dataKind_inv hb
          have hdd := hal d hd d' hd'
          have hroom := room (d' := d') hd
          obtain ⟨xs, rfl⟩ := ht d hd
          obtain ⟨ys, rfl⟩ := ht d' hd'
          rw [keyLt'_oneType]
          exact oneLt_tuples ra rb hdd hroom hq
        · cases hfd : full d with
          | false => rfl
          | true =>
            exfalso
            apply h0
            intro d' r' ed'
            rw [ed] at ed'
            cases ed'
            exact hfd
end
/-! ## the sorted list by insertion -/
theorem same_nil : sames [] [] = true := by unfold sames; rfl
mutual
theorem same_eq : ∀ {a b : D}, same a b = true → a = b
  | .non, b, h => by cases b <;> first | rfl | (unfold same at h; cases h)
  | .bl x, b, h => by
    cases b with
    | bl y => unfold same at h; rw [eq_of_beq h]
    | _ => unfold same at h; cases h
  | .int x, b, h => by
    cases b with
    | int y => unfold same at h; rw [eq_of_beq h]
    | _ => unfold same at h; cases h
  | .str x, b, h => by
    cases b with
    | str y => unfold same at h; rw [eq_of_beq h]
    | _ => unfold same at h; cases h
  | .tup x, b, h => by
    cases b with
    | tup y => unfold same at h; rw [sames_eq h]
    | _ => unfold same at h; cases h
  | .pr x, b, h => by
    cases b with
    | pr y => unfold same at h; rw [sames_eq h]
    | _ => unfold same at h; cases h
  | .fl x, b, h => by
    cases b with
    | fl y => unfold same at h; rw [sames_eq h]
    | _ => unfold same at h; cases h
  | .rl x, b, h => by
    cases b with
    | rl y => unfold same at h; rw [sames_eq h]
    | _ => unfold same at h; cases h
  | .ml x, b, h => by
    cases b with
    | ml y => unfold same at h; rw [eq_of_beq h]
    | _ => unfold same at h; cases h
  | .md x, b, h => by
    cases b with
    | md y => unfold same at h; rw [eq_of_beq h]
    | _ => unfold same at h; cases h
  | .fn x, b, h => by
    cases b with
    | fn y => unfold same at h; rw [eq_of_beq h]
    | _ => unfold same at h; cases h
theorem sames_eq : ∀ {a b : List D}, sames a b = true → a = b
  | [], b, h => by
    cases b with
    | nil => rfl
    | cons y ys => unfold sames at h; cases h
  | x :: xs, b, h => by
    cases b with
    | nil => unfold sames at h; cases h
    | cons y ys =>
      unfold sames at h
      rw [Bool.and_eq_true] at h
      rw [same_eq h.1, sames_eq h.2]
end

theorem dle_trans {a b c : D} (h1 : dle a b = true) (h2 : dle b c = true) : dle a c = true := (sortLe_total (listOrd itemOrd) false fun b => keyToks (py b)).trans a b c h1 h2
theorem dle_total (a b : D) : (dle a b || dle b a) = true := Bool.or_eq_true_iff.mpr <| (sortLe_total (listOrd itemOrd) false fun b => keyToks (py b)).total a b
theorem insD_perm {x : D} : ∀ {l : List D}, (insD x l).Perm (x :: l)
  | [] => List.Perm.refl _
  | y :: r => by
    unfold insD
    split
    · exact List.Perm.refl _
    · exact (List.Perm.cons y insD_perm).trans (List.Perm.swap x y r)
theorem isrt_perm : ∀ l : List D, (isrt l).Perm l
  | [] => List.Perm.refl _
  | x :: l => insD_perm.trans (List.Perm.cons x (isrt_perm l))
/-- below, and equal only where they are the same -/
def DP (a b : D) : Prop := dle a b = true ∧ (dle b a = true → a = b)
theorem chain_pw : ∀ {l : List D}, okSrt l = true → l.Pairwise DP
  | [], _ => List.Pairwise.nil
  | [a], _ => List.pairwise_singleton _ _
  | a :: b :: r, h => by
    have h : ((dle a b && (!dle b a || same a b)) && okSrt (b :: r)) = true := h
    obtain ⟨h, h3⟩ := Bool.and_eq_true_iff.mp h
    obtain ⟨h1, h2⟩ := Bool.and_eq_true_iff.mp h
    have ih := chain_pw h3
    have adj : dle b a = true → a = b := fun z => by
      rw [z] at h2
      exact same_eq (by simpa using h2)
    refine List.pairwise_cons.mpr ⟨fun c hc => ?_, ih⟩
    rcases List.mem_cons.mp hc with e | hc
    · rw [e]; exact ⟨h1, adj⟩
    · obtain ⟨p1, p2⟩ := (List.pairwise_cons.mp ih).1 c hc
      refine ⟨dle_trans h1 p1, fun z => ?_⟩
      have e1 := p2 (dle_trans z h1)
      subst e1
      exact adj z
theorem pw_sorted_uniq : ∀ {l m : List D}, l.Pairwise DP → m.Pairwise (fun a b => dle a b = true) → l.Perm m → m = l
  | [], m, _, _, p => by simpa using p.symm.eq_nil
  | x :: l, [], _, _, p => by simpa using p.eq_nil
  | x :: l, y :: m, h1, h2, p => by
    obtain ⟨a1, a2⟩ := List.pairwise_cons.mp h1
    obtain ⟨b1, b2⟩ := List.pairwise_cons.mp h2
    have e : x = y := by
      rcases List.mem_cons.mp (p.mem_iff.mpr List.mem_cons_self : y ∈ x :: l) with z | z
      · exact z.symm
      · rcases List.mem_cons.mp (p.mem_iff.mp List.mem_cons_self : x ∈ y :: m) with w | w
        · exact w
        · exact (a1 y z).2 (b1 x w)
    subst e
    rw [pw_sorted_uniq a2 b2 p.cons_inv]
theorem mergeSort_isrt {l : List D} (h : okSrt (isrt l) = true) : l.mergeSort dle = isrt l :=
  pw_sorted_uniq (chain_pw h) (List.pairwise_mergeSort (le := dle) (fun a b c => dle_trans) dle_total l) ((isrt_perm l).trans (List.mergeSort_perm l dle).symm)
end Q
end
section
namespace Q
open PySem PySem.Spec L2 PySem.W PyProof.Rows
section
variable {g : G} {E : XK} {κ ρ : List Addr} {H : Hp} {h : Hh} {X : Cx}
/-! ## sorted, of what can be collected -/
theorem sort_call {prog : Program} {w : World} {A : Around} {E' : Value → Shared → Prop} {s : Shared} {l : Value} {vs : List Value} {bs : List D} {R : Value → D → Prop} {Q : Value → Shared → Prop}
    (ha1 : argsOk "sorted" ⟨[l], []⟩) (e : EachIs R vs bs) (hL : bs.length ≤ sizeLine) (hal : AllAlike (bs.map py)) (hk : (∀ d, d ∈ bs.map py → ∃ xs, d = .tuple xs) ∨ Sortable (bs.map py)) (hu : ∀ b, b ∈ bs → A.units + 2 + (py b).depth < cLine)
    (hcol : ∀ (A' : Around) (R' : List Value → Shared → Prop), A'.handled = A.handled → (∀ (h' : Heap) (tk : Nat), (∀ b o, s.heap.get? b = some o → h'.get? b = some o) → EachIs (fun v b => ∃ as, Reads h' v (py b) as) vs bs → R' vs { s with heap := h', toks := tk }) →
      wpAny (model prog w) A' (collect l) R' E' s)
    (fin : ∀ (h1 h' : Heap) (tk : Nat) (out : List Value) (c : Nat), (∀ b o, s.heap.get? b = some o → h1.get? b = some o) → (∀ b o, h1.get? b = some o → h'.get? b = some o) → h'.get? h1.objs.size = some (seqObj "list" out.toArray c) → EachIs R out (bs.mergeSort dle) →
      Q (.ref h1.objs.size) { s with heap := h', toks := tk }) : wpAny (model prog w) A (call (.builtin "sorted") [l]) Q E' s := by
  have hlen : vs.length = bs.length := e.length
  have hz : vs.length ≤ sizeLine := by rw [hlen]; exact hL
  refine call_function_entry_kw (kw := []) PyProof.Rows.kind_sorted PyProof.Rows.plain_sorted PyProof.Rows.entry_sorted ha1 ?_
  unfold Builtin.«sorted»
  refine wpAny_bind (m := checkCount "sorted" 1 1 _) (wpAny_pure ?_)
  refine wpAny_bind (hcol _ _ rfl fun h1 tk k1 er => ?_)
  refine wpAny_bind (wpAny_newList ?_ hz)
  have at_ : (h1.push (seqObj "list" vs.toArray 0)).get? h1.objs.size = some (seqObj "list" vs.toArray 0) := Heap.get?_push_size _ rfl
  refine wpAny_bind (wpAny_holding (PyProof.Rows.wpAny_call_entry_kw (kw := []) PyProof.Rows.slot_list_sort ⟨_, at_, rfl⟩ PyProof.Rows.entry_list_sort ?body (PyProof.Rows.args_list_sort _)))
  case body =>
    have k2 : ∀ b o, h1.get? b = some o → (sortingHeap (h1.push (seqObj "list" vs.toArray 0)) h1.objs.size vs).get? b = some o := fun b o z =>
      sortingHeap_old (Nat.ne_of_lt (Heap.lt_size z)) (Heap.get?_push_of_some _ z)
    have er2 : EachIs (fun v b => ∃ as, Reads (sortingHeap (h1.push (seqObj "list" vs.toArray 0)) h1.objs.size vs) v (py b) as) vs bs := er.mono fun _ _ ⟨as, r⟩ => ⟨as, PyProof.Rows.Reads.keeps k2 r⟩
    have S : SortsAt prog w A.in1.in1 { s with heap := sortingHeap (h1.push (seqObj "list" vs.toArray 0)) h1.objs.size vs, toks := tk } (dataKind (sortingHeap (h1.push (seqObj "list" vs.toArray 0)) h1.objs.size vs) (bs.map py)) vs := hk.elim (fun hk => sorts_tups (prog := prog) (w := w) (A := A.in1.in1) (s := { s with heap := sortingHeap (h1.push (seqObj "list" vs.toArray 0)) h1.objs.size vs, toks := tk }) (each_map (R := fun v d => ∃ as, Reads (sortingHeap (h1.push (seqObj "list" vs.toArray 0)) h1.objs.size vs) v d as) py er2) hal hk (bound_map fun b hb => hu b hb)) fun hk => SortsAt.data (prog := prog) (w := w) (A := A.in1.in1) (s := { s with heap := sortingHeap (h1.push (seqObj "list" vs.toArray 0)) h1.objs.size vs, toks := tk }) (each_map (R := fun v d => ∃ as, Reads (sortingHeap (h1.push (seqObj "list" vs.toArray 0)) h1.objs.size vs) v d as) py er2) hal hk (bound_map fun b hb => hu b hb)
    refine wpAny_mono (list_sort_vals (s := { s with heap := h1.push (seqObj "list" vs.toArray 0), toks := tk }) (P := fun f s' => f = .done (.ret .none) ∧ Q (.ref h1.objs.size) s') at_ S hz ⟨rfl, ?_⟩) (fun f s' hf => ?_) fun _ _ x => x
    · obtain ⟨ep, he⟩ := PyProof.Rows.sortedHeap_at (out := (sortVals (dataKind (sortingHeap (h1.push (seqObj "list" vs.toArray 0)) h1.objs.size vs) (bs.map py)) false vs vs).toArray) at_
      refine fin h1 _ tk _ ep k1 (fun b o z1 => ?_) he (sortVals_data false e er2 hal)
      rw [PyProof.Rows.sortedHeap_old (Nat.ne_of_lt (Heap.lt_size z1)) (Heap.lt_size (Heap.get?_push_of_some _ z1))]
      exact Heap.get?_push_of_some _ z1
    · obtain ⟨rfl, hq⟩ := hf
      exact ⟨_, rfl, wpAny_pure ⟨_, rfl, hq⟩⟩
/-! what stands for what, item by item -/
def StandsFor (g : G) (κ ρ : List Addr) (H : Hp) (u : Value) (d : D) : Prop := ∃ x, RelV x u ∧ Rep g.K κ ρ H d x
theorem each_of : ∀ {ds : List D} {vs : List V} {us : List Value}, Reps g.K κ ρ H ds vs → Vals vs us → EachIs (StandsFor g κ ρ H) us ds
  | [], _, _, r, v => by cases r; cases v; exact .nil
  | d :: ds, _, _, ⟨x, r, e, h1, h2⟩, v => by
    subst e
    cases v with
    | cons v1 v2 => exact .cons ⟨x, v1, h1⟩ (each_of h2 v2)
theorem of_each : ∀ {ds : List D} {us : List Value}, EachIs (StandsFor g κ ρ H) us ds → ∃ vs, Vals vs us ∧ Reps g.K κ ρ H ds vs
  | _, _, .nil => ⟨[], .nil, rfl⟩
  | _, _, .cons ⟨x, r1, r2⟩ t => by
    obtain ⟨vs, h1, h2⟩ := of_each t
    exact ⟨x :: vs, .cons r1 h1, x, vs, rfl, r2, h2⟩
theorem each_reads {pins : List (Addr × Obj)} {σ : L2.St} {s : Shared} {h' : Heap} (I : Inv X pins σ H s) (hK : X.K = g.K) (k : ∀ b o, s.heap.get? b = some o → h'.get? b = some o) {n : Nat} : ∀ {ds : List D} {us : List Value}, EachIs (StandsFor g κ ρ H) us ds → shps n ds = true → EachIs (fun v b => ∃ as, Reads h' v (py b) as) us ds
  | _, _, .nil, _ => .nil
  | d :: ds, _, .cons ⟨x, r1, r2⟩ t, sh => by
    have sh : shp n d = true ∧ shps n ds = true := by simpa [shps] using sh
    obtain ⟨as, q⟩ := Dp.reads I (py d) x _ (by rw [hK]; exact dp_of r2 sh.1) r1
    exact .cons ⟨as, PyProof.Rows.Reads.keeps k q⟩ (each_reads I hK k t sh.2)
theorem pys_map : ∀ ds : List D, pys ds = ds.map py
  | [] => rfl
  | d :: ds => by simp only [pys, List.map_cons]; rw [pys_map ds]
theorem alikes_ok : ∀ {ds : List D}, alikes ds = true → AllAlike (ds.map py)
  | [], _ => by intro d hd; cases hd
  | d :: ds, e => by
    have e : alike (py d) (py d) = true ∧ (∀ x ∈ ds, alike (py d) (py x) = true ∧ alike (py x) (py d) = true) ∧ alikes ds = true := by
      simpa [alikes, and_assoc] using e
    obtain ⟨e1, e2, e3⟩ := e
    have ih := alikes_ok e3
    intro x hx y hy
    rw [List.map_cons] at hx hy
    rcases List.mem_cons.mp hx with zx | zx
    · rcases List.mem_cons.mp hy with zy | zy
      · rw [zx, zy]; exact e1
      · obtain ⟨y', h1, rfl⟩ := List.mem_map.mp zy
        rw [zx]; exact (e2 y' h1).1
    · rcases List.mem_cons.mp hy with zy | zy
      · obtain ⟨x', h1, rfl⟩ := List.mem_map.mp zx
        rw [zy]; exact (e2 x' h1).2
      · exact ih x zx y zy
theorem sortable_ok {ds : List D} (e : ds.all isTup = true ∨ ds.all noTup = true) : (∀ d, d ∈ ds.map py → ∃ xs, d = .tuple xs) ∨ Sortable (ds.map py) := by
  rcases e with e | e
  · left
    intro y hy
    obtain ⟨d, hd, rfl⟩ := List.mem_map.mp hy
    have z := List.all_eq_true.mp e d hd
    cases d with
    | tup xs => exact ⟨pys xs, by simp [py]⟩
    | _ => cases z
  · right
    right
    intro y hy
    obtain ⟨d, hd, rfl⟩ := List.mem_map.mp hy
    have z := List.all_eq_true.mp e d hd
    cases d with
    | tup xs => cases z
    | non => cases z
    | _ => exact ⟨by simp [py], fun xs => by simp [py]⟩
theorem shps_mem {n : Nat} : ∀ {ds : List D}, shps n ds = true → ∀ d ∈ ds, shp n d = true
  | x :: ds, e, d, hd => by
    have e : shp n x = true ∧ shps n ds = true := by simpa [shps] using e
    rcases List.mem_cons.mp hd with z | z
    · rw [z]; exact e.1
    · exact shps_mem e.2 d z
theorem b_sorted {m : Bool} (ok : Okx g X) : CallR X (.builtin "sorted") (rN g E (v1 (vSorted m))) := by
  rintro pins s σ H xs us Q I rs ⟨κ, ρ, h, ds, c, r, w⟩
  match ds, r, w with
  | [], _, w => exact absurd w id
  | _ :: _ :: _, _, w => exact absurd w id
  | [d], r, w =>
    obtain ⟨x, rfl, r1⟩ := one_of r
    have w : Wp g E κ ρ H (match seqOf h d with
      | some xs => vSort m xs h
      | none => .bad) Q := w
    split at w
    · rename_i ys es
      have w : Wp g E κ ρ H (if ys.length ≤ big ∧ shps 7 ys = true ∧ alikes ys = true ∧ (ys.all isTup = true ∨ ys.all noTup = true) ∧ okSrt (isrt ys) = true then mk m (isrt ys) h else .bad) Q := w
      split at w
      · rename_i hc
        obtain ⟨c1, c2, c3, c4, c5⟩ := hc
        rw [← mergeSort_isrt c5] at w
        obtain ⟨a, vs, rfl, hq, rr⟩ := seqOf_ok c r1 es
        rw [← ok.K] at hq
        obtain ⟨u, rfl, ru⟩ := vals1 rs
        cases ru
        have hu := ok.u
        have main : ∀ (its : List Value), Vals vs its → vs.length ≤ sizeLine → ∀ (T : String) (o : Obj) (n : Nat), (T = "list" ∨ T = "tuple") → s.heap.get? a = some o → o.cls = .type T → o.data = .seq its.toArray n →
            wpAny (model X.prog X.w) X.A (call (.builtin "sorted") [.ref a]) (EP X pins σ Q) X.xe s := fun its rv hz T o n hT ho hcl hd => by
          have e := each_of rr rv
          have hl := rv.length
          have hl2 := rr.len
          refine sort_call (R := StandsFor g κ ρ H) (bs := ys) (vs := its) (PyProof.Rows.args_sorted1 _) e (lineOf c1) (alikes_ok c3) (sortable_ok c4) (fun b hb => ?_) (fun A' R' _ k => ?_) fun h1 h' tk out cc k1 k2 at_ eo => ?_
          · have := (lay_of (shps_mem c2 b hb)).2
            omega
          · refine wpAny_collect_seq (s := s) a hT ho hcl hd (fun h' k1 => ?_) (by rw [List.size_toArray]; omega)
            exact k h' s.toks k1 (each_reads I ok.K k1 e c2)
          · obtain ⟨ws, q1, q2⟩ := of_each eo
            have I1 : Inv X pins σ H { s with heap := h1 } := I.kept (t' := s.toks) k1
            have hf : H h1.objs.size = none := I1.hok.fresh (Nat.le_refl _)
            have hws : ws.length ≤ sizeLine := by
              rw [q2.len, List.length_mergeSort]; exact lineOf c1
            refine ⟨.ref h1.objs.size, upd H h1.objs.size (.lst ws), I1.laid (t' := tk) k2 (Nat.le_refl _) ⟨hws, out, cc, q1, at_⟩, rfl, ?_⟩
            exact wp_mk c q2 w _ hf
        rcases hq with hq | hq
        · obtain ⟨its, rv, pl, hz⟩ := I.list hq
          obtain ⟨o, ho, hcl, n, hd⟩ := pl.isList
          exact main its rv hz "list" o n (.inl rfl) ho hcl hd
        · obtain ⟨its, rv, pl, hz⟩ := I.tuple hq
          obtain ⟨o, ho, hcl, n, hd⟩ := pl
          exact main its rv hz "tuple" o n (.inr rfl) ho hcl hd
      · exact absurd w id
    · exact absurd w id
end
end Q
end
section
open PySem PySem.Spec L2 PySem.W PyProof.Rows
namespace Q
variable {g : G} {X : Cx} {κ ρ : List Addr} {h : Hh} {H : Hp} {E : XK}
theorem reads_all {hp : Heap} : ∀ {ds : List D} {us : List Value}, EachIs (fun v b => ∃ as, Reads hp v (py b) as) us ds → ∃ as, ReadsAll hp us (ds.map py) as
  | _, _, .nil => ⟨[], .nil⟩
  | _, _, .cons ⟨_, r⟩ t => by
    obtain ⟨_, rs⟩ := reads_all t
    exact ⟨_, .cons r rs⟩
section
variable {prog : Program} {w : World} {A : Around} {K : Value → Shared → Prop} {s : Shared}
/-- min of alike data: which item it is -/
theorem min_pos {l : Addr} {vs : Array Value} {xs : List PyData} {as : List Addr} {Z : Value → Shared → Prop} (hh : A.handled = none) (hl : s.heap.IsList l vs ∨ s.heap.IsTuple l vs) (hr : ReadsAll s.heap vs.toList xs as)
    (ha : AlikeAll xs) (hu : A.units + 1 + PyData.depthAll xs < cLine) (hn : 0 < vs.size)
    (h : ∀ v h' tk, vs[argBest (fun i j => dataLt (xs.getD i .none) (xs.getD j .none)) (vs.size - 1)]? = some v → (∀ b o, s.heap.get? b = some o → h'.get? b = some o) → Z v { s with heap := h', toks := tk }) :
    wpAny (model prog w) A (call (.builtin "min") [.ref l]) Z K s := by
  have c := cmpIn_lt (prog := prog) (w := w) (A := A.in1) hr ha hu
  refine call_min_walkH ?_
  rcases hl with hl | hl
  · refine iter_listW (A := A.in1) hh hl fun s₂ e W st hfp hw hk => ⟨_, _, _, _, _, _, _, s.heap, _, rfl, W, st, hfp, hn, hw, hk, c, fun v s' hP m => ?_⟩
    obtain ⟨h', tk, rfl, k⟩ := moved_old e rfl m
    exact h v h' tk hP k
  · refine iter_tupleW (A := A.in1) hh hl fun s₂ e W st hfp hw hk => ⟨_, _, _, _, _, _, _, s.heap, _, rfl, W, st, hfp, hn, hw, hk, c, fun v s' hP m => ?_⟩
    obtain ⟨h', tk, rfl, k⟩ := moved_old e rfl m
    exact h v h' tk hP k
end
theorem each_pos {R : Value → D → Prop} : ∀ {us : List Value} {ds : List D}, EachIs R us ds → ∀ (i : Nat) (u : Value), us[i]? = some u → ∃ d, ds[i]? = some d ∧ R u d
  | _, _, .nil, i, u, e => by simp at e
  | _, _, .cons r t, 0, u, e => by
    have e := Option.some.inj (show some _ = some u from e)
    subst e
    exact ⟨_, rfl, r⟩
  | _, _, .cons r t, i + 1, u, e => each_pos t i u (by simpa using e)
theorem py_getD (ds : List D) (i : Nat) : (ds.map py).getD i .none = py (ds.getD i .non) := by
  rw [List.getD_eq_getElem?_getD, List.getD_eq_getElem?_getD, List.getElem?_map]
  cases ds[i]? <;> rfl
theorem tup_not {ds : List D} (e : ds.all isTup = true) : ∀ x ∈ ds.map py, x ≠ .none := by
  intro x hx
  obtain ⟨d, hd, rfl⟩ := List.mem_map.mp hx
  have z := List.all_eq_true.mp e d hd
  cases d with
  | tup xs => simp [py]
  | _ => cases z
theorem b_minT (ok : Okx g X) : CallR X (.builtin "min") (rN g E (v1 vMinT)) := by
  rintro pins s σ H xs us Z I rs ⟨κ, ρ, h, ds, c, r, w⟩
  match ds, r, w with
  | [], _, w => exact absurd w id
  | _ :: _ :: _, _, w => exact absurd w id
  | [d], r, w =>
    obtain ⟨x, rfl, r1⟩ := one_of r
    have w : Wp g E κ ρ H (vMinT d h) Z := w
    unfold vMinT at w
    split at w
    · rename_i a0 rr0 es
      split at w
      · rename_i hc
        obtain ⟨c1, c2, c3, c4⟩ := hc
        obtain ⟨a, vs, rfl, hq, rr⟩ := seqOf_ok c r1 es
        rw [← ok.K] at hq
        obtain ⟨u, rfl, ru⟩ := vals1 rs
        cases ru
        have hu := ok.u
        have main : ∀ (its : List Value), Vals vs its → (s.heap.IsList a its.toArray ∨ s.heap.IsTuple a its.toArray) →
            wpAny (model X.prog X.w) X.A (call (.builtin "min") [.ref a]) (EP X pins σ Z) X.xe s := fun its rv hl => by
          have e := each_of rr rv
          have ln := rv.length
          have ln2 := rr.len
          obtain ⟨as, ra⟩ := reads_all (each_reads I ok.K (fun _ _ z => z) e c2)
          have dp := (lays_of c2).2
          rw [pys_map] at dp
          have hs : its.toArray.size = rr0.length + 1 := by
            rw [List.size_toArray]
            have : vs.length = rr0.length + 1 := by rw [ln2]; rfl
            omega
          refine min_pos (I.ok.hd ok.calm) hl ra ⟨alikes_ok c3, tup_not c4⟩ (by omega) (by omega) fun v h' tk hv k => ?_
          obtain ⟨m, hm, x, rx, px⟩ := each_pos e _ v (by rw [← hv, List.getElem?_toArray])
          refine ⟨x, H, I.kept (t' := tk) k, rx, ?_⟩
          have ef := (argBest_fold (fun u y => dataLt (py u) (py y)) D.non a0 rr0 rr0.length (Nat.le_refl _)).2
          rw [List.take_length] at ef
          have ee : (fun i j => dataLt (((a0 :: rr0).map py).getD i .none) (((a0 :: rr0).map py).getD j .none)) = fun i j => dataLt (py ((a0 :: rr0).getD i .non)) (py ((a0 :: rr0).getD j .non)) := by
            funext i j
            rw [py_getD, py_getD]
          rw [ee, show its.toArray.size - 1 = rr0.length by omega] at hm
          have em : m = fstL a0 rr0 := by
            unfold fstL
            rw [← ef, List.getD_eq_getElem?_getD, hm]
            rfl
          rw [em] at px
          exact wp_at c px w
        rcases hq with hq | hq
        · obtain ⟨its, rv, pl, hz⟩ := I.list hq
          exact main its rv (.inl pl.isList)
        · obtain ⟨its, rv, pl, hz⟩ := I.tuple hq
          exact main its rv (.inr pl)
      · exact absurd w id
    · exact absurd w id
theorem b_min (ok : Okx g X) : CallR X (.builtin "min") (rN g E vMinD) := ckey (CallR.or (CallR.or (call_min2 ok.calm) (cr_min ok.calm)) (b_minT ok)) fun xs H Q ⟨κ, ρ, h, ds, c, r, w⟩ => by
  unfold vMinD at w
  split at w
  · rename_i i j
    obtain ⟨x, y, rfl, r1, r2⟩ := two_of r
    have r1 : x = .int i := r1
    have r2 : y = .int j := r2
    subst r1 r2
    exact .inl (.inl ⟨i, j, rfl, wp_int c w⟩)
  · rename_i d
    obtain ⟨x, rfl, r1⟩ := one_of r
    split at w
    · rename_i a rr es
      obtain ⟨p, rfl, hq⟩ := ints_of c r1 es
      obtain ⟨z1, z2⟩ := vMin_is rr a
      refine .inl (.inr ⟨p, a :: rr, rfl, by rw [ok.K]; exact hq, by simp, fun m hm hy => ?_⟩)
      have e : m = vMin a rr := Int.le_antisymm (hy _ z1) (z2 m hm)
      rw [e]; exact wp_int c w
    · exact .inr ⟨κ, ρ, h, [d], c, r, w⟩
  · exact absurd w id
end Q
end
section
namespace Q
open PySem PySem.Spec L2
section
variable {g : G} {E : XK} {κ ρ : List Addr} {H : Hp} {h : Hh} {X : Cx}
/-! ## isinstance -/
def tyName : Ty → String
  | .int => "int"
  | .bool => "bool"
  | .tuple => "tuple"
  | .list => "list"
  | .str => "str"
  | .dict => "dict"
theorem kit_tab : ∀ t : Ty, kitB "NoneType" (tyName t) = some false ∧ kitB "bool" (tyName t) = some (match t with | .int => true | .bool => true | _ => false) ∧ kitB "int" (tyName t) = some (match t with | .int => true | _ => false) ∧
    kitB "str" (tyName t) = some (match t with | .str => true | _ => false) ∧ kitB "tuple" (tyName t) = some (match t with | .tuple => true | _ => false) ∧ kitB "list" (tyName t) = some (match t with | .list => true | _ => false) := by
  intro t
  cases t <;> refine ⟨?_, ?_, ?_, ?_, ?_, ?_⟩ <;> decide +kernel
theorem kit_tabD : ∀ t : Ty, kitB "dict" (tyName t) = some (match t with | .dict => true | _ => false) := by
  intro t
  cases t <;> decide +kernel
theorem isi_ty {K : PySem.W.Frag} {d : D} {x : V} {ts : List Ty} {b : Bool} (c : CS g κ ρ h H) (r : Rep g.K κ ρ H d x) (e : mlOk h d = true) (q : isTys ts d = some b) (hb : ts ≠ []) :
    ∃ u, TyX K H x u ∧ PySem.W.kitAny K u (ts.map fun t => .type (tyName t)) = some b := by
  have all : ∀ {u : String} {d : D} (k : ∀ t, ∃ r, isTy t d = some r ∧ kitB u (tyName t) = some r) {ts : List Ty} {b : Bool}, isTys ts d = some b → PySem.W.kitAny K (.type u) (ts.map fun t => .type (tyName t)) = some b := by
    intro u d k ts
    induction ts with
    | nil => intro b q; cases q; rfl
    | cons t ts ih =>
      intro b q
      obtain ⟨r, k1, k2⟩ := k t
      unfold isTys at q
      rw [k1] at q
      rw [List.map_cons]
      unfold PySem.W.kitAny
      rw [kit_ty (K := K) k2]
      cases r with
      | true => exact q
      | false => exact ih q
  cases d with
  | non => cases r; exact ⟨_, .base .non, all (fun t => ⟨_, rfl, (kit_tab t).1⟩) q⟩
  | bl i => cases r; exact ⟨_, .base (.bl _), all (fun t => ⟨_, rfl, (kit_tab t).2.1⟩) q⟩
  | int i => cases r; exact ⟨_, .base (.int _), all (fun t => ⟨_, rfl, (kit_tab t).2.2.1⟩) q⟩
  | str i => cases r; exact ⟨_, .base (.str _), all (fun t => ⟨_, rfl, (kit_tab t).2.2.2.1⟩) q⟩
  | tup ds => obtain ⟨a, vs, rfl, ⟨⟨o, f, _⟩, _⟩, _⟩ := r; exact ⟨_, .fTuple f, all (fun t => ⟨_, rfl, (kit_tab t).2.2.2.2.1⟩) q⟩
  | fl ds => obtain ⟨a, vs, rfl, f, _⟩ := r; exact ⟨_, .base (.lst f.1), all (fun t => ⟨_, rfl, (kit_tab t).2.2.2.2.2⟩) q⟩
  | ml i =>
    have e : (lstOf h (.ml i)).isSome = true := e
    obtain ⟨ds, hs⟩ := Option.isSome_iff_exists.mp e
    obtain ⟨a, rfl, ha⟩ := r
    simp only [lstOf] at hs
    split at hs
    · rename_i xs hx
      obtain ⟨vs, h1, _⟩ := c.lst ha hx
      exact ⟨_, .base (.lst h1), all (fun t => ⟨_, rfl, (kit_tab t).2.2.2.2.2⟩) q⟩
    · cases hs
  | pr _ => cases ts with
    | nil => exact absurd rfl hb
    | cons _ _ => cases q
  | rl _ => cases ts with
    | nil => exact absurd rfl hb
    | cons _ _ => cases q
  | fn _ => cases ts with
    | nil => exact absurd rfl hb
    | cons _ _ => cases q
  | md i =>
    have e : (match h[i]? with | some (.dK _) => true | _ => false) = true := e
    obtain ⟨a, rfl, ha⟩ := r
    split at e
    · rename_i kvs hx
      obtain ⟨vs, h1, _⟩ := c.cell i a _ ha hx
      exact ⟨_, .base (.dK h1), all (fun t => ⟨_, rfl, kit_tabD t⟩) q⟩
    · cases e
/-! ## methods -/
theorem ty_list {pins : List (Addr × Obj)} {σ : L2.St} {s : Shared} {d : D} {x : V} {v : Value} (I : Inv X pins σ H s) (ok : Okx g X) (c : CS g κ ρ h H) (r : Rep g.K κ ρ H d x) (rv : RelV x v) (e : (lstOf h d).isSome = true) :
    s.TypeIs v "list" ∧ ∀ a, v = .ref a → ∃ ob, s.heap.get? a = some ob ∧ ob.dict = none := by
  obtain ⟨ds, hs⟩ := Option.isSome_iff_exists.mp e
  obtain ⟨a, vs, rfl, hq, _⟩ := lstOf_ok c r hs
  cases rv
  rw [← ok.K] at hq
  obtain ⟨its, _, pl, _⟩ := I.list hq
  refine ⟨pl.isList.typeIs, fun b e => ?_⟩
  cases e
  obtain ⟨o, n, e1, _, e2, _⟩ := pl
  exact ⟨o, e1, e2⟩
theorem ty_tuple {pins : List (Addr × Obj)} {σ : L2.St} {s : Shared} {d : D} {x : V} {v : Value} (I : Inv X pins σ H s) (r : Rep g.K κ ρ H d x) (rv : RelV x v) (e : isTupD d = true) :
    s.TypeIs v "tuple" ∧ ∀ a, v = .ref a → ∃ ob, s.heap.get? a = some ob ∧ ob.dict = none := by
  cases d with
  | tup ds =>
    obtain ⟨a, vs, rfl, ⟨⟨o, f, hd⟩, _⟩, _⟩ := r
    cases rv
    obtain ⟨z1, _, its, _, o', z2, z3, _⟩ := I.hok a _ f
    rw [z1] at z2
    cases z2
    refine ⟨⟨o, z1, z3⟩, fun b e => ?_⟩
    cases e
    exact ⟨o, z1, hd⟩
  | _ => cases e
theorem ty_dict {pins : List (Addr × Obj)} {σ : L2.St} {s : Shared} {d : D} {x : V} {v : Value} (I : Inv X pins σ H s) (ok : Okx g X) (c : CS g κ ρ h H) (r : Rep g.K κ ρ H d x) (rv : RelV x v) (e : isDct h d = true) :
    s.TypeIs v "dict" ∧ ∀ a, v = .ref a → ∃ ob, s.heap.get? a = some ob ∧ ob.dict = none := by
  cases d with
  | md i =>
    obtain ⟨a, rfl, ha⟩ := r
    cases rv
    have fin : (∃ o, s.heap.get? a = some o ∧ o.ExactDict) → s.TypeIs (.ref a) "dict" ∧ ∀ b, Value.ref a = .ref b → ∃ ob, s.heap.get? b = some ob ∧ ob.dict = none := fun ⟨o, h1, h2⟩ =>
      ⟨⟨o, h1, h2.1⟩, fun b e => by cases e; exact ⟨o, h1, h2.2.1⟩⟩
    simp only [isDct] at e
    split at e
    · rename_i kvs hc
      obtain ⟨vs, h1, _⟩ := c.rdK ha hc
      obtain ⟨_, _, ws, _, o, _, _, e1, e2, _⟩ := Rd.ok h1 I.hok
      exact fin ⟨o, e1, e2⟩
    · rename_i kvs hc
      obtain ⟨vs, h1, _⟩ := c.rdT ha hc
      obtain ⟨⟨xs, _, o, es, ep, e1, e2, _⟩, _⟩ := Rd.ok h1 I.hok
      exact fin ⟨o, e1, e2⟩
    · cases e
  | _ => cases e
/-- a method's rule: the type's name for what is told of the value, then the method's answer -/
structure MRule (g : G) (E : XK) (X : Cx) (name : Str) (tm : D → Hh → Bool) (op : D → List D → Hh → Oc D) : Prop where
  get : ∀ (pins : List (Addr × Obj)) (σ : L2.St) (s : Shared) (κ ρ : List Addr) (H : Hp) (h : Hh) (d : D) (x : V) (v : Value), Inv X pins σ H s → CS g κ ρ h H → Rep g.K κ ρ H d x → RelV x v → tm d h = true →
    ∃ T id, PlainAttrs T ∧ Slot T name id ∧ typeOf (.builtin id) = pure (.type "method_descriptor") ∧ s.TypeIs v T ∧ (∀ a, v = .ref a → ∃ ob, s.heap.get? a = some ob ∧ ob.dict = none) ∧
      MtR X id fun x xs H Q => ∃ κ ρ h ds, CS g κ ρ h H ∧ Rep g.K κ ρ H d x ∧ Reps g.K κ ρ H ds xs ∧ Wp g E κ ρ H (op d ds h) Q
def evM (tm : D → Hh → Bool) (op : D → List D → Hh → Oc D) (fo : DE) (fA : DA) : DE := fun env h => (fo env h).bind fun x h1 => if tm x h1 then (fA env h1).bind fun xs h2 => op x xs h2 else .bad
theorem p_meth {name : Str} {tm : D → Hh → Bool} {op : D → List D → Hh → Oc D} {o e : Expr} {es : List Expr} {apos cpos : Pos} {fo : DE} {fA : DA} (m : MRule g E X name tm op) (ho : PE X o (RE g E fo)) (ha : PA X (e :: es) (RA g E fA))
    (hbase : attributeBase o name X.env (eval o X.env) = eval o X.env)
    (hfew : ((backTo cpos (starEach (e :: es) X.env)).all (fun x => !x.1) && (backToKw cpos (keywordEach [] X.env)).all (fun x => x.1.isSome)
      && decide ((e :: es).length + ([] : List Keyword).length + (if ([] : List Keyword).isEmpty then 0 else 1) < 30)) = true)
    (hline : (apos.endLine == cpos.line) = true) (hs : starEach (e :: es) X.env = (false, eval e X.env) :: starEach es X.env) (hplain : (backTo cpos (starEach es X.env)).any (·.1) = false) :
    PE X (.Call (.Attribute o name apos) (e :: es) [] cpos) (RE g E (evM tm op fo fA)) := by
  refine ⟨fun pins s σ H Q I ⟨κ, ρ, env, h, S, w⟩ => ?_⟩
  refine wpAny_Call_method_late hbase hfew hline rfl ?_
  unfold evM at w
  refine thn (ho.run pins s σ H (fun x H1 => ∃ κ ρ env h d, Sit g κ ρ env h σ H1 ∧ Rep g.K κ ρ H1 d x ∧ Wp g E κ ρ H1 (if tm d h then (fA env h).bind fun xs h2 => op d xs h2 else .bad) Q) I ⟨κ, ρ, env, h, S, ?_⟩) fun v s1 ⟨x, H1, I1, rv, q⟩ => ?_
  · revert w
    cases fo env h with
    | bad => exact id
    | ex x h' => exact id
    | ok d h1 => exact fun w ρ1 x H1 k1 c1 q1 => ⟨κ, ρ1, env, h1, d, S.go k1 c1, q1, Wp.go k1 w⟩
  · obtain ⟨κ, ρ, env, h, d, S, r, w⟩ := q
    split at w
    · rename_i ht
      obtain ⟨T, id, pa, sl, ty, hT, hd, mt⟩ := m.get pins σ s1 κ ρ H1 h d x v I1 S.cs r rv ht
      refine ⟨T, id, pa, sl, ty, hT, hd, ?_⟩
      have hA := ha.run cpos pins s1 σ H1 (fun xs H2 => ∃ κ ρ h ds, CS g κ ρ h H2 ∧ Rep g.K κ ρ H2 d x ∧ Reps g.K κ ρ H2 ds xs ∧ Wp g E κ ρ H2 (op d ds h) Q) I1 ⟨κ, ρ, env, h, S, ?_⟩
      · rw [hs] at hA ⊢
        refine Calls.callWith_builtin ?_ (Calls.evalArgs_plain ?_)
        · show (false || (backTo cpos (starEach es X.env)).any (·.1)) = false
          rw [hplain]; rfl
        · exact thn hA fun us s2 ⟨vs, H2, I2, r2, q2⟩ => mt pins s2 σ H2 x vs v us Q I2 rv r2 q2
      · revert w
        cases fA env h with
        | bad => exact fun w => w
        | ex x h' => exact fun w => w
        | ok ds h1 => exact fun w ρ1 xs H1 k1 c1 q1 => ⟨κ, ρ1, h1, ds, c1, r.go k1, q1, Wp.go k1 w⟩
    · exact absurd w id
/-- .. without arguments -/
theorem p_meth0 {name : Str} {tm : D → Hh → Bool} {op : D → List D → Hh → Oc D} {o : Expr} {apos cpos : Pos} {fo : DE} (m : MRule g E X name tm op) (ho : PE X o (RE g E fo))
    (hbase : attributeBase o name X.env (eval o X.env) = eval o X.env) (hline : (apos.endLine == cpos.line) = true) :
    PE X (.Call (.Attribute o name apos) [] [] cpos) (RE g E (evM tm op fo dNil)) := by
  refine ⟨fun pins s σ H Q I ⟨κ, ρ, env, h, S, w⟩ => ?_⟩
  refine wpAny_Call_method0_late hbase hline ?_
  unfold evM at w
  refine thn (ho.run pins s σ H (fun x H1 => ∃ κ ρ env h d, Sit g κ ρ env h σ H1 ∧ Rep g.K κ ρ H1 d x ∧ Wp g E κ ρ H1 (if tm d h then op d [] h else .bad) Q) I ⟨κ, ρ, env, h, S, ?_⟩) fun v s1 ⟨x, H1, I1, rv, q⟩ => ?_
  · revert w
    cases fo env h with
    | bad => exact id
    | ex x h' => exact id
    | ok d h1 => exact fun w ρ1 x H1 k1 c1 q1 => ⟨κ, ρ1, env, h1, d, S.go k1 c1, q1, Wp.go k1 w⟩
  · obtain ⟨κ, ρ, env, h, d, S, r, w⟩ := q
    split at w
    · rename_i ht
      obtain ⟨T, id, pa, sl, ty, hT, hd, mt⟩ := m.get pins σ s1 κ ρ H1 h d x v I1 S.cs r rv ht
      refine ⟨T, id, pa, sl, ty, hT, hd, Calls.callWith_builtin rfl (PySem.evalArgs_none ?_)⟩
      exact mt pins s1 σ H1 x [] v [] Q I1 rv .nil ⟨κ, ρ, h, [], S.cs, r, rfl, w⟩
    · exact absurd w id
theorem mkey {id : String} {r r' : V → List V → Hp → VK → Prop} (k0 : MtR X id r) (k : ∀ x xs H Q, r' x xs H Q → r x xs H Q) : MtR X id r' := fun pins s σ H x xs v us Q I rx rs q => k0 pins s σ H x xs v us Q I rx rs (k x xs H Q q)
theorem m_append (ok : Okx g X) {m : Bool} : MRule g E X "append" (tyM .append) (vMth .append m) := ⟨fun pins σ s κ ρ H h d x v I c r rv e => by
  obtain ⟨z1, z2⟩ := ty_list I ok c r rv e
  refine ⟨"list", _, PySem.F.plainAttrs_list, PySem.F.slot_list_append, PySem.F.type_list_append, z1, z2, mkey mt_append fun x xs H Q ⟨κ, ρ, h, ds, c, r, rs, w⟩ => ?_⟩
  cases d with
  | ml i =>
    match ds, rs, w with
    | [d], rs, w =>
      obtain ⟨y, rfl, r1⟩ := one_of rs
      obtain ⟨a, rfl, ha⟩ := r
      have w : Wp g E κ ρ H (match h[i]? with
        | some (.lst xs) => if xs.length < big ∧ low i d = true then .ok .non (h.set i (.lst (xs ++ [d]))) else .bad
        | _ => .bad) Q := w
      split at w
      · rename_i ys hy
        split at w
        · rename_i hc
          obtain ⟨vs, h1, h2⟩ := c.lst ha hy
          have hl : lows i ys = true := c.low i _ hy
          have gw : Go ρ H ρ (upd H a (.lst (vs ++ [y]))) := Go.write (List.mem_of_getElem? ha) (fun _ _ z => by rw [h1] at z; cases z) _
          have rr : Reps g.K κ ρ H (ys ++ [d]) (vs ++ [y]) := h2.append ⟨y, [], rfl, r1, rfl⟩
          refine ⟨a, vs, y, rfl, rfl, h1, ?_, w ρ .non _ gw (c.write ha ⟨_, upd_same, rr.go gw⟩ ?_) rfl⟩
          · rw [h2.len]; exact Nat.lt_of_lt_of_le hc.1 big_line
          · show lows i (ys ++ [d]) = true
            have : ∀ zs : List D, lows i zs = true → lows i (zs ++ [d]) = true := fun zs => by
              induction zs with
              | nil => intro _; simp [lows, hc.2]
              | cons z zs ih =>
                intro hz
                have hz : low i z = true ∧ lows i zs = true := by simpa [lows] using hz
                simp [lows, hz.1, ih hz.2]
            exact this ys hl
        · exact absurd w id
      · exact absurd w id
    | [], _, w => exact absurd w id
    | _ :: _ :: _, _, w => exact absurd w id
  | _ => exact absurd w id⟩
theorem lows_dropLast {i : Nat} : ∀ ds : List D, lows i ds = true → lows i ds.dropLast = true
  | [], _ => rfl
  | [_], _ => rfl
  | a :: b :: r, e => by
    have e : low i a = true ∧ lows i (b :: r) = true := by simpa [lows] using e
    have := lows_dropLast (b :: r) e.2
    simp only [List.dropLast_cons_cons, lows, e.1, Bool.true_and]
    exact this
theorem reps_dropLast {K : PySem.W.Frag} {ds : List D} {vs : List V} (r : Reps K κ ρ H ds vs) : Reps K κ ρ H ds.dropLast vs.dropLast := by
  rw [List.dropLast_eq_take, List.dropLast_eq_take, r.len]
  exact r.take _
theorem m_pop (ok : Okx g X) {m : Bool} : MRule g E X "pop" (tyM .pop) (vMth .pop m) := ⟨fun pins σ s κ ρ H h d x v I c r rv e => by
  obtain ⟨z1, z2⟩ := ty_list I ok c r rv e
  refine ⟨"list", _, PySem.F.plainAttrs_list, PySem.F.slot_list_pop, PySem.F.type_list_pop, z1, z2, mkey mt_pop fun x xs H Q ⟨κ, ρ, h, ds, c, r, rs, w⟩ => ?_⟩
  cases d with
  | ml i =>
    match ds, rs, w with
    | [], rs, w =>
      obtain ⟨a, rfl, ha⟩ := r
      have rs : xs = [] := rs
      have w : Wp g E κ ρ H (match h[i]? with
        | some (.lst xs) => match xs[xs.length - 1]? with
          | some d => .ok d (h.set i (.lst xs.dropLast))
          | none => .bad
        | _ => .bad) Q := w
      split at w
      · rename_i ys hy
        split at w
        · rename_i d hd
          obtain ⟨vs, h1, h2⟩ := c.lst ha hy
          have hl : lows i ys = true := c.low i _ hy
          obtain ⟨y, hy2, ry⟩ := h2.get hd
          have gw : Go ρ H ρ (upd H a (.lst vs.dropLast)) := Go.write (List.mem_of_getElem? ha) (fun _ _ z => by rw [h1] at z; cases z) _
          refine ⟨a, vs, y, rfl, rs, h1, by rw [h2.len]; exact hy2, w ρ y _ gw (c.write ha ⟨_, upd_same, (reps_dropLast h2).go gw⟩ (lows_dropLast ys hl)) (ry.go gw)⟩
        · exact absurd w id
      · exact absurd w id
    | _ :: _, _, w => exact absurd w id
  | _ => exact absurd w id⟩
theorem m_get (ok : Okx g X) {m : Bool} : MRule g E X "get" (tyM .get) (vMth .get m) := ⟨fun pins σ s κ ρ H h d x v I c r rv e => by
  obtain ⟨z1, z2⟩ := ty_dict I ok c r rv e
  refine ⟨"dict", _, PySem.F.plainAttrs_dict, PySem.F.slot_dict_get, PySem.F.type_dict_get, z1, z2, ?_⟩
  rintro pins s σ H x xs v us Q I rx rs ⟨κ, ρ, h, ds, c, r, rr, w⟩
  have hu := ok.u
  match ds, rr, w with
  | [k], rr, w =>
    obtain ⟨y, rfl, ry⟩ := one_of rr
    obtain ⟨uy, rfl, ruy⟩ := vals1 rs
    have w : Wp g E κ ρ H (match dlook h d k with
      | some r => .ok (r.getD .non) h
      | none => .bad) Q := w
    split at w
    · rename_i o eo
      obtain ⟨a, vo, rfl, gg, z, zz⟩ := dlook_ok c r ry eo
      cases rx
      have fin : Q (vo.getD .non) H := by
        cases o with
        | none =>
          cases vo with
          | none => exact wp_non c w
          | some _ => cases z
        | some d' =>
          obtain ⟨u, rfl, ru⟩ := zz d' rfl
          exact wp_at c ru w
      rcases gg with gg | gg
      · exact d_get1 (by omega) I gg ruy fun w' s' I' r' => ⟨_, H, I', r', fin⟩
      · exact t_get1 ok.K ok.P ok.w (by omega) I gg ruy fun w' s' I' r' => ⟨_, H, I', r', fin⟩
    · exact absurd w id
  | [k, f], rr, w =>
    obtain ⟨y, y2, rfl, ry, ry2⟩ := two_of rr
    obtain ⟨uy, uz, rfl, ruy, ruz⟩ := vals2 rs
    have w : Wp g E κ ρ H (match dlook h d k with
      | some r => .ok (r.getD f) h
      | none => .bad) Q := w
    split at w
    · rename_i o eo
      obtain ⟨a, vo, rfl, gg, z, zz⟩ := dlook_ok c r ry eo
      cases rx
      have fin : Q (vo.getD y2) H := by
        cases o with
        | none =>
          cases vo with
          | none => exact wp_at c ry2 w
          | some _ => cases z
        | some d' =>
          obtain ⟨u, rfl, ru⟩ := zz d' rfl
          exact wp_at c ru w
      rcases gg with gg | gg
      · exact d_get2 (by omega) I gg ruy ruz fun w' s' I' r' => ⟨_, H, I', r', fin⟩
      · exact t_get2 ok.K ok.P ok.w (by omega) I gg ruy ruz fun w' s' I' r' => ⟨_, H, I', r', fin⟩
    · exact absurd w id
  | [], _, w => exact absurd w id
  | _ :: _ :: _ :: _, _, w => exact absurd w id⟩
end
end Q
end
section
namespace Q
open PySem PySem.Spec L2
section
variable {g : G} {E : XK} {κ ρ : List Addr} {H : Hp} {h : Hh} {X : Cx}
/-! ## t.index(x), l.index(x) -/
/-- the first place of an equal one -/
structure FirstAt (ds : List PyData) (d : PyData) (j : Nat) : Prop where
  lt : j < ds.length
  hit : ∀ z, ds[j]? = some z → PyData.eqv z d = true
  no : ∀ (m : Nat) (z : PyData), m < j → ds[m]? = some z → PyData.eqv z d = false
def rIdx (K : PySem.W.Frag) (tup : Bool) : V → List V → Hp → VK → Prop := fun x xs H Q => ∃ (y : V) (d : PyData) (ds : List PyData) (j : Nat), xs = [y] ∧ Dp K H x (if tup then .tuple ds else .list ds) ∧ Dp K H y d ∧
  PyData.canLayAll0 ds = true ∧ SeqAt.shaped d = true ∧ FirstAt ds d j ∧ Q (.int (j : Nat)) H
theorem mt_tindex (hu : X.A.units + 65 < cLine) : MtR X "tuple.index" (rIdx X.K true) := by
  rintro pins s σ H x xs v us Q I rx rxs ⟨y, d, ds, j, rfl, hl, hy, hxs, sd, fa, q⟩
  obtain ⟨uy, rfl, ry⟩ := vals1 rxs
  obtain ⟨bs, kb⟩ := Dp.reads I d y uy hy ry
  have hroom : X.A.units + 1 + min (PyData.depthAll ds) d.depth < cLine := by
    have z1 := SeqAt.depth_of_shaped sd
    have z2 := Nat.min_le_right (PyData.depthAll ds) d.depth
    omega
  have hl : Dp X.K H x (.tuple ds) := hl
  cases hl with
  | @tup a ws _ hs ha =>
    cases rx
    obtain ⟨its, rv, ⟨⟨cls, dd, dat, sls⟩, ho, hc, n, hd⟩, hlen⟩ := I.tuple hs
    dsimp only at hc hd
    subst hc hd
    obtain ⟨as, k4⟩ := Dp.readsAll I ds _ its ha rv
    have hn : its.length = ds.length := SeqAt.ReadsAll.length ds its as k4
    have hmap : its.map (SeqAt.readOf s.heap) = ds := SeqAt.readsAll_map ds its as hxs k4
    have hj : j < its.toArray.size := by rw [List.size_toArray, hn]; exact fa.lt
    have at_ : ∀ (m : Nat) (hm : m < its.toArray.size), ds[m]? = some (SeqAt.readOf s.heap its.toArray[m]) := fun m hm => by
      have hml : m < its.length := by rw [← List.size_toArray]; exact hm
      rw [← hmap, List.getElem?_map, List.getElem?_eq_getElem hml]
      simp
    refine call_meets PySem.F.slot_tuple_index ⟨_, ho, rfl⟩ PySem.F.entry_tuple_index (PySem.F.args_tuple_index_2 _ _) (TI.tuple_indexAt a its.toArray n dd sls uy (fun u => PyData.eqv (SeqAt.readOf s.heap u) d) j hj ?_ ?_) ⟨ho, ?_, ?_⟩
    · exact fa.hit _ (at_ j hj)
    · exact fun m hm hmj => fa.no m _ hmj (at_ m hm)
    · exact SeqAt.items_eqAt (vs := its.toArray) (show ReadsAll s.heap its.toArray.toList ds as from k4) kb hxs (SeqAt.canLay_of_shaped sd) hroom
    · exact ⟨.int (j : Nat), H, I.tok _, ⟨_, rfl⟩, q⟩
theorem findIdx_first {x : D} : ∀ {ds : List D} {j : Nat}, ds.findIdx? (fun z => deq z x) = some j → FirstAt (pys ds) (py x) j := by
  intro ds j e
  obtain ⟨h1, h2, h3⟩ := List.findIdx?_eq_some_iff_getElem.mp e
  refine ⟨by rw [pys_map, List.length_map]; exact h1, fun z hz => ?_, fun m z hm hz => ?_⟩
  · rw [pys_map, List.getElem?_map, List.getElem?_eq_getElem h1] at hz
    cases hz
    rw [← deq_eqv]; exact h2
  · have hm' : m < ds.length := by omega
    rw [pys_map, List.getElem?_map, List.getElem?_eq_getElem hm'] at hz
    cases hz
    rw [← deq_eqv]
    have := h3 m hm
    simpa using this
theorem m_index (ok : Okx g X) {m : Bool} : MRule g E X "index" (tyM .index) (vMth .index m) := ⟨fun pins σ s κ ρ H h d x v I c r rv e => by
  have hu := ok.u
  have fin : ∀ {κ ρ : List Addr} {H : Hp} {h : Hh} {ds : List D} {xs : List V} {Q : VK}, CS g κ ρ h H → Rep g.K κ ρ H d x → Reps g.K κ ρ H ds xs → Wp g E κ ρ H (vMth .index m d ds h) Q →
      ∃ ys y j z, seqOf h d = some ys ∧ xs = [y] ∧ ds = [z] ∧ shp 7 z = true ∧ shps 7 ys = true ∧ Dp X.K H y (py z) ∧ FirstAt (pys ys) (py z) j ∧ Q (.int (j : Nat)) H := fun {κ ρ H h ds xs Q} c r rs w => by
    match ds, rs, w with
    | [z], rs, w =>
      obtain ⟨y, rfl, ry⟩ := one_of rs
      have w : Wp g E κ ρ H (match seqOf h d with
        | some xs => if shp 7 z && shps 7 xs then match xs.findIdx? (fun u => deq u z) with
          | some j => .ok (.int j) h
          | none => .bad else .bad
        | none => .bad) Q := by cases d <;> exact w
      split at w
      · rename_i ys es
        split at w
        · rename_i hc
          obtain ⟨s1, s2⟩ := Bool.and_eq_true_iff.mp hc
          split at w
          · rename_i j hj
            exact ⟨ys, y, j, z, es, rfl, rfl, s1, s2, by rw [ok.K]; exact dp_of ry s1, findIdx_first hj, wp_int c w⟩
          · exact absurd w id
        · exact absurd w id
      · exact absurd w id
    | [], _, w => cases d <;> exact absurd w id
    | _ :: _ :: _, _, w => cases d <;> exact absurd w id
  by_cases ht : isTupD d = true
  · obtain ⟨z1, z2⟩ := ty_tuple I r rv ht
    refine ⟨"tuple", _, PySem.F.plainAttrs_tuple, PySem.F.slot_tuple_index, PySem.F.type_tuple_index, z1, z2, mkey (mt_tindex (by omega)) fun x' xs H Q ⟨κ, ρ, h, ds, c, r, rs, w⟩ => ?_⟩
    cases d with
    | tup ts =>
      clear fin
      match ds, rs, w with
      | [z], rs, w =>
        obtain ⟨y, rfl, ry⟩ := one_of rs
        have w : Wp g E κ ρ H (if shp 7 z && shps 7 ts then match ts.findIdx? (fun u => deq u z) with
          | some j => .ok (.int j) h
          | none => .bad else .bad) Q := w
        split at w
        · rename_i hc
          obtain ⟨s1, s2⟩ := Bool.and_eq_true_iff.mp hc
          split at w
          · rename_i j hj
            obtain ⟨a, vs, rfl, f, rr⟩ := r
            exact ⟨y, py z, pys ts, j, rfl, by rw [ok.K]; exact .tup f.sq (dps_of rr s2), by rw [ok.K]; exact dp_of ry s1, (lays_of s2).1, shaped_of s1 (by decide), findIdx_first hj, wp_int c w⟩
          · exact absurd w id
        · exact absurd w id
      | [], _, w => exact absurd w id
      | _ :: _ :: _, _, w => exact absurd w id
    | _ => cases ht
  · have hl : (lstOf h d).isSome = true := by
      have e : ((lstOf h d).isSome || isTupD d) = true := e
      rcases Bool.or_eq_true_iff.mp e with z | z
      · exact z
      · exact absurd z ht
    obtain ⟨z1, z2⟩ := ty_list I ok c r rv hl
    refine ⟨"list", _, PySem.F.plainAttrs_list, PySem.F.slot_list_index, PySem.F.type_list_index, z1, z2, mkey (mt_indexD (by omega)) fun x' xs H Q ⟨κ, ρ, h, ds, c, r, rs, w⟩ => ?_⟩
    clear fin
    match ds, rs, w with
    | [z], rs, w =>
      obtain ⟨y, rfl, ry⟩ := one_of rs
      have w : Wp g E κ ρ H (match seqOf h d with
        | some xs => if shp 7 z && shps 7 xs then match xs.findIdx? (fun u => deq u z) with
          | some j => .ok (.int j) h
          | none => .bad else .bad
        | none => .bad) Q := by cases d <;> exact w
      split at w
      · rename_i ys es
        split at w
        · rename_i hc
          obtain ⟨s1, s2⟩ := Bool.and_eq_true_iff.mp hc
          split at w
          · rename_i j hj
            have fa := findIdx_first hj
            have lst : lstOf h d = some ys := by
              cases d with
              | tup _ => exact absurd rfl ht
              | pr _ => cases hl
              | _ => exact es
            obtain ⟨a, vs, rfl, hq, rr⟩ := lstOf_ok c r lst
            have sl : shp 8 (.fl ys) = true := by simpa [shp] using s2
            obtain ⟨zz, hz⟩ : ∃ zz, (pys ys)[j]? = some zz := ⟨_, List.getElem?_eq_getElem fa.lt⟩
            exact ⟨a, y, py z, pys ys, j, zz, rfl, rfl, by rw [ok.K]; exact .lst hq (dps_of rr s2), by rw [ok.K]; exact dp_of ry s1, shaped_of sl (by decide), shaped_of s1 (by decide), hz, fa.hit zz hz, fa.no, wp_int c w⟩
          · exact absurd w id
        · exact absurd w id
      · exact absurd w id
    | [], _, w => cases d <;> exact absurd w id
    | _ :: _ :: _, _, w => cases d <;> exact absurd w id⟩
/-! ## l.count(k) of ints, t.count(None) -/
def rCntT (K : PySem.W.Frag) : V → List V → Hp → VK → Prop := fun x xs H Q => ∃ ds, xs = [.non] ∧ Dp K H x (.tuple ds) ∧ PyData.plainAll ds = true ∧ Q (.int ((ds.countP fun y => PyData.eqv y .none : Nat) : Int)) H
theorem mt_tcount (hu : X.A.units + 65 < cLine) : MtR X "tuple.count" (rCntT X.K) := by
  rintro pins s σ H x xs v us Q I rx rxs ⟨ds, rfl, hl, hp, q⟩
  obtain ⟨uy, rfl, ry⟩ := vals1 rxs
  cases ry
  have z2 := Nat.min_le_right (PyData.depthAll ds) PyData.none.depth
  have z3 : PyData.none.depth = 0 := by simp [PyData.depth]
  cases hl with
  | @tup a ws _ hs ha =>
    cases rx
    obtain ⟨its, rv, pl, hlen⟩ := I.tuple hs
    obtain ⟨as, k4⟩ := Dp.readsAll I ds _ its ha rv
    exact PySem.SeqAt.count_tuple_data (vs := its.toArray) (d := .none) pl (show ReadsAll s.heap its.toArray.toList ds as from k4) .none hp rfl (by omega) ⟨.int _, H, I.tok _, ⟨_, rfl⟩, q⟩
theorem sim_plain : ∀ {xs : List D}, xs.all simD = true → PyData.plainAll (pys xs) = true ∧ shps 7 xs = true
  | [], _ => ⟨rfl, by simp [shps]⟩
  | d :: xs, e => by
    rw [List.all_cons, Bool.and_eq_true] at e
    obtain ⟨h1, h2⟩ := sim_plain e.2
    cases d with
    | non => exact ⟨by simp [pys, py, PyData.plainAll, PyData.plain, h1], by simp [shps, shp, h2]⟩
    | bl b => exact ⟨by simp [pys, py, PyData.plainAll, PyData.plain, h1], by simp [shps, shp, h2]⟩
    | int b => exact ⟨by simp [pys, py, PyData.plainAll, PyData.plain, h1], by simp [shps, shp, h2]⟩
    | _ => cases e.1
theorem cnt_deq : ∀ xs : List D, ((pys xs).countP fun y => PyData.eqv y .none) = xs.countP fun z => deq z .non
  | [] => rfl
  | d :: xs => by
    rw [show pys (d :: xs) = py d :: pys xs by simp [pys], List.countP_cons, List.countP_cons, cnt_deq xs, deq_eqv]; rfl
theorem m_count (ok : Okx g X) {m : Bool} : MRule g E X "count" (tyM .count) (vMth .count m) := ⟨fun pins σ s κ ρ H h d x v I c r rv e => by
  have hu := ok.u
  by_cases ht : isTupD d = true
  · obtain ⟨z1, z2⟩ := ty_tuple I r rv ht
    refine ⟨"tuple", _, PySem.F.plainAttrs_tuple, PySem.F.slot_tuple_count, PySem.F.type_tuple_count, z1, z2, mkey (mt_tcount (by omega)) fun x' xs H Q ⟨κ, ρ, h, ds, c, r, rs, w⟩ => ?_⟩
    cases d with
    | tup ts =>
      match ds, rs, w with
      | [z], rs, w =>
        cases z with
        | non =>
          obtain ⟨y, rfl, ry⟩ := one_of rs
          have ry : y = .non := ry
          subst ry
          have w : Wp g E κ ρ H (if ts.all simD = true then .ok (.int (ts.countP fun z => deq z .non : Nat)) h else .bad) Q := w
          split at w
          · rename_i hc
            obtain ⟨s1, s2⟩ := sim_plain hc
            obtain ⟨a, vs, rfl, f, rr⟩ := r
            exact ⟨pys ts, rfl, by rw [ok.K]; exact .tup f.sq (dps_of rr s2), s1, by rw [cnt_deq]; exact wp_int c w⟩
          · exact absurd w id
        | _ => exact absurd w id
      | [], _, w => exact absurd w id
      | z :: _ :: _, _, w => cases z <;> exact absurd w id
    | _ => cases ht
  have e : (lstOf h d).isSome = true := by
    have e : ((lstOf h d).isSome || isTupD d) = true := e
    rcases Bool.or_eq_true_iff.mp e with z | z
    · exact z
    · exact absurd z ht
  obtain ⟨z1, z2⟩ := ty_list I ok c r rv e
  refine ⟨"list", _, PySem.F.plainAttrs_list, PySem.F.slot_list_count, PySem.F.type_list_count, z1, z2, mkey mt_lcount fun x' xs H Q ⟨κ, ρ, h, ds, c, r, rs, w⟩ => ?_⟩
  match ds, rs, w with
  | [z], rs, w =>
    cases z with
    | int k =>
      obtain ⟨y, rfl, ry⟩ := one_of rs
      have ry : y = .int k := ry
      subst ry
      have w : Wp g E κ ρ H (match (lstOf h d).bind intsOf with
        | some ns => .ok (.int (ns.count k : Nat)) h
        | none => .bad) Q := by cases d <;> first | exact w | exact absurd rfl ht
      cases lst : lstOf h d with
      | none => rw [lst] at w; exact absurd w id
      | some ys =>
        rw [lst] at w
        cases ei : intsOf ys with
        | none =>
          have w : Wp g E κ ρ H (match intsOf ys with
            | some ns => .ok (.int (ns.count k : Nat)) h
            | none => .bad) Q := w
          rw [ei] at w; exact absurd w id
        | some ns =>
          have w : Wp g E κ ρ H (match intsOf ys with
            | some ns => .ok (.int (ns.count k : Nat)) h
            | none => .bad) Q := w
          rw [ei] at w
          obtain ⟨a, vs, rfl, hq, rr⟩ := lstOf_ok c r lst
          rw [ints_rep rr ei] at hq
          exact ⟨a, ns, k, rfl, rfl, by rw [ok.K]; exact hq, wp_int c w⟩
    | _ => cases d <;> first | exact absurd w id | exact absurd rfl ht
  | [], _, w => cases d <;> exact absurd w id
  | z :: _ :: _, _, w => cases z <;> cases d <;> exact absurd w id⟩
end
end Q
end
section
namespace PySem.W
open PySem PySem.Calls PyProof.Rows
section
variable {prog : Program} {w : World} {d r : Addr} {es : Array DictEntry} {ep : Nat}
/-- the keys view of a dict told by its entries -/
theorem kdlR_keys : KdlSrc prog w "dict_keys" r d es.size (fun i v => ∃ hi : i < es.size, v = es[i].key) (fun h => KdlKeysView h r d ∧ h.DictRaw d es ep) where
  type := fun _ hm => hm.1.typeIs
  there := fun _ hm => ⟨let ⟨_, ho, _⟩ := hm.1; Heap.lt_size ho, let ⟨_, ho, _⟩ := hm.2; Heap.lt_size ho⟩
  keep := fun _ _ hm hk => ⟨let ⟨o, ho, x⟩ := hm.1; ⟨o, hk r (.inl rfl) o ho, x⟩, hm.2.at fun o e => hk d (.inr rfl) o e⟩
  notList := by decide
  notTuple := by decide
  hint := fun _ _ _ _ hm hq => kdl_hint_keys hm.1.typeIs hq
  iter := fun _ _ hh hm => ⟨_, _, (fun _ _ hq => wpAny_pyIter_keys_raw hm.1 hm.2 hq), Walks.rawKeys hh _ d (let ⟨_, ho, _⟩ := hm.2; Nat.ne_of_lt (Heap.lt_size ho)) es ep, ⟨⟨_, Heap.get?_push_size _ rfl, rfl, rfl⟩, hm.2.at fun o e => Heap.get?_push_of_some _ e⟩⟩
theorem kdlR_values : KdlSrc prog w "dict_values" r d es.size (fun i v => ∃ hi : i < es.size, v = es[i].val) (fun h => h.IsValuesView r d ∧ h.DictRaw d es ep) where
  type := fun _ hm => hm.1.typeIs
  there := fun _ hm => ⟨let ⟨_, ho, _⟩ := hm.1; Heap.lt_size ho, let ⟨_, ho, _⟩ := hm.2; Heap.lt_size ho⟩
  keep := fun _ _ hm hk => ⟨let ⟨o, ho, x⟩ := hm.1; ⟨o, hk r (.inl rfl) o ho, x⟩, hm.2.at fun o e => hk d (.inr rfl) o e⟩
  notList := by decide
  notTuple := by decide
  hint := fun _ _ _ _ hm hq => kdl_hint_values hm.1.typeIs hq
  iter := fun _ _ hh hm => ⟨_, _, (fun _ _ hq => wpAny_pyIter_values_raw hm.1 hm.2 hq), Walks.rawValues hh _ d (let ⟨_, ho, _⟩ := hm.2; Nat.ne_of_lt (Heap.lt_size ho)) es ep, ⟨⟨_, Heap.get?_push_size _ rfl, rfl, rfl⟩, hm.2.at fun o e => Heap.get?_push_of_some _ e⟩⟩
end
section
variable {prog : Program} {w : World} {A : Around} {E : Value → Shared → Prop} {s : Shared} {T : String} {r d : Addr} {n : Nat} {P : Nat → Value → Prop} {OK : Heap → Prop}
/-- what such a source gives to sorted() -/
theorem collect_kdl {R : List Value → Shared → Prop} (K : KdlSrc prog w T r d n P OK) (hh : A.handled = none) (hok : OK s.heap) (hn : n ≤ sizeLine)
    (fin : ∀ (hp : Heap) (tk : Nat) (out : Array Value), (∀ b o, s.heap.get? b = some o → hp.get? b = some o) → ItemsOf P out n → R out.toList { s with heap := hp, toks := tk }) :
    wpAny (model prog w) A (collect (.ref r)) R E s := by
  let L : Addr := s.heap.objs.size
  let o0 : Obj := { cls := .type "list", data := .seq ([] : List Value).toArray }
  let s0 : Shared := { s with heap := s.heap.push o0 }
  have lt := K.there _ hok
  have up : ∀ {b : Addr} {o : Obj}, s.heap.get? b = some o → s0.heap.get? b = some o := fun e => Heap.get?_push_of_some _ e
  have at0 : s0.heap.get? L = some { cls := .type "list", data := .seq #[] } := Heap.get?_push_size _ rfl
  let Done : Result → Shared → Prop := fun q s' => ∃ hp tk out c, q = .ok (.ret (.ref L)) ∧ s' = { s with heap := hp, toks := tk } ∧ (∀ b o, s.heap.get? b = some o → hp.get? b = some o) ∧ hp.get? L = some { cls := .type "list", dict := none, data := .seq out c, slots := #[] } ∧ ItemsOf P out n
  have ext := kdl_extend (A := A) (s := s0) (R := Done) K hh (K.keep _ _ hok fun b _ o e => up e) L (Nat.ne_of_gt lt.1) (Nat.ne_of_gt lt.2) (.ref L) 0 at0
    (fun hp tk out c keep at1 its => ⟨hp, tk, out, c, rfl, rfl, fun b o e => keep b o (Nat.ne_of_lt (Heap.lt_size e)) (up e), at1, its⟩) hn
  have last : ∀ {q : Result} {s' : Shared}, Done q s' → q = .ok (.ret (.ref L)) ∧ wpAny (model prog w) A (load L >>= fun o => match o.data with | .seq vs _ => pure vs.toList | _ => unsupported "internal:collect") R E s' := fun {q s'} x => by
    obtain ⟨hp, tk, out, c, e, rfl, keep, at1, its⟩ := x
    exact ⟨e, wpAny_bind (wpAny_load at1 (wpAny_pure (fin hp tk out keep its)))⟩
  unfold collect
  refine wpAny_bind (wpAny_runValue (codeAny_builtin entry_proto_collect' ?_))
  rw [Around.under_plainId PySem.F.plain_proto_collect _]
  refine wpAny_bind (m := newList []) (wpAny_newObj_type (wpAny_pure ⟨plainId_quiet PySem.F.plain_list_iadd _, codeAny_builtin entry_list_iadd' ?_⟩))
  rw [Around.under_plainId PySem.F.plain_list_iadd _]
  refine wpAny_mono ext (fun f s' x => ?_) fun e s' x => by obtain ⟨_, _, _, _, z, _⟩ := x; cases z
  cases f with
  | done v =>
    obtain ⟨e, k⟩ := last x
    cases e
    exact k
  | again c1 => exact ⟨x.1, codeAny_mono x.2 fun q s2 y => by
      obtain ⟨e, k⟩ := last y
      cases e
      exact k⟩
end
end PySem.W
namespace Q
open PySem PySem.Spec L2 PySem.W PyProof.Rows
section
variable {g : G} {E : XK} {κ ρ : List Addr} {H : Hp} {h : Hh} {X : Cx}
/-- the view d.keys() at p -/
def keysO (p d : Addr) : HO := .ext fun h => KdlKeysView h p d
theorem keysO_ok {P : Program} {w : World} {H : Hp} {h : Heap} {p d : Addr} (e : h.get? p = some { cls := .type "dict_keys", data := .fields #[.ref d] }) : ObjOk P w H h p (keysO p d) :=
  ⟨⟨_, e, rfl, rfl⟩, ⟨_, e⟩, fun h1 h2 x k => let ⟨o, ho, r⟩ := x; ⟨o, k o ho, r⟩⟩
/-- o.keys(): the dict, and where the view will stand -/
def tView (g : G) (E : XK) (fo : DE) : TE := fun σ H Q => RE g E fo σ H fun x H1 => ∃ κ ρ h d ks a, CS g κ ρ h H1 ∧ x = .ref a ∧ Rep g.K κ ρ H1 d x ∧ keysD h d = some ks ∧ ∀ p, H1 p = none → Q (.ref p) (upd H1 p (keysO p a))
theorem keys_dct {d : D} {ks : List D} (e : keysD h d = some ks) : isDct h d = true := by
  cases d with
  | md i =>
    simp only [keysD] at e
    simp only [isDct]
    split at e <;> first | rfl | cases e
  | _ => cases e
theorem p_keys {o : Expr} {apos cpos : Pos} {fo : DE} (ok : Okx g X) (ho : PE X o (RE g E fo)) (hbase : attributeBase o "keys" X.env (eval o X.env) = eval o X.env) (hline : (apos.endLine == cpos.line) = true) :
    PE X (.Call (.Attribute o "keys" apos) [] [] cpos) (tView g E fo) := by
  refine ⟨fun pins s σ H Q I w => ?_⟩
  refine wpAny_Call_method0_late hbase hline ?_
  refine thn (ho.run pins s σ H _ I w) fun v s1 ⟨x, H1, I1, rv, κ, ρ, h, d, ks, a, c, ex, r, ek, q⟩ => ?_
  obtain ⟨z1, z2⟩ := ty_dict I1 ok c r rv (keys_dct ek)
  refine ⟨"dict", _, PySem.F.plainAttrs_dict, PySem.F.slot_dict_keys, PySem.F.type_dict_keys, z1, z2, Calls.callWith_builtin rfl (PySem.evalArgs_none ?_)⟩
  obtain ⟨a', vs, ex', _, kv, vv, _, _, en⟩ := ents_of (X := X) c r ek
  rw [ex] at ex'
  cases ex'
  obtain ⟨lo, _, es, ep, dr, _, _⟩ := en pins σ s1 I1
  subst ex
  cases rv
  refine call_meetsIn PySem.F.slot_dict_keys z1 PySem.F.entry_dict_keys (PySem.F.args_dict_keys_1 _) (meets_dict_keys_raw a lo) ⟨⟨es, ep, dr⟩, ?_⟩
  have hf : H1 s1.heap.objs.size = none := I1.hok.fresh (Nat.le_refl _)
  exact ⟨.ref s1.heap.objs.size, upd H1 s1.heap.objs.size (keysO s1.heap.objs.size a), I1.laid (t' := s1.toks) (fun b u e => Heap.get?_push_of_some _ e) (Nat.le_refl _) (keysO_ok (Heap.get?_push_size _ rfl)), rfl, q _ hf⟩
/-- sorted(o.keys()) -/
def rSrtk (g : G) (E : XK) (m : Bool) : List V → Hp → VK → Prop := fun xs H Q => ∃ κ ρ h d p a, xs = [.ref p] ∧ H p = some (keysO p a) ∧ CS g κ ρ h H ∧ Rep g.K κ ρ H d (.ref a) ∧ Wp g E κ ρ H (vSrtk m d h) Q
theorem each_at : ∀ {us : List Value} {vs : List V} {ds : List D}, Vals vs us → Reps g.K κ ρ H ds vs → EachIs (StandsFor g κ ρ H) us ds := fun v r => each_of r v
theorem items_keys {es : Array DictEntry} {acc : Array Value} (h : ItemsOf (fun i v => ∃ hi : i < es.size, v = es[i].key) acc es.size) : acc.toList = es.toList.map (·.key) := by
  apply List.ext_getElem?
  intro j
  rw [List.getElem?_map]
  cases hj : acc.toList[j]? with
  | none =>
    have h1 := List.getElem?_eq_none_iff.mp hj
    rw [Array.length_toList, h.1] at h1
    rw [List.getElem?_eq_none (by rw [Array.length_toList]; exact h1)]; rfl
  | some v =>
    obtain ⟨hi, hv⟩ := h.2 j v (by rw [← Array.getElem?_toList]; exact hj)
    rw [hv, Array.getElem?_toList, Array.getElem?_eq_getElem hi]; rfl
theorem b_srtk {m : Bool} (ok : Okx g X) : CallR X (.builtin "sorted") (rSrtk g E m) := by
  rintro pins s σ H xs us Q I rs ⟨κ, ρ, h, d, p, a, rfl, hp, c, r, w⟩
  obtain ⟨u, rfl, ru⟩ := vals1 rs
  cases ru
  have w : Wp g E κ ρ H (match keysD h d with
    | some xs => vSort m xs h
    | none => .bad) Q := w
  split at w
  · rename_i ys es
    have w : Wp g E κ ρ H (if ys.length ≤ big ∧ shps 7 ys = true ∧ alikes ys = true ∧ (ys.all isTup = true ∨ ys.all noTup = true) ∧ okSrt (isrt ys) = true then mk m (isrt ys) h else .bad) Q := w
    split at w
    · rename_i hc
      obtain ⟨c1, c2, c3, c4, c5⟩ := hc
      rw [← mergeSort_isrt c5] at w
      obtain ⟨a', _, ea, _, kv, vv, r1, r2, en⟩ := ents_of (X := X) c r es
      cases ea
      obtain ⟨lo, hz, es, ep, dr, v1, v2⟩ := en pins σ s I
      have hu := ok.u
      have e := each_of r1 v1
      have hl := v1.length
      have hl2 := r1.len
      have kvw : KdlKeysView s.heap p a := (I.hok p _ hp).1
      refine sort_call (R := StandsFor g κ ρ H) (bs := ys) (vs := es.toList.map (·.key)) (PyProof.Rows.args_sorted1 _) e (lineOf c1) (alikes_ok c3) (sortable_ok c4) (fun b hb => ?_) (fun A' R' hA k => ?_) fun h1 h' tk out cc k1 k2 at_ eo => ?_
      · have := (lay_of (shps_mem c2 b hb)).2
        omega
      · refine collect_kdl (kdlR_keys (es := es) (ep := ep)) (by rw [hA]; exact I.ok.hd ok.calm) ⟨kvw, dr⟩ (by
          have : es.size = kv.length := by rw [hl, List.length_map, Array.length_toList]
          omega) fun h' tk acc k1 it => ?_
        rw [items_keys it]
        exact k h' tk k1 (each_reads I ok.K k1 e c2)
      · obtain ⟨ws, q1, q2⟩ := of_each eo
        have I1 : Inv X pins σ H { s with heap := h1 } := I.kept (t' := s.toks) k1
        have hf : H h1.objs.size = none := I1.hok.fresh (Nat.le_refl _)
        have hws : ws.length ≤ sizeLine := by
          rw [q2.len, List.length_mergeSort]; exact lineOf c1
        refine ⟨.ref h1.objs.size, upd H h1.objs.size (.lst ws), I1.laid (t' := tk) k2 (Nat.le_refl _) ⟨hws, out, cc, q1, at_⟩, rfl, ?_⟩
        exact wp_mk c q2 w _ hf
    · exact absurd w id
  · exact absurd w id
variable {fo : DE} {σ : L2.St}
theorem view_of (X : Cx) {op : D → Hh → Oc D} {r : List V → Hp → VK → Prop} {Q : VK} (hop : ∀ d h, op d h ≠ .bad → ∃ ks, keysD h d = some ks)
    (hr : ∀ κ ρ h d p a H, H p = some (keysO p a) → CS g κ ρ h H → Rep g.K κ ρ H d (.ref a) → Wp g E κ ρ H (op d h) Q → r [.ref p] H Q) (w : RE g E (d1 op fo) σ H Q) : tView g E fo σ H fun v H1 => r [v] H1 Q := by
  obtain ⟨κ, ρ, env, h, S, w⟩ := w
  refine ⟨κ, ρ, env, h, S, ?_⟩
  have w := Wp.fst w
  revert w
  cases fo env h with
  | bad => exact id
  | ex x h' => exact id
  | ok d h1 =>
    intro w ρ1 x H1 k1 c1 q1
    obtain ⟨ρ2, d2, h2, k2, c2, q2, w2⟩ := w ρ1 x H1 k1 c1 q1
    have hb : op d2 h2 ≠ .bad := fun e => by rw [e] at w2; exact w2
    obtain ⟨ks, ek⟩ := hop d2 h2 hb
    obtain ⟨a, vs, ex, _⟩ := ents_of (X := X) c2 q2 ek
    refine ⟨κ, ρ2, h2, d2, ks, a, c2, ex, q2, ek, fun p hp => ?_⟩
    subst ex
    exact hr κ ρ2 h2 d2 p a _ upd_same (CS.laid c2 hp _) (q2.go (Go.laid c2 hp _)) (Wp.go (Go.laid c2 hp _) w2)
theorem p_srtk {m : Bool} {ek : Expr} {p pos : Pos} (ok : Okx g X) (hg : Gl X "sorted") (hm : X.mg "sorted" = none) (hk : PE X ek (tView g E fo)) (na : starEach [ek] X.env = (false, eval ek X.env) :: starEach [] X.env) :
    PE X (.Call (.Name "sorted" p) [ek] [] pos) (RE g E (d1 (vSrtk m) fo)) :=
  PE.imp (pe_callB (b_srtk (m := m) (E := E) ok) hg hm (by decide +kernel) (pa_cons hk pa_nil na) (by decide) (by decide) na rfl) fun σ H Q w =>
    view_of X (r := rSrtk g E m) (fun d h hb => by
      unfold vSrtk at hb
      cases e : keysD h d with
      | none => rw [e] at hb; exact absurd rfl hb
      | some ks => exact ⟨ks, rfl⟩) (fun κ ρ h d p a H e1 c r w => ⟨κ, ρ, h, d, p, a, rfl, e1, c, r, w⟩) w
end
end Q
end
section
namespace L2
open PySem PyProof.Rows PySem.W
section
variable {P : Program} {w : World} {A : Around} {E : Value → Shared → Prop} {s : Shared}
/-- the object of a set that is just made -/
abbrev nset (w : World) : Obj := { cls := .type "set", dict := none, data := .set #[] 0 (.fresh 0 0 (!w.params.followText "set-order")) }
abbrev hset (w : World) (h : Heap) : Heap := h.push (nset w)
/-- set(xs), xs a list of ints -/
theorem call_set_lstI {l : Addr} {items : Array Value} (ns : List Int) {Q : Value → Shared → Prop} (hh : A.handled = none) (hl : s.heap.IsList l items) (hit : IntsAre items.toList ns) (hb : ns.length + 1 < scanBound)
    (fin : ∀ (hp : Heap) (tk c : Nat), SetR w hp s.heap.objs.size (fun j => decide (j ∈ ns)) c → c ≤ ns.length → (∀ b o, s.heap.get? b = some o → hp.get? b = some o) → Q (.ref s.heap.objs.size) { s with heap := hp, toks := tk }) :
    wpAny (model P w) A (call (.type "set") [.ref l]) Q E s := by
  have sz : items.size = ns.length := by rw [← Array.length_toList]; exact IntsAre.length hit
  obtain ⟨c0, tl0, mro0⟩ := F.called_set.mro
  have md := F.called_set.made
  have sb := F.called_set.sub
  refine wpAny_call (codeAny_of_tree ?_)
  show wpAny _ _ (callAny (.type "set") _) _ _ _
  refine wpAny_pure ⟨Code.quiet_builtin _ (by decide +kernel), codeAny_builtin F.entry_type_call ?_⟩
  rw [Around.under_plain (weight_type_call_type "set" [.ref l] []) rfl]
  have nt := F.called_set.notType
  have cc := F.called_set.canCreate
  have tc := F.typeCall_set_1 (.ref l)
  repeat (any_goals (first | assumption | wp_step))
  refine codeAny_mono (code_set_led1 (.ref l) (E := E) (Q₁ := fun obj s₁ => obj = .ref s.heap.objs.size ∧ s₁ = { s with heap := hset w s.heap }) ⟨rfl, rfl⟩) fun r s₁ hr => ?_
  match r, hr with
  | .error e, hr => exact hr
  | .ok (.ret obj), ⟨e1, e2⟩ =>
    subst e1 e2
    have atS : (hset w s.heap).get? s.heap.objs.size = some (nset w) := Heap.get?_push_size _ rfl
    have tyS : Shared.TypeIs { s with heap := hset w s.heap } (.ref s.heap.objs.size) "set" := ⟨_, atS, rfl⟩
    have li := F.called_set.init.lookup
    have bi := F.called_set.init.bind (.ref s.heap.objs.size)
    repeat (any_goals (first | assumption | wp_step))
    refine codeAny_mono (codeAny_call_builtin (R := wants (fun r s₂ => r = .none ∧ ∃ hp tk c, s₂ = { s with heap := hp, toks := tk } ∧ SetR w hp s.heap.objs.size (fun j => decide (j ∈ ns)) c ∧ c ≤ ns.length ∧
      (∀ b o, s.heap.get? b = some o → hp.get? b = some o)) E) F.called_set.init.plain F.entry_set_init (check_set_init_1 tyS ?_)) fun r₂ s₂ hr₂ => ?_
    · obtain ⟨⟨ocls, odict, odata, oslots⟩, ol, ocl, nl, odl⟩ := hl
      simp only at ocl odl
      subst ocl odl
      have up1 : (hset w s.heap).get? l = some { cls := .type "list", dict := odict, data := .seq items nl, slots := oslots } := Heap.get?_push_of_some _ ol
      have q1 := F.sub_list_set
      have q2 := F.sub_list_frozenset
      have q3 : (Value.type "list" == Value.type "dict") = false := by decide
      have ls : (hset w s.heap).IsList l items := ⟨_, up1, rfl, nl, rfl⟩
      unfold Builtin.«set.__init__» noKeywords Builtin.Frozenset.updateFrom
      generalize gP : pyIter = PI
      wp_walk
      subst gP
      refine wpAny_pyIter_list ls (wpAny_bind (wpAny_runValue ?_))
      have lS : l < s.heap.objs.size := Heap.lt_size ol
      have h3 : A.in1.in1.in1.handled = none := by simp [hh]
      have z1 : (hset w s.heap).objs.size = s.heap.objs.size + 1 := Heap.size_push ..
      have neI : l ≠ (hset w s.heap).objs.size := by
        have lS : l < s.heap.objs.size := lS
        intro z
        rw [z, z1] at lS
        exact Nat.not_succ_lt_self lS
      have nf : s.heap.objs.size ∉ [(hset w s.heap).objs.size, l] := by
        rw [z1]
        intro z
        rcases List.mem_cons.mp z with z | z
        · exact Nat.succ_ne_self _ z.symm
        · rw [← List.mem_singleton.mp z] at lS; exact Nat.lt_irrefl _ lS
      have vals : ∀ (i : Nat) (v : Value), items[i]? = some v → ∃ k t, ns[i]? = some k ∧ v = .int k t := fun i v hv => by
        have hi : i < ns.length := by rw [← sz]; exact (Array.getElem?_eq_some_iff.mp hv).1
        obtain ⟨t, e⟩ := PyProof.Rows.IntsAre.int_at hit i v (by rw [Array.getElem?_toList]; exact hv)
        rw [List.getD_eq_getElem?_getD, List.getElem?_eq_getElem hi] at e
        exact ⟨ns[i], t, List.getElem?_eq_getElem hi, e⟩
      refine set_update_ints ((Walks.list h3 _ l neI items).toS) s.heap.objs.size nf ns sz hb vals (items.size - 0) 0 _ (by omega) (Nat.zero_le _) ⟨⟨_, Heap.get?_push_size _ rfl, rfl, rfl⟩, (ls.push _)⟩ ⟨0, Nat.le_refl 0, setR_new_at (Heap.get?_push_of_some _ atS)⟩ ?hR
      intro s' c' mv hc' hS'
      obtain ⟨hp, g2, d', tk', os'⟩ := s'
      have e1 : g2 = s.gens := mv.gens
      have e2 : d' = s.drawn := mv.drawn
      have e3 : os' = s.os := mv.os
      subst e1 e2 e3
      show wpAny _ _ _ _ _ _
      refine wpAny_pure ?_
      show wpAny _ _ (ret Value.none) _ _ _
      rw [sz] at hc'
      refine wpAny_pure ⟨rfl, hp, tk', c', rfl, hS', hc', fun b o e => mv.heap b o ?_ (Heap.get?_push_of_some _ (Heap.get?_push_of_some _ e))⟩
      have lb : b < s.heap.objs.size := Heap.lt_size e
      rw [z1]
      intro z
      rcases List.mem_cons.mp z with z | z
      · rw [z] at lb; exact Nat.lt_irrefl _ lb
      · rw [List.mem_singleton.mp z] at lb; exact Nat.not_succ_lt_self lb
    · match r₂, hr₂ with
      | .error e, hr₂ => exact hr₂
      | .ok (.ret r), ⟨e1, hp, tk, c', e2, hS', hc', keep⟩ =>
        subst e1 e2
        repeat (any_goals (first | assumption | wp_step))
        exact fin _ _ _ hS' hc' keep
end
end L2
namespace Q
open PySem PySem.Spec L2 PySem.W PyProof.Rows
theorem mem_insI {i k : Int} : ∀ {l : List Int}, k ∈ insI i l ↔ k = i ∨ k ∈ l
  | [] => by simp [insI]
  | j :: r => by
    unfold insI
    split
    · simp
    · split
      · rename_i e; subst e; simp
      · rw [List.mem_cons, mem_insI (l := r), List.mem_cons]
        constructor
        · rintro (h | h | h) <;> simp [h]
        · rintro (h | h | h) <;> simp [h]
theorem mem_sset {k : Int} : ∀ {ns : List Int}, k ∈ sset ns ↔ k ∈ ns
  | [] => by simp [sset]
  | n :: ns => by
    show k ∈ insI n (sset ns) ↔ _
    rw [mem_insI, mem_sset (ns := ns), List.mem_cons]
theorem ins_pw {i : Int} : ∀ {l : List Int}, l.Pairwise (· < ·) → (insI i l).Pairwise (· < ·)
  | [], _ => by simp [insI]
  | j :: r, h => by
    obtain ⟨h1, h2⟩ := List.pairwise_cons.mp h
    unfold insI
    split
    · rename_i e
      exact List.pairwise_cons.mpr ⟨fun k hk => by
        rcases List.mem_cons.mp hk with z | z
        · rw [z]; exact e
        · exact Int.lt_trans e (h1 k z), h⟩
    · split
      · exact h
      · rename_i e1 e2
        exact List.pairwise_cons.mpr ⟨fun k hk => by
          rcases mem_insI.mp hk with z | z
          · rw [z]; omega
          · exact h1 k z, ins_pw h2⟩
theorem sset_pw : ∀ ns : List Int, (sset ns).Pairwise (· < ·)
  | [] => List.Pairwise.nil
  | n :: ns => ins_pw (sset_pw ns)
theorem pw_uniq : ∀ {l m : List Int}, l.Pairwise (· < ·) → m.Pairwise (· < ·) → (∀ k, k ∈ l ↔ k ∈ m) → l = m
  | [], [], _, _, _ => rfl
  | [], y :: m, _, _, e => absurd ((e y).mpr List.mem_cons_self) (by simp)
  | x :: l, [], _, _, e => absurd ((e x).mp List.mem_cons_self) (by simp)
  | x :: l, y :: m, h1, h2, e => by
    obtain ⟨a1, a2⟩ := List.pairwise_cons.mp h1
    obtain ⟨b1, b2⟩ := List.pairwise_cons.mp h2
    have exy : x = y := by
      rcases List.mem_cons.mp ((e x).mp List.mem_cons_self) with z | z
      · exact z
      · rcases List.mem_cons.mp ((e y).mpr List.mem_cons_self) with w | w
        · exact w.symm
        · have := b1 x z
          have := a1 y w
          omega
    subst exy
    rw [pw_uniq a2 b2 fun k => ?_]
    constructor
    · intro hk
      rcases List.mem_cons.mp ((e k).mp (List.mem_cons_of_mem _ hk)) with z | z
      · have := a1 k hk; omega
      · exact z
    · intro hk
      rcases List.mem_cons.mp ((e k).mpr (List.mem_cons_of_mem _ hk)) with z | z
      · have := b1 k hk; omega
      · exact z
section
variable {g : G} {E : XK} {κ ρ : List Addr} {H : Hp} {h : Hh} {X : Cx} {fo : DE} {σ : L2.St} {a : Expr} {p pos : Pos}
/-- set(xs) of ints -/
def rSetI (X : Cx) : List V → Hp → VK → Prop := fun vs H Q => ∃ (l : Addr) (ns : List Int), vs = [.ref l] ∧ (SqL X.K H l (ns.map V.int) ∨ SqT X.K H l (ns.map V.int)) ∧ ns.length ≤ 1000 ∧
  ∀ p n, H p = none → n = (sset ns).length → Q (.ref p) (upd H p (SetO X.w p (fun j => decide (j ∈ ns)) n))
theorem setR_card {w : World} {hp : Heap} {a : Addr} {ns : List Int} {c : Nat} (R : SetR w hp a (fun j => decide (j ∈ ns)) c) : c = (sset ns).length := by
  obtain ⟨o, es, ep, t, ho, hex, hd, gd, nd, mem, hb, hf, hn, _⟩ := R
  have e1 : (es.toList.map L2.keyOf).Perm (sset ns) := by
    refine (List.perm_ext_iff_of_nodup nd ((sset_pw ns).imp fun {x y} z => by omega)).mpr fun k => ?_
    rw [← mem k, mem_sset]
    simp
  have := e1.length_eq
  rw [List.length_map, Array.length_toList] at this
  omega
theorem b_set (ok : Okx g X) : CallR X (.type "set") (rSetI X) := by
  rintro pins s σ H vs us Q I r ⟨l, ns, rfl, hs, hl, q⟩
  rw [Vals.ref1 r]
  have done : ∀ (hp : Heap) (tk c : Nat), SetR X.w hp s.heap.objs.size (fun j => decide (j ∈ ns)) c → c ≤ ns.length → (∀ b o, s.heap.get? b = some o → hp.get? b = some o) → EP X pins σ Q (.ref s.heap.objs.size) { s with heap := hp, toks := tk } := fun hp tk c R hc keep =>
    ⟨.ref s.heap.objs.size, _, I.laid keep (Nat.le_refl _) (setO_new R), rfl, q _ _ (I.hok.fresh (Nat.le_refl _)) (setR_card R)⟩
  have hb : ns.length + 1 < scanBound := by unfold scanBound; omega
  rcases hs with hs | hs
  · obtain ⟨its, rv, pl, hz⟩ := I.list hs
    exact call_set_lstI ns (I.ok.hd ok.calm) pl.isList (by simpa using rv.ints) hb done
  · obtain ⟨its, rv, pl, hz⟩ := I.tuple hs
    exact call_set_tupI ns (I.ok.hd ok.calm) pl (by simpa using rv.ints) hb done
/-- len(set) -/
def rLenSet (X : Cx) : List V → Hp → VK → Prop := fun vs H Q => ∃ p n ns, vs = [.ref p] ∧ H p = some (SetO X.w p (fun j => decide (j ∈ ns)) n) ∧ ns.length ≤ 1000 ∧ Q (.int (sset ns).length) H
theorem b_lens : CallR X (.builtin "len") (rLenSet X) := by
  rintro pins s σ H vs us Q I r ⟨p, n, ns, rfl, hp, hl, q⟩
  rw [Vals.ref1 r]
  obtain ⟨o, es, ep, t, ho, hex, hd, gd, nd, mem, hb, hf, hn, _⟩ := setO_get I hp
  have hlen : es.size = (sset ns).length := by
    have e1 : (es.toList.map L2.keyOf).Perm (sset ns) := by
      refine (List.perm_ext_iff_of_nodup nd ((sset_pw ns).imp fun {x y} z => by omega)).mpr fun k => ?_
      rw [← mem k, mem_sset]
      simp
    have := e1.length_eq
    rw [List.length_map, Array.length_toList] at this
    exact this
  refine call_len_set ho hex hd hf (by unfold scanBound at hb; omega) ⟨.int (sset ns).length, H, I.tok _, ⟨_, by rw [hlen]⟩, q⟩
theorem ints_rep2 {K : PySem.W.Frag} : ∀ {ds : List D} {vs : List V} {ns : List Int}, Reps K κ ρ H ds vs → intsOf ds = some ns → vs = ns.map V.int
  | [], _, _, r, e => by cases r; cases e; rfl
  | d :: ds, _, ns, ⟨v, r, ev, r1, r2⟩, e => by
    subst ev
    cases d with
    | int i =>
      simp only [intsOf, Option.map_eq_some_iff] at e
      obtain ⟨ms, e1, e2⟩ := e
      subst e2
      rw [ints_rep2 r2 e1, show v = V.int i from r1]; rfl
    | _ => cases e
theorem reps_ints2 {K : PySem.W.Frag} : ∀ ns : List Int, Reps K κ ρ H (ns.map .int) (ns.map V.int)
  | [] => rfl
  | n :: ns => ⟨_, _, rfl, rfl, reps_ints2 ns⟩
end
end Q
end
section
namespace PySem.W
open PySem PySem.Calls PyProof.Rows
theorem slot_keys_len : Slot "dict_keys" "__len__" "dict_keys.__len__" :=
  .of (owner := "dict_keys") (n := "__len__") kdl_len_keys (by decide +kernel) (by decide +kernel) (by decide +kernel) (.inl (by decide +kernel)) (by rw [isSubtype_type]; kernel_rfl)
theorem entry_keys_len : entryFor table "dict_keys.__len__" = some Builtin.«dict_items.__len__» := entryFor_alias (id' := "dict_items.__len__") (by kernel_rfl) (by decide +kernel) (by decide +kernel) (by kernel_rfl)
theorem args_keys_len (a : Value) : argsOk "dict_keys.__len__" ⟨[a], []⟩ := by
  unfold argsOk
  rw [signature?_of (id := "dict_keys.__len__") (n := ['_', '_', 'n', 'e', 'l', '_', '_']) (o := ['s', 'y', 'e', 'k', '_', 't', 'c', 'i', 'd']) (by kernel_rfl) kdl_owner_keys]; kernel_rfl
end PySem.W
namespace PySem.W
open PySem PySem.Calls PyProof.Rows
section
variable {prog : Program} {w : World} {A : Around} {E : Value → Shared → Prop} {s : Shared} {r d : Addr} {es : Array DictEntry} {ep : Nat}
theorem keys_len (A' : Around) {F : PySem.Fin → Shared → Prop} {E' : Value → Shared → Prop} (hv : KdlKeysView s.heap r d) (hm : s.heap.DictRaw d es ep) (q : F (.done (.ret (.int es.size s.toks))) { s with toks := s.toks + 1 }) :
    wpAny (model prog w) A' (Builtin.«dict_items.__len__» ⟨[.ref r], []⟩) F E' s := by
  obtain ⟨ov, hov, hcv, hdv⟩ := hv
  obtain ⟨o, ho, hc, hdat⟩ := hm
  unfold Builtin.«dict_items.__len__»
  refine wpAny_bind (wpAny_pure ?_)
  refine wpAny_bind ?_
  unfold Builtin.Dict_items.dictOf
  refine wpAny_bind (wpAny_field hov hdv (x := .ref d) rfl (wpAny_pure ?_))
  exact wpAny_bind (wpAny_dictEntries ho hdat (show wpAny _ _ (mkInt es.size >>= fun v => ret v) _ _ _ from wpAny_bind (wpAny_mkInt (wpAny_pure q))))
theorem call_len_keys {Q : Value → Shared → Prop} (hv : KdlKeysView s.heap r d) (hm : s.heap.DictRaw d es ep) (hfit : (es.size : Int) < 2 ^ 63) (q : Q (.int es.size (s.toks + 1)) { s with toks := s.toks + 1 + 1 }) :
    wpAny (model prog w) A (call (.builtin "len") [.ref r]) Q E s := by
  refine Calls.call_function_entry kind_len plain_len entry_len (args_len1 _) ?_
  unfold Builtin.«len»
  refine wpAny_bind (m := oneArg "len" _) (wpAny_pure ?_)
  refine wpAny_bind (m := callSpecial? (.ref r) (Str.ofString "__len__")) (wpAny_callSpecial?_slot (name := Str.ofString "__len__") hv.typeIs slot_keys_len (wpAny_call_entry slot_keys_len hv.typeIs entry_keys_len (keys_len _ hv hm ⟨_, rfl, ?_⟩) (args_keys_len _)))
  show wpAny _ _ _ _ _ { s with toks := s.toks + 1 }
  refine wpAny_bind (wpAny_holding (wpAny_pure ?_))
  refine wpAny_bind (wpAny_letGo ?_)
  show wpAny _ _ (if ((es.size : Nat) : Int) < 0 then _ else _) _ _ _
  rw [if_neg (by omega)]
  show wpAny _ _ (if ((es.size : Nat) : Int) ≥ 2 ^ 63 then _ else _) _ _ _
  rw [if_neg (by omega)]
  exact wpAny_bind (wpAny_mkInt (wpAny_pure ⟨_, rfl, q⟩))
end
end PySem.W
namespace Q
open PySem PySem.Spec L2 PySem.W PyProof.Rows
section
variable {g : G} {E : XK} {κ ρ : List Addr} {H : Hp} {h : Hh} {X : Cx} {fo : DE} {σ : L2.St}
/-- len(o.keys()) -/
def rLenk (g : G) (E : XK) : List V → Hp → VK → Prop := fun xs H Q => ∃ κ ρ h d p a, xs = [.ref p] ∧ H p = some (keysO p a) ∧ CS g κ ρ h H ∧ Rep g.K κ ρ H d (.ref a) ∧ Wp g E κ ρ H (vLenk d h) Q
theorem b_lenk : CallR X (.builtin "len") (rLenk g E) := by
  rintro pins s σ H xs us Q I rs ⟨κ, ρ, h, d, p, a, rfl, hp, c, r, w⟩
  obtain ⟨u, rfl, ru⟩ := vals1 rs
  cases ru
  unfold vLenk at w
  split at w
  · rename_i ys ey
    obtain ⟨a', _, ea, _, kv, vv, r1, r2, en⟩ := ents_of (X := X) c r ey
    cases ea
    obtain ⟨lo, hz, es, ep, dr, v1, v2⟩ := en pins σ s I
    have hn : es.size = ys.length := by
      rw [← r1.len, v1.length, List.length_map, Array.length_toList]
    refine call_len_keys (I.hok p _ hp).1 dr (by rw [hn, ← r1.len]; rw [sizeLine_eq] at hz; omega) ⟨.int ys.length, H, I.tok _, ⟨_, by rw [hn]⟩, wp_int c w⟩
  · exact absurd w id
theorem p_lenk {ek : Expr} {p pos : Pos} (ok : Okx g X) (hg : Gl X "len") (hm : X.mg "len" = none) (hk : PE X ek (tView g E fo)) (na : starEach [ek] X.env = (false, eval ek X.env) :: starEach [] X.env) :
    PE X (.Call (.Name "len" p) [ek] [] pos) (RE g E (d1 vLenk fo)) :=
  PE.imp (pe_callB (b_lenk (g := g) (E := E)) hg hm (by decide +kernel) (pa_cons hk pa_nil na) (by decide) (by decide) na rfl) fun σ H Q w =>
    view_of X (r := rLenk g E) (fun d h hb => by
      unfold vLenk at hb
      cases e : keysD h d with
      | none => rw [e] at hb; exact absurd rfl hb
      | some ks => exact ⟨ks, rfl⟩) (fun κ ρ h d p a H e1 c r w => ⟨κ, ρ, h, d, p, a, rfl, e1, c, r, w⟩) w
end
end Q
end
section
open PySem PySem.Spec L2 PySem.W PyProof.Rows
namespace Q
section
variable {prog : Program} {w : World} {A : Around} {K : Value → Shared → Prop} {s : Shared}
theorem ent_at {es : Array DictEntry} {f : DictEntry → Value} {i : Nat} {v : Value} (h : ∃ hi : i < es.size, v = f es[i]) : (es.toList.map f).toArray[i]? = some v := by
  obtain ⟨hi, rfl⟩ := h
  rw [List.getElem?_toArray, List.getElem?_map, Array.getElem?_toList, Array.getElem?_eq_getElem hi]; rfl
/-- min of the keys of a dict: which one -/
theorem min_keys {v d : Addr} {es : Array DictEntry} {ep : Nat} {xs : List PyData} {as : List Addr} {Z : Value → Shared → Prop} (hh : A.handled = none) (hv : KdlKeysView s.heap v d) (hm : s.heap.DictRaw d es ep) (hr : ReadsAll s.heap (es.toList.map (·.key)) xs as)
    (ha : AlikeAll xs) (hu : A.units + 1 + PyData.depthAll xs < cLine) (hn : 0 < es.size)
    (h : ∀ v h' tk, (es.toList.map (·.key))[argBest (fun i j => dataLt (xs.getD i .none) (xs.getD j .none)) (es.size - 1)]? = some v → (∀ b o, s.heap.get? b = some o → h'.get? b = some o) → Z v { s with heap := h', toks := tk }) :
    wpAny (model prog w) A (call (.builtin "min") [.ref v]) Z K s := by
  have c := cmpIn_lt (prog := prog) (w := w) (A := A.in1) (vs := (es.toList.map (·.key)).toArray) (by simpa using hr) ha hu
  have hlt : d < s.heap.objs.size := by obtain ⟨_, e, _⟩ := hm; exact Heap.lt_size e
  refine call_min_walkH (wpAny_pyIter_keys_raw hv hm ?_)
  refine ⟨_, _, _, _, _, _, _, s.heap, _, rfl, (Walks.rawKeys (prog := prog) (w := w) (A := A.in1) hh s.heap.objs.size d (Nat.ne_of_lt hlt) es ep).toS, ⟨⟨_, Heap.get?_push_size _ rfl, rfl, rfl⟩, hm.at fun o e => Heap.get?_push_of_some _ e⟩, fun b hb => ?_, hn, fun b o e hb => ?_, fun b o e => Heap.get?_push_of_some _ e,
    fun i j vi vj s' Q E hk hi hj hq => c i j vi vj s' Q E hk (ent_at hi) (ent_at hj) hq, fun v s' hP m => ?_⟩
  · show b < (s.heap.push _).objs.size
    rw [Heap.size_push]
    rcases List.mem_cons.mp hb with rfl | hb
    · exact Nat.lt_succ_self _
    · rcases List.mem_cons.mp hb with rfl | hb
      · exact Nat.lt_succ_of_lt hlt
      · cases hb
  · exact absurd (Heap.lt_size e) ((List.mem_singleton.mp hb) ▸ Nat.lt_irrefl _)
  · obtain ⟨h', tk, rfl, k⟩ := moved_old rfl rfl m
    refine h v h' tk ?_ k
    have := ent_at (f := fun e => e.key) hP
    rwa [List.getElem?_toArray] at this
theorem max_vals {v d : Addr} {es : Array DictEntry} {ep : Nat} {xs : List PyData} {as : List Addr} {Z : Value → Shared → Prop} (hh : A.handled = none) (hv : s.heap.IsValuesView v d) (hm : s.heap.DictRaw d es ep) (hr : ReadsAll s.heap (es.toList.map (·.val)) xs as)
    (ha : AlikeAll xs) (hu : A.units + 1 + PyData.depthAll xs < cLine) (hn : 0 < es.size)
    (h : ∀ v h' tk, (es.toList.map (·.val))[argBest (fun i j => dataLt (xs.getD j .none) (xs.getD i .none)) (es.size - 1)]? = some v → (∀ b o, s.heap.get? b = some o → h'.get? b = some o) → Z v { s with heap := h', toks := tk }) :
    wpAny (model prog w) A (call (.builtin "max") [.ref v]) Z K s := by
  have c := cmpIn_gt (prog := prog) (w := w) (A := A.in1) (vs := (es.toList.map (·.val)).toArray) (by simpa using hr) ha hu
  have hlt : d < s.heap.objs.size := by obtain ⟨_, e, _⟩ := hm; exact Heap.lt_size e
  refine call_max_walkH (wpAny_pyIter_values_raw hv hm ?_)
  refine ⟨_, _, _, _, _, _, _, s.heap, _, rfl, (Walks.rawValues (prog := prog) (w := w) (A := A.in1) hh s.heap.objs.size d (Nat.ne_of_lt hlt) es ep).toS, ⟨⟨_, Heap.get?_push_size _ rfl, rfl, rfl⟩, hm.at fun o e => Heap.get?_push_of_some _ e⟩, fun b hb => ?_, hn, fun b o e hb => ?_, fun b o e => Heap.get?_push_of_some _ e,
    fun i j vi vj s' Q E hk hi hj hq => c i j vi vj s' Q E hk (ent_at hi) (ent_at hj) hq, fun v s' hP m => ?_⟩
  · show b < (s.heap.push _).objs.size
    rw [Heap.size_push]
    rcases List.mem_cons.mp hb with rfl | hb
    · exact Nat.lt_succ_self _
    · rcases List.mem_cons.mp hb with rfl | hb
      · exact Nat.lt_succ_of_lt hlt
      · cases hb
  · exact absurd (Heap.lt_size e) ((List.mem_singleton.mp hb) ▸ Nat.lt_irrefl _)
  · obtain ⟨h', tk, rfl, k⟩ := moved_old rfl rfl m
    refine h v h' tk ?_ k
    have := ent_at (f := fun e => e.val) hP
    rwa [List.getElem?_toArray] at this
end
section
variable {g : G} {E : XK} {κ ρ : List Addr} {H : Hp} {h : Hh} {X : Cx} {fo : DE} {σ : L2.St}
def rMink (g : G) (E : XK) : List V → Hp → VK → Prop := fun xs H Q => ∃ κ ρ h d p a, xs = [.ref p] ∧ H p = some (keysO p a) ∧ CS g κ ρ h H ∧ Rep g.K κ ρ H d (.ref a) ∧ Wp g E κ ρ H (vMink d h) Q
theorem b_mink (ok : Okx g X) : CallR X (.builtin "min") (rMink g E) := by
  rintro pins s σ H xs us Z I rs ⟨κ, ρ, h, d, p, a, rfl, hp, c, r, w⟩
  obtain ⟨u, rfl, ru⟩ := vals1 rs
  cases ru
  unfold vMink at w
  split at w
  · rename_i a0 rr0 ey
    split at w
    · rename_i hc
      obtain ⟨c1, c2, c3, c4⟩ := hc
      obtain ⟨a', _, ea, _, kv, vv, r1, r2, en⟩ := ents_of (X := X) c r ey
      cases ea
      obtain ⟨lo, hz, es, ep, dr, v1, v2⟩ := en pins σ s I
      have hu := ok.u
      have e := each_of r1 v1
      have ln := v1.length
      have ln2 := r1.len
      obtain ⟨as, ra⟩ := reads_all (each_reads I ok.K (fun _ _ z => z) e c2)
      have dp := (lays_of c2).2
      rw [pys_map] at dp
      have hs : es.size = rr0.length + 1 := by
        have h1 : es.size = (a0 :: rr0).length := by rw [← r1.len, v1.length, List.length_map, Array.length_toList]
        rw [h1, List.length_cons]
      refine min_keys (I.ok.hd ok.calm) (I.hok p _ hp).1 dr ra ⟨alikes_ok c3, tup_not c4⟩ (by omega) (by omega) fun v h' tk hv k => ?_
      obtain ⟨m, hm, x, rx, px⟩ := each_pos e _ v hv
      refine ⟨x, H, I.kept (t' := tk) k, rx, ?_⟩
      have ef := (argBest_fold (fun u y => dataLt (py u) (py y)) D.non a0 rr0 rr0.length (Nat.le_refl _)).2
      rw [List.take_length] at ef
      have ee : (fun i j => dataLt (((a0 :: rr0).map py).getD i .none) (((a0 :: rr0).map py).getD j .none)) = fun i j => dataLt (py ((a0 :: rr0).getD i .non)) (py ((a0 :: rr0).getD j .non)) := by
        funext i j
        rw [py_getD, py_getD]
      rw [ee, show es.size - 1 = rr0.length by omega] at hm
      have em : m = fstL a0 rr0 := by
        unfold fstL
        rw [← ef, List.getD_eq_getElem?_getD, hm]
        rfl
      rw [em] at px
      exact wp_at c px w
    · exact absurd w id
  · exact absurd w id
theorem p_mink {ek : Expr} {p pos : Pos} (ok : Okx g X) (hg : Gl X "min") (hm : X.mg "min" = none) (hk : PE X ek (tView g E fo)) (na : starEach [ek] X.env = (false, eval ek X.env) :: starEach [] X.env) :
    PE X (.Call (.Name "min" p) [ek] [] pos) (RE g E (d1 vMink fo)) :=
  PE.imp (pe_callB (b_mink (g := g) (E := E) ok) hg hm (by decide +kernel) (pa_cons hk pa_nil na) (by decide) (by decide) na rfl) fun σ H Q w =>
    view_of X (r := rMink g E) (fun d h hb => by
      unfold vMink at hb
      cases e : keysD h d with
      | none => rw [e] at hb; exact absurd rfl hb
      | some ks => exact ⟨ks, rfl⟩) (fun κ ρ h d p a H e1 c r w => ⟨κ, ρ, h, d, p, a, rfl, e1, c, r, w⟩) w
/-! ## max(d.values()), whole numbers -/
def valsO (p d : Addr) : HO := .ext fun h => h.IsValuesView p d
theorem valsO_ok {P : Program} {w : World} {H : Hp} {h : Heap} {p d : Addr} (e : h.get? p = some { cls := .type "dict_values", data := .fields #[.ref d] }) : ObjOk P w H h p (valsO p d) :=
  ⟨⟨_, e, rfl, rfl⟩, ⟨_, e⟩, fun h1 h2 x k => let ⟨o, ho, r⟩ := x; ⟨o, k o ho, r⟩⟩
def tViewV (g : G) (E : XK) (fo : DE) : TE := fun σ H Q => RE g E fo σ H fun x H1 => ∃ κ ρ h d ks a, CS g κ ρ h H1 ∧ x = .ref a ∧ Rep g.K κ ρ H1 d x ∧ keysD h d = some ks ∧ ∀ p, H1 p = none → Q (.ref p) (upd H1 p (valsO p a))
theorem p_vals {o : Expr} {apos cpos : Pos} (ok : Okx g X) (ho : PE X o (RE g E fo)) (hbase : attributeBase o "values" X.env (eval o X.env) = eval o X.env) (hline : (apos.endLine == cpos.line) = true) :
    PE X (.Call (.Attribute o "values" apos) [] [] cpos) (tViewV g E fo) := by
  refine ⟨fun pins s σ H Q I w => ?_⟩
  refine wpAny_Call_method0_late hbase hline ?_
  refine thn (ho.run pins s σ H _ I w) fun v s1 ⟨x, H1, I1, rv, κ, ρ, h, d, ks, a, c, ex, r, ek, q⟩ => ?_
  obtain ⟨z1, z2⟩ := ty_dict I1 ok c r rv (keys_dct ek)
  refine ⟨"dict", _, PySem.F.plainAttrs_dict, PySem.F.slot_dict_values, PySem.F.type_dict_values, z1, z2, Calls.callWith_builtin rfl (PySem.evalArgs_none ?_)⟩
  obtain ⟨a', vs, ex', _, kv, vv, _, _, en⟩ := ents_of (X := X) c r ek
  rw [ex] at ex'
  cases ex'
  obtain ⟨lo, _, es, ep, dr, _, _⟩ := en pins σ s1 I1
  subst ex
  cases rv
  refine call_meetsIn PySem.F.slot_dict_values z1 PySem.F.entry_dict_values (PySem.F.args_dict_values_1 _) (meets_dict_values_raw a lo) ⟨⟨es, ep, dr⟩, ?_⟩
  have hf : H1 s1.heap.objs.size = none := I1.hok.fresh (Nat.le_refl _)
  exact ⟨.ref s1.heap.objs.size, upd H1 s1.heap.objs.size (valsO s1.heap.objs.size a), I1.laid (t' := s1.toks) (fun b u e => Heap.get?_push_of_some _ e) (Nat.le_refl _) (valsO_ok (Heap.get?_push_size _ rfl)), rfl, q _ hf⟩
def rMaxv (g : G) (E : XK) : List V → Hp → VK → Prop := fun xs H Q => ∃ κ ρ h d p a, xs = [.ref p] ∧ H p = some (valsO p a) ∧ CS g κ ρ h H ∧ Rep g.K κ ρ H d (.ref a) ∧ Wp g E κ ρ H (vMaxv d h) Q
theorem ints_all : ∀ {ds : List D} {ns : List Int}, intsOf ds = some ns → ds = ns.map .int
  | [], ns, e => by cases e; rfl
  | .int i :: r, ns, e => by
    unfold intsOf at e
    cases q : intsOf r with
    | none => rw [q] at e; cases e
    | some m => rw [q] at e; cases e; rw [ints_all q]; rfl
  | .non :: _, _, e => by cases e
  | .bl _ :: _, _, e => by cases e
  | .str _ :: _, _, e => by cases e
  | .tup _ :: _, _, e => by cases e
  | .pr _ :: _, _, e => by cases e
  | .fl _ :: _, _, e => by cases e
  | .rl _ :: _, _, e => by cases e
  | .ml _ :: _, _, e => by cases e
  | .md _ :: _, _, e => by cases e
  | .fn _ :: _, _, e => by cases e
theorem shps_ints (n : Nat) : ∀ ns : List Int, shps n (ns.map D.int) = true
  | [] => by rw [List.map_nil, shps]
  | i :: ns => by
    rw [List.map_cons, shps, shps_ints n ns]
    cases n <;> (unfold shp; rfl)
theorem b_maxv (ok : Okx g X) : CallR X (.builtin "max") (rMaxv g E) := by
  rintro pins s σ H xs us Z I rs ⟨κ, ρ, h, d, p, a, rfl, hp, c, r, w⟩
  obtain ⟨u, rfl, ru⟩ := vals1 rs
  cases ru
  unfold vMaxv at w
  split at w
  · rename_i a0 rr0 ey
    split at w
    · rename_i hb
      obtain ⟨ks, ek⟩ : ∃ ks, keysD h d = some ks := by
        cases q : valsD h d with
        | none => rw [q] at ey; cases ey
        | some vs =>
          cases d with
          | md i =>
            simp only [valsD] at q
            simp only [keysD]
            split at q
            · exact ⟨_, rfl⟩
            · exact ⟨_, rfl⟩
            · cases q
          | _ => cases q
      obtain ⟨a', vs, ea, ev, kv, vv, r1, r2, en⟩ := ents_of (X := X) c r ek
      cases ea
      rw [ev] at ey
      have evs : vs = (a0 :: rr0).map .int := ints_all ey
      subst evs
      obtain ⟨lo, hz, es, ep, dr, v1, v2⟩ := en pins σ s I
      have hu := ok.u
      have e := each_of r2 v2
      have ln := v2.length
      have ln2 := r2.len
      have c2 := shps_ints 7 (a0 :: rr0)
      obtain ⟨as, ra⟩ := reads_all (each_reads I ok.K (fun _ _ z => z) e c2)
      have dp := (lays_of c2).2
      rw [pys_map] at dp
      have hs : es.size = rr0.length + 1 := by
        have h1 : es.size = ((a0 :: rr0).map D.int).length := by rw [← r2.len, v2.length, List.length_map, Array.length_toList]
        rw [h1, List.length_map, List.length_cons]
      have al : AlikeAll (((a0 :: rr0).map D.int).map py) := by
        rw [List.map_map]
        refine ⟨fun x hx y hy => ?_, fun x hx => ?_⟩
        · obtain ⟨i, _, rfl⟩ := List.mem_map.mp hx
          obtain ⟨j, _, rfl⟩ := List.mem_map.mp hy
          rfl
        · obtain ⟨i, _, rfl⟩ := List.mem_map.mp hx
          simp [py]
      refine max_vals (I.ok.hd ok.calm) (I.hok p _ hp).1 dr ra al (by omega) (by omega) fun v h' tk hv k => ?_
      obtain ⟨m, hm, x, rx, px⟩ := each_pos e _ v hv
      refine ⟨x, H, I.kept (t' := tk) k, rx, ?_⟩
      have ef := (argBest_fold (fun u y => dataLt (py y) (py u)) D.non (.int a0) (rr0.map .int) (rr0.map D.int).length (Nat.le_refl _)).2
      rw [List.take_length, List.length_map] at ef
      have ee : (fun i j => dataLt ((((a0 :: rr0).map D.int).map py).getD j .none) ((((a0 :: rr0).map D.int).map py).getD i .none)) = fun i j => dataLt (py ((D.int a0 :: rr0.map .int).getD j .non)) (py ((D.int a0 :: rr0.map .int).getD i .non)) := by
        funext i j
        rw [py_getD, py_getD]; rfl
      rw [ee, show es.size - 1 = rr0.length by omega] at hm
      have hm : (D.int a0 :: rr0.map .int)[argBest (fun i j => dataLt (py ((D.int a0 :: rr0.map .int).getD j .non)) (py ((D.int a0 :: rr0.map .int).getD i .non))) rr0.length]? = some m := hm
      have fl : ∀ (r : List Int) (a : Int), (r.map D.int).foldl (fun a y => if dataLt (py a) (py y) then y else a) (.int a) = .int (vMax a r) := fun r => by
        induction r with
        | nil => intro a; rfl
        | cons b r ih =>
          intro a
          rw [List.map_cons, List.foldl_cons]
          have : (if dataLt (py (.int a)) (py (.int b)) = true then D.int b else .int a) = .int (if b > a then b else a) := by
            show (if dataLt (.int a) (.int b) = true then D.int b else .int a) = _
            rw [dataLt_int]
            by_cases z : a < b <;> simp [z]
          rw [this, ih]; rfl
      have em : m = .int (vMax a0 rr0) := by
        rw [← fl, ← ef, List.getD_eq_getElem?_getD, hm]
        rfl
      rw [em] at px
      exact wp_at c px w
    · exact absurd w id
  · exact absurd w id
theorem view_ofV (X : Cx) {op : D → Hh → Oc D} {r : List V → Hp → VK → Prop} {Q : VK} (hop : ∀ d h, op d h ≠ .bad → ∃ ks, keysD h d = some ks)
    (hr : ∀ κ ρ h d p a H, H p = some (valsO p a) → CS g κ ρ h H → Rep g.K κ ρ H d (.ref a) → Wp g E κ ρ H (op d h) Q → r [.ref p] H Q) (w : RE g E (d1 op fo) σ H Q) : tViewV g E fo σ H fun v H1 => r [v] H1 Q := by
  obtain ⟨κ, ρ, env, h, S, w⟩ := w
  refine ⟨κ, ρ, env, h, S, ?_⟩
  have w := Wp.fst w
  revert w
  cases fo env h with
  | bad => exact id
  | ex x h' => exact id
  | ok d h1 =>
    intro w ρ1 x H1 k1 c1 q1
    obtain ⟨ρ2, d2, h2, k2, c2, q2, w2⟩ := w ρ1 x H1 k1 c1 q1
    have hb : op d2 h2 ≠ .bad := fun e => by rw [e] at w2; exact w2
    obtain ⟨ks, ek⟩ := hop d2 h2 hb
    obtain ⟨a, vs, ex, _⟩ := ents_of (X := X) c2 q2 ek
    refine ⟨κ, ρ2, h2, d2, ks, a, c2, ex, q2, ek, fun p hp => ?_⟩
    subst ex
    exact hr κ ρ2 h2 d2 p a _ upd_same (CS.laid c2 hp _) (q2.go (Go.laid c2 hp _)) (Wp.go (Go.laid c2 hp _) w2)
theorem keys_of_vals {h : Hh} {d : D} {vs : List D} (q : valsD h d = some vs) : ∃ ks, keysD h d = some ks := by
  cases d with
  | md i =>
    simp only [valsD] at q
    simp only [keysD]
    split at q
    · exact ⟨_, rfl⟩
    · exact ⟨_, rfl⟩
    · cases q
  | _ => cases q
theorem p_maxv {ek : Expr} {p pos : Pos} (ok : Okx g X) (hg : Gl X "max") (hm : X.mg "max" = none) (hk : PE X ek (tViewV g E fo)) (na : starEach [ek] X.env = (false, eval ek X.env) :: starEach [] X.env) :
    PE X (.Call (.Name "max" p) [ek] [] pos) (RE g E (d1 vMaxv fo)) :=
  PE.imp (pe_callB (b_maxv (g := g) (E := E) ok) hg hm (by decide +kernel) (pa_cons hk pa_nil na) (by decide) (by decide) na rfl) fun σ H Q w =>
    view_ofV X (r := rMaxv g E) (fun d h hb => by
      unfold vMaxv at hb
      cases e : valsD h d with
      | none => rw [e] at hb; exact absurd rfl hb
      | some vs => exact keys_of_vals e) (fun κ ρ h d p a H e1 c r w => ⟨κ, ρ, h, d, p, a, rfl, e1, c, r, w⟩) w
end
end Q
end
section
namespace L2
open PySem PyProof.Rows PySem.W
/-- few different ones -/
def FewT (ps : List (Addr × List Int)) : Prop := ∀ L : List (Addr × List Int), (∀ p ∈ L, p ∈ ps) → (L.map (·.2)).Nodup → L.length + 1 < 64
section
variable {P : Program} {w : World} {A : Around} {E : Value → Shared → Prop} {s : Shared}
/-- the turns of set.update over tuples -/
theorem upd_tups {I : Addr} {fp wr : List Addr} {GG : Array GenState → Array GenState → Prop} {n : Nat} {Pv : Nat → Value → Prop} {St : Nat → Shared → Prop} {R : Result → Shared → Prop}
    (Wk : WalksS P w A.in1 I fp wr GG n Pv St) (Z : Addr) (hZ : Z ∉ fp) (ps : List (Addr × List Int)) (en : n = ps.length) (fw : FewT ps) (vals : ∀ i v, Pv i v → ∃ p, ps[i]? = some p ∧ v = .ref p.1)
    (g0 : Heap) (hkk : ∀ p ∈ ps, IsT P w g0 p.2 p.1) (hZ0 : g0.get? Z = none) (hw0 : ∀ b ∈ wr, g0.get? b = none) (hu : A.in1.units < cLine) :
    ∀ (k i : Nat) (s : Shared), n - i = k → i ≤ n → St i s → (∀ b o, g0.get? b = some o → s.heap.get? b = some o) → (∃ L es ep t, SetTR P w s.heap Z L es ep t ∧ Got ps i L) →
      (∀ s' L es ep t, Moved (Z :: wr) GG s s' → SetTR P w s'.heap Z L es ep t → Got ps n L → (∀ b o, g0.get? b = some o → s'.heap.get? b = some o) → R (.ok (.ret .none)) s') →
      codeAny (model P w) A (.builtin "set.update.loop" ⟨[.ref Z, .ref I], []⟩) R s := by
  have nw : Z ∉ wr := fun z => hZ (Wk.sub _ z)
  have up : ∀ b ∈ wr, b ∈ Z :: wr := fun b hb => List.mem_cons_of_mem _ hb
  have go : ∀ {s s' : Shared}, Moved wr GG s s' → (∀ b o, g0.get? b = some o → s.heap.get? b = some o) → ∀ b o, g0.get? b = some o → s'.heap.get? b = some o := fun mv kp b o e =>
    mv.heap b o (fun z => by rw [hw0 b z] at e; cases e) (kp b o e)
  intro k
  induction k with
  | zero =>
    intro i s ek hi st kp ⟨L, es, ep, t, R1, g⟩ fin
    have e : i = n := by omega
    subst e
    refine codeAny_builtin F.entry_set_update_loop ?_
    rw [Around.under_plainId F.plain_set_update_loop _]
    show wpAny _ A.in1 (pyNext (.ref I) >>= _) _ _ s
    refine wpAny_bind (Wk.done s _ _ st fun s2 mv => ?_)
    show wpAny _ A.in1 (ret Value.none) _ _ s2
    have kp2 := go mv kp
    exact wpAny_pure (fin s2 L es ep t (mv.mono up) (R1.keep (fun o e => mv.heap Z o nw e) fun p hp => isT_keep (hkk p (List.mem_of_mem_take (g.sub p hp))) kp2) g kp2)
  | succ k ih =>
    intro i s ek hi st kp ⟨L, es, ep, t, R1, g⟩ fin
    have lt : i < n := by omega
    refine codeAny_builtin F.entry_set_update_loop ?_
    rw [Around.under_plainId F.plain_set_update_loop _]
    show wpAny _ A.in1 (pyNext (.ref I) >>= _) _ _ s
    refine wpAny_bind (Wk.item i s _ _ lt st fun v s2 hv st2 mv => ?_)
    obtain ⟨p, hp, rfl⟩ := vals i v hv
    have kp2 := go mv kp
    have inL : ∀ p ∈ L, p ∈ ps := fun p hp => List.mem_of_mem_take (g.sub p hp)
    have R2 : SetTR P w s2.heap Z L es ep t := R1.keep (fun o e => mv.heap Z o nw e) fun q hq => isT_keep (hkk q (inL q hq)) kp2
    have xi : IsT P w s2.heap p.2 p.1 := isT_keep (hkk p (List.mem_of_getElem? hp)) kp2
    show wpAny _ A.in1 (holding [Value.ref p.1] (setAdd Z (.ref p.1)) >>= _) _ _ s2
    refine wpAny_bind (wpAny_holding ?_)
    unfold setAdd
    refine wpAny_holding (wpAny_bind (wpAny_pyHash_tuple hu xi ?_))
    refine add_at (s := { s2 with toks := s2.toks + (p.2.length + 1) }) R2 xi hu (fw L inL R2.nd) fun b h3 L3 es3 ep3 t3 same R3 c1 c2 => ?_
    have g3 : Got ps (i + 1) L3 := by
      rcases Classical.em (p.2 ∈ L.map (·.2)) with c | c
      · rw [c1 c]; exact g.same hp c
      · exact g.more hp (c2 c)
    have kp3 : ∀ b o, g0.get? b = some o → h3.get? b = some o := fun b o e => (same.2 b (fun z => by rw [z, hZ0] at e; cases e)).trans (kp2 b o e)
    refine wpAny_pure ⟨plainId_quiet F.plain_set_update_loop _, ih (i + 1) _ (by omega) lt (Wk.frame _ s2 _ _ st2 (Nat.le_add_right _ _) fun b hb o e => ?_) kp3 ⟨L3, es3, ep3, t3, R3, g3⟩ fun s4 L4 es4 ep4 t4 mv4 R4 g4 kp4 => ?_⟩
    · rw [same.2 b (fun z : b = Z => hZ (by rw [← z]; exact hb))]; exact e
    · refine fin s4 L4 es4 ep4 t4 (Moved.trans Wk.gtrans ((mv.mono up).then_heap (Nat.le_add_right _ _) fun b o hb e => ?_) mv4) R4 g4 kp4
      rw [same.2 b (fun z : b = Z => hb (by rw [z]; exact List.mem_cons_self))]; exact e
/-- set(xs), tuples of ints in a list -/
theorem call_set_listT {l : Addr} {items : Array Value} (ps : List (Addr × List Int)) {Q : Value → Shared → Prop} (hh : A.handled = none) (hl : s.heap.IsList l items) (hit : items.toList = ps.map fun p => Value.ref p.1) (hkk : ∀ p ∈ ps, IsT P w s.heap p.2 p.1) (fw : FewT ps) (hu : A.units + 3 < cLine)
    (fin : ∀ (hp : Heap) (tk : Nat) L es ep t, SetTR P w hp s.heap.objs.size L es ep t → Got ps ps.length L → (∀ b o, s.heap.get? b = some o → hp.get? b = some o) → Q (.ref s.heap.objs.size) { s with heap := hp, toks := tk }) :
    wpAny (model P w) A (call (.type "set") [.ref l]) Q E s := by
  have sz : items.size = ps.length := by rw [← Array.length_toList, hit, List.length_map]
  obtain ⟨c0, tl0, mro0⟩ := F.called_set.mro
  have md := F.called_set.made
  have sb := F.called_set.sub
  refine wpAny_call (codeAny_of_tree ?_)
  show wpAny _ _ (callAny (.type "set") _) _ _ _
  refine wpAny_pure ⟨Code.quiet_builtin _ (by decide +kernel), codeAny_builtin F.entry_type_call ?_⟩
  rw [Around.under_plain (weight_type_call_type "set" [.ref l] []) rfl]
  have nt := F.called_set.notType
  have cc := F.called_set.canCreate
  have tc := F.typeCall_set_1 (.ref l)
  repeat (any_goals (first | assumption | wp_step))
  refine codeAny_mono (code_set_led1 (.ref l) (E := E) (Q₁ := fun obj s₁ => obj = .ref s.heap.objs.size ∧ s₁ = { s with heap := hset w s.heap }) ⟨rfl, rfl⟩) fun r s₁ hr => ?_
  match r, hr with
  | .error e, hr => exact hr
  | .ok (.ret obj), ⟨e1, e2⟩ =>
    subst e1 e2
    have atS : (hset w s.heap).get? s.heap.objs.size = some (nset w) := Heap.get?_push_size _ rfl
    have tyS : Shared.TypeIs { s with heap := hset w s.heap } (.ref s.heap.objs.size) "set" := ⟨_, atS, rfl⟩
    have li := F.called_set.init.lookup
    have bi := F.called_set.init.bind (.ref s.heap.objs.size)
    repeat (any_goals (first | assumption | wp_step))
    refine codeAny_mono (codeAny_call_builtin (R := wants (fun r s₂ => r = .none ∧ ∃ hp tk L es ep t, s₂ = { s with heap := hp, toks := tk } ∧ SetTR P w hp s.heap.objs.size L es ep t ∧ Got ps ps.length L ∧
      (∀ b o, s.heap.get? b = some o → hp.get? b = some o)) E) F.called_set.init.plain F.entry_set_init (check_set_init_1 tyS ?_)) fun r₂ s₂ hr₂ => ?_
    · obtain ⟨⟨ocls, odict, odata, oslots⟩, ol, ocl, nl, odl⟩ := hl
      simp only at ocl odl
      subst ocl odl
      have up1 : (hset w s.heap).get? l = some { cls := .type "list", dict := odict, data := .seq items nl, slots := oslots } := Heap.get?_push_of_some _ ol
      have q1 := F.sub_list_set
      have q2 := F.sub_list_frozenset
      have q3 : (Value.type "list" == Value.type "dict") = false := by decide
      have ls : (hset w s.heap).IsList l items := ⟨_, up1, rfl, nl, rfl⟩
      unfold Builtin.«set.__init__» noKeywords Builtin.Frozenset.updateFrom
      generalize gP : pyIter = PI
      wp_walk
      subst gP
      refine wpAny_pyIter_list ls (wpAny_bind (wpAny_runValue ?_))
      have lS : l < s.heap.objs.size := Heap.lt_size ol
      have h3 : A.in1.in1.in1.handled = none := by simp [hh]
      have z1 : (hset w s.heap).objs.size = s.heap.objs.size + 1 := Heap.size_push ..
      have neI : l ≠ (hset w s.heap).objs.size := by
        have lS : l < s.heap.objs.size := lS
        intro z
        rw [z, z1] at lS
        exact Nat.not_succ_lt_self lS
      have nf : s.heap.objs.size ∉ [(hset w s.heap).objs.size, l] := by
        rw [z1]
        intro z
        rcases List.mem_cons.mp z with z | z
        · exact Nat.succ_ne_self _ z.symm
        · rw [← List.mem_singleton.mp z] at lS; exact Nat.lt_irrefl _ lS
      have vals : ∀ (i : Nat) (v : Value), items[i]? = some v → ∃ p, ps[i]? = some p ∧ v = .ref p.1 := fun i v hv => by
        rw [← Array.getElem?_toList, hit, List.getElem?_map, Option.map_eq_some_iff] at hv
        obtain ⟨p, e1, e2⟩ := hv
        exact ⟨p, e1, e2.symm⟩
      have non : ∀ b, s.heap.objs.size ≤ b → s.heap.get? b = none := fun b hb => by
        cases q : s.heap.get? b with
        | none => rfl
        | some o => exact absurd (Nat.lt_of_lt_of_le (Heap.lt_size q) hb) (Nat.lt_irrefl _)
      refine upd_tups ((Walks.list h3 _ l neI items).toS) s.heap.objs.size nf ps sz fw vals s.heap hkk (non _ (Nat.le_refl _)) (fun b hb => non b (by rw [List.mem_singleton.mp hb, z1]; exact Nat.le_succ _)) hu (items.size - 0) 0 _ (by omega) (Nat.zero_le _) ⟨⟨_, Heap.get?_push_size _ rfl, rfl, rfl⟩, (ls.push _)⟩
        (fun b o e => Heap.get?_push_of_some _ (Heap.get?_push_of_some _ e)) ⟨[], #[], 0, _, setTR_fresh (Heap.get?_push_of_some _ atS), Got.zero ps⟩ ?hR
      intro s' L es ep t mv hS' hg' kept
      obtain ⟨hp, g2, d', tk', os'⟩ := s'
      have e1 : g2 = s.gens := mv.gens
      have e2 : d' = s.drawn := mv.drawn
      have e3 : os' = s.os := mv.os
      subst e1 e2 e3
      show wpAny _ _ _ _ _ _
      refine wpAny_pure ?_
      show wpAny _ _ (ret Value.none) _ _ _
      rw [sz] at hg'
      exact wpAny_pure ⟨rfl, hp, tk', L, es, ep, t, rfl, hS', hg', kept⟩
    · match r₂, hr₂ with
      | .error e, hr₂ => exact hr₂
      | .ok (.ret r), ⟨e1, hp, tk, L, es, ep, t, e2, hS', hg', keep⟩ =>
        subst e1 e2
        repeat (any_goals (first | assumption | wp_step))
        exact fin _ _ _ _ _ _ hS' hg' keep
/-- set(xs), tuples of ints in a tuple -/
theorem call_set_tupleT {l : Addr} {items : Array Value} (ps : List (Addr × List Int)) {Q : Value → Shared → Prop} (hh : A.handled = none) (hl : s.heap.IsTuple l items) (hit : items.toList = ps.map fun p => Value.ref p.1) (hkk : ∀ p ∈ ps, IsT P w s.heap p.2 p.1) (fw : FewT ps) (hu : A.units + 3 < cLine)
    (fin : ∀ (hp : Heap) (tk : Nat) L es ep t, SetTR P w hp s.heap.objs.size L es ep t → Got ps ps.length L → (∀ b o, s.heap.get? b = some o → hp.get? b = some o) → Q (.ref s.heap.objs.size) { s with heap := hp, toks := tk }) :
    wpAny (model P w) A (call (.type "set") [.ref l]) Q E s := by
  have sz : items.size = ps.length := by rw [← Array.length_toList, hit, List.length_map]
  obtain ⟨c0, tl0, mro0⟩ := F.called_set.mro
  have md := F.called_set.made
  have sb := F.called_set.sub
  refine wpAny_call (codeAny_of_tree ?_)
  show wpAny _ _ (callAny (.type "set") _) _ _ _
  refine wpAny_pure ⟨Code.quiet_builtin _ (by decide +kernel), codeAny_builtin F.entry_type_call ?_⟩
  rw [Around.under_plain (weight_type_call_type "set" [.ref l] []) rfl]
  have nt := F.called_set.notType
  have cc := F.called_set.canCreate
  have tc := F.typeCall_set_1 (.ref l)
  repeat (any_goals (first | assumption | wp_step))
  refine codeAny_mono (code_set_led1 (.ref l) (E := E) (Q₁ := fun obj s₁ => obj = .ref s.heap.objs.size ∧ s₁ = { s with heap := hset w s.heap }) ⟨rfl, rfl⟩) fun r s₁ hr => ?_
  match r, hr with
  | .error e, hr => exact hr
  | .ok (.ret obj), ⟨e1, e2⟩ =>
    subst e1 e2
    have atS : (hset w s.heap).get? s.heap.objs.size = some (nset w) := Heap.get?_push_size _ rfl
    have tyS : Shared.TypeIs { s with heap := hset w s.heap } (.ref s.heap.objs.size) "set" := ⟨_, atS, rfl⟩
    have li := F.called_set.init.lookup
    have bi := F.called_set.init.bind (.ref s.heap.objs.size)
    repeat (any_goals (first | assumption | wp_step))
    refine codeAny_mono (codeAny_call_builtin (R := wants (fun r s₂ => r = .none ∧ ∃ hp tk L es ep t, s₂ = { s with heap := hp, toks := tk } ∧ SetTR P w hp s.heap.objs.size L es ep t ∧ Got ps ps.length L ∧
      (∀ b o, s.heap.get? b = some o → hp.get? b = some o)) E) F.called_set.init.plain F.entry_set_init (check_set_init_1 tyS ?_)) fun r₂ s₂ hr₂ => ?_
    · obtain ⟨⟨ocls, odict, odata, oslots⟩, ol, ocl, nl, odl⟩ := hl
      simp only at ocl odl
      subst ocl odl
      have up1 : (hset w s.heap).get? l = some { cls := .type "tuple", dict := odict, data := .seq items nl, slots := oslots } := Heap.get?_push_of_some _ ol
      have q1 := F.sub_tuple_set
      have q2 := F.sub_tuple_frozenset
      have q3 : (Value.type "tuple" == Value.type "dict") = false := by decide
      have ls : (hset w s.heap).IsTuple l items := ⟨_, up1, rfl, nl, rfl⟩
      unfold Builtin.«set.__init__» noKeywords Builtin.Frozenset.updateFrom
      generalize gP : pyIter = PI
      wp_walk
      subst gP
      refine wpAny_pyIter_tuple ls (wpAny_bind (wpAny_runValue ?_))
      have lS : l < s.heap.objs.size := Heap.lt_size ol
      have h3 : A.in1.in1.in1.handled = none := by simp [hh]
      have z1 : (hset w s.heap).objs.size = s.heap.objs.size + 1 := Heap.size_push ..
      have neI : l ≠ (hset w s.heap).objs.size := by
        have lS : l < s.heap.objs.size := lS
        intro z
        rw [z, z1] at lS
        exact Nat.not_succ_lt_self lS
      have nf : s.heap.objs.size ∉ [(hset w s.heap).objs.size, l] := by
        rw [z1]
        intro z
        rcases List.mem_cons.mp z with z | z
        · exact Nat.succ_ne_self _ z.symm
        · rw [← List.mem_singleton.mp z] at lS; exact Nat.lt_irrefl _ lS
      have vals : ∀ (i : Nat) (v : Value), items[i]? = some v → ∃ p, ps[i]? = some p ∧ v = .ref p.1 := fun i v hv => by
        rw [← Array.getElem?_toList, hit, List.getElem?_map, Option.map_eq_some_iff] at hv
        obtain ⟨p, e1, e2⟩ := hv
        exact ⟨p, e1, e2.symm⟩
      have non : ∀ b, s.heap.objs.size ≤ b → s.heap.get? b = none := fun b hb => by
        cases q : s.heap.get? b with
        | none => rfl
        | some o => exact absurd (Nat.lt_of_lt_of_le (Heap.lt_size q) hb) (Nat.lt_irrefl _)
      refine upd_tups ((Walks.tuple h3 _ l neI items).toS) s.heap.objs.size nf ps sz fw vals s.heap hkk (non _ (Nat.le_refl _)) (fun b hb => non b (by rw [List.mem_singleton.mp hb, z1]; exact Nat.le_succ _)) hu (items.size - 0) 0 _ (by omega) (Nat.zero_le _) ⟨⟨_, Heap.get?_push_size _ rfl, rfl, rfl⟩, (ls.push _)⟩
        (fun b o e => Heap.get?_push_of_some _ (Heap.get?_push_of_some _ e)) ⟨[], #[], 0, _, setTR_fresh (Heap.get?_push_of_some _ atS), Got.zero ps⟩ ?hR
      intro s' L es ep t mv hS' hg' kept
      obtain ⟨hp, g2, d', tk', os'⟩ := s'
      have e1 : g2 = s.gens := mv.gens
      have e2 : d' = s.drawn := mv.drawn
      have e3 : os' = s.os := mv.os
      subst e1 e2 e3
      show wpAny _ _ _ _ _ _
      refine wpAny_pure ?_
      show wpAny _ _ (ret Value.none) _ _ _
      rw [sz] at hg'
      exact wpAny_pure ⟨rfl, hp, tk', L, es, ep, t, rfl, hS', hg', kept⟩
    · match r₂, hr₂ with
      | .error e, hr₂ => exact hr₂
      | .ok (.ret r), ⟨e1, hp, tk, L, es, ep, t, e2, hS', hg', keep⟩ =>
        subst e1 e2
        repeat (any_goals (first | assumption | wp_step))
        exact fin _ _ _ _ _ _ hS' hg' keep
end
end L2
end
section
namespace Q
open PySem PySem.Spec L2
section
variable {g : G} {E : XK} {κ ρ : List Addr} {H : Hp} {h : Hh} {X : Cx}
/-! ## o[i] = v -/
def WpU (g : G) (E : XK) (κ ρ : List Addr) (H : Hp) (r : Oc Unit) (Q : Hp → Prop) : Prop :=
  match r with
  | .bad => False
  | .ok _ h' => ∀ ρ' H', Go ρ H ρ' H' → CS g κ ρ' h' H' → Q H'
  | .ex x h' => ∀ ρ' H' c dO, Go ρ H ρ' H' → CS g κ ρ' h' H' → XRep g κ ρ' H' x c dO → E c dO H'
def rSetD (g : G) (E : XK) : TSet := fun o i v H Q => ∃ κ ρ h d k e, CS g κ ρ h H ∧ Rep g.K κ ρ H d o ∧ Rep g.K κ ρ H k i ∧ Rep g.K κ ρ H e v ∧ WpU g E κ ρ H (vSet d k e h) Q
theorem any_keys {κt : Type} [DecidableEq κt] {α β : Type} {R : κt × α → κt × β → Prop} {k : κt} (hR : ∀ p q, R p q → p.1 = q.1) : ∀ {l : List (κt × α)} {m : List (κt × β)}, Paired R l m → l.any (fun p => decide (p.1 = k)) = m.any fun q => decide (q.1 = k)
  | _, _, .nil => rfl
  | p :: ps, q :: qs, .cons a t => by
    rw [List.any_cons, List.any_cons, hR p q a, any_keys hR t]
theorem map_put {κt : Type} [DecidableEq κt] {α β : Type} {R : κt × α → κt × β → Prop} {k : κt} {f : κt × α → κt × α} {f' : κt × β → κt × β} (hR : ∀ p q, R p q → R (f p) (f' q)) : ∀ {l : List (κt × α)} {m : List (κt × β)}, Paired R l m → Paired R (l.map f) (m.map f')
  | _, _, .nil => .nil
  | _, _, .cons a t => by rw [List.map_cons, List.map_cons]; exact .cons (hR _ _ a) (map_put (k := k) hR t)
theorem krep_put {κt : Type} [DecidableEq κt] {K : PySem.W.Frag} {kvs : List (κt × D)} {vs : List (κt × V)} (r : KRep K κ ρ H kvs vs) (k : κt) {d : D} {v : V} (rv : Rep K κ ρ H d v) : KRep K κ ρ H (dput kvs k d) (putK vs k v) := by
  unfold dput putK
  rw [any_keys (R := fun p q => p.1 = q.1 ∧ Rep K κ ρ H p.2 q.2) (fun _ _ z => z.1) r]
  split
  · refine map_put (k := k) (fun p q z => ?_) r
    by_cases e : p.1 = k
    · rw [if_pos e, if_pos (z.1.symm.trans e)]; exact ⟨z.1, rv⟩
    · rw [if_neg e, if_neg fun y => e (z.1.trans y)]; exact z
  · exact Paired.snoc r ⟨rfl, rv⟩
theorem any_deqs {K : PySem.W.Frag} {ds : List D} {k : NestedKey} (hk : nk 8 (.tup ds) = some k) : ∀ {kvs : List (List D × D)} {vs : AV}, TRep K κ ρ H kvs vs → kvs.any (fun p => deqs p.1 ds) = vs.any fun q => decide (q.1 = k)
  | _, _, .nil => rfl
  | p :: ps, q :: qs, .cons a t => by
    rw [List.any_cons, List.any_cons, key_deqs a.1 hk, any_deqs hk t]
theorem trep_map {K : PySem.W.Frag} {ds : List D} {k : NestedKey} (hk : nk 8 (.tup ds) = some k) {d : D} {v : V} (rv : Rep K κ ρ H d v) : ∀ {kvs : List (List D × D)} {vs : AV}, TRep K κ ρ H kvs vs → TRep K κ ρ H (kvs.map fun p => if deqs p.1 ds = true then (p.1, d) else p) (vs.map fun q => if q.1 = k then (q.1, q.2.1, v) else q)
  | _, _, .nil => .nil
  | p :: ps, q :: qs, .cons a t => by
    rw [List.map_cons, List.map_cons]
    refine .cons ?_ (trep_map hk rv t)
    have dq := key_deqs a.1 hk
    by_cases e : q.1 = k
    · rw [decide_eq_true e] at dq
      rw [if_pos dq, if_pos e]; exact ⟨a.1, a.2.1, rv⟩
    · rw [decide_eq_false e] at dq
      rw [if_neg (by rw [dq]; exact Bool.false_ne_true), if_neg e]; exact a
theorem trep_put {K : PySem.W.Frag} {kvs : List (List D × D)} {vs : AV} (r : TRep K κ ρ H kvs vs) {ds : List D} {k : NestedKey} (hk : nk 8 (.tup ds) = some k) (b : Addr) {d : D} {v : V} (f : Rep K κ ρ H (.tup ds) (.ref b)) (rv : Rep K κ ρ H d v) : TRep K κ ρ H (dputT kvs ds d) (putA vs k b v) := by
  unfold dputT putA
  rw [any_deqs hk r]
  split
  · exact trep_map hk rv r
  · exact Paired.snoc r ⟨hk, f, rv⟩
theorem lows_app {i : Nat} {d : D} (hd : low i d = true) : ∀ zs : List D, lows i zs = true → lows i (zs ++ [d]) = true
  | [], _ => by simp [lows, hd]
  | z :: zs, hz => by
    have hz : low i z = true ∧ lows i zs = true := by simpa [lows] using hz
    simp [lows, hz.1, lows_app hd zs hz.2]
theorem lows_mapput {κt : Type} [DecidableEq κt] {i : Nat} {k : κt} {d : D} (hd : low i d = true) : ∀ kvs : List (κt × D), lows i (kvs.map (·.2)) = true → lows i ((kvs.map fun kv => if kv.1 = k then (kv.1, d) else kv).map (·.2)) = true
  | [], _ => rfl
  | p :: ps, hl => by
    have hl : low i p.2 = true ∧ lows i (ps.map (·.2)) = true := by simpa [lows] using hl
    have ih := lows_mapput (k := k) hd ps hl.2
    simp only [List.map_cons, lows]
    rw [ih]
    split <;> simp [hd, hl.1]
theorem lows_put {κt : Type} [DecidableEq κt] {i : Nat} {k : κt} {d : D} (hd : low i d = true) {kvs : List (κt × D)} (hl : lows i (kvs.map (·.2)) = true) : lows i ((dput kvs k d).map (·.2)) = true := by
  unfold dput
  split
  · exact lows_mapput hd kvs hl
  · rw [List.map_append]
    exact lows_app hd _ hl
theorem lows_mapputT {i : Nat} {k : List D} {d : D} (hd : low i d = true) : ∀ kvs : List (List D × D), lows i (kvs.map (·.2)) = true → lows i ((kvs.map fun kv => if deqs kv.1 k = true then (kv.1, d) else kv).map (·.2)) = true
  | [], _ => rfl
  | p :: ps, hl => by
    have hl : low i p.2 = true ∧ lows i (ps.map (·.2)) = true := by simpa [lows] using hl
    have ih := lows_mapputT (k := k) hd ps hl.2
    simp only [List.map_cons, lows]
    rw [ih]
    split <;> simp [hd, hl.1]
theorem lows_putT {i : Nat} {k : List D} {d : D} (hd : low i d = true) {kvs : List (List D × D)} (hl : lows i (kvs.map (·.2)) = true) : lows i ((dputT kvs k d).map (·.2)) = true := by
  unfold dputT
  split
  · exact lows_mapputT hd kvs hl
  · rw [List.map_append]
    exact lows_app hd _ hl
theorem lows_set {i n : Nat} {d : D} (hd : low i d = true) : ∀ {ds : List D}, lows i ds = true → lows i (ds.set n d) = true := by
  intro ds
  induction ds generalizing n with
  | nil => intro _; rfl
  | cons z zs ih =>
    intro hz
    have hz : low i z = true ∧ lows i zs = true := by simpa [lows] using hz
    cases n with
    | zero => simp [lows, hd, hz.2]
    | succ n => simp [lows, hz.1, ih hz.2]
theorem set_any (ok : Okx g X) : PSet X (rSetD g E) := by
  rintro pins s σ H o i v ov iv u Q I ro ri rv ⟨κ, ρ, h, d, k, e, c, q1, q2, q3, w⟩
  have hu := ok.u
  cases d with
  | ml j =>
    cases k with
    | int k =>
      have w : WpU g E κ ρ H (vSetL j k e h) Q := w
      unfold vSetL at w
      split at w
      · rename_i xs hx
        split at w
        · rename_i n hn
          split at w
          · rename_i hl
            obtain ⟨a, rfl, ha⟩ := q1
            obtain ⟨vs, h1, h2⟩ := c.lst ha hx
            have hl0 : lows j xs = true := c.low j _ hx
            have gw : Go ρ H ρ (upd H a (.lst (vs.set n v))) := Go.write (List.mem_of_getElem? ha) (fun _ _ z => by rw [h1] at z; cases z) _
            refine set_list pins s σ H _ i v ov iv u Q I ro ri rv ⟨a, vs, k, n, rfl, q2, h1, by rw [h2.len]; exact hn, w ρ _ gw (c.write ha ⟨_, upd_same, (h2.set n q3).go gw⟩ (lows_set hl hl0))⟩
          · exact absurd w fun z => z
        · exact absurd w fun z => z
      · exact absurd w fun z => z
    | _ => exact absurd w fun z => z
  | md j =>
    obtain ⟨a, rfl, ha⟩ := q1
    cases ro
    have w : WpU g E κ ρ H (vSetD j k e h) Q := w
    unfold vSetD at w
    split at w
    · rename_i kvs hx
      split at w
      · rename_i kk hk
        split at w
        · rename_i hl
          obtain ⟨vs, h1, h2⟩ := c.cell j a _ ha hx
          have hz : vs.length < sizeLine := by rw [← Paired.length h2]; exact Nat.lt_of_lt_of_le hl.1 big_line
          have gw : Go ρ H ρ (upd H a (.dK (putK vs kk v))) := Go.write (List.mem_of_getElem? ha) (fun _ _ z => by rw [h1] at z; cases z) _
          have c' := c.write ha (o := .dK (putK vs kk v)) (u := .dK (dput kvs kk e)) ⟨_, upd_same, (krep_put h2 kk q3).mono fun _ _ r => r.go gw⟩ (lows_put hl.2 (c.low j _ hx))
          rw [keyOf_rep q2 hk] at ri
          exact d_setItem (by omega) I (DPut.k h1 hz) ri rv fun s' I' => ⟨_, I', w ρ _ gw c'⟩
        · exact absurd w fun z => z
      · exact absurd w fun z => z
    · rename_i kvs hx
      split at w
      · rename_i ks hk
        split at w
        · rename_i hl
          obtain ⟨vs, h1, h2, h3, h4⟩ := c.cell j a _ ha hx
          obtain ⟨hl0, hl⟩ := hl
          obtain ⟨kk, hkk⟩ := hk_some hl0
          have wf := w
          cases k with
          | tup ds' =>
            cases hk
            obtain ⟨b, us, rfl, f, rr⟩ := q2
            have kr : Rep g.K κ ρ H (.tup ks) (.ref b) := ⟨b, us, rfl, f, rr⟩
            have gw : Go ρ H ρ (upd H a (.ext (DTO g a (putA vs kk b v)))) := Go.write (List.mem_of_getElem? ha) (fun _ _ z => by rw [h1] at z; cases z) _
            have lp : (putA vs kk b v).length ≤ sizeLine := by
              have hz : vs.length < sizeLine := by rw [← Paired.length h4]; exact Nat.lt_of_lt_of_le hl.1 big_line
              unfold putA
              split
              · rw [List.length_map]; omega
              · rw [List.length_append, List.length_singleton]; omega
            have c' := c.write ha (o := .ext (DTO g a (putA vs kk b v))) (u := .dT (dputT kvs ks e)) ⟨_, upd_same, h2, lp, Paired.mapP (trep_put h4 hkk b kr q3) fun _ _ z => ⟨z.1, z.2.1.go gw, z.2.2.go gw⟩⟩ (lows_putT hl.2 (c.low j _ hx))
            cases ri
            exact t_setItem ok.K ok.P ok.w (by omega) I h1 (trep_keys h4) h3 ⟨κ, ρ, _, kr, hkk⟩ rv fun s' I' => ⟨_, I', wf ρ _ gw c'⟩
          | _ => cases hk
        · exact absurd w fun z => z
      · exact absurd w fun z => z
    · exact absurd w fun z => z
  | _ => cases k <;> exact absurd w fun z => z

/-! ## targets -/
theorem p_nm {i : Nat} {x : Str} {pos : Pos} (hN : X.N.Nodup) (hi : X.N[i]? = some x) (hx : Loc X.env.scope x) (hf : X.fn x = true ∨ X.env.scope.names.lookup x = some .local) {f : Q.E → DE} : PG X (.Name x pos) (RG g E (evT f (.nm i))) :=
  PG.imp (pg_name hN hi hx hf) fun v σ H Q ⟨κ, ρ, env, h, d, S, r, w⟩ => w ρ _ H (Go.refl _ _) S.cs (S.en.set i r)
/-- several targets -/
def RGs (g : G) (E : XK) (f : List D → Ev → Hh → Oc Ev) : TGs := fun vs σ H Q => ∃ κ ρ env h ds, Sit g κ ρ env h σ H ∧ Reps g.K κ ρ H ds vs ∧ WpG g E κ ρ H (f ds env h) Q
theorem PGs.imp {t t' : TGs} {e : List Expr} (p : PGs X e t) (k : ∀ v σ H Q, t' v σ H Q → t v σ H Q) : PGs X e t' := ⟨fun pins s σ H v u Q I r q => p.run pins s σ H v u Q I r (k v σ H Q q)⟩
theorem p_gnil {f : Q.E → DE} : PGs X [] (RGs g E (evTs f [])) := PGs.imp pgs_nil fun vs σ H Q ⟨κ, ρ, env, h, ds, S, r, w⟩ => by
  cases ds with
  | nil =>
    cases r
    exact ⟨rfl, w ρ σ H (Go.refl _ _) S.cs S.en⟩
  | cons d ds => exact absurd w fun z => z
theorem p_gcons {f : Q.E → DE} {e : Expr} {es : List Expr} {t : T} {ts : List T} (h1 : PG X e (RG g E (evT f t))) (h2 : PGs X es (RGs g E (evTs f ts))) (hs : (assignEach (e :: es) X.env).map (·.2) = assign e X.env :: (assignEach es X.env).map (·.2)) :
    PGs X (e :: es) (RGs g E (evTs f (t :: ts))) := PGs.imp (pgs_cons h1 h2 hs) fun vs σ H Q ⟨κ, ρ, env, h, ds, S, r, w⟩ => by
  cases ds with
  | nil => exact absurd w fun z => z
  | cons d ds =>
    obtain ⟨v, vr, rfl, r1, r2⟩ := r
    refine ⟨v, vr, rfl, κ, ρ, env, h, d, S, r1, ?_⟩
    have w : WpG g E κ ρ H ((evT f t d env h).bind fun env1 h1 => evTs f ts ds env1 h1) Q := w
    revert w
    cases evT f t d env h with
    | bad => exact fun w => w
    | ex x h' => exact fun w => w
    | ok env1 h1 => exact fun w ρ1 σ1 H1 k1 c1 e1 => ⟨κ, ρ1, env1, h1, ds, ⟨c1, e1⟩, r2.go k1, WpG.go k1 w⟩
theorem p_gtup {f : Q.E → DE} {es : List Expr} {k : Nat} {pos : Pos} {ts : List T} (ok : Okx g X) (p : PGs X es (RGs g E (evTs f ts))) (hn : (assignEach es X.env).length = ts.length) (hst : (assignEach es X.env).findIdx? (·.1) = none) :
    PG X (.Tuple es k pos) (RG g E (evT f (.tup ts))) := PG.imp (pg_tup ok.calm p hn hst) fun v σ H Q ⟨κ, ρ, env, h, d, S, r, w⟩ => by
  have go : ∀ {ds : List D} {a : Addr} {vs : List V}, v = .ref a → SqT g.K H a vs → Reps g.K κ ρ H ds vs → WpG g E κ ρ H (if ds.length = ts.length then evTs f ts ds env h else .bad) Q → gTup X.K ts.length (RGs g E (evTs f ts)) v σ H Q := fun {ds a vs} e sq rr w => by
    split at w
    · rename_i hl
      exact ⟨a, vs, e, by rw [ok.K]; exact sq, by rw [rr.len]; exact hl, κ, ρ, env, h, ds, S, rr, w⟩
    · exact absurd w fun z => z
  cases d with
  | tup ds => obtain ⟨a, vs, e, f, rr⟩ := r; exact go e f.sq rr w
  | pr ds => obtain ⟨a, vs, e, f, rr⟩ := r; exact go e f.sq rr w
  | _ => exact absurd w fun z => z
theorem p_gsub {f : Q.E → DE} {o i : Expr} {a b : Q.E} {pos : Pos} (ok : Okx g X) (ho : PE X o (RE g E (f a))) (hi : PE X i (RE g E (f b)))
    (ha : ∀ v, assign (.Subscript o i pos) X.env v = (do
      let ov ← holding [v] (eval o X.env)
      let iv ← holding [v, ov] (eval i X.env)
      standAt pos
      holding [v, ov, iv] (setItem ov iv v)
      release [v, ov, iv] [])) : PG X (.Subscript o i pos) (RG g E (evT f (.sub a b))) := PG.imp (pg_sub ho hi (set_any (E := E) ok) ha) fun v σ H Q ⟨κ, ρ, env, h, d, S, r, w⟩ => by
  refine ⟨κ, ρ, env, h, S, ?_⟩
  have w : WpG g E κ ρ H ((f a env h).bind fun o h1 => (f b env h1).bind fun k h2 => (vSet o k d h2).bind fun _ h3 => .ok env h3) Q := w
  revert w
  cases f a env h with
  | bad => exact fun w => w
  | ex x h' => exact fun w => w
  | ok o1 h1 =>
    intro w ρ1 x1 H1 k1 c1 q1
    refine ⟨κ, ρ1, env, h1, S.go k1 c1, ?_⟩
    have w : WpG g E κ ρ H ((f b env h1).bind fun k h2 => (vSet o1 k d h2).bind fun _ h3 => .ok env h3) Q := w
    revert w
    cases f b env h1 with
    | bad => exact fun w => w
    | ex x h' => exact fun w ρ' H' c dO k => w ρ' H' c dO (k1.trans k)
    | ok o2 h2 =>
      intro w ρ2 x2 H2 k2 c2 q2
      refine ⟨κ, ρ2, h2, o1, o2, d, c2, q1.go k2, q2, (r.go k1).go k2, ?_⟩
      have w : WpG g E κ ρ H ((vSet o1 o2 d h2).bind fun _ h3 => .ok env h3) Q := w
      revert w
      cases vSet o1 o2 d h2 with
      | bad => exact fun w => w
      | ex x h' => exact fun w ρ' H' c dO k => w ρ' H' c dO ((k1.trans k2).trans k)
      | ok u h3 => exact fun w ρ3 H3 k3 c3 => w ρ3 σ H3 ((k1.trans k2).trans k3) c3 (S.en.go ((k1.trans k2).trans k3))
end
end Q
end
section
namespace Q
open PySem PySem.Spec PyProof.Rows L2

/-! ## enumerate of a tuple -/
set_option maxHeartbeats 1000000 in
theorem enumT_new {v : Value} {o : Obj} {P1 : Heap → Prop} (B : Begins v o P1) :
    Meets (Builtin.«enumerate.__new__» ⟨[.type "enumerate", v], []⟩) (fun _ R s => P1 s.heap ∧
      R (.ok (.ret (.ref (s.heap.push o).objs.size))) { s with heap := (s.heap.push o).push { cls := .type "enumerate", data := .fields #[.none, .bool false, .ref s.heap.objs.size, rawInt 0, .none, .none] } }) :=
  .of_wp fun pr w A R s hyp => by
    obtain ⟨hp, g, d, tk, os⟩ := s
    obtain ⟨y1, y2⟩ := hyp
    have hsubE := sub_enumerate
    have qq : ∀ {A' : Around} {E : Value → Shared → Prop} {Q : Value → Shared → Prop}, Q (.ref hp.objs.size) ⟨hp.push o, g, d, tk, os⟩ → wpAny (model pr w) A' (pyIter v) Q E ⟨hp, g, d, tk, os⟩ :=
      fun q => B.iter pr w _ _ ⟨hp, g, d, tk, os⟩ _ y1 q
    wp_walk using qq
    refine wpAny_stack_any fun stk => wpAny_pure ?_
    split
    · rename_i c _ _ _ _ _
      cases (c == Value.type "enumerate")
      · wp_walk using qq
        exact ⟨_, rfl, y2⟩
      · wp_walk using qq
        exact ⟨_, rfl, y2⟩
    · wp_walk using qq
      exact ⟨_, rfl, y2⟩
theorem enumT_call {pr : Program} {w : World} {A : Around} {E : Value → Shared → Prop} {s : Shared} {v : Value} {o : Obj} {P1 : Heap → Prop} {Q : Value → Shared → Prop} (B : Begins v o P1) (h1 : P1 s.heap)
    (fin : ∀ h', IsEnum h' (s.heap.objs.size + 1) s.heap.objs.size 0 .none → h'.get? s.heap.objs.size = some o → (∀ b o, s.heap.get? b = some o → h'.get? b = some o) → Q (.ref (s.heap.objs.size + 1)) { s with heap := h' }) :
    wpAny (model pr w) A (call (.type "enumerate") [v]) Q E s := by
  refine callType_new F.called_enumerate (by decide) (F.typeCall_enumerate_1 _) (F.newCall_enumerate_1 _) (fun obj => F.args_object_init_2 obj _) F.entry_enumerate_new (enumT_new B) ⟨h1, ?_⟩
  have sz : (s.heap.push o).objs.size = s.heap.objs.size + 1 := Heap.size_push ..
  show _ ∧ _
  rw [sz]
  have en : IsEnum ((s.heap.push o).push { cls := .type "enumerate", data := .fields #[.none, .bool false, .ref s.heap.objs.size, rawInt 0, .none, .none] }) (s.heap.objs.size + 1) s.heap.objs.size 0 .none := by
    have q := Heap.get?_push_size (s.heap.push o) (o := { cls := .type "enumerate", data := .fields #[.none, .bool false, .ref s.heap.objs.size, rawInt 0, .none, .none] }) rfl
    rw [sz] at q; exact q
  exact ⟨⟨_, en, rfl⟩, fin _ en (Heap.get?_push_of_some _ (Heap.get?_push_size _ B.free)) fun b o x => Heap.get?_push_of_some _ (Heap.get?_push_of_some _ x)⟩
def IteT (K : PySem.W.Frag) (a : Addr) : It where
  go := fun i H => ∃ (xs : List V) (x : V), SqT K H a xs ∧ xs[i]? = some x
  yld := fun i H v H' => ∃ T x, v = .ref T ∧ H T = none ∧ H' = upd H T (.tup [.int (i : Nat), x]) ∧ ∀ xs, SqT K H a xs → xs[i]? = some x
  stop := fun i H => ∃ xs : List V, SqT K H a xs ∧ xs.length ≤ i
theorem turn_enT {P : Program} {w : World} {K : PySem.W.Frag} {elts : List Expr} {kk : Nat} {tpos : Pos} (a e it : Addr) :
    Turn P w K (.Tuple elts kk tpos) (IteT K a) [e, it] e (fun i h => (∃ old, IsEnum h e it ((i : Nat) : Int) old) ∧ h.IsTupleIter it a i ∧ e ≠ it ∧ a ≠ it ∧ a ≠ e) where
  mem := List.mem_cons_self ..
  obj := fun i h st b hb => by
    obtain ⟨⟨old, he⟩, ⟨o, ho, _, hd⟩, _⟩ := st
    rcases List.mem_cons.mp hb with rfl | hb
    · exact ⟨_, he, fun v q => nomatch q⟩
    · rw [List.mem_singleton.mp hb]
      exact ⟨o, ho, fun v q => by rw [hd] at q; cases q⟩
  keep := fun i h h' ⟨⟨old, he⟩, hi, hne⟩ k => ⟨⟨old, k e (List.mem_cons_self ..) _ he⟩, hi.at fun o q => k it (List.mem_cons_of_mem _ (List.mem_singleton.mpr rfl)) o q, hne⟩
  item := by
    intro X hP hw hK hc i pins s σ H E I hf st hg
    subst hP hw hK
    obtain ⟨⟨old, he⟩, hit, hne, ha, hae⟩ := st
    obtain ⟨xs, x, hq, hx⟩ := hg
    obtain ⟨its, rv, p, hz⟩ := I.tuple hq
    obtain ⟨u, hu, ru⟩ := rv.get hx
    have le1 : e < s.heap.objs.size := Heap.lt_size he
    have le2 : it < s.heap.objs.size := by obtain ⟨_, q, _⟩ := hit; exact Heap.lt_size q
    have pT : s.heap.IsTuple a its.toArray := p
    have hlt : i < its.toArray.size := by
      obtain ⟨q, _⟩ := List.getElem?_eq_some_iff.mp hu
      simpa using q
    have nef : e ∉ [it, a] := by
      intro z
      rcases List.mem_cons.mp z with z | z
      · exact hne z
      · exact hae (List.mem_singleton.mp z).symm
    refine wpAny_pyNext_enum_itemD (Draws.tuple (A := X.A.in1) (show X.A.in1.handled = none from I.ok.hd hc) it a ha its.toArray) he ⟨hit, pT⟩ hlt hne nef fun x' h' tk hx' ho hit' hT hsz hk => ?_
    have ex : x' = u := by
      have q : its.toArray[i]? = some u := by simpa using hu
      rw [q] at hx'; exact (Option.some.inj hx').symm
    subst ex
    refine ⟨_, rfl, wpAny_letOwnedTupleGo_enum (s := { s with heap := h', toks := tk + 1 }) ho fun h'' he' sb => ?_⟩
    have hT2 : h''.get? s.heap.objs.size = some { cls := .type "tuple", data := .seq #[.int i tk, x'] } := (sb.2 _ (Nat.ne_of_gt le1)).trans hT
    have nw : ObjOk X.prog X.w (upd H s.heap.objs.size (.tup [.int (i : Nat), x])) h'' s.heap.objs.size (.tup [.int (i : Nat), x]) :=
      ⟨by show 2 ≤ sizeLine; decide, [.int i tk, x'], .cons ⟨_, rfl⟩ (.cons ru .nil), ⟨_, hT2, rfl, _, rfl⟩⟩
    have J1 : Inv X pins σ (upd H s.heap.objs.size (.tup [.int (i : Nat), x])) { s with heap := h'', toks := tk + 1 } :=
      I.turnedNew (t' := tk + 1) (ch := [e, it]) (fun b ob hb q => (sb.2 b (fun z => hb (z ▸ List.mem_cons_self ..))).trans (hk b ob (fun z => hb (z ▸ List.mem_cons_self ..)) (fun z => hb (by simp [z])) q)) hf (Nat.le_refl _) nw
    refine ⟨.ref s.heap.objs.size, _, J1, rfl, ⟨_, x, rfl, I.hok.fresh (Nat.le_refl _), rfl, fun ys hy => by rw [I.tuple_inj hy hq]; exact hx⟩, ⟨⟨x', ?_⟩, hit'.1.at fun o q => (sb.2 it (Ne.symm hne)).trans q, hne, ha, hae⟩, fun b hb => ?_⟩
    · have e1 : ((i + 1 : Nat) : Int) = (i : Int) + 1 := by omega
      rw [e1]; exact he'
    · have hb' : b < s.heap.objs.size := by
        rcases List.mem_cons.mp hb with z | z
        · exact z ▸ le1
        · exact (List.mem_singleton.mp z) ▸ le2
      rw [upd_ne (Nat.ne_of_lt hb')]
      exact (hf b hb).1
  done := by
    intro X hP hw hK hc i pins s σ H E I hf st hg
    subst hP hw hK
    obtain ⟨⟨old, he⟩, hit, hne, ha, hae⟩ := st
    obtain ⟨xs, hq, hx⟩ := hg
    obtain ⟨its, rv, p, hz⟩ := I.tuple hq
    obtain ⟨f0, f1, f2, f3, f4, f5⟩ := hf it (List.mem_cons_of_mem _ (List.mem_singleton.mpr rfl))
    have hl := rv.length
    have pT : s.heap.IsTuple a its.toArray := p
    have hT : s.TypeIs (.ref e) "enumerate" := ⟨_, he, rfl⟩
    unfold pyNext
    refine wpAny_bind (wpAny_attempt (wpAny_callSpecial?_slot (name := Str.ofString "__next__") hT F.slot_enumerate_next (wpAny_call_entry F.slot_enumerate_next hT F.entry_enumerate_next ?_ (F.args_enumerate_next_1 _))))
    show wpAny _ _ (field (.ref e) 2 >>= _) _ _ _
    refine wpAny_bind (wpAny_field he rfl (x := .ref it) rfl ?_)
    refine wpAny_bind (wpAny_nextOf_tuple_end (show X.A.in1.handled = none from I.ok.hd hc) hit pT (by simp; omega) fun h' x he' hx' => ?_)
    obtain ⟨o, ho, hcl⟩ := hx'
    refine wpAny_bind (wpAny_isInstance (T := "StopIteration") (b := true) ⟨o, ho, hcl⟩ isSubtype_stop ?_)
    exact wpAny_pure ⟨rfl, I.turned (t' := s.toks) (fun b o hb q => he' b o hb q) f0 f1 f3 f4 f5⟩
  self := fun A i s Q E ⟨⟨_, he⟩, _⟩ h => wpAny_pyIter_enum he h
/-- enumerate(list or tuple) -/
def iEnA (K : PySem.W.Frag) (ta : TA) : TI := fun σ H R => ta σ H fun vs H1 => ∃ a xs, vs = [.ref a] ∧ ((SqL K H1 a xs ∧ R (Ite K a) H1) ∨ (SqT K H1 a xs ∧ R (IteT K a) H1))
theorem pi_enA {X : Cx} {e : Expr} {ta : TA} {p pos tpos : Pos} {elts : List Expr} {kk : Nat} (hg : Gl X "enumerate") (hm : X.mg "enumerate" = none) (ha : PA X [e] ta) (hs : starEach [e] X.env = [(false, eval e X.env)] := by rfl) :
    PI X (.Tuple elts kk tpos) (.Call (.Name "enumerate" p) [e] [] pos) (iEnA X.K ta) := by
  refine ⟨fun pins s σ H R I h => ?_⟩
  refine Call_ (ld_blt I hg hm boot_enumerate (PyProof.Rows.callWith_type1 (thn (ha.run pos pins s σ H _ I h) fun us s1 ⟨vs, H1, I1, r1, q1⟩ => ?_) hs rfl))
  obtain ⟨a, xs, ex, hq⟩ := q1
  subst ex
  cases r1 with
  | cons r rr =>
    cases rr
    cases r
    have old : ∀ b ∈ [s1.heap.objs.size + 1, s1.heap.objs.size], FpOk X pins H1 b := fun b hb => by
      have hle : s1.heap.objs.size ≤ b := by
        rcases List.mem_cons.mp hb with z | z
        · exact z ▸ Nat.le_add_right _ _
        · exact Nat.le_of_eq (List.mem_singleton.mp z).symm
      exact I1.fpOk hle (I1.hok.fresh hle)
    rcases hq with ⟨hq, q⟩ | ⟨hq, q⟩
    · obtain ⟨its, rv, pL, hz⟩ := I1.list hq
      refine enumT_call (begins_list a its.toArray) pL.isList fun h' he hit hk => wpAny_pyIter_enum he ?_
      exact ⟨s1.heap.objs.size + 1, [s1.heap.objs.size + 1, s1.heap.objs.size], _, _, H1, rfl, I1.kept (t' := s1.toks) hk, turn_enum a (s1.heap.objs.size + 1) s1.heap.objs.size, ⟨⟨.none, he⟩, ⟨_, hit, rfl, rfl⟩, Nat.succ_ne_self _⟩, old, q⟩
    · obtain ⟨its, rv, pL, hz⟩ := I1.tuple hq
      have pT : s1.heap.IsTuple a its.toArray := pL
      have la : a < s1.heap.objs.size := by obtain ⟨_, q, _⟩ := id pT; exact Heap.lt_size q
      refine enumT_call (begins_tuple a its.toArray) pT fun h' he hit hk => wpAny_pyIter_enum he ?_
      exact ⟨s1.heap.objs.size + 1, [s1.heap.objs.size + 1, s1.heap.objs.size], _, _, H1, rfl, I1.kept (t' := s1.toks) hk, turn_enT a (s1.heap.objs.size + 1) s1.heap.objs.size, ⟨⟨.none, he⟩, ⟨_, hit, rfl, rfl⟩, Nat.succ_ne_self _, Nat.ne_of_lt la, Nat.ne_of_lt (Nat.lt_succ_of_lt la)⟩, old, q⟩
end Q
end
section
namespace Q
open PySem PySem.Spec PyProof.Rows L2

mutual
theorem same_refl : ∀ a : D, same a a = true
  | .non => by unfold same; rfl
  | .bl x => by unfold same; exact beq_self_eq_true _
  | .int x => by unfold same; exact beq_self_eq_true _
  | .str x => by unfold same; exact beq_self_eq_true _
  | .tup x => by unfold same; exact sames_refl x
  | .pr x => by unfold same; exact sames_refl x
  | .fl x => by unfold same; exact sames_refl x
  | .rl x => by unfold same; exact sames_refl x
  | .ml x => by unfold same; exact beq_self_eq_true _
  | .md x => by unfold same; exact beq_self_eq_true _
  | .fn x => by unfold same; exact beq_self_eq_true _
theorem sames_refl : ∀ a : List D, sames a a = true
  | [] => same_nil
  | x :: xs => by unfold sames; rw [same_refl x, sames_refl xs]; rfl
end
theorem src_still {h : Hh} {d : D} {s : Src} (e : srcOf h d = some s) : s.still h = true := by
  cases d with
  | ml i =>
    cases hu : h[i]? with
    | none => simp only [srcOf, hu] at e; cases e
    | some u =>
      simp only [srcOf, hu] at e
      cases u with
      | lst xs =>
        have es : (⟨xs, lstIs i xs⟩ : Src) = s := Option.some.inj e
        subst es
        show lstIs i xs h = true
        unfold lstIs
        rw [hu]
        exact sames_refl xs
      | dK _ => cases e
      | dT _ => cases e
      | lK _ => cases e
      | lT _ => cases e
      | obj _ _ => cases e
  | tup ds => unfold srcOf at e; cases e; rfl
  | pr ds => unfold srcOf at e; cases e; rfl
  | fl ds => unfold srcOf at e; cases e; rfl
  | rl ds => unfold srcOf at e; cases e; rfl
  | non => unfold srcOf seqOf at e; cases e
  | bl _ => unfold srcOf seqOf at e; cases e
  | int _ => unfold srcOf seqOf at e; cases e
  | str _ => unfold srcOf seqOf at e; cases e
  | md _ => unfold srcOf seqOf at e; cases e
  | fn _ => unfold srcOf seqOf at e; cases e

/-- the state goes on; what is held apart may change; new addresses are held apart -/
structure GoK (κ ρ : List Addr) (H : Hp) (κ1 ρ1 : List Addr) (H1 : Hp) : Prop where
  pre : ∃ t, ρ1 = ρ ++ t
  stay : ∀ a o, H a = some o → a ∉ ρ → a ∉ κ → H1 a = some o
  fresh : ∀ a ∈ ρ1, a ∉ ρ → H a = none
  old : ∀ a ∈ κ, a ∈ κ1
  new : ∀ a ∈ κ1, a ∉ κ → H a = none
  fz : ∀ a od u, H a = some (.frz od u) → H1 a = some (.frz od u)
section
variable {g : G} {E : XK} {K : PySem.W.Frag} {κ κ1 κ2 ρ ρ1 ρ2 : List Addr} {H H1 H2 : Hp} {h h1 : Hh}
theorem GoK.refl : GoK κ ρ H κ ρ H := ⟨⟨[], by simp⟩, fun _ _ q _ _ => q, fun _ q n => absurd q n, fun _ q => q, fun _ q n => absurd q n, fun _ _ _ q => q⟩
theorem GoK.of (k : Go ρ H ρ1 H1) : GoK κ ρ H κ ρ1 H1 := ⟨k.pre, fun a o q n _ => k.stay a o q n, k.new, fun _ q => q, fun _ q n => absurd q n, fun a od u q => k.fz a od u q⟩
theorem GoK.notin (k : GoK κ ρ H κ1 ρ1 H1) {a : Addr} {o : HO} (n : a ∉ ρ) (e : H a = some o) : a ∉ ρ1 := fun z => by
  have := k.fresh a z n
  rw [e] at this; cases this
theorem GoK.sub (k : GoK κ ρ H κ1 ρ1 H1) {a : Addr} (m : a ∈ ρ) : a ∈ ρ1 := by
  obtain ⟨t, e⟩ := k.pre
  rw [e]
  exact List.mem_append_left _ m
theorem GoK.at_ (k : GoK κ ρ H κ1 ρ1 H1) {i : Nat} {a : Addr} (e : ρ[i]? = some a) : ρ1[i]? = some a := by
  obtain ⟨t, et⟩ := k.pre
  obtain ⟨hi, _⟩ := List.getElem?_eq_some_iff.mp e
  rw [et, List.getElem?_append_left hi]; exact e
theorem GoK.trans (k : GoK κ ρ H κ ρ1 H1) (c : CS g κ ρ1 h1 H1) (l : GoK κ ρ1 H1 κ ρ2 H2) : GoK κ ρ H κ ρ2 H2 := by
  refine ⟨?_, fun a o q n m => l.stay a o (k.stay a o q n m) (k.notin n q) m, fun a q n => ?_, fun _ q => q, fun _ q n => absurd q n, fun a od u q => l.fz a od u (k.fz a od u q)⟩
  · obtain ⟨t, e⟩ := k.pre
    obtain ⟨u, f⟩ := l.pre
    exact ⟨t ++ u, by rw [f, e, List.append_assoc]⟩
  · by_cases z : a ∈ ρ1
    · exact k.fresh a z n
    · have y := l.fresh a q z
      cases e : H a with
      | none => rfl
      | some o =>
        by_cases m : a ∈ κ
        · obtain ⟨w, hw⟩ := c.kap a m
          rw [y] at hw; cases hw
        · rw [k.stay a o e n m] at y; cases y
theorem FT.gk {a : Addr} {vs : List V} (k : GoK κ ρ H κ1 ρ1 H1) (h : FT κ ρ H a vs) : FT κ1 ρ1 H1 a vs :=
  let ⟨⟨o, z, y⟩, h2, h3⟩ := h
  ⟨⟨o, k.stay _ _ z h2 h3, y⟩, k.notin h2 z, fun q => by have w := k.new a q h3; rw [z] at w; cases w⟩
theorem FP.gk {a : Addr} {vs : List V} (k : GoK κ ρ H κ1 ρ1 H1) (h : FP κ ρ H a vs) : FP κ1 ρ1 H1 a vs :=
  ⟨k.stay _ _ h.1 h.2.1 h.2.2, k.notin h.2.1 h.1, fun q => by have w := k.new a q h.2.2; rw [h.1] at w; cases w⟩
theorem FL.gk {a : Addr} {vs : List V} (k : GoK κ ρ H κ1 ρ1 H1) (h : FL κ ρ H a vs) : FL κ1 ρ1 H1 a vs :=
  ⟨k.stay _ _ h.1 h.2.1 h.2.2, k.notin h.2.1 h.1, fun q => by have w := k.new a q h.2.2; rw [h.1] at w; cases w⟩
theorem FR.gk {a : Addr} {vs : List V} (k : GoK κ ρ H κ1 ρ1 H1) (h : FR K κ ρ H a vs) : FR K κ1 ρ1 H1 a vs :=
  h.imp (fun ⟨o, z1, z2, z3⟩ => ⟨o, k.stay _ _ z1 z2 z3, k.notin z2 z1, fun q => by have w := k.new a q z3; rw [z1] at w; cases w⟩) (fun w => w)
theorem Rep.gk {d : D} {v : V} (k : GoK κ ρ H κ1 ρ1 H1) (h : Rep K κ ρ H d v) : Rep K κ1 ρ1 H1 d v := h.mono (fun _ _ => FT.gk k) (fun _ _ => FP.gk k) (fun _ _ => FL.gk k) (fun _ _ => FR.gk k) fun _ _ => k.at_
theorem Reps.gk {d : List D} {v : List V} (k : GoK κ ρ H κ1 ρ1 H1) (h : Reps K κ ρ H d v) : Reps K κ1 ρ1 H1 d v := h.mono (fun _ _ => FT.gk k) (fun _ _ => FP.gk k) (fun _ _ => FL.gk k) (fun _ _ => FR.gk k) fun _ _ => k.at_

/-- a sequence that stands while told so -/
def Held (g : G) (κ ρ : List Addr) (H : Hp) (s : Src) (Sq : Hp → List V → Prop) : Prop :=
  ∀ κ1 ρ1 H1 h1, GoK κ ρ H κ1 ρ1 H1 → CS g κ1 ρ1 h1 H1 → s.still h1 = true → ∃ xs, Sq H1 xs ∧ Reps g.K κ1 ρ1 H1 s.items xs
def SrcOk (g : G) (κ ρ : List Addr) (H : Hp) (J : It) (s : Src) : Prop :=
  ∀ κ1 ρ1 H1 h1, GoK κ ρ H κ1 ρ1 H1 → CS g κ1 ρ1 h1 H1 → s.still h1 = true →
    (∀ i d, s.items[i]? = some d → J.go i H1 ∧ ∀ x H2, J.yld i H1 x H2 → Go ρ1 H1 ρ1 H2 ∧ CS g κ1 ρ1 h1 H2 ∧ Rep g.K κ1 ρ1 H2 d x) ∧ J.stop s.items.length H1
def lstD (h : Hh) (d : D) : Bool := (lstOf h d).isSome
theorem held_of {d : D} {v : V} {s : Src} (c : CS g κ ρ h H) (r : Rep g.K κ ρ H d v) (e : srcOf h d = some s) :
    ∃ a, v = .ref a ∧ (((∃ ds, lstOf h d = some ds) ∧ Held g κ ρ H s fun H => SqL g.K H a) ∨ ((∃ ds, d = .tup ds ∨ d = .pr ds) ∧ Held g κ ρ H s fun H => SqT g.K H a)) := by
  cases d with
  | tup ds =>
    obtain ⟨a, vs, e1, f, q⟩ := r
    have es : (⟨ds, fun _ => true⟩ : Src) = s := by unfold srcOf at e; exact Option.some.inj e
    subst es
    exact ⟨a, e1, .inr ⟨⟨ds, .inl rfl⟩, fun κ1 ρ1 H1 h1 k _ _ => ⟨vs, (f.gk k).sq, q.gk k⟩⟩⟩
  | pr ds =>
    obtain ⟨a, vs, e1, f, q⟩ := r
    have es : (⟨ds, fun _ => true⟩ : Src) = s := by unfold srcOf at e; exact Option.some.inj e
    subst es
    exact ⟨a, e1, .inr ⟨⟨ds, .inr rfl⟩, fun κ1 ρ1 H1 h1 k _ _ => ⟨vs, (f.gk k).sq, q.gk k⟩⟩⟩
  | fl ds =>
    obtain ⟨a, vs, e1, f, q⟩ := r
    have es : (⟨ds, fun _ => true⟩ : Src) = s := by unfold srcOf at e; exact Option.some.inj e
    subst es
    exact ⟨a, e1, .inl ⟨⟨ds, rfl⟩, fun κ1 ρ1 H1 h1 k _ _ => ⟨vs, (f.gk k).sq, q.gk k⟩⟩⟩
  | rl ds =>
    obtain ⟨a, vs, e1, f, q⟩ := r
    have es : (⟨ds, fun _ => true⟩ : Src) = s := by unfold srcOf at e; exact Option.some.inj e
    subst es
    exact ⟨a, e1, .inl ⟨⟨ds, rfl⟩, fun κ1 ρ1 H1 h1 k _ _ => ⟨vs, (f.gk k).sq, q.gk k⟩⟩⟩
  | ml i =>
    obtain ⟨a, e1, ha⟩ := r
    obtain ⟨u, hu, cr⟩ := c.get ha
    simp only [srcOf, hu] at e
    cases u with
    | lst xs =>
      have es : (⟨xs, lstIs i xs⟩ : Src) = s := Option.some.inj e
      subst es
      refine ⟨a, e1, .inl ⟨⟨xs, by simp only [lstOf, hu]⟩, fun κ1 ρ1 H1 h1 k c1 st => ?_⟩⟩
      have ha1 := k.at_ ha
      obtain ⟨u1, hu1, cr1⟩ := c1.get ha1
      have st : lstIs i xs h1 = true := st
      unfold lstIs at st
      rw [hu1] at st
      cases u1 with
      | lst ys =>
        have z : ys = xs := sames_eq st
        subst z
        obtain ⟨vs, q1, q2⟩ := cr1
        exact ⟨vs, .inl (.inl q1), q2⟩
      | dK _ => exact absurd st (by simp)
      | dT _ => exact absurd st (by simp)
      | lK _ => exact absurd st (by simp)
      | lT _ => exact absurd st (by simp)
      | obj _ _ => exact absurd st (by simp)
    | dK _ => cases e
    | dT _ => cases e
    | lK _ => cases e
    | lT _ => cases e
    | obj _ _ => cases e
  | non => unfold srcOf seqOf at e; cases e
  | bl _ => unfold srcOf seqOf at e; cases e
  | int _ => unfold srcOf seqOf at e; cases e
  | str _ => unfold srcOf seqOf at e; cases e
  | md _ => unfold srcOf seqOf at e; cases e
  | fn _ => unfold srcOf seqOf at e; cases e

/-! ## iterators -/
theorem ok_list {a : Addr} {s : Src} (hh : Held g κ ρ H s fun H => SqL g.K H a) : SrcOk g κ ρ H (Itl g.K a) s := fun κ1 ρ1 H1 h1 k c st => by
  obtain ⟨xs, sq, rp⟩ := hh κ1 ρ1 H1 h1 k c st
  refine ⟨fun i d e => ?_, ⟨xs, sq, Nat.le_of_eq rp.len⟩⟩
  obtain ⟨v, e1, rv⟩ := rp.get e
  refine ⟨⟨xs, v, sq, e1⟩, fun x H2 y => ?_⟩
  obtain ⟨eH, y⟩ := y
  subst eH
  have z := y xs sq
  rw [e1] at z
  cases z
  exact ⟨Go.refl _ _, c, rv⟩
theorem ok_tup {a : Addr} {s : Src} (hh : Held g κ ρ H s fun H => SqT g.K H a) : SrcOk g κ ρ H (Itt g.K a) s := fun κ1 ρ1 H1 h1 k c st => by
  obtain ⟨xs, sq, rp⟩ := hh κ1 ρ1 H1 h1 k c st
  refine ⟨fun i d e => ?_, ⟨xs, sq, Nat.le_of_eq rp.len⟩⟩
  obtain ⟨v, e1, rv⟩ := rp.get e
  refine ⟨⟨xs, v, sq, e1⟩, fun x H2 y => ?_⟩
  obtain ⟨eH, y⟩ := y
  subst eH
  have z := y xs sq
  rw [e1] at z
  cases z
  exact ⟨Go.refl _ _, c, rv⟩
theorem rgI_get {lo j : Int} {i : Nat} {d : D} (e : (rgI lo j)[i]? = some d) : i < (j - lo).toNat ∧ d = .int (lo + (i : Nat)) := by
  unfold rgI at e
  rw [List.getElem?_map] at e
  by_cases hi : i < (j - lo).toNat
  · rw [List.getElem?_range hi] at e
    exact ⟨hi, (Option.some.inj e).symm⟩
  · rw [List.getElem?_eq_none (by simpa using hi)] at e; cases e
theorem rgI_len {lo j : Int} : (rgI lo j).length = (j - lo).toNat := by unfold rgI; simp
theorem ok_rg {lo j : Int} : SrcOk g κ ρ H (Itr lo (j - lo).toNat) ⟨rgI lo j, fun _ => true⟩ := fun κ1 ρ1 H1 h1 k c st => by
  refine ⟨fun i d e => ?_, Nat.le_of_eq rgI_len.symm⟩
  obtain ⟨hi, hd⟩ := rgI_get e
  refine ⟨hi, fun x H2 y => ?_⟩
  obtain ⟨eH, y⟩ := y
  subst eH hd
  exact ⟨Go.refl _ _, c, y⟩
/-- a pair that an iterator makes -/
theorem pair_ok {T : Addr} {x y : V} {d e : D} (c : CS g κ ρ h H) (hT : H T = none) (rx : Rep g.K κ ρ H d x) (ry : Rep g.K κ ρ H e y) :
    Go ρ H ρ (upd H T (.tup [x, y])) ∧ CS g κ ρ h (upd H T (.tup [x, y])) ∧ Rep g.K κ ρ (upd H T (.tup [x, y])) (.pr [d, e]) (.ref T) := by
  have k := Go.laid c hT (.tup [x, y])
  exact ⟨k, c.laid hT _, T, [x, y], rfl, ⟨upd_same, c.fresh hT, c.freshK hT⟩, x, [y], rfl, rx.go k, y, [], rfl, ry.go k, rfl⟩
theorem enI_get {ds : List D} {i : Nat} {d : D} (e : (enI ds)[i]? = some d) : ∃ x, ds[i]? = some x ∧ d = .pr [.int (i : Nat), x] := by
  unfold enI at e
  rw [List.getElem?_map, List.getElem?_zipIdx] at e
  cases q : ds[i]? with
  | none => rw [q] at e; cases e
  | some x =>
    rw [q] at e
    refine ⟨x, rfl, ?_⟩
    have := Option.some.inj e
    rw [← this]
    simp
theorem ok_enL {a : Addr} {s : Src} (hh : Held g κ ρ H s fun H => SqL g.K H a) : SrcOk g κ ρ H (Ite g.K a) ⟨enI s.items, s.still⟩ := fun κ1 ρ1 H1 h1 k c st => by
  obtain ⟨xs, sq, rp⟩ := hh κ1 ρ1 H1 h1 k c st
  refine ⟨fun i d e => ?_, ⟨xs, sq, by rw [rp.len]; unfold enI; simp⟩⟩
  obtain ⟨w, ew, ed⟩ := enI_get e
  obtain ⟨v, e1, rv⟩ := rp.get ew
  refine ⟨⟨xs, v, sq, e1⟩, fun x H2 y => ?_⟩
  obtain ⟨T, z, ex, hT, eH, y⟩ := y
  have q := y xs sq
  rw [e1] at q
  cases q
  subst ex eH ed
  exact pair_ok c hT rfl rv
theorem ok_enT {a : Addr} {s : Src} (hh : Held g κ ρ H s fun H => SqT g.K H a) : SrcOk g κ ρ H (IteT g.K a) ⟨enI s.items, s.still⟩ := fun κ1 ρ1 H1 h1 k c st => by
  obtain ⟨xs, sq, rp⟩ := hh κ1 ρ1 H1 h1 k c st
  refine ⟨fun i d e => ?_, ⟨xs, sq, by rw [rp.len]; unfold enI; simp⟩⟩
  obtain ⟨w, ew, ed⟩ := enI_get e
  obtain ⟨v, e1, rv⟩ := rp.get ew
  refine ⟨⟨xs, v, sq, e1⟩, fun x H2 y => ?_⟩
  obtain ⟨T, z, ex, hT, eH, y⟩ := y
  have q := y xs sq
  rw [e1] at q
  cases q
  subst ex eH ed
  exact pair_ok c hT rfl rv
theorem zipI_get {ds es : List D} {i : Nat} {d : D} (e : (zipI ds es)[i]? = some d) : ∃ x y, ds[i]? = some x ∧ es[i]? = some y ∧ d = .pr [x, y] := by
  unfold zipI at e
  rw [List.getElem?_map] at e
  cases q : (ds.zip es)[i]? with
  | none => rw [q] at e; cases e
  | some p =>
    rw [q] at e
    have := List.getElem?_zip_eq_some.mp q
    exact ⟨p.1, p.2, this.1, this.2, (Option.some.inj e).symm⟩
theorem zipI_len {ds es : List D} : (zipI ds es).length = min ds.length es.length := by unfold zipI; simp
theorem ok_zipL {a b : Addr} {s t : Src} (h1 : Held g κ ρ H s fun H => SqL g.K H a) (h2 : Held g κ ρ H t fun H => SqL g.K H b) : SrcOk g κ ρ H (Itz g.K a b) ⟨zipI s.items t.items, fun h => s.still h && t.still h⟩ := fun κ1 ρ1 H1 hh k c st => by
  have st : (s.still hh && t.still hh) = true := st
  rw [Bool.and_eq_true] at st
  obtain ⟨xs, sq, rp⟩ := h1 κ1 ρ1 H1 hh k c st.1
  obtain ⟨ys, sq2, rp2⟩ := h2 κ1 ρ1 H1 hh k c st.2
  refine ⟨fun i d e => ?_, ⟨xs, ys, sq, sq2, by show xs.length ≤ (zipI _ _).length ∨ ys.length ≤ (zipI _ _).length; rw [rp.len, rp2.len, zipI_len]; omega⟩⟩
  obtain ⟨w, w2, ew, ew2, ed⟩ := zipI_get e
  obtain ⟨v, e1, rv⟩ := rp.get ew
  obtain ⟨v2, e2, rv2⟩ := rp2.get ew2
  refine ⟨⟨xs, ys, v, v2, sq, sq2, e1, e2⟩, fun x H2 y => ?_⟩
  obtain ⟨T, z, z2, ex, hT, eH, y, y2⟩ := y
  have q := y xs sq
  have q2 := y2 ys sq2
  rw [e1] at q
  rw [e2] at q2
  cases q; cases q2
  subst ex eH ed
  exact pair_ok c hT rv rv2
theorem ok_zipT {a b : Addr} {s t : Src} (h1 : Held g κ ρ H s fun H => SqT g.K H a) (h2 : Held g κ ρ H t fun H => SqT g.K H b) : SrcOk g κ ρ H (RZ.ItzT g.K a b) ⟨zipI s.items t.items, fun h => s.still h && t.still h⟩ := fun κ1 ρ1 H1 hh k c st => by
  have st : (s.still hh && t.still hh) = true := st
  rw [Bool.and_eq_true] at st
  obtain ⟨xs, sq, rp⟩ := h1 κ1 ρ1 H1 hh k c st.1
  obtain ⟨ys, sq2, rp2⟩ := h2 κ1 ρ1 H1 hh k c st.2
  refine ⟨fun i d e => ?_, ⟨xs, ys, sq, sq2, by show xs.length ≤ (zipI _ _).length ∨ ys.length ≤ (zipI _ _).length; rw [rp.len, rp2.len, zipI_len]; omega⟩⟩
  obtain ⟨w, w2, ew, ew2, ed⟩ := zipI_get e
  obtain ⟨v, e1, rv⟩ := rp.get ew
  obtain ⟨v2, e2, rv2⟩ := rp2.get ew2
  refine ⟨⟨xs, ys, v, v2, sq, sq2, e1, e2⟩, fun x H2 y => ?_⟩
  obtain ⟨T, z, z2, ex, hT, eH, y, y2⟩ := y
  have q := y xs sq
  have q2 := y2 ys sq2
  rw [e1] at q
  rw [e2] at q2
  cases q; cases q2
  subst ex eH ed
  exact pair_ok c hT rv rv2
end
/-- what an outcome of a source asks -/
def WpI (g : G) (E : XK) (κ ρ : List Addr) (H : Hp) (r : Oc Src) (R : It → Hp → Prop) : Prop :=
  match r with
  | .bad => False
  | .ok s h' => ∀ ρ' J H', Go ρ H ρ' H' → CS g κ ρ' h' H' → SrcOk g κ ρ' H' J s → R J H'
  | .ex x h' => ∀ ρ' H' c dO, Go ρ H ρ' H' → CS g κ ρ' h' H' → XRep g κ ρ' H' x c dO → E c dO H'
abbrev DI := Ev → Hh → Oc Src
def RI (g : G) (E : XK) (f : DI) : TI := fun σ H R => ∃ κ ρ env h, Sit g κ ρ env h σ H ∧ WpI g E κ ρ H (f env h) R
section
variable {X : Cx} {g : G} {E : XK} {κ ρ ρ1 : List Addr} {H H1 : Hp} {env : Ev} {σ : L2.St} {h h1 : Hh} {a b : Expr} {fa fb : DE} {pos p : Pos} {tg : Expr}
theorem WpI.go {r : Oc Src} {R} (k : Go ρ H ρ1 H1) (w : WpI g E κ ρ H r R) : WpI g E κ ρ1 H1 r R := by
  cases r with
  | bad => exact w
  | ok d h' => exact fun ρ' v H' k' => w ρ' v H' (k.trans k')
  | ex x h' => exact fun ρ' H' c dO k' => w ρ' H' c dO (k.trans k')
theorem PI.imp {t t' : TI} {e : Expr} (q : PI X tg e t) (hi : ∀ σ H R, t' σ H R → t σ H R) : PI X tg e t' := ⟨fun pins s σ H R I z => q.run pins s σ H R I (hi σ H R z)⟩
/-- one argument -/
theorem RI_one {op : D → Hh → Oc Src} {R} (w : RI g E (fun env h => (fa env h).bind op) σ H R) : RE g E fa σ H fun x H1 => ∃ κ ρ h d, CS g κ ρ h H1 ∧ Rep g.K κ ρ H1 d x ∧ WpI g E κ ρ H1 (op d h) R := by
  obtain ⟨κ, ρ, env, h, S, w⟩ := w
  refine ⟨κ, ρ, env, h, S, ?_⟩
  revert w
  show WpI g E κ ρ H ((fa env h).bind op) R → _
  cases fa env h with
  | bad => exact fun w => w
  | ex x h' => exact fun w => w
  | ok d h1 => exact fun w ρ1 x H1 k1 c1 q1 => ⟨κ, ρ1, h1, d, c1, q1, WpI.go k1 w⟩
theorem RE_args1 {Q : V → Hp → Prop} (w : RE g E fa σ H Q) : RA g E (dCons fa dNil) σ H fun vs H1 => ∃ x, vs = [x] ∧ Q x H1 := by
  obtain ⟨κ, ρ, env, h, S, w⟩ := w
  refine ⟨κ, ρ, env, h, S, ?_⟩
  unfold dCons
  revert w
  cases fa env h with
  | bad => exact fun w => w
  | ex x h' => exact fun w => w
  | ok d h1 => exact fun w ρ1 vs H1 k1 c1 ⟨x, r, e, rx, hr⟩ => ⟨x, by rw [e, show r = [] from hr], w ρ1 x H1 k1 c1 rx⟩
theorem RI_two {op : D → D → Hh → Oc Src} {R} (w : RI g E (fun env h => (fa env h).bind fun d h1 => (fb env h1).bind fun e h2 => op d e h2) σ H R) :
    RA g E (dCons fa (dCons fb dNil)) σ H fun vs H1 => ∃ κ ρ h d e x y, vs = [x, y] ∧ CS g κ ρ h H1 ∧ Rep g.K κ ρ H1 d x ∧ Rep g.K κ ρ H1 e y ∧ WpI g E κ ρ H1 (op d e h) R := by
  obtain ⟨κ, ρ, env, h, S, w⟩ := w
  refine ⟨κ, ρ, env, h, S, ?_⟩
  unfold dCons
  revert w
  show WpI g E κ ρ H ((fa env h).bind fun d h1 => (fb env h1).bind fun e h2 => op d e h2) R → _
  cases fa env h with
  | bad => exact fun w => w
  | ex x h' => exact fun w => w
  | ok d h1 =>
    show WpI g E κ ρ H ((fb env h1).bind fun e h2 => op d e h2) R → WpA g E κ ρ H (((fb env h1).bind fun x h1 => (dNil env h1).bind fun xs h2 => .ok (x :: xs) h2).bind fun xs h2 => .ok (d :: xs) h2) _
    cases fb env h1 with
    | bad => exact fun w => w
    | ex x h' => exact fun w => w
    | ok e h2 =>
      intro w ρ1 vs H1 k1 c1 ⟨x, r, e1, rx, ⟨y, r2, e2, ry, hr⟩⟩
      exact ⟨κ, ρ1, h2, d, e, x, y, by rw [e1, e2, show r2 = [] from hr], c1, rx, ry, WpI.go k1 w⟩
theorem bnd62 {j : Int} (e : inRg j = true) : -(2 ^ 62) ≤ j ∧ j < 2 ^ 62 := of_decide_eq_true e
theorem p_rng1 (hg : Gl X "range") (hm : X.mg "range" = none) (ha : PE X a (RE g E fa)) (hs : starEach [a] X.env = [(false, eval a X.env)]) : PI X tg (.Call (.Name "range" p) [a] [] pos) (RI g E fun env h => (fa env h).bind vRg1) := by
  refine PI.imp (pi_range1 hg hm (p_cons ha p_nil hs) hs) fun σ H R w => ?_
  have w2 := RE_args1 (RI_one w)
  obtain ⟨κ, ρ, env, h, S, w2⟩ := w2
  refine ⟨κ, ρ, env, h, S, ?_⟩
  revert w2
  cases dCons fa dNil env h with
  | bad => exact fun w => w
  | ex x h' => exact fun w => w
  | ok ds h1 =>
    intro w2 ρ1 vs H1 k1 c1 r1
    obtain ⟨x, e, κ2, ρ2, h2, d, c2, q, w⟩ := w2 ρ1 vs H1 k1 c1 r1
    subst e
    cases d with
    | int j =>
      have q : x = .int j := q
      subst q
      have w : WpI g E κ2 ρ2 H1 (if inRg j then .ok ⟨rgI 0 j, fun _ => true⟩ h2 else .bad) R := w
      split at w
      · rename_i hb
        obtain ⟨b1, b2⟩ := bnd62 hb
        have z := w ρ2 _ H1 (Go.refl _ _) c2 ok_rg
        have ej : j - 0 = j := by omega
        rw [ej] at z
        exact ⟨j, rfl, b1, b2, z⟩
      · exact absurd w (fun w => w)
    | _ => exact absurd (show False from w) (fun w => w)
theorem p_rng2 (hg : Gl X "range") (hm : X.mg "range" = none) (ha : PE X a (RE g E fa)) (hb : PE X b (RE g E fb)) (hs : starEach [a, b] X.env = (false, eval a X.env) :: starEach [b] X.env) (hs2 : starEach [b] X.env = [(false, eval b X.env)]) :
    PI X tg (.Call (.Name "range" p) [a, b] [] pos) (RI g E fun env h => (fa env h).bind fun d h1 => (fb env h1).bind fun e h2 => vRg2 d e h2) := by
  refine PI.imp (pi_range2 hg hm (p_cons ha (p_cons hb p_nil hs2) hs) (by rw [hs, hs2]) hs2) fun σ H R w => ?_
  obtain ⟨κ, ρ, env, h, S, w2⟩ := RI_two w
  refine ⟨κ, ρ, env, h, S, ?_⟩
  revert w2
  cases dCons fa (dCons fb dNil) env h with
  | bad => exact fun w => w
  | ex x h' => exact fun w => w
  | ok ds h1 =>
    intro w2 ρ1 vs H1 k1 c1 r1
    obtain ⟨κ2, ρ2, h2, d, e, x, y, ev, c2, q, q', w⟩ := w2 ρ1 vs H1 k1 c1 r1
    subst ev
    cases d with
    | int i =>
      cases e with
      | int j =>
        have q : x = .int i := q
        have q' : y = .int j := q'
        subst q q'
        have w : WpI g E κ2 ρ2 H1 (if inRg i && inRg j then .ok ⟨rgI i j, fun _ => true⟩ h2 else .bad) R := w
        split at w
        · rename_i hb
          rw [Bool.and_eq_true] at hb
          obtain ⟨b1, b2⟩ := bnd62 hb.1
          obtain ⟨b3, b4⟩ := bnd62 hb.2
          exact ⟨i, j, rfl, ⟨b1, b2, b3, b4⟩, w ρ2 _ H1 (Go.refl _ _) c2 ok_rg⟩
        · exact absurd w (fun w => w)
      | _ => exact absurd (show False from w) (fun w => w)
    | _ => exact absurd (show False from w) (fun w => w)
def iSeq (K : PySem.W.Frag) (tl : TE) : TI := fun σ H R => tl σ H fun x H1 => ∃ a, x = .ref a ∧ (((∃ xs, SqL K H1 a xs) ∧ R (Itl K a) H1) ∨ ((∃ xs, SqT K H1 a xs) ∧ R (Itt K a) H1))
theorem pi_seq {l : Expr} {tl : TE} (hl : PE X l tl) : PI X tg l (iSeq X.K tl) := by
  refine ⟨fun pins s σ H R I hy => thn (hl.run pins s σ H _ I hy) fun v s1 ⟨x, H1, I1, r1, a, e, q1⟩ => ?_⟩
  subst e
  cases r1
  have new : ∀ c ∈ [s1.heap.objs.size], FpOk X pins H1 c := fun c hc => by
    rw [List.mem_singleton.mp hc]
    exact I1.fpOk (Nat.le_refl _) (I1.hok.fresh (Nat.le_refl _))
  rcases q1 with ⟨⟨xs, hq⟩, q⟩ | ⟨⟨xs, hq⟩, q⟩
  · obtain ⟨its, rv, pl, hz⟩ := I1.list hq
    exact wpAny_pyIter_list pl.isList ⟨s1.heap.objs.size, _, _, _, H1, rfl, I1.kept (t' := s1.toks) fun b o e => Heap.get?_push_of_some _ e, turn_list a _, ⟨_, Heap.get?_push_size _ rfl, rfl, rfl⟩, new, q⟩
  · obtain ⟨its, rv, pl, hz⟩ := I1.tuple hq
    exact wpAny_pyIter_tuple (show s1.heap.IsTuple a its.toArray from pl) ⟨s1.heap.objs.size, _, _, _, H1, rfl, I1.kept (t' := s1.toks) fun b o e => Heap.get?_push_of_some _ e, turn_tuple a _, ⟨_, Heap.get?_push_size _ rfl, rfl, rfl⟩, new, q⟩
theorem p_seq (hK : X.K = g.K) (ha : PE X a (RE g E fa)) : PI X tg a (RI g E fun env h => (fa env h).bind vSeq) := by
  refine PI.imp (pi_seq ha) fun σ H R w => ?_
  obtain ⟨κ, ρ, env, h, S, w2⟩ := RI_one w
  refine ⟨κ, ρ, env, h, S, ?_⟩
  revert w2
  cases fa env h with
  | bad => exact fun w => w
  | ex x h' => exact fun w => w
  | ok d h1 =>
    intro w2 ρ1 x H1 k1 c1 r1
    obtain ⟨κ2, ρ2, h2, d2, c2, q, w⟩ := w2 ρ1 x H1 k1 c1 r1
    unfold vSeq at w
    split at w
    · rename_i s es
      rw [hK]
      obtain ⟨a, e, ⟨_, hh⟩ | ⟨_, hh⟩⟩ := held_of c2 q es
      · obtain ⟨xs, sq, _⟩ := hh κ2 ρ2 H1 h2 GoK.refl c2 (src_still es)
        exact ⟨a, e, .inl ⟨⟨xs, sq⟩, w ρ2 _ H1 (Go.refl _ _) c2 (ok_list hh)⟩⟩
      · obtain ⟨xs, sq, _⟩ := hh κ2 ρ2 H1 h2 GoK.refl c2 (src_still es)
        exact ⟨a, e, .inr ⟨⟨xs, sq⟩, w ρ2 _ H1 (Go.refl _ _) c2 (ok_tup hh)⟩⟩
    · exact absurd (show False from w) (fun w => w)
theorem p_enum {elts : List Expr} {kk : Nat} {tpos : Pos} (hK : X.K = g.K) (hg : Gl X "enumerate") (hm : X.mg "enumerate" = none) (ha : PE X a (RE g E fa)) (hs : starEach [a] X.env = [(false, eval a X.env)]) :
    PI X (.Tuple elts kk tpos) (.Call (.Name "enumerate" p) [a] [] pos) (RI g E fun env h => (fa env h).bind vEnum) := by
  refine PI.imp (pi_enA hg hm (p_cons ha p_nil hs) hs) fun σ H R w => ?_
  have w2 := RE_args1 (RI_one w)
  obtain ⟨κ, ρ, env, h, S, w2⟩ := w2
  refine ⟨κ, ρ, env, h, S, ?_⟩
  revert w2
  cases dCons fa dNil env h with
  | bad => exact fun w => w
  | ex x h' => exact fun w => w
  | ok ds h1 =>
    intro w2 ρ1 vs H1 k1 c1 r1
    obtain ⟨x, e, κ2, ρ2, h2, d, c2, q, w⟩ := w2 ρ1 vs H1 k1 c1 r1
    subst e
    unfold vEnum at w
    split at w
    · rename_i s es
      rw [hK]
      obtain ⟨a, e, ⟨_, hh⟩ | ⟨_, hh⟩⟩ := held_of c2 q es
      · obtain ⟨xs, sq, _⟩ := hh κ2 ρ2 H1 h2 GoK.refl c2 (src_still es)
        exact ⟨a, xs, by rw [e], .inl ⟨sq, w ρ2 _ H1 (Go.refl _ _) c2 (ok_enL hh)⟩⟩
      · obtain ⟨xs, sq, _⟩ := hh κ2 ρ2 H1 h2 GoK.refl c2 (src_still es)
        exact ⟨a, xs, by rw [e], .inr ⟨sq, w ρ2 _ H1 (Go.refl _ _) c2 (ok_enT hh)⟩⟩
    · exact absurd (show False from w) (fun w => w)
theorem not_tup {d : D} {l : List D} {ds : List D} (e : lstOf h d = some l) (z : d = .tup ds ∨ d = .pr ds) : False := by
  rcases z with z | z <;> (subst z; unfold lstOf at e; cases e)
theorem p_zip {elts : List Expr} {kk : Nat} {tpos : Pos} (hK : X.K = g.K) (hg : Gl X "zip") (hm : X.mg "zip" = none) (ha : PE X a (RE g E fa)) (hb : PE X b (RE g E fb)) (hs : starEach [a, b] X.env = (false, eval a X.env) :: starEach [b] X.env) (hs2 : starEach [b] X.env = [(false, eval b X.env)])
    (hpl : (backTo pos (starEach [b] X.env)).any (·.1) = false) :
    PI X (.Tuple elts kk tpos) (.Call (.Name "zip" p) [a, b] [] pos) (RI g E fun env h => (fa env h).bind fun d h1 => (fb env h1).bind fun e h2 => vZip d e h2) := by
  refine PI.imp (RZ.pi_zipA hg hm (p_cons ha (p_cons hb p_nil hs2) hs) hs hpl) fun σ H R w => ?_
  obtain ⟨κ, ρ, env, h, S, w2⟩ := RI_two w
  refine ⟨κ, ρ, env, h, S, ?_⟩
  revert w2
  cases dCons fa (dCons fb dNil) env h with
  | bad => exact fun w => w
  | ex x h' => exact fun w => w
  | ok ds h1 =>
    intro w2 ρ1 vs H1 k1 c1 r1
    obtain ⟨κ2, ρ2, h2, d, e, x, y, ev, c2, q, q', w⟩ := w2 ρ1 vs H1 k1 c1 r1
    subst ev
    rw [hK]
    unfold vZip at w
    split at w
    · rename_i l1 l2 s t e1 e2 es et
      obtain ⟨a, ea, ⟨_, hh⟩ | ⟨⟨_, z⟩, _⟩⟩ := held_of c2 q es
      · obtain ⟨b, eb, ⟨_, hh2⟩ | ⟨⟨_, z⟩, _⟩⟩ := held_of c2 q' et
        · obtain ⟨xs, sq, _⟩ := hh κ2 ρ2 H1 h2 GoK.refl c2 (src_still es)
          obtain ⟨ys, sq2, _⟩ := hh2 κ2 ρ2 H1 h2 GoK.refl c2 (src_still et)
          exact ⟨a, b, xs, ys, by rw [ea, eb], .inl ⟨sq, sq2, w ρ2 _ H1 (Go.refl _ _) c2 (ok_zipL hh hh2)⟩⟩
        · exact (not_tup e2 z).elim
      · exact (not_tup e1 z).elim
    · split at w
      · rename_i xs ys _
        obtain ⟨a, ea, ⟨⟨_, z⟩, _⟩ | ⟨_, hh⟩⟩ := held_of c2 q (s := ⟨xs, fun _ => true⟩) (by unfold srcOf; rfl)
        · exact (not_tup z (.inl rfl)).elim
        · obtain ⟨b, eb, ⟨⟨_, z⟩, _⟩ | ⟨_, hh2⟩⟩ := held_of c2 q' (s := ⟨ys, fun _ => true⟩) (by unfold srcOf; rfl)
          · exact (not_tup z (.inl rfl)).elim
          · obtain ⟨us, sq, _⟩ := hh κ2 ρ2 H1 h2 GoK.refl c2 rfl
            obtain ⟨ws, sq2, _⟩ := hh2 κ2 ρ2 H1 h2 GoK.refl c2 rfl
            exact ⟨a, b, us, ws, by rw [ea, eb], .inr ⟨sq, sq2, w ρ2 _ H1 (Go.refl _ _) c2 (ok_zipT hh hh2)⟩⟩
      · exact absurd (show False from w) (fun w => w)
end
end Q
end
section
namespace Q
open PySem PySem.Spec PyProof.Rows L2

/-! ## statements -/
section
variable {X : Cx} {g : G} {E : XK} {κ ρ ρ1 : List Addr} {H H1 : Hp} {env env1 : Ev} {σ : L2.St} {h h1 : Hh} {a b : Expr} {fa fb : DE} {st : Stmt} {sts : List Stmt} {pos p : Pos} {tg : Expr} {fs fs2 : DS} {gg : DG} {fi : DI} {c : DB} {B : Ends}
theorem WpS.bind {α : Type} {r : Oc α} {f : α → Hh → Oc (Fl × Ev)} : WpS g E κ ρ H (r.bind f) B → match r with
  | .bad => False
  | .ok d h' => WpS g E κ ρ H (f d h') B
  | .ex x h' => ∀ ρ' H' c dO, Go ρ H ρ' H' → CS g κ ρ' h' H' → XRep g κ ρ' H' x c dO → E c dO H' := by
  intro w
  cases r with
  | bad => exact w
  | ok d h' => exact w
  | ex x h' => exact w
/-- an expression, then something -/
theorem RE_then {f : D → Hh → Oc (Fl × Ev)} {Q : VK} (S : Sit g κ ρ env h σ H) (w : WpS g E κ ρ H ((fa env h).bind f) B)
    (k : ∀ ρ1 H1 h1 d v, Sit g κ ρ1 env h1 σ H1 → Rep g.K κ ρ1 H1 d v → WpS g E κ ρ1 H1 (f d h1) B → Q v H1) : RE g E fa σ H Q := by
  refine ⟨κ, ρ, env, h, S, ?_⟩
  have w := WpS.bind w
  revert w
  cases fa env h with
  | bad => exact fun w => w
  | ex x h' => exact fun w => w
  | ok d h1 => exact fun w ρ1 v H1 k1 c1 r1 => k ρ1 H1 h1 d v (S.go k1 c1) r1 (WpS.go k1 w)
theorem RG_then {f : Ev → Hh → Oc (Fl × Ev)} {Q : L2.St → Hp → Prop} {d : D} {v : V} (S : Sit g κ ρ env h σ H) (r : Rep g.K κ ρ H d v) (w : WpS g E κ ρ H ((gg d env h).bind f) B)
    (k : ∀ ρ1 H1 h1 env1 σ1, Go ρ H ρ1 H1 → Sit g κ ρ1 env1 h1 σ1 H1 → WpS g E κ ρ1 H1 (f env1 h1) B → Q σ1 H1) : RG g E gg v σ H Q := by
  refine ⟨κ, ρ, env, h, d, S, r, ?_⟩
  have w := WpS.bind w
  revert w
  cases gg d env h with
  | bad => exact fun w => w
  | ex x h' => exact fun w => w
  | ok env1 h1 => exact fun w ρ1 σ1 H1 k1 c1 e1 => k ρ1 H1 h1 env1 σ1 k1 ⟨c1, e1⟩ (WpS.go k1 w)
def sDead : DS := fun _ _ => .bad
theorem p_dead : PS X st (RS g E sDead) := PS.imp ps_never fun D σ H ⟨_, _, _, _, _, w⟩ => w
theorem p_sseq (h1 : PS X st (RS g E fs)) (h2 : PSs X sts (RS g E fs2)) : PSs X (st :: sts) (RS g E (sSeq fs fs2)) := by
  refine PSs.imp (pss_cons h1 h2) fun D σ H ⟨κ, ρ, env, h, S, w⟩ => ?_
  refine ⟨κ, ρ, env, h, S, ?_⟩
  unfold sSeq at w
  have w := WpS.bind w
  revert w
  cases fs env h with
  | bad => exact fun w => w
  | ex x h' => exact fun w => w
  | ok d h' =>
    obtain ⟨fl, e⟩ := d
    cases fl with
    | next => exact fun w ρ1 σ1 H1 k1 c1 e1 => ⟨κ, ρ1, e, h', ⟨c1, e1⟩, WpS.go k1 w⟩
    | brk => exact fun w => w
    | cont => exact fun w => w
    | ret d => exact fun w => w
theorem p_sone (h1 : PS X st (RS g E fs)) : PSs X [st] (RS g E fs) := PSs.imp (pss_one h1) fun D σ H w => w
def sNext : DS := fun env h => .ok (.next, env) h
theorem p_snil : PSs X [] (RS g E sNext) := PSs.imp pss_nil fun D σ H ⟨κ, ρ, env, h, S, w⟩ => w ρ σ H (Go.refl _ _) S.cs S.en
theorem p_pass : PS X (.Pass pos) (RS g E sNext) := PS.imp ps_pass fun D σ H ⟨κ, ρ, env, h, S, w⟩ => w ρ σ H (Go.refl _ _) S.cs S.en
def sBrk : DS := fun env h => .ok (.brk, env) h
def sCont : DS := fun env h => .ok (.cont, env) h
theorem p_brk : PS X (.Break pos) (RS g E sBrk) := PS.imp ps_break fun D σ H ⟨κ, ρ, env, h, S, w⟩ => w ρ σ H (Go.refl _ _) S.cs S.en
theorem p_cont : PS X (.Continue pos) (RS g E sCont) := PS.imp ps_continue fun D σ H ⟨κ, ρ, env, h, S, w⟩ => w ρ σ H (Go.refl _ _) S.cs S.en
def sRet (fa : DE) : DS := fun env h => (fa env h).bind fun d h1 => .ok (.ret d, env) h1
theorem p_ret (ha : PE X a (RE g E fa)) : PS X (.Return (some a) pos) (RS g E (sRet fa)) := PS.imp (ps_ret ha) fun D σ H ⟨κ, ρ, env, h, S, w⟩ =>
  RE_then S w fun ρ1 H1 h1 d v S1 r w => w ρ1 σ H1 (Go.refl _ _) S1.cs S1.en v r
def sRetN : DS := fun env h => .ok (.ret .non, env) h
theorem p_retN : PS X (.Return none pos) (RS g E sRetN) := PS.imp ps_retN fun D σ H ⟨κ, ρ, env, h, S, w⟩ => w ρ σ H (Go.refl _ _) S.cs S.en .non rfl
def sEx (fa : DE) : DS := fun env h => (fa env h).bind fun _ h1 => .ok (.next, env) h1
theorem p_ex (ha : PE X a (RE g E fa)) (hs : swapsWith a none pos.line X.env = pure false) : PS X (.Expr a pos) (RS g E (sEx fa)) := PS.imp (ps_expr ha hs) fun D σ H ⟨κ, ρ, env, h, S, w⟩ =>
  RE_then S w fun ρ1 H1 h1 d v S1 r w => w ρ1 σ H1 (Go.refl _ _) S1.cs S1.en
def sAsg (fa : DE) (gg : DG) : DS := fun env h => (fa env h).bind fun d h1 => (gg d env h1).bind fun env1 h2 => .ok (.next, env1) h2
theorem tAsg_of (w : RS g E (sAsg fa gg) B σ H) : tAsg (RE g E fa) (RG g E gg) B σ H := by
  obtain ⟨κ, ρ, env, h, S, w⟩ := w
  exact RE_then S w fun ρ1 H1 h1 d v S1 r w => RG_then S1 r w fun ρ2 H2 h2 env2 σ2 k2 S2 w => w ρ2 σ2 H2 (Go.refl _ _) S2.cs S2.en
theorem p_asg (ha : PE X a (RE g E fa)) (hg : PG X tg (RG g E gg)) (hs : swapsWithSole [tg] a pos.line X.env = pure false) (hw : swappedStores [tg] a X.env = pure none)
    (h1 : (assignEach [tg] X.env).map (·.2) = [assign tg X.env]) : PS X (.Assign [tg] a pos) (RS g E (sAsg fa gg)) := PS.imp (ps_asg ha hg hs hw h1) fun D σ H w => tAsg_of w
def sIfD (c : DB) (f k : DS) : DS := sIf c f k
theorem p_if {x y : List Stmt} (hc : PT X a (RB g E c)) (hx : PSs X x (RS g E fs)) (hy : PSs X y (RS g E fs2)) : PS X (.If a x y pos) (RS g E (sIf c fs fs2)) := by
  refine PS.imp (ps_if hc hx hy) fun D σ H ⟨κ, ρ, env, h, S, w⟩ => ?_
  refine ⟨κ, ρ, env, h, S, ?_⟩
  unfold sIf at w
  have w := WpS.bind w
  revert w
  cases c env h with
  | bad => exact fun w => w
  | ex x h' => exact fun w => w
  | ok d h' =>
    cases d with
    | true => exact fun w ρ1 H1 k1 c1 => ⟨κ, ρ1, env, h', S.go k1 c1, WpS.go k1 w⟩
    | false => exact fun w ρ1 H1 k1 c1 => ⟨κ, ρ1, env, h', S.go k1 c1, WpS.go k1 w⟩
/-! ### loops -/
theorem p_wh {x : List Stmt} (n : Nat) (hp : PassesOwn (model X.prog X.w) X.A X.env X.xe) (hc : PT X a (RB g E c)) (hx : PSs X x (RS g E fs)) : PS X (.While a x [] pos) (RS g E (sWh c fs n)) := by
  refine PS.imp (ps_while hp hc hx) fun D σ H ⟨κ, ρ, env, h, S, w⟩ => ?_
  refine ⟨fun m σ H => ∃ ρ env h, Sit g κ ρ env h σ H ∧ WpS g E κ ρ H (sWh c fs m env h) D, ⟨n, ρ, env, h, S, w⟩, ?_⟩
  rintro m σ H ⟨ρ, env, h, S, w⟩
  cases m with
  | zero => exact absurd (show False from w) (fun w => w)
  | succ m =>
    refine ⟨κ, ρ, env, h, S, ?_⟩
    have w : WpS g E κ ρ H ((c env h).bind fun k h1 => match k with
      | false => .ok (.next, env) h1
      | true => (fs env h1).bind fun r h2 => match r with
        | (.next, env2) => sWh c fs m env2 h2
        | (.cont, env2) => sWh c fs m env2 h2
        | (.brk, env2) => .ok (.next, env2) h2
        | (.ret d, env2) => .ok (.ret d, env2) h2) D := w
    have w := WpS.bind w
    revert w
    cases c env h with
    | bad => exact fun w => w
    | ex x h' => exact fun w => w
    | ok d h' =>
      cases d with
      | false => exact fun w ρ1 H1 k1 c1 => w ρ1 σ H1 k1 c1 (S.en.go k1)
      | true =>
        intro w ρ1 H1 k1 c1
        refine ⟨fun σ' H' => ∃ ρ env h, Sit g κ ρ env h σ' H' ∧ WpS g E κ ρ H' (sWh c fs m env h) D, fun σ' H' q => ⟨m, Nat.lt_succ_self _, q⟩, κ, ρ1, env, h', S.go k1 c1, ?_⟩
        have w := WpS.bind (WpS.go k1 w)
        revert w
        cases fs env h' with
        | bad => exact fun w => w
        | ex x h' => exact fun w => w
        | ok d h2 =>
          obtain ⟨fl, e⟩ := d
          cases fl with
          | next => exact fun w ρ2 σ2 H2 k2 c2 e2 => ⟨ρ2, e, h2, ⟨c2, e2⟩, WpS.go k2 w⟩
          | cont => exact fun w ρ2 σ2 H2 k2 c2 e2 => ⟨ρ2, e, h2, ⟨c2, e2⟩, WpS.go k2 w⟩
          | brk => exact fun w ρ2 σ2 H2 k2 c2 e2 => w ρ2 σ2 H2 k2 c2 e2
          | ret d => exact fun w => w
theorem drop_get {l : List D} {i : Nat} (hi : i < l.length) : ∃ d, l[i]? = some d ∧ l.drop i = d :: l.drop (i + 1) := ⟨l[i], by simp [hi], List.drop_eq_getElem_cons hi⟩
theorem p_for {x : List Stmt} (hp : PassesOwn (model X.prog X.w) X.A X.env X.xe) (hc : X.calm = true) (hi : PI X tg a (RI g E fi)) (hg : PG X tg (RG g E gg)) (hb : PSs X x (RS g E fs)) (hs : ∀ x, foldedSetIterable a X.env x = pure x) :
    PS X (.For tg a x [] pos) (RS g E fun env h => (fi env h).bind fun s h1 => sFor s.still gg fs s.items env h1) := by
  refine PS.imp (ps_for hp hc hi hg hb hs) fun D σ H ⟨κ, ρ, env, h, S, w⟩ => ?_
  refine ⟨κ, ρ, env, h, S, ?_⟩
  have w := WpS.bind w
  revert w
  cases fi env h with
  | bad => exact fun w => w
  | ex x h' => exact fun w => w
  | ok s h' =>
    intro w ρ1 J H1 k1 c1 ok
    refine ⟨fun i m σ H => m = s.items.length - i ∧ i ≤ s.items.length ∧ ∃ ρ env h, Go ρ1 H1 ρ H ∧ Sit g κ ρ env h σ H ∧ WpS g E κ ρ H (sFor s.still gg fs (s.items.drop i) env h) D,
      ⟨_, rfl, Nat.zero_le _, ρ1, env, h', Go.refl _ _, S.go k1 c1, WpS.go k1 w⟩, ?_⟩
    rintro i m σ H ⟨rfl, hi, ρ2, env, h2, k2, S, w⟩
    by_cases hlt : i < s.items.length
    · obtain ⟨d, hd, hdr⟩ := drop_get hlt
      rw [hdr] at w
      have w : WpS g E κ ρ2 H (if s.still h2 then (gg d env h2).bind fun env1 h1 => (fs env1 h1).bind fun r h2 => match r with
          | (.next, env2) => sFor s.still gg fs (s.items.drop (i + 1)) env2 h2
          | (.cont, env2) => sFor s.still gg fs (s.items.drop (i + 1)) env2 h2
          | (.brk, env2) => .ok (.next, env2) h2
          | (.ret d, env2) => .ok (.ret d, env2) h2 else .bad) D := w
      split at w
      · rename_i hst
        obtain ⟨go, _⟩ := ok κ ρ2 H h2 (GoK.of k2) S.cs hst
        obtain ⟨go, yl⟩ := go i d hd
        refine .inr ⟨go, fun σ' H' => ∃ ρ env h, Go ρ1 H1 ρ H' ∧ Sit g κ ρ env h σ' H' ∧ WpS g E κ ρ H' (sFor s.still gg fs (s.items.drop (i + 1)) env h) D, fun σ' H' q => ⟨_, by omega, rfl, hlt, q⟩, fun x H3 y => ?_⟩
        obtain ⟨k3, c3, r3⟩ := yl x H3 y
        refine RG_then (S.go k3 c3) r3 (WpS.go k3 w) fun ρ4 H4 h4 env4 σ4 k4 S4 w => ?_
        refine ⟨κ, ρ4, env4, h4, S4, ?_⟩
        have w := WpS.bind w
        revert w
        cases fs env4 h4 with
        | bad => exact fun w => w
        | ex x h' => exact fun w => w
        | ok d h5 =>
          obtain ⟨fl, e⟩ := d
          cases fl with
          | next => exact fun w ρ5 σ5 H5 k5 c5 e5 => ⟨ρ5, e, h5, k2.trans (k3.trans (k4.trans k5)), ⟨c5, e5⟩, WpS.go k5 w⟩
          | cont => exact fun w ρ5 σ5 H5 k5 c5 e5 => ⟨ρ5, e, h5, k2.trans (k3.trans (k4.trans k5)), ⟨c5, e5⟩, WpS.go k5 w⟩
          | brk => exact fun w ρ5 σ5 H5 k5 c5 e5 => w ρ5 σ5 H5 k5 c5 e5
          | ret d => exact fun w => w
      · exact absurd (show False from w) (fun w => w)
    · have e : i = s.items.length := by omega
      subst e
      rw [List.drop_length] at w
      have w : WpS g E κ ρ2 H (if s.still h2 then .ok (.next, env) h2 else .bad) D := w
      split at w
      · rename_i hst
        obtain ⟨_, st⟩ := ok κ ρ2 H h2 (GoK.of k2) S.cs hst
        exact .inl ⟨st, w ρ2 σ H (Go.refl _ _) S.cs S.en⟩
      · exact absurd (show False from w) (fun w => w)
end
end Q
end
section
namespace Q
open PySem PySem.Spec L2 PySem.W PyProof.Rows PySem.Calls

/-! ## sorted(x, key=len): by length, in order of standing -/
theorem insL_head {h : Hh} {x : D} : ∀ {r : List D}, (∀ y ∈ r, lenD h x ≤ lenD h y) → insL h x r = x :: r
  | [], _ => rfl
  | y :: r, q => by unfold insL; rw [if_pos (q y (List.mem_cons_self ..))]
theorem insL_app {h : Hh} {x : D} {r : List D} : ∀ {l : List D}, (∀ y ∈ l, ¬ lenD h x ≤ lenD h y) → insL h x (l ++ r) = l ++ insL h x r
  | [], _ => rfl
  | y :: l, q => by
    show (if lenD h x ≤ lenD h y then x :: y :: (l ++ r) else y :: insL h x (l ++ r)) = _
    rw [if_neg (q y (List.mem_cons_self ..)), insL_app fun z hz => q z (List.mem_cons_of_mem _ hz)]; rfl
theorem srtl_isrt (h : Hh) : ∀ l : List D, l.mergeSort (fun a b => decide ((lenD h a : Int) ≤ lenD h b)) = isrtL h l
  | [] => by rw [List.mergeSort_nil]; rfl
  | x :: l => by
    have tr : ∀ a b c : D, decide ((lenD h a : Int) ≤ lenD h b) = true → decide ((lenD h b : Int) ≤ lenD h c) = true → decide ((lenD h a : Int) ≤ lenD h c) = true := fun a b c h1 h2 => by
      rw [decide_eq_true_eq] at *; omega
    have tt : ∀ a b : D, (decide ((lenD h a : Int) ≤ lenD h b) || decide ((lenD h b : Int) ≤ lenD h a)) = true := fun a b => by
      rw [Bool.or_eq_true, decide_eq_true_eq, decide_eq_true_eq]; omega
    obtain ⟨l1, l2, e1, e2, e3⟩ := List.mergeSort_cons tr tt x l
    have sd := List.pairwise_mergeSort tr tt (x :: l)
    rw [e1] at sd
    rw [List.pairwise_append, List.pairwise_cons] at sd
    rw [e1]
    show _ = insL h x (isrtL h l)
    rw [← srtl_isrt h l, e2, insL_app fun y hy => by
      have := e3 y hy
      simp at this; omega, insL_head fun y hy => by
      have := sd.2.1.1 y hy
      rw [decide_eq_true_eq] at this; omega]
section
variable {g : G} {E : XK} {κ ρ : List Addr} {H : Hp} {h : Hh} {X : Cx} {fa : DE}
theorem len_call {pins : List (Addr × Obj)} {σ : L2.St} {s : Shared} (I : Inv X pins σ H s) (hK : X.K = g.K) (c : CS g κ ρ h H) {d : D} {v : Value} (st : StandsFor g κ ρ H v d) (hd : (seqOf h d).isSome = true) {A : Around} {h' : Heap} {tk : Nat} (k : ∀ b o, s.heap.get? b = some o → h'.get? b = some o) :
    wpAny (model X.prog X.w) A (call (.builtin "len") [v]) (KeyPure (.int (lenD h d : Nat)) { s with heap := h', toks := tk }) (fun _ _ => False) { s with heap := h', toks := tk } := by
  obtain ⟨x, rx, rd⟩ := st
  obtain ⟨ds, e⟩ := Option.isSome_iff_exists.mp hd
  obtain ⟨a, vs, rfl, hq, rr⟩ := seqOf_ok c rd e
  cases rx
  have el : lenD h d = ds.length := by unfold lenD; rw [e]
  have hn := line63
  rw [← hK] at hq
  rcases hq with hq | hq
  · obtain ⟨its, r', pl, hz⟩ := I.list hq
    have hlen := r'.length
    have hl2 := rr.len
    have hl : h'.IsList a its.toArray := by
      obtain ⟨o, ho, x⟩ := pl.isList
      exact ⟨o, k a o ho, x⟩
    refine Calls.call_len_list (s := { s with heap := h', toks := tk }) hl (by simp only [List.size_toArray] <;> omega) ⟨h', _, rfl, fun b o q => q, ?_⟩
    rw [el, List.size_toArray, ← hlen, hl2]
    exact .int ..
  · obtain ⟨its, r', pl, hz⟩ := I.tuple hq
    have hlen := r'.length
    have hl2 := rr.len
    have hl : h'.IsTuple a its.toArray := by
      obtain ⟨o, ho, x⟩ := pl
      exact ⟨o, k a o ho, x⟩
    refine len_tuple (s := { s with heap := h', toks := tk }) hl (by simp only [List.size_toArray] <;> omega) ⟨h', _, rfl, fun b o q => q, ?_⟩
    rw [el, List.size_toArray, ← hlen, hl2]
    exact .int ..
theorem p_srtl {m : Bool} {a : Expr} {p p2 kp pos : Pos} (ok : Okx g X) (hg : Gl X "sorted") (hm : X.mg "sorted" = none) (hg2 : Gl X "len") (hm2 : X.mg "len" = none) (ha : PE X a (RE g E fa)) (na : starEach [a] X.env = (false, eval a X.env) :: starEach [] X.env) :
    PE X (.Call (.Name "sorted" p) [a] [⟨some "key", .Name "len" p2, kp⟩] pos) (RE g E (d1 (vSrtl m) fa)) := by
  refine ⟨fun pins s σ H Q I w => ?_⟩
  obtain ⟨κ, ρ, env, h, S, w⟩ := w
  have w1 : RE g E fa σ H fun x H1 => ∃ κ ρ h d, CS g κ ρ h H1 ∧ Rep g.K κ ρ H1 d x ∧ Wp g E κ ρ H1 (vSrtl m d h) Q := by
    refine ⟨κ, ρ, env, h, S, ?_⟩
    have w := Wp.fst w
    revert w
    cases fa env h with
    | bad => exact id
    | ex x h' => exact id
    | ok d h1 =>
      intro w ρ1 x H1 k1 c1 q1
      obtain ⟨ρ2, d2, h2, k2, c2, q2, w2⟩ := w ρ1 x H1 k1 c1 q1
      exact ⟨κ, ρ2, h2, d2, c2, q2, w2⟩
  refine wpAny_Call_Name_kw (ld_blt I hg hm (show bootBuiltins (Str.ofString "sorted") = some (.builtin "sorted") by decide +kernel) ?_ (by decide) (by decide))
  refine PyProof.Rows.callWith_kw (thn ((p_cons ha p_nil na).run pos pins s σ H _ I (RE_args1 w1)) fun us s1 ⟨vs, H1, I1, r1, x, ex, κ, ρ, h, d, c, rd, w⟩ => ?_) (by rw [na]; rfl) (by rw [na]; rfl) rfl rfl
  subst ex
  obtain ⟨u, rfl, ru⟩ := vals1 r1
  show wpAny _ _ (evalAll ((do let v ← eval (.Name "len" p2) X.env; standAt pos; pure v) :: [])) _ X.xe s1
  refine wpAny_evalAll_cons (wpAny_bind (ld_blt I1 hg2 hm2 (show bootBuiltins (Str.ofString "len") = some (.builtin "len") by decide +kernel) (wpAny_bind (wpAny_standAt (wpAny_pure ?_))) (by decide) (by decide)))
  refine wpAny_evalAll_nil ?_
  show wpAny _ _ (call (.builtin "sorted") [u] [(Str.ofString "key", .builtin "len")]) _ X.xe s1
  have w : Wp g E κ ρ H1 (match lstOf h d with
    | some ds => if ds.length ≤ big ∧ ds.all (fun x => (seqOf h x).isSome) = true then mk m (isrtL h ds) h else .bad
    | none => .bad) Q := w
  split at w
  · rename_i ds es
    split at w
    · rename_i hc
      obtain ⟨c1, c2⟩ := hc
      obtain ⟨b, vs, rfl, hq, rr⟩ := lstOf_ok c rd es
      cases ru
      rw [← ok.K] at hq
      obtain ⟨its, r', pl, hz⟩ := I1.list hq
      have hl := r'.length
      have hl2 := rr.len
      have hu := ok.u
      refine sorted_key_data (R := StandsFor g κ ρ H1) (bs := ds) (vs := its) (b := false) (fun x => .int (lenD h x : Nat)) pl.isList (each_of rr r') (AllAlike.of fun _ _ => rfl) ?_ (lineOf c1) (fun x _ => ?_) ?_ (fun x => ?_) (fun x => rfl) (fun v x st hx h' tk k => ?_) fun out cc h' tk k1 k2 at_ ol eo => ?_
      · right
        intro y hy
        obtain ⟨z, _, rfl⟩ := List.mem_map.mp hy
        exact ⟨by simp, fun xs => by simp⟩
      · have : (PyData.int (lenD h x : Nat)).depth = 0 := by rfl
        omega
      · exact PyProof.Rows.ksk_s1 _ _
      · exact PyProof.Rows.ksk_l1 _ _
      · exact len_call I1 ok.K c st (List.all_eq_true.mp c2 x hx) k
      · rw [dataLe_int, srtl_isrt] at eo
        obtain ⟨ws, q1, q2⟩ := of_each eo
        have hws : ws.length ≤ sizeLine := by
          rw [q2.len, ← srtl_isrt, List.length_mergeSort]; exact lineOf c1
        have hf : H1 (s1.heap.objs.size + 1) = none := I1.hok.fresh (Nat.le_succ _)
        exact ⟨.ref (s1.heap.objs.size + 1), upd H1 (s1.heap.objs.size + 1) (.lst ws), I1.laid (t' := tk) k1 (Nat.le_succ _) ⟨hws, out, cc, q1, at_⟩, rfl, wp_mk c q2 w _ hf⟩
    · exact absurd w id
  · exact absurd w id
end
end Q
end
section
namespace Q
open PySem PySem.Spec L2 PySem.W PyProof.Rows

/-! ## for .. in d.keys(): the dict is locked from then on -/
def ItR (d : Addr) (o : Obj) (u : HO) (xs : List V) : It :=
  ⟨fun i H => H d = some (.frz o u) ∧ i < xs.length, fun i H x H' => H' = H ∧ xs[i]? = some x, fun i H => H d = some (.frz o u) ∧ xs.length ≤ i⟩
theorem turn_raw {P : Program} {w : World} {K : PySem.W.Frag} {tg : Expr} {d : Addr} {o : Obj} {u : HO} {xs : List V} {es : Array DictEntry} {ep : Nat} (it : Addr) (hod : o.data = .dict es ep) (hv : Vals xs (es.toList.map (·.key))) :
    Turn P w K tg (ItR d o u xs) [it] it (fun i h => h.IsKeyIter it d i xs.length ep) where
  mem := by simp
  obj := fun i h st b hb => by
    have e : b = it := by simpa using hb
    subst e
    obtain ⟨oi, e, c, dd⟩ := st
    exact ⟨oi, e, fun v z => by rw [dd] at z; cases z⟩
  keep := fun i h h' st k => st.at fun oi e => k it (by simp) oi e
  item := by
    intro X hP hw hK hc i pins s σ H E I hf st hg
    subst hP hw hK
    obtain ⟨hd, hi⟩ := hg
    obtain ⟨f0, f1, f2, f3, f4, f5⟩ := hf it (by simp)
    have hgd : s.heap.get? d = some o := (I.hok d _ hd).1
    have hsz : es.size = xs.length := by have := hv.length; simpa using this.symm
    have hx : xs[i]? = some xs[i] := List.getElem?_eq_getElem hi
    obtain ⟨k, hk, rel⟩ := hv.get hx
    rw [List.getElem?_map, Array.getElem?_toList] at hk
    cases hen : es[i]? with
    | none => rw [hen] at hk; cases hk
    | some en =>
      rw [hen] at hk
      have ek : en.key = k := Option.some.inj hk
      refine next_key_item st hgd hod hsz hen fun h' st' sb => ?_
      have I1 : Inv X pins σ H { s with heap := h' } := I.turned (t' := s.toks) (fun b ob hb e => (sb.2 b hb).trans e) f0 f1 f3 f4 f5
      obtain ⟨oi, e, c, dd⟩ := id st'
      exact ⟨en.key, rfl, go_of (s := { s with heap := h' }) e c dd (by decide) ⟨xs[i], H, I1, by rw [ek]; exact rel, ⟨rfl, hx⟩, st', fun b hb => (hf b hb).1⟩⟩
  done := by
    intro X hP hw hK hc i pins s σ H E I hf st hg
    subst hP hw hK
    obtain ⟨hd, hi⟩ := hg
    obtain ⟨f0, f1, f2, f3, f4, f5⟩ := hf it (by simp)
    have hgd : s.heap.get? d = some o := (I.hok d _ hd).1
    have hsz : es.size = xs.length := by have := hv.length; simpa using this.symm
    exact next_key_end (I.ok.hd hc) st hgd hod hsz hi fun h' eb => ⟨rfl, I.turned (t' := s.toks) (fun b ob hb e => eb b ob hb e) f0 f1 f3 f4 f5⟩
  self := fun A i s Q E st h => wpAny_pyIter_keyiter st h
section
variable {g : G} {E : XK} {κ ρ : List Addr} {H : Hp} {h : Hh} {X : Cx} {fo : DE} {tg : Expr} {a : Addr} {i : Nat}
theorem ok_raw {od : Obj} {u : HO} {xs : List V} {ds : List D} (hd : H a = some (.frz od u)) (r : Reps g.K κ ρ H ds xs) : SrcOk g κ ρ H (ItR a od u xs) ⟨ds, fun _ => true⟩ := fun κ1 ρ1 H1 h1 k c st => by
  have hd1 := k.fz _ _ _ hd
  refine ⟨fun i d e => ?_, hd1, Nat.le_of_eq r.len⟩
  obtain ⟨v, e1, rv⟩ := (r.gk k).get e
  refine ⟨⟨hd1, (List.getElem?_eq_some_iff.mp e1).1⟩, fun x H2 y => ?_⟩
  obtain ⟨eH, y⟩ := y
  subst eH
  rw [e1] at y
  cases y
  exact ⟨Go.refl _ _, c, rv⟩
theorem src_locked (X : Cx) {od : Obj} {u : HO} {ks : List D} (c : CS g κ ρ h H) (ha : ρ[i]? = some a) (hd : H a = some (.frz od u)) (ek : keysD h (.md i) = some ks) :
    ∃ kv, SrcOk g κ ρ H (ItR a od u kv) ⟨ks, fun _ => true⟩ ∧ ∀ (pins : List (Addr × Obj)) (σ : L2.St) (s : Shared), Inv X pins σ H s → ∃ es ep, od.data = .dict es ep ∧ Vals kv (es.toList.map (·.key)) ∧ s.heap.DictRaw a es ep := by
  obtain ⟨a', vs, ea, _, kv, vv, r1, _, en⟩ := ents_of (X := X) (d := .md i) (x := .ref a) c ⟨a, rfl, ha⟩ ek
  cases ea
  refine ⟨kv, ok_raw hd r1, fun pins σ s I => ?_⟩
  obtain ⟨_, _, es, ep, dr, v1, _⟩ := en pins σ s I
  obtain ⟨o, q1, q2, q3⟩ := id dr
  have : s.heap.get? a = some od := (I.hok a _ hd).1
  rw [this] at q1
  cases q1
  exact ⟨es, ep, q3, v1, dr⟩
theorem it_keys {pins : List (Addr × Obj)} {σ : L2.St} {s : Shared} {p : Addr} {od : Obj} {u : HO} {ks : List D} {R : It → Hp → Prop} (I : Inv X pins σ H s) (kvw : KdlKeysView s.heap p a) (c : CS g κ ρ h H) (ha : ρ[i]? = some a) (hd : H a = some (.frz od u)) (ek : keysD h (.md i) = some ks)
    (w : ∀ J, SrcOk g κ ρ H J ⟨ks, fun _ => true⟩ → R J H) : wpAny (model X.prog X.w) X.A (pyIter (.ref p)) (PIE X pins σ tg R) X.xe s := by
  obtain ⟨kv, so, en⟩ := src_locked X c ha hd ek
  obtain ⟨es, ep, e1, e3, dr⟩ := en pins σ s I
  have hsz : kv.length = es.size := by have := e3.length; simpa using this
  refine wpAny_pyIter_keys_raw kvw dr (pi_one (tk := s.toks) I _ (turn_raw _ e1 e3) ⟨_, Heap.get?_push_size _ rfl, rfl, ?_⟩ (w _ so))
  rw [hsz] <;> rfl
theorem RE_mono2 {Q Q' : VK} {σ : L2.St} (w : RE g E fo σ H Q) (k : ∀ v H', Q v H' → Q' v H') : RE g E fo σ H Q' := by
  obtain ⟨κ, ρ, env, h, S, w⟩ := w
  refine ⟨κ, ρ, env, h, S, ?_⟩
  revert w
  cases fo env h with
  | bad => exact id
  | ex x h' => exact id
  | ok d h1 => exact fun w ρ1 v H1 k1 c1 r1 => k _ _ (w ρ1 v H1 k1 c1 r1)
theorem p_keysI {o : Expr} {apos cpos : Pos} (ok : Okx g X) (ho : PE X o (RE g E fo)) (hbase : attributeBase o "keys" X.env (eval o X.env) = eval o X.env) (hline : (apos.endLine == cpos.line) = true) :
    PI X tg (.Call (.Attribute o "keys" apos) [] [] cpos) (RI g E fun env h => (fo env h).bind vKeys) := by
  refine ⟨fun pins s σ H R I w => ?_⟩
  have w1 : tView g E fo σ H fun x H2 => ∃ p a κ ρ h i, x = .ref p ∧ H2 p = some (keysO p a) ∧ CS g κ ρ h H2 ∧ ρ[i]? = some a ∧ WpI g E κ ρ H2 (vKeys (.md i) h) R := by
    refine RE_mono2 (RI_one w) fun x H1 ⟨κ, ρ, h, d, c, r, w⟩ => ?_
    cases d with
    | md i =>
      have hk : ∃ ks, keysD h (.md i) = some ks := by
        revert w
        simp only [vKeys, keysD]
        cases h[i]? with
        | none => exact fun w => absurd w id
        | some u => cases u <;> first | exact fun _ => ⟨_, rfl⟩ | exact fun w => absurd w id
      obtain ⟨ks, ek⟩ := hk
      obtain ⟨a, rfl, ha⟩ := r
      exact ⟨κ, ρ, h, .md i, ks, a, c, rfl, ⟨a, rfl, ha⟩, ek, fun p hp => ⟨p, a, κ, ρ, h, i, rfl, upd_same, c.laid hp _, ha, WpI.go (Go.laid c hp _) w⟩⟩
    | _ => exact absurd w id
  refine thn ((p_keys ok ho hbase hline).run pins s σ H _ I w1) fun v s1 ⟨x, H2, I2, rv, p, a, κ, ρ, h, i, ex, hp, c, ha, w⟩ => ?_
  subst ex
  obtain rfl : v = Value.ref p := rv
  have kvw : KdlKeysView s1.heap p a := (I2.hok p _ hp).1
  have hm : a ∈ ρ := List.mem_of_getElem? ha
  have hi : i < h.length := by rw [← c.len]; exact (List.getElem?_eq_some_iff.mp ha).1
  obtain ⟨cl, hu, cr⟩ := c.get ha
  have kd : ∀ (h' : Hh) (cl' : Cell), h'[i]? = some cl' → keysD h' (.md i) = match unl cl' with
      | .dK kvs => some (kvs.map fun p => keyD p.1)
      | .dT kvs => some (kvs.map fun p => .tup p.1)
      | _ => none := fun h' cl' q => by
    simp only [keysD, q, Option.map_some]
    cases cl' <;> rfl
  cases cl with
  | lst ds => simp only [vKeys, hu] at w; exact absurd w id
  | obj _ _ => simp only [vKeys, hu] at w; exact absurd w id
  | dK kvs =>
    simp only [vKeys, hu] at w
    obtain ⟨vs, e, r⟩ := cr
    obtain ⟨od, I3⟩ := I2.lock e trivial
    have k3 := Go.write (H := H2) hm (fun od u q => by rw [e] at q; cases q) (.frz od (.dK vs))
    have c3 := c.write ha (o := .frz od (.dK vs)) (u := .lK kvs) ⟨od, vs, upd_same, r.mono fun _ _ q => q.upd hm⟩ (show lowC i (.dK kvs) = true from c.low i _ hu)
    exact it_keys I3 kvw c3 ha upd_same ((kd _ _ (by rw [List.getElem?_set_self hi])).trans rfl) fun J so => w ρ J _ k3 c3 so
  | dT kvs =>
    simp only [vKeys, hu] at w
    obtain ⟨vs, e, r1, r2, r⟩ := cr
    obtain ⟨od, I3⟩ := I2.lock e trivial
    have k3 := Go.write (H := H2) hm (fun od u q => by rw [e] at q; cases q) (.frz od (.ext (DTO g a vs)))
    have c3 := c.write ha (o := .frz od (.ext (DTO g a vs))) (u := .lT kvs) ⟨od, vs, upd_same, r1, r2, Paired.mapP r fun _ _ q => ⟨q.1, q.2.1.upd hm, q.2.2.upd hm⟩⟩ (show lowC i (.dT kvs) = true from c.low i _ hu)
    exact it_keys I3 kvw c3 ha upd_same ((kd _ _ (by rw [List.getElem?_set_self hi])).trans rfl) fun J so => w ρ J _ k3 c3 so
  | lK kvs =>
    simp only [vKeys, hu] at w
    obtain ⟨od, vs, e, r⟩ := cr
    exact it_keys I2 kvw c ha e ((kd _ _ hu).trans rfl) fun J so => w ρ J _ (Go.refl _ _) c so
  | lT kvs =>
    simp only [vKeys, hu] at w
    obtain ⟨od, vs, e, r⟩ := cr
    exact it_keys I2 kvw c ha e ((kd _ _ hu).trans rfl) fun J so => w ρ J _ (Go.refl _ _) c so
end
end Q
end
section
namespace Q
open PySem PySem.Spec L2 PySem.W PyProof.Rows

/-! ## for .. in d.values(), d.items(): the dict is locked from then on -/
theorem turn_rawV {P : Program} {w : World} {K : PySem.W.Frag} {tg : Expr} {d : Addr} {o : Obj} {u : HO} {xs : List V} {es : Array DictEntry} {ep : Nat} (it : Addr) (hod : o.data = .dict es ep) (hoc : o.ExactDict) (hv : Vals xs (es.toList.map (·.val))) :
    Turn P w K tg (ItR d o u xs) [it] it (fun i h => h.IsValIter it d i xs.length ep) where
  mem := by simp
  obj := fun i h st b hb => by
    have e : b = it := by simpa using hb
    subst e
    obtain ⟨oi, e, c, dd⟩ := st
    exact ⟨oi, e, fun v z => by rw [dd] at z; cases z⟩
  keep := fun i h h' st k => st.at fun oi e => k it (by simp) oi e
  item := by
    intro X hP hw hK hc i pins s σ H E I hf st hg
    subst hP hw hK
    obtain ⟨hd, hi⟩ := hg
    obtain ⟨f0, f1, f2, f3, f4, f5⟩ := hf it (by simp)
    have hgd : s.heap.get? d = some o := (I.hok d _ hd).1
    have hsz : es.size = xs.length := by have := hv.length; simpa using this.symm
    have hx : xs[i]? = some xs[i] := List.getElem?_eq_getElem hi
    obtain ⟨k, hk, rel⟩ := hv.get hx
    have hlt : i < es.size := by omega
    rw [List.getElem?_map, Array.getElem?_toList, Array.getElem?_eq_getElem hlt] at hk
    have ek : es[i].val = k := Option.some.inj hk
    rw [← hsz] at st
    refine wpAny_pyNext_values_item_raw st ⟨o, hgd, hoc, hod⟩ hlt fun h' st' sb => ?_
    have I1 : Inv X pins σ H { s with heap := h' } := I.turned (t' := s.toks) (fun b ob hb e => (sb.2 b hb).trans e) f0 f1 f3 f4 f5
    obtain ⟨oi, e, c, dd⟩ := id st'
    rw [hsz] at st'
    exact ⟨es[i].val, rfl, go_of (s := { s with heap := h' }) e c dd (by decide) ⟨xs[i], H, I1, by rw [ek]; exact rel, ⟨rfl, hx⟩, st', fun b hb => (hf b hb).1⟩⟩
  done := by
    intro X hP hw hK hc i pins s σ H E I hf st hg
    subst hP hw hK
    obtain ⟨hd, hi⟩ := hg
    obtain ⟨f0, f1, f2, f3, f4, f5⟩ := hf it (by simp)
    have hgd : s.heap.get? d = some o := (I.hok d _ hd).1
    have hsz : es.size = xs.length := by have := hv.length; simpa using this.symm
    rw [← hsz] at st
    exact wpAny_pyNext_values_end_raw (I.ok.hd hc) st ⟨o, hgd, hoc, hod⟩ (by omega) fun h' eb => ⟨rfl, I.turned (t' := s.toks) (fun b ob hb e => eb b ob hb e) f0 f1 f3 f4 f5⟩
  self := fun A i s Q E st h => wpAny_pyIter_valiter st h
section
variable {g : G} {E : XK} {κ ρ : List Addr} {H : Hp} {h : Hh} {X : Cx} {fo : DE} {tg : Expr} {a : Addr} {i : Nat}
theorem src_lockedV (X : Cx) {od : Obj} {u : HO} {ks vs : List D} (c : CS g κ ρ h H) (ha : ρ[i]? = some a) (hd : H a = some (.frz od u)) (ek : keysD h (.md i) = some ks) (ev : valsD h (.md i) = some vs) :
    ∃ vv, SrcOk g κ ρ H (ItR a od u vv) ⟨vs, fun _ => true⟩ ∧ ∀ (pins : List (Addr × Obj)) (σ : L2.St) (s : Shared), Inv X pins σ H s → ∃ es ep, od.data = .dict es ep ∧ od.ExactDict ∧ Vals vv (es.toList.map (·.val)) ∧ s.heap.DictRaw a es ep := by
  obtain ⟨a', vs', ea, ev', kv, vv, _, r2, en⟩ := ents_of (X := X) (d := .md i) (x := .ref a) c ⟨a, rfl, ha⟩ ek
  cases ea
  rw [ev] at ev'
  cases ev'
  refine ⟨vv, ok_raw hd r2, fun pins σ s I => ?_⟩
  obtain ⟨_, _, es, ep, dr, _, v2⟩ := en pins σ s I
  obtain ⟨o, q1, q2, q3⟩ := id dr
  have : s.heap.get? a = some od := (I.hok a _ hd).1
  rw [this] at q1
  cases q1
  exact ⟨es, ep, q3, q2, v2, dr⟩
theorem it_vals {pins : List (Addr × Obj)} {σ : L2.St} {s : Shared} {p : Addr} {od : Obj} {u : HO} {ks vs : List D} {R : It → Hp → Prop} (I : Inv X pins σ H s) (kvw : s.heap.IsValuesView p a) (c : CS g κ ρ h H) (ha : ρ[i]? = some a) (hd : H a = some (.frz od u)) (ek : keysD h (.md i) = some ks) (ev : valsD h (.md i) = some vs)
    (w : ∀ J, SrcOk g κ ρ H J ⟨vs, fun _ => true⟩ → R J H) : wpAny (model X.prog X.w) X.A (pyIter (.ref p)) (PIE X pins σ tg R) X.xe s := by
  obtain ⟨vv, so, en⟩ := src_lockedV X c ha hd ek ev
  obtain ⟨es, ep, e1, e2, e3, dr⟩ := en pins σ s I
  have hsz : vv.length = es.size := by have := e3.length; simpa using this
  refine wpAny_pyIter_values_raw kvw dr (pi_one (tk := s.toks) I _ (turn_rawV _ e1 e2 e3) ⟨_, Heap.get?_push_size _ rfl, rfl, ?_⟩ (w _ so))
  rw [hsz] <;> rfl
theorem p_valsI {o : Expr} {apos cpos : Pos} (ok : Okx g X) (ho : PE X o (RE g E fo)) (hbase : attributeBase o "values" X.env (eval o X.env) = eval o X.env) (hline : (apos.endLine == cpos.line) = true) :
    PI X tg (.Call (.Attribute o "values" apos) [] [] cpos) (RI g E fun env h => (fo env h).bind vVals) := by
  refine ⟨fun pins s σ H R I w => ?_⟩
  have w1 : tViewV g E fo σ H fun x H2 => ∃ p a κ ρ h i, x = .ref p ∧ H2 p = some (valsO p a) ∧ CS g κ ρ h H2 ∧ ρ[i]? = some a ∧ WpI g E κ ρ H2 (vVals (.md i) h) R := by
    refine RE_mono2 (RI_one w) fun x H1 ⟨κ, ρ, h, d, c, r, w⟩ => ?_
    cases d with
    | md i =>
      have hk : ∃ ks, keysD h (.md i) = some ks := by
        revert w
        simp only [vVals, keysD]
        cases h[i]? with
        | none => exact fun w => absurd w id
        | some u => cases u <;> first | exact fun _ => ⟨_, rfl⟩ | exact fun w => absurd w id
      obtain ⟨ks, ek⟩ := hk
      obtain ⟨a, rfl, ha⟩ := r
      exact ⟨κ, ρ, h, .md i, ks, a, c, rfl, ⟨a, rfl, ha⟩, ek, fun p hp => ⟨p, a, κ, ρ, h, i, rfl, upd_same, c.laid hp _, ha, WpI.go (Go.laid c hp _) w⟩⟩
    | _ => exact absurd w id
  refine thn ((p_vals ok ho hbase hline).run pins s σ H _ I w1) fun v s1 ⟨x, H2, I2, rv, p, a, κ, ρ, h, i, ex, hp, c, ha, w⟩ => ?_
  subst ex
  obtain rfl : v = Value.ref p := rv
  have kvw : s1.heap.IsValuesView p a := (I2.hok p _ hp).1
  have hm : a ∈ ρ := List.mem_of_getElem? ha
  have hi : i < h.length := by rw [← c.len]; exact (List.getElem?_eq_some_iff.mp ha).1
  obtain ⟨cl, hu, cr⟩ := c.get ha
  have kd : ∀ (h' : Hh) (cl' : Cell), h'[i]? = some cl' → keysD h' (.md i) = match unl cl' with
      | .dK kvs => some (kvs.map fun p => keyD p.1)
      | .dT kvs => some (kvs.map fun p => .tup p.1)
      | _ => none := fun h' cl' q => by
    simp only [keysD, q, Option.map_some]
    cases cl' <;> rfl
  have vd : ∀ (h' : Hh) (cl' : Cell), h'[i]? = some cl' → valsD h' (.md i) = match unl cl' with
      | .dK kvs => some (kvs.map (·.2))
      | .dT kvs => some (kvs.map (·.2))
      | _ => none := fun h' cl' q => by
    simp only [valsD, q, Option.map_some]
    cases cl' <;> rfl
  cases cl with
  | lst ds => simp only [vVals, hu] at w; exact absurd w id
  | obj _ _ => simp only [vVals, hu] at w; exact absurd w id
  | dK kvs =>
    simp only [vVals, hu] at w
    obtain ⟨vs, e, r⟩ := cr
    obtain ⟨od, I3⟩ := I2.lock e trivial
    have k3 := Go.write (H := H2) hm (fun od u q => by rw [e] at q; cases q) (.frz od (.dK vs))
    have c3 := c.write ha (o := .frz od (.dK vs)) (u := .lK kvs) ⟨od, vs, upd_same, r.mono fun _ _ q => q.upd hm⟩ (show lowC i (.dK kvs) = true from c.low i _ hu)
    exact it_vals I3 kvw c3 ha upd_same ((kd _ _ (by rw [List.getElem?_set_self hi])).trans rfl) ((vd _ _ (by rw [List.getElem?_set_self hi])).trans rfl) fun J so => w ρ J _ k3 c3 so
  | dT kvs =>
    simp only [vVals, hu] at w
    obtain ⟨vs, e, r1, r2, r⟩ := cr
    obtain ⟨od, I3⟩ := I2.lock e trivial
    have k3 := Go.write (H := H2) hm (fun od u q => by rw [e] at q; cases q) (.frz od (.ext (DTO g a vs)))
    have c3 := c.write ha (o := .frz od (.ext (DTO g a vs))) (u := .lT kvs) ⟨od, vs, upd_same, r1, r2, Paired.mapP r fun _ _ q => ⟨q.1, q.2.1.upd hm, q.2.2.upd hm⟩⟩ (show lowC i (.dT kvs) = true from c.low i _ hu)
    exact it_vals I3 kvw c3 ha upd_same ((kd _ _ (by rw [List.getElem?_set_self hi])).trans rfl) ((vd _ _ (by rw [List.getElem?_set_self hi])).trans rfl) fun J so => w ρ J _ k3 c3 so
  | lK kvs =>
    simp only [vVals, hu] at w
    obtain ⟨od, vs, e, r⟩ := cr
    exact it_vals I2 kvw c ha e ((kd _ _ hu).trans rfl) ((vd _ _ hu).trans rfl) fun J so => w ρ J _ (Go.refl _ _) c so
  | lT kvs =>
    simp only [vVals, hu] at w
    obtain ⟨od, vs, e, r⟩ := cr
    exact it_vals I2 kvw c ha e ((kd _ _ hu).trans rfl) ((vd _ _ hu).trans rfl) fun J so => w ρ J _ (Go.refl _ _) c so
/-! ### items -/
theorem krep_ix {K : PySem.W.Frag} : ∀ {kvs : List (Key × D)} {vs : List (Key × V)}, KRep K κ ρ H kvs vs → kvs.length = vs.length ∧ ∀ {i : Nat} {p : Key × D}, kvs[i]? = some p → ∃ v, vs[i]? = some (p.1, v) ∧ Rep K κ ρ H p.2 v
  | _, _, .nil => ⟨rfl, fun q => by cases q⟩
  | p :: ps, q :: qs, .cons z t => by
    obtain ⟨h1, h2⟩ := krep_ix t
    refine ⟨by rw [List.length_cons, List.length_cons, h1], fun {i} {x} e => ?_⟩
    cases i with
    | zero =>
      cases e
      exact ⟨q.2, by rw [List.getElem?_cons_zero, z.1], z.2⟩
    | succ i =>
      obtain ⟨v, e1, e2⟩ := h2 (by simpa using e)
      exact ⟨v, by simpa using e1, e2⟩
theorem ok_items {od : Obj} {kvs : List (Key × D)} {vs : List (Key × V)} (hd : H a = some (.frz od (.dK vs))) (r : KRep g.K κ ρ H kvs vs) : SrcOk g κ ρ H (Iti a od vs) ⟨kvs.map itemD, fun _ => true⟩ := fun κ1 ρ1 H1 h1 k c st => by
  have hd1 := k.fz _ _ _ hd
  obtain ⟨ln, get⟩ := krep_ix r
  refine ⟨fun i d e => ?_, hd1, by show vs.length ≤ (kvs.map itemD).length; rw [List.length_map]; omega⟩
  have e : (kvs.map itemD)[i]? = some d := e
  rw [List.getElem?_map] at e
  cases q : kvs[i]? with
  | none => rw [q] at e; cases e
  | some p =>
    rw [q] at e
    have e := Option.some.inj e
    obtain ⟨v, e1, rv⟩ := get q
    refine ⟨⟨hd1, (List.getElem?_eq_some_iff.mp e1).1⟩, fun x H2 y => ?_⟩
    obtain ⟨T, k', v', hkv, ex, hT, eH⟩ := y
    rw [e1] at hkv
    cases hkv
    subst ex eH e
    have rs : Reps g.K κ ρ H [p.2] [v] := ⟨v, [], rfl, rv, rfl⟩
    obtain ⟨v2, e2, rv2⟩ := (rs.gk k).get (i := 0) rfl
    cases e2
    exact pair_ok c hT keyD_rep rv2
theorem p_itemsI {elts : List Expr} {kk : Nat} {tpos : Pos} {o : Expr} {apos cpos : Pos} (ok : Okx g X) (ho : PE X o (RE g E fo)) (hbase : attributeBase o "items" X.env (eval o X.env) = eval o X.env) (hline : (apos.endLine == cpos.line) = true) :
    PI X (.Tuple elts kk tpos) (.Call (.Attribute o "items" apos) [] [] cpos) (RI g E fun env h => (fo env h).bind vItems) := by
  refine ⟨fun pins s σ H R I w => ?_⟩
  refine wpAny_Call_method (T := "dict") (id := "dict.items") hbase rfl hline F.plainAttrs_dict F.slot_dict_items F.type_dict_items (thn (ho.run pins s σ H _ I (RI_one w)) fun u s1 ⟨x, H1, I1, rx, κ, ρ, h, d, c, r, w⟩ => ?_)
  have main : ∃ (a : Addr) (H3 : Hp) (od : Obj) (kvs : List (Key × V)), x = .ref a ∧ Inv X pins σ H3 s1 ∧ H3 a = some (.frz od (.dK kvs)) ∧ R (Iti a od kvs) H3 := by
    cases d with
    | md i =>
      obtain ⟨a, rfl, ha⟩ := r
      have hm : a ∈ ρ := List.mem_of_getElem? ha
      obtain ⟨cl, hu, cr⟩ := c.get ha
      cases cl with
      | dK kvs =>
        simp only [vItems, hu] at w
        obtain ⟨vs, e, r⟩ := cr
        obtain ⟨od, I3⟩ := I1.lock e trivial
        have k3 := Go.write (H := H1) hm (fun od u q => by rw [e] at q; cases q) (.frz od (.dK vs))
        have rm : KRep g.K κ ρ (upd H1 a (.frz od (.dK vs))) kvs vs := r.mono fun _ _ q => q.upd hm
        have c3 := c.write ha (o := .frz od (.dK vs)) (u := .lK kvs) ⟨od, vs, upd_same, rm⟩ (show lowC i (.dK kvs) = true from c.low i _ hu)
        exact ⟨a, _, od, vs, rfl, I3, upd_same, w ρ _ _ k3 c3 (ok_items upd_same rm)⟩
      | lK kvs =>
        simp only [vItems, hu] at w
        obtain ⟨od, vs, e, r⟩ := cr
        exact ⟨a, _, od, vs, rfl, I1, e, w ρ _ _ (Go.refl _ _) c (ok_items e r)⟩
      | lst ds => simp only [vItems, hu] at w; exact absurd w id
      | obj _ _ => simp only [vItems, hu] at w; exact absurd w id
      | dT ds => simp only [vItems, hu] at w; exact absurd w id
      | lT ds => simp only [vItems, hu] at w; exact absurd w id
    | _ => exact absurd w id
  obtain ⟨d, H3, o, kvs, ex, I3, hd, q⟩ := main
  subst ex
  obtain rfl : u = Value.ref d := rx
  obtain ⟨hs, hgd, hx, es, ep, vs, hdt, hsz, kv, hm⟩ := I3.frzK hd
  have hl : kvs.length = vs.length := Paired.length kv
  refine ⟨hm.dictOf.typeIs, hm.dictOf.mapOf.noDict, ?_⟩
  have I2 : Inv X pins σ H3 { s1 with heap := s1.heap.push { cls := .type "dict_items", data := .fields #[.ref d] } } := I3.kept (t' := s1.toks) fun b ob q => Heap.get?_push_of_some _ q
  have fin : wpAny (model X.prog X.w) X.A (pyIter (.ref s1.heap.objs.size)) (PIE X pins σ (.Tuple elts kk tpos) R) X.xe { s1 with heap := s1.heap.push { cls := .type "dict_items", data := .fields #[.ref d] } } := by
    refine wpAny_pyIter_items (d := d) (knd := mixKind X.prog X.w) ⟨_, Heap.get?_push_size _ rfl, rfl, rfl⟩ (hm.push _) (pi_one (tk := s1.toks) I2 _ (turn_items _ hdt) ⟨.none, .none, ?_⟩ q)
    rw [hl]
    exact Heap.get?_push_size _ rfl
  show wpAny _ _ (callWith cpos (.builtin "dict.items") [.ref d] [] []) _ X.xe s1
  exact method_meetsIn F.slot_dict_items F.entry_dict_items rfl (PySem.evalArgs_none ⟨rfl, hm.dictOf.typeIs, F.args_dict_items_1 _, _, meets_dict_items (mixKind X.prog X.w) d hs, ⟨vs, hm.dictOf⟩, fin⟩)
end
end Q
end
section
namespace Q
open PySem PySem.Spec PyProof.Rows L2

/-! ## targets of a comprehension: names, and tuples of them -/
def RV (g : G) (vs : List Nat) (f : DG) : TG := fun v σ H Q => ∃ κ ρ env h d, Sit g κ ρ env h σ H ∧ Rep g.K κ ρ H d v ∧ match f d env h with
  | .ok env' h' => ∀ ρ' σ' H', Go ρ H ρ' H' → CS g κ ρ' h' H' → EnvR g κ ρ' H' env' σ' → wipe σ' vs = wipe σ vs → Q σ' H'
  | _ => False
def RVs (g : G) (vs : List Nat) (f : List D → Ev → Hh → Oc Ev) : TGs := fun v σ H Q => ∃ κ ρ env h d, Sit g κ ρ env h σ H ∧ Reps g.K κ ρ H d v ∧ match f d env h with
  | .ok env' h' => ∀ ρ' σ' H', Go ρ H ρ' H' → CS g κ ρ' h' H' → EnvR g κ ρ' H' env' σ' → wipe σ' vs = wipe σ vs → Q σ' H'
  | _ => False
theorem wipe_get {σ : L2.St} {i : Nat} : ∀ {vs : List Nat}, i ∈ vs → i < σ.length → (wipe σ vs)[i]? = some none
  | v :: vs, hm, hl => by
    unfold wipe
    by_cases e : v = i
    · subst e
      rw [List.getElem?_set_self (by rw [wipe_length]; exact hl)]
    · rw [List.getElem?_set_ne e]
      rcases List.mem_cons.mp hm with z | z
      · exact absurd z.symm e
      · exact wipe_get z hl
theorem wipe_set {σ : L2.St} {i : Nat} {x : Option V} {vs : List Nat} (hm : i ∈ vs) : wipe (σ.set i x) vs = wipe σ vs := by
  apply List.ext_getElem?
  intro j
  by_cases hl : j < σ.length
  · by_cases hj : j ∈ vs
    · rw [wipe_get hj (by simpa using hl), wipe_get hj hl]
    · rw [wipe_out hj, wipe_out hj, List.getElem?_set_ne (fun z => hj (by rw [← z]; exact hm))]
  · rw [List.getElem?_eq_none (by rw [wipe_length]; simpa using hl), List.getElem?_eq_none (by rw [wipe_length]; omega)]
section
variable {X : Cx} {g : G} {E : XK} {κ ρ : List Addr} {H : Hp} {vs : List Nat}
theorem v_nm {i : Nat} {x : Str} {pos : Pos} (hm : i ∈ vs) (hN : X.N.Nodup) (hi : X.N[i]? = some x) (hx : Loc X.env.scope x) (hf : X.fn x = true ∨ X.env.scope.names.lookup x = some .local) {f : Q.E → DE} : PG X (.Name x pos) (RV g vs (evT f (.nm i))) :=
  PG.imp (pg_name hN hi hx hf) fun v σ H Q ⟨κ, ρ, env, h, d, S, r, w⟩ => w ρ _ H (Go.refl _ _) S.cs (S.en.set i r) (wipe_set hm)
theorem v_nil {f : Q.E → DE} : PGs X [] (RVs g vs (evTs f [])) := PGs.imp pgs_nil fun v σ H Q ⟨κ, ρ, env, h, ds, S, r, w⟩ => by
  cases ds with
  | nil =>
    cases r
    exact ⟨rfl, w ρ σ H (Go.refl _ _) S.cs S.en rfl⟩
  | cons d ds => exact absurd w fun z => z
theorem v_cons {f : Q.E → DE} {e : Expr} {es : List Expr} {t : T} {ts : List T} (h1 : PG X e (RV g vs (evT f t))) (h2 : PGs X es (RVs g vs (evTs f ts))) (hs : (assignEach (e :: es) X.env).map (·.2) = assign e X.env :: (assignEach es X.env).map (·.2)) :
    PGs X (e :: es) (RVs g vs (evTs f (t :: ts))) := PGs.imp (pgs_cons h1 h2 hs) fun v σ H Q ⟨κ, ρ, env, h, ds, S, r, w⟩ => by
  cases ds with
  | nil => exact absurd w fun z => z
  | cons d ds =>
    obtain ⟨v, vr, rfl, r1, r2⟩ := r
    refine ⟨v, vr, rfl, κ, ρ, env, h, d, S, r1, ?_⟩
    have w : (match (evT f t d env h).bind fun env1 h1 => evTs f ts ds env1 h1 with
      | .ok env' h' => ∀ ρ' σ' H', Go ρ H ρ' H' → CS g κ ρ' h' H' → EnvR g κ ρ' H' env' σ' → wipe σ' vs = wipe σ vs → Q σ' H'
      | _ => False) := w
    revert w
    cases evT f t d env h with
    | bad => exact fun w => w
    | ex x h' => exact fun w => w
    | ok env1 h1 =>
      intro w ρ1 σ1 H1 k1 c1 e1 q1
      refine ⟨κ, ρ1, env1, h1, ds, ⟨c1, e1⟩, r2.go k1, ?_⟩
      revert w
      show (match evTs f ts ds env1 h1 with
        | .ok env' h' => ∀ ρ' σ' H', Go ρ H ρ' H' → CS g κ ρ' h' H' → EnvR g κ ρ' H' env' σ' → wipe σ' vs = wipe σ vs → Q σ' H'
        | _ => False) → _
      cases evTs f ts ds env1 h1 with
      | bad => exact fun w => w
      | ex x h' => exact fun w => w
      | ok env2 h2 => exact fun w ρ2 σ2 H2 k2 c2 e2 q2 => w ρ2 σ2 H2 (k1.trans k2) c2 e2 (q2.trans q1)
theorem v_tup {f : Q.E → DE} {es : List Expr} {k : Nat} {pos : Pos} {ts : List T} (ok : Okx g X) (p : PGs X es (RVs g vs (evTs f ts))) (hn : (assignEach es X.env).length = ts.length) (hst : (assignEach es X.env).findIdx? (·.1) = none) :
    PG X (.Tuple es k pos) (RV g vs (evT f (.tup ts))) := PG.imp (pg_tup ok.calm p hn hst) fun v σ H Q ⟨κ, ρ, env, h, d, S, r, w⟩ => by
  have go : ∀ {ds : List D} {a : Addr} {us : List V}, v = .ref a → SqT g.K H a us → Reps g.K κ ρ H ds us → (match (if ds.length = ts.length then evTs f ts ds env h else .bad) with
      | .ok env' h' => ∀ ρ' σ' H', Go ρ H ρ' H' → CS g κ ρ' h' H' → EnvR g κ ρ' H' env' σ' → wipe σ' vs = wipe σ vs → Q σ' H'
      | _ => False) → gTup X.K ts.length (RVs g vs (evTs f ts)) v σ H Q := fun {ds a us} e sq rr w => by
    by_cases hl : ds.length = ts.length
    · rw [if_pos hl] at w
      exact ⟨a, us, e, by rw [ok.K]; exact sq, by rw [rr.len]; exact hl, κ, ρ, env, h, ds, S, rr, w⟩
    · rw [if_neg hl] at w
      exact absurd w fun z => z
  cases d with
  | tup ds => obtain ⟨a, us, e, f, rr⟩ := r; exact go e f.sq rr w
  | pr ds => obtain ⟨a, us, e, f, rr⟩ := r; exact go e f.sq rr w
  | _ => exact absurd w fun z => z
end

/-! ## a list under work, held apart -/
section
variable {g : G} {κ ρ ρ1 : List Addr} {H H1 : Hp} {h h1 : Hh} {A : Addr}
theorem ne_hd {a : Addr} (n : a ∉ A :: κ) : a ≠ A := fun q => n (by rw [q]; exact List.mem_cons_self ..)
theorem Go.ext (c : CS g κ ρ h H) (k : Go ρ H ρ1 H1) (e : H A = none) : GoK κ ρ H (A :: κ) ρ1 H1 :=
  ⟨k.pre, fun a o q n _ => k.stay a o q n, k.new, fun a q => List.mem_cons_of_mem _ q, fun a q n => by
    rcases List.mem_cons.mp q with z | z
    · rw [z]; exact e
    · exact absurd z n, fun a od u q => k.fz a od u q⟩
theorem GoK.acc (c : CS g κ ρ h H) (e : H A = none) (o : HO) : GoK κ ρ H (A :: κ) ρ (upd H A o) := Go.ext c (Go.laid c e o) e
theorem GoK.at {vs : List V} (hA : H A = some (.lst vs)) (o : HO) : GoK (A :: κ) ρ H (A :: κ) ρ (upd H A o) :=
  ⟨⟨[], by simp⟩, fun a u q _ n => by rw [upd_ne (ne_hd n)]; exact q, fun _ z n => absurd z n, fun _ q => q, fun _ q n => absurd q n, fun a od u q => by rw [upd_ne (fun z => by rw [z, hA] at q; cases q)]; exact q⟩
theorem CS.acc (c : CS g κ ρ h H) (e : H A = none) (o : HO) : CS g (A :: κ) ρ h (upd H A o) := by
  have k := GoK.acc c e o
  refine ⟨c.len, c.nd, fun i a u h1 h2 => ?_, c.low, fun a ha => ?_⟩
  · have q := c.cell i a u h1 h2
    obtain ⟨x, hx, _⟩ := q.trk
    exact q.mono (upd_ne (ne_of_none hx e)) (fun _ _ r => r.gk k) (fun _ _ r => r.gk k) (fun _ _ r => r.gk k)
  · rcases List.mem_cons.mp ha with z | z
    · subst z; exact ⟨o, upd_same⟩
    · obtain ⟨x, hx⟩ := c.kap a z
      exact ⟨x, by rw [upd_ne (ne_of_none hx e)]; exact hx⟩
theorem FT.at {K : PySem.W.Frag} {a : Addr} {vs : List V} {o : HO} (f : FT (A :: κ) ρ H a vs) : FT (A :: κ) ρ (L2.upd H A o) a vs := by
  obtain ⟨⟨w, z, y⟩, n1, n2⟩ := f
  exact ⟨⟨w, by rw [upd_ne (ne_hd n2)]; exact z, y⟩, n1, n2⟩
theorem Rep.at {d : D} {v : V} {o : HO} {K : PySem.W.Frag} (r : Rep K (A :: κ) ρ H d v) : Rep K (A :: κ) ρ (L2.upd H A o) d v :=
  r.mono (fun _ _ f => FT.at (K := K) f) (fun _ _ ⟨z, n1, n2⟩ => ⟨by rw [upd_ne (ne_hd n2)]; exact z, n1, n2⟩)
    (fun _ _ ⟨z, n1, n2⟩ => ⟨by rw [upd_ne (ne_hd n2)]; exact z, n1, n2⟩)
    (fun _ _ f => f.imp (fun ⟨w, z, n1, n2⟩ => ⟨w, by rw [upd_ne (ne_hd n2)]; exact z, n1, n2⟩) fun w => w) fun _ _ z => z
theorem Reps.at {d : List D} {v : List V} {o : HO} {K : PySem.W.Frag} (r : Reps K (A :: κ) ρ H d v) : Reps K (A :: κ) ρ (L2.upd H A o) d v :=
  r.mono (fun _ _ f => FT.at (K := K) f) (fun _ _ ⟨z, n1, n2⟩ => ⟨by rw [upd_ne (ne_hd n2)]; exact z, n1, n2⟩)
    (fun _ _ ⟨z, n1, n2⟩ => ⟨by rw [upd_ne (ne_hd n2)]; exact z, n1, n2⟩)
    (fun _ _ f => f.imp (fun ⟨w, z, n1, n2⟩ => ⟨w, by rw [upd_ne (ne_hd n2)]; exact z, n1, n2⟩) fun w => w) fun _ _ z => z
theorem CS.at (c : CS g (A :: κ) ρ h H) (n : A ∉ ρ) (o : HO) : CS g (A :: κ) ρ h (L2.upd H A o) := by
  refine ⟨c.len, c.nd, fun i a u h1 h2 => ?_, c.low, fun a ha => ?_⟩
  · have q := c.cell i a u h1 h2
    exact q.mono (upd_ne (fun z => n (by rw [← z]; exact List.mem_of_getElem? h1))) (fun _ _ r => r.at) (fun _ _ r => r.at) (fun _ _ r => FT.at (K := g.K) r)
  · by_cases z : a = A
    · subst z; exact ⟨o, upd_same⟩
    · obtain ⟨x, hx⟩ := c.kap a ha
      exact ⟨x, by rw [upd_ne z]; exact hx⟩
/-- it comes to be a value -/
theorem FT.off {ρ' : List Addr} {a : Addr} {vs : List V} (s : ∀ a ∈ ρ', a ∈ ρ ∨ a = A) (f : FT (A :: κ) ρ H a vs) : FT κ ρ' H a vs :=
  ⟨f.1, fun q => (s a q).elim f.2.1 (ne_hd f.2.2), fun q => f.2.2 (List.mem_cons_of_mem _ q)⟩
theorem Rep.off {K : PySem.W.Frag} {ρ' : List Addr} {d : D} {v : V} (s : ∀ a ∈ ρ', a ∈ ρ ∨ a = A) (t : ∀ (i : Nat) (a : Addr), ρ[i]? = some a → ρ'[i]? = some a) (r : Rep K (A :: κ) ρ H d v) : Rep K κ ρ' H d v :=
  r.mono (fun _ _ f => f.off s) (fun a _ f => ⟨f.1, fun q => (s a q).elim f.2.1 (ne_hd f.2.2), fun q => f.2.2 (List.mem_cons_of_mem _ q)⟩)
    (fun a _ f => ⟨f.1, fun q => (s a q).elim f.2.1 (ne_hd f.2.2), fun q => f.2.2 (List.mem_cons_of_mem _ q)⟩)
    (fun a _ f => f.imp (fun ⟨o, f1, f2, f3⟩ => ⟨o, f1, fun q => (s a q).elim f2 (ne_hd f3), fun q => f3 (List.mem_cons_of_mem _ q)⟩) fun w => w) t
theorem Reps.off {K : PySem.W.Frag} {ρ' : List Addr} {d : List D} {v : List V} (s : ∀ a ∈ ρ', a ∈ ρ ∨ a = A) (t : ∀ (i : Nat) (a : Addr), ρ[i]? = some a → ρ'[i]? = some a) (r : Reps K (A :: κ) ρ H d v) : Reps K κ ρ' H d v :=
  r.mono (fun _ _ f => f.off s) (fun a _ f => ⟨f.1, fun q => (s a q).elim f.2.1 (ne_hd f.2.2), fun q => f.2.2 (List.mem_cons_of_mem _ q)⟩)
    (fun a _ f => ⟨f.1, fun q => (s a q).elim f.2.1 (ne_hd f.2.2), fun q => f.2.2 (List.mem_cons_of_mem _ q)⟩)
    (fun a _ f => f.imp (fun ⟨o, f1, f2, f3⟩ => ⟨o, f1, fun q => (s a q).elim f2 (ne_hd f3), fun q => f3 (List.mem_cons_of_mem _ q)⟩) fun w => w) t
theorem wp_acc {E : XK} {m : Bool} {ds : List D} {vs : List V} {Q : VK} (k : Go ρ H ρ1 H1) (hA : H A = none) (nk : A ∉ κ) (n : A ∉ ρ1) (c : CS g (A :: κ) ρ1 h1 H1) (e : H1 A = some (.lst vs)) (r : Reps g.K (A :: κ) ρ1 H1 ds vs)
    (w : Wp g E κ ρ H (mk m ds h1) Q) : Q (.ref A) H1 := by
  cases m with
  | false =>
    have s : ∀ a ∈ ρ1, a ∈ ρ1 ∨ a = A := fun a q => .inl q
    refine w ρ1 (.ref A) H1 k ⟨c.len, c.nd, fun i a u h1 h2 => ?_, c.low, fun a ha => c.kap a (List.mem_cons_of_mem _ ha)⟩ ⟨A, vs, rfl, ⟨e, n, nk⟩, r.off s fun _ _ z => z⟩
    exact (c.cell i a u h1 h2).mono rfl (fun _ _ r => r.off s fun _ _ z => z) (fun _ _ r => r.off s fun _ _ z => z) fun _ _ f => f.off s
  | true =>
    unfold mk at w
    dsimp only at w
    split at w
    · rename_i hl
      have s : ∀ a ∈ ρ1 ++ [A], a ∈ ρ1 ∨ a = A := fun a q => by simpa using q
      have t : ∀ (i : Nat) (a : Addr), ρ1[i]? = some a → (ρ1 ++ [A])[i]? = some a := fun i a q => by
        obtain ⟨hi, _⟩ := List.getElem?_eq_some_iff.mp q
        rw [List.getElem?_append_left hi]; exact q
      have ea : (ρ1 ++ [A])[h1.length]? = some A := by rw [← c.len, List.getElem?_append_right (Nat.le_refl _)]; simp
      refine w (ρ1 ++ [A]) (.ref A) H1 ⟨?_, k.stay, fun a q n2 => ?_, k.fz⟩ ⟨by simp [c.len], List.nodup_append.mpr ⟨c.nd, by simp, fun a h1 b h2 => ?_⟩, fun i a u q1 q2 => ?_, fun i u q2 => ?_, fun a ha => c.kap a (List.mem_cons_of_mem _ ha)⟩ ⟨A, rfl, ea⟩
      · obtain ⟨t, et⟩ := k.pre
        exact ⟨t ++ [A], by rw [et, List.append_assoc]⟩
      · rcases s a q with z | z
        · exact k.new a z n2
        · rw [z]; exact hA
      · have : b = A := by simpa using h2
        subst this; intro z; subst z; exact n h1
      · by_cases hi : i < ρ1.length
        · rw [List.getElem?_append_left hi] at q1
          rw [List.getElem?_append_left (by rw [← c.len]; exact hi)] at q2
          exact (c.cell i a u q1 q2).mono rfl (fun _ _ r => r.off s t) (fun _ _ r => r.off s t) fun _ _ f => f.off s
        · obtain ⟨hj, _⟩ := List.getElem?_eq_some_iff.mp q1
          have ei : i = ρ1.length := by simp at hj; omega
          subst ei
          rw [c.len] at q1
          rw [ea] at q1
          cases q1
          rw [c.len, List.getElem?_append_right (Nat.le_refl _)] at q2
          have eu : Cell.lst ds = u := by simpa using q2
          subst eu
          exact ⟨vs, e, r.off s t⟩
      · by_cases hi : i < h1.length
        · rw [List.getElem?_append_left hi] at q2
          exact c.low i u q2
        · obtain ⟨hj, _⟩ := List.getElem?_eq_some_iff.mp q2
          have ei : i = h1.length := by simp at hj; omega
          subst ei
          rw [List.getElem?_append_right (Nat.le_refl _)] at q2
          have eu : Cell.lst ds = u := by simpa using q2
          subst eu
          exact hl
    · exact absurd w id
end
end Q
end
section
namespace Q
open PySem PySem.Spec PyProof.Rows L2

theorem wipe_wipe {σ : L2.St} {vs : List Nat} : wipe (wipe σ vs) vs = wipe σ vs := by
  apply List.ext_getElem?
  intro j
  by_cases hj : j ∈ vs
  · by_cases hl : j < σ.length
    · rw [wipe_get hj (by rw [wipe_length]; exact hl), wipe_get hj hl]
    · rw [List.getElem?_eq_none (by rw [wipe_length, wipe_length]; omega), List.getElem?_eq_none (by rw [wipe_length]; omega)]
  · rw [wipe_out hj]
theorem wipeE_length (env : Ev) : ∀ vs : List Nat, (wipeE env vs).length = env.length
  | [] => rfl
  | v :: vs => by unfold wipeE; rw [List.length_set, wipeE_length env vs]
theorem wipeE_some {env : Ev} {i : Nat} {d : D} : ∀ {vs : List Nat}, (wipeE env vs)[i]? = some (some d) → env[i]? = some (some d) ∧ i ∉ vs
  | [], h => ⟨h, by simp⟩
  | v :: vs, h => by
    unfold wipeE at h
    by_cases hi : v = i
    · subst hi
      by_cases hv : v < (wipeE env vs).length
      · rw [List.getElem?_set_self hv] at h; cases h
      · rw [List.getElem?_eq_none (by simpa using hv)] at h; cases h
    · rw [List.getElem?_set_ne hi] at h
      obtain ⟨h1, h2⟩ := wipeE_some h
      exact ⟨h1, by simp only [List.mem_cons, not_or]; exact ⟨fun e => hi e.symm, h2⟩⟩
section
variable {X : Cx} {g : G} {E : XK} {κ κ1 ρ ρ1 : List Addr} {H H1 : Hp} {env env1 : Ev} {σ : L2.St} {h h1 : Hh} {A : Addr}
theorem EnvR.wipe (e : EnvR g κ ρ H env σ) (vs : List Nat) : EnvR g κ ρ H (wipeE env vs) (wipe σ vs) :=
  ⟨by rw [wipeE_length, wipe_length]; exact e.1, fun i d q => by
    obtain ⟨q1, q2⟩ := wipeE_some q
    rw [wipe_out q2]
    exact e.2 i d q1⟩
theorem EnvR.gk (k : GoK κ ρ H κ1 ρ1 H1) (e : EnvR g κ ρ H env σ) : EnvR g κ1 ρ1 H1 env σ :=
  ⟨e.1, fun i d q => let ⟨v, h1, h2⟩ := e.2 i d q; ⟨v, h1, h2.gk k⟩⟩

/-- what a loop of a list comes to -/
def FinL (g : G) (κ : List Addr) (A : Addr) (Bs : List Addr → Hp → Prop) (r : Oc (List D)) (Qd : Hp → Prop) : Prop := match r with
  | .ok ds h' => ∀ ρ' H' vs, Bs ρ' H' → A ∉ ρ' → CS g (A :: κ) ρ' h' H' → H' A = some (.lst vs) → Reps g.K (A :: κ) ρ' H' ds vs → Qd H'
  | _ => False
/-- the state of a loop -/
def Lst (g : G) (κ : List Addr) (A : Addr) (Bs : List Addr → Hp → Prop) (f : List D → Hh → Oc (List D)) (Qd : Hp → Prop) (H : Hp) : Prop :=
  ∃ ρ h acc vs, Bs ρ H ∧ A ∉ ρ ∧ CS g (A :: κ) ρ h H ∧ H A = some (.lst vs) ∧ Reps g.K (A :: κ) ρ H acc vs ∧ FinL g κ A Bs (f acc h) Qd
/-- what a source tells while Bs holds -/
def SrcAt (g : G) (κ : List Addr) (A : Addr) (Bs : List Addr → Hp → Prop) (J : It) (s : Src) : Prop :=
  ∀ ρ1 H1 h1, Bs ρ1 H1 → CS g (A :: κ) ρ1 h1 H1 → s.still h1 = true →
    (∀ i d, s.items[i]? = some d → J.go i H1 ∧ ∀ x H2, J.yld i H1 x H2 → Go ρ1 H1 ρ1 H2 ∧ CS g (A :: κ) ρ1 h1 H2 ∧ Rep g.K (A :: κ) ρ1 H2 d x) ∧ J.stop s.items.length H1
structure BsOk (g : G) (κ : List Addr) (A : Addr) (Bs : List Addr → Hp → Prop) (env : Ev) (σ : L2.St) : Prop where
  go : ∀ ρ H ρ1 H1 h, Bs ρ H → CS g (A :: κ) ρ h H → Go ρ H ρ1 H1 → Bs ρ1 H1
  put : ∀ ρ H h o vs, Bs ρ H → CS g (A :: κ) ρ h H → H A = some (.lst vs) → Bs ρ (upd H A o)
  env : ∀ ρ H, Bs ρ H → EnvR g (A :: κ) ρ H env σ
/-- the element is laid behind -/
theorem lc_put {Bs : List Addr → Hp → Prop} {fe : DE} {f : List D → Hh → Oc (List D)} {Qd : Hp → Prop} {acc : List D} {vs : List V} (B : BsOk g κ A Bs env1 σ) {σ2 : L2.St} (S : Sit g (A :: κ) ρ env h σ2 H) (hn : A ∉ ρ) (hA : H A = some (.lst vs)) (ra : Reps g.K (A :: κ) ρ H acc vs)
    (b : Bs ρ H) (w : FinL g κ A Bs (match fe env h with
      | .ok y h3 => if acc.length < big then f (acc ++ [y]) h3 else .bad
      | _ => .bad) Qd) :
    RE g E0 fe σ2 H fun y H4 => ∃ acc, H4 A = some (.lst acc) ∧ acc.length < sizeLine ∧ Lst g κ A Bs f Qd (upd H4 A (.lst (acc ++ [y]))) := by
  refine ⟨A :: κ, ρ, env, h, S, ?_⟩
  revert w
  cases fe env h with
  | bad => exact fun w => w
  | ex x h' => exact fun w => w.elim
  | ok d h3 =>
    intro w ρ4 v H4 k4 c4 r4
    dsimp only at w
    split at w
    · rename_i hl
      have n4 : A ∉ ρ4 := k4.notin hn hA
      have a4 : H4 A = some (.lst vs) := k4.stay _ _ hA hn
      refine ⟨vs, a4, by rw [ra.len]; exact Nat.lt_of_lt_of_le hl big_line, ?_⟩
      exact ⟨ρ4, h3, acc ++ [d], vs ++ [v], B.put ρ4 H4 h3 _ _ (B.go ρ H ρ4 H4 h b S.cs k4) c4 a4, n4, c4.at n4 _, upd_same, Reps.append ((ra.go k4).at) ⟨v, [], rfl, r4.at, rfl⟩, w⟩
    · exact absurd w fun w => w
/-- the turns of a clause -/
theorem lc_loop {Bs : List Addr → Hp → Prop} {J : It} {s : Src} {own : List Nat} {gg : DG} {tt : Ev → Hh → Oc Bool} {Kf : List D → List D → Ev → Hh → Oc (List D)} {L : List D → List D → Hh → Oc (List D)} {Qd : Hp → Prop} {Body : L2.St → Hp → (Hp → Prop) → Prop}
    (B : BsOk g κ A Bs env σ) (sa : SrcAt g κ A Bs J s)
    (hL0 : ∀ acc h, L [] acc h = if s.still h then .ok acc h else .bad)
    (hL1 : ∀ d ds acc h, L (d :: ds) acc h = if s.still h then (match gg d (wipeE env own) h with
      | .ok env1 h1 => match tt env1 h1 with
        | .ok true h2 => Kf ds acc env1 h2
        | .ok false h2 => L ds acc h2
        | _ => .bad
      | _ => .bad) else .bad)
    (body : ∀ ds acc env1 h2 ρ H σ2 vs, Bs ρ H → A ∉ ρ → Sit g (A :: κ) ρ env1 h2 σ2 H → H A = some (.lst vs) → Reps g.K (A :: κ) ρ H acc vs → wipe σ2 own = wipe σ own → FinL g κ A Bs (Kf ds acc env1 h2) Qd → Body σ2 H (Lst g κ A Bs (L ds) Qd))
    {H0 : Hp} (w0 : Lst g κ A Bs (L s.items) Qd H0) :
    ∃ W : Nat → Nat → Hp → Prop, (∃ m, W 0 m H0) ∧ ∀ i m H, W i m H → (J.stop i H ∧ Qd H) ∨ (J.go i H ∧ ∃ Nx : Hp → Prop, (∀ H', Nx H' → ∃ m', m' < m ∧ W (i + 1) m' H') ∧ ∀ x H', J.yld i H x H' →
      RV g own gg x (wipe σ own) H' fun σ2 H2 => wipe σ2 own = wipe σ own ∧ RB g E0 tt σ2 H2 fun b H3 => if b = true then Body σ2 H3 Nx else Nx H3) := by
  refine ⟨fun i m H => m = s.items.length - i ∧ i ≤ s.items.length ∧ Lst g κ A Bs (L (s.items.drop i)) Qd H, ⟨_, rfl, Nat.zero_le _, w0⟩, ?_⟩
  rintro i m H ⟨rfl, hi, ρ, h, acc, vs, b, hn, c, hA, ra, w⟩
  by_cases hlt : i < s.items.length
  · obtain ⟨d, hd, hdr⟩ := drop_get hlt
    rw [hdr, hL1] at w
    by_cases hst : s.still h = true
    · rw [if_pos hst] at w
      obtain ⟨go, _⟩ := sa ρ H h b c hst
      obtain ⟨go, yl⟩ := go i d hd
      refine .inr ⟨go, Lst g κ A Bs (L (s.items.drop (i + 1))) Qd, fun H' q => ⟨_, by omega, rfl, hlt, q⟩, fun x H3 y => ?_⟩
      obtain ⟨k3, c3, r3⟩ := yl x H3 y
      have b3 := B.go ρ H ρ H3 h b c k3
      refine ⟨A :: κ, ρ, wipeE env own, h, d, ⟨c3, (B.env ρ H3 b3).wipe own⟩, r3, ?_⟩
      revert w
      cases gg d (wipeE env own) h with
      | bad => exact fun w => w.elim
      | ex x h' => exact fun w => w.elim
      | ok env4 h4 =>
        intro w ρ4 σ4 H4 k4 c4 e4 q4
        have q4' : wipe σ4 own = wipe σ own := q4.trans wipe_wipe
        refine ⟨q4', A :: κ, ρ4, env4, h4, ⟨c4, e4⟩, ?_⟩
        have b4 := B.go ρ H3 ρ4 H4 h b3 c3 k4
        have n4 : A ∉ ρ4 := (k3.trans k4).notin hn hA
        have a4 : H4 A = some (.lst vs) := (k3.trans k4).stay _ _ hA hn
        have ra4 := ra.go (k3.trans k4)
        revert w
        dsimp only
        cases tt env4 h4 with
        | bad => exact fun w => w.elim
        | ex x h' => exact fun w => w.elim
        | ok bb h5 =>
          intro w ρ5 H5 k5 c5
          have b5 := B.go ρ4 H4 ρ5 H5 h4 b4 c4 k5
          cases bb with
          | true => exact body _ _ _ _ ρ5 H5 σ4 vs b5 (k5.notin n4 a4) ⟨c5, e4.go k5⟩ (k5.stay _ _ a4 n4) (ra4.go k5) q4' w
          | false => exact ⟨ρ5, h5, acc, vs, b5, k5.notin n4 a4, c5, k5.stay _ _ a4 n4, ra4.go k5, w⟩
    · rw [if_neg hst] at w
      exact w.elim
  · have e : i = s.items.length := by omega
    subst e
    rw [List.drop_length, hL0] at w
    by_cases hst : s.still h = true
    · rw [if_pos hst] at w
      obtain ⟨_, st⟩ := sa ρ H h b c hst
      exact .inl ⟨st, w ρ H vs b hn c hA ra⟩
    · rw [if_neg hst] at w
      exact w.elim
/-- the outer clause's base -/
theorem bs_out (S : Sit g κ ρ env h σ H) (hA : H A = none) : BsOk g κ A (fun ρ1 H1 => Go ρ H ρ1 H1) env σ where
  go := fun _ _ _ _ _ b _ k => b.trans k
  put := fun ρ1 H1 h1 o vs b c hv => ⟨b.pre, fun a u q n => by rw [upd_ne (ne_of_none q hA)]; exact b.stay a u q n, b.new, fun a od u q => by rw [upd_ne (ne_of_none q hA)]; exact b.fz a od u q⟩
  env := fun ρ1 H1 b => S.en.gk (Go.ext S.cs b hA)
theorem src_out {J : It} {s : Src} (S : CS g κ ρ h H) (hA : H A = none) (ok : SrcOk g κ ρ H J s) : SrcAt g κ A (fun ρ1 H1 => Go ρ H ρ1 H1) J s := fun ρ1 H1 h1 b c st => ok _ ρ1 H1 h1 (Go.ext S b hA) c st
/-- the inner clause's base, within the outer one's -/
theorem bs_in {Bs : List Addr → Hp → Prop} {σ0 : L2.St} {env0 : Ev} (B : BsOk g κ A Bs env0 σ0) (S : Sit g (A :: κ) ρ env h σ H) : BsOk g κ A (fun ρ1 H1 => Bs ρ1 H1 ∧ GoK (A :: κ) ρ H (A :: κ) ρ1 H1) env σ where
  go := fun ρ1 H1 ρ2 H2 h1 b c k => ⟨B.go _ _ _ _ _ b.1 c k, b.2.trans c (GoK.of k)⟩
  put := fun ρ1 H1 h1 o vs b c hv => ⟨B.put _ _ _ _ vs b.1 c hv, b.2.trans c (GoK.at hv o)⟩
  env := fun ρ1 H1 b => S.en.gk b.2
theorem src_in {Bs : List Addr → Hp → Prop} {J : It} {s : Src} (ok : SrcOk g (A :: κ) ρ H J s) : SrcAt g κ A (fun ρ1 H1 => Bs ρ1 H1 ∧ GoK (A :: κ) ρ H (A :: κ) ρ1 H1) J s := fun ρ1 H1 h1 b c st => ok _ ρ1 H1 h1 b.2 c st

def eLc (fi : DI) (own : List Nat) (gg : DG) (tt : Ev → Hh → Oc Bool) (fe : DE) (m : Bool) : DE := fun env h => (fi env h).bind fun s h1 => (lcL own s.still gg tt fe s.items [] env h1).then fun ds h2 => mk m ds h2
/-- from the outcome to the reading -/
theorem tLc_of {fi : DI} {own : List Nat} {gg : DG} {tt : Ev → Hh → Oc Bool} {fe : DE} {m : Bool} {Q : VK} (w : RE g E (eLc fi own gg tt fe m) σ H Q) : tLc (RI g E fi) (RV g own gg) (RB g E0 tt) (RE g E0 fe) own σ H Q := by
  obtain ⟨κ, ρ, env, h, S, w⟩ := w
  refine ⟨κ, ρ, env, h, S, ?_⟩
  have w : Wp g E κ ρ H ((fi env h).bind fun s h1 => (lcL own s.still gg tt fe s.items [] env h1).then fun ds h2 => mk m ds h2) Q := w
  revert w
  cases fi env h with
  | bad => exact fun w => w
  | ex x h' => exact fun w => w
  | ok s h1 =>
    intro w ρ1 J H1 k1 c1 ok A hA
    have w : Wp g E κ ρ1 H1 ((lcL own s.still gg tt fe s.items [] env h1).then fun ds h2 => mk m ds h2) Q := Wp.go k1 w
    have S1 := S.go k1 c1
    refine lc_loop (Kf := fun ds acc env1 h2 => match fe env1 h2 with
      | .ok y h3 => if acc.length < big then lcL own s.still gg tt fe ds (acc ++ [y]) env h3 else .bad
      | _ => .bad) (L := fun ds acc h => lcL own s.still gg tt fe ds acc env h) (bs_out S1 hA) (src_out c1 hA ok) (fun acc h => by show lcL .. = _; unfold lcL; try rfl) (fun d ds acc h => by show lcL .. = _; rw [lcL]; try rfl)
      (fun ds acc env1 h2 ρ2 H2 σ2 vs b hn S2 hA2 ra _ w => lc_put (f := fun acc h => lcL own s.still gg tt fe ds acc env h) (bs_out S1 hA) S2 hn hA2 ra b w)
      ⟨ρ1, h1, [], [], Go.laid c1 hA _, c1.fresh hA, c1.acc hA _, upd_same, rfl, ?_⟩
    revert w
    show _ → FinL g κ A _ (lcL own s.still gg tt fe s.items [] env h1) _
    cases lcL own s.still gg tt fe s.items [] env h1 with
    | bad => exact fun w => w
    | ex x h' => exact fun w => w
    | ok ds h2 => exact fun w ρ2 H2 vs b hn c ha r => wp_acc b hA (c1.freshK hA) hn c ha r w
def eLc2 (fi : DI) (own : List Nat) (gg : DG) (tt : Ev → Hh → Oc Bool) (fi1 : DI) (own1 : List Nat) (g1 : DG) (tt1 : Ev → Hh → Oc Bool) (fe : DE) (m : Bool) : DE := fun env h => (fi env h).bind fun s h1 => (lc2L own own1 s.still gg tt fi1 g1 tt1 fe s.items [] env h1).then fun ds h2 => mk m ds h2
theorem tLc2_of {fi fi1 : DI} {own own1 : List Nat} {gg g1 : DG} {tt tt1 : Ev → Hh → Oc Bool} {fe : DE} {m : Bool} {Q : VK} (w : RE g E (eLc2 fi own gg tt fi1 own1 g1 tt1 fe m) σ H Q) :
    tLc2 (RI g E fi) (RV g own gg) (RB g E0 tt) (RI g E0 fi1) (RV g own1 g1) (RB g E0 tt1) (RE g E0 fe) own own1 σ H Q := by
  obtain ⟨κ, ρ, env, h, S, w⟩ := w
  refine ⟨κ, ρ, env, h, S, ?_⟩
  have w : Wp g E κ ρ H ((fi env h).bind fun s h1 => (lc2L own own1 s.still gg tt fi1 g1 tt1 fe s.items [] env h1).then fun ds h2 => mk m ds h2) Q := w
  revert w
  cases fi env h with
  | bad => exact fun w => w
  | ex x h' => exact fun w => w
  | ok s h1 =>
    intro w ρ1 J H1 k1 c1 ok A hA
    have w : Wp g E κ ρ1 H1 ((lc2L own own1 s.still gg tt fi1 g1 tt1 fe s.items [] env h1).then fun ds h2 => mk m ds h2) Q := Wp.go k1 w
    have S1 := S.go k1 c1
    have B := bs_out S1 hA
    refine lc_loop (Kf := fun ds acc env1 h2 => (lcK own1 fi1 g1 tt1 fe acc env1 h2).then fun acc' h4 => lc2L own own1 s.still gg tt fi1 g1 tt1 fe ds acc' env h4) (L := fun ds acc h => lc2L own own1 s.still gg tt fi1 g1 tt1 fe ds acc env h) B (src_out c1 hA ok) (fun acc h => by show lc2L .. = _; unfold lc2L; try rfl) (fun d ds acc h => by show lc2L .. = _; rw [lc2L]; try rfl) ?_
      ⟨ρ1, h1, [], [], Go.laid c1 hA _, c1.fresh hA, c1.acc hA _, upd_same, rfl, ?_⟩
    · intro ds acc env1 h2 ρ2 H2 σ2 vs b hn S2 hA2 ra _ w
      refine ⟨A :: κ, ρ2, env1, h2, S2, ?_⟩
      revert w
      unfold lcK
      cases fi1 env1 h2 with
      | bad => exact fun w => w
      | ex x h' => exact fun w => w.elim
      | ok s1 h3 =>
        intro w ρ3 J1 H3 k3 c3 ok1
        have S3 := S2.go k3 c3
        have b3 := B.go _ _ _ _ _ b S2.cs k3
        have Bi := bs_in B S3
        refine lc_loop (Kf := fun ds acc env1 h2 => match fe env1 h2 with
          | .ok y h3 => if acc.length < big then lcL own1 s1.still g1 tt1 fe ds (acc ++ [y]) _ h3 else .bad
          | _ => .bad) (L := fun ds acc h => lcL own1 s1.still g1 tt1 fe ds acc env1 h) Bi (src_in ok1) (fun acc h => by show lcL .. = _; unfold lcL; try rfl) (fun d ds acc h => by show lcL .. = _; rw [lcL]; try rfl)
          (fun ds acc env1 h2 ρ2 H2 σ2 vs b hn S2 hA2 ra _ w => lc_put (f := fun acc h => lcL own1 s1.still g1 tt1 fe ds acc _ h) Bi S2 hn hA2 ra b w)
          ⟨ρ3, h3, acc, vs, ⟨b3, GoK.refl⟩, k3.notin hn hA2, c3, k3.stay _ _ hA2 hn, ra.go k3, ?_⟩
        revert w
        show FinL g κ A _ ((lcL own1 s1.still g1 tt1 fe s1.items acc env1 h3).then _) _ → FinL g κ A _ (lcL own1 s1.still g1 tt1 fe s1.items acc env1 h3) _
        cases lcL own1 s1.still g1 tt1 fe s1.items acc env1 h3 with
        | bad => exact fun w => w.elim
        | ex x h' => exact fun w => w.elim
        | ok acc' h4 => exact fun w ρ' H' vs' b' hn' c' ha' r' => ⟨ρ', h4, acc', vs', b'.1, hn', c', ha', r', w⟩
    · revert w
      show _ → FinL g κ A _ (lc2L own own1 s.still gg tt fi1 g1 tt1 fe s.items [] env h1) _
      cases lc2L own own1 s.still gg tt fi1 g1 tt1 fe s.items [] env h1 with
      | bad => exact fun w => w
      | ex x h' => exact fun w => w
      | ok ds h2 => exact fun w ρ2 H2 vs b hn c ha r => wp_acc b hA (c1.freshK hA) hn c ha r w
end
end Q
end
section
namespace Q
open PySem PySem.Spec PyProof.Rows L2

section
variable {X : Cx} {g : G} {E : XK} {κ ρ ρ1 : List Addr} {H H1 : Hp} {env env1 : Ev} {σ : L2.St} {h h1 : Hh} {a b c : Expr} {es : List Expr} {rest : List Expr} {fa fb fc : DE} {fA : DA} {pos p : Pos}
/-! ## names and constants -/
def eVar (i : Nat) : DE := fun env h => match env[i]? with
  | some (some d) => .ok d h
  | _ => .bad
theorem p_var {i : Nat} {x : Str} (hN : X.N[i]? = some x) (hv : Vis X.env.scope x) (hd : (x == ("__debug__" : Str)) = false) (hcd : (x == ("__classdict__" : Str)) = false) : PE X (.Name x pos) (RE g E (eVar i)) :=
  PE.imp (pe_var hN hv hd hcd) fun σ H Q ⟨κ, ρ, env, h, S, w⟩ => by
    have w : Wp g E κ ρ H (match env[i]? with
      | some (some d) => .ok d h
      | _ => .bad) Q := w
    split at w
    · rename_i d e
      obtain ⟨v, e1, r⟩ := S.en.get e
      exact ⟨v, e1, wp_at S.cs r w⟩
    · exact absurd w fun w => w
def eC (d : D) : DE := fun _ h => .ok d h
theorem p_const {e : Expr} {v : V} {d : D} (p : PE X e (tC v)) (r : ∀ κ ρ H, Rep g.K κ ρ H d v) : PE X e (RE g E (eC d)) := PE.imp p fun σ H Q ⟨κ, ρ, env, h, S, w⟩ => w ρ v H (Go.refl _ _) S.cs (r _ _ _)
def eDead : DE := fun _ _ => .bad
theorem p_edead : PE X a (RE g E eDead) := ⟨fun _ _ _ _ _ _ ⟨_, _, _, _, _, w⟩ => absurd w fun w => w⟩
theorem p_tdead : PT X a (RB g E (asB eDead)) := ⟨fun _ _ _ _ _ _ ⟨_, _, _, _, _, w⟩ => absurd w fun w => w⟩

/-! ## truth -/
theorem RB_asB_at {f : DE} {Q : Bool → Hp → Prop} (S : Sit g κ ρ env h σ H) (w : WpB g E κ ρ H (asB f env h) Q) : WpB g E κ ρ H (asB f env h) Q := w
theorem p_tval {e : Expr} {f : DE} (p : PE X e (RE g E f)) (he : ∀ whole, isTrue e X.env whole = (do let v ← whole; standAt e.pos; holding [v] (truthy v))) : PT X e (RB g E (asB f)) :=
  PT.imp (pt_val p he) fun σ H Q w => RB_asB w
theorem p_eand (ha : PE X a (RE g E fa)) (hb : PE X (.BoolOp .And (b :: rest) pos) (RE g E fb)) : PE X (.BoolOp .And (a :: b :: rest) pos) (RE g E (evA fa fb)) := by
  refine PE.imp (pe_and ha hb) fun σ H Q ⟨κ, ρ, env, h, S, w⟩ => ⟨κ, ρ, env, h, S, ?_⟩
  unfold evA at w
  revert w
  cases fa env h with
  | bad => exact fun w => w
  | ex x h' => exact fun w => w
  | ok d h1 =>
    intro w ρ1 x H1 k1 c1 q1
    cases d with
    | bl y =>
      have q1 : x = .bl y := q1
      refine ⟨y, q1, ?_⟩
      cases y with
      | true => exact ⟨κ, ρ1, env, h1, S.go k1 c1, Wp.go k1 w⟩
      | false => exact w ρ1 _ H1 k1 c1 rfl
    | _ => exact absurd (show False from w) fun w => w
theorem p_eor (ha : PE X a (RE g E fa)) (hb : PE X (.BoolOp .Or (b :: rest) pos) (RE g E fb)) : PE X (.BoolOp .Or (a :: b :: rest) pos) (RE g E (evO fa fb)) := by
  refine PE.imp (pe_or ha hb) fun σ H Q ⟨κ, ρ, env, h, S, w⟩ => ⟨κ, ρ, env, h, S, ?_⟩
  unfold evO at w
  revert w
  cases fa env h with
  | bad => exact fun w => w
  | ex x h' => exact fun w => w
  | ok d h1 =>
    intro w ρ1 x H1 k1 c1 q1
    cases d with
    | bl y =>
      have q1 : x = .bl y := q1
      refine ⟨y, q1, ?_⟩
      cases y with
      | true => exact w ρ1 _ H1 k1 c1 rfl
      | false => exact ⟨κ, ρ1, env, h1, S.go k1 c1, Wp.go k1 w⟩
    | _ => exact absurd (show False from w) fun w => w
theorem p_one {op} (h : PE X a (RE g E fa)) : PE X (.BoolOp op [a] pos) (RE g E fa) := pe_one h
theorem p_wand (ha : PT X a (RB g E (asB fa))) (hb : PW X (.BoolOp .And (b :: rest) pos) (RB g E (asB fb))) : PW X (.BoolOp .And (a :: b :: rest) pos) (RB g E (asB (evA fa fb))) := by
  refine PW.imp (pw_and ha hb) fun σ H Q ⟨κ, ρ, env, h, S, w⟩ => ⟨κ, ρ, env, h, S, ?_⟩
  unfold asB evA at w
  unfold asB
  revert w
  cases fa env h with
  | bad => exact fun w => w
  | ex x h' => exact fun w => w
  | ok d h1 =>
    intro w
    cases d with
    | bl y =>
      intro ρ1 H1 k1 c1
      cases y with
      | true => exact ⟨κ, ρ1, env, h1, S.go k1 c1, WpB.go k1 w⟩
      | false => exact w ρ1 H1 k1 c1
    | _ => exact absurd (show False from w) fun w => w
theorem p_wor (ha : PT X a (RB g E (asB fa))) (hb : PW X (.BoolOp .Or (b :: rest) pos) (RB g E (asB fb))) : PW X (.BoolOp .Or (a :: b :: rest) pos) (RB g E (asB (evO fa fb))) := by
  refine PW.imp (pw_or ha hb) fun σ H Q ⟨κ, ρ, env, h, S, w⟩ => ⟨κ, ρ, env, h, S, ?_⟩
  unfold asB evO at w
  unfold asB
  revert w
  cases fa env h with
  | bad => exact fun w => w
  | ex x h' => exact fun w => w
  | ok d h1 =>
    intro w
    cases d with
    | bl y =>
      intro ρ1 H1 k1 c1
      cases y with
      | true => exact w ρ1 H1 k1 c1
      | false => exact ⟨κ, ρ1, env, h1, S.go k1 c1, WpB.go k1 w⟩
    | _ => exact absurd (show False from w) fun w => w
theorem p_tnot (ha : PT X a (RB g E (asB fa))) : PT X (.UnaryOp .Not a pos) (RB g E (asB (d1 vNot fa))) := by
  refine PT.imp (pt_not ha) fun σ H Q ⟨κ, ρ, env, h, S, w⟩ => ⟨κ, ρ, env, h, S, ?_⟩
  unfold asB d1 at w
  unfold asB
  revert w
  cases fa env h with
  | bad => exact fun w => w
  | ex x h' => exact fun w => w
  | ok d h1 =>
    intro w
    cases d with
    | bl y => exact w
    | _ => exact absurd (show False from w) fun w => w
theorem p_enot (ha : PE X a (RE g E fa)) : PE X (.UnaryOp .Not a pos) (RE g E (d1 vNot fa)) := by
  refine PE.imp (L2.pe_not ha) fun σ H Q ⟨κ, ρ, env, h, S, w⟩ => ⟨κ, ρ, env, h, S, ?_⟩
  unfold d1 at w
  revert w
  cases fa env h with
  | bad => exact fun w => w
  | ex x h' => exact fun w => w
  | ok d h1 =>
    intro w ρ1 x H1 k1 c1 q1
    cases d with
    | bl y => exact ⟨y, q1, w ρ1 _ H1 k1 c1 rfl⟩
    | _ => exact absurd (show False from w) fun w => w
theorem p_ife (hc : PT X c (RB g E (asB fc))) (ha : PE X a (RE g E fa)) (hb : PE X b (RE g E fb)) : PE X (.IfExp c a b pos) (RE g E (evIf fc fa fb)) := by
  refine PE.imp (pe_ifExp hc ha hb) fun σ H Q ⟨κ, ρ, env, h, S, w⟩ => ⟨κ, ρ, env, h, S, ?_⟩
  unfold evIf at w
  unfold asB
  revert w
  cases fc env h with
  | bad => exact fun w => w
  | ex x h' => exact fun w => w
  | ok d h1 =>
    intro w
    cases d with
    | bl y =>
      intro ρ1 H1 k1 c1
      cases y with
      | true => exact ⟨κ, ρ1, env, h1, S.go k1 c1, Wp.go k1 w⟩
      | false => exact ⟨κ, ρ1, env, h1, S.go k1 c1, Wp.go k1 w⟩
    | _ => exact absurd (show False from w) fun w => w
/-! ## a < b < c -/
theorem tChain_of {o1 o2 : Cop} {Q : VK} (w : RE g E (evCh o1 o2 fa fb fc) σ H Q) : tChain (r2 g E (vCmp o1)) (r2 g E (vCmp o2)) (RE g E fa) (RE g E fb) (RE g E fc) σ H Q := by
  obtain ⟨κ, ρ, env, h, S, w⟩ := w
  refine ⟨κ, ρ, env, h, S, ?_⟩
  unfold evCh at w
  revert w
  cases fa env h with
  | bad => exact fun w => w
  | ex x h' => exact fun w => w
  | ok x h1 =>
    intro w ρ1 v1 H1 k1 c1 q1
    refine ⟨κ, ρ1, env, h1, S.go k1 c1, ?_⟩
    have w : Wp g E κ ρ H ((fb env h1).bind fun y h2 => (vCmp o1 x y h2).bind fun z h3 => match z with
      | .bl true => (fc env h3).bind fun u h4 => vCmp o2 y u h4
      | .bl false => .ok (.bl false) h3
      | _ => .bad) Q := w
    have w := Wp.go k1 w
    revert w
    cases fb env h1 with
    | bad => exact fun w => w
    | ex x h' => exact fun w => w
    | ok y h2 =>
      intro w ρ2 v2 H2 k2 c2 q2
      refine ⟨κ, ρ2, h2, x, y, c2, q1.go k2, q2, ?_⟩
      have w : Wp g E κ ρ1 H1 ((vCmp o1 x y h2).bind fun z h3 => match z with
        | .bl true => (fc env h3).bind fun u h4 => vCmp o2 y u h4
        | .bl false => .ok (.bl false) h3
        | _ => .bad) Q := w
      have w := Wp.go k2 w
      revert w
      cases vCmp o1 x y h2 with
      | bad => exact fun w => w
      | ex x h' => exact fun w => w
      | ok z h3 =>
        intro w ρ3 v3 H3 k3 c3 q3
        cases z with
        | bl b =>
          have q3 : v3 = .bl b := q3
          refine ⟨b, q3, ?_⟩
          cases b with
          | false => exact w ρ3 _ H3 k3 c3 rfl
          | true =>
            have S3 := S.go ((k1.trans k2).trans k3) c3
            refine ⟨κ, ρ3, env, h3, S3, ?_⟩
            have w : Wp g E κ ρ2 H2 ((fc env h3).bind fun u h4 => vCmp o2 y u h4) Q := w
            have w := Wp.go k3 w
            revert w
            cases fc env h3 with
            | bad => exact fun w => w
            | ex x h' => exact fun w => w
            | ok u h4 => exact fun w ρ4 v4 H4 k4 c4 q4 => ⟨κ, ρ4, h4, y, u, c4, (q2.go k3).go k4, q4, Wp.go k4 w⟩
        | _ => exact absurd (show False from w) fun w => w
theorem p_chain {op op' : CmpOp} {o1 o2 : Cop} (h1 : OpR X (compareOp op) (r2 g E (vCmp o1))) (h2 : OpR X (compareOp op') (r2 g E (vCmp o2))) (ha : PE X a (RE g E fa)) (hb : PE X b (RE g E fb)) (hc : PE X c (RE g E fc)) (hm : lastMarks [op, op'] [b, c] = false) :
    PE X (.Compare a [op, op'] [b, c] pos) (RE g E (evCh o1 o2 fa fb fc)) := PE.imp (pe_chain h1 h2 ha hb hc hm) fun σ H Q w => tChain_of w
theorem p_tchain {op op' : CmpOp} {o1 o2 : Cop} (h1 : OpR X (compareOp op) (r2 g E (vCmp o1))) (h2 : OpR X (compareOp op') (r2 g E (vCmp o2))) (ha : PE X a (RE g E fa)) (hb : PE X b (RE g E fb)) (hc : PE X c (RE g E fc)) (hm : lastMarks [op, op'] [b, c] = false) :
    PT X (.Compare a [op, op'] [b, c] pos) (RB g E (asB (evCh o1 o2 fa fb fc))) := PT.imp (pt_chain h1 h2 ha hb hc hm) fun σ H Q w => tChain_of (RB_asB w)
/-! ## a < b < c < d -/
def tTl (r r' : R2) (y : V) (tc td : TE) : TE := fun σ H Q => tc σ H fun u H2 => r y u H2 fun z H3 => ∃ k, z = .bl k ∧ (if k = true then td σ H3 fun t H4 => r' u t H4 Q else Q (.bl false) H3)
def tChain3 (r1 r2 r3 : R2) (ta tb tc td : TE) : TE := fun σ H Q => ta σ H fun x H1 => tb σ H1 fun y H2 => r1 x y H2 fun z H3 => ∃ k, z = .bl k ∧ (if k = true then tTl r2 r3 y tc td σ H3 Q else Q (.bl false) H3)
section
variable {e4 : Expr} {ta tb tc td : TE} {op op' op3 : CmpOp} {r r' r3 : R2}
theorem pe_chain3 (ho : OpR X (compareOp op) r) (ho' : OpR X (compareOp op') r') (ho3 : OpR X (compareOp op3) r3) (ha : PE X a ta) (hb : PE X b tb) (hc : PE X c tc) (hd : PE X e4 td)
    (hm : lastMarks [op, op', op3] [b, c, e4] = false) : PE X (.Compare a [op, op', op3] [b, c, e4] pos) (tChain3 r r' r3 ta tb tc td) := by
  refine ⟨fun pins s σ H Q I h => ?_⟩
  refine Compare_chain (thn (ha.run pins s σ H _ I h) fun v s1 ⟨x, H1, I1, r1, q1⟩ => chain_link (thn (hb.run pins s1 σ H1 _ I1 q1) fun u s2 ⟨y, H2, I2, r2, q2⟩ =>
    thn (ho pins s2 σ H2 x y v u _ I2 r1 r2 q2) fun d s3 ⟨z, H3, I3, r3, k, e, q3⟩ => ?_)) hm
  subst e
  cases r3
  refine wpAny_truthy_bool ?_
  cases k with
  | false => exact ite_ff ⟨.bl false, H3, I3, rfl, q3⟩
  | true =>
    refine ite_tt (chain_link (r' := eval e4 X.env) (rs := []) (thn (hc.run pins s3 σ H3 _ I3 q3) fun w' s4 ⟨z', H4, I4, r4, q4⟩ => thn (ho' pins s4 σ H4 y z' u w' _ I4 r2 r4 q4) fun d5 s5 ⟨z5, H5, I5, r5, k5, e5, q5⟩ => ?_))
    subst e5
    cases r5
    refine wpAny_truthy_bool ?_
    cases k5 with
    | false => exact ite_ff ⟨.bl false, H5, I5, rfl, q5⟩
    | true => exact ite_tt (chain_last (thn (hd.run pins s5 σ H5 _ I5 q5) fun w6 s6 ⟨z6, H6, I6, r6, q6⟩ => ho3 pins s6 σ H6 z' z6 w' w6 Q I6 r4 r6 q6))
theorem pt_chain3 (ho : OpR X (compareOp op) r) (ho' : OpR X (compareOp op') r') (ho3 : OpR X (compareOp op3) r3) (ha : PE X a ta) (hb : PE X b tb) (hc : PE X c tc) (hd : PE X e4 td)
    (hm : lastMarks [op, op', op3] [b, c, e4] = false) : PT X (.Compare a [op, op', op3] [b, c, e4] pos) (tTest (tChain3 r r' r3 ta tb tc td)) := by
  refine ⟨fun pins s σ H Q I h => ?_⟩
  refine isTrue_chain (thn (ha.run pins s σ H _ I h) fun v s1 ⟨x, H1, I1, r1, q1⟩ => test_link (thn (hb.run pins s1 σ H1 _ I1 q1) fun u s2 ⟨y, H2, I2, r2, q2⟩ =>
    thn (ho pins s2 σ H2 x y v u _ I2 r1 r2 q2) fun d s3 ⟨z, H3, I3, r3, k, e, q3⟩ => ?_)) hm
  subst e
  cases r3
  refine wpAny_truthy_bool ?_
  cases k with
  | false =>
    obtain ⟨k', e', q'⟩ := q3
    cases e'
    exact ite_ff ⟨H3, I3, q'⟩
  | true =>
    refine ite_tt (test_link (r' := eval e4 X.env) (rs := []) (thn (hc.run pins s3 σ H3 _ I3 q3) fun w' s4 ⟨z', H4, I4, r4, q4⟩ => thn (ho' pins s4 σ H4 y z' u w' _ I4 r2 r4 q4) fun d5 s5 ⟨z5, H5, I5, r5, k5, e5, q5⟩ => ?_))
    subst e5
    cases r5
    refine wpAny_truthy_bool ?_
    cases k5 with
    | false =>
      obtain ⟨k', e', q'⟩ := q5
      cases e'
      exact ite_ff ⟨H5, I5, q'⟩
    | true =>
      refine ite_tt (test_last (thn (hd.run pins s5 σ H5 _ I5 q5) fun w6 s6 ⟨z6, H6, I6, r6, q6⟩ => thn (ho3 pins s6 σ H6 z' z6 w' w6 _ I6 r4 r6 q6) fun d' s7 ⟨z7, H7, I7, r7, k7, e7, q7⟩ => ?_))
      subst e7
      cases r7
      exact wpAny_truthy_bool ⟨H7, I7, q7⟩
end
theorem tTl_of {fc fd : DE} {o2 o3 : Cop} {y : D} {v2 : V} {Q : VK} {env : Ev} {h : Hh} (S : Sit g κ ρ env h σ H) (q : Rep g.K κ ρ H y v2) (w : Wp g E κ ρ H (evTl o2 o3 y fc fd env h) Q) : tTl (r2 g E (vCmp o2)) (r2 g E (vCmp o3)) v2 (RE g E fc) (RE g E fd) σ H Q := by
  refine ⟨κ, ρ, env, h, S, ?_⟩
  unfold evTl at w
  revert w
  cases fc env h with
  | bad => exact fun w => w
  | ex x h' => exact fun w => w
  | ok x h1 =>
    intro w ρ1 v1 H1 k1 c1 q1
    refine ⟨κ, ρ1, h1, y, x, c1, q.go k1, q1, ?_⟩
    have w : Wp g E κ ρ H ((vCmp o2 y x h1).bind fun z h3 => match z with
      | .bl true => (fd env h3).bind fun t h4 => vCmp o3 x t h4
      | .bl false => .ok (.bl false) h3
      | _ => .bad) Q := w
    have w := Wp.go k1 w
    revert w
    cases vCmp o2 y x h1 with
    | bad => exact fun w => w
    | ex x h' => exact fun w => w
    | ok z h3 =>
      intro w ρ3 v3 H3 k3 c3 q3
      cases z with
      | bl b =>
        have q3 : v3 = .bl b := q3
        refine ⟨b, q3, ?_⟩
        cases b with
        | false => exact w ρ3 _ H3 k3 c3 rfl
        | true =>
          have S3 := S.go (k1.trans k3) c3
          refine ⟨κ, ρ3, env, h3, S3, ?_⟩
          have w : Wp g E κ ρ1 H1 ((fd env h3).bind fun t h4 => vCmp o3 x t h4) Q := w
          have w := Wp.go k3 w
          revert w
          cases fd env h3 with
          | bad => exact fun w => w
          | ex x h' => exact fun w => w
          | ok u h4 => exact fun w ρ4 v4 H4 k4 c4 q4 => ⟨κ, ρ4, h4, x, u, c4, (q1.go k3).go k4, q4, Wp.go k4 w⟩
      | _ => exact absurd (show False from w) fun w => w
theorem tChain3_of {fd : DE} {o1 o2 o3 : Cop} {Q : VK} (w : RE g E (evCh3 o1 o2 o3 fa fb fc fd) σ H Q) : tChain3 (r2 g E (vCmp o1)) (r2 g E (vCmp o2)) (r2 g E (vCmp o3)) (RE g E fa) (RE g E fb) (RE g E fc) (RE g E fd) σ H Q := by
  obtain ⟨κ, ρ, env, h, S, w⟩ := w
  refine ⟨κ, ρ, env, h, S, ?_⟩
  unfold evCh3 at w
  revert w
  cases fa env h with
  | bad => exact fun w => w
  | ex x h' => exact fun w => w
  | ok x h1 =>
    intro w ρ1 v1 H1 k1 c1 q1
    refine ⟨κ, ρ1, env, h1, S.go k1 c1, ?_⟩
    have w : Wp g E κ ρ H ((fb env h1).bind fun y h2 => (vCmp o1 x y h2).bind fun z h3 => match z with
      | .bl true => evTl o2 o3 y fc fd env h3
      | .bl false => .ok (.bl false) h3
      | _ => .bad) Q := w
    have w := Wp.go k1 w
    revert w
    cases fb env h1 with
    | bad => exact fun w => w
    | ex x h' => exact fun w => w
    | ok y h2 =>
      intro w ρ2 v2 H2 k2 c2 q2
      refine ⟨κ, ρ2, h2, x, y, c2, q1.go k2, q2, ?_⟩
      have w : Wp g E κ ρ1 H1 ((vCmp o1 x y h2).bind fun z h3 => match z with
        | .bl true => evTl o2 o3 y fc fd env h3
        | .bl false => .ok (.bl false) h3
        | _ => .bad) Q := w
      have w := Wp.go k2 w
      revert w
      cases vCmp o1 x y h2 with
      | bad => exact fun w => w
      | ex x h' => exact fun w => w
      | ok z h3 =>
        intro w ρ3 v3 H3 k3 c3 q3
        cases z with
        | bl b =>
          have q3 : v3 = .bl b := q3
          refine ⟨b, q3, ?_⟩
          cases b with
          | false => exact w ρ3 _ H3 k3 c3 rfl
          | true =>
            have S3 := S.go ((k1.trans k2).trans k3) c3
            have w : Wp g E κ ρ2 H2 (evTl o2 o3 y fc fd env h3) Q := w
            exact tTl_of S3 (q2.go k3) (Wp.go k3 w)
        | _ => exact absurd (show False from w) fun w => w
theorem p_chain3 {d : Expr} {fd : DE} {op op' op3 : CmpOp} {o1 o2 o3 : Cop} (h1 : OpR X (compareOp op) (r2 g E (vCmp o1))) (h2 : OpR X (compareOp op') (r2 g E (vCmp o2))) (h3 : OpR X (compareOp op3) (r2 g E (vCmp o3))) (ha : PE X a (RE g E fa)) (hb : PE X b (RE g E fb)) (hc : PE X c (RE g E fc)) (hd : PE X d (RE g E fd)) (hm : lastMarks [op, op', op3] [b, c, d] = false) :
    PE X (.Compare a [op, op', op3] [b, c, d] pos) (RE g E (evCh3 o1 o2 o3 fa fb fc fd)) := PE.imp (pe_chain3 h1 h2 h3 ha hb hc hd hm) fun σ H Q w => tChain3_of w
theorem p_tchain3 {d : Expr} {fd : DE} {op op' op3 : CmpOp} {o1 o2 o3 : Cop} (h1 : OpR X (compareOp op) (r2 g E (vCmp o1))) (h2 : OpR X (compareOp op') (r2 g E (vCmp o2))) (h3 : OpR X (compareOp op3) (r2 g E (vCmp o3))) (ha : PE X a (RE g E fa)) (hb : PE X b (RE g E fb)) (hc : PE X c (RE g E fc)) (hd : PE X d (RE g E fd)) (hm : lastMarks [op, op', op3] [b, c, d] = false) :
    PT X (.Compare a [op, op', op3] [b, c, d] pos) (RB g E (asB (evCh3 o1 o2 o3 fa fb fc fd))) := PT.imp (pt_chain3 h1 h2 h3 ha hb hc hd hm) fun σ H Q w => tChain3_of (RB_asB w)
/-! ## displays -/
theorem p_etup {k : Nat} (ha : PA X es (RA g E fA)) : PE X (.Tuple es k pos) (RE g E (dN (fun ds h => if ds.length ≤ big then .ok (.tup ds) h else .bad) fA)) := PE.imp (pe_tupF ha) fun σ H Q w => by
  obtain ⟨κ, ρ, env, h, S, w⟩ := RA_of w
  refine ⟨κ, ρ, env, h, S, ?_⟩
  revert w
  cases fA env h with
  | bad => exact fun w => w
  | ex x h' => exact fun w => w
  | ok ds h1 =>
    intro w ρ1 vs H1 k1 c1 r1
    obtain ⟨κ2, ρ2, h2, ds2, c2, r2, w⟩ := w ρ1 vs H1 k1 c1 r1
    split at w
    · rename_i hl
      exact ⟨by rw [r2.len]; exact Nat.le_trans hl big_line, wp_tup c2 r2 w⟩
    · exact absurd w fun w => w
theorem p_elst {m : Bool} (ha : PA X es (RA g E fA)) : PE X (.List es pos) (RE g E (dN (fun ds h => if ds.length ≤ big then mk m ds h else .bad) fA)) := PE.imp (pe_lst ha) fun σ H Q w => by
  obtain ⟨κ, ρ, env, h, S, w⟩ := RA_of w
  refine ⟨κ, ρ, env, h, S, ?_⟩
  revert w
  cases fA env h with
  | bad => exact fun w => w
  | ex x h' => exact fun w => w
  | ok ds h1 =>
    intro w ρ1 vs H1 k1 c1 r1
    obtain ⟨κ2, ρ2, h2, ds2, c2, r2, w⟩ := w ρ1 vs H1 k1 c1 r1
    split at w
    · rename_i hl
      exact ⟨by rw [r2.len]; exact Nat.le_trans hl big_line, wp_mk c2 r2 w⟩
    · exact absurd w fun w => w
def vDnewK (h : Hh) : Oc D := .ok (.md h.length) (h ++ [.dK []])
theorem p_dnewK : PE X (.Dict [] [] pos) (RE g E fun _ h => .ok (.md h.length) (h ++ [.dK []])) := PE.imp pe_dnewK fun σ H Q ⟨κ, ρ, env, h, S, w⟩ q hq => by
  have gb := Go.born S.cs hq (.dK [])
  refine w (ρ ++ [q]) (.ref q) _ gb (S.cs.born hq ⟨[], upd_same, .nil⟩ rfl) ⟨q, rfl, ?_⟩
  rw [← S.cs.len, List.getElem?_append_right (Nat.le_refl _)]
  simp
def tDext (g : G) : TE := fun _ H Q => ∀ p, H p = none → (p == sysModules) = false → Q (.ref p) (upd H p (.ext (DTO g p [])))
theorem dto_new {h : Heap} : DTO g h.objs.size [] (h.push { cls := .type "dict", data := .dict #[] }) :=
  ⟨[], .nil, _, #[], 0, Heap.get?_push_size _ rfl, ⟨rfl, rfl, rfl⟩, rfl, rfl, List.nodup_nil⟩
theorem pe_dext : PE X (.Dict [] [] pos) (tDext g) := ⟨fun pins s σ H Q I hq => by
  have nb : (s.heap.objs.size == sysModules) = false := beq_eq_false_iff_ne.mpr (Ne.symm (Nat.ne_of_lt I.big))
  refine wpAny_Dict_empty ⟨.ref s.heap.objs.size, _, I.laid (a := s.heap.objs.size) (o := .ext (DTO g s.heap.objs.size [])) (t' := s.toks) (fun _ _ q => Heap.get?_push_of_some _ q) (Nat.le_refl _) ⟨dto_new, ⟨_, Heap.get?_push_size _ rfl⟩, ?_⟩, rfl, hq _ (I.hok.fresh (Nat.le_refl _)) nb⟩
  rintro g1 g2 ⟨ys, r1, o1, es1, ep1, z1, z2⟩ st
  exact ⟨ys, r1, o1, es1, ep1, st _ z1, z2⟩⟩
theorem p_dnewT : PE X (.Dict [] [] pos) (RE g E fun _ h => .ok (.md h.length) (h ++ [.dT []])) := PE.imp (pe_dext (g := g)) fun σ H Q ⟨κ, ρ, env, h, S, w⟩ q hq nb => by
  have gb := Go.born S.cs hq (.ext (DTO g q []))
  refine w (ρ ++ [q]) (.ref q) _ gb (S.cs.born hq ⟨[], upd_same, nb, Nat.zero_le _, .nil⟩ rfl) ⟨q, rfl, ?_⟩
  rw [← S.cs.len, List.getElem?_append_right (Nat.le_refl _)]
  simp
/-! ## list(range(..)), tuple(range(..)) -/
theorem rgOk_of {i j : Int} (e : rgOk i j = true) : RgOk i j := by
  have := of_decide_eq_true e
  exact ⟨this.1, this.2.1, this.2.2.1, this.2.2.2.1, by omega⟩
theorem reps_rg {K : PySem.W.Frag} (i j : Int) : Reps K κ ρ H (rgI i j) (rgV i j) := by
  unfold rgI rgV
  generalize List.range (j - i).toNat = l
  induction l with
  | nil => rfl
  | cons n l ih => exact ⟨_, _, rfl, rfl, ih⟩
theorem RE_int {op : Int → Hh → Oc D} {f : DE} {Q : VK} (w : RE g E (fun env h => (f env h).bind fun d h => match d with
    | .int j => op j h
    | _ => .bad) σ H Q) : RE g E f σ H fun x H1 => ∃ n, x = .int n ∧ ∃ κ ρ h, CS g κ ρ h H1 ∧ Wp g E κ ρ H1 (op n h) Q := by
  obtain ⟨κ, ρ, env, h, S, w⟩ := w
  refine ⟨κ, ρ, env, h, S, ?_⟩
  revert w
  dsimp only
  cases f env h with
  | bad => exact fun w => w
  | ex x h' => exact fun w => w
  | ok d h1 =>
    intro w ρ1 x H1 k1 c1 q1
    cases d with
    | int n => exact ⟨n, q1, κ, ρ1, h1, c1, Wp.go k1 w⟩
    | _ => exact absurd (show False from w) fun w => w
theorem lrg_end {m : Bool} {i j : Int} {Q : VK} (c : CS g κ ρ h H) (w : Wp g E κ ρ H (vLrg2 m (.int i) (.int j) h) Q) : RgOk i j ∧ ∀ q, H q = none → Q (.ref q) (upd H q (.lst (rgV i j))) := by
  have w : Wp g E κ ρ H (if rgOk i j then mk m (rgI i j) h else .bad) Q := w
  split at w
  · rename_i e
    exact ⟨rgOk_of e, wp_mk c (reps_rg i j) w⟩
  · exact absurd w fun w => w
theorem p_lrg {m : Bool} {p2 pos2 : Pos} (hc : X.calm = true) (hg : Gl X "list") (hm : X.mg "list" = none) (hg2 : Gl X "range") (hm2 : X.mg "range" = none) (ha : PE X a (RE g E fa)) (na : starEach [a] X.env = (false, eval a X.env) :: starEach [] X.env)
    (nb : starEach [.Call (.Name "range" p2) [a] [] pos2] X.env = (false, eval (.Call (.Name "range" p2) [a] [] pos2) X.env) :: starEach [] X.env) : PE X (.Call (.Name "list" p) [.Call (.Name "range" p2) [a] [] pos2] [] pos) (RE g E (d1 (vLrg m) fa)) := by
  refine PE.imp (pe_listRg hc hg hm (prg_1 hg2 hm2 ha na) nb) fun σ H Q w => ?_
  obtain ⟨κ, ρ, env, h, S, w⟩ := w
  refine ⟨κ, ρ, env, h, S, ?_⟩
  unfold d1 at w
  revert w
  cases fa env h with
  | bad => exact fun w => w
  | ex x h' => exact fun w => w
  | ok d h1 =>
    intro w ρ1 x H1 k1 c1 q1
    cases d with
    | int n => exact ⟨n, q1, lrg_end c1 (Wp.go k1 w)⟩
    | _ => exact absurd (show False from w) fun w => w
theorem p_lrg2 {m : Bool} {p2 pos2 : Pos} (hc : X.calm = true) (hg : Gl X "list") (hm : X.mg "list" = none) (hg2 : Gl X "range") (hm2 : X.mg "range" = none) (ha : PE X a (RE g E fa)) (hb : PE X b (RE g E fb)) (na : starEach [a, b] X.env = (false, eval a X.env) :: starEach [b] X.env) (na2 : starEach [b] X.env = (false, eval b X.env) :: starEach [] X.env)
    (hp : (backTo pos2 (starEach [b] X.env)).any (·.1) = false)
    (nb : starEach [.Call (.Name "range" p2) [a, b] [] pos2] X.env = (false, eval (.Call (.Name "range" p2) [a, b] [] pos2) X.env) :: starEach [] X.env) : PE X (.Call (.Name "list" p) [.Call (.Name "range" p2) [a, b] [] pos2] [] pos) (RE g E (d2 (vLrg2 m) fa fb)) := by
  refine PE.imp (pe_listRg hc hg hm (prg_2 hg2 hm2 ha hb na na2 hp) nb) fun σ H Q w => ?_
  obtain ⟨κ, ρ, env, h, S, w⟩ := tOp_of w
  refine ⟨κ, ρ, env, h, S, ?_⟩
  revert w
  cases fa env h with
  | bad => exact fun w => w
  | ex x h' => exact fun w => w
  | ok d h1 =>
    intro w ρ1 x H1 k1 c1 q1
    obtain ⟨κ2, ρ2, env2, h2, S2, w⟩ := w ρ1 x H1 k1 c1 q1
    refine ⟨κ2, ρ2, env2, h2, S2, ?_⟩
    revert w
    cases fb env2 h2 with
    | bad => exact fun w => w
    | ex x h' => exact fun w => w
    | ok e h3 =>
      intro w ρ3 y H3 k3 c3 q3
      obtain ⟨κ4, ρ4, h4, d', e', c4, r1, r2, w⟩ := w ρ3 y H3 k3 c3 q3
      cases d' with
      | int i =>
        cases e' with
        | int j => exact ⟨i, j, r1, r2, lrg_end c4 w⟩
        | _ => exact absurd (show False from w) fun w => w
      | _ => exact absurd (show False from w) fun w => w
/-! ## isinstance -/
def tIsi (ts : List Ty) (f : DE) : DE := d1 (vIsi ts) f
theorem p_isi1 {t : Ty} {x : Str} {p2 : Pos} (ok : Okx g X) (hg : Gl X "isinstance") (hm : X.mg "isinstance" = none) (ha : PE X a (RE g E fa)) (hx : PE X (.Name x p2) (tC (.ty (tyName t))))
    (na : starEach [a, .Name x p2] X.env = (false, eval a X.env) :: starEach [.Name x p2] X.env) (nb : starEach [.Name x p2] X.env = (false, eval (.Name x p2) X.env) :: starEach [] X.env) (hpl : (backTo pos (starEach [.Name x p2] X.env)).any (·.1) = false) :
    PE X (.Call (.Name "isinstance" p) [a, .Name x p2] [] pos) (RE g E (d1 (vIsi [t]) fa)) := by
  refine PE.imp (pe_callB call_isi hg hm (by decide +kernel) (pa_cons ha (pa_cons hx pa_nil nb) na) (by decide) (by decide) na hpl) fun σ H Q w => ?_
  obtain ⟨κ, ρ, env, h, S, w⟩ := tUn_of w
  refine ⟨κ, ρ, env, h, S, ?_⟩
  revert w
  cases fa env h with
  | bad => exact fun w => w
  | ex x h' => exact fun w => w
  | ok d h1 =>
    intro w ρ1 x H1 k1 c1 q1
    obtain ⟨κ2, ρ2, h2, d2, c2, r2, w⟩ := w ρ1 x H1 k1 c1 q1
    unfold vIsi at w
    split at w
    · rename_i hm
      split at w
      · rename_i b hb
        obtain ⟨u, ty, kk⟩ := isi_ty (K := X.K) c2 (by exact r2) hm hb (by simp)
        refine ⟨x, .ty (tyName t), u, _, b, rfl, .ty _, ty, ?_, wp_bl c2 w⟩
        have : PySem.W.kitAny X.K u [.type (tyName t)] = some b := kk
        unfold PySem.W.kitAny at this
        cases z : PySem.W.kitOne X.K u (.type (tyName t)) with
        | none => rw [z] at this; cases this
        | some r =>
          rw [z] at this
          cases r with
          | true => exact this
          | false => unfold PySem.W.kitAny at this; exact this
      · exact absurd (show False from w) fun w => w
    · exact absurd (show False from w) fun w => w
end
end Q
end
section
namespace Q
open PySem PySem.Spec PyProof.Rows L2
section
variable {X : Cx} {g : G} {E : XK} {κ ρ : List Addr} {H : Hp} {σ : L2.St} {h : Hh} {a b c e : Expr} {fa fb fc : DE} {fA : DA} {pos p : Pos}
/-! ## tuple(range(..)) -/
abbrev TR3 := L2.St → Hp → (Int → Int → Int → Hp → Prop) → Prop
def PRgc (X : Cx) (e : Expr) (t : TR3) : Prop :=
  ∀ (pins : List (Addr × Obj)) (s : Shared) (σ : L2.St) (H : Hp) (Q : Int → Int → Int → Hp → Prop), Inv X pins σ H s → t σ H Q →
    wpAny (model X.prog X.w) X.A (eval e X.env) (fun x s' => ∃ r a b c t u v H', x = .ref r ∧ IsRange s'.heap r a b c t u v ∧ Inv X pins σ H' s' ∧ Q a b c H') X.xe s
theorem prgc_of {t : L2.St → Hp → (Int → Int → Hp → Prop) → Prop} (k : PRg X e t) : PRgc X e fun σ H Q => t σ H fun a b H1 => Q a b 1 H1 := fun pins s σ H Q I q =>
  thn (k pins s σ H _ I q) fun x s1 ⟨r, a, b, t, u, v, H1, z⟩ => ⟨r, a, b, 1, t, u, v, H1, z⟩
def tRgc (ta : TA) : TR3 := fun σ H Q => ta σ H fun vs H1 => ∃ i j k, vs = [.int i, .int j, .int k] ∧ k ≠ 0 ∧ k.natAbs < 1073741824 ∧ Q i j k H1
theorem prg_3c {ta : TA} (hg : Gl X "range") (hm : X.mg "range" = none) (ha : PA X [a, b, c] ta) (hs : starEach [a, b, c] X.env = (false, eval a X.env) :: starEach [b, c] X.env) (hpl : (backTo pos (starEach [b, c] X.env)).any (·.1) = false) :
    PRgc X (.Call (.Name "range" p) [a, b, c] [] pos) (tRgc ta) := fun pins s σ H Q I q => by
  refine Call_ (ld_blt I hg hm boot_range (PyProof.Rows.callWith_type1 (thn (ha.run pos pins s σ H _ I q) fun us s1 ⟨vs, H1, I1, r1, i, j, k, ev, k0, k1, q1⟩ => ?_) hs hpl))
  subst ev
  cases r1 with
  | cons r1 t1 => cases t1 with
    | cons r2 t2 => cases t2 with
      | cons r3 t3 =>
        cases t3
        obtain ⟨t1, rfl⟩ := r1
        obtain ⟨t2, rfl⟩ := r2
        obtain ⟨t3, rfl⟩ := r3
        refine call_range_3 k0 ?_ (.inl (PyProof.noPylong_small k1))
        have I2 : Inv X pins σ H1 { s1 with heap := s1.heap.push { cls := .type "range", data := .fields #[.int i t1, .int j t2, .int k t3] } } := I1.kept (t' := s1.toks) fun b o e => Heap.get?_push_of_some _ e
        exact ⟨_, i, j, k, _, _, _, H1, rfl, IsRange.new _ _ _ _ _ _ _, I2, q1⟩
def rgVc (a c : Int) (n : Nat) : List V := (List.range n).map fun i => V.int (a + (i : Nat) * c)
theorem vals_rgc {a c : Int} {n : Nat} {acc : Array Value} (k : ItemsOf (fun i v => ∃ t, v = .int (a + i * c) t) acc n) : Vals (rgVc a c n) acc.toList := by
  have hl : acc.toList.length = n := by rw [Array.length_toList]; exact k.1
  have hv := vals_of_get acc.toList (fun i => V.int (a + (i : Nat) * c)) fun j u hj => by
    obtain ⟨t, rfl⟩ := k.2 j u (by rw [← hj, Array.getElem?_toList])
    exact ⟨t, rfl⟩
  rw [hl] at hv
  exact hv
def RgcOk (i j c : Int) (n : Nat) : Prop := PySem.Builtin.Range.small i j c = true ∧ PySem.Builtin.Range.rangeSize i j c = n ∧ n ≤ 2 ^ 24
def tTupRgF (te : TR3) : TE := fun σ H Q => te σ H fun i j c H1 => ∃ n, RgcOk i j c n ∧ NewT H1 Q (rgVc i c n)
theorem pe_tupRgF {te : TR3} (hc : X.calm = true) (hg : Gl X "tuple") (hm : X.mg "tuple" = none) (he : PRgc X e te) (na : starEach [e] X.env = (false, eval e X.env) :: starEach [] X.env) : PE X (.Call (.Name "tuple" p) [e] [] pos) (tTupRgF te) := ⟨fun pins s σ H Q I q => by
  refine Call_ (ld_blt I hg hm boot_tuple (PyProof.Rows.callWith_type1 (args_cons (thn (he pins s σ H _ I q) fun x s1 ⟨r, i, j, k, t, u, v, H1, ex, hr, I1, n, ⟨o1, o2, o3⟩, q⟩ => args_nil ?_) na) na))
  subst ex
  refine call_tuple_range (n := n) (I1.ok.hd hc) hr o1 o2 o3 fun hp tk acc hk its => ?_
  have I2 : Inv X pins σ H1 { s1 with heap := hp, toks := tk } := I1.kept hk
  have hz : (rgVc i k n).length ≤ sizeLine := by
    unfold rgVc
    rw [List.length_map, List.length_range, sizeLine_eq]; omega
  have z := ep_tup (Q := Q) I2 (vals_rgc its) hz q
  simpa using z⟩
theorem reps_rgc {K : PySem.W.Frag} (i c : Int) (n : Nat) : Reps K κ ρ H (rgS i c n) (rgVc i c n) := by
  unfold rgS rgVc
  generalize List.range n = l
  induction l with
  | nil => rfl
  | cons x l ih => exact ⟨_, _, rfl, rfl, ih⟩
theorem rgI_S (i j : Int) : rgI i j = rgS i 1 (j - i).toNat := by
  unfold rgI rgS
  simp only [Int.mul_one]
theorem trg_end {i j : Int} {Q : VK} (c : CS g κ ρ h H) (w : Wp g E κ ρ H (vTrg2 (.int i) (.int j) h) Q) : ∃ n, RgcOk i j 1 n ∧ NewT H Q (rgVc i 1 n) := by
  have w : Wp g E κ ρ H (if rgOk i j then .ok (.tup (rgI i j)) h else .bad) Q := w
  split at w
  · rename_i e
    obtain ⟨b1, b2, b3, b4, b5⟩ := rgOk_of e
    rw [rgI_S] at w
    exact ⟨_, ⟨small_one b1 b2 b3 b4, rangeSize_nat i j, by omega⟩, wp_tup c (reps_rgc i 1 _) w⟩
  · exact absurd w fun w => w
theorem p_trg {p2 pos2 : Pos} (hc : X.calm = true) (hg : Gl X "tuple") (hm : X.mg "tuple" = none) (hg2 : Gl X "range") (hm2 : X.mg "range" = none) (ha : PE X a (RE g E fa)) (na : starEach [a] X.env = (false, eval a X.env) :: starEach [] X.env)
    (nb : starEach [.Call (.Name "range" p2) [a] [] pos2] X.env = (false, eval (.Call (.Name "range" p2) [a] [] pos2) X.env) :: starEach [] X.env) : PE X (.Call (.Name "tuple" p) [.Call (.Name "range" p2) [a] [] pos2] [] pos) (RE g E (d1 vTrg fa)) := by
  refine PE.imp (pe_tupRgF hc hg hm (prgc_of (prg_1 hg2 hm2 ha na)) nb) fun σ H Q ⟨κ, ρ, env, h, S, w⟩ => ⟨κ, ρ, env, h, S, ?_⟩
  unfold d1 at w
  revert w
  cases fa env h with
  | bad => exact fun w => w
  | ex x h' => exact fun w => w
  | ok d h1 =>
    intro w ρ1 x H1 k1 c1 q1
    cases d with
    | int n => exact ⟨n, q1, trg_end c1 (Wp.go k1 w)⟩
    | _ => exact absurd (show False from w) fun w => w
theorem p_trg2 {p2 pos2 : Pos} (hc : X.calm = true) (hg : Gl X "tuple") (hm : X.mg "tuple" = none) (hg2 : Gl X "range") (hm2 : X.mg "range" = none) (ha : PE X a (RE g E fa)) (hb : PE X b (RE g E fb)) (na : starEach [a, b] X.env = (false, eval a X.env) :: starEach [b] X.env) (na2 : starEach [b] X.env = (false, eval b X.env) :: starEach [] X.env)
    (hp : (backTo pos2 (starEach [b] X.env)).any (·.1) = false) (nb : starEach [.Call (.Name "range" p2) [a, b] [] pos2] X.env = (false, eval (.Call (.Name "range" p2) [a, b] [] pos2) X.env) :: starEach [] X.env) :
    PE X (.Call (.Name "tuple" p) [.Call (.Name "range" p2) [a, b] [] pos2] [] pos) (RE g E (d2 vTrg2 fa fb)) := by
  refine PE.imp (pe_tupRgF hc hg hm (prgc_of (prg_2 hg2 hm2 ha hb na na2 hp)) nb) fun σ H Q ⟨κ, ρ, env, h, S, w⟩ => ⟨κ, ρ, env, h, S, ?_⟩
  unfold d2 at w
  revert w
  cases fa env h with
  | bad => exact fun w => w
  | ex x h' => exact fun w => w
  | ok d h1 =>
    intro w ρ1 x H1 k1 c1 q1
    refine ⟨κ, ρ1, env, h1, S.go k1 c1, ?_⟩
    revert w
    dsimp only [Oc.bind]
    cases fb env h1 with
    | bad => exact fun w => w
    | ex x h' => exact fun w ρ' H' c dO k => w ρ' H' c dO (k1.trans k)
    | ok d' h2 =>
      intro w ρ2 y H2 k2 c2 q2
      cases d with
      | int i => cases d' with
        | int j => exact ⟨i, j, q1.go k2, q2, trg_end c2 (Wp.go (k1.trans k2) w)⟩
        | _ => exact absurd (show False from w) fun w => w
      | _ => exact absurd (show False from w) fun w => w
theorem p_trg3 {p2 pos2 : Pos} (hc : X.calm = true) (hg : Gl X "tuple") (hm : X.mg "tuple" = none) (hg2 : Gl X "range") (hm2 : X.mg "range" = none) (ha : PA X [a, b, c] (RA g E fA)) (hs : starEach [a, b, c] X.env = (false, eval a X.env) :: starEach [b, c] X.env) (hpl : (backTo pos2 (starEach [b, c] X.env)).any (·.1) = false)
    (nb : starEach [.Call (.Name "range" p2) [a, b, c] [] pos2] X.env = (false, eval (.Call (.Name "range" p2) [a, b, c] [] pos2) X.env) :: starEach [] X.env) :
    PE X (.Call (.Name "tuple" p) [.Call (.Name "range" p2) [a, b, c] [] pos2] [] pos) (RE g E (dN vTrg3 fA)) := by
  refine PE.imp (pe_tupRgF hc hg hm (prg_3c hg2 hm2 ha hs hpl) nb) fun σ H Q ⟨κ, ρ, env, h, S, w⟩ => ⟨κ, ρ, env, h, S, ?_⟩
  unfold dN at w
  revert w
  cases fA env h with
  | bad => exact fun w => w
  | ex x h' => exact fun w => w
  | ok ds h1 =>
    intro w0 ρ1 vs H1 k1 c1 q1
    have w : Wp g E κ ρ1 H1 (vTrg3 ds h1) Q := Wp.go k1 w0
    clear w0
    unfold vTrg3 at w
    split at w
    · rename_i i j k
      obtain ⟨_, _, e1, r1, _, _, e2, r2, _, _, e3, r3, e4⟩ := q1
      split at w
      · rename_i hc
        obtain ⟨c0, c1', c2, c3, c4⟩ := hc
        refine ⟨i, j, k, ?_, c0, c1', _, ⟨c2, (Int.toNat_of_nonneg c4).symm, by omega⟩, wp_tup c1 (reps_rgc i k _) w⟩
        rw [e1, e2, e3, e4, show _ = V.int i from r1, show _ = V.int j from r2, show _ = V.int k from r3]
      · exact absurd w fun w => w
    · exact absurd w fun w => w
end
end Q
end
section
namespace Q
open PySem PySem.Spec PyProof.Rows L2
section
variable {X : Cx} {g : G} {E : XK} {κ ρ : List Addr} {H : Hp} {σ : L2.St} {h : Hh} {ek ev : Expr} {fk fv : DE} {pos p : Pos}
/-! ## {k: v} with a tuple as key -/
def tDsp1 (g : G) (tk tv : TE) : TE := fun σ H Q => ∀ d, H d = none → (d == sysModules) = false → tk σ (upd H d (.ext (DTO g d []))) fun x H1 => tv σ H1 fun y H2 => H2 d = some (.ext (DTO g d [])) ∧ ∃ b k, x = .ref b ∧ KeyAt g H2 b k ∧ Q (.ref d) (upd H2 d (.ext (DTO g d [(k, b, y)])))
theorem pe_dsp1 {tk tv : TE} (ok : Okx g X) (hk : PE X ek tk) (hv : PE X ev tv) : PE X (.Dict [some ek] [ev] pos) (tDsp1 g tk tv) := ⟨fun pins s σ H Q I q => by
  have hu := ok.u
  have nb : (s.heap.objs.size == sysModules) = false := beq_eq_false_iff_ne.mpr (Ne.symm (Nat.ne_of_lt I.big))
  have hn := I.hok.fresh (Nat.le_refl s.heap.objs.size)
  have I1 := I.laid (a := s.heap.objs.size) (o := .ext (DTO g s.heap.objs.size [])) (h' := s.heap.push { cls := .type "dict", data := .dict #[] }) (t' := s.toks) (fun _ _ z => Heap.get?_push_of_some _ z) (Nat.le_refl _)
    ⟨dto_new, ⟨_, Heap.get?_push_size _ rfl⟩, fun g1 g2 ⟨ys, r1, o1, es1, ep1, z1, z2⟩ st => ⟨ys, r1, o1, es1, ep1, st _ z1, z2⟩⟩
  have q := q _ hn nb
  rw [arm_eval_Dict, show (evalEachOpt [some ek] X.env).zip ((evalEach [ev] X.env).map fun v => do let x ← v; standAt pos; pure x) = ([(eval ek X.env, do let x ← eval ev X.env; standAt pos; pure x)] : List (Sem Value × Sem Value)).map fun p => (some p.1, p.2) from rfl,
    dictDisplay_pairs _ (by simp) (by simp)]
  refine wpAny_bind (wpAny_standAt (wpAny_bind (wpAny_subDictH (knd := nestedKind X.prog X.w) (Q := fun d s' => wpAny (model X.prog X.w) X.A (pure (Value.ref d)) (EP X pins σ Q) X.xe s') (room8 (by omega)) (by simp) ?_)))
  refine evalPairs_cons (thn (hk.run pins _ σ _ _ I1 q) fun u s1 ⟨x, H1, I2, r1, q1⟩ => wpAny_bind (thn (hv.run pins s1 σ H1 _ I2 q1) fun u2 s2 ⟨y, H2, I3, r2, e, b, k, ex, ka, q2⟩ => wpAny_bind (wpAny_standAt (wpAny_pure (evalPairs_nil ?_)))))
  subst ex
  cases r1
  obtain ⟨xs, rel, dd⟩ := dto_at I3 ok.K ok.P ok.w (.inl e) (fun p hp => by cases hp)
  cases rel
  refine ⟨[(k, b, u2)], ⟨rfl, rfl, key_is I3 ok.K ka, trivial⟩, dd, fun h' tk dd' hs => wpAny_pure ?_⟩
  obtain ⟨qo, es, ep, h1, h2, h3, h4, _, h5⟩ := dd'
  refine ⟨.ref s.heap.objs.size, upd H2 s.heap.objs.size (.ext (DTO g s.heap.objs.size [(k, b, y)])), d_write I3 (by rw [e]; exact True.intro) hs ⟨qo, h1⟩ ⟨⟨_, .cons ⟨rfl, rfl, r2⟩ .nil, qo, es, ep, h1, h2, h3, by rw [← ok.P, ← ok.w]; exact h4, h5⟩, ⟨qo, h1⟩, ?_⟩, rfl, q2⟩
  rintro g1 g2 ⟨ys, r1, o1, es1, ep1, z1, z2⟩ st
  exact ⟨ys, r1, o1, es1, ep1, st _ z1, z2⟩⟩
theorem p_dsp1 (ok : Okx g X) (hk : PE X ek (RE g E fk)) (hv : PE X ev (RE g E fv)) : PE X (.Dict [some ek] [ev] pos) (RE g E (evDsp fk fv)) := PE.imp (pe_dsp1 ok hk hv) fun σ H Q ⟨κ, ρ, env, h, S, w⟩ d hd nb => by
  have gb := Go.born S.cs hd (.ext (DTO g d []))
  have cb := S.cs.born hd (u := .dT []) ⟨[], upd_same, nb, Nat.zero_le _, .nil⟩ rfl
  have ed : (ρ ++ [d])[h.length]? = some d := by rw [← S.cs.len, List.getElem?_append_right (Nat.le_refl _)]; simp
  refine ⟨κ, ρ ++ [d], env, h ++ [.dT []], ⟨cb, S.en.go gb⟩, ?_⟩
  unfold evDsp at w
  revert w
  cases fk env (h ++ [.dT []]) with
  | bad => exact fun w => w
  | ex x h' => exact fun w ρ' H' c dO k => w ρ' H' c dO (gb.trans k)
  | ok kd h1 =>
    intro w ρ1 x H1 k1 c1 q1
    refine ⟨κ, ρ1, env, h1, ⟨c1, (S.en.go gb).go k1⟩, ?_⟩
    revert w
    dsimp only [Oc.bind]
    cases fv env h1 with
    | bad => exact fun w => w
    | ex x h' => exact fun w ρ' H' c dO k => w ρ' H' c dO ((gb.trans k1).trans k)
    | ok vd h2 =>
      intro w ρ2 y H2 k2 c2 q2
      have w0 := w
      clear w
      dsimp only at w0
      split at w0
      · rename_i ks e1 e2
        split at w0
        · rename_i hc
          obtain ⟨hc1, hc2⟩ := hc
          obtain ⟨kk, hkk⟩ := hk_some hc1
          have ed2 := k2.at_ (k1.at_ ed)
          obtain ⟨vs, z1, z2, z3, z4⟩ := c2.cell _ _ _ ed2 e1
          cases z4
          have kd_eq : kd = .tup ks := by
            cases kd with
            | tup ds => cases e2; rfl
            | _ => cases e2
          subst kd_eq
          have kr := q1.go k2
          obtain ⟨b, us, ex, f, rr⟩ := kr
          subst ex
          have kr : Rep g.K κ ρ2 H2 (.tup ks) (.ref b) := ⟨b, us, rfl, f, rr⟩
          refine ⟨z1, b, kk, rfl, ⟨κ, ρ2, _, kr, hkk⟩, ?_⟩
          have gw : Go ρ2 H2 ρ2 (upd H2 d (.ext (DTO g d [(kk, b, y)]))) := Go.write (List.mem_of_getElem? ed2) (fun _ _ z => by rw [z1] at z; cases z) _
          refine w0 ρ2 (.ref d) _ (((gb.trans k1).trans k2).trans gw) (c2.write ed2 ⟨_, upd_same, z2, by simp [sizeLine_eq], .cons ⟨hkk, kr.go gw, q2.go gw⟩ .nil⟩ ?_) ⟨d, rfl, ed2⟩
          show lows h.length [vd] = true
          simp [lows, hc2]
        · exact absurd (show False from w0) fun w => w
      · exact absurd (show False from w0) fun w => w
end
end Q
end
section
namespace Q
open PySem PySem.Spec L2 PySem.W PyProof.Rows
/-! ## sets of tuples -/
theorem mem_insT {k x : List Int} {l : List (List Int)} : x ∈ insT k l ↔ x = k ∨ x ∈ l := by
  unfold insT
  split
  · rename_i z
    have z := List.elem_iff.mp z
    constructor
    · exact .inr
    · rintro (h | h)
      · rw [h]; exact z
      · exact h
  · exact List.mem_cons
theorem mem_tset {x : List Int} : ∀ {ks : List (List Int)}, x ∈ tset ks ↔ x ∈ ks
  | [] => by simp [tset]
  | k :: ks => by
    show x ∈ insT k (tset ks) ↔ _
    rw [mem_insT, mem_tset (ks := ks), List.mem_cons]
theorem tset_nd : ∀ ks : List (List Int), (tset ks).Nodup
  | [] => List.nodup_nil
  | k :: ks => by
    show (insT k (tset ks)).Nodup
    unfold insT
    split
    · exact tset_nd ks
    · rename_i z
      exact List.nodup_cons.mpr ⟨fun m => z (List.elem_iff.mpr m), tset_nd ks⟩
theorem nd_len {α : Type} [DecidableEq α] : ∀ {l m : List α}, l.Nodup → (∀ x ∈ l, x ∈ m) → l.length ≤ m.length
  | [], m, _, _ => Nat.zero_le _
  | x :: l, m, nd, s => by
    obtain ⟨h1, h2⟩ := List.nodup_cons.mp nd
    have hx : x ∈ m := s x (List.mem_cons_self ..)
    have := nd_len (l := l) (m := m.erase x) h2 fun y hy => (List.mem_erase_of_ne fun e => h1 (by rw [← e]; exact hy)).mpr (s y (List.mem_cons_of_mem _ hy))
    rw [List.length_erase_of_mem hx] at this
    have := List.length_pos_of_mem hx
    rw [List.length_cons]; omega
theorem few_of {ps : List (Addr × List Int)} (h : (tset (ps.map (·.2))).length ≤ 60) : FewT ps := fun L sub nd => by
  have := nd_len (m := tset (ps.map (·.2))) nd fun x hx => by
    obtain ⟨p, hp, e⟩ := List.mem_map.mp hx
    exact mem_tset.mpr (List.mem_map.mpr ⟨p, sub p hp, e⟩)
  rw [List.length_map] at this
  omega
theorem perm_tset {ps L : List (Addr × List Int)} (sub : ∀ p ∈ L, p ∈ ps) (all : ∀ p ∈ ps, p.2 ∈ L.map (·.2)) (nd : (L.map (·.2)).Nodup) : (L.map (·.2)).Perm (tset (ps.map (·.2))) :=
  (List.perm_ext_iff_of_nodup nd (tset_nd _)).mpr fun x => by
    rw [mem_tset]
    constructor
    · intro hx
      obtain ⟨p, hp, e⟩ := List.mem_map.mp hx
      exact List.mem_map.mpr ⟨p, sub p hp, e⟩
    · intro hx
      obtain ⟨p, hp, e⟩ := List.mem_map.mp hx
      rw [← e]
      exact all p hp
section
variable {prog : Program} {w : World} {A : Around} {E' : Value → Shared → Prop} {s : Shared}
/-- sorted, of what is collected in an order that is not told -/
theorem sort_callP {l : Value} {bs0 : List D} {R : Value → D → Prop} {Q : Value → Shared → Prop}
    (ha1 : argsOk "sorted" ⟨[l], []⟩) (hL : bs0.length ≤ sizeLine) (hal : AllAlike (bs0.map py)) (hk : ∀ d, d ∈ bs0.map py → ∃ xs, d = .tuple xs) (hu : ∀ b, b ∈ bs0 → A.units + 2 + (py b).depth < cLine)
    (hcol : ∀ (A' : Around) (R' : List Value → Shared → Prop), A'.handled = A.handled → (∀ (vs : List Value) (bs : List D) (s1 : Shared), bs.Perm bs0 → EachIs R vs bs → (∀ b o, s.heap.get? b = some o → s1.heap.get? b = some o) → s.heap.objs.size ≤ s1.heap.objs.size → s1.gens = s.gens → s1.os = s.os →
      EachIs (fun v b => ∃ as, Reads s1.heap v (py b) as) vs bs → R' vs s1) → wpAny (model prog w) A' (collect l) R' E' s)
    (fin : ∀ (bs : List D) (s1 : Shared) (h' : Heap) (out : List Value) (c : Nat), bs.Perm bs0 → (∀ b o, s.heap.get? b = some o → s1.heap.get? b = some o) → s.heap.objs.size ≤ s1.heap.objs.size → s1.gens = s.gens → s1.os = s.os → (∀ b o, s1.heap.get? b = some o → h'.get? b = some o) →
      h'.get? s1.heap.objs.size = some (seqObj "list" out.toArray c) → EachIs R out (bs.mergeSort dle) → Q (.ref s1.heap.objs.size) { s1 with heap := h' }) : wpAny (model prog w) A (call (.builtin "sorted") [l]) Q E' s := by
  refine call_function_entry_kw (kw := []) PyProof.Rows.kind_sorted PyProof.Rows.plain_sorted PyProof.Rows.entry_sorted ha1 ?_
  unfold Builtin.«sorted»
  refine wpAny_bind (m := checkCount "sorted" 1 1 _) (wpAny_pure ?_)
  refine wpAny_bind (hcol _ _ rfl fun vs bs s1 pm e k1 sz1 g1 o1 er => ?_)
  have hlen : vs.length = bs.length := e.length
  have hz : vs.length ≤ sizeLine := by rw [hlen, pm.length_eq]; exact hL
  have pmy : (bs.map py).Perm (bs0.map py) := pm.map py
  have hal' : AllAlike (bs.map py) := fun d hd d' hd' => hal d (pmy.mem_iff.mp hd) d' (pmy.mem_iff.mp hd')
  have hk' : ∀ d, d ∈ bs.map py → ∃ xs, d = .tuple xs := fun d hd => hk d (pmy.mem_iff.mp hd)
  have hu' : ∀ b, b ∈ bs → A.units + 2 + (py b).depth < cLine := fun b hb => hu b (pm.mem_iff.mp hb)
  refine wpAny_bind (wpAny_newList ?_ hz)
  have at_ : (s1.heap.push (seqObj "list" vs.toArray 0)).get? s1.heap.objs.size = some (seqObj "list" vs.toArray 0) := Heap.get?_push_size _ rfl
  refine wpAny_bind (wpAny_holding (PyProof.Rows.wpAny_call_entry_kw (kw := []) PyProof.Rows.slot_list_sort ⟨_, at_, rfl⟩ PyProof.Rows.entry_list_sort ?body (PyProof.Rows.args_list_sort _)))
  case body =>
    have k2 : ∀ b o, s1.heap.get? b = some o → (sortingHeap (s1.heap.push (seqObj "list" vs.toArray 0)) s1.heap.objs.size vs).get? b = some o := fun b o z =>
      sortingHeap_old (Nat.ne_of_lt (Heap.lt_size z)) (Heap.get?_push_of_some _ z)
    have er2 : EachIs (fun v b => ∃ as, Reads (sortingHeap (s1.heap.push (seqObj "list" vs.toArray 0)) s1.heap.objs.size vs) v (py b) as) vs bs := er.mono fun _ _ ⟨as, r⟩ => ⟨as, PyProof.Rows.Reads.keeps k2 r⟩
    have S : SortsAt prog w A.in1.in1 { s1 with heap := sortingHeap (s1.heap.push (seqObj "list" vs.toArray 0)) s1.heap.objs.size vs } (dataKind (sortingHeap (s1.heap.push (seqObj "list" vs.toArray 0)) s1.heap.objs.size vs) (bs.map py)) vs :=
      sorts_tups (prog := prog) (w := w) (A := A.in1.in1) (s := { s1 with heap := sortingHeap (s1.heap.push (seqObj "list" vs.toArray 0)) s1.heap.objs.size vs }) (each_map (R := fun v d => ∃ as, Reads (sortingHeap (s1.heap.push (seqObj "list" vs.toArray 0)) s1.heap.objs.size vs) v d as) py er2) hal' hk' (bound_map fun b hb => hu' b hb)
    refine wpAny_mono (list_sort_vals (s := { s1 with heap := s1.heap.push (seqObj "list" vs.toArray 0) }) (P := fun f s' => f = .done (.ret .none) ∧ Q (.ref s1.heap.objs.size) s') at_ S hz ⟨rfl, ?_⟩) (fun f s' hf => ?_) fun _ _ x => x
    · obtain ⟨ep, he⟩ := PyProof.Rows.sortedHeap_at (out := (sortVals (dataKind (sortingHeap (s1.heap.push (seqObj "list" vs.toArray 0)) s1.heap.objs.size vs) (bs.map py)) false vs vs).toArray) at_
      refine fin bs s1 _ _ ep pm k1 sz1 g1 o1 (fun b o z1 => ?_) he (sortVals_data false e er2 hal')
      rw [PyProof.Rows.sortedHeap_old (Nat.ne_of_lt (Heap.lt_size z1)) (Heap.lt_size (Heap.get?_push_of_some _ z1))]
      exact Heap.get?_push_of_some _ z1
    · obtain ⟨rfl, hq⟩ := hf
      exact ⟨_, rfl, wpAny_pure ⟨_, rfl, hq⟩⟩
end
section
variable {g : G} {E : XK} {κ ρ : List Addr} {H : Hp} {h : Hh} {X : Cx} {fo : DE} {σ : L2.St} {a : Expr} {p pos : Pos}
theorem ints_form : ∀ {ds : List D} {ns : List Int}, intsOf ds = some ns → ds = ns.map .int := ints_all
theorem tups_rep {K : PySem.W.Frag} : ∀ {ds : List D} {vs : List V} {ks : List (List Int)}, Reps K κ ρ H ds vs → tupsOf ds = some ks → ∃ ps : List (Addr × List Int), vs = ps.map (fun p => V.ref p.1) ∧ ps.map (·.2) = ks ∧ ∀ p ∈ ps, SqT K H p.1 (p.2.map V.int) ∧ Rep K κ ρ H (tupI p.2) (.ref p.1)
  | [], vs, ks, r, e => by
    cases r
    cases e
    exact ⟨[], rfl, rfl, fun p hp => by cases hp⟩
  | .tup xs :: ds, _, ks, ⟨v, r, ev, r1, r2⟩, e => by
    subst ev
    unfold tupsOf at e
    split at e
    · rename_i k ks' e1 e2
      cases e
      obtain ⟨ps, h1, h2, h3⟩ := tups_rep r2 e2
      obtain ⟨b, us, rfl, f, rr⟩ := r1
      have fx := ints_form e1
      have eu := ints_rep2 rr e1
      refine ⟨(b, k) :: ps, by rw [List.map_cons, h1], by rw [List.map_cons, h2], fun p hp => ?_⟩
      rcases List.mem_cons.mp hp with z | hp
      · rw [z]
        refine ⟨by have q : SqT K H b us := f.sq; rw [eu] at q; exact q, ?_⟩
        show Rep K κ ρ H (.tup (k.map .int)) (.ref b)
        rw [← fx]
        exact ⟨b, us, rfl, f, rr⟩
      · exact h3 p hp
    · cases e
  | .non :: _, _, _, _, e => by cases e
  | .bl _ :: _, _, _, _, e => by cases e
  | .int _ :: _, _, _, _, e => by cases e
  | .str _ :: _, _, _, _, e => by cases e
  | .pr _ :: _, _, _, _, e => by cases e
  | .fl _ :: _, _, _, _, e => by cases e
  | .rl _ :: _, _, _, _, e => by cases e
  | .ml _ :: _, _, _, _, e => by cases e
  | .md _ :: _, _, _, _, e => by cases e
  | .fn _ :: _, _, _, _, e => by cases e
def rSetT (X : Cx) : List V → Hp → VK → Prop := fun vs H Q => ∃ (l : Addr) (ps : List (Addr × List Int)), vs = [.ref l] ∧ (SqL X.K H l (ps.map fun p => V.ref p.1) ∨ SqT X.K H l (ps.map fun p => V.ref p.1)) ∧ (∀ p ∈ ps, SqT X.K H p.1 (p.2.map V.int)) ∧ FewT ps ∧
  ∀ a L, H a = none → (∀ p ∈ L, p ∈ ps) → (∀ p ∈ ps, p.2 ∈ L.map (·.2)) → (L.map (·.2)).Nodup → Q (.ref a) (upd H a (SetTO X.prog X.w a L))
theorem b_setT (ok : Okx g X) : CallR X (.type "set") (rSetT X) := by
  rintro pins s σ H vs us Q I r ⟨l, ps, rfl, hs, hk, fw, q⟩
  rw [Vals.ref1 r]
  have hu := ok.u
  have done : ∀ (hp : Heap) (tk : Nat) L es ep t, SetTR X.prog X.w hp s.heap.objs.size L es ep t → Got ps ps.length L → (∀ b o, s.heap.get? b = some o → hp.get? b = some o) → EP X pins σ Q (.ref s.heap.objs.size) { s with heap := hp, toks := tk } := fun hp tk L es ep t R gt keep =>
    ⟨.ref s.heap.objs.size, _, I.laid keep (Nat.le_refl _) (setTO_new R.t0), rfl, q _ L (I.hok.fresh (Nat.le_refl _)) (fun p hp => List.mem_of_mem_take (gt.sub p hp)) (fun p hp => gt.all p (by rw [List.take_length]; exact hp)) R.nd⟩
  rcases hs with hs | hs
  · obtain ⟨its, rv, pl, hz⟩ := I.list hs
    exact call_set_listT ps (I.ok.hd ok.calm) pl.isList (by simpa using refs_of_vals rv) (fun p hp => I.isT (hk p hp)) fw (by omega) done
  · obtain ⟨its, rv, pl, hz⟩ := I.tuple hs
    exact call_set_tupleT ps (I.ok.hd ok.calm) pl (by simpa using refs_of_vals rv) (fun p hp => I.isT (hk p hp)) fw (by omega) done
def rSetO (g : G) (E : XK) (X : Cx) (op : D → Hh → Oc D) : List V → Hp → VK → Prop := fun vs H Q => ∃ (κ ρ : List Addr) (h : Hh) (d : D) (a : Addr) (ps L : List (Addr × List Int)), vs = [.ref a] ∧ H a = some (SetTO X.prog X.w a L) ∧ CS g κ ρ h H ∧ (seqOf h d).bind tupsOf = some (ps.map (·.2)) ∧ (∀ p ∈ ps, SqT X.K H p.1 (p.2.map V.int) ∧ Rep g.K κ ρ H (tupI p.2) (.ref p.1)) ∧
  (∀ p ∈ L, p ∈ ps) ∧ (∀ p ∈ ps, p.2 ∈ L.map (·.2)) ∧ (L.map (·.2)).Nodup ∧ Wp g E κ ρ H (op d h) Q
theorem b_lensT (ok : Okx g X) : CallR X (.builtin "len") (rSetO g E X vLensT) := by
  rintro pins s σ H vs us Q I r ⟨κ, ρ, h, d, a, ps, L, rfl, ha, c, ed, hk, sub, all, nd, w⟩
  rw [Vals.ref1 r]
  have R0 : SetT0 X.prog X.w s.heap a L := (I.hok a _ ha).1
  obtain ⟨es, ep, t, R⟩ := R0.full fun p hp => I.isT (hk p (sub p hp)).1
  obtain ⟨o, ho, hex, hd⟩ := R.ob
  unfold vLensT at w
  rw [ed] at w
  dsimp only at w
  split at w
  · rename_i hl
    have e : es.size = (tset (ps.map (·.2))).length := by rw [R.size, ← (perm_tset sub all nd).length_eq, List.length_map]
    refine call_len_set ho hex hd R.fits (by have := R.few; have := R.size; omega) ⟨.int (tset (ps.map (·.2))).length, H, I.tok _, ⟨_, by rw [e]⟩, wp_int c w⟩
  · exact absurd w id
theorem b_sortT {m : Bool} (ok : Okx g X) : CallR X (.builtin "sorted") (rSetO g E X (vSrtsT m)) := by
  rintro pins s σ H vs us Q I r ⟨κ, ρ, h, d, a, ps, L, rfl, ha, c, ed, hk, sub, all, nd, w⟩
  rw [Vals.ref1 r]
  have hu := ok.u
  have R0 : SetT0 X.prog X.w s.heap a L := (I.hok a _ ha).1
  obtain ⟨es, ep, t, R⟩ := R0.full fun p hp => I.isT (hk p (sub p hp)).1
  obtain ⟨o, ho, hex, hd⟩ := R.ob
  unfold vSrtsT at w
  rw [ed] at w
  dsimp only at w
  split at w
  · rename_i hl
    obtain ⟨ds, hds⟩ : ∃ ds, ds = (tset (ps.map (·.2))).map tupI := ⟨_, rfl⟩
    rw [← hds] at w
    have w : Wp g E κ ρ H (if ds.length ≤ big ∧ shps 7 ds = true ∧ alikes ds = true ∧ (ds.all isTup = true ∨ ds.all noTup = true) ∧ okSrt (isrt ds) = true then mk m (isrt ds) h else .bad) Q := w
    split at w
    · rename_i hc
      obtain ⟨c1, c2, c3, c4, c5⟩ := hc
      have tups : ∀ x ∈ ds.map py, ∃ xs, x = .tuple xs := fun x hx => by
        obtain ⟨y, hy, rfl⟩ := List.mem_map.mp hx
        rw [hds] at hy
        obtain ⟨k, _, rfl⟩ := List.mem_map.mp hy
        exact ⟨pys (k.map .int), by unfold tupI; simp [py]⟩
      have pm : (L.map fun p => tupI p.2).Perm ds := by
        have := (perm_tset sub all nd).map tupI
        rw [List.map_map] at this
        rw [hds]; exact this
      have hes : es.toList.map (·.2) = L.map fun q => Value.ref q.1 := by
        rw [R.rows]
        unfold L2.rowsOf
        rw [List.map_map]; rfl
      refine sort_callP (R := StandsFor g κ ρ H) (bs0 := ds) (PyProof.Rows.args_sorted1 _) (lineOf c1) (alikes_ok c3) tups (fun b hb => ?_) (fun A' R' hA k => ?_) fun bs s1 h' out cc p1 k1 sz1 g1 o1 k2 at_ eo => ?_
      · have := (lay_of (shps_mem c2 b hb)).2
        omega
      · refine collect_set (hA.trans (I.ok.hd ok.calm)) ⟨o, ho, hex.1, hd⟩ R.fits (by have := R.few; have := R.size; unfold scanBound; omega) R.tab.ris R.led fun s1 out k1 hz g1 o1 p1 => ?_
        rw [hes] at p1
        have ord : ∀ vs : List Value, (∀ v ∈ vs, ∃ q ∈ L, v = Value.ref q.1) → ∃ L1 : List (Addr × List Int), vs = L1.map (fun q => Value.ref q.1) ∧ ∀ q ∈ L1, q ∈ L := fun vs => by
          induction vs with
          | nil => exact fun _ => ⟨[], rfl, fun q hq => by cases hq⟩
          | cons v vs ih =>
            intro hv
            obtain ⟨q, hq, e⟩ := hv v (List.mem_cons_self ..)
            obtain ⟨L1, e1, hs⟩ := ih fun u hu => hv u (List.mem_cons_of_mem _ hu)
            refine ⟨q :: L1, by rw [List.map_cons, e, e1], fun r hr => ?_⟩
            rcases List.mem_cons.mp hr with z | z
            · rw [z]; exact hq
            · exact hs r z
        obtain ⟨L1, e1, s1L⟩ := ord out fun v hv => by
          obtain ⟨q, hq, e⟩ := List.mem_map.mp (p1.mem_iff.mp hv)
          exact ⟨q, hq, e.symm⟩
        have one : ∀ q ∈ L, ∀ r ∈ L, q.1 = r.1 → q = r := fun q hq r hr e => by
          have a1 := R.tup q hq
          have a2 := R.tup r hr
          rw [e] at a1
          exact Prod.ext e (a1.inj a2)
        have nL : L.Nodup := L2.nodup_of_map nd
        have pL : L1.Perm L := by
          rw [e1] at p1
          have nref : (L.map fun q => Value.ref q.1).Nodup := by
            refine List.pairwise_map.mpr (List.Pairwise.imp_of_mem (fun {q r} hq hr hne e => ?_) nL)
            injection e with e
            exact hne (one q hq r hr e)
          refine (List.perm_ext_iff_of_nodup (L2.nodup_of_map (p1.nodup_iff.mpr nref)) nL).mpr fun q => ⟨s1L q, fun hq => ?_⟩
          obtain ⟨r, hr, e⟩ := List.mem_map.mp (p1.mem_iff.mpr (List.mem_map.mpr ⟨q, hq, rfl⟩))
          injection e with e
          rw [← one r (s1L r hr) q hq e]
          exact hr
        have stand : ∀ M : List (Addr × List Int), (∀ q ∈ M, q ∈ L) → EachIs (StandsFor g κ ρ H) (M.map fun q => Value.ref q.1) (M.map fun q => tupI q.2) := fun M => by
          induction M with
          | nil => exact fun _ => .nil
          | cons q M ih =>
            intro hM
            exact .cons ⟨.ref q.1, rfl, (hk q (sub q (hM q (List.mem_cons_self ..)))).2⟩ (ih fun r hr => hM r (List.mem_cons_of_mem _ hr))
        have st := stand L1 s1L
        have pb : (L1.map fun q => tupI q.2).Perm ds := (pL.map _).trans pm
        have shb : ∀ M : List D, (∀ b ∈ M, shp 7 b = true) → shps 7 M = true := fun M => by
          induction M with
          | nil => exact fun _ => by simp [shps]
          | cons b M ih =>
            intro hM
            simp only [shps, Bool.and_eq_true]
            exact ⟨hM b (List.mem_cons_self ..), ih fun x hx => hM x (List.mem_cons_of_mem _ hx)⟩
        rw [e1]
        exact k _ _ s1 pb st k1 hz g1 o1 (each_reads I ok.K k1 st (shb _ fun b hb => shps_mem c2 b (pb.mem_iff.mp hb)))
      · have em : bs.mergeSort dle = isrt ds := pw_sorted_uniq (chain_pw c5) (List.pairwise_mergeSort (le := dle) (fun a b c => dle_trans) dle_total bs) ((isrt_perm ds).trans (p1.symm.trans (List.mergeSort_perm bs dle).symm))
        rw [em] at eo
        obtain ⟨ws, q1, q2⟩ := of_each eo
        have k3 : ∀ b o, s.heap.get? b = some o → h'.get? b = some o := fun b o e => k2 b o (k1 b o e)
        have hf : H s1.heap.objs.size = none := I.hok.fresh sz1
        have hws : ws.length ≤ sizeLine := by
          rw [q2.len, (isrt_perm ds).length_eq]; exact lineOf c1
        have J : Inv X pins σ (upd H s1.heap.objs.size (.lst ws)) { s with heap := h', gens := s1.gens, drawn := s1.drawn, toks := s1.toks } :=
          I.call (ch := []) (Un.laid k3 sz1 hf) (I.hok.laid k3 sz1 ⟨hws, out, cc, q1, at_⟩) (by rw [g1]; exact I.bare) (fun _ z => nomatch z)
        have e : ({ s1 with heap := h' } : Shared) = { s with heap := h', gens := s1.gens, drawn := s1.drawn, toks := s1.toks } := by
          cases s1
          cases s
          cases o1
          rfl
        rw [e]
        exact ⟨.ref s1.heap.objs.size, _, J, rfl, wp_mk c q2 w _ hf⟩
    · exact absurd w id
  · exact absurd w id
theorem CallR.or {f : Value} {r r' : List V → Hp → VK → Prop} (h : CallR X f r) (h' : CallR X f r') : CallR X f (fun x H Q => r x H Q ∨ r' x H Q) := by
  intro pins s σ H x u Q I rx q
  rcases q with q | q
  · exact h pins s σ H x u Q I rx q
  · exact h' pins s σ H x u Q I rx q
/-- o -> f(set(o)), of whole numbers or of tuples -/
theorem set_of {op opT : D → Hh → Oc D} {r : List V → Hp → VK → Prop} {Q : VK} (ok : Okx g X)
    (hop : ∀ d h, op d h ≠ .bad → (∃ ns, (seqOf h d).bind intsOf = some ns ∧ ns.length ≤ 1000) ∨ (op d h = opT d h ∧ ∃ ks, (seqOf h d).bind tupsOf = some ks ∧ (tset ks).length ≤ 60))
    (hr : ∀ κ ρ h d p ns n H, (seqOf h d).bind intsOf = some ns → ns.length ≤ 1000 → n = (sset ns).length → H p = some (SetO X.w p (fun j => decide (j ∈ ns)) n) → CS g κ ρ h H → Wp g E κ ρ H (op d h) Q → r [.ref p] H Q) (w : RE g E (d1 op fo) σ H Q) :
    tCB (fun x H Q => rSetI X x H Q ∨ rSetT X x H Q) (tCons (RE g E fo) tNil) σ H fun v H1 => r [v] H1 Q ∨ rSetO g E X opT [v] H1 Q := by
  obtain ⟨κ, ρ, env, h, S, w⟩ := w
  refine ⟨κ, ρ, env, h, S, ?_⟩
  have w := Wp.fst w
  revert w
  cases fo env h with
  | bad => exact id
  | ex x h' => exact id
  | ok d h1 =>
    intro w ρ1 x H1 k1 c1 q1
    obtain ⟨ρ2, d2, h2, k2, c2, q2, w2⟩ := w ρ1 x H1 k1 c1 q1
    have hb : op d2 h2 ≠ .bad := fun e => by rw [e] at w2; exact w2
    rcases hop d2 h2 hb with ⟨ns, en, hl⟩ | ⟨eo, ks, en, hl⟩
    · obtain ⟨ds, e1, e2⟩ := Option.bind_eq_some_iff.mp en
      obtain ⟨a, vs, ex, hs, rr⟩ := seqOf_ok c2 q2 e1
      rw [ints_rep2 rr e2] at hs
      subst ex
      refine .inl ⟨a, ns, rfl, by rw [ok.K]; exact hs, hl, fun p n hp hn => ?_⟩
      exact .inl (hr κ ρ2 h2 d2 p ns n _ en hl hn upd_same (CS.laid c2 hp _) (Wp.go (Go.laid c2 hp _) w2))
    · obtain ⟨ds, e1, e2⟩ := Option.bind_eq_some_iff.mp en
      obtain ⟨a, vs, ex, hs, rr⟩ := seqOf_ok c2 q2 e1
      obtain ⟨ps, e3, e4, hk⟩ := tups_rep rr e2
      subst ex
      rw [e3] at hs
      refine .inr ⟨a, ps, rfl, by rw [ok.K]; exact hs, fun p hp => by rw [ok.K]; exact (hk p hp).1, few_of (by rw [e4]; exact hl), fun p L hp sub all nd => ?_⟩
      rw [eo] at w2
      have gl := Go.laid c2 hp (SetTO X.prog X.w p L)
      refine .inr ⟨κ, ρ2, h2, d2, p, ps, L, rfl, upd_same, CS.laid c2 hp _, by rw [e4]; exact en, fun q hq => ⟨?_, (hk q hq).2.go gl⟩, sub, all, nd, Wp.go gl w2⟩
      have z := (hk q hq).2.go gl
      obtain ⟨b, us, eb, f, rr2⟩ := z
      cases eb
      have : SqT g.K (upd H1 p (SetTO X.prog X.w p L)) q.1 us := f.sq
      rw [ints_rep2 rr2 (by
        have : ∀ k : List Int, intsOf (k.map D.int) = some k := fun k => by
          induction k with
          | nil => rfl
          | cons i k ih => rw [List.map_cons, intsOf, ih]; rfl
        exact this q.2)] at this
      rw [ok.K]; exact this
theorem p_srts {m : Bool} {p2 pos2 : Pos} (ok : Okx g X) (hg : Gl X "sorted") (hm : X.mg "sorted" = none) (hg2 : Gl X "set") (hm2 : X.mg "set" = none) (ha : PE X a (RE g E fo)) (na : starEach [a] X.env = (false, eval a X.env) :: starEach [] X.env)
    (nb : starEach [.Call (.Name "set" p2) [a] [] pos2] X.env = (false, eval (.Call (.Name "set" p2) [a] [] pos2) X.env) :: starEach [] X.env) : PE X (.Call (.Name "sorted" p) [.Call (.Name "set" p2) [a] [] pos2] [] pos) (RE g E (d1 (vSrts m) fo)) :=
  PE.imp (pe_callB (CallR.or (cr_sortedSet ok.calm) (b_sortT (m := m) (E := E) ok)) hg hm (by decide +kernel) (pa_cons (pe_callTy (CallR.or (b_set ok) (b_setT ok)) hg2 hm2 PyProof.Rows.boot_set (pa_cons ha pa_nil na) (by decide) (by decide) na rfl) pa_nil nb) (by decide) (by decide) nb rfl) fun σ H Q w =>
    set_of (r := rSortedSet X.w) (opT := vSrtsT m) ok (fun d h hb => by
      unfold vSrts at hb ⊢
      cases e : (seqOf h d).bind intsOf with
      | some ns =>
        rw [e] at hb
        dsimp only at hb
        split at hb
        · rename_i hl; exact .inl ⟨ns, rfl, hl.1⟩
        · exact absurd rfl hb
      | none =>
        rw [e] at hb
        refine .inr ⟨rfl, ?_⟩
        have hb : vSrtsT m d h ≠ .bad := hb
        unfold vSrtsT at hb
        cases e2 : (seqOf h d).bind tupsOf with
        | none => rw [e2] at hb; exact absurd rfl hb
        | some ks =>
          rw [e2] at hb
          dsimp only at hb
          split at hb
          · rename_i hl; exact ⟨ks, rfl, hl.2⟩
          · exact absurd rfl hb) (fun κ ρ h d p ns n H en hl hn hp c w => by
      by_cases h6 : (sset ns).length ≤ 60
      · refine ⟨p, _, n, rfl, hp, by omega, fun ms q hs hm hlm hq => ?_⟩
        have e : ms = sset ns := pw_uniq hs (sset_pw ns) fun k => by rw [hm k, mem_sset]; simp
        subst e
        unfold vSrts at w
        rw [en] at w
        dsimp only at w
        rw [if_pos ⟨hl, h6⟩] at w
        exact wp_mk c (reps_ints2 _) w q hq
      · unfold vSrts at w
        rw [en] at w
        dsimp only at w
        rw [if_neg fun q => h6 q.2] at w
        exact w.elim) w
theorem p_lens {p2 pos2 : Pos} (ok : Okx g X) (hg : Gl X "len") (hm : X.mg "len" = none) (hg2 : Gl X "set") (hm2 : X.mg "set" = none) (ha : PE X a (RE g E fo)) (na : starEach [a] X.env = (false, eval a X.env) :: starEach [] X.env)
    (nb : starEach [.Call (.Name "set" p2) [a] [] pos2] X.env = (false, eval (.Call (.Name "set" p2) [a] [] pos2) X.env) :: starEach [] X.env) : PE X (.Call (.Name "len" p) [.Call (.Name "set" p2) [a] [] pos2] [] pos) (RE g E (d1 vLens fo)) :=
  PE.imp (pe_callB (CallR.or b_lens (b_lensT (E := E) ok)) hg hm (by decide +kernel) (pa_cons (pe_callTy (CallR.or (b_set ok) (b_setT ok)) hg2 hm2 PyProof.Rows.boot_set (pa_cons ha pa_nil na) (by decide) (by decide) na rfl) pa_nil nb) (by decide) (by decide) nb rfl) fun σ H Q w =>
    set_of (r := rLenSet X) (opT := vLensT) ok (fun d h hb => by
      unfold vLens at hb ⊢
      cases e : (seqOf h d).bind intsOf with
      | some ns =>
        rw [e] at hb
        dsimp only at hb
        split at hb
        · rename_i hl; exact .inl ⟨ns, rfl, hl⟩
        · exact absurd rfl hb
      | none =>
        rw [e] at hb
        refine .inr ⟨rfl, ?_⟩
        have hb : vLensT d h ≠ .bad := hb
        unfold vLensT at hb
        cases e2 : (seqOf h d).bind tupsOf with
        | none => rw [e2] at hb; exact absurd rfl hb
        | some ks =>
          rw [e2] at hb
          dsimp only at hb
          split at hb
          · rename_i hl; exact ⟨ks, rfl, hl.2⟩
          · exact absurd rfl hb) (fun κ ρ h d p ns n H en hl hn hp c w => by
      refine ⟨p, n, ns, rfl, hp, hl, ?_⟩
      unfold vLens at w
      rw [en] at w
      dsimp only at w
      rw [if_pos hl] at w
      exact wp_int c w) w
end
end Q
end
section
namespace Q
open PySem PySem.Spec L2 PySem.W PyProof.Rows
section
variable {g : G} {E : XK} {κ ρ : List Addr} {H : Hp} {h : Hh} {X : Cx} {fo : DE} {σ : L2.St} {a : Expr} {p pos : Pos}
/-! ## dict(xs), pairs whose first ones are tuples -/
def putAll (kvs ps : AV) : AV := ps.foldl (fun l p => putA l p.1 p.2.1 p.2.2) kvs
theorem xv_putAll : ∀ {ps : AV} {qs : List (NestedKey × Addr × Value)} {kvs : AV} {xs : List (NestedKey × Addr × Value)}, XV kvs xs → XV ps qs → XV (putAll kvs ps) (storedAllH xs qs)
  | [], _, _, _, r, .nil => r
  | p :: ps, q :: qs, kvs, xs, r, .cons hp t => by
    obtain ⟨k, b, v⟩ := p
    obtain ⟨k', b', w⟩ := q
    obtain ⟨e1, e2, rv⟩ := hp
    have e1 : k = k' := e1
    have e2 : b = b' := e2
    subst e1 e2
    show XV (putAll (putA kvs k b v) ps) (storedAllH (storedH xs k b w) qs)
    exact xv_putAll (xv_put r k b rv) t
theorem putA_len (kvs : AV) (k : NestedKey) (b : Addr) (v : V) : (putA kvs k b v).length ≤ kvs.length + 1 := by
  unfold putA
  split <;> simp
theorem putAll_len : ∀ (ps kvs : AV), (putAll kvs ps).length ≤ kvs.length + ps.length
  | [], kvs => Nat.le_refl _
  | p :: ps, kvs => by
    have h1 := putAll_len ps (putA kvs p.1 p.2.1 p.2.2)
    have h2 := putA_len kvs p.1 p.2.1 p.2.2
    show (putAll (putA kvs p.1 p.2.1 p.2.2) ps).length ≤ _
    rw [List.length_cons]; omega
def rDpr (g : G) (X : Cx) : List V → Hp → VK → Prop := fun vs H Q => ∃ (l : Addr) (Ts : List Addr) (ps : AV), vs = [.ref l] ∧ (SqL X.K H l (Ts.map V.ref) ∨ ∃ κ ρ, FT κ ρ H l (Ts.map V.ref)) ∧ Paired (fun T p => SqT X.K H T [.ref p.2.1, p.2.2]) Ts ps ∧ KeysAt g H ps ∧
  ∀ a, H a = none → (a == sysModules) = false → Q (.ref a) (upd H a (.ext (DTO g a (putAll [] ps))))
theorem pairs_at {pins : List (Addr × Obj)} {s : Shared} (I : Inv X pins σ H s) : ∀ {Ts : List Addr} {ps : AV}, Paired (fun T p => SqT X.K H T [.ref p.2.1, p.2.2]) Ts ps → ∃ qs : List (NestedKey × Addr × Value), XV ps qs ∧
    ∀ j k v, (qs.map fun q => (Value.ref q.2.1, q.2.2))[j]? = some (k, v) → (Ts.map Value.ref)[j]? = some (.ref (Ts.getD j 0)) ∧ PairAt s.heap (Ts.getD j 0) k v
  | _, _, .nil => ⟨[], .nil, fun j k v e => by simp at e⟩
  | T :: Ts, p :: ps, .cons hp t => by
    obtain ⟨qs, h1, h2⟩ := pairs_at I t
    obtain ⟨its, rv, pl, _⟩ := I.tuple hp
    cases rv with
    | cons r1 r2 =>
      cases r2 with
      | @cons x2 u2 _ _ r2 r3 =>
        cases r3
        cases r1
        refine ⟨(p.1, p.2.1, u2) :: qs, .cons ⟨rfl, rfl, r2⟩ h1, fun j k v e => ?_⟩
        cases j with
        | zero =>
          simp only [List.map_cons, List.getElem?_cons_zero, Option.some.injEq, Prod.mk.injEq] at e
          obtain ⟨rfl, rfl⟩ := e
          exact ⟨rfl, .inl pl⟩
        | succ j =>
          rw [List.map_cons, List.getElem?_cons_succ] at e
          exact h2 j k v e
theorem refs_vals : ∀ {Ts : List Addr} {us : List Value}, Vals (Ts.map V.ref) us → us = Ts.map Value.ref
  | [], _, .nil => rfl
  | T :: Ts, _, .cons r t => by
    cases r
    rw [refs_vals t]; rfl
theorem b_dpr (ok : Okx g X) : CallR X (.type "dict") (rDpr g X) := by
  rintro pins s σ H vs us Q I r ⟨l, Ts, ps, rfl, hs, hp, hk, q⟩
  rw [Vals.ref1 r]
  have hu := ok.u
  obtain ⟨qs, xv, pr⟩ := pairs_at I hp
  have nb : (s.heap.objs.size == sysModules) = false := beq_eq_false_iff_ne.mpr (Ne.symm (Nat.ne_of_lt I.big))
  have hn := I.hok.fresh (Nat.le_refl s.heap.objs.size)
  have lq : qs.length = Ts.length := by rw [← Paired.length xv, ← Paired.length hp]
  have items : PairItems s.heap (Ts.map Value.ref).toArray (fun j => Ts.getD j 0) (qs.map fun q => (Value.ref q.2.1, q.2.2)) := by
    refine ⟨by simp [lq], fun j k v e => ?_⟩
    obtain ⟨e1, e2⟩ := pr j k v e
    exact ⟨by rw [List.getElem?_toArray]; exact e1, e2⟩
  have have_ : ∀ n, n = (qs.map fun q => (Value.ref q.2.1, q.2.2)).length → PairsHaveH (nestedKind X.prog X.w) n (PairRel (qs.map fun q => (Value.ref q.2.1, q.2.2))) qs := fun n en => by
    refine ⟨by rw [en, List.length_map], fun i key v e => ?_⟩
    have e : (qs.map fun q => (Value.ref q.2.1, q.2.2))[i]? = some (key, v) := e
    rw [List.getElem?_map, Option.map_eq_some_iff] at e
    obtain ⟨q, e1, e2⟩ := e
    cases e2
    exact ⟨q.1, q.2.1, e1, rfl⟩
  have keys : ∀ x ∈ qs, (nestedKind X.prog X.w).is s.heap x.1 x.2.1 := by
    have : ∀ {l : AV} {m : List (NestedKey × Addr × Value)}, XV l m → (∀ p ∈ l, KeyAt g H p.2.1 p.1) → ∀ x ∈ m, (nestedKind X.prog X.w).is s.heap x.1 x.2.1 := by
      intro l m q
      induction q with
      | nil => intro _ x hx; cases hx
      | @cons p q ps qs hq t ih =>
        intro hl x hx
        rcases List.mem_cons.mp hx with z | z
        · subst z
          rw [← hq.1, ← hq.2.1]
          exact key_is I ok.K (hl p List.mem_cons_self)
        · exact ih (fun p hp => hl p (List.mem_cons_of_mem _ hp)) x z
    exact this xv hk
  have stay : KeysStay (nestedKind X.prog X.w) s.heap s.heap.objs.size [] qs := fun h' kp x hx => by
    have := keys x hx
    exact nestedKind_stays.all h' (fun b o _ e => kp b o (Nat.ne_of_lt (Heap.lt_size e)) (by simp) e) _ _ this
  have done : ∀ (h' : Heap) (tk : Nat), h'.DictOfH (nestedKind X.prog X.w) s.heap.objs.size (storedAllH [] qs) → (∀ b o, b ∉ ([] : List Addr) → s.heap.get? b = some o → h'.get? b = some o) → EP X pins σ Q (.ref s.heap.objs.size) { s with heap := h', toks := tk } := fun h' tk dd kp => by
    obtain ⟨qo, es, ep, h1, h2, h3, h4, _, h5⟩ := dd
    refine ⟨.ref s.heap.objs.size, _, I.laid (o := .ext (DTO g s.heap.objs.size (putAll [] ps))) (t' := tk) (fun b o e => kp b o (by simp) e) (Nat.le_refl _) ⟨⟨_, xv_putAll .nil xv, qo, es, ep, h1, h2, h3, by rw [← ok.P, ← ok.w]; exact h4, h5⟩, ⟨qo, h1⟩, ?_⟩, rfl, q _ hn nb⟩
    rintro g1 g2 ⟨ys, r1, o1, es1, ep1, z1, z2⟩ st
    exact ⟨ys, r1, o1, es1, ep1, st _ z1, z2⟩
  have lz : ∀ n, n = (qs.map fun q => (Value.ref q.2.1, q.2.2)).length → Ts.length ≤ sizeLine → n ≤ sizeLine := fun n en hz => by rw [en, List.length_map, lq]; exact hz
  rcases hs with hs | ⟨κ, ρ, ⟨o, ho, od⟩, _⟩
  · obtain ⟨its, rv, pl, hz⟩ := I.list hs
    have ei := refs_vals rv
    subst ei
    rw [List.length_map] at hz
    exact call_dict_pairsH (PairArg.list l _ (fun j => Ts.getD j 0) (qs.map fun q => (Value.ref q.2.1, q.2.2))) (I.ok.hd ok.calm) (by show X.A.in1.in1.units + 8 < cLine; rw [Around.in1_units, Around.in1_units]; omega) ⟨pl, items⟩ (have_ _ rfl) stay (lz _ rfl hz) done
  · obtain ⟨its, rv, pl, hz⟩ := I.tuple (xs := Ts.map V.ref) (a := l) (.inl (.inr ⟨o, ho⟩))
    have ei := refs_vals rv
    subst ei
    rw [List.length_map] at hz
    have pl2 : PlainSeq "tuple" s.heap l (Ts.map Value.ref).toArray := by
      obtain ⟨o2, e1, e2, n, e3⟩ := pl
      have e4 : s.heap.get? l = some o := (I.hok l _ ho).1
      rw [e4] at e1
      cases e1
      exact ⟨o, n, e4, e2, od, e3⟩
    exact call_dict_pairsH (PairArg.tuple l _ (fun j => Ts.getD j 0) (qs.map fun q => (Value.ref q.2.1, q.2.2))) (I.ok.hd ok.calm) (by show X.A.in1.in1.units + 8 < cLine; rw [Around.in1_units, Around.in1_units]; omega) ⟨pl2, items⟩ (have_ _ rfl) stay (lz _ rfl hz) done
/-- the pairs of the own data, as they lie -/
theorem pairs_rep {n : Nat} : ∀ {ds : List D} {vs : List V} {kvs : List (List D × D)}, Reps g.K κ ρ H ds vs → pairsOf n ds = some kvs → ∃ (Ts : List Addr) (ps : AV), vs = Ts.map V.ref ∧ Paired (fun T (p : NestedKey × Addr × V) => SqT g.K H T [.ref p.2.1, p.2.2]) Ts ps ∧ TRep g.K κ ρ H kvs ps ∧ (∀ kv ∈ kvs, low n kv.2 = true)
  | [], _, _, r, e => by cases r; cases e; exact ⟨[], [], rfl, .nil, .nil, fun _ h => by cases h⟩
  | .tup [.tup k, v] :: ds, _, kvs, ⟨x, r, ex, r1, r2⟩, e => by
    subst ex
    unfold pairsOf at e
    split at e
    · rename_i ps' e1
      split at e
      · rename_i hc
        cases e
        obtain ⟨Ts, ps, h1, h2, h3, h4⟩ := pairs_rep r2 e1
        obtain ⟨T, us, rfl, f, y1, us1, eu, q1, y2, us2, eu2, q2, e3⟩ := r1
        subst eu
        subst eu2
        have e3 : us2 = [] := e3
        subst e3
        obtain ⟨kk, hkk⟩ := hk_some hc.1
        obtain ⟨b, ws, rfl, fb, rb⟩ := q1
        refine ⟨T :: Ts, (kk, b, y2) :: ps, by rw [h1]; rfl, .cons f.sq h2, .cons ⟨hkk, ⟨b, ws, rfl, fb, rb⟩, q2⟩ h3, fun kv hm => ?_⟩
        rcases List.mem_cons.mp hm with z | z
        · rw [z]; exact hc.2
        · exact h4 kv z
      · cases e
    · cases e
  | .tup [] :: _, _, _, _, e => by simp [pairsOf] at e
  | .tup [_] :: _, _, _, _, e => by simp [pairsOf] at e
  | .tup (_ :: _ :: _ :: _) :: _, _, _, _, e => by simp [pairsOf] at e
  | .tup [.non, _] :: _, _, _, _, e => by simp [pairsOf] at e
  | .tup [.bl _, _] :: _, _, _, _, e => by simp [pairsOf] at e
  | .tup [.int _, _] :: _, _, _, _, e => by simp [pairsOf] at e
  | .tup [.str _, _] :: _, _, _, _, e => by simp [pairsOf] at e
  | .tup [.pr _, _] :: _, _, _, _, e => by simp [pairsOf] at e
  | .tup [.fl _, _] :: _, _, _, _, e => by simp [pairsOf] at e
  | .tup [.rl _, _] :: _, _, _, _, e => by simp [pairsOf] at e
  | .tup [.ml _, _] :: _, _, _, _, e => by simp [pairsOf] at e
  | .tup [.md _, _] :: _, _, _, _, e => by simp [pairsOf] at e
  | .tup [.fn _, _] :: _, _, _, _, e => by simp [pairsOf] at e
  | .non :: _, _, _, _, e => by simp [pairsOf] at e
  | .bl _ :: _, _, _, _, e => by simp [pairsOf] at e
  | .int _ :: _, _, _, _, e => by simp [pairsOf] at e
  | .str _ :: _, _, _, _, e => by simp [pairsOf] at e
  | .pr _ :: _, _, _, _, e => by simp [pairsOf] at e
  | .fl _ :: _, _, _, _, e => by simp [pairsOf] at e
  | .rl _ :: _, _, _, _, e => by simp [pairsOf] at e
  | .ml _ :: _, _, _, _, e => by simp [pairsOf] at e
  | .md _ :: _, _, _, _, e => by simp [pairsOf] at e
  | .fn _ :: _, _, _, _, e => by simp [pairsOf] at e
def putsT (kvs ps : List (List D × D)) : List (List D × D) := ps.foldl (fun l p => dputT l p.1 p.2) kvs
theorem trep_puts : ∀ {ps : List (List D × D)} {qs : AV} {kvs : List (List D × D)} {vs : AV}, TRep g.K κ ρ H kvs vs → TRep g.K κ ρ H ps qs → TRep g.K κ ρ H (putsT kvs ps) (putAll vs qs)
  | [], _, _, _, r, .nil => r
  | p :: ps, q :: qs, kvs, vs, r, .cons hp t => by
    show TRep g.K κ ρ H (putsT (dputT kvs p.1 p.2) ps) (putAll (putA vs q.1 q.2.1 q.2.2) qs)
    exact trep_puts (trep_put r hp.1 _ hp.2.1 hp.2.2) t
theorem puts_low {n : Nat} : ∀ {ps kvs : List (List D × D)}, lows n (kvs.map (·.2)) = true → (∀ p ∈ ps, low n p.2 = true) → lows n ((putsT kvs ps).map (·.2)) = true
  | [], _, h, _ => h
  | p :: ps, kvs, h, a => by
    show lows n ((putsT (dputT kvs p.1 p.2) ps).map (·.2)) = true
    exact puts_low (lows_putT (a p (List.mem_cons_self ..)) h) fun q hq => a q (List.mem_cons_of_mem _ hq)
theorem p_dpr {p : Pos} (ok : Okx g X) (hg : Gl X "dict") (hm : X.mg "dict" = none) (ha : PE X a (RE g E fo)) (na : starEach [a] X.env = (false, eval a X.env) :: starEach [] X.env) : PE X (.Call (.Name "dict" p) [a] [] pos) (RE g E (d1 vDpr fo)) :=
  PE.imp (pe_callTy (b_dpr ok) hg hm PyProof.Rows.boot_dict (pa_cons ha pa_nil na) (by decide) (by decide) na rfl) fun σ H Q w => by
    obtain ⟨κ, ρ, env, h, S, w⟩ := w
    refine ⟨κ, ρ, env, h, S, ?_⟩
    have w := Wp.fst w
    revert w
    cases fo env h with
    | bad => exact id
    | ex x h' => exact id
    | ok d h1 =>
      intro w ρ1 x H1 k1 c1 q1
      obtain ⟨ρ2, d2, h2, k2, c2, q2, w2⟩ := w ρ1 x H1 k1 c1 q1
      unfold vDpr at w2
      cases e : (dprOf h2 d2).bind (pairsOf h2.length) with
      | none => rw [e] at w2; exact absurd (show False from w2) id
      | some kvs =>
        rw [e] at w2
        dsimp only at w2
        split at w2
        · rename_i hl
          obtain ⟨ds, e1, e2⟩ := Option.bind_eq_some_iff.mp e
          have at_ : ∃ l vs, x = .ref l ∧ (SqL g.K H1 l vs ∨ ∃ κ ρ, FT κ ρ H1 l vs) ∧ Reps g.K κ ρ2 H1 ds vs := by
            by_cases z : ∃ xs, d2 = .tup xs
            · obtain ⟨xs, rfl⟩ := z
              cases e1
              obtain ⟨l, vs, rfl, f, rr⟩ := q2
              exact ⟨l, vs, rfl, .inr ⟨κ, ρ2, f⟩, rr⟩
            · have e1 : lstOf h2 d2 = some ds := by
                cases d2 with
                | tup xs => exact absurd ⟨xs, rfl⟩ z
                | _ => exact e1
              obtain ⟨l, vs, ex, hq, rr⟩ := lstOf_ok c2 q2 e1
              exact ⟨l, vs, ex, .inl hq, rr⟩
          obtain ⟨l, vs, ex, hq, rr⟩ := at_
          obtain ⟨Ts, ps, ev, pp, tr, lw⟩ := pairs_rep rr e2
          subst ex ev
          refine ⟨l, Ts, ps, rfl, by rw [ok.K]; exact hq, by rw [ok.K]; exact pp, trep_keys tr, fun b hb nb => ?_⟩
          have gb := Go.born c2 hb (.ext (DTO g b (putAll [] ps)))
          have lk : ps.length = kvs.length := (Paired.length tr).symm
          have cb := c2.born hb (o := .ext (DTO g b (putAll [] ps))) (u := .dT (putsT [] kvs)) ⟨_, upd_same, nb, by have := putAll_len ps []; have := lineOf hl; rw [List.length_nil] at *; omega, Paired.mapP (trep_puts (kvs := []) (vs := []) .nil tr) fun _ _ q => ⟨q.1, q.2.1.go gb, q.2.2.go gb⟩⟩ (puts_low (kvs := []) rfl lw)
          have ed : (ρ2 ++ [b])[h2.length]? = some b := by rw [← c2.len, List.getElem?_append_right (Nat.le_refl _)]; simp
          exact w2 (ρ2 ++ [b]) (.ref b) _ gb cb ⟨b, rfl, ed⟩
        · exact absurd (show False from w2) id
end
end Q
end
section
namespace Q
open PySem PySem.Spec PyProof.Rows L2

section
variable {X : Cx} {g : G} {E : XK} {κ ρ ρ1 : List Addr} {H H1 : Hp} {env env1 : Ev} {σ : L2.St} {h h1 : Hh} {a b c e : Expr} {es : List Expr} {rest : List Expr} {fa fb fc : DE} {fA : DA} {pos p : Pos}
/-- names of types, written in a row -/
def tTys (ts : List Ty) : TA := fun _ H Q => Q (ts.map fun t => .ty (tyName t)) H
theorem tys_nil : PA X [] (tTys []) := PA.imp pa_nil fun σ H Q w => w
theorem tys_cons {t : Ty} {ts : List Ty} {x : Str} (hx : PE X (.Name x p) (tC (.ty (tyName t)))) (hr : PA X es (tTys ts)) (hs : starEach (.Name x p :: es) X.env = (false, eval (.Name x p) X.env) :: starEach es X.env) : PA X (.Name x p :: es) (tTys (t :: ts)) :=
  PA.imp (pa_cons hx hr hs) fun σ H Q w => w
theorem clsV_all : ∀ ts : List Ty, Paired ClsV (ts.map fun t => V.ty (tyName t)) (ts.map fun t => Value.type (tyName t))
  | [] => .nil
  | t :: ts => .cons (.ty _) (clsV_all ts)
theorem p_isi2 {ts : List Ty} {k : Nat} {p2 : Pos} (ok : Okx g X) (hne : ts ≠ []) (hl : ts.length ≤ 100) (hg : Gl X "isinstance") (hm : X.mg "isinstance" = none) (ha : PE X a (RE g E fa)) (hx : PA X es (tTys ts))
    (na : starEach [a, .Tuple es k p2] X.env = (false, eval a X.env) :: starEach [.Tuple es k p2] X.env) (nb : starEach [.Tuple es k p2] X.env = (false, eval (.Tuple es k p2) X.env) :: starEach [] X.env) (hpl : (backTo pos (starEach [.Tuple es k p2] X.env)).any (·.1) = false) :
    PE X (.Call (.Name "isinstance" p) [a, .Tuple es k p2] [] pos) (RE g E (d1 (vIsi ts) fa)) := by
  refine PE.imp (pe_callB call_isiT hg hm (by decide +kernel) (pa_cons ha (pa_cons (pe_tup hx) pa_nil nb) na) (by decide) (by decide) na hpl) fun σ H Q w => ?_
  obtain ⟨κ, ρ, env, h, S, w⟩ := tUn_of w
  refine ⟨κ, ρ, env, h, S, ?_⟩
  revert w
  cases fa env h with
  | bad => exact fun w => w
  | ex x h' => exact fun w => w
  | ok d h1 =>
    intro w ρ1 x H1 k1 c1 q1
    obtain ⟨κ2, ρ2, h2, d2, c2, r2, w⟩ := w ρ1 x H1 k1 c1 q1
    refine ⟨by rw [List.length_map]; exact Nat.le_trans hl (by rw [sizeLine_eq]; decide), fun q hq => ?_⟩
    have w := Wp.go (Go.laid c2 hq (.tup (ts.map fun t => .ty (tyName t)))) w
    have c3 := c2.laid hq (.tup (ts.map fun t => .ty (tyName t)))
    have r3 := r2.go (Go.laid c2 hq (.tup (ts.map fun t => .ty (tyName t))))
    unfold vIsi at w
    split at w
    · rename_i hm
      split at w
      · rename_i b hb
        obtain ⟨u, ty, kk⟩ := isi_ty (K := X.K) c3 (by exact r3) hm hb hne
        exact ⟨x, q, _, u, _, b, rfl, upd_same, clsV_all ts, ty, kk, wp_bl c3 w⟩
      · exact absurd (show False from w) fun w => w
    · exact absurd (show False from w) fun w => w
/-! ## calls -/
theorem tCB_of {op : List D → Hh → Oc D} {Q : VK} (w : RE g E (dN op fA) σ H Q) : tCB (rN g E op) (RA g E fA) σ H Q := RA_of w
theorem p_blt {x : Str} {id : String} {op : List D → Hh → Oc D} (hc : CallR X (.builtin id) (rN g E op)) (hg : Gl X x) (hm : X.mg x = none) (hv : bootBuiltins x = some (.builtin id)) (ha : PA X (e :: es) (RA g E fA)) (hn : x ≠ "__name__") (hdb : (x == ("__debug__" : Str)) = false)
    (he : starEach (e :: es) X.env = (false, eval e X.env) :: starEach es X.env) (hpl : (backTo pos (starEach es X.env)).any (·.1) = false) : PE X (.Call (.Name x p) (e :: es) [] pos) (RE g E (dN op fA)) :=
  PE.imp (pe_callB hc hg hm hv ha hn hdb he hpl) fun σ H Q w => tCB_of w
theorem p_blt0 {x : Str} {T : String} {op : List D → Hh → Oc D} (hc : CallR X (.type T) (rN g E op)) (hg : Gl X x) (hm : X.mg x = none) (hv : bootBuiltins x = some (.type T)) (ha : PA X (e :: es) (RA g E fA)) (hn : x ≠ "__name__") (hdb : (x == ("__debug__" : Str)) = false)
    (he : starEach (e :: es) X.env = (false, eval e X.env) :: starEach es X.env) (hpl : (backTo pos (starEach es X.env)).any (·.1) = false) : PE X (.Call (.Name x p) (e :: es) [] pos) (RE g E (dN op fA)) :=
  PE.imp (pe_callTy hc hg hm hv ha hn hdb he hpl) fun σ H Q w => tCB_of w
/-- what a def promises -/
def spF (g : G) (np : Nat) (F : Bool → List D → Hh → Oc D) : Sp := fun vs H Q _ => vs.length = np ∧ ∃ m κ ρ h ds, CS g κ ρ h H ∧ Reps g.K κ ρ H ds vs ∧ Wp g E0 κ ρ H (F m ds h) Q
theorem p_call {CX : CXT} {np k : Nat} {f : Addr} {fd : FuncData} {ps : List Str} {F : Bool → List D → Hh → Oc D} {x : Str} {m : Bool} (Fo : FnOk X.prog X.w X.K X.mg X.base CX k f fd ps (spF g np F)) (hr : Room k X.A) (hg : Gl X x) (hm : X.mg x = some (.ref f)) (hk : PySem.W.keepIn X.K (.ref f) = true)
    (hb : Binds X.K fd ps []) (hx : Passes CX X E0) (ha : PA X (e :: es) (RA g E0 fA)) (hl : ∀ env h ds h', fA env h = .ok ds h' → ds.length = np) (hdb : (x == ("__debug__" : Str)) = false)
    (he : starEach (e :: es) X.env = (false, eval e X.env) :: starEach es X.env) (hpl : (backTo pos (starEach es X.env)).any (·.1) = false) : PE X (.Call (.Name x p) (e :: es) [] pos) (RE g E0 (dN (F m) fA)) := by
  refine PE.imp (pe_call Fo hr hg hm hk hb .nil hx ha hdb he hpl) fun σ H Q w => ?_
  obtain ⟨κ, ρ, env, h, S, w⟩ := w
  refine ⟨κ, ρ, env, h, S, ?_⟩
  have hl := hl env h
  unfold dN at w
  revert w hl
  cases fA env h with
  | bad => exact fun w _ => w
  | ex x h' => exact fun w _ => w
  | ok ds h1 =>
    intro w hl ρ1 vs H1 k1 c1 r1
    have hl := hl ds h1 rfl
    show spF g np F (vs ++ []) H1 Q E0
    rw [List.append_nil]
    exact ⟨by rw [r1.len]; exact hl, m, κ, ρ1, h1, ds, c1, r1, Wp.go k1 w⟩
theorem p_call0 {CX : CXT} {k : Nat} {f : Addr} {fd : FuncData} {ps : List Str} {F : Bool → List D → Hh → Oc D} {x : Str} {m : Bool} (Fo : FnOk X.prog X.w X.K X.mg X.base CX k f fd ps (spF g 0 F)) (hr : Room k X.A) (hg : Gl X x) (hm : X.mg x = some (.ref f)) (hk : PySem.W.keepIn X.K (.ref f) = true)
    (hb : Binds X.K fd ps []) (hx : Passes CX X E0) (hdb : (x == ("__debug__" : Str)) = false) : PE X (.Call (.Name x p) [] [] pos) (RE g E0 (dN (F m) dNil)) := by
  refine PE.imp (pe_call0 Fo hr hg hm hk hb .nil hx hdb) fun σ H Q w => ?_
  obtain ⟨κ, ρ, env, h, S, w⟩ := w
  exact ⟨rfl, m, κ, ρ, h, [], S.cs, rfl, w⟩
theorem evs_len {f : Q.E → DE} : ∀ (es : List Q.E) (env : Ev) (h : Hh) (ds : List D) (h' : Hh), evs f es env h = .ok ds h' → ds.length = es.length
  | [], env, h, ds, h', q => by unfold evs dNil at q; cases q; rfl
  | e :: es, env, h, ds, h', q => by
    unfold evs dCons at q
    cases z : f e env h with
    | bad => rw [z] at q; cases q
    | ex x h' => rw [z] at q; cases q
    | ok d h1 =>
      rw [z] at q
      have q : ((evs f es env h1).bind fun xs h2 => Oc.ok (d :: xs) h2) = .ok ds h' := q
      cases y : evs f es env h1 with
      | bad => rw [y] at q; cases q
      | ex x h' => rw [y] at q; cases q
      | ok xs h2 =>
        rw [y] at q
        have q : Oc.ok (d :: xs) h2 = .ok ds h' := q
        cases q
        rw [List.length_cons, List.length_cons, evs_len es env h1 xs h' y]
/-! ## stores in a row -/
def sPar (is : List Nat) (fA : DA) : DS := fun env h => (fA env h).bind fun ds h1 => if ds.length = is.length then .ok (.next, setAll is ds env) h1 else .bad
theorem par_end {is : List Nat} {D0 : Ends} (w : RS g E (sPar is fA) D0 σ H) : RA g E fA σ H fun vs H1 => vs.length = is.length ∧ ∀ f : L2.St → L2.St, (∀ κ ρ H env ds, EnvR g κ ρ H env σ → Reps g.K κ ρ H ds vs → ds.length = is.length → EnvR g κ ρ H (setAll is ds env) (f σ)) → D0.nx (f σ) H1 := by
  obtain ⟨κ, ρ, env, h, S, w⟩ := w
  refine ⟨κ, ρ, env, h, S, ?_⟩
  unfold sPar at w
  revert w
  cases fA env h with
  | bad => exact fun w => w
  | ex x h' => exact fun w => w
  | ok ds h1 =>
    intro w ρ1 vs H1 k1 c1 r1
    have w : WpS g E κ ρ H (if ds.length = is.length then .ok (.next, setAll is ds env) h1 else .bad) D0 := w
    split at w
    · rename_i hl
      exact ⟨by rw [r1.len]; exact hl, fun f hf => w ρ1 _ H1 k1 c1 (hf κ ρ1 H1 env ds (S.en.go k1) r1 hl)⟩
    · exact absurd w fun w => w
theorem p_par2 {i j : Nat} {x y : Str} {px py pt : Pos} {kt k2 : Nat} {pt2 : Pos} (hc : X.calm = true) (hN : X.N.Nodup) (hi : X.N[i]? = some x) (hj : X.N[j]? = some y) (hij : i ≠ j)
    (hx : X.env.scope.names.lookup x = some .local) (hy : X.env.scope.names.lookup y = some .local) (ha : PA X [a, b] (RA g E fA))
    (hw : swappedStores [.Tuple [.Name x px, .Name y py] kt pt] (.Tuple [a, b] k2 pt2) X.env = pure (some [x, y]))
    (hs : swapsWithSole [.Tuple [.Name x px, .Name y py] kt pt] (.Tuple [a, b] k2 pt2) pos.line X.env = pure false) :
    PS X (.Assign [.Tuple [.Name x px, .Name y py] kt pt] (.Tuple [a, b] k2 pt2) pos) (RS g E (sPar [i, j] fA)) := by
  refine PS.imp (ps_par hc hN hi hj hij hx hy ha hw hs) fun D0 σ H w => ?_
  obtain ⟨κ, ρ, env, h, S, w⟩ := par_end w
  refine ⟨κ, ρ, env, h, S, ?_⟩
  revert w
  cases fA env h with
  | bad => exact fun w => w
  | ex x h' => exact fun w => w
  | ok ds h1 =>
    intro w ρ1 vs H1 k1 c1 r1
    obtain ⟨hl, w⟩ := w ρ1 vs H1 k1 c1 r1
    match vs, hl with
    | [v, u], _ =>
      refine ⟨v, u, rfl, w (fun σ => (σ.set i (some v)).set j (some u)) fun κ ρ H env ds e r hl => ?_⟩
      match ds, hl with
      | [d1, d2], _ =>
        obtain ⟨_, _, e1, r1, r2⟩ := two_of r
        cases e1
        exact (e.set i r1).set j r2
theorem p_par3 {i j l : Nat} {x y z : Str} {c : Expr} {px py pz pt : Pos} {kt k2 : Nat} {pt2 : Pos} (hc : X.calm = true) (hN : X.N.Nodup) (hi : X.N[i]? = some x) (hj : X.N[j]? = some y) (hl : X.N[l]? = some z) (hij : i ≠ j) (hil : i ≠ l) (hjl : j ≠ l)
    (hx : X.env.scope.names.lookup x = some .local) (hy : X.env.scope.names.lookup y = some .local) (hz : X.env.scope.names.lookup z = some .local) (ha : PA X [a, b, c] (RA g E fA))
    (hw : swappedStores [.Tuple [.Name x px, .Name y py, .Name z pz] kt pt] (.Tuple [a, b, c] k2 pt2) X.env = pure (some [x, y, z]))
    (hs : swapsWithSole [.Tuple [.Name x px, .Name y py, .Name z pz] kt pt] (.Tuple [a, b, c] k2 pt2) pos.line X.env = pure false) :
    PS X (.Assign [.Tuple [.Name x px, .Name y py, .Name z pz] kt pt] (.Tuple [a, b, c] k2 pt2) pos) (RS g E (sPar [i, j, l] fA)) := by
  refine PS.imp (ps_par3 hc hN hi hj hl hij hil hjl hx hy hz ha hw hs) fun D0 σ H w => ?_
  obtain ⟨κ, ρ, env, h, S, w⟩ := par_end w
  refine ⟨κ, ρ, env, h, S, ?_⟩
  revert w
  cases fA env h with
  | bad => exact fun w => w
  | ex x h' => exact fun w => w
  | ok ds h1 =>
    intro w ρ1 vs H1 k1 c1 r1
    obtain ⟨hl, w⟩ := w ρ1 vs H1 k1 c1 r1
    match vs, hl with
    | [v, u, t], _ =>
      refine ⟨v, u, t, rfl, w (fun σ => ((σ.set i (some v)).set j (some u)).set l (some t)) fun κ ρ H env ds e r hl => ?_⟩
      match ds, hl with
      | [d1, d2, d3], _ =>
        obtain ⟨_, _, e1, r1, r2⟩ := r
        obtain ⟨_, _, e2, r2, r3⟩ := two_of r2
        cases e1; cases e2
        exact ((e.set i r1).set j r2).set l r3
/-! ## x op= e -/
def rIp (op : Bop) : TIp := fun x y H Q => ∃ a b c, x = .int a ∧ y = .int b ∧ vAugI op a b = some c ∧ Q (.int c) H
theorem ip_a : PIp X .Add (rIp .add) := fun pins s σ H x y v u Q I r1 r2 ⟨a, b, c, e1, e2, e3, q⟩ => ip_add pins s σ H x y v u Q I r1 r2 ⟨a, b, e1, e2, by cases e3; exact q⟩
theorem ip_s : PIp X .Sub (rIp .sub) := fun pins s σ H x y v u Q I r1 r2 ⟨a, b, c, e1, e2, e3, q⟩ => ip_sub pins s σ H x y v u Q I r1 r2 ⟨a, b, e1, e2, by cases e3; exact q⟩
theorem ip_m : PIp X .Mult (rIp .mul) := by
  rintro pins s σ H x y v u Q I r1 r2 ⟨a, b, c, rfl, rfl, e3, q⟩
  obtain ⟨t, rfl⟩ := r1
  obtain ⟨t', rfl⟩ := r2
  have e3 : (if bnd a || bnd b then some (a * b) else none) = some c := e3
  split at e3
  · rename_i hb
    cases e3
    exact imul_int ⟨.int _, H, I.tok _, ⟨_, rfl⟩, q⟩ (by
      rw [Bool.or_eq_true] at hb
      rcases hb with hb | hb
      · have := of_decide_eq_true hb
        exact .of_left (intBits_le_64 this.1 this.2)
      · have := of_decide_eq_true hb
        exact .of_right (intBits_le_64 this.1 this.2))
  · cases e3
def sAug (i : Nat) (op : Bop) (fa : DE) : DS := fun env h => match env[i]? with
  | some (some x) => (fa env h).bind fun y h1 => match vAug op x y with
    | some z => .ok (.next, env.set i (some z)) h1
    | none => .bad
  | _ => .bad
theorem p_aug {i : Nat} {op : Bop} {o : Operator} {x : Str} {pos' : Pos} (hN : X.N.Nodup) (hi : X.N[i]? = some x) (hx : X.env.scope.names.lookup x = some .local) (ha : PE X a (RE g E fa)) (ho : PIp X o (rIp op)) : PS X (.AugAssign (.Name x pos') o a pos) (RS g E (sAug i op fa)) := by
  refine PS.imp (ps_aug hN hi (.inl hx) ha ho (.inr hx)) fun D0 σ H ⟨κ, ρ, env, h, S, w⟩ => ?_
  unfold sAug at w
  split at w
  · rename_i d e
    obtain ⟨v, e1, r⟩ := S.en.get e
    refine ⟨v, e1, RE_then S w fun ρ1 H1 h1 d1 v1 S1 r1 w => ?_⟩
    split at w
    · rename_i z ez
      obtain ⟨v', e1', r⟩ := S1.en.get e
      rw [e1] at e1'
      cases e1'
      cases d with
      | int n =>
        cases d1 with
        | int m =>
          obtain ⟨q, q1, q2⟩ : ∃ q, vAugI op n m = some q ∧ D.int q = z := by
            have ez : (vAugI op n m).map D.int = some z := ez
            cases hq : vAugI op n m with
            | none => rw [hq] at ez; cases ez
            | some q => rw [hq] at ez; exact ⟨q, rfl, Option.some.inj ez⟩
          subst q2
          exact ⟨n, m, q, r, r1, q1, w ρ1 _ H1 (Go.refl _ _) S1.cs (S1.en.set i rfl)⟩
        | _ => exact absurd ez (by unfold vAug; simp)
      | _ => exact absurd ez (by unfold vAug; simp)
    · exact absurd (show False from w) fun w => w
  · exact absurd (show False from w) fun w => w
end
end Q
end
section
namespace Q
open PySem PySem.Spec PyProof.Rows L2
section
variable {X : Cx} {g : G} {E : XK} {κ ρ ρ1 : List Addr} {H H1 : Hp} {env env1 : Ev} {σ : L2.St} {h h1 : Hh} {a i e : Expr} {fa fi fe : DE} {pos p : Pos}
/-! ## a[i] op= e, a a list that may change -/
def rGetL (g : G) (E : XK) : V → V → Hp → VK → Prop := fun o i H Q => ∃ κ ρ h d k, CS g κ ρ h H ∧ Rep g.K κ ρ H d o ∧ Rep g.K κ ρ H k i ∧ Wp g E κ ρ H (vIxL d k h) Q
theorem get_l (ok : Okx g X) : PGet X (rGetL g E) := by
  rintro pins s σ H o i ov iv Q I ro ri ⟨κ, ρ, h, d, k, c, q1, q2, w⟩
  unfold vIxL at w
  split at w
  · rename_i j n
    split at w
    · rename_i hn
      unfold ixS at w
      split at w
      · rename_i ds n' es en
        cases en
        split at w
        · rename_i z ez
          obtain ⟨a, vs, rfl, hq, rr⟩ := seqOf_ok c q1 es
          have lw : ∃ vs, H a = some (.lst vs) ∧ Reps g.K κ ρ H ds vs := by
            obtain ⟨a', ea, ha⟩ := q1
            cases ea
            simp only [seqOf] at es
            split at es
            · rename_i xs hx
              cases es
              obtain ⟨vs, h1, h2⟩ := c.lst ha hx
              exact ⟨vs, h1, h2⟩
            · cases es
          obtain ⟨vs, hl, rr⟩ := lw
          obtain ⟨v, e1, rv⟩ := atI_rep rr ez
          cases ro
          have ri : RelV (V.int n) iv := by
            have : i = V.int n := q2
            rw [← this]; exact ri
          obtain ⟨t, rfl⟩ := ri
          obtain ⟨its, r, pl, hz⟩ := I.list (SqL.of (K := X.K) hl)
          have hk : n.toNat < vs.length ∧ vs[n.toNat]? = some v := by
            unfold atI ixN at e1
            rw [if_pos hn.1] at e1
            by_cases hb : n < (vs.length : Int)
            · rw [if_pos hb] at e1
              exact ⟨by omega, e1⟩
            · rw [if_neg hb] at e1; cases e1
          obtain ⟨u, eu, ru⟩ := r.get hk.2
          exact wpAny_getItem_list pl.isList hn.1 (by omega) (by simpa using eu) ⟨v, H, I, ru, wp_at c rv w⟩
        · exact absurd w id
      · exact absurd w id
    · exact absurd w id
  · exact absurd w id
def rSetA (g : G) (E : XK) : TSet := rSetD g E
theorem RE_go {f : D → Hh → Oc (Fl × Ev)} {Q : VK} {B : Ends} {fx : DE} (S : Sit g κ ρ env h σ H) (w : WpS g E κ ρ H ((fx env h).bind f) B)
    (k : ∀ ρ1 H1 h1 d v, Go ρ H ρ1 H1 → Sit g κ ρ1 env h1 σ H1 → Rep g.K κ ρ1 H1 d v → WpS g E κ ρ1 H1 (f d h1) B → Q v H1) : RE g E fx σ H Q := by
  refine ⟨κ, ρ, env, h, S, ?_⟩
  have w := WpS.bind w
  revert w
  cases fx env h with
  | bad => exact fun w => w
  | ex x h' => exact fun w => w
  | ok d h1 => exact fun w ρ1 v H1 k1 c1 r1 => k ρ1 H1 h1 d v k1 (S.go k1 c1) r1 (WpS.go k1 w)
theorem vAug_int {op : Bop} {x y z : D} (e : vAug op x y = some z) : ∃ a b c, x = .int a ∧ y = .int b ∧ vAugI op a b = some c ∧ z = .int c := by
  cases x with
  | int a => cases y with
    | int b =>
      have e : (vAugI op a b).map D.int = some z := e
      cases hq : vAugI op a b with
      | none => rw [hq] at e; cases e
      | some q => rw [hq] at e; cases e; exact ⟨a, b, q, rfl, rfl, hq, rfl⟩
    | _ => cases e
  | _ => cases y <;> cases e
theorem p_augs {op : Bop} {o : Operator} {tpos : Pos} (ok : Okx g X) (ha : PE X a (RE g E fa)) (hi : PE X i (RE g E fi)) (he : PE X e (RE g E fe)) (ho : PIp X o (rIp op))
    (hs : ∀ ov iv new, augStore i ov iv new = (do holding [new, ov, iv] (setItem ov iv new); release [new, ov, iv] []; pure .next)) : PS X (.AugAssign (.Subscript a i tpos) o e pos) (RS g E (sAugS op fa fi fe)) := by
  refine PS.imp (ps_augS ha hi (get_l (E := E) ok) he ho (set_any (E := E) ok) hs) fun D0 σ H ⟨κ, ρ, env, h, S, w⟩ => ?_
  unfold sAugS at w
  refine RE_go S w fun ρ1 H1 h1 d1 v1 g1 S1 r1 w => ?_
  refine RE_go S1 w fun ρ2 H2 h2 d2 v2 g2 S2 r2 w => ?_
  refine ⟨κ, ρ2, h2, d1, d2, S2.cs, r1.go g2, r2, ?_⟩
  have w := WpS.bind w
  revert w
  cases vIxL d1 d2 h2 with
  | bad => exact fun w => w
  | ex x h' => exact fun w => w
  | ok d3 h3 =>
    intro w ρ3 v3 H3 g3 c3 r3
    have S3 := S2.go g3 c3
    refine RE_go S3 (WpS.go g3 w) fun ρ4 H4 h4 d4 v4 g4 S4 r4 w => ?_
    split at w
    · rename_i z ez
      obtain ⟨ia, ib, ic, e1, e2, e3, e4⟩ := vAug_int ez
      subst e1 e2 e4
      refine ⟨ia, ib, ic, r3.go g4, r4, e3, κ, ρ4, h4, d1, d2, .int ic, S4.cs, ((r1.go g2).go g3).go g4, (r2.go g3).go g4, rfl, ?_⟩
      have w := WpS.bind w
      revert w
      cases vSet d1 d2 (.int ic) h4 with
      | bad => exact fun w => w
      | ex x h' => exact fun w => w
      | ok u h5 => exact fun w ρ5 H5 g5 c5 => w ρ5 σ H5 g5 c5 (S4.en.go g5)
    · exact absurd (show False from w) fun w => w
end
end Q
end
section
namespace Q
open PySem PySem.Spec PyProof.Rows L2

/-! ## facts of the text that are seen by its form -/
def notStar : Expr → Bool
  | .Starred _ _ => false
  | _ => true
theorem star1 {x : Expr} {xs : List Expr} {env : Env} (h : notStar x = true) : starEach (x :: xs) env = (false, eval x env) :: starEach xs env := by
  cases x <;> first | rfl | cases h
theorem star0 {xs : List Expr} {env : Env} {pos : Pos} : xs.all notStar = true → (backTo pos (starEach xs env)).any (·.1) = false := by
  induction xs with
  | nil => intro _; rfl
  | cons x xs ih =>
    intro h
    rw [List.all_cons, Bool.and_eq_true] at h
    rw [star1 h.1]
    show (false || (backTo pos (starEach xs env)).any (·.1)) = false
    rw [ih h.2]; rfl
theorem starA {xs : List Expr} {env : Env} {pos : Pos} : xs.all notStar = true → (backTo pos (starEach xs env)).all (fun x => !x.1) = true := by
  induction xs with
  | nil => intro _; rfl
  | cons x xs ih =>
    intro h
    rw [List.all_cons, Bool.and_eq_true] at h
    rw [star1 h.1]
    show (!false && (backTo pos (starEach xs env)).all (fun x => !x.1)) = true
    rw [ih h.2]; rfl
theorem asg1 {x : Expr} {xs : List Expr} {env : Env} (h : notStar x = true) : assignEach (x :: xs) env = (false, assign x env) :: assignEach xs env := by
  cases x <;> first | rfl | cases h
theorem asgL {xs : List Expr} {env : Env} : xs.all notStar = true → (assignEach xs env).length = xs.length ∧ (assignEach xs env).findIdx? (·.1) = none := by
  induction xs with
  | nil => intro _; exact ⟨rfl, rfl⟩
  | cons x xs ih =>
    intro h
    rw [List.all_cons, Bool.and_eq_true] at h
    rw [asg1 h.1]
    obtain ⟨h1, h2⟩ := ih h.2
    refine ⟨by rw [List.length_cons, List.length_cons, h1], ?_⟩
    rw [List.findIdx?_cons]
    simp [h2]
def noComp : Expr → Bool
  | .ListComp .. => false
  | .SetComp .. => false
  | .DictComp .. => false
  | _ => true
theorem noSwap {x t : Expr} {l : Nat} {env : Env} (h : noComp x = true) : swapsWithSole [t] x l env = pure false := by
  cases x <;> first | rfl | cases h
theorem noSwap0 {x : Expr} {l : Nat} {env : Env} (h : noComp x = true) : swapsWith x none l env = pure false := by
  cases x <;> first | rfl | cases h
def isTupE : Expr → Bool
  | .Tuple .. => true
  | _ => false
def isTupOrLst : Expr → Bool
  | .Tuple .. => true
  | .List .. => true
  | _ => false
theorem noStores {x t : Expr} {env : Env} (h : isTupE x = false) : swappedStores [t] x env = pure none := by
  cases t <;> cases x <;> first | rfl | cases h
theorem noStores2 {x t : Expr} {env : Env} (h : isTupOrLst t = false) : swappedStores [t] x env = pure none := by
  cases t <;> first | rfl | cases h
/-- some target is no name -/
def noName : Expr → Bool
  | .Name .. => false
  | _ => true
def plainIx : Expr → Bool
  | .Slice .. => false
  | _ => true
theorem plain_ix {x : Expr} (h : plainIx x = true) : PlainIx x := by
  cases x <;> first | (intro v u; rfl) | cases h
theorem plain_set {o i : Expr} {pos : Pos} {env : Env} (h : plainIx i = true) : ∀ v, assign (.Subscript o i pos) env v = (do
      let ov ← holding [v] (eval o env)
      let iv ← holding [v, ov] (eval i env)
      standAt pos
      holding [v, ov, iv] (setItem ov iv v)
      release [v, ov, iv] []) := by
  cases i <;> first | (intro v; rfl) | cases h
theorem plain_aug {i : Expr} (h : plainIx i = true) : ∀ ov iv new, augStore i ov iv new = (do holding [new, ov, iv] (setItem ov iv new); release [new, ov, iv] []; pure .next) := by
  cases i <;> first | (intro ov iv new; rfl) | cases h
/-- no call without arguments -/
def noCall : Expr → Bool
  | .Call _ [] _ _ => false
  | _ => true
theorem base_of {o : Expr} {x : Str} {env : Env} {w : Sem Value} (h : noCall o = true) : attributeBase o x env w = w := by
  cases o with
  | Call f as ks pos =>
    cases as with
    | nil => cases h
    | cons a as => cases f <;> rfl
  | _ => rfl
def notSet : Expr → Bool
  | .Set .. => false
  | _ => true
theorem no_marks {op : CmpOp} {e : Expr} (h : notSet e = true) : behindInMarks op e = false := by
  cases e <;> first | rfl | cases h
theorem no_fold {e : Expr} {env : Env} (h : notSet e = true) : ∀ x, foldedSetIterable e env x = pure x := by
  intro x
  cases e <;> first | rfl | cases h
end Q
end
section
namespace Q
open PySem PySem.Spec PyProof.Rows L2

section
variable {X : Cx} {g : G} {E : XK} {κ ρ ρ1 : List Addr} {H H1 : Hp} {env env1 : Ev} {σ : L2.St} {h h1 : Hh} {a o e : Expr} {es : List Expr} {fa fo : DE} {fA : DA} {pos p apos : Pos} {c : Nat} {x : Str}
/-! ## attributes -/
theorem krep_look {K : PySem.W.Frag} {x : Str} : ∀ {fs : List (Str × D)} {vs : List (Str × V)}, KRep K κ ρ H fs vs → (∀ d, fs.lookup x = some d → ∃ v, vs.lookup x = some v ∧ Rep K κ ρ H d v) ∧ (fs.lookup x = none → vs.lookup x = none)
  | _, _, .nil => ⟨fun d q => (by cases q), fun _ => rfl⟩
  | (y, d) :: ps, (y', v) :: qs, .cons z t => by
    obtain ⟨ez, rz⟩ := z
    obtain rfl : y = y' := ez
    obtain ⟨h1, h2⟩ := krep_look (x := x) t
    rw [List.lookup_cons, List.lookup_cons]
    cases hb : x == y with
    | true => exact ⟨fun d' q => (by cases q; exact ⟨v, rfl, rz⟩), fun q => (by cases q)⟩
    | false => exact ⟨h1, h2⟩
theorem krep_putF {K : PySem.W.Frag} {x : Str} {d : D} {v : V} (r : Rep K κ ρ H d v) : ∀ {fs : List (Str × D)} {vs : List (Str × V)}, KRep K κ ρ H fs vs → KRep K κ ρ H (putD x d fs) (putF x v vs)
  | _, _, .nil => .cons ⟨rfl, r⟩ .nil
  | (y, d') :: ps, (y', v') :: qs, .cons z t => by
    obtain ⟨ez, rz⟩ := z
    obtain rfl : y = y' := ez
    unfold putD putF
    split
    · exact .cons ⟨rfl, r⟩ t
    · exact .cons ⟨rfl, rz⟩ (krep_putF r t)
theorem p_fld (ok : Okx g X) (hc : Cls X.K (g.cm c)) (hn : NoAttr X.K (g.cm c) x) (ha : PE X a (RE g E fa)) (hb : attributeBase a x X.env (eval a X.env) = eval a X.env) : PE X (.Attribute a x pos) (RE g E (d1 (vFld c x) fa)) :=
  PE.imp (pe_fld ha hb) fun σ H Q w => by
    obtain ⟨κ, ρ, env, h, S, w⟩ := tUn_of w
    refine ⟨κ, ρ, env, h, S, ?_⟩
    revert w
    cases fa env h with
    | bad => exact fun w => w
    | ex x h' => exact fun w => w
    | ok d h1 =>
      intro w ρ1 v H1 k1 c1 q1
      obtain ⟨κ2, ρ2, h2, d2, c2, r2, w⟩ := w ρ1 v H1 k1 c1 q1
      unfold vFld at w
      split at w
      · rename_i i
        split at w
        · rename_i c' fs hu
          split at w
          · rename_i ec
            split at w
            · rename_i d' hd
              obtain ⟨ad, rfl, ha⟩ := r2
              obtain ⟨dx, vs, e1, rr⟩ := c2.cell _ _ _ ha hu
              rw [ec] at e1
              obtain ⟨v', e2, r3⟩ := (krep_look (x := x) rr).1 _ hd
              exact ⟨ad, _, dx, vs, v', rfl, e1, hc, hn, e2, wp_at c2 r3 w⟩
            · exact absurd (show False from w) fun w => w
          · exact absurd (show False from w) fun w => w
        · exact absurd (show False from w) fun w => w
      · exact absurd (show False from w) fun w => w
theorem RE_imp {f : DE} {Q Q' : VK} {E1 : XK} (w : RE g E1 f σ H Q) (k : ∀ v H, Q v H → Q' v H) : RE g E1 f σ H Q' := by
  obtain ⟨κ, ρ, env, h, S, w⟩ := w
  refine ⟨κ, ρ, env, h, S, ?_⟩
  revert w
  cases f env h with
  | bad => exact fun w => w
  | ex x h' => exact fun w => w
  | ok d h1 => exact fun w ρ1 v H1 k1 c1 r1 => k v H1 (w ρ1 v H1 k1 c1 r1)
/-! ## methods -/
def evCm (c : Nat) (x : Str) (F : List D → Hh → Oc D) (fo : DE) (fA : DA) : DE := fun env h => (fo env h).bind fun a h1 => if isObj c x a h1 then (fA env h1).bind fun ds h2 => F (a :: ds) h2 else .bad
theorem isObj_at {d : D} {v : V} (c0 : CS g κ ρ h H) (r : Rep g.K κ ρ H d v) (q : isObj c x d h = true) : ∃ i a dx vs, d = .md i ∧ v = .ref a ∧ ρ[i]? = some a ∧ H a = some (.ins (g.cm c) dx vs) ∧ vs.lookup x = none := by
  unfold isObj at q
  split at q
  · rename_i i
    split at q
    · rename_i c' fs hu
      rw [Bool.and_eq_true] at q
      obtain ⟨q1, q2⟩ := q
      obtain rfl : c' = c := of_decide_eq_true q1
      obtain ⟨a, rfl, ha⟩ := r
      obtain ⟨dx, vs, e1, rr⟩ := c0.cell _ _ _ ha hu
      refine ⟨i, a, dx, vs, rfl, rfl, ha, e1, (krep_look rr).2 ?_⟩
      cases z : fs.lookup x with
      | none => rfl
      | some _ => rw [z] at q2; cases q2
    · cases q
  · cases q
theorem meth_tree {m : Str} (hbase : attributeBase o m X.env (eval o X.env) = eval o X.env) (hst : es.all notStar = true) (hl : (apos.endLine == pos.line) = true) (hn : es.length < 20) :
    eval (.Call (.Attribute o m apos) es [] pos) X.env = (do
      let ov ← eval o X.env
      standAt apos.atName
      let (f, first) ← holding [ov] (getMethod ov m (plainOf o X.env))
      callWith pos f first (backTo pos (starEach es X.env)) (backToKw pos (keywordEach [] X.env))) := by
  refine mcall_of hbase fun ov => mcall_line ?_ hl
  unfold methodCallForm
  rw [starA hst]
  show (true && (true && decide (es.length + 0 + 0 < 30))) = true
  simp
  omega
theorem p_cm {CX : CXT} {np k : Nat} {f : Addr} {fd : FuncData} {ps : List Str} {F : Bool → List D → Hh → Oc D} {m : Bool} (hc : Cls X.K (g.cm c)) (hm : Meth X.K (g.cm c) x f) (Fo : FnOk X.prog X.w X.K X.mg X.base CX k f fd ps (spF g np F)) (hr : Room k X.A)
    (hb : Binds X.K fd ps []) (hx : Passes CX X E0) (ho : PE X o (RE g E0 fo)) (ha : PA X es (RA g E0 fA)) (hl : ∀ env h ds h', fA env h = .ok ds h' → ds.length + 1 = np) (h0 : es = [] → fA = dNil)
    (hbase : attributeBase o x X.env (eval o X.env) = eval o X.env) (hst : es.all notStar = true) (hln : (apos.endLine == pos.line) = true) (hn : es.length < 20) :
    PE X (.Call (.Attribute o x apos) es [] pos) (RE g E0 (evCm c x (F m) fo fA)) := by
  have main : ∀ σ H Q, RE g E0 (evCm c x (F m) fo fA) σ H Q → tMeth (g.cm c) x (spF g np F) [] E0 (RE g E0 fo) (RA g E0 fA) σ H Q := fun σ H Q w => by
    obtain ⟨κ, ρ, env, h, S, w⟩ := w
    refine ⟨κ, ρ, env, h, S, ?_⟩
    unfold evCm at w
    revert w
    cases fo env h with
    | bad => exact fun w => w
    | ex x h' => exact fun w => w
    | ok d h1 =>
      intro w ρ1 v H1 k1 c1 q1
      have w : Wp g E0 κ ρ H (if isObj c x d h1 = true then (fA env h1).bind fun ds h2 => F m (d :: ds) h2 else .bad) Q := w
      split at w
      · rename_i hi
        obtain ⟨i, a, dx, vs, rfl, rfl, ha', e1, e2⟩ := isObj_at c1 q1 hi
        refine ⟨a, dx, vs, rfl, e1, e2, κ, ρ1, env, h1, S.go k1 c1, ?_⟩
        have hl := hl env h1
        revert w hl
        cases fA env h1 with
        | bad => exact fun w _ => w
        | ex x h' => exact fun w _ => fun ρ' H' c dO k => w ρ' H' c dO (k1.trans k)
        | ok ds h2 =>
          intro w hl ρ2 us H2 k2 c2 r2
          have hl := hl ds h2 rfl
          show spF g np F (.ref a :: (us ++ [])) H2 Q E0
          rw [List.append_nil]
          exact ⟨by rw [List.length_cons, r2.len]; exact hl, m, κ, ρ2, h2, .md i :: ds, c2, ⟨.ref a, us, rfl, (q1.go k2), r2⟩, Wp.go (k1.trans k2) w⟩
      · exact absurd (show False from w) fun w => w
  have ht := meth_tree (m := x) hbase hst hln hn
  cases es with
  | nil =>
    obtain rfl := h0 rfl
    refine PE.imp (pe_meth0 (pl := plainOf o X.env) ho hc hm Fo hr hb .nil hx ht) fun σ H Q w => ?_
    refine RE_imp (main σ H Q w) fun v H1 ⟨a, dx, fs, e1, e2, e3, w⟩ => ⟨a, dx, fs, e1, e2, e3, ?_⟩
    obtain ⟨κ2, ρ2, env2, h2, S2, w⟩ := w
    exact w ρ2 [] H1 (Go.refl _ _) S2.cs rfl
  | cons e1 es => exact PE.imp (pe_meth (pl := plainOf o X.env) ho hc hm Fo hr hb .nil hx ha (star1 (by rw [List.all_cons, Bool.and_eq_true] at hst; exact hst.1)) (star0 (by rw [List.all_cons, Bool.and_eq_true] at hst; exact hst.2)) ht) main
/-! ## a new object -/
/-- what an __init__ does, attribute by attribute -/
def iniV (g : G) (C dx x : Addr) (vs : List V) : List (Str × Ini) → List (Str × V) → Hp → (Hp → Prop) → Prop
  | [], _, H, Q => Q H
  | (f, .arg i) :: r, acc, H, Q => ∃ v, vs[i]? = some v ∧ acc.length < 1000 ∧ iniV g C dx x vs r (putF f v acc) (upd H x (.ins C dx (putF f v acc))) Q
  | (f, .int i) :: r, acc, H, Q => acc.length < 1000 ∧ iniV g C dx x vs r (putF f (.int i) acc) (upd H x (.ins C dx (putF f (.int i) acc))) Q
  | (f, .dT) :: r, acc, H, Q => ∀ q, H q = none → (q == sysModules) = false → acc.length < 1000 ∧ iniV g C dx x vs r (putF f (.ref q) acc) (upd (upd H q (.ext (DTO g q []))) x (.ins C dx (putF f (.ref q) acc))) Q
  | (f, .dK) :: r, acc, H, Q => ∀ q, H q = none → acc.length < 1000 ∧ iniV g C dx x vs r (putF f (.ref q) acc) (upd (upd H q (.dK [])) x (.ins C dx (putF f (.ref q) acc))) Q
/-- what the __init__ of a class promises -/
def spI (g : G) (C : Addr) (fs : List (Str × Ini)) (np : Nat) : Sp := fun vs H Q _ => vs.length = np ∧ ∃ x r dx, vs = .ref x :: r ∧ H x = some (.ins C dx []) ∧ iniV g C dx x r fs [] H (fun H' => Q .non H')
theorem upd_comm {H : Hp} {a b : Addr} {u v : HO} (n : a ≠ b) : upd (upd H a u) b v = upd (upd H b v) a u := by
  funext z
  unfold upd
  by_cases h1 : z = b
  · subst h1
    rw [if_pos rfl, if_neg (fun q => n q.symm), if_pos rfl]
  · rw [if_neg h1]
    by_cases h2 : z = a
    · rw [if_pos h2, if_pos h2]
    · rw [if_neg h2, if_neg h2, if_neg h1]
mutual
theorem rep_lowI {K : PySem.W.Frag} : ∀ {d : D} {v : V}, Rep K κ ρ H d v → low ρ.length d = true
  | .ml i, v, ⟨a, _, e⟩ => by unfold low; exact decide_eq_true (List.getElem?_eq_some_iff.mp e).1
  | .md i, v, ⟨a, _, e⟩ => by unfold low; exact decide_eq_true (List.getElem?_eq_some_iff.mp e).1
  | .tup ds, v, ⟨a, vs, _, _, r⟩ => by unfold low; exact reps_lowI r
  | .pr ds, v, ⟨a, vs, _, _, r⟩ => by unfold low; exact reps_lowI r
  | .fl ds, v, ⟨a, vs, _, _, r⟩ => by unfold low; exact reps_lowI r
  | .rl ds, v, ⟨a, vs, _, _, r⟩ => by unfold low; exact reps_lowI r
  | .non, _, _ => by unfold low; rfl
  | .bl _, _, _ => by unfold low; rfl
  | .int _, _, _ => by unfold low; rfl
  | .str _, _, _ => by unfold low; rfl
  | .fn _, _, _ => by unfold low; rfl
theorem reps_lowI {K : PySem.W.Frag} : ∀ {ds : List D} {vs : List V}, Reps K κ ρ H ds vs → lows ρ.length ds = true
  | [], _, _ => by unfold lows; rfl
  | d :: ds, _, ⟨v, r, _, h1, h2⟩ => by unfold lows; rw [rep_lowI h1, reps_lowI h2]; rfl
end
theorem krep_low {K : PySem.W.Frag} {κt : Type} : ∀ {fs : List (κt × D)} {vs : List (κt × V)}, KRep K κ ρ H fs vs → lows ρ.length (fs.map (·.2)) = true
  | _, _, .nil => by unfold lows; rfl
  | p :: ps, q :: qs, .cons z t => by rw [List.map_cons]; unfold lows; rw [rep_lowI z.2, krep_low t]; rfl
theorem krep_len {K : PySem.W.Frag} {κt : Type} : ∀ {fs : List (κt × D)} {vs : List (κt × V)}, KRep K κ ρ H fs vs → vs.length = fs.length
  | _, _, .nil => rfl
  | p :: ps, q :: qs, .cons z t => by rw [List.length_cons, List.length_cons, krep_len t]
theorem putD_len (f : Str) (d : D) : ∀ acc : List (Str × D), (putD f d acc).length ≤ acc.length + 1
  | [] => by simp [putD]
  | (y, e) :: r => by
    have := putD_len f d r
    unfold putD
    split <;> simp <;> omega
theorem iniV_imp {C dx x : Addr} {vs : List V} {Q Q' : Hp → Prop} (hq : ∀ H, Q H → Q' H) : ∀ (fs : List (Str × Ini)) (acc : List (Str × V)) (H : Hp), iniV g C dx x vs fs acc H Q → iniV g C dx x vs fs acc H Q'
  | [], _, _, w => hq _ w
  | (f, .arg i) :: r, acc, H, ⟨v, h1, h2, h3⟩ => ⟨v, h1, h2, iniV_imp hq r _ _ h3⟩
  | (f, .int i) :: r, acc, H, ⟨h2, h3⟩ => ⟨h2, iniV_imp hq r _ _ h3⟩
  | (f, .dT) :: r, acc, H, w => fun q hq' nb => ⟨(w q hq' nb).1, iniV_imp hq r _ _ (w q hq' nb).2⟩
  | (f, .dK) :: r, acc, H, w => fun q hq' => ⟨(w q hq').1, iniV_imp hq r _ _ (w q hq').2⟩
theorem ini_ok {C dx x : Addr} {n : Nat} (hC : C = g.cm n) {ρ0 : List Addr} {H0 : Hp} {ds : List D} {vs : List V} {Q : VK} :
    ∀ (fs : List (Str × Ini)) (acc : List (Str × D)) (accv : List (Str × V)) (ρ : List Addr) (h : Hh) (H : Hp), acc.length + fs.length ≤ 900 → Go ρ0 H0 ρ H → CS g κ ρ h H → H x = none → x ∉ ρ0 → Reps g.K κ ρ H ds vs → KRep g.K κ ρ H acc accv →
      Wp g E κ ρ0 H0 ((inis ds fs acc h).bind fun vs h1 => Oc.ok (.md h1.length) (h1 ++ [Cell.obj n vs])) Q → iniV g C dx x vs fs accv (upd H x (.ins C dx accv)) (fun H' => Q (.ref x) H')
  | [], acc, accv, ρ, h, H, hl, k, c, hx, nx, rs, ra, w => by
    have w : Wp g E κ ρ0 H0 (Oc.ok (.md h.length) (h ++ [Cell.obj n acc])) Q := w
    have gb := Go.born c hx (.ins C dx accv)
    refine w (ρ ++ [x]) (.ref x) _ (k.trans gb) (c.born hx ⟨dx, accv, by rw [← hC]; exact upd_same, ra.mono fun _ _ q => q.go gb⟩ ?_) ⟨x, rfl, ?_⟩
    · show lows h.length (acc.map (·.2)) = true
      rw [← c.len]; exact krep_low ra
    · rw [← c.len, List.getElem?_append_right (Nat.le_refl _)]
      simp
  | (f, .arg i) :: r, acc, accv, ρ, h, H, hl, k, c, hx, nx, rs, ra, w => by
    have w : Wp g E κ ρ0 H0 ((match ds[i]? with
      | some d => inis ds r (putD f d acc) h
      | none => .bad).bind fun vs h1 => Oc.ok (.md h1.length) (h1 ++ [Cell.obj n vs])) Q := w
    cases q : ds[i]? with
    | none => rw [q] at w; exact absurd (show False from w) fun w => w
    | some d =>
      rw [q] at w
      obtain ⟨v, e1, r1⟩ := rs.get q
      have l2 := putD_len f d acc
      refine ⟨v, e1, by rw [krep_len ra]; simp at hl; omega, ?_⟩
      rw [upd_upd]
      exact ini_ok hC r _ _ ρ h H (by simp at hl; omega) k c hx nx rs (krep_putF r1 ra) w
  | (f, .int i) :: r, acc, accv, ρ, h, H, hl, k, c, hx, nx, rs, ra, w => by
    have l2 := putD_len f (.int i) acc
    refine ⟨by rw [krep_len ra]; simp at hl; omega, ?_⟩
    rw [upd_upd]
    exact ini_ok hC r _ _ ρ h H (by simp at hl; omega) k c hx nx rs (krep_putF (d := .int i) (v := .int i) rfl ra) w
  | (f, .dT) :: r, acc, accv, ρ, h, H, hl, k, c, hx, nx, rs, ra, w => fun q hq nb => by
    have nq : q ≠ x := fun z => by rw [z, upd_same] at hq; cases hq
    rw [upd_ne nq] at hq
    have l2 := putD_len f (.md h.length) acc
    refine ⟨by rw [krep_len ra]; simp at hl; omega, ?_⟩
    have gb := Go.born c hq (.ext (DTO g q []))
    have cb := c.born hq (u := .dT []) ⟨[], upd_same, nb, Nat.zero_le _, .nil⟩ rfl
    rw [upd_comm (fun z => nq z.symm), upd_upd]
    refine ini_ok hC r _ _ (ρ ++ [q]) _ _ (by simp at hl; omega) (k.trans gb) cb (by rw [upd_ne (fun z => nq z.symm)]; exact hx) nx (rs.go gb) (krep_putF (d := .md h.length) (v := .ref q) ⟨q, rfl, ?_⟩ (ra.mono fun _ _ z => z.go gb)) w
    rw [← c.len, List.getElem?_append_right (Nat.le_refl _)]; simp
  | (f, .dK) :: r, acc, accv, ρ, h, H, hl, k, c, hx, nx, rs, ra, w => fun q hq => by
    have nq : q ≠ x := fun z => by rw [z, upd_same] at hq; cases hq
    rw [upd_ne nq] at hq
    have l2 := putD_len f (.md h.length) acc
    refine ⟨by rw [krep_len ra]; simp at hl; omega, ?_⟩
    have gb := Go.born c hq (.dK [])
    have cb := c.born hq (u := .dK []) ⟨[], upd_same, .nil⟩ rfl
    rw [upd_comm (fun z => nq z.symm), upd_upd]
    refine ini_ok hC r _ _ (ρ ++ [q]) _ _ (by simp at hl; omega) (k.trans gb) cb (by rw [upd_ne (fun z => nq z.symm)]; exact hx) nx (rs.go gb) (krep_putF (d := .md h.length) (v := .ref q) ⟨q, rfl, ?_⟩ (ra.mono fun _ _ z => z.go gb)) w
    rw [← c.len, List.getElem?_append_right (Nat.le_refl _)]; simp
theorem p_mko {CX : CXT} {np k : Nat} {f : Addr} {fd : FuncData} {ps : List Str} {fs : List (Str × Ini)} (M : Mk X.K (g.cm c) f) (Fo : FnOk X.prog X.w X.K X.mg X.base CX k f fd ps (spI g (g.cm c) fs np)) (hr : Room (k + 1) X.A) (hg : Gl X x) (hm : X.mg x = some (.ref (g.cm c))) (hb : Binds X.K fd ps [])
    (hx : Passes CX X E0) (ha : PA X (e :: es) (RA g E0 fA)) (hl : ∀ env h ds h', fA env h = .ok ds h' → ds.length + 1 = np) (hf : fs.length ≤ 900) (hdb : (x == ("__debug__" : Str)) = false)
    (he : starEach (e :: es) X.env = (false, eval e X.env) :: starEach es X.env) (hpl : (backTo pos (starEach es X.env)).any (·.1) = false) :
    PE X (.Call (.Name x p) (e :: es) [] pos) (RE g E0 (dN (vMko c fs) fA)) := by
  refine PE.imp (pe_make M Fo hr hg hm hb .nil hx ha hdb he hpl) fun σ H Q w => ?_
  obtain ⟨κ, ρ, env, h, S, w⟩ := w
  refine ⟨κ, ρ, env, h, S, ?_⟩
  have hl := hl env h
  unfold dN at w
  revert w hl
  cases fA env h with
  | bad => exact fun w _ => w
  | ex x h' => exact fun w _ => w
  | ok ds h1 =>
    intro w hl ρ1 vs H1 k1 c1 r1 x dx hx hdx ne
    have hl := hl ds h1 rfl
    show spI g (g.cm c) fs np (.ref x :: (vs ++ [])) _ _ _
    rw [List.append_nil]
    have hd2 : upd H1 dx (.own x) x = none := by rw [upd_ne (fun z => ne z.symm)]; exact hx
    have gl := Go.laid c1 hdx (.own x)
    refine ⟨by rw [List.length_cons, r1.len]; exact hl, x, vs, dx, rfl, upd_same, ?_⟩
    have := ini_ok (dx := dx) (x := x) (E := E0) rfl (ρ0 := ρ) (H0 := H) (Q := Q) fs [] [] ρ1 h1 (upd H1 dx (.own x)) (by simpa using hf) (k1.trans gl) (c1.laid hdx _) hd2 (fun z => c1.fresh hx (k1.sub z)) (r1.go gl) .nil w
    refine iniV_imp (fun H' z => ⟨rfl, z⟩) fs [] _ this
end
end Q
end
section
namespace Q
open PySem PySem.Spec PyProof.Rows L2

/-! ## a def that a slot holds -/
section
variable {X : Cx} {g : G} {E : XK} {κ ρ ρ1 : List Addr} {H H1 : Hp} {env env1 : Ev} {σ : L2.St} {h h1 : Hh} {a o e : Expr} {es : List Expr} {fa fo : DE} {fA : DA} {pos p apos : Pos} {c : Nat} {x : Str}
theorem mem_of_lookup0 {κ α : Type} [BEq κ] [LawfulBEq κ] : ∀ {l : List (κ × α)} {x : κ} {a : α}, l.lookup x = some a → (x, a) ∈ l
  | [], _, _, h => by simp at h
  | (y, b) :: r, x, a, h => by
    rw [List.lookup_cons] at h
    split at h
    · rename_i e
      cases h
      rw [eq_of_beq e]; exact List.mem_cons_self ..
    · exact List.mem_cons_of_mem _ (mem_of_lookup0 h)
theorem p_callv {np i : Nat} {tb : List (Str × Nat)} {Φ : Tbl} {y : Str} {m : Bool} (ok : Okx g X)
    (A : ∀ x f, tb.lookup x = some f → ∃ fd ps k, FnOk X.prog X.w X.K X.mg X.base CX0 k (He.ga X.K x) fd ps (spF g np (Φ f)) ∧ PySem.W.keepIn X.K (.ref (He.ga X.K x)) = true ∧ Binds X.K fd ps [] ∧ Room k X.A)
    (hN : X.N[i]? = some y) (hv : Vis X.env.scope y) (ha : PA X (e :: es) (RA g E0 fA)) (hl : ∀ env h ds h', fA env h = .ok ds h' → ds.length = np) (hd : (y == ("__debug__" : Str)) = false) (hcd : (y == ("__classdict__" : Str)) = false)
    (he : starEach (e :: es) X.env = (false, eval e X.env) :: starEach es X.env) (hpl : (backTo pos (starEach es X.env)).any (·.1) = false) :
    PE X (.Call (.Name y p) (e :: es) [] pos) (RE g E0 (fun env h => match fnOf tb (env[i]?) with
      | some f => dN (Φ f m) fA env h
      | none => .bad)) := by
  refine ⟨fun pins s σ H Q I w => ?_⟩
  obtain ⟨κ, ρ, env, h, S, w⟩ := w
  have w : Wp g E0 κ ρ H (match fnOf tb (env[i]?) with
      | some f => dN (Φ f m) fA env h
      | none => .bad) Q := w
  split at w
  · rename_i f hf
    unfold fnOf at hf
    split at hf
    · rename_i x hx
      obtain ⟨v, e1, r⟩ := S.en.get hx
      obtain ⟨fd, ps, k, F, hk, hb, hr⟩ := A x f hf
      have r : v = .ref (He.ga g.K x) := r
      rw [← ok.K] at r
      subst r
      refine (pe_callL (i := i) (dvs := []) (E := E0) F hr hN hv hk hb .nil pass0 ha hd hcd he hpl).run pins s σ H Q I ⟨e1, ?_⟩
      refine ⟨κ, ρ, env, h, S, ?_⟩
      have hl := hl env h
      unfold dN at w
      revert w hl
      cases fA env h with
      | bad => exact fun w _ => w
      | ex x h' => exact fun w _ => w
      | ok ds h1 =>
        intro w hl ρ1 vs H1 k1 c1 r1
        have hl := hl ds h1 rfl
        show spF g np (Φ f) (vs ++ []) H1 Q E0
        rw [List.append_nil]
        exact ⟨by rw [r1.len]; exact hl, m, κ, ρ1, h1, ds, c1, r1, Wp.go k1 w⟩
    · cases hf
  · exact absurd (show False from w) fun w => w
/-- what is told of an own class of errors -/
structure ExOk (g : G) (X : Cx) (C : Nat) : Prop where
  ein : PySem.W.excIn X.K (g.cm C) He.veBase "ValueError.__new__" = true
  kp : PySem.W.keepIn X.K (.ref (g.cm C)) = true
  sub : PySem.W.subIn X.K (.ref (g.cm C)) (.type "BaseException") = some true
  ty : PySem.W.typeIn X.K (.ref (g.cm C)) = some (.type "type")
  is : ExcC X.K (g.cm C)
/-! ## errors -/
/-- what a def promises that may raise -/
def spX (g : G) (np : Nat) (F : Bool → List D → Hh → Oc D) : Sp := fun vs H Q E => vs.length = np ∧ ∃ m κ ρ h ds, CS g κ ρ h H ∧ Reps g.K κ ρ H ds vs ∧ Wp g E κ ρ H (F m ds h) Q
theorem PA.nox {es : List Expr} {t : TA} (h : PA X.nox es t) : PA X es t := ⟨fun pos pins s σ H Q I hw =>
  wpAny_mono (h.run pos pins s σ H Q (I.wish _) hw) (fun _ _ ⟨v, H', I', r, q⟩ => ⟨v, H', I'.unwish, r, q⟩) fun _ _ z => False.elim z⟩
/-- X(), X an own class of errors -/
theorem pmk_own0 {C : Addr} {bmB : List Value} {B newId initId : String} {x : Str} {p pos : Pos} (F : ExcBaseFacts B newId initId bmB) (q : PySem.W.excIn X.K C bmB newId = true) (gC : X.mg x = some (.ref C)) (kC : PySem.W.keepIn X.K (.ref C) = true) (r : Raises X (.ref C)) (hg : Gl X x)
    (hdb : (x == ("__debug__" : Str)) = false) : PMk X (.Call (.Name x p) [] [] pos) (fun _ H Q => Q (.ref C) none H) := by
  intro pins s σ H Q I h
  refine wpAny_Call_Name_kw (ld_glob I hg gC ?_ hdb)
  refine PySem.W.callWith_K0 I.kIn kC ?_
  show wpAny _ _ (call (.ref C) []) _ _ _
  obtain ⟨bm, N, nm, qn, bs, hdct, sn, sub, ab, col, dd, k0, k1, k2, k3, k5, mN, hC, hN, hni, T⟩ := exc_obj I.kIn q
  obtain ⟨hp1, g1, d1, tk1, os1⟩ := s
  refine wpAny_call_exc_subT F T hC hN hni (fun h' e hm => ?_) (by show 0 ≤ sizeLine; exact Nat.zero_le _)
  exact mk_of I hm r h (I.hok.gone hm.new)
/-- the suite: j = a if isinstance(e, C) else .. -/
theorem suite_is {ei j : Nat} {en jn cn : Str} {D0 ad : Addr} {oe : Obj} {pn : List (Addr × Obj)} {s1 s2 : Str} {k1 k2 : Nat} {p1 p2 p3 p4 p5 p6 p7 p8 p9 : Pos} (hN : X.N.Nodup) (hie : X.N[ei]? = some en) (hve : Vis X.env.scope en) (hj : X.N[j]? = some jn) (hlj : X.env.scope.names.lookup jn = some .local)
    (dn : (en == ("__debug__" : Str)) = false) (dc : (en == ("__classdict__" : Str)) = false) (gi : Gl X "isinstance") (mi : X.mg "isinstance" = none) (gc : Gl X cn) (mc : X.mg cn = some (.ref D0)) (dcn : (cn == ("__debug__" : Str)) = false) (xo : ExcC X.K D0)
    (hz : Zc (.ref D0) none oe) (hf : ∃ vs, oe.data = .fields vs) :
    PSs (X.suite ad ((ad, oe) :: pn)) [.Assign [.Name jn p1] (.IfExp (.Call (.Name "isinstance" p2) [.Name en p3, .Name cn p4] [] p5) (.Constant (.str s1) k1 p6) (.Constant (.str s2) k2 p7) p8) p9] (fun D σ H => σ[ei]? = some (some (.ref ad)) ∧ D.nx (σ.set j (some (.str s1))) H) := by
  have ha : PA (X.suite ad ((ad, oe) :: pn)) [.Name en p3, .Name cn p4] (tCons (tVar ei) (tCons (tC (.ref D0)) tNil)) := pa_cons (pe_var hie hve dn dc) (pa_cons (pe_glob (v := .ref D0) gc mc rfl dcn) pa_nil rfl) rfl
  have call := pe_callB (X := X.suite ad ((ad, oe) :: pn)) (p := p2) (pos := p5) (call_isE (pn := pn) xo hz hf) gi mi (by decide +kernel) ha (by decide) (by decide) rfl rfl
  refine PSs.imp (pss_one (ps_set (pos' := p1) (pos := p9) hN hj (.inl hlj) (pe_ifExp (pos := p8) (pt_val call fun _ => rfl) (pe_str (j := k1) (pos := p6)) (pe_str (j := k2) (pos := p7))) rfl (.inr hlj))) fun D σ H ⟨h1, h2⟩ => ?_
  refine ⟨.ref ad, h1, .ref D0, .ref D0, true, rfl, fun u e => e, ?_, true, rfl, h2⟩
  unfold PySem.W.kitOne
  rw [if_pos (beq_self_eq_true _)]
theorem PS.nox {x : Stmt} {t : TS} (h : PS X.nox x t) : PS X x t := ⟨fun pins s σ H D I hw =>
  wpAny_mono (h.run pins s σ H D (I.wish _) hw) (fun _ _ q => q.unwish) fun _ _ z => False.elim z⟩
theorem p_nx {x : Stmt} {f : DS} (p : PS X.nox x (RS g E0 f)) : PS X x (RS g E (fun env h => nxO (f env h))) :=
  PS.imp (PS.nox p) fun D σ H ⟨κ, ρ, env, h, S, w⟩ => ⟨κ, ρ, env, h, S, by
    have w : WpS g E κ ρ H (nxO (f env h)) D := w
    revert w
    cases f env h with
    | bad => exact fun w => w
    | ex x h' => exact fun w => absurd (show False from w) fun w => w
    | ok d h1 => exact fun w => w⟩
theorem p_ifr {C : Nat} {fc : DE} {cn : Str} {c : Expr} {p1 p2 p3 : Pos} (calm : X.calm = true) (tk : Takes X (fun cls d _ H => E cls d H)) (hc : PT X.nox c (RB g E0 (asB fc))) (gc : Gl X cn) (mc : X.mg cn = some (.ref (g.cm C))) (dcn : (cn == ("__debug__" : Str)) = false) (xo : ExOk g X C) :
    PS X (.If c [.Raise (some (.Call (.Name cn p1) [] [] p2)) none p3] [] pos) (RS g E (fun env h => (nxO (asB fc env h)).bind fun b h1 => if b then .ex ⟨C, none⟩ h1 else .ok (.next, env) h1)) := by
  refine PS.imp (ps_if hc.nox (pss_one (ps_raise calm tk (pmk_own0 PySem.F.excBase_ValueError xo.ein mc xo.kp (raises_own xo.sub xo.ty) gc dcn))) pss_nil) fun D σ H ⟨κ, ρ, env, h, S, w⟩ => ⟨κ, ρ, env, h, S, ?_⟩
  have w : WpS g E κ ρ H ((nxO (asB fc env h)).bind fun b h1 => if b then .ex ⟨C, none⟩ h1 else .ok (.next, env) h1) D := w
  revert w
  cases asB fc env h with
  | bad => exact fun w => absurd (show False from w) fun w => w
  | ex x h' => exact fun w => absurd (show False from w) fun w => w
  | ok b h1 =>
    intro w ρ1 H1 k1 c1
    cases b with
    | true => exact w ρ1 H1 _ none k1 c1 ⟨rfl, rfl⟩
    | false => exact w ρ1 σ H1 k1 c1 (S.en.go k1)
theorem env_try {ei j : Nat} {s1 : Str} {v : Option V} (hij : ei ≠ j) (en : EnvR g κ ρ H env σ) : EnvR g κ ρ H ((env.set ei none).set j (some (.str s1))) (((σ.set ei v).set j (some (.str s1))).set ei none) := by
  refine ⟨by simp [en.1], fun i d q => ?_⟩
  by_cases hj : j = i
  · subst hj
    by_cases hl : j < env.length
    · rw [List.getElem?_set_self (by simpa using hl)] at q
      cases q
      exact ⟨.str s1, by rw [List.getElem?_set_ne hij, List.getElem?_set_self (by simp [← en.1]; exact hl)], rfl⟩
    · rw [List.getElem?_eq_none (by simpa using hl)] at q; cases q
  · rw [List.getElem?_set_ne hj] at q
    by_cases hi : ei = i
    · subst hi
      by_cases hl : ei < env.length
      · rw [List.getElem?_set_self hl] at q; cases q
      · rw [List.getElem?_eq_none (by simpa using hl)] at q; cases q
    · rw [List.getElem?_set_ne hi] at q
      obtain ⟨u, h1, h2⟩ := en.2 i d q
      exact ⟨u, by rw [List.getElem?_set_ne hi, List.getElem?_set_ne hj, List.getElem?_set_ne hi]; exact h1, h2⟩
/-- try: f(..) except B as e: j = a if isinstance(e, C) else .. -/
theorem p_tryr {np k ei j C : Nat} {f : Addr} {fd : FuncData} {ps : List Str} {F : Bool → List D → Hh → Oc D} {en jn cn b y : Str} {B : Addr} {z : Expr} {zs : List Expr} {s1 s2 : Str} {k1 k2 : Nat} {q1 q2 q3 p1 p2 p3 p4 p5 p6 p7 p8 p9 p10 : Pos}
    (hs : X.stack = X.env :: X.outer) (hf : X.env.frame = some X.env.locals) (hN : X.N.Nodup) (hie : X.N[ei]? = some en) (hle : X.env.scope.names.lookup en = some .local) (hj : X.N[j]? = some jn) (hlj : X.env.scope.names.lookup jn = some .local) (hij : ei ≠ j)
    (dn : (en == ("__debug__" : Str)) = false) (dc : (en == ("__classdict__" : Str)) = false) (gi : Gl X "isinstance") (mi : X.mg "isinstance" = none) (gc : Gl X cn) (mc : X.mg cn = some (.ref (g.cm C))) (dcn : (cn == ("__debug__" : Str)) = false) (xo : ExOk g X C)
    (gb : Gl X b) (mb : X.mg b = some (.ref B)) (db : (b == ("__debug__" : Str)) = false) (hx : PySem.W.exmOne X.K (.ref (g.cm C)) (.ref B) = some true)
    (Fo : FnOk X.prog X.w X.K X.mg X.base (L2.CX X.prog X.w) k f fd ps (spX g np F)) (hr : Room k X.A) (gy : Gl X y) (my : X.mg y = some (.ref f)) (hk : PySem.W.keepIn X.K (.ref f) = true) (hb : Binds X.K fd ps []) (dy : (y == ("__debug__" : Str)) = false)
    (ha : ∀ pn, PA (X.tr pn (fun _ _ => False)) (z :: zs) (RA g E0 fA)) (hl : ∀ env h ds h', fA env h = .ok ds h' → ds.length = np)
    (he : starEach (z :: zs) X.env = (false, eval z X.env) :: starEach zs X.env) (hpl : (backTo p2 (starEach zs X.env)).any (·.1) = false) :
    PS X (.Try [.Expr (.Call (.Name y p1) (z :: zs) [] p2) p3] [.ExceptHandler (some (.Name b p4)) (some en) [.Assign [.Name jn p5] (.IfExp (.Call (.Name "isinstance" p6) [.Name en p7, .Name cn p8] [] p9) (.Constant (.str s1) k1 q1) (.Constant (.str s2) k2 q2) q3) p10] pos] [] [] p)
      (RS g E0 (fun env h => (fA env h).bind fun ds h1 => tryO ei j C s1 env (F false ds h1))) := by
  refine PS.imp (ps_try_as (X := X) (i := ei) (Wout := fun _ _ _ _ => False) (c := .ref B) (tb := fun W => tDrop (tCallS (spX g np F) (WE W) (RA g E0 fA)))
    (ts := fun ad cls d D σ H => cls = .ref (g.cm C) ∧ d = none ∧ σ[ei]? = some (some (.ref ad)) ∧ D.nx (σ.set j (some (.str s1))) H) hs hf hN hie hle ⟨gb, db, .inl mb⟩ takes0 (fun W pn xe tk _ => ?_) (fun ad oe cls d pn hz hfl => ?_)) fun D σ H ⟨κ, ρ, env, h, S, w⟩ => ?_
  · refine pss_one (ps_expr (pe_callS Fo hr gy my hk hb (fun σ => passAt tk σ) (PA.nox (X := X.tr pn xe) (ha pn)) dy he hpl) rfl)
  · refine ⟨fun pins s σ H D I h => ?_⟩
    obtain ⟨rfl, rfl, h1, h2⟩ := h
    exact (suite_is (pn := pn) hN hie (.inl hle) hj hlj dn dc gi mi gc mc dcn xo.is hz hfl).run pins s σ H D I ⟨h1, h2⟩
  · refine ⟨κ, ρ, env, h, S, ?_⟩
    have w : WpS g E0 κ ρ H ((fA env h).bind fun ds h1 => tryO ei j C s1 env (F false ds h1)) D := w
    have hl := hl env h
    revert w hl
    cases fA env h with
    | bad => exact fun w _ => absurd (show False from w) fun w => w
    | ex x h' => exact fun w _ => w
    | ok ds h1 =>
      intro w hl ρ1 vs H1 k1 c1 r1
      have hl := hl ds h1 rfl
      refine ⟨by rw [r1.len]; exact hl, false, κ, ρ1, h1, ds, c1, r1, ?_⟩
      have w : WpS g E0 κ ρ H (tryO ei j C s1 env (F false ds h1)) D := w
      revert w
      cases F false ds h1 with
      | bad => exact fun w => w
      | ok d h2 => exact fun w ρ2 v H2 k2 c2 r2 => w ρ2 σ H2 (k1.trans k2) c2 ((S.en.go k1).go k2)
      | ex x h2 =>
        intro w ρ2 H2 c dO k2 c2 xr
        have w : WpS g E0 κ ρ H (if x.cls = C ∧ x.arg.isNone = true ∧ ei < env.length then .ok (.next, (env.set ei none).set j (some (.str s1))) h2 else .bad) D := w
        split at w
        · rename_i hc
          obtain ⟨e1, e2, e4⟩ := hc
          obtain ⟨r1, r2⟩ := xr
          have e3 : dO = none := by
            cases q : x.arg with
            | none => rw [q] at r2; exact r2
            | some _ => rw [q] at e2; cases e2
          rw [e1] at r1
          refine ⟨true, by rw [r1]; exact hx, fun _ ad _ => ⟨r1, e3, ?_, ?_⟩, fun z => by cases z⟩
          · exact List.getElem?_set_self (by rw [← S.en.1]; exact e4)
          · exact w ρ2 _ H2 (k1.trans k2) c2 (env_try hij ((S.en.go k1).go k2))
        · exact absurd (show False from w) fun w => w
end
end Q
end
section
namespace Q
open PySem PySem.Spec PyProof.Rows L2

/-! ## what is known of a def's surroundings -/
structure SI where
  N : List Str
  sc : Scope
  fn : Str → Bool
  fns : List (Str × Nat × Nat)
  cst : List (Str × Int)
  blt : List Str
  mks : List (Str × Nat × List (Str × Ini) × Nat)
  cms : List ((Nat × Str) × Nat × Nat)
  fls : List (Nat × Str)
  top : Bool
  fxs : List (Str × Nat × Nat)
  exc : List (Str × Nat)
  exh : List (Str × Nat)
def SI.k (S : SI) (x : Str) : Option NameKind := S.sc.names.lookup x
def okName (x : Str) : Bool := !(x == ("__debug__" : Str)) && !(x == ("__classdict__" : Str))
def kVis : Option NameKind → Bool
  | some .local => true
  | some .cell => true
  | some .free => true
  | _ => false
def kLoc : Option NameKind → Bool
  | some .local => true
  | some .cell => true
  | _ => false
def kLocal : Option NameKind → Bool
  | some .local => true
  | _ => false
def kGlb : Option NameKind → Bool
  | some .globalImplicit => true
  | _ => false
def SI.here (S : SI) (i : Nat) (x : Str) : Bool := decide (S.N[i]? = some x)
def SI.rd (S : SI) (i : Nat) (x : Str) : Bool := S.here i x && kVis (S.k x) && okName x
def SI.st (S : SI) (i : Nat) (x : Str) : Bool := S.here i x && kLoc (S.k x) && (S.fn x || kLocal (S.k x))
def SI.bl (S : SI) (x y : Str) : Bool := x == y && S.blt.contains x && kGlb (S.k x)
def SI.blk (S : SI) (scope : Scope) : SI := { S with sc := relS scope S.sc, fn := fun x => scope.names.lookup x == some .cell, top := false }
structure Fit (g : G) (Φ : Tbl) (S : SI) (X : Cx) : Prop where
  ok : Okx g X
  xe : X.xe = fun _ _ => False
  N : X.N = S.N
  nd : S.N.Nodup
  sc : X.env.scope = S.sc
  kind : S.sc.kind = .function
  fn : ∀ x, S.fn x = true → X.fn x = true
  fns : ∀ x f np, S.fns.lookup x = some (f, np) → ∃ a fd ps k, X.mg x = some (.ref a) ∧ PySem.W.keepIn X.K (.ref a) = true ∧ Binds X.K fd ps [] ∧ FnOk X.prog X.w X.K X.mg X.base CX0 k a fd ps (spF g np (Φ f)) ∧ Room k X.A ∧ a = He.ga X.K x
  cst : ∀ x i, S.cst.lookup x = some i → ∃ t, X.mg x = some (.int i t)
  blt : ∀ x, S.blt.contains x = true → X.mg x = none
  mks : ∀ x c fs np, S.mks.lookup x = some (c, fs, np) → ∃ a fd ps k, X.mg x = some (.ref (g.cm c)) ∧ Mk X.K (g.cm c) a ∧ Binds X.K fd ps [] ∧ FnOk X.prog X.w X.K X.mg X.base CX0 k a fd ps (spI g (g.cm c) fs np) ∧ Room (k + 1) X.A
  cms : ∀ c x f np, S.cms.lookup (c, x) = some (f, np) → Cls X.K (g.cm c) ∧ ∃ a fd ps k, Meth X.K (g.cm c) x a ∧ Binds X.K fd ps [] ∧ FnOk X.prog X.w X.K X.mg X.base CX0 k a fd ps (spF g np (Φ f)) ∧ Room k X.A
  fls : ∀ c x, S.fls.contains (c, x) = true → Cls X.K (g.cm c) ∧ NoAttr X.K (g.cm c) x
  stk : S.top = true → X.stack = X.env :: X.outer ∧ X.env.frame = some X.env.locals
  fxs : ∀ x f np, S.fxs.lookup x = some (f, np) → ∃ a fd ps k, X.mg x = some (.ref a) ∧ PySem.W.keepIn X.K (.ref a) = true ∧ Binds X.K fd ps [] ∧ FnOk X.prog X.w X.K X.mg X.base (L2.CX X.prog X.w) k a fd ps (spX g np (Φ f)) ∧ Room k X.A
  exc : ∀ x C, S.exc.lookup x = some C → X.mg x = some (.ref (g.cm C)) ∧ ExOk g X C
  exh : ∀ x C, S.exh.contains (x, C) = true → ∃ a, X.mg x = some (.ref a) ∧ PySem.W.exmOne X.K (.ref (g.cm C)) (.ref a) = some true
theorem kVis_ok {sc : Scope} {x : Str} (h : kVis (sc.names.lookup x) = true) : Vis sc x := by
  unfold Vis
  generalize sc.names.lookup x = k at h
  cases k with
  | none => cases h
  | some k => cases k <;> first | exact .inl rfl | exact .inr (.inl rfl) | exact .inr (.inr rfl) | cases h
theorem kLoc_ok {sc : Scope} {x : Str} (h : kLoc (sc.names.lookup x) = true) : L2.Loc sc x := by
  unfold L2.Loc
  generalize sc.names.lookup x = k at h
  cases k with
  | none => cases h
  | some k => cases k <;> first | exact .inl rfl | exact .inr rfl | cases h
theorem kLocal_ok {k : Option NameKind} (h : kLocal k = true) : k = some .local := by
  cases k with
  | none => cases h
  | some k => cases k <;> first | rfl | cases h
theorem kGlb_ok {k : Option NameKind} (h : kGlb k = true) : k = some .globalImplicit := by
  cases k with
  | none => cases h
  | some k => cases k <;> first | rfl | cases h
section
variable {g : G} {Φ : Tbl} {S : SI} {X : Cx} {x : Str} {i : Nat}
theorem Fit.here (F : Fit g Φ S X) (h : S.here i x = true) : X.N[i]? = some x := by rw [F.N]; exact of_decide_eq_true h
theorem Fit.vis (F : Fit g Φ S X) (h : kVis (S.k x) = true) : Vis X.env.scope x := by rw [F.sc]; exact kVis_ok h
theorem Fit.loc (F : Fit g Φ S X) (h : kLoc (S.k x) = true) : L2.Loc X.env.scope x := by rw [F.sc]; exact kLoc_ok h
theorem Fit.lcl (F : Fit g Φ S X) (h : kLocal (S.k x) = true) : X.env.scope.names.lookup x = some .local := by rw [F.sc]; exact kLocal_ok h
theorem Fit.gl (F : Fit g Φ S X) (h : kGlb (S.k x) = true) : Gl X x := by
  show X.env.scope.names.lookup x = some .globalImplicit
  rw [F.sc]; exact kGlb_ok h
theorem Fit.nodup (F : Fit g Φ S X) : X.N.Nodup := by rw [F.N]; exact F.nd
theorem okName_ok (h : okName x = true) : (x == ("__debug__" : Str)) = false ∧ (x == ("__classdict__" : Str)) = false := by
  unfold okName at h
  rw [Bool.and_eq_true, Bool.not_eq_true', Bool.not_eq_true'] at h
  exact h
theorem Fit.bl (F : Fit g Φ S X) {y : Str} (h : S.bl x y = true) : x = y ∧ Gl X x ∧ X.mg x = none := by
  unfold SI.bl at h
  rw [Bool.and_eq_true, Bool.and_eq_true] at h
  exact ⟨eq_of_beq h.1.1, F.gl h.2, F.blt x h.1.2⟩
theorem Fit.pass (F : Fit g Φ S X) : PassesOwn (model X.prog X.w) X.A X.env X.xe := by rw [F.xe]; exact .never
/-- within a comprehension -/
theorem Fit.blk (F : Fit g Φ S X) (scope : Scope) (hk : scope.kind = .function) (s : Shared) (H : Hp) (C : Addr) (cl : List (Str × Addr)) (fp : List Addr) : Fit g Φ (S.blk scope) (X.blk s H scope (compEnvC scope cl C X.env) fp) where
  ok := ⟨F.ok.K, F.ok.P, F.ok.w, F.ok.u, F.ok.calm⟩
  xe := rfl
  N := F.N
  nd := F.nd
  sc := by
    show relabel scope X.env = relS scope S.sc
    rw [← F.sc]
    rfl
  kind := hk
  fn := fun x h => h
  fns := F.fns
  cst := F.cst
  blt := F.blt
  mks := F.mks
  cms := F.cms
  fls := F.fls
  stk := fun h => absurd (show false = true from h) (by decide)
  fxs := F.fxs
  exc := fun x C h => let ⟨h1, h2⟩ := F.exc x C h; ⟨h1, ⟨h2.ein, h2.kp, h2.sub, h2.ty, h2.is⟩⟩
  exh := F.exh
end

/-! ## the tree of the text against the own one -/
def asCall : Expr → Option (Str × List Expr)
  | .Call (.Name x _) args [] _ => some (x, args)
  | _ => none
theorem asCall_ok {e : Expr} {x : Str} {as : List Expr} (h : asCall e = some (x, as)) : ∃ p pos, e = .Call (.Name x p) as [] pos := by
  unfold asCall at h
  split at h
  · cases h; exact ⟨_, _, rfl⟩
  · cases h
def asMeth : Expr → Option (Expr × Str × List Expr × Bool)
  | .Call (.Attribute o x ap) args [] cp => some (o, x, args, ap.endLine == cp.line)
  | _ => none
theorem asMeth_ok {e o : Expr} {x : Str} {as : List Expr} {b : Bool} (h : asMeth e = some (o, x, as, b)) : ∃ ap cp, e = .Call (.Attribute o x ap) as [] cp ∧ (ap.endLine == cp.line) = b := by
  unfold asMeth at h
  split at h
  · cases h; exact ⟨_, _, rfl, rfl⟩
  · cases h
def asName : Expr → Option Str
  | .Name x _ => some x
  | _ => none
theorem asName_ok {e : Expr} {x : Str} (h : asName e = some x) : ∃ p, e = .Name x p := by
  unfold asName at h
  split at h
  · cases h; exact ⟨_, rfl⟩
  · cases h
def cks (f : E → Expr → Bool) : List E → List Expr → Bool
  | [], [] => true
  | e :: es, x :: xs => notStar x && f e x && cks f es xs
  | _, _ => false
def ckO (f : E → Expr → Bool) : Option E → Option Expr → Bool
  | none, none => true
  | some e, some x => f e x
  | _, _ => false
def bopIs : Bop → Operator → Bool
  | .add, .Add => true
  | .sub, .Sub => true
  | .mul, .Mult => true
  | .fdiv, .FloorDiv => true
  | .mod, .Mod => true
  | .pow, .Pow => true
  | _, _ => false
def copIs : Cop → CmpOp → Bool
  | .eq, .Eq => true
  | .ne, .NotEq => true
  | .lt, .Lt => true
  | .le, .LtE => true
  | .gt, .Gt => true
  | .ge, .GtE => true
  | .is, .Is => true
  | .isnot, .IsNot => true
  | .isin, .In => true
  | .notin, .NotIn => true
  | _, _ => false
def tyStr (t : Ty) : Str := Str.ofString (tyName t)
def bltStr : Blt → Str
  | .len => "len" | .tuple => "tuple" | .list => "list" | .sorted => "sorted" | .min => "min" | .max => "max" | .sum => "sum" | .abs => "abs" | .int => "int" | .str => "str" | .dict => "dict"
def mthStr : Mth → Str
  | .append => "append" | .pop => "pop" | .index => "index" | .keys => "keys" | .get => "get" | .count => "count" | .values => "values" | .items => "items" | .join => "join" | .split => "split" | .replace => "replace" | .insert => "insert"
def bltOk : Blt → Bool
  | .str => false
  | .dict => false
  | _ => true
def mthOk : Mth → Bool
  | .append => true | .pop => true | .index => true | .get => true | .count => true
  | _ => false
def ckTys (S : SI) : List Ty → List Expr → Bool
  | [], [] => true
  | t :: ts, x :: xs => (match asName x with | some y => S.bl y (tyStr t) | none => false) && ckTys S ts xs
  | _, _ => false
def ckI (S : SI) (f : E → Expr → Bool) (tg : Expr) : I → Expr → Bool
  | .rng1 a, x => match asCall x with
    | some (y, [b]) => S.bl y "range" && notStar b && f a b
    | _ => false
  | .rng2 a a2, x => match asCall x with
    | some (y, [b, b2]) => S.bl y "range" && notStar b && notStar b2 && f a b && f a2 b2
    | _ => false
  | .enum a, x => isTupE tg && match asCall x with
    | some (y, [b]) => S.bl y "enumerate" && notStar b && f a b
    | _ => false
  | .zip a a2, x => isTupE tg && match asCall x with
    | some (y, [b, b2]) => S.bl y "zip" && notStar b && notStar b2 && f a b && f a2 b2
    | _ => false
  | .seq a, x => f a x
  | .keys a, x => match asMeth x with
    | some (o, y, [], b) => b && y == ("keys" : Str) && noCall o && f a o
    | _ => false
  | .vals a, x => match asMeth x with
    | some (o, y, [], b) => b && y == ("values" : Str) && noCall o && f a o
    | _ => false
  | .items a, x => isTupE tg && match asMeth x with
    | some (o, y, [], b) => b && y == ("items" : Str) && noCall o && f a o
    | _ => false
mutual
def ckT (S : SI) (f : E → Expr → Bool) : T → Expr → Bool
  | .nm i, .Name x _ => S.st i x
  | .tup ts, .Tuple xs _ _ => ckTs S f ts xs
  | .sub a i, .Subscript o j _ => plainIx j && f a o && f i j
  | _, _ => false
def ckTs (S : SI) (f : E → Expr → Bool) : List T → List Expr → Bool
  | [], [] => true
  | t :: ts, x :: xs => notStar x && ckT S f t x && ckTs S f ts xs
  | _, _ => false
end
mutual
/-- names only, all among vs -/
def ckV (S : SI) (vs : List Nat) : T → Expr → Bool
  | .nm i, .Name x _ => S.st i x && vs.contains i
  | .tup ts, .Tuple xs _ _ => ckVs S vs ts xs
  | _, _ => false
def ckVs (S : SI) (vs : List Nat) : List T → List Expr → Bool
  | [], [] => true
  | t :: ts, x :: xs => notStar x && ckV S vs t x && ckVs S vs ts xs
  | _, _ => false
end
def SI.own (S : SI) (own : List Nat) : List (Str × Nat) := own.map fun i => ((S.N[i]?).getD ("" : Str), i)
def k_var (F : SI → E → Expr → Bool) (S : SI) (i : Nat) (x : Expr) : Bool := match asName x with
  | some y => S.rd i y
  | none => false
def k_non (F : SI → E → Expr → Bool) (S : SI) (x : Expr) : Bool := match x with
  | .Constant .none _ _ => true
  | _ => false
def k_bl (F : SI → E → Expr → Bool) (S : SI) (b : Bool) (x : Expr) : Bool := match x with
  | .Constant (.bool c) _ _ => b == c
  | _ => false
def k_int (F : SI → E → Expr → Bool) (S : SI) (i : Int) (x : Expr) : Bool := match x with
  | .Constant (.int j) _ _ => i == j
  | _ => false
def k_str (F : SI → E → Expr → Bool) (S : SI) (s : Str) (x : Expr) : Bool := match x with
  | .Constant (.str r) _ _ => s == r
  | _ => false
def k_glo (F : SI → E → Expr → Bool) (S : SI) (y : Str) (i : Int) (x : Expr) : Bool := match asName x with
  | some z => y == z && kGlb (S.k y) && decide (S.cst.lookup y = some i) && okName y
  | none => false
def k_bin (F : SI → E → Expr → Bool) (S : SI) (op : Bop) (a : E) (b : E) (x : Expr) : Bool := match x with
  | .BinOp y o z _ => bopIs op o && F S a y && F S b z
  | _ => false
def k_neg (F : SI → E → Expr → Bool) (S : SI) (a : E) (x : Expr) : Bool := match x with
  | .UnaryOp .USub y _ => F S a y
  | _ => false
def k_nt (F : SI → E → Expr → Bool) (S : SI) (a : E) (x : Expr) : Bool := match x with
  | .UnaryOp .Not y _ => F S a y
  | _ => false
def k_and (F : SI → E → Expr → Bool) (S : SI) (a : E) (b : E) (x : Expr) : Bool := match x with
  | .BoolOp .And (y :: z :: r) pos => F S a y && (match r with
    | [] => F S b z
    | _ => F S b (.BoolOp .And (z :: r) pos))
  | _ => false
def k_or (F : SI → E → Expr → Bool) (S : SI) (a : E) (b : E) (x : Expr) : Bool := match x with
  | .BoolOp .Or (y :: z :: r) pos => F S a y && (match r with
    | [] => F S b z
    | _ => F S b (.BoolOp .Or (z :: r) pos))
  | _ => false
def k_cmp (F : SI → E → Expr → Bool) (S : SI) (op : Cop) (a : E) (b : E) (x : Expr) : Bool := match x with
  | .Compare y [o] [z] _ => copIs op o && notSet z && F S a y && F S b z
  | _ => false
def k_chain (F : SI → E → Expr → Bool) (S : SI) (o1 : Cop) (o2 : Cop) (a : E) (b : E) (c : E) (x : Expr) : Bool := match x with
  | .Compare y [p1, p2] [z, u] _ => copIs o1 p1 && copIs o2 p2 && notSet u && F S a y && F S b z && F S c u
  | _ => false
def k_chain3 (F : SI → E → Expr → Bool) (S : SI) (o1 : Cop) (o2 : Cop) (o3 : Cop) (a : E) (b : E) (c : E) (d : E) (x : Expr) : Bool := match x with
  | .Compare y [p1, p2, p3] [z, u, v] _ => copIs o1 p1 && copIs o2 p2 && copIs o3 p3 && notSet v && F S a y && F S b z && F S c u && F S d v
  | _ => false
def k_ife (F : SI → E → Expr → Bool) (S : SI) (c : E) (a : E) (b : E) (x : Expr) : Bool := match x with
  | .IfExp u y z _ => F S c u && F S a y && F S b z
  | _ => false
def k_tup (F : SI → E → Expr → Bool) (S : SI) (es : List E) (x : Expr) : Bool := match x with
  | .Tuple xs _ _ => cks (F S) es xs
  | _ => false
def k_lst (F : SI → E → Expr → Bool) (S : SI) (es : List E) (x : Expr) : Bool := match x with
  | .List xs _ => cks (F S) es xs
  | _ => false
def k_isi (F : SI → E → Expr → Bool) (S : SI) (a : E) (one : Bool) (ts : List Ty) (x : Expr) : Bool := match asCall x with
  | some (y, [b, c]) => S.bl y "isinstance" && notStar b && notStar c && F S a b && (match one, ts, c with
    | true, [t], .Name z _ => S.bl z (tyStr t)
    | false, t :: ts, .Tuple zs _ _ => decide (ts.length ≤ 50) && ckTys S (t :: ts) zs
    | _, _, _ => false)
  | _ => false
def k_call (F : SI → E → Expr → Bool) (S : SI) (f : Nat) (es : List E) (x : Expr) : Bool := match asCall x with
  | some (y, xs) => kGlb (S.k y) && okName y && decide (S.fns.lookup y = some (f, es.length)) && xs.all notStar && cks (F S) es xs
  | none => false
def k_blt (F : SI → E → Expr → Bool) (S : SI) (f : Blt) (es : List E) (x : Expr) : Bool := match asCall x with
  | some (y, xs) => bltOk f && S.bl y (bltStr f) && xs.all notStar && !xs.isEmpty && cks (F S) es xs
  | none => false
def k_mth (F : SI → E → Expr → Bool) (S : SI) (f : Mth) (o : E) (es : List E) (x : Expr) : Bool := match asMeth x with
  | some (o', y, xs, b) => b && mthOk f && y == mthStr f && noCall o' && decide (xs.length < 20) && xs.all notStar && F S o o' && cks (F S) es xs
  | none => false
def k_fld (F : SI → E → Expr → Bool) (S : SI) (c : Nat) (x : Str) (a : E) (ex : Expr) : Bool := match ex with
  | .Attribute y z _ => x == z && S.fls.contains (c, x) && noCall y && F S a y
  | _ => false
def k_cm (F : SI → E → Expr → Bool) (S : SI) (c : Nat) (x : Str) (f : Nat) (o : E) (es : List E) (ex : Expr) : Bool := match asMeth ex with
  | some (o', y, xs, b) => b && x == y && decide (S.cms.lookup (c, x) = some (f, es.length + 1)) && noCall o' && decide (xs.length < 20) && xs.all notStar && F S o o' && cks (F S) es xs
  | none => false
def k_fnv (F : SI → E → Expr → Bool) (S : SI) (y : Str) (x : Expr) : Bool := match asName x with
  | some z => y == z && kGlb (S.k y) && (S.fns.lookup y).isSome && okName y
  | none => false
def k_callv (F : SI → E → Expr → Bool) (S : SI) (i : Nat) (tb : List (Str × Nat)) (es : List E) (x : Expr) : Bool := match asCall x with
  | some (y, xs) => S.rd i y && tb.all (fun p => decide (S.fns.lookup p.1 = some (p.2, es.length))) && xs.all notStar && !xs.isEmpty && cks (F S) es xs
  | none => false
def k_mko (F : SI → E → Expr → Bool) (S : SI) (c : Nat) (fs : List (Str × Ini)) (es : List E) (ex : Expr) : Bool := match asCall ex with
  | some (y, xs) => kGlb (S.k y) && okName y && decide (S.mks.lookup y = some (c, fs, es.length + 1)) && xs.all notStar && !xs.isEmpty && decide (fs.length ≤ 900) && cks (F S) es xs
  | none => false
def k_rg1 (F : SI → E → Expr → Bool) (S : SI) (a : E) (x : Expr) : Bool := match asCall x with
  | some (u, [b]) => S.bl u "range" && notStar b && F S a b
  | _ => false
def k_rg2 (F : SI → E → Expr → Bool) (S : SI) (a a2 : E) (x : Expr) : Bool := match asCall x with
  | some (u, [b, b2]) => S.bl u "range" && notStar b && notStar b2 && F S a b && F S a2 b2
  | _ => false
def k_lrg (F : SI → E → Expr → Bool) (S : SI) (a : E) (x : Expr) : Bool := match asCall x with
  | some (y, [z]) => S.bl y "list" && k_rg1 F S a z
  | _ => false
def k_lrg2 (F : SI → E → Expr → Bool) (S : SI) (a a2 : E) (x : Expr) : Bool := match asCall x with
  | some (y, [z]) => S.bl y "list" && k_rg2 F S a a2 z
  | _ => false
def k_trg (F : SI → E → Expr → Bool) (S : SI) (a : E) (x : Expr) : Bool := match asCall x with
  | some (y, [z]) => S.bl y "tuple" && k_rg1 F S a z
  | _ => false
def k_trg2 (F : SI → E → Expr → Bool) (S : SI) (a a2 : E) (x : Expr) : Bool := match asCall x with
  | some (y, [z]) => S.bl y "tuple" && k_rg2 F S a a2 z
  | _ => false
def k_rg3 (F : SI → E → Expr → Bool) (S : SI) (a a2 a3 : E) (x : Expr) : Bool := match asCall x with
  | some (u, [b, b2, b3]) => S.bl u "range" && [b, b2, b3].all notStar && cks (F S) [a, a2, a3] [b, b2, b3]
  | _ => false
def k_trg3 (F : SI → E → Expr → Bool) (S : SI) (a a2 a3 : E) (x : Expr) : Bool := match asCall x with
  | some (y, [z]) => S.bl y "tuple" && k_rg3 F S a a2 a3 z
  | _ => false
def k_keys (F : SI → E → Expr → Bool) (S : SI) (a : E) (x : Expr) : Bool := match asMeth x with
  | some (o, y, [], b) => b && y == ("keys" : Str) && noCall o && F S a o
  | _ => false
def k_vw (F : SI → E → Expr → Bool) (S : SI) (f : Str) (a : E) (x : Expr) : Bool := match asCall x with
  | some (y, [z]) => S.bl y f && k_keys F S a z
  | _ => false
def k_vals (F : SI → E → Expr → Bool) (S : SI) (a : E) (x : Expr) : Bool := match asMeth x with
  | some (o, y, [], b) => b && y == ("values" : Str) && noCall o && F S a o
  | _ => false
def k_vwv (F : SI → E → Expr → Bool) (S : SI) (f : Str) (a : E) (x : Expr) : Bool := match asCall x with
  | some (y, [z]) => S.bl y f && k_vals F S a z
  | _ => false
def k_dpr (F : SI → E → Expr → Bool) (S : SI) (a : E) (x : Expr) : Bool := match asCall x with
  | some (y, [z]) => S.bl y "dict" && notStar z && F S a z
  | _ => false
def k_set (F : SI → E → Expr → Bool) (S : SI) (a : E) (x : Expr) : Bool := match asCall x with
  | some (y, [z]) => S.bl y "set" && notStar z && F S a z
  | _ => false
def k_st (F : SI → E → Expr → Bool) (S : SI) (f : Str) (a : E) (x : Expr) : Bool := match asCall x with
  | some (y, [z]) => S.bl y f && k_set F S a z
  | _ => false
def k_srtl (F : SI → E → Expr → Bool) (S : SI) (a : E) (x : Expr) : Bool := match x with
  | .Call (.Name y _) [z] [⟨some k, .Name l _, _⟩] _ => S.bl y "sorted" && k == ("key" : Str) && S.bl l "len" && notStar z && F S a z
  | _ => false
def k_dsp (F : SI → E → Expr → Bool) (S : SI) (ks vs : List E) (x : Expr) : Bool := match x with
  | .Dict [some y] [z] _ => (match ks, vs with
    | [k], [v] => F S k y && F S v z
    | _, _ => false)
  | _ => false
def k_ix (F : SI → E → Expr → Bool) (S : SI) (a : E) (i : E) (x : Expr) : Bool := match x with
  | .Subscript y j _ => plainIx j && F S a y && F S i j
  | _ => false
def k_sl (F : SI → E → Expr → Bool) (S : SI) (a : E) (lo : Option E) (hi : Option E) (x : Expr) : Bool := match x with
  | .Subscript y (.Slice l u none _) _ => F S a y && ckO (F S) lo l && ckO (F S) hi u
  | _ => false
def k_rev (F : SI → E → Expr → Bool) (S : SI) (a : E) (x : Expr) : Bool := match x with
  | .Subscript y (.Slice none none (some (.UnaryOp .USub (.Constant (.int 1) _ _) _)) _) _ => F S a y
  | _ => false
def k_dnew (F : SI → E → Expr → Bool) (S : SI) (x : Expr) : Bool := match x with
  | .Dict [] [] _ => true
  | _ => false
def k_lc (F : SI → E → Expr → Bool) (S : SI) (own : List Nat) (t : T) (it : I) (ifs : List E) (e : E) (x : Expr) : Bool := match x with
  | .ListComp elt [⟨tg, iter, ifs', 0⟩] scope _ => blkC S.N S.sc scope (S.own own) && notSet iter && ckI S (F S) tg it iter && ckV (S.blk scope) own t tg && cks (F (S.blk scope)) ifs ifs' && decide (ifs.length ≤ 1) && F (S.blk scope) e elt
  | _ => false
def k_lc2 (F : SI → E → Expr → Bool) (S : SI) (own : List Nat) (own1 : List Nat) (t : T) (it : I) (ifs : List E) (t1 : T) (it1 : I) (ifs1 : List E) (e : E) (x : Expr) : Bool := match x with
  | .ListComp elt [⟨tg, iter, ifs', 0⟩, ⟨tg1, iter1, ifs1', 0⟩] scope _ => blkC S.N S.sc scope (S.own own) && own1.all (fun i => own.contains i) && notSet iter && notSet iter1 && ckI S (F S) tg it iter && ckV (S.blk scope) own t tg && cks (F (S.blk scope)) ifs ifs' && decide (ifs.length ≤ 1) &&
      ckI (S.blk scope) (F (S.blk scope)) tg1 it1 iter1 && ckV (S.blk scope) own1 t1 tg1 && cks (F (S.blk scope)) ifs1 ifs1' && decide (ifs1.length ≤ 1) && F (S.blk scope) e elt
  | _ => false
def ckStep (F : SI → E → Expr → Bool) (S : SI) (e : E) (x : Expr) : Bool := match e with
  | .dead => true
  | .var i => k_var F S i x
  | .non => k_non F S x
  | .bl b => k_bl F S b x
  | .int i => k_int F S i x
  | .str s => k_str F S s x
  | .glo y i => k_glo F S y i x
  | .bin _ op a b => k_bin F S op a b x
  | .neg a => k_neg F S a x
  | .nt a => k_nt F S a x
  | .and a b => k_and F S a b x
  | .or a b => k_or F S a b x
  | .cmp op a b => k_cmp F S op a b x
  | .chain o1 o2 a b c => k_chain F S o1 o2 a b c x
  | .chain3 o1 o2 o3 a b c d => k_chain3 F S o1 o2 o3 a b c d x
  | .ife c a b => k_ife F S c a b x
  | .tup es => k_tup F S es x
  | .lst _ es => k_lst F S es x
  | .isi a one ts => k_isi F S a one ts x
  | .call f _ es => k_call F S f es x
  | .blt f _ es => k_blt F S f es x
  | .mth f _ o es => k_mth F S f o es x
  | .lrg _ a => k_lrg F S a x
  | .lrg2 _ a a2 => k_lrg2 F S a a2 x
  | .trg a => k_trg F S a x
  | .trg2 a b => k_trg2 F S a b x
  | .trg3 a b c => k_trg3 F S a b c x
  | .srtk _ a => k_vw F S "sorted" a x
  | .lenk a => k_vw F S "len" a x
  | .srts _ a => k_st F S "sorted" a x
  | .lens a => k_st F S "len" a x
  | .srtl _ a => k_srtl F S a x
  | .mink a => k_vw F S "min" a x
  | .maxv a => k_vwv F S "max" a x
  | .dpr a => k_dpr F S a x
  | .dsp _ ks vs => k_dsp F S ks vs x
  | .ix a i => k_ix F S a i x
  | .sl _ a lo hi => k_sl F S a lo hi x
  | .rev _ a => k_rev F S a x
  | .dnew _ => k_dnew F S x
  | .fld c y a => k_fld F S c y a x
  | .cm c y f _ o es => k_cm F S c y f o es x
  | .mko c fs es => k_mko F S c fs es x
  | .fnv y => k_fnv F S y x
  | .callv i tb _ es => k_callv F S i tb es x
  | .lc _ own t it ifs e => k_lc F S own t it ifs e x
  | .lc2 _ own own1 t it ifs t1 it1 ifs1 e => k_lc2 F S own own1 t it ifs t1 it1 ifs1 e x
def ck : Nat → SI → E → Expr → Bool
  | 0 => fun _ _ _ => false
  | n + 1 => ckStep (ck n)
end Q
end
section
namespace Q
open PySem PySem.Spec PyProof.Rows L2

section
variable {g : G} {Φ : Tbl} {S : SI} {X : Cx}
theorem and2 {a b : Bool} (h : (a && b) = true) : a = true ∧ b = true := by rwa [Bool.and_eq_true] at h
/-- what is shown of an expression -/
structure Snd (g : G) (Φ : Tbl) (n : Nat) : Prop where
  e : ∀ {S : SI} {e : E} {x : Expr} {X : Cx}, ck n S e x = true → Fit g Φ S X → PE X x (RE g E0 (ev Φ n e))
  t : ∀ {S : SI} {e : E} {x : Expr} {X : Cx}, ck n S e x = true → Fit g Φ S X → PT X x (RB g E0 (asB (ev Φ n e)))
  w : ∀ {S : SI} {e : E} {op : BoolOp} {y : Expr} {r : List Expr} {pos : Pos} {X : Cx}, ck n S e (.BoolOp op (y :: r) pos) = true → Fit g Φ S X → PW X (.BoolOp op (y :: r) pos) (RB g E0 (asB (ev Φ n e)))
theorem cks_ok {n : Nat} (s : Snd g Φ n) (F : Fit g Φ S X) : ∀ {es : List E} {xs : List Expr}, cks (ck n S) es xs = true → PA X xs (RA g E0 (evs (ev Φ n) es)) ∧ xs.all notStar = true ∧ xs.length = es.length
  | [], [], _ => ⟨p_nil, rfl, rfl⟩
  | [], _ :: _, h => by cases h
  | _ :: _, [], h => by cases h
  | e :: es, x :: xs, h => by
    unfold cks at h
    obtain ⟨h12, h3⟩ := and2 h
    obtain ⟨h1, h2⟩ := and2 h12
    obtain ⟨q1, q2, q3⟩ := cks_ok s F h3
    exact ⟨p_cons (s.e h2 F) q1 (star1 h1), by rw [List.all_cons, h1, q2]; rfl, by rw [List.length_cons, List.length_cons, q3]⟩
theorem ckO_ok {n : Nat} (s : Snd g Φ n) (F : Fit g Φ S X) : ∀ {e : Option E} {x : Option Expr}, ckO (ck n S) e x = true → PO X x (RO g E0 (evOpt (ev Φ n) e))
  | none, none, _ => p_onone
  | some e, some x, h => p_osome (s.e h F)
  | none, some _, h => by cases h
  | some _, none, h => by cases h
theorem ckTs_ok {n : Nat} (s : Snd g Φ n) (F : Fit g Φ S X) : True := trivial
mutual
theorem ckT_ok {n : Nat} (s : Snd g Φ n) (F : Fit g Φ S X) : ∀ {t : T} {x : Expr}, ckT S (ck n S) t x = true → PG X x (RG g E0 (evT (ev Φ n) t))
  | .nm i, x, h => by
    cases x with
    | Name y p =>
      unfold ckT SI.st at h
      obtain ⟨h12, h3⟩ := and2 h
      obtain ⟨h1, h2⟩ := and2 h12
      refine p_nm F.nodup (F.here h1) (F.loc h2) ?_
      rw [Bool.or_eq_true] at h3
      exact h3.imp (F.fn y) F.lcl
    | _ => unfold ckT at h; cases h
  | .tup ts, x, h => by
    cases x with
    | Tuple xs k p =>
      unfold ckT at h
      obtain ⟨q1, q2, q3⟩ := ckTs_ok' s F h
      obtain ⟨l1, l2⟩ := asgL (env := X.env) q2
      exact p_gtup F.ok q1 (by rw [l1]; exact q3) l2
    | _ => unfold ckT at h; cases h
  | .sub a i, x, h => by
    cases x with
    | Subscript o j p =>
      unfold ckT at h
      obtain ⟨h12, h3⟩ := and2 h
      obtain ⟨h1, h2⟩ := and2 h12
      exact p_gsub F.ok (s.e h2 F) (s.e h3 F) (plain_set h1)
    | _ => unfold ckT at h; cases h
theorem ckTs_ok' {n : Nat} (s : Snd g Φ n) (F : Fit g Φ S X) : ∀ {ts : List T} {xs : List Expr}, ckTs S (ck n S) ts xs = true → PGs X xs (RGs g E0 (evTs (ev Φ n) ts)) ∧ xs.all notStar = true ∧ xs.length = ts.length
  | [], [], _ => ⟨p_gnil, rfl, rfl⟩
  | [], _ :: _, h => by unfold ckTs at h; cases h
  | _ :: _, [], h => by unfold ckTs at h; cases h
  | t :: ts, x :: xs, h => by
    unfold ckTs at h
    obtain ⟨h12, h3⟩ := and2 h
    obtain ⟨h1, h2⟩ := and2 h12
    obtain ⟨q1, q2, q3⟩ := ckTs_ok' s F h3
    exact ⟨p_gcons (ckT_ok s F h2) q1 (by rw [asg1 h1]; rfl), by rw [List.all_cons, h1, q2]; rfl, by rw [List.length_cons, List.length_cons, q3]⟩
end
mutual
theorem ckV_ok {n : Nat} {vs : List Nat} (F : Fit g Φ S X) : ∀ {t : T} {x : Expr}, ckV S vs t x = true → PG X x (RV g vs (evT (ev Φ n) t))
  | .nm i, x, h => by
    cases x with
    | Name y p =>
      unfold ckV SI.st at h
      obtain ⟨h, hm⟩ := and2 h
      obtain ⟨h12, h3⟩ := and2 h
      obtain ⟨h1, h2⟩ := and2 h12
      refine v_nm (by simpa using hm) F.nodup (F.here h1) (F.loc h2) ?_
      rw [Bool.or_eq_true] at h3
      exact h3.imp (F.fn y) F.lcl
    | _ => unfold ckV at h; cases h
  | .tup ts, x, h => by
    cases x with
    | Tuple xs k p =>
      unfold ckV at h
      obtain ⟨q1, q2, q3⟩ := ckVs_ok F h
      obtain ⟨l1, l2⟩ := asgL (env := X.env) q2
      exact v_tup F.ok q1 (by rw [l1]; exact q3) l2
    | _ => unfold ckV at h; cases h
  | .sub a i, x, h => by unfold ckV at h; cases h
theorem ckVs_ok {n : Nat} {vs : List Nat} (F : Fit g Φ S X) : ∀ {ts : List T} {xs : List Expr}, ckVs S vs ts xs = true → PGs X xs (RVs g vs (evTs (ev Φ n) ts)) ∧ xs.all notStar = true ∧ xs.length = ts.length
  | [], [], _ => ⟨v_nil, rfl, rfl⟩
  | [], _ :: _, h => by unfold ckVs at h; cases h
  | _ :: _, [], h => by unfold ckVs at h; cases h
  | t :: ts, x :: xs, h => by
    unfold ckVs at h
    obtain ⟨h12, h3⟩ := and2 h
    obtain ⟨h1, h2⟩ := and2 h12
    obtain ⟨q1, q2, q3⟩ := ckVs_ok F h3
    exact ⟨v_cons (ckV_ok F h2) q1 (by rw [asg1 h1]; rfl), by rw [List.all_cons, h1, q2]; rfl, by rw [List.length_cons, List.length_cons, q3]⟩
end
theorem tup_of {tg : Expr} (h : isTupE tg = true) : ∃ es k p, tg = .Tuple es k p := by
  cases tg <;> first | exact ⟨_, _, _, rfl⟩ | cases h
theorem ckI_ok {n : Nat} (s : Snd g Φ n) (F : Fit g Φ S X) {tg : Expr} : ∀ {it : I} {x : Expr}, ckI S (ck n S) tg it x = true → PI X tg x (RI g E0 (evIt (ev Φ n) it))
  | .rng1 a, x, h => by
    simp only [ckI] at h
    split at h
    · rename_i y b e
      obtain ⟨p, pos, rfl⟩ := asCall_ok e
      obtain ⟨h12, h3⟩ := and2 h
      obtain ⟨h1, h2⟩ := and2 h12
      obtain ⟨rfl, hg, hm⟩ := F.bl h1
      exact p_rng1 hg hm (s.e h3 F) (star1 h2)
    · cases h
  | .rng2 a a2, x, h => by
    simp only [ckI] at h
    split at h
    · rename_i y b b2 e
      obtain ⟨p, pos, rfl⟩ := asCall_ok e
      obtain ⟨h, h5⟩ := and2 h
      obtain ⟨h, h4⟩ := and2 h
      obtain ⟨h, h3⟩ := and2 h
      obtain ⟨h1, h2⟩ := and2 h
      obtain ⟨rfl, hg, hm⟩ := F.bl h1
      exact p_rng2 hg hm (s.e h4 F) (s.e h5 F) (star1 h2) (star1 h3)
    · cases h
  | .enum a, x, h => by
    simp only [ckI] at h
    obtain ⟨ht, h⟩ := and2 h
    obtain ⟨es, k, p, rfl⟩ := tup_of ht
    split at h
    · rename_i y b e
      obtain ⟨p, pos, rfl⟩ := asCall_ok e
      obtain ⟨h12, h3⟩ := and2 h
      obtain ⟨h1, h2⟩ := and2 h12
      obtain ⟨rfl, hg, hm⟩ := F.bl h1
      exact p_enum F.ok.K hg hm (s.e h3 F) (star1 h2)
    · cases h
  | .zip a a2, x, h => by
    simp only [ckI] at h
    obtain ⟨ht, h⟩ := and2 h
    obtain ⟨es, k, p, rfl⟩ := tup_of ht
    split at h
    · rename_i y b b2 e
      obtain ⟨p, pos, rfl⟩ := asCall_ok e
      obtain ⟨h, h5⟩ := and2 h
      obtain ⟨h, h4⟩ := and2 h
      obtain ⟨h, h3⟩ := and2 h
      obtain ⟨h1, h2⟩ := and2 h
      obtain ⟨rfl, hg, hm⟩ := F.bl h1
      exact p_zip F.ok.K hg hm (s.e h4 F) (s.e h5 F) (star1 h2) (star1 h3) (star0 (by simp [h3]))
    · cases h
  | .seq a, x, h => by
    simp only [ckI] at h
    exact p_seq F.ok.K (s.e h F)
  | .keys a, x, h => by
    simp only [ckI] at h
    split at h
    · rename_i o y b e
      obtain ⟨ap, cp, rfl, hl⟩ := asMeth_ok e
      obtain ⟨h, h4⟩ := and2 h
      obtain ⟨h, h3⟩ := and2 h
      obtain ⟨h1, h2⟩ := and2 h
      obtain rfl : y = ("keys" : Str) := eq_of_beq h2
      exact p_keysI F.ok (s.e h4 F) (base_of h3) (hl.trans h1)
    · cases h
  | .vals a, x, h => by
    simp only [ckI] at h
    split at h
    · rename_i o y b e
      obtain ⟨ap, cp, rfl, hl⟩ := asMeth_ok e
      obtain ⟨h, h4⟩ := and2 h
      obtain ⟨h, h3⟩ := and2 h
      obtain ⟨h1, h2⟩ := and2 h
      obtain rfl : y = ("values" : Str) := eq_of_beq h2
      exact p_valsI F.ok (s.e h4 F) (base_of h3) (hl.trans h1)
    · cases h
  | .items a, x, h => by
    simp only [ckI] at h
    obtain ⟨ht, h⟩ := and2 h
    obtain ⟨es, k, p, rfl⟩ := tup_of ht
    split at h
    · rename_i o y b e
      obtain ⟨ap, cp, rfl, hl⟩ := asMeth_ok e
      obtain ⟨h, h4⟩ := and2 h
      obtain ⟨h, h3⟩ := and2 h
      obtain ⟨h1, h2⟩ := and2 h
      obtain rfl : y = ("items" : Str) := eq_of_beq h2
      exact p_itemsI F.ok (s.e h4 F) (base_of h3) (by first | exact hl.trans h1 | exact h1)
    · cases h
theorem tests_ok {n : Nat} (s : Snd g Φ n) (F : Fit g Φ S X) : ∀ {es : List E} {xs : List Expr}, cks (ck n S) es xs = true → es.length ≤ 1 → PTs X xs (RB g E0 (tests (ev Φ n) es))
  | [], [], _, _ => ⟨fun pins s σ H Q I ⟨κ, ρ, env, h, S, w⟩ => pts_nil.run pins s σ H Q I (w ρ H (Go.refl _ _) S.cs)⟩
  | [], _ :: _, h, _ => by cases h
  | [_], [], h, _ => by cases h
  | [e], [x], h, _ => by
    unfold cks at h
    exact pts_one (s.t (and2 (and2 h).1).2 F)
  | [e], x :: y :: r, h, _ => by
    unfold cks at h
    have := (and2 h).2
    unfold cks at this
    cases this
  | _ :: _ :: _, _, _, hl => by simp at hl
end
end Q
end
section
namespace Q
open PySem PySem.Spec PyProof.Rows L2

section
variable {g : G} {Φ : Tbl} {S : SI} {X : Cx}
theorem bop_ok {m : Bool} {op : Bop} {o : Operator} {X : Cx} (ok : Okx g X) (h : bopIs op o = true) : OpR X (binaryOp o) (r2 g E0 (vBin m op)) := by
  cases op with
  | add => cases o with
    | Add => exact o_add ok.K
    | _ => exact absurd h (by decide)
  | sub => cases o with
    | Sub => exact o_sub
    | _ => exact absurd h (by decide)
  | mul => cases o with
    | Mult => exact o_mul ok.K
    | _ => exact absurd h (by decide)
  | fdiv => cases o with
    | FloorDiv => exact o_fdiv
    | _ => exact absurd h (by decide)
  | mod => cases o with
    | Mod => exact o_mod
    | _ => exact absurd h (by decide)
  | pow => cases o with
    | Pow => exact o_pow
    | _ => exact absurd h (by decide)
theorem cop_ok {op : Cop} {o : CmpOp} {X : Cx} (ok : Okx g X) (h : copIs op o = true) : OpR X (compareOp o) (r2 g E0 (vCmp op)) := by
  have u := ok.u
  cases op with
  | eq => cases o with
    | Eq => exact o_eq ok.K (by omega)
    | _ => exact absurd h (by decide)
  | ne => cases o with
    | NotEq => exact o_ne ok.K (by omega)
    | _ => exact absurd h (by decide)
  | lt => cases o with
    | Lt => exact o_lt ok.K (by omega)
    | _ => exact absurd h (by decide)
  | le => cases o with
    | LtE => exact o_le ok.K (by omega)
    | _ => exact absurd h (by decide)
  | gt => cases o with
    | Gt => exact o_gt ok.K (by omega)
    | _ => exact absurd h (by decide)
  | ge => cases o with
    | GtE => exact o_ge
    | _ => exact absurd h (by decide)
  | is => cases o with
    | Is => exact o_is
    | _ => exact absurd h (by decide)
  | isnot => cases o with
    | IsNot => exact o_isnot
    | _ => exact absurd h (by decide)
  | isin => cases o with
    | In => exact o_in ok
    | _ => exact absurd h (by decide)
  | notin => cases o with
    | NotIn => exact o_notin ok
    | _ => exact absurd h (by decide)
theorem ty_pe {y : Str} {t : Ty} {p : Pos} (F : Fit g Φ S X) (h : S.bl y (tyStr t) = true) : PE X (.Name y p) (tC (.ty (tyName t))) := by
  obtain ⟨rfl, hg, hm⟩ := F.bl h
  refine pe_bltn hg hm (u := .type (tyName t)) ?_ rfl ?_ ?_
  · cases t <;> decide +kernel
  · cases t <;> decide
  · cases t <;> decide
theorem ckTys_ok (F : Fit g Φ S X) : ∀ {ts : List Ty} {xs : List Expr}, ckTys S ts xs = true → PA X xs (tTys ts)
  | [], [], _ => tys_nil
  | [], _ :: _, h => by simp only [ckTys] at h; cases h
  | _ :: _, [], h => by simp only [ckTys] at h; cases h
  | t :: ts, x :: xs, h => by
    simp only [ckTys] at h
    obtain ⟨h1, h2⟩ := and2 h
    split at h1
    · rename_i y e
      obtain ⟨p, rfl⟩ := asName_ok e
      exact tys_cons (ty_pe F h1) (ckTys_ok F h2) rfl
    · cases h1
theorem blt_ok {f : Blt} {m : Bool} {e : Expr} {es : List Expr} {fA : DA} {p pos : Pos} {y : Str} (F : Fit g Φ S X) (hf : bltOk f = true) (hy : S.bl y (bltStr f) = true) (ha : PA X (e :: es) (RA g E0 fA)) (hs : (e :: es).all notStar = true) :
    PE X (.Call (.Name y p) (e :: es) [] pos) (RE g E0 (dN (vBlt f m) fA)) := by
  obtain ⟨rfl, hg, hm⟩ := F.bl hy
  rw [List.all_cons, Bool.and_eq_true] at hs
  have q1 := star1 (env := X.env) (xs := es) hs.1
  have q2 := star0 (env := X.env) (pos := pos) hs.2
  cases f with
  | len => exact p_blt (b_len F.ok) hg hm (by decide +kernel) ha (by decide) (by decide) q1 q2
  | sorted => exact p_blt (b_sorted F.ok) hg hm (by decide +kernel) ha (by decide) (by decide) q1 q2
  | min => exact p_blt (b_min F.ok) hg hm (by decide +kernel) ha (by decide) (by decide) q1 q2
  | max => exact p_blt (b_max F.ok) hg hm (by decide +kernel) ha (by decide) (by decide) q1 q2
  | sum => exact p_blt (b_sum F.ok) hg hm (by decide +kernel) ha (by decide) (by decide) q1 q2
  | abs => exact p_blt b_abs hg hm (by decide +kernel) ha (by decide) (by decide) q1 q2
  | tuple => exact p_blt0 (b_tuple F.ok) hg hm (by decide +kernel) ha (by decide) (by decide) q1 q2
  | list => exact p_blt0 (b_list F.ok) hg hm (by decide +kernel) ha (by decide) (by decide) q1 q2
  | int => exact p_blt0 b_int hg hm (by decide +kernel) ha (by decide) (by decide) q1 q2
  | str => cases hf
  | dict => cases hf
theorem mth_ok {f : Mth} {m : Bool} (ok : Okx g X) (hf : mthOk f = true) : MRule g E0 X (mthStr f) (tyM f) (vMth f m) := by
  cases f with
  | append => exact m_append ok
  | pop => exact m_pop ok
  | index => exact m_index ok
  | count => exact m_count ok
  | get => exact m_get ok
  | _ => cases hf
end
end Q
end
section
namespace Q
open PySem PySem.Spec PyProof.Rows L2

section
variable {g : G} {Φ : Tbl} {S : SI} {X : Cx}
theorem own_ix {own : List Nat} : (S.own own).map (·.2) = own := by
  unfold SI.own
  rw [List.map_map]
  exact List.map_id _
theorem p_tife {c a b : Expr} {fc fa fb : DE} {pos : Pos} {E1 : XK} (hc : PT X c (RB g E1 (asB fc))) (ha : PT X a (RB g E1 (asB fa))) (hb : PT X b (RB g E1 (asB fb))) : PT X (.IfExp c a b pos) (RB g E1 (asB (evIf fc fa fb))) := by
  refine ⟨fun pins s σ H Q I ⟨κ, ρ, env, h, S, w⟩ => ?_⟩
  show wpAny _ _ (do if ← isTrue c X.env (eval c X.env) then isTrue a X.env (eval a X.env) else isTrue b X.env (eval b X.env)) _ _ s
  refine wpAny_bind (thn (hc.run pins s σ H (fun k H1 => if k = true then RB g E1 (asB fa) σ H1 Q else RB g E1 (asB fb) σ H1 Q) I ⟨κ, ρ, env, h, S, ?_⟩) fun k s1 ⟨H1, I1, q1⟩ => ?_)
  · unfold asB evIf at w
    unfold asB
    revert w
    cases fc env h with
    | bad => exact fun w => w
    | ex x h' => exact fun w => w
    | ok d h1 =>
      intro w
      cases d with
      | bl y =>
        intro ρ1 H1 k1 c1
        cases y with
        | true => exact ⟨κ, ρ1, env, h1, S.go k1 c1, WpB.go k1 w⟩
        | false => exact ⟨κ, ρ1, env, h1, S.go k1 c1, WpB.go k1 w⟩
      | _ => exact absurd (show False from w) fun w => w
  · cases k with
    | true => exact ha.run pins s1 σ H1 Q I1 q1
    | false => exact hb.run pins s1 σ H1 Q I1 q1
theorem or_of {S : SI} {n : Nat} {b : E} {op : BoolOp} {z : Expr} {r : List Expr} {pos : Pos} (s : Snd g Φ n) (F : Fit g Φ S X) (h : (match r with
    | [] => ck n S b z
    | _ => ck n S b (.BoolOp op (z :: r) pos)) = true) : PE X (.BoolOp op (z :: r) pos) (RE g E0 (ev Φ n b)) ∧ PW X (.BoolOp op (z :: r) pos) (RB g E0 (asB (ev Φ n b))) := by
  cases r with
  | nil => exact ⟨p_one (s.e h F), by cases op with
    | And => exact pw_and1 (s.t h F)
    | Or => exact pw_or1 (s.t h F)⟩
  | cons y r => exact ⟨s.e h F, s.w h F⟩
theorem vw_ok {n : Nat} (s : Snd g Φ n) {S : SI} {f : Str} {a : E} {x : Expr} {X : Cx} (F : Fit g Φ S X) (h : k_vw (ck n) S f a x = true) :
    ∃ p pos z, x = .Call (.Name f p) [z] [] pos ∧ Gl X f ∧ X.mg f = none ∧ PE X z (tView g E0 (ev Φ n a)) ∧ starEach [z] X.env = (false, eval z X.env) :: starEach [] X.env := by
  unfold k_vw at h
  split at h
  · rename_i y z e
    obtain ⟨p, pos, rfl⟩ := asCall_ok e
    obtain ⟨h1, k⟩ := and2 h
    obtain ⟨e1, g1, m1⟩ := F.bl h1
    subst e1
    unfold k_keys at k
    split at k
    · rename_i o y b e2
      obtain ⟨ap, cp, rfl, hb⟩ := asMeth_ok e2
      obtain ⟨k, k4⟩ := and2 k
      obtain ⟨k, k3⟩ := and2 k
      obtain ⟨k1, k2⟩ := and2 k
      cases eq_of_beq k2
      rw [k1] at hb
      exact ⟨p, pos, _, rfl, g1, m1, p_keys F.ok (s.e k4 F) (base_of k3) hb, rfl⟩
    · cases k
  · cases h
theorem vwv_ok {n : Nat} (s : Snd g Φ n) {S : SI} {f : Str} {a : E} {x : Expr} {X : Cx} (F : Fit g Φ S X) (h : k_vwv (ck n) S f a x = true) :
    ∃ p pos z, x = .Call (.Name f p) [z] [] pos ∧ Gl X f ∧ X.mg f = none ∧ PE X z (tViewV g E0 (ev Φ n a)) ∧ starEach [z] X.env = (false, eval z X.env) :: starEach [] X.env := by
  unfold k_vwv at h
  split at h
  · rename_i y z e
    obtain ⟨p, pos, rfl⟩ := asCall_ok e
    obtain ⟨h1, k⟩ := and2 h
    obtain ⟨e1, g1, m1⟩ := F.bl h1
    subst e1
    unfold k_vals at k
    split at k
    · rename_i o y b e2
      obtain ⟨ap, cp, rfl, hb⟩ := asMeth_ok e2
      obtain ⟨k, k4⟩ := and2 k
      obtain ⟨k, k3⟩ := and2 k
      obtain ⟨k1, k2⟩ := and2 k
      cases eq_of_beq k2
      rw [k1] at hb
      exact ⟨p, pos, _, rfl, g1, m1, p_vals F.ok (s.e k4 F) (base_of k3) hb, rfl⟩
    · cases k
  · cases h
theorem st_ok {n : Nat} (s : Snd g Φ n) {S : SI} {f : Str} {a : E} {x : Expr} {X : Cx} (F : Fit g Φ S X) (h : k_st (ck n) S f a x = true) :
    ∃ p pos p2 pos2 z, x = .Call (.Name f p) [.Call (.Name "set" p2) [z] [] pos2] [] pos ∧ Gl X f ∧ X.mg f = none ∧ Gl X "set" ∧ X.mg "set" = none ∧ PE X z (RE g E0 (ev Φ n a)) ∧ starEach [z] X.env = (false, eval z X.env) :: starEach [] X.env := by
  unfold k_st at h
  split at h
  · rename_i y z e
    obtain ⟨p, pos, rfl⟩ := asCall_ok e
    obtain ⟨h1, k⟩ := and2 h
    obtain ⟨e1, g1, m1⟩ := F.bl h1
    subst e1
    unfold k_set at k
    split at k
    · rename_i y2 z2 e2
      obtain ⟨p2, pos2, rfl⟩ := asCall_ok e2
      obtain ⟨k, k3⟩ := and2 k
      obtain ⟨k1, k2⟩ := and2 k
      obtain ⟨e1, g2, m2⟩ := F.bl k1
      subst e1
      exact ⟨p, pos, p2, pos2, z2, rfl, g1, m1, g2, m2, s.e k3 F, star1 k2⟩
    · cases k
  · cases h
theorem snd_e {n : Nat} (s : Snd g Φ n) {S : SI} {e : E} {x : Expr} {X : Cx} (h : ck (n + 1) S e x = true) (F : Fit g Φ S X) : PE X x (RE g E0 (ev Φ (n + 1) e)) := by
  cases e with
  | dead => exact p_edead
  | var i =>
    replace h : k_var (ck n) S i x = true := h
    unfold k_var at h
    split at h
    · rename_i y e
      obtain ⟨p, rfl⟩ := asName_ok e
      replace h : (S.here i y && kVis (S.k y) && okName y) = true := h
      obtain ⟨h12, h3⟩ := and2 h
      obtain ⟨h1, h2⟩ := and2 h12
      obtain ⟨d1, d2⟩ := okName_ok h3
      exact p_var (F.here h1) (F.vis h2) d1 d2
    · cases h
  | non =>
    replace h : k_non (ck n) S x = true := h
    unfold k_non at h
    split at h
    · exact p_const pe_non fun _ _ _ => rfl
    · cases h
  | bl b =>
    replace h : k_bl (ck n) S b x = true := h
    unfold k_bl at h
    split at h
    · cases eq_of_beq h
      exact p_const pe_bl fun _ _ _ => rfl
    · cases h
  | int b =>
    replace h : k_int (ck n) S b x = true := h
    unfold k_int at h
    split at h
    · cases eq_of_beq h
      exact p_const pe_int fun _ _ _ => rfl
    · cases h
  | str b =>
    replace h : k_str (ck n) S b x = true := h
    unfold k_str at h
    split at h
    · cases eq_of_beq h
      exact p_const pe_str fun _ _ _ => rfl
    · cases h
  | glo y i =>
    replace h : k_glo (ck n) S y i x = true := h
    unfold k_glo at h
    split at h
    · rename_i z e
      obtain ⟨p, rfl⟩ := asName_ok e
      obtain ⟨h, h4⟩ := and2 h
      obtain ⟨h, h3⟩ := and2 h
      obtain ⟨h1, h2⟩ := and2 h
      cases eq_of_beq h1
      obtain ⟨t, ht⟩ := F.cst _ _ (of_decide_eq_true h3)
      exact p_const (pe_glob (v := .int i) (F.gl h2) ht ⟨t, rfl⟩ (okName_ok h4).1) fun _ _ _ => rfl
    · cases h
  | bin m op a b =>
    replace h : k_bin (ck n) S op a b x = true := h
    unfold k_bin at h
    split at h
    · obtain ⟨h, h3⟩ := and2 h
      obtain ⟨h1, h2⟩ := and2 h
      exact p_bin (bop_ok F.ok h1) (s.e h2 F) (s.e h3 F)
    · cases h
  | neg a =>
    replace h : k_neg (ck n) S a x = true := h
    unfold k_neg at h
    split at h
    · exact p_un o_neg (s.e h F)
    · cases h
  | nt a =>
    replace h : k_nt (ck n) S a x = true := h
    unfold k_nt at h
    split at h
    · exact p_enot (s.e h F)
    · cases h
  | and a b =>
    replace h : k_and (ck n) S a b x = true := h
    unfold k_and at h
    split at h
    · obtain ⟨h1, h2⟩ := and2 h
      exact p_eand (s.e h1 F) (or_of s F h2).1
    · cases h
  | or a b =>
    replace h : k_or (ck n) S a b x = true := h
    unfold k_or at h
    split at h
    · obtain ⟨h1, h2⟩ := and2 h
      exact p_eor (s.e h1 F) (or_of s F h2).1
    · cases h
  | cmp op a b =>
    replace h : k_cmp (ck n) S op a b x = true := h
    unfold k_cmp at h
    split at h
    · obtain ⟨h, h4⟩ := and2 h
      obtain ⟨h, h3⟩ := and2 h
      obtain ⟨h1, h2⟩ := and2 h
      exact p_cmp (cop_ok F.ok h1) (s.e h3 F) (s.e h4 F) (no_marks h2)
    · cases h
  | chain o1 o2 a b c =>
    replace h : k_chain (ck n) S o1 o2 a b c x = true := h
    unfold k_chain at h
    split at h
    · obtain ⟨h, h6⟩ := and2 h
      obtain ⟨h, h5⟩ := and2 h
      obtain ⟨h, h4⟩ := and2 h
      obtain ⟨h, h3⟩ := and2 h
      obtain ⟨h1, h2⟩ := and2 h
      exact p_chain (cop_ok F.ok h1) (cop_ok F.ok h2) (s.e h4 F) (s.e h5 F) (s.e h6 F) (by show behindInMarks _ _ = false; exact no_marks h3)
    · cases h
  | chain3 o1 o2 o3 a b c d =>
    replace h : k_chain3 (ck n) S o1 o2 o3 a b c d x = true := h
    unfold k_chain3 at h
    split at h
    · obtain ⟨h, h8⟩ := and2 h
      obtain ⟨h, h7⟩ := and2 h
      obtain ⟨h, h6⟩ := and2 h
      obtain ⟨h, h5⟩ := and2 h
      obtain ⟨h, h4⟩ := and2 h
      obtain ⟨h, h3⟩ := and2 h
      obtain ⟨h1, h2⟩ := and2 h
      exact p_chain3 (cop_ok F.ok h1) (cop_ok F.ok h2) (cop_ok F.ok h3) (s.e h5 F) (s.e h6 F) (s.e h7 F) (s.e h8 F) (by show behindInMarks _ _ = false; exact no_marks h4)
    · cases h
  | ife c a b =>
    replace h : k_ife (ck n) S c a b x = true := h
    unfold k_ife at h
    split at h
    · obtain ⟨h, h3⟩ := and2 h
      obtain ⟨h1, h2⟩ := and2 h
      exact p_ife (s.t h1 F) (s.e h2 F) (s.e h3 F)
    · cases h
  | tup es =>
    replace h : k_tup (ck n) S es x = true := h
    unfold k_tup at h
    split at h
    · exact p_etup (cks_ok s F h).1
    · cases h
  | lst m es =>
    replace h : k_lst (ck n) S es x = true := h
    unfold k_lst at h
    split at h
    · exact p_elst (cks_ok s F h).1
    · cases h
  | isi a one ts =>
    replace h : k_isi (ck n) S a one ts x = true := h
    unfold k_isi at h
    split at h
    · rename_i y b c e
      obtain ⟨p, pos, rfl⟩ := asCall_ok e
      obtain ⟨h, h5⟩ := and2 h
      obtain ⟨h, h4⟩ := and2 h
      obtain ⟨h, h3⟩ := and2 h
      obtain ⟨h1, h2⟩ := and2 h
      obtain ⟨rfl, hg, hm⟩ := F.bl h1
      split at h5
      · rename_i t z pz
        exact p_isi1 F.ok hg hm (s.e h4 F) (ty_pe F h5) (star1 h2) rfl rfl
      · rename_i t ts zs k pz
        obtain ⟨h5, h6⟩ := and2 h5
        have := of_decide_eq_true h5
        exact p_isi2 F.ok (by simp) (by rw [List.length_cons]; omega) hg hm (s.e h4 F) (ckTys_ok F h6) (star1 h2) rfl rfl
      · cases h5
    · cases h
  | call f m es =>
    replace h : k_call (ck n) S f es x = true := h
    unfold k_call at h
    split at h
    · rename_i y xs e
      obtain ⟨p, pos, rfl⟩ := asCall_ok e
      obtain ⟨h, h5⟩ := and2 h
      obtain ⟨h, h4⟩ := and2 h
      obtain ⟨h, h3⟩ := and2 h
      obtain ⟨h1, h2⟩ := and2 h
      obtain ⟨a, fd, ps, k, q1, q2, q3, q4, q5, _⟩ := F.fns _ _ _ (of_decide_eq_true h3)
      obtain ⟨c1, c2, c3⟩ := cks_ok s F h5
      cases xs with
      | nil =>
        cases es with
        | nil => exact p_call0 (m := m) q4 q5 (F.gl h1) q1 q2 q3 pass0 (okName_ok h2).1
        | cons _ _ => simp at c3
      | cons z zs =>
        rw [List.all_cons, Bool.and_eq_true] at h4
        exact p_call (m := m) q4 q5 (F.gl h1) q1 q2 q3 pass0 c1 (evs_len es) (okName_ok h2).1 (star1 h4.1) (star0 h4.2)
    · cases h
  | blt f m es =>
    replace h : k_blt (ck n) S f es x = true := h
    unfold k_blt at h
    split at h
    · rename_i y xs e
      obtain ⟨p, pos, rfl⟩ := asCall_ok e
      obtain ⟨h, h5⟩ := and2 h
      obtain ⟨h, h4⟩ := and2 h
      obtain ⟨h, h3⟩ := and2 h
      obtain ⟨h1, h2⟩ := and2 h
      cases xs with
      | nil => cases h4
      | cons z zs => exact blt_ok F h1 h2 (cks_ok s F h5).1 h3
    · cases h
  | mth f m o es =>
    replace h : k_mth (ck n) S f o es x = true := h
    unfold k_mth at h
    split at h
    · rename_i o' y xs b e
      obtain ⟨ap, cp, rfl, hb⟩ := asMeth_ok e
      obtain ⟨h, h8⟩ := and2 h
      obtain ⟨h, h7⟩ := and2 h
      obtain ⟨h, h6⟩ := and2 h
      obtain ⟨h, h5⟩ := and2 h
      obtain ⟨h, h4⟩ := and2 h
      obtain ⟨h, h3⟩ := and2 h
      obtain ⟨h1, h2⟩ := and2 h
      cases eq_of_beq h3
      rw [h1] at hb
      obtain ⟨c1, c2, c3⟩ := cks_ok s F h8
      have hl := of_decide_eq_true h5
      cases xs with
      | nil =>
        cases es with
        | nil => exact p_meth0 (mth_ok F.ok h2) (s.e h7 F) (base_of h4) hb
        | cons _ _ => simp at c3
      | cons z zs =>
        have h6' := h6
        rw [List.all_cons, Bool.and_eq_true] at h6'
        refine p_meth (mth_ok F.ok h2) (s.e h7 F) c1 (base_of h4) ?_ hb (star1 h6'.1) (star0 h6'.2)
        rw [starA h6]
        show (true && decide ((z :: zs).length + 0 + 0 < 30)) = true
        rw [Bool.true_and]
        exact decide_eq_true (by omega)
    · cases h
  | lrg m a =>
    replace h : k_lrg (ck n) S a x = true := h
    unfold k_lrg at h
    split at h
    · rename_i y z e
      obtain ⟨p, pos, rfl⟩ := asCall_ok e
      obtain ⟨h1, k⟩ := and2 h
      clear h
      unfold k_rg1 at k
      split at k
      · rename_i u b e2
        obtain ⟨p2, pos2, rfl⟩ := asCall_ok e2
        obtain ⟨k23, k4⟩ := and2 k
        obtain ⟨k2, k3⟩ := and2 k23
        obtain ⟨e1, g1, m1⟩ := F.bl h1
        obtain ⟨e2, g2, m2⟩ := F.bl k2
        subst e1 e2
        exact p_lrg F.ok.calm g1 m1 g2 m2 (s.e k4 F) (star1 k3) rfl
      · cases k
    · cases h
  | lrg2 m a a2 =>
    replace h : k_lrg2 (ck n) S a a2 x = true := h
    unfold k_lrg2 at h
    split at h
    · rename_i y z e
      obtain ⟨p, pos, rfl⟩ := asCall_ok e
      obtain ⟨h1, k⟩ := and2 h
      clear h
      unfold k_rg2 at k
      split at k
      · rename_i u b b2 e2
        obtain ⟨p2, pos2, rfl⟩ := asCall_ok e2
        obtain ⟨k, k6⟩ := and2 k
        obtain ⟨k, k5⟩ := and2 k
        obtain ⟨k, k4⟩ := and2 k
        obtain ⟨k2, k3⟩ := and2 k
        obtain ⟨e1, g1, m1⟩ := F.bl h1
        obtain ⟨e2, g2, m2⟩ := F.bl k2
        subst e1 e2
        exact p_lrg2 F.ok.calm g1 m1 g2 m2 (s.e k5 F) (s.e k6 F) (star1 k3) (star1 k4) (star0 (by simp [k4])) rfl
      · cases k
    · cases h
  | trg a =>
    replace h : k_trg (ck n) S a x = true := h
    unfold k_trg at h
    split at h
    · rename_i y z e
      obtain ⟨p, pos, rfl⟩ := asCall_ok e
      obtain ⟨h1, k⟩ := and2 h
      clear h
      unfold k_rg1 at k
      split at k
      · rename_i u b e2
        obtain ⟨p2, pos2, rfl⟩ := asCall_ok e2
        obtain ⟨k, k4⟩ := and2 k
        obtain ⟨k2, k3⟩ := and2 k
        obtain ⟨e1, g1, m1⟩ := F.bl h1
        obtain ⟨e2, g2, m2⟩ := F.bl k2
        subst e1 e2
        exact p_trg F.ok.calm g1 m1 g2 m2 (s.e k4 F) (star1 k3) rfl
      · cases k
    · cases h
  | trg2 a a2 =>
    replace h : k_trg2 (ck n) S a a2 x = true := h
    unfold k_trg2 at h
    split at h
    · rename_i y z e
      obtain ⟨p, pos, rfl⟩ := asCall_ok e
      obtain ⟨h1, k⟩ := and2 h
      clear h
      unfold k_rg2 at k
      split at k
      · rename_i u b b2 e2
        obtain ⟨p2, pos2, rfl⟩ := asCall_ok e2
        obtain ⟨k, k6⟩ := and2 k
        obtain ⟨k, k5⟩ := and2 k
        obtain ⟨k, k4⟩ := and2 k
        obtain ⟨k2, k3⟩ := and2 k
        obtain ⟨e1, g1, m1⟩ := F.bl h1
        obtain ⟨e2, g2, m2⟩ := F.bl k2
        subst e1 e2
        exact p_trg2 F.ok.calm g1 m1 g2 m2 (s.e k5 F) (s.e k6 F) (star1 k3) (star1 k4) (star0 (by simp [k4])) rfl
      · cases k
    · cases h
  | trg3 a a2 a3 =>
    replace h : k_trg3 (ck n) S a a2 a3 x = true := h
    unfold k_trg3 at h
    split at h
    · rename_i y z e
      obtain ⟨p, pos, rfl⟩ := asCall_ok e
      obtain ⟨h1, k⟩ := and2 h
      clear h
      unfold k_rg3 at k
      split at k
      · rename_i u b b2 b3 e2
        obtain ⟨p2, pos2, rfl⟩ := asCall_ok e2
        obtain ⟨k, k4⟩ := and2 k
        obtain ⟨k2, k3⟩ := and2 k
        obtain ⟨e1, g1, m1⟩ := F.bl h1
        obtain ⟨e2, g2, m2⟩ := F.bl k2
        subst e1 e2
        obtain ⟨c1, c2, c3⟩ := cks_ok s F k4
        rw [List.all_cons, Bool.and_eq_true] at k3
        exact p_trg3 F.ok.calm g1 m1 g2 m2 c1 (star1 k3.1) (star0 k3.2) rfl
      · cases k
    · cases h
  | srtk m a =>
    replace h : k_vw (ck n) S "sorted" a x = true := h
    obtain ⟨p, pos, z, rfl, g1, m1, hk, na⟩ := vw_ok s F h
    exact p_srtk F.ok g1 m1 hk na
  | srtl m a =>
    replace h : k_srtl (ck n) S a x = true := h
    unfold k_srtl at h
    split at h
    · obtain ⟨h, h5⟩ := and2 h
      obtain ⟨h, h4⟩ := and2 h
      obtain ⟨h, h3⟩ := and2 h
      obtain ⟨h1, h2⟩ := and2 h
      obtain ⟨e1, g1, m1⟩ := F.bl h1
      obtain ⟨e2, g2, m2⟩ := F.bl h3
      have ek := eq_of_beq h2
      subst e1 e2 ek
      exact p_srtl F.ok g1 m1 g2 m2 (s.e h5 F) (star1 h4)
    · cases h
  | mink a =>
    replace h : k_vw (ck n) S "min" a x = true := h
    obtain ⟨p, pos, z, rfl, g1, m1, hk, na⟩ := vw_ok s F h
    exact p_mink F.ok g1 m1 hk na
  | maxv a =>
    replace h : k_vwv (ck n) S "max" a x = true := h
    obtain ⟨p, pos, z, rfl, g1, m1, hk, na⟩ := vwv_ok s F h
    exact p_maxv F.ok g1 m1 hk na
  | dpr a =>
    replace h : k_dpr (ck n) S a x = true := h
    unfold k_dpr at h
    split at h
    · rename_i y z e
      obtain ⟨p, pos, rfl⟩ := asCall_ok e
      obtain ⟨h1, k3⟩ := and2 h
      obtain ⟨h1, k2⟩ := and2 h1
      obtain ⟨e1, g1, m1⟩ := F.bl h1
      subst e1
      exact p_dpr F.ok g1 m1 (s.e k3 F) (star1 k2)
    · cases h
  | lenk a =>
    replace h : k_vw (ck n) S "len" a x = true := h
    obtain ⟨p, pos, z, rfl, g1, m1, hk, na⟩ := vw_ok s F h
    exact p_lenk F.ok g1 m1 hk na
  | srts m a =>
    replace h : k_st (ck n) S "sorted" a x = true := h
    obtain ⟨p, pos, p2, pos2, z, rfl, g1, m1, g2, m2, hz, na⟩ := st_ok s F h
    exact p_srts F.ok g1 m1 g2 m2 hz na rfl
  | lens a =>
    replace h : k_st (ck n) S "len" a x = true := h
    obtain ⟨p, pos, p2, pos2, z, rfl, g1, m1, g2, m2, hz, na⟩ := st_ok s F h
    exact p_lens F.ok g1 m1 g2 m2 hz na rfl
  | dsp t ks vs =>
    replace h : k_dsp (ck n) S ks vs x = true := h
    unfold k_dsp at h
    split at h
    · split at h
      · obtain ⟨h1, h2⟩ := and2 h
        exact p_dsp1 F.ok (s.e h1 F) (s.e h2 F)
      · cases h
    · cases h
  | ix a i =>
    replace h : k_ix (ck n) S a i x = true := h
    unfold k_ix at h
    split at h
    · obtain ⟨h, h3⟩ := and2 h
      obtain ⟨h1, h2⟩ := and2 h
      exact PE.imp (pe_ix (ix_of F.ok) (s.e h2 F) (s.e h3 F) (plain_ix h1)) fun σ H Q w => tOp_of w
    · cases h
  | sl m a lo hi =>
    replace h : k_sl (ck n) S a lo hi x = true := h
    unfold k_sl at h
    split at h
    · obtain ⟨h, h3⟩ := and2 h
      obtain ⟨h1, h2⟩ := and2 h
      exact p_slice F.ok (s.e h1 F) (ckO_ok s F h2) (ckO_ok s F h3)
    · cases h
  | rev m a =>
    replace h : k_rev (ck n) S a x = true := h
    unfold k_rev at h
    split at h
    · exact p_revA F.ok (s.e h F)
    · cases h
  | dnew t =>
    replace h : k_dnew (ck n) S x = true := h
    unfold k_dnew at h
    split at h
    · cases t with
      | true => exact p_dnewT
      | false => exact p_dnewK
    · cases h
  | fld c y a =>
    replace h : k_fld (ck n) S c y a x = true := h
    unfold k_fld at h
    split at h
    · obtain ⟨h, h4⟩ := and2 h
      obtain ⟨h, h3⟩ := and2 h
      obtain ⟨h1, h2⟩ := and2 h
      cases eq_of_beq h1
      obtain ⟨q1, q2⟩ := F.fls _ _ h2
      exact p_fld F.ok q1 q2 (s.e h4 F) (base_of h3)
    · cases h
  | cm c y f m o es =>
    replace h : k_cm (ck n) S c y f o es x = true := h
    unfold k_cm at h
    split at h
    · rename_i o' y' xs b e
      obtain ⟨ap, cp, rfl, hb⟩ := asMeth_ok e
      obtain ⟨h, h8⟩ := and2 h
      obtain ⟨h, h7⟩ := and2 h
      obtain ⟨h, h6⟩ := and2 h
      obtain ⟨h, h5⟩ := and2 h
      obtain ⟨h, h4⟩ := and2 h
      obtain ⟨h, h3⟩ := and2 h
      obtain ⟨h1, h2⟩ := and2 h
      cases eq_of_beq h2
      rw [h1] at hb
      obtain ⟨q0, a, fd, ps, k, q1, q2, q3, q4⟩ := F.cms _ _ _ _ (of_decide_eq_true h3)
      obtain ⟨c1, c2, c3⟩ := cks_ok s F h8
      refine p_cm (m := m) q0 q1 q3 q4 q2 pass0 (s.e h7 F) c1 (fun env h ds h' q => by rw [evs_len es env h ds h' q]) (fun z => ?_) (base_of h4) h6 hb (of_decide_eq_true h5)
      subst z
      cases es with
      | nil => rfl
      | cons _ _ => simp at c3
    · cases h
  | fnv y =>
    replace h : k_fnv (ck n) S y x = true := h
    unfold k_fnv at h
    split at h
    · rename_i z e
      obtain ⟨p, rfl⟩ := asName_ok e
      obtain ⟨h, h4⟩ := and2 h
      obtain ⟨h, h3⟩ := and2 h
      obtain ⟨h1, h2⟩ := and2 h
      cases eq_of_beq h1
      obtain ⟨⟨f, np⟩, hf⟩ := Option.isSome_iff_exists.mp h3
      obtain ⟨a, fd, ps, k, q1, q2, q3, q4, q5, q6⟩ := F.fns _ _ _ hf
      exact p_const (pe_glob (v := .ref (He.ga X.K y)) (F.gl h2) q1 (by rw [q6]; rfl) (okName_ok h4).1) fun κ ρ H => by rw [F.ok.K]; rfl
    · cases h
  | callv i tb m es =>
    replace h : k_callv (ck n) S i tb es x = true := h
    unfold k_callv at h
    split at h
    · rename_i y xs e
      obtain ⟨p, pos, rfl⟩ := asCall_ok e
      obtain ⟨h, h5⟩ := and2 h
      obtain ⟨h, h4⟩ := and2 h
      obtain ⟨h, h3⟩ := and2 h
      obtain ⟨h1, h2⟩ := and2 h
      replace h1 : (S.here i y && kVis (S.k y) && okName y) = true := h1
      obtain ⟨h12, h13⟩ := and2 h1
      obtain ⟨h11, h12⟩ := and2 h12
      obtain ⟨d1, d2⟩ := okName_ok h13
      obtain ⟨c1, c2, c3⟩ := cks_ok s F h5
      cases xs with
      | nil => cases h4
      | cons z zs =>
        rw [List.all_cons, Bool.and_eq_true] at h3
        refine p_callv F.ok (fun x f hf => ?_) (F.here h11) (F.vis h12) c1 (evs_len es) d1 d2 (star1 h3.1) (star0 h3.2)
        have hm := of_decide_eq_true (List.all_eq_true.mp h2 _ (Q.mem_of_lookup0 hf))
        obtain ⟨a, fd, ps, k, q1, q2, q3, q4, q5, q6⟩ := F.fns _ _ _ hm
        subst q6
        exact ⟨fd, ps, k, q4, q2, q3, q5⟩
    · cases h
  | mko c fs es =>
    replace h : k_mko (ck n) S c fs es x = true := h
    unfold k_mko at h
    split at h
    · rename_i y xs e
      obtain ⟨p, pos, rfl⟩ := asCall_ok e
      obtain ⟨h, h7⟩ := and2 h
      obtain ⟨h, h6⟩ := and2 h
      obtain ⟨h, h5⟩ := and2 h
      obtain ⟨h, h4⟩ := and2 h
      obtain ⟨h, h3⟩ := and2 h
      obtain ⟨h1, h2⟩ := and2 h
      obtain ⟨a, fd, ps, k, q1, q2, q3, q4, q5⟩ := F.mks _ _ _ _ (of_decide_eq_true h3)
      obtain ⟨c1, c2, c3⟩ := cks_ok s F h7
      cases xs with
      | nil => cases h5
      | cons z zs =>
        rw [List.all_cons, Bool.and_eq_true] at h4
        exact p_mko q2 q4 q5 (F.gl h1) q1 q3 pass0 c1 (fun env h ds h' q => by rw [evs_len es env h ds h' q]) (of_decide_eq_true h6) (okName_ok h2).1 (star1 h4.1) (star0 h4.2)
    · cases h
  | lc m own t it ifs e =>
    replace h : k_lc (ck n) S own t it ifs e x = true := h
    unfold k_lc at h
    split at h
    · rename_i elt tg iter ifs' scope pos
      obtain ⟨h, h7⟩ := and2 h
      obtain ⟨h, h6⟩ := and2 h
      obtain ⟨h, h5⟩ := and2 h
      obtain ⟨h, h4⟩ := and2 h
      obtain ⟨h, h3⟩ := and2 h
      obtain ⟨h1, h2⟩ := and2 h
      have bk := blkOk_by h1
      rw [← F.N, ← F.sc] at bk
      refine PE.imp (pe_lc F.ok.calm F.nodup (ckI_ok s F h3) bk (fun s' H C cl fp => ckV_ok (n := n) (F.blk scope bk.kind s' H C cl fp) h4) (fun s' H C cl fp => tests_ok s (F.blk scope bk.kind s' H C cl fp) h5 (of_decide_eq_true h6)) (fun s' H C cl fp => s.e h7 (F.blk scope bk.kind s' H C cl fp)) (no_fold h2)) fun σ H Q w => ?_
      rw [own_ix]
      exact tLc_of w
    · cases h
  | lc2 m own own1 t it ifs t1 it1 ifs1 e =>
    replace h : k_lc2 (ck n) S own own1 t it ifs t1 it1 ifs1 e x = true := h
    unfold k_lc2 at h
    split at h
    · rename_i elt tg iter ifs' tg1 iter1 ifs1' scope pos
      obtain ⟨h, h13⟩ := and2 h
      obtain ⟨h, h12⟩ := and2 h
      obtain ⟨h, h11⟩ := and2 h
      obtain ⟨h, h10⟩ := and2 h
      obtain ⟨h, h9⟩ := and2 h
      obtain ⟨h, h8⟩ := and2 h
      obtain ⟨h, h7⟩ := and2 h
      obtain ⟨h, h6⟩ := and2 h
      obtain ⟨h, h5⟩ := and2 h
      obtain ⟨h, h4⟩ := and2 h
      obtain ⟨h, h3⟩ := and2 h
      obtain ⟨h1, h2⟩ := and2 h
      have bk := blkOk_by h1
      rw [← F.N, ← F.sc] at bk
      have sub : ∀ i ∈ own1, i ∈ (S.own own).map (·.2) := fun i hi => by
        rw [own_ix]
        have := List.all_eq_true.mp h2 i hi
        simpa using this
      refine PE.imp (pe_lc2 F.ok.calm F.nodup (ckI_ok s F h5) bk sub (fun s' H C cl fp => ckV_ok (n := n) (F.blk scope bk.kind s' H C cl fp) h6) (fun s' H C cl fp => tests_ok s (F.blk scope bk.kind s' H C cl fp) h7 (of_decide_eq_true h8))
        (fun s' H C cl fp => ckI_ok s (F.blk scope bk.kind s' H C cl fp) h9) (fun s' H C cl fp => ckV_ok (n := n) (F.blk scope bk.kind s' H C cl fp) h10) (fun s' H C cl fp => tests_ok s (F.blk scope bk.kind s' H C cl fp) h11 (of_decide_eq_true h12))
        (fun s' H C cl fp => s.e h13 (F.blk scope bk.kind s' H C cl fp)) (no_fold h3) (fun env => no_fold h4)) fun σ H Q w => ?_
      rw [own_ix]
      exact tLc2_of w
    · cases h
end
end Q
end
section
namespace Q
open PySem PySem.Spec PyProof.Rows L2

section
variable {g : G} {Φ : Tbl}
/-- what is seen of the tree: a test has its own way -/
def ownTest : Expr → Bool
  | .BoolOp .. => true
  | .Compare .. => true
  | .UnaryOp .Not _ _ => true
  | .IfExp .. => true
  | _ => false
theorem plainTest {x : Expr} {env : Env} (h : ownTest x = false) : ∀ whole, isTrue x env whole = (do let v ← whole; standAt x.pos; holding [v] (truthy v)) := by
  intro whole
  cases x with
  | UnaryOp op _ _ => cases op <;> first | rfl | cases h
  | _ => first | rfl | cases h
theorem snd_t {n : Nat} (s : Snd g Φ n) {S : SI} {e : E} {x : Expr} {X : Cx} (h : ck (n + 1) S e x = true) (F : Fit g Φ S X) : PT X x (RB g E0 (asB (ev Φ (n + 1) e))) := by
  cases hp : ownTest x with
  | false => exact p_tval (snd_e s h F) (plainTest hp)
  | true =>
    cases e with
    | dead => exact p_tdead
    | nt a =>
      replace h : k_nt (ck n) S a x = true := h
      unfold k_nt at h
      split at h
      · exact p_tnot (s.t h F)
      · cases h
    | and a b =>
      replace h : k_and (ck n) S a b x = true := h
      unfold k_and at h
      split at h
      · obtain ⟨h1, h2⟩ := and2 h
        exact (p_wand (s.t h1 F) (or_of s F h2).2).pt
      · cases h
    | or a b =>
      replace h : k_or (ck n) S a b x = true := h
      unfold k_or at h
      split at h
      · obtain ⟨h1, h2⟩ := and2 h
        exact (p_wor (s.t h1 F) (or_of s F h2).2).pt
      · cases h
    | cmp op a b =>
      replace h : k_cmp (ck n) S op a b x = true := h
      unfold k_cmp at h
      split at h
      · obtain ⟨h, h4⟩ := and2 h
        obtain ⟨h, h3⟩ := and2 h
        obtain ⟨h1, h2⟩ := and2 h
        exact p_tcmp (cop_ok F.ok h1) (s.e h3 F) (s.e h4 F) (no_marks h2)
      · cases h
    | chain o1 o2 a b c =>
      replace h : k_chain (ck n) S o1 o2 a b c x = true := h
      unfold k_chain at h
      split at h
      · obtain ⟨h, h6⟩ := and2 h
        obtain ⟨h, h5⟩ := and2 h
        obtain ⟨h, h4⟩ := and2 h
        obtain ⟨h, h3⟩ := and2 h
        obtain ⟨h1, h2⟩ := and2 h
        exact p_tchain (cop_ok F.ok h1) (cop_ok F.ok h2) (s.e h4 F) (s.e h5 F) (s.e h6 F) (by show behindInMarks _ _ = false; exact no_marks h3)
      · cases h
    | chain3 o1 o2 o3 a b c d =>
      replace h : k_chain3 (ck n) S o1 o2 o3 a b c d x = true := h
      unfold k_chain3 at h
      split at h
      · obtain ⟨h, h8⟩ := and2 h
        obtain ⟨h, h7⟩ := and2 h
        obtain ⟨h, h6⟩ := and2 h
        obtain ⟨h, h5⟩ := and2 h
        obtain ⟨h, h4⟩ := and2 h
        obtain ⟨h, h3⟩ := and2 h
        obtain ⟨h1, h2⟩ := and2 h
        exact p_tchain3 (cop_ok F.ok h1) (cop_ok F.ok h2) (cop_ok F.ok h3) (s.e h5 F) (s.e h6 F) (s.e h7 F) (s.e h8 F) (by show behindInMarks _ _ = false; exact no_marks h4)
      · cases h
    | ife c a b =>
      replace h : k_ife (ck n) S c a b x = true := h
      unfold k_ife at h
      split at h
      · obtain ⟨h, h3⟩ := and2 h
        obtain ⟨h1, h2⟩ := and2 h
        exact p_tife (s.t h1 F) (s.t h2 F) (s.t h3 F)
      · cases h
    | _ =>
      exfalso
      cases x with
      | BoolOp => exact absurd (show false = true from h) (by decide)
      | Compare => exact absurd (show false = true from h) (by decide)
      | IfExp => exact absurd (show false = true from h) (by decide)
      | UnaryOp op =>
        cases op with
        | Not => exact absurd (show false = true from h) (by decide)
        | _ => cases hp
      | _ => cases hp
theorem snd_w {n : Nat} (s : Snd g Φ n) {S : SI} {e : E} {op : BoolOp} {y : Expr} {r : List Expr} {pos : Pos} {X : Cx} (h : ck (n + 1) S e (.BoolOp op (y :: r) pos) = true) (F : Fit g Φ S X) : PW X (.BoolOp op (y :: r) pos) (RB g E0 (asB (ev Φ (n + 1) e))) := by
  cases e with
  | dead => exact ⟨fun _ _ _ _ _ _ _ ⟨_, _, _, _, _, w⟩ => absurd w fun w => w⟩
  | and a b =>
    cases op with
    | And =>
      cases r with
      | nil => exact absurd (show false = true from h) (by decide)
      | cons z r =>
        replace h : k_and (ck n) S a b (.BoolOp .And (y :: z :: r) pos) = true := h
        unfold k_and at h
        obtain ⟨h1, h2⟩ := and2 h
        exact p_wand (s.t h1 F) (or_of s F h2).2
    | Or => exact absurd (show false = true from h) (by decide)
  | or a b =>
    cases op with
    | Or =>
      cases r with
      | nil => exact absurd (show false = true from h) (by decide)
      | cons z r =>
        replace h : k_or (ck n) S a b (.BoolOp .Or (y :: z :: r) pos) = true := h
        unfold k_or at h
        obtain ⟨h1, h2⟩ := and2 h
        exact p_wor (s.t h1 F) (or_of s F h2).2
    | And => exact absurd (show false = true from h) (by decide)
  | _ => exact absurd (show false = true from h) (by decide)
theorem snd : ∀ n, Snd g Φ n
  | 0 => ⟨fun h => absurd (show false = true from h) (by decide), fun h => absurd (show false = true from h) (by decide), fun h => absurd (show false = true from h) (by decide)⟩
  | n + 1 => ⟨fun h F => snd_e (snd n) h F, fun h F => snd_t (snd n) h F, fun h F => snd_w (snd n) h F⟩
end

/-! ## statements -/
def ckL (f : S → Stmt → Bool) : List S → List Stmt → Bool
  | [], [] => true
  | s :: ss, x :: xs => f s x && ckL f ss xs
  | _, _ => false
def nodupN : List Nat → Bool
  | [] => true
  | i :: r => !r.contains i && nodupN r
/-- a, b = x, y stored from the right -/
def k_par (n : Nat) (S : SI) (is : List Nat) (es : List E) (x : Stmt) : Bool := match is, x with
  | [i, j], .Assign [.Tuple [.Name y p1, .Name z p2] _ _] (.Tuple [a, b] _ _) _ => S.here i y && S.here j z && kLocal (S.k y) && kLocal (S.k z) && decide (i ≠ j) && decide (y ≠ z) && (p1.line == p2.line) && notStar a && notStar b && !([a, b].all (foldedForSure 8)) && !([a, b].all (constantsAlone 8)) && cks (ck n S) es [a, b]
  | [i, j, l], .Assign [.Tuple [.Name y p1, .Name z p2, .Name u p3] _ _] (.Tuple [a, b, c] _ _) _ => S.here i y && S.here j z && S.here l u && kLocal (S.k y) && kLocal (S.k z) && kLocal (S.k u) && decide (i ≠ j) && decide (i ≠ l) && decide (j ≠ l) && decide (y ≠ z) && decide (y ≠ u) && decide (z ≠ u) && (p1.line == p2.line) && (p1.line == p3.line) &&
      notStar a && notStar b && notStar c && !([a, b, c].all (foldedForSure 8)) && !([a, b, c].all (constantsAlone 8)) && cks (ck n S) es [a, b, c]
  | _, _ => false
/-- a comprehension that is stored in a local name of its line -/
def swapB (S : SI) (y : Str) (p : Pos) (sc : Scope) (q : Pos) : Bool := kLocal (S.k y) && (p.line == q.line) && !(sc.names.any fun (n, k) => n == y && (k == .local || k == .cell))
def noLoc (sc : Scope) : Expr → Bool
  | .Name x _ => !kLocal (sc.names.lookup x)
  | _ => true
def foldedT : Expr → Bool
  | .Tuple vs _ _ => vs.all (foldedForSure 8)
  | _ => false
def k_asg (n : Nat) (S : SI) (t : T) (e : E) (x : Stmt) : Bool := match x with
  | .Assign [tg] v _ => ckT S (ck n S) t tg && ck n S e v && notStar tg && (noComp v || noName tg || noLoc S.sc tg) && (!isTupE v || !isTupOrLst tg || foldedT v || (match tg with
    | .Tuple ts _ _ => ts.any (noLoc S.sc) || decide (3 < ts.length)
    | _ => false))
  | _ => false
def k_asgC (n : Nat) (S : SI) (t : T) (e : E) (x : Stmt) : Bool := match t, x with
  | .nm i, .Assign [.Name y p] (.ListComp elt gs sc q) _ => S.st i y && ck n S e (.ListComp elt gs sc q) && swapB S y p sc q
  | _, _ => false
def k_tryr (n : Nat) (S : SI) (ei j C : Nat) (a : Str) (f : Nat) (es : List E) (x : Stmt) : Bool := match x with
  | .Try [.Expr (.Call (.Name y _) zs [] _) _] [.ExceptHandler (some (.Name b _)) (some en) [.Assign [.Name jn _] (.IfExp (.Call (.Name isn _) [.Name en2 _, .Name cn _] [] _) (.Constant (.str s1) _ _) (.Constant (.str _) _ _) _) _] _] [] [] _ =>
    S.top && S.here ei en && kLocal (S.k en) && okName en && en2 == en && S.here j jn && kLocal (S.k jn) && decide (ei ≠ j) && S.bl isn "isinstance" && kGlb (S.k cn) && okName cn && decide (S.exc.lookup cn = some C) && kGlb (S.k b) && okName b && S.exh.contains (b, C) && s1 == a &&
      kGlb (S.k y) && okName y && decide (S.fxs.lookup y = some (f, es.length)) && zs.all notStar && !zs.isEmpty && cks (ck n S) es zs
  | _ => false
def augOk : Bop → Bool
  | .add => true
  | .sub => true
  | .mul => true
  | _ => false
def ckS : Nat → SI → S → Stmt → Bool
  | 0, _, _, _ => false
  | n + 1, S, s, x => match s with
    | .dead => true
    | .asg t e => k_asg n S t e x || k_asgC n S t e x
    | .par is es => k_par n S is es x
    | .aug i op e => match x with
      | .AugAssign (.Name y _) o v _ => S.here i y && kLocal (S.k y) && bopIs op o && augOk op && ck n S e v
      | _ => false
    | .augs a i op e => match x with
      | .AugAssign (.Subscript o j _) oo v _ => plainIx j && bopIs op oo && augOk op && ck n S a o && ck n S i j && ck n S e v
      | _ => false
    | .ife c a b => match x with
      | .If u y z _ => ck n S c u && ckL (ckS n S) a y && ckL (ckS n S) b z
      | _ => false
    | .for_ t it b => match x with
      | .For tg iter y [] _ => ckI S (ck n S) tg it iter && notSet iter && ckT S (ck n S) t tg && ckL (ckS n S) b y
      | _ => false
    | .wh c b => match x with
      | .While u y [] _ => ck n S c u && ckL (ckS n S) b y
      | _ => false
    | .ret e => match x with
      | .Return (some v) _ => ck n S e v
      | _ => false
    | .retn => match x with
      | .Return none _ => true
      | _ => false
    | .ex e => match x with
      | .Expr v _ => noComp v && ck n S e v
      | _ => false
    | .brk => match x with
      | .Break _ => true
      | _ => false
    | .cont => match x with
      | .Continue _ => true
      | _ => false
    | .pass => match x with
      | .Pass _ => true
      | _ => false
    | .tryr ei j C a f es => k_tryr n S ei j C a f es x
    | _ => false
/-- .. of a def that may raise -/
def ckX1 (n : Nat) (S : SI) (s : Q.S) (x : Stmt) : Bool := match s with
  | .nx s => ckS n S s x
  | .ifr c C => match x with
    | .If u [.Raise (some (.Call (.Name y _) [] [] _)) none _] [] _ => ck n S c u && kGlb (S.k y) && okName y && decide (S.exc.lookup y = some C)
    | _ => false
  | _ => false
 
theorem fm_lt {nn : Expr → Bool} : ∀ {ts : List Expr} {f : Expr → Option Str}, ts.any nn = true → (∀ e, nn e = true → f e = none) → (ts.filterMap f).length < ts.length
  | [], _, h, _ => by cases h
  | t :: ts, f, h, hf => by
    rw [List.any_cons, Bool.or_eq_true] at h
    rw [List.filterMap_cons]
    rcases h with h | h
    · rw [hf t h]
      exact Nat.lt_succ_of_le (List.length_filterMap_le f ts)
    · have ih := fm_lt h hf
      cases f t with
      | none => exact Nat.lt_succ_of_lt ih
      | some y => exact Nat.succ_lt_succ ih
theorem noStores3 {ts vs : List Expr} {k1 k2 : Nat} {p1 p2 : Pos} {env : Env} (h : ts.any (noLoc env.scope) = true) : swappedStores [.Tuple ts k1 p1] (.Tuple vs k2 p2) env = pure none := by
  unfold swappedStores
  simp only []
  split
  · rfl
  · split
    · rfl
    · have lt : ∀ f : Expr → Option Str, (∀ e, noLoc env.scope e = true → f e = none) → ((ts.filterMap f).length != ts.length) = true := fun f hf => by
        rw [bne_iff_ne]
        exact Nat.ne_of_lt (fm_lt h hf)
      rw [lt _ (fun e he => by
        cases e with
        | Name x p =>
          have hk : (env.kindOf x == some .local) = false := by
            have e1 : env.kindOf x = env.scope.names.lookup x := rfl
            rw [e1]
            have he : (!kLocal (env.scope.names.lookup x)) = true := he
            generalize env.scope.names.lookup x = k at he
            cases k with
            | none => rfl
            | some k => cases k <;> first | rfl | cases he
          show (if (env.kindOf x == some .local && _) = true then some x else none) = none
          rw [hk, Bool.false_and]
          rfl
        | _ => rfl), Bool.true_or]
      rfl
theorem noStores5 {ts vs : List Expr} {k1 k2 : Nat} {p1 p2 : Pos} {env : Env} (h : 3 < ts.length) : swappedStores [.Tuple ts k1 p1] (.Tuple vs k2 p2) env = pure none := by
  have e2 : (ts.length == 2) = false := beq_eq_false_iff_ne.mpr (by omega)
  have e3 : (ts.length == 3) = false := beq_eq_false_iff_ne.mpr (by omega)
  unfold swappedStores
  simp only []
  rw [e2, e3]
  rfl
theorem kindOf_eq {env : Env} {x : Str} (h : env.scope.names.lookup x = some .local) : (env.kindOf x == some .local) = true := by
  have e : env.kindOf x = some .local := h
  rw [e]; rfl
theorem blockKind_eq {env : Env} (h : env.scope.kind = .function) : (env.blockKind != .function) = false := by
  have e : env.blockKind = .function := by unfold Env.blockKind; rw [h]; rfl
  rw [e]; rfl
theorem stores2 {x y : Str} {px py pt pt2 : Pos} {kt k2 : Nat} {a b : Expr} {env : Env} (hk : env.scope.kind = .function) (hx : env.scope.names.lookup x = some .local) (hy : env.scope.names.lookup y = some .local) (hxy : x ≠ y) (hl : (px.line == py.line) = true)
    (na : notStar a = true) (nb : notStar b = true) (h1 : [a, b].all (foldedForSure 8) = false) (h2 : [a, b].all (constantsAlone 8) = false) :
    swappedStores [.Tuple [.Name x px, .Name y py] kt pt] (.Tuple [a, b] k2 pt2) env = pure (some [x, y]) := by
  have hl' : (py.line == px.line) = true := by rw [beq_iff_eq] at hl ⊢; exact hl.symm
  have hd : ([x, y].eraseDups.length != [x, y].length) = false := by
    rw [List.eraseDups_cons]
    simp [List.eraseDups_cons, Ne.symm hxy]
  have st : ∀ f : Expr → Bool, (∀ e, notStar e = true → f e = false) → [a, b].any f = false := fun f hf => by
    rw [List.any_cons, List.any_cons, hf a na, hf b nb]
    rfl
  have nm : ∀ f : Expr → Option Str, f (.Name x px) = some x → f (.Name y py) = some y → [Expr.Name x px, Expr.Name y py].filterMap f = [x, y] := fun f f1 f2 => by
    rw [List.filterMap_cons, f1, List.filterMap_cons, f2, List.filterMap_nil]
  have if1 : ∀ {c : Bool} {z : Str}, c = true → (if c = true then some z else none) = some z := fun h => if_pos h
  unfold swappedStores
  simp only [blockKind_eq hk, h1, h2]
  rw [nm _ (if1 (by rw [kindOf_eq hx]; exact beq_self_eq_true _)) (if1 (by rw [kindOf_eq hy]; exact hl'))]
  rw [hd, st _ (fun e he => by cases e <;> first | rfl | cases he)]
  rfl
theorem stores3 {x y z : Str} {px py pz pt pt2 : Pos} {kt k2 : Nat} {a b c : Expr} {env : Env} (hk : env.scope.kind = .function) (hx : env.scope.names.lookup x = some .local) (hy : env.scope.names.lookup y = some .local) (hz : env.scope.names.lookup z = some .local) (hxy : x ≠ y) (hxz : x ≠ z) (hyz : y ≠ z) (hl : (px.line == py.line) = true) (hl2 : (px.line == pz.line) = true)
    (na : notStar a = true) (nb : notStar b = true) (nc : notStar c = true) (h1 : [a, b, c].all (foldedForSure 8) = false) (h2 : [a, b, c].all (constantsAlone 8) = false) :
    swappedStores [.Tuple [.Name x px, .Name y py, .Name z pz] kt pt] (.Tuple [a, b, c] k2 pt2) env = pure (some [x, y, z]) := by
  have hl' : (py.line == px.line) = true := by rw [beq_iff_eq] at hl ⊢; exact hl.symm
  have hl2' : (pz.line == px.line) = true := by rw [beq_iff_eq] at hl2 ⊢; exact hl2.symm
  have hd : ([x, y, z].eraseDups.length != [x, y, z].length) = false := by
    rw [List.eraseDups_cons]
    simp [List.eraseDups_cons, Ne.symm hxy, Ne.symm hxz, Ne.symm hyz]
  have st : ∀ f : Expr → Bool, (∀ e, notStar e = true → f e = false) → [a, b, c].any f = false := fun f hf => by
    rw [List.any_cons, List.any_cons, List.any_cons, hf a na, hf b nb, hf c nc]
    rfl
  have nm : ∀ f : Expr → Option Str, f (.Name x px) = some x → f (.Name y py) = some y → f (.Name z pz) = some z → [Expr.Name x px, Expr.Name y py, Expr.Name z pz].filterMap f = [x, y, z] := fun f f1 f2 f3 => by
    rw [List.filterMap_cons, f1, List.filterMap_cons, f2, List.filterMap_cons, f3, List.filterMap_nil]
  have if1 : ∀ {c : Bool} {z : Str}, c = true → (if c = true then some z else none) = some z := fun h => if_pos h
  unfold swappedStores
  simp only [blockKind_eq hk, h1, h2]
  rw [nm _ (if1 (by rw [kindOf_eq hx]; exact beq_self_eq_true _)) (if1 (by rw [kindOf_eq hy]; exact hl')) (if1 (by rw [kindOf_eq hz]; exact hl2'))]
  rw [hd, st _ (fun e he => by cases e <;> first | rfl | cases he)]
  rfl
end Q
end
section
namespace Q
open PySem PySem.Spec PyProof.Rows L2

section
variable {g : G} {Φ : Tbl}
structure SndS (g : G) (Φ : Tbl) (n : Nat) : Prop where
  s : ∀ {S : SI} {s : Q.S} {x : Stmt} {X : Cx}, ckS n S s x = true → Fit g Φ S X → PS X x (RS g E0 (evS Φ n s))
theorem ckL_ok {n : Nat} {S : SI} {X : Cx} (s : SndS g Φ n) (F : Fit g Φ S X) : ∀ {ss : List Q.S} {xs : List Stmt}, ckL (ckS n S) ss xs = true → PSs X xs (RS g E0 (evSs (evS Φ n) ss))
  | [], [], _ => p_snil
  | [], _ :: _, h => by cases h
  | _ :: _, [], h => by cases h
  | t :: ts, x :: xs, h => by
    unfold ckL at h
    obtain ⟨h1, h2⟩ := and2 h
    exact p_sseq (s.s h1 F) (ckL_ok s F h2)
theorem swapsNone {t x : Expr} {l : Nat} {env : Env} (h : noName t = true) : swapsWithSole [t] x l env = pure false := by
  cases x <;> cases t <;> first | rfl | cases h
theorem noSwapL {x t : Expr} {l : Nat} {env : Env} (h : noLoc env.scope t = true) : swapsWithSole [t] x l env = pure false := by
  cases t with
  | Name y p =>
    have hk : (env.kindOf y == some .local) = false := by
      have e1 : env.kindOf y = env.scope.names.lookup y := rfl
      rw [e1]
      have he : (!kLocal (env.scope.names.lookup y)) = true := h
      generalize env.scope.names.lookup y = k at he
      cases k with
      | none => rfl
      | some k => cases k <;> first | rfl | cases he
    show swapsWith x (some (.Name y p)) l env = pure false
    unfold swapsWith
    cases x <;> first | rfl | (simp only [hk, Bool.and_false, Bool.false_and])
  | _ => exact swapsNone rfl
theorem noStores4 {x t : Expr} {env : Env} (h : foldedT x = true) : swappedStores [t] x env = pure none := by
  cases x with
  | Tuple vs k p =>
    replace h : vs.all (foldedForSure 8) = true := h
    have main : ∀ ts : List Expr, (do
        if !(ts.length == 2 || ts.length == 3) || vs.length != ts.length || env.blockKind != .function then return none
        if vs.any fun | .Starred .. => true | _ => false then return none
        let line := (ts.head?.map (·.pos.line)).getD 0
        let names := ts.filterMap fun
          | .Name id pos => if env.kindOf id == some .local && pos.line == line then some id else none
          | _ => none
        if names.length != ts.length || names.eraseDups.length != names.length then return none
        if vs.all (foldedForSure 8) then return none
        if vs.all (constantsAlone 8) then unsupported "assign.tuple-of-constant-expressions:order-of-the-stores"
        return some names : Sem (Option (List Str))) = pure none := fun ts => by
      simp only [h, if_true]
      split <;> first | rfl | skip
      split <;> first | rfl | skip
      split <;> rfl
    unfold swappedStores
    cases t with
    | Tuple ts k2 p2 => exact main ts
    | List ts p2 => exact main ts
    | _ => rfl
  | _ => cases h
theorem asg_ok {n : Nat} {S : SI} {X : Cx} {t : T} {e : E} {x : Stmt} (F : Fit g Φ S X) (h : k_asg n S t e x = true) : PS X x (RS g E0 (sAsg (ev Φ n e) (evT (ev Φ n) t))) := by
  unfold k_asg at h
  split at h
  · rename_i tg v pos
    obtain ⟨h, h5⟩ := and2 h
    obtain ⟨h, h4⟩ := and2 h
    obtain ⟨h, h3⟩ := and2 h
    obtain ⟨h1, h2⟩ := and2 h
    refine p_asg (snd n |>.e h2 F) (ckT_ok (snd n) F h1) ?_ ?_ (by rw [asg1 h3]; rfl)
    · rw [Bool.or_eq_true, Bool.or_eq_true] at h4
      exact h4.elim (fun z => z.elim noSwap swapsNone) fun z => noSwapL (by rw [F.sc]; exact z)
    · rw [Bool.or_eq_true, Bool.or_eq_true, Bool.or_eq_true, Bool.not_eq_true', Bool.not_eq_true'] at h5
      rcases h5 with ((h5 | h5) | h5) | h5
      · exact noStores h5
      · exact noStores2 h5
      · exact noStores4 h5
      · cases tg with
        | Tuple ts k p =>
          cases v with
          | Tuple vs k2 p2 =>
            rcases Bool.or_eq_true_iff.mp h5 with z | z
            · exact noStores3 (by rw [F.sc]; exact z)
            · exact noStores5 (of_decide_eq_true z)
          | _ => exact noStores rfl
        | _ => cases h5
  · cases h
theorem RE_mono {f : DE} {σ : L2.St} {H : Hp} {Q Q' : VK} {E1 : XK} (w : RE g E1 f σ H Q) (k : ∀ v H, Q v H → Q' v H) : RE g E1 f σ H Q' := by
  obtain ⟨κ, ρ, env, h, S, w⟩ := w
  refine ⟨κ, ρ, env, h, S, ?_⟩
  revert w
  cases f env h with
  | bad => exact fun w => w
  | ex x h' => exact fun w => w
  | ok d h1 => exact fun w ρ1 v H1 k1 c1 r1 => k v H1 (w ρ1 v H1 k1 c1 r1)
theorem nm_of {i : Nat} {f : Q.E → DE} {v : V} {σ : L2.St} {H : Hp} {Q : L2.St → Hp → Prop} {E1 : XK} (w : RG g E1 (evT f (.nm i)) v σ H Q) : gName i v σ H Q := by
  obtain ⟨κ, ρ, env, h, d, S, r, w⟩ := w
  exact w ρ _ H (Go.refl _ _) S.cs (S.en.set i r)
theorem asgC_ok {n : Nat} {S : SI} {X : Cx} {t : T} {e : E} {x : Stmt} (F : Fit g Φ S X) (h : k_asgC n S t e x = true) : PS X x (RS g E0 (sAsg (ev Φ n e) (evT (ev Φ n) t))) := by
  unfold k_asgC at h
  split at h
  · rename_i i y p elt gs sc q pos
    obtain ⟨h, h3⟩ := and2 h
    obtain ⟨h1, h2⟩ := and2 h
    unfold swapB at h3
    obtain ⟨h3, h6⟩ := and2 h3
    obtain ⟨h4, h5⟩ := and2 h3
    have hy := F.lcl h4
    unfold SI.st at h1
    have hi := F.here (and2 (and2 h1).1).1
    rw [Bool.not_eq_true'] at h6
    cases n with
    | zero => exact absurd (show false = true from h2) (by decide)
    | succ n =>
      have hk : X.env.scope.kind = .function := by rw [F.sc]; exact F.kind
      cases e with
      | dead => exact PS.imp ps_never fun D0 σ H ⟨_, _, _, _, _, w⟩ => w
      | lc m own t it ifs e =>
        replace h2 : k_lc (ck n) S own t it ifs e (.ListComp elt gs sc q) = true := h2
        unfold k_lc at h2
        split at h2
        · rename_i elt' tg iter ifs' scope pos' heq
          cases heq
          obtain ⟨h2, g7⟩ := and2 h2
          obtain ⟨h2, g6⟩ := and2 h2
          obtain ⟨h2, g5⟩ := and2 h2
          obtain ⟨h2, g4⟩ := and2 h2
          obtain ⟨h2, g3⟩ := and2 h2
          obtain ⟨g1, g2⟩ := and2 h2
          have bk := blkOk_by g1
          rw [← F.N, ← F.sc] at bk
          have s := snd (g := g) (Φ := Φ) n
          refine PS.imp (ps_setLc F.ok.calm F.nodup hi hy (sw_true hk hy h5 h6) (ckI_ok s F g3) bk (fun s' H C cl fp => ckV_ok (n := n) (F.blk sc bk.kind s' H C cl fp) g4) (fun s' H C cl fp => tests_ok s (F.blk sc bk.kind s' H C cl fp) g5 (of_decide_eq_true g6)) (fun s' H C cl fp => s.e g7 (F.blk sc bk.kind s' H C cl fp)) (no_fold g2)) fun D0 σ H w => ?_
          rw [own_ix]
          exact tLc_of (RE_mono (tAsg_of w) fun v H1 w => nm_of w)
        · cases h2
      | lc2 m own own1 t it ifs t1 it1 ifs1 e =>
        replace h2 : k_lc2 (ck n) S own own1 t it ifs t1 it1 ifs1 e (.ListComp elt gs sc q) = true := h2
        unfold k_lc2 at h2
        split at h2
        · rename_i elt' tg iter ifs' tg1 iter1 ifs1' scope pos' heq
          cases heq
          obtain ⟨h2, h13⟩ := and2 h2
          obtain ⟨h2, h12⟩ := and2 h2
          obtain ⟨h2, h11⟩ := and2 h2
          obtain ⟨h2, h10⟩ := and2 h2
          obtain ⟨h2, h9⟩ := and2 h2
          obtain ⟨h2, h8⟩ := and2 h2
          obtain ⟨h2, h7⟩ := and2 h2
          obtain ⟨h2, g6⟩ := and2 h2
          obtain ⟨h2, g5⟩ := and2 h2
          obtain ⟨h2, g4⟩ := and2 h2
          obtain ⟨h2, g3⟩ := and2 h2
          obtain ⟨g1, g2⟩ := and2 h2
          have bk := blkOk_by g1
          rw [← F.N, ← F.sc] at bk
          have sub : ∀ i ∈ own1, i ∈ (S.own own).map (·.2) := fun i hi => by
            rw [own_ix]
            have := List.all_eq_true.mp g2 i hi
            simpa using this
          have s := snd (g := g) (Φ := Φ) n
          refine PS.imp (ps_setLc2 F.ok.calm F.nodup hi hy (sw_true hk hy h5 h6) (ckI_ok s F g5) bk sub (fun s' H C cl fp => ckV_ok (n := n) (F.blk sc bk.kind s' H C cl fp) g6) (fun s' H C cl fp => tests_ok s (F.blk sc bk.kind s' H C cl fp) h7 (of_decide_eq_true h8))
            (fun s' H C cl fp => ckI_ok s (F.blk sc bk.kind s' H C cl fp) h9) (fun s' H C cl fp => ckV_ok (n := n) (F.blk sc bk.kind s' H C cl fp) h10) (fun s' H C cl fp => tests_ok s (F.blk sc bk.kind s' H C cl fp) h11 (of_decide_eq_true h12))
            (fun s' H C cl fp => s.e h13 (F.blk sc bk.kind s' H C cl fp)) (no_fold g3) (fun env => no_fold g4)) fun D0 σ H w => ?_
          rw [own_ix]
          exact tLc2_of (RE_mono (tAsg_of w) fun v H1 w => nm_of w)
        · cases h2
      | _ => exact absurd (show false = true from h2) (by decide)
  · cases h
theorem par_ok {n : Nat} {S : SI} {X : Cx} {is : List Nat} {es : List E} {x : Stmt} (F : Fit g Φ S X) (h : k_par n S is es x = true) : PS X x (RS g E0 (sPar is (evs (ev Φ n) es))) := by
  have hk : X.env.scope.kind = .function := by rw [F.sc]; exact F.kind
  have s := snd (g := g) (Φ := Φ) n
  unfold k_par at h
  split at h
  · obtain ⟨h, h12⟩ := and2 h
    obtain ⟨h, h11⟩ := and2 h
    obtain ⟨h, h10⟩ := and2 h
    obtain ⟨h, h9⟩ := and2 h
    obtain ⟨h, h8⟩ := and2 h
    obtain ⟨h, h7⟩ := and2 h
    obtain ⟨h, h6⟩ := and2 h
    obtain ⟨h, h5⟩ := and2 h
    obtain ⟨h, h4⟩ := and2 h
    obtain ⟨h, h3⟩ := and2 h
    obtain ⟨h1, h2⟩ := and2 h
    rw [Bool.not_eq_true'] at h10 h11
    exact p_par2 F.ok.calm F.nodup (F.here h1) (F.here h2) (of_decide_eq_true h5) (F.lcl h3) (F.lcl h4) (cks_ok s F h12).1 (stores2 hk (F.lcl h3) (F.lcl h4) (of_decide_eq_true h6) h7 h8 h9 h10 h11) rfl
  · obtain ⟨h, h20⟩ := and2 h
    obtain ⟨h, h19⟩ := and2 h
    obtain ⟨h, h18⟩ := and2 h
    obtain ⟨h, h17⟩ := and2 h
    obtain ⟨h, h16⟩ := and2 h
    obtain ⟨h, h15⟩ := and2 h
    obtain ⟨h, h14⟩ := and2 h
    obtain ⟨h, h13⟩ := and2 h
    obtain ⟨h, h12⟩ := and2 h
    obtain ⟨h, h11⟩ := and2 h
    obtain ⟨h, h10⟩ := and2 h
    obtain ⟨h, h9⟩ := and2 h
    obtain ⟨h, h8⟩ := and2 h
    obtain ⟨h, h7⟩ := and2 h
    obtain ⟨h, h6⟩ := and2 h
    obtain ⟨h, h5⟩ := and2 h
    obtain ⟨h, h4⟩ := and2 h
    obtain ⟨h, h3⟩ := and2 h
    obtain ⟨h1, h2⟩ := and2 h
    rw [Bool.not_eq_true'] at h18 h19
    exact p_par3 F.ok.calm F.nodup (F.here h1) (F.here h2) (F.here h3) (of_decide_eq_true h7) (of_decide_eq_true h8) (of_decide_eq_true h9) (F.lcl h4) (F.lcl h5) (F.lcl h6) (cks_ok s F h20).1
      (stores3 hk (F.lcl h4) (F.lcl h5) (F.lcl h6) (of_decide_eq_true h10) (of_decide_eq_true h11) (of_decide_eq_true h12) h13 h14 h15 h16 h17 h18 h19) rfl
  · cases h
end
end Q
end
section
namespace Q
open PySem PySem.Spec PyProof.Rows L2

section
variable {g : G} {Φ : Tbl}
theorem Fit.tr {S : SI} {X : Cx} (F : Fit g Φ S X) (pn : List (Addr × Obj)) : Fit g Φ S (X.tr pn (fun _ _ => False)) :=
  ⟨⟨F.ok.K, F.ok.P, F.ok.w, F.ok.u, F.ok.calm⟩, rfl, F.N, F.nd, F.sc, F.kind, F.fn, F.fns, F.cst, F.blt, F.mks, F.cms, F.fls, F.stk, F.fxs, fun x C h => let ⟨h1, h2⟩ := F.exc x C h; ⟨h1, ⟨h2.ein, h2.kp, h2.sub, h2.ty, h2.is⟩⟩, F.exh⟩
theorem try_ok {n : Nat} {S : SI} {X : Cx} {ei j C : Nat} {a : Str} {f : Nat} {es : List Q.E} {x : Stmt} (F : Fit g Φ S X) (h : k_tryr n S ei j C a f es x = true) :
    PS X x (RS g E0 (fun env h => (evs (ev Φ n) es env h).bind fun ds h1 => tryO ei j C a env (Φ f false ds h1))) := by
  unfold k_tryr at h
  split at h
  · rename_i y p1 zs p2 p3 b p4 en jn p5 isn p6 en2 p7 cn p8 p9 s1 k1 q1 s2 k2 q2 q3 p10 p11 p12
    obtain ⟨h, h22⟩ := and2 h
    obtain ⟨h, h21⟩ := and2 h
    obtain ⟨h, h20⟩ := and2 h
    obtain ⟨h, h19⟩ := and2 h
    obtain ⟨h, h18⟩ := and2 h
    obtain ⟨h, h17⟩ := and2 h
    obtain ⟨h, h16⟩ := and2 h
    obtain ⟨h, h15⟩ := and2 h
    obtain ⟨h, h14⟩ := and2 h
    obtain ⟨h, h13⟩ := and2 h
    obtain ⟨h, h12⟩ := and2 h
    obtain ⟨h, h11⟩ := and2 h
    obtain ⟨h, h10⟩ := and2 h
    obtain ⟨h, h9⟩ := and2 h
    obtain ⟨h, h8⟩ := and2 h
    obtain ⟨h, h7⟩ := and2 h
    obtain ⟨h, h6⟩ := and2 h
    obtain ⟨h, h5⟩ := and2 h
    obtain ⟨h, h4⟩ := and2 h
    obtain ⟨h, h3⟩ := and2 h
    obtain ⟨h1, h2⟩ := and2 h
    obtain rfl := eq_of_beq h5
    obtain rfl := eq_of_beq h16
    obtain ⟨st1, st2⟩ := F.stk h1
    obtain ⟨rfl, gi, mi⟩ := F.bl h9
    obtain ⟨mc, xo⟩ := F.exc _ _ (of_decide_eq_true h12)
    obtain ⟨B, mb, hx⟩ := F.exh _ _ h15
    obtain ⟨fa, fd, ps, k, r1, r2, r3, r4, r5⟩ := F.fxs _ _ _ (of_decide_eq_true h19)
    cases zs with
    | nil => cases h21
    | cons z zs =>
      rw [List.all_cons, Bool.and_eq_true] at h20
      exact p_tryr st1 st2 F.nodup (F.here h2) (F.lcl h3) (F.here h6) (F.lcl h7) (of_decide_eq_true h8) (okName_ok h4).1 (okName_ok h4).2 gi mi (F.gl h10) mc (okName_ok h11).1 xo (F.gl h13) mb (okName_ok h14).1 hx r4 r5 (F.gl h17) r1 r2 r3 (okName_ok h18).1
        (fun pn => (cks_ok (snd n) (F.tr pn) h22).1) (evs_len es) (star1 h20.1) (star0 h20.2)
  · cases h
theorem snds_succ {n : Nat} (ih : SndS g Φ n) {S : SI} {s : Q.S} {x : Stmt} {X : Cx} (h : ckS (n + 1) S s x = true) (F : Fit g Φ S X) : PS X x (RS g E0 (evS Φ (n + 1) s)) := by
  have sn := snd (g := g) (Φ := Φ) n
  cases s with
  | dead => exact p_dead
  | asg t e =>
    replace h : (k_asg n S t e x || k_asgC n S t e x) = true := h
    rw [Bool.or_eq_true] at h
    exact h.elim (asg_ok F) (asgC_ok F)
  | par is es => exact par_ok F (show k_par n S is es x = true from h)
  | aug i op e =>
    cases x with
    | AugAssign tg o v p =>
      cases tg with
      | Name y q =>
        replace h : (S.here i y && kLocal (S.k y) && bopIs op o && augOk op && ck n S e v) = true := h
        obtain ⟨h, h5⟩ := and2 h
        obtain ⟨h, h4⟩ := and2 h
        obtain ⟨h, h3⟩ := and2 h
        obtain ⟨h1, h2⟩ := and2 h
        refine p_aug F.nodup (F.here h1) (F.lcl h2) (sn.e h5 F) ?_
        cases op with
        | add => cases o with
          | Add => exact ip_a
          | _ => exact absurd h3 (by decide)
        | sub => cases o with
          | Sub => exact ip_s
          | _ => exact absurd h3 (by decide)
        | mul => cases o with
          | Mult => exact ip_m
          | _ => exact absurd h3 (by decide)
        | _ => cases h4
      | _ => exact absurd (show false = true from h) (by decide)
    | _ => exact absurd (show false = true from h) (by decide)
  | augs a i op e =>
    cases x with
    | AugAssign tg o v p =>
      cases tg with
      | Subscript y j q =>
        replace h : (plainIx j && bopIs op o && augOk op && ck n S a y && ck n S i j && ck n S e v) = true := h
        obtain ⟨h, h6⟩ := and2 h
        obtain ⟨h, h5⟩ := and2 h
        obtain ⟨h, h4⟩ := and2 h
        obtain ⟨h, h3⟩ := and2 h
        obtain ⟨h1, h2⟩ := and2 h
        refine p_augs F.ok (sn.e h4 F) (sn.e h5 F) (sn.e h6 F) ?_ (plain_aug h1)
        cases op with
        | add => cases o with
          | Add => exact ip_a
          | _ => exact absurd h2 (by decide)
        | sub => cases o with
          | Sub => exact ip_s
          | _ => exact absurd h2 (by decide)
        | mul => cases o with
          | Mult => exact ip_m
          | _ => exact absurd h2 (by decide)
        | _ => cases h3
      | _ => exact absurd (show false = true from h) (by decide)
    | _ => exact absurd (show false = true from h) (by decide)
  | ife c a b =>
    cases x with
    | If u y z p =>
      replace h : (ck n S c u && ckL (ckS n S) a y && ckL (ckS n S) b z) = true := h
      obtain ⟨h, h3⟩ := and2 h
      obtain ⟨h1, h2⟩ := and2 h
      exact p_if (sn.t h1 F) (ckL_ok ih F h2) (ckL_ok ih F h3)
    | _ => exact absurd (show false = true from h) (by decide)
  | for_ t it b =>
    cases x with
    | For tg iter y el p =>
      cases el with
      | nil =>
        replace h : (ckI S (ck n S) tg it iter && notSet iter && ckT S (ck n S) t tg && ckL (ckS n S) b y) = true := h
        obtain ⟨h, h4⟩ := and2 h
        obtain ⟨h, h3⟩ := and2 h
        obtain ⟨h1, h2⟩ := and2 h
        exact p_for F.pass F.ok.calm (ckI_ok sn F h1) (ckT_ok sn F h3) (ckL_ok ih F h4) (no_fold h2)
      | cons _ _ => exact absurd (show false = true from h) (by decide)
    | _ => exact absurd (show false = true from h) (by decide)
  | wh c b =>
    cases x with
    | While u y el p =>
      cases el with
      | nil =>
        replace h : (ck n S c u && ckL (ckS n S) b y) = true := h
        obtain ⟨h1, h2⟩ := and2 h
        exact p_wh LOOPS F.pass (sn.t h1 F) (ckL_ok ih F h2)
      | cons _ _ => exact absurd (show false = true from h) (by decide)
    | _ => exact absurd (show false = true from h) (by decide)
  | ret e =>
    cases x with
    | Return v p =>
      cases v with
      | none => exact absurd (show false = true from h) (by decide)
      | some v => exact p_ret (sn.e (show ck n S e v = true from h) F)
    | _ => exact absurd (show false = true from h) (by decide)
  | retn =>
    cases x with
    | Return v p =>
      cases v with
      | none => exact p_retN
      | some v => exact absurd (show false = true from h) (by decide)
    | _ => exact absurd (show false = true from h) (by decide)
  | ex e =>
    cases x with
    | Expr v p =>
      obtain ⟨h1, h2⟩ := and2 (show (noComp v && ck n S e v) = true from h)
      exact p_ex (sn.e h2 F) (noSwap0 h1)
    | _ => exact absurd (show false = true from h) (by decide)
  | brk =>
    cases x with
    | Break p => exact p_brk
    | _ => exact absurd (show false = true from h) (by decide)
  | cont =>
    cases x with
    | Continue p => exact p_cont
    | _ => exact absurd (show false = true from h) (by decide)
  | pass =>
    cases x with
    | Pass p => exact p_pass
    | _ => exact absurd (show false = true from h) (by decide)
  | tryr ei j C a f es => exact try_ok F (show k_tryr n S ei j C a f es x = true from h)
  | _ => exact absurd (show false = true from h) (by decide)
theorem snds : ∀ n, SndS g Φ n
  | 0 => ⟨fun h => absurd (show false = true from h) (by decide)⟩
  | n + 1 => ⟨fun h F => snds_succ (snds n) h F⟩
/-- a body -/
theorem body_ok {n : Nat} {S : SI} {ss : List Q.S} {xs : List Stmt} {X : Cx} (h : ckL (ckS n S) ss xs = true) (F : Fit g Φ S X) : PSs X xs (RS g E0 (evSs (evS Φ n) ss)) := ckL_ok (snds n) F h
/-- a body that may raise -/
theorem Fit.unnox {S : SI} {X : Cx} (F : Fit g Φ S X.nox) : True := trivial
theorem body_okX {E : XK} {n : Nat} {S : SI} {X : Cx} (F : Fit g Φ S X.nox) (tk : Takes X (fun cls d _ H => E cls d H)) (hc : X.calm = true) : ∀ {ss : List Q.S} {xs : List Stmt}, ckL (ckX1 n S) ss xs = true → PSs X xs (RS g E (evSs (evS Φ (n + 1)) ss))
  | [], [], _ => p_snil
  | [], _ :: _, h => by cases h
  | _ :: _, [], h => by cases h
  | t :: ts, x :: xs, h => by
    unfold ckL at h
    obtain ⟨h1, h2⟩ := and2 h
    refine p_sseq ?_ (body_okX F tk hc h2)
    unfold ckX1 at h1
    split at h1
    · exact p_nx ((snds n).s h1 F)
    · split at h1
      · obtain ⟨h1, k4⟩ := and2 h1
        obtain ⟨h1, k3⟩ := and2 h1
        obtain ⟨k1, k2⟩ := and2 h1
        obtain ⟨mc, xo⟩ := F.exc _ _ (of_decide_eq_true k4)
        exact p_ifr hc tk ((snd n).t k1 F) (F.gl k2) mc (okName_ok k3).1 ⟨xo.ein, xo.kp, xo.sub, xo.ty, xo.is⟩
      · cases h1
    · cases h1
end
end Q
end
section
namespace Q
open PySem PySem.Spec PyProof.Rows L2

/-! ## a call's end -/
mutual
theorem low_mono {n m : Nat} (hm : n ≤ m) : ∀ {d : D}, low n d = true → low m d = true
  | .ml i, h => by unfold low at h ⊢; exact decide_eq_true (Nat.lt_of_lt_of_le (of_decide_eq_true h) hm)
  | .md i, h => by unfold low at h ⊢; exact decide_eq_true (Nat.lt_of_lt_of_le (of_decide_eq_true h) hm)
  | .tup ds, h => by unfold low at h ⊢; exact lows_mono hm h
  | .pr ds, h => by unfold low at h ⊢; exact lows_mono hm h
  | .fl ds, h => by unfold low at h ⊢; exact lows_mono hm h
  | .rl ds, h => by unfold low at h ⊢; exact lows_mono hm h
  | .non, _ => by unfold low; rfl
  | .bl _, _ => by unfold low; rfl
  | .int _, _ => by unfold low; rfl
  | .str _, _ => by unfold low; rfl
  | .fn _, _ => by unfold low; rfl
theorem lows_mono {n m : Nat} (hm : n ≤ m) : ∀ {ds : List D}, lows n ds = true → lows m ds = true
  | [], _ => by unfold lows; rfl
  | d :: ds, h => by
    unfold lows at h ⊢
    obtain ⟨h1, h2⟩ := and2 h
    rw [low_mono hm h1, lows_mono hm h2]; rfl
end
theorem lows_iff {n : Nat} {ds : List D} : lows n ds = true ↔ ∀ d ∈ ds, low n d = true := by
  induction ds with
  | nil => unfold lows; simp
  | cons d ds ih => unfold lows; rw [Bool.and_eq_true, ih]; simp
section
variable {g : G} {K : PySem.W.Frag} {κ ρ ρ' ρt : List Addr} {H H' : Hp} {h h' : Hh} {n B : Nat}
mutual
theorem rep_low : ∀ {d : D} {v : V}, Rep K κ ρ H d v → low ρ.length d = true
  | .ml i, v, ⟨a, _, e⟩ => by unfold low; exact decide_eq_true (List.getElem?_eq_some_iff.mp e).1
  | .md i, v, ⟨a, _, e⟩ => by unfold low; exact decide_eq_true (List.getElem?_eq_some_iff.mp e).1
  | .tup ds, v, ⟨a, vs, _, _, r⟩ => by unfold low; exact reps_low r
  | .pr ds, v, ⟨a, vs, _, _, r⟩ => by unfold low; exact reps_low r
  | .fl ds, v, ⟨a, vs, _, _, r⟩ => by unfold low; exact reps_low r
  | .rl ds, v, ⟨a, vs, _, _, r⟩ => by unfold low; exact reps_low r
  | .non, _, _ => by unfold low; rfl
  | .bl _, _, _ => by unfold low; rfl
  | .int _, _, _ => by unfold low; rfl
  | .str _, _, _ => by unfold low; rfl
  | .fn _, _, _ => by unfold low; rfl
theorem reps_low : ∀ {ds : List D} {vs : List V}, Reps K κ ρ H ds vs → lows ρ.length ds = true
  | [], _, _ => by unfold lows; rfl
  | d :: ds, _, ⟨v, r, _, h1, h2⟩ => by unfold lows; rw [rep_low h1, reps_low h2]; rfl
end
theorem FT.cut {a : Addr} {vs : List V} (s : ∀ a ∈ ρt, a ∈ ρ') (f : FT κ ρ' H a vs) : FT κ ρt H a vs := ⟨f.1, fun q => f.2.1 (s a q), f.2.2⟩
theorem FR.cut {a : Addr} {vs : List V} (s : ∀ a ∈ ρt, a ∈ ρ') (f : FR K κ ρ' H a vs) : FR K κ ρt H a vs := f.imp (fun ⟨o, z1, z2, z3⟩ => ⟨o, z1, fun q => z2 (s a q), z3⟩) fun w => w
mutual
/-- fewer cells: what names only those -/
theorem rep_cut (s : ∀ a ∈ ρt, a ∈ ρ') (t : ∀ (i : Nat) (a : Addr), i < n → ρ'[i]? = some a → ρt[i]? = some a) : ∀ {d : D} {v : V}, low n d = true → Rep K κ ρ' H d v → Rep K κ ρt H d v
  | .ml i, v, hl, ⟨a, e1, e⟩ => by unfold low at hl; exact ⟨a, e1, t i a (of_decide_eq_true hl) e⟩
  | .md i, v, hl, ⟨a, e1, e⟩ => by unfold low at hl; exact ⟨a, e1, t i a (of_decide_eq_true hl) e⟩
  | .tup ds, v, hl, ⟨a, vs, e, f, r⟩ => by unfold low at hl; exact ⟨a, vs, e, f.cut s, reps_cut s t hl r⟩
  | .pr ds, v, hl, ⟨a, vs, e, f, r⟩ => by unfold low at hl; exact ⟨a, vs, e, ⟨f.1, fun q => f.2.1 (s a q), f.2.2⟩, reps_cut s t hl r⟩
  | .fl ds, v, hl, ⟨a, vs, e, f, r⟩ => by unfold low at hl; exact ⟨a, vs, e, ⟨f.1, fun q => f.2.1 (s a q), f.2.2⟩, reps_cut s t hl r⟩
  | .rl ds, v, hl, ⟨a, vs, e, f, r⟩ => by unfold low at hl; exact ⟨a, vs, e, f.cut s, reps_cut s t hl r⟩
  | .non, _, _, r => r
  | .bl _, _, _, r => r
  | .int _, _, _, r => r
  | .str _, _, _, r => r
  | .fn _, _, _, r => r
theorem reps_cut (s : ∀ a ∈ ρt, a ∈ ρ') (t : ∀ (i : Nat) (a : Addr), i < n → ρ'[i]? = some a → ρt[i]? = some a) : ∀ {ds : List D} {vs : List V}, lows n ds = true → Reps K κ ρ' H ds vs → Reps K κ ρt H ds vs
  | [], _, _, r => r
  | d :: ds, _, hl, ⟨v, r, e, h1, h2⟩ => by
    unfold lows at hl
    obtain ⟨l1, l2⟩ := and2 hl
    exact ⟨v, r, e, rep_cut s t l1 h1, reps_cut s t l2 h2⟩
end
theorem mapO_reps {f : D → Option D} (hf : ∀ d e v, low B d = true → f d = some e → Rep K κ ρ' H d v → Rep K κ ρt H e v ∧ low n e = true) : ∀ {ds es : List D} {vs : List V}, lows B ds = true → mapO f ds = some es → Reps K κ ρ' H ds vs → Reps K κ ρt H es vs ∧ lows n es = true
  | [], es, vs, _, e, r => by
    unfold mapO at e
    cases e
    exact ⟨r, by unfold lows; rfl⟩
  | d :: ds, es, vs, hl, e, ⟨v, vr, ev, r1, r2⟩ => by
    unfold mapO at e
    unfold lows at hl
    obtain ⟨l1, l2⟩ := and2 hl
    cases q : f d with
    | none => rw [q] at e; cases e
    | some d' =>
      cases q2 : mapO f ds with
      | none => rw [q, q2] at e; cases e
      | some ds' =>
        rw [q, q2] at e
        cases e
        obtain ⟨a1, a2⟩ := hf d d' v l1 q r1
        obtain ⟨b1, b2⟩ := mapO_reps hf l2 q2 r2
        exact ⟨⟨v, vr, ev, a1, b1⟩, by unfold lows; rw [a2, b2]; rfl⟩
/-- what lies behind the first n cells is told as it stands -/
theorem frz_rep (c : CS g κ ρ' h' H') (s : ∀ a ∈ ρt, a ∈ ρ') (t : ∀ (i : Nat) (a : Addr), i < n → ρ'[i]? = some a → ρt[i]? = some a) (off : ∀ (j : Nat) (b : Addr), n ≤ j → j < B → ρ'[j]? = some b → b ∉ ρt ∧ b ∉ κ) :
    ∀ (k : Nat) (d e : D) (v : V), low B d = true → frz h' n k d = some e → Rep g.K κ ρ' H' d v → Rep g.K κ ρt H' e v ∧ low n e = true := by
  intro k
  induction k with
  | zero => intro d e v _ q; cases q
  | succ k ih =>
    have seq : ∀ {ds es : List D} {vs : List V}, lows B ds = true → mapO (frz h' n k) ds = some es → Reps g.K κ ρ' H' ds vs → Reps g.K κ ρt H' es vs ∧ lows n es = true := fun l e r => mapO_reps ih l e r
    intro d e v hl q r
    unfold frz at q
    cases d with
    | ml i =>
      unfold low at hl
      have hB := of_decide_eq_true hl
      obtain ⟨a, ev, ha⟩ := r
      dsimp only at q
      split at q
      · rename_i hi
        cases q
        exact ⟨⟨a, ev, t i a hi ha⟩, by unfold low; exact decide_eq_true hi⟩
      · rename_i hi
        obtain ⟨u, hu, cr⟩ := c.get ha
        rw [hu] at q
        cases u with
        | lst ds =>
          dsimp only at q
          cases qm : mapO (frz h' n k) ds with
          | none => rw [qm] at q; cases q
          | some es =>
            rw [qm] at q
            cases q
            obtain ⟨vs, e1, rr⟩ := cr
            have lo : lows B ds = true := lows_mono (Nat.le_of_lt hB) (c.low i _ hu)
            obtain ⟨r1, r2⟩ := seq lo qm rr
            obtain ⟨o1, o2⟩ := off i a (Nat.le_of_not_lt hi) hB ha
            exact ⟨⟨a, vs, ev, ⟨e1, o1, o2⟩, r1⟩, by unfold low; exact r2⟩
        | dK _ => cases q
        | dT _ => cases q
        | lK _ => cases q
        | lT _ => cases q
        | obj _ _ => cases q
    | md i =>
      unfold low at hl
      obtain ⟨a, ev, ha⟩ := r
      dsimp only at q
      split at q
      · rename_i hi
        cases q
        exact ⟨⟨a, ev, t i a hi ha⟩, by unfold low; exact decide_eq_true hi⟩
      · cases q
    | tup ds =>
      unfold low at hl
      dsimp only at q
      cases qm : mapO (frz h' n k) ds with
      | none => rw [qm] at q; cases q
      | some es =>
        rw [qm] at q
        cases q
        obtain ⟨a, vs, e1, f, rr⟩ := r
        obtain ⟨r1, r2⟩ := seq hl qm rr
        exact ⟨⟨a, vs, e1, f.cut s, r1⟩, by unfold low; exact r2⟩
    | pr ds =>
      unfold low at hl
      dsimp only at q
      cases qm : mapO (frz h' n k) ds with
      | none => rw [qm] at q; cases q
      | some es =>
        rw [qm] at q
        cases q
        obtain ⟨a, vs, e1, f, rr⟩ := r
        obtain ⟨r1, r2⟩ := seq hl qm rr
        exact ⟨⟨a, vs, e1, ⟨f.1, fun q => f.2.1 (s a q), f.2.2⟩, r1⟩, by unfold low; exact r2⟩
    | fl ds =>
      unfold low at hl
      dsimp only at q
      cases qm : mapO (frz h' n k) ds with
      | none => rw [qm] at q; cases q
      | some es =>
        rw [qm] at q
        cases q
        obtain ⟨a, vs, e1, f, rr⟩ := r
        obtain ⟨r1, r2⟩ := seq hl qm rr
        exact ⟨⟨a, vs, e1, ⟨f.1, fun q => f.2.1 (s a q), f.2.2⟩, r1⟩, by unfold low; exact r2⟩
    | rl ds =>
      unfold low at hl
      dsimp only at q
      cases qm : mapO (frz h' n k) ds with
      | none => rw [qm] at q; cases q
      | some es =>
        rw [qm] at q
        cases q
        obtain ⟨a, vs, e1, f, rr⟩ := r
        obtain ⟨r1, r2⟩ := seq hl qm rr
        exact ⟨⟨a, vs, e1, f.cut s, r1⟩, by unfold low; exact r2⟩
    | non => cases q; exact ⟨r, by unfold low; rfl⟩
    | bl _ => cases q; exact ⟨r, by unfold low; rfl⟩
    | int _ => cases q; exact ⟨r, by unfold low; rfl⟩
    | str _ => cases q; exact ⟨r, by unfold low; rfl⟩
    | fn _ => cases q; exact ⟨r, by unfold low; rfl⟩
theorem cellR_cut {a : Addr} {u : Cell} (s : ∀ a ∈ ρt, a ∈ ρ') (t : ∀ (i : Nat) (a : Addr), i < n → ρ'[i]? = some a → ρt[i]? = some a) (hl : lowC n u = true) (c : CellR g κ ρ' H a u) : CellR g κ ρt H a u := by
  cases u with
  | lst ds => obtain ⟨vs, e, r⟩ := c; exact ⟨vs, e, reps_cut s t hl r⟩
  | dK kvs =>
    obtain ⟨vs, e, r⟩ := c
    refine ⟨vs, e, ?_⟩
    replace hl : ∀ p ∈ kvs, low n p.2 = true := fun p hp => lows_iff.mp hl _ (List.mem_map_of_mem hp)
    clear e
    induction r with
    | nil => exact .nil
    | cons z _ ih => exact .cons ⟨z.1, rep_cut s t (hl _ (List.mem_cons_self ..)) z.2⟩ (ih fun p hp => hl p (List.mem_cons_of_mem _ hp))
  | dT kvs =>
    obtain ⟨vs, e, z1, z2, r⟩ := c
    refine ⟨vs, e, z1, z2, ?_⟩
    replace hl : ∀ p ∈ kvs, low n p.2 = true := fun p hp => lows_iff.mp hl _ (List.mem_map_of_mem hp)
    clear e z2
    induction r with
    | nil => exact .nil
    | cons z _ ih => exact .cons ⟨z.1, rep_cut (n := 0) s (fun i a hi => absurd hi (Nat.not_lt_zero i)) (nk_low z.1) z.2.1, rep_cut s t (hl _ (List.mem_cons_self ..)) z.2.2⟩ (ih fun p hp => hl p (List.mem_cons_of_mem _ hp))
  | lK kvs =>
    obtain ⟨od, vs, e, r⟩ := c
    refine ⟨od, vs, e, ?_⟩
    replace hl : ∀ p ∈ kvs, low n p.2 = true := fun p hp => lows_iff.mp hl _ (List.mem_map_of_mem hp)
    clear e
    induction r with
    | nil => exact .nil
    | cons z _ ih => exact .cons ⟨z.1, rep_cut s t (hl _ (List.mem_cons_self ..)) z.2⟩ (ih fun p hp => hl p (List.mem_cons_of_mem _ hp))
  | lT kvs =>
    obtain ⟨od, vs, e, z1, z2, r⟩ := c
    refine ⟨od, vs, e, z1, z2, ?_⟩
    replace hl : ∀ p ∈ kvs, low n p.2 = true := fun p hp => lows_iff.mp hl _ (List.mem_map_of_mem hp)
    clear e z2
    induction r with
    | nil => exact .nil
    | cons z _ ih => exact .cons ⟨z.1, rep_cut (n := 0) s (fun i a hi => absurd hi (Nat.not_lt_zero i)) (nk_low z.1) z.2.1, rep_cut s t (hl _ (List.mem_cons_self ..)) z.2.2⟩ (ih fun p hp => hl p (List.mem_cons_of_mem _ hp))
  | obj k fs =>
    obtain ⟨dx, vs, e, r⟩ := c
    refine ⟨dx, vs, e, ?_⟩
    replace hl : ∀ p ∈ fs, low n p.2 = true := fun p hp => lows_iff.mp hl _ (List.mem_map_of_mem hp)
    clear e
    induction r with
    | nil => exact .nil
    | cons z _ ih => exact .cons ⟨z.1, rep_cut s t (hl _ (List.mem_cons_self ..)) z.2⟩ (ih fun p hp => hl p (List.mem_cons_of_mem _ hp))
theorem lowC_mono {m : Nat} (hm : n ≤ m) {u : Cell} (h : lowC n u = true) : lowC m u = true := by
  cases u <;> exact lows_mono hm h
theorem get_ge {l : List Addr} (nd : l.Nodup) {n j : Nat} {b : Addr} (hn : n ≤ j) (e : l[j]? = some b) : b ∉ l.take n := fun q => by
  obtain ⟨i, hi, ei⟩ := List.getElem_of_mem q
  rw [List.length_take] at hi
  rw [List.getElem_take] at ei
  obtain ⟨hj, ej⟩ := List.getElem?_eq_some_iff.mp e
  have := (List.getElem_inj (h₀ := by omega) (h₁ := hj) nd).mp (ei.trans ej.symm)
  omega
/-- the callee's cells are given up -/
theorem fin0_ok {E : XK} {d : D} {v : V} {Q : VK} (c0 : CS g κ ρ h H) (k : Go ρ H ρ' H') (c : CS g κ ρ' h' H') (r : Rep g.K κ ρ' H' d v) (w : Wp g E κ ρ H (fin0 h.length h' d) Q) : Q v H' := by
  obtain ⟨tl, et⟩ := k.pre
  have e0 : ρ'.take h.length = ρ := by rw [et, ← c0.len, List.take_left]
  have s : ∀ a ∈ ρ, a ∈ ρ' := fun a q => k.sub q
  have t : ∀ (i : Nat) (a : Addr), i < h.length → ρ'[i]? = some a → ρ[i]? = some a := fun i a hi e => by
    rw [et, List.getElem?_append_left (by rw [c0.len]; exact hi)] at e; exact e
  unfold fin0 at w
  cases q : frz h' h.length 8 d with
  | none => rw [q] at w; exact absurd w fun w => w
  | some e =>
    rw [q] at w
    have off : ∀ (j : Nat) (b : Addr), h.length ≤ j → j < ρ'.length → ρ'[j]? = some b → b ∉ ρ ∧ b ∉ κ := fun j b hj _ e => by
      have hn : b ∉ ρ := by rw [← e0]; exact get_ge c.nd hj e
      exact ⟨hn, c0.freshK (k.new b (List.mem_of_getElem? e) hn)⟩
    obtain ⟨r1, _⟩ := frz_rep c s t off 8 d e v (rep_low r) q r
    refine w ρ v H' ⟨⟨[], by simp⟩, k.stay, fun a z n => absurd z n, k.fz⟩ ⟨?_, c0.nd, fun i a u h1 h2 => ?_, fun i u h2 => ?_, c.kap⟩ r1
    · rw [List.length_take, ← c.len, et, List.length_append, c0.len]; omega
    · have hi : i < h.length := by rw [← c0.len]; exact (List.getElem?_eq_some_iff.mp h1).1
      rw [List.getElem?_take_of_lt hi] at h2
      exact cellR_cut (n := h.length) s t (lowC_mono (Nat.le_of_lt hi) (c.low i u h2)) (c.cell i a u (k.at_ h1) h2)
    · by_cases hi : i < h.length
      · rw [List.getElem?_take_of_lt hi] at h2
        exact c.low i u h2
      · rw [List.getElem?_eq_none (by rw [List.length_take]; omega)] at h2; cases h2
/-- .. where an error leaves -/
theorem finX_ok {E : XK} {x : Exc} {cl : Value} {dO : Option Addr} {Q : VK} (c0 : CS g κ ρ h H) (k : Go ρ H ρ' H') (c : CS g κ ρ' h' H') (r : XRep g κ ρ' H' x cl dO) (w : Wp g E κ ρ H (finX h.length h' x) Q) : E cl dO H' := by
  obtain ⟨tl, et⟩ := k.pre
  have s : ∀ a ∈ ρ, a ∈ ρ' := fun a q => k.sub q
  have t : ∀ (i : Nat) (a : Addr), i < h.length → ρ'[i]? = some a → ρ[i]? = some a := fun i a hi e => by
    rw [et, List.getElem?_append_left (by rw [c0.len]; exact hi)] at e; exact e
  obtain ⟨ec, ea⟩ := r
  unfold finX at w
  cases q : x.arg with
  | some _ => rw [q] at w; exact absurd (show False from w) fun w => w
  | none =>
    rw [q] at w ea
    refine w ρ H' cl dO ⟨⟨[], by simp⟩, k.stay, fun a z n => absurd z n, k.fz⟩ ⟨?_, c0.nd, fun i a u h1 h2 => ?_, fun i u h2 => ?_, c.kap⟩ ⟨ec, by rw [q]; exact ea⟩
    · rw [List.length_take, ← c.len, et, List.length_append, c0.len]; omega
    · have hi : i < h.length := by rw [← c0.len]; exact (List.getElem?_eq_some_iff.mp h1).1
      rw [List.getElem?_take_of_lt hi] at h2
      exact cellR_cut (n := h.length) s t (lowC_mono (Nat.le_of_lt hi) (c.low i u h2)) (c.cell i a u (k.at_ h1) h2)
    · by_cases hi : i < h.length
      · rw [List.getElem?_take_of_lt hi] at h2
        exact c.low i u h2
      · rw [List.getElem?_eq_none (by rw [List.length_take]; omega)] at h2; cases h2
/-- .. and one of them, new, stays -/
theorem fin1_ok {E : XK} {i : Nat} {a : Addr} {u' : Cell} {d' : D} {Q : VK} (c0 : CS g κ ρ h H) (k : Go ρ H ρ' H') (c : CS g κ ρ' h' H') (ha : ρ'[i]? = some a) (hi : h.length ≤ i) (hd : d' = .ml h.length ∨ d' = .md h.length)
    (cu : CellR g κ (ρ ++ [a]) H' a u') (lu : lowC h.length u' = true) (w : Wp g E κ ρ H (.ok d' (h'.take h.length ++ [u'])) Q) : Q (.ref a) H' := by
  obtain ⟨tl, et⟩ := k.pre
  have e0 : ρ'.take h.length = ρ := by rw [et, ← c0.len, List.take_left]
  have hn : a ∉ ρ := by rw [← e0]; exact get_ge c.nd hi ha
  have s : ∀ b ∈ ρ ++ [a], b ∈ ρ' := fun b q => (List.mem_append.mp q).elim (fun q => k.sub q) fun q => by rw [List.mem_singleton.mp q]; exact List.mem_of_getElem? ha
  have t : ∀ (j : Nat) (b : Addr), j < h.length → ρ'[j]? = some b → (ρ ++ [a])[j]? = some b := fun j b hj e => by
    rw [List.getElem?_append_left (by rw [c0.len]; exact hj)]
    rw [et, List.getElem?_append_left (by rw [c0.len]; exact hj)] at e; exact e
  have ea : (ρ ++ [a])[h.length]? = some a := by rw [← c0.len, List.getElem?_append_right (Nat.le_refl _)]; simp
  have lt : (h'.take h.length).length = h.length := by rw [List.length_take, ← c.len, et, List.length_append, c0.len]; omega
  refine w (ρ ++ [a]) (.ref a) H' ⟨⟨[a], rfl⟩, k.stay, fun b q n => ?_, k.fz⟩ ⟨?_, ?_, fun j b z h1 h2 => ?_, fun j z h2 => ?_, c.kap⟩ ?_
  · rcases List.mem_append.mp q with q | q
    · exact absurd q n
    · rw [List.mem_singleton.mp q]; exact k.new a (List.mem_of_getElem? ha) hn
  · rw [List.length_append, List.length_append, lt, c0.len]; rfl
  · exact List.nodup_append.mpr ⟨c0.nd, by simp, fun x h1 y h2 => by
      have : y = a := by simpa using h2
      subst this; intro z; subst z; exact hn h1⟩
  · by_cases hj : j < h.length
    · rw [List.getElem?_append_left (by rw [lt]; exact hj), List.getElem?_take_of_lt hj] at h2
      have h1' : ρ'[j]? = some b := by
        rw [List.getElem?_append_left (by rw [c0.len]; exact hj)] at h1
        exact k.at_ h1
      exact cellR_cut (n := h.length) s t (lowC_mono (Nat.le_of_lt hj) (c.low j z h2)) (c.cell j b z h1' h2)
    · obtain ⟨hl, _⟩ := List.getElem?_eq_some_iff.mp h1
      have ej : j = h.length := by rw [List.length_append, c0.len] at hl; simp at hl; omega
      subst ej
      rw [ea] at h1
      cases h1
      rw [List.getElem?_append_right (by rw [lt]; exact Nat.le_refl _), lt] at h2
      have ez : u' = z := by simpa using h2
      subst ez
      exact cu
  · by_cases hj : j < h.length
    · rw [List.getElem?_append_left (by rw [lt]; exact hj), List.getElem?_take_of_lt hj] at h2
      exact c.low j z h2
    · obtain ⟨hl, _⟩ := List.getElem?_eq_some_iff.mp h2
      have ej : j = h.length := by rw [List.length_append, lt] at hl; simp at hl; omega
      subst ej
      rw [List.getElem?_append_right (by rw [lt]; exact Nat.le_refl _), lt] at h2
      have ez : u' = z := by simpa using h2
      subst ez
      exact lu
  · rcases hd with hd | hd <;> (subst hd; exact ⟨a, rfl, ea⟩)
theorem mapO_k {κt : Type} {f : D → Option D} (hf : ∀ d e v, low B d = true → f d = some e → Rep K κ ρ' H d v → Rep K κ ρt H e v ∧ low n e = true) : ∀ {kvs es : List (κt × D)} {vs : List (κt × V)}, lows B (kvs.map (·.2)) = true → mapO (fun p : κt × D => (f p.2).map fun d => (p.1, d)) kvs = some es → KRep K κ ρ' H kvs vs → KRep K κ ρt H es vs ∧ lows n (es.map (·.2)) = true
  | [], es, _, _, e, .nil => by
    unfold mapO at e
    cases e
    exact ⟨.nil, by unfold lows; rfl⟩
  | p :: kvs, es, _, hl, e, .cons z r => by
    unfold mapO at e
    rw [List.map_cons] at hl
    unfold lows at hl
    obtain ⟨l1, l2⟩ := and2 hl
    cases q : f p.2 with
    | none => rw [q] at e; cases e
    | some d' =>
      cases q2 : mapO (fun p : κt × D => (f p.2).map fun d => (p.1, d)) kvs with
      | none => rw [q, q2] at e; cases e
      | some ds' =>
        rw [q, q2] at e
        cases e
        obtain ⟨a1, a2⟩ := hf p.2 d' _ l1 q z.2
        obtain ⟨b1, b2⟩ := mapO_k hf l2 q2 r
        exact ⟨.cons ⟨z.1, a1⟩ b1, by rw [List.map_cons]; unfold lows; rw [a2, b2]; rfl⟩
theorem mapO_t {f : D → Option D} (s : ∀ a ∈ ρt, a ∈ ρ') (hf : ∀ d e v, low B d = true → f d = some e → Rep K κ ρ' H d v → Rep K κ ρt H e v ∧ low n e = true) : ∀ {kvs es : List (List D × D)} {vs : AV}, lows B (kvs.map (·.2)) = true → mapO (fun p : List D × D => (f p.2).map fun d => (p.1, d)) kvs = some es → TRep K κ ρ' H kvs vs → TRep K κ ρt H es vs ∧ lows n (es.map (·.2)) = true
  | [], es, _, _, e, .nil => by
    unfold mapO at e
    cases e
    exact ⟨.nil, by unfold lows; rfl⟩
  | p :: kvs, es, _, hl, e, .cons z r => by
    unfold mapO at e
    rw [List.map_cons] at hl
    unfold lows at hl
    obtain ⟨l1, l2⟩ := and2 hl
    cases q : f p.2 with
    | none => rw [q] at e; cases e
    | some d' =>
      cases q2 : mapO (fun p : List D × D => (f p.2).map fun d => (p.1, d)) kvs with
      | none => rw [q, q2] at e; cases e
      | some ds' =>
        rw [q, q2] at e
        cases e
        obtain ⟨a1, a2⟩ := hf p.2 d' _ l1 q z.2.2
        obtain ⟨b1, b2⟩ := mapO_t s hf l2 q2 r
        exact ⟨.cons ⟨z.1, rep_cut (n := 0) s (fun i a hi => absurd hi (Nat.not_lt_zero i)) (nk_low z.1) z.2.1, a1⟩ b1, by rw [List.map_cons]; unfold lows; rw [a2, b2]; rfl⟩
/-- a new cell that comes back -/
theorem finM_ok {E : XK} {i : Nat} {a : Addr} {d' : D} {Q : VK} (c0 : CS g κ ρ h H) (k : Go ρ H ρ' H') (c : CS g κ ρ' h' H') (ha : ρ'[i]? = some a) (hd : d' = .ml h.length ∨ d' = .md h.length)
    (hi : ¬ i < h.length) (w : Wp g E κ ρ H (finC h.length h' i d') Q) : Q (.ref a) H' := by
  · have hi := Nat.le_of_not_lt hi
    unfold finC at w
    obtain ⟨u, hu, cu⟩ := c.get ha
    rw [hu] at w
    dsimp only at w
    cases q : frzC h' h.length 8 u with
    | none => rw [q] at w; exact absurd w fun w => w
    | some u' =>
      rw [q] at w
      obtain ⟨tl, et⟩ := k.pre
      have e0 : ρ'.take h.length = ρ := by rw [et, ← c0.len, List.take_left]
      have s : ∀ b ∈ ρ ++ [a], b ∈ ρ' := fun b q => (List.mem_append.mp q).elim (fun q => k.sub q) fun q => by rw [List.mem_singleton.mp q]; exact List.mem_of_getElem? ha
      have t : ∀ (j : Nat) (b : Addr), j < h.length → ρ'[j]? = some b → (ρ ++ [a])[j]? = some b := fun j b hj e => by
        rw [List.getElem?_append_left (by rw [c0.len]; exact hj)]
        rw [et, List.getElem?_append_left (by rw [c0.len]; exact hj)] at e; exact e
      have off : ∀ (j : Nat) (b : Addr), h.length ≤ j → j < i → ρ'[j]? = some b → b ∉ ρ ++ [a] ∧ b ∉ κ := fun j b hj hji e => by
        have hn : b ∉ ρ := by rw [← e0]; exact get_ge c.nd hj e
        refine ⟨fun z => ?_, c0.freshK (k.new b (List.mem_of_getElem? e) hn)⟩
        rcases List.mem_append.mp z with z | z
        · exact hn z
        · rw [List.mem_singleton.mp z] at e
          obtain ⟨h1, e1⟩ := List.getElem?_eq_some_iff.mp e
          obtain ⟨h2, e2⟩ := List.getElem?_eq_some_iff.mp ha
          have := (List.getElem_inj (h₀ := h1) (h₁ := h2) c.nd).mp (e1.trans e2.symm)
          omega
      have fr := frz_rep c s t off
      have lo := c.low i u hu
      cases u with
      | lst ds =>
        obtain ⟨vs, e1, rr⟩ := cu
        simp only [frzC] at q
        cases qm : mapO (frz h' h.length 8) ds with
        | none => rw [qm] at q; cases q
        | some es =>
          rw [qm] at q
          cases q
          obtain ⟨r1, r2⟩ := mapO_reps (fr 8) lo qm rr
          exact fin1_ok (u' := .lst es) c0 k c ha hi hd ⟨vs, e1, r1⟩ r2 w
      | dK kvs =>
        obtain ⟨vs, e1, rr⟩ := cu
        simp only [frzC] at q
        cases qm : mapO (fun p : Key × D => (frz h' h.length 8 p.2).map fun d => (p.1, d)) kvs with
        | none => rw [qm] at q; cases q
        | some es =>
          rw [qm] at q
          cases q
          obtain ⟨r1, r2⟩ := mapO_k (fr 8) lo qm rr
          exact fin1_ok (u' := .dK es) c0 k c ha hi hd ⟨vs, e1, r1⟩ r2 w
      | dT kvs =>
        obtain ⟨vs, e1, z1, z2, rr⟩ := cu
        simp only [frzC] at q
        cases qm : mapO (fun p : List D × D => (frz h' h.length 8 p.2).map fun d => (p.1, d)) kvs with
        | none => rw [qm] at q; cases q
        | some es =>
          rw [qm] at q
          cases q
          obtain ⟨r1, r2⟩ := mapO_t s (fr 8) lo qm rr
          exact fin1_ok (u' := .dT es) c0 k c ha hi hd ⟨vs, e1, z1, z2, r1⟩ r2 w
      | lK kvs => simp only [frzC] at q; cases q
      | lT kvs => simp only [frzC] at q; cases q
      | obj _ _ => simp only [frzC] at q; cases q
theorem fin_ok {E : XK} {m : Bool} {d : D} {v : V} {Q : VK} (c0 : CS g κ ρ h H) (k : Go ρ H ρ' H') (c : CS g κ ρ' h' H') (r : Rep g.K κ ρ' H' d v) (w : Wp g E κ ρ H (fin m h.length h' d) Q) : Q v H' := by
  cases m with
  | false => exact fin0_ok c0 k c r w
  | true =>
    cases d with
    | ml i =>
      have w : Wp g E κ ρ H (if i < h.length then fin0 h.length h' (.ml i) else finC h.length h' i (.ml h.length)) Q := w
      by_cases hi : i < h.length
      · rw [if_pos hi] at w
        exact fin0_ok c0 k c r w
      · rw [if_neg hi] at w
        obtain ⟨a, rfl, ha⟩ := r
        exact finM_ok c0 k c ha (.inl rfl) hi w
    | md i =>
      have w : Wp g E κ ρ H (if i < h.length then fin0 h.length h' (.md i) else finC h.length h' i (.md h.length)) Q := w
      by_cases hi : i < h.length
      · rw [if_pos hi] at w
        exact fin0_ok c0 k c r w
      · rw [if_neg hi] at w
        obtain ⟨a, rfl, ha⟩ := r
        exact finM_ok c0 k c ha (.inr rfl) hi w
    | non => exact fin0_ok c0 k c r w
    | bl _ => exact fin0_ok c0 k c r w
    | int _ => exact fin0_ok c0 k c r w
    | str _ => exact fin0_ok c0 k c r w
    | tup _ => exact fin0_ok c0 k c r w
    | pr _ => exact fin0_ok c0 k c r w
    | fl _ => exact fin0_ok c0 k c r w
    | rl _ => exact fin0_ok c0 k c r w
    | fn _ => exact fin0_ok c0 k c r w
end
end Q
end
section
namespace Q
open PySem PySem.Spec PyProof.Rows L2

/-! ## a text of defs -/
/-- a def of the text: its name, its tree -/
structure Row where
  glo : Str × Option Str
  name : Str
  qual : Str
  args : Arguments
  body : List Stmt
  scope : Scope
structure TabT where
  Pg : Nat → Option Fn
  tx : Nat → Row
  fns : List (Str × Nat × Nat)
  cst : List (Str × Int)
  blt : List Str
  cls : Nat → Str
  mks : List (Str × Nat × List (Str × Ini) × Nat)
  cms : List ((Nat × Str) × Nat × Nat)
  fls : List (Nat × Str)
  irow : Nat → Row
  inm : Nat → List Str
  fxs : List (Str × Nat × Nat)
  exc : List (Str × Nat)
  exh : List (Str × Nat)
def TabT.si (T : TabT) (fn : Fn) (sc : Scope) : SI := ⟨fn.names, sc, fun _ => true, T.fns, T.cst, T.blt, T.mks, T.cms, T.fls, true, T.fxs, T.exc, T.exh⟩
/-- may raise -/
def isRx (fn : Fn) : Bool := fn.body.any fun s => match s with
  | .ifr _ _ => true
  | _ => false
def psOf (fn : Fn) : List Str := fn.names.take fn.np
/-- one def is checked -/
def scB (N ps : List Str) (sc : Scope) : Bool := (match sc.kind with | .function => true | _ => false) && !sc.isCoroutine && !sc.isGenerator && decide N.Nodup && decide (N.take ps.length = ps) && ps.all (fun x => kLoc (sc.names.lookup x)) && sc.names.all fun y => (match y.2 with | .free => false | _ => true)
theorem scB_ok {N ps : List Str} {sc : Scope} (h : scB N ps sc = true) : FnScope N ps sc := by
  unfold scB at h
  obtain ⟨h, h7⟩ := and2 h
  obtain ⟨h, h6⟩ := and2 h
  obtain ⟨h, h5⟩ := and2 h
  obtain ⟨h, h4⟩ := and2 h
  obtain ⟨h, h3⟩ := and2 h
  obtain ⟨h1, h2⟩ := and2 h
  refine ⟨?_, by simpa using h2, by simpa using h3, of_decide_eq_true h4, of_decide_eq_true h5, fun x hx => ?_, fun y hy e => ?_⟩
  · split at h1
    · assumption
    · cases h1
  · exact kLoc_ok (List.all_eq_true.mp h6 x hx)
  · have := List.all_eq_true.mp h7 y hy
    rw [e] at this
    cases this
def rowB (T : TabT) (f : Nat) (fn : Fn) : Bool := scB fn.names (psOf fn) (T.tx f).scope && decide (fn.np ≤ fn.names.length) && (match isRx fn with
  | true => ckL (ckX1 299 (T.si fn (T.tx f).scope)) fn.body (T.tx f).body
  | false => ckL (ckS FUEL (T.si fn (T.tx f).scope)) fn.body (T.tx f).body)
/-- an __init__ that fills attributes -/
def iniVB (N : List Str) (sc : Scope) : Ini → Expr → Bool
  | .arg i, .Name y _ => decide (N[i + 1]? = some y) && kVis (sc.names.lookup y) && okName y
  | .dT, .Dict [] [] _ => true
  | .dK, .Dict [] [] _ => true
  | .int i, .Constant (.int j) _ _ => i == j
  | _, _ => false
def iniB (N : List Str) (sc : Scope) (fl : Str → Bool) : List (Str × Ini) → List Stmt → Bool
  | [], [] => true
  | (f, i) :: r, .Assign [.Attribute (.Name s _) f' _] v _ :: xs => decide (N[0]? = some s) && kVis (sc.names.lookup s) && okName s && f == f' && fl f && iniVB N sc i v && iniB N sc fl r xs
  | _, _ => false
def irowB (T : TabT) (c : Nat) (fs : List (Str × Ini)) (np : Nat) : Bool := scB (T.inm c) (T.inm c) (T.irow c).scope && decide ((T.inm c).length = np) && iniB (T.inm c) (T.irow c).scope (fun f => T.fls.contains (c, f)) fs (T.irow c).body
def iAd (g : G) (c : Nat) : Addr := He.ma g.K (g.cm c) "__init__"
structure Txt (g : G) (mg : Str → Option Value) (T : TabT) (ad : Nat → Addr) (fdd : Nat → FuncData) : Prop where
  fn : ∀ f fn, T.Pg f = some fn → FunD g.K (T.tx f).name (T.tx f).qual (T.tx f).args (T.tx f).body (T.tx f).scope [] [] (ad f) (fdd f) ∧ Binds g.K (fdd f) (psOf fn) [] ∧ rowB T f fn = true
  fns : ∀ x f np, T.fns.lookup x = some (f, np) → ∃ fn, T.Pg f = some fn ∧ fn.np = np ∧ isRx fn = false ∧ mg x = some (.ref (ad f)) ∧ ad f = He.ga g.K x
  cst : ∀ x i, T.cst.lookup x = some i → ∃ t, mg x = some (.int i t)
  blt : ∀ x, T.blt.contains x = true → mg x = none
  fls : ∀ c x, T.fls.contains (c, x) = true → Cls g.K (g.cm c) ∧ NoAttr g.K (g.cm c) x
  cms : ∀ c x f np, T.cms.lookup (c, x) = some (f, np) → Cls g.K (g.cm c) ∧ ∃ fn, T.Pg f = some fn ∧ fn.np = np ∧ isRx fn = false ∧ Meth g.K (g.cm c) x (ad f)
  mks : ∀ x c fs np, T.mks.lookup x = some (c, fs, np) → mg x = some (.ref (g.cm c)) ∧ Mk g.K (g.cm c) (iAd g c) ∧ Cls g.K (g.cm c) ∧ irowB T c fs np = true ∧ ∃ fd, FunD g.K (T.irow c).name (T.irow c).qual (T.irow c).args (T.irow c).body (T.irow c).scope [] [] (iAd g c) fd ∧ Binds g.K fd (T.inm c) []
  fxs : ∀ x f np, T.fxs.lookup x = some (f, np) → ∃ fn, T.Pg f = some fn ∧ fn.np = np ∧ isRx fn = true ∧ mg x = some (.ref (ad f))
  exc : ∀ x C, T.exc.lookup x = some C → mg x = some (.ref (g.cm C)) ∧ PySem.W.excIn g.K (g.cm C) He.veBase "ValueError.__new__" = true ∧ PySem.W.keepIn g.K (.ref (g.cm C)) = true ∧ PySem.W.subIn g.K (.ref (g.cm C)) (.type "BaseException") = some true ∧ PySem.W.typeIn g.K (.ref (g.cm C)) = some (.type "type") ∧ ExcC g.K (g.cm C)
  exh : ∀ x C, T.exh.contains (x, C) = true → ∃ a, mg x = some (.ref a) ∧ PySem.W.exmOne g.K (.ref (g.cm C)) (.ref a) = some true
theorem start_env {g : G} {κ ρ : List Addr} {H : Hp} {fn : Fn} {ds : List D} {vs : List V} (r : Reps g.K κ ρ H ds vs) : EnvR g κ ρ H (start0 fn ds) (start fn.names vs) := by
  unfold start0 L2.start
  rw [r.len]
  refine ⟨by simp [r.len], fun i d e => ?_⟩
  by_cases hi : i < ds.length
  · rw [List.getElem?_append_left (by simpa using hi), List.getElem?_map] at e
    rw [List.getElem?_append_left (by rw [List.length_map, r.len]; exact hi), List.getElem?_map]
    cases q : ds[i]? with
    | none => rw [q] at e; cases e
    | some d' =>
      rw [q] at e
      cases e
      obtain ⟨v, e1, r1⟩ := r.get q
      exact ⟨v, by rw [e1]; rfl, r1⟩
  · exfalso
    rw [List.getElem?_append_right (by simpa using Nat.le_of_not_lt hi)] at e
    have := List.mem_of_getElem? e
    have := List.eq_of_mem_replicate this
    cases this
section
variable {g : G} {mg : Str → Option Value} {base : Heap} {T : TabT} {ad : Nat → Addr} {fdd : Nat → FuncData}
/-- what stands in the slots of an __init__ and its object -/
def tIni (g : G) (C : Addr) (fs : List (Str × Ini)) : TS := fun D σ H => ∃ x dx vs acc, σ[0]? = some (some (.ref x)) ∧ (∀ i v, vs[i]? = some v → σ[i + 1]? = some (some v)) ∧ H x = some (.ins C dx acc) ∧ iniV g C dx x vs fs acc H (fun H' => D.nx σ H')
theorem ini_walk {X : Cx} {C : Addr} {N : List Str} {sc : Scope} {fl : Str → Bool} (hN : X.N = N) (hsc : X.env.scope = sc) (hc : Cls X.K C) (hfl : ∀ f, fl f = true → NoAttr X.K C f) : ∀ {fs : List (Str × Ini)} {xs : List Stmt}, iniB N sc fl fs xs = true → PSs X xs (tIni g C fs)
  | [], [], _ => PSs.imp pss_nil fun D σ H ⟨x, dx, vs, acc, h1, h2, h3, w⟩ => w
  | [], _ :: _, h => by cases h
  | (f, i) :: r, [], h => by cases h
  | (f, i) :: r, st :: xs, h => by
    unfold iniB at h
    split at h
    · rename_i e1 e2
      cases e2
    · rename_i f0 i0 r0 s sp f' ap v pos xs0 e1 e2
      cases e1
      cases e2
      obtain ⟨h, h7⟩ := and2 h
      obtain ⟨h, h6⟩ := and2 h
      obtain ⟨h, h5⟩ := and2 h
      obtain ⟨h, h4⟩ := and2 h
      obtain ⟨h, h3⟩ := and2 h
      obtain ⟨h1, h2⟩ := and2 h
      cases eq_of_beq h4
      obtain ⟨n1, n2⟩ := okName_ok h3
      have ps := pe_var (X := X) (i := 0) (pos := sp) (by rw [hN]; exact of_decide_eq_true h1) (by rw [hsc]; exact kVis_ok h2) n1 n2
      have ih := ini_walk hN hsc hc hfl h7
      have na := hfl _ h5
      cases i with
      | arg k =>
        cases v with
        | Name y yp =>
          obtain ⟨g12, g3⟩ := and2 (show (decide (N[k + 1]? = some y) && kVis (sc.names.lookup y) && okName y) = true from h6)
          obtain ⟨g1, g2⟩ := and2 g12
          obtain ⟨m1, m2⟩ := okName_ok g3
          have pv := pe_var (X := X) (i := k + 1) (pos := yp) (by rw [hN]; exact of_decide_eq_true g1) (by rw [hsc]; exact kVis_ok g2) m1 m2
          refine PSs.imp (pss_cons (ps_fld ps pv rfl) ih) fun D σ H ⟨x, dx, vs, acc, a1, a2, a3, w⟩ => ?_
          obtain ⟨u, b1, b2, b3⟩ := w
          exact ⟨u, a2 _ _ b1, _, a1, x, C, dx, acc, rfl, a3, hc, na, b2, x, dx, vs, _, a1, a2, upd_same, b3⟩
        | _ => cases h6
      | int k =>
        cases v with
        | Constant cc k2 p2 =>
          cases cc with
          | int j =>
            cases eq_of_beq (show (k == j) = true from h6)
            refine PSs.imp (pss_cons (ps_fld ps pe_int rfl) ih) fun D σ H ⟨x, dx, vs, acc, a1, a2, a3, w⟩ => ?_
            obtain ⟨b2, b3⟩ := w
            exact ⟨_, a1, x, C, dx, acc, rfl, a3, hc, na, b2, x, dx, vs, _, a1, a2, upd_same, b3⟩
          | _ => cases h6
        | _ => cases h6
      | dT =>
        cases v with
        | Dict ks vs p2 =>
          cases ks with
          | nil =>
            cases vs with
            | nil =>
              refine PSs.imp (pss_cons (ps_fld ps (pe_dext (g := g)) rfl) ih) fun D σ H ⟨x, dx, vs, acc, a1, a2, a3, w⟩ => ?_
              intro q hq nb
              obtain ⟨b2, b3⟩ := w q hq nb
              exact ⟨_, a1, x, C, dx, acc, rfl, by rw [upd_ne (fun z => by rw [z, hq] at a3; cases a3)]; exact a3, hc, na, b2, x, dx, vs, _, a1, a2, upd_same, b3⟩
            | _ => cases h6
          | _ => cases h6
        | _ => cases h6
      | dK =>
        cases v with
        | Dict ks vs p2 =>
          cases ks with
          | nil =>
            cases vs with
            | nil =>
              refine PSs.imp (pss_cons (ps_fld ps pe_dnewK rfl) ih) fun D σ H ⟨x, dx, vs, acc, a1, a2, a3, w⟩ => ?_
              intro q hq
              obtain ⟨b2, b3⟩ := w q hq
              exact ⟨_, a1, x, C, dx, acc, rfl, by rw [upd_ne (fun z => by rw [z, hq] at a3; cases a3)]; exact a3, hc, na, b2, x, dx, vs, _, a1, a2, upd_same, b3⟩
            | _ => cases h6
          | _ => cases h6
        | _ => cases h6
    · cases h
theorem ini_fn (tx : Txt g mg T ad fdd) {x : Str} {c : Nat} {fs : List (Str × Ini)} {np : Nat} (e : T.mks.lookup x = some (c, fs, np)) : ∃ fd, Binds g.K fd (T.inm c) [] ∧ FnOk g.P g.w g.K mg base CX0 1 (iAd g c) fd (T.inm c) (spI g (g.cm c) fs np) := by
  obtain ⟨_, mk, hcl, hb, fd, F, B⟩ := tx.mks x c fs np e
  unfold irowB at hb
  obtain ⟨hb, h3⟩ := and2 hb
  obtain ⟨h1, h2⟩ := and2 hb
  have h2 := of_decide_eq_true h2
  have SC := scB_ok h1
  refine ⟨fd, B, F.ok SC (fun vs H Q E h => by rw [h2]; exact h.1) fun cdv A outer s H vs Q E hr h => ⟨tIni g (g.cm c) fs, ini_walk rfl rfl hcl (fun f q => (tx.fls _ _ q).2) h3, ?_⟩⟩
  obtain ⟨hl, x, r, dx, rfl, hx, w⟩ := h
  refine ⟨x, dx, r, [], rfl, fun i v q => ?_, hx, w⟩
  unfold L2.start
  have hi := (List.getElem?_eq_some_iff.mp q).1
  rw [List.getElem?_append_left (by simp; omega), List.getElem?_map, List.getElem?_cons_succ, q]
  rfl
/-- a def keeps its promise, at each level -/
theorem levels2 (tx : Txt g mg T ad fdd) : ∀ k f fn, T.Pg f = some fn → (isRx fn = false → FnOk g.P g.w g.K mg base CX0 (k + 2) (ad f) (fdd f) (psOf fn) (spF g fn.np (run T.Pg k f))) ∧ (isRx fn = true → FnOk g.P g.w g.K mg base (L2.CX g.P g.w) (k + 2) (ad f) (fdd f) (psOf fn) (spX g fn.np (run T.Pg k f)))
  | 0, f, fn, e => by
    have no : ∀ {vs : List V} {H : Hp} {Q : VK} {E : XK}, spF g fn.np (run T.Pg 0 f) vs H Q E → False := fun ⟨_, m, κ, ρ, h, ds, _, _, w⟩ => w
    have noX : ∀ {vs : List V} {H : Hp} {Q : VK} {E : XK}, spX g fn.np (run T.Pg 0 f) vs H Q E → False := fun ⟨_, m, κ, ρ, h, ds, _, _, w⟩ => w
    exact ⟨fun _ => ⟨fun vs H Q E h => (no h).elim, fun A outer s H args us vs Q E _ _ _ _ h => (no h).elim⟩, fun _ => ⟨fun vs H Q E h => (noX h).elim, fun A outer s H args us vs Q E _ _ _ _ h => (noX h).elim⟩⟩
  | k + 1, f, fn, e => by
    obtain ⟨F, _, hb⟩ := tx.fn f fn e
    unfold rowB at hb
    obtain ⟨hb, h3⟩ := and2 hb
    obtain ⟨h1, h2⟩ := and2 hb
    have SC := scB_ok h1
    have hl : (psOf fn).length = fn.np := by unfold psOf; rw [List.length_take]; exact Nat.min_eq_left (of_decide_eq_true h2)
    have fit : ∀ (X : Cx), X.K = g.K → X.prog = g.P → X.w = g.w → X.mg = mg → X.base = base → X.xe = (fun _ _ => False) → X.N = fn.names → X.env.scope = (T.tx f).scope → X.calm = true → X.fn = (fun _ => true) → X.stack = X.env :: X.outer → X.env.frame = some X.env.locals → Room (k + 2) X.A → Fit g (run T.Pg k) (T.si fn (T.tx f).scope) X := fun X eK eP ew em eb ex eN es ec ef est efr hr => by
      have hu := hr.un
      refine ⟨⟨eK, eP, ew, by omega, ec⟩, ex, eN, SC.nd, es, SC.kind, fun _ _ => by rw [ef], fun x f' np' hx => ?_, fun x i h => by rw [em]; exact tx.cst x i h, fun x h => by rw [em]; exact tx.blt x h, fun x c fs np hx => ?_, fun c x f' np' hx => ?_, fun c x h => by rw [eK]; exact tx.fls c x h, fun _ => ⟨est, efr⟩, fun x f' np' hx => ?_, fun x C hx => ?_, fun x C hx => by rw [em, eK]; exact tx.exh x C hx⟩
      · obtain ⟨fn', e1, e2, e3, e4, e5⟩ := tx.fns x f' np' hx
        obtain ⟨F', B', _⟩ := tx.fn f' fn' e1
        refine ⟨ad f', fdd f', psOf fn', k + 2, by rw [em]; exact e4, by rw [eK]; exact F'.kp, by rw [eK]; exact B', ?_, hr, by rw [eK]; exact e5⟩
        rw [← e2, eP, ew, eK, em, eb]
        exact (levels2 tx k f' fn' e1).1 e3
      · obtain ⟨fd, B, Fo⟩ := ini_fn (base := base) tx hx
        obtain ⟨m1, m2, _⟩ := tx.mks x c fs np hx
        refine ⟨_, fd, _, 1, by rw [em]; exact m1, by rw [eK]; exact m2, by rw [eK]; exact B, ?_, hr.mono (by omega)⟩
        rw [eP, ew, eK, em, eb]
        exact Fo
      · obtain ⟨q0, fn', e1, e2, e3, e4⟩ := tx.cms c x f' np' hx
        obtain ⟨F', B', _⟩ := tx.fn f' fn' e1
        refine ⟨by rw [eK]; exact q0, ad f', fdd f', psOf fn', k + 2, by rw [eK]; exact e4, by rw [eK]; exact B', ?_, hr⟩
        rw [← e2, eP, ew, eK, em, eb]
        exact (levels2 tx k f' fn' e1).1 e3
      · obtain ⟨fn', e1, e2, e3, e4⟩ := tx.fxs x f' np' hx
        obtain ⟨F', B', _⟩ := tx.fn f' fn' e1
        refine ⟨ad f', fdd f', psOf fn', k + 2, by rw [em]; exact e4, by rw [eK]; exact F'.kp, by rw [eK]; exact B', ?_, hr⟩
        rw [← e2, eP, ew, eK, em, eb]
        exact (levels2 tx k f' fn' e1).2 e3
      · obtain ⟨a1, a2, a3, a4, a5, a6⟩ := tx.exc x C hx
        exact ⟨by rw [em]; exact a1, ⟨by rw [eK]; exact a2, by rw [eK]; exact a3, by rw [eK]; exact a4, by rw [eK]; exact a5, by rw [eK]; exact a6⟩⟩
    refine ⟨fun hx => ?_, fun hx => ?_⟩
    · rw [hx] at h3
      refine F.ok SC (fun vs H Q E h => by rw [hl]; exact h.1) fun cdv A outer s H vs Q E hr h => ⟨RS g E0 (evSs (evS (run T.Pg k) FUEL) fn.body), PSs.nox (body_ok h3 (fit _ rfl rfl rfl rfl rfl rfl rfl rfl rfl rfl rfl rfl hr)), ?_⟩
      obtain ⟨_, m, κ, ρ, h0, ds, c0, r0, w⟩ := h
      refine ⟨κ, ρ, start0 fn ds, h0, ⟨c0, start_env r0⟩, ?_⟩
      have w : Wp g E0 κ ρ H (match T.Pg f with
        | some fn => callB (run T.Pg k) fn m ds h0
        | none => .bad) Q := w
      rw [e] at w
      have w : Wp g E0 κ ρ H (callB (run T.Pg k) fn m ds h0) Q := w
      unfold callB at w
      split at w
      · revert w
        cases evSs (evS (run T.Pg k) FUEL) fn.body (start0 fn ds) h0 with
        | bad => exact fun w => w
        | ex x h' => exact fun w ρ' H' c dO kk c1 xr => finX_ok c0 kk c1 xr w
        | ok p h' =>
          obtain ⟨fl, env'⟩ := p
          cases fl with
          | next => exact fun w ρ' σ' H' kk c1 _ => fin_ok (d := .non) (v := .non) c0 kk c1 rfl w
          | ret d => exact fun w ρ' σ' H' kk c1 _ v r1 => fin_ok c0 kk c1 r1 w
          | brk => exact fun w => w.elim
          | cont => exact fun w => w.elim
      · exact absurd w fun w => w
    · rw [hx] at h3
      refine F.ok SC (fun vs H Q E h => by rw [hl]; exact h.1) fun cdv A outer s H vs Q E hr h => ⟨RS g E (evSs (evS (run T.Pg k) FUEL) fn.body), body_okX (n := 299) (fit _ rfl rfl rfl rfl rfl rfl rfl rfl rfl rfl rfl rfl hr) (takes_of rfl rfl rfl rfl) rfl h3, ?_⟩
      obtain ⟨_, m, κ, ρ, h0, ds, c0, r0, w⟩ := h
      refine ⟨κ, ρ, start0 fn ds, h0, ⟨c0, start_env r0⟩, ?_⟩
      have w : Wp g E κ ρ H (match T.Pg f with
        | some fn => callB (run T.Pg k) fn m ds h0
        | none => .bad) Q := w
      rw [e] at w
      have w : Wp g E κ ρ H (callB (run T.Pg k) fn m ds h0) Q := w
      unfold callB at w
      split at w
      · revert w
        cases evSs (evS (run T.Pg k) FUEL) fn.body (start0 fn ds) h0 with
        | bad => exact fun w => w
        | ex x h' => exact fun w ρ' H' c dO kk c1 xr => finX_ok c0 kk c1 xr w
        | ok p h' =>
          obtain ⟨fl, env'⟩ := p
          cases fl with
          | next => exact fun w ρ' σ' H' kk c1 _ => fin_ok (d := .non) (v := .non) c0 kk c1 rfl w
          | ret d => exact fun w ρ' σ' H' kk c1 _ v r1 => fin_ok c0 kk c1 r1 w
          | brk => exact fun w => w.elim
          | cont => exact fun w => w.elim
      · exact absurd w fun w => w
theorem levels (tx : Txt g mg T ad fdd) (k f : Nat) (fn : Fn) (e : T.Pg f = some fn) (hx : isRx fn = false) : FnOk g.P g.w g.K mg base CX0 (k + 2) (ad f) (fdd f) (psOf fn) (spF g fn.np (run T.Pg k f)) := (levels2 tx k f fn e).1 hx
/-- the law, where the tables give true -/
def scriptD (ns : List Int) : D := .rl (ns.map .int)
theorem reps_ints {K : PySem.W.Frag} {κ ρ : List Addr} {H : Hp} : ∀ ns : List Int, Reps K κ ρ H (ns.map .int) (ns.map V.int)
  | [] => rfl
  | n :: ns => ⟨_, _, rfl, rfl, reps_ints ns⟩
def isTrue1 (r : Oc D) : Bool := match r with
  | .ok (.bl true) _ => true
  | _ => false
theorem law_sp {F : Bool → List D → Hh → Oc D} {H : Hp} {a : Addr} {ns : List Int} (ho : Only H) (hs : SqL g.K H a (ns.map V.int)) (ht : isTrue1 (F false [scriptD ns] []) = true) :
    spF g 1 F [.ref a] H (fun v _ => v = .bl true) fun _ _ _ => False := by
  refine ⟨rfl, false, [], [], [], [scriptD ns], ⟨rfl, List.nodup_nil, fun i a c h => by simp at h, fun i c h => by simp at h, fun a h => by simp at h⟩, ⟨.ref a, [], rfl, ⟨a, _, rfl, ?_, reps_ints ns⟩, rfl⟩, ?_⟩
  · rcases hs with (hs | ⟨o, hs⟩) | hs
    · rcases ho a with e | ⟨o, xs, e⟩
      · rw [hs] at e; cases e
      · rw [hs] at e; cases e
    · exact .inl ⟨o, hs, by simp, by simp⟩
    · exact .inr (.inr hs)
  · unfold isTrue1 at ht
    revert ht
    cases F false [scriptD ns] [] with
    | bad => exact fun h => by cases h
    | ex x h' => exact fun h => by cases h
    | ok d h' =>
      cases d with
      | bl b =>
        cases b with
        | true => exact fun _ ρ' v H' _ _ r => r
        | false => exact fun h => by cases h
      | _ => exact fun h => by cases h
end
end Q
end
section
namespace Q
open PySem PySem.Spec PyProof.Rows L2
def rowD (r : Row) : He.DefD := ⟨r.glo, r.name, r.qual, r.args, r.body, r.scope, [], []⟩
def dfOfT (T : TabT) (f : Nat) : He.DefD := rowD (T.tx f)
def adT (K : PySem.W.Frag) (T : TabT) (f : Nat) : Addr := He.fAd K (T.tx f).glo
def faOf (T : TabT) : List He.Fa := T.fns.map (fun p => He.Fa.glo p.1) ++ (T.cst.map (fun p => He.Fa.int p.1 p.2) ++ (T.blt.map He.Fa.free ++ (T.mks.map (fun p => He.Fa.glo p.1) ++ (T.mks.map (fun p => He.Fa.mkr p.1) ++ (T.mks.map (fun p => He.Fa.cls p.1) ++
  (T.fls.map (fun p => He.Fa.cls (T.cls p.1)) ++ (T.fls.map (fun p => He.Fa.noat (T.cls p.1) p.2) ++ (T.cms.map (fun p => He.Fa.cls (T.cls p.1.1)) ++ (T.cms.map (fun p => He.Fa.meth (T.cls p.1.1) p.1.2) ++ (T.fxs.map (fun p => He.Fa.glo p.1) ++ (T.exc.map (fun p => He.Fa.glo p.1) ++ (T.exc.map (fun p => He.Fa.exc p.1) ++ (T.exc.map (fun p => He.Fa.noat p.1 "__getattr__") ++ (T.exh.map (fun p => He.Fa.glo p.1) ++ T.exh.map (fun p => He.Fa.exm (T.cls p.2) p.1 true)))))))))))))))
def inisT (T : TabT) : List He.DefD := T.mks.map fun p => rowD (T.irow p.2.1)
def chkFns (T : TabT) : Bool := (T.fns.all fun p => decide ((T.tx p.2.1).glo = (p.1, none)) && (match T.Pg p.2.1 with
  | some fn => fn.np == p.2.2 && !isRx fn
  | none => false)) && ((T.cms.all fun p => decide ((T.tx p.2.1).glo = (T.cls p.1.1, some p.1.2)) && (match T.Pg p.2.1 with
  | some fn => fn.np == p.2.2 && !isRx fn
  | none => false)) && ((T.mks.all fun p => decide (T.cls p.2.1 = p.1) && decide ((T.irow p.2.1).glo = (p.1, some ("__init__" : Str))) && irowB T p.2.1 p.2.2.1 p.2.2.2) && ((T.fxs.all fun p => decide ((T.tx p.2.1).glo = (p.1, none)) && (match T.Pg p.2.1 with
  | some fn => fn.np == p.2.2 && isRx fn
  | none => false)) && T.exc.all fun p => decide (T.cls p.2 = p.1))))
theorem mem_of_lookup {κ α : Type} [BEq κ] [LawfulBEq κ] : ∀ {l : List (κ × α)} {x : κ} {a : α}, l.lookup x = some a → (x, a) ∈ l
  | [], _, _, h => by simp at h
  | (y, b) :: r, x, a, h => by
    rw [List.lookup_cons] at h
    split at h
    · rename_i e
      cases h
      rw [eq_of_beq e]; exact List.mem_cons_self ..
    · exact List.mem_cons_of_mem _ (mem_of_lookup h)
theorem ix_of_mem {α : Type} {l : List α} {a : α} (h : a ∈ l) : ∃ i : Nat, l[i]? = some a := by
  obtain ⟨i, hi, e⟩ := List.getElem_of_mem h
  exact ⟨i, by rw [List.getElem?_eq_getElem hi, e]⟩
/-- what the head tells is what the levels want -/
theorem txt_by {g : G} {h : Heap} {mg : Str → Option Value} {T : TabT} {n : Nat} (hcm : g.cm = fun c => He.ga g.K (T.cls c)) (X : g.K.In h) (Gn : h.Ns mainGlobals mg) (c : He.SaysD (faOf T) ((List.range n).map (dfOfT T) ++ inisT T) g.K)
    (hP : ∀ f fn, T.Pg f = some fn → f < n ∧ rowB T f fn = true)
    (hb : ∀ f fn, T.Pg f = some fn → ∀ (kV doc pm : Value) (an : Option Addr) (cdv ct : Value) (us : List Value), us.length = (psOf fn).length → bindArgs (PySem.W.fnOf (T.tx f).name (T.tx f).qual (T.tx f).args (T.tx f).body (T.tx f).scope .none kV doc pm an cdv ct) ⟨us, []⟩ = pure ((psOf fn).zip us))
    (hbi : ∀ x k fs np, T.mks.lookup x = some (k, fs, np) → ∀ (kV doc pm : Value) (an : Option Addr) (cdv ct : Value) (us : List Value), us.length = (T.inm k).length → bindArgs (PySem.W.fnOf (T.irow k).name (T.irow k).qual (T.irow k).args (T.irow k).body (T.irow k).scope .none kV doc pm an cdv ct) ⟨us, []⟩ = pure ((T.inm k).zip us))
    (hg : chkFns T = true) (hex : ((T.exc.map (·.1)).all fun x => exFa g.K x) = true) : ∃ fdd, Txt g mg T (adT g.K T) fdd := by
  have fact : ∀ {f : He.Fa}, f ∈ faOf T → f.ok g.K = true := fun hm => by
    obtain ⟨i, e⟩ := ix_of_mem hm
    exact c.fact i e
  have ex : ∀ f, ∃ fd, f < n → FunD g.K (T.tx f).name (T.tx f).qual (T.tx f).args (T.tx f).body (T.tx f).scope [] [] (adT g.K T f) fd := fun f => by
    by_cases hl : f < n
    · obtain ⟨fd, F⟩ := c.def_ f (d := dfOfT T f) (by rw [List.getElem?_append_left (by simpa using hl), List.getElem?_map, List.getElem?_range hl]; rfl)
      exact ⟨fd, fun _ => F⟩
    · exact ⟨Classical.choice ⟨(default : FuncData)⟩, fun h => absurd h hl⟩
  obtain ⟨fdd, hd⟩ := Classical.axiomOfChoice ex
  unfold chkFns at hg
  obtain ⟨hg1, hg⟩ := and2 hg
  obtain ⟨hg2, hg⟩ := and2 hg
  obtain ⟨hg3, hg⟩ := and2 hg
  obtain ⟨hg4, hg5⟩ := and2 hg
  have cm : ∀ k, g.cm k = He.ga g.K (T.cls k) := fun k => by rw [hcm]
  refine ⟨fdd, fun f fn e => ?_, fun x f np e => ?_, fun x i e => ?_, fun x e => ?_, fun k x e => ?_, fun k x f np e => ?_, fun x k fs np e => ?_, fun x f np e => ?_, fun x C e => ?_, fun x C e => ?_⟩
  · obtain ⟨h1, h2⟩ := hP f fn e
    exact ⟨hd f h1, (hd f h1).bindsN (hb f fn e), h2⟩
  · have m := mem_of_lookup e
    obtain ⟨q1, q2⟩ := and2 (List.all_eq_true.mp hg1 _ m)
    dsimp only at q2
    cases z : T.Pg f with
    | none => rw [z] at q2; cases q2
    | some fn =>
      rw [z] at q2
      obtain ⟨q2, q3⟩ := and2 q2
      refine ⟨fn, rfl, eq_of_beq q2, by simpa using q3, ?_⟩
      have e1 : adT g.K T f = He.ga g.K x := by
        unfold adT
        rw [show (T.tx f).glo = (x, none) from of_decide_eq_true q1]
        rfl
      rw [e1]
      refine ⟨?_, rfl⟩
      exact He.glo_ok X Gn (fact (List.mem_append_left _ (List.mem_map.mpr ⟨_, m, rfl⟩)))
  · exact He.int_ok X Gn (fact (List.mem_append_right _ (List.mem_append_left _ (List.mem_map.mpr ⟨_, mem_of_lookup e, rfl⟩))))
  · exact He.free_ok X Gn (fact (List.mem_append_right _ (List.mem_append_right _ (List.mem_append_left _ (List.mem_map.mpr ⟨x, by simpa using e, rfl⟩)))))
  · have m : (k, x) ∈ T.fls := by simpa using e
    rw [cm]
    refine ⟨He.cls_ok (fact ?_), He.noat_ok (fact ?_)⟩
    · unfold faOf
      simp only [List.mem_append, List.mem_map]
      exact .inr (.inr (.inr (.inr (.inr (.inr (.inl ⟨_, m, rfl⟩))))))
    · unfold faOf
      simp only [List.mem_append, List.mem_map]
      exact .inr (.inr (.inr (.inr (.inr (.inr (.inr (.inl ⟨_, m, rfl⟩)))))))
  · have m := mem_of_lookup e
    obtain ⟨q1, q2⟩ := and2 (List.all_eq_true.mp hg2 _ m)
    dsimp only at q2
    rw [cm]
    refine ⟨He.cls_ok (fact ?_), ?_⟩
    · unfold faOf
      simp only [List.mem_append, List.mem_map]
      exact .inr (.inr (.inr (.inr (.inr (.inr (.inr (.inr (.inl ⟨_, m, rfl⟩))))))))
    · cases z : T.Pg f with
      | none => rw [z] at q2; cases q2
      | some fn =>
        rw [z] at q2
        obtain ⟨q2, q3⟩ := and2 q2
        refine ⟨fn, rfl, eq_of_beq q2, by simpa using q3, ?_⟩
        have e1 : adT g.K T f = He.ma g.K (He.ga g.K (T.cls k)) x := by
          unfold adT
          rw [show (T.tx f).glo = (T.cls k, some x) from of_decide_eq_true q1]
          rfl
        rw [e1]
        refine He.meth_ok (fact ?_)
        unfold faOf
        simp only [List.mem_append, List.mem_map]
        exact .inr (.inr (.inr (.inr (.inr (.inr (.inr (.inr (.inr (.inl ⟨_, m, rfl⟩)))))))))
  · have m := mem_of_lookup e
    obtain ⟨q, q3⟩ := and2 (List.all_eq_true.mp hg3 _ m)
    obtain ⟨q1, q2⟩ := and2 q
    have q1 : T.cls k = x := of_decide_eq_true q1
    have q2 : (T.irow k).glo = (x, some ("__init__" : Str)) := of_decide_eq_true q2
    have e1 : He.fAd g.K (T.irow k).glo = iAd g k := by
      unfold iAd
      rw [cm, q1, q2]
      rfl
    obtain ⟨j, hj⟩ := ix_of_mem (show rowD (T.irow k) ∈ (List.range n).map (dfOfT T) ++ inisT T from List.mem_append_right _ (List.mem_map.mpr ⟨_, m, rfl⟩))
    obtain ⟨fd, F⟩ := c.def_ j hj
    have F : FunD g.K (T.irow k).name (T.irow k).qual (T.irow k).args (T.irow k).body (T.irow k).scope [] [] (He.fAd g.K (T.irow k).glo) fd := F
    rw [e1] at F
    rw [cm, q1]
    refine ⟨He.glo_ok X Gn (fact ?_), ?_, He.cls_ok (fact ?_), q3, fd, F, F.bindsN (hbi x k fs np e)⟩
    · unfold faOf
      simp only [List.mem_append, List.mem_map]
      exact .inr (.inr (.inr (.inl ⟨_, m, rfl⟩)))
    · unfold iAd
      rw [cm, q1]
      refine He.mkr_ok (fact ?_)
      unfold faOf
      simp only [List.mem_append, List.mem_map]
      exact .inr (.inr (.inr (.inr (.inl ⟨_, m, rfl⟩))))
    · unfold faOf
      simp only [List.mem_append, List.mem_map]
      exact .inr (.inr (.inr (.inr (.inr (.inl ⟨_, m, rfl⟩)))))
  · have m := mem_of_lookup e
    obtain ⟨q1, q2⟩ := and2 (List.all_eq_true.mp hg4 _ m)
    dsimp only at q2
    cases z : T.Pg f with
    | none => rw [z] at q2; cases q2
    | some fn =>
      rw [z] at q2
      obtain ⟨q2, q3⟩ := and2 q2
      refine ⟨fn, rfl, eq_of_beq q2, q3, ?_⟩
      have e1 : adT g.K T f = He.ga g.K x := by
        unfold adT
        rw [show (T.tx f).glo = (x, none) from of_decide_eq_true q1]
        rfl
      rw [e1]
      refine He.glo_ok X Gn (fact ?_)
      unfold faOf
      simp only [List.mem_append, List.mem_map]
      exact .inr (.inr (.inr (.inr (.inr (.inr (.inr (.inr (.inr (.inr (.inl ⟨_, m, rfl⟩))))))))))
  · have m := mem_of_lookup e
    have q1 : T.cls C = x := of_decide_eq_true (List.all_eq_true.mp hg5 _ m)
    rw [cm, q1]
    obtain ⟨c1, c2, c3, c4⟩ := He.exc_ok (x := x) (K := g.K) (fact (by
      unfold faOf
      simp only [List.mem_append, List.mem_map]
      exact .inr (.inr (.inr (.inr (.inr (.inr (.inr (.inr (.inr (.inr (.inr (.inr (.inl ⟨_, m, rfl⟩)))))))))))))) 
    have hx := List.all_eq_true.mp hex x (List.mem_map.mpr ⟨_, m, rfl⟩)
    unfold exFa at hx
    obtain ⟨x1, hx⟩ := and2 hx
    obtain ⟨x2, hx⟩ := and2 hx
    obtain ⟨x3, hx⟩ := and2 hx
    obtain ⟨x4, hx⟩ := and2 hx
    obtain ⟨x5, x6⟩ := and2 hx
    refine ⟨He.glo_ok X Gn (fact (by
      unfold faOf
      simp only [List.mem_append, List.mem_map]
      exact .inr (.inr (.inr (.inr (.inr (.inr (.inr (.inr (.inr (.inr (.inr (.inl ⟨_, m, rfl⟩))))))))))))), c1, c2, c3, c4, ⟨He.eqO_ok x1, He.noat_ok (fact (by
      unfold faOf
      simp only [List.mem_append, List.mem_map]
      exact .inr (.inr (.inr (.inr (.inr (.inr (.inr (.inr (.inr (.inr (.inr (.inr (.inr (.inl ⟨_, m, rfl⟩))))))))))))))), c3, x2, He.eqO_ok x3, He.eqO_ok x4, of_decide_eq_true x5, of_decide_eq_true x6⟩⟩
  · have m : (x, C) ∈ T.exh := by simpa using e
    rw [cm]
    refine ⟨He.ga g.K x, He.glo_ok X Gn (fact ?_), He.exm_ok (fact ?_)⟩
    · unfold faOf
      simp only [List.mem_append, List.mem_map]
      exact .inr (.inr (.inr (.inr (.inr (.inr (.inr (.inr (.inr (.inr (.inr (.inr (.inr (.inr (.inl ⟨_, m, rfl⟩))))))))))))))
    · unfold faOf
      simp only [List.mem_append, List.mem_map]
      exact .inr (.inr (.inr (.inr (.inr (.inr (.inr (.inr (.inr (.inr (.inr (.inr (.inr (.inr (.inr ⟨_, m, rfl⟩))))))))))))))
end Q
end
set_option maxHeartbeats 0
namespace Q
open PySem PySem.Spec PyProof.Rows L2
def f_is_in : Fn := ⟨["value", "least", "most"], 3, [
    .ret (.and (.isi (.var 0) true [.int]) (.and (.nt (.isi (.var 0) true [.bool])) (.chain .le .le (.var 1) (.var 0) (.var 2))))]⟩
def f_gcd : Fn := ⟨["one", "other"], 2, [
    .par [0, 1] [.blt .abs true [.var 0], .blt .abs true [.var 1]],
    .wh (.cmp .ne (.var 1) (.int 0)) [.par [0, 1] [.var 1, .bin true .mod (.var 0) (.var 1)]],
    .ret (.var 0)]⟩
def f_reduced : Fn := ⟨["numerator", "denominator", "common"], 2, [
    .asg (.nm 2) (.call 1 false [.var 0, .var 1]),
    .ife (.cmp .lt (.var 1) (.int 0)) [.asg (.nm 2) (.neg (.var 2))] [],
    .ret (.tup [.bin false .fdiv (.var 0) (.var 2), .bin false .fdiv (.var 1) (.var 2)])]⟩
def f_plus : Fn := ⟨["one", "other"], 2, [
    .ret (.call 2 true [.bin true .add (.bin false .mul (.ix (.var 0) (.int 0)) (.ix (.var 1) (.int 1))) (.bin false .mul (.ix (.var 1) (.int 0)) (.ix (.var 0) (.int 1))), .bin true .mul (.ix (.var 0) (.int 1)) (.ix (.var 1) (.int 1))])]⟩
def f_times : Fn := ⟨["one", "other"], 2, [
    .ret (.call 2 true [.bin true .mul (.ix (.var 0) (.int 0)) (.ix (.var 1) (.int 0)), .bin true .mul (.ix (.var 0) (.int 1)) (.ix (.var 1) (.int 1))])]⟩
def f_need_row : Fn := ⟨["row", "one"], 1, [
    .ife (.or (.nt (.isi (.var 0) true [.tuple])) (.nt (.chain .le .le (.int 1) (.blt .len false [.var 0]) (.glo "MOST_ROW" 40)))) [.dead] [],
    .ife (.cmp .ne (.lc false [1] (.nm 1) (.seq (.var 0)) [.nt (.call 0 false [.var 1, .int 0, .int 1])] (.var 1)) (.lst false [])) [.dead] []]⟩
def f_falls_in : Fn := ⟨["row", "k"], 1, [
    .ret (.lc true [1] (.nm 1) (.rng1 (.bin false .sub (.blt .len false [.var 0]) (.int 1))) [.cmp .eq (.bin false .mod (.blt .sum false [.sl false (.var 0) none (some (.bin false .add (.var 1) (.int 1)))]) (.int 2)) (.int 0)] (.var 1))]⟩
def f_next_counts : Fn := ⟨["counts", "is_fall", "found", "at"], 2, [
    .asg (.nm 2) (.lst true []),
    .for_ (.nm 3) (.rng1 (.bin false .add (.blt .len false [.var 0]) (.int 1))) [.ex (.mth .append false (.var 2) [.ife (.var 1) (.blt .sum false [.sl false (.var 0) (some (.var 3)) none]) (.blt .sum false [.sl false (.var 0) none (some (.var 3))])])],
    .ret (.var 2)]⟩
def f_count_of : Fn := ⟨["falls", "many", "counts", "k"], 2, [
    .asg (.nm 2) (.lst false [.int 1]),
    .for_ (.nm 3) (.rng2 (.int 1) (.var 1)) [.asg (.nm 2) (.call 7 false [.var 2, .cmp .isin (.bin false .sub (.var 3) (.int 1)) (.var 0)])],
    .ret (.blt .sum true [.var 2])]⟩
def f_parts_behind : Fn := ⟨["row", "place", "left", "right"], 2, [
    .par [2, 3] [.blt .list true [.sl false (.var 0) none (some (.var 1))], .blt .list true [.sl false (.var 0) (some (.bin false .add (.var 1) (.int 1))) none]],
    .ife (.cmp .ne (.var 2) (.lst false [])) [.asg (.sub (.var 2) (.neg (.int 1))) (.bin false .sub (.int 1) (.ix (.var 2) (.neg (.int 1))))] [],
    .ife (.cmp .ne (.var 3) (.lst false [])) [.asg (.sub (.var 3) (.int 0)) (.bin false .sub (.int 1) (.ix (.var 3) (.int 0)))] [],
    .ret (.tup [.var 2, .var 3])]⟩
def f_chosen : Fn := ⟨["whole", "part", "found", "k"], 2, [
    .asg (.nm 2) (.int 1),
    .for_ (.nm 3) (.rng1 (.var 1)) [.asg (.nm 2) (.bin true .fdiv (.bin false .mul (.var 2) (.bin false .sub (.var 0) (.var 3))) (.bin false .add (.var 3) (.int 1)))],
    .ret (.var 2)]⟩
def f_count_parts : Fn := ⟨["parts", "row", "found", "size"], 1, [
    .asg (.tup [.nm 2, .nm 3]) (.tup [.int 1, .int 0]),
    .for_ (.nm 1) (.seq (.var 0)) [.aug 3 .add (.blt .len false [.var 1]), .aug 2 .mul (.bin false .mul (.call 10 false [.var 3, .blt .len false [.var 1]]) (.ife (.cmp .eq (.bin false .mod (.blt .sum false [.var 1]) (.int 2)) (.int 1)) (.call 8 false [.call 6 false [.var 1], .blt .len false [.var 1]]) (.int 0)))],
    .ret (.var 2)]⟩
def f_choices : Fn := ⟨["parts", "found", "at", "k", "begin", "row", "fresh", "there", "ways", "left", "right", "one"], 1, [
    .asg (.nm 1) (.lst true []),
    .for_ (.tup [.nm 2, .tup [.nm 4, .nm 5]]) (.enum (.var 0)) [.for_ (.nm 3) (.rng1 (.blt .len false [.var 5])) [.ife (.cmp .eq (.ix (.var 5) (.var 3)) (.int 1)) [.asg (.tup [.nm 9, .nm 10]) (.call 9 false [.var 5, .var 3]), .asg (.nm 6) (.lst false [.tup [.var 4, .var 9], .tup [.bin false .add (.bin false .add (.var 4) (.var 3)) (.int 1), .var 10]]), .asg (.nm 7) (.bin false .add (.bin false .add (.sl false (.var 0) none (some (.var 2))) (.lc false [11] (.nm 11) (.seq (.var 6)) [.cmp .ne (.ix (.var 11) (.int 1)) (.lst false [])] (.var 11))) (.sl false (.var 0) (some (.bin false .add (.var 2) (.int 1))) none)), .asg (.nm 8) (.call 11 false [.lc false [11] (.nm 11) (.seq (.var 7)) [] (.ix (.var 11) (.int 1))]), .ife (.cmp .gt (.var 8) (.int 0)) [.ex (.mth .append false (.var 1) [.tup [.bin false .add (.var 4) (.var 3), .var 7, .var 8]])] []] []]],
    .ret (.var 1)]⟩
def f_is_row_order : Fn := ⟨["row", "value", "x"], 2, [
    .ife (.or (.nt (.isi (.var 1) true [.tuple])) (.cmp .ne (.lc false [2] (.nm 2) (.seq (.var 1)) [.nt (.call 0 false [.var 2, .int 0, .bin false .sub (.blt .len false [.var 0]) (.int 1)])] (.var 2)) (.lst false []))) [.ret (.bl false)] [],
    .ret (.cmp .eq (.blt .sorted false [.var 1]) (.lrg false (.blt .len false [.var 0])))]⟩
def f_order_falls : Fn := ⟨["order", "k"], 1, [
    .ret (.lc true [1] (.nm 1) (.rng1 (.bin false .sub (.blt .len false [.var 0]) (.int 1))) [.cmp .lt (.mth .index false (.var 0) [.bin false .add (.var 1) (.int 1)]) (.mth .index false (.var 0) [.var 1])] (.var 1))]⟩
def f_without_carry : Fn := ⟨["some", "found", "part", "one"], 1, [
    .asg (.tup [.nm 1, .nm 2]) (.tup [.int 0, .int 1]),
    .wh (.cmp .ge (.blt .max false [.bin false .add (.var 0) (.lst false [.int 0])]) (.var 2)) [.ife (.cmp .eq (.bin false .mod (.blt .sum false [.lc false [3] (.nm 3) (.seq (.var 0)) [] (.bin false .mod (.bin false .fdiv (.var 3) (.var 2)) (.int 2))]) (.int 2)) (.int 1)) [.aug 1 .add (.var 2)] [], .asg (.nm 2) (.bin false .mul (.int 2) (.var 2))],
    .ret (.var 1)]⟩
def f_whole : Fn := ⟨["row"], 1, [
    .ret (.tup [.int 0, .blt .len false [.var 0], .tup [.int 0, .int 0]])]⟩
def f_left_in : Fn := ⟨["row"], 1, [
    .ret (.cm 0 "left" 97 true (.mko 0 [("row", .arg 0), ("known", .dT)] [.var 0]) [.call 16 false [.var 0]])]⟩
def f_worth_in : Fn := ⟨["row"], 1, [
    .ret (.cm 0 "worth" 98 true (.mko 0 [("row", .arg 0), ("known", .dT)] [.var 0]) [.call 16 false [.var 0]])]⟩
def f_chance_in : Fn := ⟨["row"], 1, [
    .ret (.cm 0 "chance" 99 true (.mko 0 [("row", .arg 0), ("known", .dT)] [.var 0]) [.call 16 false [.var 0]])]⟩
def f_row_left : Fn := ⟨["row"], 1, [
    .ex (.call 5 false [.var 0]),
    .ret (.call 17 true [.var 0])]⟩
def f_row_worth : Fn := ⟨["row"], 1, [
    .ex (.call 5 false [.var 0]),
    .ret (.call 18 true [.var 0])]⟩
def f_row_wins : Fn := ⟨["row", "told", "found", "k", "parts", "one"], 1, [
    .ex (.call 5 false [.var 0]),
    .asg (.tup [.nm 1, .nm 2]) (.tup [.mko 0 [("row", .arg 0), ("known", .dT)] [.var 0], .lst true []]),
    .for_ (.tup [.nm 3, .nm 4]) (.seq (.cm 0 "takes" 96 false (.var 1) [.int 0, .blt .len false [.var 0], .tup [.int 0, .int 0]])) [.ife (.cmp .eq (.call 15 false [.lc false [5] (.nm 5) (.seq (.var 4)) [] (.cm 0 "worth" 98 false (.var 1) [.var 5])]) (.int 0)) [.ex (.mth .append false (.var 2) [.var 3])] []],
    .ret (.blt .tuple true [.var 2])]⟩
def f_row_chance : Fn := ⟨["row"], 1, [
    .ex (.call 5 false [.var 0]),
    .ret (.ix (.call 19 false [.var 0]) (.int 0))]⟩
def f_row_mean_left : Fn := ⟨["row"], 1, [
    .ex (.call 5 false [.var 0]),
    .ret (.ix (.call 19 false [.var 0]) (.int 1))]⟩
def f_is_edge : Fn := ⟨["value", "many"], 2, [
    .ife (.or (.nt (.isi (.var 0) true [.tuple])) (.cmp .ne (.blt .len false [.var 0]) (.int 2))) [.ret (.bl false)] [],
    .ret (.and (.call 0 false [.ix (.var 0) (.int 0), .int 0, .bin false .sub (.var 1) (.int 1)]) (.call 0 false [.ix (.var 0) (.int 1), .bin false .add (.ix (.var 0) (.int 0)) (.int 1), .bin false .sub (.var 1) (.int 1)]))]⟩
def f_need_web : Fn := ⟨["web", "index", "one"], 1, [
    .ife (.or (.nt (.isi (.var 0) true [.tuple])) (.or (.cmp .ne (.blt .len false [.var 0]) (.int 2)) (.nt (.call 0 false [.ix (.var 0) (.int 0), .int 1, .glo "MOST_PLACES" 9])))) [.dead] [],
    .ife (.nt (.isi (.ix (.var 0) (.int 1)) true [.tuple])) [.dead] [],
    .for_ (.tup [.nm 1, .nm 2]) (.enum (.ix (.var 0) (.int 1))) [.ife (.or (.nt (.call 25 false [.var 2, .ix (.var 0) (.int 0)])) (.and (.cmp .gt (.var 1) (.int 0)) (.cmp .le (.var 2) (.ix (.ix (.var 0) (.int 1)) (.bin false .sub (.var 1) (.int 1)))))) [.dead] []]]⟩
def f_need_place : Fn := ⟨["web", "place"], 2, [
    .ife (.nt (.call 0 false [.var 1, .int 0, .bin false .sub (.ix (.var 0) (.int 0)) (.int 1)])) [.dead] []]⟩
def f_need_laying : Fn := ⟨["web", "laying", "index", "one"], 2, [
    .ife (.or (.nt (.isi (.var 1) true [.tuple])) (.cmp .ne (.blt .len false [.var 1]) (.ix (.var 0) (.int 0)))) [.dead] [],
    .for_ (.tup [.nm 2, .nm 3]) (.enum (.var 1)) [.ife (.and (.cmp .isnot (.var 3) (.non)) (.nt (.call 0 false [.var 3, .int 0, .int 1]))) [.dead] []]]⟩
def f_need_full : Fn := ⟨["web", "laying", "index", "one"], 2, [
    .ife (.or (.nt (.isi (.var 1) true [.tuple])) (.cmp .ne (.blt .len false [.var 1]) (.ix (.var 0) (.int 0)))) [.dead] [],
    .for_ (.tup [.nm 2, .nm 3]) (.enum (.var 1)) [.ife (.nt (.call 0 false [.var 3, .int 0, .int 1])) [.dead] []]]⟩
def f_need_both : Fn := ⟨["web", "laying"], 2, [
    .ex (.call 26 false [.var 0]),
    .ex (.call 29 false [.var 0, .var 1])]⟩
def f_neighbours_in : Fn := ⟨["web", "place", "a", "b"], 2, [
    .ret (.blt .sorted true [.lc false [2, 3] (.tup [.nm 2, .nm 3]) (.seq (.ix (.var 0) (.int 1))) [.cmp .isin (.var 1) (.tup [.var 2, .var 3])] (.bin false .sub (.bin false .add (.var 2) (.var 3)) (.var 1))])]⟩
def f_part_in : Fn := ⟨["web", "place", "found", "rows", "here", "there"], 2, [
    .par [2, 3] [.lst true [.var 1], .lst true [.var 1]],
    .wh (.cmp .ne (.var 3) (.lst false [])) [.asg (.nm 4) (.mth .pop false (.var 3) []), .for_ (.nm 5) (.seq (.call 31 false [.var 0, .var 4])) [.ife (.cmp .notin (.var 5) (.var 2)) [.ex (.mth .append false (.var 2) [.var 5]), .ex (.mth .append false (.var 3) [.var 5])] []]],
    .ret (.blt .sorted true [.var 2])]⟩
def f_parts_in : Fn := ⟨["web", "found", "k", "part"], 1, [
    .asg (.nm 1) (.lst true []),
    .for_ (.nm 2) (.rng1 (.ix (.var 0) (.int 0))) [.asg (.nm 3) (.call 32 false [.var 0, .var 2]), .ife (.cmp .eq (.ix (.var 3) (.int 0)) (.var 2)) [.ex (.mth .append false (.var 1) [.var 3])] []],
    .ret (.var 1)]⟩
def f_is_forest_in : Fn := ⟨["web"], 1, [
    .ret (.cmp .eq (.blt .len false [.ix (.var 0) (.int 1)]) (.bin false .sub (.ix (.var 0) (.int 0)) (.blt .len false [.call 33 false [.var 0]])))]⟩
def f_heads_in : Fn := ⟨["laying", "k", "one"], 1, [
    .ret (.lc true [1, 2] (.tup [.nm 1, .nm 2]) (.enum (.var 0)) [.cmp .eq (.var 2) (.int 1)] (.var 1))]⟩
def f_taken_in : Fn := ⟨["web", "laying", "place", "found", "k"], 3, [
    .asg (.nm 3) (.blt .list true [.var 1]),
    .for_ (.nm 4) (.seq (.call 31 false [.var 0, .var 2])) [.ife (.cmp .isnot (.ix (.var 3) (.var 4)) (.non)) [.asg (.sub (.var 3) (.var 4)) (.bin false .sub (.int 1) (.ix (.var 3) (.var 4)))] []],
    .asg (.sub (.var 3) (.var 2)) (.non),
    .ret (.blt .tuple true [.var 3])]⟩
def f_count_in : Fn := ⟨["web", "laying", "known", "key", "one", "k"], 3, [
    .ife (.cmp .eq (.lc false [4] (.nm 4) (.seq (.var 1)) [.cmp .isnot (.var 4) (.non)] (.var 4)) (.lst false [])) [.ret (.int 1)] [],
    .asg (.nm 3) (.blt .tuple false [.lc false [4] (.nm 4) (.seq (.var 1)) [] (.ife (.cmp .is (.var 4) (.non)) (.int 2) (.var 4))]),
    .ife (.cmp .notin (.var 3) (.var 2)) [.asg (.sub (.var 2) (.var 3)) (.blt .sum false [.lc false [5] (.nm 5) (.seq (.call 35 false [.var 1])) [] (.call 37 false [.var 0, .call 36 false [.var 0, .var 1, .var 5], .var 2])])] [],
    .ret (.ix (.var 2) (.var 3))]⟩
def f_full_layings : Fn := ⟨["many", "found", "k", "one", "coin"], 1, [
    .asg (.nm 1) (.lst true [.tup []]),
    .for_ (.nm 2) (.rng1 (.var 0)) [.asg (.nm 1) (.lc2 true [3, 4] [4] (.nm 3) (.seq (.var 1)) [] (.nm 4) (.seq (.tup [.int 0, .int 1])) [] (.bin false .add (.var 3) (.tup [.var 4])))],
    .ret (.var 1)]⟩
def f_counts_in : Fn := ⟨["web", "laying"], 1, [
    .ret (.lc true [1] (.nm 1) (.seq (.call 38 false [.ix (.var 0) (.int 0)])) [] (.tup [.call 37 false [.var 0, .var 1, .dnew true], .var 1]))]⟩
def f_layings_by_count : Fn := ⟨["web", "found", "count", "laying"], 1, [
    .ex (.call 26 false [.var 0]),
    .asg (.nm 1) (.dnew false),
    .for_ (.tup [.nm 2, .nm 3]) (.seq (.call 39 false [.var 0])) [.asg (.sub (.var 1) (.var 2)) (.bin false .add (.mth .get false (.var 1) [.var 2, .int 0]) (.int 1))],
    .ret (.blt .tuple true [.lc false [2] (.nm 2) (.seq (.srtk false (.var 1))) [] (.tup [.var 2, .ix (.var 1) (.var 2)])])]⟩
def f_most_in : Fn := ⟨["web", "best", "count", "laying"], 1, [
    .asg (.nm 1) (.blt .min false [.lc false [2, 3] (.tup [.nm 2, .nm 3]) (.seq (.call 39 false [.var 0])) [] (.tup [.neg (.var 2), .var 3])]),
    .ret (.tup [.neg (.ix (.var 1) (.int 0)), .ix (.var 1) (.int 1)])]⟩
def f_most_orders : Fn := ⟨["web"], 1, [
    .ex (.call 26 false [.var 0]),
    .ret (.call 41 true [.var 0])]⟩
def f_heads_by_count : Fn := ⟨["web", "found", "count", "laying"], 1, [
    .ex (.call 26 false [.var 0]),
    .asg (.nm 1) (.bin true .mul (.lst false [.int 0]) (.bin false .add (.ix (.var 0) (.int 0)) (.int 1))),
    .for_ (.tup [.nm 2, .nm 3]) (.seq (.call 39 false [.var 0])) [.augs (.var 1) (.blt .sum false [.var 3]) .add (.blt .int false [.cmp .gt (.var 2) (.int 0)])],
    .ret (.blt .tuple true [.var 1])]⟩
def f_tree_count : Fn := ⟨["many", "found", "k"], 1, [
    .ife (.nt (.call 0 false [.var 0, .int 1, .glo "MOST_PLACES" 9])) [.dead] [],
    .asg (.nm 1) (.int 1),
    .for_ (.nm 2) (.rng1 (.bin false .sub (.var 0) (.int 2))) [.aug 1 .mul (.var 0)],
    .ret (.var 1)]⟩
def f_tree_edges : Fn := ⟨["many", "code", "degrees", "place", "found", "left", "leaf", "k"], 2, [
    .asg (.nm 2) (.lc true [7] (.nm 7) (.rng1 (.var 0)) [] (.bin false .add (.int 1) (.mth .count false (.blt .list false [.var 1]) [.var 7]))),
    .par [4, 5] [.lst true [], .lrg false (.var 0)],
    .for_ (.nm 3) (.seq (.var 1)) [.asg (.nm 6) (.ix (.lc false [7] (.nm 7) (.seq (.var 5)) [.cmp .eq (.ix (.var 2) (.var 7)) (.int 1)] (.var 7)) (.int 0)), .ex (.mth .append false (.var 4) [.tup [.blt .min false [.var 6, .var 3], .blt .max false [.var 6, .var 3]]]), .asg (.nm 5) (.lc false [7] (.nm 7) (.seq (.var 5)) [.cmp .ne (.var 7) (.var 6)] (.var 7)), .augs (.var 2) (.var 3) .sub (.int 1)],
    .ife (.cmp .gt (.var 0) (.int 1)) [.ex (.mth .append false (.var 4) [.tup [.ix (.var 5) (.int 0), .ix (.var 5) (.int 1)]])] [],
    .ret (.blt .tuple true [.blt .sorted false [.var 4]])]⟩
def f_all_trees : Fn := ⟨["many", "codes", "k", "code", "x"], 1, [
    .asg (.nm 1) (.lst false [.tup []]),
    .for_ (.nm 2) (.rng1 (.bin false .sub (.var 0) (.int 2))) [.asg (.nm 1) (.lc2 false [3, 4] [4] (.nm 3) (.seq (.var 1)) [] (.nm 4) (.rng1 (.var 0)) [] (.bin false .add (.var 3) (.tup [.var 4])))],
    .ret (.lc true [3] (.nm 3) (.seq (.var 1)) [] (.tup [.var 0, .call 45 false [.var 0, .var 3]]))]⟩
def f_shape_of : Fn := ⟨["web", "near", "shapes", "turn", "k", "a", "b", "x"], 1, [
    .asg (.nm 1) (.lc false [4] (.nm 4) (.rng1 (.ix (.var 0) (.int 0))) [] (.lc false [5, 6] (.tup [.nm 5, .nm 6]) (.seq (.ix (.var 0) (.int 1))) [.cmp .isin (.var 4) (.tup [.var 5, .var 6])] (.bin false .sub (.bin false .add (.var 5) (.var 6)) (.var 4)))),
    .asg (.nm 2) (.bin false .mul (.lst false [.tup []]) (.ix (.var 0) (.int 0))),
    .for_ (.nm 3) (.rng1 (.ix (.var 0) (.int 0))) [.asg (.nm 2) (.lc false [4] (.nm 4) (.rng1 (.ix (.var 0) (.int 0))) [] (.blt .tuple false [.blt .sorted false [.lc false [7] (.nm 7) (.seq (.ix (.var 1) (.var 4))) [] (.ix (.var 2) (.var 7))]]))],
    .ret (.blt .tuple true [.blt .sorted false [.var 2]])]⟩
def f_tree_orders : Fn := ⟨["many", "web", "seen", "found", "key"], 1, [
    .ife (.nt (.call 0 false [.var 0, .int 1, .glo "MOST_TREES" 6])) [.dead] [],
    .par [2, 3] [.dnew true, .int 0],
    .for_ (.nm 1) (.seq (.call 46 false [.var 0])) [.asg (.nm 4) (.call 47 false [.var 1]), .ife (.cmp .notin (.var 4) (.var 2)) [.asg (.sub (.var 2) (.var 4)) (.bl true), .asg (.nm 3) (.blt .max true [.var 3, .ix (.call 41 false [.var 1]) (.int 0)])] []],
    .ret (.var 3)]⟩
def f_need_many : Fn := ⟨["many"], 1, [
    .ife (.nt (.call 0 false [.var 0, .int 1, .glo "MOST_ROW" 40])) [.dead] []]⟩
def f_orders_by_falls : Fn := ⟨["many", "found", "size", "long", "short", "k"], 1, [
    .ex (.call 49 false [.var 0]),
    .asg (.nm 1) (.lst false [.int 1]),
    .for_ (.nm 2) (.rng2 (.int 2) (.bin false .add (.var 0) (.int 1))) [.asg (.tup [.nm 3, .nm 4]) (.tup [.bin false .add (.var 1) (.lst false [.int 0]), .bin false .add (.lst false [.int 0]) (.var 1)]), .asg (.nm 1) (.lc false [5] (.nm 5) (.rng1 (.var 2)) [] (.bin false .add (.bin false .mul (.bin false .add (.var 5) (.int 1)) (.ix (.var 3) (.var 5))) (.bin false .mul (.bin false .sub (.var 2) (.var 5)) (.ix (.var 4) (.var 5)))))],
    .ret (.blt .tuple true [.var 1])]⟩
def f_rows_by_falls : Fn := ⟨["many", "k"], 1, [
    .ex (.call 49 false [.var 0]),
    .ret (.blt .tuple true [.lc false [1] (.nm 1) (.rng1 (.var 0)) [] (.call 10 false [.bin false .sub (.var 0) (.int 1), .var 1])])]⟩
def f_row_mirrored : Fn := ⟨["row"], 1, [
    .ex (.call 5 false [.var 0]),
    .ret (.rev true (.var 0))]⟩
def f_row_turned : Fn := ⟨["row", "place", "left", "right"], 2, [
    .ex (.call 5 false [.var 0]),
    .ife (.or (.nt (.call 0 false [.var 1, .int 0, .bin false .sub (.blt .len false [.var 0]) (.int 1)])) (.cmp .ne (.ix (.var 0) (.var 1)) (.int 1))) [.dead] [],
    .asg (.tup [.nm 2, .nm 3]) (.call 9 false [.var 0, .var 1]),
    .ret (.tup [.blt .tuple false [.var 2], .blt .tuple false [.var 3]])]⟩
def f_step : Fn := ⟨["counts", "size", "is_fall", "found", "last", "mark", "at", "key"], 3, [
    .asg (.nm 3) (.dnew true),
    .for_ (.tup [.nm 4, .nm 5]) (.keys (.var 0)) [.for_ (.nm 6) (.rng1 (.bin false .add (.var 1) (.int 1))) [.ife (.cmp .eq (.cmp .le (.var 6) (.var 4)) (.var 2)) [.asg (.nm 7) (.tup [.var 6, .ife (.cmp .is (.var 5) (.non)) (.non) (.bin false .add (.var 5) (.blt .int false [.cmp .le (.var 6) (.var 5)]))]), .asg (.sub (.var 3) (.var 7)) (.bin false .add (.mth .get false (.var 3) [.var 7, .int 0]) (.ix (.var 0) (.tup [.var 4, .var 5])))] []]],
    .ret (.var 3)]⟩
def f_row_times : Fn := ⟨["row", "place", "counts", "k", "found", "falls", "whole", "last", "mark", "one"], 2, [
    .ex (.call 5 false [.var 0]),
    .ife (.nt (.call 0 false [.var 1, .int 0, .bin false .sub (.blt .len false [.var 0]) (.int 1)])) [.dead] [],
    .ife (.cmp .gt (.blt .len false [.var 0]) (.glo "MOST_TIMED" 12)) [.dead] [],
    .ife (.cmp .eq (.bin false .mod (.blt .sum false [.var 0]) (.int 2)) (.int 0)) [.ret (.non)] [],
    .asg (.tup [.nm 5, .nm 6]) (.tup [.call 6 false [.var 0], .call 8 true [.call 6 false [.var 0], .blt .len false [.var 0]]]),
    .asg (.nm 2) (.dsp true [.tup [.int 0, .ife (.cmp .eq (.var 1) (.int 0)) (.int 0) (.non)]] [.int 1]),
    .for_ (.nm 3) (.rng2 (.int 1) (.blt .len false [.var 0])) [.asg (.nm 2) (.call 54 true [.var 2, .var 3, .cmp .isin (.bin false .sub (.var 3) (.int 1)) (.var 5)]), .ife (.cmp .eq (.var 3) (.var 1)) [.asg (.nm 2) (.dpr (.lc false [7, 8] (.tup [.nm 7, .nm 8]) (.keys (.var 2)) [] (.tup [.tup [.var 7, .var 7], .ix (.var 2) (.tup [.var 7, .var 8])])))] []],
    .asg (.nm 4) (.bin true .mul (.lst false [.int 0]) (.blt .len false [.var 0])),
    .for_ (.tup [.nm 7, .nm 8]) (.keys (.var 2)) [.augs (.var 4) (.var 8) .add (.ix (.var 2) (.tup [.var 7, .var 8]))],
    .ret (.blt .tuple true [.lc false [9] (.nm 9) (.seq (.var 4)) [] (.call 2 false [.var 9, .var 6])])]⟩
def f_behind_in : Fn := ⟨["web", "laying", "state", "found", "k", "one", "turns", "x"], 3, [
    .asg (.nm 3) (.lst true []),
    .for_ (.tup [.nm 4, .nm 5]) (.enum (.var 1)) [.asg (.nm 6) (.blt .len false [.lc false [7] (.nm 7) (.seq (.call 31 false [.var 0, .var 4])) [.cmp .isin (.var 7) (.var 2)] (.var 7)]), .ex (.mth .append false (.var 3) [.ife (.cmp .isin (.var 4) (.var 2)) (.non) (.bin false .mod (.bin false .add (.var 5) (.var 6)) (.int 2))])],
    .ret (.blt .tuple true [.var 3])]⟩
def f_ready_in : Fn := ⟨["web", "laying", "state"], 3, [
    .ret (.call 35 true [.call 56 false [.var 0, .var 1, .var 2]])]⟩
def f_more : Fn := ⟨["state", "place"], 2, [
    .ret (.blt .tuple true [.blt .sorted false [.bin false .add (.var 0) (.tup [.var 1])]])]⟩
def f_on_in : Fn := ⟨["web", "laying", "state", "known"], 4, [
    .ret (.call 37 true [.var 0, .call 56 false [.var 0, .var 1, .var 2], .var 3])]⟩
def f_need_few : Fn := ⟨["web"], 1, [
    .ife (.cmp .gt (.ix (.var 0) (.int 0)) (.glo "MOST_GAPPED" 7)) [.dead] []]⟩
def f_later_counts : Fn := ⟨["web", "laying", "begin", "place", "known", "gap", "found", "rows", "there", "state", "k", "behind"], 5, [
    .par [6, 7] [.dnew false, .dsp true [.var 2] [.int 1]],
    .for_ (.nm 5) (.rng1 (.bin false .sub (.ix (.var 0) (.int 0)) (.blt .len false [.var 2]))) [.asg (.nm 8) (.dnew true), .for_ (.nm 9) (.keys (.var 7)) [.for_ (.nm 10) (.seq (.call 57 false [.var 0, .var 1, .var 9])) [.asg (.nm 11) (.call 58 false [.var 9, .var 10]), .ife (.cmp .eq (.var 10) (.var 3)) [.asg (.sub (.var 6) (.bin false .add (.var 5) (.int 1))) (.bin false .add (.mth .get false (.var 6) [.bin false .add (.var 5) (.int 1), .int 0]) (.bin false .mul (.ix (.var 7) (.var 9)) (.call 59 false [.var 0, .var 1, .var 11, .var 4])))] [.asg (.sub (.var 8) (.var 11)) (.bin false .add (.mth .get false (.var 8) [.var 11, .int 0]) (.ix (.var 7) (.var 9)))]]], .asg (.nm 7) (.var 8)],
    .ret (.var 6)]⟩
def f_counts_in__94 : Fn := ⟨["web", "laying", "one", "other", "rows", "found", "known", "to", "fresh", "state", "k", "behind", "gap", "ways"], 4, [
    .par [5, 6, 7] [.dnew false, .dnew true, .dsp true [.tup []] [.int 1]],
    .asg (.nm 4) (.lst false [.tup []]),
    .wh (.cmp .ne (.var 4) (.lst false [])) [.asg (.nm 8) (.dnew true), .for_ (.nm 9) (.seq (.var 4)) [.for_ (.nm 10) (.seq (.call 57 false [.var 0, .var 1, .var 9])) [.asg (.nm 11) (.call 58 false [.var 9, .var 10]), .ife (.cmp .eq (.var 10) (.var 2)) [.for_ (.tup [.nm 12, .nm 13]) (.items (.call 61 true [.var 0, .var 1, .var 11, .var 3, .var 6])) [.asg (.sub (.var 5) (.var 12)) (.bin false .add (.mth .get false (.var 5) [.var 12, .int 0]) (.bin false .mul (.ix (.var 7) (.var 9)) (.var 13)))]] [.ife (.cmp .ne (.var 10) (.var 3)) [.asg (.sub (.var 8) (.var 11)) (.bin false .add (.mth .get false (.var 8) [.var 11, .int 0]) (.ix (.var 7) (.var 9)))] []]]], .for_ (.nm 9) (.keys (.var 8)) [.asg (.sub (.var 7) (.var 9)) (.ix (.var 8) (.var 9))], .asg (.nm 4) (.srtk false (.var 8))],
    .ret (.var 5)]⟩
def f_gaps_in : Fn := ⟨["web", "laying", "one", "other", "gap", "whole", "found", "ahead", "behind", "ways"], 4, [
    .par [5, 6] [.call 37 true [.var 0, .var 1, .dnew true], .lst true []],
    .par [7, 8] [.call 62 true [.var 0, .var 1, .var 2, .var 3], .call 62 true [.var 0, .var 1, .var 3, .var 2]],
    .for_ (.nm 4) (.rng2 (.bin false .sub (.int 1) (.ix (.var 0) (.int 0))) (.ix (.var 0) (.int 0))) [.asg (.nm 9) (.bin true .add (.mth .get false (.var 7) [.var 4, .int 0]) (.mth .get false (.var 8) [.neg (.var 4), .int 0])), .ife (.cmp .gt (.var 9) (.int 0)) [.ex (.mth .append false (.var 6) [.tup [.var 4, .call 2 false [.var 9, .var 5]]])] []],
    .ret (.var 6)]⟩
def f_gap_chances : Fn := ⟨["web", "laying", "one", "other"], 4, [
    .ex (.call 30 false [.var 0, .var 1]),
    .ex (.call 27 false [.var 0, .var 2]),
    .ex (.call 27 false [.var 0, .var 3]),
    .ife (.cmp .eq (.var 2) (.var 3)) [.dead] [],
    .ex (.call 60 false [.var 0]),
    .ret (.blt .tuple true [.call 63 false [.var 0, .var 1, .var 2, .var 3]])]⟩
def f_mean_gap : Fn := ⟨["web", "laying", "one", "found", "pairs", "other", "gap", "chance"], 2, [
    .ex (.call 30 false [.var 0, .var 1]),
    .ex (.call 60 false [.var 0]),
    .ife (.or (.cmp .eq (.ix (.var 0) (.int 0)) (.int 1)) (.cmp .eq (.call 37 false [.var 0, .var 1, .dnew true]) (.int 0))) [.ret (.non)] [],
    .asg (.tup [.nm 3, .nm 4]) (.tup [.tup [.int 0, .int 1], .int 0]),
    .for_ (.nm 2) (.rng1 (.ix (.var 0) (.int 0))) [.for_ (.nm 5) (.rng1 (.var 2)) [.aug 4 .add (.int 1), .for_ (.tup [.nm 6, .nm 7]) (.seq (.call 63 false [.var 0, .var 1, .var 2, .var 5])) [.asg (.nm 3) (.call 3 false [.var 3, .call 4 false [.tup [.blt .abs false [.var 6], .int 1], .var 7]])]]],
    .ret (.call 4 true [.var 3, .tup [.int 1, .var 4]])]⟩
def f_need_forest : Fn := ⟨["web"], 1, [
    .ife (.nt (.call 34 false [.var 0])) [.dead] []]⟩
def f_side_of : Fn := ⟨["web", "edge", "place", "rest", "one"], 3, [
    .asg (.nm 3) (.tup [.ix (.var 0) (.int 0), .blt .tuple false [.lc false [4] (.nm 4) (.seq (.ix (.var 0) (.int 1))) [.cmp .ne (.var 4) (.var 1)] (.var 4)]]),
    .ret (.call 32 true [.var 3, .var 2])]⟩
def f_heads_of : Fn := ⟨["laying", "places", "k"], 2, [
    .ret (.blt .len true [.lc false [2] (.nm 2) (.seq (.var 1)) [.cmp .eq (.ix (.var 0) (.var 2)) (.int 1)] (.var 2)])]⟩
def f_is_clear : Fn := ⟨["web", "laying", "part"], 2, [
    .ret (.cmp .eq (.lc false [2] (.nm 2) (.seq (.call 33 false [.var 0])) [.cmp .eq (.bin false .mod (.call 68 false [.var 1, .var 2]) (.int 2)) (.int 0)] (.var 2)) (.lst false []))]⟩
def f_way_for : Fn := ⟨["web", "laying", "edge"], 2, [
    .ret (.blt .tuple true [.lc false [2] (.nm 2) (.seq (.ix (.var 0) (.int 1))) [] (.bin false .sub (.int 1) (.bin false .mod (.call 68 false [.var 1, .call 67 false [.var 0, .var 2, .ix (.var 2) (.int 0)]]) (.int 2)))])]⟩
def f_chosen__105 : Fn := ⟨["whole", "part", "found", "k"], 2, [
    .asg (.nm 2) (.int 1),
    .for_ (.nm 3) (.rng1 (.var 1)) [.asg (.nm 2) (.bin true .fdiv (.bin false .mul (.var 2) (.bin false .sub (.var 0) (.var 3))) (.bin false .add (.var 3) (.int 1)))],
    .ret (.var 2)]⟩
def f_joined : Fn := ⟨["one", "other", "is_before", "found", "size", "more", "at", "ways", "ahead", "fits", "mixed"], 3, [
    .par [4, 5] [.blt .len false [.var 0], .blt .len false [.var 1]],
    .asg (.nm 3) (.bin true .mul (.lst false [.int 0]) (.bin false .add (.var 4) (.var 5))),
    .for_ (.tup [.nm 6, .nm 7]) (.enum (.var 0)) [.for_ (.nm 8) (.rng1 (.bin false .add (.var 5) (.int 1))) [.asg (.nm 9) (.ife (.var 2) (.blt .sum false [.sl false (.var 1) none (some (.var 8))]) (.blt .sum false [.sl false (.var 1) (some (.var 8)) none])), .asg (.nm 10) (.bin false .mul (.call 71 false [.bin false .add (.var 6) (.var 8), .var 8]) (.call 71 false [.bin false .sub (.bin false .add (.bin false .sub (.bin false .sub (.var 4) (.int 1)) (.var 6)) (.var 5)) (.var 8), .bin false .sub (.var 5) (.var 8)])), .augs (.var 3) (.bin false .add (.var 6) (.var 8)) .add (.bin false .mul (.bin false .mul (.var 7) (.var 9)) (.var 10))]],
    .ret (.var 3)]⟩
def f_branch : Fn := ⟨["web", "way", "place", "come", "found", "k", "edge", "mark"], 4, [
    .asg (.nm 4) (.lst true [.int 1]),
    .for_ (.nm 5) (.seq (.call 31 false [.var 0, .var 2])) [.ife (.cmp .ne (.var 5) (.var 3)) [.asg (.nm 6) (.tup [.blt .min false [.var 5, .var 2], .blt .max false [.var 5, .var 2]]), .asg (.nm 7) (.ix (.var 1) (.mth .index false (.ix (.var 0) (.int 1)) [.var 6])), .asg (.nm 4) (.call 72 true [.var 4, .call 73 false [.var 0, .var 1, .var 5, .var 2], .cmp .eq (.ix (.var 6) (.var 7)) (.var 5)])] []],
    .ret (.var 4)]⟩
def f_count_by_way : Fn := ⟨["web", "way", "part", "found", "size"], 2, [
    .asg (.tup [.nm 3, .nm 4]) (.tup [.int 1, .int 0]),
    .for_ (.nm 2) (.seq (.call 33 false [.var 0])) [.aug 4 .add (.blt .len false [.var 2]), .aug 3 .mul (.bin false .mul (.call 71 false [.var 4, .blt .len false [.var 2]]) (.blt .sum false [.call 73 false [.var 0, .var 1, .ix (.var 2) (.int 0), .non]]))],
    .ret (.var 3)]⟩
def f_leafed_in : Fn := ⟨["web", "laying", "place", "coin", "edges"], 4, [
    .asg (.nm 4) (.blt .tuple false [.blt .sorted false [.bin false .add (.ix (.var 0) (.int 1)) (.tup [.tup [.var 2, .ix (.var 0) (.int 0)]])]]),
    .ret (.tup [.tup [.bin false .add (.ix (.var 0) (.int 0)) (.int 1), .var 4], .bin false .add (.var 1) (.tup [.var 3])])]⟩
def f_leafed : Fn := ⟨["web", "laying", "place", "coin"], 4, [
    .ex (.call 26 false [.var 0]),
    .ex (.call 28 false [.var 0, .var 1]),
    .ex (.call 27 false [.var 0, .var 2]),
    .ife (.nt (.call 0 false [.var 3, .int 0, .int 1])) [.dead] [],
    .ife (.cmp .eq (.ix (.var 0) (.int 0)) (.glo "MOST_PLACES" 9)) [.dead] [],
    .ret (.call 75 true [.var 0, .var 1, .var 2, .var 3])]⟩
def f_leaf_pair : Fn := ⟨["web", "laying", "place", "wide", "mark", "way", "found", "marks", "edge"], 3, [
    .ex (.call 30 false [.var 0, .var 1]),
    .ex (.call 27 false [.var 0, .var 2]),
    .ex (.call 66 false [.var 0]),
    .ife (.nt (.call 69 false [.var 0, .var 1])) [.dead] [],
    .asg (.nm 3) (.ix (.call 75 false [.var 0, .var 1, .var 2, .int 1]) (.int 0)),
    .asg (.tup [.nm 5, .nm 6]) (.tup [.call 70 false [.var 0, .var 1], .lst true []]),
    .for_ (.nm 4) (.seq (.tup [.int 1, .int 0])) [.asg (.nm 7) (.lc false [8] (.nm 8) (.seq (.ix (.var 3) (.int 1))) [] (.ife (.cmp .eq (.var 8) (.tup [.var 2, .ix (.var 0) (.int 0)])) (.var 4) (.ix (.var 5) (.mth .index false (.ix (.var 0) (.int 1)) [.var 8])))), .ex (.mth .append false (.var 6) [.call 74 false [.var 3, .blt .tuple false [.var 7]]])],
    .ret (.blt .tuple true [.var 6])]⟩
def f_need_ring : Fn := ⟨["ring", "one"], 1, [
    .ife (.or (.nt (.isi (.var 0) true [.tuple])) (.nt (.chain .le .le (.glo "LEAST_RING" 3) (.blt .len false [.var 0]) (.glo "MOST_RING" 20)))) [.dead] [],
    .ife (.cmp .ne (.lc false [1] (.nm 1) (.seq (.var 0)) [.nt (.call 0 false [.var 1, .int 0, .int 1])] (.var 1)) (.lst false [])) [.dead] []]⟩
def f_opened_in : Fn := ⟨["ring", "place", "found"], 2, [
    .asg (.nm 2) (.blt .list true [.bin false .add (.sl false (.var 0) (some (.bin false .add (.var 1) (.int 1))) none) (.sl false (.var 0) none (some (.var 1)))]),
    .asg (.sub (.var 2) (.int 0)) (.bin false .sub (.int 1) (.ix (.var 2) (.int 0))),
    .asg (.sub (.var 2) (.neg (.int 1))) (.bin false .sub (.int 1) (.ix (.var 2) (.neg (.int 1)))),
    .ret (.var 2)]⟩
def f_count_row : Fn := ⟨["row"], 1, [
    .ret (.ife (.cmp .eq (.bin false .mod (.blt .sum false [.var 0]) (.int 2)) (.int 1)) (.call 8 true [.call 6 false [.var 0], .blt .len false [.var 0]]) (.int 0))]⟩
def f_openings : Fn := ⟨["ring", "k"], 1, [
    .ret (.lc true [1] (.nm 1) (.rng1 (.blt .len false [.var 0])) [.cmp .eq (.ix (.var 0) (.var 1)) (.int 1)] (.tup [.var 1, .call 79 false [.var 0, .var 1]]))]⟩
def f_ring_left : Fn := ⟨["ring", "some", "k", "row", "one"], 1, [
    .ex (.call 78 false [.var 0]),
    .asg (.nm 1) (.lc false [2, 3] (.tup [.nm 2, .nm 3]) (.seq (.call 81 false [.var 0])) [] (.call 17 false [.blt .tuple false [.var 3]])),
    .ife (.cmp .eq (.var 1) (.lst false [])) [.ret (.tup [.blt .len false [.var 0], .blt .len false [.var 0]])] [],
    .ret (.tup [.blt .min false [.lc false [4] (.nm 4) (.seq (.var 1)) [] (.ix (.var 4) (.int 0))], .blt .max false [.lc false [4] (.nm 4) (.seq (.var 1)) [] (.ix (.var 4) (.int 1))]])]⟩
def f_ring_worth : Fn := ⟨["ring", "told", "found", "k", "row"], 1, [
    .ex (.call 78 false [.var 0]),
    .par [1, 2] [.lc false [3, 4] (.tup [.nm 3, .nm 4]) (.seq (.call 81 false [.var 0])) [] (.call 18 false [.blt .tuple false [.var 4]]), .int 0],
    .wh (.cmp .isin (.var 2) (.var 1)) [.aug 2 .add (.int 1)],
    .ret (.var 2)]⟩
def f_chances_in : Fn := ⟨["ring", "some", "one", "clear", "mean", "k", "row"], 1, [
    .asg (.nm 1) (.lc false [5, 6] (.tup [.nm 5, .nm 6]) (.seq (.call 81 false [.var 0])) [] (.call 19 false [.blt .tuple false [.var 6]])),
    .ife (.cmp .eq (.var 1) (.lst false [])) [.ret (.tup [.tup [.int 0, .int 1], .tup [.blt .len false [.var 0], .int 1]])] [],
    .asg (.tup [.nm 3, .nm 4]) (.tup [.tup [.int 0, .int 1], .tup [.int 0, .int 1]]),
    .for_ (.nm 2) (.seq (.var 1)) [.par [3, 4] [.call 3 false [.var 3, .ix (.var 2) (.int 0)], .call 3 false [.var 4, .ix (.var 2) (.int 1)]]],
    .ret (.tup [.call 4 false [.var 3, .tup [.int 1, .blt .len false [.var 1]]], .call 4 false [.var 4, .tup [.int 1, .blt .len false [.var 1]]]])]⟩
def f_ring_chance : Fn := ⟨["ring"], 1, [
    .ex (.call 78 false [.var 0]),
    .ret (.ix (.call 84 false [.var 0]) (.int 0))]⟩
def f_ring_mean_left : Fn := ⟨["ring"], 1, [
    .ex (.call 78 false [.var 0]),
    .ret (.ix (.call 84 false [.var 0]) (.int 1))]⟩
def f_row_place : Fn := ⟨["ring", "first", "place"], 3, [
    .ret (.bin true .mod (.bin false .sub (.bin false .sub (.var 2) (.var 1)) (.int 1)) (.blt .len false [.var 0]))]⟩
def f_ring_place : Fn := ⟨["ring", "first", "place"], 3, [
    .ret (.bin true .mod (.bin false .add (.bin false .add (.var 2) (.var 1)) (.int 1)) (.blt .len false [.var 0]))]⟩
def f_takes_of : Fn := ⟨["ring", "first", "parts", "k", "there", "ways"], 3, [
    .ret (.blt .sorted true [.lc false [3, 4, 5] (.tup [.nm 3, .nm 4, .nm 5]) (.seq (.call 12 false [.var 2])) [] (.tup [.call 88 false [.var 0, .var 1, .var 3], .var 4, .var 5])])]⟩
def f_is_clearing : Fn := ⟨["ring", "order", "row", "rest", "k"], 2, [
    .asg (.nm 2) (.call 79 false [.var 0, .ix (.var 1) (.int 0)]),
    .asg (.nm 3) (.blt .tuple false [.lc false [4] (.nm 4) (.seq (.sl false (.var 1) (some (.int 1)) none)) [] (.call 87 false [.var 0, .ix (.var 1) (.int 0), .var 4])]),
    .ret (.and (.cmp .eq (.ix (.var 0) (.ix (.var 1) (.int 0))) (.int 1)) (.and (.cmp .eq (.bin false .mod (.blt .sum false [.var 2]) (.int 2)) (.int 1)) (.cmp .eq (.call 14 false [.var 3]) (.call 6 false [.var 2]))))]⟩
def f_ring_number : Fn := ⟨["ring", "order", "found", "parts", "place", "k", "there", "ways", "behind", "row"], 2, [
    .ex (.call 78 false [.var 0]),
    .ife (.nt (.call 13 false [.var 0, .var 1])) [.dead] [],
    .ife (.nt (.call 90 false [.var 0, .var 1])) [.ret (.non)] [],
    .asg (.nm 2) (.blt .sum true [.lc false [5, 9] (.tup [.nm 5, .nm 9]) (.seq (.call 81 false [.var 0])) [.cmp .lt (.var 5) (.ix (.var 1) (.int 0))] (.call 80 false [.var 9])]),
    .asg (.nm 3) (.lst false [.tup [.int 0, .call 79 false [.var 0, .ix (.var 1) (.int 0)]]]),
    .for_ (.nm 4) (.seq (.sl false (.var 1) (some (.int 1)) none)) [.for_ (.tup [.nm 5, .nm 6, .nm 7]) (.seq (.call 89 false [.var 0, .ix (.var 1) (.int 0), .var 3])) [.ife (.cmp .lt (.var 5) (.var 4)) [.aug 2 .add (.var 7)] [], .ife (.cmp .eq (.var 5) (.var 4)) [.asg (.nm 8) (.var 6)] []], .asg (.nm 3) (.var 8)],
    .ret (.var 2)]⟩
def f_ring_at : Fn := ⟨["ring", "index", "some", "turn", "left", "at", "first", "found", "parts", "k", "there", "ways", "row"], 2, [
    .ex (.call 78 false [.var 0]),
    .asg (.nm 2) (.lc false [9, 12] (.tup [.nm 9, .nm 12]) (.seq (.call 81 false [.var 0])) [] (.tup [.var 9, .var 12, .call 80 false [.var 12]])),
    .ife (.nt (.call 0 false [.var 1, .int 0, .bin false .sub (.blt .sum false [.lc false [9, 12, 11] (.tup [.nm 9, .nm 12, .nm 11]) (.seq (.var 2)) [] (.var 11)]) (.int 1)])) [.dead] [],
    .par [4, 5] [.var 1, .int 0],
    .wh (.cmp .ge (.var 4) (.ix (.ix (.var 2) (.var 5)) (.int 2))) [.par [4, 5] [.bin false .sub (.var 4) (.ix (.ix (.var 2) (.var 5)) (.int 2)), .bin false .add (.var 5) (.int 1)]],
    .par [6, 7, 8] [.ix (.ix (.var 2) (.var 5)) (.int 0), .lst true [.ix (.ix (.var 2) (.var 5)) (.int 0)], .lst false [.tup [.int 0, .ix (.ix (.var 2) (.var 5)) (.int 1)]]],
    .for_ (.nm 3) (.rng1 (.bin false .sub (.blt .len false [.var 0]) (.int 1))) [.for_ (.tup [.nm 9, .nm 10, .nm 11]) (.seq (.call 89 false [.var 0, .var 6, .var 8])) [.ife (.cmp .lt (.var 4) (.var 11)) [.ex (.mth .append false (.var 7) [.var 9]), .asg (.nm 8) (.var 10), .brk] [], .aug 4 .sub (.var 11)]],
    .ret (.blt .tuple true [.var 7])]⟩
def f__law_alike : Fn := ⟨["_law_found", "_law_due", "_law_k"], 2, [
    .ife (.isi (.var 1) false [.tuple, .list]) [.ife (.or (.nt (.isi (.var 0) false [.tuple, .list])) (.cmp .ne (.isi (.var 0) true [.list]) (.isi (.var 1) true [.list]))) [.ret (.bl false)] [], .ife (.cmp .ne (.blt .len false [.var 0]) (.blt .len false [.var 1])) [.ret (.bl false)] [], .ret (.cmp .eq (.lc false [2] (.nm 2) (.rng1 (.blt .len false [.var 1])) [.nt (.call 93 false [.ix (.var 0) (.var 2), .ix (.var 1) (.var 2)])] (.var 2)) (.lst false []))] [],
    .ife (.or (.cmp .is (.var 1) (.non)) (.isi (.var 1) true [.str])) [.ret (.and (.cmp .eq (.var 0) (.var 1)) (.cmp .eq (.isi (.var 0) true [.str]) (.isi (.var 1) true [.str])))] [],
    .ret (.and (.isi (.var 0) true [.int]) (.and (.cmp .eq (.isi (.var 0) true [.bool]) (.isi (.var 1) true [.bool])) (.cmp .eq (.var 0) (.var 1))))]⟩
def f_law : Fn := ⟨["_law_script", "_law_row", "_law_found", "_law_due", "_law_web", "_law_up"], 1, [
    .asg (.nm 1) (.lst false [.var 0, .int 0, .int 8972, .int 0]),
    .asg (.tup [.nm 4, .nm 5]) (.tup [.tup [.int 3, .tup [.tup [.int 0, .int 1], .tup [.int 1, .int 2]]], .tup [.int 1, .int 1, .int 1]]),
    .asg (.nm 2) (.lst false [.call 20 false [.var 5], .call 20 false [.tup [.int 0, .int 1, .int 1, .int 0]], .call 21 false [.var 5], .call 22 false [.var 5], .call 23 false [.var 5]]),
    .asg (.nm 2) (.bin false .add (.var 2) (.lst false [.call 24 false [.var 5], .call 21 false [.tup [.int 1, .int 1, .int 0]], .call 20 false [.tup [.int 0, .int 0]]])),
    .ife (.nt (.call 93 false [.var 2, .lst false [.tup [.int 0, .int 2], .tup [.int 2, .int 2], .int 1, .tup [.int 0, .int 1, .int 2], .tup [.int 2, .int 3], .tup [.int 2, .int 3], .int 2, .tup [.int 2, .int 2]]])) [.ret (.bl false)] [],
    .asg (.nm 2) (.lst false [.call 50 false [.int 3], .call 51 false [.int 4], .call 52 false [.tup [.int 1, .int 0, .int 0]], .call 53 false [.var 5, .int 1]]),
    .asg (.nm 2) (.bin false .add (.var 2) (.lst false [.call 53 false [.tup [.int 0, .int 1], .int 1], .call 55 false [.var 5, .int 0], .call 55 false [.tup [.int 1, .int 1], .int 0]])),
    .ife (.nt (.call 93 false [.var 2, .lst false [.tup [.int 1, .int 4, .int 1], .tup [.int 1, .int 3, .int 3, .int 1], .tup [.int 0, .int 0, .int 1], .tup [.tup [.int 0], .tup [.int 0]], .tup [.tup [.int 1], .tup []], .tup [.tup [.int 1, .int 2], .tup [.int 1, .int 2], .tup [.int 0, .int 1]], .non]])) [.ret (.bl false)] [],
    .asg (.nm 2) (.lst false [.call 82 false [.tup [.int 1, .int 1, .int 0]], .call 82 false [.tup [.int 1, .int 1, .int 1]], .call 83 false [.tup [.int 1, .int 1, .int 0]], .call 85 false [.tup [.int 1, .int 1, .int 0]]]),
    .asg (.nm 2) (.bin false .add (.var 2) (.lst false [.call 86 false [.tup [.int 1, .int 1, .int 1]], .call 91 false [.tup [.int 1, .int 1, .int 0], .tup [.int 1, .int 2, .int 0]]])),
    .ife (.nt (.call 93 false [.bin false .add (.var 2) (.lst false [.call 92 false [.tup [.int 1, .int 1, .int 0], .int 0]]), .lst false [.tup [.int 0, .int 0], .tup [.int 2, .int 2], .int 1, .tup [.int 1, .int 1], .tup [.int 2, .int 1], .int 1, .tup [.int 0, .int 2, .int 1]]])) [.ret (.bl false)] [],
    .asg (.nm 2) (.lst false [.call 64 false [.var 4, .var 5, .int 0, .int 2], .call 65 false [.var 4, .var 5], .call 76 false [.var 4, .var 5, .int 1, .int 0], .call 77 false [.var 4, .var 5, .int 1]]),
    .asg (.nm 2) (.bin false .add (.var 2) (.lst false [.call 77 false [.var 4, .var 5, .int 0]])),
    .asg (.nm 3) (.lst false [.tup [.tup [.neg (.int 1), .tup [.int 1, .int 2]], .tup [.int 1, .tup [.int 1, .int 2]]], .tup [.int 4, .int 3], .tup [.tup [.int 4, .tup [.tup [.int 0, .int 1], .tup [.int 1, .int 2], .tup [.int 1, .int 3]]], .tup [.int 1, .int 1, .int 1, .int 0]], .tup [.int 6, .int 2], .tup [.int 3, .int 5]]),
    .ife (.nt (.call 93 false [.var 2, .var 3])) [.ret (.bl false)] [],
    .asg (.nm 2) (.lst false [.call 40 false [.var 4], .call 42 false [.var 4], .call 43 false [.var 4], .call 44 false [.int 4], .call 48 false [.int 3]]),
    .ret (.call 93 true [.var 2, .lst false [.tup [.tup [.int 0, .int 4], .tup [.int 1, .int 2], .tup [.int 2, .int 2]], .tup [.int 2, .tup [.int 0, .int 1, .int 0]], .tup [.int 0, .int 3, .int 0, .int 1], .int 16, .int 2]])]⟩
def f_Parts__coins : Fn := ⟨["self", "begin", "end", "marks", "found"], 4, [
    .asg (.nm 4) (.blt .list true [.sl false (.fld 0 "row" (.var 0)) (some (.var 1)) (some (.var 2))]),
    .ife (.cmp .eq (.ix (.var 3) (.int 0)) (.int 1)) [.asg (.sub (.var 4) (.int 0)) (.bin false .sub (.int 1) (.ix (.var 4) (.int 0)))] [],
    .ife (.cmp .eq (.ix (.var 3) (.int 1)) (.int 1)) [.asg (.sub (.var 4) (.neg (.int 1))) (.bin false .sub (.int 1) (.ix (.var 4) (.neg (.int 1))))] [],
    .ret (.var 4)]⟩
def f_Parts__takes : Fn := ⟨["self", "begin", "end", "marks", "found", "at", "coin", "k", "left", "right", "part"], 4, [
    .asg (.nm 4) (.lst true []),
    .for_ (.tup [.nm 5, .nm 6]) (.enum (.cm 0 "coins" 95 false (.var 0) [.var 1, .var 2, .var 3])) [.ife (.cmp .eq (.var 6) (.int 1)) [.asg (.nm 7) (.bin false .add (.var 1) (.var 5)), .par [8, 9] [.tup [.var 1, .var 7, .tup [.ix (.var 3) (.int 0), .int 1]], .tup [.bin false .add (.var 7) (.int 1), .var 2, .tup [.int 1, .ix (.var 3) (.int 1)]]], .ex (.mth .append false (.var 4) [.tup [.var 7, .lc false [10] (.nm 10) (.seq (.tup [.var 8, .var 9])) [.cmp .lt (.ix (.var 10) (.int 0)) (.ix (.var 10) (.int 1))] (.var 10)]])] []],
    .ret (.var 4)]⟩
def f_Parts__left : Fn := ⟨["self", "part", "some", "size", "k", "parts", "told", "one"], 2, [
    .ife (.cmp .notin (.var 1) (.fld 0 "known" (.var 0))) [.asg (.nm 2) (.lst true []), .for_ (.tup [.nm 4, .nm 5]) (.seq (.cm 0 "takes" 96 false (.var 0) [.ix (.var 1) (.int 0), .ix (.var 1) (.int 1), .ix (.var 1) (.int 2)])) [.asg (.nm 6) (.lc false [7] (.nm 7) (.seq (.var 5)) [] (.cm 0 "left" 97 false (.var 0) [.var 7])), .ex (.mth .append false (.var 2) [.tup [.blt .sum false [.lc false [7] (.nm 7) (.seq (.var 6)) [] (.ix (.var 7) (.int 0))], .blt .sum false [.lc false [7] (.nm 7) (.seq (.var 6)) [] (.ix (.var 7) (.int 1))]]])], .asg (.nm 3) (.bin false .sub (.ix (.var 1) (.int 1)) (.ix (.var 1) (.int 0))), .ife (.cmp .eq (.var 2) (.lst false [])) [.asg (.sub (.fld 0 "known" (.var 0)) (.var 1)) (.tup [.var 3, .var 3])] [.asg (.sub (.fld 0 "known" (.var 0)) (.var 1)) (.tup [.blt .min false [.lc false [7] (.nm 7) (.seq (.var 2)) [] (.ix (.var 7) (.int 0))], .blt .max false [.lc false [7] (.nm 7) (.seq (.var 2)) [] (.ix (.var 7) (.int 1))]])]] [],
    .ret (.ix (.fld 0 "known" (.var 0)) (.var 1))]⟩
def f_Parts__worth : Fn := ⟨["self", "part", "told", "found", "k", "parts", "one"], 2, [
    .ife (.cmp .notin (.var 1) (.fld 0 "known" (.var 0))) [.asg (.nm 2) (.lst true []), .for_ (.tup [.nm 4, .nm 5]) (.seq (.cm 0 "takes" 96 false (.var 0) [.ix (.var 1) (.int 0), .ix (.var 1) (.int 1), .ix (.var 1) (.int 2)])) [.ex (.mth .append false (.var 2) [.call 15 false [.lc false [6] (.nm 6) (.seq (.var 5)) [] (.cm 0 "worth" 98 false (.var 0) [.var 6])]])], .asg (.nm 3) (.int 0), .wh (.cmp .isin (.var 3) (.var 2)) [.aug 3 .add (.int 1)], .asg (.sub (.fld 0 "known" (.var 0)) (.var 1)) (.var 3)] [],
    .ret (.ix (.fld 0 "known" (.var 0)) (.var 1))]⟩
def f_Parts__chance : Fn := ⟨["self", "part", "some", "clear", "mean", "k", "parts", "one", "both", "rest", "told"], 2, [
    .ife (.cmp .notin (.var 1) (.fld 0 "known" (.var 0))) [.asg (.nm 2) (.cm 0 "takes" 96 false (.var 0) [.ix (.var 1) (.int 0), .ix (.var 1) (.int 1), .ix (.var 1) (.int 2)]), .ife (.cmp .eq (.var 2) (.lst false [])) [.asg (.sub (.fld 0 "known" (.var 0)) (.var 1)) (.tup [.tup [.int 0, .int 1], .tup [.bin false .sub (.ix (.var 1) (.int 1)) (.ix (.var 1) (.int 0)), .int 1]])] [.asg (.tup [.nm 3, .nm 4]) (.tup [.tup [.int 0, .int 1], .tup [.int 0, .int 1]]), .for_ (.tup [.nm 5, .nm 6]) (.seq (.var 2)) [.asg (.tup [.nm 8, .nm 9]) (.tup [.tup [.int 1, .int 1], .tup [.int 0, .int 1]]), .for_ (.nm 7) (.seq (.var 6)) [.asg (.nm 10) (.cm 0 "chance" 99 false (.var 0) [.var 7]), .par [8, 9] [.call 4 false [.var 8, .ix (.var 10) (.int 0)], .call 3 false [.var 9, .ix (.var 10) (.int 1)]]], .par [3, 4] [.call 3 false [.var 3, .call 4 false [.var 8, .tup [.int 1, .blt .len false [.var 2]]]], .call 3 false [.var 4, .call 4 false [.var 9, .tup [.int 1, .blt .len false [.var 2]]]]]], .asg (.sub (.fld 0 "known" (.var 0)) (.var 1)) (.tup [.var 3, .var 4])]] [],
    .ret (.ix (.fld 0 "known" (.var 0)) (.var 1))]⟩
def tab : Nat → Option Fn
  | 0 => some f_is_in
  | 1 => some f_gcd
  | 2 => some f_reduced
  | 3 => some f_plus
  | 4 => some f_times
  | 5 => some f_need_row
  | 6 => some f_falls_in
  | 7 => some f_next_counts
  | 8 => some f_count_of
  | 9 => some f_parts_behind
  | 10 => some f_chosen
  | 11 => some f_count_parts
  | 12 => some f_choices
  | 13 => some f_is_row_order
  | 14 => some f_order_falls
  | 15 => some f_without_carry
  | 16 => some f_whole
  | 17 => some f_left_in
  | 18 => some f_worth_in
  | 19 => some f_chance_in
  | 20 => some f_row_left
  | 21 => some f_row_worth
  | 22 => some f_row_wins
  | 23 => some f_row_chance
  | 24 => some f_row_mean_left
  | 25 => some f_is_edge
  | 26 => some f_need_web
  | 27 => some f_need_place
  | 28 => some f_need_laying
  | 29 => some f_need_full
  | 30 => some f_need_both
  | 31 => some f_neighbours_in
  | 32 => some f_part_in
  | 33 => some f_parts_in
  | 34 => some f_is_forest_in
  | 35 => some f_heads_in
  | 36 => some f_taken_in
  | 37 => some f_count_in
  | 38 => some f_full_layings
  | 39 => some f_counts_in
  | 40 => some f_layings_by_count
  | 41 => some f_most_in
  | 42 => some f_most_orders
  | 43 => some f_heads_by_count
  | 44 => some f_tree_count
  | 45 => some f_tree_edges
  | 46 => some f_all_trees
  | 47 => some f_shape_of
  | 48 => some f_tree_orders
  | 49 => some f_need_many
  | 50 => some f_orders_by_falls
  | 51 => some f_rows_by_falls
  | 52 => some f_row_mirrored
  | 53 => some f_row_turned
  | 54 => some f_step
  | 55 => some f_row_times
  | 56 => some f_behind_in
  | 57 => some f_ready_in
  | 58 => some f_more
  | 59 => some f_on_in
  | 60 => some f_need_few
  | 61 => some f_later_counts
  | 62 => some f_counts_in__94
  | 63 => some f_gaps_in
  | 64 => some f_gap_chances
  | 65 => some f_mean_gap
  | 66 => some f_need_forest
  | 67 => some f_side_of
  | 68 => some f_heads_of
  | 69 => some f_is_clear
  | 70 => some f_way_for
  | 71 => some f_chosen__105
  | 72 => some f_joined
  | 73 => some f_branch
  | 74 => some f_count_by_way
  | 75 => some f_leafed_in
  | 76 => some f_leafed
  | 77 => some f_leaf_pair
  | 78 => some f_need_ring
  | 79 => some f_opened_in
  | 80 => some f_count_row
  | 81 => some f_openings
  | 82 => some f_ring_left
  | 83 => some f_ring_worth
  | 84 => some f_chances_in
  | 85 => some f_ring_chance
  | 86 => some f_ring_mean_left
  | 87 => some f_row_place
  | 88 => some f_ring_place
  | 89 => some f_takes_of
  | 90 => some f_is_clearing
  | 91 => some f_ring_number
  | 92 => some f_ring_at
  | 93 => some f__law_alike
  | 94 => some f_law
  | 95 => some f_Parts__coins
  | 96 => some f_Parts__takes
  | 97 => some f_Parts__left
  | 98 => some f_Parts__worth
  | 99 => some f_Parts__chance
  | _ => none
def lawId : Nat := 94
/-! ## the head -/
def mksT : List (Str × Nat × List (Str × Ini) × Nat) := [("Parts", 0, [("row", .arg 0), ("known", .dT)], 2)]
def cmsT : List ((Nat × Str) × Nat × Nat) := [((0, "coins"), 95, 4), ((0, "takes"), 96, 4), ((0, "left"), 97, 2), ((0, "worth"), 98, 2), ((0, "chance"), 99, 2)]
def flsT : List (Nat × Str) := [(0, "row"), (0, "known")]
def inmT : Nat → List Str
  | 0 => ["self", "row"]
  | _ => []
def irowT (c : Nat) : Row := ⟨(clsT c, some "__init__"), "__init__", clsT c ++ ".__init__", defArgs (istT c), defBody (istT c), defScope (istT c)⟩
def fnsT : List (Str × Nat × Nat) := [(("is_in" : Str), 0, 3), (("gcd" : Str), 1, 2), (("reduced" : Str), 2, 2), (("plus" : Str), 3, 2), (("times" : Str), 4, 2), (("need_row" : Str), 5, 1), (("falls_in" : Str), 6, 1), (("next_counts" : Str), 7, 2), (("count_of" : Str), 8, 2), (("parts_behind" : Str), 9, 2), (("chosen_rows" : Str), 10, 2), (("count_parts" : Str), 11, 1), (("choices" : Str), 12, 1), (("is_row_order" : Str), 13, 2), (("order_falls" : Str), 14, 1), (("without_carry" : Str), 15, 1), (("whole" : Str), 16, 1), (("left_in" : Str), 17, 1), (("worth_in" : Str), 18, 1), (("chance_in" : Str), 19, 1), (("row_left" : Str), 20, 1), (("row_worth" : Str), 21, 1), (("row_wins" : Str), 22, 1), (("row_chance" : Str), 23, 1), (("row_mean_left" : Str), 24, 1), (("is_edge" : Str), 25, 2), (("need_web" : Str), 26, 1), (("need_place" : Str), 27, 2), (("need_laying" : Str), 28, 2), (("need_full" : Str), 29, 2), (("need_both" : Str), 30, 2), (("neighbours_in" : Str), 31, 2), (("part_in" : Str), 32, 2), (("parts_in" : Str), 33, 1), (("is_forest_in" : Str), 34, 1), (("heads_in" : Str), 35, 1), (("taken_in" : Str), 36, 3), (("count_in" : Str), 37, 3), (("full_layings" : Str), 38, 1), (("counts_in_counting" : Str), 39, 1), (("layings_by_count" : Str), 40, 1), (("most_in" : Str), 41, 1), (("most_orders" : Str), 42, 1), (("heads_by_count" : Str), 43, 1), (("tree_count" : Str), 44, 1), (("tree_edges" : Str), 45, 2), (("all_trees" : Str), 46, 1), (("shape_of" : Str), 47, 1), (("tree_orders" : Str), 48, 1), (("need_many" : Str), 49, 1), (("orders_by_falls" : Str), 50, 1), (("rows_by_falls" : Str), 51, 1), (("row_mirrored" : Str), 52, 1), (("row_turned" : Str), 53, 2), (("step" : Str), 54, 3), (("row_times" : Str), 55, 2), (("behind_in" : Str), 56, 3), (("ready_in" : Str), 57, 3), (("more" : Str), 58, 2), (("on_in" : Str), 59, 4), (("need_few" : Str), 60, 1), (("later_counts" : Str), 61, 5), (("counts_in_gaps" : Str), 62, 4), (("gaps_in" : Str), 63, 4), (("gap_chances" : Str), 64, 4), (("mean_gap" : Str), 65, 2), (("need_forest" : Str), 66, 1), (("side_of" : Str), 67, 3), (("heads_of" : Str), 68, 2), (("is_clear" : Str), 69, 2), (("way_for" : Str), 70, 2), (("chosen_forests" : Str), 71, 2), (("joined" : Str), 72, 3), (("branch" : Str), 73, 4), (("count_by_way" : Str), 74, 2), (("leafed_in" : Str), 75, 4), (("leafed" : Str), 76, 4), (("leaf_pair" : Str), 77, 3), (("need_ring" : Str), 78, 1), (("opened_in" : Str), 79, 2), (("count_row" : Str), 80, 1), (("openings" : Str), 81, 1), (("ring_left" : Str), 82, 1), (("ring_worth" : Str), 83, 1), (("chances_in" : Str), 84, 1), (("ring_chance" : Str), 85, 1), (("ring_mean_left" : Str), 86, 1), (("row_place" : Str), 87, 3), (("ring_place" : Str), 88, 3), (("takes_of" : Str), 89, 3), (("is_clearing" : Str), 90, 2), (("ring_number" : Str), 91, 2), (("ring_at" : Str), 92, 2), (("_law_alike" : Str), 93, 2), (("law" : Str), 94, 1)]
def fxsT : List (Str × Nat × Nat) := []
def excT : List (Str × Nat) := []
def exhT : List (Str × Nat) := []
def cstT : List (Str × Int) := [(("MOST_ROW" : Str), 40), (("MOST_PLACES" : Str), 9), (("MOST_TREES" : Str), 6), (("MOST_TIMED" : Str), 12), (("MOST_GAPPED" : Str), 7), (("LEAST_RING" : Str), 3), (("MOST_RING" : Str), 20)]
def bltT : List Str := [("len" : Str), ("tuple" : Str), ("list" : Str), ("sorted" : Str), ("min" : Str), ("max" : Str), ("sum" : Str), ("abs" : Str), ("int" : Str), ("range" : Str), ("enumerate" : Str), ("zip" : Str), ("isinstance" : Str), ("bool" : Str), ("str" : Str), ("dict" : Str), ("set" : Str)]
def rowOf (f : Nat) : Row := ⟨gloT f, nmT f, quaT f, defArgs (stT f), defBody (stT f), defScope (stT f)⟩
def TT : TabT := ⟨tab, rowOf, fnsT, cstT, bltT, clsT, mksT, cmsT, flsT, irowT, inmT, fxsT, excT, exhT⟩
theorem fa_eq : faOf TT = faL := by kernel_rfl
theorem fn_eq : (List.range 100).map (dfOfT TT) ++ inisT TT = fnL := by kernel_rfl
theorem rows_ok : ∀ f fn, tab f = some fn → rowB TT f fn = true := by
  have all : (List.range 100).all (fun f => match tab f with | some fn => rowB TT f fn | none => true) = true := by kernel_rfl
  intro f fn e
  by_cases hf : f < 100
  · have := List.all_eq_true.mp all f (List.mem_range.mpr hf)
    rw [e] at this
    exact this
  · exfalso
    have : tab f = none := by
      match f, hf with
      | 0, h => exact absurd (by decide) h
      | 1, h => exact absurd (by decide) h
      | 2, h => exact absurd (by decide) h
      | 3, h => exact absurd (by decide) h
      | 4, h => exact absurd (by decide) h
      | 5, h => exact absurd (by decide) h
      | 6, h => exact absurd (by decide) h
      | 7, h => exact absurd (by decide) h
      | 8, h => exact absurd (by decide) h
      | 9, h => exact absurd (by decide) h
      | 10, h => exact absurd (by decide) h
      | 11, h => exact absurd (by decide) h
      | 12, h => exact absurd (by decide) h
      | 13, h => exact absurd (by decide) h
      | 14, h => exact absurd (by decide) h
      | 15, h => exact absurd (by decide) h
      | 16, h => exact absurd (by decide) h
      | 17, h => exact absurd (by decide) h
      | 18, h => exact absurd (by decide) h
      | 19, h => exact absurd (by decide) h
      | 20, h => exact absurd (by decide) h
      | 21, h => exact absurd (by decide) h
      | 22, h => exact absurd (by decide) h
      | 23, h => exact absurd (by decide) h
      | 24, h => exact absurd (by decide) h
      | 25, h => exact absurd (by decide) h
      | 26, h => exact absurd (by decide) h
      | 27, h => exact absurd (by decide) h
      | 28, h => exact absurd (by decide) h
      | 29, h => exact absurd (by decide) h
      | 30, h => exact absurd (by decide) h
      | 31, h => exact absurd (by decide) h
      | 32, h => exact absurd (by decide) h
      | 33, h => exact absurd (by decide) h
      | 34, h => exact absurd (by decide) h
      | 35, h => exact absurd (by decide) h
      | 36, h => exact absurd (by decide) h
      | 37, h => exact absurd (by decide) h
      | 38, h => exact absurd (by decide) h
      | 39, h => exact absurd (by decide) h
      | 40, h => exact absurd (by decide) h
      | 41, h => exact absurd (by decide) h
      | 42, h => exact absurd (by decide) h
      | 43, h => exact absurd (by decide) h
      | 44, h => exact absurd (by decide) h
      | 45, h => exact absurd (by decide) h
      | 46, h => exact absurd (by decide) h
      | 47, h => exact absurd (by decide) h
      | 48, h => exact absurd (by decide) h
      | 49, h => exact absurd (by decide) h
      | 50, h => exact absurd (by decide) h
      | 51, h => exact absurd (by decide) h
      | 52, h => exact absurd (by decide) h
      | 53, h => exact absurd (by decide) h
      | 54, h => exact absurd (by decide) h
      | 55, h => exact absurd (by decide) h
      | 56, h => exact absurd (by decide) h
      | 57, h => exact absurd (by decide) h
      | 58, h => exact absurd (by decide) h
      | 59, h => exact absurd (by decide) h
      | 60, h => exact absurd (by decide) h
      | 61, h => exact absurd (by decide) h
      | 62, h => exact absurd (by decide) h
      | 63, h => exact absurd (by decide) h
      | 64, h => exact absurd (by decide) h
      | 65, h => exact absurd (by decide) h
      | 66, h => exact absurd (by decide) h
      | 67, h => exact absurd (by decide) h
      | 68, h => exact absurd (by decide) h
      | 69, h => exact absurd (by decide) h
      | 70, h => exact absurd (by decide) h
      | 71, h => exact absurd (by decide) h
      | 72, h => exact absurd (by decide) h
      | 73, h => exact absurd (by decide) h
      | 74, h => exact absurd (by decide) h
      | 75, h => exact absurd (by decide) h
      | 76, h => exact absurd (by decide) h
      | 77, h => exact absurd (by decide) h
      | 78, h => exact absurd (by decide) h
      | 79, h => exact absurd (by decide) h
      | 80, h => exact absurd (by decide) h
      | 81, h => exact absurd (by decide) h
      | 82, h => exact absurd (by decide) h
      | 83, h => exact absurd (by decide) h
      | 84, h => exact absurd (by decide) h
      | 85, h => exact absurd (by decide) h
      | 86, h => exact absurd (by decide) h
      | 87, h => exact absurd (by decide) h
      | 88, h => exact absurd (by decide) h
      | 89, h => exact absurd (by decide) h
      | 90, h => exact absurd (by decide) h
      | 91, h => exact absurd (by decide) h
      | 92, h => exact absurd (by decide) h
      | 93, h => exact absurd (by decide) h
      | 94, h => exact absurd (by decide) h
      | 95, h => exact absurd (by decide) h
      | 96, h => exact absurd (by decide) h
      | 97, h => exact absurd (by decide) h
      | 98, h => exact absurd (by decide) h
      | 99, h => exact absurd (by decide) h
      | f + 100, _ => rfl
    rw [this] at e; cases e
theorem tab_lt : ∀ f fn, tab f = some fn → f < 100 := by
  intro f fn e
  by_cases hf : f < 100
  · exact hf
  · exfalso
    have : tab f = none := by
      match f, hf with
      | 0, h => exact absurd (by decide) h
      | 1, h => exact absurd (by decide) h
      | 2, h => exact absurd (by decide) h
      | 3, h => exact absurd (by decide) h
      | 4, h => exact absurd (by decide) h
      | 5, h => exact absurd (by decide) h
      | 6, h => exact absurd (by decide) h
      | 7, h => exact absurd (by decide) h
      | 8, h => exact absurd (by decide) h
      | 9, h => exact absurd (by decide) h
      | 10, h => exact absurd (by decide) h
      | 11, h => exact absurd (by decide) h
      | 12, h => exact absurd (by decide) h
      | 13, h => exact absurd (by decide) h
      | 14, h => exact absurd (by decide) h
      | 15, h => exact absurd (by decide) h
      | 16, h => exact absurd (by decide) h
      | 17, h => exact absurd (by decide) h
      | 18, h => exact absurd (by decide) h
      | 19, h => exact absurd (by decide) h
      | 20, h => exact absurd (by decide) h
      | 21, h => exact absurd (by decide) h
      | 22, h => exact absurd (by decide) h
      | 23, h => exact absurd (by decide) h
      | 24, h => exact absurd (by decide) h
      | 25, h => exact absurd (by decide) h
      | 26, h => exact absurd (by decide) h
      | 27, h => exact absurd (by decide) h
      | 28, h => exact absurd (by decide) h
      | 29, h => exact absurd (by decide) h
      | 30, h => exact absurd (by decide) h
      | 31, h => exact absurd (by decide) h
      | 32, h => exact absurd (by decide) h
      | 33, h => exact absurd (by decide) h
      | 34, h => exact absurd (by decide) h
      | 35, h => exact absurd (by decide) h
      | 36, h => exact absurd (by decide) h
      | 37, h => exact absurd (by decide) h
      | 38, h => exact absurd (by decide) h
      | 39, h => exact absurd (by decide) h
      | 40, h => exact absurd (by decide) h
      | 41, h => exact absurd (by decide) h
      | 42, h => exact absurd (by decide) h
      | 43, h => exact absurd (by decide) h
      | 44, h => exact absurd (by decide) h
      | 45, h => exact absurd (by decide) h
      | 46, h => exact absurd (by decide) h
      | 47, h => exact absurd (by decide) h
      | 48, h => exact absurd (by decide) h
      | 49, h => exact absurd (by decide) h
      | 50, h => exact absurd (by decide) h
      | 51, h => exact absurd (by decide) h
      | 52, h => exact absurd (by decide) h
      | 53, h => exact absurd (by decide) h
      | 54, h => exact absurd (by decide) h
      | 55, h => exact absurd (by decide) h
      | 56, h => exact absurd (by decide) h
      | 57, h => exact absurd (by decide) h
      | 58, h => exact absurd (by decide) h
      | 59, h => exact absurd (by decide) h
      | 60, h => exact absurd (by decide) h
      | 61, h => exact absurd (by decide) h
      | 62, h => exact absurd (by decide) h
      | 63, h => exact absurd (by decide) h
      | 64, h => exact absurd (by decide) h
      | 65, h => exact absurd (by decide) h
      | 66, h => exact absurd (by decide) h
      | 67, h => exact absurd (by decide) h
      | 68, h => exact absurd (by decide) h
      | 69, h => exact absurd (by decide) h
      | 70, h => exact absurd (by decide) h
      | 71, h => exact absurd (by decide) h
      | 72, h => exact absurd (by decide) h
      | 73, h => exact absurd (by decide) h
      | 74, h => exact absurd (by decide) h
      | 75, h => exact absurd (by decide) h
      | 76, h => exact absurd (by decide) h
      | 77, h => exact absurd (by decide) h
      | 78, h => exact absurd (by decide) h
      | 79, h => exact absurd (by decide) h
      | 80, h => exact absurd (by decide) h
      | 81, h => exact absurd (by decide) h
      | 82, h => exact absurd (by decide) h
      | 83, h => exact absurd (by decide) h
      | 84, h => exact absurd (by decide) h
      | 85, h => exact absurd (by decide) h
      | 86, h => exact absurd (by decide) h
      | 87, h => exact absurd (by decide) h
      | 88, h => exact absurd (by decide) h
      | 89, h => exact absurd (by decide) h
      | 90, h => exact absurd (by decide) h
      | 91, h => exact absurd (by decide) h
      | 92, h => exact absurd (by decide) h
      | 93, h => exact absurd (by decide) h
      | 94, h => exact absurd (by decide) h
      | 95, h => exact absurd (by decide) h
      | 96, h => exact absurd (by decide) h
      | 97, h => exact absurd (by decide) h
      | 98, h => exact absurd (by decide) h
      | 99, h => exact absurd (by decide) h
      | f + 100, _ => rfl
    rw [this] at e; cases e
theorem binds_ok : ∀ f fn, tab f = some fn → ∀ (kV doc pm : Value) (an : Option Addr) (cdv ct : Value) (us : List Value), us.length = (psOf fn).length → bindArgs (PySem.W.fnOf (rowOf f).name (rowOf f).qual (rowOf f).args (rowOf f).body (rowOf f).scope .none kV doc pm an cdv ct) ⟨us, []⟩ = pure ((psOf fn).zip us) := by
  intro f fn e
  match f, e with
  | 0, e =>
    cases e
    intro kV doc pm an cdv ct us hl
    have hl : us.length = 3 := hl
    match us, hl with
    | [_, _, _], _ => rfl
  | 1, e =>
    cases e
    intro kV doc pm an cdv ct us hl
    have hl : us.length = 2 := hl
    match us, hl with
    | [_, _], _ => rfl
  | 2, e =>
    cases e
    intro kV doc pm an cdv ct us hl
    have hl : us.length = 2 := hl
    match us, hl with
    | [_, _], _ => rfl
  | 3, e =>
    cases e
    intro kV doc pm an cdv ct us hl
    have hl : us.length = 2 := hl
    match us, hl with
    | [_, _], _ => rfl
  | 4, e =>
    cases e
    intro kV doc pm an cdv ct us hl
    have hl : us.length = 2 := hl
    match us, hl with
    | [_, _], _ => rfl
  | 5, e =>
    cases e
    intro kV doc pm an cdv ct us hl
    have hl : us.length = 1 := hl
    match us, hl with
    | [_], _ => rfl
  | 6, e =>
    cases e
    intro kV doc pm an cdv ct us hl
    have hl : us.length = 1 := hl
    match us, hl with
    | [_], _ => rfl
  | 7, e =>
    cases e
    intro kV doc pm an cdv ct us hl
    have hl : us.length = 2 := hl
    match us, hl with
    | [_, _], _ => rfl
  | 8, e =>
    cases e
    intro kV doc pm an cdv ct us hl
    have hl : us.length = 2 := hl
    match us, hl with
    | [_, _], _ => rfl
  | 9, e =>
    cases e
    intro kV doc pm an cdv ct us hl
    have hl : us.length = 2 := hl
    match us, hl with
    | [_, _], _ => rfl
  | 10, e =>
    cases e
    intro kV doc pm an cdv ct us hl
    have hl : us.length = 2 := hl
    match us, hl with
    | [_, _], _ => rfl
  | 11, e =>
    cases e
    intro kV doc pm an cdv ct us hl
    have hl : us.length = 1 := hl
    match us, hl with
    | [_], _ => rfl
  | 12, e =>
    cases e
    intro kV doc pm an cdv ct us hl
    have hl : us.length = 1 := hl
    match us, hl with
    | [_], _ => rfl
  | 13, e =>
    cases e
    intro kV doc pm an cdv ct us hl
    have hl : us.length = 2 := hl
    match us, hl with
    | [_, _], _ => rfl
  | 14, e =>
    cases e
    intro kV doc pm an cdv ct us hl
    have hl : us.length = 1 := hl
    match us, hl with
    | [_], _ => rfl
  | 15, e =>
    cases e
    intro kV doc pm an cdv ct us hl
    have hl : us.length = 1 := hl
    match us, hl with
    | [_], _ => rfl
  | 16, e =>
    cases e
    intro kV doc pm an cdv ct us hl
    have hl : us.length = 1 := hl
    match us, hl with
    | [_], _ => rfl
  | 17, e =>
    cases e
    intro kV doc pm an cdv ct us hl
    have hl : us.length = 1 := hl
    match us, hl with
    | [_], _ => rfl
  | 18, e =>
    cases e
    intro kV doc pm an cdv ct us hl
    have hl : us.length = 1 := hl
    match us, hl with
    | [_], _ => rfl
  | 19, e =>
    cases e
    intro kV doc pm an cdv ct us hl
    have hl : us.length = 1 := hl
    match us, hl with
    | [_], _ => rfl
  | 20, e =>
    cases e
    intro kV doc pm an cdv ct us hl
    have hl : us.length = 1 := hl
    match us, hl with
    | [_], _ => rfl
  | 21, e =>
    cases e
    intro kV doc pm an cdv ct us hl
    have hl : us.length = 1 := hl
    match us, hl with
    | [_], _ => rfl
  | 22, e =>
    cases e
    intro kV doc pm an cdv ct us hl
    have hl : us.length = 1 := hl
    match us, hl with
    | [_], _ => rfl
  | 23, e =>
    cases e
    intro kV doc pm an cdv ct us hl
    have hl : us.length = 1 := hl
    match us, hl with
    | [_], _ => rfl
  | 24, e =>
    cases e
    intro kV doc pm an cdv ct us hl
    have hl : us.length = 1 := hl
    match us, hl with
    | [_], _ => rfl
  | 25, e =>
    cases e
    intro kV doc pm an cdv ct us hl
    have hl : us.length = 2 := hl
    match us, hl with
    | [_, _], _ => rfl
  | 26, e =>
    cases e
    intro kV doc pm an cdv ct us hl
    have hl : us.length = 1 := hl
    match us, hl with
    | [_], _ => rfl
  | 27, e =>
    cases e
    intro kV doc pm an cdv ct us hl
    have hl : us.length = 2 := hl
    match us, hl with
    | [_, _], _ => rfl
  | 28, e =>
    cases e
    intro kV doc pm an cdv ct us hl
    have hl : us.length = 2 := hl
    match us, hl with
    | [_, _], _ => rfl
  | 29, e =>
    cases e
    intro kV doc pm an cdv ct us hl
    have hl : us.length = 2 := hl
    match us, hl with
    | [_, _], _ => rfl
  | 30, e =>
    cases e
    intro kV doc pm an cdv ct us hl
    have hl : us.length = 2 := hl
    match us, hl with
    | [_, _], _ => rfl
  | 31, e =>
    cases e
    intro kV doc pm an cdv ct us hl
    have hl : us.length = 2 := hl
    match us, hl with
    | [_, _], _ => rfl
  | 32, e =>
    cases e
    intro kV doc pm an cdv ct us hl
    have hl : us.length = 2 := hl
    match us, hl with
    | [_, _], _ => rfl
  | 33, e =>
    cases e
    intro kV doc pm an cdv ct us hl
    have hl : us.length = 1 := hl
    match us, hl with
    | [_], _ => rfl
  | 34, e =>
    cases e
    intro kV doc pm an cdv ct us hl
    have hl : us.length = 1 := hl
    match us, hl with
    | [_], _ => rfl
  | 35, e =>
    cases e
    intro kV doc pm an cdv ct us hl
    have hl : us.length = 1 := hl
    match us, hl with
    | [_], _ => rfl
  | 36, e =>
    cases e
    intro kV doc pm an cdv ct us hl
    have hl : us.length = 3 := hl
    match us, hl with
    | [_, _, _], _ => rfl
  | 37, e =>
    cases e
    intro kV doc pm an cdv ct us hl
    have hl : us.length = 3 := hl
    match us, hl with
    | [_, _, _], _ => rfl
  | 38, e =>
    cases e
    intro kV doc pm an cdv ct us hl
    have hl : us.length = 1 := hl
    match us, hl with
    | [_], _ => rfl
  | 39, e =>
    cases e
    intro kV doc pm an cdv ct us hl
    have hl : us.length = 1 := hl
    match us, hl with
    | [_], _ => rfl
  | 40, e =>
    cases e
    intro kV doc pm an cdv ct us hl
    have hl : us.length = 1 := hl
    match us, hl with
    | [_], _ => rfl
  | 41, e =>
    cases e
    intro kV doc pm an cdv ct us hl
    have hl : us.length = 1 := hl
    match us, hl with
    | [_], _ => rfl
  | 42, e =>
    cases e
    intro kV doc pm an cdv ct us hl
    have hl : us.length = 1 := hl
    match us, hl with
    | [_], _ => rfl
  | 43, e =>
    cases e
    intro kV doc pm an cdv ct us hl
    have hl : us.length = 1 := hl
    match us, hl with
    | [_], _ => rfl
  | 44, e =>
    cases e
    intro kV doc pm an cdv ct us hl
    have hl : us.length = 1 := hl
    match us, hl with
    | [_], _ => rfl
  | 45, e =>
    cases e
    intro kV doc pm an cdv ct us hl
    have hl : us.length = 2 := hl
    match us, hl with
    | [_, _], _ => rfl
  | 46, e =>
    cases e
    intro kV doc pm an cdv ct us hl
    have hl : us.length = 1 := hl
    match us, hl with
    | [_], _ => rfl
  | 47, e =>
    cases e
    intro kV doc pm an cdv ct us hl
    have hl : us.length = 1 := hl
    match us, hl with
    | [_], _ => rfl
  | 48, e =>
    cases e
    intro kV doc pm an cdv ct us hl
    have hl : us.length = 1 := hl
    match us, hl with
    | [_], _ => rfl
  | 49, e =>
    cases e
    intro kV doc pm an cdv ct us hl
    have hl : us.length = 1 := hl
    match us, hl with
    | [_], _ => rfl
  | 50, e =>
    cases e
    intro kV doc pm an cdv ct us hl
    have hl : us.length = 1 := hl
    match us, hl with
    | [_], _ => rfl
  | 51, e =>
    cases e
    intro kV doc pm an cdv ct us hl
    have hl : us.length = 1 := hl
    match us, hl with
    | [_], _ => rfl
  | 52, e =>
    cases e
    intro kV doc pm an cdv ct us hl
    have hl : us.length = 1 := hl
    match us, hl with
    | [_], _ => rfl
  | 53, e =>
    cases e
    intro kV doc pm an cdv ct us hl
    have hl : us.length = 2 := hl
    match us, hl with
    | [_, _], _ => rfl
  | 54, e =>
    cases e
    intro kV doc pm an cdv ct us hl
    have hl : us.length = 3 := hl
    match us, hl with
    | [_, _, _], _ => rfl
  | 55, e =>
    cases e
    intro kV doc pm an cdv ct us hl
    have hl : us.length = 2 := hl
    match us, hl with
    | [_, _], _ => rfl
  | 56, e =>
    cases e
    intro kV doc pm an cdv ct us hl
    have hl : us.length = 3 := hl
    match us, hl with
    | [_, _, _], _ => rfl
  | 57, e =>
    cases e
    intro kV doc pm an cdv ct us hl
    have hl : us.length = 3 := hl
    match us, hl with
    | [_, _, _], _ => rfl
  | 58, e =>
    cases e
    intro kV doc pm an cdv ct us hl
    have hl : us.length = 2 := hl
    match us, hl with
    | [_, _], _ => rfl
  | 59, e =>
    cases e
    intro kV doc pm an cdv ct us hl
    have hl : us.length = 4 := hl
    match us, hl with
    | [_, _, _, _], _ => rfl
  | 60, e =>
    cases e
    intro kV doc pm an cdv ct us hl
    have hl : us.length = 1 := hl
    match us, hl with
    | [_], _ => rfl
  | 61, e =>
    cases e
    intro kV doc pm an cdv ct us hl
    have hl : us.length = 5 := hl
    match us, hl with
    | [_, _, _, _, _], _ => rfl
  | 62, e =>
    cases e
    intro kV doc pm an cdv ct us hl
    have hl : us.length = 4 := hl
    match us, hl with
    | [_, _, _, _], _ => rfl
  | 63, e =>
    cases e
    intro kV doc pm an cdv ct us hl
    have hl : us.length = 4 := hl
    match us, hl with
    | [_, _, _, _], _ => rfl
  | 64, e =>
    cases e
    intro kV doc pm an cdv ct us hl
    have hl : us.length = 4 := hl
    match us, hl with
    | [_, _, _, _], _ => rfl
  | 65, e =>
    cases e
    intro kV doc pm an cdv ct us hl
    have hl : us.length = 2 := hl
    match us, hl with
    | [_, _], _ => rfl
  | 66, e =>
    cases e
    intro kV doc pm an cdv ct us hl
    have hl : us.length = 1 := hl
    match us, hl with
    | [_], _ => rfl
  | 67, e =>
    cases e
    intro kV doc pm an cdv ct us hl
    have hl : us.length = 3 := hl
    match us, hl with
    | [_, _, _], _ => rfl
  | 68, e =>
    cases e
    intro kV doc pm an cdv ct us hl
    have hl : us.length = 2 := hl
    match us, hl with
    | [_, _], _ => rfl
  | 69, e =>
    cases e
    intro kV doc pm an cdv ct us hl
    have hl : us.length = 2 := hl
    match us, hl with
    | [_, _], _ => rfl
  | 70, e =>
    cases e
    intro kV doc pm an cdv ct us hl
    have hl : us.length = 2 := hl
    match us, hl with
    | [_, _], _ => rfl
  | 71, e =>
    cases e
    intro kV doc pm an cdv ct us hl
    have hl : us.length = 2 := hl
    match us, hl with
    | [_, _], _ => rfl
  | 72, e =>
    cases e
    intro kV doc pm an cdv ct us hl
    have hl : us.length = 3 := hl
    match us, hl with
    | [_, _, _], _ => rfl
  | 73, e =>
    cases e
    intro kV doc pm an cdv ct us hl
    have hl : us.length = 4 := hl
    match us, hl with
    | [_, _, _, _], _ => rfl
  | 74, e =>
    cases e
    intro kV doc pm an cdv ct us hl
    have hl : us.length = 2 := hl
    match us, hl with
    | [_, _], _ => rfl
  | 75, e =>
    cases e
    intro kV doc pm an cdv ct us hl
    have hl : us.length = 4 := hl
    match us, hl with
    | [_, _, _, _], _ => rfl
  | 76, e =>
    cases e
    intro kV doc pm an cdv ct us hl
    have hl : us.length = 4 := hl
    match us, hl with
    | [_, _, _, _], _ => rfl
  | 77, e =>
    cases e
    intro kV doc pm an cdv ct us hl
    have hl : us.length = 3 := hl
    match us, hl with
    | [_, _, _], _ => rfl
  | 78, e =>
    cases e
    intro kV doc pm an cdv ct us hl
    have hl : us.length = 1 := hl
    match us, hl with
    | [_], _ => rfl
  | 79, e =>
    cases e
    intro kV doc pm an cdv ct us hl
    have hl : us.length = 2 := hl
    match us, hl with
    | [_, _], _ => rfl
  | 80, e =>
    cases e
    intro kV doc pm an cdv ct us hl
    have hl : us.length = 1 := hl
    match us, hl with
    | [_], _ => rfl
  | 81, e =>
    cases e
    intro kV doc pm an cdv ct us hl
    have hl : us.length = 1 := hl
    match us, hl with
    | [_], _ => rfl
  | 82, e =>
    cases e
    intro kV doc pm an cdv ct us hl
    have hl : us.length = 1 := hl
    match us, hl with
    | [_], _ => rfl
  | 83, e =>
    cases e
    intro kV doc pm an cdv ct us hl
    have hl : us.length = 1 := hl
    match us, hl with
    | [_], _ => rfl
  | 84, e =>
    cases e
    intro kV doc pm an cdv ct us hl
    have hl : us.length = 1 := hl
    match us, hl with
    | [_], _ => rfl
  | 85, e =>
    cases e
    intro kV doc pm an cdv ct us hl
    have hl : us.length = 1 := hl
    match us, hl with
    | [_], _ => rfl
  | 86, e =>
    cases e
    intro kV doc pm an cdv ct us hl
    have hl : us.length = 1 := hl
    match us, hl with
    | [_], _ => rfl
  | 87, e =>
    cases e
    intro kV doc pm an cdv ct us hl
    have hl : us.length = 3 := hl
    match us, hl with
    | [_, _, _], _ => rfl
  | 88, e =>
    cases e
    intro kV doc pm an cdv ct us hl
    have hl : us.length = 3 := hl
    match us, hl with
    | [_, _, _], _ => rfl
  | 89, e =>
    cases e
    intro kV doc pm an cdv ct us hl
    have hl : us.length = 3 := hl
    match us, hl with
    | [_, _, _], _ => rfl
  | 90, e =>
    cases e
    intro kV doc pm an cdv ct us hl
    have hl : us.length = 2 := hl
    match us, hl with
    | [_, _], _ => rfl
  | 91, e =>
    cases e
    intro kV doc pm an cdv ct us hl
    have hl : us.length = 2 := hl
    match us, hl with
    | [_, _], _ => rfl
  | 92, e =>
    cases e
    intro kV doc pm an cdv ct us hl
    have hl : us.length = 2 := hl
    match us, hl with
    | [_, _], _ => rfl
  | 93, e =>
    cases e
    intro kV doc pm an cdv ct us hl
    have hl : us.length = 2 := hl
    match us, hl with
    | [_, _], _ => rfl
  | 94, e =>
    cases e
    intro kV doc pm an cdv ct us hl
    have hl : us.length = 1 := hl
    match us, hl with
    | [_], _ => rfl
  | 95, e =>
    cases e
    intro kV doc pm an cdv ct us hl
    have hl : us.length = 4 := hl
    match us, hl with
    | [_, _, _, _], _ => rfl
  | 96, e =>
    cases e
    intro kV doc pm an cdv ct us hl
    have hl : us.length = 4 := hl
    match us, hl with
    | [_, _, _, _], _ => rfl
  | 97, e =>
    cases e
    intro kV doc pm an cdv ct us hl
    have hl : us.length = 2 := hl
    match us, hl with
    | [_, _], _ => rfl
  | 98, e =>
    cases e
    intro kV doc pm an cdv ct us hl
    have hl : us.length = 2 := hl
    match us, hl with
    | [_, _], _ => rfl
  | 99, e =>
    cases e
    intro kV doc pm an cdv ct us hl
    have hl : us.length = 2 := hl
    match us, hl with
    | [_, _], _ => rfl
  | f + 100, e => cases e
theorem binds_ini : ∀ x k fs np, TT.mks.lookup x = some (k, fs, np) → ∀ (kV doc pm : Value) (an : Option Addr) (cdv ct : Value) (us : List Value), us.length = (inmT k).length → bindArgs (PySem.W.fnOf (irowT k).name (irowT k).qual (irowT k).args (irowT k).body (irowT k).scope .none kV doc pm an cdv ct) ⟨us, []⟩ = pure ((inmT k).zip us) := by
  intro x k fs np e
  have hm : (x, k, fs, np) ∈ mksT := mem_of_lookup e
  rcases List.mem_cons.mp hm with q | hm
  · cases q
    intro kV doc pm an cdv ct us hl
    have hl : us.length = 2 := hl
    match us, hl with
    | [_, _], _ => rfl
  exact absurd hm (by intro h; cases h)
theorem chk_ok : chkFns TT = true := by kernel_rfl
def Plain : Prop := ∀ ns : List Int, ns.length ≤ 63 → isTrue1 (run tab 200 lawId false [scriptD ns] []) = true
end Q
open PySem PySem.W PySem.Calls PyProof.Rows
theorem Q.holds_of (plain : Q.Plain) : PySem.Challenge.rw_cointakes_k72_known_long_rows.Holds := by
  w_on; o_law
  refine HandSHeadRun.head_any (r := OpenLaw.row PySem.Challenge.rw_cointakes_k72_known_long_rows) (q := PySem.W.view (OpenLaw.row PySem.Challenge.rw_cointakes_k72_known_long_rows).prog [135]) (H := Q.hkT) (ob := Q.ob) (M := 8000) (loose := Q.looseL) (d := HandSHeadRun.topDef (OpenLaw.row PySem.Challenge.rw_cointakes_k72_known_long_rows).prog 135) (kwd := []) Q.ob_eq
    (by kernel_rfl) (fun s => by kernel_rfl) Q.run_top (by kernel_rfl) (by kernel_rfl) (by kernel_rfl) (by rfl) (by first | assumption | decide +kernel) (by decide +kernel) ⟨rfl, rfl, rfl, rfl, rfl, by decide +kernel⟩ ?hw ?hc
  case hw => w_witness2
  case hc =>
    refine L2.walk_ofE (l := PySem.Challenge.rw_cointakes_k72_known_long_rows) (n := 63) (k := 202) (x := "_law_script") (CX := L2.CX0) rfl (by decide) (by kernel_rfl) ⟨rfl, by decide, by decide⟩ ?F (fun _ _ _ _ z => z)
    intro w mg fa h Y G hmg0
    obtain ⟨K, KX, c, cx⟩ := Y
    have hmg : mg ("law" : PySem.Str) = some (.ref fa) := by
      have e : (HandSHeadRun.topDef (OpenLaw.row PySem.Challenge.rw_cointakes_k72_known_long_rows).prog 135).name = ("law" : PySem.Str) := by kernel_rfl
      rw [← e]
      exact hmg0
    have c : He.SaysD (Q.faOf Q.TT) ((List.range 100).map (Q.dfOfT Q.TT) ++ Q.inisT Q.TT) K := by
      rw [Q.fa_eq, Q.fn_eq]
      exact c
    let g : Q.G := ⟨PySem.Challenge.rw_cointakes_k72_known_long_rows.prog, w, K, fun c => He.ga K (Q.clsT c)⟩
    obtain ⟨fdd, tx⟩ := Q.txt_by (g := g) (T := Q.TT) rfl KX G c (fun f fn e => ⟨Q.tab_lt f fn e, Q.rows_ok f fn e⟩) Q.binds_ok Q.binds_ini Q.chk_ok cx
    have lw : Q.TT.Pg Q.lawId = some Q.f_law := rfl
    obtain ⟨F, B, _⟩ := tx.fn Q.lawId Q.f_law lw
    obtain ⟨fn', e1, e2, _, e3, _⟩ := tx.fns "law" Q.lawId 1 (by decide +kernel)
    have ea : Q.adT K Q.TT Q.lawId = fa := by
      have := hmg.symm.trans e3
      cases this
      rfl
    refine ⟨K, fdd Q.lawId, Q.spF g 1 (Q.run Q.tab 200 Q.lawId), KX, fun s v => L2.FunD.bindsA F (Q.binds_ok Q.lawId Q.f_law lw) s [v] rfl, fun H a ns hl ho hS => Q.law_sp (g := g) ho hS (plain ns hl), fun base _ _ => ?_⟩
    rw [← ea]
    exact Q.levels (base := base) tx 200 Q.lawId Q.f_law lw (by rfl)
section
namespace Q
open PySem

end Q
end
section
namespace Q
open PySem PySem.Spec PyProof.Rows L2

/-! ## outcomes -/
@[irreducible] def WP {α : Type} (r : Oc α) (Q : α → Hh → Prop) : Prop := match r with
  | .ok a h => Q a h
  | _ => False
theorem WP_ok {α : Type} (a : α) (h : Hh) (Q : α → Hh → Prop) : WP (.ok a h) Q = Q a h := by unfold WP; rfl
theorem WP_bad {α : Type} (Q : α → Hh → Prop) : WP (.bad) Q = False := by unfold WP; rfl
theorem WP_ex {α : Type} (x : Exc) (h : Hh) (Q : α → Hh → Prop) : WP (.ex x h) Q = False := by unfold WP; rfl
theorem WP_bind {α β : Type} (r : Oc α) (f : α → Hh → Oc β) (Q : β → Hh → Prop) : WP (r.bind f) Q = WP r (fun a h => WP (f a h) Q) := by
  cases r with
  | ok a h => rw [WP_ok]; rfl
  | bad => rw [WP_bad]; exact WP_bad Q
  | ex x h => rw [WP_ex]; exact WP_ex x h Q
theorem WP_then {α β : Type} (r : Oc α) (f : α → Hh → Oc β) (Q : β → Hh → Prop) : WP (r.then f) Q = WP r (fun a h => WP (f a h) Q) := by
  cases r with
  | ok a h => rw [WP_ok]; rfl
  | bad => rw [WP_bad]; exact WP_bad Q
  | ex x h => rw [WP_ex]; exact WP_bad Q
theorem WP.mono {α : Type} {r : Oc α} {Q Q' : α → Hh → Prop} (w : WP r Q) (k : ∀ a h, Q a h → Q' a h) : WP r Q' := by
  cases r with
  | ok a h => rw [WP_ok] at w ⊢; exact k a h w
  | bad => rw [WP_bad] at w; exact w.elim
  | ex x h => rw [WP_ex] at w; exact w.elim
theorem WP.eq {α : Type} {r : Oc α} {v : α} {w : Hh} (k : WP r (fun a h => a = v ∧ h = w)) : r = .ok v w := by
  cases r with
  | ok a h => rw [WP_ok] at k; obtain ⟨k1, k2⟩ := k; rw [k1, k2]
  | bad => rw [WP_bad] at k; exact k.elim
  | ex x h => rw [WP_ex] at k; exact k.elim
theorem WP.mk {α : Type} {a : α} {h : Hh} {Q : α → Hh → Prop} (q : Q a h) : WP (.ok a h) Q := by rw [WP_ok]; exact q
theorem WP.out {α : Type} {a : α} {h : Hh} {Q : α → Hh → Prop} (q : WP (.ok a h) Q) : Q a h := by rw [WP_ok] at q; exact q
theorem WP.nob {α : Type} {Q : α → Hh → Prop} {C : Prop} (q : WP (.bad) Q) : C := by rw [WP_bad] at q; exact q.elim
theorem WP.nox {α : Type} {x : Exc} {h : Hh} {Q : α → Hh → Prop} {C : Prop} (q : WP (.ex x h) Q) : C := by rw [WP_ex] at q; exact q.elim
theorem ok_bind {α β : Type} (a : α) (h : Hh) (f : α → Hh → Oc β) : (Oc.ok a h).bind f = f a h := (rfl)
theorem ok_then {α β : Type} (a : α) (h : Hh) (f : α → Hh → Oc β) : (Oc.ok a h).then f = f a h := (rfl)
theorem bind_c {α β : Type} {r r' : Oc α} {f : α → Hh → Oc β} (e : r = r') : r.bind f = r'.bind f := by rw [e]
theorem then_c {α β : Type} {r r' : Oc α} {f : α → Hh → Oc β} (e : r = r') : r.then f = r'.then f := by rw [e]
theorem WP_c {α : Type} {r r' : Oc α} {Q : α → Hh → Prop} (e : r = r') : WP r Q = WP r' Q := by rw [e]

/-! ## expressions -/
section
variable {Φ : Tbl} {n : Nat} {env : Ev} {h : Hh}
def evVar (o : Option (Option D)) (h : Hh) : Oc D := match o with
  | some (some d) => .ok d h
  | _ => .bad
theorem evVar_s (d : D) (h : Hh) : evVar (some (some d)) h = .ok d h := (rfl)
theorem ev_var (i : Nat) : ev Φ (n + 1) (.var i) env h = evVar env[i]? h := (rfl)
theorem ev_non : ev Φ (n + 1) .non env h = .ok .non h := (rfl)
theorem ev_bl (b : Bool) : ev Φ (n + 1) (.bl b) env h = .ok (.bl b) h := (rfl)
theorem ev_int (i : Int) : ev Φ (n + 1) (.int i) env h = .ok (.int i) h := (rfl)
theorem ev_str (i : Str) : ev Φ (n + 1) (.str i) env h = .ok (.str i) h := (rfl)
theorem ev_glo (x : Str) (i : Int) : ev Φ (n + 1) (.glo x i) env h = .ok (.int i) h := (rfl)
def c2 (op : D → D → Hh → Oc D) (r : Oc D) (f : Hh → Oc D) : Oc D := r.bind fun x h1 => (f h1).bind fun y h2 => op x y h2
theorem c2_c {op : D → D → Hh → Oc D} {r r' : Oc D} {f : Hh → Oc D} (e : r = r') : c2 op r f = c2 op r' f := by rw [e]
theorem c2_ok (op : D → D → Hh → Oc D) (d : D) (h : Hh) (f : Hh → Oc D) : c2 op (.ok d h) f = (f h).bind fun y h2 => op d y h2 := (rfl)
theorem WP_c2 (op : D → D → Hh → Oc D) (r : Oc D) (f : Hh → Oc D) (Q : D → Hh → Prop) : WP (c2 op r f) Q = WP r (fun x h1 => WP ((f h1).bind fun y h2 => op x y h2) Q) := WP_bind ..
theorem ev_bin (m : Bool) (op : Bop) (a b : E) : ev Φ (n + 1) (.bin m op a b) env h = c2 (vBin m op) (ev Φ n a env h) (ev Φ n b env) := (rfl)
theorem ev_cmp (op : Cop) (a b : E) : ev Φ (n + 1) (.cmp op a b) env h = c2 (vCmp op) (ev Φ n a env h) (ev Φ n b env) := (rfl)
theorem ev_ix (a b : E) : ev Φ (n + 1) (.ix a b) env h = c2 vIx (ev Φ n a env h) (ev Φ n b env) := (rfl)
theorem ev_lrg2 (m : Bool) (a b : E) : ev Φ (n + 1) (.lrg2 m a b) env h = c2 (vLrg2 m) (ev Φ n a env h) (ev Φ n b env) := (rfl)
theorem ev_trg2 (a b : E) : ev Φ (n + 1) (.trg2 a b) env h = c2 vTrg2 (ev Φ n a env h) (ev Φ n b env) := (rfl)
theorem ev_neg (a : E) : ev Φ (n + 1) (.neg a) env h = (ev Φ n a env h).bind vNeg := (rfl)
theorem ev_nt (a : E) : ev Φ (n + 1) (.nt a) env h = (ev Φ n a env h).bind vNot := (rfl)
def kAnd (f : Hh → Oc D) (d : D) (h : Hh) : Oc D := match d with
  | .bl true => f h
  | .bl false => .ok (.bl false) h
  | _ => .bad
def kOr (f : Hh → Oc D) (d : D) (h : Hh) : Oc D := match d with
  | .bl true => .ok (.bl true) h
  | .bl false => f h
  | _ => .bad
def kIf (f g : Hh → Oc D) (d : D) (h : Hh) : Oc D := match d with
  | .bl true => f h
  | .bl false => g h
  | _ => .bad
theorem kAnd_t (f : Hh → Oc D) (h : Hh) : kAnd f (.bl true) h = f h := (rfl)
theorem kAnd_f (f : Hh → Oc D) (h : Hh) : kAnd f (.bl false) h = .ok (.bl false) h := (rfl)
theorem kOr_t (f : Hh → Oc D) (h : Hh) : kOr f (.bl true) h = .ok (.bl true) h := (rfl)
theorem kOr_f (f : Hh → Oc D) (h : Hh) : kOr f (.bl false) h = f h := (rfl)
theorem kIf_b (f g : Hh → Oc D) (b : Bool) (h : Hh) : kIf f g (.bl b) h = if b = true then f h else g h := by cases b <;> rfl
theorem ev_and (a b : E) : ev Φ (n + 1) (.and a b) env h = (ev Φ n a env h).bind (kAnd (ev Φ n b env)) := (rfl)
theorem ev_or (a b : E) : ev Φ (n + 1) (.or a b) env h = (ev Φ n a env h).bind (kOr (ev Φ n b env)) := (rfl)
theorem ev_ife (c a b : E) : ev Φ (n + 1) (.ife c a b) env h = (ev Φ n c env h).bind (kIf (ev Φ n a env) (ev Φ n b env)) := (rfl)
def kCh2 (o2 : Cop) (fc : Hh → Oc D) (y : D) (z : D) (h3 : Hh) : Oc D := match z with
  | .bl true => (fc h3).bind fun u h4 => vCmp o2 y u h4
  | .bl false => .ok (.bl false) h3
  | _ => .bad
theorem kCh2_b (o2 : Cop) (fc : Hh → Oc D) (y : D) (b : Bool) (h3 : Hh) : kCh2 o2 fc y (.bl b) h3 = if b = true then (fc h3).bind fun u h4 => vCmp o2 y u h4 else .ok (.bl false) h3 := by cases b <;> rfl
theorem ev_chain (o1 o2 : Cop) (a b c : E) : ev Φ (n + 1) (.chain o1 o2 a b c) env h = (ev Φ n a env h).bind fun x h1 => (ev Φ n b env h1).bind fun y h2 => (vCmp o1 x y h2).bind (kCh2 o2 (ev Φ n c env) y) := (rfl)
def kCh3 (o2 o3 : Cop) (fc fd : Hh → Oc D) (y : D) (z : D) (h3 : Hh) : Oc D := match z with
  | .bl true => (fc h3).bind fun u h4 => (vCmp o2 y u h4).bind (kCh2 o3 fd u)
  | .bl false => .ok (.bl false) h3
  | _ => .bad
theorem kCh3_b (o2 o3 : Cop) (fc fd : Hh → Oc D) (y : D) (b : Bool) (h3 : Hh) : kCh3 o2 o3 fc fd y (.bl b) h3 = if b = true then (fc h3).bind fun u h4 => (vCmp o2 y u h4).bind (kCh2 o3 fd u) else .ok (.bl false) h3 := by cases b <;> rfl
theorem ev_chain3 (o1 o2 o3 : Cop) (a b c d : E) : ev Φ (n + 1) (.chain3 o1 o2 o3 a b c d) env h = (ev Φ n a env h).bind fun x h1 => (ev Φ n b env h1).bind fun y h2 => (vCmp o1 x y h2).bind (kCh3 o2 o3 (ev Φ n c env) (ev Φ n d env) y) := (rfl)
def mkTup (ds : List D) (h : Hh) : Oc D := if ds.length ≤ big then .ok (.tup ds) h else .bad
def mkLst (m : Bool) (ds : List D) (h : Hh) : Oc D := if ds.length ≤ big then mk m ds h else .bad
theorem ev_tup (es : List E) : ev Φ (n + 1) (.tup es) env h = (evs (ev Φ n) es env h).bind mkTup := (rfl)
theorem ev_lst (m : Bool) (es : List E) : ev Φ (n + 1) (.lst m es) env h = (evs (ev Φ n) es env h).bind (mkLst m) := (rfl)
theorem ev_isi (a : E) (o : Bool) (ts : List Ty) : ev Φ (n + 1) (.isi a o ts) env h = (ev Φ n a env h).bind (vIsi ts) := (rfl)
theorem ev_call (f : Nat) (m : Bool) (es : List E) : ev Φ (n + 1) (.call f m es) env h = (evs (ev Φ n) es env h).bind (Φ f m) := (rfl)
theorem ev_blt (f : Blt) (m : Bool) (es : List E) : ev Φ (n + 1) (.blt f m es) env h = (evs (ev Φ n) es env h).bind (vBlt f m) := (rfl)
def kMth (f : Mth) (m : Bool) (g : Hh → Oc (List D)) (x : D) (h1 : Hh) : Oc D := if tyM f x h1 then (g h1).bind fun xs h2 => vMth f m x xs h2 else .bad
theorem ev_mth (f : Mth) (m : Bool) (o : E) (es : List E) : ev Φ (n + 1) (.mth f m o es) env h = (ev Φ n o env h).bind (kMth f m (evs (ev Φ n) es env)) := (rfl)
theorem ev_lrg (m : Bool) (a : E) : ev Φ (n + 1) (.lrg m a) env h = (ev Φ n a env h).bind (vLrg m) := (rfl)
theorem ev_trg (a : E) : ev Φ (n + 1) (.trg a) env h = (ev Φ n a env h).bind vTrg := (rfl)
theorem ev_trg3 (a b c : E) : ev Φ (n + 1) (.trg3 a b c) env h = (evs (ev Φ n) [a, b, c] env h).bind vTrg3 := (rfl)
theorem ev_rev (m : Bool) (a : E) : ev Φ (n + 1) (.rev m a) env h = (ev Φ n a env h).bind (vRev m) := (rfl)
theorem ev_srtk (m : Bool) (a : E) : ev Φ (n + 1) (.srtk m a) env h = (ev Φ n a env h).bind (vSrtk m) := (rfl)
theorem ev_lenk (a : E) : ev Φ (n + 1) (.lenk a) env h = (ev Φ n a env h).bind vLenk := (rfl)
theorem ev_srts (m : Bool) (a : E) : ev Φ (n + 1) (.srts m a) env h = (ev Φ n a env h).bind (vSrts m) := (rfl)
theorem ev_srtl (m : Bool) (a : E) : ev Φ (n + 1) (.srtl m a) env h = (ev Φ n a env h).bind (vSrtl m) := (rfl)
theorem ev_lens (a : E) : ev Φ (n + 1) (.lens a) env h = (ev Φ n a env h).bind vLens := (rfl)
theorem ev_fld (c : Nat) (x : Str) (a : E) : ev Φ (n + 1) (.fld c x a) env h = (ev Φ n a env h).bind (vFld c x) := (rfl)
def kCm (c : Nat) (x : Str) (F : List D → Hh → Oc D) (fA : Hh → Oc (List D)) (a : D) (h : Hh) : Oc D := if isObj c x a h = true then (fA h).bind fun ds h2 => F (a :: ds) h2 else .bad
theorem ev_cm (c : Nat) (x : Str) (f : Nat) (m : Bool) (o : E) (es : List E) : ev Φ (n + 1) (.cm c x f m o es) env h = (ev Φ n o env h).bind (kCm c x (Φ f m) (evs (ev Φ n) es env)) := (rfl)
theorem ev_mko (c : Nat) (fs : List (Str × Ini)) (es : List E) : ev Φ (n + 1) (.mko c fs es) env h = (evs (ev Φ n) es env h).bind (vMko c fs) := (rfl)
theorem ev_fnv (x : Str) : ev Φ (n + 1) (.fnv x) env h = .ok (.fn x) h := (rfl)
def kCv (o : Option Nat) (F : Nat → List D → Hh → Oc D) (r : Oc (List D)) : Oc D := match o with
  | some f => r.bind (F f)
  | none => .bad
theorem kCv_s (f : Nat) (F : Nat → List D → Hh → Oc D) (r : Oc (List D)) : kCv (some f) F r = r.bind (F f) := (rfl)
theorem ev_callv (i : Nat) (tb : List (Str × Nat)) (m : Bool) (es : List E) : ev Φ (n + 1) (.callv i tb m es) env h = kCv (fnOf tb env[i]?) (fun f => Φ f m) (evs (ev Φ n) es env h) := by
  show (match fnOf tb (env[i]?) with
    | some f => dN (Φ f m) (evs (ev Φ n) es) env h
    | none => .bad) = _
  cases fnOf tb (env[i]?) <;> rfl
theorem ev_dnew (t : Bool) : ev Φ (n + 1) (.dnew t) env h = .ok (.md h.length) (h ++ [if t then .dT [] else .dK []]) := (rfl)
def kSl (m : Bool) (f g : Hh → Oc (Option Int)) (x : D) (h1 : Hh) : Oc D := (f h1).bind fun l h2 => (g h2).bind fun u h3 => vSl m x l u h3
theorem ev_sl (m : Bool) (a : E) (lo hi : Option E) : ev Φ (n + 1) (.sl m a lo hi) env h = (ev Φ n a env h).bind (kSl m (evOpt (ev Φ n) lo env) (evOpt (ev Φ n) hi env)) := (rfl)
def kOpt (d : D) (h1 : Hh) : Oc (Option Int) := match d with
  | .int i => .ok (some i) h1
  | _ => .bad
theorem kOpt_i (i : Int) (h1 : Hh) : kOpt (.int i) h1 = .ok (some i) h1 := (rfl)
theorem evOpt_n (f : E → DE) : evOpt f none env h = .ok none h := (rfl)
theorem evOpt_s (f : E → DE) (e : E) : evOpt f (some e) env h = (f e env h).bind kOpt := (rfl)
def kLc (m : Bool) (r : Oc (List D)) : Oc D := r.then fun ds h2 => mk m ds h2
theorem kLc_ok (m : Bool) (ds : List D) (h : Hh) : kLc m (.ok ds h) = mk m ds h := (rfl)
theorem WP_kLc (m : Bool) (r : Oc (List D)) (Q : D → Hh → Prop) : WP (kLc m r) Q = WP r (fun ds h => WP (mk m ds h) Q) := WP_then ..
theorem ev_lc (m : Bool) (own : List Nat) (t : T) (it : I) (ifs : List E) (e : E) : ev Φ (n + 1) (.lc m own t it ifs e) env h = (evIt (ev Φ n) it env h).bind fun s h1 => kLc m (lcL own s.still (evT (ev Φ n) t) (tests (ev Φ n) ifs) (ev Φ n e) s.items [] env h1) := (rfl)
theorem ev_lc2 (m : Bool) (own own1 : List Nat) (t : T) (it : I) (ifs : List E) (t1 : T) (it1 : I) (ifs1 : List E) (e : E) : ev Φ (n + 1) (.lc2 m own own1 t it ifs t1 it1 ifs1 e) env h = (evIt (ev Φ n) it env h).bind fun s h1 => kLc m (lc2L own own1 s.still (evT (ev Φ n) t) (tests (ev Φ n) ifs) (evIt (ev Φ n) it1) (evT (ev Φ n) t1) (tests (ev Φ n) ifs1) (ev Φ n e) s.items [] env h1) := (rfl)
theorem evs_nil (f : E → DE) : evs f [] env h = .ok [] h := (rfl)
def kCons (g : Hh → Oc (List D)) (x : D) (h1 : Hh) : Oc (List D) := (g h1).bind fun xs h2 => .ok (x :: xs) h2
theorem evs_cons (f : E → DE) (e : E) (r : List E) : evs f (e :: r) env h = (f e env h).bind (kCons (evs f r env)) := (rfl)
theorem evT_nm (f : E → DE) (i : Nat) (d : D) : evT f (.nm i) d env h = .ok (env.set i (some d)) h := by unfold evT; rfl
theorem evT_tup (f : E → DE) (ts : List T) (ds : List D) : evT f (.tup ts) (.tup ds) env h = if ds.length = ts.length then evTs f ts ds env h else .bad := by rw [evT]
theorem evT_pr (f : E → DE) (ts : List T) (ds : List D) : evT f (.tup ts) (.pr ds) env h = if ds.length = ts.length then evTs f ts ds env h else .bad := by rw [evT]
def kSet (d : D) (env : Ev) (o k : D) (h2 : Hh) : Oc Ev := (vSet o k d h2).bind fun _ h3 => .ok env h3
theorem evT_sub (f : E → DE) (a i : E) (d : D) : evT f (.sub a i) d env h = (f a env h).bind fun o h1 => (f i env h1).bind fun k h2 => kSet d env o k h2 := by rw [evT]; rfl
theorem evTs_nil (f : E → DE) : evTs f [] [] env h = .ok env h := by rw [evTs]
theorem evTs_cons (f : E → DE) (t : T) (ts : List T) (d : D) (ds : List D) : evTs f (t :: ts) (d :: ds) env h = (evT f t d env h).bind fun env1 h1 => evTs f ts ds env1 h1 := by rw [evTs]
def kB (d : D) (h : Hh) : Oc Bool := match d with
  | .bl b => .ok b h
  | _ => .bad
theorem kB_b (b : Bool) (h : Hh) : kB (.bl b) h = .ok b h := (rfl)
theorem tests_nil (f : E → DE) : tests f [] env h = .ok true h := (rfl)
theorem tests_one (f : E → DE) (c : E) : tests f [c] env h = (f c env h).bind kB := (rfl)
@[irreducible] def kRg1 (d : D) (h : Hh) : Oc Src := vRg1 d h
@[irreducible] def kRg2 (d e : D) (h : Hh) : Oc Src := vRg2 d e h
theorem kRg1_d (d : D) (h : Hh) : kRg1 d h = vRg1 d h := by unfold kRg1; rfl
theorem kRg2_d (d e : D) (h : Hh) : kRg2 d e h = vRg2 d e h := by unfold kRg2; rfl
theorem evIt_rng1 (f : E → DE) (a : E) : evIt f (.rng1 a) env h = (f a env h).bind kRg1 := by
  have : kRg1 = vRg1 := by funext d h; exact kRg1_d d h
  rw [this]; rfl
theorem evIt_rng2 (f : E → DE) (a b : E) : evIt f (.rng2 a b) env h = (f a env h).bind fun d h1 => (f b env h1).bind fun e h2 => kRg2 d e h2 := by
  have : kRg2 = vRg2 := by funext d e h; exact kRg2_d d e h
  rw [this]; rfl
theorem evIt_seq (f : E → DE) (a : E) : evIt f (.seq a) env h = (f a env h).bind vSeq := (rfl)
theorem evIt_enum (f : E → DE) (a : E) : evIt f (.enum a) env h = (f a env h).bind vEnum := (rfl)
theorem evIt_keys (f : E → DE) (a : E) : evIt f (.keys a) env h = (f a env h).bind vKeys := (rfl)
theorem evIt_vals (f : E → DE) (a : E) : evIt f (.vals a) env h = (f a env h).bind vVals := (rfl)
theorem evIt_items (f : E → DE) (a : E) : evIt f (.items a) env h = (f a env h).bind vItems := (rfl)
theorem evIt_zip (f : E → DE) (a b : E) : evIt f (.zip a b) env h = (f a env h).bind fun d h1 => (f b env h1).bind fun e h2 => vZip d e h2 := (rfl)

/-! ## statements -/
/-- what follows a statement -/
def K1 (g : DS) (Q : Fl × Ev → Hh → Prop) (r : Fl × Ev) (h : Hh) : Prop := match r with
  | (.next, env1) => WP (g env1 h) Q
  | r => Q r h
theorem K1_next (g : DS) (Q : Fl × Ev → Hh → Prop) (env1 : Ev) (h : Hh) : K1 g Q (.next, env1) h = WP (g env1 h) Q := (rfl)
theorem K1_ret (g : DS) (Q : Fl × Ev → Hh → Prop) (d : D) (env1 : Ev) (h : Hh) : K1 g Q (.ret d, env1) h = Q (.ret d, env1) h := (rfl)
theorem K1_brk (g : DS) (Q : Fl × Ev → Hh → Prop) (env1 : Ev) (h : Hh) : K1 g Q (.brk, env1) h = Q (.brk, env1) h := (rfl)
theorem K1_cont (g : DS) (Q : Fl × Ev → Hh → Prop) (env1 : Ev) (h : Hh) : K1 g Q (.cont, env1) h = Q (.cont, env1) h := (rfl)
theorem evSs_nil (f : S → DS) (Q : Fl × Ev → Hh → Prop) : WP (evSs f [] env h) Q = Q (.next, env) h := by
  show WP (Oc.ok (.next, env) h) Q = _
  rw [WP_ok]
theorem evSs_cons (f : S → DS) (s : S) (r : List S) (Q : Fl × Ev → Hh → Prop) : WP (evSs f (s :: r) env h) Q = WP (f s env h) (K1 (evSs f r) Q) := by
  show WP (sSeq (f s) (evSs f r) env h) Q = _
  unfold sSeq
  rw [WP_bind]
  congr 1
  funext a h
  obtain ⟨fl, e⟩ := a
  cases fl with
  | next => rfl
  | brk => show WP (Oc.ok (Fl.brk, e) h) Q = _; rw [WP_ok]; rfl
  | cont => show WP (Oc.ok (Fl.cont, e) h) Q = _; rw [WP_ok]; rfl
  | ret d => show WP (Oc.ok (Fl.ret d, e) h) Q = _; rw [WP_ok]; rfl
def kNx (env : Ev) (_ : Unit) (h : Hh) : Oc (Fl × Ev) := .ok (.next, env) h
def kAsg (g : D → Ev → Hh → Oc Ev) (env : Ev) (d : D) (h1 : Hh) : Oc (Fl × Ev) := (g d env h1).bind fun env1 h2 => .ok (.next, env1) h2
theorem evS_asg (t : T) (e : E) : evS Φ (n + 1) (.asg t e) env h = (ev Φ n e env h).bind (kAsg (evT (ev Φ n) t) env) := (rfl)
def kPar (is : List Nat) (env : Ev) (ds : List D) (h1 : Hh) : Oc (Fl × Ev) := if ds.length = is.length then .ok (.next, setAll is ds env) h1 else .bad
theorem evS_par (is : List Nat) (es : List E) : evS Φ (n + 1) (.par is es) env h = (evs (ev Φ n) es env h).bind (kPar is env) := (rfl)
def kAug1 (i : Nat) (op : Bop) (env : Ev) (x y : D) (h1 : Hh) : Oc (Fl × Ev) := match vAug op x y with
  | some z => .ok (.next, env.set i (some z)) h1
  | none => .bad
def kAug (i : Nat) (op : Bop) (f : Hh → Oc D) (env : Ev) (o : Option (Option D)) (h : Hh) : Oc (Fl × Ev) := match o with
  | some (some x) => (f h).bind (kAug1 i op env x)
  | _ => .bad
theorem kAug_s (i : Nat) (op : Bop) (f : Hh → Oc D) (env : Ev) (x : D) (h : Hh) : kAug i op f env (some (some x)) h = (f h).bind (kAug1 i op env x) := (rfl)
theorem evS_aug (i : Nat) (op : Bop) (e : E) : evS Φ (n + 1) (.aug i op e) env h = kAug i op (ev Φ n e env) env env[i]? h := (rfl)
theorem kAug1_add (i : Nat) (env : Ev) (a b : Int) (h1 : Hh) : kAug1 i .add env (.int a) (.int b) h1 = .ok (.next, env.set i (some (.int (a + b)))) h1 := (rfl)
theorem kAug1_sub (i : Nat) (env : Ev) (a b : Int) (h1 : Hh) : kAug1 i .sub env (.int a) (.int b) h1 = .ok (.next, env.set i (some (.int (a - b)))) h1 := (rfl)
theorem evS_augs (a i : E) (op : Bop) (e : E) : evS Φ (n + 1) (.augs a i op e) env h = sAugS op (ev Φ n a) (ev Φ n i) (ev Φ n e) env h := (rfl)
def kIfS (f g : Hh → Oc (Fl × Ev)) (d : D) (h1 : Hh) : Oc (Fl × Ev) := match d with
  | .bl b => if b = true then f h1 else g h1
  | _ => .bad
theorem kIfS_b (f g : Hh → Oc (Fl × Ev)) (b : Bool) (h1 : Hh) : kIfS f g (.bl b) h1 = if b = true then f h1 else g h1 := (rfl)
theorem evS_ife (c : E) (a b : List S) : evS Φ (n + 1) (.ife c a b) env h = (ev Φ n c env h).bind (kIfS (evSs (evS Φ n) a env) (evSs (evS Φ n) b env)) := by
  show sIf (asB (ev Φ n c)) _ _ env h = _
  unfold sIf asB
  cases ev Φ n c env h with
  | ok d h1 => cases d <;> rfl
  | _ => rfl
theorem evS_for (t : T) (it : I) (b : List S) : evS Φ (n + 1) (.for_ t it b) env h = (evIt (ev Φ n) it env h).bind fun s h1 => sFor s.still (evT (ev Φ n) t) (evSs (evS Φ n) b) s.items env h1 := (rfl)
theorem evS_wh (c : E) (b : List S) : evS Φ (n + 1) (.wh c b) env h = sWh (asB (ev Φ n c)) (evSs (evS Φ n) b) LOOPS env h := (rfl)
def kRet (env : Ev) (d : D) (h1 : Hh) : Oc (Fl × Ev) := .ok (.ret d, env) h1
theorem kRet_ok (env : Ev) (d : D) (h1 : Hh) : kRet env d h1 = .ok (.ret d, env) h1 := (rfl)
theorem evS_ret (e : E) : evS Φ (n + 1) (.ret e) env h = (ev Φ n e env h).bind (kRet env) := (rfl)
theorem evS_retn : evS Φ (n + 1) .retn env h = .ok (.ret .non, env) h := (rfl)
theorem evS_ex (e : E) : evS Φ (n + 1) (.ex e) env h = (ev Φ n e env h).bind fun _ h1 => .ok (.next, env) h1 := (rfl)
theorem evS_brk : evS Φ (n + 1) .brk env h = .ok (.brk, env) h := (rfl)
theorem evS_cont : evS Φ (n + 1) .cont env h = .ok (.cont, env) h := (rfl)
def kTry (ei j C : Nat) (a : Str) (env : Ev) (F : List D → Hh → Oc D) (ds : List D) (h1 : Hh) : Oc (Fl × Ev) := tryO ei j C a env (F ds h1)
theorem kTry_d (ei j C : Nat) (a : Str) (env : Ev) (F : List D → Hh → Oc D) (ds : List D) (h1 : Hh) : kTry ei j C a env F ds h1 = tryO ei j C a env (F ds h1) := (rfl)
theorem evS_tryr (ei j C : Nat) (a : Str) (f : Nat) (es : List E) : evS Φ (n + 1) (.tryr ei j C a f es) env h = (evs (ev Φ n) es env h).bind (kTry ei j C a env (Φ f false)) := (rfl)
theorem tryO_x {ei j C : Nat} {a : Str} {env : Ev} {h : Hh} (l : ei < env.length) : tryO ei j C a env (.ex ⟨C, none⟩ h) = .ok (.next, (env.set ei none).set j (some (.str a))) h := by
  show (if C = C ∧ (none : Option (Str × D)).isNone = true ∧ ei < env.length then Oc.ok (Fl.next, (env.set ei none).set j (some (.str a))) h else .bad) = _
  rw [if_pos ⟨rfl, rfl, l⟩]
/-! an error leaves -/
@[irreducible] def WPx {α : Type} (x : Exc) (r : Oc α) (Q : Hh → Prop) : Prop := match r with
  | .ex y h => y = x ∧ Q h
  | _ => False
theorem WPx.out {α : Type} {x : Exc} {r : Oc α} {Q : Hh → Prop} (w : WPx x r Q) : ∃ h, r = .ex x h ∧ Q h := by
  unfold WPx at w
  cases r with
  | bad => exact w.elim
  | ok _ _ => exact w.elim
  | ex y h => exact ⟨h, by rw [w.1], w.2⟩
theorem WPx.mk {α : Type} {x : Exc} {h : Hh} {Q : Hh → Prop} (q : Q h) : WPx (α := α) x (.ex x h) Q := by unfold WPx; exact ⟨rfl, q⟩
def K1x (x : Exc) (g : DS) (Q : Hh → Prop) (r : Fl × Ev) (h : Hh) : Prop := match r with
  | (.next, env1) => WPx x (g env1 h) Q
  | _ => False
theorem K1x_next (x : Exc) (g : DS) (Q : Hh → Prop) (env1 : Ev) (h : Hh) : K1x x g Q (.next, env1) h = WPx x (g env1 h) Q := (rfl)
theorem WPx_nx {x : Exc} {s : S} {r : List S} {Q : Hh → Prop} (w : WP (evS Φ n s env h) (K1x x (evSs (evS Φ (n + 1)) r) Q)) : WPx x (evSs (evS Φ (n + 1)) (.nx s :: r) env h) Q := by
  show WPx x ((nxO (evS Φ n s env h)).bind fun r1 h1 => match r1 with
    | (.next, env1) => evSs (evS Φ (n + 1)) r env1 h1
    | r => .ok r h1) Q
  revert w
  cases evS Φ n s env h with
  | bad => exact fun w => w.nob
  | ex _ _ => exact fun w => w.nox
  | ok p h1 =>
    intro w
    obtain ⟨fl, e⟩ := p
    cases fl with
    | next => exact w.out
    | _ => exact w.out.elim
theorem WPx_ifr {C : Nat} {c : E} {r : List S} {Q : Hh → Prop} (w : WP (ev Φ n c env h) fun d h1 => d = .bl true ∧ Q h1) : WPx ⟨C, none⟩ (evSs (evS Φ (n + 1)) (.ifr c C :: r) env h) Q := by
  show WPx _ (((nxO (asB (ev Φ n c) env h)).bind fun b h1 => if b = true then Oc.ex ⟨C, none⟩ h1 else .ok (Fl.next, env) h1).bind fun r1 h1 => match r1 with
    | (Fl.next, env1) => evSs (evS Φ (n + 1)) r env1 h1
    | r => .ok r h1) Q
  unfold asB
  revert w
  cases ev Φ n c env h with
  | bad => exact fun w => w.nob
  | ex _ _ => exact fun w => w.nox
  | ok p h1 =>
    intro w
    obtain ⟨rfl, q⟩ := w.out
    exact WPx.mk q
theorem evS_pass : evS Φ (n + 1) .pass env h = .ok (.next, env) h := (rfl)
theorem WP_ite {α : Type} (c : Prop) [Decidable c] (r r' : Oc α) (Q : α → Hh → Prop) : WP (if c then r else r') Q = if c then WP r Q else WP r' Q := by split <;> rfl
theorem bind_ite {α β : Type} (c : Prop) [Decidable c] (r r' : Oc α) (f : α → Hh → Oc β) : (if c then r else r').bind f = if c then r.bind f else r'.bind f := by split <;> rfl
end

/-! ## loops -/
theorem WP_for {α : Type} {still : Hh → Bool} {g : DG} {b : DS} {Q : Fl × Ev → Hh → Prop} (enc : α → D) (xs : List α) (Inv : List α → List α → Ev → Hh → Prop)
    (hs : ∀ done rest env h, Inv done rest env h → still h = true)
    (step : ∀ done x rest env h, xs = done ++ x :: rest → Inv done (x :: rest) env h → WP (g (enc x) env h) fun env1 h1 => WP (b env1 h1) fun r h2 => match r with
      | (.next, e2) => Inv (done ++ [x]) rest e2 h2
      | (.cont, e2) => Inv (done ++ [x]) rest e2 h2
      | (.brk, e2) => Q (.next, e2) h2
      | (.ret d, e2) => Q (.ret d, e2) h2)
    (fin : ∀ env h, Inv xs [] env h → Q (.next, env) h) {env : Ev} {h : Hh} (ini : Inv [] xs env h) : WP (sFor still g b (xs.map enc) env h) Q := by
  suffices H : ∀ (rest done : List α) env h, xs = done ++ rest → Inv done rest env h → WP (sFor still g b (rest.map enc) env h) Q from H xs [] env h rfl ini
  intro rest
  induction rest with
  | nil =>
    intro done env h e i
    show WP (if still h = true then .ok (.next, env) h else .bad) Q
    rw [hs _ _ _ _ i]
    rw [List.append_nil] at e
    subst e
    exact WP.mk (fin _ _ i)
  | cons x rest ih =>
    intro done env h e i
    rw [List.map_cons, sFor]
    dsimp only
    rw [hs _ _ _ _ i]
    simp only [if_true]
    rw [WP_bind]
    refine (step done x rest env h e i).mono fun env1 h1 w => ?_
    rw [WP_bind]
    refine w.mono fun r h2 w => ?_
    have e' : xs = (done ++ [x]) ++ rest := by rw [e]; simp
    obtain ⟨fl, e2⟩ := r
    cases fl with
    | next => exact ih _ _ _ e' w
    | cont => exact ih _ _ _ e' w
    | brk => exact WP.mk w
    | ret d => exact WP.mk w
/-- a range -/
theorem WP_forR {still : Hh → Bool} {g : DG} {b : DS} {Q : Fl × Ev → Hh → Prop} (n : Nat) (Inv : Nat → Ev → Hh → Prop)
    (hs : ∀ k env h, Inv k env h → still h = true)
    (step : ∀ k env h, k < n → Inv k env h → WP (g (.int (k : Nat)) env h) fun env1 h1 => WP (b env1 h1) fun r h2 => match r with
      | (.next, e2) => Inv (k + 1) e2 h2
      | (.cont, e2) => Inv (k + 1) e2 h2
      | (.brk, e2) => Q (.next, e2) h2
      | (.ret d, e2) => Q (.ret d, e2) h2)
    (fin : ∀ env h, Inv n env h → Q (.next, env) h) {env : Ev} {h : Hh} (ini : Inv 0 env h) : WP (sFor still g b (rgI 0 (n : Nat)) env h) Q := by
  have e : rgI 0 (n : Nat) = (List.range n).map fun k : Nat => D.int (k : Nat) := by
    unfold rgI
    simp
  rw [e]
  refine WP_for (fun k : Nat => D.int (k : Nat)) (List.range n) (fun done _ env h => Inv done.length env h) (fun done rest env h i => hs _ _ _ i) (fun done x rest env h e i => ?_) (fun env h i => fin _ _ (by simpa using i)) ini
  have hx : x = done.length ∧ x < n := by
    have h1 : (List.range n)[done.length]? = some x := by rw [e]; simp
    rw [List.getElem?_eq_some_iff] at h1
    obtain ⟨hl, h2⟩ := h1
    rw [List.getElem_range] at h2
    rw [List.length_range] at hl
    omega
  have := step x env h hx.2 (hx.1 ▸ i)
  refine this.mono fun env1 h1 w => w.mono fun r h2 w => ?_
  obtain ⟨fl, e2⟩ := r
  cases fl with
  | next => rw [List.length_append, List.length_singleton, ← hx.1]; exact w
  | cont => rw [List.length_append, List.length_singleton, ← hx.1]; exact w
  | brk => exact w
  | ret d => exact w
/-- a comprehension that changes no cell -/
theorem lcL_pure {α : Type} {own : List Nat} {still : Hh → Bool} {g : DG} {tt : Ev → Hh → Oc Bool} {fe : DE} {env : Ev} {h : Hh} (enc : α → D) (p : α → Bool) (f : α → D) (hs : still h = true)
    (xs : List α) (step : ∀ x ∈ xs, ∃ env1, g (enc x) (wipeE env own) h = .ok env1 h ∧ tt env1 h = .ok (p x) h ∧ (p x = true → fe env1 h = .ok (f x) h)) (acc : List D) (hl : acc.length + xs.length ≤ big) :
    lcL own still g tt fe (xs.map enc) acc env h = .ok (acc ++ (xs.filter p).map f) h := by
  induction xs generalizing acc with
  | nil => simp [lcL, hs]
  | cons x xs ih =>
    obtain ⟨env1, h1, h2, h3⟩ := step x (List.mem_cons_self ..)
    have ih := ih (fun y hy => step y (List.mem_cons_of_mem _ hy))
    rw [List.length_cons] at hl
    rw [List.map_cons, lcL]
    dsimp only
    rw [hs]
    simp only [if_true, h1, h2]
    cases q : p x with
    | false =>
      simp only
      rw [ih acc (by omega), List.filter_cons, q]
      rfl
    | true =>
      simp only [h3 q]
      rw [if_pos (by omega), ih _ (by rw [List.length_append, List.length_singleton]; omega), List.filter_cons, q]
      simp
/-- .. without a test -/
theorem lcL_map {α : Type} {own : List Nat} {still : Hh → Bool} {g : DG} {tt : Ev → Hh → Oc Bool} {fe : DE} {env : Ev} {h : Hh} (enc : α → D) (f : α → D) (hs : still h = true)
    (xs : List α) (step : ∀ x ∈ xs, ∃ env1, g (enc x) (wipeE env own) h = .ok env1 h ∧ tt env1 h = .ok true h ∧ fe env1 h = .ok (f x) h) (acc : List D) (hl : acc.length + xs.length ≤ big) :
    lcL own still g tt fe (xs.map enc) acc env h = .ok (acc ++ xs.map f) h := by
  have := lcL_pure (own := own) (env := env) enc (fun _ => true) f hs xs (fun x hx => let ⟨e, a, b, c⟩ := step x hx; ⟨e, a, b, fun _ => c⟩) acc hl
  rw [this, List.filter_eq_self.mpr (fun _ _ => rfl)]
/-- a comprehension that changes cells -/
theorem WP_lc {α : Type} {own : List Nat} {still : Hh → Bool} {g : DG} {tt : Ev → Hh → Oc Bool} {fe : DE} {env : Ev} {Q : List D → Hh → Prop} (enc : α → D) (xs : List α) (Inv : List α → List α → List D → Hh → Prop)
    (hs : ∀ done rest acc h, Inv done rest acc h → still h = true)
    (hl : ∀ done rest acc h, Inv done rest acc h → acc.length < big)
    (step : ∀ done x rest acc h, xs = done ++ x :: rest → Inv done (x :: rest) acc h → WP (g (enc x) (wipeE env own) h) fun env1 h1 => WP (tt env1 h1) fun c h2 =>
      if c = true then WP (fe env1 h2) fun y h3 => Inv (done ++ [x]) rest (acc ++ [y]) h3 else Inv (done ++ [x]) rest acc h2)
    (fin : ∀ acc h, Inv xs [] acc h → Q acc h) {h : Hh} (ini : Inv [] xs [] h) : WP (lcL own still g tt fe (xs.map enc) [] env h) Q := by
  suffices H : ∀ (rest done : List α) acc h, xs = done ++ rest → Inv done rest acc h → WP (lcL own still g tt fe (rest.map enc) acc env h) Q from H xs [] [] h rfl ini
  intro rest
  induction rest with
  | nil =>
    intro done acc h e i
    show WP (if still h = true then .ok acc h else .bad) Q
    rw [hs _ _ _ _ i]
    rw [List.append_nil] at e
    subst e
    exact WP.mk (fin _ _ i)
  | cons x rest ih =>
    intro done acc h e i
    have st := step done x rest acc h e i
    have hl' := hl _ _ _ _ i
    have e' : xs = (done ++ [x]) ++ rest := by rw [e]; simp
    rw [List.map_cons, lcL]
    dsimp only
    rw [hs _ _ _ _ i]
    simp only [if_true]
    revert st
    cases g (enc x) (wipeE env own) h with
    | bad => exact fun w => w.nob
    | ex _ _ => exact fun w => w.nox
    | ok env1 h1 =>
      intro st
      have st := st.out
      revert st
      simp only
      cases tt env1 h1 with
      | bad => exact fun w => w.nob
      | ex _ _ => exact fun w => w.nox
      | ok c h2 =>
        intro st
        rw [WP_ok] at st
        cases c with
        | false => exact ih _ _ _ e' st
        | true =>
          simp only [if_true] at st
          revert st
          simp only
          cases fe env1 h2 with
          | bad => exact fun w => w.nob
          | ex _ _ => exact fun w => w.nox
          | ok y h3 =>
            intro st
            have st := st.out
            simp only
            rw [if_pos hl']
            exact ih _ _ _ e' st
/-- while -/
theorem WP_wh {c : DB} {b : DS} {Q : Fl × Ev → Hh → Prop} (μ : Ev → Hh → Nat) (Inv : Ev → Hh → Prop) (N : Nat)
    (step : ∀ env h, Inv env h → WP (c env h) fun k h1 => if k = true then WP (b env h1) fun r h2 => match r with
      | (.next, e2) => Inv e2 h2 ∧ μ e2 h2 < μ env h
      | (.cont, e2) => Inv e2 h2 ∧ μ e2 h2 < μ env h
      | (.brk, e2) => Q (.next, e2) h2
      | (.ret d, e2) => Q (.ret d, e2) h2 else Q (.next, env) h1) {env : Ev} {h : Hh} (ini : Inv env h) (hm : μ env h < N) : WP (sWh c b N env h) Q := by
  induction N generalizing env h with
  | zero => omega
  | succ N ih =>
    rw [sWh, WP_bind]
    refine (step env h ini).mono fun k h1 w => ?_
    cases k with
    | false => exact WP.mk w
    | true =>
      simp only [if_true] at w ⊢
      rw [WP_bind]
      refine w.mono fun r h2 w => ?_
      obtain ⟨fl, e2⟩ := r
      cases fl with
      | next => exact ih w.1 (by have := w.2; omega)
      | cont => exact ih w.1 (by have := w.2; omega)
      | brk => exact WP.mk w
      | ret d => exact WP.mk w
end Q
end
section
namespace Q
open PySem PySem.Spec PyProof.Rows L2

/-! ## plain data: `shp` -/
mutual
theorem shp_mono : ∀ {n m : Nat} {d : D}, shp n d = true → n ≤ m → shp m d = true
  | n, m, .non, _, _ => by unfold shp; rfl
  | n, m, .bl _, _, _ => by unfold shp; rfl
  | n, m, .int _, _, _ => by unfold shp; rfl
  | n, m, .str s, h, _ => by unfold shp at h ⊢; exact h
  | 0, m, .tup _, h, _ => by unfold shp at h; cases h
  | 0, m, .fl _, h, _ => by unfold shp at h; cases h
  | 0, m, .rl _, h, _ => by unfold shp at h; cases h
  | n + 1, 0, _, _, l => by omega
  | n + 1, m + 1, .tup ds, h, l => by unfold shp at h ⊢; exact shps_mono h (by omega)
  | n + 1, m + 1, .fl ds, h, l => by unfold shp at h ⊢; exact shps_mono h (by omega)
  | n + 1, m + 1, .rl ds, h, l => by unfold shp at h ⊢; exact shps_mono h (by omega)
  | 0, _, .pr _, h, _ => by unfold shp at h; cases h
  | 0, _, .ml _, h, _ => by unfold shp at h; cases h
  | 0, _, .md _, h, _ => by unfold shp at h; cases h
  | _ + 1, _ + 1, .pr _, h, _ => by unfold shp at h; cases h
  | _ + 1, _ + 1, .ml _, h, _ => by unfold shp at h; cases h
  | _ + 1, _ + 1, .md _, h, _ => by unfold shp at h; cases h
theorem shps_mono : ∀ {n m : Nat} {ds : List D}, shps n ds = true → n ≤ m → shps m ds = true
  | n, m, [], _, _ => by unfold shps; rfl
  | n, m, d :: ds, h, l => by
    unfold shps at h ⊢
    rw [Bool.and_eq_true] at h ⊢
    exact ⟨shp_mono h.1 l, shps_mono h.2 l⟩
end
theorem shps_all {n : Nat} : ∀ {ds : List D}, shps n ds = true ↔ ∀ d ∈ ds, shp n d = true
  | [] => by unfold shps; simp
  | d :: ds => by unfold shps; rw [Bool.and_eq_true, shps_all]; simp
theorem shps_map {α : Type} {n : Nat} {f : α → D} {l : List α} (h : ∀ a ∈ l, shp n (f a) = true) : shps n (l.map f) = true := by
  rw [shps_all]
  intro d hd
  obtain ⟨a, ha, rfl⟩ := List.mem_map.mp hd
  exact h a ha
theorem shps_append {n : Nat} {xs ys : List D} (h : shps n xs = true) (h' : shps n ys = true) : shps n (xs ++ ys) = true := by
  rw [shps_all] at *
  intro d hd
  rcases List.mem_append.mp hd with z | z
  · exact h d z
  · exact h' d z
mutual
theorem frz_shp (h : Hh) (j : Nat) : ∀ {n k : Nat} {d : D}, shp n d = true → n < k → frz h j k d = some d
  | n, k + 1, .non, _, _ => rfl
  | n, k + 1, .bl _, _, _ => rfl
  | n, k + 1, .int _, _, _ => rfl
  | n, k + 1, .str _, _, _ => rfl
  | 0, k + 1, .tup ds, s, _ => by unfold shp at s; cases s
  | 0, k + 1, .fl ds, s, _ => by unfold shp at s; cases s
  | 0, k + 1, .rl ds, s, _ => by unfold shp at s; cases s
  | 0, k + 1, .pr ds, s, _ => by unfold shp at s; cases s
  | 0, k + 1, .ml ds, s, _ => by unfold shp at s; cases s
  | 0, k + 1, .md ds, s, _ => by unfold shp at s; cases s
  | 0, k + 1, .fn ds, s, _ => by unfold shp at s; cases s
  | n + 1, k + 1, .tup ds, s, l => by
    unfold shp at s
    show (mapO (frz h j k) ds).map D.tup = _
    rw [frzs_shp h j s (by omega)]; rfl
  | n + 1, k + 1, .fl ds, s, l => by
    unfold shp at s
    show (mapO (frz h j k) ds).map D.fl = _
    rw [frzs_shp h j s (by omega)]; rfl
  | n + 1, k + 1, .rl ds, s, l => by
    unfold shp at s
    show (mapO (frz h j k) ds).map D.rl = _
    rw [frzs_shp h j s (by omega)]; rfl
  | n + 1, k + 1, .pr ds, s, _ => by unfold shp at s; cases s
  | n + 1, k + 1, .ml ds, s, _ => by unfold shp at s; cases s
  | n + 1, k + 1, .md ds, s, _ => by unfold shp at s; cases s
  | n + 1, k + 1, .fn ds, s, _ => by unfold shp at s; cases s
  | n, 0, _, _, l => by omega
theorem frzs_shp (h : Hh) (j : Nat) : ∀ {n k : Nat} {ds : List D}, shps n ds = true → n < k → mapO (frz h j k) ds = some ds
  | n, k, [], _, _ => rfl
  | n, k, d :: ds, s, l => by
    unfold shps at s
    rw [Bool.and_eq_true] at s
    rw [mapO, frz_shp h j s.1 l, frzs_shp h j s.2 l]
end
mutual
theorem low_shp (j : Nat) : ∀ {n : Nat} {d : D}, shp n d = true → low j d = true
  | n, .non, _ => by unfold low; rfl
  | n, .bl _, _ => by unfold low; rfl
  | n, .int _, _ => by unfold low; rfl
  | n, .str _, _ => by unfold low; rfl
  | 0, .tup ds, s => by unfold shp at s; cases s
  | 0, .fl ds, s => by unfold shp at s; cases s
  | 0, .rl ds, s => by unfold shp at s; cases s
  | 0, .pr ds, s => by unfold shp at s; cases s
  | 0, .ml ds, s => by unfold shp at s; cases s
  | 0, .md ds, s => by unfold shp at s; cases s
  | 0, .fn ds, s => by unfold shp at s; cases s
  | n + 1, .tup ds, s => by unfold shp at s; unfold low; exact lows_shp j s
  | n + 1, .fl ds, s => by unfold shp at s; unfold low; exact lows_shp j s
  | n + 1, .rl ds, s => by unfold shp at s; unfold low; exact lows_shp j s
  | n + 1, .pr ds, s => by unfold shp at s; cases s
  | n + 1, .ml ds, s => by unfold shp at s; cases s
  | n + 1, .md ds, s => by unfold shp at s; cases s
  | n + 1, .fn ds, s => by unfold shp at s; cases s
theorem lows_shp (j : Nat) : ∀ {n : Nat} {ds : List D}, shps n ds = true → lows j ds = true
  | n, [], _ => by unfold lows; rfl
  | n, d :: ds, s => by
    unfold shps at s
    rw [Bool.and_eq_true] at s
    unfold lows
    rw [low_shp j s.1, lows_shp j s.2]; rfl
end
theorem view_shp (h : Hh) {n : Nat} {d : D} (s : shp n d = true) : view h d = d := by
  cases d with
  | ml i => cases n <;> (unfold shp at s; cases s)
  | _ => rfl
theorem sh_int (n : Nat) (i : Int) : shp n (.int i) = true := by cases n <;> (unfold shp; rfl)
theorem sh_non (n : Nat) : shp n .non = true := by cases n <;> (unfold shp; rfl)
theorem sh_bl (n : Nat) (b : Bool) : shp n (.bl b) = true := by cases n <;> (unfold shp; rfl)
theorem sh_tup (n : Nat) (ds : List D) : shp (n + 1) (.tup ds) = shps n ds := by rw [shp]
theorem sh_fl (n : Nat) (ds : List D) : shp (n + 1) (.fl ds) = shps n ds := by rw [shp]
theorem sh_rl (n : Nat) (ds : List D) : shp (n + 1) (.rl ds) = shps n ds := by rw [shp]
theorem sh_nil (n : Nat) : shps n [] = true := by rw [shps]
theorem sh_cons (n : Nat) (d : D) (ds : List D) : shps n (d :: ds) = (shp n d && shps n ds) := by rw [shps]

/-! ## the end of a call -/
def ret (m : Bool) (ds : List D) (h : Hh) : Oc D := match m with
  | true => .ok (.ml h.length) (h ++ [.lst ds])
  | false => .ok (.fl ds) h
theorem ret_f (ds : List D) (h : Hh) : ret false ds h = .ok (.fl ds) h := (rfl)
theorem ret_t (ds : List D) (h : Hh) : ret true ds h = .ok (.ml h.length) (h ++ [.lst ds]) := (rfl)
theorem mk_f (ds : List D) (h : Hh) : mk false ds h = .ok (.fl ds) h := (rfl)
theorem mk_t {ds : List D} (h : Hh) {n : Nat} (s : shps n ds = true) : mk true ds h = .ok (.ml h.length) (h ++ [.lst ds]) := by
  unfold mk
  rw [lows_shp _ s]; rfl
theorem mk_ret {m : Bool} {ds : List D} (h : Hh) {n : Nat} (s : shps n ds = true) : mk m ds h = ret m ds h := by
  cases m with
  | false => rfl
  | true => exact mk_t h s
theorem fin_shp {m : Bool} {n : Nat} {h' : Hh} {d : D} (s : shp 7 d = true) : fin m n h' d = .ok d (h'.take n) := by
  have f0 : fin0 n h' d = .ok d (h'.take n) := by
    unfold fin0
    rw [frz_shp h' n s (by omega)]
  cases m with
  | false => exact f0
  | true =>
    cases d with
    | ml i => unfold shp at s; cases s
    | md i => unfold shp at s; cases s
    | fn i => unfold shp at s; cases s
    | _ => exact f0
theorem fin_ml {m : Bool} {n : Nat} {h' : Hh} {i : Nat} {ds : List D} (e : h'[i]? = some (.lst ds)) (l : n ≤ i) (s : shps 6 ds = true) (hn : n ≤ h'.length) : fin m n h' (.ml i) = ret m ds (h'.take n) := by
  have f1 : mapO (frz h' n 7) ds = some ds := frzs_shp h' n s (by omega)
  have f2 : mapO (frz h' n 8) ds = some ds := frzs_shp h' n s (by omega)
  cases m with
  | false =>
    have f3 : frz h' n 8 (.ml i) = some (.fl ds) := by
      show (if i < n then _ else match h'[i]? with | some (.lst ds) => _ | _ => none) = _
      rw [if_neg (by omega), e]
      show (mapO (frz h' n 7) ds).map D.fl = _
      rw [f1]; rfl
    show fin0 n h' (.ml i) = _
    unfold fin0
    rw [f3]; rfl
  | true =>
    show (if i < n then fin0 n h' (.ml i) else finC n h' i (.ml n)) = _
    rw [if_neg (by omega)]
    unfold finC
    rw [e]
    show (match (mapO (frz h' n 8) ds).map Cell.lst with | some c' => Oc.ok (D.ml n) (h'.take n ++ [c']) | none => .bad) = _
    rw [f2]
    show Oc.ok (D.ml n) (h'.take n ++ [.lst ds]) = _
    unfold ret
    rw [List.length_take, Nat.min_eq_left hn]
/-- what follows a body -/
def KF (m : Bool) (n : Nat) (Q : D → Hh → Prop) (r : Fl × Ev) (h' : Hh) : Prop := match r with
  | (.ret d, _) => WP (fin m n h' d) Q
  | (.next, _) => WP (fin m n h' .non) Q
  | _ => False
theorem KF_ret (m : Bool) (n : Nat) (Q : D → Hh → Prop) (d : D) (env : Ev) (h' : Hh) : KF m n Q (.ret d, env) h' = WP (fin m n h' d) Q := (rfl)
theorem KF_next (m : Bool) (n : Nat) (Q : D → Hh → Prop) (env : Ev) (h' : Hh) : KF m n Q (.next, env) h' = Q .non (h'.take n) := by
  show WP (fin m n h' .non) Q = _
  rw [fin_shp (sh_non 7), WP_ok]
def Has (P : Nat → Option Fn) (i np L : Nat) (b : List S) : Prop := ∃ nm, P i = some ⟨nm, np, b⟩ ∧ nm.length = L
theorem WP_run {P : Nat → Option Fn} {k i np L : Nat} {b : List S} {m : Bool} {ds : List D} {h : Hh} {Q : D → Hh → Prop} (H : Has P i np L b) (hl : ds.length = np)
    (w : WP (evSs (evS (run P k) 300) b (ds.map some ++ List.replicate (L - np) none) h) (KF m h.length Q)) : WP (run P (k + 1) i m ds h) Q := by
  obtain ⟨nm, e, hn⟩ := H
  subst hn hl
  show WP (match P i with | some fn => callB (run P k) fn m ds h | none => .bad) Q
  rw [e]
  show WP (callB (run P k) ⟨nm, ds.length, b⟩ m ds h) Q
  unfold callB
  rw [if_pos rfl]
  revert w
  show WP (evSs (evS (run P k) FUEL) b (start0 ⟨nm, ds.length, b⟩ ds) h) (KF m h.length Q) → _
  cases evSs (evS (run P k) FUEL) b (start0 ⟨nm, ds.length, b⟩ ds) h with
  | bad => exact fun w => w.nob
  | ex _ _ => exact fun w => w.nox
  | ok r h' =>
    intro w
    have w := w.out
    obtain ⟨fl, e⟩ := r
    cases fl with
    | ret d => exact w
    | next => exact w
    | brk => exact w.elim
    | cont => exact w.elim

theorem WPx_run {P : Nat → Option Fn} {k i np L C : Nat} {b : List S} {m : Bool} {ds : List D} {h : Hh} (H : Has P i np L b) (hl : ds.length = np)
    (w : WPx ⟨C, none⟩ (evSs (evS (run P k) 300) b (ds.map some ++ List.replicate (L - np) none) h) fun h' => h'.take h.length = h) : run P (k + 1) i m ds h = .ex ⟨C, none⟩ h := by
  obtain ⟨nm, e, hn⟩ := H
  subst hn hl
  show (match P i with | some fn => callB (run P k) fn m ds h | none => .bad) = _
  rw [e]
  show callB (run P k) ⟨nm, ds.length, b⟩ m ds h = _
  unfold callB
  rw [if_pos rfl]
  obtain ⟨h', e1, e2⟩ := WPx.out w
  have e1 : evSs (evS (run P k) FUEL) b (start0 ⟨nm, ds.length, b⟩ ds) h = .ex ⟨C, none⟩ h' := e1
  rw [e1]
  show Oc.ex ⟨C, none⟩ (h'.take h.length) = _
  rw [e2]

/-! ## the heap: what was there, and a call's own cells -/
section
variable {h cs ds : Hh} {i : Nat} {c : Cell}
theorem hget0 : (h ++ cs)[h.length]? = cs[0]? := by rw [List.getElem?_append_right (Nat.le_refl _), Nat.sub_self]
theorem hget : (h ++ cs)[h.length + i]? = cs[i]? := by rw [List.getElem?_append_right (Nat.le_add_right _ _), Nat.add_sub_cancel_left]
theorem hset0 : (h ++ cs).set h.length c = h ++ cs.set 0 c := by rw [List.set_append_right _ _ (Nat.le_refl _), Nat.sub_self]
theorem hsetI : (h ++ cs).set (h.length + i) c = h ++ cs.set i c := by rw [List.set_append_right _ _ (Nat.le_add_right _ _), Nat.add_sub_cancel_left]
theorem htake : (h ++ cs).take h.length = h := List.take_left' rfl
theorem happ : (h ++ cs) ++ ds = h ++ (cs ++ ds) := List.append_assoc ..
theorem happ_nil : h ++ ([] : Hh) = h := List.append_nil _
end

/-! ## values -/
section
variable {h : Hh}
theorem vAdd (m : Bool) (i j : Int) : vBin m .add (.int i) (.int j) h = .ok (.int (i + j)) h := (rfl)
theorem vSub (m : Bool) (i j : Int) : vBin m .sub (.int i) (.int j) h = .ok (.int (i - j)) h := (rfl)
theorem vMul (m : Bool) (i j : Int) (b : bnd i = true ∨ bnd j = true) : vBin m .mul (.int i) (.int j) h = .ok (.int (i * j)) h := by
  show (if (bnd i || bnd j) || (wid i && wid j) then _ else _) = _
  rw [if_pos (by rw [Bool.or_eq_true, Bool.or_eq_true]; exact .inl b)]
theorem vMulW (m : Bool) (i j : Int) (hi : i.natAbs < 2 ^ 8000) (hj : j.natAbs < 2 ^ 8000) : vBin m .mul (.int i) (.int j) h = .ok (.int (i * j)) h := by
  show (if (bnd i || bnd j) || (wid i && wid j) then _ else _) = _
  rw [if_pos (by rw [Bool.or_eq_true, Bool.and_eq_true]; exact .inr ⟨decide_eq_true hi, decide_eq_true hj⟩)]
theorem vFdiv (m : Bool) (i j : Int) (b : 0 < j ∧ j < 1073741824) : vBin m .fdiv (.int i) (.int j) h = .ok (.int (i / j)) h := by
  show (if 0 < j ∧ j.natAbs < 2 ^ 8000 then _ else _) = _
  rw [if_pos ⟨b.1, Nat.lt_of_lt_of_le (show j.natAbs < 2 ^ 30 by omega) (Nat.pow_le_pow_right (by omega) (by omega))⟩]
theorem vFdivW (m : Bool) (i j : Int) (b : 0 < j ∧ j.natAbs < 2 ^ 8000) : vBin m .fdiv (.int i) (.int j) h = .ok (.int (i / j)) h := by
  show (if 0 < j ∧ j.natAbs < 2 ^ 8000 then _ else _) = _
  rw [if_pos b]
theorem vMod (m : Bool) (i j : Int) (b : 0 < j) : vBin m .mod (.int i) (.int j) h = .ok (.int (i % j)) h := by
  show (if 0 < j then _ else _) = _
  rw [if_pos b]
theorem vAddT (m : Bool) (xs ys : List D) (b : xs.length + ys.length ≤ big) : vBin m .add (.tup xs) (.tup ys) h = .ok (.tup (xs ++ ys)) h := by
  show (if xs.length + ys.length ≤ big then _ else _) = _
  rw [if_pos b]
theorem vAddL (m : Bool) (xs ys : List D) (b : xs.length + ys.length ≤ big) : vBin m .add (.fl xs) (.fl ys) h = mk m (xs ++ ys) h := by
  show (if xs.length + ys.length ≤ big then _ else _) = _
  rw [if_pos b]
theorem vNeg_i (i : Int) : vNeg (.int i) h = .ok (.int (-i)) h := (rfl)
theorem vNot_b (b : Bool) : vNot (.bl b) h = .ok (.bl (!b)) h := (rfl)
theorem vEq_ii (neg : Bool) (i j : Int) : vEq neg (.int i) (.int j) h = .ok (.bl (neg != decide (i = j))) h := (rfl)
theorem vEq_shp (neg : Bool) {a b : D} (sa : shp 8 a = true) (sb : shp 8 b = true) : vEq neg a b h = .ok (.bl (neg != deq a b)) h := by
  unfold vEq
  split
  · unfold deq; rfl
  · rw [view_shp h sa, view_shp h sb, sa, sb]; rfl
theorem cEq (a b : D) : vCmp .eq a b h = vEq false a b h := by cases a <;> cases b <;> rfl
theorem cNe (a b : D) : vCmp .ne a b h = vEq true a b h := by cases a <;> cases b <;> rfl
theorem cLt (i j : Int) : vCmp .lt (.int i) (.int j) h = .ok (.bl (decide (i < j))) h := (rfl)
theorem cLe (i j : Int) : vCmp .le (.int i) (.int j) h = .ok (.bl (decide (i ≤ j))) h := (rfl)
theorem cGt (i j : Int) : vCmp .gt (.int i) (.int j) h = .ok (.bl (decide (j < i))) h := (rfl)
theorem cGe (i j : Int) : vCmp .ge (.int i) (.int j) h = .ok (.bl (decide (j ≤ i))) h := (rfl)
theorem cIn (a b : D) : vCmp .isin a b h = vIn false a b h := by cases a <;> cases b <;> rfl
theorem cNotin (a b : D) : vCmp .notin a b h = vIn true a b h := by cases a <;> cases b <;> rfl
def isNon : D → Bool
  | .non => true
  | _ => false
theorem cIs (a : D) : vCmp .is a .non h = .ok (.bl (isNon a)) h := by cases a <;> rfl
theorem cIsnot (a : D) : vCmp .isnot a .non h = .ok (.bl (!isNon a)) h := by cases a <;> rfl
theorem isNon_n : isNon .non = true := (rfl)
theorem isNon_i (i : Int) : isNon (.int i) = false := (rfl)
theorem isNon_b (b : Bool) : isNon (.bl b) = false := (rfl)
theorem isNon_t (ds : List D) : isNon (.tup ds) = false := (rfl)
theorem isNon_fl (ds : List D) : isNon (.fl ds) = false := (rfl)
theorem vIn_t (neg : Bool) {a : D} {ds : List D} (sa : shp 7 a = true) (sb : shps 7 ds = true) : vIn neg a (.tup ds) h = .ok (.bl (neg != ds.any fun z => deq z a)) h := by
  show (if shp 7 (view h a) && shps 7 ds then Oc.ok (D.bl (neg != ds.any fun z => deq z (view h a))) h else .bad) = _
  rw [view_shp h sa, sa, sb]; rfl
theorem vIn_f (neg : Bool) {a : D} {ds : List D} (sa : shp 7 a = true) (sb : shps 7 ds = true) : vIn neg a (.fl ds) h = .ok (.bl (neg != ds.any fun z => deq z a)) h := by
  show (if shp 7 (view h a) && shps 7 ds then Oc.ok (D.bl (neg != ds.any fun z => deq z (view h a))) h else .bad) = _
  rw [view_shp h sa, sa, sb]; rfl
theorem vIn_m (neg : Bool) {a : D} {i : Nat} {ds : List D} (e : h[i]? = some (.lst ds)) (sa : shp 7 a = true) (sb : shps 7 ds = true) : vIn neg a (.ml i) h = .ok (.bl (neg != ds.any fun z => deq z a)) h := by
  have q : seqOf h (.ml i) = some ds := by
    show (match h[i]? with | some (.lst ds) => some ds | _ => none) = _
    rw [e]
  show (match seqOf h (.ml i) with | some ds => (if shp 7 (view h a) && shps 7 ds then Oc.ok (D.bl (neg != ds.any fun z => deq z (view h a))) h else .bad) | none => .bad) = _
  rw [q]
  show (if shp 7 (view h a) && shps 7 ds then Oc.ok (D.bl (neg != ds.any fun z => deq z (view h a))) h else .bad) = _
  rw [view_shp h sa, sa, sb]; rfl
theorem atI_nat {α : Type} (xs : List α) (k : Nat) : atI xs (k : Nat) = xs[k]? := by
  unfold atI ixN
  rw [if_pos (by omega)]
  split
  · simp
  · rename_i q
    rw [List.getElem?_eq_none (by omega)]; rfl
theorem atI_0 {α : Type} (a : α) (l : List α) : atI (a :: l) 0 = some a := by
  have := atI_nat (a :: l) 0
  simpa using this
theorem atI_1 {α : Type} (a b : α) (l : List α) : atI (a :: b :: l) 1 = some b := by
  have := atI_nat (a :: b :: l) 1
  simpa using this
theorem atI_2 {α : Type} (a b c : α) (l : List α) : atI (a :: b :: c :: l) 2 = some c := by
  have := atI_nat (a :: b :: c :: l) 2
  simpa using this
theorem atI_3 {α : Type} (a b c d : α) (l : List α) : atI (a :: b :: c :: d :: l) 3 = some d := by
  have := atI_nat (a :: b :: c :: d :: l) 3
  simpa using this
/-- an index -/
def kIx (o : Option D) (h : Hh) : Oc D := match o with
  | some d => .ok d h
  | none => .bad
theorem kIx_s (d : D) : kIx (some d) h = .ok d h := (rfl)
theorem vIx_t (ds : List D) (k : Int) : vIx (.tup ds) (.int k) h = kIx (atI ds k) h := (rfl)
theorem vIx_f (ds : List D) (k : Int) : vIx (.fl ds) (.int k) h = kIx (atI ds k) h := (rfl)
theorem vIx_r (ds : List D) (k : Int) : vIx (.rl ds) (.int k) h = kIx (atI ds k) h := (rfl)
def lstAt (o : Option Cell) : Option (List D) := match o with
  | some (.lst ds) => some ds
  | _ => none
theorem lstAt_s (ds : List D) : lstAt (some (.lst ds)) = some ds := (rfl)
theorem seq_m (i : Nat) : seqOf h (.ml i) = lstAt h[i]? := (rfl)
theorem lst_m (i : Nat) : lstOf h (.ml i) = lstAt h[i]? := (rfl)
def kIxM (o : Option (List D)) (k : Int) (h : Hh) : Oc D := match o with
  | some ds => kIx (atI ds k) h
  | none => .bad
theorem kIxM_s (ds : List D) (k : Int) : kIxM (some ds) k h = kIx (atI ds k) h := (rfl)
theorem vIx_m (i : Nat) (k : Int) : vIx (.ml i) (.int k) h = kIxM (lstAt h[i]?) k h := by
  show (match seqOf h (.ml i), D.int k with | some ds, .int k => _ | _, _ => _) = _
  rw [seq_m]
  cases lstAt h[i]? <;> rfl
theorem isTys_1 (t : Ty) (d : D) {b : Bool} (e : isTy t d = some b) : isTys [t] d = some b := by
  unfold isTys
  rw [e]
  cases b <;> rfl
/-- isinstance of plain data -/
def tyB (t : Ty) : D → Bool
  | .non => false
  | .bl _ => match t with | .int => true | .bool => true | _ => false
  | .int _ => match t with | .int => true | _ => false
  | .str _ => match t with | .str => true | _ => false
  | .tup _ => match t with | .tuple => true | _ => false
  | .fl _ => match t with | .list => true | _ => false
  | _ => false
theorem vIsi1 (t : Ty) {d : D} {n : Nat} (s : shp n d = true) (hr : ∀ ds, d ≠ .rl ds) : vIsi [t] d h = .ok (.bl (tyB t d)) h := by
  cases d with
  | ml i => cases n <;> (unfold shp at s; cases s)
  | md i => cases n <;> (unfold shp at s; cases s)
  | fn i => cases n <;> (unfold shp at s; cases s)
  | pr i => cases n <;> (unfold shp at s; cases s)
  | rl ds => exact absurd rfl (hr ds)
  | _ => cases t <;> rfl
theorem vLen_t (ds : List D) : vLen (.tup ds) h = .ok (.int ds.length) h := (rfl)
theorem vLen_f (ds : List D) : vLen (.fl ds) h = .ok (.int ds.length) h := (rfl)
theorem vLen_r (ds : List D) : vLen (.rl ds) h = .ok (.int ds.length) h := (rfl)
def kLen (o : Option (List D)) (h : Hh) : Oc D := match o with
  | some ds => .ok (.int ds.length) h
  | none => .bad
theorem kLen_s (ds : List D) : kLen (some ds) h = .ok (.int ds.length) h := (rfl)
theorem vLen_m (i : Nat) : vLen (.ml i) h = kLen (lstAt h[i]?) h := by
  show (match seqOf h (.ml i) with | some xs => _ | none => _) = _
  rw [seq_m]
  cases lstAt h[i]? <;> rfl
def kTup (o : Option (List D)) (h : Hh) : Oc D := match o with
  | some ds => .ok (.tup ds) h
  | none => .bad
theorem kTup_s (ds : List D) : kTup (some ds) h = .ok (.tup ds) h := (rfl)
theorem vTuple_t (ds : List D) : vTuple (.tup ds) h = .ok (.tup ds) h := (rfl)
theorem vTuple_f (ds : List D) : vTuple (.fl ds) h = .ok (.tup ds) h := (rfl)
theorem vTuple_m (i : Nat) : vTuple (.ml i) h = kTup (lstAt h[i]?) h := by
  show (match lstOf h (.ml i) with | some xs => _ | none => _) = _
  rw [lst_m]
  cases lstAt h[i]? <;> rfl
theorem vList_t (m : Bool) (ds : List D) : vList m (.tup ds) h = mk m ds h := (rfl)
theorem vList_f (m : Bool) (ds : List D) : vList m (.fl ds) h = mk m ds h := (rfl)
theorem vSorted_t (m : Bool) (ds : List D) : vSorted m (.tup ds) h = vSort m ds h := (rfl)
theorem vSorted_f (m : Bool) (ds : List D) : vSorted m (.fl ds) h = vSort m ds h := (rfl)
theorem vInt_i (i : Int) : vInt (.int i) h = .ok (.int i) h := (rfl)
theorem vInt_b (b : Bool) : vInt (.bl b) h = .ok (.int (if b then 1 else 0)) h := (rfl)
theorem vAbs_i (i : Int) : vAbs (.int i) h = .ok (.int (if i < 0 then -i else i)) h := (rfl)
theorem vBlt_len (m : Bool) (ds : List D) : vBlt .len m ds h = v1 vLen ds h := (rfl)
theorem vBlt_tuple (m : Bool) (ds : List D) : vBlt .tuple m ds h = v1 vTuple ds h := (rfl)
theorem vBlt_list (m : Bool) (ds : List D) : vBlt .list m ds h = v1 (vList m) ds h := (rfl)
theorem vBlt_sorted (m : Bool) (ds : List D) : vBlt .sorted m ds h = v1 (vSorted m) ds h := (rfl)
theorem vBlt_sum (m : Bool) (ds : List D) : vBlt .sum m ds h = v1 vSum ds h := (rfl)
theorem vBlt_max (m : Bool) (ds : List D) : vBlt .max m ds h = vMaxD ds h := (rfl)
theorem vBlt_min (m : Bool) (ds : List D) : vBlt .min m ds h = vMinD ds h := (rfl)
theorem vBlt_abs (m : Bool) (ds : List D) : vBlt .abs m ds h = v1 vAbs ds h := (rfl)
theorem vBlt_int (m : Bool) (ds : List D) : vBlt .int m ds h = v1 vInt ds h := (rfl)
theorem v1_1 (op : D → Hh → Oc D) (d : D) : v1 op [d] h = op d h := (rfl)
theorem vMax2 (i j : Int) : vMaxD [.int i, .int j] h = .ok (.int (if j > i then j else i)) h := (rfl)
theorem vMin2 (i j : Int) : vMinD [.int i, .int j] h = .ok (.int (if j < i then j else i)) h := (rfl)
/-! lists that change -/
theorem mAppend {i : Nat} {xs : List D} {d : D} {m : Bool} (e : h[i]? = some (.lst xs)) (l : xs.length < big) (s : low i d = true) : vMth .append m (.ml i) [d] h = .ok .non (h.set i (.lst (xs ++ [d]))) := by
  show (match h[i]? with | some (.lst xs) => _ | _ => _) = _
  rw [e]
  dsimp only
  rw [if_pos ⟨l, s⟩]
theorem tyM_append {i : Nat} {xs : List D} (e : h[i]? = some (.lst xs)) : tyM .append (.ml i) h = true := by
  show (lstOf h (.ml i)).isSome = true
  rw [lst_m, e]; rfl
theorem tyM_pop {i : Nat} {xs : List D} (e : h[i]? = some (.lst xs)) : tyM .pop (.ml i) h = true := by
  show (lstOf h (.ml i)).isSome = true
  rw [lst_m, e]; rfl
theorem kMth_append {i : Nat} {xs : List D} {d : D} {m : Bool} {g : Hh → Oc (List D)} {h' : Hh} (e : h[i]? = some (.lst xs)) (eg : g h = .ok [d] h') (e' : h'[i]? = some (.lst xs)) (l : xs.length < big) (s : low i d = true) : kMth .append m g (.ml i) h = .ok .non (h'.set i (.lst (xs ++ [d]))) := by
  unfold kMth
  rw [tyM_append e, if_pos rfl, eg, ok_bind, mAppend e' l s]
theorem mPop {i : Nat} {xs : List D} {d : D} {m : Bool} (e : h[i]? = some (.lst (xs ++ [d]))) : vMth .pop m (.ml i) [] h = .ok d (h.set i (.lst xs)) := by
  show (match h[i]? with | some (.lst xs) => _ | _ => _) = _
  rw [e]
  dsimp only
  have : (xs ++ [d])[(xs ++ [d]).length - 1]? = some d := by simp
  rw [this]
  simp
theorem vSet_ml {i : Nat} {xs : List D} {d : D} {k : Nat} (e : h[i]? = some (.lst xs)) (l : k < xs.length) (s : low i d = true) : vSet (.ml i) (.int (k : Nat)) d h = .ok () (h.set i (.lst (xs.set k d))) := by
  show vSetL i (k : Nat) d h = _
  unfold vSetL
  rw [e]
  dsimp only
  have : ixN xs.length (k : Nat) = some k := by
    unfold ixN
    rw [if_pos (by omega), if_pos (by omega)]; simp
  rw [this]
  dsimp only
  rw [if_pos s]
/-! what is walked -/
theorem src_t (ds : List D) : vSeq (.tup ds) h = .ok ⟨ds, fun _ => true⟩ h := (rfl)
theorem src_f (ds : List D) : vSeq (.fl ds) h = .ok ⟨ds, fun _ => true⟩ h := (rfl)
theorem src_r (ds : List D) : vSeq (.rl ds) h = .ok ⟨ds, fun _ => true⟩ h := (rfl)
theorem enum_t (ds : List D) : vEnum (.tup ds) h = .ok ⟨enI ds, fun _ => true⟩ h := (rfl)
theorem enum_f (ds : List D) : vEnum (.fl ds) h = .ok ⟨enI ds, fun _ => true⟩ h := (rfl)
theorem inRg_nat (n : Nat) (l : n < 4611686018427387904) : inRg (n : Nat) = true := by
  unfold inRg
  rw [decide_eq_true_eq]
  omega
theorem rg1 (n : Nat) (l : n ≤ 1000000) : kRg1 (.int (n : Nat)) h = .ok ⟨rgI 0 (n : Nat), fun _ => true⟩ h := by
  have l : n < 4611686018427387904 := by omega
  rw [kRg1_d]
  unfold vRg1
  simp only [inRg_nat n l, if_true]
theorem rg2 (m n : Nat) (l : n ≤ 1000000) (l' : m ≤ 1000000) : kRg2 (.int (m : Nat)) (.int (n : Nat)) h = .ok ⟨rgI (m : Nat) (n : Nat), fun _ => true⟩ h := by
  have l : n < 4611686018427387904 := by omega
  have l' : m < 4611686018427387904 := by omega
  rw [kRg2_d]
  unfold vRg2
  simp only [inRg_nat n l, inRg_nat m l', Bool.and_self, if_true]
end
theorem rgI_0 (n : Nat) : rgI 0 (n : Nat) = (List.range n).map fun k : Nat => D.int (k : Nat) := by
  unfold rgI
  simp
theorem enI_map {α : Type} (f : α → D) (xs : List α) : enI (xs.map f) = xs.zipIdx.map fun p => .pr [.int (p.2 : Nat), f p.1] := by
  unfold enI
  rw [List.zipIdx_map, List.map_map]
  rfl
theorem cut_take (xs : List D) (k : Nat) : cut xs none (some (k : Nat)) = xs.take k := by
  unfold cut HT.sIx
  simp only [Nat.sub_zero, List.drop_zero]
  rw [if_neg (by omega)]
  simp only [Int.toNat_natCast]
  rw [List.take_eq_take_iff]
  omega
theorem cut_drop (xs : List D) (k : Nat) : cut xs (some (k : Nat)) none = xs.drop k := by
  unfold cut HT.sIx
  simp only
  rw [if_neg (by omega)]
  simp only [Int.toNat_natCast]
  rw [← List.length_drop, List.take_length]
  rw [List.drop_eq_drop_iff]
  omega
theorem vSl_t {h : Hh} (m : Bool) (ds : List D) (lo hi : Option Int) : vSl m (.tup ds) lo hi h = .ok (.tup (cut ds lo hi)) h := (rfl)
theorem vSl_f {h : Hh} (m : Bool) (ds : List D) (lo hi : Option Int) : vSl m (.fl ds) lo hi h = mk m (cut ds lo hi) h := (rfl)
theorem vRev_t {h : Hh} (m : Bool) (ds : List D) : vRev m (.tup ds) h = .ok (.tup ds.reverse) h := (rfl)
/-! equality -/
theorem deq_ii (i j : Int) : deq (.int i) (.int j) = decide (i = j) := by unfold deq; rfl
theorem deq_tt (xs ys : List D) : deq (.tup xs) (.tup ys) = deqs xs ys := by rw [deq]
theorem deq_ff (xs ys : List D) : deq (.fl xs) (.fl ys) = deqs xs ys := by rw [deq]
theorem deqs_nn : deqs [] [] = true := by rw [deqs]
theorem deqs_cn (x : D) (xs : List D) : deqs (x :: xs) [] = false := by unfold deqs; rfl
theorem deqs_nc (x : D) (xs : List D) : deqs [] (x :: xs) = false := by unfold deqs; rfl
theorem deqs_cc (x y : D) (xs ys : List D) : deqs (x :: xs) (y :: ys) = (deq x y && deqs xs ys) := by rw [deqs]
theorem deqs_map {α : Type} [DecidableEq α] {f : α → D} (e : ∀ a b, deq (f a) (f b) = decide (a = b)) : ∀ xs ys : List α, deqs (xs.map f) (ys.map f) = decide (xs = ys)
  | [], [] => by rw [List.map_nil, deqs_nn]; rfl
  | [], y :: ys => by rw [List.map_nil, List.map_cons, deqs_nc]; rfl
  | x :: xs, [] => by rw [List.map_nil, List.map_cons, deqs_cn]; rfl
  | x :: xs, y :: ys => by
    rw [List.map_cons, List.map_cons, deqs_cc, e, deqs_map e xs ys]
    by_cases z : x = y <;> by_cases w : xs = ys <;> simp [z, w]
theorem deqs_nil_r (xs : List D) : deqs xs [] = xs.isEmpty := by
  cases xs with
  | nil => rw [deqs_nn]; rfl
  | cons => rw [deqs_cn]; rfl

end Q
end
section
namespace Q
open PySem PySem.Spec PyProof.Rows L2 PySem.W

/-! ## data of one kind: how they are written, compared, sorted -/
abbrev TL := List (Int ⊕ List Nat)
def tlt : TL → TL → Bool := PyProof.Rows.lexLt itemOrd
structure EncOk {α : Type} [DecidableEq α] (d : Nat) (enc : α → D) (lt : α → α → Bool) : Prop where
  sh : ∀ a, shp d (enc a) = true
  eq : ∀ a b, deq (enc a) (enc b) = decide (a = b)
  sm : ∀ a, same (enc a) (enc a) = true
  tk : ∀ a b r s, tlt (keyToks (py (enc a)) ++ r) (keyToks (py (enc b)) ++ s) = (lt a b || (decide (a = b) && tlt r s))
  tot : ∀ a b, lt a b = false → lt b a = false → a = b
  ak : ∀ a b, PySem.W.alike (py (enc a)) (py (enc b)) = true
  kd : (∀ a, isTup (enc a) = true) ∨ (∀ a, noTup (enc a) = true)
  nk : ∀ a n, d ≤ n → (nk n (enc a)).isSome = true
theorem toks_int (i : Int) : keyToks (.int i) = [.inl i] := by simp [keyToks]
theorem toks_nil : keyToks (.tuple []) = [.inl 0] := by simp [keyToks, keyToksAll]
theorem toks_cons (x : PyData) (xs : List PyData) : keyToks (.tuple (x :: xs)) = .inl 1 :: (keyToks x ++ keyToks (.tuple xs)) := by simp [keyToks, keyToksAll]
theorem tlt_nn : tlt [] [] = false := by simp [tlt, PyProof.Rows.lexLt]
theorem tlt_cons (i j : Int) (r s : TL) : tlt (.inl i :: r) (.inl j :: s) = (decide (i < j) || (decide (i = j) && tlt r s)) := by
  unfold tlt
  rw [PyProof.Rows.lexLt]
  simp only [itemOrd, itemLt]
  by_cases h1 : i < j
  · simp [h1]
  · by_cases h2 : j < i
    · have : i ≠ j := by omega
      simp [h1, h2, this]
    · have : i = j := by omega
      simp [this]

theorem encInt {α : Type} [DecidableEq α] (f : α → Int) (inj : ∀ a b, f a = f b → a = b) : EncOk 0 (fun a => .int (f a)) (fun a b => decide (f a < f b)) where
  sh a := sh_int 0 _
  eq a b := by
    rw [deq_ii]
    by_cases z : a = b
    · simp [z]
    · have : f a ≠ f b := fun e => z (inj _ _ e)
      simp [z, this]
  sm a := by unfold same; exact beq_self_eq_true _
  tk a b r s := by
    show tlt (keyToks (.int (f a)) ++ r) (keyToks (.int (f b)) ++ s) = _
    rw [toks_int, toks_int, List.singleton_append, List.singleton_append, tlt_cons]
    by_cases z : a = b
    · simp [z]
    · have : f a ≠ f b := fun e => z (inj _ _ e)
      simp [z, this]
  tot a b h1 h2 := by
    simp at h1 h2
    exact inj _ _ (by omega)
  ak a b := by
    show PySem.W.alike (.int _) (.int _) = true
    simp [PySem.W.alike]
  kd := .inr fun a => rfl
  nk a n _ := by cases n <;> rfl
theorem encNat : EncOk 0 (fun k : Nat => .int (k : Nat)) (fun a b => decide (a < b)) := by
  have := encInt (fun k : Nat => (k : Int)) (fun a b h => by omega)
  refine ⟨this.sh, this.eq, this.sm, fun a b r s => ?_, fun a b h1 h2 => ?_, this.ak, this.kd, this.nk⟩
  · have t := this.tk a b r s
    rw [t]
    congr 1
    by_cases z : a < b <;> simp [z]
  · simp at h1 h2; omega
def ltL {α : Type} (lt : α → α → Bool) [DecidableEq α] : List α → List α → Bool
  | [], [] => false
  | [], _ :: _ => true
  | _ :: _, [] => false
  | a :: as, b :: bs => lt a b || (decide (a = b) && ltL lt as bs)
def ltP {α β : Type} [DecidableEq α] (l1 : α → α → Bool) (l2 : β → β → Bool) (p q : α × β) : Bool := l1 p.1 q.1 || (decide (p.1 = q.1) && l2 p.2 q.2)
theorem tlt_same (t : Int ⊕ List Nat) (r s : TL) : tlt (t :: r) (t :: s) = tlt r s := by
  unfold tlt
  rw [PyProof.Rows.lexLt]
  have q : itemLt t t = false := itemOrd.irrefl t
  show (itemLt t t || !itemLt t t && _) = _
  rw [q]; rfl
theorem pys_mapE {α : Type} (f : α → D) : ∀ l : List α, pys (l.map f) = l.map fun a => py (f a)
  | [] => rfl
  | a :: l => by rw [List.map_cons, pys, pys_mapE f l]; rfl
theorem nks_map {α : Type} {n : Nat} {f : α → D} : ∀ l : List α, (∀ a ∈ l, (nk n (f a)).isSome = true) → (nks n (l.map f)).isSome = true
  | [], _ => by unfold nks; rfl
  | a :: l, h => by
    have h1 := h a (List.mem_cons_self ..)
    have h2 := nks_map l fun b hb => h b (List.mem_cons_of_mem _ hb)
    rw [Option.isSome_iff_exists] at h1 h2
    obtain ⟨x, h1⟩ := h1
    obtain ⟨y, h2⟩ := h2
    rw [List.map_cons, nks, h1, h2]; rfl
theorem sames_map {α : Type} {f : α → D} (h : ∀ a, same (f a) (f a) = true) : ∀ l : List α, sames (l.map f) (l.map f) = true
  | [] => by unfold sames; rfl
  | a :: l => by rw [List.map_cons, sames, h, sames_map h l]; rfl
theorem alikeAll_map {α : Type} {f : α → PyData} (h : ∀ a b, PySem.W.alike (f a) (f b) = true) : ∀ l k : List α, PySem.W.alikeAll (l.map f) (k.map f) = true
  | [], [] => by simp [PySem.W.alikeAll]
  | [], _ :: _ => by simp [PySem.W.alikeAll]
  | _ :: _, [] => by simp [PySem.W.alikeAll]
  | a :: l, b :: k => by simp [PySem.W.alikeAll, h, alikeAll_map h l k]
theorem encList {α : Type} [DecidableEq α] {d : Nat} {enc : α → D} {lt : α → α → Bool} (e : EncOk d enc lt) : EncOk (d + 1) (fun l : List α => .tup (l.map enc)) (ltL lt) where
  sh l := by
    show shp (d + 1) (.tup _) = true
    rw [sh_tup]; exact shps_map fun a _ => e.sh a
  eq l k := by
    rw [deq_tt, deqs_map e.eq]
  sm l := by unfold same; exact sames_map e.sm l
  tk l k r s := by
    show tlt (keyToks (.tuple (pys (l.map enc))) ++ r) (keyToks (.tuple (pys (k.map enc))) ++ s) = _
    rw [pys_mapE, pys_mapE]
    induction l generalizing k with
    | nil =>
      cases k with
      | nil =>
        rw [List.map_nil, toks_nil, List.singleton_append, List.singleton_append, tlt_same]
        simp [ltL]
      | cons b k =>
        rw [List.map_nil, List.map_cons, toks_nil, toks_cons, List.singleton_append, List.cons_append, tlt_cons]
        simp [ltL]
    | cons a l ih =>
      cases k with
      | nil =>
        rw [List.map_nil, List.map_cons, toks_nil, toks_cons, List.singleton_append, List.cons_append, tlt_cons]
        simp [ltL]
      | cons b k =>
        rw [List.map_cons, List.map_cons, toks_cons, toks_cons, List.cons_append, List.cons_append, tlt_same, List.append_assoc, List.append_assoc, e.tk, ih]
        have u : ltL lt (a :: l) (b :: k) = (lt a b || (decide (a = b) && ltL lt l k)) := rfl
        rw [u]
        generalize ltL lt l k = x
        by_cases z : a = b <;> by_cases w : l = k <;> cases lt a b <;> cases x <;> simp [z, w]
  tot := by
    intro l
    induction l with
    | nil => intro k h1 h2; cases k with
      | nil => rfl
      | cons b k => simp [ltL] at h1
    | cons a l ih =>
      intro k h1 h2
      cases k with
      | nil => simp [ltL] at h2
      | cons b k =>
        simp only [ltL, Bool.or_eq_false_iff, Bool.and_eq_false_iff, decide_eq_false_iff_not] at h1 h2
        have z := e.tot _ _ h1.1 h2.1
        subst z
        rcases h1.2 with q | q
        · exact absurd rfl q
        · rcases h2.2 with p | p
          · exact absurd rfl p
          · rw [ih k q p]
  ak l k := by
    show PySem.W.alike (.tuple _) (.tuple _) = true
    rw [pys_mapE, pys_mapE]
    simp only [PySem.W.alike]
    exact alikeAll_map (f := fun a => py (enc a)) e.ak l k
  kd := .inl fun l => rfl
  nk l n h := by
    cases n with
    | zero => omega
    | succ n =>
      have := nks_map (n := n) (f := enc) l (fun a _ => e.nk a n (by omega))
      show ((nks n (l.map enc)).map NestedKey.tup).isSome = true
      rw [Option.isSome_map]; exact this
theorem encPair {α β : Type} [DecidableEq α] [DecidableEq β] {d : Nat} {e1 : α → D} {l1 : α → α → Bool} {e2 : β → D} {l2 : β → β → Bool} (h1 : EncOk d e1 l1) (h2 : EncOk d e2 l2) : EncOk (d + 1) (fun p : α × β => .tup [e1 p.1, e2 p.2]) (ltP l1 l2) where
  sh p := by
    show shp (d + 1) (.tup _) = true
    rw [sh_tup, sh_cons, sh_cons, sh_nil, h1.sh, h2.sh]; rfl
  eq p q := by
    rw [deq_tt, deqs_cc, deqs_cc, deqs_nn, h1.eq, h2.eq]
    obtain ⟨a, b⟩ := p
    obtain ⟨c, d⟩ := q
    by_cases z : a = c <;> by_cases w : b = d <;> simp [z, w]
  sm p := by unfold same sames sames sames; simp [h1.sm, h2.sm]
  tk p q r s := by
    obtain ⟨a, b⟩ := p
    obtain ⟨c, d⟩ := q
    show tlt (keyToks (.tuple [py (e1 a), py (e2 b)]) ++ r) (keyToks (.tuple [py (e1 c), py (e2 d)]) ++ s) = _
    simp only [toks_cons, toks_nil, List.cons_append, List.append_assoc, tlt_same, h1.tk, h2.tk, List.nil_append]
    unfold ltP
    by_cases z : a = c <;> by_cases w : b = d <;> cases l1 a c <;> cases l2 b d <;> simp [z, w]
  tot p q k1 k2 := by
    obtain ⟨a, b⟩ := p
    obtain ⟨c, d⟩ := q
    simp only [ltP, Bool.or_eq_false_iff, Bool.and_eq_false_iff, decide_eq_false_iff_not] at k1 k2
    have z := h1.tot _ _ k1.1 k2.1
    subst z
    rcases k1.2 with q | q
    · exact absurd rfl q
    · rcases k2.2 with p | p
      · exact absurd rfl p
      · rw [h2.tot _ _ q p]
  ak p q := by
    show PySem.W.alike (.tuple _) (.tuple _) = true
    simp [PySem.W.alike, PySem.W.alikeAll, pys, h1.ak, h2.ak]
  kd := .inl fun l => rfl
  nk p n h := by
    cases n with
    | zero => omega
    | succ n =>
      have q1 := h1.nk p.1 n (by omega)
      have q2 := h2.nk p.2 n (by omega)
      rw [Option.isSome_iff_exists] at q1 q2
      obtain ⟨x, q1⟩ := q1
      obtain ⟨y, q2⟩ := q2
      show ((nks n [e1 p.1, e2 p.2]).map NestedKey.tup).isSome = true
      unfold nks nks nks
      rw [q1, q2]; rfl
/-- deeper than needed -/
theorem EncOk.up {α : Type} [DecidableEq α] {d k : Nat} {enc : α → D} {lt : α → α → Bool} (e : EncOk d enc lt) (h : d ≤ k) : EncOk k enc lt :=
  ⟨fun a => shp_mono (e.sh a) h, e.eq, e.sm, e.tk, e.tot, e.ak, e.kd, fun a n l => e.nk a n (by omega)⟩

/-! ## sorting -/
section
variable {α : Type} [DecidableEq α] {d : Nat} {enc : α → D} {lt : α → α → Bool} (e : EncOk d enc lt)
include e
theorem EncOk.dlt (a b : α) : PySem.W.dataLt (py (enc a)) (py (enc b)) = lt a b := by
  have := e.tk a b [] []
  rw [List.append_nil, List.append_nil, tlt_nn, Bool.and_false, Bool.or_false] at this
  exact this
theorem EncOk.dle (a b : α) : Q.dle (enc a) (enc b) = !lt b a := by
  have := e.tk b a [] []
  rw [List.append_nil, List.append_nil, tlt_nn, Bool.and_false, Bool.or_false] at this
  show (!PyProof.Rows.lexLt itemOrd _ _) = _
  rw [← this]; rfl
theorem EncOk.irr (a : α) : lt a a = false := by
  have := e.dlt a a
  rw [← this]
  exact (listOrd itemOrd).irrefl _
end
/-- ascending, by insertion -/
def ins {α : Type} (lt : α → α → Bool) (x : α) : List α → List α
  | [] => [x]
  | y :: r => if lt y x = true then y :: ins lt x r else x :: y :: r
def srt {α : Type} (lt : α → α → Bool) (l : List α) : List α := l.foldr (ins lt) []
section
variable {α : Type} [DecidableEq α] {d : Nat} {enc : α → D} {lt : α → α → Bool} (e : EncOk d enc lt)
include e
theorem EncOk.insD (x : α) : ∀ l : List α, Q.insD (enc x) (l.map enc) = (ins lt x l).map enc
  | [] => rfl
  | y :: r => by
    rw [List.map_cons, Q.insD, e.dle]
    unfold ins
    cases lt y x with
    | true => simp [EncOk.insD x r]
    | false => simp
theorem EncOk.isrt (l : List α) : Q.isrt (l.map enc) = (srt lt l).map enc := by
  unfold Q.isrt srt
  induction l with
  | nil => rfl
  | cons a l ih => rw [List.map_cons, List.foldr_cons, ih, e.insD]; rfl
theorem EncOk.okSrt_of (l : List α) (h : l.Pairwise fun a b => lt b a = false) : okSrt (l.map enc) = true := by
  induction l with
  | nil => rfl
  | cons a l ih =>
    cases l with
    | nil => rfl
    | cons b r =>
      rw [List.pairwise_cons] at h
      have hb := h.1 b (List.mem_cons_self ..)
      show ((Q.dle (enc a) (enc b) && (!Q.dle (enc b) (enc a) || same (enc a) (enc b))) && okSrt ((b :: r).map enc)) = true
      rw [ih h.2, e.dle, e.dle, hb]
      cases q : lt a b with
      | true => rfl
      | false => rw [e.tot a b q hb]; simp [e.sm]
theorem EncOk.trans {a b c : α} (h1 : lt b a = false) (h2 : lt c b = false) : lt c a = false := by
  have k1 : Q.dle (enc a) (enc b) = true := by rw [e.dle, h1]; rfl
  have k2 : Q.dle (enc b) (enc c) = true := by rw [e.dle, h2]; rfl
  have := dle_trans k1 k2
  rw [e.dle] at this
  simpa using this
theorem EncOk.asym {a b : α} (h : lt a b = true) : lt b a = false := by
  have := dle_total (enc a) (enc b)
  rw [e.dle, e.dle, h] at this
  simpa using this
omit e in
theorem mem_ins' (lt : α → α → Bool) {x y : α} : ∀ {l : List α}, y ∈ ins lt x l ↔ y = x ∨ y ∈ l
  | [] => by simp [ins]
  | z :: r => by
    unfold ins
    split
    · rw [List.mem_cons, mem_ins' lt (l := r), List.mem_cons]
      constructor
      · rintro (h | h | h)
        · exact .inr (.inl h)
        · exact .inl h
        · exact .inr (.inr h)
      · rintro (h | h | h)
        · exact .inr (.inl h)
        · exact .inl h
        · exact .inr (.inr h)
    · simp
theorem EncOk.ins_sorted (x : α) : ∀ {l : List α}, l.Pairwise (fun a b => lt b a = false) → (ins lt x l).Pairwise fun a b => lt b a = false
  | [], _ => by simp [ins]
  | y :: r, h => by
    rw [List.pairwise_cons] at h
    unfold ins
    split
    · rename_i q
      rw [List.pairwise_cons]
      refine ⟨fun b hb => ?_, EncOk.ins_sorted x h.2⟩
      rcases (mem_ins' lt).mp hb with rfl | hb
      · exact e.asym q
      · exact h.1 b hb
    · rename_i q
      have q : lt y x = false := by simpa using q
      rw [List.pairwise_cons]
      refine ⟨fun b hb => ?_, by rw [List.pairwise_cons]; exact h⟩
      rcases List.mem_cons.mp hb with rfl | hb
      · exact q
      · exact e.trans q (h.1 b hb)
theorem EncOk.srt_sorted : ∀ l : List α, (srt lt l).Pairwise fun a b => lt b a = false
  | [] => .nil
  | a :: l => EncOk.ins_sorted e a (EncOk.srt_sorted l)
omit e in
theorem ins_perm (lt : α → α → Bool) (x : α) : ∀ l : List α, (ins lt x l).Perm (x :: l)
  | [] => .refl _
  | y :: r => by
    unfold ins
    split
    · exact (List.Perm.cons y (ins_perm lt x r)).trans (List.Perm.swap x y r)
    · exact .refl _
omit e in
theorem srt_perm (lt : α → α → Bool) : ∀ l : List α, (srt lt l).Perm l
  | [] => .refl _
  | a :: l => (ins_perm lt a (srt lt l)).trans (List.Perm.cons a (srt_perm lt l))
omit e in
theorem srt_len (lt : α → α → Bool) (l : List α) : (srt lt l).length = l.length := (srt_perm lt l).length_eq
omit e in
theorem mem_srt (lt : α → α → Bool) {x : α} {l : List α} : x ∈ srt lt l ↔ x ∈ l := (srt_perm lt l).mem_iff
/-- what is ascending stays -/
theorem EncOk.srt_id : ∀ l : List α, l.Pairwise (fun a b => lt b a = false) → srt lt l = l
  | [], _ => rfl
  | a :: l, h => by
    rw [List.pairwise_cons] at h
    have : srt lt (a :: l) = ins lt a (srt lt l) := rfl
    rw [this, EncOk.srt_id l h.2]
    cases l with
    | nil => rfl
    | cons b r =>
      unfold ins
      rw [h.1 b (List.mem_cons_self ..)]
      simp
/-- two ascending lists of the same members, each once -/
theorem EncOk.sorted_eq : ∀ {l k : List α}, l.Pairwise (fun a b => lt b a = false) → k.Pairwise (fun a b => lt b a = false) → l.Perm k → l = k
  | [], k, _, _, p => (List.nil_perm.mp p).symm ▸ rfl
  | a :: l, [], _, _, p => by have := p.length_eq; simp at this
  | a :: l, b :: k, h1, h2, p => by
    rw [List.pairwise_cons] at h1 h2
    have z : a = b := by
      rcases List.mem_cons.mp (p.mem_iff.mp (List.mem_cons_self (a := a) (l := l))) with q | q
      · exact q
      · rcases List.mem_cons.mp (p.mem_iff.mpr (List.mem_cons_self (a := b) (l := k))) with r | r
        · exact r.symm
        · exact e.tot a b (h2.1 a q) (h1.1 b r)
    subst z
    rw [EncOk.sorted_eq h1.2 h2.2 (List.Perm.cons_inv p)]
theorem EncOk.srt_eq {l k : List α} (hk : k.Pairwise (fun a b => lt b a = false)) (p : l.Perm k) : srt lt l = k :=
  EncOk.sorted_eq e (EncOk.srt_sorted e l) hk ((srt_perm lt l).trans p)
theorem EncOk.alikes (l : List α) : Q.alikes (l.map enc) = true := by
  induction l with
  | nil => rfl
  | cons a l ih =>
    show (PySem.W.alike (py (enc a)) (py (enc a)) && (l.map enc).all (fun x => PySem.W.alike (py (enc a)) (py x) && PySem.W.alike (py x) (py (enc a))) && Q.alikes (l.map enc)) = true
    rw [ih, e.ak, List.all_map]
    simp [e.ak]
theorem EncOk.vSort {h : Hh} {m : Bool} (hd : d ≤ 7) (l : List α) (hl : l.length ≤ big) : Q.vSort m (l.map enc) h = Q.mk m ((srt lt l).map enc) h := by
  unfold Q.vSort
  rw [e.isrt, if_pos]
  refine ⟨by simpa using hl, shps_map fun a _ => shp_mono (e.sh a) hd, e.alikes l, ?_, e.okSrt_of _ (EncOk.srt_sorted e l)⟩
  rcases e.kd with q | q
  · left; simp [q]
  · right; simp [q]
/-- the least, the first of them -/
theorem EncOk.fstL (a : α) (r : List α) : Q.fstL (enc a) (r.map enc) = enc (r.foldl (fun u y => if lt y u = true then y else u) a) := by
  unfold Q.fstL
  induction r generalizing a with
  | nil => rfl
  | cons b r ih =>
    rw [List.map_cons, List.foldl_cons, List.foldl_cons, e.dlt, ← ih]
    cases lt b a <;> rfl
theorem EncOk.vMinT {h : Hh} (hd : d ≤ 7) (a : α) (l : List α) (hl : l.length < big) (ht : ∀ a, isTup (enc a) = true) : Q.vMinT (.fl ((a :: l).map enc)) h = .ok (enc (l.foldl (fun u y => if lt y u = true then y else u) a)) h := by
  show (if (enc a :: l.map enc).length ≤ big ∧ shps 7 (enc a :: l.map enc) = true ∧ Q.alikes (enc a :: l.map enc) = true ∧ (enc a :: l.map enc).all isTup = true then Oc.ok (Q.fstL (enc a) (l.map enc)) h else .bad) = _
  rw [if_pos, e.fstL]
  refine ⟨by simp; omega, ?_, EncOk.alikes e (a :: l), by simp [ht]⟩
  exact shps_map (l := a :: l) fun a _ => shp_mono (e.sh a) hd
theorem EncOk.vIn {h : Hh} (hd : d ≤ 7) (neg : Bool) (a : α) (l : List α) : Q.vIn neg (enc a) (.tup (l.map enc)) h = .ok (.bl (neg != decide (a ∈ l))) h := by
  rw [vIn_t neg (shp_mono (e.sh a) hd) (shps_map fun a _ => shp_mono (e.sh a) hd)]
  congr 3
  induction l with
  | nil => rfl
  | cons b l ih =>
    rw [List.map_cons, List.any_cons, ih, e.eq]
    by_cases z : b = a
    · simp [z]
    · have : ¬ a = b := fun q => z q.symm
      simp [z, this]
theorem EncOk.any_eq (a : α) (l : List α) : ((l.map enc).any fun z => deq z (enc a)) = decide (a ∈ l) := by
  induction l with
  | nil => rfl
  | cons b l ih =>
    rw [List.map_cons, List.any_cons, ih, e.eq]
    by_cases z : b = a
    · simp [z]
    · have : ¬ a = b := fun q => z q.symm
      simp [z, this]
theorem EncOk.vInF {h : Hh} (hd : d ≤ 7) (neg : Bool) (a : α) (l : List α) : Q.vIn neg (enc a) (.fl (l.map enc)) h = .ok (.bl (neg != decide (a ∈ l))) h := by
  rw [vIn_f neg (shp_mono (e.sh a) hd) (shps_map fun a _ => shp_mono (e.sh a) hd), e.any_eq]
theorem EncOk.vInM {h : Hh} (hd : d ≤ 7) (neg : Bool) (a : α) (l : List α) {i : Nat} (q : h[i]? = some (.lst (l.map enc))) : Q.vIn neg (enc a) (.ml i) h = .ok (.bl (neg != decide (a ∈ l))) h := by
  rw [vIn_m neg q (shp_mono (e.sh a) hd) (shps_map fun a _ => shp_mono (e.sh a) hd), e.any_eq]
theorem EncOk.vEqT {h : Hh} (hd : d ≤ 7) (neg : Bool) (a b : List α) : Q.vEq neg (.tup (a.map enc)) (.tup (b.map enc)) h = .ok (.bl (neg != decide (a = b))) h := by
  rw [vEq_shp neg, deq_tt, deqs_map e.eq]
  · rw [sh_tup]; exact shps_map fun a _ => shp_mono (e.sh a) hd
  · rw [sh_tup]; exact shps_map fun a _ => shp_mono (e.sh a) hd
theorem EncOk.vEqF {h : Hh} (hd : d ≤ 7) (neg : Bool) (a b : List α) : Q.vEq neg (.fl (a.map enc)) (.fl (b.map enc)) h = .ok (.bl (neg != decide (a = b))) h := by
  rw [vEq_shp neg, deq_ff, deqs_map e.eq]
  · rw [sh_fl]; exact shps_map fun a _ => shp_mono (e.sh a) hd
  · rw [sh_fl]; exact shps_map fun a _ => shp_mono (e.sh a) hd
theorem EncOk.vEq1 {h : Hh} (hd : d ≤ 8) (neg : Bool) (a b : α) : Q.vEq neg (enc a) (enc b) h = .ok (.bl (neg != decide (a = b))) h := by
  rw [vEq_shp neg (shp_mono (e.sh a) hd) (shp_mono (e.sh b) hd), e.eq]
end
end Q
end
section
namespace Q
open PySem PySem.Spec PyProof.Rows L2
theorem wipe_n (env : Ev) : wipeE env [] = env := (rfl)
theorem wipe_c (env : Ev) (v : Nat) (vs : List Nat) : wipeE env (v :: vs) = (wipeE env vs).set v none := (rfl)
theorem setAll_c (i : Nat) (is : List Nat) (d : D) (ds : List D) (env : Ev) : setAll (i :: is) (d :: ds) env = setAll is ds (env.set i (some d)) := (rfl)
theorem setAll_n (env : Ev) : setAll [] [] env = env := (rfl)
theorem kCons_d (g : Hh → Oc (List D)) (x : D) (h1 : Hh) : kCons g x h1 = (g h1).bind fun xs h2 => .ok (x :: xs) h2 := (rfl)
theorem kSl_d (m : Bool) (f g : Hh → Oc (Option Int)) (x : D) (h1 : Hh) : kSl m f g x h1 = (f h1).bind fun l h2 => (g h2).bind fun u h3 => vSl m x l u h3 := (rfl)
theorem kAsg_d (g : D → Ev → Hh → Oc Ev) (env : Ev) (d : D) (h1 : Hh) : kAsg g env d h1 = (g d env h1).bind fun env1 h2 => .ok (.next, env1) h2 := (rfl)
theorem kSet_d (d : D) (env : Ev) (o k : D) (h2 : Hh) : kSet d env o k h2 = (vSet o k d h2).bind fun _ h3 => .ok env h3 := (rfl)
theorem kPar_d (is : List Nat) (env : Ev) (ds : List D) (h1 : Hh) : kPar is env ds h1 = if ds.length = is.length then .ok (.next, setAll is ds env) h1 else .bad := (rfl)
theorem kMth_d (f : Mth) (m : Bool) (g : Hh → Oc (List D)) (x : D) (h1 : Hh) : kMth f m g x h1 = if tyM f x h1 = true then (g h1).bind fun xs h2 => vMth f m x xs h2 else .bad := (rfl)
theorem mkTup_d (ds : List D) (h : Hh) : mkTup ds h = if ds.length ≤ 10000000 then .ok (.tup ds) h else .bad := (rfl)
theorem mkLst_d (m : Bool) (ds : List D) (h : Hh) : mkLst m ds h = if ds.length ≤ 10000000 then mk m ds h else .bad := (rfl)
theorem mth_append (m : Bool) (i : Nat) (d : D) (h : Hh) : vMth .append m (.ml i) [d] h = (match h[i]? with | some (.lst xs) => if xs.length < big ∧ low i d = true then .ok .non (h.set i (.lst (xs ++ [d]))) else .bad | _ => .bad) := (rfl)
def kApp (i : Nat) (d : D) (h : Hh) (o : Option (List D)) : Oc D := match o with
  | some xs => if xs.length < big ∧ low i d = true then .ok .non (h.set i (.lst (xs ++ [d]))) else .bad
  | none => .bad
theorem mth_app (m : Bool) (i : Nat) (d : D) (h : Hh) : vMth .append m (.ml i) [d] h = kApp i d h (lstAt h[i]?) := by
  rw [mth_append]
  cases q : h[i]? with
  | none => rfl
  | some c => cases c <;> rfl
theorem kApp_s (i : Nat) (d : D) (h : Hh) (xs : List D) (l : xs.length < big) (s : low i d = true) : kApp i d h (some xs) = .ok .non (h.set i (.lst (xs ++ [d]))) := by
  show (if xs.length < big ∧ low i d = true then _ else _) = _
  rw [if_pos ⟨l, s⟩]
theorem tyM_app (i : Nat) (h : Hh) : tyM .append (.ml i) h = (lstAt h[i]?).isSome := (rfl)
theorem low_int (i : Nat) (k : Int) : low i (.int k) = true := by unfold low; rfl
theorem low_non (i : Nat) : low i .non = true := by unfold low; rfl
theorem tyB_t (ds : List D) : tyB .tuple (.tup ds) = true := (rfl)
theorem tyB_ii (i : Int) : tyB .int (.int i) = true := (rfl)
theorem tyB_bi (i : Int) : tyB .bool (.int i) = false := (rfl)
theorem isi_int (t : Ty) (i : Int) (h : Hh) : vIsi [t] (.int i) h = .ok (.bl (tyB t (.int i))) h := by cases t <;> rfl
theorem isi_tup (t : Ty) (ds : List D) (h : Hh) : vIsi [t] (.tup ds) h = .ok (.bl (tyB t (.tup ds))) h := by cases t <;> rfl
theorem fin_bl (m : Bool) (n : Nat) (h' : Hh) (b : Bool) : fin m n h' (.bl b) = .ok (.bl b) (h'.take n) := fin_shp (sh_bl 7 b)
theorem fin_int (m : Bool) (n : Nat) (h' : Hh) (b : Int) : fin m n h' (.int b) = .ok (.int b) (h'.take n) := fin_shp (sh_int 7 b)
theorem fin_non (m : Bool) (n : Nat) (h' : Hh) : fin m n h' .non = .ok .non (h'.take n) := fin_shp (sh_non 7)
theorem kAnd_b (f : Hh → Oc D) (b : Bool) (h : Hh) : kAnd f (.bl b) h = if b = true then f h else .ok (.bl false) h := by cases b <;> rfl
theorem kOr_b (f : Hh → Oc D) (b : Bool) (h : Hh) : kOr f (.bl b) h = if b = true then .ok (.bl true) h else f h := by cases b <;> rfl
theorem and_ok (p : Prop) [Decidable p] (c : Bool) (h : Hh) : (if p then Oc.ok (D.bl c) h else Oc.ok (D.bl false) h) = .ok (.bl (decide p && c)) h := by
  split <;> rename_i q <;> simp [q]
theorem or_ok (p : Prop) [Decidable p] (c : Bool) (h : Hh) : (if p then Oc.ok (D.bl true) h else Oc.ok (D.bl c) h) = .ok (.bl (decide p || c)) h := by
  split <;> rename_i q <;> simp [q]
theorem not_dec (p : Prop) [Decidable p] : ((!decide p) = true) = ¬ p := by simp
theorem bfx (b : Bool) : (false != b) = b := by cases b <;> rfl
theorem btx (b : Bool) : (true != b) = !b := by cases b <;> rfl

local macro_rules
  | `(tactic| simp! [$ls,*]) => `(tactic| simp -failIfUnchanged only [WP_ok, WP_bind, WP_c2, WP_then, WP_kLc, ok_bind, ok_then, c2_ok, ev_var, evVar_s, ev_non, ev_bl, ev_int, ev_str, ev_glo, ev_bin, ev_cmp, ev_ix, ev_lrg2, ev_trg2, ev_neg, ev_nt, kAnd_b, kOr_b, and_ok, or_ok, not_dec, not_true_eq_false, not_false_eq_true, kIf_b, ev_and, ev_or, ev_ife, kCh2_b, ev_chain, kCh3_b, ev_chain3, ev_tup, ev_lst, ev_isi, ev_call, ev_blt, ev_mth, ev_lrg, ev_trg, ev_trg3, ev_rev, ev_srtk, ev_lenk, ev_srts, ev_lens, ev_srtl, ev_dnew, ev_fld, ev_cm, ev_mko, ev_fnv, ev_callv, kCv_s, evS_tryr, kTry_d, ev_sl, kOpt_i, evOpt_n, evOpt_s, kLc_ok, ev_lc, ev_lc2, evs_nil, evs_cons, evT_nm, evT_tup, evT_pr, evT_sub, evTs_nil, evTs_cons, kB_b, tests_nil, tests_one, evIt_rng1, evIt_rng2, evIt_seq, evIt_enum, evIt_zip, evIt_keys, evIt_vals, evIt_items, K1_next, K1_ret, K1_brk, K1_cont, evSs_nil, evSs_cons, evS_asg, evS_par, kAug_s, evS_aug, kAug1_add, kAug1_sub, evS_augs, kIfS_b, evS_ife, evS_for, evS_wh, kRet_ok, evS_ret, evS_retn, evS_ex, evS_brk, evS_cont, evS_pass, KF_ret, KF_next, wipe_n, wipe_c, setAll_c, setAll_n, kCons_d, kSl_d, kAsg_d, kSet_d, kPar_d, mkTup_d, mkLst_d, kMth_d, mth_app, tyM_app, low_int, low_non,
    vAdd, vSub, vNeg_i, vNot_b, vEq_ii, cEq, cNe, cLt, cLe, cGt, cGe, cIn, cNotin, cIs, cIsnot, isNon_n, isNon_i, isNon_b, isNon_t, isNon_fl, atI_nat, atI_0, atI_1, atI_2, atI_3, kIx_s, vIx_t, vIx_f, vIx_r, lstAt_s, kIxM_s, vIx_m, isi_int, isi_tup, tyB_t, tyB_ii, tyB_bi, vLen_t, vLen_f, vLen_r, kLen_s, vLen_m, kTup_s, vTuple_t, vTuple_f, vTuple_m, vList_t, vList_f, vSorted_t, vSorted_f, vInt_i, vInt_b, vAbs_i, vBlt_len, vBlt_tuple, vBlt_list, vBlt_sorted, vBlt_sum, vBlt_max, vBlt_min, vBlt_abs, vBlt_int, v1_1, vMax2, vMin2, src_t, src_f, src_r, enum_t, enum_f, mk_f, ret_f, ret_t, cut_take, cut_drop, vSl_t, vSl_f, vRev_t, bfx, btx,
    fin_bl, fin_int, fin_non, List.take_length, hget0, hget, hset0, hsetI, htake, happ, List.getElem?_cons_zero, List.getElem?_cons_succ, List.set_cons_zero, List.set_cons_succ, List.map_cons, List.map_nil, List.cons_append, List.nil_append, List.append_nil, List.length_cons, List.length_nil, List.length_append, List.length_map, List.replicate, List.singleton_append, if_true, if_false, Bool.not_true, Bool.not_false, Option.isSome_some, Bool.and_true, Bool.true_and, Bool.or_false, Bool.false_or, Bool.false_and, Bool.and_false, Bool.true_or, Bool.or_true, Bool.false_eq_true, reduceIte, Nat.reduceAdd, Nat.reduceSub, Nat.reduceLeDiff, Nat.reduceLT, Nat.reduceEqDiff, Int.reduceLT, Int.reduceLE, Int.reduceAdd, Int.reduceSub, Nat.zero_add, true_and, and_true, Int.cast_ofNat_Int, Int.natCast_one, Int.natCast_zero, decide_true, decide_false, decide_eq_true_eq, and_self, false_and, and_false, $ls,*])


/-! ## webs and layings -/
structure Web where
  n : Nat
  es : List (Nat × Nat)
  deriving DecidableEq
def eN (l : List Nat) : List D := l.map fun k => .int (k : Nat)
def eE (e : Nat × Nat) : D := .tup [.int (e.1 : Nat), .int (e.2 : Nat)]
def eW (w : Web) : D := .tup [.int (w.n : Nat), .tup (w.es.map eE)]
def bi (b : Bool) : Int := if b = true then 1 else 0
def eB (b : Bool) : D := .int (bi b)
def eCo : Option Bool → D
  | none => .non
  | some b => eB b
def eC2 : Option Bool → D
  | none => .int 2
  | some b => eB b
abbrev Lay := List (Option Bool)
def eL (l : Lay) : D := .tup (l.map eCo)
def eL2 (l : Lay) : D := .tup (l.map eC2)
def ltN (a b : Nat) : Bool := decide (a < b)
abbrev ltE : Nat × Nat → Nat × Nat → Bool := ltP ltN ltN
theorem okN : EncOk 0 (fun k : Nat => .int (k : Nat)) ltN := encNat
theorem okE : EncOk 1 eE ltE := encPair okN okN
theorem lexLeI2 (a b c d : Int) : lexLeI [a, b] [c, d] = (decide (a < c) || (decide (a = c) && decide (b ≤ d))) := by
  rw [Bool.eq_iff_iff]
  simp [lexLeI]
  repeat' split
  all_goals omega
theorem cLeE (a b : Nat × Nat) (h : Hh) : vCmp .le (eE a) (eE b) h = .ok (.bl (!ltE b a)) h := by
  show Oc.ok (D.bl (lexLeI [(a.1 : Int), a.2] [(b.1 : Int), b.2])) h = _
  rw [lexLeI2]
  congr 2
  obtain ⟨a, c⟩ := a
  obtain ⟨b, d⟩ := b
  simp only [ltE, ltP, ltN]
  rw [Bool.eq_iff_iff]
  simp
  omega
theorem okNs : EncOk 1 (fun l : List Nat => .tup (eN l)) (ltL ltN) := encList okN
theorem bi_inj : ∀ a b, bi a = bi b → a = b := by decide
theorem okB : EncOk 0 eB (fun a b => decide (bi a < bi b)) := encInt bi bi_inj
structure Web.Ok (w : Web) : Prop where
  pos : 1 ≤ w.n
  le : w.n ≤ 9
  asc : w.es.Pairwise fun a b => ltE a b = true
  ed : ∀ e ∈ w.es, e.1 < e.2 ∧ e.2 < w.n
theorem eC_sh (n : Nat) (c : Option Bool) : shp n (eCo c) = true := by
  cases c with
  | none => exact sh_non n
  | some b => exact sh_int n _
theorem eC2_sh (n : Nat) (c : Option Bool) : shp n (eC2 c) = true := by cases c <;> exact sh_int n _
theorem eN_sh (n : Nat) (l : List Nat) : shps n (eN l) = true := shps_map fun a _ => sh_int n _
theorem eL_sh (n : Nat) (l : Lay) : shp (n + 1) (eL l) = true := by
  unfold eL; rw [sh_tup]; exact shps_map fun a _ => eC_sh n a
theorem eL2_sh (n : Nat) (l : Lay) : shp (n + 1) (eL2 l) = true := by
  unfold eL2; rw [sh_tup]; exact shps_map fun a _ => eC2_sh n a
theorem eE_sh (n : Nat) (e : Nat × Nat) : shp (n + 1) (eE e) = true := shp_mono (okE.sh e) (by omega)
theorem eW_sh (n : Nat) (w : Web) : shp (n + 3) (eW w) = true := by
  unfold eW
  rw [sh_tup, sh_cons, sh_cons, sh_nil, sh_int, sh_tup, shps_map fun a _ => eE_sh n a]; rfl



theorem cIsB (a b : Bool) (h : Hh) : vCmp .is (.bl a) (.bl b) h = .ok (.bl (decide (a = b))) h := (rfl)
theorem vAddN (xs ys : List D) (h : Hh) : vBin false .add (.fl xs) (.fl ys) h = if xs.length + ys.length ≤ 10000000 then .ok (.fl (xs ++ ys)) h else .bad := (rfl)
theorem kc0 : run tab 199 20 false [.tup [.int (1), .int (1), .int (1)]] [] = .ok (.tup [.int (0), .int (2)]) [] := by kernel_rfl
theorem kc1 : run tab 199 20 false [.tup [.int (0), .int (1), .int (1), .int (0)]] [] = .ok (.tup [.int (2), .int (2)]) [] := by kernel_rfl
theorem kc2 : run tab 199 21 false [.tup [.int (1), .int (1), .int (1)]] [] = .ok (.int (1)) [] := by kernel_rfl
theorem kc3 : run tab 199 22 false [.tup [.int (1), .int (1), .int (1)]] [] = .ok (.tup [.int (0), .int (1), .int (2)]) [] := by kernel_rfl
theorem kc4 : run tab 199 23 false [.tup [.int (1), .int (1), .int (1)]] [] = .ok (.tup [.int (2), .int (3)]) [] := by kernel_rfl
theorem kc5 : run tab 199 24 false [.tup [.int (1), .int (1), .int (1)]] [] = .ok (.tup [.int (2), .int (3)]) [] := by kernel_rfl
theorem kc6 : run tab 199 21 false [.tup [.int (1), .int (1), .int (0)]] [] = .ok (.int (2)) [] := by kernel_rfl
theorem kc7 : run tab 199 20 false [.tup [.int (0), .int (0)]] [] = .ok (.tup [.int (2), .int (2)]) [] := by kernel_rfl
theorem kc8 : run tab 199 93 false [.fl [.tup [.int (0), .int (2)], .tup [.int (2), .int (2)], .int (1), .tup [.int (0), .int (1), .int (2)], .tup [.int (2), .int (3)], .tup [.int (2), .int (3)], .int (2), .tup [.int (2), .int (2)]], .fl [.tup [.int (0), .int (2)], .tup [.int (2), .int (2)], .int (1), .tup [.int (0), .int (1), .int (2)], .tup [.int (2), .int (3)], .tup [.int (2), .int (3)], .int (2), .tup [.int (2), .int (2)]]] [] = .ok (.bl true) [] := by kernel_rfl
theorem kc9 : run tab 199 50 false [.int (3)] [] = .ok (.tup [.int (1), .int (4), .int (1)]) [] := by kernel_rfl
theorem kc10 : run tab 199 51 false [.int (4)] [] = .ok (.tup [.int (1), .int (3), .int (3), .int (1)]) [] := by kernel_rfl
theorem kc11 : run tab 199 52 false [.tup [.int (1), .int (0), .int (0)]] [] = .ok (.tup [.int (0), .int (0), .int (1)]) [] := by kernel_rfl
theorem kc12 : run tab 199 53 false [.tup [.int (1), .int (1), .int (1)], .int (1)] [] = .ok (.tup [.tup [.int (0)], .tup [.int (0)]]) [] := by kernel_rfl
theorem kc13 : run tab 199 53 false [.tup [.int (0), .int (1)], .int (1)] [] = .ok (.tup [.tup [.int (1)], .tup []]) [] := by kernel_rfl
theorem kc14 : run tab 199 55 false [.tup [.int (1), .int (1), .int (1)], .int (0)] [] = .ok (.tup [.tup [.int (1), .int (2)], .tup [.int (1), .int (2)], .tup [.int (0), .int (1)]]) [] := by kernel_rfl
theorem kc15 : run tab 199 55 false [.tup [.int (1), .int (1)], .int (0)] [] = .ok (.non) [] := by kernel_rfl
theorem kc16 : run tab 199 93 false [.fl [.tup [.int (1), .int (4), .int (1)], .tup [.int (1), .int (3), .int (3), .int (1)], .tup [.int (0), .int (0), .int (1)], .tup [.tup [.int (0)], .tup [.int (0)]], .tup [.tup [.int (1)], .tup []], .tup [.tup [.int (1), .int (2)], .tup [.int (1), .int (2)], .tup [.int (0), .int (1)]], .non], .fl [.tup [.int (1), .int (4), .int (1)], .tup [.int (1), .int (3), .int (3), .int (1)], .tup [.int (0), .int (0), .int (1)], .tup [.tup [.int (0)], .tup [.int (0)]], .tup [.tup [.int (1)], .tup []], .tup [.tup [.int (1), .int (2)], .tup [.int (1), .int (2)], .tup [.int (0), .int (1)]], .non]] [] = .ok (.bl true) [] := by kernel_rfl
theorem kc17 : run tab 199 82 false [.tup [.int (1), .int (1), .int (0)]] [] = .ok (.tup [.int (0), .int (0)]) [] := by kernel_rfl
theorem kc18 : run tab 199 82 false [.tup [.int (1), .int (1), .int (1)]] [] = .ok (.tup [.int (2), .int (2)]) [] := by kernel_rfl
theorem kc19 : run tab 199 83 false [.tup [.int (1), .int (1), .int (0)]] [] = .ok (.int (1)) [] := by kernel_rfl
theorem kc20 : run tab 199 85 false [.tup [.int (1), .int (1), .int (0)]] [] = .ok (.tup [.int (1), .int (1)]) [] := by kernel_rfl
theorem kc21 : run tab 199 86 false [.tup [.int (1), .int (1), .int (1)]] [] = .ok (.tup [.int (2), .int (1)]) [] := by kernel_rfl
theorem kc22 : run tab 199 91 false [.tup [.int (1), .int (1), .int (0)], .tup [.int (1), .int (2), .int (0)]] [] = .ok (.int (1)) [] := by kernel_rfl
theorem kc23 : run tab 199 92 false [.tup [.int (1), .int (1), .int (0)], .int (0)] [] = .ok (.tup [.int (0), .int (2), .int (1)]) [] := by kernel_rfl
theorem kc24 : run tab 199 93 false [.fl [.tup [.int (0), .int (0)], .tup [.int (2), .int (2)], .int (1), .tup [.int (1), .int (1)], .tup [.int (2), .int (1)], .int (1), .tup [.int (0), .int (2), .int (1)]], .fl [.tup [.int (0), .int (0)], .tup [.int (2), .int (2)], .int (1), .tup [.int (1), .int (1)], .tup [.int (2), .int (1)], .int (1), .tup [.int (0), .int (2), .int (1)]]] [] = .ok (.bl true) [] := by kernel_rfl
theorem kc25 : run tab 199 64 false [.tup [.int (3), .tup [.tup [.int (0), .int (1)], .tup [.int (1), .int (2)]]], .tup [.int (1), .int (1), .int (1)], .int (0), .int (2)] [] = .ok (.tup [.tup [.int (-1), .tup [.int (1), .int (2)]], .tup [.int (1), .tup [.int (1), .int (2)]]]) [] := by kernel_rfl
theorem kc26 : run tab 199 65 false [.tup [.int (3), .tup [.tup [.int (0), .int (1)], .tup [.int (1), .int (2)]]], .tup [.int (1), .int (1), .int (1)]] [] = .ok (.tup [.int (4), .int (3)]) [] := by kernel_rfl
theorem kc27 : run tab 199 76 false [.tup [.int (3), .tup [.tup [.int (0), .int (1)], .tup [.int (1), .int (2)]]], .tup [.int (1), .int (1), .int (1)], .int (1), .int (0)] [] = .ok (.tup [.tup [.int (4), .tup [.tup [.int (0), .int (1)], .tup [.int (1), .int (2)], .tup [.int (1), .int (3)]]], .tup [.int (1), .int (1), .int (1), .int (0)]]) [] := by kernel_rfl
theorem kc28 : run tab 199 77 false [.tup [.int (3), .tup [.tup [.int (0), .int (1)], .tup [.int (1), .int (2)]]], .tup [.int (1), .int (1), .int (1)], .int (1)] [] = .ok (.tup [.int (6), .int (2)]) [] := by kernel_rfl
theorem kc29 : run tab 199 77 false [.tup [.int (3), .tup [.tup [.int (0), .int (1)], .tup [.int (1), .int (2)]]], .tup [.int (1), .int (1), .int (1)], .int (0)] [] = .ok (.tup [.int (3), .int (5)]) [] := by kernel_rfl
theorem kc30 : run tab 199 93 false [.fl [.tup [.tup [.int (-1), .tup [.int (1), .int (2)]], .tup [.int (1), .tup [.int (1), .int (2)]]], .tup [.int (4), .int (3)], .tup [.tup [.int (4), .tup [.tup [.int (0), .int (1)], .tup [.int (1), .int (2)], .tup [.int (1), .int (3)]]], .tup [.int (1), .int (1), .int (1), .int (0)]], .tup [.int (6), .int (2)], .tup [.int (3), .int (5)]], .fl [.tup [.tup [.int (-1), .tup [.int (1), .int (2)]], .tup [.int (1), .tup [.int (1), .int (2)]]], .tup [.int (4), .int (3)], .tup [.tup [.int (4), .tup [.tup [.int (0), .int (1)], .tup [.int (1), .int (2)], .tup [.int (1), .int (3)]]], .tup [.int (1), .int (1), .int (1), .int (0)]], .tup [.int (6), .int (2)], .tup [.int (3), .int (5)]]] [] = .ok (.bl true) [] := by kernel_rfl
theorem kc31 : run tab 199 40 false [.tup [.int (3), .tup [.tup [.int (0), .int (1)], .tup [.int (1), .int (2)]]]] [] = .ok (.tup [.tup [.int (0), .int (4)], .tup [.int (1), .int (2)], .tup [.int (2), .int (2)]]) [] := by kernel_rfl
theorem kc32 : run tab 199 42 false [.tup [.int (3), .tup [.tup [.int (0), .int (1)], .tup [.int (1), .int (2)]]]] [] = .ok (.tup [.int (2), .tup [.int (0), .int (1), .int (0)]]) [] := by kernel_rfl
theorem kc33 : run tab 199 43 false [.tup [.int (3), .tup [.tup [.int (0), .int (1)], .tup [.int (1), .int (2)]]]] [] = .ok (.tup [.int (0), .int (3), .int (0), .int (1)]) [] := by kernel_rfl
theorem kc34 : run tab 199 44 false [.int (4)] [] = .ok (.int (16)) [] := by kernel_rfl
theorem kc35 : run tab 199 48 false [.int (3)] [] = .ok (.int (2)) [] := by kernel_rfl
theorem kc36 : run tab 199 93 true [.fl [.tup [.tup [.int (0), .int (4)], .tup [.int (1), .int (2)], .tup [.int (2), .int (2)]], .tup [.int (2), .tup [.int (0), .int (1), .int (0)]], .tup [.int (0), .int (3), .int (0), .int (1)], .int (16), .int (2)], .fl [.tup [.tup [.int (0), .int (4)], .tup [.int (1), .int (2)], .tup [.int (2), .int (2)]], .tup [.int (2), .tup [.int (0), .int (1), .int (0)]], .tup [.int (0), .int (3), .int (0), .int (1)], .int (16), .int (2)]] [] = .ok (.bl true) [] := by kernel_rfl
theorem law_g {P : Nat → Option Fn} {i : Nat} (H : Has P i 1 6 f_law.body) (k0 : run P 199 20 false [.tup [.int (1), .int (1), .int (1)]] [] = .ok (.tup [.int (0), .int (2)]) []) (k1 : run P 199 20 false [.tup [.int (0), .int (1), .int (1), .int (0)]] [] = .ok (.tup [.int (2), .int (2)]) []) (k2 : run P 199 21 false [.tup [.int (1), .int (1), .int (1)]] [] = .ok (.int (1)) []) (k3 : run P 199 22 false [.tup [.int (1), .int (1), .int (1)]] [] = .ok (.tup [.int (0), .int (1), .int (2)]) []) (k4 : run P 199 23 false [.tup [.int (1), .int (1), .int (1)]] [] = .ok (.tup [.int (2), .int (3)]) []) (k5 : run P 199 24 false [.tup [.int (1), .int (1), .int (1)]] [] = .ok (.tup [.int (2), .int (3)]) []) (k6 : run P 199 21 false [.tup [.int (1), .int (1), .int (0)]] [] = .ok (.int (2)) []) (k7 : run P 199 20 false [.tup [.int (0), .int (0)]] [] = .ok (.tup [.int (2), .int (2)]) []) (k8 : run P 199 93 false [.fl [.tup [.int (0), .int (2)], .tup [.int (2), .int (2)], .int (1), .tup [.int (0), .int (1), .int (2)], .tup [.int (2), .int (3)], .tup [.int (2), .int (3)], .int (2), .tup [.int (2), .int (2)]], .fl [.tup [.int (0), .int (2)], .tup [.int (2), .int (2)], .int (1), .tup [.int (0), .int (1), .int (2)], .tup [.int (2), .int (3)], .tup [.int (2), .int (3)], .int (2), .tup [.int (2), .int (2)]]] [] = .ok (.bl true) []) (k9 : run P 199 50 false [.int (3)] [] = .ok (.tup [.int (1), .int (4), .int (1)]) []) (k10 : run P 199 51 false [.int (4)] [] = .ok (.tup [.int (1), .int (3), .int (3), .int (1)]) []) (k11 : run P 199 52 false [.tup [.int (1), .int (0), .int (0)]] [] = .ok (.tup [.int (0), .int (0), .int (1)]) []) (k12 : run P 199 53 false [.tup [.int (1), .int (1), .int (1)], .int (1)] [] = .ok (.tup [.tup [.int (0)], .tup [.int (0)]]) []) (k13 : run P 199 53 false [.tup [.int (0), .int (1)], .int (1)] [] = .ok (.tup [.tup [.int (1)], .tup []]) []) (k14 : run P 199 55 false [.tup [.int (1), .int (1), .int (1)], .int (0)] [] = .ok (.tup [.tup [.int (1), .int (2)], .tup [.int (1), .int (2)], .tup [.int (0), .int (1)]]) []) (k15 : run P 199 55 false [.tup [.int (1), .int (1)], .int (0)] [] = .ok (.non) []) (k16 : run P 199 93 false [.fl [.tup [.int (1), .int (4), .int (1)], .tup [.int (1), .int (3), .int (3), .int (1)], .tup [.int (0), .int (0), .int (1)], .tup [.tup [.int (0)], .tup [.int (0)]], .tup [.tup [.int (1)], .tup []], .tup [.tup [.int (1), .int (2)], .tup [.int (1), .int (2)], .tup [.int (0), .int (1)]], .non], .fl [.tup [.int (1), .int (4), .int (1)], .tup [.int (1), .int (3), .int (3), .int (1)], .tup [.int (0), .int (0), .int (1)], .tup [.tup [.int (0)], .tup [.int (0)]], .tup [.tup [.int (1)], .tup []], .tup [.tup [.int (1), .int (2)], .tup [.int (1), .int (2)], .tup [.int (0), .int (1)]], .non]] [] = .ok (.bl true) []) (k17 : run P 199 82 false [.tup [.int (1), .int (1), .int (0)]] [] = .ok (.tup [.int (0), .int (0)]) []) (k18 : run P 199 82 false [.tup [.int (1), .int (1), .int (1)]] [] = .ok (.tup [.int (2), .int (2)]) []) (k19 : run P 199 83 false [.tup [.int (1), .int (1), .int (0)]] [] = .ok (.int (1)) []) (k20 : run P 199 85 false [.tup [.int (1), .int (1), .int (0)]] [] = .ok (.tup [.int (1), .int (1)]) []) (k21 : run P 199 86 false [.tup [.int (1), .int (1), .int (1)]] [] = .ok (.tup [.int (2), .int (1)]) []) (k22 : run P 199 91 false [.tup [.int (1), .int (1), .int (0)], .tup [.int (1), .int (2), .int (0)]] [] = .ok (.int (1)) []) (k23 : run P 199 92 false [.tup [.int (1), .int (1), .int (0)], .int (0)] [] = .ok (.tup [.int (0), .int (2), .int (1)]) []) (k24 : run P 199 93 false [.fl [.tup [.int (0), .int (0)], .tup [.int (2), .int (2)], .int (1), .tup [.int (1), .int (1)], .tup [.int (2), .int (1)], .int (1), .tup [.int (0), .int (2), .int (1)]], .fl [.tup [.int (0), .int (0)], .tup [.int (2), .int (2)], .int (1), .tup [.int (1), .int (1)], .tup [.int (2), .int (1)], .int (1), .tup [.int (0), .int (2), .int (1)]]] [] = .ok (.bl true) []) (k25 : run P 199 64 false [.tup [.int (3), .tup [.tup [.int (0), .int (1)], .tup [.int (1), .int (2)]]], .tup [.int (1), .int (1), .int (1)], .int (0), .int (2)] [] = .ok (.tup [.tup [.int (-1), .tup [.int (1), .int (2)]], .tup [.int (1), .tup [.int (1), .int (2)]]]) []) (k26 : run P 199 65 false [.tup [.int (3), .tup [.tup [.int (0), .int (1)], .tup [.int (1), .int (2)]]], .tup [.int (1), .int (1), .int (1)]] [] = .ok (.tup [.int (4), .int (3)]) []) (k27 : run P 199 76 false [.tup [.int (3), .tup [.tup [.int (0), .int (1)], .tup [.int (1), .int (2)]]], .tup [.int (1), .int (1), .int (1)], .int (1), .int (0)] [] = .ok (.tup [.tup [.int (4), .tup [.tup [.int (0), .int (1)], .tup [.int (1), .int (2)], .tup [.int (1), .int (3)]]], .tup [.int (1), .int (1), .int (1), .int (0)]]) []) (k28 : run P 199 77 false [.tup [.int (3), .tup [.tup [.int (0), .int (1)], .tup [.int (1), .int (2)]]], .tup [.int (1), .int (1), .int (1)], .int (1)] [] = .ok (.tup [.int (6), .int (2)]) []) (k29 : run P 199 77 false [.tup [.int (3), .tup [.tup [.int (0), .int (1)], .tup [.int (1), .int (2)]]], .tup [.int (1), .int (1), .int (1)], .int (0)] [] = .ok (.tup [.int (3), .int (5)]) []) (k30 : run P 199 93 false [.fl [.tup [.tup [.int (-1), .tup [.int (1), .int (2)]], .tup [.int (1), .tup [.int (1), .int (2)]]], .tup [.int (4), .int (3)], .tup [.tup [.int (4), .tup [.tup [.int (0), .int (1)], .tup [.int (1), .int (2)], .tup [.int (1), .int (3)]]], .tup [.int (1), .int (1), .int (1), .int (0)]], .tup [.int (6), .int (2)], .tup [.int (3), .int (5)]], .fl [.tup [.tup [.int (-1), .tup [.int (1), .int (2)]], .tup [.int (1), .tup [.int (1), .int (2)]]], .tup [.int (4), .int (3)], .tup [.tup [.int (4), .tup [.tup [.int (0), .int (1)], .tup [.int (1), .int (2)], .tup [.int (1), .int (3)]]], .tup [.int (1), .int (1), .int (1), .int (0)]], .tup [.int (6), .int (2)], .tup [.int (3), .int (5)]]] [] = .ok (.bl true) []) (k31 : run P 199 40 false [.tup [.int (3), .tup [.tup [.int (0), .int (1)], .tup [.int (1), .int (2)]]]] [] = .ok (.tup [.tup [.int (0), .int (4)], .tup [.int (1), .int (2)], .tup [.int (2), .int (2)]]) []) (k32 : run P 199 42 false [.tup [.int (3), .tup [.tup [.int (0), .int (1)], .tup [.int (1), .int (2)]]]] [] = .ok (.tup [.int (2), .tup [.int (0), .int (1), .int (0)]]) []) (k33 : run P 199 43 false [.tup [.int (3), .tup [.tup [.int (0), .int (1)], .tup [.int (1), .int (2)]]]] [] = .ok (.tup [.int (0), .int (3), .int (0), .int (1)]) []) (k34 : run P 199 44 false [.int (4)] [] = .ok (.int (16)) []) (k35 : run P 199 48 false [.int (3)] [] = .ok (.int (2)) []) (k36 : run P 199 93 true [.fl [.tup [.tup [.int (0), .int (4)], .tup [.int (1), .int (2)], .tup [.int (2), .int (2)]], .tup [.int (2), .tup [.int (0), .int (1), .int (0)]], .tup [.int (0), .int (3), .int (0), .int (1)], .int (16), .int (2)], .fl [.tup [.tup [.int (0), .int (4)], .tup [.int (1), .int (2)], .tup [.int (2), .int (2)]], .tup [.int (2), .tup [.int (0), .int (1), .int (0)]], .tup [.int (0), .int (3), .int (0), .int (1)], .int (16), .int (2)]] [] = .ok (.bl true) []) (ns : List Int) : WP (run P 200 i false [.rl (ns.map .int)] []) fun d _ => d = .bl true := by
  refine WP_run H rfl ?_
  unfold f_law
  simp! [k0, k1, k2, k3, k4, k5, k6, k7, k8, k9, k10, k11, k12, k13, k14, k15, k16, k17, k18, k19, k20, k21, k22, k23, k24, k25, k26, k27, k28, k29, k30, k31, k32, k33, k34, k35, k36, vAddN, cIsB]
theorem law_k (ns : List Int) : WP (run tab 200 lawId false [.rl (ns.map .int)] []) fun d _ => d = .bl true := law_g (P := tab) (i := lawId) ⟨_, rfl, rfl⟩ kc0 kc1 kc2 kc3 kc4 kc5 kc6 kc7 kc8 kc9 kc10 kc11 kc12 kc13 kc14 kc15 kc16 kc17 kc18 kc19 kc20 kc21 kc22 kc23 kc24 kc25 kc26 kc27 kc28 kc29 kc30 kc31 kc32 kc33 kc34 kc35 kc36 ns
theorem isTrue1_of {r : Oc D} (w : WP r fun d _ => d = .bl true) : isTrue1 r = true := by
  cases r with
  | ok d h => rw [WP_ok] at w; rw [w]; rfl
  | bad => rw [WP_bad] at w; exact w.elim
  | ex x h => rw [WP_ex] at w; exact w.elim
theorem plain : Plain := fun ns _ => isTrue1_of (law_k ns)


end Q
end
theorem PySem.Challenge.cw_cointakes_k72_known_long_rows_holds : PySem.Challenge.rw_cointakes_k72_known_long_rows.Holds := by
  exact Q.holds_of Q.plain

