import PyProof.Rows.All
import Wide.All
import OpenK.AllK
import Wide.FinOn
import KE.KStateDown
import HandS.Base
import HandS.Call
import HandS.Ends
import HandS.Words
import HandS.Defaults
import HandS.Codes
import HandS.Head0
import HandS.Head1
import HandS.Head2
import HandS.HeadEnd
import HandS.HeadHook1
import HandS.HeadHook2
import HandS.ForMost
import HandS.IsInst
import HandS.Star
import HandS.Conv
import HandS.Flow
import HandS.Style
import HandS.Walk
import HandS.TupAny
import HandS.Deep
import HandS.Zip
import HandS.SortInts
import HandS.SortRule
import HandS.OwnEq
import HandS.DictComp
import HandS.More
import KE.DataMinMax
import KE.GoesMore
import HandS.Strs
import HandS.SetFor
import HandS.TupSets
import OpenK.KOps
import PyProof.InstNe
import KE.KDictPairs
import KE.KDictCopyH
import KE.KeyNested
import PySem.Challenge.RW_surelyplan_k16_whole_limits
set_option Elab.async false
set_option linter.all false
set_option maxRecDepth 100000
set_option maxHeartbeats 0
namespace K16
open PySem PySem.Spec PyProof.Rows L2
def top (i : Nat) : Stmt := PySem.Challenge.pw_surelyplan_k16_whole_limits.main.body.getD i (.Pass ⟨0, 0, 0, 0⟩)
abbrev s_is_number : Stmt := top 17
abbrev s_check_number : Stmt := top 18
abbrev s_Schema___init__ : Stmt := inClass (top 19) 0
abbrev s_Schema___eq__ : Stmt := inClass (top 19) 1
abbrev s_cells_of : Stmt := top 20
abbrev s_check_schema : Stmt := top 21
abbrev s_check_table : Stmt := top 22
abbrev s_are_counts : Stmt := top 23
abbrev s_Data___init__ : Stmt := inClass (top 24) 0
abbrev s_Data_rows : Stmt := inClass (top 24) 3
abbrev s_Data_filled : Stmt := inClass (top 24) 6
abbrev s_check_data : Stmt := top 25
abbrev s_is_atom : Stmt := top 29
abbrev s_are_atoms : Stmt := top 30
abbrev s_variables_in : Stmt := top 31
abbrev s_ascends : Stmt := top 32
abbrev s_are_filters : Stmt := top 33
abbrev s_Query___init__ : Stmt := inClass (top 34) 0
abbrev s_Query___len__ : Stmt := inClass (top 34) 2
abbrev s_Query_allowed : Stmt := inClass (top 34) 5
abbrev s_check_query : Stmt := top 35
abbrev s_check_both : Stmt := top 36
abbrev s_extended : Stmt := top 37
abbrev s_is_bound : Stmt := top 38
abbrev s_rows_after : Stmt := top 39
abbrev s_rows_of : Stmt := top 41
abbrev s_is_order : Stmt := top 43
abbrev s_check_order : Stmt := top 44
abbrev s_check_memory : Stmt := top 48
abbrev s_first_many : Stmt := top 49
abbrev s_best_tree : Stmt := top 50
abbrev s_sort_cost : Stmt := top 51
abbrev s_cost_by : Stmt := top 52
abbrev s_moves_of : Stmt := top 55
abbrev s_step_moves : Stmt := top 56
abbrev s_moves_by : Stmt := top 57
abbrev s_order_moves : Stmt := top 58
abbrev s_least_by : Stmt := top 59
abbrev s_least_moves : Stmt := top 60
abbrev s_memory_needed : Stmt := top 61
abbrev s__law_number : Stmt := top 63
abbrev s__law_take : Stmt := top 64
abbrev s__law_pick : Stmt := top 65
abbrev s__law_order : Stmt := top 66
abbrev s__law_schema : Stmt := top 67
abbrev s__law_cells : Stmt := top 68
abbrev s__law_tables : Stmt := top 69
abbrev s__law_names : Stmt := top 70
abbrev s__law_parts : Stmt := top 71
abbrev s__law_assigned : Stmt := top 72
abbrev s__law_query : Stmt := top 73
abbrev s__law_made : Stmt := top 74
abbrev s__law_moves : Stmt := top 75
abbrev s__law_orders : Stmt := top 76
abbrev s__law_total : Stmt := top 77
abbrev s_law : Stmt := top 78
end K16
set_option Elab.async false
set_option linter.all false
set_option maxRecDepth 100000
set_option maxHeartbeats 0
namespace K16
open PySem PySem.Spec PyProof.Rows L2
def d_is_number : He.DefD := ⟨("is_number", none), "is_number", "is_number", defArgs s_is_number, defBody s_is_number, defScope s_is_number, [], []⟩
def d_check_number : He.DefD := ⟨("check_number", none), "check_number", "check_number", defArgs s_check_number, defBody s_check_number, defScope s_check_number, [], []⟩
def d_Schema___init__ : He.DefD := ⟨("Schema", some "__init__"), "__init__", "Schema.__init__", defArgs s_Schema___init__, defBody s_Schema___init__, defScope s_Schema___init__, [], []⟩
def d_Schema___eq__ : He.DefD := ⟨("Schema", some "__eq__"), "__eq__", "Schema.__eq__", defArgs s_Schema___eq__, defBody s_Schema___eq__, defScope s_Schema___eq__, [], []⟩
def d_cells_of : He.DefD := ⟨("cells_of", none), "cells_of", "cells_of", defArgs s_cells_of, defBody s_cells_of, defScope s_cells_of, [], []⟩
def d_check_schema : He.DefD := ⟨("check_schema", none), "check_schema", "check_schema", defArgs s_check_schema, defBody s_check_schema, defScope s_check_schema, [], []⟩
def d_check_table : He.DefD := ⟨("check_table", none), "check_table", "check_table", defArgs s_check_table, defBody s_check_table, defScope s_check_table, [], []⟩
def d_are_counts : He.DefD := ⟨("are_counts", none), "are_counts", "are_counts", defArgs s_are_counts, defBody s_are_counts, defScope s_are_counts, [], []⟩
def d_Data___init__ : He.DefD := ⟨("Data", some "__init__"), "__init__", "Data.__init__", defArgs s_Data___init__, defBody s_Data___init__, defScope s_Data___init__, [], []⟩
def d_Data_rows : He.DefD := ⟨("Data", some "rows"), "rows", "Data.rows", defArgs s_Data_rows, defBody s_Data_rows, defScope s_Data_rows, [], []⟩
def d_Data_filled : He.DefD := ⟨("Data", some "filled"), "filled", "Data.filled", defArgs s_Data_filled, defBody s_Data_filled, defScope s_Data_filled, [], []⟩
def d_check_data : He.DefD := ⟨("check_data", none), "check_data", "check_data", defArgs s_check_data, defBody s_check_data, defScope s_check_data, [], []⟩
def d_is_atom : He.DefD := ⟨("is_atom", none), "is_atom", "is_atom", defArgs s_is_atom, defBody s_is_atom, defScope s_is_atom, [], []⟩
def d_are_atoms : He.DefD := ⟨("are_atoms", none), "are_atoms", "are_atoms", defArgs s_are_atoms, defBody s_are_atoms, defScope s_are_atoms, [], []⟩
def d_variables_in : He.DefD := ⟨("variables_in", none), "variables_in", "variables_in", defArgs s_variables_in, defBody s_variables_in, defScope s_variables_in, [], []⟩
def d_ascends : He.DefD := ⟨("ascends", none), "ascends", "ascends", defArgs s_ascends, defBody s_ascends, defScope s_ascends, [], []⟩
def d_are_filters : He.DefD := ⟨("are_filters", none), "are_filters", "are_filters", defArgs s_are_filters, defBody s_are_filters, defScope s_are_filters, [], []⟩
def d_Query___init__ : He.DefD := ⟨("Query", some "__init__"), "__init__", "Query.__init__", defArgs s_Query___init__, defBody s_Query___init__, defScope s_Query___init__, [], []⟩
def d_Query___len__ : He.DefD := ⟨("Query", some "__len__"), "__len__", "Query.__len__", defArgs s_Query___len__, defBody s_Query___len__, defScope s_Query___len__, [], []⟩
def d_Query_allowed : He.DefD := ⟨("Query", some "allowed"), "allowed", "Query.allowed", defArgs s_Query_allowed, defBody s_Query_allowed, defScope s_Query_allowed, [], []⟩
def d_check_query : He.DefD := ⟨("check_query", none), "check_query", "check_query", defArgs s_check_query, defBody s_check_query, defScope s_check_query, [], []⟩
def d_check_both : He.DefD := ⟨("check_both", none), "check_both", "check_both", defArgs s_check_both, defBody s_check_both, defScope s_check_both, [], []⟩
def d_extended : He.DefD := ⟨("extended", none), "extended", "extended", defArgs s_extended, defBody s_extended, defScope s_extended, [], []⟩
def d_is_bound : He.DefD := ⟨("is_bound", none), "is_bound", "is_bound", defArgs s_is_bound, defBody s_is_bound, defScope s_is_bound, [], []⟩
def d_rows_after : He.DefD := ⟨("rows_after", none), "rows_after", "rows_after", defArgs s_rows_after, defBody s_rows_after, defScope s_rows_after, [], []⟩
def d_rows_of : He.DefD := ⟨("rows_of", none), "rows_of", "rows_of", defArgs s_rows_of, defBody s_rows_of, defScope s_rows_of, [], []⟩
def d_is_order : He.DefD := ⟨("is_order", none), "is_order", "is_order", defArgs s_is_order, defBody s_is_order, defScope s_is_order, [], []⟩
def d_check_order : He.DefD := ⟨("check_order", none), "check_order", "check_order", defArgs s_check_order, defBody s_check_order, defScope s_check_order, [], []⟩
def d_check_memory : He.DefD := ⟨("check_memory", none), "check_memory", "check_memory", defArgs s_check_memory, defBody s_check_memory, defScope s_check_memory, [], []⟩
def d_first_many : He.DefD := ⟨("first_many", none), "first_many", "first_many", defArgs s_first_many, defBody s_first_many, defScope s_first_many, [], []⟩
def d_best_tree : He.DefD := ⟨("best_tree", none), "best_tree", "best_tree", defArgs s_best_tree, defBody s_best_tree, defScope s_best_tree, [], []⟩
def d_sort_cost : He.DefD := ⟨("sort_cost", none), "sort_cost", "sort_cost", defArgs s_sort_cost, defBody s_sort_cost, defScope s_sort_cost, [], []⟩
def d_cost_by : He.DefD := ⟨("cost_by", none), "cost_by", "cost_by", defArgs s_cost_by, defBody s_cost_by, defScope s_cost_by, [], []⟩
def d_moves_of : He.DefD := ⟨("moves_of", none), "moves_of", "moves_of", defArgs s_moves_of, defBody s_moves_of, defScope s_moves_of, [], []⟩
def d_step_moves : He.DefD := ⟨("step_moves", none), "step_moves", "step_moves", defArgs s_step_moves, defBody s_step_moves, defScope s_step_moves, [], []⟩
def d_moves_by : He.DefD := ⟨("moves_by", none), "moves_by", "moves_by", defArgs s_moves_by, defBody s_moves_by, defScope s_moves_by, [], []⟩
def d_order_moves : He.DefD := ⟨("order_moves", none), "order_moves", "order_moves", defArgs s_order_moves, defBody s_order_moves, defScope s_order_moves, [], []⟩
def d_least_by : He.DefD := ⟨("least_by", none), "least_by", "least_by", defArgs s_least_by, defBody s_least_by, defScope s_least_by, [], []⟩
def d_least_moves : He.DefD := ⟨("least_moves", none), "least_moves", "least_moves", defArgs s_least_moves, defBody s_least_moves, defScope s_least_moves, [], []⟩
def d_memory_needed : He.DefD := ⟨("memory_needed", none), "memory_needed", "memory_needed", defArgs s_memory_needed, defBody s_memory_needed, defScope s_memory_needed, [], []⟩
def d__law_number : He.DefD := ⟨("_law_number", none), "_law_number", "_law_number", defArgs s__law_number, defBody s__law_number, defScope s__law_number, [], []⟩
def d__law_take : He.DefD := ⟨("_law_take", none), "_law_take", "_law_take", defArgs s__law_take, defBody s__law_take, defScope s__law_take, [], []⟩
def d__law_pick : He.DefD := ⟨("_law_pick", none), "_law_pick", "_law_pick", defArgs s__law_pick, defBody s__law_pick, defScope s__law_pick, [], []⟩
def d__law_order : He.DefD := ⟨("_law_order", none), "_law_order", "_law_order", defArgs s__law_order, defBody s__law_order, defScope s__law_order, [], []⟩
def d__law_schema : He.DefD := ⟨("_law_schema", none), "_law_schema", "_law_schema", defArgs s__law_schema, defBody s__law_schema, defScope s__law_schema, [], []⟩
def d__law_cells : He.DefD := ⟨("_law_cells", none), "_law_cells", "_law_cells", defArgs s__law_cells, defBody s__law_cells, defScope s__law_cells, [], []⟩
def d__law_tables : He.DefD := ⟨("_law_tables", none), "_law_tables", "_law_tables", defArgs s__law_tables, defBody s__law_tables, defScope s__law_tables, [], []⟩
def d__law_names : He.DefD := ⟨("_law_names", none), "_law_names", "_law_names", defArgs s__law_names, defBody s__law_names, defScope s__law_names, [], []⟩
def d__law_parts : He.DefD := ⟨("_law_parts", none), "_law_parts", "_law_parts", defArgs s__law_parts, defBody s__law_parts, defScope s__law_parts, [], []⟩
def d__law_assigned : He.DefD := ⟨("_law_assigned", none), "_law_assigned", "_law_assigned", defArgs s__law_assigned, defBody s__law_assigned, defScope s__law_assigned, [], []⟩
def d__law_query : He.DefD := ⟨("_law_query", none), "_law_query", "_law_query", defArgs s__law_query, defBody s__law_query, defScope s__law_query, [], []⟩
def d__law_made : He.DefD := ⟨("_law_made", none), "_law_made", "_law_made", defArgs s__law_made, defBody s__law_made, defScope s__law_made, [], []⟩
def d__law_moves : He.DefD := ⟨("_law_moves", none), "_law_moves", "_law_moves", defArgs s__law_moves, defBody s__law_moves, defScope s__law_moves, [], []⟩
def d__law_orders : He.DefD := ⟨("_law_orders", none), "_law_orders", "_law_orders", defArgs s__law_orders, defBody s__law_orders, defScope s__law_orders, [], []⟩
def d__law_total : He.DefD := ⟨("_law_total", none), "_law_total", "_law_total", defArgs s__law_total, defBody s__law_total, defScope s__law_total, [], []⟩
def d_law : He.DefD := ⟨("law", none), "law", "law", defArgs s_law, defBody s_law, defScope s_law, [], []⟩
def fnl : List He.DefD := [d_is_number, d_check_number, d_Schema___init__, d_Schema___eq__, d_cells_of, d_check_schema, d_check_table, d_are_counts, d_Data___init__, d_Data_rows, d_Data_filled, d_check_data, d_is_atom, d_are_atoms, d_variables_in, d_ascends, d_are_filters, d_Query___init__, d_Query___len__, d_Query_allowed, d_check_query, d_check_both, d_extended, d_is_bound, d_rows_after, d_rows_of, d_is_order, d_check_order, d_check_memory, d_first_many, d_best_tree, d_sort_cost, d_cost_by, d_moves_of, d_step_moves, d_moves_by, d_order_moves, d_least_by, d_least_moves, d_memory_needed, d__law_number, d__law_take, d__law_pick, d__law_order, d__law_schema, d__law_cells, d__law_tables, d__law_names, d__law_parts, d__law_assigned, d__law_query, d__law_made, d__law_moves, d__law_orders, d__law_total, d_law]
def fal : List He.Fa := [.glo "is_number", .glo "check_number", .glo "Schema", .glo "cells_of", .glo "check_schema", .glo "check_table", .glo "are_counts", .glo "Data", .glo "check_data", .glo "is_atom", .glo "are_atoms", .glo "variables_in", .glo "ascends", .glo "are_filters", .glo "Query", .glo "check_query", .glo "check_both", .glo "extended", .glo "is_bound", .glo "rows_after", .glo "rows_of", .glo "is_order", .glo "check_order", .glo "check_memory", .glo "first_many", .glo "best_tree", .glo "sort_cost", .glo "cost_by", .glo "moves_of", .glo "step_moves", .glo "moves_by", .glo "order_moves", .glo "least_by", .glo "least_moves", .glo "memory_needed", .glo "_law_number", .glo "_law_take", .glo "_law_pick", .glo "_law_order", .glo "_law_schema", .glo "_law_cells", .glo "_law_tables", .glo "_law_names", .glo "_law_parts", .glo "_law_assigned", .glo "_law_query", .glo "_law_made", .glo "_law_moves", .glo "_law_orders", .glo "_law_total", .glo "law", .free "isinstance", .free "int", .free "bool", .free "tuple", .free "list", .free "len", .free "all", .free "any", .free "range", .free "enumerate", .free "zip", .free "sum", .free "sorted", .free "set", .free "dict", .free "min", .free "max", .int "MOST_SIZE" 6, .int "MOST_TABLES" 4, .int "MOST_WIDTH" 2, .int "MOST_COUNT" 9, .int "MOST_ATOMS" 4, .int "MOST_VARIABLE" 5, .int "MOST_ROWS" 60, .int "MOST_MEMORY" 8, .int "MOST_MOVES" 9999, .cls "Schema", .mkr "Schema", .noat "Schema" "size", .noat "Schema" "widths", .cls "Data", .mkr "Data", .noat "Data" "schema", .noat "Data" "tables", .cls "Query", .mkr "Query", .noat "Query" "schema", .noat "Query" "atoms", .noat "Query" "filters", .noat "Query" "shown", .meth "Schema" "__eq__", .meth "Data" "rows", .meth "Data" "filled", .meth "Query" "__len__", .meth "Query" "allowed"]
/-! ### the Hook: the facts, the defs, one more Bool -/
def insB (K : PySem.W.Frag) (C : Addr) : Bool :=
  He.eqO (PySem.W.findIn K (.ref C) "__class__") (some (some (.builtin "object.__class__"))) && (He.eqO (PySem.W.specialIn K (.builtin "object.__class__") "__get__") (some (some (.builtin "getset_descriptor.__get__"))) &&
    (decide (PySem.W.takesIn K (.builtin "object.__class__") = some true) && (decide (PySem.W.mroIn K C (.type "object") = some true) && decide (PySem.W.kitOne K (.ref C) (.ref C) = some true))))
def exB (K : PySem.W.Frag) : Bool := insB K (He.ga K "Schema") && (insB K (He.ga K "Data") && (insB K (He.ga K "Query") && He.eqO (PySem.W.findIn K (.ref (He.ga K "Schema")) "__ne__") (some (some (.builtin "object.__ne__")))))
abbrev AlZ : Type := Bool × He.AlD
def obsZ (K : PySem.W.Frag) : AlZ := (exB K, He.obsD fal fnl K)
def valZ : AlZ := (true, He.valD fnl)
def obsZG (n : Nat) (g : Addr → Option Obj) : AlZ := obsZ (He.frG g (He.asD g n))
def SaysZ (K : PySem.W.Frag) : Prop := obsZ K = valZ
def hk : PySem.W.Hook where
  α := AlZ
  obs := fun s => obsZG 4 s.heap.get?
  val := fun _ => valZ
  says := fun _ h => ∃ K : PySem.W.Frag, K.In h ∧ SaysZ K
  of := fun _ _ e => ⟨_, He.frG_in, e⟩
  keeps := fun _ _ _ ⟨K, hK, c⟩ k => ⟨K, PySem.W.Frag.In.keeps hK k, c⟩
abbrev R : PySem.W.OpenRow := PySem.W.OpenLaw.row PySem.Challenge.rw_surelyplan_k16_whole_limits
def ob (s : PySem.W.SharedT) : AlZ := obsZG 4 (HandSHeadRun.getT s)
theorem ob_eq (s : PySem.W.SharedT) : ob s = hk.obs s.abs := by
  have e : HandSHeadRun.getT s = s.abs.heap.get? := funext (HandSHeadRun.getT_eq s)
  show obsZG 4 (HandSHeadRun.getT s) = obsZG 4 s.abs.heap.get?
  rw [e]
def loose1 : List PySem.Str := [("_wall" : PySem.Str), ("PlanError" : PySem.Str), ("BadSchema" : PySem.Str), ("BadTable" : PySem.Str), ("BadData" : PySem.Str), ("BadQuery" : PySem.Str), ("Unlike" : PySem.Str), ("BadNumber" : PySem.Str), ("BadPlan" : PySem.Str), ("BadMemory" : PySem.Str), ("BadRows" : PySem.Str), ("MOST_SIZE" : PySem.Str), ("MOST_TABLES" : PySem.Str), ("MOST_WIDTH" : PySem.Str), ("MOST_COUNT" : PySem.Str), ("is_number" : PySem.Str), ("check_number" : PySem.Str), ("Schema" : PySem.Str), ("cells_of" : PySem.Str), ("check_schema" : PySem.Str), ("check_table" : PySem.Str), ("are_counts" : PySem.Str), ("Data" : PySem.Str), ("check_data" : PySem.Str), ("MOST_ATOMS" : PySem.Str), ("MOST_VARIABLE" : PySem.Str), ("is_atom" : PySem.Str), ("are_atoms" : PySem.Str), ("variables_in" : PySem.Str), ("ascends" : PySem.Str), ("are_filters" : PySem.Str), ("Query" : PySem.Str), ("check_query" : PySem.Str), ("check_both" : PySem.Str), ("extended" : PySem.Str), ("is_bound" : PySem.Str), ("rows_after" : PySem.Str), ("rows_of" : PySem.Str), ("is_order" : PySem.Str), ("check_order" : PySem.Str)]
def loose2 : List PySem.Str := [("MOST_ROWS" : PySem.Str), ("MOST_MEMORY" : PySem.Str), ("check_memory" : PySem.Str), ("first_many" : PySem.Str), ("best_tree" : PySem.Str), ("sort_cost" : PySem.Str), ("cost_by" : PySem.Str), ("MOST_MOVES" : PySem.Str), ("moves_of" : PySem.Str), ("step_moves" : PySem.Str), ("moves_by" : PySem.Str), ("order_moves" : PySem.Str), ("least_by" : PySem.Str), ("least_moves" : PySem.Str), ("memory_needed" : PySem.Str), ("_law_number" : PySem.Str), ("_law_take" : PySem.Str), ("_law_pick" : PySem.Str), ("_law_order" : PySem.Str), ("_law_schema" : PySem.Str), ("_law_cells" : PySem.Str), ("_law_tables" : PySem.Str), ("_law_names" : PySem.Str), ("_law_parts" : PySem.Str), ("_law_assigned" : PySem.Str), ("_law_query" : PySem.Str), ("_law_made" : PySem.Str), ("_law_moves" : PySem.Str), ("_law_orders" : PySem.Str), ("_law_total" : PySem.Str)]
theorem run (w : World) : HandSHeadRun.RunEq R (PySem.W.view R.prog [78]) hk ob 20000 (loose1 ++ loose2) w := by
  intro os
  kernel_rfl
end K16
set_option Elab.async false
set_option linter.all false
set_option maxRecDepth 100000
set_option maxHeartbeats 4000000
namespace K16
open PySem PySem.Spec PyProof.Rows L2
/-! ### a def of the module under its name; its promise -/
/-- a def stands under its name -/
def Has (K : PySem.W.Frag) (mg : Str → Option Value) (x : Str) (st : Stmt) : Prop :=
  ∃ (f : Addr) (fd : FuncData), FunD K x x (defArgs st) (defBody st) (defScope st) [] [] f fd ∧ mg x = some (.ref f)
structure Cal (P : Program) (w : World) (K : PySem.W.Frag) (mg : Str → Option Value) (base : Heap) (k : Nat) (x : Str) (sp : Sp) : Prop where
  ex : ∃ (f : Addr) (fd : FuncData) (ps : List Str), FnOk P w K mg base CX0 k f fd ps sp ∧ mg x = some (.ref f) ∧ PySem.W.keepIn K (.ref f) = true ∧ Binds K fd ps []
/-- a method of the class at C -/
structure MetO (P : Program) (w : World) (K : PySem.W.Frag) (mg : Str → Option Value) (base : Heap) (k : Nat) (C : Addr) (m : Str) (sp : Sp) : Prop where
  ex : ∃ (f : Addr) (fd : FuncData) (ps : List Str), Cls K C ∧ Meth K C m f ∧ FnOk P w K mg base CX0 k f fd ps sp ∧ Binds K fd ps []
/-- a class made by its name -/
structure MakO (P : Program) (w : World) (K : PySem.W.Frag) (mg : Str → Option Value) (base : Heap) (k : Nat) (x : Str) (C : Addr) (sp : Sp) : Prop where
  ex : ∃ (f : Addr) (fd : FuncData) (ps : List Str), Mk K C f ∧ FnOk P w K mg base CX0 k f fd ps sp ∧ mg x = some (.ref C) ∧ Binds K fd ps []
abbrev BindH (st : Stmt) (ps : List Str) (x qual : Str) : Prop := ∀ (kV doc pm : Value) (an : Option Addr) (cdv ct : Value) (us : List Value), us.length = ps.length →
  bindArgs (PySem.W.fnOf x qual (defArgs st) (defBody st) (defScope st) .none kV doc pm an cdv ct) ⟨us, []⟩ = pure (ps.zip us)
section
variable {P : Program} {w : World} {K : PySem.W.Frag} {mg : Str → Option Value} {base : Heap}
/-- what a def's body is to show -/
abbrev Body (P : Program) (w : World) (K : PySem.W.Frag) (mg : Str → Option Value) (base : Heap) (N : List Str) (qual : Str) (st : Stmt) (k : Nat) (sp : Sp) (f : Addr) : Prop :=
  ∀ (cdv : Value) (A : Around) (outer : List Env) (s : Shared) (H : Hp) (vs : List V) (Q : VK) (E : XK), Room k (A.deeper (envOfC qual (defScope st) s.heap.objs.size f cdv)) → sp vs H Q E →
      ∃ t, PSs (cxOf CX0 P w K mg base N qual (defScope st) f cdv A outer s H E).nox (defBody st) t ∧ t { nx := fun _ H' => Q .non H', rt := Q } (start N vs) H
theorem fn_body {x qual : Str} {st : Stmt} {f : Addr} {fd : FuncData} {N ps : List Str} {k : Nat} {sp : Sp} (F : FunD K x qual (defArgs st) (defBody st) (defScope st) [] [] f fd) (S : FnScope N ps (defScope st)) (len : ∀ vs H Q E, sp vs H Q E → vs.length = ps.length)
    (hb : Body P w K mg base N qual st k sp f) : FnOk P w K mg base CX0 (k + 1) f fd ps sp := by
  refine F.ok S len fun cdv A outer s H vs Q E hr h => ?_
  obtain ⟨t, h1, h2⟩ := hb cdv A outer s H vs Q E hr h
  exact ⟨t, h1.nox, h2⟩
theorem cal_of {x : Str} {st : Stmt} {N ps : List Str} {k : Nat} {sp : Sp} (h : Has K mg x st) (S : FnScope N ps (defScope st)) (b : BindH st ps x x) (len : ∀ vs H Q E, sp vs H Q E → vs.length = ps.length)
    (hb : ∀ f, Body P w K mg base N x st k sp f) : Cal P w K mg base (k + 1) x sp := by
  obtain ⟨f, fd, F, g⟩ := h
  exact ⟨f, fd, ps, fn_body F S len (hb f), g, F.kp, F.bindsN b⟩
/-- a method stands in its class -/
def HasM (K : PySem.W.Frag) (C : Addr) (m qual : Str) (st : Stmt) : Prop :=
  ∃ (f : Addr) (fd : FuncData), FunD K m qual (defArgs st) (defBody st) (defScope st) [] [] f fd ∧ Meth K C m f
theorem met_of {m qual : Str} {C : Addr} {st : Stmt} {N ps : List Str} {k : Nat} {sp : Sp} (c : Cls K C) (h : HasM K C m qual st) (S : FnScope N ps (defScope st)) (b : BindH st ps m qual) (len : ∀ vs H Q E, sp vs H Q E → vs.length = ps.length)
    (hb : ∀ f, Body P w K mg base N qual st k sp f) : MetO P w K mg base (k + 1) C m sp := by
  obtain ⟨f, fd, F, g⟩ := h
  exact ⟨f, fd, ps, c, g, fn_body F S len (hb f), F.bindsN b⟩
/-- an __init__ stands in its class -/
def HasI (K : PySem.W.Frag) (C : Addr) (qual : Str) (st : Stmt) : Prop :=
  ∃ (f : Addr) (fd : FuncData), FunD K "__init__" qual (defArgs st) (defBody st) (defScope st) [] [] f fd ∧ Mk K C f
theorem mak_of {x qual : Str} {C : Addr} {st : Stmt} {N ps : List Str} {k : Nat} {sp : Sp} (hm : mg x = some (.ref C)) (h : HasI K C qual st) (S : FnScope N ps (defScope st)) (b : BindH st ps "__init__" qual) (len : ∀ vs H Q E, sp vs H Q E → vs.length = ps.length)
    (hb : ∀ f, Body P w K mg base N qual st k sp f) : MakO P w K mg base (k + 1) x C sp := by
  obtain ⟨f, fd, F, g⟩ := h
  exact ⟨f, fd, ps, g, fn_body F S len (hb f), hm, F.bindsN b⟩
end
section
variable {X : Cx} {k j : Nat} {C : Addr} {x m : Str} {sp : Sp} {p pos apos : Pos} {e o : Expr} {es : List Expr} {ta : TE} {t : TA}
theorem pc (c : Cal X.prog X.w X.K X.mg X.base k x sp) (hr : Room j X.A) (hk : k ≤ j) (hg : Gl X x) (ha : PA X (e :: es) t)
    (hdb : (x == ("__debug__" : Str)) = false := by decide) (he : starEach (e :: es) X.env = (false, eval e X.env) :: starEach es X.env := by rfl) (hpl : (backTo pos (starEach es X.env)).any (·.1) = false := by rfl) :
    PE X (.Call (.Name x p) (e :: es) [] pos) (tCall sp [] E0 t) := by
  obtain ⟨f, fd, ps, F, hm, kp, b⟩ := c.ex
  exact pe_call F (hr.mono hk) hg hm kp b .nil pass0 ha hdb he hpl
theorem pk (c : MakO X.prog X.w X.K X.mg X.base k x C sp) (hr : Room j X.A) (hk : k + 1 ≤ j) (hg : Gl X x) (ha : PA X (e :: es) t)
    (hdb : (x == ("__debug__" : Str)) = false := by decide) (he : starEach (e :: es) X.env = (false, eval e X.env) :: starEach es X.env := by rfl) (hpl : (backTo pos (starEach es X.env)).any (·.1) = false := by rfl) :
    PE X (.Call (.Name x p) (e :: es) [] pos) (tMake C sp [] E0 t) := by
  obtain ⟨f, fd, ps, M, F, hm, b⟩ := c.ex
  exact pe_make M F (hr.mono hk) hg hm b .nil pass0 ha hdb he hpl
theorem pm {pl : Sem Bool} (c : MetO X.prog X.w X.K X.mg X.base k C m sp) (hr : Room j X.A) (hk : k ≤ j) (he : PE X o ta) (ha : PA X (e :: es) t)
    (hst : starEach (e :: es) X.env = (false, eval e X.env) :: starEach es X.env := by rfl) (hpl : (backTo pos (starEach es X.env)).any (·.1) = false := by rfl)
    (ht : eval (.Call (.Attribute o m apos) (e :: es) [] pos) X.env = (do
      let ov ← eval o X.env
      standAt apos.atName
      let (f, first) ← holding [ov] (getMethod ov m pl)
      callWith pos f first (backTo pos (starEach (e :: es) X.env)) (backToKw pos (keywordEach [] X.env))) := by rfl) :
    PE X (.Call (.Attribute o m apos) (e :: es) [] pos) (tMeth C m sp [] E0 ta t) := by
  obtain ⟨f, fd, ps, hc, hm, F, b⟩ := c.ex
  exact pe_meth (pl := pl) he hc hm F (hr.mono hk) b .nil pass0 ha hst hpl ht
/-- a module's whole number -/
theorem pgi {i : Int} (h : ∃ t, X.mg x = some (.int i t)) (hg : Gl X x) (hd : (x == ("__debug__" : Str)) = false := by decide) : PE X (.Name x pos) (tC (.int i)) := by
  obtain ⟨t, hm⟩ := h
  exact pe_glob hg hm ⟨t, rfl⟩ hd
end
/-! ### what stands at the module's names -/
structure Tx (K : PySem.W.Frag) (mg : Str → Option Value) : Prop where
  bIsinstance : mg "isinstance" = none
  bInt : mg "int" = none
  bBool : mg "bool" = none
  bTuple : mg "tuple" = none
  bList : mg "list" = none
  bLen : mg "len" = none
  bAll : mg "all" = none
  bAny : mg "any" = none
  bRange : mg "range" = none
  bEnumerate : mg "enumerate" = none
  bZip : mg "zip" = none
  bSum : mg "sum" = none
  bSorted : mg "sorted" = none
  bSet : mg "set" = none
  bDict : mg "dict" = none
  bMin : mg "min" = none
  bMax : mg "max" = none
  iSize : ∃ t, mg "MOST_SIZE" = some (.int 6 t)
  iTables : ∃ t, mg "MOST_TABLES" = some (.int 4 t)
  iWidth : ∃ t, mg "MOST_WIDTH" = some (.int 2 t)
  iCount : ∃ t, mg "MOST_COUNT" = some (.int 9 t)
  iAtoms : ∃ t, mg "MOST_ATOMS" = some (.int 4 t)
  iVariable : ∃ t, mg "MOST_VARIABLE" = some (.int 5 t)
  iRows : ∃ t, mg "MOST_ROWS" = some (.int 60 t)
  iMemory : ∃ t, mg "MOST_MEMORY" = some (.int 8 t)
  iMoves : ∃ t, mg "MOST_MOVES" = some (.int 9999 t)
/-! ### numbers -/
abbrev vN (n : Nat) : V := .int (n : Int)
end K16
set_option Elab.async false
set_option linter.all false
set_option maxRecDepth 100000
set_option maxHeartbeats 4000000
namespace K16
open PySem PySem.Spec PyProof.Rows L2
/-! ### tests whose answer is known -/
theorem itT {b : Bool} {A B : Prop} (hb : b = true) (h : A) : if b = true then A else B := by
  rw [hb]
  exact iteT h
theorem itF {b : Bool} {A B : Prop} (hb : b = false) (h : B) : if b = true then A else B := by
  rw [hb]
  exact iteF h
/-! ### comprehensions -/
/-- no test -/
theorem lc_yes {σ : L2.St} {H : Hp} {X Y : Hp → Prop} (h : X H) : tYes σ H fun b H3 => if b = true then X H3 else Y H3 := by
  show (if true = true then X H else Y H)
  rw [if_pos rfl]
  exact h
section
variable {J : It} {n : Nat} {G : Hp → Prop} {Y : Nat → Hp → V → Hp → Prop}
/-- a walk with any body B: Pv by the turn and the heap -/
theorem it_core (w : Walk J n G Y) {H0 : Hp} {Qd : Hp → Prop} {B : (Hp → Prop) → V → Hp → Prop} (Pv : Nat → Hp → Prop) (h0 : Pv 0 H0) (hG : ∀ i H, i ≤ n → Pv i H → G H)
    (hs : ∀ i x H H', i < n → Pv i H → Y i H x H' → B (Pv (i + 1)) x H') (hd : ∀ H, Pv n H → Qd H) :
    ∃ W : Nat → Nat → Hp → Prop, (∃ m, W 0 m H0) ∧ ∀ i m H, W i m H →
      (J.stop i H ∧ Qd H) ∨ (J.go i H ∧ ∃ Nx : Hp → Prop, (∀ H', Nx H' → ∃ m', m' < m ∧ W (i + 1) m' H') ∧ ∀ x H', J.yld i H x H' → B Nx x H') := by
  refine ⟨fun i m H => m = n - i ∧ i ≤ n ∧ Pv i H, ⟨n, by simp, Nat.zero_le _, h0⟩, ?_⟩
  rintro i m H ⟨rfl, hi, p⟩
  have q := hG i H hi p
  by_cases hlt : i < n
  · exact .inr ⟨w.goes i H hlt q, Pv (i + 1), fun H' p' => ⟨n - (i + 1), by omega, rfl, hlt, p'⟩, fun x H' y => hs i x H H' hlt p (w.yields i H x H' hlt q y)⟩
  · have e : i = n := by omega
    subst e
    exact .inl ⟨w.stops H q, hd H p⟩
end
/-- the list at D so far, and what is known by the turn -/
def LcI (D : Addr) (I : Nat → List V → Hp → Prop) (i : Nat) (H : Hp) : Prop := ∃ acc, H D = some (.lst acc) ∧ acc.length ≤ i ∧ I i acc H
theorem lc_end {D : Addr} {I : Nat → List V → Hp → Prop} {H4 : Hp} {acc : List V} {y : V} {i n : Nat} (hD : H4 D = some (.lst acc)) (hl : acc.length ≤ i) (hi : i < n) (hn : n ≤ 100000) (hI : I (i + 1) (acc ++ [y]) (upd H4 D (.lst (acc ++ [y])))) :
    ∃ acc, H4 D = some (.lst acc) ∧ acc.length < sizeLine ∧ LcI D I (i + 1) (upd H4 D (.lst (acc ++ [y]))) :=
  ⟨acc, hD, Nat.lt_of_lt_of_le (Nat.lt_of_le_of_lt hl hi) (Nat.le_trans hn (by decide)), acc ++ [y], upd_same, by rw [List.length_append]; exact Nat.succ_le_succ hl, hI⟩
/-! ### heaps -/
theorem _root_.L2.Same.nw {H : Hp} {p : Addr} {o : HO} (h : H p = none) : Same H (upd H p o) := fun b x e => by
  rw [upd_ne (ne_of_none e h)]
  exact e
/-- what is new against H may change -/
theorem _root_.L2.Same.mt {H H' : Hp} {p : Addr} {o : HO} (e : Same H H') (h : H p = none) : Same H (upd H' p o) := fun b x hb => by
  rw [upd_ne (ne_of_none hb h)]
  exact e b x hb
theorem _root_.L2.Same.tp {K : PySem.W.Frag} {H H' : Hp} {a : Addr} {xs : List V} (e : Same H H') (h : SqT K H a xs) : SqT K H' a xs := by
  rcases h with (h | ⟨o, h⟩) | h
  · exact .inl (.inl (e _ _ h))
  · exact .inl (.inr ⟨o, e _ _ h⟩)
  · exact .inr h
/-- a draw's list: the script, a number -/
def isDraw : HO → Bool
  | .lst (.ref _ :: .int _ :: []) => true
  | _ => false
/-- all but draws stand as before -/
def SD (H H' : Hp) : Prop := ∀ b o, isDraw o = false → H b = some o → H' b = some o
theorem SD.refl (H : Hp) : SD H H := fun _ _ _ h => h
theorem SD.trans {H H1 H2 : Hp} (a : SD H H1) (b : SD H1 H2) : SD H H2 := fun c o d h => b c o d (a c o d h)
theorem _root_.L2.Same.sd {H H' : Hp} (e : Same H H') : SD H H' := fun b o _ h => e b o h
/-- tuples stand as before -/
def TS (H H' : Hp) : Prop := ∀ b xs, H b = some (.tup xs) → H' b = some (.tup xs)
theorem TS.refl (H : Hp) : TS H H := fun _ _ h => h
theorem TS.trans {H H1 H2 : Hp} (a : TS H H1) (b : TS H1 H2) : TS H H2 := fun c o h => b c o (a c o h)
theorem SD.ts {H H' : Hp} (e : SD H H') : TS H H' := fun b xs h => e b _ rfl h
theorem _root_.L2.Same.ts {H H' : Hp} (e : Same H H') : TS H H' := e.sd.ts
theorem TS.upd {H : Hp} {D : Addr} {o u : HO} (h : H D = some u) (hu : ∀ xs, u ≠ .tup xs) : TS H (upd H D o) := fun b xs e => by
  rw [upd_ne (ne_of e h fun z => hu _ z.symm)]
  exact e
theorem TS.updL {H : Hp} {D : Addr} {o : HO} {ys : List V} (h : H D = some (.lst ys)) : TS H (L2.upd H D o) := TS.upd h fun _ z => by cases z
theorem TS.new {H : Hp} {p : Addr} {o : HO} (h : H p = none) : TS H (L2.upd H p o) := (Same.nw h).ts
/-! ### data -/
/-- a tuple of numbers, a list of numbers -/
def TN (H : Hp) (a : Addr) (l : List Nat) : Prop := H a = some (.tup (l.map vN))
def LN (H : Hp) (a : Addr) (l : List Nat) : Prop := H a = some (.lst (l.map vN))
/-- a pair of a number and a tuple of numbers: an atom, a filter -/
def PR (H : Hp) (a : Addr) (p : Nat × List Nat) : Prop := ∃ q, H a = some (.tup [vN p.1, .ref q]) ∧ TN H q p.2
/-- a tuple, a list of things -/
def TupOf {α : Type} (R : Hp → Addr → α → Prop) (H : Hp) (a : Addr) (l : List α) : Prop := ∃ xs : List Addr, H a = some (.tup (xs.map V.ref)) ∧ Paired (R H) xs l
def LstOf {α : Type} (R : Hp → Addr → α → Prop) (H : Hp) (a : Addr) (l : List α) : Prop := ∃ xs : List Addr, H a = some (.lst (xs.map V.ref)) ∧ Paired (R H) xs l
section
variable {H H' : Hp} {a : Addr}
theorem TN.ts {l : List Nat} (e : TS H H') (h : TN H a l) : TN H' a l := e _ _ h
theorem PR.ts {p : Nat × List Nat} (e : TS H H') (h : PR H a p) : PR H' a p := let ⟨q, h1, h2⟩ := h; ⟨q, e _ _ h1, h2.ts e⟩
theorem pimp {α β : Type} {R S : α → β → Prop} : ∀ {l : List α} {m : List β}, Paired R l m → (∀ a b, R a b → S a b) → Paired S l m
  | _, _, .nil, _ => .nil
  | _, _, .cons h t, f => .cons (f _ _ h) (pimp t f)
theorem TupOf.ts {α : Type} {R : Hp → Addr → α → Prop} {l : List α} (e : TS H H') (hR : ∀ a x, R H a x → R H' a x) (h : TupOf R H a l) : TupOf R H' a l := let ⟨xs, h1, h2⟩ := h; ⟨xs, e _ _ h1, pimp h2 hR⟩
theorem isDraw_nats (l : List Nat) : isDraw (.lst (l.map vN)) = false := by
  cases l with
  | nil => rfl
  | cons x r => rfl
theorem isDraw_refs (l : List Addr) : isDraw (.lst (l.map V.ref)) = false := by
  cases l with
  | nil => rfl
  | cons x r => cases r with
    | nil => rfl
    | cons y r => rfl
theorem LN.sd {l : List Nat} (e : SD H H') (h : LN H a l) : LN H' a l := e _ _ (isDraw_nats l) h
theorem LstOf.sd {α : Type} {R : Hp → Addr → α → Prop} {l : List α} (e : SD H H') (hR : ∀ a x, R H a x → R H' a x) (h : LstOf R H a l) : LstOf R H' a l := let ⟨xs, h1, h2⟩ := h; ⟨xs, e _ _ (isDraw_refs xs) h1, pimp h2 hR⟩
/-- a schema at s -/
def SchAt (C : Addr) (H : Hp) (s : Addr) (size : Nat) (widths : List Nat) : Prop := ∃ dx q, H s = some (.ins C dx [("size", vN size), ("widths", .ref q)]) ∧ TN H q widths
theorem SchAt.sd {C s : Addr} {size : Nat} {widths : List Nat} (e : SD H H') (h : SchAt C H s size widths) : SchAt C H' s size widths := let ⟨dx, q, h1, h2⟩ := h; ⟨dx, q, e _ _ rfl h1, h2.ts e.ts⟩
end
/-! ### the three classes: what isinstance, fields and methods ask -/
structure Cs (K : PySem.W.Frag) (mg : Str → Option Value) (CS CD CQ : Addr) : Prop where
  clS : Cls K CS
  clD : Cls K CD
  clQ : Cls K CQ
  gS : mg "Schema" = some (.ref CS)
  gD : mg "Data" = some (.ref CD)
  gQ : mg "Query" = some (.ref CQ)
  iS : C8.InsC K CS
  iD : C8.InsC K CD
  iQ : C8.InsC K CQ
  nSs : NoAttr K CS "size"
  nSw : NoAttr K CS "widths"
  nDs : NoAttr K CD "schema"
  nDt : NoAttr K CD "tables"
  nQs : NoAttr K CQ "schema"
  nQa : NoAttr K CQ "atoms"
  nQf : NoAttr K CQ "filters"
  nQh : NoAttr K CQ "shown"
end K16
set_option Elab.async false
set_option linter.all false
set_option maxRecDepth 100000
set_option maxHeartbeats 4000000
namespace K16
open PySem PySem.Spec PyProof.Rows L2
/-! ### sum, max of a tuple of ints -/
section
variable {prog : Program} {w : World} {A : Around} {E : Value → Shared → Prop} {s : Shared} {l : Addr} {Q : Value → Shared → Prop}
theorem old_tup {h' : Heap} (hk : ∀ b o, b ∉ [s.heap.objs.size] → (s.heap.push { cls := .type "tuple_iterator", data := .fields #[.ref l, .int 0 0] }).get? b = some o → h'.get? b = some o) : ∀ b o, s.heap.get? b = some o → h'.get? b = some o := by
  intro b o e
  have hb : b ∉ [s.heap.objs.size] := by
    intro hm
    have : b = s.heap.objs.size := List.mem_singleton.mp hm
    exact Nat.lt_irrefl _ (this ▸ Heap.lt_size e)
  exact hk b o hb (Heap.get?_push_of_some _ e)
theorem iter_tupI {items : Array Value} (hh : A.handled = none) (hl : s.heap.IsTuple l items)
    (h : ∀ s₂ : Shared, s₂ = { s with heap := s.heap.push { cls := .type "tuple_iterator", data := .fields #[.ref l, .int 0 0] } } →
      Walks prog w A s.heap.objs.size [s.heap.objs.size, l] [s.heap.objs.size] items.size (fun i v => items[i]? = some v) (fun i h => h.IsTupleIter s.heap.objs.size l i ∧ h.IsTuple l items) →
      (s₂.heap.IsTupleIter s.heap.objs.size l 0 ∧ s₂.heap.IsTuple l items) → (∀ b ∈ [s.heap.objs.size, l], b < s₂.heap.objs.size) → Q (.ref s.heap.objs.size) s₂) :
    wpAny (model prog w) A (pyIter (.ref l)) Q E s := by
  have hlt : l < s.heap.objs.size := by
    obtain ⟨_, e, _⟩ := hl
    exact Heap.lt_size e
  have hz : (s.heap.push { cls := .type "tuple_iterator", data := .fields #[.ref l, .int 0 0] }).objs.size = s.heap.objs.size + 1 := Heap.size_push ..
  refine wpAny_pyIter_tuple hl (h _ rfl (Walks.tuple hh _ l (Nat.ne_of_lt hlt) items) ⟨⟨_, Heap.get?_push_size _ rfl, rfl, rfl⟩, hl.push _⟩ ?_)
  intro b hb
  have hb2 : b < s.heap.objs.size + 1 := by
    rcases List.mem_cons.mp hb with e | e
    · exact Nat.lt_succ_of_le (Nat.le_of_eq e)
    · exact Nat.lt_succ_of_lt (Nat.lt_of_le_of_lt (Nat.le_of_eq (List.mem_singleton.mp e)) hlt)
  rw [← hz] at hb2
  exact hb2
theorem sum_tupI {xs : Array (Int × Tok)} (hh : A.handled = none) (hl : s.heap.IsTuple l (intItems xs)) (h : ∀ h' tk t', (∀ b o, s.heap.get? b = some o → h'.get? b = some o) → Q (.int (preSum (numAt xs) xs.size) t') { s with heap := h', toks := tk }) :
    wpAny (model prog w) A (call (.builtin "sum") [.ref l]) Q E s := by
  refine call_sum_walkG (iter_tupI (A := A.in1) hh hl fun s₂ e W st hfp => ?_)
  subst e
  refine ⟨_, _, _, _, _, _, numAt xs, rfl, W, st, hfp, fun _ _ => intItems_at, fun h' tk t' hk => ?_⟩
  have q := h h' tk t' (old_tup hk)
  simpa [intItems] using q
theorem max_tupI {xs : Array (Int × Tok)} (hh : A.handled = none) (hl : s.heap.IsTuple l (intItems xs)) (hne : 0 < xs.size)
    (h : ∀ v h' tk, (intItems xs)[argBest (fun i j => decide (numAt xs i > numAt xs j)) (xs.size - 1)]? = some v → (∀ b o, s.heap.get? b = some o → h'.get? b = some o) → Q v { s with heap := h', toks := tk }) :
    wpAny (model prog w) A (call (.builtin "max") [.ref l]) Q E s := by
  refine call_max_walk (iter_tupI (A := A.in1) hh hl fun s₂ e W st hfp => ?_)
  subst e
  refine ⟨_, _, _, _, _, _, _, rfl, W, st, hfp, by simpa [intItems] using hne, CmpOf.ints_gt (numAt xs) (fun _ _ => intItems_at), fun v h' tk hP hk => ?_⟩
  exact h v h' tk (by simpa [intItems] using hP) (old_tup hk)
end
section
variable {X : Cx}
theorem cr_sumT (hc : X.calm = true) : CallR X (.builtin "sum") (fun vs H Q => ∃ (a : Addr) (ns : List Int), vs = [V.ref a] ∧ SqT X.K H a (ns.map V.int) ∧ Q (.int ns.sum) H) := by
  intro pins s σ H vs us Q I r h
  obtain ⟨a, ns, rfl, hs, q⟩ := h
  obtain ⟨its, rv, hl, _⟩ := I.tuple hs
  rw [Vals.ref1 r]
  have hi := rv.ints
  obtain ⟨xs, e⟩ := hi.allInts.items
  have hn : numsOf (intItems xs).toList = ns := by rw [← e]; exact hi.numsOf
  rw [nums_intItems] at hn
  have hl' : s.heap.IsTuple a (intItems xs) := by rw [← e]; exact hl
  refine sum_tupI (I.ok.hd hc) hl' fun h' tk t' hk => ⟨.int ns.sum, H, I.kept hk, ⟨t', ?_⟩, q⟩
  rw [preSum_eq, List.take_of_length_le (by simp), hn]
theorem cr_maxT (hc : X.calm = true) : CallR X (.builtin "max") (fun vs H Q => ∃ (a : Addr) (ns : List Int), vs = [V.ref a] ∧ SqT X.K H a (ns.map V.int) ∧ 0 < ns.length ∧ ∀ m, m ∈ ns → (∀ y, y ∈ ns → y ≤ m) → Q (.int m) H) := by
  intro pins s σ H vs us Q I r h
  obtain ⟨a, ns, rfl, hs, hne, q⟩ := h
  obtain ⟨its, rv, hl, _⟩ := I.tuple hs
  rw [Vals.ref1 r]
  have hi := rv.ints
  obtain ⟨xs, e⟩ := hi.allInts.items
  have hn : numsOf (intItems xs).toList = ns := by rw [← e]; exact hi.numsOf
  rw [nums_intItems] at hn
  subst hn
  have hl' : s.heap.IsTuple a (intItems xs) := by rw [← e]; exact hl
  have hsz : 0 < xs.size := by simpa using hne
  refine max_tupI (I.ok.hd hc) hl' hsz fun v h' tk hv hk => ?_
  obtain ⟨t, rfl⟩ := intItems_at hv
  obtain ⟨h1, h2⟩ := argBest_gt (numAt xs) (xs.size - 1)
  refine ⟨.int _, H, I.kept hk, ⟨t, rfl⟩, q _ ?_ fun y hy => ?_⟩
  · rw [numAt_eq]
    exact PySem.getD_mem (by rw [List.length_map, Array.length_toList]; omega)
  · obtain ⟨j, hj, rfl⟩ := mem_getD hy
    rw [List.length_map, Array.length_toList] at hj
    rw [← numAt_eq]
    exact h2 j (by omega)
end
end K16
set_option Elab.async false
set_option linter.all false
set_option maxRecDepth 100000
set_option maxHeartbeats 4000000
namespace K16
open PySem PySem.Spec PyProof.Rows L2
/-! ### zip of a list and a tuple -/
def Itm (K : PySem.W.Frag) (a b : Addr) : It :=
  ⟨fun i H => ∃ (xs ys : List V) (x y : V), SqL K H a xs ∧ SqT K H b ys ∧ xs[i]? = some x ∧ ys[i]? = some y,
    fun i H v H' => ∃ T x y, v = .ref T ∧ H T = none ∧ H' = upd H T (.tup [x, y]) ∧ (∀ xs, SqL K H a xs → xs[i]? = some x) ∧ ∀ ys, SqT K H b ys → ys[i]? = some y,
    fun i H => ∃ xs ys : List V, SqL K H a xs ∧ SqT K H b ys ∧ i ≤ xs.length ∧ i ≤ ys.length ∧ (i = xs.length ∨ i = ys.length)⟩
def iZipM (K : PySem.W.Frag) (ta : TA) : TI := fun σ H R => ta σ H fun vs H1 => ∃ a b xs ys, vs = [.ref a, .ref b] ∧ SqL K H1 a xs ∧ SqT K H1 b ys ∧ R (Itm K a b) H1
theorem sep_of {z TI TO i1 i2 a b : Addr} (D : ZipApart z TI TO i1 i2 a b) : ZipSep2 z TI TO i1 i2 [i1, a] [i2, b] := by
  have two : ∀ {c u v : Addr}, c ≠ u → c ≠ v → c ∉ [u, v] := fun h1 h2 hm => by
    rcases List.mem_cons.mp hm with e | e
    · exact h1 e
    · exact h2 (List.mem_singleton.mp e)
  exact ⟨D.TIz, D.TOz, D.TITO, D.TIi1, List.mem_cons_self, two D.i1z.symm D.l1z.symm, two D.TOi1 D.l1TO.symm, D.TIi2, List.mem_cons_self, two D.i2z.symm D.l2z.symm, two D.TOi2 D.l2TO.symm, two D.i12 D.l2i1.symm, two D.i12.symm D.l1i2.symm⟩
/-- the five cells of such a zip -/
def ZmSt (z TI TO i1 i2 a b : Addr) (i : Nat) (h : Heap) : Prop :=
  IsZip h z TI TO .none ∧ IsTupOf2 h TI (.ref i1) (.ref i2) ∧ (∃ x y, IsTupOf2 h TO x y) ∧ h.IsListIter i1 a i ∧ h.IsTupleIter i2 b i
theorem five {p : Addr → Prop} {z TI TO i1 i2 : Addr} (h1 : p z) (h2 : p TI) (h3 : p TO) (h4 : p i1) (h5 : p i2) : ∀ c ∈ [z, TI, TO, i1, i2], p c := by
  intro c hc
  simp only [List.mem_cons, List.not_mem_nil, or_false] at hc
  rcases hc with rfl | rfl | rfl | rfl | rfl <;> assumption
theorem turnM {P : Program} {w : World} {K : PySem.W.Frag} {elts : List Expr} {kk : Nat} {tpos : Pos} {a b z TI TO i1 i2 : Addr} (D : ZipApart z TI TO i1 i2 a b) :
    Turn P w K (.Tuple elts kk tpos) (Itm K a b) [z, TI, TO, i1, i2] z (ZmSt z TI TO i1 i2 a b) := by
  have S := sep_of D
  refine ⟨by simp, fun i h st => ?_, fun i h h' st hk => ?_, ?_, ?_, fun A i s Q E st q => wpAny_pyIter_zip st.1 q⟩
  · obtain ⟨hz, hTI, ⟨x, y, hTO⟩, ⟨o1, e1, _, d1⟩, ⟨o2, e2, _, d2⟩⟩ := st
    refine five ⟨_, hz, ?_⟩ ⟨_, hTI, ?_⟩ ⟨_, hTO, ?_⟩ ⟨o1, e1, ?_⟩ ⟨o2, e2, ?_⟩
    · intro v q; cases q
    · intro v q; cases q
    · intro v q; cases q
    · intro v q; rw [d1] at q; cases q
    · intro v q; rw [d2] at q; cases q
  · obtain ⟨hz, hTI, ⟨x, y, hTO⟩, h1, h2⟩ := st
    exact ⟨hk _ (by simp) _ hz, hk _ (by simp) _ hTI, ⟨x, y, hk _ (by simp) _ hTO⟩, h1.at (hk _ (by simp)), h2.at (hk _ (by simp))⟩
  · intro X hP hw hK hc i pins s σ H E I hf st hg
    subst hP hw hK
    obtain ⟨hz, hTI, ⟨x0, y0, hTO⟩, h1, h2⟩ := st
    obtain ⟨xs, ys, x, y, qx, qy, gx, gy⟩ := hg
    obtain ⟨us, ru, pu, _⟩ := I.list qx
    obtain ⟨vs, rv, pv, _⟩ := I.tuple qy
    obtain ⟨u, hu, ru'⟩ := ru.get gx
    obtain ⟨v, hv, rv'⟩ := rv.get gy
    have hh := I.ok.hd hc
    have l1 : i < us.toArray.size := by
      have := (List.getElem?_eq_some_iff.mp hu).1
      simpa using this
    have l2 : i < vs.toArray.size := by
      have := (List.getElem?_eq_some_iff.mp hv).1
      simpa using this
    have D1 := Draws.list (prog := X.prog) (w := X.w) (A := X.A.in1) hh i1 a D.l1i1 us.toArray
    have D2 := Draws.tuple (prog := X.prog) (w := X.w) (A := X.A.in1) hh i2 b D.l2i2 vs.toArray
    refine wpAny_pyNext_zipD2_item S D1 D2 hz hTI hTO ⟨h1, pu.isList⟩ ⟨h2, pv⟩ l1 l2 fun u1 v1 h' tk y1 y2 z' TO' st1 st2 hT hsz hk => ?_
    obtain rfl : u = u1 := by
      have y1 : us.toArray[i]? = some u1 := y1
      rw [List.getElem?_toArray, hu] at y1
      exact Option.some.inj y1
    obtain rfl : v = v1 := by
      have y2 : vs.toArray[i]? = some v1 := y2
      rw [List.getElem?_toArray, hv] at y2
      exact Option.some.inj y2
    refine ⟨_, rfl, wpAny_letOwnedTupleGo_zip (s := { s with heap := h', toks := tk }) z' fun h'' z'' sb => ?_⟩
    have zlt := Heap.lt_size hz
    have hT2 := (sb.2 _ (Nat.ne_of_gt zlt)).trans hT
    have kp : ∀ c o, c ∉ [z, TI, TO, i1, i2] → s.heap.get? c = some o → h''.get? c = some o := by
      intro c o hc e
      simp only [List.mem_cons, List.not_mem_nil, or_false, not_or] at hc
      exact (sb.2 c hc.1).trans (hk c o hc.1 hc.2.2.1 hc.2.2.2.1 hc.2.2.2.2 e)
    have new : ObjOk X.prog X.w (upd H s.heap.objs.size (.tup [x, y])) h'' s.heap.objs.size (.tup [x, y]) :=
      ⟨by show 2 ≤ sizeLine; decide, [u, v], .cons ru' (.cons rv' .nil), _, hT2, rfl, _, rfl⟩
    have I1 := I.turnedNew (t' := tk) kp hf (Nat.le_refl _) new
    have lts : ∀ c ∈ [z, TI, TO, i1, i2], c < s.heap.objs.size := by
      obtain ⟨_, w1, _⟩ := h1
      obtain ⟨_, w2, _⟩ := h2
      exact five zlt (Heap.lt_size hTI) (Heap.lt_size hTO) (Heap.lt_size w1) (Heap.lt_size w2)
    refine ⟨.ref s.heap.objs.size, _, I1, rfl, ⟨_, x, y, rfl, I.hok.fresh (Nat.le_refl _), rfl, fun l hl => ?_, fun l hl => ?_⟩, ⟨z'', ?_, ⟨u, v, ?_⟩, ?_, ?_⟩, fun c hcm => ?_⟩
    · rw [I.list_inj hl qx]; exact gx
    · rw [I.tuple_inj hl qy]; exact gy
    · exact (sb.2 _ D.TIz).trans (hk _ _ D.TIz D.TITO D.TIi1 D.TIi2 hTI)
    · exact (sb.2 _ D.TOz).trans TO'
    · exact st1.1.at fun o q => (sb.2 _ D.i1z).trans q
    · exact st2.1.at fun o q => (sb.2 _ D.i2z).trans q
    · rw [upd_ne (Nat.ne_of_lt (lts c hcm))]
      exact (hf c hcm).1
  · intro X hP hw hK hc i pins s σ H E I hf st hg
    subst hP hw hK
    obtain ⟨hz, hTI, ⟨x0, y0, hTO⟩, h1, h2⟩ := st
    obtain ⟨xs, ys, qx, qy, le1, le2, hend⟩ := hg
    obtain ⟨us, ru, pu, _⟩ := I.list qx
    obtain ⟨vs, rv, pv, _⟩ := I.tuple qy
    have hh := I.ok.hd hc
    have e1 : us.toArray.size = xs.length := by rw [List.size_toArray]; exact ru.length.symm
    have e2 : vs.toArray.size = ys.length := by rw [List.size_toArray]; exact rv.length.symm
    have D1 := Draws.list (prog := X.prog) (w := X.w) (A := X.A.in1) hh i1 a D.l1i1 us.toArray
    have D2 := Draws.tuple (prog := X.prog) (w := X.w) (A := X.A.in1) hh i2 b D.l2i2 vs.toArray
    refine wpAny_pyNext_zipD2_end S D1 D2 hz hTI hTO ⟨h1, pu.isList⟩ ⟨h2, pv⟩ (by omega) (by omega) (by omega) fun h' tk hk => ⟨rfl, I.turnedL (t' := tk) (ch := [z, TI, TO, i1, i2]) (fun c o hc e => ?_) hf⟩
    simp only [List.mem_cons, List.not_mem_nil, or_false, not_or] at hc
    exact hk c o hc.1 hc.2.2.1 hc.2.2.2.1 hc.2.2.2.2 e
section
variable {X : Cx}
theorem pi_zipM {e e2 : Expr} {ta : TA} {p pos tpos : Pos} {elts : List Expr} {kk : Nat} (hg : Gl X "zip") (hm : X.mg "zip" = none) (ha : PA X [e, e2] ta)
    (hs : starEach [e, e2] X.env = (false, eval e X.env) :: starEach [e2] X.env := by rfl) (hpl : (backTo pos (starEach [e2] X.env)).any (·.1) = false := by rfl) :
    PI X (.Tuple elts kk tpos) (.Call (.Name "zip" p) [e, e2] [] pos) (iZipM X.K ta) := by
  refine ⟨fun pins s σ H R I h => ?_⟩
  refine Call_ (ld_blt I hg hm PyProof.Rows.boot_zip (PyProof.Rows.callWith_type1 (thn (ha.run pos pins s σ H _ I h) fun us s1 hx => ?_) hs hpl))
  obtain ⟨vs, H1, I1, r1, a, b, xs, ys, rfl, qx, qy, q⟩ := hx
  obtain ⟨u1, us, rfl, ru1, rr⟩ : ∃ u l, us = u :: l ∧ RelV (.ref a) u ∧ Vals [V.ref b] l := by cases r1 with | cons r t => exact ⟨_, _, rfl, r, t⟩
  obtain ⟨u2, rfl, ru2⟩ := vals1 rr
  cases ru1
  cases ru2
  obtain ⟨ks, _, p1, _⟩ := I1.list qx
  obtain ⟨js, _, p2, _⟩ := I1.tuple qy
  obtain ⟨o2, ho2, _⟩ := id p2
  refine zip_begins2 (begins_list a ks.toArray) (begins_tuple b js.toArray) p1.isList p2 fun h' hz hTI hTO g1 g2 hsz hk => wpAny_pyIter_zip hz ?_
  refine ⟨s1.heap.objs.size + 4, _, _, _, H1, rfl, I1.kept (t' := s1.toks) hk, turnM (PySem.W.ktu_apart s1.heap.objs.size a b p1.lt (Heap.lt_size ho2)), ⟨hz, hTI, ⟨_, _, hTO⟩, ⟨_, g1, rfl, rfl⟩, ⟨_, g2, rfl, rfl⟩⟩, fun c hc => ?_, q⟩
  have hle : s1.heap.objs.size ≤ c := five (p := fun c => s1.heap.objs.size ≤ c) (by omega) (by omega) (by omega) (by omega) (by omega) c hc
  exact I1.fpOk hle (I1.hok.fresh hle)
end
theorem walk_zipM {K : PySem.W.Frag} {a b : Addr} {xs ys : List V} {n : Nat} (hn : n = min xs.length ys.length) : Walk (Itm K a b) n (fun H => SqL K H a xs ∧ SqT K H b ys) (YPair (fun i => xs[i]?) (fun i => ys[i]?)) := by
  subst hn
  refine ⟨fun i _ hi q => ?_, fun _ q => ⟨xs, ys, q.1, q.2, by omega, by omega, by omega⟩, fun i H v H' _ q y => ?_⟩
  · have h1 : i < xs.length := by omega
    have h2 : i < ys.length := by omega
    exact ⟨xs, ys, xs[i], ys[i], q.1, q.2, by simp [h1], by simp [h2]⟩
  · obtain ⟨T, x, z, h1, h2, h3, h4, h5⟩ := y
    exact ⟨T, x, z, h1, h2, h3, h4 xs q.1, h5 ys q.2⟩
end K16
set_option Elab.async false
set_option linter.all false
set_option maxRecDepth 100000
set_option maxHeartbeats 4000000
namespace K16
open PySem PySem.Spec PyProof.Rows L2
/-! ### set(xs): made, then filled -/
abbrev newSet (w : World) : Obj := { cls := .type "set", dict := none, data := .set #[] 0 (.fresh 0 0 (!w.params.followText "set-order")) }
section
variable {prog : Program} {w : World} {A : Around} {E : Value → Shared → Prop} {s : Shared}
/-- what the filling loop is to show: Post of the heap behind it -/
abbrev Fills (prog : Program) (w : World) (A : Around) (s : Shared) (S : Addr) (items : Array Value) (Post : Heap → Prop) : Prop :=
  ∀ (A' : Around) (I : Addr) (fp : List Addr) (St : Nat → Shared → Prop) (s₁ : Shared) (R : Result → Shared → Prop), A'.handled = none → A'.units ≤ A.units + 8 →
    WalksS prog w A'.in1 I fp [I] (fun a b => b = a) items.size (fun i v => items[i]? = some v) St → S ∉ fp → St 0 s₁ → s₁.heap.get? S = some (newSet w) → (∀ b o, s.heap.get? b = some o → s₁.heap.get? b = some o) → s.heap.get? I = none →
    (∀ s', Moved [S, I] (fun a b => b = a) s₁ s' → Post s'.heap → R (.ok (.ret .none)) s') → codeAny (model prog w) A' (.builtin "set.update.loop" ⟨[.ref S, .ref I], []⟩) R s₁
theorem set_made {l : Addr} {items : Array Value} {Post : Heap → Prop} {Q : Value → Shared → Prop} (hh : A.handled = none) (hl : s.heap.IsList l items ∨ s.heap.IsTuple l items) (fill : Fills prog w A s s.heap.objs.size items Post)
    (h : ∀ h' tk, Post h' → (∀ b o, s.heap.get? b = some o → h'.get? b = some o) → Q (.ref s.heap.objs.size) { s with heap := h', toks := tk }) : wpAny (model prog w) A (call (.type "set") [.ref l]) Q E s := by
  obtain ⟨c, tl, hmro⟩ := F.called_set.mro
  have f1 := F.called_set.made
  have f2 := F.called_set.sub
  have f3 := F.called_set.notType
  have f4 := F.called_set.canCreate
  have f5 := F.typeCall_set_1 (.ref l)
  refine wpAny_call (codeAny_of_tree ?_)
  show wpAny _ _ (callAny (.type "set") _) _ _ _
  refine wpAny_pure ⟨Code.quiet_builtin _ (by decide +kernel), codeAny_builtin F.entry_type_call ?_⟩
  rw [Around.under_plain (weight_type_call_type "set" [.ref l] []) rfl]
  repeat (any_goals (first | assumption | wp_step))
  refine codeAny_mono (code_set_led1 (.ref l) (E := E) (Q₁ := fun obj s₁ => obj = .ref s.heap.objs.size ∧ s₁ = { s with heap := s.heap.push (newSet w) }) ⟨rfl, rfl⟩) fun r s₁ hr => ?_
  cases r with
  | error e => exact hr
  | ok fl =>
    cases fl with
    | ret obj =>
      obtain ⟨rfl, rfl⟩ := hr
      have hS : (s.heap.push (newSet w)).get? s.heap.objs.size = some (newSet w) := Heap.get?_push_size _ rfl
      have hT : Shared.TypeIs { s with heap := s.heap.push (newSet w) } (.ref s.heap.objs.size) "set" := ⟨_, hS, rfl⟩
      have f6 := F.called_set.init.lookup
      have f7 := F.called_set.init.bind (.ref s.heap.objs.size)
      repeat (any_goals (first | assumption | wp_step))
      refine codeAny_mono (codeAny_call_builtin (R := wants (fun r s₂ => r = .none ∧ ∃ h' tk, s₂ = { s with heap := h', toks := tk } ∧ Post h' ∧ ∀ b o, s.heap.get? b = some o → h'.get? b = some o) E) F.called_set.init.plain F.entry_set_init (check_set_init_1 hT ?_)) fun r₂ s₂ hr₂ => ?_
      · have z1 : (s.heap.push (newSet w)).objs.size = s.heap.objs.size + 1 := Heap.size_push ..
        have go : ∀ (oI : Obj) (St : Nat → Heap → Prop), l < s.heap.objs.size → oI.isFreed = false →
            Walks prog w A.in1.in1.in1 (s.heap.objs.size + 1) [s.heap.objs.size + 1, l] [s.heap.objs.size + 1] items.size (fun i v => items[i]? = some v) St → St 0 ((s.heap.push (newSet w)).push oI) →
            codeAny (model prog w) A.in1.in1 (.builtin "set.update.loop" ⟨[.ref s.heap.objs.size, .ref (s.heap.objs.size + 1)], []⟩) (fun r s' => match r with
              | .ok (.ret v) => v = .none ∧ ∃ h' tk, s' = { s with heap := h', toks := tk } ∧ Post h' ∧ ∀ b o, s.heap.get? b = some o → h'.get? b = some o
              | _ => False) { s with heap := (s.heap.push (newSet w)).push oI } := by
          intro oI St hlS hfree W st0
          have keep1 : ∀ b o, s.heap.get? b = some o → ((s.heap.push (newSet w)).push oI).get? b = some o := fun b o e => Heap.get?_push_of_some _ (Heap.get?_push_of_some _ e)
          refine fill A.in1.in1 (s.heap.objs.size + 1) _ _ _ _ (by simp [hh]) (by show A.units + 1 + 1 ≤ _; omega) W.toS ?_ st0 (Heap.get?_push_of_some _ hS) keep1 ?_ fun s' hm hp => ?_
          · simp only [List.mem_cons, List.not_mem_nil, or_false, not_or]
            exact ⟨Nat.ne_of_lt (Nat.lt_succ_self _), Nat.ne_of_gt hlS⟩
          · cases e : s.heap.get? (s.heap.objs.size + 1) with
            | none => rfl
            | some o => exact absurd (Heap.lt_size e) (Nat.not_lt.mpr (Nat.le_succ _))
          · obtain ⟨h', g2, d', tk', os'⟩ := s'
            obtain rfl : g2 = s.gens := hm.gens
            obtain rfl : d' = s.drawn := hm.drawn
            obtain rfl : os' = s.os := hm.os
            refine ⟨rfl, h', tk', rfl, hp, fun b o e => hm.heap b o ?_ (keep1 b o e)⟩
            have hlt := Heap.lt_size e
            simp only [List.mem_cons, List.not_mem_nil, or_false, not_or]
            exact ⟨Nat.ne_of_lt hlt, Nat.ne_of_lt (Nat.lt_succ_of_lt hlt)⟩
        have hh4 : A.in1.in1.in1.handled = none := by simp [hh]
        rcases hl with hl | hl
        · obtain ⟨⟨ocls, odict, odata, oslots⟩, hol, hcl, nl, hdl⟩ := id hl
          simp only at hcl hdl
          subst hcl hdl
          have g1 : (s.heap.push (newSet w)).get? l = some { cls := .type "list", dict := odict, data := .seq items nl, slots := oslots } := Heap.get?_push_of_some _ hol
          have e1 := F.sub_list_set
          have e2 := F.sub_list_frozenset
          have e3 : (Value.type "list" == Value.type "dict") = false := by decide
          have hl1 : (s.heap.push (newSet w)).IsList l items := ⟨_, g1, rfl, nl, rfl⟩
          have hlS : l < s.heap.objs.size := Heap.lt_size hol
          unfold Builtin.«set.__init__» noKeywords Builtin.Frozenset.updateFrom
          generalize hPI : pyIter = PI
          wp_walk
          subst hPI
          refine wpAny_pyIter_list hl1 (wpAny_bind (wpAny_runValue ?_))
          rw [show (s.heap.push (newSet w)).objs.size = s.heap.objs.size + 1 from z1]
          refine codeAny_mono (go { cls := .type "list_iterator", data := .fields #[.ref l, .int 0 0] } _ hlS rfl (Walks.list hh4 _ l (Nat.ne_of_lt (Nat.lt_succ_of_lt hlS)) items) ⟨⟨_, z1 ▸ Heap.get?_push_size _ rfl, rfl, rfl⟩, hl1.push _⟩) fun r s' hr => ?_
          cases r with
          | error e => exact hr.elim
          | ok fl => cases fl with
            | ret v =>
              obtain ⟨rfl, h', tk, rfl, hp, hk⟩ := hr
              refine wpAny_pure ?_
              show wpAny _ _ (ret Value.none) _ _ _
              exact wpAny_pure ⟨rfl, h', tk, rfl, hp, hk⟩
            | _ => exact hr.elim
        · obtain ⟨⟨ocls, odict, odata, oslots⟩, hol, hcl, nl, hdl⟩ := id hl
          simp only at hcl hdl
          subst hcl hdl
          have g1 : (s.heap.push (newSet w)).get? l = some { cls := .type "tuple", dict := odict, data := .seq items nl, slots := oslots } := Heap.get?_push_of_some _ hol
          have e1 := F.sub_tuple_set
          have e2 := F.sub_tuple_frozenset
          have e3 : (Value.type "tuple" == Value.type "dict") = false := by decide
          have hl1 : (s.heap.push (newSet w)).IsTuple l items := ⟨_, g1, rfl, nl, rfl⟩
          have hlS : l < s.heap.objs.size := Heap.lt_size hol
          unfold Builtin.«set.__init__» noKeywords Builtin.Frozenset.updateFrom
          generalize hPI : pyIter = PI
          wp_walk
          subst hPI
          refine wpAny_pyIter_tuple hl1 (wpAny_bind (wpAny_runValue ?_))
          rw [show (s.heap.push (newSet w)).objs.size = s.heap.objs.size + 1 from z1]
          refine codeAny_mono (go { cls := .type "tuple_iterator", data := .fields #[.ref l, .int 0 0] } _ hlS rfl (Walks.tuple hh4 _ l (Nat.ne_of_lt (Nat.lt_succ_of_lt hlS)) items) ⟨⟨_, z1 ▸ Heap.get?_push_size _ rfl, rfl, rfl⟩, hl1.push _⟩) fun r s' hr => ?_
          cases r with
          | error e => exact hr.elim
          | ok fl => cases fl with
            | ret v =>
              obtain ⟨rfl, h', tk, rfl, hp, hk⟩ := hr
              refine wpAny_pure ?_
              show wpAny _ _ (ret Value.none) _ _ _
              exact wpAny_pure ⟨rfl, h', tk, rfl, hp, hk⟩
            | _ => exact hr.elim
      · cases r₂ with
        | error e => exact hr₂
        | ok fl₂ =>
          cases fl₂ with
          | ret r =>
            obtain ⟨rfl, h', tk, rfl, hp, hk⟩ := hr₂
            repeat (any_goals (first | assumption | wp_step))
            exact h _ _ hp hk
          | _ => exact hr₂.elim
    | _ => exact hr.elim
end
section
variable {X : Cx}
theorem cr_setT (hc : X.calm = true) : CallR X (.type "set") (fun xs H Q => ∃ (l : Addr) (ns : List Int), xs = [V.ref l] ∧ SqT X.K H l (ns.map V.int) ∧ ns.length ≤ 1000 ∧ ns.Nodup ∧
    ∀ (a : Addr) (S : Int → Bool), H a = none → Q (.ref a) (upd H a (SetO X.w a S ns.length))) := by
  intro pins s σ H xs us Q I r h
  obtain ⟨l, ns, rfl, hs, h1, nd, q⟩ := h
  obtain ⟨its, rv, p, hz⟩ := I.tuple hs
  rw [Vals.ref1 r]
  refine call_set_tupI ns (I.ok.hd hc) (show s.heap.IsTuple l its.toArray from p) (ints_of_vals rv) (by unfold scanBound; omega) fun h' tk c R hcn k => ?_
  have hcl : c = ns.length := by
    obtain ⟨o, es, ep, t, ho, hex, hd, g, hnd, hm, hb, hf, hn, hr⟩ := R
    have e1 : (es.toList.map keyOf).Perm ns := by
      refine (List.perm_ext_iff_of_nodup hnd nd).mpr fun j => ?_
      rw [← hm j, decide_eq_true_eq]
    have := e1.length_eq
    rw [List.length_map, Array.length_toList] at this
    omega
  rw [hcl] at R
  exact ⟨.ref _, upd H s.heap.objs.size (SetO X.w s.heap.objs.size _ ns.length), I.laid (t' := tk) k (Nat.le_refl _) (setO_new R), rfl, q _ _ (I.hok.fresh (Nat.le_refl _))⟩
theorem cr_lenSet : CallR X (.builtin "len") (fun xs H Q => ∃ (a : Addr) (S : Int → Bool) (n : Nat), xs = [V.ref a] ∧ H a = some (SetO X.w a S n) ∧ Q (.int (n : Int)) H) := by
  intro pins s σ H xs us Q I r h
  obtain ⟨a, S, n, rfl, ha, q⟩ := h
  rw [Vals.ref1 r]
  obtain ⟨o, es, ep, t, ho, hex, hd, g, hnd, hm, hb, hf, hn, hr⟩ := setO_get I ha
  exact call_len_set ho hex hd hf (by have : scanBound = 4096 := rfl; omega) ⟨.int n, H, I.tok _, ⟨_, by rw [hn]⟩, q⟩
end
end K16
set_option Elab.async false
set_option linter.all false
set_option maxRecDepth 100000
set_option maxHeartbeats 4000000
namespace K16
open PySem PySem.Spec PyProof.Rows L2
section
variable {X : Cx}
theorem cr_setL (hc : X.calm = true) : CallR X (.type "set") (fun xs H Q => ∃ (l : Addr) (ns : List Int), xs = [V.ref l] ∧ SqL X.K H l (ns.map V.int) ∧ ns.length ≤ 1000 ∧
    ∀ (a : Addr) (S : Int → Bool) (n : Nat), H a = none → (∀ k, S k = true ↔ k ∈ ns) → n ≤ ns.length → Q (.ref a) (upd H a (SetO X.w a S n))) := by
  intro pins s σ H xs us Q I r h
  obtain ⟨l, ns, rfl, hs, h1, q⟩ := h
  obtain ⟨its, rv, p, hz⟩ := I.list hs
  rw [Vals.ref1 r]
  have hi : IntsAre its ns := ints_of_vals rv
  have hlen : its.length = ns.length := hi.length
  refine set_made (Post := fun h' => ∃ c, c ≤ ns.length ∧ SetR X.w h' s.heap.objs.size (fun j => decide (j ∈ ns)) c) (I.ok.hd hc) (.inl p.isList) ?_ fun h' tk hp k => ?_
  · intro A' J fp St s₁ R hh hu W hf st0 hg k0 hn hR
    have h0 : SetR X.w s₁.heap s.heap.objs.size (fun j => decide (j ∈ ns.take 0)) 0 := setR_new_at hg
    refine set_update_ints W _ hf ns ?_ ?_ ?_ its.toArray.size 0 s₁ ?_ ?_ st0 ⟨0, Nat.le_refl 0, h0⟩ fun s' c hm hcn hS => hR s' hm ⟨c, ?_, hS⟩
    · rw [List.size_toArray, hlen]
    · unfold scanBound; omega
    · intro i v hv
      have hv' : its[i]? = some v := by simpa using hv
      have hil : i < ns.length := by
        have := (List.getElem?_eq_some_iff.mp hv').1
        omega
      obtain ⟨t, ht⟩ := hi.get i _ (List.getElem?_eq_getElem hil)
      rw [hv'] at ht
      exact ⟨ns[i], t, List.getElem?_eq_getElem hil, Option.some.inj ht⟩
    · omega
    · omega
    · rw [List.size_toArray, hlen] at hcn
      exact hcn
  · obtain ⟨c, hcn, R⟩ := hp
    exact ⟨.ref _, upd H s.heap.objs.size (SetO X.w s.heap.objs.size _ c), I.laid (t' := tk) k (Nat.le_refl _) (setO_new R), rfl, q _ _ _ (I.hok.fresh (Nat.le_refl _)) (fun k => by simp) hcn⟩
end
end K16
set_option Elab.async false
set_option linter.all false
set_option maxRecDepth 100000
set_option maxHeartbeats 4000000
namespace K16
open PySem PySem.Spec PyProof.Rows L2
section
variable {X : Cx}
/-! ### own __len__, own __eq__ by != -/
theorem pass0' {X : Cx} : Passes CX0 X E0 := pass0
theorem cr_lenOwn {k j : Nat} {C : Addr} {sp : Sp} (c : MetO X.prog X.w X.K X.mg X.base k C "__len__" sp) (hr : Room j X.A) (hk : k + 1 ≤ j) : CallR X (.builtin "len") (fun xs H Q => ∃ (a dx : Addr) (fs : List (Str × V)), xs = [.ref a] ∧ H a = some (.ins C dx fs) ∧
    sp [.ref a] H (fun v H' => ∃ n : Nat, v = .int (n : Int) ∧ n ≤ 1000 ∧ Q v H') E0) := by
  obtain ⟨f, fd, ps, hc, hm, F, b⟩ := c.ex
  intro pins s σ H xs us Q I r h
  obtain ⟨a, dx, fs, rfl, ha, q⟩ := h
  rw [Vals.ref1 r]
  obtain ⟨mA, J, _⟩ := ins_get I.hok ha
  obtain ⟨od, J, _⟩ := J.look
  obtain ⟨m, hF⟩ := I.fr
  refine PySem.W.len_K hF I.ok.mod.kin J hm.at_ hm.fn ?_
  have r1 : Vals [V.ref a] [Value.ref a] := .cons rfl .nil
  have hl := F.len _ _ _ _ q
  have hr1 : Room k X.A.in1 := (hr.mono hk : Room (k + 1) X.A).in1
  refine wpAny_call (codeAny_mono (F.run X.A.in1 X.stack s H ⟨[.ref a], []⟩ [.ref a] [.ref a] _ E0 hr1 I.env0.in1 (by
    have := b s [.ref a] I.kIn (by simpa using hl)
    simpa using this) r1 q) fun r s' hq => ?_)
  cases r with
  | error e => exact pass0' pins σ H s e s' I hq
  | ok fl =>
    cases fl with
    | ret w =>
      obtain ⟨z, H', I', rz, n, ez, hn, qz⟩ := I.after hq
      subst ez
      obtain ⟨t, rfl⟩ := rz
      exact ⟨⟨by omega, by omega⟩, .int n, H', I'.tok _, ⟨s'.toks, rfl⟩, qz⟩
    | next => exact False.elim hq
    | brk => exact False.elim hq
    | cont => exact False.elim hq
theorem op_neOwn {k j : Nat} {C : Addr} {R : Addr → Addr → Hp → Prop} (c : MetO X.prog X.w X.K X.mg X.base k C "__eq__" (spEq R)) (hn : PySem.W.findIn X.K (.ref C) "__ne__" = some (some (.builtin "object.__ne__"))) (hr : Room j X.A) (hk : k + 2 ≤ j) :
    OpR X (compareOp .NotEq) (fun x y H Q => DIns C R x y H ∧ ∀ H', Same H H' → Q (.bl false) H') := by
  obtain ⟨f, fd, ps, hc, hm, F, bnd⟩ := c.ex
  intro pins s σ H x y u v Q I rx ry h
  obtain ⟨⟨a, b, dx, dy, fs, gs, rfl, rfl, ha, hb, hR⟩, q⟩ := h
  cases rx
  cases ry
  obtain ⟨mA, J, _⟩ := ins_get I.hok ha
  obtain ⟨mB, J', _⟩ := ins_get I.hok hb
  obtain ⟨od, J, _⟩ := J.look
  obtain ⟨od', J', _⟩ := J'.look
  have XK := I.kIn
  show wpAny (model X.prog X.w) X.A (richCompare .NotEq (.ref a) (.ref b)) (EP X pins σ Q) X.xe s
  have hu0 : X.A.units < cLine := hr.units0
  have hr1 : Room (k + 1) X.A.in1 := (hr.mono hk : Room (k + 2) X.A).in1
  have hu1 : X.A.in1.units < cLine := hr1.units0
  have sub : PySem.W.Looks (model X.prog X.w) s.heap (isInstance (.ref a) (.type "object")) true := by
    obtain ⟨cd, hcd, ho⟩ := PySem.W.any_some hc.po
    have ne : cd.mro.isEmpty = false := by cases q : cd.mro with | nil => rw [q] at ho; cases ho | cons _ _ => rfl
    exact J.type.andThen (PySem.W.looks_mroIn XK (by unfold PySem.W.mroIn; rw [hcd, Option.bind_some, if_neg (by rw [ne]; decide), PySem.W.only_has ho]))
  have eqcall : wpAny (model X.prog X.w) X.A.in1 (callSpecialIfBound? (.ref a) "__eq__" [.ref b]) (fun r s' => r = some (.bool true) ∧ ∃ H', Inv X pins σ H' s' ∧ Ext H H') X.xe s := by
    refine PySem.W.ifBound_K XK J hm.at_ hm.fn ?_
    have hsp : spEq R [.ref a, .ref b] H (fun v H' => v = .bl true ∧ Ext H H') E0 := ⟨a, b, rfl, hR, fun H' e => ⟨rfl, e⟩⟩
    have hl := F.len _ _ _ _ hsp
    have r2 : Vals [V.ref a, V.ref b] [Value.ref a, Value.ref b] := .cons rfl (.cons rfl .nil)
    refine wpAny_call (codeAny_mono (F.run X.A.in1 X.stack s H ⟨[.ref a, .ref b], []⟩ [.ref a, .ref b] [.ref a, .ref b] _ E0 (hr1.mono (Nat.le_succ k)) I.env0.in1 (by
      have := bnd s [.ref a, .ref b] I.kIn (by simpa using hl)
      simpa using this) r2 hsp) fun r s' hq => ?_)
    cases r with
    | error e => exact pass0' pins σ H s e s' I hq
    | ok fl =>
      cases fl with
      | ret w =>
        obtain ⟨z, H', I', rz, ez, ex⟩ := I.after hq
        subst ez
        cases rz
        exact ⟨rfl, H', I', ex⟩
      | next => exact False.elim hq
      | brk => exact False.elim hq
      | cont => exact False.elim hq
  have SN := PySem.F.cmp_object.ne
  have necall : wpAny (model X.prog X.w) X.A (call (.builtin "object.__ne__") [.ref a, .ref b]) (fun r s' => r = .bool false ∧ ∃ H', Inv X pins σ H' s' ∧ Ext H H') X.xe s := by
    refine wpAny_call (codeAny_call_builtin SN.plain PySem.F.cmpEntry_ne (PySem.W.check_slot PySem.F.cmpKind_ne PySem.F.cmpSplit_ne sub (PySem.F.cmpArgs_ne _ _) ?_))
    unfold Builtin.«object.__ne__»
    refine wpAny_bind (wpAny_pure ?_)
    refine wpAny_bind (wpAny_cRoomFor hu1 ?_)
    refine wpAny_bind (m := callSpecialIfBound? (.ref a) (Str.ofString "__eq__") [.ref b]) (wpAny_mono eqcall (fun r s' hr' => ?_) fun _ _ y => y)
    obtain ⟨rfl, H', I', e⟩ := hr'
    refine wpAny_bind (m := truthy (.bool true)) (wpAny_truthy_bool ?_)
    exact wpAny_pure ⟨rfl, H', I', e⟩
  have fin : wpAny (model X.prog X.w) X.A (call (.builtin "object.__ne__") ([.ref a] ++ [.ref b]) >>= fun v => pure (some v)) (fun r s' => r = some (.bool false) ∧ ∃ H', Inv X pins σ H' s' ∧ Ext H H') X.xe s := by
    refine wpAny_bind (wpAny_mono necall (fun v s' h' => ?_) fun _ _ h' => h')
    obtain ⟨rfl, z⟩ := h'
    exact wpAny_pure ⟨rfl, z⟩
  have spec : wpAny (model X.prog X.w) X.A (callSpecialIfBound? (.ref a) "__ne__" [.ref b]) (fun r s' => r = some (.bool false) ∧ ∃ H', Inv X pins σ H' s' ∧ Ext H H') X.xe s := by
    simp only [callSpecialIfBound?, bindSpecialIfBound?]
    refine wpAny_holding (wpAny_bind (wpAny_bind (wpAny_bind (J.type.here ((PySem.W.looks_findIn XK hn).here ?_)))))
    simp only [SN.bind]
    refine wpAny_bind (wpAny_askSetting (wpAny_ite ?_))
    split
    · exact wpAny_bind (wpAny_pure (wpAny_pure (by exact fin)))
    · exact wpAny_tryCatch (wpAny_bind (wpAny_pure (wpAny_pure (by exact fin))))
  have one : wpAny (model X.prog X.w) X.A (tryCompare (.ref a) "__ne__" (.ref b)) (fun r s' => r = some (.bool false) ∧ ∃ H', Inv X pins σ H' s' ∧ Ext H H') X.xe s := by
    unfold tryCompare
    refine wpAny_bind (wpAny_mono spec (fun r s' z => ?_) fun _ _ e => e)
    obtain ⟨rfl, z⟩ := z
    exact wpAny_pure ⟨rfl, z⟩
  unfold richCompare
  simp only [oneThing_ref]
  refine wpAny_holding (wpAny_bind (wpAny_cRoomFor hu0 ?_))
  rw [cmpInfo_NotEq]
  dsimp only
  refine wpAny_bind (J.type.here (wpAny_bind (J'.type.here ?_)))
  rw [show (Value.ref C != Value.ref C) = false from by simp]
  simp only [Bool.false_eq_true, if_false]
  refine wpAny_bind (wpAny_pure ?_)
  simp only [Bool.false_eq_true, if_false]
  refine wpAny_bind (wpAny_mono one (fun r s' z => ?_) fun _ _ e => e)
  obtain ⟨rfl, H', I', e⟩ := z
  exact wpAny_pure ⟨.bl false, H', I', rfl, q H' e⟩
end
end K16
set_option Elab.async false
set_option linter.all false
set_option maxRecDepth 100000
set_option maxHeartbeats 4000000
namespace K16
open PySem PySem.Spec PyProof.Rows L2
section
variable {X : Cx}
/-! ### dict(pairs) with tuple keys -/
theorem atKey_none {β : Type} [DecidableEq β] {xs : List (β × Addr × Value)} {k : β} (h : k ∉ xs.map (·.1)) : atKey xs k = none := by
  unfold atKey
  rw [Option.map_eq_none_iff, List.find?_eq_none]
  intro x hx e
  exact h (List.mem_map.mpr ⟨x, hx, of_decide_eq_true e⟩)
theorem storedAll_nodup {β : Type} [DecidableEq β] : ∀ (ps acc : List (β × Addr × Value)), ((acc ++ ps).map (·.1)).Nodup → storedAllH acc ps = acc ++ ps
  | [], acc, _ => by simp [storedAllH]
  | p :: ps, acc, h => by
    have hn : p.1 ∉ acc.map (·.1) := fun q => by
      rw [List.map_append, List.nodup_append] at h
      exact h.2.2 _ q _ (by simp) rfl
    have e : storedH acc p.1 p.2.1 p.2.2 = acc ++ [p] := storedH_new (atKey_none hn) _ _
    show storedAllH (storedH acc p.1 p.2.1 p.2.2) ps = _
    rw [e, storedAll_nodup ps (acc ++ [p]) (by simpa using h)]
    simp
theorem pairs_laid {pins : List (Addr × Obj)} {s : Shared} {σ : L2.St} {H : Hp} (I : L2.Inv X pins σ H s) : ∀ {ps : List Addr} {kvs : List (List Key × V)},
    Paired (fun p (kv : List Key × V) => ∃ q, H p = some (.tup [.ref q, kv.2]) ∧ H q = some (.tup (kv.1.map kV))) ps kvs →
    ∃ xs : List (List Key × Addr × Value), KT H kvs xs ∧ Paired (fun p (x : List Key × Addr × Value) => s.heap.IsTuple p #[.ref x.2.1, x.2.2]) ps xs
  | _, _, .nil => ⟨[], .nil, .nil⟩
  | _, _, .cons (b := kv) ⟨q, h1, h2⟩ r => by
    obtain ⟨xs, k, p⟩ := pairs_laid I r
    obtain ⟨its, rv, hp, _⟩ := I.tuple (.inl (.of h1))
    obtain ⟨u, v, rfl, ru, rv'⟩ := rv.two
    cases ru
    exact ⟨(kv.1, q, v) :: xs, .cons ⟨rfl, h2, rv'⟩ k, .cons hp p⟩
theorem paired_get {α β : Type} {F : α → β → Prop} : ∀ {l₁ : List α} {l₂ : List β}, Paired F l₁ l₂ → ∀ {j : Nat} {b : β}, l₂[j]? = some b → ∃ a, l₁[j]? = some a ∧ F a b
  | _, _, .nil, j, b, h => by simp at h
  | _, _, .cons (a := a) f r, j, b, h => by
    cases j with
    | zero =>
      simp at h
      subst h
      exact ⟨a, by simp, f⟩
    | succ j =>
      simp at h
      obtain ⟨a', h1, h2⟩ := paired_get r h
      exact ⟨a', by simpa using h1, h2⟩
theorem call_dictT (hc : X.calm = true) (hu : X.A.units + 64 < cLine) : CallR X (.type "dict") (fun xs H Q => ∃ (a : Addr) (ps : List Addr) (kvs : List (List Key × V)), xs = [.ref a] ∧ SqL X.K H a (ps.map V.ref) ∧
    Paired (fun p (kv : List Key × V) => ∃ q, H p = some (.tup [.ref q, kv.2]) ∧ H q = some (.tup (kv.1.map kV))) ps kvs ∧ (kvs.map (·.1)).Nodup ∧ ∀ p, H p = none → Q (.ref p) (upd H p (.dT kvs))) := by
  intro pins s σ H zs us Q I r h
  obtain ⟨a, ps, kvs, rfl, hs, hp, nd, q⟩ := h
  obtain ⟨its, rv, ⟨o, n, ho, hcl, hdn, hd⟩, hz⟩ := I.list hs
  obtain ⟨xs, hk, hl⟩ := pairs_laid I hp
  rw [Vals.ref1 r]
  have e1 : kvs.length = xs.length := hk.length
  have e2 : ps.length = xs.length := hl.length
  have e3 : ps.length = its.length := by simpa using rv.length
  rw [List.length_map] at hz
  have e4 : kvs.map (·.1) = xs.map (·.1) := by
    clear nd q hp hl e1 e2
    induction hk with
    | nil => rfl
    | cons f _ ih => rw [List.map_cons, List.map_cons, ih, f.1]
  let pr : List (Value × Value) := xs.map fun x => (Value.ref x.2.1, x.2.2)
  have key : ∀ x ∈ xs, (tupleKind (mixKind X.prog X.w)).is s.heap x.1 x.2.1 := by
    intro x hx
    obtain ⟨kv, f1, f2, _⟩ := Paired.right hk x hx
    exact key_of I.hok (by rw [← f1]; exact f2)
  refine call_dict_pairsH (knd := tupleKind (mixKind X.prog X.w)) (ps := xs) (PairArg.list a its.toArray (fun j => (ps[j]?).getD 0) pr) (I.ok.hd hc) ?_ ⟨⟨o, n, ho, hcl, hdn, hd⟩, ?_, ?_⟩ ⟨?_, ?_⟩ ?_ ?_ fun h' tk hd' hkp => ?_
  · exact tupleKind_room_in1 (A := X.A.in1) (by show X.A.units + 1 + 1 < cLine; omega)
  · simp only [pr, List.size_toArray, List.length_map]
    omega
  · intro j k v hj
    simp only [pr, List.getElem?_map, Option.map_eq_some_iff] at hj
    obtain ⟨x, hx, ex⟩ := hj
    obtain ⟨p, hpj, ht⟩ := paired_get hl hx
    cases ex
    obtain ⟨u, hu', ru⟩ := rv.get (i := j) (x := V.ref p) (by simp [hpj])
    cases ru
    refine ⟨by simpa [hpj] using hu', .inl ?_⟩
    simp only [hpj, Option.getD_some]
    exact ht
  · simp [pr]
  · intro i k v hr
    simp only [PairRel, pr, List.getElem?_map, Option.map_eq_some_iff] at hr
    obtain ⟨x, hx, ex⟩ := hr
    cases ex
    exact ⟨x.1, x.2.1, hx, rfl⟩
  · intro h' hkp x hx
    obtain ⟨kv, f1, f2, _⟩ := Paired.right hk x hx
    obtain ⟨o', its', n', g1, g2, g3, g4⟩ := key x hx
    exact ⟨o', its', n', hkp _ _ (Nat.ne_of_lt (Heap.lt_size g1)) (by simp) g1, g2, g3, g4⟩
  · simp only [pr, List.length_map]; omega
  · rw [storedAll_nodup xs [] (by simpa [← e4] using nd), List.nil_append] at hd'
    obtain ⟨o', es, ep, g1, g2, g3, g4, _, g5⟩ := hd'
    have hf : H s.heap.objs.size = none := I.hok.fresh (Nat.le_refl _)
    refine ⟨.ref _, upd H s.heap.objs.size (.dT kvs), I.laid (t' := tk) (fun b u e => hkp b u (by simp) e) (Nat.le_refl _) ?_, rfl, q _ hf⟩
    refine ⟨by omega, beq_eq_false_iff_ne.mpr (Nat.ne_of_gt I.big), xs, hk.keeps fun c ys ec => ?_, o', es, ep, g1, g2, g3, g4, g5⟩
    rw [upd_ne (ne_of_none ec hf)]
    exact ec
end
end K16
set_option Elab.async false
set_option linter.all false
set_option maxRecDepth 100000
set_option maxHeartbeats 4000000
namespace K16
open PySem PySem.Spec PyProof.Rows
open SrtO (lexB Swo Srtd Stb Cmp SortableO lt2 swo_lex sorted_ord)
/-! ### sorted triples: two ints and any value -/
/-- v is a tuple of two ints and z in the heap -/
def IsTri (h : Heap) (v : Value) (k : Int × Int) (z : Value) : Prop := ∃ a o t u n, v = .ref a ∧ h.get? a = some o ∧ o.cls = .type "tuple" ∧ o.data = .seq #[.int k.1 t, .int k.2 u, z] n
theorem IsTri.keeps {h h' : Heap} {v z : Value} {k : Int × Int} (p : IsTri h v k z) (g : ∀ b o, h.get? b = some o → o.cls = .type "tuple" → h'.get? b = some o) : IsTri h' v k z := by
  obtain ⟨a, o, t, u, n, e, ho, hc, hd⟩ := p
  exact ⟨a, o, t, u, n, e, g _ _ ho hc, hc, hd⟩
theorem firstsT {h : Heap} {k : Value → Int × Int} : ∀ {vs : List Value}, (∀ v ∈ vs, ∃ z, IsTri h v (k v) z) → ∃ fs : List Value, PySem.W.KatTups h vs fs ∧ fs.length = vs.length ∧ ∀ f ∈ fs, ∃ x t, f = Value.int x t
  | [], _ => ⟨[], PySem.W.KatTups.nil, rfl, fun _ hm => by simp at hm⟩
  | v :: vs, hp => by
    obtain ⟨fs, h1, h2, h3⟩ := firstsT (vs := vs) fun v' hm => hp v' (List.mem_cons_of_mem _ hm)
    obtain ⟨z, a, o, t, u, n, e, ho, hc, hd⟩ := hp v (List.mem_cons_self ..)
    generalize k v = kk at hd
    subst e
    refine ⟨.int kk.1 t :: fs, PySem.W.KatTups.cons ho hc hd rfl h1, by rw [List.length_cons, List.length_cons, h2], fun f hm => ?_⟩
    rcases List.mem_cons.mp hm with rfl | hm
    · exact ⟨kk.1, t, rfl⟩
    · exact h3 f hm
section
variable {prog : Program} {w : World} {A : Around} {E : Value → Shared → Prop} {s : Shared}
theorem tri_cmp {vs : List Value} {k : Value → Int × Int} (hp : ∀ v ∈ vs, ∃ z, IsTri s.heap v (k v) z) (inj : ∀ v ∈ vs, ∀ u ∈ vs, k v = k u → v = u) : Cmp prog w A s (tuples' true) (fun p => p.1 ∈ vs) (lt2 fun v u => lexB (k v) (k u)) := by
  intro p q hm hm'
  obtain ⟨z, h1⟩ := hp _ hm
  obtain ⟨z', h2⟩ := hp _ hm'
  have hi := inj _ hm _ hm'
  show wpAny (model prog w) A (keyLt' (tuples' true) p.1 q.1) (fun r s' => s' = s ∧ r = lexB (k p.1) (k q.1)) (fun _ _ => False) s
  unfold lexB
  obtain ⟨a, o, t, u, n, e, ho, hc, hd⟩ := h1
  obtain ⟨a', o', t', u', n', e', ho', hc', hd'⟩ := h2
  have ez : k p.1 = k q.1 → z = z' := fun ek => by
    have e1 := hi ek
    rw [e, e'] at e1
    cases e1
    rw [ho] at ho'
    cases ho'
    rw [hd] at hd'
    injection hd' with hd'
    have := congrArg Array.toList hd'
    simp at this
    exact this.2.2
  generalize k p.1 = x at *
  generalize k q.1 = y at *
  rw [e, e']
  refine PySem.W.kat_lt ho hd ho' hd' ?_
  show PySem.W.KatLex prog w A true (decide (3 < 3)) _ [(.int x.1 t, .int y.1 t'), (.int x.2 u, .int y.2 u'), (z, z')] 0 s
  refine PySem.W.kat_cons (SeqAt.EqAt.int_int x.1 t y.1 t' prog w _ _ ?_)
  refine PySem.W.kat_go (fun e1 => ?_) (fun e1 => ?_)
  · have ex : x.1 = y.1 := by simpa using e1
    refine PySem.W.kat_yes (PySem.W.kat_cons (SeqAt.EqAt.int_int x.2 u y.2 u' prog w _ _ ?_))
    refine PySem.W.kat_go (fun e2 => ?_) (fun e2 => ?_)
    · have ey : x.2 = y.2 := by simpa using e2
      have e3 : (if x.1 = y.1 then decide (x.2 < y.2) else decide (x.1 < y.1)) = false := by
        rw [if_pos ex, ey]
        exact decide_eq_false (Int.lt_irrefl _)
      have ek : x = y := Prod.ext ex ey
      rw [← ez ek]
      exact PySem.W.kat_yes (PySem.W.kat_cons (SeqAt.EqAt.same z prog w _ _ (PySem.W.kat_yes (PySem.W.kat_nil ⟨rfl, e3.symm⟩))))
    · have e3 : (if x.1 = y.1 then decide (x.2 < y.2) else decide (x.1 < y.1)) = decide (x.2 < y.2) := if_pos ex
      refine PySem.W.kat_no (PySem.W.kat_one _ _ (PyProof.Rows.lt_int ?_))
      exact (show s = s ∧ decide (x.2 < y.2) = (if x.1 = y.1 then decide (x.2 < y.2) else decide (x.1 < y.1)) from ⟨rfl, e3.symm⟩)
  · have ex : ¬ x.1 = y.1 := by simpa using e1
    have e3 : (if x.1 = y.1 then decide (x.2 < y.2) else decide (x.1 < y.1)) = decide (x.1 < y.1) := if_neg ex
    exact PySem.W.kat_no (oneLt_int ⟨rfl, e3.symm⟩)
theorem tri_sortable {a : Addr} {vs : List Value} {k : Value → Int × Int} (h0 : 0 < vs.length) (hp : ∀ v ∈ vs, ∃ z, IsTri s.heap v (k v) z) (inj : ∀ v ∈ vs, ∀ u ∈ vs, k v = k u → v = u) (ha : ∀ o, s.heap.get? a = some o → o.cls ≠ .type "tuple") : SortableO prog w A s a vs fun v u => lexB (k v) (k u) := by
  intro h' keep
  have hp' : ∀ v ∈ vs, ∃ z, IsTri h' v (k v) z := fun v hm => (hp v hm).imp fun _ p => p.keeps fun b o e c => keep b o (fun z => by subst z; exact ha o e c) e
  obtain ⟨fs, h1, h2, h3⟩ := firstsT hp'
  refine ⟨tuples' true, fun Q E hq => ?_, tri_cmp hp' inj⟩
  refine PySem.W.kat_kind (T := .type "int") h1 (by omega) (fun f hm => ?_) (by rfl) ?_
  · obtain ⟨x, t, rfl⟩ := h3 f hm
    exact PySem.W.Looks.now
  · have e : (Value.type "int" != Value.type "tuple") = true := by decide +kernel
    rw [e]
    exact hq
theorem sorted_tri {l : Addr} {vs : List Value} {k : Value → Int × Int} {Q : Value → Shared → Prop} (hl : s.heap.IsList l vs.toArray) (hz : vs.length ≤ sizeLine) (hp : ∀ v ∈ vs, ∃ z, IsTri s.heap v (k v) z) (inj : ∀ v ∈ vs, ∀ u ∈ vs, k v = k u → v = u)
    (h : ∀ (h' : Heap) (d : Addr) (out : List Value), Srtd (fun v u => lexB (k v) (k u)) out → out.Perm vs → (∀ b o, s.heap.get? b = some o → h'.get? b = some o) → s.heap.objs.size ≤ d → (∃ n, h'.get? d = some (seqObj "list" out.toArray n)) → Q (.ref d) { s with heap := h' }) :
    wpAny (model prog w) A (call (.builtin "sorted") [.ref l]) Q E s := by
  refine sorted_ord (swo_lex k) hl hz (fun h2 h₁ a ha kk => ?_) fun out hs hb => ?_
  · refine tri_sortable (s := { s with heap := h₁ }) (by omega) (fun v hm => (hp v hm).imp fun _ p => p.keeps fun b o e _ => (kk b o e).2) inj fun o e => ?_
    have e' : some o = some (seqObj "list" vs.toArray 0) := e.symm.trans ha
    cases e'
    intro c
    exact absurd (Value.type.inj c) (by decide)
  · exact h _ _ out hs hb.perm (fun b o e => sortedAll_old e) (Nat.le_succ _) (sortedAll_at s.heap vs out.toArray)
end
open L2
section
variable {X : Cx}
theorem cr_sortTri (hc : X.calm = true) : CallR X (.builtin "sorted") (fun vs H Q => ∃ (a : Addr) (xs : List (Addr × (Int × Int) × V)), vs = [V.ref a] ∧ SqL X.K H a (xs.map fun x => V.ref x.1) ∧
    (∀ x ∈ xs, H x.1 = some (.tup [.int x.2.1.1, .int x.2.1.2, x.2.2])) ∧ (xs.map fun x => x.2.1).Nodup ∧ xs.length ≤ 1000 ∧
    ∀ (ys : List (Addr × (Int × Int) × V)) (p : Addr), ys.Perm xs → ys.Pairwise (fun x y => SrtO.lexB x.2.1 y.2.1 = true) → H p = none → Q (.ref p) (upd H p (.lst (ys.map fun x => V.ref x.1)))) := by
  intro pins s σ H vs us Q I r h
  obtain ⟨a, xs, rfl, hs, hx, nd, h1, q⟩ := h
  obtain ⟨its, rv, hl, hz⟩ := I.list hs
  rw [Vals.ref1 r]
  have same : ∀ x ∈ xs, ∀ y ∈ xs, x.2.1 = y.2.1 → x = y := by
    clear hs rv hz h1 q hx
    induction xs with
    | nil => intro x h; exact nomatch h
    | cons x0 xs ih =>
      rw [List.map_cons, List.nodup_cons] at nd
      intro x mx y my e
      rcases List.mem_cons.mp mx with ex | mx'
      · rcases List.mem_cons.mp my with ey | my'
        · rw [ex, ey]
        · rw [ex] at e
          exact absurd (List.mem_map.mpr ⟨y, my', e.symm⟩) nd.1
      · rcases List.mem_cons.mp my with ey | my'
        · rw [ey] at e
          exact absurd (List.mem_map.mpr ⟨x, mx', e⟩) nd.1
        · exact ih nd.2 x mx' y my' e
  have sameA : ∀ x ∈ xs, ∀ y ∈ xs, x.1 = y.1 → x = y := fun x m y m' e => by
    have t1 := hx x m
    rw [e, hx y m'] at t1
    injection t1 with t1
    injection t1 with t1
    injection t1 with t2 t3
    injection t3 with t3 t4
    injection t2 with t2
    injection t3 with t3
    exact same x m y m' (Prod.ext t2.symm t3.symm)
  let g : Value → Addr × (Int × Int) × V := fun v => match v with
    | .ref b => (xs.find? (fun x => decide (x.1 = b))).getD (0, (0, 0), .non)
    | _ => (0, (0, 0), .non)
  have gx : ∀ x ∈ xs, g (.ref x.1) = x := fun x m => by
    show ((xs.find? (fun y => decide (y.1 = x.1))).getD _) = x
    cases e : xs.find? (fun y => decide (y.1 = x.1)) with
    | none =>
      rw [List.find?_eq_none] at e
      exact absurd (decide_eq_true rfl) (e x m)
    | some y =>
      have e' := List.find?_some e
      exact sameA y (List.mem_of_find?_eq_some e) x m (by simpa using e')
  have ei : its = xs.map fun x => Value.ref x.1 := by
    clear hs hl hz h1 q hx nd same sameA gx g
    generalize hm : xs.map (fun x => V.ref x.1) = ms at rv
    induction rv generalizing xs with
    | nil =>
      cases xs with
      | nil => rfl
      | cons x xs => simp at hm
    | cons r1 r2 ih =>
      cases xs with
      | nil => simp at hm
      | cons x xs =>
        rw [List.map_cons] at hm ⊢
        injection hm with e1 e2
        subst e1
        cases r1
        rw [ih xs e2]
  subst ei
  have hz' : (xs.map fun x => Value.ref x.1).length ≤ sizeLine := by rw [List.length_map]; rw [List.length_map] at hz; exact hz
  refine sorted_tri (k := fun v => (g v).2.1) hl.isList hz' (fun v hv => ?_) (fun v hv u hu e => ?_) fun h' d out hsr hp kp hd hn => ?_
  · obtain ⟨x, m, rfl⟩ := List.mem_map.mp hv
    simp only [gx x m]
    obtain ⟨_, its2, r2, o, ho, hcl, n, hdt⟩ := (show ObjOk X.prog X.w H s.heap x.1 _ from I.hok _ _ (hx x m))
    obtain ⟨u1, us2, rfl, ru1, r2'⟩ : ∃ u1 us2, its2 = u1 :: us2 ∧ RelV (.int x.2.1.1) u1 ∧ Vals [.int x.2.1.2, x.2.2] us2 := by
      cases r2 with
      | cons a b => exact ⟨_, _, rfl, a, b⟩
    obtain ⟨u2, u3, rfl, ru2, ru3⟩ := r2'.two
    obtain ⟨t1, rfl⟩ := ru1
    obtain ⟨t2, rfl⟩ := ru2
    exact ⟨u3, x.1, o, t1, t2, n, rfl, ho, hcl, hdt⟩
  · obtain ⟨x, m, rfl⟩ := List.mem_map.mp hv
    obtain ⟨y, m', rfl⟩ := List.mem_map.mp hu
    simp only [gx x m, gx y m'] at e
    rw [same x m y m' e]
  · obtain ⟨n, hn⟩ := hn
    have hout : ∀ u ∈ out, ∃ x ∈ xs, u = Value.ref x.1 := fun u hu => by
      obtain ⟨x, m, e⟩ := List.mem_map.mp (hp.mem_iff.mp hu)
      exact ⟨x, m, e.symm⟩
    have e1 : (out.map g).Perm xs := by
      have := hp.map g
      rw [List.map_map] at this
      refine this.trans (List.Perm.of_eq ?_)
      conv => rhs; rw [← List.map_id xs]
      exact List.map_congr_left fun x m => gx x m
    have e2 : Vals ((out.map g).map fun x => V.ref x.1) out := by
      clear hsr hp hn e1
      induction out with
      | nil => exact .nil
      | cons u out ih =>
        obtain ⟨x, m, rfl⟩ := hout u (List.mem_cons_self ..)
        refine .cons ?_ (ih fun v hv => hout v (List.mem_cons_of_mem _ hv))
        rw [gx x m]
        rfl
    have e3 : (out.map g).Pairwise (fun x y => SrtO.lexB x.2.1 y.2.1 = true) := by
      have nd2 : ((out.map g).map fun x => x.2.1).Nodup := (e1.map _).nodup_iff.mpr nd
      have a1 : (out.map g).Pairwise (fun x y => SrtO.lexB y.2.1 x.2.1 = false) := List.pairwise_map.mpr hsr
      have a2 : (out.map g).Pairwise (fun x y => x.2.1 ≠ y.2.1) := List.pairwise_map.mp nd2
      refine (a1.and a2).imp fun {x y} h => ?_
      have n1 := SrtO.lexB_no.mp h.1
      refine SrtO.lexB_iff.mpr ?_
      have n2 : ¬ (x.2.1.1 = y.2.1.1 ∧ x.2.1.2 = y.2.1.2) := fun z => h.2 (Prod.ext z.1 z.2)
      omega
    refine ⟨.ref d, upd H d (.lst ((out.map g).map fun x => V.ref x.1)), I.laid (t' := s.toks) kp hd ⟨?_, out, n, e2, hn⟩, rfl, q _ d e1 e3 (I.hok.fresh hd)⟩
    rw [List.length_map, e1.length_eq]
    rw [List.length_map] at hz
    exact hz
end
end K16
set_option Elab.async false
set_option linter.all false
set_option maxRecDepth 100000
set_option maxHeartbeats 4000000
namespace K16
open PySem PySem.Spec PyProof.Rows
/-! ### sorted(d), d keyed by tuples of ints of one length -/
theorem perm_unmap {α β : Type} (f : α → β) : ∀ {out l : List β}, out.Perm l → ∀ {zs : List α}, l = zs.map f → ∃ ys : List α, ys.Perm zs ∧ out = ys.map f := by
  intro out l h
  induction h with
  | nil =>
    intro zs e
    cases zs with
    | nil => exact ⟨[], .nil, rfl⟩
    | cons z zs => simp at e
  | cons x _ ih =>
    intro zs e
    cases zs with
    | nil => simp at e
    | cons z zs =>
      rw [List.map_cons] at e
      injection e with e1 e2
      obtain ⟨ys, p, rfl⟩ := ih e2
      exact ⟨z :: ys, p.cons z, by rw [List.map_cons, e1]⟩
  | swap x y l =>
    intro zs e
    match zs, e with
    | a :: b :: zs, e =>
      rw [List.map_cons, List.map_cons] at e
      injection e with e1 e2
      injection e2 with e2 e3
      exact ⟨b :: a :: zs, List.Perm.swap a b zs, by rw [List.map_cons, List.map_cons, e1, e2, e3]⟩
  | trans _ _ ih1 ih2 =>
    intro zs e
    obtain ⟨ys, p, rfl⟩ := ih2 e
    obtain ⟨ys2, p2, rfl⟩ := ih1 rfl
    exact ⟨ys2, p2.trans p, rfl⟩
section
variable {prog : Program} {w : World} {A : Around} {E : Value → Shared → Prop} {s : Shared}
theorem lex_some {bb fin : Bool} : ∀ {us vs : List Value} {ns ms : List Int} (i : Nat), IntsAre us ns → IntsAre vs ms → ∃ b, PySem.W.KatLex prog w A bb fin (fun r s' => s' = s ∧ r = b) (us.zip vs) i s
  | _, _, _, _, i, .nil, _ => ⟨fin, PySem.W.kat_nil ⟨rfl, rfl⟩⟩
  | _, _, _, _, i, .cons _ _ _, .nil => ⟨fin, PySem.W.kat_nil ⟨rfl, rfl⟩⟩
  | _, _, _, _, i, .cons n t r, .cons m u q => by
    by_cases e : n = m
    · obtain ⟨b, h⟩ := lex_some (bb := bb) (fin := fin) (i + 1) r q
      refine ⟨b, PySem.W.kat_cons (SeqAt.EqAt.int_int n t m u prog w _ _ ?_)⟩
      refine PySem.W.kat_go (fun _ => PySem.W.kat_yes h) (fun e1 => absurd (beq_iff_eq.mpr e) (by rw [e1]; decide))
    · refine ⟨decide (n < m), PySem.W.kat_cons (SeqAt.EqAt.int_int n t m u prog w _ _ ?_)⟩
      exact PySem.W.kat_go (fun e1 => absurd (beq_iff_eq.mp e1) e) (fun _ => PySem.W.kat_no (TS.oneLt_ints _ ⟨rfl, rfl⟩))
/-- a tuple of ints, at least one -/
def IsIts (h : Heap) (v : Value) : Prop := ∃ a o us ns n k, v = .ref a ∧ h.get? a = some o ∧ o.cls = .type "tuple" ∧ o.data = .seq us n ∧ IntsAre us.toList ns ∧ ns = k :: ns.tail
theorem IsIts.keeps {h h' : Heap} {v : Value} (p : IsIts h v) (g : ∀ b o, h.get? b = some o → o.cls = .type "tuple" → h'.get? b = some o) : IsIts h' v := by
  obtain ⟨a, o, us, ns, n, k, e, ho, hc, r⟩ := p
  exact ⟨a, o, us, ns, n, k, e, g _ _ ho hc, hc, r⟩
theorem firstsI {h : Heap} : ∀ {vs : List Value}, (∀ v ∈ vs, IsIts h v) → ∃ fs : List Value, PySem.W.KatTups h vs fs ∧ fs.length = vs.length ∧ ∀ f ∈ fs, ∃ x t, f = Value.int x t
  | [], _ => ⟨[], PySem.W.KatTups.nil, rfl, fun _ hm => by simp at hm⟩
  | v :: vs, hp => by
    obtain ⟨fs, h1, h2, h3⟩ := firstsI (vs := vs) fun v' hm => hp v' (List.mem_cons_of_mem _ hm)
    obtain ⟨a, o, us, ns, n, k, e, ho, hc, hd, hi, hk⟩ := hp v (List.mem_cons_self ..)
    subst e
    obtain ⟨us⟩ := us
    rw [hk] at hi
    cases hi with
    | cons _ t r =>
      refine ⟨.int k t :: fs, PySem.W.KatTups.cons ho hc hd rfl h1, by rw [List.length_cons, List.length_cons, h2], fun f hm => ?_⟩
      rcases List.mem_cons.mp hm with rfl | hm
      · exact ⟨k, t, rfl⟩
      · exact h3 f hm
theorem its_sortable {a : Addr} {vs : List Value} (h0 : 0 < vs.length) (hp : ∀ v ∈ vs, IsIts s.heap v) (ha : ∀ o, s.heap.get? a = some o → o.cls ≠ .type "tuple") : Srt.Sortable prog w A s a vs := by
  intro h' keep
  have hp' : ∀ v ∈ vs, IsIts h' v := fun v hm => (hp v hm).keeps fun b o e c => keep b o (fun z => by subst z; exact ha o e c) e
  obtain ⟨fs, h1, h2, h3⟩ := firstsI hp'
  refine ⟨tuples' true, fun Q E hq => ?_, fun p q hm hm' => ?_⟩
  · refine PySem.W.kat_kind (T := .type "int") h1 (by omega) (fun f hm => ?_) (by rfl) ?_
    · obtain ⟨x, t, rfl⟩ := h3 f hm
      exact PySem.W.Looks.now
    · have e : (Value.type "int" != Value.type "tuple") = true := by decide +kernel
      rw [e]
      exact hq
  · obtain ⟨a1, o, us, ns, n, k, e, ho, hc, hd, hi, _⟩ := hp' _ hm
    obtain ⟨a2, o', us', ns', n', k', e', ho', hc', hd', hi', _⟩ := hp' _ hm'
    rw [e, e']
    obtain ⟨b, hb⟩ := lex_some (prog := prog) (w := w) (A := A) (s := { s with heap := h' }) (bb := true) (fin := decide (us.size < us'.size)) 0 hi hi'
    exact ⟨b, PySem.W.kat_lt ho hd ho' hd' hb⟩
end
open L2
section
variable {X : Cx}
theorem refs_of_ents {H : Hp} {kvs : List (List L2.Key × V)} {xs : List (List L2.Key × Addr × Value)} (r : KT H kvs xs) {ks : List (List Int)} (e : kvs.map (·.1) = ks.map (fun l => l.map Sum.inl)) :
    ∃ zs : List (Addr × List Int), zs.map (·.2) = ks ∧ zs.map (fun z => Value.ref z.1) = xs.map (fun x => Value.ref x.2.1) ∧ ∀ z ∈ zs, H z.1 = some (.tup (z.2.map V.int)) := by
  induction r generalizing ks with
  | nil =>
    cases ks with
    | nil => exact ⟨[], rfl, rfl, fun _ h => nomatch h⟩
    | cons k ks => simp at e
  | @cons p q ps qs h t ih =>
    cases ks with
    | nil => simp at e
    | cons k ks =>
      rw [List.map_cons, List.map_cons] at e
      injection e with e1 e2
      obtain ⟨zs, h1, h2, h3⟩ := ih e2
      refine ⟨(q.2.1, k) :: zs, by rw [List.map_cons, h1], by rw [List.map_cons, List.map_cons, h2], fun z hz => ?_⟩
      rcases List.mem_cons.mp hz with rfl | hz
      · have h4 := h.2.1
        rw [e1, List.map_map] at h4
        exact h4
      · exact h3 z hz
theorem cr_sortedDT (hc : X.calm = true) (hu : X.A.units + 64 < cLine) : CallR X (.builtin "sorted") (fun xs H Q => ∃ (a : Addr) (kvs : List (List L2.Key × V)) (ks : List (List Int)), xs = [.ref a] ∧ H a = some (.dT kvs) ∧
    kvs.map (·.1) = ks.map (fun l => l.map Sum.inl) ∧ ks.length ≤ 1000 ∧ (∃ n, 0 < n ∧ ∀ l ∈ ks, l.length = n) ∧
    ∀ (bs : List Addr) (ls : List (List Int)) (p : Addr), ls.Perm ks → Paired (fun b l => H b = some (.tup (l.map V.int))) bs ls → H p = none → Q (.ref p) (upd H p (.lst (bs.map V.ref)))) := by
  intro pins s σ H xs us Q I r h
  obtain ⟨a, kvs, ks, rfl, ha, hks, h1, ⟨n0, hn0, hlen⟩, q⟩ := h
  rw [Vals.ref1 r]
  obtain ⟨z, lo, xs', pr, o, es, ep, ho, hx, hdt, he, hn⟩ := (show ObjOk X.prog X.w H s.heap a (.dT kvs) from I.hok a _ ha)
  have l1 : es.size = xs'.length := size_of_entries he
  have l2 : kvs.length = xs'.length := Paired.length pr
  obtain ⟨zs, z1, z2, z3⟩ := refs_of_ents pr hks
  have l3 : zs.length = ks.length := by rw [← z1, List.length_map]
  have l4 : zs.length = xs'.length := by simpa using congrArg List.length z2
  have hits : ∀ v ∈ zs.map (fun z => Value.ref z.1), IsIts s.heap v := by
    intro v hv
    obtain ⟨z, m, rfl⟩ := List.mem_map.mp hv
    obtain ⟨_, its, rv, ot, hot, hct, nt, hdt'⟩ := (show ObjOk X.prog X.w H s.heap z.1 _ from I.hok z.1 _ (z3 z m))
    have hl : z.2.length = n0 := hlen _ (by rw [← z1]; exact List.mem_map.mpr ⟨z, m, rfl⟩)
    cases e : z.2 with
    | nil => rw [e] at hl; simp at hl; omega
    | cons k ns => exact ⟨z.1, ot, its.toArray, k :: ns, nt, k, rfl, hot, hct, hdt', by rw [e] at rv; simpa using ints_of_vals rv, rfl⟩
  refine Calls.call_function_entry kind_sorted plain_sorted entry_sorted (args_sorted1 _) ?_
  unfold Builtin.«sorted»
  refine wpAny_bind (m := checkCount "sorted" 1 1 _) (wpAny_pure ?_)
  refine wpAny_bind (PySem.W.kdu_collect (A := X.A.in1) (kdl_raw lo hx hdt) (I.ok.hd hc) ho (by omega) fun h' tk acc hk hacc => ?_)
  have ea : acc.toList = zs.map fun z => Value.ref z.1 := by
    rw [z2]
    have hl : acc.toList.length = xs'.length := by rw [Array.length_toList, hacc.1]; exact l1
    apply List.ext_getElem?
    intro j
    rw [List.getElem?_map]
    cases hj : acc.toList[j]? with
    | none =>
      have h1 := List.getElem?_eq_none_iff.mp hj
      rw [List.getElem?_eq_none (by omega)]
      all_goals rfl
    | some v =>
      obtain ⟨en, hen, hv⟩ := hacc.2 j v (by rw [← Array.getElem?_toList]; exact hj)
      have qe := entry_at he j
      rw [hen] at qe
      cases hb : xs'[j]? with
      | none =>
        rw [hb] at qe
        exact nomatch (show some en = none from qe)
      | some b =>
        rw [hb] at qe
        have e2 : en = entryOfKey (tupleKind (mixKind X.prog X.w)) b := Option.some.inj qe
        rw [hv, e2]
        all_goals rfl
  rw [ea]
  have I1 : L2.Inv X pins σ H { s with heap := h', toks := tk } := I.kept hk
  have hz : (zs.map fun z => Value.ref z.1).length ≤ sizeLine := by rw [List.length_map, l4, ← l2]; exact z
  refine wpAny_bind (wpAny_newList ?_ hz)
  have hoL : (h'.push (seqObj "list" (zs.map fun z => Value.ref z.1).toArray 0)).get? h'.objs.size = some (seqObj "list" (zs.map fun z => Value.ref z.1).toArray 0) := Heap.get?_push_size _ rfl
  show wpAny _ _ _ _ _ { s with heap := h'.push (seqObj "list" (zs.map fun z => Value.ref z.1).toArray 0), toks := tk }
  refine wpAny_bind (wpAny_holding (wpAny_call_entry slot_list_sort ⟨_, hoL, rfl⟩ entry_list_sort
    (Srt.list_sort_any (s := { s with heap := h'.push (seqObj "list" (zs.map fun z => Value.ref z.1).toArray 0), toks := tk }) hoL hz (fun h2 => its_sortable (by omega) (fun v hv => (hits v hv).keeps fun b ob e _ => Heap.get?_push_of_some _ (hk b ob e)) fun ob e => ?_) fun out hp => ⟨_, rfl, ?_⟩) (args_list_sort _)))
  · have e' : some ob = some (seqObj "list" (zs.map fun z => Value.ref z.1).toArray 0) := e.symm.trans hoL
    cases e'
    intro c
    exact absurd (Value.type.inj c) (by decide)
  · obtain ⟨ys, y1, rfl⟩ := perm_unmap (fun z : Addr × List Int => Value.ref z.1) hp rfl
    obtain ⟨e', he'⟩ := sortedHeap_at (vs := zs.map fun z => Value.ref z.1) (out := (ys.map fun z => Value.ref z.1).toArray) hoL
    have eb : (ys.map fun z => Value.ref z.1) = (ys.map (·.1)).map Value.ref := by rw [List.map_map]; rfl
    have pp : Paired (fun b l => H b = some (.tup (l.map V.int))) (ys.map (·.1)) (ys.map (·.2)) := by
      have : ∀ z ∈ ys, H z.1 = some (.tup (z.2.map V.int)) := fun z m => z3 z (y1.mem_iff.mp m)
      clear he' hp y1 eb
      induction ys with
      | nil => exact .nil
      | cons y ys ih => exact .cons (this y (List.mem_cons_self ..)) (ih fun z m => this z (List.mem_cons_of_mem _ m))
    refine wpAny_pure ⟨_, rfl, .ref h'.objs.size, upd H h'.objs.size (.lst ((ys.map (·.1)).map V.ref)), I1.laid (t' := tk) (fun b u e => ?_) (Nat.le_refl _) ⟨?_, ys.map (fun z => Value.ref z.1), e', ?_, he'⟩, rfl, q _ _ _ (by rw [← z1]; exact y1.map _) pp (I1.hok.fresh (Nat.le_refl _))⟩
    · rw [sortedHeap_old (Nat.ne_of_lt (Heap.lt_size e)) (by rw [Heap.size_push]; exact Nat.lt_succ_of_lt (Heap.lt_size e))]
      exact Heap.get?_push_of_some _ e
    · rw [List.length_map, List.length_map, y1.length_eq, l4, ← l2]; exact z
    · rw [eb]; exact vals_refs _
end
end K16
set_option Elab.async false
set_option linter.all false
set_option maxRecDepth 100000
set_option maxHeartbeats 4000000
namespace K16
open PySem PySem.Spec PyProof.Rows L2
/-! ### list(d.values()) -/
/-- the values of the dict at d, as they stand -/
def ValsAt (h : Heap) (d : Addr) (vs : List V) : Prop := vs.length ≤ sizeLine ∧ (d == sysModules) = false ∧ ∃ es ep, h.DictRaw d es ep ∧ Vals vs (es.toList.map (·.val))
theorem vals_pairs {K : Type} [DecidableEq K] {prog : Program} {w : World} {knd : KeyKind prog w K} : ∀ {l : List DictEntry} {vs : List (K × Value)} {kvs : List (K × V)}, Pairs knd l vs → KV kvs vs → Vals (kvs.map (·.2)) (l.map (·.val)) := by
  intro l vs kvs p
  induction p generalizing kvs with
  | nil =>
    intro r
    cases r
    exact .nil
  | cons e f _ ih =>
    intro r
    cases r with
    | cons r1 r2 =>
      rw [List.map_cons, List.map_cons]
      exact .cons (by rw [f]; exact r1.2) (ih r2)
theorem vals_ents {H : Hp} {P : Program} {w : World} : ∀ {kvs : List (List Key × V)} {xs : List (List Key × Addr × Value)}, KT H kvs xs → Vals (kvs.map (·.2)) ((xs.map (entryOfKey (tupleKind (mixKind P w)))).map (·.val))
  | _, _, .nil => .nil
  | _, _, .cons f r => .cons f.2.2 (vals_ents r)
section
variable {X : Cx}
theorem valsAt_of {pins : List (Addr × Obj)} {s : Shared} {σ : L2.St} {H : Hp} {d : Addr} {vs : List V} (I : L2.Inv X pins σ H s)
    (h : (∃ kvs : List (Key × V), H d = some (.dK kvs) ∧ vs = kvs.map (·.2)) ∨ (∃ kvs : List (List Key × V), H d = some (.dT kvs) ∧ vs = kvs.map (·.2))) : ValsAt s.heap d vs := by
  rcases h with ⟨kvs, hd, rfl⟩ | ⟨kvs, hd, rfl⟩
  · obtain ⟨z, lo, us, rel, o, es, ep, ho, hx, hdt, hk, hp, _⟩ := dk_of I.hok hd
    exact ⟨by rw [List.length_map]; exact z, lo, es, ep, ⟨o, ho, hx, hdt⟩, vals_pairs hp rel⟩
  · obtain ⟨z, lo, xs, pr, o, es, ep, ho, hx, hdt, he, hn⟩ := (show ObjOk X.prog X.w H s.heap d (.dT kvs) from I.hok d _ hd)
    exact ⟨by rw [List.length_map]; exact z, lo, es, ep, ⟨o, ho, hx, hdt⟩, by rw [he]; exact vals_ents pr⟩
def tListVals (td : TE) : TE := fun σ H Q => td σ H fun x H1 => ∃ (d : Addr) (vs : List V), x = .ref d ∧ ((∃ kvs : List (Key × V), H1 d = some (.dK kvs) ∧ vs = kvs.map (·.2)) ∨ (∃ kvs : List (List Key × V), H1 d = some (.dT kvs) ∧ vs = kvs.map (·.2))) ∧
    ∀ p, H1 p = none → Q (.ref p) (upd H1 p (.lst vs))
theorem pe_listVals {e : Expr} {td : TE} {p pos apos cpos : Pos} (hc : X.calm = true) (hg : Gl X "list") (hm : X.mg "list" = none) (he : PE X e td)
    (hbase : attributeBase e "values" X.env (eval e X.env) = eval e X.env := by rfl) (hline : (apos.endLine == cpos.line) = true := by rfl)
    (na : starEach [Expr.Call (.Attribute e "values" apos) [] [] cpos] X.env = (false, eval (Expr.Call (.Attribute e "values" apos) [] [] cpos) X.env) :: starEach [] X.env := by rfl) :
    PE X (.Call (.Name "list" p) [.Call (.Attribute e "values" apos) [] [] cpos] [] pos) (tListVals td) := by
  refine ⟨fun pins s σ H Q I h => ?_⟩
  refine Call_ (ld_blt I hg hm boot_list (PyProof.Rows.callWith_type1 (args_cons (wpAny_Call_method0_late hbase hline (thn (he.run pins s σ H _ I h) fun v s1 ⟨x, H1, I1, r1, d, vs, ex, hv, q⟩ => ?_)) na) na))
  subst ex
  obtain rfl : v = Value.ref d := r1
  obtain ⟨z, lo, es, ep, hr, rv⟩ := valsAt_of I1 hv
  obtain ⟨ob, ho, hx, hdt⟩ := id hr
  refine ⟨"dict", "dict.values", F.plainAttrs_dict, F.slot_dict_values, F.type_dict_values, ⟨ob, ho, hx.1⟩, fun b e => ?_, Calls.callWith_builtin rfl (PySem.evalArgs_none ?_)⟩
  · cases e
    exact ⟨ob, ho, hx.2.1⟩
  refine call_meetsIn F.slot_dict_values ⟨ob, ho, hx.1⟩ F.entry_dict_values (F.args_dict_values_1 _) (meets_dict_values_raw d lo) ⟨⟨es, ep, hr⟩, ?_⟩
  have hl : es.size = vs.length := by rw [rv.length, List.length_map, Array.length_toList]
  have k1 : ∀ b u, s1.heap.get? b = some u → (s1.heap.push { cls := .type "dict_values", data := .fields #[.ref d] }).get? b = some u := fun b u e => Heap.get?_push_of_some _ e
  refine args_nil ?_
  refine PySem.W.kdl_call (s := { s1 with heap := s1.heap.push { cls := .type "dict_values", data := .fields #[.ref d] } }) (PySem.KdlSrc.rawValues (d := d) (es := es) (ep := ep)) (I1.ok.hd hc) ⟨⟨_, Heap.get?_push_size _ rfl, rfl, rfl⟩, ⟨ob, k1 _ _ ho, hx, hdt⟩⟩ (by omega) fun h' tk acc c' hk e' hi => ?_
  have ea : acc.toList = es.toList.map (·.val) := by
    apply List.ext_getElem?
    intro j
    rw [List.getElem?_map]
    cases hj : acc.toList[j]? with
    | none =>
      have h1 := List.getElem?_eq_none_iff.mp hj
      rw [Array.length_toList, hi.1] at h1
      rw [List.getElem?_eq_none (by rw [Array.length_toList]; exact h1)]
      rfl
    | some v =>
      obtain ⟨hlt, hv'⟩ := hi.2 j v (by rw [← Array.getElem?_toList]; exact hj)
      rw [Array.getElem?_toList, Array.getElem?_eq_getElem hlt, hv']
      rfl
  have hsz : (s1.heap.push { cls := .type "dict_values", data := .fields #[.ref d] }).objs.size = s1.heap.objs.size + 1 := Heap.size_push _ _
  have hle : s1.heap.objs.size ≤ (s1.heap.push { cls := .type "dict_values", data := .fields #[.ref d] }).objs.size := by rw [hsz]; exact Nat.le_succ _
  refine ⟨.ref _, upd H1 (s1.heap.push { cls := .type "dict_values", data := .fields #[.ref d] }).objs.size (.lst vs), I1.laid (t' := tk) (fun b u e => hk b u (k1 b u e)) hle ⟨z, acc.toList, c', by rw [ea]; exact rv, by rw [Array.toArray_toList]; exact e'⟩, rfl, q _ (I1.hok.fresh hle)⟩
end
end K16
set_option Elab.async false
set_option linter.all false
set_option maxRecDepth 100000
set_option maxHeartbeats 4000000
namespace K16
open PySem PySem.Spec PyProof.Rows L2
/-! ### len(set(t)), t of pairs (number, tuple of numbers) -/
abbrev NP := Nat × List Nat
def keyN (p : NP) : NestedKey := .tup [.num p.1, .tup (p.2.map fun n : Nat => NestedKey.num n)]
theorem keyN_inj {p q : NP} (h : keyN p = keyN q) : p = q := by
  unfold keyN at h
  injection h with h
  injection h with h1 h
  injection h with h2 _
  injection h1 with h1
  injection h2 with h2
  have e1 : p.1 = q.1 := by exact_mod_cast h1
  have e2 : p.2 = q.2 := List.map_inj_right (f := fun n : Nat => NestedKey.num n) (fun a b e => by injection e with e; exact_mod_cast e) |>.mp h2
  exact Prod.ext e1 e2
theorem depth_nums : ∀ l : List Nat, NestedKey.depthAll (l.map fun n : Nat => NestedKey.num n) = 0
  | [] => rfl
  | n :: l => by
    show max 0 (NestedKey.depthAll (l.map fun n : Nat => NestedKey.num n)) = 0
    rw [depth_nums l]
    rfl
theorem depthN (p : NP) : (keyN p).depth = 2 := by
  unfold keyN
  simp only [NestedKey.depth, NestedKey.depthAll, depth_nums]
  rfl
def IsN (h : Heap) (p : NP) (a : Addr) : Prop := ∃ o o2 q t m m2 us, h.get? a = some o ∧ o.cls = .type "tuple" ∧ o.data = .seq #[.int (p.1 : Nat) t, .ref q] m ∧ h.get? q = some o2 ∧ o2.cls = .type "tuple" ∧ o2.data = .seq us m2 ∧ IntsAre us.toList (p.2.map fun n : Nat => (n : Int))
theorem IsN.keep {h h' : Heap} {p : NP} {a : Addr} (x : IsN h p a) (k : ∀ b o, h.get? b = some o → h'.get? b = some o) : IsN h' p a := by
  obtain ⟨o, o2, q, t, m, m2, us, h1, h2, h3, h4, r⟩ := x
  exact ⟨o, o2, q, t, m, m2, us, k _ _ h1, h2, h3, k _ _ h4, r⟩
theorem nums_all {h : Heap} : ∀ {us : List Value} {l : List Nat}, IntsAre us (l.map fun n : Nat => (n : Int)) → NestedAll h (l.map fun n : Nat => NestedKey.num n) us
  | us, [], r => by
    cases r
    exact .nil
  | us, n :: l, r => by
    rw [List.map_cons] at r
    cases r with
    | cons _ t r => exact .cons (.int _ t) (nums_all r)
section
variable {P : Program} {w : World} {A : Around} {E : Value → Shared → Prop} {s : Shared}
theorem IsN.key {h : Heap} {p : NP} {a : Addr} (x : IsN h p a) : (nestedKind P w).is h (keyN p) a := by
  obtain ⟨o, o2, q, t, m, m2, us, h1, h2, h3, h4, h5, h6, r⟩ := x
  refine ⟨.tup h1 h2 h3 (.cons (.int _ t) (.cons (.tup h4 h5 h6 (nums_all r)) .nil)), ?_⟩
  rw [depthN]
  decide
/-! small questions of such tuples -/
def NoCls (P : Program) (w : World) (n : Nat) (s : Shared) (v : Value) : Prop := ∀ (A : Around) (E : Value → Shared → Prop) (Q : Bool → Shared → Prop), Q false s → wpAny (model P w) A (ofAClassStatement n v) Q E s
def ByVal (P : Program) (w : World) (n : Nat) (s : Shared) (v : Value) : Prop := ∀ (A : Around) (E : Value → Shared → Prop) (Q : Bool → Shared → Prop), Q true s → wpAny (model P w) A (hashByValue n v) Q E s
theorem NoCls.int (n : Nat) (i : Int) (t : Tok) : NoCls P w n s (.int i t) := fun A E Q h => by rw [ofAClass_int]; exact wpAny_pure h
theorem ByVal.int (n : Nat) (i : Int) (t : Tok) : ByVal P w n s (.int i t) := fun A E Q h => by rw [hashBy_int]; exact wpAny_pure h
theorem NoCls.tup {n m : Nat} {a : Addr} {o : Obj} {vs : Array Value} (ho : s.heap.get? a = some o) (hc : o.cls = .type "tuple") (hd : o.data = .seq vs m) (hq : ∀ v ∈ vs.toList, NoCls P w n s v) : NoCls P w (n + 1) s (.ref a) := fun A E Q h => by
  have hT : s.TypeIs (.ref a) "tuple" := ⟨o, ho, hc⟩
  unfold ofAClassStatement
  refine wpAny_bind (wpAny_typeOf hT ?_)
  dsimp only
  have e : (("tuple" : String) == "tuple") = true := by decide
  simp only [e, if_true, Bool.not_true, Bool.false_eq_true, if_false]
  try refine wpAny_bind (wpAny_pure ?_)
  try simp only [Bool.not_true, Bool.false_eq_true, if_false]
  show wpAny _ _ (seqItems? (.ref a) >>= _) _ _ s
  refine wpAny_bind (wpAny_seqItems ho hd ?_)
  dsimp only
  refine wpAny_bind ?_
  show wpAny _ _ (forIn vs _ _) _ _ s
  rw [← Array.forIn_toList]
  refine wpAny_forIn_list _ (fun rest r s' => r.1 = none ∧ s' = s ∧ ∀ v ∈ rest, NoCls P w n s v) _ ?_ ?_ _ _ ⟨rfl, rfl, hq⟩
  · rintro v rest r s' ⟨hr, rfl, all⟩
    refine wpAny_bind (all v List.mem_cons_self _ _ _ ?_)
    simp only [Bool.false_eq_true, if_false]
    exact wpAny_pure ⟨rfl, rfl, fun u hu => all u (List.mem_cons_of_mem _ hu)⟩
  · rintro ⟨r1, r2⟩ s' ⟨hr, rfl, _⟩
    simp only at hr
    subst hr
    exact wpAny_pure h
theorem ByVal.tup {n m : Nat} {a : Addr} {o : Obj} {vs : Array Value} (ho : s.heap.get? a = some o) (hc : o.cls = .type "tuple") (hd : o.data = .seq vs m) (hq : ∀ v ∈ vs.toList, ByVal P w n s v) : ByVal P w (n + 1) s (.ref a) := fun A E Q h => by
  have hT : s.TypeIs (.ref a) "tuple" := ⟨o, ho, hc⟩
  unfold hashByValue
  refine wpAny_bind (wpAny_specialOf hT F.slot_tuple_hash.lookup ?_)
  show wpAny _ _ (seqItems? (.ref a) >>= _) _ _ s
  refine wpAny_bind (wpAny_seqItems ho hd ?_)
  refine wpAny_bind ?_
  show wpAny _ _ (forIn vs _ _) _ _ s
  rw [← Array.forIn_toList]
  refine wpAny_forIn_list _ (fun rest r s' => r.1 = none ∧ s' = s ∧ ∀ v ∈ rest, ByVal P w n s v) _ ?_ ?_ _ _ ⟨rfl, rfl, hq⟩
  · rintro v rest r s' ⟨hr, rfl, all⟩
    refine wpAny_bind (all v List.mem_cons_self _ _ _ ?_)
    simp only [Bool.not_true, Bool.false_eq_true, if_false]
    exact wpAny_pure ⟨rfl, rfl, fun u hu => all u (List.mem_cons_of_mem _ hu)⟩
  · rintro ⟨r1, r2⟩ s' ⟨hr, rfl, _⟩
    simp only at hr
    subst hr
    exact wpAny_pure h
theorem ints_mem {us : List Value} {ns : List Int} (r : IntsAre us ns) : ∀ v ∈ us, ∃ i t, v = Value.int i t := by
  induction r with
  | nil => intro v hv; exact nomatch hv
  | cons n t _ ih =>
    intro v hv
    rcases List.mem_cons.mp hv with e | hv
    · exact ⟨n, t, e⟩
    · exact ih v hv
theorem IsN.noCls {p : NP} {a : Addr} (x : IsN s.heap p a) : NoCls P w 8 s (.ref a) := by
  obtain ⟨o, o2, q, t, m, m2, us, h1, h2, h3, h4, h5, h6, r⟩ := x
  refine NoCls.tup (n := 7) h1 h2 h3 fun v hv => ?_
  have hv' : v = .int (p.1 : Nat) t ∨ v = .ref q := by simpa using hv
  rcases hv' with rfl | rfl
  · exact NoCls.int _ _ _
  · refine NoCls.tup (n := 6) h4 h5 h6 fun u hu => ?_
    obtain ⟨i, t, rfl⟩ := ints_mem r u hu
    exact NoCls.int _ _ _
theorem IsN.byVal {p : NP} {a : Addr} (x : IsN s.heap p a) : ByVal P w 8 s (.ref a) := by
  obtain ⟨o, o2, q, t, m, m2, us, h1, h2, h3, h4, h5, h6, r⟩ := x
  refine ByVal.tup (n := 7) h1 h2 h3 fun v hv => ?_
  have hv' : v = .int (p.1 : Nat) t ∨ v = .ref q := by simpa using hv
  rcases hv' with rfl | rfl
  · exact ByVal.int _ _ _
  · refine ByVal.tup (n := 6) h4 h5 h6 fun u hu => ?_
    obtain ⟨i, t, rfl⟩ := ints_mem r u hu
    exact ByVal.int _ _ _
/-- a search among them tells nothing -/
theorem unseen {k : NP} {b : Addr} {ys : List Value} {Q : Bool → Shared → Prop} (hk : IsN s.heap k b) (hy : ∀ y ∈ ys, ∃ p c, y = Value.ref c ∧ IsN s.heap p c) (h : Q false s) : wpAny (model P w) A (searchCouldBeSeen (.ref b) ys) Q E s := by
  unfold searchCouldBeSeen
  refine wpAny_bind ?_
  refine wpAny_forIn_list _ (fun rest r s' => r.1 = none ∧ s' = s ∧ ∀ y ∈ rest, ∃ p c, y = Value.ref c ∧ IsN s.heap p c) _ ?_ ?_ _ _ ⟨rfl, rfl, hy⟩
  · rintro v rest r s' ⟨hr, rfl, all⟩
    obtain ⟨p, c, rfl, hc⟩ := all v List.mem_cons_self
    have more : ∀ y ∈ rest, ∃ p c, y = Value.ref c ∧ IsN s'.heap p c := fun u hu => all u (List.mem_cons_of_mem _ hu)
    dsimp only
    by_cases hv : (b == c || (carriedByValue (.ref b) && carriedByValue (.ref c))) = true
    · refine wp_if_pos hv ?_
      exact wpAny_pure ⟨rfl, rfl, more⟩
    · refine wp_if_neg hv ?_
      refine wpAny_bind ((nestedKind P w).quiet hk.key ?_)
      simp only [Bool.not_true, Bool.false_eq_true, if_false]
      refine wpAny_bind ((nestedKind P w).quiet hc.key ?_)
      simp only [Bool.not_true, Bool.false_eq_true, if_false]
      refine wpAny_bind (hk.noCls _ _ _ ?_)
      simp only [Bool.false_eq_true, if_false]
      refine wpAny_bind (hc.noCls _ _ _ ?_)
      simp only [Bool.false_eq_true, if_false]
      exact wpAny_pure ⟨rfl, rfl, more⟩
  · rintro ⟨r1, r2⟩ s' ⟨hr, rfl, _⟩
    simp only at hr
    subst hr
    exact wpAny_pure h
/-! the set's table -/
abbrev hashN (w : World) (p : NP) : Int := (keyN p).hash w
structure SetN (w : World) (h : Heap) (S : Addr) (L : List (Addr × NP)) (es : Array (Int × Value)) (ep : Nat) (t : SetTable) : Prop where
  ob : ∃ o, h.get? S = some o ∧ o.ExactSet ∧ o.data = .set es ep t
  rows : es.toList = L.map fun p => (hashN w p.2, Value.ref p.1)
  tab : TabOk t (L.map fun p => hashN w p.2)
  m7 : t.mask = 7
  plain : t.plain = true
  few : L.length ≤ 4
variable {S : Addr} {L : List (Addr × NP)} {es : Array (Int × Value)} {ep : Nat} {t : SetTable}
theorem SetN.size {h : Heap} (R : SetN w h S L es ep t) : es.size = L.length := by
  have := congrArg List.length R.rows
  simpa using this
theorem SetN.fits {h : Heap} (R : SetN w h S L es ep t) : t.fits es.size = true := by
  have h1 := R.tab.sz
  rw [List.length_map] at h1
  have h2 := R.size
  have h3 := R.few
  have h4 := R.m7
  unfold SetTable.fits SetTable.fill
  rw [R.tab.dm, Bool.and_eq_true, beq_iff_eq, decide_eq_true_eq]
  have h5 : (#[] : Array Nat).size = 0 := rfl
  omega
theorem SetN.at {h : Heap} (R : SetN w h S L es ep t) {i : Nat} {p : Addr × NP} (hp : L[i]? = some p) : es[i]? = some (hashN w p.2, Value.ref p.1) := by
  rw [← Array.getElem?_toList, R.rows, List.getElem?_map, hp]
  rfl
theorem SetN.keep {h h' : Heap} (R : SetN w h S L es ep t) (k : ∀ o, h.get? S = some o → h'.get? S = some o) : SetN w h' S L es ep t := by
  obtain ⟨o, ho, r⟩ := R.ob
  exact ⟨⟨o, k o ho, r⟩, R.rows, R.tab, R.m7, R.plain, R.few⟩
theorem nth_clean (m : Nat) : ∀ (n : Nat) (p : SetTable.Probe), p.dummy = none → (nth m p n).dummy = none
  | 0, _, h => h
  | n + 1, p, h => by
    refine nth_clean m n (adv m p) ?_
    unfold adv
    split <;> exact h
theorem searchN (R : SetN w s.heap S L es ep t) {x : Addr} {k : NP} (hk : ∀ p ∈ L, IsN s.heap p.2 p.1) (hx : IsN s.heap k x) (hm : k ∉ L.map (·.2)) (hu : A.units + 8 < cLine) {K : Nat} (hKf : K < 10 * SetTable.turns t.mask)
    (hK : way t.mask (hashN w k) K ∉ t.place.toList) (hKb : ∀ c, c < K → way t.mask (hashN w k) c ∈ t.place.toList) {Q : SetFound → Shared → Prop} (hQ : Q (.free (way t.mask (hashN w k) K) false) s) (f : Nat) :
    ∀ (c : Nat) (stand : Option SetTable.Probe), stand.getD (t.probeStart (hashN w k)) = nth t.mask (runAt t.mask (SetTable.bits (hashN w k) % (t.mask + 1)) (SetTable.bits (hashN w k))) c → c ≤ K → K - c < f →
      wpAny (model P w) A (setSearchFrom S (.ref x) (hashN w k) true f stand) Q E s := by
  induction f with
  | zero => intro c stand _ _ h; exact absurd h (Nat.not_lt_zero _)
  | succ f ih =>
    intro c stand hst hc hf
    obtain ⟨o, ho, hex, hd⟩ := R.ob
    generalize hrun : runAt t.mask (SetTable.bits (hashN w k) % (t.mask + 1)) (SetTable.bits (hashN w k)) = run at hst ih
    have hway : ∀ q, way t.mask (hashN w k) q = (nth t.mask run q).j := fun q => by rw [← hrun]
    have hcl : (nth t.mask run c).dummy = none := nth_clean _ _ _ (by rw [← hrun]; rfl)
    have sh : ∀ q, nth t.mask (nth t.mask run c) q = nth t.mask run (c + q) := fun q => (nth_add t.mask c _ q).symm
    have e1 : ∀ q, (nth t.mask (nth t.mask run c) q).j = way t.mask (hashN w k) (c + q) := fun q => by rw [sh, hway]
    have eK : c + (K - c) = K := by omega
    rw [setSearchFrom_succ]
    refine wpAny_bind (wpAny_setState_of ho hd R.fits ?_)
    dsimp only
    have hg : ¬ t.gaveWay = true := by
      unfold SetTable.gaveWay
      rw [R.m7]
      decide
    refine wp_if_neg hg ?_
    try refine wpAny_bind (wpAny_pure ?_)
    rcases go_spec t R.tab.ris R.tab.dm (fun i => (es[i]?.map (·.1)).getD 0) (hashN w k) (10 * SetTable.turns t.mask) (K - c) _ hcl (by omega)
      (fun q hq => by rw [e1]; exact hKb _ (by omega)) (by rw [e1, eK]; exact hK) with ⟨q, i, hq, hi, _, _, hpr⟩ | ⟨_, hpr⟩
    · rw [e1] at hi
      have hp' : t.probe (fun i => (es[i]?.map (·.1)).getD 0) (hashN w k) (stand.getD (t.probeStart (hashN w k))) = some (.candidate (way t.mask (hashN w k) (c + q)) i (nth t.mask run (c + (q + 1)))) := by
        rw [hst, ← e1, ← sh]
        exact hpr
      rw [hp']
      dsimp only
      have hil : i < L.length := by
        have a1 := (List.getElem?_eq_some_iff.mp hi).1
        have a2 := R.tab.sz
        rw [List.length_map] at a2
        rw [Array.length_toList] at a1
        omega
      obtain ⟨p, hp⟩ : ∃ p, L[i]? = some p := ⟨_, List.getElem?_eq_getElem hil⟩
      have hpm := List.mem_of_getElem? hp
      have hne : keyN p.2 ≠ keyN k := fun e => hm (List.mem_map.mpr ⟨p, hpm, keyN_inj e⟩)
      have rest : wpAny (model P w) A (searchRest S (.ref x) (hashN w k) true f es t (way t.mask (hashN w k) (c + q)) i (nth t.mask run (c + (q + 1)))) Q E s := by
        unfold searchRest
        rw [R.at hp]
        dsimp only
        refine wpAny_bind (wpAny_holding ((nestedKind P w).eqBool (x := keyN p.2) (y := keyN k) hu (hk p hpm).key hx.key ?_))
        rw [decide_eq_false hne]
        refine wpAny_bind (wpAny_setState_of ho hd R.fits ?_)
        dsimp only
        refine wp_if_neg (by decide) ?_
        try refine wpAny_bind (wpAny_pure ?_)
        rw [sameMem]
        dsimp only
        have hsl : t.slot (way t.mask (hashN w k) (c + q)) = .live i := slot_live R.tab.ris hi
        simp only [if_true, hsl, R.at hp]
        refine wpAny_bind (wpAny_isSame_ref_self (wpAny_bind (wpAny_pure ?_)))
        simp only [if_true]
        refine wp_if_neg (by decide) ?_
        exact ih (c + (q + 1)) _ rfl (by omega) (by omega)
      by_cases hl : t.led = true
      · refine wp_if_neg (by simp [hl]) ?_
        try refine wpAny_bind (wpAny_pure ?_)
        exact rest
      · refine wp_if_pos (by simp [hl]) ?_
        refine wpAny_bind (unseen hx (fun y hy => ?_) ?_)
        · obtain ⟨e, he, ee⟩ := List.mem_map.mp hy
          have he1 : e ∈ es ∧ e.1 = hashN w k := by simpa using he
          have he2 : e ∈ es.toList := by simpa using he1.1
          rw [R.rows] at he2
          obtain ⟨p2, hp2, e2⟩ := List.mem_map.mp he2
          refine ⟨p2.2, p2.1, ?_, hk p2 hp2⟩
          rw [← ee, ← e2]
        · refine wp_if_neg (by decide) ?_
          try refine wpAny_bind (wpAny_pure ?_)
          exact rest
    · have hp' : t.probe (fun i => (es[i]?.map (·.1)).getD 0) (hashN w k) (stand.getD (t.probeStart (hashN w k))) = some (.empty (way t.mask (hashN w k) K) none) := by
        rw [hst, show way t.mask (hashN w k) K = (nth t.mask (nth t.mask run c) (K - c)).j by rw [e1, eK]]
        exact hpr
      rw [hp']
      dsimp only
      exact wpAny_pure hQ
/-- one more in -/
theorem addN (R : SetN w s.heap S L es ep t) {x : Addr} {k : NP} (hk : ∀ p ∈ L, IsN s.heap p.2 p.1) (hx : IsN s.heap k x) (hm : k ∉ L.map (·.2)) (hu : A.units + 8 < cLine) (h4 : L.length + 1 ≤ 4) {Q : Bool → Shared → Prop}
    (hQ : ∀ h' L' es' ep' t', Heap.SameBut S s.heap h' → SetN w h' S L' es' ep' t' → L'.Perm ((x, k) :: L) → Q true { s with heap := h' }) : wpAny (model P w) A (setAddHashed S (.ref x) (hashN w k)) Q E s := by
  obtain ⟨o, ho, hex, hd⟩ := R.ob
  have h7 := R.m7
  unfold setAddHashed
  refine wpAny_holding ?_
  rw [show (100000 : Nat) = 99999 + 1 from rfl, setAddHashedIn_succ]
  refine wpAny_bind (wpAny_setState_of ho hd R.fits ?_)
  dsimp only
  refine wp_if_neg (by simp [byScan, Value.scannable]) ?_
  try refine wpAny_bind (wpAny_pure ?_)
  obtain ⟨K, hKf, hK, hKb⟩ := R.tab.first (by rw [List.length_map, h7]; omega) (hashN w k)
  have hturn : 10 * SetTable.turns t.mask ≤ 1000 := by
    unfold SetTable.turns
    omega
  unfold setSearch
  refine wpAny_bind (searchN R hk hx hm hu hKf hK hKb ?_ 100000 0 none rfl (Nat.zero_le _) (by omega))
  dsimp only
  refine wpAny_bind (wpAny_setState_of ho hd R.fits ?_)
  dsimp only
  obtain ⟨q1, q2, q3, q4, q5, q6, q7, q8, q9⟩ := R.tab.put hK hKb
  have hpl : (t.put (way t.mask (hashN w k) K)).1.plain = true := by rw [q6]; exact R.plain
  generalize hpt : t.put (way t.mask (hashN w k) K) = pt at q1 q3 q4 q5 q6 q7 q8 q9 hpl ⊢
  obtain ⟨t1, p⟩ := pt
  dsimp only at q1 q3 q4 q5 q6 q7 q8 q9 hpl ⊢
  subst q1
  first
    | (refine wpAny_bind ?_; refine wp_if_pos hpl ?_; refine hx.byVal _ _ _ ?_)
    | refine wp_if_pos hpl (wpAny_bind (hx.byVal _ _ _ ?_))
  simp only [if_true]
  have hin : (SetTable.insertAt es (SetTable.below t.place (way t.mask (hashN w k) K)) (hashN w k, Value.ref x)).toList = (L.take (SetTable.below t.place (way t.mask (hashN w k) K)) ++ (x, k) :: L.drop (SetTable.below t.place (way t.mask (hashN w k) K))).map fun p => (hashN w p.2, Value.ref p.1) := by
    rw [SetTable.toList_insertAt, R.rows, List.map_append, List.map_cons, List.map_take, List.map_drop]
  generalize SetTable.below t.place (way t.mask (hashN w k) K) = p at q2 q3 hin ⊢
  have pm := put_perm L p (x, k)
  have hlen : (L.take p ++ (x, k) :: L.drop p).length = L.length + 1 := pm.length_eq
  have hhs : (L.take p ++ (x, k) :: L.drop p).map (fun p => hashN w p.2) = (L.map fun p => hashN w p.2).take p ++ hashN w k :: (L.map fun p => hashN w p.2).drop p := by
    rw [List.map_append, List.map_cons, List.map_take, List.map_drop]
  rw [← hhs] at q3
  have hes : (SetTable.insertAt es p (hashN w k, Value.ref x)).size = L.length + 1 := by
    have h := congrArg List.length hin
    rw [Array.length_toList, List.length_map, hlen] at h
    exact h
  generalize SetTable.insertAt es p (hashN w k, Value.ref x) = es1 at hin hes ⊢
  generalize L.take p ++ (x, k) :: L.drop p = L1 at pm hlen q3 hin
  refine wpAny_bind (wpAny_storeSet_of ho hd ?_ (by rw [hes, sizeLine_eq]; omega))
  have sb : Heap.SameBut S s.heap (s.heap.update S (Obj.putSet es1 t1)) := Heap.SameBut.update ..
  have ho1 := store_at (es' := es1) (t' := t1) ho hd
  generalize s.heap.update S (Obj.putSet es1 t1) = h1 at sb ho1 ⊢
  have hf : ¬ t1.tooFull = true := by
    unfold SetTable.tooFull
    rw [decide_eq_true_eq, q9, List.length_map, q4, h7]
    omega
  first
    | refine wp_if_neg (by simp [hf]) ?_
    | (refine wpAny_bind ?_; refine wp_if_neg (by simp [hf]) ?_; refine wpAny_pure ?_)
  exact wpAny_pure (hQ h1 L1 es1 (ep + 1) t1 sb ⟨⟨_, ho1, ⟨hex.1, hex.2.1, hex.2.2⟩, rfl⟩, hin, q3, by rw [q4]; exact h7, hpl, by rw [hlen]; exact h4⟩ pm)
theorem newN {h : Heap} (ho : h.get? S = some (newSet w)) : SetN w h S [] #[] 0 (.fresh 0 0 (!w.params.followText "set-order")) :=
  ⟨⟨_, ho, ⟨rfl, rfl, rfl⟩, rfl⟩, rfl, ⟨List.Pairwise.nil, rfl, rfl, .inl rfl, fun x hx => (by cases hx), fun i h j hi => (by simp at hi)⟩, rfl, rfl, Nat.zero_le _⟩
/-- the filling -/
theorem fillN (ks : List (Addr × NP)) (hks : ∀ p ∈ ks, IsN s.heap p.2 p.1) (nd : (ks.map (·.2)).Nodup) (h4 : ks.length ≤ 4) {items : Array Value} (hit : items.toList = ks.map fun p => Value.ref p.1) (hu : A.units + 32 < cLine) :
    Fills P w A s s.heap.objs.size items (fun h' => ∃ L es ep t, SetN w h' s.heap.objs.size L es ep t ∧ L.length = ks.length) := by
  intro A' I fp St s₁ R hh hu' W hf st0 hg k0 hI fin
  have hS0 : s.heap.get? s.heap.objs.size = none := Heap.get?_none_of_le (Nat.le_refl _)
  have hn : items.size = ks.length := by
    have := congrArg List.length hit
    simpa using this
  have hui : A'.in1.units + 8 < cLine := by show A'.units + 1 + 8 < cLine; omega
  generalize s.heap.objs.size = S at hS0 hf hg fin ⊢
  have hSI : S ≠ I := fun e => hf (by rw [e]; exact W.sub _ (List.mem_singleton.mpr rfl))
  have loop : ∀ (n i : Nat) (s' : Shared), items.size - i = n → i ≤ items.size → St i s' → (∀ b o, s.heap.get? b = some o → s'.heap.get? b = some o) → Moved [S, I] (fun a b => b = a) s₁ s' → (∃ L es ep t, SetN w s'.heap S L es ep t ∧ L.Perm (ks.take i)) →
      codeAny (model P w) A' (.builtin "set.update.loop" ⟨[.ref S, .ref I], []⟩) R s' := by
    intro n
    induction n with
    | zero =>
      intro i s' hni hi st hkp mv ⟨L, es, ep, t, hS, pm⟩
      have ei : i = items.size := by omega
      subst ei
      refine codeAny_builtin F.entry_set_update_loop ?_
      rw [Around.under_plainId F.plain_set_update_loop _]
      show wpAny _ A'.in1 (pyNext (.ref I) >>= _) _ _ s'
      refine wpAny_bind (W.done s' _ _ st fun s2 m2 => ?_)
      refine wpAny_pure (fin s2 (Moved.trans W.gtrans mv (m2.mono fun b hb => List.mem_cons_of_mem _ hb)) ⟨L, es, ep, t, hS.keep fun o e => m2.heap S o (by simpa using hSI) e, ?_⟩)
      rw [pm.length_eq, hn, List.take_length]
    | succ n ih =>
      intro i s' hni hi st hkp mv ⟨L, es, ep, t, hS, pm⟩
      have hlt : i < items.size := by omega
      refine codeAny_builtin F.entry_set_update_loop ?_
      rw [Around.under_plainId F.plain_set_update_loop _]
      show wpAny _ A'.in1 (pyNext (.ref I) >>= _) _ _ s'
      refine wpAny_bind (W.item i s' _ _ hlt st fun v s2 hv st2 m2 => ?_)
      have hil : i < ks.length := by omega
      obtain ⟨p, hp⟩ : ∃ p, ks[i]? = some p := ⟨_, List.getElem?_eq_getElem hil⟩
      obtain rfl : v = .ref p.1 := by
        have e1 : items.toList[i]? = some v := by rw [Array.getElem?_toList]; exact hv
        rw [hit, List.getElem?_map, hp] at e1
        exact (Option.some.inj e1).symm
      have hkp2 : ∀ b o, s.heap.get? b = some o → s2.heap.get? b = some o := fun b o e => m2.heap b o (fun hb => by rw [List.mem_singleton.mp hb, hI] at e; cases e) (hkp b o e)
      have hS2 : SetN w s2.heap S L es ep t := hS.keep fun o e => m2.heap S o (by simpa using hSI) e
      have hx : IsN s2.heap p.2 p.1 := (hks p (List.mem_of_getElem? hp)).keep hkp2
      have hall : ∀ q ∈ L, IsN s2.heap q.2 q.1 := fun q hq => (hks q (List.mem_of_mem_take (pm.mem_iff.mp hq))).keep hkp2
      have hne : p.2 ∉ L.map (·.2) := fun hm => by
        obtain ⟨q, hq, eq⟩ := List.mem_map.mp hm
        obtain ⟨j, hj⟩ := List.mem_iff_getElem?.mp (pm.mem_iff.mp hq)
        rw [List.getElem?_take] at hj
        split at hj
        · rename_i hji
          have a1 : (ks.map (·.2))[j]? = some p.2 := by rw [List.getElem?_map, hj, ← eq]; rfl
          have a2 : (ks.map (·.2))[i]? = some p.2 := by rw [List.getElem?_map, hp]; rfl
          have := (List.getElem?_inj (by rw [List.length_map]; omega) nd).mp (a1.trans a2.symm)
          omega
        · cases hj
      have hlen : L.length = i := by rw [pm.length_eq, List.length_take]; omega
      show wpAny _ A'.in1 (holding [Value.ref p.1] (setAdd S (.ref p.1)) >>= _) _ _ s2
      refine wpAny_bind (wpAny_holding ?_)
      unfold setAdd
      refine wpAny_holding ?_
      refine wpAny_bind ((nestedKind P w).pyHash (k := keyN p.2) hui hx.key ?_)
      refine addN (s := { s2 with toks := s2.toks + _ }) hS2 hall hx hne hui (by omega) fun h' L' es' ep' t' sb hS3 pm3 => ?_
      have hkp3 : ∀ b o, s.heap.get? b = some o → h'.get? b = some o := fun b o e => (sb.2 b (fun z => by rw [z, hS0] at e; cases e)).trans (hkp2 b o e)
      refine wpAny_pure ⟨plainId_quiet F.plain_set_update_loop _, ih (i + 1) _ (by omega) hlt (W.frame _ s2 _ _ st2 (Nat.le_add_right _ _) fun b hb o e => ?_) hkp3 (Moved.trans W.gtrans mv ((m2.mono fun b hb => List.mem_cons_of_mem _ hb).then_heap (Nat.le_add_right _ _) fun b o hb e => ?_)) ⟨L', es', ep', t', hS3, ?_⟩⟩
      · rw [sb.2 b (fun h : b = S => hf (by rw [← h]; exact hb))]
        exact e
      · rw [sb.2 b (fun h : b = S => hb (by rw [h]; exact List.mem_cons_self))]
        exact e
      · rw [List.take_add_one, hp]
        exact pm3.trans ((pm.cons p).trans (List.perm_append_comm (l₁ := [p])))
  exact loop _ 0 s₁ rfl (Nat.zero_le _) st0 k0 (Moved.refl W.grefl) ⟨[], _, _, _, newN hg, by simp⟩
end
section
variable {X : Cx}
theorem pairs_isN {pins : List (Addr × Obj)} {s : Shared} {σ : L2.St} {H : Hp} (I : L2.Inv X pins σ H s) : ∀ {xs : List Addr} {ps : List NP}, Paired (PR H) xs ps → ∃ ks : List (Addr × NP), ks.map (·.1) = xs ∧ ks.map (·.2) = ps ∧ ∀ p ∈ ks, IsN s.heap p.2 p.1
  | _, _, .nil => ⟨[], rfl, rfl, fun _ h => nomatch h⟩
  | _, _, .cons (a := a) (b := p) ⟨q, h1, h2⟩ r => by
    obtain ⟨ks, e1, e2, hall⟩ := pairs_isN I r
    refine ⟨(a, p) :: ks, by rw [List.map_cons, e1], by rw [List.map_cons, e2], fun k hk => ?_⟩
    rcases List.mem_cons.mp hk with rfl | hk
    · obtain ⟨_, its, rv, o, ho, hc, m, hd⟩ := (show ObjOk X.prog X.w H s.heap a _ from I.hok _ _ h1)
      obtain ⟨_, its2, rv2, o2, ho2, hc2, m2, hd2⟩ := (show ObjOk X.prog X.w H s.heap q _ from I.hok _ _ h2)
      obtain ⟨u, v, rfl, ru, rv'⟩ := rv.two
      obtain ⟨t, rfl⟩ := ru
      cases rv'
      refine ⟨o, o2, q, t, m, m2, its2.toArray, ho, hc, hd, ho2, hc2, hd2, ?_⟩
      have := ints_of_vals (ns := p.2.map fun n : Nat => (n : Int)) (by rw [List.map_map]; exact rv2)
      simpa using this
    · exact hall k hk
def tLenSetN (ta : TE) : TE := fun σ H Q => ta σ H fun x H1 => ∃ (l : Addr) (ps : List (Nat × List Nat)), x = .ref l ∧ TupOf PR H1 l ps ∧ ps.Nodup ∧ ps.length ≤ 4 ∧ Q (vN ps.length) H1
theorem pe_lenSetN {a : Expr} {ta : TE} {p p2 q pos : Pos} (hu : X.A.units + 64 < cLine) (hg : Gl X "len") (hm : X.mg "len" = none) (hg2 : Gl X "set") (hm2 : X.mg "set" = none) (ha : PE X a ta) (hc : X.calm = true := by rfl)
    (na : starEach [a] X.env = (false, eval a X.env) :: starEach [] X.env := by rfl) : PE X (.Call (.Name "len" p) [.Call (.Name "set" p2) [a] [] q] [] pos) (tLenSetN ta) := by
  refine ⟨fun pins s σ H Q I h => ?_⟩
  refine Call_ (ld_blt I hg hm PySem.boot_len ?_)
  refine PyProof.Rows.callWith_builtin1 (PyProof.Rows.args_cons ?_ rfl) rfl rfl
  refine Call_ (ld_blt I hg2 hm2 PyProof.Rows.boot_set ?_)
  refine PyProof.Rows.callWith_type1 (PyProof.Rows.args_cons (thn (ha.run pins s σ H _ I h) fun v s1 ⟨x, H1, I1, r1, l, ps, ex, ⟨xs, hl, hxs⟩, nd, h4, q1⟩ => PyProof.Rows.args_nil ?_) na) na rfl
  subst ex
  cases r1
  obtain ⟨ks, e1, e2, hall⟩ := pairs_isN I1 hxs
  obtain ⟨its, rv, pt, hz⟩ := I1.tuple (.inl (.of hl))
  have hlen : ks.length = ps.length := by rw [← e2, List.length_map]
  have hit : its = ks.map fun p => Value.ref p.1 := by
    subst e1
    clear hl hxs hz pt hall e2 hlen
    induction ks generalizing its with
    | nil =>
      cases rv
      rfl
    | cons k ks ih =>
      cases rv with
      | cons r1 r2 =>
        cases r1
        rw [List.map_cons, ← ih _ r2]
  refine set_made (I1.ok.hd hc) (.inr pt) (fillN ks hall (by rw [e2]; exact nd) (by omega) (by simpa using hit) (by omega)) fun h' tk hp hk => ?_
  obtain ⟨L, es, ep, t, hS, hL⟩ := hp
  obtain ⟨o, ho, hex, hd⟩ := hS.ob
  have hsz : es.size = ps.length := by rw [hS.size, hL, hlen]
  refine PyProof.Rows.args_nil ?_
  exact call_len_set ho hex hd hS.fits (by omega) ⟨.int ps.length, H1, (I1.kept (t' := tk) hk).tok _, ⟨_, by rw [hsz]⟩, q1⟩
end
end K16
set_option Elab.async false
set_option linter.all false
set_option maxRecDepth 100000
set_option maxHeartbeats 4000000
namespace K16
open PySem PySem.Spec PyProof.Rows L2
section
variable {X : Cx}
/-! ### walked: a list or a tuple -/
theorem PI_or {tg l : Expr} {t1 t2 : TI} (h1 : PI X tg l t1) (h2 : PI X tg l t2) : PI X tg l (fun σ H R => t1 σ H R ∨ t2 σ H R) := by
  refine ⟨fun pins s σ H R I h => ?_⟩
  rcases h with h | h
  · exact h1.run pins s σ H R I h
  · exact h2.run pins s σ H R I h
theorem pi_seq {tg l : Expr} {tl : TE} (h : PE X l tl) : PI X tg l (fun σ H R => iList X.K tl σ H R ∨ iTup X.K tl σ H R) := PI_or (pi_list h) (pi_tup h)
theorem walk_zipT {K : PySem.W.Frag} {a b : Addr} {xs ys : List V} {n : Nat} (hn : n = min xs.length ys.length) : Walk (RZ.ItzT K a b) n (fun H => SqT K H a xs ∧ SqT K H b ys) (YPair (fun i => xs[i]?) (fun i => ys[i]?)) := by
  subst hn
  refine ⟨fun i _ hi q => ?_, fun _ q => ⟨xs, ys, q.1, q.2, by omega⟩, fun i H v H' _ q y => ?_⟩
  · have h1 : i < xs.length := by omega
    have h2 : i < ys.length := by omega
    exact ⟨xs, ys, xs[i], ys[i], q.1, q.2, by simp [h1], by simp [h2]⟩
  · obtain ⟨T, x, z, h1, h2, h3, h4, h5⟩ := y
    exact ⟨T, x, z, h1, h2, h3, h4 xs q.1, h5 ys q.2⟩
theorem sl_any : SlR X (fun x lo hi H Q => rSlL X.K x lo hi H Q ∨ rSlA X.K x lo hi H Q) := SlR.or sl_list sl_tupA
end
end K16
set_option Elab.async false
set_option linter.all false
set_option maxRecDepth 100000
set_option maxHeartbeats 4000000
namespace K16
open PySem PySem.Spec PyProof.Rows L2
/-! ### the layer's rules with the written part named: within a comprehension's block it must be a name of the outer text -/
section
variable {X : Cx} (K : PySem.W.Frag)
theorem kixL (h : X.K = K := by rfl) : IxR X (rIxL K) := h ▸ ix_list
theorem kixT (h : X.K = K := by rfl) : IxR X (rIxT K) := h ▸ ix_tup
theorem kslL (h : X.K = K := by rfl) : SlR X (rSlL K) := h ▸ sl_list
theorem kslT (h : X.K = K := by rfl) : SlR X (rSlT K) := h ▸ sl_tup
theorem kslA (h : X.K = K := by rfl) : SlR X (fun x lo hi H Q => rSlL K x lo hi H Q ∨ rSlA K x lo hi H Q) := h ▸ sl_any
theorem klen (h : X.K = K := by rfl) : CallR X (.builtin "len") (fun xs H Q => ∃ p ys, xs = [.ref p] ∧ (SqL K H p ys ∨ SqT K H p ys) ∧ Q (.int ys.length) H) := h ▸ call_len_seq
theorem kisi (h : X.K = K := by rfl) : CallR X (.builtin "isinstance") (rIsi K) := h ▸ call_isi
theorem kisiT (h : X.K = K := by rfl) : CallR X (.builtin "isinstance") (rIsiT K) := h ▸ call_isiT
theorem kin (h : X.K = K := by rfl) : OpR X (compareOp .In) (rIn K false) := h ▸ op_in_seq
theorem knin (h : X.K = K := by rfl) : OpR X (compareOp .NotIn) (rIn K true) := h ▸ op_notIn_seq
theorem keqD (hu : X.A.units + 64 < cLine) (h : X.K = K := by rfl) : OpR X (compareOp .Eq) (rEqD K) := h ▸ op_eqD hu
theorem kneD (hu : X.A.units + 64 < cLine) (h : X.K = K := by rfl) : OpR X (compareOp .NotEq) (rNeD K) := h ▸ op_neD hu
theorem kninD (hu : X.A.units + 65 < cLine) (h : X.K = K := by rfl) : OpR X (compareOp .NotIn) (rNotInD K) := h ▸ op_notInD hu
theorem kindex (h : X.K = K := by rfl) : MtR X "list.index" (rIndex K) := h ▸ mt_index
theorem kindexD (hu : X.A.units + 65 < cLine) (h : X.K = K := by rfl) : MtR X "list.index" (rIndexD K) := h ▸ mt_indexD hu
theorem kall (hc : X.calm = true) (h : X.K = K := by rfl) : CallR X (.builtin "all") (rAll K) := h ▸ cr_all hc
theorem kany (hc : X.calm = true) (h : X.K = K := by rfl) : CallR X (.builtin "any") (rAny K) := h ▸ cr_any hc
theorem ksum (hc : X.calm = true) (h : X.K = K := by rfl) : CallR X (.builtin "sum") (rSum K) := h ▸ cr_sum hc
theorem kmin (hc : X.calm = true) (h : X.K = K := by rfl) : CallR X (.builtin "min") (rMin K) := h ▸ cr_min hc
theorem kmax (hc : X.calm = true) (h : X.K = K := by rfl) : CallR X (.builtin "max") (rMax K) := h ▸ cr_max hc
theorem ksumT (hc : X.calm = true) (h : X.K = K := by rfl) : CallR X (.builtin "sum") (fun vs H Q => ∃ (a : Addr) (ns : List Int), vs = [V.ref a] ∧ SqT K H a (ns.map V.int) ∧ Q (.int ns.sum) H) := h ▸ cr_sumT hc
theorem kmaxT (hc : X.calm = true) (h : X.K = K := by rfl) : CallR X (.builtin "max") (fun vs H Q => ∃ (a : Addr) (ns : List Int), vs = [V.ref a] ∧ SqT K H a (ns.map V.int) ∧ 0 < ns.length ∧ ∀ m, m ∈ ns → (∀ y, y ∈ ns → y ≤ m) → Q (.int m) H) := h ▸ cr_maxT hc
theorem ksorted (h : X.K = K := by rfl) : CallR X (.builtin "sorted") (rSortedI K) := h ▸ cr_sortedI
theorem ktupOf (h : X.K = K := by rfl) : CallR X (.type "tuple") (fun xs H Q => ∃ p ys, xs = [.ref p] ∧ ((SqL K H p ys ∧ ∀ l, H l = none → Q (.ref l) (upd H l (.tup ys))) ∨ (SqT K H p ys ∧ Q (.ref p) H))) := h ▸ call_tuple_of
theorem klstOf (h : X.K = K := by rfl) : CallR X (.type "list") (fun xs H Q => ∃ p ys, xs = [.ref p] ∧ (SqL K H p ys ∨ SqT K H p ys) ∧ ∀ l, H l = none → Q (.ref l) (upd H l (.lst ys))) := h ▸ call_list_of
theorem kdictP (hc : X.calm = true) (h : X.K = K := by rfl) : CallR X (.type "dict") (fun xs H Q => ∃ (a : Addr) (ps : List Addr) (kvs : List (Key × V)), xs = [.ref a] ∧ SqL K H a (ps.map V.ref) ∧ Paired (fun p kv => SqT K H p [kV kv.1, kv.2]) ps kvs ∧ ∀ p, H p = none → Q (.ref p) (upd H p (.dK (mergeK [] kvs)))) := h ▸ call_dictP hc
theorem kcatA (h : X.K = K := by rfl) : OpR X (binaryOp .Add) (rCatA K) := h ▸ op_catA
theorem ksetL (hc : X.calm = true) (h : X.K = K := by rfl) : CallR X (.type "set") (fun xs H Q => ∃ (l : Addr) (ns : List Int), xs = [V.ref l] ∧ SqL K H l (ns.map V.int) ∧ ns.length ≤ 1000 ∧
    ∀ (a : Addr) (S : Int → Bool) (n : Nat), H a = none → (∀ k, S k = true ↔ k ∈ ns) → n ≤ ns.length → Q (.ref a) (upd H a (SetO X.w a S n))) := h ▸ cr_setL hc
theorem ksetT (hc : X.calm = true) (h : X.K = K := by rfl) : CallR X (.type "set") (fun xs H Q => ∃ (l : Addr) (ns : List Int), xs = [V.ref l] ∧ SqT K H l (ns.map V.int) ∧ ns.length ≤ 1000 ∧ ns.Nodup ∧
    ∀ (a : Addr) (S : Int → Bool), H a = none → Q (.ref a) (upd H a (SetO X.w a S ns.length))) := h ▸ cr_setT hc
theorem kdictT (hc : X.calm = true) (hu : X.A.units + 64 < cLine) (h : X.K = K := by rfl) : CallR X (.type "dict") (fun xs H Q => ∃ (a : Addr) (ps : List Addr) (kvs : List (List Key × V)), xs = [.ref a] ∧ SqL K H a (ps.map V.ref) ∧
    Paired (fun p (kv : List Key × V) => ∃ q, H p = some (.tup [.ref q, kv.2]) ∧ H q = some (.tup (kv.1.map kV))) ps kvs ∧ (kvs.map (·.1)).Nodup ∧ ∀ p, H p = none → Q (.ref p) (upd H p (.dT kvs))) := h ▸ call_dictT hc hu
theorem ksortTri (hc : X.calm = true) (h : X.K = K := by rfl) : CallR X (.builtin "sorted") (fun vs H Q => ∃ (a : Addr) (xs : List (Addr × (Int × Int) × V)), vs = [V.ref a] ∧ SqL K H a (xs.map fun x => V.ref x.1) ∧
    (∀ x ∈ xs, H x.1 = some (.tup [.int x.2.1.1, .int x.2.1.2, x.2.2])) ∧ (xs.map fun x => x.2.1).Nodup ∧ xs.length ≤ 1000 ∧
    ∀ (ys : List (Addr × (Int × Int) × V)) (p : Addr), ys.Perm xs → ys.Pairwise (fun x y => SrtO.lexB x.2.1 y.2.1 = true) → H p = none → Q (.ref p) (upd H p (.lst (ys.map fun x => V.ref x.1)))) := h ▸ cr_sortTri hc
end
section
variable {X : Cx} (K : PySem.W.Frag) {e e2 : Expr} {es : List Expr} {te : TE} {ta : TA} {t : TA} {p pos cpos apos tpos : Pos} {tg : Expr} {elts : List Expr} {kk : Nat} {f : Str}
theorem kstar (he : PE X e te) (hr : PA X es t) (h : X.K = K := by rfl) (hs : starEach (.Starred e p :: es) X.env = (true, eval e X.env) :: starEach es X.env := by rfl) : PA X (.Starred e p :: es) (StX.tStar K te t) := by
  subst h
  exact StX.pa_star he hr hs
theorem kgtup {n : Nat} {k : Nat} {t : TGs} (hc : X.calm = true) (hh : PGs X es t) (h : X.K = K := by rfl) (hn : (assignEach es X.env).length = n := by rfl) (hst : (assignEach es X.env).findIdx? (·.1) = none := by rfl) : PG X (.Tuple es k pos) (gTup K n t) := by
  subst h
  exact pg_tup hc hh hn hst
theorem kapp {o : Expr} {to : TE} (ho : PE X o to) (ha : PA X (e :: es) t) (h : X.K = K := by rfl)
    (hbase : attributeBase o "append" X.env (eval o X.env) = eval o X.env := by rfl)
    (hfew : ((backTo cpos (starEach (e :: es) X.env)).all (fun x => !x.1) && (backToKw cpos (keywordEach [] X.env)).all (fun x => x.1.isSome)
      && decide ((e :: es).length + ([] : List Keyword).length + (if ([] : List Keyword).isEmpty then 0 else 1) < 30)) = true := by rfl)
    (hline : (apos.endLine == cpos.line) = true := by rfl) (hs : starEach (e :: es) X.env = (false, eval e X.env) :: starEach es X.env := by rfl) (hplain : (backTo cpos (starEach es X.env)).any (·.1) = false := by rfl) :
    PE X (.Call (.Attribute o "append" apos) (e :: es) [] cpos) (tBM K "list" rAppend to t) := by
  subst h
  exact pe_bm PySem.F.plainAttrs_list PySem.F.slot_list_append PySem.F.type_list_append mt_append ho ha hbase hfew hline hs hplain
theorem kpop {o : Expr} {to : TE} (ho : PE X o to) (ha : PA X (e :: es) t) (h : X.K = K := by rfl)
    (hbase : attributeBase o "pop" X.env (eval o X.env) = eval o X.env := by rfl)
    (hfew : ((backTo cpos (starEach (e :: es) X.env)).all (fun x => !x.1) && (backToKw cpos (keywordEach [] X.env)).all (fun x => x.1.isSome)
      && decide ((e :: es).length + ([] : List Keyword).length + (if ([] : List Keyword).isEmpty then 0 else 1) < 30)) = true := by rfl)
    (hline : (apos.endLine == cpos.line) = true := by rfl) (hs : starEach (e :: es) X.env = (false, eval e X.env) :: starEach es X.env := by rfl) (hplain : (backTo cpos (starEach es X.env)).any (·.1) = false := by rfl) :
    PE X (.Call (.Attribute o "pop" apos) (e :: es) [] cpos) (tBM K "list" rPopAt to t) := by
  subst h
  exact pe_bm PySem.F.plainAttrs_list PySem.F.slot_list_pop PySem.F.type_list_pop mt_popAt ho ha hbase hfew hline hs hplain
theorem kidx {o : Expr} {to : TE} {r : V → List V → Hp → VK → Prop} (hr : MtR X "list.index" r) (ho : PE X o to) (ha : PA X (e :: es) t) (h : X.K = K := by rfl)
    (hbase : attributeBase o "index" X.env (eval o X.env) = eval o X.env := by rfl)
    (hfew : ((backTo cpos (starEach (e :: es) X.env)).all (fun x => !x.1) && (backToKw cpos (keywordEach [] X.env)).all (fun x => x.1.isSome)
      && decide ((e :: es).length + ([] : List Keyword).length + (if ([] : List Keyword).isEmpty then 0 else 1) < 30)) = true := by rfl)
    (hline : (apos.endLine == cpos.line) = true := by rfl) (hs : starEach (e :: es) X.env = (false, eval e X.env) :: starEach es X.env := by rfl) (hplain : (backTo cpos (starEach es X.env)).any (·.1) = false := by rfl) :
    PE X (.Call (.Attribute o "index" apos) (e :: es) [] cpos) (tBM K "list" r to t) := by
  subst h
  exact pe_bm PySem.F.plainAttrs_list PySem.F.slot_list_index PySem.F.type_list_index hr ho ha hbase hfew hline hs hplain
theorem kfld (he : PE X e te) (hb : attributeBase e f X.env (eval e X.env) = eval e X.env) (h : X.K = K := by rfl) : PE X (.Attribute e f pos) (tFld K te f) := by
  subst h
  exact pe_fld he hb
theorem kpl (he : PE X e te) (h : X.K = K := by rfl) : PI X tg e (iList K te) := by
  subst h
  exact pi_list he
theorem kpt (he : PE X e te) (h : X.K = K := by rfl) : PI X tg e (iTup K te) := by
  subst h
  exact pi_tup he
theorem kps (he : PE X e te) (h : X.K = K := by rfl) : PI X tg e (fun σ H R => iList K te σ H R ∨ iTup K te σ H R) := by
  subst h
  exact pi_seq he
theorem kenum (hg : Gl X "enumerate") (hm : X.mg "enumerate" = none) (ha : PA X [e] ta) (h : X.K = K := by rfl) (hs : starEach [e] X.env = (false, eval e X.env) :: starEach [] X.env := by rfl) :
    PI X (.Tuple elts kk tpos) (.Call (.Name "enumerate" p) [e] [] pos) (iEnum K ta) := by
  subst h
  exact pi_enum hg hm ha hs
theorem kzipA (hg : Gl X "zip") (hm : X.mg "zip" = none) (ha : PA X [e, e2] ta) (h : X.K = K := by rfl) (hs : starEach [e, e2] X.env = (false, eval e X.env) :: starEach [e2] X.env := by rfl) (hpl : (backTo pos (starEach [e2] X.env)).any (·.1) = false := by rfl) :
    PI X (.Tuple elts kk tpos) (.Call (.Name "zip" p) [e, e2] [] pos) (RZ.iZipA K ta) := by
  subst h
  exact RZ.pi_zipA hg hm ha hs hpl
theorem kzipM (hg : Gl X "zip") (hm : X.mg "zip" = none) (ha : PA X [e, e2] ta) (h : X.K = K := by rfl) (hs : starEach [e, e2] X.env = (false, eval e X.env) :: starEach [e2] X.env := by rfl) (hpl : (backTo pos (starEach [e2] X.env)).any (·.1) = false := by rfl) :
    PI X (.Tuple elts kk tpos) (.Call (.Name "zip" p) [e, e2] [] pos) (iZipM K ta) := by
  subst h
  exact pi_zipM hg hm ha hs hpl
end
end K16
set_option Elab.async false
set_option linter.all false
set_option maxRecDepth 100000
set_option maxHeartbeats 4000000
namespace K16
open PySem PySem.Spec PyProof.Rows L2
/-! ### lists side by side -/
theorem psnoc {α β : Type} {R : α → β → Prop} : ∀ {l : List α} {m : List β} {a : α} {b : β}, Paired R l m → R a b → Paired R (l ++ [a]) (m ++ [b])
  | _, _, _, _, .nil, h => .cons h .nil
  | _, _, _, _, .cons r t, h => .cons r (psnoc t h)
theorem pget {α β : Type} {R : α → β → Prop} : ∀ {l : List α} {m : List β} {i : Nat} {a : α} {b : β}, Paired R l m → l[i]? = some a → m[i]? = some b → R a b
  | _, _, i, _, _, .nil, e, _ => by simp at e
  | _, _, 0, _, _, .cons r t, e, f => by
    simp at e f
    subst e f
    exact r
  | _, _, i + 1, _, _, .cons r t, e, f => pget (i := i) t (by simpa using e) (by simpa using f)
theorem plen {α β : Type} {R : α → β → Prop} : ∀ {l : List α} {m : List β}, Paired R l m → l.length = m.length
  | _, _, .nil => rfl
  | _, _, .cons _ t => congrArg Nat.succ (plen t)
theorem take_s {α : Type} {l : List α} {i : Nat} (h : i < l.length) : l.take (i + 1) = l.take i ++ [l[i]] := by
  rw [List.take_add_one, List.getElem?_eq_getElem h]
  rfl
theorem at_map {α : Type} {f : α → V} {l : List α} {i : Nat} {x : V} (h : i < l.length) (e : (l.map f)[i]? = some x) : x = f l[i] := by
  rw [List.getElem?_map, List.getElem?_eq_getElem h] at e
  exact (Option.some.inj e).symm
/-- a new object t, then it is put behind the list at D -/
theorem app_new {H1 H4 : Hp} {D t : Addr} {o : HO} {zs : List Addr} (z1 : H4 D = some (.lst (zs.map V.ref))) (z2 : Same H1 H4) (hD : H1 D = none) (nt : H4 t = none) :
    (upd H4 t o) D = some (.lst (zs.map V.ref)) ∧ (upd (upd H4 t o) D (.lst (zs.map V.ref ++ [.ref t]))) D = some (.lst ((zs ++ [t]).map V.ref)) ∧ Same H1 (upd (upd H4 t o) D (.lst (zs.map V.ref ++ [.ref t]))) ∧
      TS H4 (upd (upd H4 t o) D (.lst (zs.map V.ref ++ [.ref t]))) ∧ (upd (upd H4 t o) D (.lst (zs.map V.ref ++ [.ref t]))) t = some o := by
  have ne : D ≠ t := ne_of_none z1 nt
  have e1 : (upd H4 t o) D = some (.lst (zs.map V.ref)) := by rw [upd_ne ne]; exact z1
  refine ⟨e1, by rw [upd_same, List.map_append]; rfl, (z2.trans (Same.nw nt)).mt hD, (TS.new nt).trans (TS.updL e1), by rw [upd_ne ne.symm, upd_same]⟩
theorem ptn {H H' : Hp} {xs : List Addr} {l : List (List Nat)} (e : TS H H') (h : Paired (TN H) xs l) : Paired (TN H') xs l := pimp h fun _ _ q => q.ts e
theorem szl {n : Nat} (h : n ≤ 100000) : n ≤ sizeLine := Nat.le_trans h (by decide)
theorem szs {n : Nat} (h : n < 100000) : n < sizeLine := Nat.lt_of_lt_of_le h (by decide)
/-- the cells of a table -/
def cells (size : Nat) : Nat → List (List Nat)
  | 0 => [[]]
  | w + 1 => (cells size w).flatMap fun c => (List.range size).map fun v => c ++ [v]
theorem flatMap_len {α β : Type} {f : α → List β} {n : Nat} : ∀ {l : List α}, (∀ a ∈ l, (f a).length = n) → (l.flatMap f).length = l.length * n
  | [], _ => by simp
  | a :: r, h => by
    rw [List.flatMap_cons, List.length_append, flatMap_len fun b hb => h b (List.mem_cons_of_mem _ hb), h a List.mem_cons_self, List.length_cons, Nat.add_mul]
    omega
theorem cells_len (size : Nat) : ∀ w, (cells size w).length = size ^ w
  | 0 => rfl
  | w + 1 => by
    show ((cells size w).flatMap _).length = _
    rw [flatMap_len (n := size) (fun a _ => by rw [List.length_map, List.length_range]), cells_len size w, Nat.pow_succ]
theorem cells_mem {size : Nat} : ∀ {w : Nat} {c : List Nat}, c ∈ cells size w → c.length = w ∧ ∀ v ∈ c, v < size
  | 0, c, h => by
    have : c = [] := List.mem_singleton.mp h
    subst this
    exact ⟨rfl, fun v hv => by cases hv⟩
  | w + 1, c, h => by
    obtain ⟨d, hd, hc⟩ := List.mem_flatMap.mp h
    obtain ⟨v, hv, rfl⟩ := List.mem_map.mp hc
    obtain ⟨h1, h2⟩ := cells_mem hd
    refine ⟨by rw [List.length_append, h1]; rfl, fun u hu => ?_⟩
    rcases List.mem_append.mp hu with q | q
    · exact h2 u q
    · rw [List.mem_singleton.mp q]
      exact List.mem_range.mp hv
section
variable {P : Program} {w : World} {K : PySem.W.Frag} {mg : Str → Option Value} {base : Heap}
/-! ### is_number, check_number -/
/-- a number within its bounds -/
def spIsNumber : Sp := fun vs H Q _ => ∃ i a b : Int, vs = [.int i, .int a, .int b] ∧ a ≤ i ∧ i ≤ b ∧ Q (.bl true) H
theorem sc_is_number : FnScope ["thing", "least", "most"] ["thing", "least", "most"] (defScope s_is_number) := ⟨rfl, rfl, rfl, by decide +kernel, rfl, by decide +kernel, by decide +kernel⟩
theorem ok_is_number (T : Tx K mg) (h : Has K mg "is_number" s_is_number) : Cal P w K mg base 1 "is_number" spIsNumber := by
  refine cal_of h sc_is_number (fun _ _ _ _ _ _ us hl => match us, hl with | [_, _, _], _ => rfl) (fun vs H Q E h => ?_) (fun f cdv A outer s H vs Q E hr h => ?_)
  · obtain ⟨i, a, b, rfl, _⟩ := h
    rfl
  · obtain ⟨i, a, b, rfl, h1, h2, q⟩ := h
    refine ⟨_, (pss_one (ps_ret (pe_and (pe_callB (kisi K) (by rfl) T.bIsinstance (by decide +kernel) (pa_cons (pv 0) (pa_cons (pe_bltn (v := .ty "int") (by rfl) T.bInt (by decide +kernel) rfl) pa_nil))) (pe_and (pe_not (pe_callB (kisi K) (by rfl) T.bIsinstance (by decide +kernel) (pa_cons (pv 0) (pa_cons (pe_bltn (v := .ty "bool") (by rfl) T.bBool (by decide +kernel) rfl) pa_nil)))) (pe_one (pe_chain op_le op_le (pv 1) (pv 0) (pv 2))))))), ?_⟩
    refine ⟨_, rfl, _, _, .type "int", .type "int", true, rfl, .ty _, .base (.int i), kit_ty (by decide +kernel), true, rfl, iteT ?_⟩
    refine ⟨_, rfl, _, _, .type "int", .type "bool", false, rfl, .ty _, .base (.int i), kit_ty (by decide +kernel), false, rfl, _, rfl, iteT ?_⟩
    refine ⟨_, rfl, _, rfl, _, _, rfl, rfl, _, rfl, ?_⟩
    refine (if_pos (decide_eq_true h1)).mpr ?_
    refine ⟨_, rfl, _, _, rfl, rfl, ?_⟩
    show Q (.bl (decide (i ≤ b))) H
    rw [decide_eq_true h2]
    exact q
def spCheckNumber : Sp := fun vs H Q _ => ∃ i a b : Int, vs = [.int i, .int a, .int b] ∧ a ≤ i ∧ i ≤ b ∧ Q .non H
theorem sc_check_number : FnScope ["thing", "least", "most"] ["thing", "least", "most"] (defScope s_check_number) := ⟨rfl, rfl, rfl, by decide +kernel, rfl, by decide +kernel, by decide +kernel⟩
theorem ok_check_number (T : Tx K mg) (h : Has K mg "check_number" s_check_number) (c_is_number : Cal P w K mg base 1 "is_number" spIsNumber) : Cal P w K mg base 2 "check_number" spCheckNumber := by
  refine cal_of h sc_check_number (fun _ _ _ _ _ _ us hl => match us, hl with | [_, _, _], _ => rfl) (fun vs H Q E h => ?_) (fun f cdv A outer s H vs Q E hr h => ?_)
  · obtain ⟨i, a, b, rfl, _⟩ := h
    rfl
  · obtain ⟨i, a, b, rfl, h1, h2, q⟩ := h
    refine ⟨_, (pss_one (ps_if (pt_not (pt_val (pc c_is_number hr (by decide) (by rfl) (pa_cons (pv 0) (pa_cons (pv 1) (pa_cons (pv 2) pa_nil)))))) (pss_one ps_never) pss_nil)), ?_⟩
    exact ⟨_, rfl, _, rfl, _, rfl, i, a, b, rfl, h1, h2, true, rfl, iteF q⟩
/-! ### Schema -/
def spSchemaI (C : Addr) : Sp := fun vs H Q _ => ∃ (s dx q : Addr) (size : Nat) (widths : List Nat), vs = [.ref s, vN size, .ref q] ∧ H s = some (.ins C dx []) ∧ TN H q widths ∧ 2 ≤ size ∧ size ≤ 6 ∧ 1 ≤ widths.length ∧ widths.length ≤ 4 ∧ (∀ u ∈ widths, 1 ≤ u ∧ u ≤ 2) ∧
  ∀ H', (∀ b o, H b = some o → b ≠ s → H' b = some o) → H' s = some (.ins C dx [("size", vN size), ("widths", .ref q)]) → Q .non H'
theorem flds2 (x y : Str) (u v : V) (h : ¬ x = y) : putF y v (putF x u []) = [(x, u), (y, v)] := by
  show (if x = y then _ else (x, u) :: putF y v []) = _
  rw [if_neg h]
  rfl
theorem sc_Schema___init__ : FnScope ["self", "size", "widths", "width"] ["self", "size", "widths"] (defScope s_Schema___init__) := ⟨rfl, rfl, rfl, by decide +kernel, rfl, by decide +kernel, by decide +kernel⟩
theorem ok_Schema_init {CS CD CQ : Addr} (T : Tx K mg) (Z : Cs K mg CS CD CQ) (h : HasI K CS "Schema.__init__" s_Schema___init__) (c_is_number : Cal P w K mg base 1 "is_number" spIsNumber) : MakO P w K mg base 2 "Schema" CS (spSchemaI CS) := by
  refine mak_of Z.gS h sc_Schema___init__ (fun _ _ _ _ _ _ us hl => match us, hl with | [_, _, _], _ => rfl) (fun vs H Q E h => ?_) (fun f cdv A outer s H vs Q E hr h => ?_)
  · obtain ⟨_, _, _, _, _, rfl, _⟩ := h
    rfl
  · obtain ⟨s, dx, q, size, widths, rfl, hs, hq, h1, h2, h3, h4, h5, k⟩ := h
    refine ⟨_, (pss_cons (ps_if (pt_not (pt_val (pc c_is_number hr (by decide) (by rfl) (pa_cons (pv 1) (pa_cons pe_int (pa_cons (pgi T.iSize (by rfl)) pa_nil)))))) (pss_one ps_never) pss_nil)
      (pss_cons (ps_if (PW.pt (pw_or (pt_not (pt_val (pe_callB (kisi K) (by rfl) T.bIsinstance (by decide +kernel) (pa_cons (pv 2) (pa_cons (pe_bltn (v := .ty "tuple") (by rfl) T.bTuple (by decide +kernel) rfl) pa_nil))))) (pw_or1 (pt_not (pt_chain op_le op_le pe_int (pe_callB (klen K) (by rfl) T.bLen (by decide +kernel) (pa_cons (pv 2) pa_nil)) (pgi T.iTables (by rfl))))))) (pss_one ps_never) pss_nil)
      (pss_cons (ps_if (pt_not (pt_val (pe_callB (kall K rfl) (by rfl) T.bAll (by decide +kernel) (pa_cons (pe_lc (own := [("width", 3)]) (by rfl) sc_Schema___init__.nd (kpt K (pv 2)) (blkOk_by (own := [("width", 3)]) (N := ["self", "size", "widths", "width"]) (sc := defScope s_Schema___init__) (by decide +kernel)) (fun _ _ _ _ _ => (pg_name (i := 3) sc_Schema___init__.nd rfl (Or.inl rfl))) (fun _ _ _ _ _ => pts_nil) (fun _ _ _ _ _ => (pc c_is_number hr (by decide) (by rfl) (pa_cons (pv 3) (pa_cons pe_int (pa_cons (pgi T.iWidth (by rfl)) pa_nil)))))) pa_nil)))) (pss_one ps_never) pss_nil)
      (pss_cons (ps_fld (pv 0) (pv 1) rfl)
      (pss_one (ps_fld (pv 0) (pv 2) rfl)))))), ?_⟩
    refine ⟨_, rfl, (size : Int), 2, 6, rfl, by omega, by omega, true, rfl, iteF ?_⟩
    refine ⟨_, rfl, _, _, .type "tuple", .type "tuple", true, rfl, .ty _, .base (.tup hq), kit_ty (by decide +kernel), true, rfl, iteF ?_⟩
    refine ⟨_, rfl, q, _, rfl, .inr (SqT.of hq), _, _, rfl, rfl, _, rfl, ?_⟩
    rw [List.length_map]
    refine (if_pos (decide_eq_true (by omega))).mpr ?_
    refine ⟨_, _, rfl, rfl, _, rfl, ?_⟩
    rw [decide_eq_true (show ((widths.length : Nat) : Int) ≤ 4 by omega)]
    refine iteF ?_
    refine ⟨_, rfl, q, rfl, ⟨_, SqT.of hq⟩, fun D hD => it_core walk_tup (LcI D fun i acc H1 => acc = List.replicate i (.bl true) ∧ Same H H1) ⟨[], upd_same, Nat.le_refl _, rfl, Same.nw hD⟩ (fun i H1 _ ⟨acc, _, _, _, e⟩ => e.tp (SqT.of hq)) ?_ ?_⟩
    · rintro i x H1 H2 hi ⟨acc, a1, a2, a3, a4⟩ ⟨rfl, hx⟩
      rw [List.getElem?_map] at hx
      rw [List.length_map] at hi
      rw [List.getElem?_eq_getElem hi] at hx
      cases hx
      have := h5 widths[i] (List.getElem_mem hi)
      refine ⟨rfl, lc_yes ?_⟩
      refine ⟨_, rfl, (widths[i] : Int), 1, 2, rfl, by omega, by omega, ?_⟩
      exact lc_end a1 a2 hi (by omega) ⟨by rw [a3, List.replicate_succ'], a4.mt hD⟩
    · rintro H1 ⟨acc, a1, a2, a3, a4⟩
      refine ⟨D, List.replicate widths.length true, rfl, .inl (.inl ?_), true, ?_, iteF ?_⟩
      · rw [a1, a3, List.length_map, List.map_replicate]
      · simp
      · have hs1 := a4 _ _ hs
        refine ⟨_, rfl, _, rfl, s, CS, dx, [], rfl, hs1, Z.clS, Z.nSs, by show 0 < 1000; decide, ?_⟩
        refine ⟨_, rfl, _, rfl, s, CS, dx, _, rfl, upd_same, Z.clS, Z.nSw, by show 1 < 1000; decide, ?_⟩
        refine k _ (fun b o e hb => ?_) ?_
        · rw [upd_ne hb, upd_ne hb]
          exact a4 _ _ e
        · rw [upd_same, flds2 _ _ _ _ (by decide +kernel)]
/-! ### cells_of -/
def spCellsOf : Sp := fun vs H Q _ => ∃ (size width : Nat), vs = [vN size, vN width] ∧ size ≤ 6 ∧ width ≤ 2 ∧ ∀ H' p, Same H H' → H p = none → LstOf TN H' p (cells size width) → Q (.ref p) H'
theorem cells_small {size width : Nat} (h1 : size ≤ 6) (h2 : width ≤ 2) : (cells size width).length ≤ 36 := by
  rw [cells_len]
  exact Nat.le_trans (Nat.pow_le_pow_left h1 _) (Nat.pow_le_pow_right (by decide) h2)
theorem sc_cells_of : FnScope ["size", "width", "found", "column", "some", "value"] ["size", "width"] (defScope s_cells_of) := ⟨rfl, rfl, rfl, by decide +kernel, rfl, by decide +kernel, by decide +kernel⟩
theorem ok_cells_of (T : Tx K mg) (h : Has K mg "cells_of" s_cells_of) : Cal P w K mg base 1 "cells_of" spCellsOf := by
  refine cal_of h sc_cells_of (fun _ _ _ _ _ _ us hl => match us, hl with | [_, _], _ => rfl) (fun vs H Q E h => ?_) (fun f cdv A outer s H vs Q E hr h => ?_)
  · obtain ⟨_, _, rfl, _⟩ := h
    rfl
  · obtain ⟨size, width, rfl, hs, hw, k⟩ := h
    refine ⟨_, (pss_cons (ps_set (i := 2) sc_cells_of.nd rfl (Or.inl rfl) (pe_lst (pa_cons (pe_tup pa_nil) pa_nil)))
      (pss_cons (ps_for PassesOwn.never rfl (pi_range1 (by rfl) T.bRange (pa_cons (pv 1) pa_nil)) (pg_name (i := 3) sc_cells_of.nd rfl (Or.inl rfl)) (pss_one (ps_setLc2 (i := 2) (own := [("some", 4), ("value", 5)]) (vs1 := [5]) (by rfl) sc_cells_of.nd rfl rfl (sw_true rfl rfl rfl (by decide +kernel)) (kpl K (pv 2)) (blkOk_by (own := [("some", 4), ("value", 5)]) (N := ["size", "width", "found", "column", "some", "value"]) (sc := defScope s_cells_of) (by decide +kernel)) (by decide) (fun _ _ _ _ _ => (pg_name (i := 4) sc_cells_of.nd rfl (Or.inl rfl))) (fun _ _ _ _ _ => pts_nil) (fun _ _ _ _ _ => (pi_range1 (by rfl) T.bRange (pa_cons (pv 0) pa_nil))) (fun _ _ _ _ _ => (pg_name (i := 5) sc_cells_of.nd rfl (Or.inl rfl))) (fun _ _ _ _ _ => pts_nil) (fun _ _ _ _ _ => (pe_tup (kstar K (pv 4) (pa_cons (pv 5) pa_nil)))))))
      (pss_one (ps_ret (pv 2))))), ?_⟩
    refine ⟨by show 0 ≤ sizeLine; decide, fun t0 n0 => ⟨by show 1 ≤ sizeLine; decide, fun l0 m0 => ?_⟩⟩
    have s0 : Same H (upd (upd H t0 (.tup [])) l0 (.lst [.ref t0])) := (Same.nw n0).trans (Same.nw m0)
    refine ⟨_, rfl, (width : Int), rfl, by omega, by omega, for_it walk_range (fun i σ H1 => ∃ (p : Addr) (c : Option V), σ = [some (vN size), some (vN width), some (.ref p), c, none, none] ∧ Same H H1 ∧ H p = none ∧ LstOf TN H1 p (cells size i)) ?_ (fun _ _ _ _ _ => trivial) ?_ ?_⟩
    · refine ⟨l0, none, rfl, s0, (Same.nw n0).free m0, [t0], upd_same, .cons ?_ .nil⟩
      show upd _ l0 _ t0 = _
      rw [upd_ne (ne_of_none (H := upd H t0 (.tup [])) upd_same m0), upd_same]
      rfl
    · rintro i x σ H1 H1' hi ⟨p, c, rfl, s1, np, xs, hp, hxs⟩ ⟨e1, rfl⟩
      rw [e1]
      clear e1
      have hi' : i < width := by simpa using hi
      have hlen := plen hxs
      refine ⟨_, rfl, p, rfl, ⟨_, SqL.of hp⟩, fun D hD => it_core walk_list (fun k H2 => ∃ ys, H2 D = some (.lst (ys.map V.ref)) ∧ Same H1 H2 ∧ Paired (TN H2) ys (((cells size i).take k).flatMap fun c => (List.range size).map fun v => c ++ [v])) ⟨[], upd_same, Same.nw hD, .nil⟩ (fun k H2 _ ⟨ys, _, e, _⟩ => e.seq (SqL.of hp)) ?_ ?_⟩
      · rintro k x H2 H3 hk ⟨ys, y1, y2, y3⟩ ⟨rfl, hx⟩
        rw [List.length_map] at hk
        rw [List.getElem?_map, List.getElem?_eq_getElem hk] at hx
        cases hx
        have hkc : k < (cells size i).length := by omega
        have hc36 : (cells size i).length ≤ 36 := cells_small hs (by omega)
        have hxk : TN H1 xs[k] (cells size i)[k] := pget hxs (List.getElem?_eq_getElem hk) (List.getElem?_eq_getElem hkc)
        refine ⟨rfl, lc_yes ?_⟩
        refine ⟨_, rfl, (size : Int), rfl, by omega, by omega, it_core walk_range (fun j H3 => ∃ ys, H3 D = some (.lst (ys.map V.ref)) ∧ Same H1 H3 ∧ Paired (TN H3) ys ((((cells size i).take k).flatMap fun c => (List.range size).map fun v => c ++ [v]) ++ (List.range j).map fun v => (cells size i)[k] ++ [v])) ⟨ys, y1, y2, by simpa using y3⟩ (fun _ _ _ _ => trivial) ?_ ?_⟩
        · rintro j x H3 H4 hj ⟨zs, z1, z2, z3⟩ ⟨rfl, rfl⟩
          have hj' : j < size := by simpa using hj
          have hz := plen z3
          rw [List.length_append, flatMap_len (n := size) (fun a _ => by rw [List.length_map, List.length_range]), List.length_map, List.length_range, List.length_take] at hz
          have hzb : zs.length ≤ 1000 := by
            have : min k (cells size i).length * size ≤ 36 * 6 := Nat.mul_le_mul (by omega) hs
            omega
          refine ⟨rfl, lc_yes ?_⟩
          refine ⟨_, rfl, xs[k], _, rfl, .inl (SqT.of (z2 _ _ hxk)), _, rfl, ?_, fun t nt => ?_⟩
          · rw [List.length_append, List.length_map, (cells_mem (List.getElem_mem hkc)).1]
            exact szl (by simp; omega)
          · obtain ⟨a1, a2, a3, a4, a5⟩ := app_new (o := HO.tup ((cells size i)[k].map vN ++ [.int (0 + (j : Int))])) z1 z2 hD nt
            refine ⟨_, a1, szs (by rw [List.length_map]; omega), zs ++ [t], a2, a3, ?_⟩
            rw [List.range_succ, List.map_append, ← List.append_assoc]
            refine psnoc (ptn a4 z3) ?_
            show _ = some (HO.tup (((cells size i)[k] ++ [j]).map vN))
            rw [a5, List.map_append]
            simp
        · rintro H4 ⟨zs, z1, z2, z3⟩
          refine ⟨zs, z1, z2, ?_⟩
          rw [take_s hkc, List.flatMap_append]
          simpa using z3
      · rintro H4 ⟨zs, z1, z2, z3⟩
        refine ⟨D, some (.int (0 + (i : Int))), rfl, s1.trans z2, s1.free hD, zs, z1, ?_⟩
        rw [List.length_map, hlen, List.take_length] at z3
        exact z3
    · rintro σ H1 ⟨p, c, rfl, s1, np, hp⟩
      refine ⟨_, rfl, k H1 p s1 np ?_⟩
      simpa using hp
end
end K16
set_option Elab.async false
set_option linter.all false
set_option maxRecDepth 100000
set_option maxHeartbeats 4000000
namespace K16
open PySem PySem.Spec PyProof.Rows L2
theorem vN_map (l : List Nat) : l.map vN = (l.map fun (n : Nat) => (n : Int)).map V.int := by
  rw [List.map_map]
  rfl
theorem sum_cast : ∀ l : List Nat, (l.map fun (n : Nat) => (n : Int)).sum = ((l.sum : Nat) : Int)
  | [] => rfl
  | x :: r => by
    rw [List.map_cons, List.sum_cons, sum_cast r, List.sum_cons]
    omega
/-- data at d -/
def DatAt (CD CS : Addr) (H : Hp) (d : Addr) (size : Nat) (widths : List Nat) (tabs : List (List Nat)) : Prop := ∃ dx s t, H d = some (.ins CD dx [("schema", .ref s), ("tables", .ref t)]) ∧ SchAt CS H s size widths ∧ TupOf TN H t tabs
theorem DatAt.sd {CD CS : Addr} {H H' : Hp} {d : Addr} {size : Nat} {widths : List Nat} {tabs : List (List Nat)} (e : SD H H') (h : DatAt CD CS H d size widths tabs) : DatAt CD CS H' d size widths tabs :=
  let ⟨dx, s, t, h1, h2, h3⟩ := h
  ⟨dx, s, t, e _ _ rfl h1, h2.sd e, h3.ts e.ts fun _ _ q => q.ts e.ts⟩
/-- the tables fit -/
def TabOk (size : Nat) (widths : List Nat) (tabs : List (List Nat)) : Prop := 2 ≤ size ∧ size ≤ 6 ∧ widths.length ≤ 4 ∧ tabs.length = widths.length ∧ (∀ u ∈ widths, u ≤ 2) ∧
  ∀ (i wd : Nat) (tab : List Nat), widths[i]? = some wd → tabs[i]? = some tab → tab.length = size ^ wd ∧ ∀ c ∈ tab, c ≤ 9
/-- the filled cells with their counts -/
def filledL (size wd : Nat) (tab : List Nat) : List (List Nat × Nat) := ((cells size wd).zip tab).filter fun p => decide (0 < p.2)
def FR (H : Hp) (a : Addr) (p : List Nat × Nat) : Prop := ∃ q, H a = some (.tup [.ref q, vN p.2]) ∧ TN H q p.1
theorem FR.ts {H H' : Hp} {a : Addr} {p : List Nat × Nat} (e : TS H H') (h : FR H a p) : FR H' a p := let ⟨q, h1, h2⟩ := h; ⟨q, e _ _ h1, h2.ts e⟩
theorem isIns {K : PySem.W.Frag} {C : Addr} (c : C8.InsC K C) {H : Hp} {a dx : Addr} {fs : List (Str × V)} (h : H a = some (.ins C dx fs)) : TyX K H (.ref a) (.ref C) := .base (.ins h c.cl c.ha c.hn c.htk c.hm)
section
variable {P : Program} {w : World} {K : PySem.W.Frag} {mg : Str → Option Value} {base : Heap} {CS CD CQ : Addr}
def spCheckSchema (CS : Addr) : Sp := fun vs H Q _ => ∃ (s : Addr) (size : Nat) (widths : List Nat), vs = [.ref s] ∧ SchAt CS H s size widths ∧ Q .non H
theorem sc_check_schema : FnScope ["schema"] ["schema"] (defScope s_check_schema) := ⟨rfl, rfl, rfl, by decide +kernel, rfl, by decide +kernel, by decide +kernel⟩
theorem ok_check_schema (T : Tx K mg) (Z : Cs K mg CS CD CQ) (h : Has K mg "check_schema" s_check_schema) : Cal P w K mg base 1 "check_schema" (spCheckSchema CS) := by
  refine cal_of h sc_check_schema (fun _ _ _ _ _ _ us hl => match us, hl with | [_], _ => rfl) (fun vs H Q E h => ?_) (fun f cdv A outer s H vs Q E hr h => ?_)
  · obtain ⟨_, _, _, rfl, _⟩ := h
    rfl
  · obtain ⟨s, size, widths, rfl, ⟨dx, q, hs, _⟩, k⟩ := h
    refine ⟨_, (pss_one (ps_if (pt_not (pt_val (pe_callB (kisi K) (by rfl) T.bIsinstance (by decide +kernel) (pa_cons (pv 0) (pa_cons (pe_glob (v := .ref CS) (by rfl) Z.gS rfl) pa_nil))))) (pss_one ps_never) pss_nil)), ?_⟩
    exact ⟨_, rfl, .ref s, .ref CS, .ref CS, .ref CS, true, rfl, .own _, isIns Z.iS hs, Z.iS.me, true, rfl, iteF k⟩
def spCheckData (CD : Addr) : Sp := fun vs H Q _ => ∃ (d dx : Addr) (fs : List (Str × V)), vs = [.ref d] ∧ H d = some (.ins CD dx fs) ∧ Q .non H
theorem sc_check_data : FnScope ["data"] ["data"] (defScope s_check_data) := ⟨rfl, rfl, rfl, by decide +kernel, rfl, by decide +kernel, by decide +kernel⟩
theorem ok_check_data (T : Tx K mg) (Z : Cs K mg CS CD CQ) (h : Has K mg "check_data" s_check_data) : Cal P w K mg base 1 "check_data" (spCheckData CD) := by
  refine cal_of h sc_check_data (fun _ _ _ _ _ _ us hl => match us, hl with | [_], _ => rfl) (fun vs H Q E h => ?_) (fun f cdv A outer s H vs Q E hr h => ?_)
  · obtain ⟨_, _, _, rfl, _⟩ := h
    rfl
  · obtain ⟨s, dx, fs, rfl, hs, k⟩ := h
    refine ⟨_, (pss_one (ps_if (pt_not (pt_val (pe_callB (kisi K) (by rfl) T.bIsinstance (by decide +kernel) (pa_cons (pv 0) (pa_cons (pe_glob (v := .ref CD) (by rfl) Z.gD rfl) pa_nil))))) (pss_one ps_never) pss_nil)), ?_⟩
    exact ⟨_, rfl, .ref s, .ref CD, .ref CD, .ref CD, true, rfl, .own _, isIns Z.iD hs, Z.iD.me, true, rfl, iteF k⟩
theorem sc_check_query : FnScope ["query"] ["query"] (defScope s_check_query) := ⟨rfl, rfl, rfl, by decide +kernel, rfl, by decide +kernel, by decide +kernel⟩
theorem ok_check_query (T : Tx K mg) (Z : Cs K mg CS CD CQ) (h : Has K mg "check_query" s_check_query) : Cal P w K mg base 1 "check_query" (spCheckData CQ) := by
  refine cal_of h sc_check_query (fun _ _ _ _ _ _ us hl => match us, hl with | [_], _ => rfl) (fun vs H Q E h => ?_) (fun f cdv A outer s H vs Q E hr h => ?_)
  · obtain ⟨_, _, _, rfl, _⟩ := h
    rfl
  · obtain ⟨s, dx, fs, rfl, hs, k⟩ := h
    refine ⟨_, (pss_one (ps_if (pt_not (pt_val (pe_callB (kisi K) (by rfl) T.bIsinstance (by decide +kernel) (pa_cons (pv 0) (pa_cons (pe_glob (v := .ref CQ) (by rfl) Z.gQ rfl) pa_nil))))) (pss_one ps_never) pss_nil)), ?_⟩
    exact ⟨_, rfl, .ref s, .ref CQ, .ref CQ, .ref CQ, true, rfl, .own _, isIns Z.iQ hs, Z.iQ.me, true, rfl, iteF k⟩
def spCheckTable (CS : Addr) : Sp := fun vs H Q _ => ∃ (s : Addr) (size : Nat) (widths : List Nat) (t : Nat), vs = [.ref s, vN t] ∧ SchAt CS H s size widths ∧ t < widths.length ∧ Q .non H
theorem sc_check_table : FnScope ["schema", "table"] ["schema", "table"] (defScope s_check_table) := ⟨rfl, rfl, rfl, by decide +kernel, rfl, by decide +kernel, by decide +kernel⟩
theorem ok_check_table (T : Tx K mg) (Z : Cs K mg CS CD CQ) (h : Has K mg "check_table" s_check_table) (c_is_number : Cal P w K mg base 1 "is_number" spIsNumber) : Cal P w K mg base 2 "check_table" (spCheckTable CS) := by
  refine cal_of h sc_check_table (fun _ _ _ _ _ _ us hl => match us, hl with | [_, _], _ => rfl) (fun vs H Q E h => ?_) (fun f cdv A outer s H vs Q E hr h => ?_)
  · obtain ⟨_, _, _, _, rfl, _⟩ := h
    rfl
  · obtain ⟨s, size, widths, t, rfl, ⟨dx, q, hs, hq⟩, ht, k⟩ := h
    refine ⟨_, (pss_one (ps_if (pt_not (pt_val (pc c_is_number hr (by decide) (by rfl) (pa_cons (pv 1) (pa_cons pe_int (pa_cons (pe_op op_sub (pe_callB (klen K) (by rfl) T.bLen (by decide +kernel) (pa_cons (kfld K (pv 0) rfl) pa_nil)) pe_int) pa_nil)))))) (pss_one ps_never) pss_nil)), ?_⟩
    refine ⟨_, rfl, _, rfl, s, CS, dx, _, _, rfl, hs, Z.clS, Z.nSw, rfl, q, _, rfl, .inr (SqT.of hq), _, _, rfl, rfl, (t : Int), 0, _, rfl, by omega, ?_, true, rfl, iteF k⟩
    rw [List.length_map]
    omega
/-! ### are_counts -/
def spAreCounts (CS : Addr) : Sp := fun vs H Q _ => ∃ (s a : Addr) (size : Nat) (widths : List Nat) (t wd : Nat) (tab : List Nat), vs = [.ref s, vN t, .ref a] ∧ SchAt CS H s size widths ∧ widths[t]? = some wd ∧ LN H a tab ∧ tab.length = size ^ wd ∧ (∀ c ∈ tab, c ≤ 9) ∧ size ≤ 6 ∧ wd ≤ 2 ∧
  ∀ H', Same H H' → Q (.bl true) H'
theorem sc_are_counts : FnScope ["schema", "table", "counts", "count"] ["schema", "table", "counts"] (defScope s_are_counts) := ⟨rfl, rfl, rfl, by decide +kernel, rfl, by decide +kernel, by decide +kernel⟩
theorem ok_are_counts (T : Tx K mg) (Z : Cs K mg CS CD CQ) (h : Has K mg "are_counts" s_are_counts) (c_is_number : Cal P w K mg base 1 "is_number" spIsNumber) (c_cells_of : Cal P w K mg base 1 "cells_of" spCellsOf) : Cal P w K mg base 2 "are_counts" (spAreCounts CS) := by
  refine cal_of h sc_are_counts (fun _ _ _ _ _ _ us hl => match us, hl with | [_, _, _], _ => rfl) (fun vs H Q E h => ?_) (fun f cdv A outer s H vs Q E hr h => ?_)
  · obtain ⟨_, _, _, _, _, _, _, rfl, _⟩ := h
    rfl
  · obtain ⟨s, a, size, widths, t, wd, tab, rfl, ⟨dx, q, hs, hq⟩, hwd, ha, hl, h9, h6, h2, k⟩ := h
    refine ⟨_, (pss_cons (ps_if (PW.pt (pw_or (pt_not (pt_val (pe_callB (kisiT K) (by rfl) T.bIsinstance (by decide +kernel) (pa_cons (pv 2) (pa_cons (pe_tup (pa_cons (pe_bltn (v := .ty "list") (by rfl) T.bList (by decide +kernel) rfl) (pa_cons (pe_bltn (v := .ty "tuple") (by rfl) T.bTuple (by decide +kernel) rfl) pa_nil))) pa_nil))))) (pw_or1 (pt_cmpR op_ne (pe_callB (klen K) (by rfl) T.bLen (by decide +kernel) (pa_cons (pv 2) pa_nil)) (pe_callB (klen K) (by rfl) T.bLen (by decide +kernel) (pa_cons (pc c_cells_of hr (by decide) (by rfl) (pa_cons (kfld K (pv 0) rfl) (pa_cons (pe_ix (kixT K) (kfld K (pv 0) rfl) (pv 1) (fun _ _ => rfl)) pa_nil))) pa_nil)) (nomark _))))) (pss_one (ps_ret pe_bl)) pss_nil)
      (pss_one (ps_ret (pe_callB (kall K rfl) (by rfl) T.bAll (by decide +kernel) (pa_cons (pe_lc (own := [("count", 3)]) (by rfl) sc_are_counts.nd (kpl K (pv 2)) (blkOk_by (own := [("count", 3)]) (N := ["schema", "table", "counts", "count"]) (sc := defScope s_are_counts) (by decide +kernel)) (fun _ _ _ _ _ => (pg_name (i := 3) sc_are_counts.nd rfl (Or.inl rfl))) (fun _ _ _ _ _ => pts_nil) (fun _ _ _ _ _ => (pc c_is_number hr (by decide) (by rfl) (pa_cons (pv 3) (pa_cons pe_int (pa_cons (pgi T.iCount (by rfl)) pa_nil)))))) pa_nil))))), ?_⟩
    -- isinstance(counts, (list, tuple))
    refine ⟨_, rfl, by show 2 ≤ sizeLine; decide, fun t1 n1 => ?_⟩
    have s1 : Same H (upd H t1 (.tup [.ty "list", .ty "tuple"])) := Same.nw n1
    generalize eH1 : upd H t1 (.tup [.ty "list", .ty "tuple"]) = H1 at s1
    have t1h : H1 t1 = some (.tup [.ty "list", .ty "tuple"]) := by rw [← eH1, upd_same]
    have ha1 : LN H1 a tab := s1 _ _ ha
    refine ⟨.ref a, t1, _, .type "list", [.type "list", .type "tuple"], true, rfl, t1h, .cons (.ty _) (.cons (.ty _) .nil), .base (.lst ha1), kitAny_cons (kit_ty (b := "list") (r := true) (by decide +kernel)) (fun z => by cases z) (fun _ => rfl), true, rfl, iteF ?_⟩
    -- len(counts) != len(cells_of(schema.size, schema.widths[table]))
    refine ⟨_, rfl, a, _, rfl, .inl (SqL.of ha1), _, rfl, s, CS, dx, _, _, rfl, s1 _ _ hs, Z.clS, Z.nSs, rfl, _, rfl, s, CS, dx, _, _, rfl, s1 _ _ hs, Z.clS, Z.nSw, rfl, _, rfl, q, _, (t : Int), vN wd, rfl, rfl, SqT.of (s1 _ _ hq), atI_nat (by rw [List.getElem?_map, hwd]; rfl), size, wd, rfl, h6, h2, fun H2 p s2 np hp => ?_⟩
    obtain ⟨xs, hx, hxs⟩ := hp
    refine ⟨p, _, rfl, .inl (SqL.of hx), rfl, _, rfl, iteNS ?_ ?_⟩
    · rw [List.length_map, List.length_map, plen hxs, cells_len, hl]
    · -- all([is_number(count, 0, MOST_COUNT) for count in counts])
      have ha2 : LN H2 a tab := s2 _ _ ha1
      refine ⟨_, rfl, a, rfl, ⟨_, SqL.of ha2⟩, fun D hD => it_core walk_list (LcI D fun i acc H1 => acc = List.replicate i (.bl true) ∧ Same H2 H1) ⟨[], upd_same, Nat.le_refl _, rfl, Same.nw hD⟩ (fun i H1 _ ⟨acc, _, _, _, e⟩ => e.seq (SqL.of ha2)) ?_ ?_⟩
      · rintro i x H1 H3 hi ⟨acc, a1, a2, a3, a4⟩ ⟨rfl, hx⟩
        rw [List.getElem?_map] at hx
        rw [List.length_map] at hi
        rw [List.getElem?_eq_getElem hi] at hx
        cases hx
        have := h9 tab[i] (List.getElem_mem hi)
        refine ⟨rfl, lc_yes ?_⟩
        refine ⟨_, rfl, (tab[i] : Int), 0, 9, rfl, by omega, by omega, ?_⟩
        have : size ^ wd ≤ 36 := by rw [← cells_len]; exact cells_small h6 h2
        exact lc_end a1 a2 hi (by omega) ⟨by rw [a3, List.replicate_succ'], a4.mt hD⟩
      · rintro H3 ⟨acc, a1, a2, a3, a4⟩
        refine ⟨D, List.replicate tab.length true, rfl, .inl (.inl ?_), ?_⟩
        · rw [a1, a3, List.length_map, List.map_replicate]
        · have : (List.replicate tab.length true).all id = true := by simp
          rw [this]
          exact k H3 ((s1.trans s2).trans a4)
end
end K16
set_option Elab.async false
set_option linter.all false
set_option maxRecDepth 100000
set_option maxHeartbeats 4000000
namespace K16
open PySem PySem.Spec PyProof.Rows L2
section
variable {P : Program} {w : World} {K : PySem.W.Frag} {mg : Str → Option Value} {base : Heap} {CS CD CQ : Addr}
/-! ### Data -/
def spDataI (CD CS : Addr) : Sp := fun vs H Q _ => ∃ (d dx s t : Addr) (size : Nat) (widths : List Nat) (tabs : List (List Nat)), vs = [.ref d, .ref s, .ref t] ∧ H d = some (.ins CD dx []) ∧ SchAt CS H s size widths ∧ LstOf LN H t tabs ∧ TabOk size widths tabs ∧
  ∀ H' t', (∀ b o, H b = some o → b ≠ d → H' b = some o) → H' d = some (.ins CD dx [("schema", .ref s), ("tables", .ref t')]) → TupOf TN H' t' tabs → Q .non H'
theorem sc_Data___init__ : FnScope ["self", "schema", "tables", "table", "counts"] ["self", "schema", "tables"] (defScope s_Data___init__) := ⟨rfl, rfl, rfl, by decide +kernel, rfl, by decide +kernel, by decide +kernel⟩
theorem ok_Data_init (T : Tx K mg) (Z : Cs K mg CS CD CQ) (h : HasI K CD "Data.__init__" s_Data___init__) (c_check_schema : Cal P w K mg base 1 "check_schema" (spCheckSchema CS)) (c_are_counts : Cal P w K mg base 2 "are_counts" (spAreCounts CS)) : MakO P w K mg base 3 "Data" CD (spDataI CD CS) := by
  refine mak_of Z.gD h sc_Data___init__ (fun _ _ _ _ _ _ us hl => match us, hl with | [_, _, _], _ => rfl) (fun vs H Q E h => ?_) (fun f cdv A outer s H vs Q E hr h => ?_)
  · obtain ⟨_, _, _, _, _, _, _, rfl, _⟩ := h
    rfl
  · obtain ⟨d, dx, s, t, size, widths, tabs, rfl, hd, hS, hT, ⟨z2, z6, z4, zl, zw, zt⟩, k⟩ := h
    obtain ⟨dxs, q, hs, hq⟩ := id hS
    obtain ⟨xs, ht, hxs⟩ := id hT
    have hxl := plen hxs
    refine ⟨_, (pss_cons (ps_expr (pc c_check_schema hr (by decide) (by rfl) (pa_cons (pv 1) pa_nil)))
      (pss_cons (ps_if (PW.pt (pw_or (pt_not (pt_val (pe_callB (kisiT K) (by rfl) T.bIsinstance (by decide +kernel) (pa_cons (pv 2) (pa_cons (pe_tup (pa_cons (pe_bltn (v := .ty "list") (by rfl) T.bList (by decide +kernel) rfl) (pa_cons (pe_bltn (v := .ty "tuple") (by rfl) T.bTuple (by decide +kernel) rfl) pa_nil))) pa_nil))))) (pw_or1 (pt_cmpR op_ne (pe_callB (klen K) (by rfl) T.bLen (by decide +kernel) (pa_cons (pv 2) pa_nil)) (pe_callB (klen K) (by rfl) T.bLen (by decide +kernel) (pa_cons (kfld K (pv 1) rfl) pa_nil)) (nomark _))))) (pss_one ps_never) pss_nil)
      (pss_cons (ps_for PassesOwn.never rfl (kenum K (by rfl) T.bEnumerate (pa_cons (pv 2) pa_nil)) (kgtup K (n := 2) rfl (pgs_cons (pg_name (i := 3) sc_Data___init__.nd rfl (Or.inl rfl)) (pgs_cons (pg_name (i := 4) sc_Data___init__.nd rfl (Or.inl rfl)) pgs_nil))) (pss_one (ps_if (pt_not (pt_val (pc c_are_counts hr (by decide) (by rfl) (pa_cons (pv 1) (pa_cons (pv 3) (pa_cons (pv 4) pa_nil)))))) (pss_one ps_never) pss_nil)))
      (pss_cons (ps_fld (pv 0) (pv 1) rfl)
      (pss_one (ps_fld (pv 0) (pe_callTy (ktupOf K) (by rfl) T.bTuple (by decide +kernel) (pa_cons (pe_lc (own := [("counts", 4)]) (by rfl) sc_Data___init__.nd (kpl K (pv 2)) (blkOk_by (own := [("counts", 4)]) (N := ["self", "schema", "tables", "table", "counts"]) (sc := defScope s_Data___init__) (by decide +kernel)) (fun _ _ _ _ _ => (pg_name (i := 4) sc_Data___init__.nd rfl (Or.inl rfl))) (fun _ _ _ _ _ => pts_nil) (fun _ _ _ _ _ => (pe_callTy (ktupOf K) (by rfl) T.bTuple (by decide +kernel) (pa_cons (pv 4) pa_nil)))) pa_nil)) rfl)))))), ?_⟩
    refine ⟨_, rfl, s, size, widths, rfl, hS, ?_⟩
    -- isinstance(tables, (list, tuple)) and so many
    refine ⟨_, rfl, by show 2 ≤ sizeLine; decide, fun t1 n1 => ?_⟩
    have s1 : Same H (upd H t1 (.tup [.ty "list", .ty "tuple"])) := Same.nw n1
    generalize eH1 : upd H t1 (.tup [.ty "list", .ty "tuple"]) = H1 at s1
    have t1h : H1 t1 = some (.tup [.ty "list", .ty "tuple"]) := by rw [← eH1, upd_same]
    have ht1 := s1 _ _ ht
    refine ⟨.ref t, t1, _, .type "list", [.type "list", .type "tuple"], true, rfl, t1h, .cons (.ty _) (.cons (.ty _) .nil), .base (.lst ht1), kitAny_cons (kit_ty (b := "list") (r := true) (by decide +kernel)) (fun z => by cases z) (fun _ => rfl), true, rfl, iteF ?_⟩
    refine ⟨_, rfl, t, _, rfl, .inl (SqL.of ht1), _, rfl, s, CS, dxs, _, _, rfl, s1 _ _ hs, Z.clS, Z.nSw, rfl, q, _, rfl, .inr (SqT.of (s1 _ _ hq)), rfl, _, rfl, iteNS ?_ ?_⟩
    · rw [List.length_map, List.length_map, hxl, zl]
    -- for table, counts in enumerate(tables)
    refine ⟨_, rfl, t, _, rfl, SqL.of ht1, for_it walk_enum (fun i σ H2 => ∃ c1 c2, σ = [some (.ref d), some (.ref s), some (.ref t), c1, c2] ∧ Same H H2) ⟨none, none, rfl, s1⟩ (fun i σ H2 _ ⟨_, _, _, e⟩ => e.seq (SqL.of ht)) ?_ ?_⟩
    · rintro i x σ H2 H3 hi ⟨c1, c2, rfl, s2⟩ ⟨tp, x1, x2, rfl, ntp, rfl, e1, e2⟩
      rw [List.length_map] at hi
      cases e1
      obtain rfl := at_map hi e2
      have hi2 : i < tabs.length := by omega
      have hi3 : i < widths.length := by omega
      have s3 : Same H (upd H2 tp (.tup [.int ((i : Nat) : Int), .ref xs[i]])) := s2.trans (Same.nw ntp)
      obtain ⟨g1, g2⟩ := zt i widths[i] tabs[i] (List.getElem?_eq_getElem hi3) (List.getElem?_eq_getElem hi2)
      refine ⟨tp, _, rfl, SqT.of upd_same, rfl, _, _, rfl, _, _, rfl, rfl, ?_⟩
      refine ⟨_, rfl, _, rfl, _, rfl, s, xs[i], size, widths, i, widths[i], tabs[i], rfl, hS.sd s3.sd, List.getElem?_eq_getElem hi3, ?_, g1, g2, z6, zw _ (List.getElem_mem hi3), fun H4 s4 => ?_⟩
      · exact LN.sd s3.sd (pget hxs (List.getElem?_eq_getElem hi) (List.getElem?_eq_getElem hi2))
      · exact ⟨true, rfl, iteF ⟨_, _, rfl, s3.trans s4⟩⟩
    · rintro σ H2 ⟨c1, c2, rfl, s2⟩
      -- self.schema = schema; self.tables = tuple([..])
      have hd2 := s2 _ _ hd
      refine ⟨_, rfl, _, rfl, d, CD, dx, [], rfl, hd2, Z.clD, Z.nDs, by show 0 < 1000; decide, ?_⟩
      have frame : ∀ b o, H b = some o → b ≠ d → (upd H2 d (.ins CD dx (putF "schema" (.ref s) []))) b = some o := fun b o e hb => by
        rw [upd_ne hb]
        exact s2 _ _ e
      generalize eH3 : upd H2 d (.ins CD dx (putF "schema" (.ref s) [])) = H3 at frame
      have hd3 : H3 d = some (.ins CD dx (putF "schema" (.ref s) [])) := by rw [← eH3, upd_same]
      have sd3 : ∀ a o, H a = some o → (∀ C dx fs, o ≠ .ins C dx fs) → H3 a = some o := fun a o e hne => frame a o e (ne_of e hd (hne _ _ _))
      have ht3 := sd3 _ _ ht (fun _ _ _ z => by cases z)
      have hx3 : Paired (LN H3) xs tabs := pimp hxs fun a l e => sd3 _ _ e (fun _ _ _ z => by cases z)
      refine ⟨_, rfl, t, rfl, ⟨_, SqL.of ht3⟩, fun D hD => it_core walk_list (fun i H4 => ∃ ys, H4 D = some (.lst (ys.map V.ref)) ∧ Same H3 H4 ∧ Paired (TN H4) ys (tabs.take i)) ⟨[], upd_same, Same.nw hD, .nil⟩ (fun i H4 _ ⟨_, _, e, _⟩ => e.seq (SqL.of ht3)) ?_ ?_⟩
      · rintro i x H4 H5 hi ⟨ys, y1, y2, y3⟩ ⟨rfl, hx⟩
        rw [List.length_map] at hi
        rw [List.getElem?_map, List.getElem?_eq_getElem hi] at hx
        cases hx
        have hi2 : i < tabs.length := by omega
        have hyl := plen y3
        rw [List.length_take] at hyl
        have hxi : LN H3 xs[i] tabs[i] := pget hx3 (List.getElem?_eq_getElem hi) (List.getElem?_eq_getElem hi2)
        refine ⟨rfl, lc_yes ?_⟩
        refine ⟨_, rfl, xs[i], _, rfl, .inl ⟨SqL.of (y2 _ _ hxi), fun tt nt => ?_⟩⟩
        obtain ⟨a1, a2, a3, a4, a5⟩ := app_new (o := HO.tup (tabs[i].map vN)) y1 y2 hD nt
        refine ⟨_, a1, szs (by rw [List.length_map]; omega), ys ++ [tt], a2, a3, ?_⟩
        rw [take_s hi2]
        exact psnoc (ptn a4 y3) a5
      · rintro H4 ⟨ys, y1, y2, y3⟩
        rw [List.length_map, hxl, List.take_length] at y3
        refine ⟨D, _, rfl, .inl ⟨SqL.of y1, fun tt nt => ?_⟩⟩
        have hd4 : (upd H4 tt (.tup (ys.map V.ref))) d = some (.ins CD dx (putF "schema" (.ref s) [])) := (y2.trans (Same.nw nt)) _ _ hd3
        refine ⟨_, rfl, d, CD, dx, _, rfl, hd4, Z.clD, Z.nDt, by show 1 < 1000; decide, ?_⟩
        have netd : tt ≠ d := fun e => by rw [e, y2 _ _ hd3] at nt; cases nt
        refine k _ tt (fun b o e hb => ?_) ?_ ?_
        · rw [upd_ne hb]
          exact (y2.trans (Same.nw nt)) _ _ (frame b o e hb)
        · rw [upd_same, flds2 _ _ _ _ (by decide +kernel)]
        · have ts : TS H4 (upd (upd H4 tt (.tup (ys.map V.ref))) d (.ins CD dx (putF "tables" (.ref tt) (putF "schema" (.ref s) [])))) := (TS.new nt).trans (TS.upd hd4 fun _ z => by cases z)
          refine ⟨ys, ?_, ptn ts y3⟩
          rw [upd_ne netd, upd_same]
def spRows (CD CS : Addr) : Sp := fun vs H Q _ => ∃ (d : Addr) (size : Nat) (widths : List Nat) (tabs : List (List Nat)) (t : Nat) (tab : List Nat), vs = [.ref d, vN t] ∧ DatAt CD CS H d size widths tabs ∧ tabs.length = widths.length ∧ tabs[t]? = some tab ∧ Q (vN tab.sum) H
theorem sc_Data_rows : FnScope ["self", "table"] ["self", "table"] (defScope s_Data_rows) := ⟨rfl, rfl, rfl, by decide +kernel, rfl, by decide +kernel, by decide +kernel⟩
theorem ok_rows (T : Tx K mg) (Z : Cs K mg CS CD CQ) (h : HasM K CD "rows" "Data.rows" s_Data_rows) (c_check_table : Cal P w K mg base 2 "check_table" (spCheckTable CS)) : MetO P w K mg base 3 CD "rows" (spRows CD CS) := by
  refine met_of Z.clD h sc_Data_rows (fun _ _ _ _ _ _ us hl => match us, hl with | [_, _], _ => rfl) (fun vs H Q E h => ?_) (fun f cdv A outer s H vs Q E hr h => ?_)
  · obtain ⟨_, _, _, _, _, _, rfl, _⟩ := h
    rfl
  · obtain ⟨d, size, widths, tabs, t, tab, rfl, ⟨dx, s, tt, hd, hS, xs, ht, hxs⟩, hl, htab, k⟩ := h
    have htl : t < tabs.length := (List.getElem?_eq_some_iff.mp htab).1
    have hxl := plen hxs
    have hx : xs[t]? = some xs[t] := List.getElem?_eq_getElem (by omega)
    refine ⟨_, (pss_cons (ps_expr (pc c_check_table hr (by decide) (by rfl) (pa_cons (kfld K (pv 0) rfl) (pa_cons (pv 1) pa_nil))))
      (pss_one (ps_ret (pe_callB (ksumT K rfl) (by rfl) T.bSum (by decide +kernel) (pa_cons (pe_ix (kixT K) (kfld K (pv 0) rfl) (pv 1) (fun _ _ => rfl)) pa_nil))))), ?_⟩
    refine ⟨_, rfl, d, CD, dx, _, _, rfl, hd, Z.clD, Z.nDs, rfl, _, rfl, s, size, widths, t, rfl, hS, by omega, ?_⟩
    refine ⟨_, rfl, d, CD, dx, _, _, rfl, hd, Z.clD, Z.nDt, rfl, _, rfl, tt, _, (t : Int), .ref xs[t], rfl, rfl, SqT.of ht, atI_nat (by rw [List.getElem?_map, hx]; rfl), xs[t], tab.map (fun (n : Nat) => (n : Int)), rfl, ?_, ?_⟩
    · have e : TN H xs[t] tab := pget hxs hx htab
      have e2 : H xs[t] = some (.tup ((tab.map fun (n : Nat) => (n : Int)).map V.int)) := by rw [← vN_map]; exact e
      exact SqT.of e2
    · show Q (.int _) H
      rw [sum_cast]
      exact k
def spFilled (CD CS : Addr) : Sp := fun vs H Q _ => ∃ (d : Addr) (size : Nat) (widths : List Nat) (tabs : List (List Nat)) (t wd : Nat) (tab : List Nat), vs = [.ref d, vN t] ∧ DatAt CD CS H d size widths tabs ∧ TabOk size widths tabs ∧ widths[t]? = some wd ∧ tabs[t]? = some tab ∧
  ∀ H' p, Same H H' → H p = none → LstOf FR H' p (filledL size wd tab) → Q (.ref p) H'
theorem pfr {H H' : Hp} {xs : List Addr} {l : List (List Nat × Nat)} (e : TS H H') (h : Paired (FR H) xs l) : Paired (FR H') xs l := pimp h fun _ _ q => q.ts e
theorem sc_Data_filled : FnScope ["self", "table", "cells", "cell", "count"] ["self", "table"] (defScope s_Data_filled) := ⟨rfl, rfl, rfl, by decide +kernel, rfl, by decide +kernel, by decide +kernel⟩
theorem ok_filled (T : Tx K mg) (Z : Cs K mg CS CD CQ) (h : HasM K CD "filled" "Data.filled" s_Data_filled) (c_check_table : Cal P w K mg base 2 "check_table" (spCheckTable CS)) (c_cells_of : Cal P w K mg base 1 "cells_of" spCellsOf) : MetO P w K mg base 3 CD "filled" (spFilled CD CS) := by
  refine met_of Z.clD h sc_Data_filled (fun _ _ _ _ _ _ us hl => match us, hl with | [_, _], _ => rfl) (fun vs H Q E h => ?_) (fun f cdv A outer s H vs Q E hr h => ?_)
  · obtain ⟨_, _, _, _, _, _, _, rfl, _⟩ := h
    rfl
  · obtain ⟨d, size, widths, tabs, t, wd, tab, rfl, hD0, ⟨z2, z6, z4, zl, zw, zt⟩, hwd, htab, k⟩ := h
    obtain ⟨dx, s, tt, hd, hS, xs, ht, hxs⟩ := id hD0
    obtain ⟨dxs, q, hs, hq⟩ := id hS
    have htl : t < tabs.length := (List.getElem?_eq_some_iff.mp htab).1
    have hxl := plen hxs
    have hx : xs[t]? = some xs[t] := List.getElem?_eq_getElem (by omega)
    have hw2 : wd ≤ 2 := zw wd (List.mem_of_getElem? hwd)
    have e : TN H xs[t] tab := pget hxs hx htab
    obtain ⟨tl, t9⟩ := zt t wd tab hwd htab
    refine ⟨_, (pss_cons (ps_expr (pc c_check_table hr (by decide) (by rfl) (pa_cons (kfld K (pv 0) rfl) (pa_cons (pv 1) pa_nil))))
      (pss_cons (ps_set (i := 2) sc_Data_filled.nd rfl (Or.inl rfl) (pc c_cells_of hr (by decide) (by rfl) (pa_cons (kfld K (kfld K (pv 0) rfl) rfl) (pa_cons (pe_ix (kixT K) (kfld K (kfld K (pv 0) rfl) rfl) (pv 1) (fun _ _ => rfl)) pa_nil))))
      (pss_one (ps_ret (pe_lc (own := [("cell", 3), ("count", 4)]) (by rfl) sc_Data_filled.nd (kzipM K (by rfl) T.bZip (pa_cons (pv 2) (pa_cons (pe_ix (kixT K) (kfld K (pv 0) rfl) (pv 1) (fun _ _ => rfl)) pa_nil))) (blkOk_by (own := [("cell", 3), ("count", 4)]) (N := ["self", "table", "cells", "cell", "count"]) (sc := defScope s_Data_filled) (by decide +kernel)) (fun _ _ _ _ _ => (kgtup K (n := 2) rfl (pgs_cons (pg_name (i := 3) sc_Data_filled.nd rfl (Or.inl rfl)) (pgs_cons (pg_name (i := 4) sc_Data_filled.nd rfl (Or.inl rfl)) pgs_nil)))) (fun _ _ _ _ _ => (pts_one (pt_cmpR op_gt (pv 4) pe_int (nomark _)))) (fun _ _ _ _ _ => (pe_tup (pa_cons (pv 3) (pa_cons (pv 4) pa_nil))))))))), ?_⟩
    refine ⟨_, rfl, d, CD, dx, _, _, rfl, hd, Z.clD, Z.nDs, rfl, _, rfl, s, size, widths, t, rfl, hS, by omega, ?_⟩
    -- cells
    refine ⟨_, rfl, d, CD, dx, _, _, rfl, hd, Z.clD, Z.nDs, rfl, s, CS, dxs, _, _, rfl, hs, Z.clS, Z.nSs, rfl, _, rfl, d, CD, dx, _, _, rfl, hd, Z.clD, Z.nDs, rfl, s, CS, dxs, _, _, rfl, hs, Z.clS, Z.nSw, rfl, _, rfl, q, _, (t : Int), vN wd, rfl, rfl, SqT.of hq, atI_nat (by rw [List.getElem?_map, hwd]; rfl), size, wd, rfl, z6, hw2, fun H1 p s1 np hp => ?_⟩
    obtain ⟨cs, hc, hcs⟩ := hp
    have hcl := plen hcs
    have hc36 : (cells size wd).length ≤ 36 := cells_small z6 hw2
    have hz : tab.length = (cells size wd).length := by rw [tl, cells_len]
    -- the pairs
    refine ⟨_, rfl, _, rfl, d, CD, dx, _, _, rfl, s1 _ _ hd, Z.clD, Z.nDt, rfl, _, rfl, tt, _, (t : Int), .ref xs[t], rfl, rfl, SqT.of (s1 _ _ ht), atI_nat (by rw [List.getElem?_map, hx]; rfl), p, xs[t], _, _, rfl, SqL.of hc, SqT.of (s1 _ _ e), fun D hD => ?_⟩
    refine it_core (walk_zipM (n := tab.length) (by rw [List.length_map, List.length_map, hcl]; omega)) (fun i H2 => ∃ ys, H2 D = some (.lst (ys.map V.ref)) ∧ Same H1 H2 ∧ Paired (FR H2) ys ((((cells size wd).zip tab).take i).filter fun p => decide (0 < p.2))) ⟨[], upd_same, Same.nw hD, .nil⟩ (fun i H2 _ ⟨_, _, e2, _⟩ => ⟨e2.seq (SqL.of hc), e2.tp (SqT.of (s1 _ _ e))⟩) ?_ ?_
    · rintro i x H2 H3 hi ⟨ys, y1, y2, y3⟩ ⟨tp, x1, x2, rfl, ntp, rfl, e1, e2⟩
      have hic : i < cs.length := by omega
      have hic2 : i < (cells size wd).length := by omega
      obtain rfl := at_map hic e1
      obtain rfl := at_map hi e2
      have hz2 : i < ((cells size wd).zip tab).length := by rw [List.length_zip]; omega
      have ez : ((cells size wd).zip tab)[i] = ((cells size wd)[i], tab[i]) := by simp
      have hyl := plen y3
      have hfl : ((((cells size wd).zip tab).take i).filter fun p => decide (0 < p.2)).length ≤ i := Nat.le_trans (List.length_filter_le ..) (by rw [List.length_take]; omega)
      have nD : D ≠ tp := ne_of_none y1 ntp
      have y1' : (upd H2 tp (.tup [.ref cs[i], vN tab[i]])) D = some (.lst (ys.map V.ref)) := by rw [upd_ne nD]; exact y1
      have y2' : Same H1 (upd H2 tp (.tup [.ref cs[i], vN tab[i]])) := y2.trans (Same.nw ntp)
      have ts1 : TS H2 (upd H2 tp (.tup [.ref cs[i], vN tab[i]])) := TS.new ntp
      refine ⟨tp, _, rfl, SqT.of upd_same, rfl, _, _, rfl, _, _, rfl, rfl, rfl, ?_⟩
      refine ⟨_, rfl, (tab[i] : Int), 0, rfl, rfl, decide ((0 : Int) < (tab[i] : Int)), rfl, ?_⟩
      by_cases hpos : 0 < tab[i]
      · rw [decide_eq_true (show (0 : Int) < (tab[i] : Int) by omega)]
        refine iteT ?_
        refine ⟨_, rfl, _, rfl, by show 2 ≤ sizeLine; decide, fun t2 nt2 => ?_⟩
        obtain ⟨a1, a2, a3, a4, a5⟩ := app_new (o := HO.tup [.ref cs[i], vN tab[i]]) y1' y2' hD nt2
        refine ⟨_, a1, szs (by rw [List.length_map]; omega), ys ++ [t2], a2, a3, ?_⟩
        rw [take_s hz2, List.filter_append, ez]
        have : List.filter (fun p : List Nat × Nat => decide (0 < p.2)) [((cells size wd)[i], tab[i])] = [((cells size wd)[i], tab[i])] := by simp [hpos]
        rw [this]
        refine psnoc (pfr (ts1.trans a4) y3) ⟨cs[i], a5, ?_⟩
        exact TN.ts a3.ts (pget hcs (List.getElem?_eq_getElem hic) (List.getElem?_eq_getElem hic2))
      · rw [decide_eq_false (show ¬ (0 : Int) < (tab[i] : Int) by omega)]
        refine iteF ?_
        refine ⟨ys, y1', y2', ?_⟩
        rw [take_s hz2, List.filter_append, ez]
        have : List.filter (fun p : List Nat × Nat => decide (0 < p.2)) [((cells size wd)[i], tab[i])] = [] := by simp [hpos]
        rw [this, List.append_nil]
        exact pfr ts1 y3
    · rintro H2 ⟨ys, y1, y2, y3⟩
      have : ((cells size wd).zip tab).take tab.length = (cells size wd).zip tab := List.take_of_length_le (by rw [List.length_zip]; omega)
      rw [this] at y3
      exact k H2 D (s1.trans y2) (s1.free hD) ⟨ys, y1, y3⟩
end
end K16
set_option Elab.async false
set_option linter.all false
set_option maxRecDepth 100000
set_option maxHeartbeats 4000000
namespace K16
open PySem PySem.Spec PyProof.Rows L2
/-! ### data within data, for == and in -/
def dN (n : Nat) : PyData := .int (n : Int)
def dT (l : List Nat) : PyData := .tuple (l.map dN)
def dP (p : Nat × List Nat) : PyData := .tuple [dN p.1, dT p.2]
theorem eqv_N (a b : Nat) : PyData.eqv (dN a) (dN b) = decide (a = b) := by
  show ((a : Int) == (b : Int)) = decide (a = b)
  by_cases h : a = b
  · subst h
    simp
  · have h2 : ¬ (a : Int) = (b : Int) := by omega
    rw [decide_eq_false h]
    exact beq_eq_false_iff_ne.mpr h2
theorem eqvAll_map {α : Type} [DecidableEq α] {f : α → PyData} (hf : ∀ a b, PyData.eqv (f a) (f b) = decide (a = b)) : ∀ l m : List α, PyData.eqvAll (l.map f) (m.map f) = decide (l = m)
  | [], [] => by simp [PyData.eqvAll]
  | [], _ :: _ => by simp [PyData.eqvAll]
  | _ :: _, [] => by simp [PyData.eqvAll]
  | a :: l, b :: m => by
    have ih := eqvAll_map hf l m
    show (PyData.eqv (f a) (f b) && PyData.eqvAll (l.map f) (m.map f)) = _
    rw [hf, ih, ← Bool.decide_and]
    exact decide_eq_decide.mpr ⟨fun h => by rw [h.1, h.2], fun h => by
      injection h with h1 h2
      exact ⟨h1, h2⟩⟩
theorem eqv_T (a b : List Nat) : PyData.eqv (dT a) (dT b) = decide (a = b) := eqvAll_map eqv_N a b
theorem eqv_P (a b : Nat × List Nat) : PyData.eqv (dP a) (dP b) = decide (a = b) := by
  show (PyData.eqv (dN a.1) (dN b.1) && (PyData.eqv (dT a.2) (dT b.2) && true)) = _
  rw [eqv_N, eqv_T, Bool.and_true, ← Bool.decide_and]
  exact decide_eq_decide.mpr ⟨fun h => Prod.ext h.1 h.2, fun h => by rw [h]; exact ⟨rfl, rfl⟩⟩
theorem lay_map {α : Type} {f : α → PyData} (hf : ∀ a, (f a).canLay0 = true) : ∀ l : List α, PyData.canLayAll0 (l.map f) = true
  | [] => by simp [PyData.canLayAll0]
  | a :: l => by
    show ((f a).canLay0 && PyData.canLayAll0 (l.map f)) = true
    rw [hf, lay_map hf l]
    rfl
theorem dep_map {α : Type} {f : α → PyData} {n : Nat} (hf : ∀ a, (f a).depth ≤ n) : ∀ l : List α, PyData.depthAll (l.map f) ≤ n
  | [] => Nat.zero_le _
  | a :: l => by
    show max (f a).depth (PyData.depthAll (l.map f)) ≤ n
    exact Nat.max_le.mpr ⟨hf a, dep_map hf l⟩
theorem lay_T (l : List Nat) : (dT l).canLay0 = true := lay_map (fun _ => by simp [dN, PyData.canLay0]) l
theorem dep_T (l : List Nat) : (dT l).depth ≤ 1 := Nat.succ_le_succ (dep_map (f := dN) (n := 0) (fun _ => Nat.le_refl _) l)
theorem lay_P (p : Nat × List Nat) : (dP p).canLay0 = true := by
  show ((dN p.1).canLay0 && ((dT p.2).canLay0 && true)) = true
  rw [lay_T]
  rfl
theorem dep_P (p : Nat × List Nat) : (dP p).depth ≤ 2 := by
  show max (dN p.1).depth (max (dT p.2).depth 0) + 1 ≤ 2
  have h1 : (dN p.1).depth = 0 := rfl
  have h2 := dep_T p.2
  omega
theorem shp {d : PyData} (h1 : d.canLay0 = true) (h2 : d.depth ≤ 64) : SeqAt.shaped d = true := by
  unfold SeqAt.shaped
  rw [h1, decide_eq_true h2]
  rfl
theorem shp_T (l : List Nat) : SeqAt.shaped (dT l) = true := shp (lay_T l) (Nat.le_trans (dep_T l) (by decide))
theorem shp_P (p : Nat × List Nat) : SeqAt.shaped (dP p) = true := shp (lay_P p) (Nat.le_trans (dep_P p) (by decide))
theorem shp_LN (l : List Nat) : SeqAt.shaped (.list (l.map dN)) = true := shp (lay_T l) (Nat.le_trans (dep_T l) (by decide))
theorem shp_LT (l : List (List Nat)) : SeqAt.shaped (.list (l.map dT)) = true := shp (lay_map lay_T l) (Nat.le_trans (Nat.succ_le_succ (dep_map dep_T l)) (by decide))
theorem shp_LP (l : List (Nat × List Nat)) : SeqAt.shaped (.list (l.map dP)) = true := shp (lay_map lay_P l) (Nat.le_trans (Nat.succ_le_succ (dep_map dep_P l)) (by decide))
section
variable {K : PySem.W.Frag} {H : Hp}
theorem dpN : ∀ l : List Nat, DpAll K H (l.map vN) (l.map dN)
  | [] => .nil
  | a :: l => .cons (.int _) (dpN l)
theorem dp_TN {a : Addr} {l : List Nat} (h : TN H a l) : Dp K H (.ref a) (dT l) := .tup (SqT.of h) (dpN l)
theorem dp_LN {a : Addr} {l : List Nat} (h : LN H a l) : Dp K H (.ref a) (.list (l.map dN)) := .lst (SqL.of h) (dpN l)
theorem dp_PR {a : Addr} {p : Nat × List Nat} (h : PR H a p) : Dp K H (.ref a) (dP p) := by
  obtain ⟨q, h1, h2⟩ := h
  exact .tup (SqT.of h1) (.cons (.int _) (.cons (dp_TN h2) .nil))
theorem dp_all {α : Type} {R : Addr → α → Prop} {f : α → PyData} (hf : ∀ a x, R a x → Dp K H (.ref a) (f x)) : ∀ {xs : List Addr} {l : List α}, Paired R xs l → DpAll K H (xs.map V.ref) (l.map f)
  | _, _, .nil => .nil
  | _, _, .cons h t => .cons (hf _ _ h) (dp_all hf t)
theorem dp_LP {a : Addr} {l : List (Nat × List Nat)} (h : LstOf PR H a l) : Dp K H (.ref a) (.list (l.map dP)) := by
  obtain ⟨xs, h1, h2⟩ := h
  exact .lst (SqL.of h1) (dp_all (fun _ _ e => dp_PR e) h2)
theorem dp_LT {a : Addr} {l : List (List Nat)} (h : LstOf TN H a l) : Dp K H (.ref a) (.list (l.map dT)) := by
  obtain ⟨xs, h1, h2⟩ := h
  exact .lst (SqL.of h1) (dp_all (fun _ _ e => dp_TN e) h2)
end
/-! ### sorted lists without duplicates -/
theorem uniq_lt : ∀ {l m : List Int}, l.Pairwise (· < ·) → m.Pairwise (· < ·) → (∀ k, k ∈ l ↔ k ∈ m) → l = m
  | [], [], _, _, _ => rfl
  | [], b :: m, _, _, h => by
    have := (h b).mpr List.mem_cons_self
    cases this
  | a :: l, [], _, _, h => by
    have := (h a).mp List.mem_cons_self
    cases this
  | a :: l, b :: m, hl, hm, h => by
    obtain ⟨hl1, hl2⟩ := List.pairwise_cons.mp hl
    obtain ⟨hm1, hm2⟩ := List.pairwise_cons.mp hm
    have e : a = b := by
      rcases List.mem_cons.mp ((h a).mp List.mem_cons_self) with q | q
      · exact q
      · rcases List.mem_cons.mp ((h b).mpr List.mem_cons_self) with r | r
        · exact r.symm
        · have := hm1 a q
          have := hl1 b r
          omega
    subst e
    rw [uniq_lt hl2 hm2 fun k => ⟨fun hk => ?_, fun hk => ?_⟩]
    · rcases List.mem_cons.mp ((h k).mp (List.mem_cons_of_mem _ hk)) with q | q
      · subst q
        exact absurd (hl1 k hk) (Int.lt_irrefl _)
      · exact q
    · rcases List.mem_cons.mp ((h k).mpr (List.mem_cons_of_mem _ hk)) with q | q
      · subst q
        exact absurd (hm1 k hk) (Int.lt_irrefl _)
      · exact q
/-- the variables of some atoms, ascending -/
def varsOf (ats : List (Nat × List Nat)) : List Nat := (List.range 6).filter fun v => decide (v ∈ ats.flatMap (·.2))
theorem mem_varsOf {ats : List (Nat × List Nat)} (h5 : ∀ p ∈ ats, ∀ u ∈ p.2, u ≤ 5) {v : Nat} : v ∈ varsOf ats ↔ v ∈ ats.flatMap (·.2) := by
  unfold varsOf
  rw [List.mem_filter, List.mem_range, decide_eq_true_eq]
  refine ⟨fun h => h.2, fun h => ⟨?_, h⟩⟩
  obtain ⟨p, hp, hv⟩ := List.mem_flatMap.mp h
  have := h5 p hp v hv
  omega
theorem varsOf_lt (ats : List (Nat × List Nat)) : (varsOf ats).Pairwise (· < ·) := List.pairwise_lt_range.filter _
theorem varsOf_nodup (ats : List (Nat × List Nat)) : (varsOf ats).Nodup := (varsOf_lt ats).imp fun h => Nat.ne_of_lt h
theorem varsOf_le (ats : List (Nat × List Nat)) : (varsOf ats).length ≤ 6 := Nat.le_trans (List.length_filter_le ..) (by rw [List.length_range]; exact Nat.le_refl _)
theorem varsOf_eq {ats : List (Nat × List Nat)} (h5 : ∀ p ∈ ats, ∀ u ∈ p.2, u ≤ 5) {ns : List Int} (h1 : ns.Pairwise (· < ·)) (h2 : ∀ k : Int, k ∈ ns ↔ k ∈ (ats.flatMap (·.2)).map fun (n : Nat) => (n : Int)) : ns = (varsOf ats).map fun (n : Nat) => (n : Int) := by
  refine uniq_lt h1 ?_ fun k => ?_
  · exact List.pairwise_map.mpr ((varsOf_lt ats).imp fun h => by omega)
  · rw [h2, List.mem_map, List.mem_map]
    exact ⟨fun ⟨v, hv, e⟩ => ⟨v, (mem_varsOf h5).mpr hv, e⟩, fun ⟨v, hv, e⟩ => ⟨v, (mem_varsOf h5).mp hv, e⟩⟩
end K16
set_option Elab.async false
set_option linter.all false
set_option maxRecDepth 100000
set_option maxHeartbeats 4000000
namespace K16
open PySem PySem.Spec PyProof.Rows L2
theorem rg_vN (n : Nat) : rgV 0 (n : Int) = (List.range n).map vN := by
  unfold rgV
  have : (((n : Nat) : Int) - 0).toNat = n := by omega
  rw [this]
  exact List.map_congr_left fun i _ => by show V.int (0 + (i : Int)) = _; rw [Int.zero_add]
section
variable {P : Program} {w : World} {K : PySem.W.Frag} {mg : Str → Option Value} {base : Heap} {CS CD CQ : Addr}
/-! ### is_atom -/
def spIsAtom (C : Addr) : Sp := fun vs H Q _ => ∃ (s a : Addr) (size : Nat) (widths : List Nat) (t : Nat) (us : List Nat), vs = [.ref s, .ref a] ∧ SchAt C H s size widths ∧ PR H a (t, us) ∧ widths[t]? = some us.length ∧ us.length ≤ 2 ∧ (∀ u ∈ us, u ≤ 5) ∧
  ∀ H', Same H H' → Q (.bl true) H'
theorem sc_is_atom : FnScope ["schema", "thing", "variable"] ["schema", "thing"] (defScope s_is_atom) := ⟨rfl, rfl, rfl, by decide +kernel, rfl, by decide +kernel, by decide +kernel⟩
theorem ok_is_atom (T : Tx K mg) (Z : Cs K mg CS CD CQ) (h : Has K mg "is_atom" s_is_atom) (c_is_number : Cal P w K mg base 1 "is_number" spIsNumber) : Cal P w K mg base 2 "is_atom" (spIsAtom CS) := by
  refine cal_of h sc_is_atom (fun _ _ _ _ _ _ us hl => match us, hl with | [_, _], _ => rfl) (fun vs H Q E h => ?_) (fun f cdv A outer s H vs Q E hr h => ?_)
  · obtain ⟨s, a, _, _, _, _, rfl, _⟩ := h
    rfl
  · obtain ⟨s, a, size, widths, t, us, rfl, hS, hP, hw, hlen, hu5, q⟩ := h
    obtain ⟨dx, qw, hs, hqw⟩ := hS
    obtain ⟨p, ha, hp⟩ := hP
    refine ⟨_, (pss_cons (ps_if (PW.pt (pw_or (pt_not (pt_val (pe_callB (kisi K) (by rfl) T.bIsinstance (by decide +kernel) (pa_cons (pv 1) (pa_cons (pe_bltn (v := .ty "tuple") (by rfl) T.bTuple (by decide +kernel) rfl) pa_nil))))) (pw_or (pt_cmpR op_ne (pe_callB (klen K) (by rfl) T.bLen (by decide +kernel) (pa_cons (pv 1) pa_nil)) pe_int (nomark _)) (pw_or1 (pt_not (pt_val (pc c_is_number hr (by decide) (by rfl) (pa_cons (pe_ix (kixT K) (pv 1) pe_int (fun _ _ => rfl)) (pa_cons pe_int (pa_cons (pe_op op_sub (pe_callB (klen K) (by rfl) T.bLen (by decide +kernel) (pa_cons (kfld K (pv 0) rfl) pa_nil)) pe_int) pa_nil)))))))))) (pss_one (ps_ret pe_bl)) pss_nil)
      (pss_cons (ps_if (PW.pt (pw_or (pt_not (pt_val (pe_callB (kisi K) (by rfl) T.bIsinstance (by decide +kernel) (pa_cons (pe_ix (kixT K) (pv 1) pe_int (fun _ _ => rfl)) (pa_cons (pe_bltn (v := .ty "tuple") (by rfl) T.bTuple (by decide +kernel) rfl) pa_nil))))) (pw_or1 (pt_cmpR op_ne (pe_callB (klen K) (by rfl) T.bLen (by decide +kernel) (pa_cons (pe_ix (kixT K) (pv 1) pe_int (fun _ _ => rfl)) pa_nil)) (pe_ix (kixT K) (kfld K (pv 0) rfl) (pe_ix (kixT K) (pv 1) pe_int (fun _ _ => rfl)) (fun _ _ => rfl)) (nomark _))))) (pss_one (ps_ret pe_bl)) pss_nil)
      (pss_one (ps_ret (pe_callB (kall K rfl) (by rfl) T.bAll (by decide +kernel) (pa_cons (pe_lc (own := [("variable", 2)]) (by rfl) sc_is_atom.nd (kpt K (pe_ix (kixT K) (pv 1) pe_int (fun _ _ => rfl))) (blkOk_by (own := [("variable", 2)]) (N := ["schema", "thing", "variable"]) (sc := defScope s_is_atom) (by decide +kernel)) (fun _ _ _ _ _ => (pg_name (i := 2) sc_is_atom.nd rfl (Or.inl rfl))) (fun _ _ _ _ _ => pts_nil) (fun _ _ _ _ _ => (pc c_is_number hr (by decide) (by rfl) (pa_cons (pv 2) (pa_cons pe_int (pa_cons (pgi T.iVariable (by rfl)) pa_nil)))))) pa_nil)))))), ?_⟩
    have hwl : t < widths.length := (List.getElem?_eq_some_iff.mp hw).1
    have a0 : atI [vN t, V.ref p] 0 = some (vN t) := atI_nat (j := 0) rfl
    have a1 : atI [vN t, V.ref p] 1 = some (V.ref p) := atI_nat (j := 1) rfl
    -- isinstance(thing, tuple), len, is_number(thing[0], ..)
    refine ⟨_, rfl, _, _, .type "tuple", .type "tuple", true, rfl, .ty _, .base (.tup ha), kit_ty (by decide +kernel), true, rfl, iteF ?_⟩
    refine ⟨_, rfl, a, _, rfl, .inr (SqT.of ha), rfl, _, rfl, iteF ?_⟩
    refine ⟨_, rfl, a, _, 0, _, rfl, rfl, SqT.of ha, a0, _, rfl, s, CS, dx, _, _, rfl, hs, Z.clS, Z.nSw, rfl, qw, _, rfl, .inr (SqT.of hqw), _, _, rfl, rfl, (t : Int), 0, _, rfl, by omega, ?_, true, rfl, iteF ?_⟩
    · simp only [List.length_map]
      omega
    -- isinstance(thing[1], tuple), len(thing[1]) != schema.widths[thing[0]]
    refine ⟨_, rfl, a, _, 1, _, rfl, rfl, SqT.of ha, a1, _, _, .type "tuple", .type "tuple", true, rfl, .ty _, .base (.tup hp), kit_ty (by decide +kernel), true, rfl, iteF ?_⟩
    refine ⟨_, rfl, a, _, 1, _, rfl, rfl, SqT.of ha, a1, p, _, rfl, .inr (SqT.of hp), _, rfl, s, CS, dx, _, _, rfl, hs, Z.clS, Z.nSw, rfl, _, rfl, a, _, 0, _, rfl, rfl, SqT.of ha, a0, qw, _, (t : Int), vN us.length, rfl, rfl, SqT.of hqw, atI_nat (by rw [List.getElem?_map, hw]; rfl), rfl, _, rfl, ?_⟩
    refine iteNS (by rw [List.length_map]) ?_
    -- all([is_number(variable, 0, 5) for variable in thing[1]])
    refine ⟨_, rfl, a, _, 1, _, rfl, rfl, SqT.of ha, a1, p, rfl, ⟨_, SqT.of hp⟩, fun D hD => it_core walk_tup (LcI D fun i acc H1 => acc = List.replicate i (.bl true) ∧ Same H H1) ⟨[], upd_same, Nat.le_refl _, rfl, Same.nw hD⟩ (fun i H1 _ ⟨acc, _, _, _, e⟩ => e.tp (SqT.of hp)) ?_ ?_⟩
    · rintro i x H1 H2 hi ⟨acc, h1, h2, h3, h4⟩ ⟨rfl, hx⟩
      rw [List.length_map] at hi
      obtain rfl := at_map hi hx
      refine ⟨rfl, lc_yes ?_⟩
      refine ⟨_, rfl, (us[i] : Int), 0, 5, rfl, by omega, ?_, ?_⟩
      · have := hu5 us[i] (List.getElem_mem hi)
        omega
      · exact lc_end h1 h2 hi (Nat.le_trans hlen (by decide)) ⟨by rw [h3, List.replicate_succ'], h4.mt hD⟩
    · rintro H1 ⟨acc, h1, h2, h3, h4⟩
      refine ⟨D, List.replicate us.length true, rfl, .inl (.inl ?_), ?_⟩
      · rw [h1, h3, List.length_map, List.map_replicate]
      · have : (List.replicate us.length true).all id = true := by simp
        rw [this]
        exact q H1 h4
/-! ### variables_in -/
theorem seq_in {tl : TE} {σ : L2.St} {R : It → Hp → Prop} {H : Hp} {ys : List V} (a : Addr) (ht : ∀ Q : VK, Q (.ref a) H → tl σ H Q) (h : SqL K H a ys ∨ SqT K H a ys) (f : ∀ J, (∃ G : Hp → Prop, Walk J ys.length G (YAt ys) ∧ ∀ H2, Same H H2 → G H2) → R J H) :
    iList K tl σ H R ∨ iTup K tl σ H R := by
  rcases h with h | h
  · exact .inl (ht _ ⟨a, rfl, ⟨_, h⟩, f _ ⟨_, walk_list, fun H2 e => e.seq h⟩⟩)
  · exact .inr (ht _ ⟨a, rfl, ⟨_, h⟩, f _ ⟨_, walk_tup, fun H2 e => e.tp h⟩⟩)
def AtsOk (ats : List (Nat × List Nat)) : Prop := ats.length ≤ 4 ∧ ∀ p ∈ ats, p.2.length ≤ 2 ∧ ∀ u ∈ p.2, u ≤ 5
theorem fm_len {α : Type} {f : α → List Nat} {k : Nat} : ∀ {l : List α}, (∀ a ∈ l, (f a).length ≤ k) → (l.flatMap f).length ≤ l.length * k
  | [], _ => by simp
  | a :: r, h => by
    rw [List.flatMap_cons, List.length_append, List.length_cons, Nat.add_mul]
    have := fm_len (l := r) fun b hb => h b (List.mem_cons_of_mem _ hb)
    have := h a List.mem_cons_self
    omega
def spVarsIn : Sp := fun vs H Q _ => ∃ (a : Addr) (ats : List (Nat × List Nat)), vs = [.ref a] ∧ (LstOf PR H a ats ∨ TupOf PR H a ats) ∧ AtsOk ats ∧ ∀ H' p, Same H H' → H p = none → LN H' p (varsOf ats) → Q (.ref p) H'
theorem sc_variables_in : FnScope ["atoms", "table", "variables", "variable"] ["atoms"] (defScope s_variables_in) := ⟨rfl, rfl, rfl, by decide +kernel, rfl, by decide +kernel, by decide +kernel⟩
theorem ok_variables_in (T : Tx K mg) (h : Has K mg "variables_in" s_variables_in) : Cal P w K mg base 1 "variables_in" spVarsIn := by
  refine cal_of h sc_variables_in (fun _ _ _ _ _ _ us hl => match us, hl with | [_], _ => rfl) (fun vs H Q E h => ?_) (fun f cdv A outer s H vs Q E hr h => ?_)
  · obtain ⟨_, _, rfl, _⟩ := h
    rfl
  · obtain ⟨a, ats, rfl, hA, ⟨l4, hok⟩, k⟩ := h
    refine ⟨_, (pss_one (ps_ret (pe_callB (cr_sortedSet rfl) (by rfl) T.bSorted (by decide +kernel) (pa_cons (pe_callTy (ksetL K rfl) (by rfl) T.bSet (by decide +kernel) (pa_cons (pe_lc2 (own := [("table", 1), ("variables", 2), ("variable", 3)]) (vs1 := [3]) (by rfl) sc_variables_in.nd (kps K (pv 0)) (blkOk_by (own := [("table", 1), ("variables", 2), ("variable", 3)]) (N := ["atoms", "table", "variables", "variable"]) (sc := defScope s_variables_in) (by decide +kernel)) (by decide) (fun _ _ _ _ _ => (kgtup K (n := 2) rfl (pgs_cons (pg_name (i := 1) sc_variables_in.nd rfl (Or.inl rfl)) (pgs_cons (pg_name (i := 2) sc_variables_in.nd rfl (Or.inl rfl)) pgs_nil)))) (fun _ _ _ _ _ => pts_nil) (fun _ _ _ _ _ => (kpt K (pv 2))) (fun _ _ _ _ _ => (pg_name (i := 3) sc_variables_in.nd rfl (Or.inl rfl))) (fun _ _ _ _ _ => pts_nil) (fun _ _ _ _ _ => (pv 3))) pa_nil)) pa_nil)))), ?_⟩
    have fin : ∀ (D : Addr) (H4 : Hp), H D = none → H4 D = some (.lst ((ats.flatMap (·.2)).map vN)) → Same H H4 →
        ∃ (l : Addr) (ns : List Int), [V.ref D] = [V.ref l] ∧ SqL K H4 l (ns.map V.int) ∧ ns.length ≤ 1000 ∧
          ∀ (a : Addr) (S : Int → Bool) (n : Nat), H4 a = none → (∀ k, S k = true ↔ k ∈ ns) → n ≤ ns.length →
            ∃ (a2 : Addr) (S2 : Int → Bool) (n2 : Nat), [V.ref a] = [V.ref a2] ∧ (upd H4 a (SetO w a S n)) a2 = some (SetO w a2 S2 n2) ∧ n2 < 64 ∧
              ∀ (ns : List Int) (p : Addr), ns.Pairwise (· < ·) → (∀ k : Int, k ∈ ns ↔ S2 k = true) → ns.length = n2 → (upd H4 a (SetO w a S n)) p = none → Q (.ref p) (upd (upd H4 a (SetO w a S n)) p (.lst (ns.map V.int))) := by
      intro D H4 hD e1 s4
      have hl8 : (ats.flatMap (·.2)).length ≤ 8 := Nat.le_trans (fm_len fun p hp => (hok p hp).1) (by omega)
      refine ⟨D, (ats.flatMap (·.2)).map fun (n : Nat) => (n : Int), rfl, SqL.of (by rw [e1, vN_map]), by rw [List.length_map]; omega, fun b S n nb hS hn => ?_⟩
      rw [List.length_map] at hn
      refine ⟨b, S, n, rfl, upd_same, by omega, fun ns p p1 p2 p3 np => ?_⟩
      have ens := varsOf_eq (fun p hp => (hok p hp).2) p1 fun k => (p2 k).trans (hS k)
      have s5 : Same H (upd H4 b (SetO w b S n)) := s4.trans (Same.nw nb)
      refine k _ p (s5.trans (Same.nw np)) (s5.free np) ?_
      show _ = some _
      rw [upd_same, ens, vN_map]
    have hseq : ∃ xs : List Addr, (SqL K H a (xs.map V.ref) ∨ SqT K H a (xs.map V.ref)) ∧ Paired (PR H) xs ats := by
      rcases hA with ⟨xs, h1, h2⟩ | ⟨xs, h1, h2⟩
      · exact ⟨xs, .inl (SqL.of h1), h2⟩
      · exact ⟨xs, .inr (SqT.of h1), h2⟩
    obtain ⟨xs, hsq, hx⟩ := hseq
    have hxl := plen hx
    refine seq_in (ys := xs.map V.ref) a (fun Q q => ⟨_, rfl, q⟩) hsq fun J ⟨G, wk, hG⟩ => fun D hD => it_core wk (fun i H2 => H2 D = some (.lst (((ats.take i).flatMap (·.2)).map vN)) ∧ Same H H2) ⟨upd_same, Same.nw hD⟩ (fun i H1 _ p => hG H1 p.2) ?_ ?_
    · rintro i x H2 H3 hi ⟨h1, h2⟩ ⟨rfl, hxx⟩
      rw [List.length_map] at hi
      obtain rfl := at_map hi hxx
      have hi2 : i < ats.length := by omega
      obtain ⟨q, p1, p2⟩ := pget hx (List.getElem?_eq_getElem hi) (List.getElem?_eq_getElem hi2)
      have hl2 := (hok _ (List.getElem_mem hi2)).1
      have h8 : ((ats.take i).flatMap (·.2)).length ≤ 6 := by
        refine Nat.le_trans (fm_len (k := 2) fun p hp => (hok p (List.mem_of_mem_take hp)).1) ?_
        rw [List.length_take]
        omega
      refine ⟨xs[i], _, rfl, SqT.of (h2 _ _ p1), rfl, _, _, rfl, _, _, rfl, rfl, rfl, lc_yes ?_⟩
      have p3 := h2 _ _ p2
      refine ⟨_, rfl, q, rfl, ⟨_, SqT.of p3⟩, it_core walk_tup (fun j H4 => H4 D = some (.lst ((((ats.take i).flatMap (·.2)) ++ ats[i].2.take j).map vN)) ∧ Same H H4) ⟨by rw [List.take_zero, List.append_nil]; exact h1, h2⟩ (fun j H4 _ p => p.2.tp (SqT.of p2)) ?_ ?_⟩
      · rintro j y H4 H5 hj ⟨g1, g2⟩ ⟨rfl, hy⟩
        rw [List.length_map] at hj
        obtain rfl := at_map hj hy
        refine ⟨rfl, lc_yes ?_⟩
        refine ⟨_, rfl, _, g1, szs ?_, ?_, g2.mt hD⟩
        · rw [List.length_map, List.length_append, List.length_take]
          omega
        · rw [upd_same, take_s hj, ← List.append_assoc]
          simp only [List.map_append, List.map_cons, List.map_nil]
      · rintro H4 ⟨g1, g2⟩
        rw [List.length_map, List.take_length] at g1
        refine ⟨?_, g2⟩
        rw [g1, take_s hi2, List.flatMap_append]
        simp
    · rintro H4 ⟨h1, h2⟩
      rw [List.length_map, hxl, List.take_length] at h1
      exact fin D H4 hD h1 h2
end
end K16
set_option Elab.async false
set_option linter.all false
set_option maxRecDepth 100000
set_option maxHeartbeats 4000000
namespace K16
open PySem PySem.Spec PyProof.Rows L2
section
variable {P : Program} {w : World} {K : PySem.W.Frag} {mg : Str → Option Value} {base : Heap} {CS CD CQ : Addr}
/-! ### ascends -/
def spAscends : Sp := fun vs H Q _ => ∃ (a : Addr) (l : List Nat), vs = [.ref a] ∧ (LN H a l ∨ TN H a l) ∧ l.Pairwise (· < ·) ∧ l.length ≤ 1000 ∧ ∀ H', Same H H' → Q (.bl true) H'
theorem cut1 (xs : List V) : cutV xs (some 1) none = xs.drop 1 := by
  unfold cutV
  have e : HT.sIx xs.length 0 (some ((1 : Nat) : Int)) = min 1 xs.length := HT.sIx_nat ..
  have e2 : HT.sIx xs.length 0 (some 1) = min 1 xs.length := e
  rw [e2, HT.sIx_none]
  cases xs with
  | nil => rfl
  | cons x r =>
    have : min 1 (x :: r).length = 1 := by simp
    rw [this]
    exact List.take_of_length_le (by simp)
theorem zip_sl {K : PySem.W.Frag} {ta : TA} {σ : L2.St} {R : It → Hp → Prop} {H : Hp} {xs : List V} {a : Addr} (ht : ∀ Q : List V → Hp → Prop, (rSlL K (.ref a) (some 1) none H (fun v H1 => Q [.ref a, v] H1) ∨ rSlA K (.ref a) (some 1) none H (fun v H1 => Q [.ref a, v] H1)) → ta σ H Q)
    (h : SqL K H a xs ∨ SqT K H a xs) (f : ∀ J H1, Same H H1 → (∃ G : Hp → Prop, Walk J (min xs.length (xs.drop 1).length) G (YPair (fun i => xs[i]?) (fun i => (xs.drop 1)[i]?)) ∧ ∀ H2, Same H1 H2 → G H2) → R J H1) : RZ.iZipA K ta σ H R := by
  refine ht _ ?_
  rcases h with h | h
  · refine .inl ⟨a, xs, rfl, h, fun p np => ?_⟩
    have s1 : Same H (upd H p (.lst (cutV xs (some 1) none))) := Same.nw np
    refine ⟨a, p, xs, xs.drop 1, rfl, .inl ⟨s1.seq h, SqL.of (by rw [upd_same, cut1]), ?_⟩⟩
    exact f _ _ s1 ⟨_, walk_zip rfl, fun H2 e => ⟨(s1.trans e).seq h, e.seq (SqL.of (by rw [upd_same, cut1]))⟩⟩
  · refine .inr ⟨a, xs, rfl, h, fun hw => ?_, fun _ p np => ?_⟩
    · have hx : xs = xs.drop 1 := by
        have e : HT.sIx xs.length 0 (some 1) = min 1 xs.length := HT.sIx_nat ..
        rw [e] at hw
        cases xs with
        | nil => rfl
        | cons x r => simp at hw
      refine ⟨a, a, xs, xs.drop 1, rfl, .inr ⟨h, by rw [← hx]; exact h, ?_⟩⟩
      exact f _ _ (Same.refl _) ⟨_, walk_zipT rfl, fun H2 e => ⟨e.tp h, by rw [← hx]; exact e.tp h⟩⟩
    · have s1 : Same H (upd H p (.tup (cutV xs (some 1) none))) := Same.nw np
      refine ⟨a, p, xs, xs.drop 1, rfl, .inr ⟨s1.tp h, SqT.of (by rw [upd_same, cut1]), ?_⟩⟩
      exact f _ _ s1 ⟨_, walk_zipT rfl, fun H2 e => ⟨(s1.trans e).tp h, e.tp (SqT.of (by rw [upd_same, cut1]))⟩⟩
theorem sc_ascends : FnScope ["row", "one", "other"] ["row"] (defScope s_ascends) := ⟨rfl, rfl, rfl, by decide +kernel, rfl, by decide +kernel, by decide +kernel⟩
theorem ok_ascends (T : Tx K mg) (h : Has K mg "ascends" s_ascends) : Cal P w K mg base 1 "ascends" spAscends := by
  refine cal_of h sc_ascends (fun _ _ _ _ _ _ us hl => match us, hl with | [_], _ => rfl) (fun vs H Q E h => ?_) (fun f cdv A outer s H vs Q E hr h => ?_)
  · obtain ⟨_, _, rfl, _⟩ := h
    rfl
  · obtain ⟨a, l, rfl, hA, hl, h9, k⟩ := h
    refine ⟨_, (pss_one (ps_ret (pe_callB (kall K rfl) (by rfl) T.bAll (by decide +kernel) (pa_cons (pe_lc (own := [("one", 1), ("other", 2)]) (by rfl) sc_ascends.nd (kzipA K (by rfl) T.bZip (pa_cons (pv 0) (pa_cons (pe_slice (kslA K) (pv 0) (po_some pe_int) po_none) pa_nil))) (blkOk_by (own := [("one", 1), ("other", 2)]) (N := ["row", "one", "other"]) (sc := defScope s_ascends) (by decide +kernel)) (fun _ _ _ _ _ => (kgtup K (n := 2) rfl (pgs_cons (pg_name (i := 1) sc_ascends.nd rfl (Or.inl rfl)) (pgs_cons (pg_name (i := 2) sc_ascends.nd rfl (Or.inl rfl)) pgs_nil)))) (fun _ _ _ _ _ => pts_nil) (fun _ _ _ _ _ => (pe_cmpR op_lt (pv 1) (pv 2) (nomark _)))) pa_nil)))), ?_⟩
    have hsq : SqL K H a (l.map vN) ∨ SqT K H a (l.map vN) := hA.imp (fun e => SqL.of e) (fun e => SqT.of e)
    unfold tRet tCB tCons tLc
    refine zip_sl (K := K) (H := H) (xs := l.map vN) (a := a) ?_ hsq ?_
    · intro Q q
      exact ⟨_, rfl, _, rfl, 1, rfl, q⟩
    rintro J H1 s1 ⟨G, wk, hG⟩ D hD
    have e1 : (l.map vN).length = l.length := List.length_map ..
    have e2 : min (l.map vN).length ((l.map vN).drop 1).length = l.length - 1 := by
      rw [List.length_drop, e1]
      omega
    rw [e2] at wk
    refine it_core wk (LcI D fun i acc H2 => acc = List.replicate i (.bl true) ∧ Same H1 H2) ⟨[], upd_same, Nat.le_refl _, rfl, Same.nw hD⟩ (fun i H2 _ ⟨acc, _, _, _, e⟩ => hG _ e) ?_ ?_
    · rintro i x H2 H3 hi ⟨acc, h1, h2, h3, h4⟩ ⟨tp, x1, x2, rfl, ntp, rfl, g1, g2⟩
      have hi1 : i < l.length := by omega
      have hi2 : 1 + i < l.length := by omega
      obtain rfl := at_map hi1 g1
      have g3 : (l.map vN)[1 + i]? = some x2 := by rw [← g2]; exact List.getElem?_drop.symm
      obtain rfl := at_map hi2 g3
      refine ⟨tp, _, rfl, SqT.of upd_same, rfl, _, _, rfl, _, _, rfl, rfl, rfl, lc_yes ?_⟩
      have nD : D ≠ tp := ne_of_none h1 ntp
      refine ⟨_, rfl, _, rfl, (l[i] : Int), (l[1 + i] : Int), rfl, rfl, ?_⟩
      have lt : l[i] < l[1 + i] := List.pairwise_iff_getElem.mp hl i (1 + i) hi1 hi2 (by omega)
      have h1' : (upd H2 tp (.tup [vN l[i], vN l[1 + i]])) D = some (.lst acc) := by rw [upd_ne nD]; exact h1
      exact lc_end h1' h2 hi (by omega) ⟨by rw [h3, List.replicate_succ']; show _ ++ [V.bl (decide (((l[i] : Nat) : Int) < ((l[1 + i] : Nat) : Int)))] = _; rw [decide_eq_true (show ((l[i] : Nat) : Int) < ((l[1 + i] : Nat) : Int) by omega)], (h4.trans (Same.nw ntp)).mt hD⟩
    · rintro H2 ⟨acc, h1, h2, h3, h4⟩
      refine ⟨D, List.replicate (l.length - 1) true, rfl, .inl (.inl ?_), ?_⟩
      · rw [h1, h3, List.map_replicate]
      · have : (List.replicate (l.length - 1) true).all id = true := by simp
        rw [this]
        exact k H2 (s1.trans h4)
/-! ### are_atoms -/
def AtomsOk (widths : List Nat) (ats : List (Nat × List Nat)) : Prop := 1 ≤ ats.length ∧ ats.length ≤ 4 ∧ ats.Nodup ∧ (∀ p ∈ ats, widths[p.1]? = some p.2.length ∧ p.2.length ≤ 2 ∧ ∀ u ∈ p.2, u ≤ 5) ∧ varsOf ats = List.range (varsOf ats).length
theorem AtomsOk.ats {widths : List Nat} {ats : List (Nat × List Nat)} (h : AtomsOk widths ats) : AtsOk ats := ⟨h.2.1, fun p hp => ⟨(h.2.2.2.1 p hp).2.1, (h.2.2.2.1 p hp).2.2⟩⟩
def spAreAtoms (CS : Addr) : Sp := fun vs H Q _ => ∃ (s a : Addr) (size : Nat) (widths : List Nat) (ats : List (Nat × List Nat)), vs = [.ref s, .ref a] ∧ SchAt CS H s size widths ∧ TupOf PR H a ats ∧ AtomsOk widths ats ∧ ∀ H', Same H H' → Q (.bl true) H'
theorem sc_are_atoms : FnScope ["schema", "thing", "some", "atom"] ["schema", "thing"] (defScope s_are_atoms) := ⟨rfl, rfl, rfl, by decide +kernel, rfl, by decide +kernel, by decide +kernel⟩
theorem ok_are_atoms (T : Tx K mg) (Z : Cs K mg CS CD CQ) (h : Has K mg "are_atoms" s_are_atoms) (c_is_atom : Cal P w K mg base 2 "is_atom" (spIsAtom CS)) (c_variables_in : Cal P w K mg base 1 "variables_in" spVarsIn) : Cal P w K mg base 3 "are_atoms" (spAreAtoms CS) := by
  refine cal_of h sc_are_atoms (fun _ _ _ _ _ _ us hl => match us, hl with | [_, _], _ => rfl) (fun vs H Q E h => ?_) (fun f cdv A outer s H vs Q E hr h => ?_)
  · obtain ⟨_, _, _, _, _, rfl, _⟩ := h
    rfl
  · obtain ⟨s, a, size, widths, ats, rfl, hS, hA, hok, k⟩ := h
    obtain ⟨l1, l4, nd, hp, hr2⟩ := id hok
    obtain ⟨xs, ha, hx⟩ := id hA
    have hxl := plen hx
    refine ⟨_, (pss_cons (ps_if (PW.pt (pw_or (pt_not (pt_val (pe_callB (kisi K) (by rfl) T.bIsinstance (by decide +kernel) (pa_cons (pv 1) (pa_cons (pe_bltn (v := .ty "tuple") (by rfl) T.bTuple (by decide +kernel) rfl) pa_nil))))) (pw_or1 (pt_not (pt_chain op_le op_le pe_int (pe_callB (klen K) (by rfl) T.bLen (by decide +kernel) (pa_cons (pv 1) pa_nil)) (pgi T.iAtoms (by rfl))))))) (pss_one (ps_ret pe_bl)) pss_nil)
      (pss_cons (ps_if (PW.pt (pw_or (pt_not (pt_val (pe_callB (kall K rfl) (by rfl) T.bAll (by decide +kernel) (pa_cons (pe_lc (own := [("atom", 3)]) (by rfl) sc_are_atoms.nd (kpt K (pv 1)) (blkOk_by (own := [("atom", 3)]) (N := ["schema", "thing", "some", "atom"]) (sc := defScope s_are_atoms) (by decide +kernel)) (fun _ _ _ _ _ => (pg_name (i := 3) sc_are_atoms.nd rfl (Or.inl rfl))) (fun _ _ _ _ _ => pts_nil) (fun _ _ _ _ _ => (pc c_is_atom hr (by decide) (by rfl) (pa_cons (pv 0) (pa_cons (pv 3) pa_nil))))) pa_nil)))) (pw_or1 (pt_cmpR op_ne (pe_lenSetN hr.units (by rfl) T.bLen (by rfl) T.bSet (pv 1)) (pe_callB (klen K) (by rfl) T.bLen (by decide +kernel) (pa_cons (pv 1) pa_nil)) (nomark _))))) (pss_one (ps_ret pe_bl)) pss_nil)
      (pss_cons (ps_set (i := 2) sc_are_atoms.nd rfl (Or.inl rfl) (pc c_variables_in hr (by decide) (by rfl) (pa_cons (pv 1) pa_nil)))
      (pss_one (ps_ret (pe_cmpR (keqD K hr.units) (pv 2) (pe_listRg rfl (by rfl) T.bList (prg_1 (by rfl) T.bRange (pe_callB (klen K) (by rfl) T.bLen (by decide +kernel) (pa_cons (pv 2) pa_nil)))) (nomark _))))))), ?_⟩
    refine ⟨_, rfl, _, _, .type "tuple", .type "tuple", true, rfl, .ty _, .base (.tup ha), kit_ty (by decide +kernel), true, rfl, iteF ?_⟩
    refine ⟨_, rfl, a, _, rfl, .inr (SqT.of ha), _, _, rfl, rfl, _, rfl, ?_⟩
    rw [List.length_map]
    refine (if_pos (decide_eq_true (by omega))).mpr ?_
    refine ⟨_, _, rfl, rfl, _, rfl, ?_⟩
    rw [decide_eq_true (show ((xs.length : Nat) : Int) ≤ 4 by omega)]
    refine iteF ?_
    refine ⟨_, rfl, a, rfl, ⟨_, SqT.of ha⟩, fun D hD => it_core walk_tup (LcI D fun i acc H1 => acc = List.replicate i (.bl true) ∧ Same H H1) ⟨[], upd_same, Nat.le_refl _, rfl, Same.nw hD⟩ (fun i H1 _ ⟨acc, _, _, _, e⟩ => e.tp (SqT.of ha)) ?_ ?_⟩
    · rintro i x H1 H2 hi ⟨acc, h1, h2, h3, h4⟩ ⟨rfl, hxx⟩
      rw [List.length_map] at hi
      obtain rfl := at_map hi hxx
      have hi2 : i < ats.length := by omega
      obtain ⟨g1, g2, g3⟩ := hp _ (List.getElem_mem hi2)
      refine ⟨rfl, lc_yes ?_⟩
      refine ⟨_, rfl, _, rfl, s, xs[i], size, widths, ats[i].1, ats[i].2, rfl, hS.sd h4.sd, (pget hx (List.getElem?_eq_getElem hi) (List.getElem?_eq_getElem hi2)).ts h4.ts, g1, g2, g3, fun H3 s3 => ?_⟩
      have h1' := s3 _ _ h1
      exact lc_end h1' h2 hi (by omega) ⟨by rw [h3, List.replicate_succ'], (h4.trans s3).mt hD⟩
    · rintro H1 ⟨acc, h1, h2, h3, h4⟩
      refine ⟨D, List.replicate xs.length true, rfl, .inl (.inl ?_), true, by simp, iteF ?_⟩
      · rw [h1, h3, List.length_map, List.map_replicate]
      have ha1 := h4 _ _ ha
      have hA1 : TupOf PR H1 a ats := hA.ts h4.ts fun _ _ q => q.ts h4.ts
      refine ⟨_, rfl, a, ats, rfl, hA1, nd, l4, _, rfl, a, _, rfl, .inr (SqT.of ha1), rfl, _, rfl, iteNS (by rw [List.length_map, hxl]) ?_⟩
      -- some = variables_in(thing)
      refine ⟨_, rfl, a, ats, rfl, .inr hA1, hok.ats, fun H2 v s2 nv hv => ?_⟩
      refine ⟨_, rfl, _, rfl, v, _, rfl, .inl (SqL.of hv), _, rfl, ?_⟩
      rw [List.length_map]
      refine ⟨.of_le (by omega) ?_ (by omega) (by omega), fun q nq => ?_⟩
      · have := varsOf_le ats
        omega
      · have s3 : Same H2 (upd H2 q (.lst (rgV 0 ((varsOf ats).length : Nat)))) := Same.nw nq
        have hq : LN (upd H2 q (.lst (rgV 0 ((varsOf ats).length : Nat)))) q (varsOf ats) := by
          show _ = some _
          rw [upd_same, rg_vN, ← hr2]
        refine ⟨_, _, dp_LN (hv.sd s3.sd), dp_LN hq, shp_LN _, shp_LN _, ?_⟩
        have e : PyData.eqv (.list ((varsOf ats).map dN)) (.list ((varsOf ats).map dN)) = true := by
          show PyData.eqvAll _ _ = true
          rw [eqvAll_map eqv_N]
          simp
        rw [e]
        exact k _ ((h4.trans s2).trans s3)
end
end K16
set_option Elab.async false
set_option linter.all false
set_option maxRecDepth 100000
set_option maxHeartbeats 4000000
namespace K16
open PySem PySem.Spec PyProof.Rows L2
section
variable {P : Program} {w : World} {K : PySem.W.Frag} {mg : Str → Option Value} {base : Heap} {CS CD CQ : Addr}
/-! ### are_filters -/
def FiltOk (size many : Nat) (fl : List (Nat × List Nat)) : Prop := (fl.map (·.1)).Pairwise (· < ·) ∧ fl.length ≤ 6 ∧ ∀ p ∈ fl, p.1 < many ∧ p.2.Pairwise (· < ·) ∧ p.2.length ≤ 6 ∧ ∀ v ∈ p.2, v < size
def spAreFilters (CS : Addr) : Sp := fun vs H Q _ => ∃ (s a : Addr) (size many : Nat) (widths : List Nat) (fl : List (Nat × List Nat)), vs = [.ref s, vN many, .ref a] ∧ SchAt CS H s size widths ∧ TupOf PR H a fl ∧ FiltOk size many fl ∧ ∀ H', Same H H' → Q (.bl true) H'
theorem sc_are_filters : FnScope ["schema", "many", "thing", "pair", "value"] ["schema", "many", "thing"] (defScope s_are_filters) := ⟨rfl, rfl, rfl, by decide +kernel, rfl, by decide +kernel, by decide +kernel⟩
theorem ok_are_filters (T : Tx K mg) (Z : Cs K mg CS CD CQ) (h : Has K mg "are_filters" s_are_filters) (c_is_number : Cal P w K mg base 1 "is_number" spIsNumber) (c_ascends : Cal P w K mg base 1 "ascends" spAscends) : Cal P w K mg base 2 "are_filters" (spAreFilters CS) := by
  refine cal_of h sc_are_filters (fun _ _ _ _ _ _ us hl => match us, hl with | [_, _, _], _ => rfl) (fun vs H Q E h => ?_) (fun f cdv A outer s H vs Q E hr h => ?_)
  · obtain ⟨_, _, _, _, _, _, rfl, _⟩ := h
    rfl
  · obtain ⟨s, a, size, many, widths, fl, rfl, hS, hA, ⟨hlt, hl6, hp⟩, k⟩ := h
    obtain ⟨xs, ha, hx⟩ := id hA
    obtain ⟨dx, qw, hs, hqw⟩ := id hS
    have hxl := plen hx
    refine ⟨_, (pss_cons (ps_if (pt_not (pt_val (pe_callB (kisi K) (by rfl) T.bIsinstance (by decide +kernel) (pa_cons (pv 2) (pa_cons (pe_bltn (v := .ty "tuple") (by rfl) T.bTuple (by decide +kernel) rfl) pa_nil))))) (pss_one (ps_ret pe_bl)) pss_nil)
      (pss_cons (ps_for PassesOwn.never rfl (kpt K (pv 2)) (pg_name (i := 3) sc_are_filters.nd rfl (Or.inl rfl)) (pss_cons (ps_if (PW.pt (pw_or (pt_not (pt_val (pe_callB (kisi K) (by rfl) T.bIsinstance (by decide +kernel) (pa_cons (pv 3) (pa_cons (pe_bltn (v := .ty "tuple") (by rfl) T.bTuple (by decide +kernel) rfl) pa_nil))))) (pw_or (pt_cmpR op_ne (pe_callB (klen K) (by rfl) T.bLen (by decide +kernel) (pa_cons (pv 3) pa_nil)) pe_int (nomark _)) (pw_or1 (pt_not (pt_val (pc c_is_number hr (by decide) (by rfl) (pa_cons (pe_ix (kixT K) (pv 3) pe_int (fun _ _ => rfl)) (pa_cons pe_int (pa_cons (pe_op op_sub (pv 1) pe_int) pa_nil)))))))))) (pss_one (ps_ret pe_bl)) pss_nil)
      (pss_cons (ps_if (PW.pt (pw_or (pt_not (pt_val (pe_callB (kisi K) (by rfl) T.bIsinstance (by decide +kernel) (pa_cons (pe_ix (kixT K) (pv 3) pe_int (fun _ _ => rfl)) (pa_cons (pe_bltn (v := .ty "tuple") (by rfl) T.bTuple (by decide +kernel) rfl) pa_nil))))) (pw_or1 (pt_not (pt_val (pe_callB (kall K rfl) (by rfl) T.bAll (by decide +kernel) (pa_cons (pe_lc (own := [("value", 4)]) (by rfl) sc_are_filters.nd (kpt K (pe_ix (kixT K) (pv 3) pe_int (fun _ _ => rfl))) (blkOk_by (own := [("value", 4)]) (N := ["schema", "many", "thing", "pair", "value"]) (sc := defScope s_are_filters) (by decide +kernel)) (fun _ _ _ _ _ => (pg_name (i := 4) sc_are_filters.nd rfl (Or.inl rfl))) (fun _ _ _ _ _ => pts_nil) (fun _ _ _ _ _ => (pc c_is_number hr (by decide) (by rfl) (pa_cons (pv 4) (pa_cons pe_int (pa_cons (pe_op op_sub (kfld K (pv 0) rfl) pe_int) pa_nil)))))) pa_nil))))))) (pss_one (ps_ret pe_bl)) pss_nil)
      (pss_one (ps_if (pt_not (pt_val (pc c_ascends hr (by decide) (by rfl) (pa_cons (pe_ix (kixT K) (pv 3) pe_int (fun _ _ => rfl)) pa_nil)))) (pss_one (ps_ret pe_bl)) pss_nil)))))
      (pss_one (ps_ret (pc c_ascends hr (by decide) (by rfl) (pa_cons (pe_lc (own := [("pair", 3)]) (by rfl) sc_are_filters.nd (kpt K (pv 2)) (blkOk_by (own := [("pair", 3)]) (N := ["schema", "many", "thing", "pair", "value"]) (sc := defScope s_are_filters) (by decide +kernel)) (fun _ _ _ _ _ => (pg_name (i := 3) sc_are_filters.nd rfl (Or.inl rfl))) (fun _ _ _ _ _ => pts_nil) (fun _ _ _ _ _ => (pe_ix (kixT K) (pv 3) pe_int (fun _ _ => rfl)))) pa_nil)))))), ?_⟩
    refine ⟨_, rfl, _, _, .type "tuple", .type "tuple", true, rfl, .ty _, .base (.tup ha), kit_ty (by decide +kernel), true, rfl, iteF ?_⟩
    refine ⟨_, rfl, a, rfl, ⟨_, SqT.of ha⟩, for_it walk_tup (fun i σ H2 => ∃ c, σ = [some (.ref s), some (vN many), some (.ref a), c, none] ∧ Same H H2) ⟨none, rfl, Same.refl _⟩ (fun i σ H2 _ ⟨_, _, e⟩ => e.tp (SqT.of ha)) ?_ ?_⟩
    · rintro i x σ H2 H3 hi ⟨c, rfl, s2⟩ ⟨rfl, hxx⟩
      rw [List.length_map] at hi
      obtain rfl := at_map hi hxx
      have hi2 : i < fl.length := by omega
      obtain ⟨g1, g2, g3, g4⟩ := hp _ (List.getElem_mem hi2)
      obtain ⟨q, p1, p2⟩ := pget hx (List.getElem?_eq_getElem hi) (List.getElem?_eq_getElem hi2)
      have p1 := s2 _ _ p1
      have p2 := s2 _ _ p2
      have hs2 := s2 _ _ hs
      have a0 : atI [vN fl[i].1, V.ref q] 0 = some (vN fl[i].1) := atI_nat (j := 0) rfl
      have a1 : atI [vN fl[i].1, V.ref q] 1 = some (V.ref q) := atI_nat (j := 1) rfl
      refine ⟨_, rfl, _, _, .type "tuple", .type "tuple", true, rfl, .ty _, .base (.tup p1), kit_ty (by decide +kernel), true, rfl, iteF ?_⟩
      refine ⟨_, rfl, xs[i], _, rfl, .inr (SqT.of p1), rfl, _, rfl, iteF ?_⟩
      refine ⟨_, rfl, xs[i], _, 0, _, rfl, rfl, SqT.of p1, a0, _, rfl, _, _, rfl, rfl, (fl[i].1 : Int), 0, _, rfl, by omega, by omega, true, rfl, iteF ?_⟩
      refine ⟨_, rfl, xs[i], _, 1, _, rfl, rfl, SqT.of p1, a1, _, _, .type "tuple", .type "tuple", true, rfl, .ty _, .base (.tup p2), kit_ty (by decide +kernel), true, rfl, iteF ?_⟩
      refine ⟨_, rfl, xs[i], _, 1, _, rfl, rfl, SqT.of p1, a1, q, rfl, ⟨_, SqT.of p2⟩, fun D hD => it_core walk_tup (LcI D fun i acc H1 => acc = List.replicate i (.bl true) ∧ Same H3 H1) ⟨[], upd_same, Nat.le_refl _, rfl, Same.nw hD⟩ (fun i H1 _ ⟨acc, _, _, _, e⟩ => e.tp (SqT.of p2)) ?_ ?_⟩
      · rintro j y H1 H5 hj ⟨acc, h1, h2, h3, h4⟩ ⟨rfl, hy⟩
        rw [List.length_map] at hj
        obtain rfl := at_map hj hy
        refine ⟨rfl, lc_yes ?_⟩
        have := g4 _ (List.getElem_mem hj)
        refine ⟨_, rfl, _, rfl, s, CS, dx, _, _, rfl, h4 _ _ hs2, Z.clS, Z.nSs, rfl, _, _, rfl, rfl, (fl[i].2[j] : Int), 0, _, rfl, by omega, by omega, ?_⟩
        exact lc_end h1 h2 hj (by omega) ⟨by rw [h3, List.replicate_succ'], h4.mt hD⟩
      · rintro H1 ⟨acc, h1, h2, h3, h4⟩
        refine ⟨D, List.replicate fl[i].2.length true, rfl, .inl (.inl ?_), true, by simp, iteF ?_⟩
        · rw [h1, h3, List.length_map, List.map_replicate]
        have p1 := h4 _ _ p1
        have p2 := h4 _ _ p2
        refine ⟨_, rfl, xs[i], _, 1, _, rfl, rfl, SqT.of p1, a1, q, fl[i].2, rfl, .inr p2, g2, by omega, fun H4 s4 => ⟨true, rfl, iteF ?_⟩⟩
        exact ⟨_, rfl, (s2.trans h4).trans s4⟩
    · rintro σ H2 ⟨c, rfl, s2⟩
      have ha2 := s2 _ _ ha
      refine ⟨_, rfl, a, rfl, ⟨_, SqT.of ha2⟩, fun D hD => it_core walk_tup (LcI D fun i acc H1 => acc = ((fl.map (·.1)).take i).map vN ∧ Same H2 H1) ⟨[], upd_same, Nat.le_refl _, rfl, Same.nw hD⟩ (fun i H1 _ ⟨acc, _, _, _, e⟩ => e.tp (SqT.of ha2)) ?_ ?_⟩
      · rintro i x H1 H3 hi ⟨acc, h1, h2, h3, h4⟩ ⟨rfl, hxx⟩
        rw [List.length_map] at hi
        obtain rfl := at_map hi hxx
        have hi2 : i < fl.length := by omega
        obtain ⟨q, p1, p2⟩ := pget hx (List.getElem?_eq_getElem hi) (List.getElem?_eq_getElem hi2)
        have p1 := h4 _ _ (s2 _ _ p1)
        have a0 : atI [vN fl[i].1, V.ref q] 0 = some (vN fl[i].1) := atI_nat (j := 0) rfl
        refine ⟨rfl, lc_yes ?_⟩
        refine ⟨_, rfl, xs[i], _, 0, _, rfl, rfl, SqT.of p1, a0, ?_⟩
        refine lc_end h1 h2 hi (by omega) ⟨?_, h4.mt hD⟩
        rw [h3, take_s (l := fl.map (·.1)) (by rw [List.length_map]; exact hi2), List.map_append]
        simp
      · rintro H1 ⟨acc, h1, h2, h3, h4⟩
        refine ⟨D, fl.map (·.1), rfl, .inl ?_, hlt, by rw [List.length_map]; omega, fun H3 s3 => k H3 ((s2.trans h4).trans s3)⟩
        show _ = some _
        rw [h1, h3, List.take_of_length_le (by rw [List.length_map, List.length_map, hxl]; exact Nat.le_refl _)]
end
end K16
set_option Elab.async false
set_option linter.all false
set_option maxRecDepth 100000
set_option maxHeartbeats 4000000
namespace K16
open PySem PySem.Spec PyProof.Rows L2
theorem putF_ne {x y : Str} {u v : V} {r : List (Str × V)} (h : ¬ x = y) : putF y v ((x, u) :: r) = (x, u) :: putF y v r := by
  show (if x = y then _ else (x, u) :: putF y v r) = _
  rw [if_neg h]
theorem flds4 (v1 v2 v3 v4 : V) : putF "shown" v4 (putF "filters" v3 (putF "atoms" v2 (putF "schema" v1 []))) = ([("schema", v1), ("atoms", v2), ("filters", v3), ("shown", v4)] : List (Str × V)) := by
  have e1 : putF "schema" v1 [] = ([("schema", v1)] : List (Str × V)) := rfl
  have e2 : ∀ (x : Str) (v : V), putF x v [] = [(x, v)] := fun _ _ => rfl
  repeat (first | rw [e2] | rw [putF_ne (by decide +kernel)])
theorem flds3 (v1 v2 v3 : V) : putF "filters" v3 (putF "atoms" v2 (putF "schema" v1 [])) = ([("schema", v1), ("atoms", v2), ("filters", v3)] : List (Str × V)) := by
  have e2 : ∀ (x : Str) (v : V), putF x v [] = [(x, v)] := fun _ _ => rfl
  repeat (first | rw [e2] | rw [putF_ne (by decide +kernel)])
/-- a query at q -/
def QryAt (CQ CS : Addr) (H : Hp) (q : Addr) (size : Nat) (widths : List Nat) (ats fl : List (Nat × List Nat)) : Prop := ∃ dx s a f sh, H q = some (.ins CQ dx [("schema", .ref s), ("atoms", .ref a), ("filters", .ref f), ("shown", .ref sh)]) ∧ SchAt CS H s size widths ∧ TupOf PR H a ats ∧ TupOf PR H f fl
theorem QryAt.sd {CQ CS : Addr} {H H' : Hp} {q : Addr} {size : Nat} {widths : List Nat} {ats fl : List (Nat × List Nat)} (e : SD H H') (h : QryAt CQ CS H q size widths ats fl) : QryAt CQ CS H' q size widths ats fl :=
  let ⟨dx, s, a, f, sh, h1, h2, h3, h4⟩ := h
  ⟨dx, s, a, f, sh, e _ _ rfl h1, h2.sd e, h3.ts e.ts fun _ _ q => q.ts e.ts, h4.ts e.ts fun _ _ q => q.ts e.ts⟩
section
variable {P : Program} {w : World} {K : PySem.W.Frag} {mg : Str → Option Value} {base : Heap} {CS CD CQ : Addr}
/-! ### Query -/
def spQueryI (CQ CS : Addr) : Sp := fun vs H Q _ => ∃ (q dx s a f sh : Addr) (size : Nat) (widths : List Nat) (ats fl : List (Nat × List Nat)) (shown : List Nat), vs = [.ref q, .ref s, .ref a, .ref f, .ref sh] ∧ H q = some (.ins CQ dx []) ∧ SchAt CS H s size widths ∧ TupOf PR H a ats ∧ TupOf PR H f fl ∧ TN H sh shown ∧
  AtomsOk widths ats ∧ FiltOk size (varsOf ats).length fl ∧ shown.Nodup ∧ (∀ v ∈ shown, v < (varsOf ats).length) ∧ shown.length ≤ 6 ∧
  ∀ H', (∀ b o, H b = some o → b ≠ q → H' b = some o) → H' q = some (.ins CQ dx [("schema", .ref s), ("atoms", .ref a), ("filters", .ref f), ("shown", .ref sh)]) → Q .non H'
theorem sc_Query___init__ : FnScope ["self", "schema", "atoms", "filters", "shown", "many", "variable"] ["self", "schema", "atoms", "filters", "shown"] (defScope s_Query___init__) := ⟨rfl, rfl, rfl, by decide +kernel, rfl, by decide +kernel, by decide +kernel⟩
theorem ok_Query_init (T : Tx K mg) (Z : Cs K mg CS CD CQ) (h : HasI K CQ "Query.__init__" s_Query___init__) (c_is_number : Cal P w K mg base 1 "is_number" spIsNumber) (c_check_schema : Cal P w K mg base 1 "check_schema" (spCheckSchema CS)) (c_are_atoms : Cal P w K mg base 3 "are_atoms" (spAreAtoms CS)) (c_variables_in : Cal P w K mg base 1 "variables_in" spVarsIn)
    (c_are_filters : Cal P w K mg base 2 "are_filters" (spAreFilters CS)) : MakO P w K mg base 4 "Query" CQ (spQueryI CQ CS) := by
  refine mak_of Z.gQ h sc_Query___init__ (fun _ _ _ _ _ _ us hl => match us, hl with | [_, _, _, _, _], _ => rfl) (fun vs H Q E h => ?_) (fun f cdv A outer s H vs Q E hr h => ?_)
  · obtain ⟨_, _, _, _, _, _, _, _, _, _, _, rfl, _⟩ := h
    rfl
  · obtain ⟨q, dx, s, a, fa, sh, size, widths, ats, fl, shown, rfl, hq, hS, hA, hF, hsh, aok, fok, nd, hlt, h6, k⟩ := h
    refine ⟨_, (pss_cons (ps_expr (pc c_check_schema hr (by decide) (by rfl) (pa_cons (pv 1) pa_nil)))
      (pss_cons (ps_if (pt_not (pt_val (pc c_are_atoms hr (by decide) (by rfl) (pa_cons (pv 1) (pa_cons (pv 2) pa_nil))))) (pss_one ps_never) pss_nil)
      (pss_cons (ps_set (i := 5) sc_Query___init__.nd rfl (Or.inr rfl) (pe_callB (klen K) (by rfl) T.bLen (by decide +kernel) (pa_cons (pc c_variables_in hr (by decide) (by rfl) (pa_cons (pv 2) pa_nil)) pa_nil)))
      (pss_cons (ps_if (pt_not (pt_val (pc c_are_filters hr (by decide) (by rfl) (pa_cons (pv 1) (pa_cons (pv 5) (pa_cons (pv 3) pa_nil)))))) (pss_one ps_never) pss_nil)
      (pss_cons (ps_if (PW.pt (pw_or (pt_not (pt_val (pe_callB (kisi K) (by rfl) T.bIsinstance (by decide +kernel) (pa_cons (pv 4) (pa_cons (pe_bltn (v := .ty "tuple") (by rfl) T.bTuple (by decide +kernel) rfl) pa_nil))))) (pw_or1 (pt_not (pt_val (pe_callB (kall K rfl) (by rfl) T.bAll (by decide +kernel) (pa_cons (pe_lc (own := [("variable", 6)]) (by rfl) sc_Query___init__.nd (kpt K (pv 4)) (blkOk_by (own := [("variable", 6)]) (N := ["self", "schema", "atoms", "filters", "shown", "many", "variable"]) (sc := defScope s_Query___init__) (by decide +kernel)) (fun _ _ _ _ _ => (pg_name (i := 6) sc_Query___init__.nd rfl (Or.inl rfl))) (fun _ _ _ _ _ => pts_nil) (fun _ _ _ _ _ => (pc c_is_number hr (by decide) (by rfl) (pa_cons (pv 6) (pa_cons pe_int (pa_cons (pe_op op_sub (pv 5) pe_int) pa_nil)))))) pa_nil))))))) (pss_one ps_never) pss_nil)
      (pss_cons (ps_if (pt_cmpR op_ne (pe_callB cr_lenSet (by rfl) T.bLen (by decide +kernel) (pa_cons (pe_callTy (ksetT K rfl) (by rfl) T.bSet (by decide +kernel) (pa_cons (pv 4) pa_nil)) pa_nil)) (pe_callB (klen K) (by rfl) T.bLen (by decide +kernel) (pa_cons (pv 4) pa_nil)) (nomark _)) (pss_one ps_never) pss_nil)
      (pss_cons (ps_fld (pv 0) (pv 1) rfl)
      (pss_cons (ps_fld (pv 0) (pv 2) rfl)
      (pss_cons (ps_fld (pv 0) (pv 3) rfl)
      (pss_one (ps_fld (pv 0) (pv 4) rfl))))))))))), ?_⟩
    refine ⟨_, rfl, s, size, widths, rfl, hS, ?_⟩
    refine ⟨_, rfl, _, rfl, s, a, size, widths, ats, rfl, hS, hA, aok, fun H1 s1 => ⟨true, rfl, iteF ?_⟩⟩
    refine ⟨_, rfl, a, ats, rfl, .inr (hA.ts s1.ts fun _ _ e => e.ts s1.ts), aok.ats, fun H2 p s2 np hp => ?_⟩
    have s2' := s1.trans s2
    have e2 : ((varsOf ats).map vN).length = (varsOf ats).length := List.length_map ..
    refine ⟨p, _, rfl, .inl (SqL.of hp), ?_⟩
    rw [e2]
    refine ⟨_, rfl, _, rfl, _, rfl, s, fa, size, (varsOf ats).length, widths, fl, rfl, hS.sd s2'.sd, hF.ts s2'.ts (fun _ _ e => e.ts s2'.ts), fok, fun H3 s3 => ⟨true, rfl, iteF ?_⟩⟩
    have s3' := s2'.trans s3
    have hsh3 := s3' _ _ hsh
    refine ⟨_, rfl, _, _, .type "tuple", .type "tuple", true, rfl, .ty _, .base (.tup hsh3), kit_ty (by decide +kernel), true, rfl, iteF ?_⟩
    refine ⟨_, rfl, sh, rfl, ⟨_, SqT.of hsh3⟩, fun D hD => it_core walk_tup (LcI D fun i acc H4 => acc = List.replicate i (.bl true) ∧ Same H3 H4) ⟨[], upd_same, Nat.le_refl _, rfl, Same.nw hD⟩ (fun i H4 _ ⟨acc, _, _, _, e⟩ => e.tp (SqT.of hsh3)) ?_ ?_⟩
    · rintro i x H4 H5 hi ⟨acc, h1, h2, h3, h4⟩ ⟨rfl, hxx⟩
      rw [List.length_map] at hi
      obtain rfl := at_map hi hxx
      refine ⟨rfl, lc_yes ?_⟩
      have := hlt _ (List.getElem_mem hi)
      refine ⟨_, rfl, _, rfl, _, _, rfl, rfl, (shown[i] : Int), 0, _, rfl, by omega, by omega, ?_⟩
      exact lc_end h1 h2 hi (by omega) ⟨by rw [h3, List.replicate_succ'], h4.mt hD⟩
    · rintro H4 ⟨acc, h1, h2, h3, h4⟩
      refine ⟨D, List.replicate shown.length true, rfl, .inl (.inl ?_), true, by simp, iteF ?_⟩
      · rw [h1, h3, List.length_map, List.map_replicate]
      have s4 := s3'.trans h4
      have hsh4 := s4 _ _ hsh
      have ei : shown.map vN = (shown.map fun (n : Nat) => (n : Int)).map V.int := vN_map _
      have el : (shown.map fun (n : Nat) => (n : Int)).length = shown.length := List.length_map ..
      refine ⟨_, rfl, sh, shown.map fun (n : Nat) => (n : Int), rfl, SqT.of (by rw [← ei]; exact hsh4), by omega, ?_, fun b S nb => ?_⟩
      · refine List.Pairwise.map _ (fun a b hab => ?_) nd
        omega
      refine ⟨b, S, _, rfl, upd_same, ?_⟩
      have s5 := s4.trans (Same.nw (o := SetO w b S (shown.map fun (n : Nat) => (n : Int)).length) nb)
      refine ⟨_, rfl, sh, _, rfl, .inr (SqT.of (s5 _ _ hsh)), rfl, _, rfl, iteNS (by rw [el, List.length_map]) ?_⟩
      have hq5 := s5 _ _ hq
      refine ⟨_, rfl, _, rfl, q, CQ, dx, [], rfl, hq5, Z.clQ, Z.nQs, by show 0 < 1000; decide, ?_⟩
      refine ⟨_, rfl, _, rfl, q, CQ, dx, _, rfl, upd_same, Z.clQ, Z.nQa, by show 1 < 1000; decide, ?_⟩
      refine ⟨_, rfl, _, rfl, q, CQ, dx, _, rfl, upd_same, Z.clQ, Z.nQf, ?_, ?_⟩
      · rw [flds2 _ _ _ _ (by decide +kernel)]
        show 2 < 1000
        decide
      refine ⟨_, rfl, _, rfl, q, CQ, dx, _, rfl, upd_same, Z.clQ, Z.nQh, ?_, ?_⟩
      · rw [flds3]
        show 3 < 1000
        decide
      refine k _ (fun b o e hb => ?_) ?_
      · rw [upd_ne hb, upd_ne hb, upd_ne hb, upd_ne hb]
        exact s5 _ _ e
      · rw [upd_same, flds4]
def spLenQ (CQ CS : Addr) : Sp := fun vs H Q _ => ∃ (q : Addr) (size : Nat) (widths : List Nat) (ats fl : List (Nat × List Nat)), vs = [.ref q] ∧ QryAt CQ CS H q size widths ats fl ∧ Q (vN ats.length) H
theorem sc_Query___len__ : FnScope ["self"] ["self"] (defScope s_Query___len__) := ⟨rfl, rfl, rfl, by decide +kernel, rfl, by decide +kernel, by decide +kernel⟩
theorem ok_lenQ (T : Tx K mg) (Z : Cs K mg CS CD CQ) (h : HasM K CQ "__len__" "Query.__len__" s_Query___len__) : MetO P w K mg base 1 CQ "__len__" (spLenQ CQ CS) := by
  refine met_of Z.clQ h sc_Query___len__ (fun _ _ _ _ _ _ us hl => match us, hl with | [_], _ => rfl) (fun vs H Q E h => ?_) (fun f cdv A outer s H vs Q E hr h => ?_)
  · obtain ⟨_, _, _, _, _, rfl, _⟩ := h
    rfl
  · obtain ⟨q, size, widths, ats, fl, rfl, ⟨dx, s, a, fa, sh, hq, hS, ⟨xs, ha, hx⟩, hF⟩, k⟩ := h
    refine ⟨_, (pss_one (ps_ret (pe_callB (klen K) (by rfl) T.bLen (by decide +kernel) (pa_cons (kfld K (pv 0) rfl) pa_nil)))), ?_⟩
    refine ⟨_, rfl, q, CQ, dx, _, _, rfl, hq, Z.clQ, Z.nQa, rfl, a, _, rfl, .inr (SqT.of ha), ?_⟩
    rw [List.length_map, plen hx]
    exact k
/-- what the filters allow -/
def allowedL (size : Nat) (fl : List (Nat × List Nat)) (v : Nat) : List Nat :=
  match (fl.filter fun p => decide (p.1 = v)).map (·.2) with
  | [] => List.range size
  | l :: _ => l
def spAllowed (CQ CS : Addr) : Sp := fun vs H Q _ => ∃ (q : Addr) (size : Nat) (widths : List Nat) (ats fl : List (Nat × List Nat)) (v : Nat), vs = [.ref q, vN v] ∧ QryAt CQ CS H q size widths ats fl ∧ size ≤ 6 ∧ fl.length ≤ 6 ∧
  ∀ H' p, Same H H' → H p = none → LN H' p (allowedL size fl v) → Q (.ref p) H'
theorem sc_Query_allowed : FnScope ["self", "variable", "some", "late", "values"] ["self", "variable"] (defScope s_Query_allowed) := ⟨rfl, rfl, rfl, by decide +kernel, rfl, by decide +kernel, by decide +kernel⟩
theorem ok_allowed (T : Tx K mg) (Z : Cs K mg CS CD CQ) (h : HasM K CQ "allowed" "Query.allowed" s_Query_allowed) : MetO P w K mg base 1 CQ "allowed" (spAllowed CQ CS) := by
  refine met_of Z.clQ h sc_Query_allowed (fun _ _ _ _ _ _ us hl => match us, hl with | [_, _], _ => rfl) (fun vs H Q E h => ?_) (fun f cdv A outer s H vs Q E hr h => ?_)
  · obtain ⟨_, _, _, _, _, _, rfl, _⟩ := h
    rfl
  · obtain ⟨q, size, widths, ats, fl, v, rfl, ⟨dx, s, a, fa, sh, hq, hS, hA, xs, hf, hx⟩, h6, f6, k⟩ := h
    obtain ⟨dxs, qw, hs, hqw⟩ := id hS
    have hxl := plen hx
    refine ⟨_, (pss_cons (ps_setLc (i := 2) (own := [("late", 3), ("values", 4)]) (by rfl) sc_Query_allowed.nd rfl rfl (sw_true rfl rfl rfl (by decide +kernel)) (kpt K (kfld K (pv 0) rfl)) (blkOk_by (own := [("late", 3), ("values", 4)]) (N := ["self", "variable", "some", "late", "values"]) (sc := defScope s_Query_allowed) (by decide +kernel)) (fun _ _ _ _ _ => (kgtup K (n := 2) rfl (pgs_cons (pg_name (i := 3) sc_Query_allowed.nd rfl (Or.inl rfl)) (pgs_cons (pg_name (i := 4) sc_Query_allowed.nd rfl (Or.inl rfl)) pgs_nil)))) (fun _ _ _ _ _ => (pts_one (pt_cmpR op_eq (pv 3) (pv 1) (nomark _)))) (fun _ _ _ _ _ => (pv 4)))
      (pss_one (ps_ret (pe_ifExp (pt_cmpR (kneD K hr.units) (pv 2) (pe_lst pa_nil) (nomark _)) (pe_callTy (klstOf K) (by rfl) T.bList (by decide +kernel) (pa_cons (pe_ix (kixL K) (pv 2) pe_int (fun _ _ => rfl)) pa_nil)) (pe_listRg rfl (by rfl) T.bList (prg_1 (by rfl) T.bRange (kfld K (kfld K (pv 0) rfl) rfl))))))), ?_⟩
    refine ⟨_, rfl, q, CQ, dx, _, _, rfl, hq, Z.clQ, Z.nQf, rfl, fa, rfl, ⟨_, SqT.of hf⟩, fun D hD => it_core walk_tup (fun i H2 => ∃ ys : List Addr, H2 D = some (.lst (ys.map V.ref)) ∧ Same H H2 ∧ Paired (TN H) ys (((fl.take i).filter fun p => decide (p.1 = v)).map (·.2))) ⟨[], upd_same, Same.nw hD, .nil⟩ (fun i H2 _ ⟨_, _, e, _⟩ => e.tp (SqT.of hf)) ?_ ?_⟩
    · rintro i x H2 H3 hi ⟨ys, y1, y2, y3⟩ ⟨rfl, hxx⟩
      rw [List.length_map] at hi
      obtain rfl := at_map hi hxx
      have hi2 : i < fl.length := by omega
      obtain ⟨g, p1, p2⟩ := pget hx (List.getElem?_eq_getElem hi) (List.getElem?_eq_getElem hi2)
      have p1 := y2 _ _ p1
      refine ⟨xs[i], _, rfl, SqT.of p1, rfl, _, _, rfl, _, _, rfl, rfl, rfl, ?_⟩
      refine ⟨_, rfl, _, rfl, rfl, _, rfl, ?_⟩
      have hyl := plen y3
      have hfl : (((fl.take i).filter fun p => decide (p.1 = v)).map (·.2)).length ≤ 6 := by
        rw [List.length_map]
        exact Nat.le_trans (List.length_filter_le ..) (by rw [List.length_take]; omega)
      by_cases hv : fl[i].1 = v
      · refine itT (decide_eq_true (by rw [hv])) ?_
        refine ⟨_, rfl, _, y1, szs (by rw [List.length_map]; omega), ys ++ [g], by rw [upd_same, List.map_append]; rfl, y2.mt hD, ?_⟩
        rw [take_s hi2, List.filter_append, List.map_append]
        have : List.filter (fun p : Nat × List Nat => decide (p.1 = v)) [fl[i]] = [fl[i]] := by simp [hv]
        rw [this]
        exact psnoc y3 p2
      · refine itF (decide_eq_false fun z => hv (by injection z; omega)) ?_
        refine ⟨ys, y1, y2, ?_⟩
        rw [take_s hi2, List.filter_append, List.map_append]
        have : List.filter (fun p : Nat × List Nat => decide (p.1 = v)) [fl[i]] = [] := by simp [hv]
        rw [this]
        simpa using y3
    · rintro H2 ⟨ys, y1, y2, y3⟩
      rw [List.length_map, hxl, List.take_length] at y3
      have hal : allowedL size fl v = (match (fl.filter fun p => decide (p.1 = v)).map (·.2) with | [] => List.range size | l :: _ => l) := rfl
      generalize (fl.filter fun p => decide (p.1 = v)).map (·.2) = L at y3 hal
      refine ⟨_, rfl, by show 0 ≤ sizeLine; decide, fun l nl => ?_⟩
      have s3 : Same H2 (upd H2 l (.lst [])) := Same.nw nl
      have hdp3 : Dp K (upd H2 l (.lst [])) (.ref D) (.list (L.map dT)) := .lst (SqL.of (s3 _ _ y1)) (dp_all (fun _ _ e => dp_TN ((y2.trans s3) _ _ e)) y3)
      refine ⟨_, .list [], hdp3, .lst (SqL.of upd_same) .nil, shp_LT _, shp_LT [], _, rfl, ?_⟩
      cases y3 with
      | nil =>
        refine itF rfl ?_
        refine ⟨_, rfl, q, CQ, dx, _, _, rfl, s3 _ _ (y2 _ _ hq), Z.clQ, Z.nQs, rfl, s, CS, dxs, _, _, rfl, s3 _ _ (y2 _ _ hs), Z.clS, Z.nSs, rfl, _, rfl, .of_le (by omega) (by omega) (by omega) (by omega), fun r nr => ?_⟩
        have s4 : Same H (upd (upd H2 l (.lst [])) r (.lst (rgV 0 (size : Nat)))) := (y2.trans s3).trans (Same.nw nr)
        refine k _ r s4 ((y2.trans s3).free nr) ?_
        show _ = some _
        rw [upd_same, rg_vN, hal]
      | @cons g z ys L h0 t0 =>
        refine itT rfl ?_
        refine ⟨_, rfl, D, _, 0, _, rfl, rfl, SqL.of (s3 _ _ y1), atI_nat (j := 0) rfl, g, _, rfl, .inr (SqT.of (s3 _ _ (y2 _ _ h0))), fun r nr => ?_⟩
        have s4 : Same H (upd (upd H2 l (.lst [])) r (.lst (z.map vN))) := (y2.trans s3).trans (Same.nw nr)
        refine k _ r s4 ((y2.trans s3).free nr) ?_
        show _ = some _
        rw [upd_same, hal]
end
end K16
set_option Elab.async false
set_option linter.all false
set_option maxRecDepth 100000
set_option maxHeartbeats 4000000
namespace K16
open PySem PySem.Spec PyProof.Rows L2
/-! ### rows: what is bound so far, by the turn -/
abbrev Row := List (Nat × Nat)
def rget (ρ : Row) (v : Nat) : Option Nat := (ρ.find? fun p => decide (p.1 = v)).map (·.2)
def rput (ρ : Row) (v x : Nat) : Row := if (ρ.any fun p => decide (p.1 = v)) = true then ρ.map (fun p => if p.1 = v then (p.1, x) else p) else ρ ++ [(v, x)]
def okp (al : Nat → List Nat) (ρ : Row) (p : Nat × Nat) : Bool := decide ((rget ρ p.1).getD p.2 = p.2) && decide (p.2 ∈ al p.1)
def stp (al : Nat → List Nat) (ρ : Row) (p : Nat × Nat) : Row := if okp al ρ p = true then rput ρ p.1 p.2 else ρ
def runS (al : Nat → List Nat) (ρ : Row) (ps : List (Nat × Nat)) : Row := ps.foldl (stp al) ρ
def runB (al : Nat → List Nat) : Row → List (Nat × Nat) → List Bool
  | _, [] => []
  | ρ, p :: r => okp al ρ p :: runB al (stp al ρ p) r
theorem runB_len (al : Nat → List Nat) : ∀ (ps : List (Nat × Nat)) (ρ : Row), (runB al ρ ps).length = ps.length
  | [], _ => rfl
  | _ :: r, _ => congrArg Nat.succ (runB_len al r _)
theorem runS_snoc (al : Nat → List Nat) (ρ : Row) (ps : List (Nat × Nat)) (p : Nat × Nat) : runS al ρ (ps ++ [p]) = stp al (runS al ρ ps) p := by
  unfold runS
  rw [List.foldl_append]
  rfl
theorem runB_snoc (al : Nat → List Nat) (p : Nat × Nat) : ∀ (ps : List (Nat × Nat)) (ρ : Row), runB al ρ (ps ++ [p]) = runB al ρ ps ++ [okp al (runS al ρ ps) p]
  | [], _ => rfl
  | x :: r, ρ => by
    show okp al ρ x :: runB al (stp al ρ x) (r ++ [p]) = _
    rw [runB_snoc al p r]
    rfl
/-- the dict of a row -/
def encR (ρ : Row) : List (Key × V) := ρ.map fun p => (Sum.inl (p.1 : Int), vN p.2)
theorem kk {a b : Nat} : (Sum.inl (a : Int) : Key) = Sum.inl (b : Int) ↔ a = b := ⟨fun h => by injection h with h; omega, fun h => by rw [h]⟩
theorem encR_get (v : Nat) : ∀ ρ : Row, valV (encR ρ) (Sum.inl (v : Int)) = (rget ρ v).map vN
  | [] => rfl
  | p :: r => by
    have ih := encR_get v r
    by_cases h : p.1 = v
    · rw [show encR (p :: r) = (Sum.inl (p.1 : Int), vN p.2) :: encR r from rfl, valV_pos (kk.mpr h)]
      simp [rget, List.find?_cons, h]
    · rw [show encR (p :: r) = (Sum.inl (p.1 : Int), vN p.2) :: encR r from rfl, valV_neg (fun z => h (kk.mp z)), ih]
      simp [rget, List.find?_cons, h]
theorem encR_put (ρ : Row) (v x : Nat) : putK (encR ρ) (Sum.inl (v : Int)) (vN x) = encR (rput ρ v x) := by
  have e : ((encR ρ).any fun kv => decide (kv.1 = (Sum.inl (v : Int) : Key))) = ρ.any fun p => decide (p.1 = v) := by
    unfold encR
    rw [List.any_map]
    congr 1
    funext p
    exact decide_eq_decide.mpr kk
  unfold putK rput
  rw [e]
  by_cases h : (ρ.any fun p => decide (p.1 = v)) = true
  · rw [if_pos h, if_pos h]
    unfold encR
    rw [List.map_map, List.map_map]
    refine List.map_congr_left fun p _ => ?_
    show (if (Sum.inl (p.1 : Int) : Key) = Sum.inl (v : Int) then _ else _) = _
    by_cases hp : p.1 = v
    · rw [if_pos (kk.mpr hp)]
      simp [hp]
    · rw [if_neg (fun z => hp (kk.mp z))]
      simp [hp]
  · rw [if_neg h, if_neg h]
    unfold encR
    rw [List.map_append]
    rfl
theorem rput_len (ρ : Row) (v x : Nat) : (rput ρ v x).length ≤ ρ.length + 1 := by
  unfold rput
  split
  · rw [List.length_map]; omega
  · rw [List.length_append]; exact Nat.le_refl _
theorem stp_len (al : Nat → List Nat) (ρ : Row) (p : Nat × Nat) : (stp al ρ p).length ≤ ρ.length + 1 := by
  unfold stp
  split
  · exact rput_len ..
  · omega
theorem runS_len (al : Nat → List Nat) : ∀ (ps : List (Nat × Nat)) (ρ : Row), (runS al ρ ps).length ≤ ρ.length + ps.length
  | [], ρ => Nat.le_refl _
  | p :: r, ρ => by
    have h1 := runS_len al r (stp al ρ p)
    have h2 := stp_len al ρ p
    show (runS al (stp al ρ p) r).length ≤ ρ.length + (r.length + 1)
    omega
/-- what one atom makes of a row -/
def extL (al : Nat → List Nat) (fil : List (List Nat × Nat)) (ρ : Row) (us : List Nat) : List (Row × Nat) := (fil.filter fun p => (runB al ρ (us.zip p.1)).all id).map fun p => (runS al ρ (us.zip p.1), p.2)
theorem extL_len (al : Nat → List Nat) (fil : List (List Nat × Nat)) (ρ : Row) (us : List Nat) : (extL al fil ρ us).length ≤ fil.length := by
  unfold extL
  rw [List.length_map]
  exact List.length_filter_le ..
def filA (size : Nat) (tabs : List (List Nat)) (p : Nat × List Nat) : List (List Nat × Nat) := filledL size p.2.length ((tabs[p.1]?).getD [])
def joinA (al : Nat → List Nat) (size : Nat) (tabs : List (List Nat)) (L : List (Row × Nat)) (p : Nat × List Nat) : List (Row × Nat) := L.flatMap fun r => (extL al (filA size tabs p) r.1 p.2).map fun s => (s.1, r.2 * s.2)
def lines (al : Nat → List Nat) (size : Nat) (tabs : List (List Nat)) (ats : List (Nat × List Nat)) : List (Row × Nat) := ats.foldl (joinA al size tabs) [([], 1)]
theorem lines_snoc (al : Nat → List Nat) (size : Nat) (tabs : List (List Nat)) (ats : List (Nat × List Nat)) (p : Nat × List Nat) : lines al size tabs (ats ++ [p]) = joinA al size tabs (lines al size tabs ats) p := by
  unfold lines
  rw [List.foldl_append]
  rfl
theorem filledL_len (size wd : Nat) (tab : List Nat) : (filledL size wd tab).length ≤ size ^ wd := by
  unfold filledL
  refine Nat.le_trans (List.length_filter_le ..) ?_
  rw [List.length_zip, cells_len]
  omega
theorem filA_len {size : Nat} {tabs : List (List Nat)} {p : Nat × List Nat} (h3 : size ≤ 3) (h2 : p.2.length ≤ 2) : (filA size tabs p).length ≤ 9 := by
  refine Nat.le_trans (filledL_len ..) ?_
  exact Nat.le_trans (Nat.pow_le_pow_left h3 _) (Nat.le_trans (Nat.pow_le_pow_right (by decide) h2) (by decide))
theorem fm_len' {α β : Type} {f : α → List β} {k : Nat} : ∀ {l : List α}, (∀ a ∈ l, (f a).length ≤ k) → (l.flatMap f).length ≤ l.length * k
  | [], _ => by simp
  | a :: r, h => by
    rw [List.flatMap_cons, List.length_append, List.length_cons, Nat.add_mul]
    have := fm_len' (l := r) fun b hb => h b (List.mem_cons_of_mem _ hb)
    have := h a List.mem_cons_self
    omega
theorem joinA_len {al : Nat → List Nat} {size : Nat} {tabs : List (List Nat)} {p : Nat × List Nat} (h3 : size ≤ 3) (h2 : p.2.length ≤ 2) (L : List (Row × Nat)) : (joinA al size tabs L p).length ≤ L.length * 9 := by
  refine fm_len' fun r _ => ?_
  rw [List.length_map]
  exact Nat.le_trans (extL_len ..) (filA_len h3 h2)
theorem lines_len {al : Nat → List Nat} {size : Nat} {tabs : List (List Nat)} (h3 : size ≤ 3) {ats : List (Nat × List Nat)} (h2 : ∀ p ∈ ats, p.2.length ≤ 2) : ∀ k, k ≤ ats.length → (lines al size tabs (ats.take k)).length ≤ 9 ^ k
  | 0, _ => by
    rw [List.take_zero]
    exact Nat.le_refl 1
  | k + 1, hk => by
    rw [take_s (by omega), lines_snoc, Nat.pow_succ]
    exact Nat.le_trans (joinA_len h3 (h2 _ (List.getElem_mem _)) _) (Nat.mul_le_mul_right _ (lines_len h3 h2 k (by omega)))
/-! what is bound -/
theorem rget_put (ρ : Row) (v x u : Nat) : rget (rput ρ v x) u = if u = v then some x else rget ρ u := by
  have h1 := encR_get u (rput ρ v x)
  rw [← encR_put, valV_put, encR_get] at h1
  have inj : ∀ a b : Option Nat, a.map vN = b.map vN → a = b := by
    intro a b h
    cases a with
    | none => cases b with
      | none => rfl
      | some y => cases h
    | some x => cases b with
      | none => cases h
      | some y =>
        have h2 : vN x = vN y := Option.some.inj h
        injection h2 with h3
        have h4 : x = y := by omega
        rw [h4]
  refine inj _ _ (h1.symm.trans ?_)
  by_cases e : u = v
  · rw [if_pos (kk.mpr e), if_pos e]
    rfl
  · rw [if_neg (fun z => e (kk.mp z)), if_neg e]
theorem stp_mono {al : Nat → List Nat} {ρ : Row} {p : Nat × Nat} {u : Nat} (h : (rget ρ u).isSome = true) : (rget (stp al ρ p) u).isSome = true := by
  unfold stp
  split
  · rw [rget_put]
    split
    · rfl
    · exact h
  · exact h
theorem stp_get {al : Nat → List Nat} {ρ : Row} {p : Nat × Nat} (h : okp al ρ p = true) : rget (stp al ρ p) p.1 = some p.2 := by
  unfold stp
  rw [if_pos h, rget_put, if_pos rfl]
theorem runS_mono {al : Nat → List Nat} {u : Nat} : ∀ (ps : List (Nat × Nat)) {ρ : Row}, (rget ρ u).isSome = true → (rget (runS al ρ ps) u).isSome = true
  | [], _, h => h
  | _ :: r, _, h => runS_mono r (stp_mono h)
theorem runS_dom {al : Nat → List Nat} : ∀ (ps : List (Nat × Nat)) {ρ : Row}, (runB al ρ ps).all id = true → ∀ p ∈ ps, (rget (runS al ρ ps) p.1).isSome = true
  | [], _, _, p, hp => by cases hp
  | x :: r, ρ, h, p, hp => by
    have h2 : (okp al ρ x && (runB al (stp al ρ x) r).all id) = true := h
    rw [Bool.and_eq_true] at h2
    rcases List.mem_cons.mp hp with e | e
    · subst e
      refine runS_mono r ?_
      rw [stp_get h2.1]
      rfl
    · exact runS_dom r h2.2 p e
theorem filledL_mem {size wd : Nat} {tab : List Nat} {p : List Nat × Nat} (h : p ∈ filledL size wd tab) : p.1.length = wd ∧ (∀ v ∈ p.1, v < size) ∧ 0 < p.2 := by
  obtain ⟨h1, h2⟩ := List.mem_filter.mp h
  have h3 := cells_mem (List.of_mem_zip h1).1
  exact ⟨h3.1, h3.2, of_decide_eq_true h2⟩
theorem mem_zip_l {α β : Type} : ∀ {l : List α} {m : List β} {a : α}, l.length ≤ m.length → a ∈ l → ∃ b, (a, b) ∈ l.zip m
  | [], _, _, _, h => by cases h
  | x :: r, [], _, h, _ => by simp at h
  | x :: r, y :: s, a, h, ha => by
    rcases List.mem_cons.mp ha with e | e
    · exact ⟨y, by rw [e]; exact List.mem_cons_self⟩
    · obtain ⟨b, hb⟩ := mem_zip_l (l := r) (m := s) (by simpa using h) e
      exact ⟨b, List.mem_cons_of_mem _ hb⟩
theorem extL_mono {al : Nat → List Nat} {fil : List (List Nat × Nat)} {ρ : Row} {us : List Nat} {s : Row × Nat} (h : s ∈ extL al fil ρ us) {u : Nat} (hu : (rget ρ u).isSome = true) : (rget s.1 u).isSome = true := by
  obtain ⟨p, _, rfl⟩ := List.mem_map.mp h
  exact runS_mono _ hu
theorem extL_dom {al : Nat → List Nat} {size : Nat} {tab : List Nat} {ρ : Row} {us : List Nat} {s : Row × Nat} (h : s ∈ extL al (filledL size us.length tab) ρ us) {u : Nat} (hu : u ∈ us) : (rget s.1 u).isSome = true := by
  obtain ⟨p, hp, rfl⟩ := List.mem_map.mp h
  obtain ⟨h1, h2⟩ := List.mem_filter.mp hp
  obtain ⟨b, hb⟩ := mem_zip_l (l := us) (m := p.1) (by rw [(filledL_mem h1).1]; exact Nat.le_refl _) hu
  exact runS_dom _ h2 _ hb
theorem extL_rlen {al : Nat → List Nat} {fil : List (List Nat × Nat)} {ρ : Row} {us : List Nat} {s : Row × Nat} (h : s ∈ extL al fil ρ us) : s.1.length ≤ ρ.length + us.length := by
  obtain ⟨p, _, rfl⟩ := List.mem_map.mp h
  refine Nat.le_trans (runS_len ..) ?_
  rw [List.length_zip]
  omega
theorem lines_dom {al : Nat → List Nat} {size : Nat} {tabs : List (List Nat)} : ∀ (n : Nat) {ats : List (Nat × List Nat)}, ats.length = n → ∀ s ∈ lines al size tabs ats, s.1.length ≤ (ats.flatMap (·.2)).length ∧ ∀ u ∈ ats.flatMap (·.2), (rget s.1 u).isSome = true
  | 0, ats, hn, s, hs => by
    obtain rfl := List.length_eq_zero_iff.mp hn
    have : s = ([], 1) := List.mem_singleton.mp hs
    subst this
    exact ⟨Nat.le_refl _, fun u hu => by simp at hu⟩
  | n + 1, ats, hn, s, hs => by
    rcases List.eq_nil_or_concat ats with rfl | ⟨init, p, rfl⟩
    · cases hn
    · rw [List.concat_eq_append] at hs hn ⊢
      rw [lines_snoc] at hs
      obtain ⟨r, hr, h2⟩ := List.mem_flatMap.mp hs
      obtain ⟨t, ht, rfl⟩ := List.mem_map.mp h2
      rw [List.length_append] at hn
      obtain ⟨ih1, ih2⟩ := lines_dom n (by simpa using hn) r hr
      rw [List.flatMap_append, List.length_append]
      refine ⟨?_, fun u hu => ?_⟩
      · have := extL_rlen ht
        have e1 : ([p].flatMap (·.2)) = p.2 := by simp
        rw [e1]
        show t.1.length ≤ _
        omega
      · rcases List.mem_append.mp hu with e | e
        · exact extL_mono ht (ih2 u e)
        · exact extL_dom ht (by simpa using e)
/-! ### the counts by the key -/
abbrev Cnt := List (List Nat × Nat)
def cget (fd : Cnt) (l : List Nat) : Nat := ((fd.find? fun p => decide (p.1 = l)).map (·.2)).getD 0
def cadd : Cnt → List Nat → Nat → Cnt
  | [], l, c => [(l, c)]
  | p :: r, l, c => if p.1 = l then (p.1, p.2 + c) :: r else p :: cadd r l c
def keyL (l : List Nat) : List Key := l.map fun (n : Nat) => Sum.inl (n : Int)
theorem keyL_inj : ∀ {a b : List Nat}, keyL a = keyL b ↔ a = b
  | [], [] => ⟨fun _ => rfl, fun _ => rfl⟩
  | [], _ :: _ => ⟨fun h => (by cases h), fun h => (by cases h)⟩
  | _ :: _, [] => ⟨fun h => (by cases h), fun h => (by cases h)⟩
  | x :: a, y :: b => by
    refine ⟨fun h => ?_, fun h => by rw [h]⟩
    obtain ⟨h1, h2⟩ := List.cons.inj (show (Sum.inl (x : Int) : Key) :: keyL a = Sum.inl (y : Int) :: keyL b from h)
    rw [kk.mp h1, keyL_inj.mp h2]
def encC (fd : Cnt) : List (List Key × V) := fd.map fun p => (keyL p.1, vN p.2)
theorem keyL_kV (l : List Nat) : (keyL l).map kV = l.map vN := by
  unfold keyL
  rw [List.map_map]
  rfl
theorem encC_get (l : List Nat) : ∀ fd : Cnt, valV (encC fd) (keyL l) = ((fd.find? fun p => decide (p.1 = l)).map (·.2)).map vN
  | [] => rfl
  | p :: r => by
    have ih := encC_get l r
    by_cases h : p.1 = l
    · rw [show encC (p :: r) = (keyL p.1, vN p.2) :: encC r from rfl, valV_pos (keyL_inj.mpr h)]
      simp [List.find?_cons, h]
    · rw [show encC (p :: r) = (keyL p.1, vN p.2) :: encC r from rfl, valV_neg (fun z => h (keyL_inj.mp z)), ih]
      simp [List.find?_cons, h]
theorem cadd_new (l : List Nat) (c : Nat) : ∀ fd : Cnt, (∀ p ∈ fd, p.1 ≠ l) → cadd fd l c = fd ++ [(l, c)] ∧ cget fd l = 0
  | [], _ => ⟨rfl, rfl⟩
  | p :: r, h => by
    have hp := h p List.mem_cons_self
    obtain ⟨h1, h2⟩ := cadd_new l c r fun q hq => h q (List.mem_cons_of_mem _ hq)
    refine ⟨by show (if p.1 = l then _ else p :: cadd r l c) = _; rw [if_neg hp, h1]; rfl, ?_⟩
    unfold cget
    rw [List.find?_cons, decide_eq_false hp]
    exact h2
theorem cadd_put (l : List Nat) (c : Nat) : ∀ fd : Cnt, (fd.map (·.1)).Nodup → encC (cadd fd l c) = putK (encC fd) (keyL l) (vN (cget fd l + c))
  | [], _ => by
    show [(keyL l, vN c)] = putK [] (keyL l) (vN (0 + c))
    rw [Nat.zero_add]
    rfl
  | p :: r, nd => by
    rw [List.map_cons, List.nodup_cons] at nd
    by_cases h : p.1 = l
    · subst h
      have hr : ∀ q ∈ r, q.1 ≠ p.1 := fun q hq e => nd.1 (e ▸ List.mem_map_of_mem hq)
      unfold putK
      have e : ((encC (p :: r)).any fun kv => decide (kv.1 = keyL p.1)) = true := by
        show (decide (keyL p.1 = keyL p.1) || _) = true
        simp
      rw [if_pos e]
      show encC (if p.1 = p.1 then (p.1, p.2 + c) :: r else _) = _
      rw [if_pos rfl]
      show (keyL p.1, vN (p.2 + c)) :: encC r = (if keyL p.1 = keyL p.1 then (keyL p.1, vN (cget (p :: r) p.1 + c)) else (keyL p.1, vN p.2)) :: (encC r).map _
      rw [if_pos rfl]
      have e2 : cget (p :: r) p.1 = p.2 := by
        unfold cget
        rw [List.find?_cons, decide_eq_true rfl]
        rfl
      rw [e2]
      congr 1
      unfold encC
      rw [List.map_map]
      refine List.map_congr_left fun q hq => ?_
      show _ = if keyL q.1 = keyL p.1 then _ else _
      rw [if_neg fun z => hr q hq (keyL_inj.mp z)]
    · have ih := cadd_put l c r nd.2
      have e2 : cget (p :: r) l = cget r l := by
        unfold cget
        rw [List.find?_cons, decide_eq_false h]
      have hk : ¬ keyL p.1 = keyL l := fun z => h (keyL_inj.mp z)
      show encC (if p.1 = l then _ else p :: cadd r l c) = _
      rw [if_neg h, e2]
      show (keyL p.1, vN p.2) :: encC (cadd r l c) = _
      rw [ih]
      unfold putK
      have e3 : ((encC (p :: r)).any fun kv => decide (kv.1 = keyL l)) = (encC r).any fun kv => decide (kv.1 = keyL l) := by
        show (decide (keyL p.1 = keyL l) || _) = _
        rw [decide_eq_false hk]
        rfl
      rw [e3]
      split
      · show _ = (if keyL p.1 = keyL l then _ else _) :: _
        rw [if_neg hk]
        rfl
      · rfl
theorem cadd_sum (l : List Nat) (c : Nat) : ∀ fd : Cnt, ((cadd fd l c).map (·.2)).sum = (fd.map (·.2)).sum + c
  | [] => by
    show ([c] : List Nat).sum = _
    simp
  | p :: r => by
    show ((if p.1 = l then (p.1, p.2 + c) :: r else p :: cadd r l c).map (·.2)).sum = _
    split
    · simp
      omega
    · have := cadd_sum l c r
      simp at this ⊢
      omega
theorem cadd_keys (l : List Nat) (c : Nat) : ∀ (fd : Cnt) (q : List Nat), q ∈ (cadd fd l c).map (·.1) → q = l ∨ q ∈ fd.map (·.1)
  | [], q, h => by
    have : q = l := List.mem_singleton.mp h
    exact .inl this
  | p :: r, q, h => by
    have h2 : q ∈ (if p.1 = l then (p.1, p.2 + c) :: r else p :: cadd r l c).map (·.1) := h
    split at h2
    · exact .inr h2
    · rw [List.map_cons] at h2
      rcases List.mem_cons.mp h2 with e | e
      · exact .inr (by rw [e]; exact List.mem_cons_self)
      · exact (cadd_keys l c r q e).imp id fun z => List.mem_cons_of_mem _ z
theorem cadd_nodup (l : List Nat) (c : Nat) : ∀ fd : Cnt, (fd.map (·.1)).Nodup → ((cadd fd l c).map (·.1)).Nodup
  | [], _ => by
    show [l].Nodup
    simp
  | p :: r, nd => by
    show ((if p.1 = l then (p.1, p.2 + c) :: r else p :: cadd r l c).map (·.1)).Nodup
    split
    · exact nd
    · rename_i h
      rw [List.map_cons, List.nodup_cons] at nd ⊢
      refine ⟨fun hm => ?_, cadd_nodup l c r nd.2⟩
      rcases cadd_keys l c r _ hm with e | e
      · exact h e
      · exact nd.1 e
theorem cadd_len (l : List Nat) (c : Nat) : ∀ fd : Cnt, (cadd fd l c).length ≤ fd.length + 1
  | [] => Nat.le_refl _
  | p :: r => by
    show (if p.1 = l then (p.1, p.2 + c) :: r else p :: cadd r l c).length ≤ _
    split
    · simp
    · have := cadd_len l c r
      simp
      omega
end K16
set_option Elab.async false
set_option linter.all false
set_option maxRecDepth 100000
set_option maxHeartbeats 4000000
namespace K16
open PySem PySem.Spec PyProof.Rows L2
theorem inV_N (x : Nat) : ∀ l : List Nat, inV (vN x) (l.map vN) = decide (x ∈ l)
  | [] => by simp [inV]
  | a :: r => by
    have ih := inV_N x r
    show (((a : Int) == (x : Int)) || inV (vN x) (r.map vN)) = _
    rw [ih]
    by_cases h : a = x
    · subst h
      simp
    · have h2 : ((a : Int) == (x : Int)) = false := beq_eq_false_iff_ne.mpr fun e => h (by omega)
      rw [h2, Bool.false_or]
      refine decide_eq_decide.mpr ⟨fun e => List.mem_cons_of_mem _ e, fun e => ?_⟩
      rcases List.mem_cons.mp e with q | q
      · exact absurd q.symm h
      · exact q
theorem flat_N (l : List Nat) : (l.map vN).all flatV = true := by
  rw [List.all_map]
  exact List.all_eq_true.mpr fun _ _ => rfl
/-- all but lists stand as before -/
def SL (H H' : Hp) : Prop := ∀ b o, (∀ xs, o ≠ .lst xs) → H b = some o → H' b = some o
theorem SL.trans {H H1 H2 : Hp} (a : SL H H1) (b : SL H1 H2) : SL H H2 := fun c o d h => b c o d (a c o d h)
theorem _root_.L2.Same.sl {H H' : Hp} (e : Same H H') : SL H H' := fun b o _ h => e b o h
theorem SL.ts {H H' : Hp} (e : SL H H') : TS H H' := fun b xs h => e b _ (fun _ z => by cases z) h
theorem SL.upd {H : Hp} {D : Addr} {o : HO} {ys : List V} (h : H D = some (.lst ys)) : SL H (L2.upd H D o) := fun b u hu e => by
  rw [upd_ne (ne_of e h (hu _))]
  exact e
/-- a pair of a row's dict and its count -/
def DR (H : Hp) (a : Addr) (p : Row × Nat) : Prop := ∃ d, H a = some (.tup [.ref d, vN p.2]) ∧ H d = some (.dK (encR p.1))
theorem DR.sl {H H' : Hp} {a : Addr} {p : Row × Nat} (e : SL H H') (h : DR H a p) : DR H' a p := let ⟨d, h1, h2⟩ := h; ⟨d, e _ _ (fun _ z => by cases z) h1, e _ _ (fun _ z => by cases z) h2⟩
theorem pdr {H H' : Hp} {xs : List Addr} {l : List (Row × Nat)} (e : SL H H') (h : Paired (DR H) xs l) : Paired (DR H') xs l := pimp h fun _ _ q => q.sl e
section
variable {P : Program} {w : World} {K : PySem.W.Frag} {mg : Str → Option Value} {base : Heap} {CS CD CQ : Addr}
/-! ### Schema.__eq__, check_both -/
def RS (CS : Addr) : Addr → Addr → Hp → Prop := fun a b H => ∃ size widths, SchAt CS H a size widths ∧ SchAt CS H b size widths
theorem sc_Schema___eq__ : FnScope ["self", "other"] ["self", "other"] (defScope s_Schema___eq__) := ⟨rfl, rfl, rfl, by decide +kernel, rfl, by decide +kernel, by decide +kernel⟩
theorem ok_eqS (T : Tx K mg) (Z : Cs K mg CS CD CQ) (h : HasM K CS "__eq__" "Schema.__eq__" s_Schema___eq__) : MetO P w K mg base 1 CS "__eq__" (spEq (RS CS)) := by
  refine met_of Z.clS h sc_Schema___eq__ (fun _ _ _ _ _ _ us hl => match us, hl with | [_, _], _ => rfl) (fun vs H Q E h => ?_) (fun f cdv A outer s H vs Q E hr h => ?_)
  · obtain ⟨_, _, rfl, _⟩ := h
    rfl
  · obtain ⟨a, b, rfl, ⟨size, widths, ⟨dxa, qa, ha, hqa⟩, ⟨dxb, qb, hb, hqb⟩⟩, k⟩ := h
    refine ⟨_, (pss_one (ps_ret (pe_and (pe_callB (kisi K) (by rfl) T.bIsinstance (by decide +kernel) (pa_cons (pv 1) (pa_cons (pe_glob (v := .ref CS) (by rfl) Z.gS rfl) pa_nil))) (pe_one (pe_cmpR (keqD K hr.units) (pe_tup (pa_cons (kfld K (pv 0) rfl) (pa_cons (kfld K (pv 0) rfl) pa_nil))) (pe_tup (pa_cons (kfld K (pv 1) rfl) (pa_cons (kfld K (pv 1) rfl) pa_nil))) (nomark _)))))), ?_⟩
    refine ⟨_, rfl, .ref b, .ref CS, .ref CS, .ref CS, true, rfl, .own _, isIns Z.iS hb, Z.iS.me, true, rfl, iteT ?_⟩
    refine ⟨_, rfl, a, CS, dxa, _, _, rfl, ha, Z.clS, Z.nSs, rfl, _, rfl, a, CS, dxa, _, _, rfl, ha, Z.clS, Z.nSw, rfl, by show 2 ≤ sizeLine; decide, fun t1 n1 => ?_⟩
    have s1 : Same H (upd H t1 (.tup [vN size, .ref qa])) := Same.nw n1
    refine ⟨_, rfl, b, CS, dxb, _, _, rfl, s1 _ _ hb, Z.clS, Z.nSs, rfl, _, rfl, b, CS, dxb, _, _, rfl, s1 _ _ hb, Z.clS, Z.nSw, rfl, by show 2 ≤ sizeLine; decide, fun t2 n2 => ?_⟩
    have s2 : Same (upd H t1 (.tup [vN size, .ref qa])) (upd (upd H t1 (.tup [vN size, .ref qa])) t2 (.tup [vN size, .ref qb])) := Same.nw n2
    have d1 : PR (upd (upd H t1 (.tup [vN size, .ref qa])) t2 (.tup [vN size, .ref qb])) t1 (size, widths) := ⟨qa, s2 _ _ upd_same, (s1.trans s2) _ _ hqa⟩
    have d2 : PR (upd (upd H t1 (.tup [vN size, .ref qa])) t2 (.tup [vN size, .ref qb])) t2 (size, widths) := ⟨qb, upd_same, (s1.trans s2) _ _ hqb⟩
    refine ⟨_, _, dp_PR d1, dp_PR d2, shp_P _, shp_P _, ?_⟩
    rw [eqv_P]
    simp only [decide_true]
    exact k _ (s1.trans s2)
def spCheckBoth (CS CD CQ : Addr) : Sp := fun vs H Q _ => ∃ (q d : Addr) (size : Nat) (widths : List Nat) (ats fl : List (Nat × List Nat)) (tabs : List (List Nat)), vs = [.ref q, .ref d] ∧ QryAt CQ CS H q size widths ats fl ∧ DatAt CD CS H d size widths tabs ∧ ∀ H', Same H H' → Q .non H'
theorem sc_check_both : FnScope ["query", "data"] ["query", "data"] (defScope s_check_both) := ⟨rfl, rfl, rfl, by decide +kernel, rfl, by decide +kernel, by decide +kernel⟩
theorem ok_check_both (T : Tx K mg) (Z : Cs K mg CS CD CQ) (neS : PySem.W.findIn K (.ref CS) "__ne__" = some (some (.builtin "object.__ne__"))) (h : Has K mg "check_both" s_check_both) (c_check_query : Cal P w K mg base 1 "check_query" (spCheckData CQ)) (c_check_data : Cal P w K mg base 1 "check_data" (spCheckData CD)) (c_eqS : MetO P w K mg base 1 CS "__eq__" (spEq (RS CS))) :
    Cal P w K mg base 4 "check_both" (spCheckBoth CS CD CQ) := by
  refine cal_of h sc_check_both (fun _ _ _ _ _ _ us hl => match us, hl with | [_, _], _ => rfl) (fun vs H Q E h => ?_) (fun f cdv A outer s H vs Q E hr h => ?_)
  · obtain ⟨_, _, _, _, _, _, _, rfl, _⟩ := h
    rfl
  · obtain ⟨q, d, size, widths, ats, fl, tabs, rfl, ⟨dx, sq, a, fa, sh, hq, hS, _⟩, ⟨dxd, sd, t, hd, hSd, _⟩, k⟩ := h
    refine ⟨_, (pss_cons (ps_expr (pc c_check_query hr (by decide) (by rfl) (pa_cons (pv 0) pa_nil)))
      (pss_cons (ps_expr (pc c_check_data hr (by decide) (by rfl) (pa_cons (pv 1) pa_nil)))
      (pss_one (ps_if (pt_cmpR (op_neOwn c_eqS neS hr (by decide)) (kfld K (pv 0) rfl) (kfld K (pv 1) rfl) (nomark _)) (pss_one ps_never) pss_nil)))), ?_⟩
    obtain ⟨dx1, q1, h1, g1⟩ := id hS
    obtain ⟨dx2, q2, h2, g2⟩ := id hSd
    refine ⟨_, rfl, q, _, _, rfl, hq, _, rfl, d, _, _, rfl, hd, ?_⟩
    refine ⟨_, rfl, q, CQ, dx, _, _, rfl, hq, Z.clQ, Z.nQs, rfl, _, rfl, d, CD, dxd, _, _, rfl, hd, Z.clD, Z.nDs, rfl, ?_⟩
    exact ⟨⟨sq, sd, dx1, dx2, _, _, rfl, rfl, h1, h2, size, widths, hS, hSd⟩, fun H' s' => ⟨false, rfl, iteF (k H' s')⟩⟩
/-! ### is_bound -/
def spIsBound (CQ CS : Addr) : Sp := fun vs H Q _ => ∃ (q r : Addr) (size : Nat) (widths : List Nat) (ats fl : List (Nat × List Nat)) (v x : Nat) (ρ : Row), vs = [.ref q, .ref r, vN v, vN x] ∧ QryAt CQ CS H q size widths ats fl ∧ H r = some (.dK (encR ρ)) ∧ size ≤ 6 ∧ fl.length ≤ 6 ∧ ρ.length ≤ 1000 ∧
  ∀ H', (∀ b o, b ≠ r → H b = some o → H' b = some o) → H' r = some (.dK (encR (stp (allowedL size fl) ρ (v, x)))) → Q (.bl (okp (allowedL size fl) ρ (v, x))) H'
theorem sc_is_bound : FnScope ["query", "row", "variable", "value"] ["query", "row", "variable", "value"] (defScope s_is_bound) := ⟨rfl, rfl, rfl, by decide +kernel, rfl, by decide +kernel, by decide +kernel⟩
theorem ok_is_bound (T : Tx K mg) (Z : Cs K mg CS CD CQ) (h : Has K mg "is_bound" s_is_bound) (c_allowed : MetO P w K mg base 1 CQ "allowed" (spAllowed CQ CS)) : Cal P w K mg base 2 "is_bound" (spIsBound CQ CS) := by
  refine cal_of h sc_is_bound (fun _ _ _ _ _ _ us hl => match us, hl with | [_, _, _, _], _ => rfl) (fun vs H Q E h => ?_) (fun f cdv A outer s H vs Q E hr h => ?_)
  · obtain ⟨_, _, _, _, _, _, _, _, _, rfl, _⟩ := h
    rfl
  · obtain ⟨q, r, size, widths, ats, fl, v, x, ρ, rfl, hQ, hR, h6, f6, r9, k⟩ := h
    obtain ⟨dx, sq, a, fa, sh, hq, _⟩ := id hQ
    have hu := hu_of hr
    refine ⟨_, (pss_cons (ps_if (PW.pt (pw_or (pt_cmpR op_ne (pe_dget2 hu (pv 1) (pv 2) (pv 3) ⟨rfl, rfl, rfl, rfl⟩) (pv 3) (nomark _)) (pw_or1 (pt_cmpR (knin K) (pv 3) (pm c_allowed hr (by decide) (pv 0) (pa_cons (pv 2) pa_nil)) (by rfl))))) (pss_one (ps_ret pe_bl)) pss_nil)
      (pss_cons (ps_dput hu (pv 1) (pv 2) (pv 3) rfl)
      (pss_one (ps_ret pe_bl)))), ?_⟩
    have hg : (valV (encR ρ) (Sum.inl (v : Int))).getD (vN x) = vN ((rget ρ v).getD x) := by
      rw [encR_get]
      cases rget ρ v <;> rfl
    refine ⟨_, rfl, r, rfl, .inl ⟨_, .of hR⟩, _, rfl, _, rfl, _, DGet.k (k := Sum.inl (v : Int)) hR, _, rfl, ?_⟩
    rw [hg]
    refine ⟨rfl, _, rfl, ?_⟩
    by_cases h1 : (rget ρ v).getD x = x
    · refine itF (b := !decide (vN ((rget ρ v).getD x) = vN x)) (by rw [h1]; simp) ?_
      refine ⟨_, rfl, _, rfl, q, dx, _, rfl, hq, rfl, _, rfl, q, size, widths, ats, fl, v, rfl, hQ, h6, f6, fun H1 p s1 np hp => ?_⟩
      refine ⟨p, _, rfl, .inl (SqL.of hp), rfl, flat_N _, _, rfl, ?_⟩
      rw [if_pos rfl, inV_N]
      have hR1 := s1 _ _ hR
      by_cases hx : x ∈ allowedL size fl v
      · refine itF (by rw [decide_eq_true hx]; rfl) ?_
        refine ⟨_, rfl, _, rfl, _, rfl, r, _, rfl, DPut.k (k := Sum.inl (v : Int)) hR1 (szs ?_), ?_⟩
        · unfold encR
          rw [List.length_map]
          omega
        have ok : okp (allowedL size fl) ρ (v, x) = true := by
          unfold okp
          rw [decide_eq_true h1, decide_eq_true hx]
          rfl
        have st : stp (allowedL size fl) ρ (v, x) = rput ρ v x := by
          unfold stp
          rw [if_pos ok]
        rw [ok, st] at k
        rw [encR_put]
        refine k _ (fun b o hb e => ?_) upd_same
        rw [upd_ne hb]
        exact s1 _ _ e
      · refine itT (by rw [decide_eq_false hx]; rfl) ?_
        have ok : okp (allowedL size fl) ρ (v, x) = false := by
          unfold okp
          rw [decide_eq_false hx, Bool.and_false]
        have st : stp (allowedL size fl) ρ (v, x) = ρ := by
          unfold stp
          rw [if_neg (by rw [ok]; exact Bool.false_ne_true)]
        rw [ok, st] at k
        exact k _ (fun b o _ e => s1 _ _ e) hR1
    · refine itT (b := !decide (vN ((rget ρ v).getD x) = vN x)) ?_ ?_
      · rw [decide_eq_false]
        · rfl
        · intro z
          injection z with z
          exact h1 (by omega)
      have ok : okp (allowedL size fl) ρ (v, x) = false := by
        unfold okp
        rw [decide_eq_false h1, Bool.false_and]
      have st : stp (allowedL size fl) ρ (v, x) = ρ := by
        unfold stp
        rw [if_neg (by rw [ok]; exact Bool.false_ne_true)]
      rw [ok, st] at k
      exact iteT (k _ (fun b o _ e => e) hR)
/-! ### extended -/
def spExtended (CS CD CQ : Addr) : Sp := fun vs H Q _ => ∃ (q d r a : Addr) (size : Nat) (widths : List Nat) (ats fl : List (Nat × List Nat)) (tabs : List (List Nat)) (t : Nat) (us tab : List Nat) (ρ : Row), vs = [.ref q, .ref d, .ref r, .ref a] ∧ QryAt CQ CS H q size widths ats fl ∧ DatAt CD CS H d size widths tabs ∧ TabOk size widths tabs ∧ fl.length ≤ 6 ∧
  H r = some (.dK (encR ρ)) ∧ ρ.length ≤ 100 ∧ PR H a (t, us) ∧ widths[t]? = some us.length ∧ tabs[t]? = some tab ∧
  ∀ H' p, Same H H' → H p = none → LstOf DR H' p (extL (allowedL size fl) (filledL size us.length tab) ρ us) → Q (.ref p) H'
theorem sc_extended : FnScope ["query", "data", "row", "atom", "found", "cell", "count", "late", "variable", "value"] ["query", "data", "row", "atom"] (defScope s_extended) := ⟨rfl, rfl, rfl, by decide +kernel, rfl, by decide +kernel, by decide +kernel⟩
theorem ok_extended (T : Tx K mg) (Z : Cs K mg CS CD CQ) (h : Has K mg "extended" s_extended) (c_filled : MetO P w K mg base 3 CD "filled" (spFilled CD CS)) (c_is_bound : Cal P w K mg base 2 "is_bound" (spIsBound CQ CS)) : Cal P w K mg base 4 "extended" (spExtended CS CD CQ) := by
  refine cal_of h sc_extended (fun _ _ _ _ _ _ us hl => match us, hl with | [_, _, _, _], _ => rfl) (fun vs H Q E h => ?_) (fun f cdv A outer s H vs Q E hr h => ?_)
  · obtain ⟨_, _, _, _, _, _, _, _, _, _, _, _, _, rfl, _⟩ := h
    rfl
  · obtain ⟨q, d, r, a, size, widths, ats, fl, tabs, t, us, tab, ρ, rfl, hQ, hD0, tok, f6, hR, r9, hP, hw, ht, k⟩ := h
    obtain ⟨dxd, sd, td, hd, hSd⟩ := id hD0
    obtain ⟨z2, z6, z4, zl, zw, zt⟩ := id tok
    obtain ⟨qa, ha, hqa⟩ := id hP
    have a0 : atI [vN t, V.ref qa] 0 = some (vN t) := atI_nat (j := 0) rfl
    have a1 : atI [vN t, V.ref qa] 1 = some (V.ref qa) := atI_nat (j := 1) rfl
    refine ⟨_, (pss_cons (ps_set (i := 4) sc_extended.nd rfl (Or.inl rfl) (pe_lst pa_nil))
      (pss_cons (ps_for PassesOwn.never rfl (kpl K (pm c_filled hr (by decide) (pv 1) (pa_cons (pe_ix (kixT K) (pv 3) pe_int (fun _ _ => rfl)) pa_nil))) (kgtup K (n := 2) rfl (pgs_cons (pg_name (i := 5) sc_extended.nd rfl (Or.inl rfl)) (pgs_cons (pg_name (i := 6) sc_extended.nd rfl (Or.inl rfl)) pgs_nil))) (pss_cons (ps_set (i := 7) sc_extended.nd rfl (Or.inr rfl) (pe_callTy call_dictD (by rfl) T.bDict (by decide +kernel) (pa_cons (pv 2) pa_nil)))
      (pss_one (ps_if (pt_val (pe_callB (kall K rfl) (by rfl) T.bAll (by decide +kernel) (pa_cons (pe_lc (own := [("variable", 8), ("value", 9)]) (by rfl) sc_extended.nd (kzipA K (by rfl) T.bZip (pa_cons (pe_ix (kixT K) (pv 3) pe_int (fun _ _ => rfl)) (pa_cons (pv 5) pa_nil))) (blkOk_by (own := [("variable", 8), ("value", 9)]) (N := ["query", "data", "row", "atom", "found", "cell", "count", "late", "variable", "value"]) (sc := defScope s_extended) (by decide +kernel)) (fun _ _ _ _ _ => (kgtup K (n := 2) rfl (pgs_cons (pg_name (i := 8) sc_extended.nd rfl (Or.inl rfl)) (pgs_cons (pg_name (i := 9) sc_extended.nd rfl (Or.inl rfl)) pgs_nil)))) (fun _ _ _ _ _ => pts_nil) (fun _ _ _ _ _ => (pc c_is_bound hr (by decide) (by rfl) (pa_cons (pv 0) (pa_cons (pv 7) (pa_cons (pv 8) (pa_cons (pv 9) pa_nil))))))) pa_nil))) (pss_one (ps_expr (kapp K (pv 4) (pa_cons (pe_tup (pa_cons (pv 7) (pa_cons (pv 6) pa_nil))) pa_nil)))) pss_nil))))
      (pss_one (ps_ret (pv 4))))), ?_⟩
    refine ⟨by show 0 ≤ sizeLine; decide, fun F nF => ?_⟩
    have s1 : Same H (upd H F (.lst [])) := Same.nw nF
    generalize eH1 : upd H F (.lst []) = H1 at s1
    have hF1 : H1 F = some (.lst []) := by rw [← eH1, upd_same]
    refine ⟨_, rfl, d, dxd, _, rfl, s1 _ _ hd, rfl, _, rfl, a, _, 0, _, rfl, rfl, SqT.of (s1 _ _ ha), a0, d, size, widths, tabs, t, us.length, tab, rfl, hD0.sd s1.sd, tok, hw, ht, fun H2 p s2 np hp => ?_⟩
    obtain ⟨xs, hpx, hxs⟩ := hp
    have hxl := plen hxs
    have hF2 := s2 _ _ hF1
    have s12 := s1.trans s2
    have pF : p ≠ F := fun e => by rw [e, hF1] at np; cases np
    refine ⟨p, rfl, ⟨_, SqL.of hpx⟩, for_it (walk_list (K := K) (a := p) (xs := xs.map V.ref)) (fun i σ H3 => ∃ (c5 c6 c7 : Option V) (ys : List Addr), σ = [some (.ref q), some (.ref d), some (.ref r), some (.ref a), some (.ref F), c5, c6, c7, none, none] ∧ H3 F = some (.lst (ys.map V.ref)) ∧ (∀ b o, b ≠ F → H2 b = some o → H3 b = some o) ∧
      Paired (DR H3) ys (extL (allowedL size fl) ((filledL size us.length tab).take i) ρ us)) ⟨none, none, none, [], rfl, hF2, fun _ _ _ e => e, .nil⟩ ?_ ?_ ?_⟩
    · rintro i σ H3 _ ⟨_, _, _, _, _, _, fr, _⟩
      exact SqL.of (fr _ _ pF hpx)
    · rintro i x σ H3 H3' hi ⟨c5, c6, c7, ys, rfl, hF3, fr, hys⟩ ⟨rfl, hx⟩
      rw [List.length_map] at hi
      obtain rfl := at_map hi hx
      have hi2 : i < (filledL size us.length tab).length := by omega
      have nFo : ∀ b o, H b = some o → b ≠ F := fun b o e z => by rw [z, nF] at e; cases e
      have fr0 : ∀ b o, H b = some o → H3' b = some o := fun b o e => fr b o (nFo b o e) (s12 b o e)
      obtain ⟨cq, g1, g2⟩ := pget hxs (List.getElem?_eq_getElem hi) (List.getElem?_eq_getElem hi2)
      have g1 := fr _ _ (ne_of g1 hF2 fun z => by cases z) g1
      have g2 := fr _ _ (ne_of g2 hF2 fun z => by cases z) g2
      have hmem : (filledL size us.length tab)[i] ∈ filledL size us.length tab := List.getElem_mem hi2
      obtain ⟨m1, m2, m3⟩ := filledL_mem hmem
      have hts := take_s hi2
      generalize (filledL size us.length tab)[i] = fc at g1 g2 hmem m1 m2 m3 hts
      obtain ⟨cell, c⟩ := fc
      refine ⟨xs[i], _, rfl, SqT.of g1, rfl, _, _, rfl, _, _, rfl, rfl, ?_⟩
      refine ⟨_, rfl, r, encR ρ, rfl, .of (fr0 _ _ hR), fun L nL => ?_⟩
      have s4 : Same H3' (upd H3' L (.dK (encR ρ))) := Same.nw nL
      have hL4 : (upd H3' L (.dK (encR ρ))) L = some (.dK (encR ρ)) := upd_same
      generalize upd H3' L (.dK (encR ρ)) = H4 at s4 hL4
      have qa4 := s4 _ _ (fr0 _ _ hqa)
      have cq4 := s4 _ _ g2
      refine ⟨_, rfl, a, _, 1, _, rfl, rfl, SqT.of (s4 _ _ (fr0 _ _ ha)), a1, _, rfl, qa, cq, _, _, rfl, .inr ⟨SqT.of qa4, SqT.of cq4, fun D hD => ?_⟩⟩
      have hD3 : H3' D = none := s4.free hD
      have zl2 : min (us.map vN).length (cell.map vN).length = (us.zip cell).length := by rw [List.length_zip, List.length_map, List.length_map]
      have DL : D ≠ L := fun e => by rw [e, hL4] at hD; cases hD
      have us2 : us.length ≤ 2 := zw _ (List.mem_of_getElem? hw)
      have zl3 : (us.zip cell).length ≤ 2 := by rw [List.length_zip]; omega
      refine it_core (walk_zipT zl2.symm) (fun j H5 => H5 D = some (.lst ((runB (allowedL size fl) ρ ((us.zip cell).take j)).map V.bl)) ∧ H5 L = some (.dK (encR (runS (allowedL size fl) ρ ((us.zip cell).take j)))) ∧ Same H3' H5) ⟨upd_same, by rw [upd_ne DL.symm]; exact hL4, s4.mt hD3⟩ (fun j H5 _ ⟨_, _, e⟩ => ⟨e.tp (SqT.of (fr0 _ _ hqa)), e.tp (SqT.of g2)⟩) ?_ ?_
      · rintro j x H5 H6 hj ⟨e1, e2, e3⟩ ⟨tp, x1, x2, rfl, ntp, rfl, f1, f2⟩
        have hj1 : j < us.length := by rw [List.length_zip] at hj; omega
        have hj2 : j < cell.length := by rw [List.length_zip] at hj; omega
        obtain rfl := at_map hj1 f1
        obtain rfl := at_map hj2 f2
        have s6 : Same H5 (upd H5 tp (.tup [vN us[j], vN cell[j]])) := Same.nw ntp
        refine ⟨tp, _, rfl, SqT.of upd_same, rfl, _, _, rfl, _, _, rfl, rfl, rfl, lc_yes ?_⟩
        have s36 := e3.trans s6
        refine ⟨_, rfl, _, rfl, _, rfl, _, rfl, q, L, size, widths, ats, fl, us[j], cell[j], _, rfl, hQ.sd (fun b o _ e => s36 _ _ (fr0 _ _ e)), s6 _ _ e2, z6, f6, ?_, fun H7 fr7 hL7 => ?_⟩
        · have := runS_len (allowedL size fl) ((us.zip cell).take j) ρ
          rw [List.length_take] at this
          omega
        · refine ⟨_, fr7 _ _ DL (s6 _ _ e1), szs ?_, ?_, ?_, ?_⟩
          · rw [List.length_map, runB_len, List.length_take]
            omega
          · rw [upd_same, take_s hj, runB_snoc, List.map_append]
            simp
          · rw [upd_ne DL.symm, hL7, take_s hj, runS_snoc]
            simp
          · intro b o e
            rw [upd_ne (ne_of_none e hD3)]
            exact fr7 b o (ne_of_none e nL) (s36 _ _ e)
      · rintro H5 ⟨e1, e2, e3⟩
        rw [List.take_length] at e1 e2
        refine ⟨D, runB (allowedL size fl) ρ (us.zip cell), rfl, SqL.of e1, (runB (allowedL size fl) ρ (us.zip cell)).all id, rfl, ?_⟩
        have hF5 := e3 _ _ hF3
        have hyl := plen hys
        have hel : (extL (allowedL size fl) ((filledL size us.length tab).take i) ρ us).length ≤ 36 := by
          refine Nat.le_trans (extL_len ..) ?_
          rw [List.length_take]
          have := filledL_len size us.length tab
          have := cells_small z6 us2
          rw [cells_len] at this
          omega
        have ex : extL (allowedL size fl) ((filledL size us.length tab).take (i + 1)) ρ us = extL (allowedL size fl) ((filledL size us.length tab).take i) ρ us ++ if (runB (allowedL size fl) ρ (us.zip cell)).all id = true then [(runS (allowedL size fl) ρ (us.zip cell), c)] else [] := by
          unfold extL
          rw [hts, List.filter_append, List.map_append]
          congr 1
          rw [List.filter_cons]
          show List.map _ (if (runB (allowedL size fl) ρ (us.zip cell)).all id = true then _ else _) = _
          split <;> rfl
        by_cases hall : (runB (allowedL size fl) ρ (us.zip cell)).all id = true
        · rw [if_pos hall] at ex
          refine itT hall ?_
          refine ⟨_, rfl, .inl ⟨rfl, _, SqL.of hF5⟩, _, rfl, _, rfl, by show 2 ≤ sizeLine; decide, fun tt nt => ?_⟩
          have s6 : Same H5 (upd H5 tt (.tup [.ref L, vN c])) := Same.nw nt
          have ttv : (upd H5 tt (.tup [.ref L, vN c])) tt = some (.tup [.ref L, vN c]) := upd_same
          have Ft : tt ≠ F := fun e => by rw [e, hF5] at nt; cases nt
          generalize upd H5 tt (.tup [.ref L, vN c]) = H6 at s6 ttv
          have hF6 := s6 _ _ hF5
          refine ⟨F, _, _, rfl, rfl, hF6, szs (by rw [List.length_map]; omega), ?_⟩
          have s37 := e3.trans s6
          refine ⟨_, _, _, ys ++ [tt], rfl, ?_, fun b o hb e => ?_, ?_⟩
          · rw [upd_same, List.map_append]
            rfl
          · rw [upd_ne hb]
            exact s37 _ _ (fr b o hb e)
          · rw [ex]
            refine psnoc (pdr (s37.sl.trans (SL.upd hF6)) hys) ⟨L, ?_, ?_⟩
            · rw [upd_ne Ft]
              exact ttv
            · rw [upd_ne (ne_of (s6 _ _ e2) hF6 fun z => by cases z)]
              exact s6 _ _ e2
        · rw [if_neg hall, List.append_nil] at ex
          refine itF (Bool.eq_false_iff.mpr hall) ?_
          refine ⟨_, _, _, ys, rfl, hF5, fun b o hb e => e3 _ _ (fr b o hb e), ?_⟩
          rw [ex]
          exact pdr e3.sl hys
    · rintro σ H3 ⟨c5, c6, c7, ys, rfl, hF3, fr, hys⟩
      rw [List.length_map, hxl, List.take_length] at hys
      refine ⟨_, rfl, k H3 F (fun b o e => fr b o (fun z => by rw [z, nF] at e; cases e) (s12 b o e)) nF ⟨ys, hF3, hys⟩⟩
end
end K16
set_option Elab.async false
set_option linter.all false
set_option maxRecDepth 100000
set_option maxHeartbeats 4000000
namespace K16
open PySem PySem.Spec PyProof.Rows L2
section
variable {P : Program} {w : World} {K : PySem.W.Frag} {mg : Str → Option Value} {base : Heap} {CS CD CQ : Addr}
/-! ### rows_after -/
def AtW (widths : List Nat) (ats : List (Nat × List Nat)) : Prop := 1 ≤ ats.length ∧ ats.length ≤ 3 ∧ ∀ p ∈ ats, widths[p.1]? = some p.2.length ∧ 1 ≤ p.2.length ∧ p.2.length ≤ 2 ∧ ∀ u ∈ p.2, u ≤ 5
theorem AtW.ok {widths : List Nat} {ats : List (Nat × List Nat)} (h : AtW widths ats) : AtsOk ats := ⟨Nat.le_trans h.2.1 (by decide), fun p hp => ⟨(h.2.2 p hp).2.2.1, (h.2.2 p hp).2.2.2⟩⟩
theorem AtW.pos {widths : List Nat} {ats : List (Nat × List Nat)} (h : AtW widths ats) : 0 < (varsOf ats).length := by
  obtain ⟨h1, h3, h⟩ := h
  match ats, h1 with
  | p :: r, _ =>
    obtain ⟨_, g1, g2, g3⟩ := h p List.mem_cons_self
    match hp : p.2, g1 with
    | u :: us, _ =>
      refine List.length_pos_of_mem (a := u) ((mem_varsOf fun p hp => (h p hp).2.2.2).mpr ?_)
      rw [List.flatMap_cons, hp]
      exact List.mem_cons_self
def totL (al : Nat → List Nat) (size : Nat) (tabs : List (List Nat)) (ats : List (Nat × List Nat)) : Nat := ((lines al size tabs ats).map (·.2)).sum
def spRowsAfter (CS CD CQ : Addr) : Sp := fun vs H Q _ => ∃ (q d a : Addr) (size : Nat) (widths : List Nat) (qats fl ats : List (Nat × List Nat)) (tabs : List (List Nat)), vs = [.ref q, .ref d, .ref a] ∧ QryAt CQ CS H q size widths qats fl ∧ DatAt CD CS H d size widths tabs ∧ TabOk size widths tabs ∧ size ≤ 3 ∧ fl.length ≤ 6 ∧
  LstOf PR H a ats ∧ AtW widths ats ∧
  ∀ H' p (kvs : List (List Key × V)) (ns : List Nat), Same H H' → H p = none → H' p = some (.dT kvs) → kvs.map (·.2) = ns.map vN → ns.sum = totL (allowedL size fl) size tabs ats → Q (.ref p) H'
theorem cget_mem {fd : Cnt} (nd : (fd.map (·.1)).Nodup) : ∀ p ∈ fd, cget fd p.1 = p.2 := by
  induction fd with
  | nil => intro p hp; cases hp
  | cons x r ih =>
    intro p hp
    rw [List.map_cons, List.nodup_cons] at nd
    unfold cget
    rw [List.find?_cons]
    rcases List.mem_cons.mp hp with e | e
    · subst e
      rw [decide_eq_true rfl]
      rfl
    · have : ¬ x.1 = p.1 := fun z => nd.1 (z ▸ List.mem_map_of_mem e)
      rw [decide_eq_false this]
      exact ih nd.2 p e
theorem cget_sum {fd : Cnt} (nd : (fd.map (·.1)).Nodup) {nl : List (List Nat)} (hp : nl.Perm (fd.map (·.1))) : (nl.map (cget fd)).sum = (fd.map (·.2)).sum := by
  rw [(hp.map (cget fd)).sum_nat, List.map_map]
  congr 1
  exact List.map_congr_left fun p hp => cget_mem nd p hp
/-- a pair of a key's tuple and a value -/
def PKV (H : Hp) (p : Addr) (kv : List Key × V) : Prop := ∃ q, H p = some (.tup [.ref q, kv.2]) ∧ H q = some (.tup (kv.1.map kV))
theorem PKV.ts {H H' : Hp} {a : Addr} {p : List Key × V} (e : TS H H') (h : PKV H a p) : PKV H' a p := let ⟨q, h1, h2⟩ := h; ⟨q, e _ _ h1, e _ _ h2⟩
theorem tn_map : ∀ l : List Nat, (l.map fun (n : Nat) => (n : Int)).map Int.toNat = l
  | [] => rfl
  | x :: r => by
    rw [List.map_cons, List.map_cons, tn_map r]
    rfl
theorem unInt {fd : Cnt} {ls : List (List Int)} (h : ls.Perm (fd.map fun p => p.1.map fun (n : Nat) => (n : Int))) : ∃ nl : List (List Nat), ls = nl.map (fun l => l.map fun (n : Nat) => (n : Int)) ∧ nl.Perm (fd.map (·.1)) := by
  refine ⟨ls.map fun l => l.map Int.toNat, ?_, ?_⟩
  · rw [List.map_map]
    have : ∀ l ∈ ls, ((fun l : List Nat => l.map fun (n : Nat) => (n : Int)) ∘ fun l : List Int => l.map Int.toNat) l = l := fun l hl => by
      obtain ⟨p, _, rfl⟩ := List.mem_map.mp (h.subset hl)
      show ((p.1.map fun (n : Nat) => (n : Int)).map Int.toNat).map (fun (n : Nat) => (n : Int)) = _
      rw [tn_map]
    conv => lhs; rw [← List.map_id ls]
    exact List.map_congr_left fun l hl => (this l hl).symm
  · have h2 := h.map fun l : List Int => l.map Int.toNat
    rw [List.map_map] at h2
    have e : (fd.map ((fun l : List Int => l.map Int.toNat) ∘ fun p => p.1.map fun (n : Nat) => (n : Int))) = fd.map (·.1) := List.map_congr_left fun p _ => tn_map p.1
    rw [e] at h2
    exact h2
theorem sc_rows_after : FnScope ["query", "data", "atoms", "line", "atom", "row", "count", "found", "some", "values", "late", "more", "variable"] ["query", "data", "atoms"] (defScope s_rows_after) := ⟨rfl, rfl, rfl, by decide +kernel, rfl, by decide +kernel, by decide +kernel⟩
theorem ok_rows_after (T : Tx K mg) (Z : Cs K mg CS CD CQ) (h : Has K mg "rows_after" s_rows_after) (c_extended : Cal P w K mg base 4 "extended" (spExtended CS CD CQ)) (c_variables_in : Cal P w K mg base 1 "variables_in" spVarsIn) : Cal P w K mg base 5 "rows_after" (spRowsAfter CS CD CQ) := by
  refine cal_of h sc_rows_after (fun _ _ _ _ _ _ us hl => match us, hl with | [_, _, _], _ => rfl) (fun vs H Q E h => ?_) (fun f cdv A outer s H vs Q E hr h => ?_)
  · obtain ⟨_, _, _, _, _, _, _, _, _, rfl, _⟩ := h
    rfl
  · obtain ⟨q, d, a, size, widths, qats, fl, ats, tabs, rfl, hQ, hD0, tok, h3, f6, hA, aw, k⟩ := h
    obtain ⟨xa, ha, hxa⟩ := id hA
    have hxl := plen hxa
    obtain ⟨l1, l3, hat⟩ := id aw
    obtain ⟨z2, z6, z4, zl, zw, zt⟩ := id tok
    have hu := hu_of hr
    have hll : ∀ i, (lines (allowedL size fl) size tabs (ats.take i)).length ≤ 729 := fun i => by
      by_cases hi : i ≤ ats.length
      · refine Nat.le_trans (lines_len h3 (fun p hp => (hat p hp).2.2.1) i hi) ?_
        exact Nat.le_trans (Nat.pow_le_pow_right (n := 9) (by decide) (Nat.le_trans hi l3)) (by decide)
      · rw [List.take_of_length_le (by omega)]
        have := lines_len (al := allowedL size fl) (tabs := tabs) h3 (fun p hp => (hat p hp).2.2.1) ats.length (Nat.le_refl _)
        rw [List.take_length] at this
        exact Nat.le_trans this (Nat.le_trans (Nat.pow_le_pow_right (n := 9) (by decide) l3) (by decide))
    refine ⟨_, (pss_cons (ps_set (i := 3) sc_rows_after.nd rfl (Or.inl rfl) (pe_lst (pa_cons (pe_tup (pa_cons pe_dnewK (pa_cons pe_int pa_nil))) pa_nil)))
      (pss_cons (ps_for PassesOwn.never rfl (kpl K (pv 2)) (pg_name (i := 4) sc_rows_after.nd rfl (Or.inr rfl)) (pss_one (ps_setLc2 (i := 3) (own := [("row", 5), ("count", 6), ("late", 10), ("more", 11)]) (vs1 := [10, 11]) (by rfl) sc_rows_after.nd rfl rfl (sw_true rfl rfl rfl (by decide +kernel)) (kpl K (pv 3)) (blkOk_by (own := [("row", 5), ("count", 6), ("late", 10), ("more", 11)]) (N := ["query", "data", "atoms", "line", "atom", "row", "count", "found", "some", "values", "late", "more", "variable"]) (sc := defScope s_rows_after) (by decide +kernel)) (by decide) (fun _ _ _ _ _ => (kgtup K (n := 2) rfl (pgs_cons (pg_name (i := 5) sc_rows_after.nd rfl (Or.inl rfl)) (pgs_cons (pg_name (i := 6) sc_rows_after.nd rfl (Or.inl rfl)) pgs_nil)))) (fun _ _ _ _ _ => pts_nil) (fun _ _ _ _ _ => (kpl K (pc c_extended hr (by decide) (by rfl) (pa_cons (pv 0) (pa_cons (pv 1) (pa_cons (pv 5) (pa_cons (pv 4) pa_nil))))))) (fun _ _ _ _ _ => (kgtup K (n := 2) rfl (pgs_cons (pg_name (i := 10) sc_rows_after.nd rfl (Or.inl rfl)) (pgs_cons (pg_name (i := 11) sc_rows_after.nd rfl (Or.inl rfl)) pgs_nil)))) (fun _ _ _ _ _ => pts_nil) (fun _ _ _ _ _ => (pe_tup (pa_cons (pv 10) (pa_cons (pe_op op_mul (pv 6) (pv 11)) pa_nil)))))))
      (pss_cons (ps_set (i := 7) sc_rows_after.nd rfl (Or.inr rfl) pe_dnewT)
      (pss_cons (ps_set (i := 8) sc_rows_after.nd rfl (Or.inl rfl) (pc c_variables_in hr (by decide) (by rfl) (pa_cons (pv 2) pa_nil)))
      (pss_cons (ps_for PassesOwn.never rfl (kpl K (pv 3)) (kgtup K (n := 2) rfl (pgs_cons (pg_name (i := 5) sc_rows_after.nd rfl (Or.inr rfl)) (pgs_cons (pg_name (i := 6) sc_rows_after.nd rfl (Or.inl rfl)) pgs_nil))) (pss_cons (ps_set (i := 9) sc_rows_after.nd rfl (Or.inl rfl) (pe_callTy (ktupOf K) (by rfl) T.bTuple (by decide +kernel) (pa_cons (pe_lc (own := [("variable", 12)]) (by rfl) sc_rows_after.nd (kpl K (pv 8)) (blkOk_by (own := [("variable", 12)]) (N := ["query", "data", "atoms", "line", "atom", "row", "count", "found", "some", "values", "late", "more", "variable"]) (sc := defScope s_rows_after) (by decide +kernel)) (fun _ _ _ _ _ => (pg_name (i := 12) sc_rows_after.nd rfl (Or.inl rfl))) (fun _ _ _ _ _ => pts_nil) (fun _ _ _ _ _ => (pe_dget hu (pv 5) (pv 12) (fun _ _ => rfl)))) pa_nil)))
      (pss_one (ps_dput hu (pv 7) (pv 9) (pe_op op_add (pe_dget2 hu (pv 7) (pv 9) pe_int ⟨rfl, rfl, rfl, rfl⟩) (pv 6)) rfl))))
      (pss_one (ps_ret (pe_callTy (kdictT K rfl hr.units) (by rfl) T.bDict (by decide +kernel) (pa_cons (pe_lc (own := [("values", 9)]) (by rfl) sc_rows_after.nd (kpl K (pe_callB (cr_sortedDT rfl hr.units) (by rfl) T.bSorted (by decide +kernel) (pa_cons (pv 7) pa_nil))) (blkOk_by (own := [("values", 9)]) (N := ["query", "data", "atoms", "line", "atom", "row", "count", "found", "some", "values", "late", "more", "variable"]) (sc := defScope s_rows_after) (by decide +kernel)) (fun _ _ _ _ _ => (pg_name (i := 9) sc_rows_after.nd rfl (Or.inl rfl))) (fun _ _ _ _ _ => pts_nil) (fun _ _ _ _ _ => (pe_tup (pa_cons (pv 9) (pa_cons (pe_dget hu (pv 7) (pv 9) (fun _ _ => rfl)) pa_nil))))) pa_nil))))))))), ?_⟩
    refine fun d0 n0 => ⟨by show 2 ≤ sizeLine; decide, fun t0 m0 => ⟨by show 1 ≤ sizeLine; decide, fun l0 k0 => ?_⟩⟩
    have s0 : Same H (upd (upd (upd H d0 (.dK [])) t0 (.tup [.ref d0, .int 1])) l0 (.lst [.ref t0])) := ((Same.nw n0).trans (Same.nw m0)).trans (Same.nw k0)
    have hl0 : LstOf DR (upd (upd (upd H d0 (.dK [])) t0 (.tup [.ref d0, .int 1])) l0 (.lst [.ref t0])) l0 (lines (allowedL size fl) size tabs (ats.take 0)) := by
      refine ⟨[t0], upd_same, .cons ⟨d0, ?_, ?_⟩ .nil⟩
      · exact (Same.nw k0) _ _ upd_same
      · exact ((Same.nw m0).trans (Same.nw k0)) _ _ upd_same
    have nl0 : H l0 = none := ((Same.nw n0).trans (Same.nw m0)).free k0
    generalize upd (upd (upd H d0 (.dK [])) t0 (.tup [.ref d0, .int 1])) l0 (.lst [.ref t0]) = H0 at s0 hl0
    refine ⟨_, rfl, a, rfl, ⟨_, SqL.of (s0 _ _ ha)⟩, for_it (walk_list (K := K) (a := a) (xs := xa.map V.ref)) (fun i σ H1 => ∃ (p : Addr) (c4 : Option V), σ = [some (.ref q), some (.ref d), some (.ref a), some (.ref p), c4, none, none, none, none, none, none, none, none] ∧ Same H H1 ∧ H p = none ∧
      LstOf DR H1 p (lines (allowedL size fl) size tabs (ats.take i))) ⟨l0, none, rfl, s0, nl0, hl0⟩ (fun i σ H1 _ ⟨_, _, _, e, _⟩ => e.seq (SqL.of ha)) ?_ ?_⟩
    · rintro i x σ H1 H1' hi ⟨p, c4, rfl, s1, np, xs, hpx, hxs⟩ ⟨rfl, hx⟩
      rw [List.length_map] at hi
      obtain rfl := at_map hi hx
      have hi2 : i < ats.length := by omega
      have hpr := pget hxa (List.getElem?_eq_getElem hi) (List.getElem?_eq_getElem hi2)
      obtain ⟨hw, u1, u2, u5⟩ := hat _ (List.getElem_mem hi2)
      have hts := take_s hi2
      generalize ats[i] = at1 at hpr hw u1 u2 u5 hts
      have htl : at1.1 < tabs.length := by
        have := (List.getElem?_eq_some_iff.mp hw).1
        omega
      have hlen := plen hxs
      have hl7 := hll i
      have hl8 := hll (i + 1)
      have el : lines (allowedL size fl) size tabs (ats.take (i + 1)) = joinA (allowedL size fl) size tabs (lines (allowedL size fl) size tabs (ats.take i)) at1 := by rw [hts, lines_snoc]
      have hdom := lines_dom (al := allowedL size fl) (size := size) (tabs := tabs) _ (rfl : (ats.take i).length = _)
      have hf6 : ((ats.take i).flatMap (·.2)).length ≤ 6 := by
        refine Nat.le_trans (fm_len (k := 2) fun p hp => (hat p (List.mem_of_mem_take hp)).2.2.1) ?_
        rw [List.length_take]
        omega
      rw [el] at hl8 ⊢
      generalize lines (allowedL size fl) size tabs (ats.take i) = L at hxs hlen hl7 hl8 hdom
      refine ⟨_, rfl, p, rfl, ⟨_, SqL.of hpx⟩, fun D hD => it_core (walk_list (K := K) (a := p) (xs := xs.map V.ref)) (fun i2 H2 => ∃ ys : List Addr, H2 D = some (.lst (ys.map V.ref)) ∧ Same H1' H2 ∧ Paired (DR H2) ys (joinA (allowedL size fl) size tabs (L.take i2) at1)) ⟨[], upd_same, Same.nw hD, .nil⟩ (fun _ H2 _ ⟨_, _, e, _⟩ => e.seq (SqL.of hpx)) ?_ ?_⟩
      · rintro i2 x H2 H2' hi2' ⟨ys, y1, y2, y3⟩ ⟨rfl, hx2⟩
        rw [List.length_map] at hi2'
        obtain rfl := at_map hi2' hx2
        have hi3 : i2 < L.length := by omega
        have hdr := (pget hxs (List.getElem?_eq_getElem hi2') (List.getElem?_eq_getElem hi3)).sl y2.sl
        have hm := List.getElem_mem hi3
        have hts2 := take_s hi3
        generalize L[i2] = r1 at hdr hm hts2
        obtain ⟨dr, g1, g2⟩ := hdr
        obtain ⟨ρ, c⟩ := r1
        have hρ := (hdom _ hm).1
        refine ⟨xs[i2], _, rfl, SqT.of g1, rfl, _, _, rfl, _, _, rfl, rfl, rfl, lc_yes ?_⟩
        have s12 := s1.trans y2
        refine ⟨_, rfl, _, rfl, _, rfl, _, rfl, q, d, dr, xa[i], size, widths, qats, fl, tabs, at1.1, at1.2, tabs[at1.1], ρ, rfl, hQ.sd s12.sd, hD0.sd s12.sd, tok, f6, g2, ?_, hpr.ts s12.ts, hw, List.getElem?_eq_getElem htl, fun H3 p2 s3 np2 hp2 => ?_⟩
        · show ρ.length ≤ 100
          have h0 : ρ.length ≤ ((ats.take i).flatMap (·.2)).length := hρ
          omega
        obtain ⟨zs, q1, q2⟩ := hp2
        have efil : filledL size at1.2.length tabs[at1.1] = filA size tabs at1 := by
          unfold filA
          rw [List.getElem?_eq_getElem htl]
          rfl
        rw [efil] at q2
        have hzl := plen q2
        have hel := extL_len (allowedL size fl) (filA size tabs at1) ρ at1.2
        have hfl := filA_len (tabs := tabs) h3 u2
        have y1' := s3 _ _ y1
        have p2D : p2 ≠ D := fun e => by rw [e, y1] at np2; cases np2
        have hyl := plen y3
        have hjl : (joinA (allowedL size fl) size tabs (L.take i2) at1).length ≤ 729 * 9 := by
          refine Nat.le_trans (joinA_len h3 u2 _) ?_
          rw [List.length_take]
          exact Nat.mul_le_mul_right _ (by omega)
        refine ⟨p2, rfl, ⟨_, SqL.of q1⟩, it_core (walk_list (K := K) (a := p2) (xs := zs.map V.ref)) (fun j H4 => ∃ ys2 : List Addr, H4 D = some (.lst (ys2.map V.ref)) ∧ Same H1' H4 ∧ SL H3 H4 ∧ H4 p2 = some (.lst (zs.map V.ref)) ∧ Paired (DR H4) ys2 (joinA (allowedL size fl) size tabs (L.take i2) at1 ++ ((extL (allowedL size fl) (filA size tabs at1) ρ at1.2).take j).map fun s => (s.1, c * s.2))) ⟨ys, y1', y2.trans s3, fun _ _ _ e => e, q1, ?_⟩ (fun _ H4 _ ⟨_, _, _, _, e, _⟩ => SqL.of e) ?_ ?_⟩
        · rw [List.take_zero, List.map_nil, List.append_nil]
          exact pdr s3.sl y3
        · rintro j x H4 H5 hj ⟨ys2, w1, w2, w3, w4, w5⟩ ⟨rfl, hx4⟩
          rw [List.length_map] at hj
          obtain rfl := at_map hj hx4
          have hj2 : j < (extL (allowedL size fl) (filA size tabs at1) ρ at1.2).length := by omega
          have hdr2 := (pget q2 (List.getElem?_eq_getElem hj) (List.getElem?_eq_getElem hj2)).sl w3
          have hts3 := take_s hj2
          have hm9 : ((extL (allowedL size fl) (filA size tabs at1) ρ at1.2)[j]).2 ≤ 9 := by
            obtain ⟨p9, hp9, e9⟩ := List.mem_map.mp (List.getElem_mem hj2)
            rw [← e9]
            have h1 := (List.mem_filter.mp hp9).1
            rw [← efil] at h1
            have h2 := (List.of_mem_zip (List.mem_filter.mp h1).1).2
            exact (zt _ _ _ hw (List.getElem?_eq_getElem htl)).2 _ h2
          generalize (extL (allowedL size fl) (filA size tabs at1) ρ at1.2)[j] = r2 at hdr2 hts3 hm9
          obtain ⟨dr2, f1, f2⟩ := hdr2
          obtain ⟨ρ2, m⟩ := r2
          refine ⟨zs[j], _, rfl, SqT.of f1, rfl, _, _, rfl, _, _, rfl, rfl, rfl, lc_yes ?_⟩
          have hm9 : m ≤ 9 := hm9
          refine ⟨_, rfl, _, rfl, _, rfl, _, _, rfl, rfl, .inr ⟨by show -(2 ^ 64) < (m : Int); omega, by show (m : Int) < 2 ^ 64; omega⟩, by show 2 ≤ sizeLine; decide, fun tt nt => ?_⟩
          have hwl := plen w5
          rw [List.length_append, List.length_map, List.length_take] at hwl
          have s5 : Same H5 (upd H5 tt (.tup [.ref dr2, .int ((c : Int) * (m : Int))])) := Same.nw nt
          have tv : (upd H5 tt (.tup [.ref dr2, .int ((c : Int) * (m : Int))])) tt = some (.tup [.ref dr2, .int ((c : Int) * (m : Int))]) := upd_same
          have hDt := s5 _ _ w1
          generalize upd H5 tt (.tup [.ref dr2, .int ((c : Int) * (m : Int))]) = H6 at s5 tv hDt
          have sl6 : SL H5 (upd H6 D (.lst (ys2.map V.ref ++ [.ref tt]))) := s5.sl.trans (SL.upd hDt)
          refine ⟨_, hDt, szs (by rw [List.length_map]; omega), ys2 ++ [tt], by rw [upd_same, List.map_append]; rfl, (w2.trans s5).mt hD, w3.trans sl6, ?_, ?_⟩
          · rw [upd_ne p2D]
            exact s5 _ _ w4
          · rw [hts3, List.map_append, ← List.append_assoc]
            refine psnoc (pdr sl6 w5) ⟨dr2, ?_, ?_⟩
            · rw [upd_ne (ne_of tv hDt fun z => by cases z), tv]
              show _ = some (HO.tup [V.ref dr2, V.int ((c * m : Nat) : Int)])
              rw [Int.natCast_mul]
            · exact sl6 _ _ (fun _ z => by cases z) f2
        · rintro H4 ⟨ys2, w1, w2, w3, w4, w5⟩
          rw [List.length_map, hzl, List.take_length] at w5
          refine ⟨ys2, w1, w2, ?_⟩
          have : joinA (allowedL size fl) size tabs (L.take (i2 + 1)) at1 = joinA (allowedL size fl) size tabs (L.take i2) at1 ++ (extL (allowedL size fl) (filA size tabs at1) ρ at1.2).map fun s => (s.1, c * s.2) := by
            unfold joinA
            rw [hts2, List.flatMap_append]
            simp
          rw [this]
          exact w5
      · rintro H2 ⟨ys, y1, y2, y3⟩
        rw [List.length_map, hlen, List.take_length] at y3
        exact ⟨D, _, rfl, s1.trans y2, s1.free hD, ys, y1, y3⟩
    · rintro σ H1 ⟨p, c4, rfl, s1, np, xs, hpx, hxs⟩
      have hl7 := hll xa.length
      rw [List.length_map] at hxs
      rw [hxl, List.take_length] at hxs hl7
      have hdom := lines_dom (al := allowedL size fl) (size := size) (tabs := tabs) _ (rfl : ats.length = _)
      have hpos := aw.pos
      have hv6 := varsOf_le ats
      have hvm : ∀ v ∈ varsOf ats, v ∈ ats.flatMap (·.2) := fun v hv => (mem_varsOf fun p hp => (hat p hp).2.2.2).mp hv
      have htot : totL (allowedL size fl) size tabs ats = ((lines (allowedL size fl) size tabs ats).map (·.2)).sum := rfl
      rw [htot] at k
      clear htot
      generalize lines (allowedL size fl) size tabs ats = L at hxs hl7 hdom k
      have hLl := plen hxs
      refine fun f0 nf0 => ?_
      have sf : Same H1 (upd H1 f0 (.dT [])) := Same.nw nf0
      have hf0 : (upd H1 f0 (.dT [])) f0 = some (.dT (encC [])) := upd_same
      generalize upd H1 f0 (.dT []) = H2 at sf hf0
      have s2 := s1.trans sf
      refine ⟨_, rfl, a, ats, rfl, .inl ⟨xa, s2 _ _ ha, pimp hxa fun _ _ e => e.ts s2.ts⟩, aw.ok, fun H3 pv s3 npv hpv => ?_⟩
      have s23 := s2.trans s3
      have s13 := sf.trans s3
      have hf3 := s3 _ _ hf0
      have hp3 := s13 _ _ hpx
      have hx3 := pdr s13.sl hxs
      have nf : H f0 = none := s1.free nf0
      have pvf : pv ≠ f0 := fun e => by rw [e, hf0] at npv; cases npv
      refine ⟨_, rfl, p, rfl, ⟨_, SqL.of hp3⟩, for_it (walk_list (K := K) (a := p) (xs := xs.map V.ref)) (fun i σ H4 => ∃ (c5 c6 c9 : Option V) (fd : Cnt), σ = [some (.ref q), some (.ref d), some (.ref a), some (.ref p), c4, c5, c6, some (.ref f0), some (.ref pv), c9, none, none, none] ∧
        (∀ b o, b ≠ f0 → H3 b = some o → H4 b = some o) ∧ H4 f0 = some (.dT (encC fd)) ∧ (fd.map (·.1)).Nodup ∧ (∀ l ∈ fd.map (·.1), l.length = (varsOf ats).length) ∧ fd.length ≤ i ∧ (fd.map (·.2)).sum = ((L.take i).map (·.2)).sum)
        ⟨none, none, none, [], rfl, fun _ _ _ e => e, hf3, List.nodup_nil, fun _ hl => (by cases hl), Nat.le_refl _, rfl⟩ ?_ ?_ ?_⟩
      · rintro i σ H4 _ ⟨_, _, _, _, _, fr, _⟩
        exact SqL.of (fr _ _ (fun e => by rw [e, hf3] at hp3; cases hp3) hp3)
      · rintro i x σ H4 H4' hi ⟨c5, c6, c9, fd, rfl, fr, hfd, nd, hln, hfl, hsum⟩ ⟨rfl, hx⟩
        rw [List.length_map] at hi
        obtain rfl := at_map hi hx
        have hi2 : i < L.length := by omega
        obtain ⟨dr, g1, g2⟩ := pget hx3 (List.getElem?_eq_getElem hi) (List.getElem?_eq_getElem hi2)
        have g1 := fr _ _ (ne_of g1 hf3 fun z => by cases z) g1
        have g2 := fr _ _ (ne_of g2 hf3 fun z => by cases z) g2
        have hm := List.getElem_mem hi2
        have hts := take_s hi2
        generalize L[i] = r1 at g1 g2 hm hts
        obtain ⟨ρ, c⟩ := r1
        have hρ := (hdom _ hm).2
        have hpv4 := fr _ _ pvf hpv
        refine ⟨xs[i], _, rfl, SqT.of g1, rfl, _, _, rfl, _, _, rfl, rfl, ?_⟩
        refine ⟨_, rfl, pv, rfl, ⟨_, SqL.of hpv4⟩, fun D hD => it_core (walk_list (K := K) (a := pv) (xs := (varsOf ats).map vN)) (LcI D fun j acc H5 => acc = (((varsOf ats).take j).map fun v => (rget ρ v).getD 0).map vN ∧ Same H4' H5) ⟨[], upd_same, Nat.le_refl _, rfl, Same.nw hD⟩ (fun _ H5 _ ⟨_, _, _, _, e⟩ => e.seq (SqL.of hpv4)) ?_ ?_⟩
        · rintro j x H5 H6 hj ⟨acc, h1, h2, h3', h4⟩ ⟨rfl, hx5⟩
          rw [List.length_map] at hj
          obtain rfl := at_map hj hx5
          refine ⟨rfl, lc_yes ?_⟩
          have hs := hρ _ (hvm _ (List.getElem_mem hj))
          have hget : valV (encR ρ) (Sum.inl ((varsOf ats)[j] : Int)) = some (vN ((rget ρ (varsOf ats)[j]).getD 0)) := by
            rw [encR_get]
            cases hg : rget ρ (varsOf ats)[j] with
            | none =>
              have hs2 : (rget ρ (varsOf ats)[j]).isSome = true := hs
              rw [hg] at hs2
              cases hs2
            | some y => rfl
          have hdg : DGet H6 dr (vN (varsOf ats)[j]) (some (vN ((rget ρ (varsOf ats)[j]).getD 0))) := by
            have := DGet.k (k := Sum.inl ((varsOf ats)[j] : Int)) (h4 _ _ g2)
            rw [hget] at this
            exact this
          refine ⟨_, rfl, _, rfl, dr, vN ((rget ρ (varsOf ats)[j]).getD 0), rfl, hdg, ?_⟩
          · refine lc_end h1 h2 hj (by omega) ⟨?_, h4.mt hD⟩
            rw [h3', take_s hj, List.map_append, List.map_append]
            rfl
        · rintro H5 ⟨acc, h1, h2, h3', h4⟩
          rw [List.length_map, List.take_length] at h3'
          generalize hl0 : ((varsOf ats).map fun v => (rget ρ v).getD 0) = l at h3'
          have hll0 : l.length = (varsOf ats).length := by rw [← hl0, List.length_map]
          refine ⟨D, acc, rfl, .inl ⟨SqL.of h1, fun lt nlt => ?_⟩⟩
          have s6 : Same H4' (upd H5 lt (.tup acc)) := h4.trans (Same.nw nlt)
          have hlt : (upd H5 lt (.tup acc)) lt = some (.tup ((keyL l).map kV)) := by rw [upd_same, h3', keyL_kV]
          generalize upd H5 lt (.tup acc) = H6 at s6 hlt
          have hfd6 := s6 _ _ hfd
          have hg0 : (valV (encC fd) (keyL l)).getD (.int 0) = vN (cget fd l) := by
            rw [encC_get]
            unfold cget
            cases (fd.find? fun p => decide (p.1 = l)).map (·.2) <;> rfl
          refine ⟨_, rfl, f0, rfl, .inr ⟨_, .of hfd6⟩, _, rfl, _, DGet.t hfd6 hlt, _, rfl, (cget fd l : Int), (c : Int), hg0, rfl, ?_⟩
          refine ⟨_, rfl, _, rfl, f0, _, rfl, DPut.t hfd6 hlt (szs ?_), ?_⟩
          · unfold encC
            rw [List.length_map]
            omega
          have ep : putK (encC fd) (keyL l) (.int ((cget fd l : Int) + (c : Int))) = encC (cadd fd l c) := by
            rw [cadd_put l c fd nd]
            show _ = putK (encC fd) (keyL l) (.int ((cget fd l + c : Nat) : Int))
            rw [Int.natCast_add]
          rw [ep]
          refine ⟨_, _, _, cadd fd l c, rfl, fun b o hb e => ?_, upd_same, cadd_nodup l c fd nd, fun l' hl' => ?_, Nat.le_trans (cadd_len l c fd) (by omega), ?_⟩
          · rw [upd_ne hb]
            exact s6 _ _ (fr b o hb e)
          · rcases cadd_keys l c fd l' hl' with e | e
            · rw [e, hll0]
            · exact hln l' e
          · rw [cadd_sum, hsum, hts, List.map_append, List.sum_append]
            simp
      · rintro σ H4 ⟨c5, c6, c9, fd, rfl, fr, hfd, nd, hln, hfl, hsum⟩
        rw [List.length_map, hLl] at hfl
        rw [List.length_map, hLl, List.take_length] at hsum
        have fr0 : Same H H4 := fun b o e => fr b o (fun z => by rw [z, nf] at e; cases e) (s23 b o e)
        refine ⟨_, rfl, f0, encC fd, fd.map fun p => p.1.map fun (n : Nat) => (n : Int), rfl, hfd, ?_, ?_, ⟨(varsOf ats).length, hpos, ?_⟩, fun bs ls pl hperm hbs npl => ?_⟩
        · unfold encC keyL
          rw [List.map_map, List.map_map]
          exact List.map_congr_left fun p _ => (List.map_map ..).symm
        · rw [List.length_map]
          omega
        · intro l hl
          obtain ⟨p, hp, rfl⟩ := List.mem_map.mp hl
          rw [List.length_map]
          exact hln _ (List.mem_map_of_mem hp)
        obtain ⟨nl, hnl1, hnl2⟩ := unInt hperm
        subst hnl1
        have hbl := plen hbs
        rw [List.length_map] at hbl
        have hnlen : nl.length = fd.length := by
          have := hnl2.length_eq
          rw [List.length_map] at this
          exact this
        have s5 : Same H4 (upd H4 pl (.lst (bs.map V.ref))) := Same.nw npl
        have hpl : (upd H4 pl (.lst (bs.map V.ref))) pl = some (.lst (bs.map V.ref)) := upd_same
        generalize upd H4 pl (.lst (bs.map V.ref)) = H5 at s5 hpl
        have gv : ∀ l ∈ nl, valV (encC fd) (keyL l) = some (vN (cget fd l)) := by
          intro l hl
          obtain ⟨p, hp, rfl⟩ := List.mem_map.mp (hnl2.subset hl)
          rw [encC_get]
          have h2 := cget_mem nd p hp
          unfold cget at h2 ⊢
          cases hf : (fd.find? fun q => decide (q.1 = p.1)) with
          | none =>
            have := List.find?_eq_none.mp hf p hp
            simp at this
          | some y => rfl
        refine ⟨pl, rfl, ⟨_, SqL.of hpl⟩, fun D hD => it_core (walk_list (K := K) (a := pl) (xs := bs.map V.ref)) (fun j H6 => ∃ ys : List Addr, H6 D = some (.lst (ys.map V.ref)) ∧ Same H5 H6 ∧ Paired (PKV H6) ys (encC ((nl.take j).map fun l => (l, cget fd l)))) ⟨[], upd_same, Same.nw hD, .nil⟩ (fun _ H6 _ ⟨_, _, e, _⟩ => e.seq (SqL.of hpl)) ?_ ?_⟩
        · rintro j x H6 H7 hj ⟨ys, y1, y2, y3⟩ ⟨rfl, hx⟩
          rw [List.length_map] at hj
          obtain rfl := at_map hj hx
          have hj2 : j < nl.length := by omega
          have hb := pget hbs (List.getElem?_eq_getElem hj) (by rw [List.getElem?_map, List.getElem?_eq_getElem hj2]; rfl)
          have hb : H4 bs[j] = some (.tup ((keyL nl[j]).map kV)) := by rw [hb, keyL_kV, vN_map]
          have hb7 := y2 _ _ (s5 _ _ hb)
          have hdg := DGet.t (y2 _ _ (s5 _ _ hfd)) hb7
          rw [gv _ (List.getElem_mem hj2)] at hdg
          have hyl := plen y3
          unfold encC at hyl
          rw [List.length_map, List.length_map, List.length_take] at hyl
          refine ⟨rfl, lc_yes ?_⟩
          refine ⟨_, rfl, _, rfl, _, rfl, f0, _, rfl, hdg, by show 2 ≤ sizeLine; decide, fun tt nt => ?_⟩
          obtain ⟨a1, a2, a3, a4, a5⟩ := app_new (o := HO.tup [.ref bs[j], vN (cget fd nl[j])]) y1 y2 hD nt
          refine ⟨_, a1, szs (by rw [List.length_map]; omega), ys ++ [tt], a2, a3, ?_⟩
          rw [take_s hj2, List.map_append]
          show Paired _ _ (List.map _ _)
          rw [List.map_append]
          exact psnoc (pimp y3 fun _ _ e => e.ts a4) ⟨bs[j], a5, a4 _ _ hb7⟩
        · rintro H6 ⟨ys, y1, y2, y3⟩
          rw [List.length_map, List.take_of_length_le (by omega)] at y3
          refine ⟨D, ys, _, rfl, SqL.of y1, y3, ?_, fun pd npd => ?_⟩
          · unfold encC
            rw [List.map_map, List.map_map]
            refine List.Pairwise.map _ ?_ (hnl2.nodup_iff.mpr nd)
            intro x y hxy z
            exact hxy (keyL_inj.mp z)
          · refine k _ pd (encC (nl.map fun l => (l, cget fd l))) (nl.map (cget fd)) ((fr0.trans (s5.trans y2)).trans (Same.nw npd)) ((fr0.trans (s5.trans y2)).free npd) upd_same ?_ ?_
            · unfold encC
              rw [List.map_map, List.map_map, List.map_map]
              rfl
            · rw [cget_sum nd hnl2, hsum]
end
end K16
set_option Elab.async false
set_option linter.all false
set_option maxRecDepth 100000
set_option maxHeartbeats 4000000
namespace K16
open PySem PySem.Spec PyProof.Rows L2
theorem uniq_srt {α : Type} {r : α → α → Prop} (asy : ∀ a b, r a b → ¬ r b a) : ∀ {l m : List α}, l.Pairwise r → m.Pairwise r → l.Perm m → l = m
  | [], m, _, _, p => p.nil_eq
  | a :: l, [], _, _, p => p.eq_nil
  | a :: l, b :: m, hl, hm, p => by
    obtain ⟨hl1, hl2⟩ := List.pairwise_cons.mp hl
    obtain ⟨hm1, hm2⟩ := List.pairwise_cons.mp hm
    have e : a = b := by
      rcases List.mem_cons.mp (p.subset List.mem_cons_self) with q | q
      · exact q
      · rcases List.mem_cons.mp (p.symm.subset List.mem_cons_self) with s | s
        · exact s.symm
        · exact absurd (hl1 b s) (asy _ _ (hm1 a q))
    subst e
    rw [uniq_srt asy hl2 hm2 p.cons_inv]
abbrev PN := Nat × Nat
def ltP (p q : PN) : Prop := p.1 < q.1 ∨ (p.1 = q.1 ∧ p.2 < q.2)
instance (p q : PN) : Decidable (ltP p q) := inferInstanceAs (Decidable (p.1 < q.1 ∨ (p.1 = q.1 ∧ p.2 < q.2)))
def insP (x : PN) : List PN → List PN
  | [] => [x]
  | y :: r => if ltP x y then x :: y :: r else y :: insP x r
def srtP : List PN → List PN
  | [] => []
  | x :: r => insP x (srtP r)
theorem insP_perm (x : PN) : ∀ l, (insP x l).Perm (x :: l)
  | [] => .refl _
  | y :: r => by
    show (if ltP x y then x :: y :: r else y :: insP x r).Perm _
    split
    · exact .refl _
    · exact ((insP_perm x r).cons y).trans (.swap ..)
theorem srtP_perm : ∀ l, (srtP l).Perm l
  | [] => .refl _
  | x :: r => (insP_perm x _).trans ((srtP_perm r).cons x)
theorem ltP_trans {a b c : PN} (h1 : ltP a b) (h2 : ltP b c) : ltP a c := by
  unfold ltP at *
  omega
theorem insP_pw {x : PN} : ∀ {l : List PN}, l.Pairwise ltP → x ∉ l → (insP x l).Pairwise ltP
  | [], _, _ => List.pairwise_singleton ..
  | y :: r, h, hx => by
    obtain ⟨h1, h2⟩ := List.pairwise_cons.mp h
    show (if ltP x y then x :: y :: r else y :: insP x r).Pairwise ltP
    split
    · rename_i hxy
      refine List.pairwise_cons.mpr ⟨fun z hz => ?_, h⟩
      rcases List.mem_cons.mp hz with e | e
      · rw [e]; exact hxy
      · exact ltP_trans hxy (h1 z e)
    · rename_i hxy
      have ne : x ≠ y := fun e => hx (by rw [e]; exact List.mem_cons_self)
      have hyx : ltP y x := by
        have h3 : ¬ (x.1 = y.1 ∧ x.2 = y.2) := fun e => ne (Prod.ext e.1 e.2)
        unfold ltP at hxy ⊢
        omega
      refine List.pairwise_cons.mpr ⟨fun z hz => ?_, insP_pw h2 fun e => hx (List.mem_cons_of_mem _ e)⟩
      rcases List.mem_cons.mp ((insP_perm x r).subset hz) with e | e
      · rw [e]; exact hyx
      · exact h1 z e
theorem srtP_pw : ∀ {l : List PN}, l.Nodup → (srtP l).Pairwise ltP
  | [], _ => .nil
  | x :: r, h => by
    obtain ⟨h1, h2⟩ := List.nodup_cons.mp h
    exact insP_pw (srtP_pw h2) fun e => h1 ((srtP_perm r).subset e)
def castP (e : PN) : Int × Int := ((e.1 : Int), (e.2 : Int))
theorem castP_inj {a b : PN} (h : castP a = castP b) : a = b := by
  unfold castP at h
  injection h with h1 h2
  exact Prod.ext (by omega) (by omega)
theorem srt_is {L : List PN} (nd : L.Nodup) {l : List (Int × Int)} (hp : l.Perm (L.map castP)) (hs : l.Pairwise fun x y => SrtO.lexB x y = true) : l = (srtP L).map castP := by
  refine uniq_srt (r := fun x y => SrtO.lexB x y = true) (fun a b h1 h2 => ?_) hs ?_ (hp.trans ((srtP_perm L).map castP).symm)
  · rw [SrtO.lexB_iff] at h1 h2
    omega
  · refine List.pairwise_map.mpr ((srtP_pw nd).imp fun {a b} h => ?_)
    rw [SrtO.lexB_iff]
    unfold ltP at h
    unfold castP
    omega
/-- the merges' cost: the line of lengths with their places, rows moved so far, the next place, how many at once -/
def btLoop (fan : Nat) : Nat → List PN → Nat → Nat → Nat → Nat
  | 0, _, moved, _, _ => moved
  | f + 1, L, moved, turn, many =>
    if L.length ≤ 1 then moved else btLoop fan f (srtP (L.drop many ++ [(((L.take many).map (·.1)).sum, turn)])) (moved + ((L.take many).map (·.1)).sum) (turn + 1) fan
def lineP (ls : List Nat) : List PN := srtP (ls.zip (List.range ls.length))
def firstM (many fan : Nat) : Nat := 2 + (many - 2) % (fan - 1)
def btCost (ls : List Nat) (fan : Nat) : Nat := btLoop fan ls.length (lineP ls) 0 ls.length (if 1 < ls.length then firstM ls.length fan else 0)
def costBy (many memory : Nat) : Nat := if many = 0 then 0 else many + btCost ((List.range ((many + memory - 1) / memory)).map fun i => if many - i * memory < memory then many - i * memory else memory) (memory - 1)
theorem cut_take (xs : List V) (n : Nat) : cutV xs none (some (n : Int)) = xs.take n := by
  unfold cutV
  rw [HT.sIx_none, HT.sIx_nat, List.drop_zero, Nat.sub_zero]
  by_cases h : n ≤ xs.length
  · rw [Nat.min_eq_left h]
  · rw [Nat.min_eq_right (by omega), List.take_of_length_le (Nat.le_refl _), List.take_of_length_le (by omega)]
theorem cut_drop (xs : List V) (n : Nat) : cutV xs (some (n : Int)) none = xs.drop n := by
  unfold cutV
  rw [HT.sIx_none, HT.sIx_nat]
  by_cases h : n ≤ xs.length
  · rw [Nat.min_eq_left h]
    exact List.take_of_length_le (by rw [List.length_drop]; exact Nat.le_refl _)
  · rw [Nat.min_eq_right (by omega), List.drop_of_length_le (Nat.le_refl _), List.drop_of_length_le (by omega)]
    exact List.take_nil
end K16
set_option Elab.async false
set_option linter.all false
set_option maxRecDepth 100000
set_option maxHeartbeats 4000000
namespace K16
open PySem PySem.Spec PyProof.Rows L2
section
variable {P : Program} {w : World} {K : PySem.W.Frag} {mg : Str → Option Value} {base : Heap} {CS CD CQ : Addr}
/-! ### rows_of -/
/-- the chosen atoms -/
def pick (ats : List (Nat × List Nat)) (e : List Nat) : List (Nat × List Nat) := e.map fun i => (ats[i]?).getD (0, [])
def spRowsOf (CS CD CQ : Addr) : Sp := fun vs H Q _ => ∃ (q d e : Addr) (size : Nat) (widths : List Nat) (ats fl : List (Nat × List Nat)) (tabs : List (List Nat)) (el : List Nat), vs = [.ref q, .ref d, .ref e] ∧ QryAt CQ CS H q size widths ats fl ∧ DatAt CD CS H d size widths tabs ∧ TabOk size widths tabs ∧ size ≤ 3 ∧ fl.length ≤ 6 ∧
  TN H e el ∧ (∀ i ∈ el, i < ats.length) ∧ AtW widths ats ∧ 1 ≤ el.length ∧ el.length ≤ 3 ∧
  ∀ H' p (kvs : List (List Key × V)) (ns : List Nat), Same H H' → H p = none → H' p = some (.dT kvs) → kvs.map (·.2) = ns.map vN → ns.sum = totL (allowedL size fl) size tabs (pick ats el) → Q (.ref p) H'
theorem pick_ok {widths : List Nat} {ats : List (Nat × List Nat)} (aw : AtW widths ats) {el : List Nat} (hi : ∀ i ∈ el, i < ats.length) (h1 : 1 ≤ el.length) (h3 : el.length ≤ 3) : AtW widths (pick ats el) := by
  unfold pick
  refine ⟨by rw [List.length_map]; exact h1, by rw [List.length_map]; exact h3, fun p hp => ?_⟩
  obtain ⟨i, hm, rfl⟩ := List.mem_map.mp hp
  rw [List.getElem?_eq_getElem (hi i hm)]
  exact aw.2.2 _ (List.getElem_mem _)
/-- [query.atoms[atom] for atom in early] -/
theorem pick_snoc {ats : List (Nat × List Nat)} {el : List Nat} {j : Nat} (hj : j < el.length) : pick ats (el.take (j + 1)) = pick ats (el.take j) ++ [(ats[el[j]]?).getD (0, [])] := by
  unfold pick
  rw [take_s hj, List.map_append]
  rfl
theorem sc_rows_of : FnScope ["query", "data", "early", "atom"] ["query", "data", "early"] (defScope s_rows_of) := ⟨rfl, rfl, rfl, by decide +kernel, rfl, by decide +kernel, by decide +kernel⟩
theorem ok_rows_of (T : Tx K mg) (Z : Cs K mg CS CD CQ) (h : Has K mg "rows_of" s_rows_of) (c_rows_after : Cal P w K mg base 5 "rows_after" (spRowsAfter CS CD CQ)) : Cal P w K mg base 6 "rows_of" (spRowsOf CS CD CQ) := by
  refine cal_of h sc_rows_of (fun _ _ _ _ _ _ us hl => match us, hl with | [_, _, _], _ => rfl) (fun vs H Q E h => ?_) (fun f cdv A outer s H vs Q E hr h => ?_)
  · obtain ⟨_, _, _, _, _, _, _, _, _, rfl, _⟩ := h
    rfl
  · obtain ⟨q, d, e, size, widths, ats, fl, tabs, el, rfl, hQ, hD0, tok, h3, f6, he, hi, aw, e1, e3, k⟩ := h
    obtain ⟨dx, sq, a, fa, sh, hq, hS, ⟨xa, ha, hxa⟩, _⟩ := id hQ
    have hxl := plen hxa
    refine ⟨_, (pss_one (ps_ret (pc c_rows_after hr (by decide) (by rfl) (pa_cons (pv 0) (pa_cons (pv 1) (pa_cons (pe_lc (own := [("atom", 3)]) (by rfl) sc_rows_of.nd (kpt K (pv 2)) (blkOk_by (own := [("atom", 3)]) (N := ["query", "data", "early", "atom"]) (sc := defScope s_rows_of) (by decide +kernel)) (fun _ _ _ _ _ => (pg_name (i := 3) sc_rows_of.nd rfl (Or.inl rfl))) (fun _ _ _ _ _ => pts_nil) (fun _ _ _ _ _ => (pe_ix (kixT K) (kfld K (pv 0) rfl) (pv 3) (fun _ _ => rfl)))) pa_nil)))))), ?_⟩
    refine ⟨_, rfl, _, rfl, _, rfl, e, rfl, ⟨_, SqT.of he⟩, fun D hD => it_core (walk_tup (K := K) (a := e) (xs := el.map vN)) (fun j H2 => ∃ ys : List Addr, H2 D = some (.lst (ys.map V.ref)) ∧ Same H H2 ∧ Paired (PR H) ys (pick ats (el.take j))) ⟨[], upd_same, Same.nw hD, .nil⟩ (fun _ H2 _ ⟨_, _, e, _⟩ => e.tp (SqT.of he)) ?_ ?_⟩
    · rintro j x H2 H3 hj ⟨ys, y1, y2, y3⟩ ⟨rfl, hx⟩
      rw [List.length_map] at hj
      obtain rfl := at_map hj hx
      have hij := hi _ (List.getElem_mem hj)
      have hyl := plen y3
      unfold pick at hyl
      rw [List.length_map, List.length_take] at hyl
      refine ⟨rfl, lc_yes ?_⟩
      refine ⟨_, rfl, q, CQ, dx, _, _, rfl, y2 _ _ hq, Z.clQ, Z.nQa, rfl, _, rfl, a, _, (el[j] : Int), .ref (xa[el[j]]'(by omega)), rfl, rfl, SqT.of (y2 _ _ ha), atI_nat (by rw [List.getElem?_map, List.getElem?_eq_getElem (by omega)]; rfl), ?_⟩
      refine ⟨_, y1, szs (by rw [List.length_map]; omega), ys ++ [xa[el[j]]'(by omega)], by rw [upd_same, List.map_append]; rfl, y2.mt hD, ?_⟩
      rw [pick_snoc hj]
      refine psnoc y3 ?_
      rw [List.getElem?_eq_getElem hij]
      exact pget hxa (List.getElem?_eq_getElem (by omega)) (List.getElem?_eq_getElem hij)
    · rintro H2 ⟨ys, y1, y2, y3⟩
      rw [List.length_map, List.take_length] at y3
      exact ⟨q, d, D, size, widths, ats, fl, _, tabs, rfl, hQ.sd y2.sd, hD0.sd y2.sd, tok, h3, f6, ⟨ys, y1, pimp y3 fun _ _ e => e.ts y2.ts⟩, pick_ok aw hi e1 e3, fun H' p kvs ns s' np => k H' p kvs ns (y2.trans s') (y2.free np)⟩
/-! ### is_order, check_order, check_memory -/
def spIsOrder (CS CQ : Addr) : Sp := fun vs H Q _ => ∃ (q e : Addr) (size : Nat) (widths : List Nat) (ats fl : List (Nat × List Nat)) (el : List Nat), vs = [.ref q, .ref e] ∧ QryAt CQ CS H q size widths ats fl ∧ TN H e el ∧ (∀ i ∈ el, i < ats.length) ∧ el.Nodup ∧ el.length = ats.length ∧ ats.length ≤ 4 ∧ ∀ H', Same H H' → Q (.bl true) H'
theorem sc_is_order : FnScope ["query", "thing", "atom"] ["query", "thing"] (defScope s_is_order) := ⟨rfl, rfl, rfl, by decide +kernel, rfl, by decide +kernel, by decide +kernel⟩
theorem ok_is_order (T : Tx K mg) (Z : Cs K mg CS CD CQ) (h : Has K mg "is_order" s_is_order) (c_is_number : Cal P w K mg base 1 "is_number" spIsNumber) : Cal P w K mg base 2 "is_order" (spIsOrder CS CQ) := by
  refine cal_of h sc_is_order (fun _ _ _ _ _ _ us hl => match us, hl with | [_, _], _ => rfl) (fun vs H Q E h => ?_) (fun f cdv A outer s H vs Q E hr h => ?_)
  · obtain ⟨_, _, _, _, _, _, _, rfl, _⟩ := h
    rfl
  · obtain ⟨q, e, size, widths, ats, fl, el, rfl, hQ, he, hi, nd, hl, h4, k⟩ := h
    obtain ⟨dx, sq, a, fa, sh, hq, hS, ⟨xa, ha, hxa⟩, _⟩ := id hQ
    have hxl := plen hxa
    refine ⟨_, (pss_cons (ps_if (PW.pt (pw_or (pt_not (pt_val (pe_callB (kisi K) (by rfl) T.bIsinstance (by decide +kernel) (pa_cons (pv 1) (pa_cons (pe_bltn (v := .ty "tuple") (by rfl) T.bTuple (by decide +kernel) rfl) pa_nil))))) (pw_or1 (pt_not (pt_val (pe_callB (kall K rfl) (by rfl) T.bAll (by decide +kernel) (pa_cons (pe_lc (own := [("atom", 2)]) (by rfl) sc_is_order.nd (kpt K (pv 1)) (blkOk_by (own := [("atom", 2)]) (N := ["query", "thing", "atom"]) (sc := defScope s_is_order) (by decide +kernel)) (fun _ _ _ _ _ => (pg_name (i := 2) sc_is_order.nd rfl (Or.inl rfl))) (fun _ _ _ _ _ => pts_nil) (fun _ _ _ _ _ => (pc c_is_number hr (by decide) (by rfl) (pa_cons (pv 2) (pa_cons pe_int (pa_cons (pe_op op_sub (pe_callB (klen K) (by rfl) T.bLen (by decide +kernel) (pa_cons (kfld K (pv 0) rfl) pa_nil)) pe_int) pa_nil)))))) pa_nil))))))) (pss_one (ps_ret pe_bl)) pss_nil)
      (pss_one (ps_ret (pe_and (pe_cmpR op_eq (pe_callB (klen K) (by rfl) T.bLen (by decide +kernel) (pa_cons (pv 1) pa_nil)) (pe_callB (klen K) (by rfl) T.bLen (by decide +kernel) (pa_cons (kfld K (pv 0) rfl) pa_nil)) (nomark _)) (pe_one (pe_cmpR op_eq (pe_callB cr_lenSet (by rfl) T.bLen (by decide +kernel) (pa_cons (pe_callTy (ksetT K rfl) (by rfl) T.bSet (by decide +kernel) (pa_cons (pv 1) pa_nil)) pa_nil)) (pe_callB (klen K) (by rfl) T.bLen (by decide +kernel) (pa_cons (pv 1) pa_nil)) (nomark _))))))), ?_⟩
    refine ⟨_, rfl, _, _, .type "tuple", .type "tuple", true, rfl, .ty _, .base (.tup he), kit_ty (by decide +kernel), true, rfl, iteF ?_⟩
    refine ⟨_, rfl, e, rfl, ⟨_, SqT.of he⟩, fun D hD => it_core walk_tup (LcI D fun i acc H4 => acc = List.replicate i (.bl true) ∧ Same H H4) ⟨[], upd_same, Nat.le_refl _, rfl, Same.nw hD⟩ (fun i H4 _ ⟨acc, _, _, _, e⟩ => e.tp (SqT.of he)) ?_ ?_⟩
    · rintro i x H4 H5 hj ⟨acc, h1, h2, h3, h4'⟩ ⟨rfl, hxx⟩
      rw [List.length_map] at hj
      obtain rfl := at_map hj hxx
      refine ⟨rfl, lc_yes ?_⟩
      have := hi _ (List.getElem_mem hj)
      refine ⟨_, rfl, _, rfl, q, CQ, dx, _, _, rfl, h4' _ _ hq, Z.clQ, Z.nQa, rfl, a, _, rfl, .inr (SqT.of (h4' _ _ ha)), _, _, rfl, rfl, (el[i] : Int), 0, _, rfl, by omega, by rw [List.length_map]; omega, ?_⟩
      exact lc_end h1 h2 hj (by omega) ⟨by rw [h3, List.replicate_succ'], h4'.mt hD⟩
    · rintro H4 ⟨acc, h1, h2, h3, h4'⟩
      refine ⟨D, List.replicate el.length true, rfl, .inl (.inl ?_), true, by simp, iteF ?_⟩
      · rw [h1, h3, List.length_map, List.map_replicate]
      have he4 := h4' _ _ he
      refine ⟨_, rfl, e, _, rfl, .inr (SqT.of he4), _, rfl, q, CQ, dx, _, _, rfl, h4' _ _ hq, Z.clQ, Z.nQa, rfl, a, _, rfl, .inr (SqT.of (h4' _ _ ha)), rfl, ?_⟩
      refine ⟨_, rfl, itT (decide_eq_true (by rw [List.length_map, List.length_map, hl, hxl])) ?_⟩
      have ei : el.map vN = (el.map fun (n : Nat) => (n : Int)).map V.int := vN_map _
      have el' : (el.map fun (n : Nat) => (n : Int)).length = el.length := List.length_map ..
      refine ⟨_, rfl, e, el.map fun (n : Nat) => (n : Int), rfl, SqT.of (by rw [← ei]; exact he4), by omega, ?_, fun b S nb => ?_⟩
      · refine List.Pairwise.map _ (fun a b hab => ?_) nd
        omega
      refine ⟨b, S, _, rfl, upd_same, ?_⟩
      have s5 := h4'.trans (Same.nw (o := SetO w b S (el.map fun (n : Nat) => (n : Int)).length) nb)
      refine ⟨_, rfl, e, _, rfl, .inr (SqT.of (s5 _ _ he)), rfl, ?_⟩
      show Q (.bl (decide (vN (el.map fun (n : Nat) => (n : Int)).length = vN (el.map vN).length))) _
      rw [el'] at s5 ⊢
      rw [List.length_map, decide_eq_true rfl]
      exact k _ s5
def spCheckOrder (CS CQ : Addr) : Sp := fun vs H Q _ => ∃ (q e : Addr) (size : Nat) (widths : List Nat) (ats fl : List (Nat × List Nat)) (el : List Nat), vs = [.ref q, .ref e] ∧ QryAt CQ CS H q size widths ats fl ∧ TN H e el ∧ (∀ i ∈ el, i < ats.length) ∧ el.Nodup ∧ el.length = ats.length ∧ ats.length ≤ 4 ∧ ∀ H', Same H H' → Q .non H'
theorem sc_check_order : FnScope ["query", "order"] ["query", "order"] (defScope s_check_order) := ⟨rfl, rfl, rfl, by decide +kernel, rfl, by decide +kernel, by decide +kernel⟩
theorem ok_check_order (T : Tx K mg) (Z : Cs K mg CS CD CQ) (h : Has K mg "check_order" s_check_order) (c_is_order : Cal P w K mg base 2 "is_order" (spIsOrder CS CQ)) : Cal P w K mg base 3 "check_order" (spCheckOrder CS CQ) := by
  refine cal_of h sc_check_order (fun _ _ _ _ _ _ us hl => match us, hl with | [_, _], _ => rfl) (fun vs H Q E h => ?_) (fun f cdv A outer s H vs Q E hr h => ?_)
  · obtain ⟨_, _, _, _, _, _, _, rfl, _⟩ := h
    rfl
  · obtain ⟨q, e, size, widths, ats, fl, el, rfl, hQ, he, hi, nd, hl, h4, k⟩ := h
    refine ⟨_, (pss_one (ps_if (pt_not (pt_val (pc c_is_order hr (by decide) (by rfl) (pa_cons (pv 0) (pa_cons (pv 1) pa_nil))))) (pss_one ps_never) pss_nil)), ?_⟩
    exact ⟨_, rfl, _, rfl, q, e, size, widths, ats, fl, el, rfl, hQ, he, hi, nd, hl, h4, fun H' s' => ⟨true, rfl, iteF (k H' s')⟩⟩
def spCheckMemory : Sp := fun vs H Q _ => ∃ m : Nat, vs = [vN m] ∧ 3 ≤ m ∧ m ≤ 8 ∧ Q .non H
theorem sc_check_memory : FnScope ["memory"] ["memory"] (defScope s_check_memory) := ⟨rfl, rfl, rfl, by decide +kernel, rfl, by decide +kernel, by decide +kernel⟩
theorem ok_check_memory (T : Tx K mg) (h : Has K mg "check_memory" s_check_memory) (c_is_number : Cal P w K mg base 1 "is_number" spIsNumber) : Cal P w K mg base 2 "check_memory" spCheckMemory := by
  refine cal_of h sc_check_memory (fun _ _ _ _ _ _ us hl => match us, hl with | [_], _ => rfl) (fun vs H Q E h => ?_) (fun f cdv A outer s H vs Q E hr h => ?_)
  · obtain ⟨_, rfl, _⟩ := h
    rfl
  · obtain ⟨m, rfl, h1, h2, k⟩ := h
    refine ⟨_, (pss_one (ps_if (pt_not (pt_val (pc c_is_number hr (by decide) (by rfl) (pa_cons (pv 0) (pa_cons pe_int (pa_cons (pgi T.iMemory (by rfl)) pa_nil)))))) (pss_one ps_never) pss_nil)), ?_⟩
    exact ⟨_, rfl, (m : Int), 3, 8, rfl, by omega, by omega, true, rfl, iteF k⟩
/-! ### first_many -/
def spFirstMany : Sp := fun vs H Q _ => ∃ n fan : Nat, vs = [vN n, vN fan] ∧ 2 ≤ n ∧ 2 ≤ fan ∧ Q (vN (firstM n fan)) H
theorem sc_first_many : FnScope ["many", "fan"] ["many", "fan"] (defScope s_first_many) := ⟨rfl, rfl, rfl, by decide +kernel, rfl, by decide +kernel, by decide +kernel⟩
theorem ok_first_many (T : Tx K mg) (h : Has K mg "first_many" s_first_many) : Cal P w K mg base 1 "first_many" spFirstMany := by
  refine cal_of h sc_first_many (fun _ _ _ _ _ _ us hl => match us, hl with | [_, _], _ => rfl) (fun vs H Q E h => ?_) (fun f cdv A outer s H vs Q E hr h => ?_)
  · obtain ⟨_, _, rfl, _⟩ := h
    rfl
  · obtain ⟨n, fan, rfl, h1, h2, k⟩ := h
    refine ⟨_, (pss_one (ps_ret (pe_op op_add pe_int (pe_op op_modN (pe_op op_sub (pv 0) pe_int) (pe_op op_sub (pv 1) pe_int))))), ?_⟩
    refine ⟨_, rfl, _, _, rfl, rfl, _, rfl, _, _, rfl, rfl, _, _, rfl, rfl, by show ((fan : Int) - 1) ≠ 0; omega, _, _, rfl, rfl, ?_⟩
    have e : (2 + ((n : Int) - 2).fmod ((fan : Int) - 1)) = ((firstM n fan : Nat) : Int) := by
      unfold firstM
      rw [Int.fmod_eq_emod_of_nonneg _ (by omega), Int.natCast_add, Int.natCast_emod]
      have a1 : ((n - 2 : Nat) : Int) = (n : Int) - 2 := by omega
      have a2 : ((fan - 1 : Nat) : Int) = (fan : Int) - 1 := by omega
      rw [a1, a2]
      rfl
    show Q (.int (2 + ((n : Int) - 2).fmod ((fan : Int) - 1))) H
    rw [e]
    exact k
end
end K16
set_option Elab.async false
set_option linter.all false
set_option maxRecDepth 100000
set_option maxHeartbeats 4000000
namespace K16
open PySem PySem.Spec PyProof.Rows L2
section
variable {P : Program} {w : World} {K : PySem.W.Frag} {mg : Str → Option Value} {base : Heap} {CS CD CQ : Addr}
/-! ### best_tree -/
abbrev Tri := Addr × (Int × Int) × V
def TriAt (H : Hp) (xs : List Tri) : Prop := ∀ x ∈ xs, H x.1 = some (.tup [.int x.2.1.1, .int x.2.1.2, x.2.2])
theorem TriAt.ts {H H' : Hp} {xs : List Tri} (e : TS H H') (h : TriAt H xs) : TriAt H' xs := fun x hx => e _ _ (h x hx)
def spBestTree : Sp := fun vs H Q _ => ∃ (a : Addr) (ls : List Nat) (fan : Nat), vs = [.ref a, vN fan] ∧ LN H a ls ∧ 1 ≤ ls.length ∧ ls.length ≤ 60 ∧ 2 ≤ fan ∧
  ∀ H' p x, Same H H' → H p = none → H' p = some (.tup [x, vN (btCost ls fan)]) → Q (.ref p) H'
theorem mem_zip_range {ls : List Nat} : (ls.zip (List.range ls.length)).map (·.2) = List.range ls.length := List.map_snd_zip (by rw [List.length_range]; exact Nat.le_refl _)
theorem while0 {c : TT} {tb : L2.TS} {D : Ends} {σ : L2.St} {H : Hp} (h : ∀ R : Bool → Hp → Prop, R false H → c σ H R) (hn : D.nx σ H) : tWhile c tb D σ H :=
  ⟨fun _ σ' H' => σ' = σ ∧ H' = H, ⟨0, rfl, rfl⟩, by
    rintro m _ _ ⟨rfl, rfl⟩
    exact h _ (iteF hn)⟩
theorem sc_best_tree : FnScope ["lengths", "fan", "line", "moved", "turn", "many", "taken", "whole", "at", "length", "late", "tree"] ["lengths", "fan"] (defScope s_best_tree) := ⟨rfl, rfl, rfl, by decide +kernel, rfl, by decide +kernel, by decide +kernel⟩
theorem ok_best_tree (T : Tx K mg) (h : Has K mg "best_tree" s_best_tree) (c_first_many : Cal P w K mg base 1 "first_many" spFirstMany) : Cal P w K mg base 2 "best_tree" spBestTree := by
  refine cal_of h sc_best_tree (fun _ _ _ _ _ _ us hl => match us, hl with | [_, _], _ => rfl) (fun vs H Q E h => ?_) (fun f cdv A outer s H vs Q E hr h => ?_)
  · obtain ⟨_, _, _, rfl, _⟩ := h
    rfl
  · obtain ⟨a, ls, fan, rfl, ha, l1, l60, f2, k⟩ := h
    refine ⟨_, (pss_cons (ps_set (i := 2) sc_best_tree.nd rfl (Or.inl rfl) (pe_callB (ksortTri K rfl) (by rfl) T.bSorted (by decide +kernel) (pa_cons (pe_lc (own := [("at", 8), ("length", 9)]) (by rfl) sc_best_tree.nd (kenum K (by rfl) T.bEnumerate (pa_cons (pv 0) pa_nil)) (blkOk_by (own := [("at", 8), ("length", 9)]) (N := ["lengths", "fan", "line", "moved", "turn", "many", "taken", "whole", "at", "length", "late", "tree"]) (sc := defScope s_best_tree) (by decide +kernel)) (fun _ _ _ _ _ => (kgtup K (n := 2) rfl (pgs_cons (pg_name (i := 8) sc_best_tree.nd rfl (Or.inl rfl)) (pgs_cons (pg_name (i := 9) sc_best_tree.nd rfl (Or.inl rfl)) pgs_nil)))) (fun _ _ _ _ _ => pts_nil) (fun _ _ _ _ _ => (pe_tup (pa_cons (pv 9) (pa_cons (pv 8) (pa_cons (pv 8) pa_nil)))))) pa_nil)))
      (pss_cons (ps_par3 (i := 3) (j := 4) (l := 5) (by rfl) sc_best_tree.nd rfl rfl rfl (by decide) (by decide) (by decide) rfl rfl rfl (pa_cons pe_int (pa_cons (pe_callB (klen K) (by rfl) T.bLen (by decide +kernel) (pa_cons (pv 0) pa_nil)) (pa_cons (pe_ifExp (pt_cmpR op_gt (pe_callB (klen K) (by rfl) T.bLen (by decide +kernel) (pa_cons (pv 0) pa_nil)) pe_int (nomark _)) (pc c_first_many hr (by decide) (by rfl) (pa_cons (pe_callB (klen K) (by rfl) T.bLen (by decide +kernel) (pa_cons (pv 0) pa_nil)) (pa_cons (pv 1) pa_nil))) pe_int) pa_nil))) (by rfl))
      (pss_cons (ps_while PassesOwn.never (pt_cmpR op_gt (pe_callB (klen K) (by rfl) T.bLen (by decide +kernel) (pa_cons (pv 2) pa_nil)) pe_int (nomark _)) (pss_cons (ps_par (i := 6) (j := 2) (by rfl) sc_best_tree.nd rfl rfl (by decide) rfl rfl (pa_cons (pe_slice (kslL K) (pv 2) po_none (po_some (pv 5))) (pa_cons (pe_slice (kslL K) (pv 2) (po_some (pv 5)) po_none) pa_nil)) (by rfl))
      (pss_cons (ps_set (i := 7) sc_best_tree.nd rfl (Or.inl rfl) (pe_callB (ksum K rfl) (by rfl) T.bSum (by decide +kernel) (pa_cons (pe_lc (own := [("length", 9), ("late", 10), ("tree", 11)]) (by rfl) sc_best_tree.nd (kpl K (pv 6)) (blkOk_by (own := [("length", 9), ("late", 10), ("tree", 11)]) (N := ["lengths", "fan", "line", "moved", "turn", "many", "taken", "whole", "at", "length", "late", "tree"]) (sc := defScope s_best_tree) (by decide +kernel)) (fun _ _ _ _ _ => (kgtup K (n := 3) rfl (pgs_cons (pg_name (i := 9) sc_best_tree.nd rfl (Or.inl rfl)) (pgs_cons (pg_name (i := 10) sc_best_tree.nd rfl (Or.inl rfl)) (pgs_cons (pg_name (i := 11) sc_best_tree.nd rfl (Or.inl rfl)) pgs_nil))))) (fun _ _ _ _ _ => pts_nil) (fun _ _ _ _ _ => (pv 9))) pa_nil)))
      (pss_cons (ps_set (i := 2) sc_best_tree.nd rfl (Or.inl rfl) (pe_callB (ksortTri K rfl) (by rfl) T.bSorted (by decide +kernel) (pa_cons (pe_lst (kstar K (pv 2) (pa_cons (pe_tup (pa_cons (pv 7) (pa_cons (pv 4) (pa_cons (pe_callTy (ktupOf K) (by rfl) T.bTuple (by decide +kernel) (pa_cons (pe_lc (own := [("length", 9), ("late", 10), ("tree", 11)]) (by rfl) sc_best_tree.nd (kpl K (pv 6)) (blkOk_by (own := [("length", 9), ("late", 10), ("tree", 11)]) (N := ["lengths", "fan", "line", "moved", "turn", "many", "taken", "whole", "at", "length", "late", "tree"]) (sc := defScope s_best_tree) (by decide +kernel)) (fun _ _ _ _ _ => (kgtup K (n := 3) rfl (pgs_cons (pg_name (i := 9) sc_best_tree.nd rfl (Or.inl rfl)) (pgs_cons (pg_name (i := 10) sc_best_tree.nd rfl (Or.inl rfl)) (pgs_cons (pg_name (i := 11) sc_best_tree.nd rfl (Or.inl rfl)) pgs_nil))))) (fun _ _ _ _ _ => pts_nil) (fun _ _ _ _ _ => (pv 11))) pa_nil)) pa_nil)))) pa_nil))) pa_nil)))
      (pss_one (ps_par3 (i := 3) (j := 4) (l := 5) (by rfl) sc_best_tree.nd rfl rfl rfl (by decide) (by decide) (by decide) rfl rfl rfl (pa_cons (pe_op op_add (pv 3) (pv 7)) (pa_cons (pe_op op_add (pv 4) pe_int) (pa_cons (pv 1) pa_nil))) (by rfl)))))))
      (pss_one (ps_ret (pe_tup (pa_cons (pe_ix (kixT K) (pe_ix (kixL K) (pv 2) pe_int (fun _ _ => rfl)) pe_int (fun _ _ => rfl)) (pa_cons (pv 3) pa_nil)))))))), ?_⟩
    -- the triples
    have zlen : (ls.zip (List.range ls.length)).length = ls.length := by rw [List.length_zip, List.length_range]; omega
    refine ⟨_, rfl, a, _, rfl, SqL.of ha, fun D hD => it_core (walk_enum (K := K) (a := a) (xs := ls.map vN)) (fun i H2 => ∃ ys : List Tri, H2 D = some (.lst (ys.map fun x => V.ref x.1)) ∧ Same H H2 ∧ TriAt H2 ys ∧ ys.map (·.2.1) = ((ls.zip (List.range ls.length)).take i).map castP) ⟨[], upd_same, Same.nw hD, fun _ hx => (by cases hx), rfl⟩ (fun _ H2 _ ⟨_, _, e, _⟩ => e.seq (SqL.of ha)) ?_ ?_⟩
    · rintro i x H2 H3 hi ⟨ys, y1, y2, y3, y4⟩ ⟨tp, x1, x2, rfl, ntp, rfl, e1, e2⟩
      rw [List.length_map] at hi
      cases e1
      obtain rfl := at_map hi e2
      have hyl : ys.length = i := by
        have := congrArg List.length y4
        rw [List.length_map, List.length_map, List.length_take, zlen] at this
        omega
      have s3 : Same H2 (upd H2 tp (.tup [vN i, vN ls[i]])) := Same.nw ntp
      refine ⟨tp, _, rfl, SqT.of upd_same, rfl, _, _, rfl, _, _, rfl, rfl, rfl, lc_yes ?_⟩
      refine ⟨_, rfl, _, rfl, _, rfl, by show 3 ≤ sizeLine; decide, fun tt nt => ?_⟩
      have y1' := s3 _ _ y1
      generalize upd H2 tp (.tup [vN i, vN ls[i]]) = H4 at s3 y1' nt
      have s4 : Same H4 (upd H4 tt (.tup [vN ls[i], vN i, vN i])) := Same.nw nt
      have tv : (upd H4 tt (.tup [vN ls[i], vN i, vN i])) tt = some (.tup [vN ls[i], vN i, vN i]) := upd_same
      have y1'' := s4 _ _ y1'
      have ttD : tt ≠ D := fun e => by rw [e, y1'] at nt; cases nt
      generalize upd H4 tt (.tup [vN ls[i], vN i, vN i]) = H5 at s4 tv y1''
      have ts5 : TS H2 (upd H5 D (.lst (ys.map (fun x => V.ref x.1) ++ [.ref tt]))) := (s3.trans s4).ts.trans (TS.updL y1'')
      refine ⟨_, y1'', szs (by rw [List.length_map]; omega), ys ++ [(tt, ((ls[i] : Int), (i : Int)), vN i)], ?_, (y2.trans (s3.trans s4)).mt hD, ?_, ?_⟩
      · rw [upd_same, List.map_append]
        rfl
      · intro x hx
        rcases List.mem_append.mp hx with q | q
        · exact ts5 _ _ (y3 x q)
        · rw [List.mem_singleton.mp q, upd_ne ttD]
          exact tv
      · rw [take_s (by omega), List.map_append, List.map_append, y4]
        simp [castP]
    · rintro H2 ⟨ys, y1, y2, y3, y4⟩
      rw [List.length_map, List.take_of_length_le (by omega)] at y4
      have nd0 : (ls.zip (List.range ls.length)).Nodup := by
        have h1 : ((ls.zip (List.range ls.length)).map (·.2)).Nodup := by rw [mem_zip_range]; exact List.nodup_range
        exact (List.pairwise_map.mp h1).imp fun h e => h (by rw [e])
      have hyl : ys.length = ls.length := by
        have := congrArg List.length y4
        rw [List.length_map, List.length_map, zlen] at this
        exact this
      refine ⟨D, ys, rfl, SqL.of y1, y3, ?_, by omega, fun zs p zp zw np => ?_⟩
      · show (ys.map (·.2.1)).Nodup
        rw [y4]
        exact List.Pairwise.map _ (fun a b h e => h (castP_inj e)) nd0
      have hz : zs.map (·.2.1) = (lineP ls).map castP := srt_is nd0 (by rw [← y4]; exact zp.map _) (List.pairwise_map.mpr zw)
      have hzl : zs.length = ls.length := by rw [zp.length_eq]; exact hyl
      have s3 : Same H2 (upd H2 p (.lst (zs.map fun x => V.ref x.1))) := Same.nw np
      have hp3 : (upd H2 p (.lst (zs.map fun x => V.ref x.1))) p = some (.lst (zs.map fun x => V.ref x.1)) := upd_same
      have ht3 : TriAt (upd H2 p (.lst (zs.map fun x => V.ref x.1))) zs := fun x hx => s3 _ _ (y3 x (zp.subset hx))
      have s03 := y2.trans s3
      generalize upd H2 p (.lst (zs.map fun x => V.ref x.1)) = H3 at s3 hp3 ht3 s03
      have ha3 := s03 _ _ ha
      refine ⟨_, rfl, a, _, rfl, .inl (SqL.of ha3), _, rfl, a, _, rfl, .inl (SqL.of ha3), _, _, rfl, rfl, _, rfl, ?_⟩
      rw [List.length_map]
      by_cases hl : 1 < ls.length
      · refine itT (decide_eq_true (by omega)) ?_
        refine ⟨_, rfl, a, _, rfl, .inl (SqL.of ha3), _, rfl, ls.length, fan, by rw [List.length_map]; rfl, hl, f2, _, _, _, rfl, ?_⟩
        refine ⟨fun m σ H4 => ∃ (p : Addr) (xs : List Tri) (L : List PN) (moved turn many fuel : Nat) (c6 c7 : Option V), m = L.length ∧ σ = [some (.ref a), some (vN fan), some (.ref p), some (vN moved), some (vN turn), some (vN many), c6, c7, none, none, none, none] ∧ Same H H4 ∧ H4 p = some (.lst (xs.map fun x => V.ref x.1)) ∧ TriAt H4 xs ∧ xs.map (·.2.1) = L.map castP ∧
          (L.map (·.2)).Nodup ∧ (∀ e ∈ L, e.2 < turn) ∧ 2 ≤ many ∧ 1 ≤ L.length ∧ L.length ≤ 60 ∧ L.length ≤ fuel ∧ btLoop fan fuel L moved turn many = btCost ls fan, ⟨_, p, zs, lineP ls, 0, ls.length, firstM ls.length fan, ls.length, none, none, rfl, rfl, s03, hp3, ht3, hz, ?_, ?_, ?_, ?_, ?_, ?_, ?_⟩, ?_⟩
        · refine ((srtP_perm _).map (·.2)).nodup_iff.mpr ?_
          rw [mem_zip_range]
          exact List.nodup_range
        · intro e he
          have h1 : e ∈ ls.zip (List.range ls.length) := (srtP_perm _).subset he
          exact List.mem_range.mp (List.of_mem_zip (a := e.1) (b := e.2) h1).2
        · unfold firstM
          omega
        · rw [show (lineP ls).length = (ls.zip (List.range ls.length)).length from (srtP_perm _).length_eq, zlen]
          exact l1
        · rw [show (lineP ls).length = (ls.zip (List.range ls.length)).length from (srtP_perm _).length_eq, zlen]
          exact l60
        · rw [show (lineP ls).length = (ls.zip (List.range ls.length)).length from (srtP_perm _).length_eq, zlen]
          exact Nat.le_refl _
        · unfold btCost
          rw [if_pos hl]
        · rintro m σ H4 ⟨p, xs, L, moved, turn, many, fuel, c6, c7, rfl, rfl, s4, hp, hx, hL, nd, ht, m2, L1, L60, hfu, hbt⟩
          have hxl : xs.length = L.length := by
            have := congrArg List.length hL
            rw [List.length_map, List.length_map] at this
            exact this
          refine ⟨_, rfl, p, _, rfl, .inl (SqL.of hp), _, _, rfl, rfl, _, rfl, ?_⟩
          rw [List.length_map, hxl]
          by_cases hl1 : 1 < L.length
          · refine itT (decide_eq_true (by omega)) ?_
            refine ⟨fun σ' H' => ∃ m', m' < L.length ∧ _, fun _ _ h => h, ?_⟩
            cases fuel with
            | zero => omega
            | succ fuel =>
            have hbt2 : btLoop fan fuel (srtP (L.drop many ++ [(((L.take many).map (·.1)).sum, turn)])) (moved + ((L.take many).map (·.1)).sum) (turn + 1) fan = btCost ls fan := by
              rw [← hbt]
              exact (if_neg (by omega)).symm
            -- taken, line
            refine ⟨_, rfl, _, rfl, (many : Int), rfl, p, _, rfl, SqL.of hp, fun p6 n6 => ?_⟩
            rw [cut_take, ← List.map_take]
            have s6 : Same H4 (upd H4 p6 (.lst ((xs.take many).map fun x => V.ref x.1))) := Same.nw n6
            have h6 : (upd H4 p6 (.lst ((xs.take many).map fun x => V.ref x.1))) p6 = some (.lst ((xs.take many).map fun x => V.ref x.1)) := upd_same
            generalize upd H4 p6 (.lst ((xs.take many).map fun x => V.ref x.1)) = H6 at s6 h6
            have hp6 := s6 _ _ hp
            refine ⟨_, rfl, _, rfl, (many : Int), rfl, p, _, rfl, SqL.of hp6, fun p2 n2 => ?_⟩
            rw [cut_drop, ← List.map_drop]
            have s7 : Same H6 (upd H6 p2 (.lst ((xs.drop many).map fun x => V.ref x.1))) := Same.nw n2
            have h7 : (upd H6 p2 (.lst ((xs.drop many).map fun x => V.ref x.1))) p2 = some (.lst ((xs.drop many).map fun x => V.ref x.1)) := upd_same
            have h67 := s7 _ _ h6
            generalize upd H6 p2 (.lst ((xs.drop many).map fun x => V.ref x.1)) = H7 at s7 h7 h67
            refine ⟨_, _, rfl, ?_⟩
            have s47 := s6.trans s7
            have hx7 : TriAt H7 xs := fun x hx' => s47 _ _ (hx x hx')
            -- whole
            refine ⟨_, rfl, p6, rfl, ⟨_, SqL.of h67⟩, fun D hD => it_core (walk_list (K := K) (a := p6) (xs := (xs.take many).map fun x => V.ref x.1)) (LcI D fun j acc H8 => acc = ((xs.take many).take j).map (fun x => V.int x.2.1.1) ∧ Same H7 H8) ⟨[], upd_same, Nat.le_refl _, rfl, Same.nw hD⟩ (fun _ H8 _ ⟨_, _, _, _, e⟩ => e.seq (SqL.of h67)) ?_ ?_⟩
            · rintro j x H8 H9 hj ⟨acc, g1, g2, g3, g4⟩ ⟨rfl, hxx⟩
              rw [List.length_map] at hj
              have hj' := hj
              rw [List.length_take] at hj'
              rw [List.getElem?_map, List.getElem?_eq_getElem hj] at hxx
              obtain rfl := (Option.some.inj hxx).symm
              have hmem : (xs.take many)[j] ∈ xs := List.mem_of_mem_take (List.getElem_mem hj)
              refine ⟨(xs.take many)[j].1, _, rfl, SqT.of (g4 _ _ (hx7 _ hmem)), rfl, _, _, rfl, _, _, rfl, _, _, rfl, rfl, rfl, lc_yes ?_⟩
              refine ⟨_, rfl, lc_end g1 g2 hj (by rw [List.length_take]; omega) ⟨?_, g4.mt hD⟩⟩
              rw [g3, take_s hj, List.map_append]
              rfl
            rintro H8 ⟨acc, g1, g2, g3, g4⟩
            rw [List.length_map, List.take_length] at g3
            have gns : acc = (((L.take many).map (·.1)).map fun (n : Nat) => (n : Int)).map V.int := by
              have e1 : (xs.take many).map (fun x => V.int x.2.1.1) = ((xs.take many).map (·.2.1)).map fun e => V.int e.1 := by
                rw [List.map_map]
                rfl
              rw [g3, e1, List.map_take, hL, ← List.map_take, List.map_map, List.map_map, List.map_map]
              rfl
            refine ⟨D, _, rfl, SqL.of (by rw [g1, gns]), ?_⟩
            rw [sum_cast]
            have hx8 : TriAt H8 xs := fun x hx' => g4 _ _ (hx7 x hx')
            have h28 := g4 _ _ h7
            have h68 := g4 _ _ h67
            -- line
            refine ⟨_, rfl, p2, _, rfl, .inr (SqL.of h28), _, rfl, _, rfl, _, rfl, p6, rfl, ⟨_, SqL.of h68⟩, fun D2 hD2 => it_core (walk_list (K := K) (a := p6) (xs := (xs.take many).map fun x => V.ref x.1)) (LcI D2 fun j acc H9 => Same H8 H9) ⟨[], upd_same, Nat.le_refl _, Same.nw hD2⟩ (fun _ H9 _ ⟨_, _, _, e⟩ => e.seq (SqL.of h68)) ?_ ?_⟩
            · rintro j x H9 H10 hj ⟨acc2, q1, q2, q4⟩ ⟨rfl, hxx⟩
              rw [List.length_map] at hj
              have hj' := hj
              rw [List.length_take] at hj'
              rw [List.getElem?_map, List.getElem?_eq_getElem hj] at hxx
              obtain rfl := (Option.some.inj hxx).symm
              have hmem : (xs.take many)[j] ∈ xs := List.mem_of_mem_take (List.getElem_mem hj)
              refine ⟨(xs.take many)[j].1, _, rfl, SqT.of (q4 _ _ (hx8 _ hmem)), rfl, _, _, rfl, _, _, rfl, _, _, rfl, rfl, rfl, lc_yes ?_⟩
              exact ⟨_, rfl, lc_end q1 q2 hj (by rw [List.length_take]; omega) (q4.mt hD2)⟩
            rintro H9 ⟨acc2, q1, q2, q4⟩
            refine ⟨D2, acc2, rfl, .inl ⟨SqL.of q1, fun tt nt => ⟨by show 3 ≤ sizeLine; decide, fun t3 n3 => ⟨szl ?_, fun l nl => ?_⟩⟩⟩⟩
            · rw [List.length_append, List.length_map, List.length_drop]
              show _ + 1 ≤ _
              omega
            have s10 : Same H9 (upd (upd H9 tt (.tup acc2)) t3 (.tup [vN ((L.take many).map (·.1)).sum, vN turn, .ref tt])) := (Same.nw nt).trans (Same.nw n3)
            have h3 : (upd (upd H9 tt (.tup acc2)) t3 (.tup [vN ((L.take many).map (·.1)).sum, vN turn, .ref tt])) t3 = some (.tup [vN ((L.take many).map (·.1)).sum, vN turn, .ref tt]) := upd_same
            generalize upd (upd H9 tt (.tup acc2)) t3 (.tup [vN ((L.take many).map (·.1)).sum, vN turn, .ref tt]) = H10 at s10 h3 nl
            have s11 : Same H10 (upd H10 l (.lst ((xs.drop many).map (fun x => V.ref x.1) ++ [.ref t3]))) := Same.nw nl
            have hl11 : (upd H10 l (.lst ((xs.drop many).map (fun x => V.ref x.1) ++ [.ref t3]))) l = some (.lst ((xs.drop many).map (fun x => V.ref x.1) ++ [.ref t3])) := upd_same
            have h311 := s11 _ _ h3
            generalize upd H10 l (.lst ((xs.drop many).map (fun x => V.ref x.1) ++ [.ref t3])) = H11 at s11 hl11 h311
            have s811 := q4.trans (s10.trans s11)
            have hnd2 : ((L.drop many ++ [(((L.take many).map (·.1)).sum, turn)]).map (·.2)).Nodup := by
              rw [List.map_append, List.nodup_append]
              refine ⟨?_, by simp, fun u hu v hv e => ?_⟩
              · rw [List.map_drop]
                exact nd.sublist (List.drop_sublist ..)
              · obtain ⟨e1, he1, rfl⟩ := List.mem_map.mp hu
                have := ht e1 (List.mem_of_mem_drop he1)
                have hv2 : v = turn := List.mem_singleton.mp hv
                omega
            have hnd3 : (L.drop many ++ [(((L.take many).map (·.1)).sum, turn)]).Nodup := (List.pairwise_map.mp hnd2).imp fun h e => h (by rw [e])
            have hm1 : (xs.drop many ++ [(t3, (((((L.take many).map (·.1)).sum : Nat) : Int), (turn : Int)), V.ref tt)]).map (·.2.1) = (L.drop many ++ [(((L.take many).map (·.1)).sum, turn)]).map castP := by
              rw [List.map_append, List.map_append, List.map_drop, hL, List.map_drop]
              rfl
            refine ⟨l, xs.drop many ++ [(t3, (((((L.take many).map (·.1)).sum : Nat) : Int), (turn : Int)), V.ref tt)], rfl, SqL.of (by rw [hl11, List.map_append]; rfl), ?_, ?_, ?_, fun zs2 pz zp2 zw2 npz => ?_⟩
            · intro x hx'
              rcases List.mem_append.mp hx' with e | e
              · exact s811 _ _ (hx8 x (List.mem_of_mem_drop e))
              · rw [List.mem_singleton.mp e]
                exact h311
            · show (_ : List (Int × Int)).Nodup
              rw [hm1]
              exact List.Pairwise.map _ (fun a b h e => h (castP_inj e)) hnd3
            · rw [List.length_append, List.length_drop]
              show _ + 1 ≤ 1000
              omega
            have hz2 := srt_is hnd3 (by rw [← hm1]; exact zp2.map _) (List.pairwise_map.mpr zw2)
            have s12 : Same H11 (upd H11 pz (.lst (zs2.map fun x => V.ref x.1))) := Same.nw npz
            refine ⟨_, rfl, _, rfl, _, _, rfl, rfl, _, rfl, _, _, rfl, rfl, _, rfl, _, _, _, rfl, ?_⟩
            have hlen2 : (L.drop many ++ [(((L.take many).map (·.1)).sum, turn)]).length < L.length := by
              rw [List.length_append, List.length_drop]
              show _ + 1 < _
              omega
            have hsl := (srtP_perm (L.drop many ++ [(((L.take many).map (·.1)).sum, turn)])).length_eq
            refine ⟨_, by rw [← hsl] at hlen2; exact hlen2, pz, zs2, srtP (L.drop many ++ [(((L.take many).map (·.1)).sum, turn)]), moved + ((L.take many).map (·.1)).sum, turn + 1, fan, fuel, some (.ref p6), some (vN ((L.take many).map (·.1)).sum), rfl, ?_, ?_, upd_same, ?_, hz2, ?_, ?_, f2, ?_, ?_, ?_, hbt2⟩
            · show [_, _, _, some (V.int ((moved : Int) + (((L.take many).map (·.1)).sum : Nat))), some (V.int ((turn : Int) + 1)), _, _, _, _, _, _, _] = _
              rw [← Int.natCast_add]
              rfl
            · exact s4.trans (s47.trans (g4.trans (s811.trans s12)))
            · intro x hx'
              rcases List.mem_append.mp (zp2.subset hx') with e | e
              · exact (s811.trans s12) _ _ (hx8 x (List.mem_of_mem_drop e))
              · rw [List.mem_singleton.mp e]
                exact s12 _ _ h311
            · exact ((srtP_perm _).map (·.2)).nodup_iff.mpr hnd2
            · intro e he
              rcases List.mem_append.mp ((srtP_perm _).subset he) with q | q
              · exact Nat.lt_succ_of_lt (ht e (List.mem_of_mem_drop q))
              · rw [List.mem_singleton.mp q]
                exact Nat.lt_succ_self _
            · rw [hsl, List.length_append]
              exact Nat.le_add_left ..
            · rw [hsl]
              omega
            · rw [hsl]
              omega
          · refine itF (decide_eq_false (by omega)) ?_
            have em : moved = btCost ls fan := by
              rw [← hbt]
              cases fuel with
              | zero => rfl
              | succ f => exact (if_pos (by omega)).symm
            subst em
            match xs, hxl, hp, hx with
            | x0 :: xr, _, hp, hx =>
              refine ⟨_, rfl, p, _, 0, _, rfl, rfl, SqL.of hp, atI_nat (j := 0) rfl, x0.1, _, 2, _, rfl, rfl, SqT.of (hx x0 List.mem_cons_self), atI_nat (j := 2) rfl, _, rfl, by show 2 ≤ sizeLine; decide, fun t nt => ?_⟩
              exact k _ t x0.2.2 (s4.trans (Same.nw nt)) (s4.free nt) upd_same
            | [], h0, _, _ => exact absurd h0 (by simp; omega)
      · refine itF (decide_eq_false (by omega)) ?_
        refine ⟨_, _, _, rfl, ?_⟩
        refine while0 (fun R h => ⟨_, rfl, p, _, rfl, .inl (SqL.of hp3), _, _, rfl, rfl, _, rfl, ?_⟩) ?_
        · rw [List.length_map, hzl, decide_eq_false (by omega)]
          exact h
        · have em : 0 = btCost ls fan := by
            unfold btCost
            have hll : (lineP ls).length = ls.length := by rw [show (lineP ls).length = (ls.zip (List.range ls.length)).length from (srtP_perm _).length_eq, zlen]
            generalize (if 1 < ls.length then firstM ls.length fan else 0) = mm
            cases hc : ls.length with
            | zero => rfl
            | succ f => exact (if_pos (by omega)).symm
          match zs, hzl, hp3, ht3 with
          | x0 :: xr, _, hp, hx =>
            refine ⟨_, rfl, p, _, 0, _, rfl, rfl, SqL.of hp, atI_nat (j := 0) rfl, x0.1, _, 2, _, rfl, rfl, SqT.of (hx x0 List.mem_cons_self), atI_nat (j := 2) rfl, _, rfl, by show 2 ≤ sizeLine; decide, fun t nt => ?_⟩
            refine k _ t x0.2.2 (s03.trans (Same.nw nt)) (s03.free nt) ?_
            rw [upd_same, ← em]
            rfl
          | [], h0, _, _ => exact absurd h0 (by simp; omega)
end
end K16
set_option Elab.async false
set_option linter.all false
set_option maxRecDepth 100000
set_option maxHeartbeats 4000000
namespace K16
open PySem PySem.Spec PyProof.Rows L2
theorem rgc_all : ∀ n < 61, ∀ m < 9, 3 ≤ m → Builtin.Range.small 0 (n : Nat) (m : Nat) = true := by decide +kernel
theorem rgc {n m : Nat} (hn : n ≤ 60) (h3 : 3 ≤ m) (h8 : m ≤ 8) : RgC 0 (n : Int) (m : Int) ((n + m - 1) / m) := by
  refine ⟨by omega, by omega, rgc_all n (by omega) m (by omega) h3, ?_⟩
  rw [rangeSize_pos (by omega) (by omega), Int.natCast_ediv]
  have e : ((n + m - 1 : Nat) : Int) = (n : Int) + m - 1 := by omega
  rw [e]
section
variable {P : Program} {w : World} {K : PySem.W.Frag} {mg : Str → Option Value} {base : Heap} {CS CD CQ : Addr}
/-! ### cost_by, sort_cost -/
def spCostBy : Sp := fun vs H Q _ => ∃ n m : Nat, vs = [vN n, vN m] ∧ n ≤ 60 ∧ 3 ≤ m ∧ m ≤ 8 ∧ ∀ H', Same H H' → Q (vN (costBy n m)) H'
theorem sc_cost_by : FnScope ["many", "memory", "lengths", "at"] ["many", "memory"] (defScope s_cost_by) := ⟨rfl, rfl, rfl, by decide +kernel, rfl, by decide +kernel, by decide +kernel⟩
theorem ok_cost_by (T : Tx K mg) (h : Has K mg "cost_by" s_cost_by) (c_best_tree : Cal P w K mg base 2 "best_tree" spBestTree) : Cal P w K mg base 3 "cost_by" spCostBy := by
  refine cal_of h sc_cost_by (fun _ _ _ _ _ _ us hl => match us, hl with | [_, _], _ => rfl) (fun vs H Q E h => ?_) (fun f cdv A outer s H vs Q E hr h => ?_)
  · obtain ⟨_, _, rfl, _⟩ := h
    rfl
  · obtain ⟨n, m, rfl, n60, m3, m8, k⟩ := h
    refine ⟨_, (pss_cons (ps_if (pt_cmpR op_eq (pv 0) pe_int (nomark _)) (pss_one (ps_ret pe_int)) pss_nil)
      (pss_cons (ps_setLc (i := 2) (own := [("at", 3)]) (by rfl) sc_cost_by.nd rfl rfl (sw_true rfl rfl rfl (by decide +kernel)) (pi_range3 (by rfl) T.bRange (pa_cons pe_int (pa_cons (pv 0) (pa_cons (pv 1) pa_nil)))) (blkOk_by (own := [("at", 3)]) (N := ["many", "memory", "lengths", "at"]) (sc := defScope s_cost_by) (by decide +kernel)) (fun _ _ _ _ _ => (pg_name (i := 3) sc_cost_by.nd rfl (Or.inl rfl))) (fun _ _ _ _ _ => pts_nil) (fun _ _ _ _ _ => (pe_callB (call_min2 rfl) (by rfl) T.bMin (by decide +kernel) (pa_cons (pv 1) (pa_cons (pe_op op_sub (pv 0) (pv 3)) pa_nil)))))
      (pss_one (ps_ret (pe_op op_add (pv 0) (pe_ix (kixT K) (pc c_best_tree hr (by decide) (by rfl) (pa_cons (pv 2) (pa_cons (pe_op op_sub (pv 1) pe_int) pa_nil))) pe_int (fun _ _ => rfl))))))), ?_⟩
    refine ⟨_, rfl, rfl, _, rfl, ?_⟩
    by_cases h0 : n = 0
    · refine itT (decide_eq_true (by rw [h0]; rfl)) ?_
      have := k H (Same.refl _)
      unfold costBy at this
      rw [if_pos h0] at this
      exact this
    · refine itF (decide_eq_false fun z => h0 (by injection z; omega)) ?_
      have hcb : costBy n m = n + btCost ((List.range ((n + m - 1) / m)).map fun i => if n - i * m < m then n - i * m else m) (m - 1) := by
        unfold costBy
        rw [if_neg h0]
      have hk1 : 1 ≤ (n + m - 1) / m := (Nat.one_le_div_iff (by omega)).mpr (by omega)
      have hk2 : (n + m - 1) / m ≤ 60 := Nat.le_trans (Nat.div_le_div_left m3 (by decide)) (by omega)
      have hk3 : ∀ i, i < (n + m - 1) / m → i * m < n := fun i hi => by
        have h1 := (Nat.le_div_iff_mul_le (k := m) (x := i + 1) (y := n + m - 1) (by omega)).mp hi
        rw [Nat.add_mul] at h1
        omega
      have hrg := rgc n60 m3 m8
      generalize (n + m - 1) / m = kk at hcb hk1 hk2 hk3 hrg
      refine ⟨_, rfl, _, rfl, 0, (n : Int), (m : Int), kk, rfl, hrg, fun D hD => it_core walk_rangeC (LcI D fun i acc H2 => acc = ((List.range i).map fun i => if n - i * m < m then n - i * m else m).map vN ∧ Same H H2) ⟨[], upd_same, Nat.le_refl _, rfl, Same.nw hD⟩ (fun _ _ _ _ => trivial) ?_ ?_⟩
      · rintro i x H2 H3 hi ⟨acc, g1, g2, g3, g4⟩ ⟨rfl, rfl⟩
        refine ⟨rfl, lc_yes ?_⟩
        have h1 := hk3 i hi
        refine ⟨_, rfl, _, rfl, _, rfl, _, _, rfl, rfl, (m : Int), _, rfl, ?_⟩
        refine lc_end g1 g2 hi (by omega) ⟨?_, g4.mt hD⟩
        rw [g3, List.range_succ, List.map_append, List.map_append]
        congr 1
        show [V.int (if (n : Int) - (0 + (i : Int) * (m : Int)) < (m : Int) then (n : Int) - (0 + (i : Int) * (m : Int)) else (m : Int))] = [V.int ((if n - i * m < m then n - i * m else m : Nat) : Int)]
        have e1 : (n : Int) - (0 + (i : Int) * (m : Int)) = ((n - i * m : Nat) : Int) := by
          rw [Int.zero_add, ← Int.natCast_mul]
          omega
        rw [e1]
        by_cases hc : n - i * m < m
        · rw [if_pos hc, if_pos (by omega)]
        · rw [if_neg hc, if_neg (by omega)]
      · rintro H2 ⟨acc, g1, g2, g3, g4⟩
        refine ⟨_, rfl, _, rfl, _, rfl, _, _, rfl, rfl, ?_⟩
        refine ⟨D, (List.range kk).map fun i => if n - i * m < m then n - i * m else m, m - 1, ?_, ?_, ?_, ?_, by omega, fun H' p x s' np hp => ?_⟩
        · show [V.ref D, V.int ((m : Int) - 1)] = [V.ref D, V.int ((m - 1 : Nat) : Int)]
          rw [show ((m - 1 : Nat) : Int) = (m : Int) - 1 by omega]
        · show _ = some _
          rw [g1, g3]
        · rw [List.length_map, List.length_range]
          exact hk1
        · rw [List.length_map, List.length_range]
          exact hk2
        · refine ⟨p, _, 1, _, rfl, rfl, SqT.of hp, atI_nat (j := 1) rfl, _, _, rfl, rfl, ?_⟩
          have := k H' (g4.trans s')
          rw [hcb] at this
          show Q (V.int ((n : Int) + _)) H'
          rw [← Int.natCast_add]
          exact this
def spSortCost : Sp := fun vs H Q _ => ∃ n m : Nat, vs = [vN n, vN m] ∧ n ≤ 60 ∧ 3 ≤ m ∧ m ≤ 8 ∧ ∀ H', Same H H' → Q (vN (costBy n m)) H'
theorem sc_sort_cost : FnScope ["many", "memory"] ["many", "memory"] (defScope s_sort_cost) := ⟨rfl, rfl, rfl, by decide +kernel, rfl, by decide +kernel, by decide +kernel⟩
theorem ok_sort_cost (T : Tx K mg) (h : Has K mg "sort_cost" s_sort_cost) (c_is_number : Cal P w K mg base 1 "is_number" spIsNumber) (c_check_memory : Cal P w K mg base 2 "check_memory" spCheckMemory) (c_cost_by : Cal P w K mg base 3 "cost_by" spCostBy) : Cal P w K mg base 4 "sort_cost" spSortCost := by
  refine cal_of h sc_sort_cost (fun _ _ _ _ _ _ us hl => match us, hl with | [_, _], _ => rfl) (fun vs H Q E h => ?_) (fun f cdv A outer s H vs Q E hr h => ?_)
  · obtain ⟨_, _, rfl, _⟩ := h
    rfl
  · obtain ⟨n, m, rfl, n60, m3, m8, k⟩ := h
    refine ⟨_, (pss_cons (ps_if (pt_not (pt_val (pc c_is_number hr (by decide) (by rfl) (pa_cons (pv 0) (pa_cons pe_int (pa_cons (pgi T.iRows (by rfl)) pa_nil)))))) (pss_one ps_never) pss_nil)
      (pss_cons (ps_expr (pc c_check_memory hr (by decide) (by rfl) (pa_cons (pv 1) pa_nil)))
      (pss_one (ps_ret (pc c_cost_by hr (by decide) (by rfl) (pa_cons (pv 0) (pa_cons (pv 1) pa_nil))))))), ?_⟩
    refine ⟨_, rfl, (n : Int), 0, 60, rfl, by omega, by omega, true, rfl, iteF ?_⟩
    exact ⟨_, rfl, m, rfl, m3, m8, _, rfl, _, rfl, n, m, rfl, n60, m3, m8, k⟩
end
end K16
set_option Elab.async false
set_option linter.all false
set_option maxRecDepth 100000
set_option maxHeartbeats 4000000
namespace K16
open PySem PySem.Spec PyProof.Rows L2
/-- what moves_of answers -/
def mvD (left right : Nat) (linked : Bool) (m : Nat) : List (Key × V) :=
  (Sum.inr "nested", vN (left + right * ((left + m - 3) / (m - 2)))) :: if linked = true ∧ left ≤ 60 ∧ right ≤ 60 then [(Sum.inr "sorted", vN (costBy left m + costBy right m + left + right))] else []
def linkB (ats : List (Nat × List Nat)) (el : List Nat) (i : Nat) : Bool := (((ats[i]?).getD (0, [])).2.map fun v => decide (v ∈ varsOf (pick ats el))).any id
def rightN (tabs : List (List Nat)) (ats : List (Nat × List Nat)) (i : Nat) : Nat := ((tabs[((ats[i]?).getD (0, [])).1]?).getD []).sum
def leftN (size : Nat) (fl : List (Nat × List Nat)) (tabs : List (List Nat)) (ats : List (Nat × List Nat)) (el : List Nat) : Nat := totL (allowedL size fl) size tabs (pick ats el)
def mvA (size : Nat) (fl : List (Nat × List Nat)) (tabs : List (List Nat)) (ats : List (Nat × List Nat)) (el : List Nat) (i m : Nat) : List (Key × V) := mvD (leftN size fl tabs ats el) (rightN tabs ats i) (linkB ats el i) m
theorem sum_le9 : ∀ {l : List Nat}, (∀ c ∈ l, c ≤ 9) → l.sum ≤ 9 * l.length
  | [], _ => Nat.zero_le _
  | x :: r, h => by
    have := sum_le9 (l := r) fun c hc => h c (List.mem_cons_of_mem _ hc)
    have := h x List.mem_cons_self
    rw [List.sum_cons, List.length_cons]
    omega
section
variable {P : Program} {w : World} {K : PySem.W.Frag} {mg : Str → Option Value} {base : Heap} {CS CD CQ : Addr}
def spMovesOf (CS CD CQ : Addr) : Sp := fun vs H Q _ => ∃ (q e d : Addr) (size : Nat) (widths : List Nat) (ats fl : List (Nat × List Nat)) (tabs : List (List Nat)) (el : List Nat) (i m : Nat), vs = [.ref q, .ref e, vN i, .ref d, vN m] ∧ QryAt CQ CS H q size widths ats fl ∧ DatAt CD CS H d size widths tabs ∧ TabOk size widths tabs ∧ size ≤ 3 ∧ fl.length ≤ 6 ∧
  TN H e el ∧ (∀ i ∈ el, i < ats.length) ∧ AtW widths ats ∧ 1 ≤ el.length ∧ el.length ≤ 3 ∧ i < ats.length ∧ 3 ≤ m ∧ m ≤ 8 ∧
  ∀ H' p, Same H H' → H p = none → H' p = some (.dK (mvA size fl tabs ats el i m)) → Q (.ref p) H'
theorem sc_moves_of : FnScope ["query", "early", "atom", "data", "memory", "left", "table", "variables", "right", "found", "known", "late", "variable"] ["query", "early", "atom", "data", "memory"] (defScope s_moves_of) := ⟨rfl, rfl, rfl, by decide +kernel, rfl, by decide +kernel, by decide +kernel⟩
theorem ok_moves_of (T : Tx K mg) (Z : Cs K mg CS CD CQ) (h : Has K mg "moves_of" s_moves_of) (c_rows_of : Cal P w K mg base 6 "rows_of" (spRowsOf CS CD CQ)) (c_rows : MetO P w K mg base 3 CD "rows" (spRows CD CS)) (c_variables_in : Cal P w K mg base 1 "variables_in" spVarsIn) (c_cost_by : Cal P w K mg base 3 "cost_by" spCostBy) :
    Cal P w K mg base 7 "moves_of" (spMovesOf CS CD CQ) := by
  refine cal_of h sc_moves_of (fun _ _ _ _ _ _ us hl => match us, hl with | [_, _, _, _, _], _ => rfl) (fun vs H Q E h => ?_) (fun f cdv A outer s H vs Q E hr h => ?_)
  · obtain ⟨_, _, _, _, _, _, _, _, _, _, _, rfl, _⟩ := h
    rfl
  · obtain ⟨q, e, d, size, widths, ats, fl, tabs, el, i, m, rfl, hQ, hD0, tok, h3, f6, he, hi, aw, e1, e3, hia, m3, m8, k⟩ := h
    obtain ⟨dx, sq, a, fa, sh, hq, hS, ⟨xa, ha, hxa⟩, _⟩ := id hQ
    obtain ⟨dxd, sd, td, hd, hSd⟩ := id hD0
    obtain ⟨z2, z6, z4, zl, zw, zt⟩ := id tok
    have hxl := plen hxa
    have hu := hu_of hr
    have eat : (ats[i]?).getD (0, []) = ats[i] := by rw [List.getElem?_eq_getElem hia]; rfl
    obtain ⟨hw, u1, u2, u5⟩ := aw.2.2 _ (List.getElem_mem hia)
    have htl : ats[i].1 < tabs.length := by
      have := (List.getElem?_eq_some_iff.mp hw).1
      omega
    have etab : (tabs[((ats[i]?).getD (0, [])).1]?).getD [] = tabs[ats[i].1] := by
      rw [eat, List.getElem?_eq_getElem htl]
      rfl
    obtain ⟨tl1, tl2⟩ := zt _ _ _ hw (List.getElem?_eq_getElem htl)
    have hr81 : tabs[ats[i].1].sum ≤ 81 := by
      have := sum_le9 tl2
      have h9 : size ^ ats[i].2.length ≤ 9 := Nat.le_trans (Nat.pow_le_pow_left h3 _) (Nat.le_trans (Nat.pow_le_pow_right (by decide) u2) (by decide))
      omega
    have hrN : rightN tabs ats i = tabs[ats[i].1].sum := by
      unfold rightN
      rw [etab]
    have hpk := pick_ok aw hi e1 e3
    refine ⟨_, (pss_cons (ps_set (i := 5) sc_moves_of.nd rfl (Or.inl rfl) (pe_callB (ksum K rfl) (by rfl) T.bSum (by decide +kernel) (pa_cons (pe_listVals rfl (by rfl) T.bList (pc c_rows_of hr (by decide) (by rfl) (pa_cons (pv 0) (pa_cons (pv 3) (pa_cons (pv 1) pa_nil))))) pa_nil)))
      (pss_cons (ps_asg (pe_ix (kixT K) (kfld K (pv 0) rfl) (pv 2) (fun _ _ => rfl)) (kgtup K (n := 2) rfl (pgs_cons (pg_name (i := 6) sc_moves_of.nd rfl (Or.inl rfl)) (pgs_cons (pg_name (i := 7) sc_moves_of.nd rfl (Or.inl rfl)) pgs_nil))))
      (pss_cons (ps_set (i := 8) sc_moves_of.nd rfl (Or.inl rfl) (pm c_rows hr (by decide) (pv 3) (pa_cons (pv 6) pa_nil)))
      (pss_cons (ps_set (i := 9) sc_moves_of.nd rfl (Or.inl rfl) (pe_disp (pps_cons pe_str (pe_op op_add (pv 5) (pe_op op_mul (pv 8) (pe_op op_fdivN (pe_op op_sub (pe_op op_add (pv 5) (pv 4)) pe_int) (pe_op op_sub (pv 4) pe_int)))) pps_nil) (by rfl) (by rfl) (fun z => by cases z) (by decide)))
      (pss_cons (ps_set (i := 10) sc_moves_of.nd rfl (Or.inr rfl) (pc c_variables_in hr (by decide) (by rfl) (pa_cons (pe_lc (own := [("late", 11)]) (by rfl) sc_moves_of.nd (kpt K (pv 1)) (blkOk_by (own := [("late", 11)]) (N := ["query", "early", "atom", "data", "memory", "left", "table", "variables", "right", "found", "known", "late", "variable"]) (sc := defScope s_moves_of) (by decide +kernel)) (fun _ _ _ _ _ => (pg_name (i := 11) sc_moves_of.nd rfl (Or.inl rfl))) (fun _ _ _ _ _ => pts_nil) (fun _ _ _ _ _ => (pe_ix (kixT K) (kfld K (pv 0) rfl) (pv 11) (fun _ _ => rfl)))) pa_nil)))
      (pss_cons (ps_if (PW.pt (pw_and (pt_val (pe_callB (kany K rfl) (by rfl) T.bAny (by decide +kernel) (pa_cons (pe_lc (own := [("variable", 12)]) (by rfl) sc_moves_of.nd (kpt K (pv 7)) (blkOk_by (own := [("variable", 12)]) (N := ["query", "early", "atom", "data", "memory", "left", "table", "variables", "right", "found", "known", "late", "variable"]) (sc := defScope s_moves_of) (by decide +kernel)) (fun _ _ _ _ _ => (pg_name (i := 12) sc_moves_of.nd rfl (Or.inl rfl))) (fun _ _ _ _ _ => pts_nil) (fun _ _ _ _ _ => (pe_cmpR (kin K) (pv 12) (pv 10) (by rfl)))) pa_nil))) (pw_and (pt_cmpR op_le (pv 5) (pgi T.iRows (by rfl)) (nomark _)) (pw_and1 (pt_cmpR op_le (pv 8) (pgi T.iRows (by rfl)) (nomark _)))))) (pss_one (ps_dput hu (pv 9) pe_str (pe_op op_add (pe_op op_add (pe_op op_add (pc c_cost_by hr (by decide) (by rfl) (pa_cons (pv 5) (pa_cons (pv 4) pa_nil))) (pc c_cost_by hr (by decide) (by rfl) (pa_cons (pv 8) (pa_cons (pv 4) pa_nil)))) (pv 5)) (pv 8)) rfl)) pss_nil)
      (pss_one (ps_ret (pv 9))))))))), ?_⟩
    -- left
    refine ⟨_, rfl, _, rfl, _, rfl, q, d, e, size, widths, ats, fl, tabs, el, rfl, hQ, hD0, tok, h3, f6, he, hi, aw, e1, e3, fun H1 p kvs ns s1 np hp hk hs => ?_⟩
    refine ⟨p, _, rfl, .inr ⟨kvs, hp, rfl⟩, fun lp nlp => ?_⟩
    refine ⟨lp, ns.map fun (n : Nat) => (n : Int), rfl, SqL.of (by rw [upd_same, hk, vN_map]), ?_⟩
    rw [sum_cast, hs]
    have s2 : Same H (upd H1 lp (.lst (kvs.map (·.2)))) := s1.trans (Same.nw nlp)
    generalize upd H1 lp (.lst (kvs.map (·.2))) = H2 at s2
    have hlN : leftN size fl tabs ats el = totL (allowedL size fl) size tabs (pick ats el) := rfl
    rw [← hlN]
    generalize hL : leftN size fl tabs ats el = left
    -- table, variables
    obtain ⟨qv, hp1, hp2⟩ := pget hxa (List.getElem?_eq_getElem (by omega : i < xa.length)) (List.getElem?_eq_getElem hia)
    refine ⟨_, rfl, q, CQ, dx, _, _, rfl, s2 _ _ hq, Z.clQ, Z.nQa, rfl, _, rfl, a, _, (i : Int), .ref (xa[i]'(by omega)), rfl, rfl, SqT.of (s2 _ _ ha), atI_nat (by rw [List.getElem?_map, List.getElem?_eq_getElem (by omega)]; rfl), ?_⟩
    refine ⟨xa[i]'(by omega), _, rfl, SqT.of (s2 _ _ hp1), rfl, _, _, rfl, _, _, rfl, rfl, ?_⟩
    -- right
    refine ⟨_, rfl, d, dxd, _, rfl, s2 _ _ hd, rfl, _, rfl, d, size, widths, tabs, ats[i].1, tabs[ats[i].1], rfl, hD0.sd s2.sd, zl, List.getElem?_eq_getElem htl, ?_⟩
    rw [← hrN] at hr81 ⊢
    generalize hR : rightN tabs ats i = right at hr81
    -- found
    refine fun fp nfp => ?_
    have hnest : (left : Int) + (right : Int) * (((left : Int) + (m : Int) - 3).fdiv ((m : Int) - 2)) = ((left + right * ((left + m - 3) / (m - 2)) : Nat) : Int) := by
      rw [Int.natCast_add, Int.natCast_mul, Int.natCast_ediv, Int.fdiv_eq_ediv_of_nonneg _ (by omega)]
      have a1 : ((left + m - 3 : Nat) : Int) = (left : Int) + (m : Int) - 3 := by omega
      have a2 : ((m - 2 : Nat) : Int) = (m : Int) - 2 := by omega
      rw [a1, a2]
    refine ⟨_, rfl, _, rfl, _, rfl, _, rfl, _, _, rfl, rfl, _, _, rfl, rfl, _, rfl, _, _, rfl, rfl, _, _, rfl, rfl, ⟨by omega, by omega⟩, _, _, rfl, rfl, .inl ⟨by omega, by omega⟩, _, _, rfl, rfl, upd_same, [(Sum.inr "nested", vN (left + right * ((left + m - 3) / (m - 2))))], ?_, by show 1 ≤ 15; decide, ?_⟩
    · show [(V.str "nested", V.int ((left : Int) + (right : Int) * (((left : Int) + (m : Int) - 3).fdiv ((m : Int) - 2))))] = _
      rw [hnest]
      rfl
    have emk : mergeK [] [((Sum.inr "nested" : Key), vN (left + right * ((left + m - 3) / (m - 2))))] = [((Sum.inr "nested" : Key), vN (left + right * ((left + m - 3) / (m - 2))))] := rfl
    rw [emk]
    have s3 : Same H2 (upd (upd H2 fp (.dK [])) fp (.dK [((Sum.inr "nested" : Key), vN (left + right * ((left + m - 3) / (m - 2))))])) := (Same.nw nfp).mt nfp
    have hfp : (upd (upd H2 fp (.dK [])) fp (.dK [((Sum.inr "nested" : Key), vN (left + right * ((left + m - 3) / (m - 2))))])) fp = some (.dK [((Sum.inr "nested" : Key), vN (left + right * ((left + m - 3) / (m - 2))))]) := upd_same
    generalize upd (upd H2 fp (.dK [])) fp (.dK [((Sum.inr "nested" : Key), vN (left + right * ((left + m - 3) / (m - 2))))]) = H3 at s3 hfp
    have s03 := s2.trans s3
    have nfH : H fp = none := s2.free nfp
    -- known
    refine ⟨_, rfl, e, rfl, ⟨_, SqT.of (s03 _ _ he)⟩, fun D hD => it_core (walk_tup (K := K) (a := e) (xs := el.map vN)) (fun j H4 => ∃ ys : List Addr, H4 D = some (.lst (ys.map V.ref)) ∧ Same H3 H4 ∧ Paired (PR H) ys (pick ats (el.take j))) ⟨[], upd_same, Same.nw hD, .nil⟩ (fun _ H4 _ ⟨_, _, e', _⟩ => e'.tp (SqT.of (s03 _ _ he))) ?_ ?_⟩
    · rintro j x H4 H5 hj ⟨ys, y1, y2, y3⟩ ⟨rfl, hx⟩
      rw [List.length_map] at hj
      obtain rfl := at_map hj hx
      have hij := hi _ (List.getElem_mem hj)
      have hyl := plen y3
      unfold pick at hyl
      rw [List.length_map, List.length_take] at hyl
      have s04 := s03.trans y2
      refine ⟨rfl, lc_yes ?_⟩
      refine ⟨_, rfl, q, CQ, dx, _, _, rfl, s04 _ _ hq, Z.clQ, Z.nQa, rfl, _, rfl, a, _, (el[j] : Int), .ref (xa[el[j]]'(by omega)), rfl, rfl, SqT.of (s04 _ _ ha), atI_nat (by rw [List.getElem?_map, List.getElem?_eq_getElem (by omega)]; rfl), ?_⟩
      refine ⟨_, y1, szs (by rw [List.length_map]; omega), ys ++ [xa[el[j]]'(by omega)], by rw [upd_same, List.map_append]; rfl, y2.mt hD, ?_⟩
      rw [pick_snoc hj]
      refine psnoc y3 ?_
      rw [List.getElem?_eq_getElem hij]
      exact pget hxa (List.getElem?_eq_getElem (by omega)) (List.getElem?_eq_getElem hij)
    rintro H4 ⟨ys, y1, y2, y3⟩
    rw [List.length_map, List.take_length] at y3
    have s04 := s03.trans y2
    refine ⟨D, pick ats el, rfl, .inl ⟨ys, y1, pimp y3 fun _ _ e' => e'.ts s04.ts⟩, hpk.ok, fun H5 kp s5 nkp hkp => ?_⟩
    have s05 := s04.trans s5
    have s35 := y2.trans s5
    have hv5 := s05 _ _ hp2
    -- any
    refine ⟨_, rfl, qv, rfl, ⟨_, SqT.of hv5⟩, fun D2 hD2 => it_core (walk_tup (K := K) (a := qv) (xs := ats[i].2.map vN)) (LcI D2 fun j acc H6 => acc = ((ats[i].2.take j).map fun v => decide (v ∈ varsOf (pick ats el))).map V.bl ∧ Same H5 H6) ⟨[], upd_same, Nat.le_refl _, rfl, Same.nw hD2⟩ (fun _ H6 _ ⟨_, _, _, _, e'⟩ => e'.tp (SqT.of hv5)) ?_ ?_⟩
    · rintro j x H6 H7 hj ⟨acc, g1, g2, g3, g4⟩ ⟨rfl, hx⟩
      rw [List.length_map] at hj
      obtain rfl := at_map hj hx
      refine ⟨rfl, lc_yes ?_⟩
      refine ⟨_, rfl, _, rfl, kp, _, rfl, .inl (SqL.of (g4 _ _ hkp)), rfl, flat_N _, ?_⟩
      rw [if_neg Bool.false_ne_true, inV_N]
      refine lc_end g1 g2 hj (by omega) ⟨?_, g4.mt hD2⟩
      rw [g3, take_s hj, List.map_append, List.map_append]
      rfl
    rintro H6 ⟨acc, g1, g2, g3, g4⟩
    rw [List.length_map, List.take_length] at g3
    have hlk : (ats[i].2.map fun v => decide (v ∈ varsOf (pick ats el))).any id = linkB ats el i := by
      unfold linkB
      rw [eat]
    refine ⟨D2, _, rfl, SqL.of (by rw [g1, g3]), _, rfl, ?_⟩
    rw [hlk]
    have s36 := s35.trans g4
    have s06 := s05.trans g4
    have hfp6 := s36 _ _ hfp
    have hmv : mvA size fl tabs ats el i m = mvD left right (linkB ats el i) m := by
      unfold mvA
      rw [hL, hR]
    rw [hmv] at k
    have fin0 : ¬ (linkB ats el i = true ∧ left ≤ 60 ∧ right ≤ 60) → Q (.ref fp) H6 := fun hn => by
      refine k H6 fp s06 nfH ?_
      rw [hfp6]
      unfold mvD
      rw [if_neg hn]
    by_cases hb : linkB ats el i = true
    · refine itT hb ?_
      refine ⟨_, rfl, _, _, rfl, rfl, _, rfl, ?_⟩
      by_cases hl : left ≤ 60
      · refine itT (decide_eq_true (by omega)) ?_
        refine ⟨_, rfl, _, _, rfl, rfl, _, rfl, ?_⟩
        by_cases hrr : right ≤ 60
        · refine itT (decide_eq_true (by omega)) ?_
          refine ⟨_, rfl, _, rfl, left, m, rfl, hl, m3, m8, fun H7 s7 => ⟨_, rfl, _, rfl, right, m, rfl, hrr, m3, m8, fun H8 s8 => ⟨_, _, rfl, rfl, _, rfl, _, _, rfl, rfl, _, rfl, _, _, rfl, rfl, _, rfl, fp, _, rfl, DPut.k (k := Sum.inr "sorted") (s8 _ _ (s7 _ _ hfp6)) (szs (by show 1 < 100000; decide)), ?_⟩⟩⟩
          refine ⟨_, rfl, k _ fp ((s06.trans (s7.trans s8)).mt nfH) nfH ?_⟩
          rw [upd_same]
          unfold mvD
          rw [if_pos ⟨hb, hl, hrr⟩]
          have e2 : putK [((Sum.inr "nested" : Key), vN (left + right * ((left + m - 3) / (m - 2))))] (Sum.inr "sorted") (V.int ((costBy left m : Int) + (costBy right m : Int) + (left : Int) + (right : Int))) = [((Sum.inr "nested" : Key), vN (left + right * ((left + m - 3) / (m - 2)))), (Sum.inr "sorted", vN (costBy left m + costBy right m + left + right))] := by
            unfold putK
            have ek : ¬ (Sum.inr "nested" : Key) = (Sum.inr "sorted" : Key) := by decide +kernel
            rw [if_neg (by show ¬ (decide ((Sum.inr "nested" : Key) = (Sum.inr "sorted" : Key)) || false) = true; rw [decide_eq_false ek]; exact Bool.false_ne_true)]
            show [_, ((Sum.inr "sorted" : Key), V.int _)] = [_, ((Sum.inr "sorted" : Key), V.int ((_ : Nat) : Int))]
            rw [Int.natCast_add, Int.natCast_add, Int.natCast_add]
          exact congrArg (fun z => some (HO.dK z)) e2
        · exact itF (decide_eq_false (by omega)) ⟨_, rfl, fin0 fun z => hrr z.2.2⟩
      · exact itF (decide_eq_false (by omega)) (iteF ⟨_, rfl, fin0 fun z => hl z.2.1⟩)
    · exact itF (Bool.eq_false_iff.mpr hb) (iteF ⟨_, rfl, fin0 fun z => hb z.1⟩)
end
end K16
set_option Elab.async false
set_option linter.all false
set_option maxRecDepth 100000
set_option maxHeartbeats 4000000
namespace K16
open PySem PySem.Spec PyProof.Rows L2
/-- a query and data of the law's kind -/
def Good (CS CD CQ : Addr) (H : Hp) (q d : Addr) (size : Nat) (widths : List Nat) (ats fl : List (Nat × List Nat)) (tabs : List (List Nat)) : Prop :=
  QryAt CQ CS H q size widths ats fl ∧ DatAt CD CS H d size widths tabs ∧ TabOk size widths tabs ∧ size ≤ 3 ∧ fl.length ≤ 6 ∧ AtW widths ats
theorem Good.sd {CS CD CQ : Addr} {H H' : Hp} {q d : Addr} {size : Nat} {widths : List Nat} {ats fl : List (Nat × List Nat)} {tabs : List (List Nat)} (e : SD H H') (h : Good CS CD CQ H q d size widths ats fl tabs) : Good CS CD CQ H' q d size widths ats fl tabs :=
  ⟨h.1.sd e, h.2.1.sd e, h.2.2⟩
/-- an order of the atoms -/
def OrdOk (n : Nat) (el : List Nat) : Prop := (∀ i ∈ el, i < n) ∧ el.Nodup ∧ el.length = n
def mnL : List Nat → Nat
  | [] => 0
  | [a] => a
  | a :: r => min a (mnL r)
theorem mnL_le : ∀ {l : List Nat}, ∀ y ∈ l, mnL l ≤ y
  | [], y, h => by cases h
  | [a], y, h => by rw [List.mem_singleton.mp h]; exact Nat.le_refl _
  | a :: b :: r, y, h => by
    show min a (mnL (b :: r)) ≤ y
    rcases List.mem_cons.mp h with e | e
    · rw [e]; exact Nat.min_le_left ..
    · exact Nat.le_trans (Nat.min_le_right ..) (mnL_le y e)
theorem mnL_mem : ∀ {l : List Nat}, l ≠ [] → mnL l ∈ l
  | [], h => absurd rfl h
  | [a], _ => List.mem_cons_self
  | a :: b :: r, _ => by
    show min a (mnL (b :: r)) ∈ _
    rcases Nat.le_total a (mnL (b :: r)) with e | e
    · rw [Nat.min_eq_left e]; exact List.mem_cons_self
    · rw [Nat.min_eq_right e]; exact List.mem_cons_of_mem _ (mnL_mem (by simp))
theorem mnL_is {l : List Nat} {m : Int} (hm : m ∈ l.map fun (n : Nat) => (n : Int)) (hl : ∀ y ∈ l.map (fun (n : Nat) => (n : Int)), m ≤ y) : m = (mnL l : Int) := by
  obtain ⟨x, hx, rfl⟩ := List.mem_map.mp hm
  have h1 := mnL_le x hx
  have h2 := hl _ (List.mem_map_of_mem (mnL_mem (l := l) (by rintro rfl; cases hx)))
  have h2 : (x : Int) ≤ (mnL l : Int) := h2
  omega
/-- the numbers that moves_of answers -/
def mvN (left right : Nat) (linked : Bool) (m : Nat) : List Nat := (left + right * ((left + m - 3) / (m - 2))) :: if linked = true ∧ left ≤ 60 ∧ right ≤ 60 then [costBy left m + costBy right m + left + right] else []
theorem mvD_vals (left right : Nat) (linked : Bool) (m : Nat) : (mvD left right linked m).map (·.2) = (mvN left right linked m).map vN := by
  unfold mvD mvN
  split <;> rfl
def stepC (size : Nat) (fl : List (Nat × List Nat)) (tabs : List (List Nat)) (ats : List (Nat × List Nat)) (m : Nat) (el : List Nat) (i : Nat) : Nat := mnL (mvN (leftN size fl tabs ats el) (rightN tabs ats i) (linkB ats el i) m)
def ordS (size : Nat) (fl : List (Nat × List Nat)) (tabs : List (List Nat)) (ats : List (Nat × List Nat)) (m : Nat) (el : List Nat) (k : Nat) : Nat :=
  rightN tabs ats (el.getD 0 0) + ((List.range k).map fun s => stepC size fl tabs ats m (el.take (s + 1)) (el.getD (s + 1) 0)).sum
def ordC (size : Nat) (fl : List (Nat × List Nat)) (tabs : List (List Nat)) (ats : List (Nat × List Nat)) (m : Nat) (el : List Nat) : Nat := ordS size fl tabs ats m el (el.length - 1)
theorem getD_at {el : List Nat} {s : Nat} (h : s < el.length) : el.getD s 0 = el[s] := by
  rw [List.getD_eq_getElem?_getD, List.getElem?_eq_getElem h]
  rfl
theorem cut_takeT (l : List Nat) (s : Nat) : cutV (l.map vN) none (some (s : Int)) = (l.take s).map vN := by rw [cut_take, List.map_take]
theorem notwhole {n s : Nat} (h : s < n) : ¬ (HT.sIx n 0 none = 0 ∧ HT.sIx n n (some (s : Int)) = n) := fun e => by
  rw [HT.sIx_nat] at e
  omega
section
variable {P : Program} {w : World} {K : PySem.W.Frag} {mg : Str → Option Value} {base : Heap} {CS CD CQ : Addr}
def spStepMoves (CS CD CQ : Addr) : Sp := fun vs H Q _ => ∃ (q e d : Addr) (size : Nat) (widths : List Nat) (ats fl : List (Nat × List Nat)) (tabs : List (List Nat)) (el : List Nat) (s m : Nat), vs = [.ref q, .ref e, vN s, .ref d, vN m] ∧ Good CS CD CQ H q d size widths ats fl tabs ∧ TN H e el ∧ OrdOk ats.length el ∧ 1 ≤ s ∧ s < ats.length ∧ 3 ≤ m ∧ m ≤ 8 ∧
  ∀ H' p, Same H H' → H p = none → H' p = some (.dK (mvA size fl tabs ats (el.take s) (el.getD s 0) m)) → Q (.ref p) H'
theorem sc_step_moves : FnScope ["query", "order", "step", "data", "memory"] ["query", "order", "step", "data", "memory"] (defScope s_step_moves) := ⟨rfl, rfl, rfl, by decide +kernel, rfl, by decide +kernel, by decide +kernel⟩
theorem ok_step_moves (T : Tx K mg) (Z : Cs K mg CS CD CQ) (h : Has K mg "step_moves" s_step_moves) (c_check_both : Cal P w K mg base 4 "check_both" (spCheckBoth CS CD CQ)) (c_check_order : Cal P w K mg base 3 "check_order" (spCheckOrder CS CQ)) (c_check_number : Cal P w K mg base 2 "check_number" spCheckNumber) (c_check_memory : Cal P w K mg base 2 "check_memory" spCheckMemory)
    (c_moves_of : Cal P w K mg base 7 "moves_of" (spMovesOf CS CD CQ)) : Cal P w K mg base 8 "step_moves" (spStepMoves CS CD CQ) := by
  refine cal_of h sc_step_moves (fun _ _ _ _ _ _ us hl => match us, hl with | [_, _, _, _, _], _ => rfl) (fun vs H Q E h => ?_) (fun f cdv A outer s H vs Q E hr h => ?_)
  · obtain ⟨_, _, _, _, _, _, _, _, _, _, _, rfl, _⟩ := h
    rfl
  · obtain ⟨q, e, d, size, widths, ats, fl, tabs, el, st, m, rfl, hG, he, ⟨o1, o2, o3⟩, s1, s2, m3, m8, k⟩ := h
    obtain ⟨hQ, hD, tok, h3, f6, aw⟩ := id hG
    have a3 := aw.2.1
    refine ⟨_, (pss_cons (ps_expr (pc c_check_both hr (by decide) (by rfl) (pa_cons (pv 0) (pa_cons (pv 3) pa_nil))))
      (pss_cons (ps_expr (pc c_check_order hr (by decide) (by rfl) (pa_cons (pv 0) (pa_cons (pv 1) pa_nil))))
      (pss_cons (ps_expr (pc c_check_number hr (by decide) (by rfl) (pa_cons (pv 2) (pa_cons pe_int (pa_cons (pe_op op_sub (pe_callB (klen K) (by rfl) T.bLen (by decide +kernel) (pa_cons (kfld K (pv 0) rfl) pa_nil)) pe_int) pa_nil)))))
      (pss_cons (ps_expr (pc c_check_memory hr (by decide) (by rfl) (pa_cons (pv 4) pa_nil)))
      (pss_one (ps_ret (pc c_moves_of hr (by decide) (by rfl) (pa_cons (pv 0) (pa_cons (pe_slice (kslT K) (pv 1) po_none (po_some (pv 2))) (pa_cons (pe_ix (kixT K) (pv 1) (pv 2) (fun _ _ => rfl)) (pa_cons (pv 3) (pa_cons (pv 4) pa_nil)))))))))))), ?_⟩
    refine ⟨_, rfl, _, rfl, q, d, size, widths, ats, fl, tabs, rfl, hQ, hD, fun H1 r1 => ?_⟩
    refine ⟨_, rfl, _, rfl, q, e, size, widths, ats, fl, el, rfl, hQ.sd r1.sd, r1 _ _ he, o1, o2, o3, by omega, fun H2 r2 => ?_⟩
    have r02 := r1.trans r2
    obtain ⟨dx, sq, a, fa, sh, hq, hS, ⟨xa, ha, hxa⟩, _⟩ := hQ.sd r02.sd
    have hxl := plen hxa
    have he2 := r02 _ _ he
    refine ⟨_, rfl, _, rfl, q, CQ, dx, _, _, rfl, hq, Z.clQ, Z.nQa, rfl, a, _, rfl, .inr (SqT.of ha), _, _, rfl, rfl, (st : Int), 1, _, rfl, by omega, by rw [List.length_map]; omega, ?_⟩
    refine ⟨_, rfl, m, rfl, m3, m8, ?_⟩
    refine ⟨_, rfl, _, rfl, _, rfl, (st : Int), rfl, e, _, rfl, SqT.of he2, notwhole (by rw [List.length_map]; omega), fun pe npe => ?_⟩
    rw [cut_takeT]
    have r3 : Same H2 (upd H2 pe (.tup ((el.take st).map vN))) := Same.nw npe
    have hpe : TN (upd H2 pe (.tup ((el.take st).map vN))) pe (el.take st) := upd_same
    generalize upd H2 pe (.tup ((el.take st).map vN)) = H3 at r3 hpe
    have r03 := r02.trans r3
    refine ⟨_, rfl, _, rfl, e, _, (st : Int), vN (el.getD st 0), rfl, rfl, SqT.of (r03 _ _ he), atI_nat ?_, _, rfl, _, rfl, q, pe, d, size, widths, ats, fl, tabs, el.take st, el.getD st 0, m, rfl, hG.1.sd r03.sd, hD.sd r03.sd, tok, h3, f6, hpe, fun i hi => o1 i (List.mem_of_mem_take hi), aw, ?_, ?_, ?_, m3, m8, fun H' p s' np hp => k H' p (r03.trans s') (r03.free np) hp⟩
    · rw [getD_at (by omega), List.getElem?_map, List.getElem?_eq_getElem (by omega)]
      rfl
    · rw [List.length_take]
      omega
    · rw [List.length_take]
      omega
    · rw [getD_at (by omega)]
      exact o1 _ (List.getElem_mem _)
def spMovesBy (CS CD CQ : Addr) : Sp := fun vs H Q _ => ∃ (q e d : Addr) (size : Nat) (widths : List Nat) (ats fl : List (Nat × List Nat)) (tabs : List (List Nat)) (el : List Nat) (m : Nat), vs = [.ref q, .ref e, .ref d, vN m] ∧ Good CS CD CQ H q d size widths ats fl tabs ∧ TN H e el ∧ OrdOk ats.length el ∧ 3 ≤ m ∧ m ≤ 8 ∧
  ∀ H', Same H H' → Q (vN (ordC size fl tabs ats m el)) H'
theorem sc_moves_by : FnScope ["query", "order", "data", "memory", "found", "step"] ["query", "order", "data", "memory"] (defScope s_moves_by) := ⟨rfl, rfl, rfl, by decide +kernel, rfl, by decide +kernel, by decide +kernel⟩
theorem ok_moves_by (T : Tx K mg) (Z : Cs K mg CS CD CQ) (h : Has K mg "moves_by" s_moves_by) (c_rows : MetO P w K mg base 3 CD "rows" (spRows CD CS)) (c_moves_of : Cal P w K mg base 7 "moves_of" (spMovesOf CS CD CQ)) : Cal P w K mg base 8 "moves_by" (spMovesBy CS CD CQ) := by
  refine cal_of h sc_moves_by (fun _ _ _ _ _ _ us hl => match us, hl with | [_, _, _, _], _ => rfl) (fun vs H Q E h => ?_) (fun f cdv A outer s H vs Q E hr h => ?_)
  · obtain ⟨_, _, _, _, _, _, _, _, _, _, rfl, _⟩ := h
    rfl
  · obtain ⟨q, e, d, size, widths, ats, fl, tabs, el, m, rfl, hG, he, ⟨o1, o2, o3⟩, m3, m8, k⟩ := h
    obtain ⟨hQ, hD0, tok, h3, f6, aw⟩ := id hG
    obtain ⟨l1, a3, hat⟩ := id aw
    obtain ⟨dx, sq, a, fa, sh, hq, hS, ⟨xa, ha, hxa⟩, _⟩ := id hQ
    obtain ⟨dxd, sd, td, hd, hSd⟩ := id hD0
    obtain ⟨z2, z6, z4, zl, zw, zt⟩ := id tok
    have hxl := plen hxa
    have hi0 := o1 _ (List.getElem_mem (show 0 < el.length by omega))
    have hu := hu_of hr
    refine ⟨_, (pss_cons (ps_set (i := 4) sc_moves_by.nd rfl (Or.inl rfl) (pm c_rows hr (by decide) (pv 2) (pa_cons (pe_ix (kixT K) (pe_ix (kixT K) (kfld K (pv 0) rfl) (pe_ix (kixT K) (pv 1) pe_int (fun _ _ => rfl)) (fun _ _ => rfl)) pe_int (fun _ _ => rfl)) pa_nil)))
      (pss_cons (ps_for PassesOwn.never rfl (pi_range2 (by rfl) T.bRange (pa_cons pe_int (pa_cons (pe_callB (klen K) (by rfl) T.bLen (by decide +kernel) (pa_cons (pv 1) pa_nil)) pa_nil))) (pg_name (i := 5) sc_moves_by.nd rfl (Or.inl rfl)) (pss_one (ps_aug (i := 4) sc_moves_by.nd rfl (Or.inl rfl) (pe_callB (kmin K rfl) (by rfl) T.bMin (by decide +kernel) (pa_cons (pe_listVals rfl (by rfl) T.bList (pc c_moves_of hr (by decide) (by rfl) (pa_cons (pv 0) (pa_cons (pe_slice (kslT K) (pv 1) po_none (po_some (pv 5))) (pa_cons (pe_ix (kixT K) (pv 1) (pv 5) (fun _ _ => rfl)) (pa_cons (pv 2) (pa_cons (pv 3) pa_nil))))))) pa_nil)) ip_add)))
      (pss_one (ps_ret (pv 4))))), ?_⟩
    obtain ⟨qv, hp1, hp2⟩ := pget hxa (List.getElem?_eq_getElem (by omega : el[0] < xa.length)) (List.getElem?_eq_getElem hi0)
    obtain ⟨hw, u1, u2, u5⟩ := hat _ (List.getElem_mem hi0)
    have htl : ats[el[0]].1 < tabs.length := by
      have := (List.getElem?_eq_some_iff.mp hw).1
      omega
    refine ⟨_, rfl, d, dxd, _, rfl, hd, rfl, _, rfl, q, CQ, dx, _, _, rfl, hq, Z.clQ, Z.nQa, rfl, _, rfl, e, _, 0, vN el[0], rfl, rfl, SqT.of he, atI_nat (j := 0) (by rw [List.getElem?_map, List.getElem?_eq_getElem (by omega)]; rfl), a, _, (el[0] : Int), .ref (xa[el[0]]'(by omega)), rfl, rfl, SqT.of ha, atI_nat (by rw [List.getElem?_map, List.getElem?_eq_getElem (by omega)]; rfl), xa[el[0]]'(by omega), _, 0, _, rfl, rfl, SqT.of hp1, atI_nat (j := 0) rfl, d, size, widths, tabs, ats[el[0]].1, tabs[ats[el[0]].1], rfl, hD0, zl, List.getElem?_eq_getElem htl, ?_⟩
    have er : tabs[ats[el[0]].1].sum = ordS size fl tabs ats m el 0 := by
      unfold ordS rightN
      rw [getD_at (by omega), List.getElem?_eq_getElem hi0]
      show _ = ((tabs[ats[el[0]].1]?).getD []).sum + 0
      rw [List.getElem?_eq_getElem htl]
      rfl
    rw [er]
    refine ⟨_, rfl, e, _, rfl, .inr (SqT.of he), 1, _, rfl, ⟨by omega, by omega, by omega, by rw [List.length_map]; omega⟩, for_it walk_range (fun i σ H1 => ∃ c5 : Option V, σ = [some (.ref q), some (.ref e), some (.ref d), some (vN m), some (vN (ordS size fl tabs ats m el i)), c5] ∧ Same H H1) ⟨none, rfl, Same.refl _⟩ (fun _ _ _ _ _ => trivial) ?_ ?_⟩
    · rintro i x σ H1 H1' hi ⟨c5, rfl, r1⟩ ⟨rfl, hx⟩
      rw [List.length_map] at hi
      have hi2 : i + 1 < el.length := by omega
      have ex : (1 : Int) + (i : Int) = ((i + 1 : Nat) : Int) := by omega
      have hx : x = V.int ((i + 1 : Nat) : Int) := by rw [← ex]; exact hx
      subst hx
      have he1 := r1 _ _ he
      refine ⟨_, rfl, _, rfl, _, rfl, _, rfl, ((i + 1 : Nat) : Int), rfl, e, _, rfl, SqT.of he1, notwhole (by rw [List.length_map]; exact hi2), fun pe npe => ?_⟩
      rw [cut_takeT]
      have r3 : Same H1' (upd H1' pe (.tup ((el.take (i + 1)).map vN))) := Same.nw npe
      have hpe : TN (upd H1' pe (.tup ((el.take (i + 1)).map vN))) pe (el.take (i + 1)) := upd_same
      generalize upd H1' pe (.tup ((el.take (i + 1)).map vN)) = H3 at r3 hpe
      have r03 := r1.trans r3
      refine ⟨_, rfl, _, rfl, e, _, ((i + 1 : Nat) : Int), vN (el.getD (i + 1) 0), rfl, rfl, SqT.of (r03 _ _ he), atI_nat ?_, _, rfl, _, rfl, q, pe, d, size, widths, ats, fl, tabs, el.take (i + 1), el.getD (i + 1) 0, m, rfl, hQ.sd r03.sd, hD0.sd r03.sd, tok, h3, f6, hpe, fun i hi => o1 i (List.mem_of_mem_take hi), aw, ?_, ?_, ?_, m3, m8, fun H4 p s4 np hp => ?_⟩
      · rw [getD_at hi2, List.getElem?_map, List.getElem?_eq_getElem hi2]
        rfl
      · rw [List.length_take]
        omega
      · rw [List.length_take]
        omega
      · rw [getD_at hi2]
        exact o1 _ (List.getElem_mem _)
      refine ⟨p, _, rfl, .inl ⟨_, hp, rfl⟩, fun lp nlp => ?_⟩
      refine ⟨lp, (mvN (leftN size fl tabs ats (el.take (i + 1))) (rightN tabs ats (el.getD (i + 1) 0)) (linkB ats (el.take (i + 1)) (el.getD (i + 1) 0)) m).map fun (n : Nat) => (n : Int), rfl, SqL.of ?_, ?_, fun mm h1 h2 => ?_⟩
      · rw [upd_same]
        unfold mvA
        rw [mvD_vals, vN_map]
      · unfold mvN
        rw [List.length_map]
        exact Nat.zero_lt_succ _
      · have em := mnL_is h1 h2
        subst em
        refine ⟨_, _, rfl, rfl, some (vN (i + 1)), ?_, (r03.trans s4).trans (Same.nw nlp)⟩
        · have eo : ordS size fl tabs ats m el (i + 1) = ordS size fl tabs ats m el i + stepC size fl tabs ats m (el.take (i + 1)) (el.getD (i + 1) 0) := by
            unfold ordS
            rw [List.range_succ, List.map_append, List.sum_append]
            simp
            omega
          rw [eo]
          show [_, _, _, _, some (V.int ((ordS size fl tabs ats m el i : Int) + (stepC size fl tabs ats m (el.take (i + 1)) (el.getD (i + 1) 0) : Int))), _] = [_, _, _, _, some (V.int ((_ + _ : Nat) : Int)), _]
          rw [Int.natCast_add (ordS size fl tabs ats m el i)]
    · rintro σ H1 ⟨c5, rfl, r1⟩
      have en : (((el.map vN).length : Int) - 1).toNat = el.length - 1 := by
        rw [List.length_map]
        omega
      refine ⟨_, rfl, ?_⟩
      rw [en]
      exact k H1 r1
def spOrderMoves (CS CD CQ : Addr) : Sp := fun vs H Q _ => ∃ (q e d : Addr) (size : Nat) (widths : List Nat) (ats fl : List (Nat × List Nat)) (tabs : List (List Nat)) (el : List Nat) (m : Nat), vs = [.ref q, .ref e, .ref d, vN m] ∧ Good CS CD CQ H q d size widths ats fl tabs ∧ TN H e el ∧ OrdOk ats.length el ∧ 3 ≤ m ∧ m ≤ 8 ∧
  ∀ H', Same H H' → Q (vN (ordC size fl tabs ats m el)) H'
theorem sc_order_moves : FnScope ["query", "order", "data", "memory"] ["query", "order", "data", "memory"] (defScope s_order_moves) := ⟨rfl, rfl, rfl, by decide +kernel, rfl, by decide +kernel, by decide +kernel⟩
theorem ok_order_moves (T : Tx K mg) (Z : Cs K mg CS CD CQ) (h : Has K mg "order_moves" s_order_moves) (c_check_both : Cal P w K mg base 4 "check_both" (spCheckBoth CS CD CQ)) (c_check_order : Cal P w K mg base 3 "check_order" (spCheckOrder CS CQ)) (c_check_memory : Cal P w K mg base 2 "check_memory" spCheckMemory)
    (c_moves_by : Cal P w K mg base 8 "moves_by" (spMovesBy CS CD CQ)) : Cal P w K mg base 9 "order_moves" (spOrderMoves CS CD CQ) := by
  refine cal_of h sc_order_moves (fun _ _ _ _ _ _ us hl => match us, hl with | [_, _, _, _], _ => rfl) (fun vs H Q E h => ?_) (fun f cdv A outer s H vs Q E hr h => ?_)
  · obtain ⟨_, _, _, _, _, _, _, _, _, _, rfl, _⟩ := h
    rfl
  · obtain ⟨q, e, d, size, widths, ats, fl, tabs, el, m, rfl, hG, he, ⟨o1, o2, o3⟩, m3, m8, k⟩ := h
    obtain ⟨hQ, hD, tok, h3, f6, aw⟩ := id hG
    have a3 := aw.2.1
    refine ⟨_, (pss_cons (ps_expr (pc c_check_both hr (by decide) (by rfl) (pa_cons (pv 0) (pa_cons (pv 2) pa_nil))))
      (pss_cons (ps_expr (pc c_check_order hr (by decide) (by rfl) (pa_cons (pv 0) (pa_cons (pv 1) pa_nil))))
      (pss_cons (ps_expr (pc c_check_memory hr (by decide) (by rfl) (pa_cons (pv 3) pa_nil)))
      (pss_one (ps_ret (pc c_moves_by hr (by decide) (by rfl) (pa_cons (pv 0) (pa_cons (pv 1) (pa_cons (pv 2) (pa_cons (pv 3) pa_nil)))))))))), ?_⟩
    refine ⟨_, rfl, _, rfl, q, d, size, widths, ats, fl, tabs, rfl, hQ, hD, fun H1 r1 => ?_⟩
    refine ⟨_, rfl, _, rfl, q, e, size, widths, ats, fl, el, rfl, hQ.sd r1.sd, r1 _ _ he, o1, o2, o3, by omega, fun H2 r2 => ?_⟩
    have r02 := r1.trans r2
    refine ⟨_, rfl, m, rfl, m3, m8, ?_⟩
    exact ⟨_, rfl, _, rfl, _, rfl, _, rfl, q, e, d, size, widths, ats, fl, tabs, el, m, rfl, hG.sd r02.sd, r02 _ _ he, ⟨o1, o2, o3⟩, m3, m8, fun H' s' => k H' (r02.trans s')⟩
end
end K16
set_option Elab.async false
set_option linter.all false
set_option maxRecDepth 100000
set_option maxHeartbeats 4000000
namespace K16
open PySem PySem.Spec PyProof.Rows L2
/-! ### the sets' dict -/
def cput (fd : Cnt) (l : List Nat) (v : Nat) : Cnt := if (fd.any fun p => decide (p.1 = l)) = true then fd.map (fun p => if p.1 = l then (p.1, v) else p) else fd ++ [(l, v)]
def cgetD (fd : Cnt) (l : List Nat) (x : Nat) : Nat := ((fd.find? fun p => decide (p.1 = l)).map (·.2)).getD x
theorem encC_put (fd : Cnt) (l : List Nat) (x : Nat) : putK (encC fd) (keyL l) (vN x) = encC (cput fd l x) := by
  have e : ((encC fd).any fun kv => decide (kv.1 = keyL l)) = fd.any fun p => decide (p.1 = l) := by
    unfold encC
    rw [List.any_map]
    congr 1
    funext p
    exact decide_eq_decide.mpr keyL_inj
  unfold putK cput
  rw [e]
  by_cases h : (fd.any fun p => decide (p.1 = l)) = true
  · rw [if_pos h, if_pos h]
    unfold encC
    rw [List.map_map, List.map_map]
    refine List.map_congr_left fun p _ => ?_
    show (if keyL p.1 = keyL l then _ else _) = _
    by_cases hp : p.1 = l
    · rw [if_pos (keyL_inj.mpr hp)]
      simp [hp]
    · rw [if_neg (fun z => hp (keyL_inj.mp z))]
      simp [hp]
  · rw [if_neg h, if_neg h]
    unfold encC
    rw [List.map_append]
    rfl
theorem cput_len (fd : Cnt) (l : List Nat) (x : Nat) : (cput fd l x).length ≤ fd.length + 1 := by
  unfold cput
  split
  · rw [List.length_map]; omega
  · rw [List.length_append]; exact Nat.le_refl _
theorem cput_keys (fd : Cnt) (l : List Nat) (x : Nat) : ∀ k ∈ (cput fd l x).map (·.1), k = l ∨ k ∈ fd.map (·.1) := by
  intro k hk
  unfold cput at hk
  split at hk
  · obtain ⟨p, hp, rfl⟩ := List.mem_map.mp hk
    obtain ⟨r, hr, rfl⟩ := List.mem_map.mp hp
    refine .inr ?_
    have e : (if r.1 = l then (r.1, x) else r).1 = r.1 := by split <;> rfl
    rw [e]
    exact List.mem_map_of_mem hr
  · rw [List.map_append] at hk
    rcases List.mem_append.mp hk with e | e
    · exact .inr e
    · exact .inl (List.mem_singleton.mp e)
theorem cput_mono (fd : Cnt) (l : List Nat) (x : Nat) : ∀ k ∈ fd.map (·.1), k ∈ (cput fd l x).map (·.1) := by
  intro k hk
  unfold cput
  split
  · rw [List.map_map]
    obtain ⟨p, hp, rfl⟩ := List.mem_map.mp hk
    refine List.mem_map.mpr ⟨p, hp, ?_⟩
    show (if p.1 = l then (p.1, x) else p).1 = p.1
    split <;> rfl
  · rw [List.map_append]
    exact List.mem_append_left _ hk
theorem encC_has {fd : Cnt} {l : List Nat} (h : l ∈ fd.map (·.1)) : valV (encC fd) (keyL l) = some (vN (cget fd l)) := by
  rw [encC_get]
  unfold cget
  cases hf : (fd.find? fun q => decide (q.1 = l)) with
  | none =>
    obtain ⟨p, hp, e⟩ := List.mem_map.mp h
    have := List.find?_eq_none.mp hf p hp
    simp [e] at this
  | some y => rfl
theorem encC_getD (fd : Cnt) (l : List Nat) (x : Nat) : (valV (encC fd) (keyL l)).getD (vN x) = vN (cgetD fd l x) := by
  rw [encC_get]
  unfold cgetD
  cases (fd.find? fun p => decide (p.1 = l)).map (·.2) <;> rfl
/-! ### sorted numbers -/
def insN (x : Nat) : List Nat → List Nat
  | [] => [x]
  | y :: r => if x ≤ y then x :: y :: r else y :: insN x r
def srtN : List Nat → List Nat
  | [] => []
  | x :: r => insN x (srtN r)
theorem insN_perm (x : Nat) : ∀ l, (insN x l).Perm (x :: l)
  | [] => .refl _
  | y :: r => by
    show (if x ≤ y then x :: y :: r else y :: insN x r).Perm _
    split
    · exact .refl _
    · exact ((insN_perm x r).cons y).trans (.swap ..)
theorem srtN_perm : ∀ l, (srtN l).Perm l
  | [] => .refl _
  | x :: r => (insN_perm x _).trans ((srtN_perm r).cons x)
theorem insN_pw {x : Nat} : ∀ {l : List Nat}, l.Pairwise (· ≤ ·) → (insN x l).Pairwise (· ≤ ·)
  | [], _ => List.pairwise_singleton ..
  | y :: r, h => by
    obtain ⟨h1, h2⟩ := List.pairwise_cons.mp h
    show (if x ≤ y then x :: y :: r else y :: insN x r).Pairwise _
    split
    · rename_i hxy
      refine List.pairwise_cons.mpr ⟨fun z hz => ?_, h⟩
      rcases List.mem_cons.mp hz with e | e
      · rw [e]; exact hxy
      · exact Nat.le_trans hxy (h1 z e)
    · rename_i hxy
      refine List.pairwise_cons.mpr ⟨fun z hz => ?_, insN_pw h2⟩
      rcases List.mem_cons.mp ((insN_perm x r).subset hz) with e | e
      · rw [e]; omega
      · exact h1 z e
theorem srtN_pw : ∀ l : List Nat, (srtN l).Pairwise (· ≤ ·)
  | [] => .nil
  | x :: r => insN_pw (srtN_pw r)
theorem uniq_le : ∀ {l m : List Int}, l.Pairwise (· ≤ ·) → m.Pairwise (· ≤ ·) → l.Perm m → l = m
  | [], m, _, _, p => p.nil_eq
  | a :: l, [], _, _, p => p.eq_nil
  | a :: l, b :: m, hl, hm, p => by
    obtain ⟨hl1, hl2⟩ := List.pairwise_cons.mp hl
    obtain ⟨hm1, hm2⟩ := List.pairwise_cons.mp hm
    have e : a = b := by
      rcases List.mem_cons.mp (p.subset List.mem_cons_self) with q | q
      · exact q
      · rcases List.mem_cons.mp (p.symm.subset List.mem_cons_self) with s | s
        · exact s.symm
        · exact Int.le_antisymm (hl1 b s) (hm1 a q)
    subst e
    rw [uniq_le hl2 hm2 p.cons_inv]
theorem srtN_is {l : List Nat} {ns : List Int} (hp : ns.Perm (l.map fun (n : Nat) => (n : Int))) (hs : ns.Pairwise (· ≤ ·)) : ns = (srtN l).map fun (n : Nat) => (n : Int) := by
  refine uniq_le hs ?_ (hp.trans ((srtN_perm l).map _).symm)
  exact List.pairwise_map.mpr ((srtN_pw l).imp fun h => by omega)
/-! ### the least cost, set by set -/
section
variable (sc : List Nat → Nat → Nat) (n : Nat)
def lbA (early : List Nat) (fd : Cnt) (a : Nat) : Cnt := cput fd (srtN (early ++ [a])) (min (cget fd early + sc early a) (cgetD fd (srtN (early ++ [a])) (cget fd early + sc early a)))
def outs (early : List Nat) : List Nat := (List.range n).filter fun a => !decide (a ∈ early)
def lbE (fd : Cnt) (early : List Nat) : Cnt := (outs n early).foldl (lbA sc early) fd
def keysOf (fd : Cnt) (size : Nat) : List (List Nat) := (fd.filter fun p => decide (p.1.length = size)).map (·.1)
def lbS (fd : Cnt) (size : Nat) : Cnt := (keysOf fd size).foldl (lbE sc n) fd
def lbAll (fd : Cnt) (k : Nat) : Cnt := (List.range k).foldl (fun fd i => lbS sc n fd (i + 1)) fd
end
def fd0 (rn : Nat → Nat) (n : Nat) : Cnt := (List.range n).map fun i => ([i], rn i)
def leastC (sc : List Nat → Nat → Nat) (rn : Nat → Nat) (n : Nat) : Nat := cget (lbAll sc n (fd0 rn n) (n - 1)) (List.range n)
def KeyOk (n s : Nat) (fd : Cnt) : Prop := ∀ l ∈ fd.map (·.1), 1 ≤ l.length ∧ l.length ≤ s ∧ ∀ i ∈ l, i < n
theorem leastC_has (sc : List Nat → Nat → Nat) (rn : Nat → Nat) {n : Nat} (h1 : 1 ≤ n) (h3 : n ≤ 3) : List.range n ∈ (lbAll sc n (fd0 rn n) (n - 1)).map (·.1) := by
  have step : ∀ {fd : Cnt} {early : List Nat} {l : List Nat} (as : List Nat), l ∈ fd.map (·.1) → l ∈ (as.foldl (lbA sc early) fd).map (·.1) := by
    intro fd early l as
    induction as generalizing fd with
    | nil => exact id
    | cons a r ih => exact fun h => ih (cput_mono _ _ _ _ h)
  have stepE : ∀ {fd : Cnt} {l : List Nat} (es : List (List Nat)), l ∈ fd.map (·.1) → l ∈ (es.foldl (lbE sc n) fd).map (·.1) := by
    intro fd l es
    induction es generalizing fd with
    | nil => exact id
    | cons a r ih => exact fun h => ih (step _ h)
  have put : ∀ (fd : Cnt) (early : List Nat) (a : Nat), srtN (early ++ [a]) ∈ (lbA sc early fd a).map (·.1) := by
    intro fd early a
    unfold lbA cput
    split
    · rename_i h
      obtain ⟨p, hp, e⟩ := List.any_eq_true.mp h
      have e := of_decide_eq_true e
      rw [List.map_map]
      refine List.mem_map.mpr ⟨p, hp, ?_⟩
      show (if p.1 = _ then _ else p).1 = _
      rw [if_pos e]
      exact e
    · rw [List.map_append]
      exact List.mem_append_right _ List.mem_cons_self
  have inj : ∀ {a b : List Nat}, a.map (fun (n : Nat) => (n : Int)) = b.map (fun (n : Nat) => (n : Int)) → a = b := by
    intro a b h
    have := congrArg (fun l : List Int => l.map Int.toNat) h
    rw [tn_map, tn_map] at this
    exact this
  have rs : ∀ k, srtN (List.range k ++ [k]) = List.range (k + 1) := by
    intro k
    rw [← List.range_succ]
    refine inj (srtN_is (l := List.range (k + 1)) (.refl _) ?_).symm
    exact List.pairwise_map.mpr ((List.pairwise_lt_range).imp fun h => by omega)
  have one : ∀ k, k < n → List.range k ∈ (((List.range (k - 1)).foldl (fun fd i => lbS sc n fd (i + 1)) (fd0 rn n)).map (·.1)) → 1 ≤ k → List.range (k + 1) ∈ ((List.range k).foldl (fun fd i => lbS sc n fd (i + 1)) (fd0 rn n)).map (·.1) := by
    intro k hk h h1
    have ek : List.range k = List.range (k - 1) ++ [k - 1] := by
      have : k = (k - 1) + 1 := by omega
      conv => lhs; rw [this]
      exact List.range_succ
    rw [ek, List.foldl_append]
    show _ ∈ (lbS sc n _ (k - 1 + 1)).map (·.1)
    generalize (List.range (k - 1)).foldl (fun fd i => lbS sc n fd (i + 1)) (fd0 rn n) = fd at h ⊢
    unfold lbS
    have hm : List.range k ∈ keysOf fd (k - 1 + 1) := by
      obtain ⟨p, hp, e⟩ := List.mem_map.mp h
      refine List.mem_map.mpr ⟨p, List.mem_filter.mpr ⟨hp, ?_⟩, e⟩
      rw [e, List.length_range]
      exact decide_eq_true (by omega)
    obtain ⟨pre, post, hpp⟩ := List.append_of_mem hm
    rw [hpp, List.foldl_append, List.foldl_cons]
    refine stepE post ?_
    unfold lbE
    have ho : k ∈ outs n (List.range k) := List.mem_filter.mpr ⟨List.mem_range.mpr hk, by simp⟩
    obtain ⟨p2, q2, h2⟩ := List.append_of_mem ho
    rw [h2, List.foldl_append, List.foldl_cons]
    refine step q2 ?_
    have := put (p2.foldl (lbA sc (List.range k)) (pre.foldl (lbE sc n) fd)) (List.range k) k
    rw [rs] at this
    exact this
  have all : ∀ k, k < n → List.range (k + 1) ∈ ((List.range k).foldl (fun fd i => lbS sc n fd (i + 1)) (fd0 rn n)).map (·.1) := by
    intro k
    induction k with
    | zero =>
      intro hk
      refine List.mem_map.mpr ⟨([0], rn 0), List.mem_map.mpr ⟨0, List.mem_range.mpr hk, rfl⟩, rfl⟩
    | succ k ih => exact fun hk => one (k + 1) hk (ih (by omega)) (by omega)
  have := all (n - 1) (by omega)
  rw [show n - 1 + 1 = n by omega] at this
  exact this
section
variable {P : Program} {w : World} {K : PySem.W.Frag} {mg : Str → Option Value} {base : Heap} {CS CD CQ : Addr}
def leastOf (size : Nat) (fl : List (Nat × List Nat)) (tabs : List (List Nat)) (ats : List (Nat × List Nat)) (m : Nat) : Nat := leastC (stepC size fl tabs ats m) (rightN tabs ats) ats.length
def spLeastBy (CS CD CQ : Addr) : Sp := fun vs H Q _ => ∃ (q d : Addr) (size : Nat) (widths : List Nat) (ats fl : List (Nat × List Nat)) (tabs : List (List Nat)) (m : Nat), vs = [.ref q, .ref d, vN m] ∧ Good CS CD CQ H q d size widths ats fl tabs ∧ 3 ≤ m ∧ m ≤ 8 ∧
  ∀ H', Same H H' → Q (vN (leastOf size fl tabs ats m)) H'
theorem KeyOk.put {n s : Nat} {fd : Cnt} (h : KeyOk n s fd) {l : List Nat} {x : Nat} (h1 : 1 ≤ l.length) (h2 : l.length ≤ s) (h3 : ∀ i ∈ l, i < n) : KeyOk n s (cput fd l x) := fun k hk => by
  rcases cput_keys fd l x k hk with e | e
  · rw [e]; exact ⟨h1, h2, h3⟩
  · exact h k e
theorem sc_least_by : FnScope ["query", "data", "memory", "many", "atom", "found", "size", "early", "price", "late", "some", "one"] ["query", "data", "memory"] (defScope s_least_by) := ⟨rfl, rfl, rfl, by decide +kernel, rfl, by decide +kernel, by decide +kernel⟩
theorem ok_least_by (T : Tx K mg) (Z : Cs K mg CS CD CQ) (h : Has K mg "least_by" s_least_by) (c_rows : MetO P w K mg base 3 CD "rows" (spRows CD CS)) (c_moves_of : Cal P w K mg base 7 "moves_of" (spMovesOf CS CD CQ)) : Cal P w K mg base 8 "least_by" (spLeastBy CS CD CQ) := by
  refine cal_of h sc_least_by (fun _ _ _ _ _ _ us hl => match us, hl with | [_, _, _], _ => rfl) (fun vs H Q E h => ?_) (fun f cdv A outer s H vs Q E hr h => ?_)
  · obtain ⟨_, _, _, _, _, _, _, _, rfl, _⟩ := h
    rfl
  · obtain ⟨q, d, size, widths, ats, fl, tabs, m, rfl, hG, m3, m8, k⟩ := h
    obtain ⟨hQ, hD0, tok, h3, f6, aw⟩ := id hG
    obtain ⟨l1, a3, hat⟩ := id aw
    obtain ⟨dx, sq, a, fa, sh, hq, hS, ⟨xa, ha, hxa⟩, _⟩ := id hQ
    obtain ⟨dxd, sd, td, hd, hSd⟩ := id hD0
    obtain ⟨z2, z6, z4, zl, zw, zt⟩ := id tok
    have hxl := plen hxa
    have hu := hu_of hr
    refine ⟨_, (pss_cons (ps_set (i := 3) sc_least_by.nd rfl (Or.inl rfl) (pe_callB (klen K) (by rfl) T.bLen (by decide +kernel) (pa_cons (kfld K (pv 0) rfl) pa_nil)))
      (pss_cons (ps_set (i := 5) sc_least_by.nd rfl (Or.inl rfl) (pe_callTy (kdictT K rfl hr.units) (by rfl) T.bDict (by decide +kernel) (pa_cons (pe_lc (own := [("atom", 4)]) (by rfl) sc_least_by.nd (pi_range1 (by rfl) T.bRange (pa_cons (pv 3) pa_nil)) (blkOk_by (own := [("atom", 4)]) (N := ["query", "data", "memory", "many", "atom", "found", "size", "early", "price", "late", "some", "one"]) (sc := defScope s_least_by) (by decide +kernel)) (fun _ _ _ _ _ => (pg_name (i := 4) sc_least_by.nd rfl (Or.inl rfl))) (fun _ _ _ _ _ => pts_nil) (fun _ _ _ _ _ => (pe_tup (pa_cons (pe_tup (pa_cons (pv 4) pa_nil)) (pa_cons (pm c_rows hr (by decide) (pv 1) (pa_cons (pe_ix (kixT K) (pe_ix (kixT K) (kfld K (pv 0) rfl) (pv 4) (fun _ _ => rfl)) pe_int (fun _ _ => rfl)) pa_nil)) pa_nil))))) pa_nil)))
      (pss_cons (ps_for PassesOwn.never rfl (pi_range2 (by rfl) T.bRange (pa_cons pe_int (pa_cons (pv 3) pa_nil))) (pg_name (i := 6) sc_least_by.nd rfl (Or.inr rfl)) (pss_one (ps_for PassesOwn.never rfl (kpl K (pe_lock (pe_lc (own := [("some", 10)]) (by rfl) sc_least_by.nd (pi_keys (pv 5)) (blkOk_by (own := [("some", 10)]) (N := ["query", "data", "memory", "many", "atom", "found", "size", "early", "price", "late", "some", "one"]) (sc := defScope s_least_by) (by decide +kernel)) (fun _ _ _ _ _ => (pg_name (i := 10) sc_least_by.nd rfl (Or.inl rfl))) (fun _ _ _ _ _ => (pts_one (pt_cmpR op_eq (pe_callB (klen K) (by rfl) T.bLen (by decide +kernel) (pa_cons (pv 10) pa_nil)) (pv 6) (nomark _)))) (fun _ _ _ _ _ => (pv 10))))) (pg_name (i := 7) sc_least_by.nd rfl (Or.inr rfl)) (pss_one (ps_for PassesOwn.never rfl (kpl K (pe_lc (own := [("one", 11)]) (by rfl) sc_least_by.nd (pi_range1 (by rfl) T.bRange (pa_cons (pv 3) pa_nil)) (blkOk_by (own := [("one", 11)]) (N := ["query", "data", "memory", "many", "atom", "found", "size", "early", "price", "late", "some", "one"]) (sc := defScope s_least_by) (by decide +kernel)) (fun _ _ _ _ _ => (pg_name (i := 11) sc_least_by.nd rfl (Or.inl rfl))) (fun _ _ _ _ _ => (pts_one (pt_cmpR (knin K) (pv 11) (pv 7) (by rfl)))) (fun _ _ _ _ _ => (pv 11)))) (pg_name (i := 4) sc_least_by.nd rfl (Or.inl rfl)) (pss_cons (ps_set (i := 8) sc_least_by.nd rfl (Or.inl rfl) (pe_op op_add (pe_dget hu (pv 5) (pv 7) (fun _ _ => rfl)) (pe_callB (kmin K rfl) (by rfl) T.bMin (by decide +kernel) (pa_cons (pe_listVals rfl (by rfl) T.bList (pc c_moves_of hr (by decide) (by rfl) (pa_cons (pv 0) (pa_cons (pv 7) (pa_cons (pv 4) (pa_cons (pv 1) (pa_cons (pv 2) pa_nil))))))) pa_nil))))
      (pss_cons (ps_set (i := 9) sc_least_by.nd rfl (Or.inl rfl) (pe_callTy (ktupOf K) (by rfl) T.bTuple (by decide +kernel) (pa_cons (pe_callB (ksorted K) (by rfl) T.bSorted (by decide +kernel) (pa_cons (pe_lst (kstar K (pv 7) (pa_cons (pv 4) pa_nil))) pa_nil)) pa_nil)))
      (pss_one (ps_dput hu (pv 5) (pv 9) (pe_callB (call_min2 rfl) (by rfl) T.bMin (by decide +kernel) (pa_cons (pv 8) (pa_cons (pe_dget2 hu (pv 5) (pv 9) (pv 8) ⟨rfl, rfl, rfl, rfl⟩) pa_nil))) rfl)))))))))
      (pss_one (ps_ret (pe_dget hu (pv 5) (pe_tupRg rfl (by rfl) T.bTuple (prg_1 (by rfl) T.bRange (pv 3))) (fun _ _ => rfl))))))), ?_⟩
    refine ⟨_, rfl, q, CQ, dx, _, _, rfl, hq, Z.clQ, Z.nQa, rfl, a, _, rfl, .inr (SqT.of ha), ?_⟩
    rw [List.length_map, hxl]
    -- found
    refine ⟨_, rfl, (ats.length : Int), rfl, by omega, by omega, fun D hD => it_core walk_range (fun i H2 => ∃ ys : List Addr, H2 D = some (.lst (ys.map V.ref)) ∧ Same H H2 ∧ Paired (PKV H2) ys (encC ((List.range i).map fun i => ([i], rightN tabs ats i)))) ⟨[], upd_same, Same.nw hD, .nil⟩ (fun _ _ _ _ => trivial) ?_ ?_⟩
    · rintro i x H2 H3 hi ⟨ys, y1, y2, y3⟩ ⟨rfl, hx⟩
      have hi2 : i < ats.length := by omega
      have hx : x = vN i := by
        rw [hx]
        show V.int (0 + (i : Int)) = _
        rw [Int.zero_add]
      subst hx
      obtain ⟨qv, hp1, hp2⟩ := pget hxa (List.getElem?_eq_getElem (by omega : i < xa.length)) (List.getElem?_eq_getElem hi2)
      obtain ⟨hw, u1, u2, u5⟩ := hat _ (List.getElem_mem hi2)
      have htl : ats[i].1 < tabs.length := by
        have := (List.getElem?_eq_some_iff.mp hw).1
        omega
      have hyl := plen y3
      unfold encC at hyl
      rw [List.length_map, List.length_map, List.length_range] at hyl
      refine ⟨rfl, lc_yes ?_⟩
      refine ⟨_, rfl, by show 1 ≤ sizeLine; decide, fun t1 n1 => ?_⟩
      have s1 : Same H3 (upd H3 t1 (.tup [vN i])) := Same.nw n1
      have ht1 : (upd H3 t1 (.tup [vN i])) t1 = some (.tup [vN i]) := upd_same
      have y1' := s1 _ _ y1
      generalize upd H3 t1 (.tup [vN i]) = H4 at s1 ht1 y1'
      have s04 := y2.trans s1
      refine ⟨_, rfl, d, dxd, _, rfl, s04 _ _ hd, rfl, _, rfl, q, CQ, dx, _, _, rfl, s04 _ _ hq, Z.clQ, Z.nQa, rfl, _, rfl, a, _, (i : Int), .ref (xa[i]'(by omega)), rfl, rfl, SqT.of (s04 _ _ ha), atI_nat (by rw [List.getElem?_map, List.getElem?_eq_getElem (by omega)]; rfl), xa[i]'(by omega), _, 0, _, rfl, rfl, SqT.of (s04 _ _ hp1), atI_nat (j := 0) rfl, d, size, widths, tabs, ats[i].1, tabs[ats[i].1], rfl, hD0.sd s04.sd, zl, List.getElem?_eq_getElem htl, by show 2 ≤ sizeLine; decide, fun tt nt => ?_⟩
      have er : tabs[ats[i].1].sum = rightN tabs ats i := by
        unfold rightN
        rw [List.getElem?_eq_getElem hi2]
        show _ = ((tabs[ats[i].1]?).getD []).sum
        rw [List.getElem?_eq_getElem htl]
        rfl
      rw [er]
      obtain ⟨a1, a2, a3', a4, a5⟩ := app_new (H1 := H) (o := HO.tup [.ref t1, vN (rightN tabs ats i)]) y1' s04 hD nt
      refine ⟨_, a1, szs (by rw [List.length_map]; omega), ys ++ [tt], a2, a3', ?_⟩
      rw [List.range_succ, List.map_append]
      show Paired _ _ (List.map _ _)
      rw [List.map_append]
      refine psnoc (pimp y3 fun _ _ e => (e.ts s1.ts).ts a4) ⟨t1, a5, a4 _ _ ?_⟩
      rw [ht1]
      rfl
    rintro H2 ⟨ys, y1, y2, y3⟩
    have en : ((ats.length : Int)).toNat = ats.length := Int.toNat_natCast _
    rw [en] at y3
    refine ⟨D, ys, encC (fd0 (rightN tabs ats) ats.length), rfl, SqL.of y1, y3, ?_, fun fp nfp => ?_⟩
    · unfold encC fd0
      rw [List.map_map, List.map_map]
      refine List.Pairwise.map _ (fun a b hab z => hab ?_) (List.nodup_range (n := ats.length))
      have := keyL_inj.mp z
      exact (List.cons.inj this).1
    have s3 : Same H (upd H2 fp (.dT (encC (fd0 (rightN tabs ats) ats.length)))) := y2.trans (Same.nw nfp)
    have hfp : (upd H2 fp (.dT (encC (fd0 (rightN tabs ats) ats.length)))) fp = some (.dT (encC (fd0 (rightN tabs ats) ats.length))) := upd_same
    have nfH : H fp = none := y2.free nfp
    generalize upd H2 fp (.dT (encC (fd0 (rightN tabs ats) ats.length))) = H3 at s3 hfp
    generalize hsc : stepC size fl tabs ats m = sc at *
    generalize hrn : rightN tabs ats = rn at *
    have hlast : leastOf size fl tabs ats m = leastC sc rn ats.length := by
      unfold leastOf
      rw [hsc, hrn]
    rw [hlast] at k
    refine ⟨_, rfl, 1, (ats.length : Int), rfl, ⟨by omega, by omega, by omega, by omega⟩, for_it walk_range (fun i σ H4 => ∃ (c4 c6 c7 c8 c9 : Option V) (fd : Cnt), σ = [some (.ref q), some (.ref d), some (vN m), some (vN ats.length), c4, some (.ref fp), c6, c7, c8, c9, none, none] ∧ (∀ b o, b ≠ fp → H3 b = some o → H4 b = some o) ∧ H4 fp = some (.dT (encC fd)) ∧ fd = lbAll sc ats.length (fd0 rn ats.length) i ∧
      KeyOk ats.length (i + 1) fd ∧ fd.length ≤ 3 * 4 ^ i) ⟨none, none, none, none, none, _, rfl, fun _ _ _ e => e, hfp, rfl, ?_, ?_⟩ (fun _ _ _ _ _ => trivial) ?_ ?_⟩
    · intro l hl
      obtain ⟨p, hp, rfl⟩ := List.mem_map.mp hl
      obtain ⟨i, hi, rfl⟩ := List.mem_map.mp hp
      exact ⟨Nat.le_refl _, Nat.le_refl _, fun j hj => by rw [List.mem_singleton.mp hj]; exact List.mem_range.mp hi⟩
    · unfold fd0
      rw [List.length_map, List.length_range]
      omega
    · rintro i x σ H4 H4' hi ⟨c4, c6, c7, c8, c9, fd, rfl, fr, hfd, hfe, hko, hfl⟩ ⟨rfl, hx⟩
      have hi2 : i + 1 < ats.length := by omega
      have hx : x = vN (i + 1) := by
        rw [hx]
        show V.int (1 + (i : Int)) = V.int ((i + 1 : Nat) : Int)
        rw [show (1 : Int) + (i : Int) = ((i + 1 : Nat) : Int) by omega]
      subst hx
      have hfl48 : fd.length ≤ 48 := Nat.le_trans hfl (by
        have : 4 ^ i ≤ 4 ^ 2 := Nat.pow_le_pow_right (by decide) (by omega)
        omega)
      have fr0 : Same H H4' := fun b o e => fr b o (fun z => by rw [z, nfH] at e; cases e) (s3 b o e)
      have hsize : lbAll sc ats.length (fd0 rn ats.length) (i + 1) = lbS sc ats.length fd (i + 1) := by
        rw [hfe]
        unfold lbAll
        rw [List.range_succ, List.foldl_append]
        rfl
      refine ⟨fp, .dT (encC fd), hfd, trivial, fun od => ?_⟩
      refine ⟨_, rfl, fp, od, rfl, .inr ⟨encC fd, upd_same, fun D2 hD2 => ?_⟩⟩
      have hD2' : H4' D2 = none := by
        by_cases e : D2 = fp
        · rw [e, upd_same] at hD2
          cases hD2
        · rw [upd_ne e] at hD2
          exact hD2
      have eln : (encC fd).length = fd.length := by unfold encC; rw [List.length_map]
      have Dfp : D2 ≠ fp := fun e => by rw [e, hfd] at hD2'; cases hD2'
      refine it_core walk_keysT (fun j H5 => ∃ ys : List Addr, H5 D2 = some (.lst (ys.map V.ref)) ∧ Same (upd H4' fp (.frz od (.dT (encC fd)))) H5 ∧ Paired (TN H5) ys (keysOf (fd.take j) (i + 1))) ⟨[], upd_same, Same.nw hD2, .nil⟩ (fun _ H5 _ ⟨_, _, e, _⟩ => e _ _ upd_same) ?_ ?_
      · rintro j x H5 H6 hj ⟨ys, y1, y2, y3⟩ ⟨rfl, key, v, qk, e1, rfl, e2⟩
        rw [eln] at hj
        have ek : key = keyL fd[j].1 := by
          unfold encC at e1
          rw [List.getElem?_map, List.getElem?_eq_getElem hj] at e1
          have := Option.some.inj e1
          exact (congrArg Prod.fst this).symm
        rw [ek, keyL_kV] at e2
        have hyl := plen y3
        have hkl : (keysOf (fd.take j) (i + 1)).length ≤ 48 := by
          unfold keysOf
          rw [List.length_map]
          refine Nat.le_trans (List.length_filter_le ..) ?_
          rw [List.length_take]
          omega
        refine ⟨rfl, _, rfl, qk, _, rfl, .inr (SqT.of e2), _, rfl, rfl, _, rfl, ?_⟩
        rw [List.length_map]
        have kst : keysOf (fd.take (j + 1)) (i + 1) = keysOf (fd.take j) (i + 1) ++ if fd[j].1.length = i + 1 then [fd[j].1] else [] := by
          unfold keysOf
          rw [take_s hj, List.filter_append, List.map_append]
          congr 1
          rw [List.filter_cons]
          by_cases hc : fd[j].1.length = i + 1
          · rw [if_pos hc, if_pos (decide_eq_true hc)]
            rfl
          · rw [if_neg hc, if_neg (by rw [decide_eq_false hc]; exact Bool.false_ne_true)]
            rfl
        by_cases hc : fd[j].1.length = i + 1
        · refine itT (decide_eq_true (by rw [hc])) ?_
          refine ⟨_, rfl, _, y1, szs (by rw [List.length_map]; omega), ys ++ [qk], by rw [upd_same, List.map_append]; rfl, y2.mt hD2, ?_⟩
          rw [kst, if_pos hc]
          exact psnoc (ptn (TS.updL y1) y3) ((show TN H6 qk fd[j].1 from e2).ts (TS.updL y1))
        · refine itF (decide_eq_false fun z => hc (by injection z; omega)) ?_
          refine ⟨ys, y1, y2, ?_⟩
          rw [kst, if_neg hc, List.append_nil]
          exact y3
      rintro H5 ⟨ys, y1, y2, y3⟩
      rw [eln, List.take_length] at y3
      have hf5 := y2 fp _ upd_same
      refine ⟨hf5, ?_⟩
      have hf6 : (upd H5 fp (.dT (encC fd))) fp = some (.dT (encC fd)) := upd_same
      have s46 : Same H4' (upd H5 fp (.dT (encC fd))) := fun b o e => by
        by_cases hb : b = fp
        · rw [hb, hfd] at e
          rw [hb, ← e, upd_same]
        · rw [upd_ne hb]
          exact y2 _ _ (by rw [upd_ne hb]; exact e)
      have hD6 : (upd H5 fp (.dT (encC fd))) D2 = some (.lst (ys.map V.ref)) := by
        rw [upd_ne Dfp]
        exact y1
      have y6 : Paired (TN (upd H5 fp (.dT (encC fd)))) ys (keysOf fd (i + 1)) := ptn (TS.upd hf5 fun _ z => by cases z) y3
      generalize upd H5 fp (.dT (encC fd)) = H6 at hf6 s46 hD6 y6
      have hyl := plen y6
      have s06 := fr0.trans s46
      have hkm : ∀ l ∈ keysOf fd (i + 1), l ∈ fd.map (·.1) ∧ l.length = i + 1 := fun l hl => by
        obtain ⟨p, hp, rfl⟩ := List.mem_map.mp hl
        obtain ⟨h1, h2⟩ := List.mem_filter.mp hp
        exact ⟨List.mem_map_of_mem h1, of_decide_eq_true h2⟩
      have hkl : (keysOf fd (i + 1)).length ≤ fd.length := by
        unfold keysOf
        rw [List.length_map]
        exact List.length_filter_le ..
      have hbnd : fd.length + 3 * (keysOf fd (i + 1)).length ≤ 3 * 4 ^ (i + 1) := by
        rw [Nat.pow_succ]
        omega
      refine ⟨D2, rfl, ⟨_, SqL.of hD6⟩, for_it (walk_list (K := K) (a := D2) (xs := ys.map V.ref)) (fun j σ H7 => ∃ (c4 c7 c8 c9 : Option V) (fe : Cnt), σ = [some (.ref q), some (.ref d), some (vN m), some (vN ats.length), c4, some (.ref fp), some (vN (i + 1)), c7, c8, c9, none, none] ∧ (∀ b o, b ≠ fp → H6 b = some o → H7 b = some o) ∧ H7 fp = some (.dT (encC fe)) ∧
        fe = ((keysOf fd (i + 1)).take j).foldl (lbE sc ats.length) fd ∧ KeyOk ats.length (i + 2) fe ∧ (∀ l ∈ fd.map (·.1), l ∈ fe.map (·.1)) ∧ fe.length ≤ fd.length + 3 * j) ⟨c4, c7, c8, c9, fd, rfl, fun _ _ _ e => e, hf6, rfl, fun l hl => ⟨(hko l hl).1, Nat.le_succ_of_le (hko l hl).2.1, (hko l hl).2.2⟩, fun _ h => h, Nat.le_refl _⟩ ?_ ?_ ?_⟩
      · rintro j σ H7 _ ⟨_, _, _, _, _, _, fr, _⟩
        exact SqL.of (fr _ _ Dfp hD6)
      · rintro j x σ H7 H7' hj ⟨c4, c7, c8, c9, fe, rfl, fr7, hfe7, e7, ko7, mo7, l7⟩ ⟨rfl, hx⟩
        rw [List.length_map] at hj
        obtain rfl := at_map hj hx
        have hj2 : j < (keysOf fd (i + 1)).length := by omega
        have fr07 : Same H H7' := fun b o e => fr7 b o (fun z => by rw [z, nfH] at e; cases e) (s06 b o e)
        have hey := pget y6 (List.getElem?_eq_getElem hj) (List.getElem?_eq_getElem hj2)
        obtain ⟨hk1, hk2⟩ := hkm _ (List.getElem_mem hj2)
        have hts := take_s hj2
        generalize (keysOf fd (i + 1))[j] = early at hey hk1 hk2 hts
        have hey7 : TN H7' ys[j] early := fr7 _ _ (ne_of hey hf6 fun z => by cases z) hey
        obtain ⟨ke1, ke2, ke3⟩ := ko7 _ (mo7 _ hk1)
        refine ⟨_, rfl, (ats.length : Int), rfl, by omega, by omega, fun D3 hD3 => it_core walk_range (fun i2 H8 => H8 D3 = some (.lst (((List.range i2).filter fun a => !decide (a ∈ early)).map vN)) ∧ Same H7' H8) ⟨upd_same, Same.nw hD3⟩ (fun _ _ _ _ => trivial) ?_ ?_⟩
        · rintro i2 x H8 H9 hi2' ⟨g1, g2⟩ ⟨rfl, hx2⟩
          have hx2 : x = vN i2 := by
            rw [hx2]
            show V.int (0 + (i2 : Int)) = _
            rw [Int.zero_add]
          subst hx2
          refine ⟨rfl, _, rfl, _, rfl, ys[j], _, rfl, .inr (SqT.of (g2 _ _ hey7)), rfl, flat_N _, _, rfl, ?_⟩
          rw [if_pos rfl, inV_N]
          have hfl2 : ((List.range i2).filter fun a => !decide (a ∈ early)).length ≤ i2 := Nat.le_trans (List.length_filter_le ..) (by rw [List.length_range]; exact Nat.le_refl _)
          by_cases hm : i2 ∈ early
          · refine itF (by rw [decide_eq_true hm]; rfl) ?_
            refine ⟨?_, g2⟩
            rw [g1, List.range_succ, List.filter_append]
            have : List.filter (fun a => !decide (a ∈ early)) [i2] = [] := by simp [hm]
            rw [this, List.append_nil]
          · refine itT (by rw [decide_eq_false hm]; rfl) ?_
            refine ⟨_, rfl, _, g1, szs (by rw [List.length_map]; omega), ?_, g2.mt hD3⟩
            rw [upd_same, List.range_succ, List.filter_append]
            have : List.filter (fun a => !decide (a ∈ early)) [i2] = [i2] := by simp [hm]
            rw [this, List.map_append]
            rfl
        rintro H8 ⟨g1, g2⟩
        have en3 : ((ats.length : Int)).toNat = ats.length := Int.toNat_natCast _
        rw [en3] at g1
        have hol : (outs ats.length early).length ≤ ats.length := Nat.le_trans (List.length_filter_le ..) (by rw [List.length_range]; exact Nat.le_refl _)
        have hom : ∀ b ∈ outs ats.length early, b < ats.length := fun b hb => List.mem_range.mp (List.mem_filter.mp hb).1
        have g1 : H8 D3 = some (.lst ((outs ats.length early).map vN)) := g1
        have s08 := fr07.trans g2
        have hf8 := g2 _ _ hfe7
        have he8 : TN H8 ys[j] early := g2 _ _ hey7
        have D3fp : D3 ≠ fp := fun e => by rw [e, hf8] at g1; cases g1
        refine ⟨D3, rfl, ⟨_, SqL.of g1⟩, for_it (walk_list (K := K) (a := D3) (xs := (outs ats.length early).map vN)) (fun k2 σ H9 => ∃ (c4 c8 c9 : Option V) (ff : Cnt), σ = [some (.ref q), some (.ref d), some (vN m), some (vN ats.length), c4, some (.ref fp), some (vN (i + 1)), some (.ref ys[j]), c8, c9, none, none] ∧ (∀ b o, b ≠ fp → H8 b = some o → H9 b = some o) ∧ H9 fp = some (.dT (encC ff)) ∧
          ff = ((outs ats.length early).take k2).foldl (lbA sc early) fe ∧ KeyOk ats.length (i + 2) ff ∧ (∀ l ∈ fd.map (·.1), l ∈ ff.map (·.1)) ∧ ff.length ≤ fe.length + k2) ⟨c4, c8, c9, fe, rfl, fun _ _ _ e => e, hf8, rfl, ko7, mo7, Nat.le_refl _⟩ ?_ ?_ ?_⟩
        · rintro k2 σ H9 _ ⟨_, _, _, _, _, fr, _⟩
          exact SqL.of (fr _ _ D3fp g1)
        · rintro k2 x σ H9 H9' hk2' ⟨c4, c8, c9, ff, rfl, fr9, hff, e9, ko9, mo9, l9⟩ ⟨rfl, hx9⟩
          rw [List.length_map] at hk2'
          obtain rfl := at_map hk2' hx9
          have hat9 := hom _ (List.getElem_mem hk2')
          have hts9 := take_s hk2'
          generalize (outs ats.length early)[k2] = at9 at hat9 hts9
          have fr09 : Same H H9' := fun b o e => fr9 b o (fun z => by rw [z, nfH] at e; cases e) (s08 b o e)
          have he9 : TN H9' ys[j] early := fr9 _ _ (ne_of he8 hf8 fun z => by cases z) he8
          have hdg : DGet H9' fp (.ref ys[j]) (some (vN (cget ff early))) := by
            have h1 := DGet.t hff (show H9' ys[j] = some (.tup ((keyL early).map kV)) by rw [keyL_kV]; exact he9)
            rw [encC_has (mo9 _ hk1)] at h1
            exact h1
          -- price
          refine ⟨_, rfl, _, rfl, fp, _, rfl, hdg, _, rfl, _, rfl, _, rfl, _, rfl, _, rfl, q, ys[j], d, size, widths, ats, fl, tabs, early, at9, m, rfl, hQ.sd fr09.sd, hD0.sd fr09.sd, tok, h3, f6, he9, ke3, aw, ke1, by omega, hat9, m3, m8, fun H10 p s10 np hp => ?_⟩
          refine ⟨p, _, rfl, .inl ⟨_, hp, rfl⟩, fun lp nlp => ?_⟩
          refine ⟨lp, (mvN (leftN size fl tabs ats early) (rightN tabs ats at9) (linkB ats early at9) m).map fun (n : Nat) => (n : Int), rfl, SqL.of ?_, ?_, fun mm q1 q2 => ?_⟩
          · rw [upd_same]
            unfold mvA
            rw [mvD_vals, vN_map]
          · unfold mvN
            rw [List.length_map]
            exact Nat.zero_lt_succ _
          have em := mnL_is q1 q2
          have esc : mnL (mvN (leftN size fl tabs ats early) (rightN tabs ats at9) (linkB ats early at9) m) = sc early at9 := by rw [← hsc]; rfl
          rw [esc] at em
          subst em
          refine ⟨_, _, rfl, rfl, ?_⟩
          have s11 : Same H9' (upd H10 lp (.lst ((mvA size fl tabs ats early at9 m).map (·.2)))) := s10.trans (Same.nw nlp)
          generalize upd H10 lp (.lst ((mvA size fl tabs ats early at9 m).map (·.2))) = H11 at s11
          have he11 := s11 _ _ he9
          -- late
          refine ⟨_, rfl, ys[j], _, rfl, .inl (SqT.of he11), _, rfl, szl ?_, fun l nl => ?_⟩
          · rw [List.length_append, List.length_map]
            show _ + 1 ≤ _
            omega
          refine ⟨l, (early ++ [at9]).map fun (n : Nat) => (n : Int), rfl, SqL.of ?_, fun ns' p2 hpm hpw np2 => ?_⟩
          · rw [upd_same, ← vN_map, List.map_append]
            rfl
          refine ⟨p2, _, rfl, .inl ⟨SqL.of upd_same, fun t nt => ?_⟩⟩
          have ens := srtN_is hpm hpw
          have s12 : Same H11 (upd (upd (upd H11 l (.lst (early.map vN ++ [vN at9]))) p2 (.lst (ns'.map V.int))) t (.tup (ns'.map V.int))) := ((Same.nw nl).trans (Same.nw np2)).trans (Same.nw nt)
          have ht12 : (upd (upd (upd H11 l (.lst (early.map vN ++ [vN at9]))) p2 (.lst (ns'.map V.int))) t (.tup (ns'.map V.int))) t = some (.tup ((keyL (srtN (early ++ [at9]))).map kV)) := by rw [upd_same, ens, keyL_kV, vN_map]
          generalize upd (upd (upd H11 l (.lst (early.map vN ++ [vN at9]))) p2 (.lst (ns'.map V.int))) t (.tup (ns'.map V.int)) = H12 at s12 ht12
          have s912 := s11.trans s12
          have hf12 := s912 _ _ hff
          have eprice : (V.int ((cget ff early : Int) + (sc early at9 : Int))) = vN (cget ff early + sc early at9) := by
            show _ = V.int ((_ + _ : Nat) : Int)
            rw [Int.natCast_add]
          refine ⟨_, rfl, _, rfl, fp, rfl, .inr ⟨_, .of hf12⟩, _, rfl, _, rfl, _, DGet.t hf12 ht12, ((cget ff early + sc early at9 : Nat) : Int), (cgetD ff (srtN (early ++ [at9])) (cget ff early + sc early at9) : Int), ?_, ?_⟩
          · show [V.int ((cget ff early : Int) + (sc early at9 : Int)), (valV (encC ff) (keyL (srtN (early ++ [at9])))).getD (V.int ((cget ff early : Int) + (sc early at9 : Int)))] = _
            rw [eprice, encC_getD]
          have emin : (if (cgetD ff (srtN (early ++ [at9])) (cget ff early + sc early at9) : Int) < ((cget ff early + sc early at9 : Nat) : Int) then (cgetD ff (srtN (early ++ [at9])) (cget ff early + sc early at9) : Int) else ((cget ff early + sc early at9 : Nat) : Int)) = ((min (cget ff early + sc early at9) (cgetD ff (srtN (early ++ [at9])) (cget ff early + sc early at9)) : Nat) : Int) := by
            by_cases hc : cgetD ff (srtN (early ++ [at9])) (cget ff early + sc early at9) < cget ff early + sc early at9
            · rw [if_pos (by omega), Nat.min_eq_right (by omega)]
            · rw [if_neg (by omega), Nat.min_eq_left (by omega)]
          rw [emin]
          refine ⟨_, rfl, _, rfl, fp, _, rfl, DPut.t hf12 ht12 (szs ?_), ?_⟩
          · unfold encC
            rw [List.length_map]
            omega
          have ep : putK (encC ff) (keyL (srtN (early ++ [at9]))) (V.int ((min (cget ff early + sc early at9) (cgetD ff (srtN (early ++ [at9])) (cget ff early + sc early at9)) : Nat) : Int)) = encC (lbA sc early ff at9) := encC_put ..
          rw [ep]
          have hsl : (srtN (early ++ [at9])).length = i + 2 := by
            rw [(srtN_perm _).length_eq, List.length_append, hk2]
            rfl
          refine ⟨some (vN at9), some (vN (cget ff early + sc early at9)), some (.ref t), lbA sc early ff at9, ?_, fun b o hb e => ?_, upd_same, ?_, ?_, ?_, ?_⟩
          · rw [← eprice]
            rfl
          · rw [upd_ne hb]
            exact s912 _ _ (fr9 b o hb e)
          · rw [hts9, List.foldl_append, ← e9]
            rfl
          · refine ko9.put (by omega) (by omega) fun b hb => ?_
            rcases List.mem_append.mp ((srtN_perm _).subset hb) with e | e
            · exact ke3 b e
            · rw [List.mem_singleton.mp e]
              exact hat9
          · exact fun l' hl' => cput_mono _ _ _ _ (mo9 l' hl')
          · exact Nat.le_trans (cput_len ..) (by omega)
        · rintro σ H9 ⟨c4, c8, c9, ff, rfl, fr9, hff, e9, ko9, mo9, l9⟩
          rw [List.length_map] at l9
          rw [List.length_map, List.take_length] at e9
          refine ⟨_, _, _, _, ff, rfl, fun b o hb e => fr9 b o hb (g2 _ _ (fr7 b o hb e)), hff, ?_, ko9, mo9, by omega⟩
          rw [hts, List.foldl_append, ← e7]
          exact e9
      · rintro σ H7 ⟨c4, c7, c8, c9, fe, rfl, fr7, hfe7, e7, ko7, mo7, l7⟩
        rw [List.length_map, hyl] at l7
        rw [List.length_map, hyl, List.take_length] at e7
        exact ⟨_, _, _, _, _, fe, rfl, fun b o hb e => fr7 b o hb (s46 _ _ (fr b o hb e)), hfe7, by rw [hsize]; exact e7, ko7, by omega⟩
    · rintro σ H4 ⟨c4, c6, c7, c8, c9, fd, rfl, fr, hfd, hfe, hko, hfl⟩
      have en2 : ((ats.length : Int) - 1).toNat = ats.length - 1 := by omega
      rw [en2] at hfe
      refine ⟨_, rfl, _, rfl, (ats.length : Int), rfl, .of_le (by omega) (by omega) (by omega) (by omega), fun tp ntp => ?_⟩
      have fr0 : Same H H4 := fun b o e => fr b o (fun z => by rw [z, nfH] at e; cases e) (s3 b o e)
      have s5 : Same H4 (upd H4 tp (.tup (rgV 0 (ats.length : Nat)))) := Same.nw ntp
      have htp : (upd H4 tp (.tup (rgV 0 (ats.length : Nat)))) tp = some (.tup ((keyL (List.range ats.length)).map kV)) := by rw [upd_same, rg_vN, keyL_kV]
      have hdg := DGet.t (s5 _ _ hfd) htp
      have hhas := leastC_has sc rn l1 a3
      rw [← hfe] at hhas
      rw [encC_has hhas] at hdg
      refine ⟨fp, _, rfl, hdg, ?_⟩
      have := k _ (fr0.trans s5)
      unfold leastC at this
      rw [← hfe] at this
      exact this
end
end K16
set_option Elab.async false
set_option linter.all false
set_option maxRecDepth 100000
set_option maxHeartbeats 4000000
namespace K16
open PySem PySem.Spec PyProof.Rows L2
section
variable {P : Program} {w : World} {K : PySem.W.Frag} {mg : Str → Option Value} {base : Heap} {CS CD CQ : Addr}
def spLeastMoves (CS CD CQ : Addr) : Sp := fun vs H Q _ => ∃ (q d : Addr) (size : Nat) (widths : List Nat) (ats fl : List (Nat × List Nat)) (tabs : List (List Nat)) (m : Nat), vs = [.ref q, .ref d, vN m] ∧ Good CS CD CQ H q d size widths ats fl tabs ∧ 3 ≤ m ∧ m ≤ 8 ∧
  ∀ H', Same H H' → Q (vN (leastOf size fl tabs ats m)) H'
theorem sc_least_moves : FnScope ["query", "data", "memory"] ["query", "data", "memory"] (defScope s_least_moves) := ⟨rfl, rfl, rfl, by decide +kernel, rfl, by decide +kernel, by decide +kernel⟩
theorem ok_least_moves (T : Tx K mg) (Z : Cs K mg CS CD CQ) (h : Has K mg "least_moves" s_least_moves) (c_check_both : Cal P w K mg base 4 "check_both" (spCheckBoth CS CD CQ)) (c_check_memory : Cal P w K mg base 2 "check_memory" spCheckMemory) (c_least_by : Cal P w K mg base 8 "least_by" (spLeastBy CS CD CQ)) : Cal P w K mg base 9 "least_moves" (spLeastMoves CS CD CQ) := by
  refine cal_of h sc_least_moves (fun _ _ _ _ _ _ us hl => match us, hl with | [_, _, _], _ => rfl) (fun vs H Q E h => ?_) (fun f cdv A outer s H vs Q E hr h => ?_)
  · obtain ⟨_, _, _, _, _, _, _, _, rfl, _⟩ := h
    rfl
  · obtain ⟨q, d, size, widths, ats, fl, tabs, m, rfl, hG, m3, m8, k⟩ := h
    obtain ⟨hQ, hD, tok, h3, f6, aw⟩ := id hG
    refine ⟨_, (pss_cons (ps_expr (pc c_check_both hr (by decide) (by rfl) (pa_cons (pv 0) (pa_cons (pv 1) pa_nil))))
      (pss_cons (ps_expr (pc c_check_memory hr (by decide) (by rfl) (pa_cons (pv 2) pa_nil)))
      (pss_one (ps_ret (pc c_least_by hr (by decide) (by rfl) (pa_cons (pv 0) (pa_cons (pv 1) (pa_cons (pv 2) pa_nil)))))))), ?_⟩
    refine ⟨_, rfl, _, rfl, q, d, size, widths, ats, fl, tabs, rfl, hQ, hD, fun H1 r1 => ?_⟩
    refine ⟨_, rfl, m, rfl, m3, m8, ?_⟩
    exact ⟨_, rfl, _, rfl, _, rfl, q, d, size, widths, ats, fl, tabs, m, rfl, hG.sd r1.sd, m3, m8, fun H' s' => k H' (r1.trans s')⟩
/-- the memories that are enough -/
def enoughL (lo : Nat → Nat) (most : Nat) : List Nat := ((List.range 6).map fun i => i + 3).filter fun m => decide (lo m ≤ most)
def vHead : List Nat → V
  | [] => .non
  | a :: _ => vN a
def spMemoryNeeded (CS CD CQ : Addr) : Sp := fun vs H Q _ => ∃ (q d : Addr) (size : Nat) (widths : List Nat) (ats fl : List (Nat × List Nat)) (tabs : List (List Nat)) (most : Nat), vs = [.ref q, .ref d, vN most] ∧ Good CS CD CQ H q d size widths ats fl tabs ∧ most ≤ 9999 ∧
  ∀ H', Same H H' → Q (vHead (enoughL (leastOf size fl tabs ats) most)) H'
theorem sc_memory_needed : FnScope ["query", "data", "most", "enough", "memory"] ["query", "data", "most"] (defScope s_memory_needed) := ⟨rfl, rfl, rfl, by decide +kernel, rfl, by decide +kernel, by decide +kernel⟩
theorem ok_memory_needed (T : Tx K mg) (Z : Cs K mg CS CD CQ) (h : Has K mg "memory_needed" s_memory_needed) (c_check_both : Cal P w K mg base 4 "check_both" (spCheckBoth CS CD CQ)) (c_check_number : Cal P w K mg base 2 "check_number" spCheckNumber) (c_least_by : Cal P w K mg base 8 "least_by" (spLeastBy CS CD CQ)) : Cal P w K mg base 9 "memory_needed" (spMemoryNeeded CS CD CQ) := by
  refine cal_of h sc_memory_needed (fun _ _ _ _ _ _ us hl => match us, hl with | [_, _, _], _ => rfl) (fun vs H Q E h => ?_) (fun f cdv A outer s H vs Q E hr h => ?_)
  · obtain ⟨_, _, _, _, _, _, _, _, rfl, _⟩ := h
    rfl
  · obtain ⟨q, d, size, widths, ats, fl, tabs, most, rfl, hG, m9, k⟩ := h
    obtain ⟨hQ, hD, tok, h3, f6, aw⟩ := id hG
    refine ⟨_, (pss_cons (ps_expr (pc c_check_both hr (by decide) (by rfl) (pa_cons (pv 0) (pa_cons (pv 1) pa_nil))))
      (pss_cons (ps_expr (pc c_check_number hr (by decide) (by rfl) (pa_cons (pv 2) (pa_cons pe_int (pa_cons (pgi T.iMoves (by rfl)) pa_nil)))))
      (pss_cons (ps_setLc (i := 3) (own := [("memory", 4)]) (by rfl) sc_memory_needed.nd rfl rfl (sw_true rfl rfl rfl (by decide +kernel)) (pi_range2 (by rfl) T.bRange (pa_cons pe_int (pa_cons (pe_op op_add (pgi T.iMemory (by rfl)) pe_int) pa_nil))) (blkOk_by (own := [("memory", 4)]) (N := ["query", "data", "most", "enough", "memory"]) (sc := defScope s_memory_needed) (by decide +kernel)) (fun _ _ _ _ _ => (pg_name (i := 4) sc_memory_needed.nd rfl (Or.inl rfl))) (fun _ _ _ _ _ => (pts_one (pt_cmpR op_le (pc c_least_by hr (by decide) (by rfl) (pa_cons (pv 0) (pa_cons (pv 1) (pa_cons (pv 4) pa_nil)))) (pv 2) (nomark _)))) (fun _ _ _ _ _ => (pv 4)))
      (pss_one (ps_ret (pe_ifExp (pt_cmpR (kneD K hr.units) (pv 3) (pe_lst pa_nil) (nomark _)) (pe_ix (kixL K) (pv 3) pe_int (fun _ _ => rfl)) pe_non)))))), ?_⟩
    refine ⟨_, rfl, _, rfl, q, d, size, widths, ats, fl, tabs, rfl, hQ, hD, fun H1 r1 => ?_⟩
    refine ⟨_, rfl, (most : Int), 0, 9999, rfl, by omega, by omega, ?_⟩
    refine ⟨_, _, rfl, rfl, 3, 9, rfl, by decide, fun D hD1 => ?_⟩
    refine it_core walk_range (fun i H2 => H2 D = some (.lst (((((List.range 6).map fun i => i + 3).take i).filter fun m => decide (leastOf size fl tabs ats m ≤ most)).map vN)) ∧ Same H1 H2) ⟨upd_same, Same.nw hD1⟩ (fun _ _ _ _ => trivial) ?_ ?_
    · rintro i x H2 H3 hi ⟨g1, g2⟩ ⟨rfl, hx⟩
      have hi6 : i < 6 := hi
      have hx : x = vN (i + 3) := by
        rw [hx]
        show V.int (3 + (i : Int)) = V.int ((i + 3 : Nat) : Int)
        rw [show (3 : Int) + (i : Int) = ((i + 3 : Nat) : Int) by omega]
      subst hx
      have hl : i < ((List.range 6).map fun i => i + 3).length := by rw [List.length_map, List.length_range]; exact hi6
      have eg : ((List.range 6).map fun i => i + 3)[i] = i + 3 := by simp
      have r2 := r1.trans g2
      refine ⟨rfl, _, rfl, _, rfl, _, rfl, q, d, size, widths, ats, fl, tabs, i + 3, rfl, hG.sd r2.sd, by omega, by omega, fun H4 s4 => ?_⟩
      refine ⟨_, rfl, _, _, rfl, rfl, _, rfl, ?_⟩
      have g1' := s4 _ _ g1
      have g2' := g2.trans s4
      by_cases hm : leastOf size fl tabs ats (i + 3) ≤ most
      · refine itT (decide_eq_true (by omega)) ?_
        refine ⟨_, rfl, _, g1', szs ?_, ?_, g2'.mt hD1⟩
        · rw [List.length_map]
          refine Nat.lt_of_le_of_lt (List.length_filter_le ..) ?_
          rw [List.length_take]
          omega
        · rw [upd_same, take_s hl, List.filter_append, eg]
          have : List.filter (fun m => decide (leastOf size fl tabs ats m ≤ most)) [i + 3] = [i + 3] := by simp [hm]
          rw [this, List.map_append]
          rfl
      · refine itF (decide_eq_false (by omega)) ⟨?_, g2'⟩
        rw [g1', take_s hl, List.filter_append, eg]
        have : List.filter (fun m => decide (leastOf size fl tabs ats m ≤ most)) [i + 3] = [] := by simp [hm]
        rw [this, List.append_nil]
    · rintro H2 ⟨g1, g2⟩
      have g1 : H2 D = some (.lst ((enoughL (leastOf size fl tabs ats) most).map vN)) := g1
      generalize enoughL (leastOf size fl tabs ats) most = L at g1 k
      refine ⟨_, rfl, by show 0 ≤ sizeLine; decide, fun l nl => ?_⟩
      have s3 : Same H2 (upd H2 l (.lst [])) := Same.nw nl
      have hl0 : LN (upd H2 l (.lst [])) l [] := upd_same
      generalize upd H2 l (.lst []) = H3 at s3 hl0
      have hL3 : LN H3 D L := s3 _ _ g1
      refine ⟨_, _, dp_LN hL3, dp_LN hl0, shp_LN _, shp_LN _, _, rfl, ?_⟩
      have k3 := k H3 (r1.trans (g2.trans s3))
      cases L with
      | nil => exact itF rfl k3
      | cons b r => exact itT rfl ⟨_, rfl, D, _, 0, _, rfl, rfl, SqL.of hL3, atI_nat (j := 0) rfl, k3⟩
end
end K16
set_option Elab.async false
set_option linter.all false
namespace K16
/-! ### sums over lists -/
section
variable {α β : Type}
abbrev sm (f : α → Nat) (l : List α) : Nat := (l.map f).sum
theorem sm_cons (f : α → Nat) (a : α) (l : List α) : sm f (a :: l) = f a + sm f l := by
  show ((a :: l).map f).sum = _
  rw [List.map_cons, List.sum_cons]
theorem sm_app (f : α → Nat) : ∀ l m : List α, sm f (l ++ m) = sm f l + sm f m
  | [], m => by show sm f m = 0 + sm f m; omega
  | a :: l, m => by
    rw [List.cons_append, sm_cons, sm_cons, sm_app f l m]
    omega
theorem sm_congr {f g : α → Nat} : ∀ {l : List α}, (∀ a ∈ l, f a = g a) → sm f l = sm g l
  | [], _ => rfl
  | a :: l, h => by rw [sm_cons, sm_cons, h a List.mem_cons_self, sm_congr fun b hb => h b (List.mem_cons_of_mem _ hb)]
theorem sm_mul (c : Nat) (f : α → Nat) : ∀ l : List α, sm (fun a => c * f a) l = c * sm f l
  | [] => rfl
  | a :: l => by rw [sm_cons, sm_cons, sm_mul c f l, Nat.mul_add]
theorem sm_add (f g : α → Nat) : ∀ l : List α, sm (fun a => f a + g a) l = sm f l + sm g l
  | [] => rfl
  | a :: l => by
    rw [sm_cons, sm_cons, sm_cons, sm_add f g l]
    omega
theorem sm_zero : ∀ l : List α, sm (fun _ => 0) l = 0
  | [] => rfl
  | a :: l => by rw [sm_cons, sm_zero l]
theorem sm_swap (f : α → β → Nat) : ∀ (l : List α) (m : List β), sm (fun a => sm (f a) m) l = sm (fun b => sm (fun a => f a b) l) m
  | [], m => (sm_zero m).symm
  | a :: l, m => by
    rw [sm_cons, sm_swap f l m, ← sm_add]
    exact sm_congr fun b _ => (sm_cons (fun a => f a b) a l).symm
theorem sm_filter (p : α → Bool) (f : α → Nat) : ∀ l : List α, sm f (l.filter p) = sm (fun a => if p a = true then f a else 0) l
  | [] => rfl
  | a :: l => by
    rw [List.filter_cons, sm_cons, ← sm_filter p f l]
    by_cases h : p a = true
    · rw [if_pos h, if_pos h, sm_cons]
    · rw [if_neg h, if_neg h]
      omega
theorem sm_flatMap (g : α → List β) (f : β → Nat) : ∀ l : List α, sm f (l.flatMap g) = sm (fun a => sm f (g a)) l
  | [] => rfl
  | a :: l => by rw [List.flatMap_cons, sm_app, sm_cons, sm_flatMap g f l]
theorem sm_map (g : α → β) (f : β → Nat) (l : List α) : sm f (l.map g) = sm (fun a => f (g a)) l := by
  show ((l.map g).map f).sum = _
  rw [List.map_map]
  rfl
theorem sm_one [DecidableEq α] {a : α} : ∀ {l : List α}, l.Nodup → a ∈ l → sm (fun t => if t = a then 1 else 0) l = 1
  | [], _, h => by cases h
  | b :: l, nd, h => by
    rw [List.nodup_cons] at nd
    rw [sm_cons]
    by_cases e : b = a
    · subst e
      rw [if_pos rfl, sm_congr (g := fun _ => 0) fun t ht => if_neg fun (z : t = b) => nd.1 (z ▸ ht), sm_zero]
    · rw [if_neg e]
      rcases List.mem_cons.mp h with q | q
      · exact absurd q.symm e
      · rw [sm_one nd.2 q]
theorem sm_perm (f : α → Nat) {l m : List α} (h : l.Perm m) : sm f l = sm f m := by
  induction h with
  | nil => rfl
  | cons a _ ih => rw [sm_cons, sm_cons, ih]
  | swap a b l =>
    rw [sm_cons, sm_cons, sm_cons, sm_cons]
    omega
  | trans _ _ h1 h2 => exact h1.trans h2
end
/-! ### products -/
def prd : List Nat → Nat
  | [] => 1
  | a :: l => a * prd l
theorem prd_app : ∀ l m : List Nat, prd (l ++ m) = prd l * prd m
  | [], m => by show prd m = 1 * prd m; omega
  | a :: l, m => by
    show a * prd (l ++ m) = a * prd l * prd m
    rw [prd_app l m, Nat.mul_assoc]
theorem prd_perm {l m : List Nat} (h : l.Perm m) : prd l = prd m := by
  induction h with
  | nil => rfl
  | cons a _ ih =>
    show a * _ = a * _
    rw [ih]
  | swap a b l =>
    show b * (a * prd l) = a * (b * prd l)
    rw [← Nat.mul_assoc, ← Nat.mul_assoc, Nat.mul_comm b a]
  | trans _ _ h1 h2 => exact h1.trans h2
/-! ### all fillings of n places -/
def prodL (f : Nat → List Nat) : Nat → List (List Nat)
  | 0 => [[]]
  | n + 1 => (prodL f n).flatMap fun t => (f n).map fun x => t ++ [x]
theorem prodL_mem {f : Nat → List Nat} : ∀ {n : Nat} {t : List Nat}, t ∈ prodL f n → t.length = n ∧ ∀ i, i < n → t.getD i 0 ∈ f i
  | 0, t, h => by
    have e : t = [] := List.mem_singleton.mp h
    subst e
    exact ⟨rfl, fun i hi => absurd hi (Nat.not_lt_zero _)⟩
  | n + 1, t, h => by
    obtain ⟨s, hs, h2⟩ := List.mem_flatMap.mp h
    obtain ⟨x, hx, rfl⟩ := List.mem_map.mp h2
    obtain ⟨l, m⟩ := prodL_mem hs
    refine ⟨by rw [List.length_append, l]; rfl, fun i hi => ?_⟩
    by_cases e : i < n
    · rw [List.getD_eq_getElem?_getD, List.getElem?_append_left (by omega), ← List.getD_eq_getElem?_getD]
      exact m i e
    · have e2 : i = n := by omega
      subst e2
      rw [List.getD_eq_getElem?_getD, List.getElem?_append_right (by omega), l, Nat.sub_self]
      exact hx
theorem prodL_has {f : Nat → List Nat} {g : Nat → Nat} : ∀ {n : Nat}, (∀ i, i < n → g i ∈ f i) → (List.range n).map g ∈ prodL f n
  | 0, _ => List.mem_singleton.mpr rfl
  | n + 1, h => by
    rw [List.range_succ, List.map_append]
    exact List.mem_flatMap.mpr ⟨_, prodL_has fun i hi => h i (by omega), List.mem_map.mpr ⟨_, h n (by omega), rfl⟩⟩
theorem nd_flatMap {α β : Type} {g : α → List β} : ∀ {l : List α}, l.Nodup → (∀ a ∈ l, (g a).Nodup) → (∀ a ∈ l, ∀ b ∈ l, ∀ x, x ∈ g a → x ∈ g b → a = b) → (l.flatMap g).Nodup
  | [], _, _, _ => List.nodup_nil
  | a :: l, nd, h1, h2 => by
    rw [List.nodup_cons] at nd
    rw [List.flatMap_cons, List.nodup_append]
    refine ⟨h1 a List.mem_cons_self, nd_flatMap nd.2 (fun b hb => h1 b (List.mem_cons_of_mem _ hb)) fun b hb c hc => h2 b (List.mem_cons_of_mem _ hb) c (List.mem_cons_of_mem _ hc), fun x hx y hy e => ?_⟩
    subst e
    obtain ⟨b, hb, hy⟩ := List.mem_flatMap.mp hy
    have := h2 a List.mem_cons_self b (List.mem_cons_of_mem _ hb) x hx hy
    subst this
    exact nd.1 hb
theorem nd_map {α β : Type} {f : α → β} : ∀ {l : List α}, (∀ a ∈ l, ∀ b ∈ l, f a = f b → a = b) → l.Nodup → (l.map f).Nodup
  | [], _, _ => List.nodup_nil
  | a :: l, hi, nd => by
    rw [List.nodup_cons] at nd
    rw [List.map_cons, List.nodup_cons]
    refine ⟨fun h => ?_, nd_map (fun b hb c hc => hi b (List.mem_cons_of_mem _ hb) c (List.mem_cons_of_mem _ hc)) nd.2⟩
    obtain ⟨b, hb, e⟩ := List.mem_map.mp h
    have := hi b (List.mem_cons_of_mem _ hb) a List.mem_cons_self e
    subst this
    exact nd.1 hb
theorem app1_inj {s t : List Nat} {x y : Nat} (h : s ++ [x] = t ++ [y]) : s = t ∧ x = y := by
  have := List.append_inj' h rfl
  exact ⟨this.1, (List.cons.inj this.2).1⟩
theorem prodL_nd {f : Nat → List Nat} : ∀ {n : Nat}, (∀ i, i < n → (f i).Nodup) → (prodL f n).Nodup
  | 0, _ => List.nodup_cons.mpr ⟨fun h => (by cases h), List.nodup_nil⟩
  | n + 1, h => by
    refine nd_flatMap (prodL_nd fun i hi => h i (by omega)) (fun t _ => nd_map (fun x _ y _ e => (app1_inj e).2) (h n (by omega))) fun s _ t _ x hx hy => ?_
    obtain ⟨a, _, e1⟩ := List.mem_map.mp hx
    obtain ⟨b, _, e2⟩ := List.mem_map.mp hy
    exact (app1_inj (e1.trans e2.symm)).1
theorem cells_nd (size : Nat) : ∀ w, (cells size w).Nodup
  | 0 => List.nodup_cons.mpr ⟨fun h => (by cases h), List.nodup_nil⟩
  | w + 1 => by
    refine nd_flatMap (cells_nd size w) (fun t _ => nd_map (fun x _ y _ e => (app1_inj e).2) List.nodup_range) fun s _ t _ x hx hy => ?_
    obtain ⟨a, _, e1⟩ := List.mem_map.mp hx
    obtain ⟨b, _, e2⟩ := List.mem_map.mp hy
    exact (app1_inj (e1.trans e2.symm)).1
/-! ### what agrees -/
def ext (names : List Nat) (ρ : Row) (σ : Nat → Nat) : Bool := names.all fun v => decide ((rget ρ v).getD (σ v) = σ v)
theorem ext_iff {names : List Nat} {ρ : Row} {σ : Nat → Nat} : ext names ρ σ = true ↔ ∀ v ∈ names, (rget ρ v).getD (σ v) = σ v := by
  unfold ext
  rw [List.all_eq_true]
  exact ⟨fun h v hv => of_decide_eq_true (h v hv), fun h v hv => decide_eq_true (h v hv)⟩
theorem ext_step {names : List Nat} {al : Nat → List Nat} {ρ : Row} {σ : Nat → Nat} {p : Nat × Nat} (hv : p.1 ∈ names) (ha : σ p.1 ∈ al p.1) :
    (okp al ρ p && ext names (stp al ρ p) σ) = (ext names ρ σ && decide (σ p.1 = p.2)) := by
  obtain ⟨v, x⟩ := p
  have hv : v ∈ names := hv
  have ha : σ v ∈ al v := ha
  refine Bool.eq_iff_iff.mpr ?_
  rw [Bool.and_eq_true, Bool.and_eq_true, ext_iff, ext_iff, decide_eq_true_eq]
  constructor
  · rintro ⟨h1, h2⟩
    have h3 : stp al ρ (v, x) = rput ρ v x := by unfold stp; rw [if_pos h1]
    rw [h3] at h2
    unfold okp at h1
    rw [Bool.and_eq_true, decide_eq_true_eq, decide_eq_true_eq] at h1
    have h1a : (rget ρ v).getD x = x := h1.1
    have e : σ v = x := by
      have := h2 v hv
      rw [rget_put, if_pos rfl] at this
      exact this.symm
    refine ⟨fun u hu => ?_, e⟩
    by_cases q : u = v
    · subst q
      rw [e]
      exact h1a
    · have := h2 u hu
      rw [rget_put, if_neg q] at this
      exact this
  · rintro ⟨h1, h2⟩
    have h2 : σ v = x := h2
    have ho : okp al ρ (v, x) = true := by
      unfold okp
      rw [Bool.and_eq_true, decide_eq_true_eq, decide_eq_true_eq]
      refine ⟨?_, ?_⟩
      · have := h1 v hv
        rw [h2] at this
        exact this
      · rw [h2] at ha
        exact ha
    refine ⟨ho, fun u hu => ?_⟩
    have h3 : stp al ρ (v, x) = rput ρ v x := by unfold stp; rw [if_pos ho]
    rw [h3, rget_put]
    by_cases q : u = v
    · rw [if_pos q, q, h2]
      rfl
    · rw [if_neg q]
      exact h1 u hu
theorem ext_run {names : List Nat} {al : Nat → List Nat} {σ : Nat → Nat} (ha : ∀ v ∈ names, σ v ∈ al v) : ∀ (ps : List (Nat × Nat)) (ρ : Row), (∀ p ∈ ps, p.1 ∈ names) →
    ((runB al ρ ps).all id && ext names (runS al ρ ps) σ) = (ext names ρ σ && ps.all fun p => decide (σ p.1 = p.2))
  | [], ρ, _ => by
    show (true && ext names ρ σ) = (ext names ρ σ && true)
    rw [Bool.true_and, Bool.and_true]
  | p :: r, ρ, h => by
    have ih := ext_run ha r (stp al ρ p) fun q hq => h q (List.mem_cons_of_mem _ hq)
    have st := ext_step (ρ := ρ) (h p List.mem_cons_self) (ha _ (h p List.mem_cons_self))
    show ((okp al ρ p && (runB al (stp al ρ p) r).all id) && ext names (runS al (stp al ρ p) r) σ) = (ext names ρ σ && (decide (σ p.1 = p.2) && r.all fun p => decide (σ p.1 = p.2)))
    rw [Bool.and_assoc, ih, ← Bool.and_assoc, st, Bool.and_assoc]
theorem zip_all {σ : Nat → Nat} : ∀ {us c : List Nat}, us.length = c.length → ((us.zip c).all fun p => decide (σ p.1 = p.2)) = decide (us.map σ = c)
  | [], [], _ => rfl
  | [], _ :: _, h => by simp at h
  | _ :: _, [], h => by simp at h
  | u :: us, x :: c, h => by
    have ih := zip_all (σ := σ) (us := us) (c := c) (by simpa using h)
    show (decide (σ u = x) && ((us.zip c).all fun p => decide (σ p.1 = p.2))) = decide (σ u :: us.map σ = x :: c)
    rw [ih, ← Bool.decide_and]
    exact decide_eq_decide.mpr ⟨fun ⟨a, b⟩ => by rw [a, b], fun e => List.cons.inj e⟩
theorem zip_pick {c : List Nat} : ∀ {l : List (List Nat)} {m : List Nat}, l.Nodup → l.length = m.length → sm (fun q => if c = q.1 then q.2 else 0) (l.zip m) = m.getD (l.idxOf c) 0
  | [], [], _, _ => rfl
  | [], _ :: _, _, h => by simp at h
  | _ :: _, [], _, h => by simp at h
  | a :: l, x :: m, nd, h => by
    rw [List.nodup_cons] at nd
    have ih := zip_pick (c := c) nd.2 (show l.length = m.length by simpa using h)
    rw [List.zip_cons_cons, sm_cons]
    by_cases e : c = a
    · subst e
      rw [if_pos rfl]
      have z : sm (fun q => if c = q.1 then q.2 else 0) (l.zip m) = 0 := by
        rw [sm_congr (g := fun _ => 0) fun q hq => if_neg fun (z : c = q.1) => nd.1 (z ▸ (List.of_mem_zip hq).1), sm_zero]
      rw [z, List.idxOf_cons_self]
      rfl
    · have e2 : (a == c) = false := beq_eq_false_iff_ne.mpr fun z => e z.symm
      rw [if_neg e, ih, List.idxOf_cons, e2]
      simp
/-! ### one atom -/
def wt (size : Nat) (tabs : List (List Nat)) (σ : Nat → Nat) (p : Nat × List Nat) : Nat := ((tabs[p.1]?).getD []).getD ((cells size p.2.length).idxOf (p.2.map σ)) 0
def wts (size : Nat) (tabs : List (List Nat)) (σ : Nat → Nat) (ats : List (Nat × List Nat)) : Nat := prd (ats.map (wt size tabs σ))
section
variable (names : List Nat) (size : Nat) (tabs : List (List Nat)) (Full : List (List Nat)) (sg : List Nat → Nat → Nat)
def tl (ρ : Row) (rest : List (Nat × List Nat)) : Nat := sm (fun t => if ext names ρ (sg t) = true then wts size tabs (sg t) rest else 0) Full
theorem tl_step {al : Nat → List Nat} (ha : ∀ t ∈ Full, ∀ v ∈ names, sg t v ∈ al v) {p : Nat × List Nat} (hp : ∀ u ∈ p.2, u ∈ names) (hl : ((tabs[p.1]?).getD []).length = size ^ p.2.length) (ρ : Row) (rest : List (Nat × List Nat)) :
    sm (fun s => s.2 * tl names size tabs Full sg s.1 rest) (extL al (filA size tabs p) ρ p.2) = tl names size tabs Full sg ρ (p :: rest) := by
  unfold extL tl
  rw [sm_map, sm_filter]
  have e1 : ∀ q ∈ filA size tabs p, (if (runB al ρ (p.2.zip q.1)).all id = true then q.2 * sm (fun t => if ext names (runS al ρ (p.2.zip q.1)) (sg t) = true then wts size tabs (sg t) rest else 0) Full else 0) =
      sm (fun t => (if ext names ρ (sg t) = true then wts size tabs (sg t) rest else 0) * (if p.2.map (sg t) = q.1 then q.2 else 0)) Full := by
    intro q hq
    have hqc : q.1.length = p.2.length := by
      have h1 := (List.mem_filter.mp hq).1
      exact (cells_mem (List.of_mem_zip h1).1).1
    have key : ∀ t ∈ Full, ((runB al ρ (p.2.zip q.1)).all id && ext names (runS al ρ (p.2.zip q.1)) (sg t)) = (ext names ρ (sg t) && decide (p.2.map (sg t) = q.1)) := fun t ht => by
      rw [ext_run (ha t ht) _ ρ fun z hz => hp _ (List.of_mem_zip hz).1, zip_all hqc.symm]
    by_cases hb : (runB al ρ (p.2.zip q.1)).all id = true
    · rw [if_pos hb, ← sm_mul]
      refine sm_congr fun t ht => ?_
      have k := key t ht
      rw [hb, Bool.true_and] at k
      by_cases h1 : ext names ρ (sg t) = true
      · by_cases h2 : p.2.map (sg t) = q.1
        · rw [if_pos (by rw [k, h1, decide_eq_true h2]; rfl), if_pos h1, if_pos h2, Nat.mul_comm]
        · rw [if_neg (by rw [k, decide_eq_false h2, Bool.and_false]; exact Bool.false_ne_true), if_pos h1, if_neg h2]
          rfl
      · rw [if_neg (by rw [k, Bool.eq_false_iff.mpr h1]; exact Bool.false_ne_true), if_neg h1, Nat.zero_mul]
        rfl
    · rw [if_neg hb]
      have z : ∀ t ∈ Full, (if ext names ρ (sg t) = true then wts size tabs (sg t) rest else 0) * (if p.2.map (sg t) = q.1 then q.2 else 0) = 0 := fun t ht => by
        have k := key t ht
        rw [Bool.eq_false_iff.mpr hb, Bool.false_and] at k
        by_cases h1 : ext names ρ (sg t) = true
        · rw [h1, Bool.true_and] at k
          rw [if_neg (of_decide_eq_false k.symm)]
          rfl
        · rw [if_neg h1, Nat.zero_mul]
      rw [sm_congr (g := fun _ => 0) z, sm_zero]
  rw [sm_congr e1, sm_swap]
  refine sm_congr fun t ht => ?_
  rw [sm_mul]
  unfold filA filledL
  rw [sm_filter]
  have e2 : sm (fun a => if decide (0 < a.2) = true then (if p.2.map (sg t) = a.1 then a.2 else 0) else 0) ((cells size p.2.length).zip ((tabs[p.1]?).getD [])) = wt size tabs (sg t) p := by
    rw [sm_congr (g := fun a => if p.2.map (sg t) = a.1 then a.2 else 0) fun a _ => ?_, zip_pick (cells_nd ..) (by rw [cells_len, hl])]
    · rfl
    · by_cases h : 0 < a.2
      · rw [if_pos (decide_eq_true h)]
      · rw [if_neg (fun z => h (of_decide_eq_true z))]
        split
        · omega
        · rfl
  rw [e2]
  show _ = if _ then wt size tabs (sg t) p * wts size tabs (sg t) rest else 0
  split
  · rw [Nat.mul_comm]
  · rw [Nat.zero_mul]
theorem tl_join {al : Nat → List Nat} (ha : ∀ t ∈ Full, ∀ v ∈ names, sg t v ∈ al v) {p : Nat × List Nat} (hp : ∀ u ∈ p.2, u ∈ names) (hl : ((tabs[p.1]?).getD []).length = size ^ p.2.length) (L : List (Row × Nat)) (rest : List (Nat × List Nat)) :
    sm (fun s => s.2 * tl names size tabs Full sg s.1 rest) (joinA al size tabs L p) = sm (fun s => s.2 * tl names size tabs Full sg s.1 (p :: rest)) L := by
  unfold joinA
  rw [sm_flatMap]
  refine sm_congr fun r _ => ?_
  rw [sm_map, ← tl_step names size tabs Full sg ha hp hl, ← sm_mul]
  refine sm_congr fun s _ => ?_
  rw [Nat.mul_assoc]
theorem tl_all {al : Nat → List Nat} (ha : ∀ t ∈ Full, ∀ v ∈ names, sg t v ∈ al v) : ∀ (ats : List (Nat × List Nat)) (L : List (Row × Nat)), (∀ p ∈ ats, (∀ u ∈ p.2, u ∈ names) ∧ ((tabs[p.1]?).getD []).length = size ^ p.2.length) →
    sm (fun s => s.2 * tl names size tabs Full sg s.1 []) (ats.foldl (joinA al size tabs) L) = sm (fun s => s.2 * tl names size tabs Full sg s.1 ats) L
  | [], _, _ => rfl
  | p :: r, L, h => by
    rw [List.foldl_cons, tl_all ha r _ fun q hq => h q (List.mem_cons_of_mem _ hq)]
    exact tl_join names size tabs Full sg ha (h p List.mem_cons_self).1 (h p List.mem_cons_self).2 L r
end
/-! what is bound is allowed -/
def RowOk (al : Nat → List Nat) (ρ : Row) : Prop := ∀ v x, rget ρ v = some x → x ∈ al v
theorem stp_ok {al : Nat → List Nat} {ρ : Row} {p : Nat × Nat} (h : RowOk al ρ) : RowOk al (stp al ρ p) := by
  intro v x e
  unfold stp at e
  split at e
  · rename_i ho
    rw [rget_put] at e
    split at e
    · rename_i hv
      cases e
      unfold okp at ho
      rw [Bool.and_eq_true, decide_eq_true_eq, decide_eq_true_eq] at ho
      rw [hv]
      exact ho.2
    · exact h v x e
  · exact h v x e
theorem runS_ok {al : Nat → List Nat} : ∀ (ps : List (Nat × Nat)) {ρ : Row}, RowOk al ρ → RowOk al (runS al ρ ps)
  | [], _, h => h
  | _ :: r, _, h => runS_ok r (stp_ok h)
theorem joinA_ok {al : Nat → List Nat} {size : Nat} {tabs : List (List Nat)} {L : List (Row × Nat)} {p : Nat × List Nat} (h : ∀ s ∈ L, RowOk al s.1) : ∀ s ∈ joinA al size tabs L p, RowOk al s.1 := by
  intro s hs
  obtain ⟨r, hr, h2⟩ := List.mem_flatMap.mp hs
  obtain ⟨t, ht, rfl⟩ := List.mem_map.mp h2
  obtain ⟨q, _, rfl⟩ := List.mem_map.mp ht
  exact runS_ok _ (h r hr)
theorem fold_ok {al : Nat → List Nat} {size : Nat} {tabs : List (List Nat)} : ∀ (ats : List (Nat × List Nat)) {L : List (Row × Nat)}, (∀ s ∈ L, RowOk al s.1) → ∀ s ∈ ats.foldl (joinA al size tabs) L, RowOk al s.1
  | [], _, h => h
  | _ :: r, _, h => fold_ok r (joinA_ok h)
/-! ### joined is enumerated -/
def sgOf (names : List Nat) (t : List Nat) (v : Nat) : Nat := t.getD (names.idxOf v) 0
theorem getD_idx {names : List Nat} {v : Nat} (h : v ∈ names) : names.getD (names.idxOf v) 0 = v := by
  have hl : names.idxOf v < names.length := List.idxOf_lt_length_iff.mpr h
  rw [List.getD_eq_getElem?_getD, List.getElem?_eq_getElem hl]
  exact List.getElem_idxOf hl
def enumL (al : Nat → List Nat) (names : List Nat) : List (List Nat) := prodL (fun i => al (names.getD i 0)) names.length
theorem tot_eq {al : Nat → List Nat} {size : Nat} {tabs : List (List Nat)} {ats : List (Nat × List Nat)} (h5 : ∀ p ∈ ats, ∀ u ∈ p.2, u ≤ 5) (hal : ∀ v ∈ varsOf ats, (al v).Nodup) (htab : ∀ p ∈ ats, ((tabs[p.1]?).getD []).length = size ^ p.2.length) :
    totL al size tabs ats = sm (fun t => wts size tabs (sgOf (varsOf ats) t) ats) (enumL al (varsOf ats)) := by
  have hn := varsOf_nodup ats
  have hm : ∀ p ∈ ats, ∀ u ∈ p.2, u ∈ varsOf ats := fun p hp u hu => (mem_varsOf h5).mpr (List.mem_flatMap.mpr ⟨p, hp, hu⟩)
  have hdom : ∀ s ∈ lines al size tabs ats, ∀ u ∈ varsOf ats, (rget s.1 u).isSome = true := fun s hs u hu => (lines_dom _ rfl s hs).2 u ((mem_varsOf h5).mp hu)
  have hok : ∀ s ∈ lines al size tabs ats, RowOk al s.1 := fold_ok ats fun s hs => by
    rw [List.mem_singleton.mp hs]
    intro v x e
    cases e
  generalize hN : varsOf ats = names at *
  have ha : ∀ t ∈ enumL al names, ∀ v ∈ names, sgOf names t v ∈ al v := fun t ht v hv => by
    have := (prodL_mem ht).2 (names.idxOf v) (List.idxOf_lt_length_iff.mpr hv)
    rw [getD_idx hv] at this
    exact this
  have main := tl_all names size tabs (enumL al names) (sgOf names) ha ats [([], 1)] fun p hp => ⟨hm p hp, htab p hp⟩
  have e0 : sm (fun s : Row × Nat => s.2 * tl names size tabs (enumL al names) (sgOf names) s.1 ats) [([], 1)] = sm (fun t => wts size tabs (sgOf names t) ats) (enumL al names) := by
    rw [sm_cons]
    show 1 * sm _ _ + 0 = _
    rw [Nat.one_mul, Nat.add_zero]
    refine sm_congr fun t _ => if_pos ?_
    exact ext_iff.mpr fun v _ => rfl
  rw [e0] at main
  rw [← main]
  show sm (fun s : Row × Nat => s.2) (lines al size tabs ats) = sm _ (lines al size tabs ats)
  refine sm_congr fun s hs => ?_
  have one : tl names size tabs (enumL al names) (sgOf names) s.1 [] = 1 := by
    unfold tl
    have ht0 : (List.range names.length).map (fun i => (rget s.1 (names.getD i 0)).getD 0) ∈ enumL al names := by
      refine prodL_has fun i hi => ?_
      have hv : names.getD i 0 ∈ names := by
        rw [List.getD_eq_getElem?_getD, List.getElem?_eq_getElem hi]
        exact List.getElem_mem hi
      have hd := hdom s hs _ hv
      cases hr : rget s.1 (names.getD i 0) with
      | none => rw [hr] at hd; cases hd
      | some x => exact hok s hs _ _ hr
    have nd : (enumL al names).Nodup := prodL_nd fun i hi => hal _ (by
      rw [List.getD_eq_getElem?_getD, List.getElem?_eq_getElem hi]
      exact List.getElem_mem hi)
    rw [← sm_one nd ht0]
    refine sm_congr fun t ht => ?_
    have hl := (prodL_mem ht).1
    have iff : ext names s.1 (sgOf names t) = true ↔ t = (List.range names.length).map (fun i => (rget s.1 (names.getD i 0)).getD 0) := by
      rw [ext_iff]
      constructor
      · intro h
        refine List.ext_getElem (by rw [hl, List.length_map, List.length_range]) fun i h1 h2 => ?_
        rw [List.getElem_map, List.getElem_range]
        have hi : i < names.length := by omega
        have hv : names.getD i 0 = names[i] := by rw [List.getD_eq_getElem?_getD, List.getElem?_eq_getElem hi]; rfl
        have hmem : names[i] ∈ names := List.getElem_mem hi
        have q := h _ hmem
        have hd := hdom s hs _ hmem
        have ei : sgOf names t names[i] = t[i] := by
          unfold sgOf
          rw [hn.idxOf_getElem i hi, List.getD_eq_getElem?_getD, List.getElem?_eq_getElem h1]
          rfl
        rw [ei] at q
        rw [hv]
        cases hr : rget s.1 names[i] with
        | none => rw [hr] at hd; cases hd
        | some x =>
          rw [hr] at q
          exact q.symm
      · intro h v hv
        have hi : names.idxOf v < names.length := List.idxOf_lt_length_iff.mpr hv
        have hd := hdom s hs _ hv
        have es : sgOf names t v = (rget s.1 v).getD 0 := by
          unfold sgOf
          rw [List.getD_eq_getElem?_getD, h, List.getElem?_map, List.getElem?_range hi]
          show (rget s.1 (names.getD (names.idxOf v) 0)).getD 0 = _
          rw [getD_idx hv]
        rw [es]
        cases hr : rget s.1 v with
        | none => rw [hr] at hd; cases hd
        | some x => rfl
    by_cases h : t = (List.range names.length).map (fun i => (rget s.1 (names.getD i 0)).getD 0)
    · rw [if_pos h, if_pos (iff.mpr h)]
      rfl
    · rw [if_neg h, if_neg fun z => h (iff.mp z)]
  rw [one, Nat.mul_one]
end K16
set_option Elab.async false
set_option linter.all false
set_option maxRecDepth 10000
namespace K16
/-! ### the order of the atoms does not matter -/
theorem varsOf_congr {a b : List (Nat × List Nat)} (h : ∀ p, p ∈ a ↔ p ∈ b) : varsOf a = varsOf b := by
  unfold varsOf
  refine List.filter_congr fun v _ => decide_eq_decide.mpr ?_
  rw [List.mem_flatMap, List.mem_flatMap]
  exact ⟨fun ⟨p, hp, e⟩ => ⟨p, (h p).mp hp, e⟩, fun ⟨p, hp, e⟩ => ⟨p, (h p).mpr hp, e⟩⟩
theorem totL_perm {al : Nat → List Nat} {size : Nat} {tabs : List (List Nat)} {a b : List (Nat × List Nat)} (h : a.Perm b) (h5 : ∀ p ∈ a, ∀ u ∈ p.2, u ≤ 5) (hal : ∀ v ∈ varsOf a, (al v).Nodup) (htab : ∀ p ∈ a, ((tabs[p.1]?).getD []).length = size ^ p.2.length) :
    totL al size tabs a = totL al size tabs b := by
  have hv : varsOf a = varsOf b := varsOf_congr fun p => h.mem_iff
  rw [tot_eq h5 hal htab, tot_eq (fun p hp => h5 p (h.mem_iff.mpr hp)) (fun v q => hal v (hv ▸ q)) (fun p hp => htab p (h.mem_iff.mpr hp)), hv]
  refine sm_congr fun t _ => ?_
  unfold wts
  exact prd_perm (h.map _)
theorem pick_perm {ats : List (Nat × List Nat)} {e f : List Nat} (h : e.Perm f) : (pick ats e).Perm (pick ats f) := h.map _
/-! ### orders -/
def ordersL (n : Nat) : Nat → List (List Nat)
  | 0 => [[]]
  | k + 1 => (ordersL n k).flatMap fun o => ((List.range n).filter fun a => !decide (a ∈ o)).map fun a => o ++ [a]
theorem ordersL_mem {n : Nat} : ∀ {k : Nat} {o : List Nat}, o ∈ ordersL n k → o.length = k ∧ o.Nodup ∧ ∀ i ∈ o, i < n
  | 0, o, h => by
    have e : o = [] := List.mem_singleton.mp h
    subst e
    exact ⟨rfl, List.nodup_nil, fun i hi => by cases hi⟩
  | k + 1, o, h => by
    obtain ⟨s, hs, h2⟩ := List.mem_flatMap.mp h
    obtain ⟨a, ha, rfl⟩ := List.mem_map.mp h2
    obtain ⟨h1, h3, h4⟩ := ordersL_mem hs
    obtain ⟨q1, q2⟩ := List.mem_filter.mp ha
    have q3 : ¬ a ∈ s := by
      intro z
      rw [decide_eq_true z] at q2
      cases q2
    refine ⟨by rw [List.length_append, h1]; rfl, ?_, fun i hi => ?_⟩
    · rw [List.nodup_append]
      refine ⟨h3, List.nodup_cons.mpr ⟨fun z => (by cases z), List.nodup_nil⟩, fun x hx y hy e => ?_⟩
      rw [List.mem_singleton.mp hy] at e
      exact q3 (e ▸ hx)
    · rcases List.mem_append.mp hi with e | e
      · exact h4 i e
      · rw [List.mem_singleton.mp e]
        exact List.mem_range.mp q1
def ordO (sc : List Nat → Nat → Nat) (rn : Nat → Nat) (el : List Nat) : Nat := rn (el.getD 0 0) + ((List.range (el.length - 1)).map fun s => sc (el.take (s + 1)) (el.getD (s + 1) 0)).sum
theorem ordC_eq (size : Nat) (fl : List (Nat × List Nat)) (tabs : List (List Nat)) (ats : List (Nat × List Nat)) (m : Nat) (el : List Nat) : ordC size fl tabs ats m el = ordO (stepC size fl tabs ats m) (rightN tabs ats) el := rfl
def lawLeast (sc : List Nat → Nat → Nat) (rn : Nat → Nat) (n : Nat) : Nat := mnL ((ordersL n n).map (ordO sc rn))
theorem least1 (sc : List Nat → Nat → Nat) (rn : Nat → Nat) : leastC sc rn 1 = lawLeast sc rn 1 := rfl
theorem least2 (sc : List Nat → Nat → Nat) (rn : Nat → Nat) : leastC sc rn 2 = lawLeast sc rn 2 := by
  have e1 : leastC sc rn 2 = min (rn 1 + sc [1] 0) (min (rn 0 + sc [0] 1) (rn 0 + sc [0] 1)) := rfl
  have e2 : lawLeast sc rn 2 = min (rn 0 + (sc [0] 1 + 0)) (rn 1 + (sc [1] 0 + 0)) := rfl
  rw [e1, e2]
  omega
theorem least3_e (sc : List Nat → Nat → Nat) (rn : Nat → Nat) : leastC sc rn 3 = min (min (rn 2 + sc [2] 1) (min (rn 1 + sc [1] 2) (rn 1 + sc [1] 2)) + sc [1, 2] 0) (min (min (rn 2 + sc [2] 0) (min (rn 0 + sc [0] 2) (rn 0 + sc [0] 2)) + sc [0, 2] 1) (min (min (rn 1 + sc [1] 0) (min (rn 0 + sc [0] 1) (rn 0 + sc [0] 1)) + sc [0, 1] 2) (min (rn 1 + sc [1] 0) (min (rn 0 + sc [0] 1) (rn 0 + sc [0] 1)) + sc [0, 1] 2))) := by
  kernel_rfl
theorem least3_l (sc : List Nat → Nat → Nat) (rn : Nat → Nat) : lawLeast sc rn 3 = min (rn 0 + (sc [0] 1 + (sc [0, 1] 2 + 0))) (min (rn 0 + (sc [0] 2 + (sc [0, 2] 1 + 0))) (min (rn 1 + (sc [1] 0 + (sc [1, 0] 2 + 0))) (min (rn 1 + (sc [1] 2 + (sc [1, 2] 0 + 0))) (min (rn 2 + (sc [2] 0 + (sc [2, 0] 1 + 0))) (rn 2 + (sc [2] 1 + (sc [2, 1] 0 + 0))))))) := by
  kernel_rfl
theorem min6 (a b c d e f x y z : Nat) : min (min f (min d d) + z) (min (min e (min b b) + y) (min (min c (min a a) + x) (min c (min a a) + x))) = min (a + x) (min (b + y) (min (c + x) (min (d + z) (min (e + y) (f + z))))) := by
  rw [Nat.min_self, Nat.min_self, Nat.min_self, Nat.min_self, ← Nat.add_min_add_right, ← Nat.add_min_add_right, ← Nat.add_min_add_right]
  ac_rfl
theorem least3 (sc : List Nat → Nat → Nat) (rn : Nat → Nat) (h1 : sc [1, 0] 2 = sc [0, 1] 2) (h2 : sc [2, 0] 1 = sc [0, 2] 1) (h3 : sc [2, 1] 0 = sc [1, 2] 0) : leastC sc rn 3 = lawLeast sc rn 3 := by
  rw [least3_e, least3_l, h1, h2, h3, min6]
  simp only [Nat.add_zero, Nat.add_assoc]
/-! ### nothing moved -/
theorem mnL_zero : ∀ {l : List Nat}, l ≠ [] → (mnL l = 0 ↔ 0 ∈ l)
  | [], h => absurd rfl h
  | [a], _ => by
    show a = 0 ↔ 0 ∈ [a]
    rw [List.mem_singleton]
    exact eq_comm
  | a :: b :: r, _ => by
    have ih := mnL_zero (l := b :: r) (by simp)
    show min a (mnL (b :: r)) = 0 ↔ _
    rw [List.mem_cons, ← ih]
    omega
theorem mvN_zero {left right m : Nat} {linked : Bool} (hm : 3 ≤ m) : mnL (mvN left right linked m) = 0 ↔ left = 0 := by
  have h0 : left = 0 → left + right * ((left + m - 3) / (m - 2)) = 0 := by
    intro h
    subst h
    rw [Nat.div_eq_of_lt (by omega), Nat.mul_zero]
  rw [mnL_zero (by unfold mvN; exact List.cons_ne_nil _ _)]
  unfold mvN
  constructor
  · intro h
    rcases List.mem_cons.mp h with e | e
    · omega
    · split at e
      · have := List.mem_singleton.mp e
        omega
      · cases e
  · intro h
    rw [h0 h]
    exact List.mem_cons_self
theorem stepC_zero {size : Nat} {fl : List (Nat × List Nat)} {tabs : List (List Nat)} {ats : List (Nat × List Nat)} {m : Nat} {el : List Nat} {i : Nat} (hm : 3 ≤ m) : stepC size fl tabs ats m el i = 0 ↔ leftN size fl tabs ats el = 0 := mvN_zero hm
theorem sum_zero : ∀ {l : List Nat}, l.sum = 0 ↔ ∀ x ∈ l, x = 0
  | [] => ⟨fun _ x hx => (by cases hx), fun _ => rfl⟩
  | a :: l => by
    have ih := sum_zero (l := l)
    rw [List.sum_cons]
    constructor
    · intro h x hx
      rcases List.mem_cons.mp hx with e | e
      · omega
      · exact ih.mp (by omega) x e
    · intro h
      have h1 := h a List.mem_cons_self
      have h2 := ih.mpr fun x hx => h x (List.mem_cons_of_mem _ hx)
      omega
theorem ordO_zero {sc sc' : List Nat → Nat → Nat} {rn : Nat → Nat} (hz : ∀ e i, sc e i = 0 ↔ sc' e i = 0) (el : List Nat) : ordO sc rn el = 0 → ordO sc' rn el = 0 := by
  unfold ordO
  intro h
  have h1 : rn (el.getD 0 0) = 0 := by omega
  have h2 : ((List.range (el.length - 1)).map fun s => sc (el.take (s + 1)) (el.getD (s + 1) 0)).sum = 0 := by omega
  rw [h1, sum_zero.mpr]
  intro x hx
  obtain ⟨s, hs, rfl⟩ := List.mem_map.mp hx
  exact (hz _ _).mp (sum_zero.mp h2 _ (List.mem_map.mpr ⟨s, hs, rfl⟩))
theorem least_zero {sc sc' : List Nat → Nat → Nat} {rn : Nat → Nat} (hz : ∀ e i, sc e i = 0 ↔ sc' e i = 0) {n : Nat} (hn : ordersL n n ≠ []) (h : lawLeast sc rn n = 0) : lawLeast sc' rn n = 0 := by
  unfold lawLeast at h ⊢
  rw [mnL_zero (by simpa using hn)] at h ⊢
  obtain ⟨o, ho, e⟩ := List.mem_map.mp h
  exact List.mem_map.mpr ⟨o, ho, ordO_zero hz o e⟩
/-! ### the tables fit, the filters are without duplicates: so all orders agree -/
theorem leastOf_eq {size : Nat} {fl : List (Nat × List Nat)} {tabs : List (List Nat)} {ats : List (Nat × List Nat)} {m : Nat} (hsym : ∀ e f i, e.Perm f → (∀ j ∈ e, j < ats.length) → stepC size fl tabs ats m e i = stepC size fl tabs ats m f i) (h1 : 1 ≤ ats.length) (h3 : ats.length ≤ 3) :
    leastOf size fl tabs ats m = lawLeast (stepC size fl tabs ats m) (rightN tabs ats) ats.length := by
  unfold leastOf
  generalize hn : ats.length = n at *
  match n, h1, h3 with
  | 1, _, _ => exact least1 ..
  | 2, _, _ => exact least2 ..
  | 3, _, _ =>
    refine least3 _ _ (hsym _ _ _ (.swap ..) ?_) (hsym _ _ _ (.swap ..) ?_) (hsym _ _ _ (.swap ..) ?_)
    · intro j hj; simp at hj; omega
    · intro j hj; simp at hj; omega
    · intro j hj; simp at hj; omega
theorem ordersL_ne {n : Nat} (h1 : 1 ≤ n) (h3 : n ≤ 3) : ordersL n n ≠ [] := by
  match n, h1, h3 with
  | 1, _, _ => decide
  | 2, _, _ => decide
  | 3, _, _ => decide
theorem leftN_perm {size : Nat} {fl : List (Nat × List Nat)} {tabs : List (List Nat)} {ats : List (Nat × List Nat)} {e f : List Nat} (h : e.Perm f) (hi : ∀ j ∈ e, j < ats.length) (h5 : ∀ p ∈ ats, ∀ u ∈ p.2, u ≤ 5) (hal : ∀ v, (allowedL size fl v).Nodup) (htab : ∀ p ∈ ats, ((tabs[p.1]?).getD []).length = size ^ p.2.length) :
    leftN size fl tabs ats e = leftN size fl tabs ats f := by
  have hm : ∀ p ∈ pick ats e, p ∈ ats := fun p hp => by
    obtain ⟨i, hi', rfl⟩ := List.mem_map.mp hp
    rw [List.getElem?_eq_getElem (hi i hi')]
    exact List.getElem_mem _
  exact totL_perm (pick_perm h) (fun p hp => h5 p (hm p hp)) (fun v _ => hal v) fun p hp => htab p (hm p hp)
theorem stepC_perm {size : Nat} {fl : List (Nat × List Nat)} {tabs : List (List Nat)} {ats : List (Nat × List Nat)} {m : Nat} {e f : List Nat} {i : Nat} (h : e.Perm f) (hi : ∀ j ∈ e, j < ats.length) (h5 : ∀ p ∈ ats, ∀ u ∈ p.2, u ≤ 5) (hal : ∀ v, (allowedL size fl v).Nodup) (htab : ∀ p ∈ ats, ((tabs[p.1]?).getD []).length = size ^ p.2.length) :
    stepC size fl tabs ats m e i = stepC size fl tabs ats m f i := by
  unfold stepC linkB
  rw [leftN_perm h hi h5 hal htab, varsOf_congr fun p => (pick_perm (ats := ats) h).mem_iff]
theorem ceil_div (left m : Nat) (h : 3 ≤ m) (k : Nat) (h1 : (k : Nat) * (m - 2) < left + (m - 2)) (h2 : left ≤ k * (m - 2)) : k = (left + m - 3) / (m - 2) := by
  have e : left + m - 3 = left + (m - 2) - 1 := by omega
  rw [e]
  generalize m - 2 = d at *
  have hd : 0 < d := by
    rcases Nat.eq_zero_or_pos d with z | z
    · subst z
      omega
    · exact z
  refine (Nat.div_eq_of_lt_le ?_ ?_).symm
  · omega
  · rw [Nat.add_mul]
    omega
end K16
set_option Elab.async false
set_option linter.all false
set_option maxRecDepth 10000
namespace K16
/-! ### variables by their places -/
def relP (names : List Nat) (p : Nat × List Nat) : Nat × List Nat := (p.1, p.2.map (names.idxOf ·))
def relab (names : List Nat) (ats : List (Nat × List Nat)) : List (Nat × List Nat) := ats.map (relP names)
theorem idx_inj {names : List Nat} {u v : Nat} (hu : u ∈ names) (hv : v ∈ names) (h : names.idxOf u = names.idxOf v) : u = v := by
  rw [← getD_idx hu, ← getD_idx hv, h]
theorem map_idx_inj {names : List Nat} : ∀ {a b : List Nat}, (∀ u ∈ a, u ∈ names) → (∀ u ∈ b, u ∈ names) → a.map (names.idxOf ·) = b.map (names.idxOf ·) → a = b
  | [], [], _, _, _ => rfl
  | [], _ :: _, _, _, h => by cases h
  | _ :: _, [], _, _, h => by cases h
  | x :: a, y :: b, ha, hb, h => by
    obtain ⟨h1, h2⟩ := List.cons.inj (show names.idxOf x :: a.map (names.idxOf ·) = names.idxOf y :: b.map (names.idxOf ·) from h)
    rw [idx_inj (ha x List.mem_cons_self) (hb y List.mem_cons_self) h1, map_idx_inj (fun u hu => ha u (List.mem_cons_of_mem _ hu)) (fun u hu => hb u (List.mem_cons_of_mem _ hu)) h2]
theorem range_filter {n : Nat} (h : n ≤ 6) : (List.range 6).filter (fun v => decide (v < n)) = List.range n := by
  match n, h with
  | 0, _ => decide
  | 1, _ => decide
  | 2, _ => decide
  | 3, _ => decide
  | 4, _ => decide
  | 5, _ => decide
  | 6, _ => decide
theorem varsOf_relab {ats : List (Nat × List Nat)} (h5 : ∀ p ∈ ats, ∀ u ∈ p.2, u ≤ 5) : varsOf (relab (varsOf ats) ats) = List.range (varsOf ats).length := by
  have hle := varsOf_le ats
  have hm : ∀ u, u ∈ varsOf ats ↔ ∃ p ∈ ats, u ∈ p.2 := fun u => by rw [mem_varsOf h5, List.mem_flatMap]
  have hnd := varsOf_nodup ats
  rw [← range_filter hle]
  generalize hN : varsOf ats = names at *
  unfold varsOf
  refine List.filter_congr fun v _ => decide_eq_decide.mpr ?_
  rw [List.mem_flatMap]
  constructor
  · rintro ⟨p, hp, hv⟩
    obtain ⟨q, hq, rfl⟩ := List.mem_map.mp hp
    obtain ⟨u, hu, rfl⟩ := List.mem_map.mp hv
    exact List.idxOf_lt_length_iff.mpr ((hm u).mpr ⟨q, hq, hu⟩)
  · intro hv
    obtain ⟨p, hp, hu⟩ := (hm names[v]).mp (List.getElem_mem hv)
    exact ⟨relP names p, List.mem_map_of_mem hp, List.mem_map.mpr ⟨names[v], hu, hnd.idxOf_getElem v hv⟩⟩
theorem relab_ok {widths : List Nat} {ats : List (Nat × List Nat)} (h1 : 1 ≤ ats.length) (h3 : ats.length ≤ 3) (nd : ats.Nodup) (hw : ∀ p ∈ ats, widths[p.1]? = some p.2.length ∧ 1 ≤ p.2.length ∧ p.2.length ≤ 2 ∧ ∀ u ∈ p.2, u ≤ 5) :
    AtomsOk widths (relab (varsOf ats) ats) ∧ AtW widths (relab (varsOf ats) ats) := by
  have h5 : ∀ p ∈ ats, ∀ u ∈ p.2, u ≤ 5 := fun p hp => (hw p hp).2.2.2
  have hm : ∀ p ∈ ats, ∀ u ∈ p.2, u ∈ varsOf ats := fun p hp u hu => (mem_varsOf h5).mpr (List.mem_flatMap.mpr ⟨p, hp, hu⟩)
  have hv := varsOf_relab h5
  have hle := varsOf_le ats
  have hw2 : ∀ p ∈ relab (varsOf ats) ats, widths[p.1]? = some p.2.length ∧ 1 ≤ p.2.length ∧ p.2.length ≤ 2 ∧ ∀ u ∈ p.2, u ≤ 5 := by
    intro p hp
    obtain ⟨q, hq, rfl⟩ := List.mem_map.mp hp
    obtain ⟨a1, a2, a3, a4⟩ := hw q hq
    have el : (q.2.map ((varsOf ats).idxOf ·)).length = q.2.length := List.length_map ..
    refine ⟨by show widths[q.1]? = some (q.2.map _).length; rw [el]; exact a1, by show 1 ≤ (q.2.map _).length; rw [el]; exact a2, by show (q.2.map _).length ≤ 2; rw [el]; exact a3, fun u hu => ?_⟩
    obtain ⟨v, hv', rfl⟩ := List.mem_map.mp hu
    have := List.idxOf_lt_length_iff.mpr (hm q hq v hv')
    omega
  have hl : (relab (varsOf ats) ats).length = ats.length := List.length_map ..
  refine ⟨⟨by omega, by omega, ?_, fun p hp => ⟨(hw2 p hp).1, (hw2 p hp).2.2.1, (hw2 p hp).2.2.2⟩, ?_⟩, by omega, by omega, hw2⟩
  · refine nd_map (fun a ha b hb e => ?_) nd
    obtain ⟨e1, e2⟩ := Prod.mk.inj (show (a.1, a.2.map ((varsOf ats).idxOf ·)) = (b.1, b.2.map ((varsOf ats).idxOf ·)) from e)
    exact Prod.ext e1 (map_idx_inj (hm a ha) (hm b hb) e2)
  · rw [hv, List.length_range]
/-! ### the law's rows -/
def keptL (names : List Nat) (fl : List (Nat × List Nat)) : List (Nat × List Nat) := (fl.filter fun p => decide (p.1 ∈ names)).map fun p => (names.idxOf p.1, p.2)
theorem kept_allowed {size : Nat} {names : List Nat} (nd : names.Nodup) (fl : List (Nat × List Nat)) {i : Nat} (hi : i < names.length) : allowedL size (keptL names fl) i = allowedL size fl (names.getD i 0) := by
  have e : ((keptL names fl).filter fun p => decide (p.1 = i)).map (·.2) = (fl.filter fun p => decide (p.1 = names.getD i 0)).map (·.2) := by
    unfold keptL
    rw [List.filter_map, List.map_map, List.filter_filter]
    show ((fl.filter _).map fun p => p.2) = _
    congr 1
    refine List.filter_congr fun p _ => ?_
    have hv : names.getD i 0 = names[i] := by rw [List.getD_eq_getElem?_getD, List.getElem?_eq_getElem hi]; rfl
    show (decide (names.idxOf p.1 = i) && decide (p.1 ∈ names)) = decide (p.1 = names.getD i 0)
    rw [← Bool.decide_and, hv]
    refine decide_eq_decide.mpr ⟨fun ⟨h1, h2⟩ => ?_, fun h => ?_⟩
    · have := getD_idx h2
      rw [h1, hv] at this
      exact this.symm
    · rw [h]
      exact ⟨nd.idxOf_getElem i hi, List.getElem_mem hi⟩
  unfold allowedL
  rw [e]
theorem prodL_congr {f g : Nat → List Nat} : ∀ {n : Nat}, (∀ i, i < n → f i = g i) → prodL f n = prodL g n
  | 0, _ => rfl
  | n + 1, h => by
    show (prodL f n).flatMap (fun t => (f n).map fun x => t ++ [x]) = (prodL g n).flatMap fun t => (g n).map fun x => t ++ [x]
    rw [prodL_congr fun i hi => h i (by omega), h n (by omega)]
def lawW (size : Nat) (tabs : List (List Nat)) (t : List Nat) (ats : List (Nat × List Nat)) : Nat := wts size tabs (fun v => t.getD v 0) ats
def asgL (size : Nat) (tabs : List (List Nat)) (late kept : List (Nat × List Nat)) (many : Nat) : List (List Nat × Nat) := ((prodL (allowedL size kept) many).map fun t => (t, lawW size tabs t late)).filter fun p => decide (0 < p.2)
theorem asg_sum (size : Nat) (tabs : List (List Nat)) (late kept : List (Nat × List Nat)) (many : Nat) : ((asgL size tabs late kept many).map (·.2)).sum = sm (fun t => lawW size tabs t late) (prodL (allowedL size kept) many) := by
  unfold asgL
  show sm (fun p : List Nat × Nat => p.2) (List.filter _ _) = _
  rw [sm_filter, sm_map]
  refine sm_congr fun t _ => ?_
  by_cases h : 0 < lawW size tabs t late
  · rw [if_pos (decide_eq_true h)]
  · rw [if_neg (fun z => h (of_decide_eq_true z))]
    omega
theorem law_left {size : Nat} {fl : List (Nat × List Nat)} {tabs : List (List Nat)} {ats : List (Nat × List Nat)} (h5 : ∀ p ∈ ats, ∀ u ∈ p.2, u ≤ 5) (hal : ∀ v, (allowedL size fl v).Nodup) (htab : ∀ p ∈ ats, ((tabs[p.1]?).getD []).length = size ^ p.2.length) :
    ((asgL size tabs (relab (varsOf ats) ats) (keptL (varsOf ats) fl) (varsOf ats).length).map (·.2)).sum = totL (allowedL size fl) size tabs ats := by
  rw [asg_sum, tot_eq h5 (fun v _ => hal v) htab]
  unfold enumL
  rw [prodL_congr fun i hi => kept_allowed (varsOf_nodup ats) fl hi]
  refine sm_congr fun t _ => ?_
  unfold lawW wts relab
  rw [List.map_map]
  congr 1
  refine List.map_congr_left fun p _ => ?_
  show ((tabs[p.1]?).getD []).getD ((cells size (p.2.map _).length).idxOf ((p.2.map _).map _)) 0 = ((tabs[p.1]?).getD []).getD ((cells size p.2.length).idxOf (p.2.map _)) 0
  rw [List.map_map, List.length_map]
  rfl
theorem allowedL_nd {size : Nat} {fl : List (Nat × List Nat)} (h : ∀ p ∈ fl, p.2.Pairwise (· < ·)) (v : Nat) : (allowedL size fl v).Nodup := by
  unfold allowedL
  split
  · exact List.nodup_range
  · rename_i l r e
    have hm : l ∈ (fl.filter fun p => decide (p.1 = v)).map (·.2) := by rw [e]; exact List.mem_cons_self
    obtain ⟨p, hp, rfl⟩ := List.mem_map.mp hm
    exact (h p (List.mem_filter.mp hp).1).imp fun z => Nat.ne_of_lt z
end K16
set_option Elab.async false
set_option linter.all false
set_option maxRecDepth 100000
set_option maxHeartbeats 4000000
namespace K16
open PySem PySem.Spec PyProof.Rows L2
/-! ### the draws -/
/-- all but draws stand as before, and nothing is lost -/
def SE (H H' : Hp) : Prop := SD H H' ∧ ∀ b, H' b = none → H b = none
theorem SE.refl (H : Hp) : SE H H := ⟨SD.refl H, fun _ h => h⟩
theorem SE.trans {H H1 H2 : Hp} (a : SE H H1) (b : SE H1 H2) : SE H H2 := ⟨a.1.trans b.1, fun c h => a.2 c (b.2 c h)⟩
theorem _root_.L2.Same.se {H H' : Hp} (e : Same H H') : SE H H' := ⟨e.sd, fun _ h => e.free h⟩
theorem SE.ts {H H' : Hp} (e : SE H H') : TS H H' := e.1.ts
theorem SE.mt {H H' : Hp} {p : Addr} {o : HO} (e : SE H H') (h : H p = none) : SE H (upd H' p o) :=
  ⟨fun b x d hb => by
    rw [upd_ne (ne_of_none hb h)]
    exact e.1 b x d hb, fun b hb => by
    by_cases z : b = p
    · rw [z]; exact h
    · rw [upd_ne z] at hb
      exact e.2 b hb⟩
theorem SqL.sdI {K : PySem.W.Frag} {H H' : Hp} {a : Addr} {ns : List Int} (e : SD H H') (h : SqL K H a (ns.map V.int)) : SqL K H' a (ns.map V.int) := by
  rcases h with (h | ⟨o, h⟩) | h
  · refine .inl (.inl (e _ _ ?_ h))
    cases ns with
    | nil => rfl
    | cons x r => rfl
  · exact .inl (.inr ⟨o, e _ _ rfl h⟩)
  · exact .inr h
/-- the draw at d: the script s, how many were taken -/
def Dr (K : PySem.W.Frag) (d s : Addr) (ns : List Int) (H : Hp) : Prop := ∃ c : Nat, H d = some (.lst [.ref s, vN c]) ∧ SqL K H s (ns.map V.int)
/-- from H0 to H, with draws -/
structure DW (K : PySem.W.Frag) (d s : Addr) (ns : List Int) (H0 H : Hp) : Prop where
  se : SE H0 H
  fr : Dr K d s ns H0
  dr : Dr K d s ns H
section
variable {K : PySem.W.Frag} {d s : Addr} {ns : List Int} {H0 H H1 : Hp} {p : Addr} {o : HO}
theorem Dr.same (h : Dr K d s ns H) (e : Same H H1) : Dr K d s ns H1 := let ⟨c, h1, h2⟩ := h; ⟨c, e _ _ h1, e.seq h2⟩
theorem DW.refl (h : Dr K d s ns H) : DW K d s ns H H := ⟨SE.refl H, h, h⟩
theorem DW.trans (a : DW K d s ns H0 H) (b : DW K d s ns H H1) : DW K d s ns H0 H1 := ⟨a.se.trans b.se, a.fr, b.dr⟩
theorem DW.same (a : DW K d s ns H0 H) (e : Same H H1) : DW K d s ns H0 H1 := ⟨a.se.trans e.se, a.fr, a.dr.same e⟩
theorem DW.of (h : Dr K d s ns H) (e : Same H H1) : DW K d s ns H H1 := ⟨e.se, h, h.same e⟩
theorem DW.free (a : DW K d s ns H0 H) (h : H p = none) : H0 p = none := a.se.2 _ h
theorem DW.ts (a : DW K d s ns H0 H) : TS H0 H := a.se.ts
theorem DW.sd (a : DW K d s ns H0 H) : SD H0 H := a.se.1
theorem DW.mt (a : DW K d s ns H0 H) (h : H0 p = none) : DW K d s ns H0 (upd H p o) := by
  refine ⟨a.se.mt h, a.fr, ?_⟩
  obtain ⟨c0, g1, g2⟩ := a.fr
  obtain ⟨c, h1, h2⟩ := a.dr
  refine ⟨c, by rw [upd_ne (ne_of_none g1 h)]; exact h1, ?_⟩
  rcases g2 with (g | ⟨q, g⟩) | g
  · rcases h2 with (h2 | ⟨q, h2⟩) | h2
    · exact .inl (.inl (by rw [upd_ne (ne_of_none g h)]; exact h2))
    · exact .inl (.inr ⟨q, by rw [upd_ne (ne_of_none g h)]; exact h2⟩)
    · exact .inr h2
  · rcases h2 with (h2 | ⟨q, h2⟩) | h2
    · exact .inl (.inl (by rw [upd_ne (ne_of_none g h)]; exact h2))
    · exact .inl (.inr ⟨q, by rw [upd_ne (ne_of_none g h)]; exact h2⟩)
    · exact .inr h2
  · exact .inr g
theorem DW.nw (a : DW K d s ns H0 H) (h : H p = none) : DW K d s ns H0 (upd H p o) := a.mt (a.free h)
end
theorem dpI {K : PySem.W.Frag} {H : Hp} : ∀ l : List Int, DpAll K H (l.map V.int) (l.map PyData.int)
  | [] => .nil
  | a :: l => .cons (.int _) (dpI l)
theorem shp_LI (l : List Int) : SeqAt.shaped (.list (l.map PyData.int)) = true := shp (lay_map (fun _ => by simp [PyData.canLay0]) l) (Nat.le_trans (Nat.succ_le_succ (dep_map (f := PyData.int) (n := 0) (fun _ => Nat.le_refl _) l)) (by decide))
theorem fmod_b (a : Int) {m : Int} (h : 0 < m) : 0 ≤ a.fmod m ∧ a.fmod m < m := by
  rw [Int.fmod_eq_emod_of_nonneg _ (by omega)]
  exact ⟨Int.emod_nonneg _ (by omega), Int.emod_lt_of_pos _ h⟩
theorem fmod_w (a : Int) : -(2 ^ 64) < a.fmod 2147483647 ∧ a.fmod 2147483647 < 2 ^ 64 := by
  have := fmod_b a (show (0 : Int) < 2147483647 by decide)
  omega
section
variable {P : Program} {w : World} {K : PySem.W.Frag} {mg : Str → Option Value} {base : Heap} {CS CD CQ : Addr}
def spNumber (K : PySem.W.Frag) : Sp := fun vs H Q _ => ∃ (s : Addr) (ns : List Int) (i : Nat), vs = [.ref s, vN i] ∧ SqL K H s (ns.map V.int) ∧ ∀ H' (z : Int), Same H H' → Q (.int z) H'
theorem sc__law_number : FnScope ["_law_script", "_law_index", "_law_cells_here", "_law_cell", "_law_low", "_law_high", "_law_total_here", "_law_blend"] ["_law_script", "_law_index"] (defScope s__law_number) := ⟨rfl, rfl, rfl, by decide +kernel, rfl, by decide +kernel, by decide +kernel⟩
theorem ok_number (T : Tx K mg) (h : Has K mg "_law_number" s__law_number) : Cal P w K mg base 1 "_law_number" (spNumber K) := by
  refine cal_of h sc__law_number (fun _ _ _ _ _ _ us hl => match us, hl with | [_, _], _ => rfl) (fun vs H Q E h => ?_) (fun f cdv A outer s H vs Q E hr h => ?_)
  · obtain ⟨_, _, _, rfl, _⟩ := h
    rfl
  · obtain ⟨sa, ns, i, rfl, hs, k⟩ := h
    refine ⟨_, (pss_cons (ps_set (i := 2) sc__law_number.nd rfl (Or.inl rfl) (pe_ifExp (pt_cmpR (kneD K hr.units) (pv 0) (pe_lst pa_nil) (nomark _)) (pe_slice (kslL K) (pv 0) po_none (po_some pe_int)) (pe_lst (pa_cons pe_int pa_nil))))
      (pss_cons (ps_set (i := 3) sc__law_number.nd rfl (Or.inl rfl) (pe_op op_add (pe_ix (kixL K) (pv 2) (pe_op op_modN (pe_callTy call_int1 (by rfl) T.bInt (by decide +kernel) (pa_cons (pv 1) pa_nil)) (pe_callB (klen K) (by rfl) T.bLen (by decide +kernel) (pa_cons (pv 2) pa_nil))) (fun _ _ => rfl)) (pe_op op_mul pe_int (pe_op op_fdivN (pv 1) (pe_callB (klen K) (by rfl) T.bLen (by decide +kernel) (pa_cons (pv 2) pa_nil))))))
      (pss_cons (ps_par (i := 4) (j := 5) (by rfl) sc__law_number.nd rfl rfl (by decide) rfl rfl (pa_cons (pe_op op_modN (pe_callTy call_int1 (by rfl) T.bInt (by decide +kernel) (pa_cons (pv 3) pa_nil)) pe_int) (pa_cons (pe_op op_modN (pe_callTy call_int1 (by rfl) T.bInt (by decide +kernel) (pa_cons (pe_op op_fdivN (pv 3) pe_int) pa_nil)) pe_int) pa_nil)) (by rfl))
      (pss_cons (ps_set (i := 6) sc__law_number.nd rfl (Or.inl rfl) (pe_op op_modN (pe_callTy call_int1 (by rfl) T.bInt (by decide +kernel) (pa_cons (pe_callB (ksum K rfl) (by rfl) T.bSum (by decide +kernel) (pa_cons (pv 2) pa_nil)) pa_nil)) pe_int))
      (pss_cons (ps_set (i := 7) sc__law_number.nd rfl (Or.inl rfl) (pe_op op_modN (pe_callTy call_int1 (by rfl) T.bInt (by decide +kernel) (pa_cons (pe_op op_add (pe_op op_add (pe_op op_mul (pe_op op_add (pv 4) (pe_op op_mul pe_int (pv 1))) pe_int) (pe_op op_mul pe_int (pv 5))) (pv 6)) pa_nil)) pe_int))
      (pss_one (ps_ret (pe_op op_add (pe_op op_mul (pe_op op_modN (pe_callTy call_int1 (by rfl) T.bInt (by decide +kernel) (pa_cons (pe_op op_mul (pv 7) (pe_op op_add (pe_op op_add (pv 7) (pe_op op_mul pe_int (pv 1))) pe_int)) pa_nil)) pe_int) pe_int) (pv 5))))))))), ?_⟩
    refine ⟨_, rfl, by show 0 ≤ sizeLine; decide, fun l nl => ?_⟩
    have s1 : Same H (upd H l (.lst [])) := Same.nw nl
    have hl0 : (upd H l (.lst [])) l = some (.lst []) := upd_same
    generalize upd H l (.lst []) = H1 at s1 hl0
    refine ⟨_, _, .lst (s1.seq hs) (dpI ns), .lst (SqL.of hl0) .nil, shp_LI _, shp_LI [], _, rfl, ?_⟩
    have hs1 := s1.seq hs
    cases ns
    case' nil =>
      refine itF rfl ⟨by show 1 ≤ sizeLine; decide, fun p np => ?_⟩
      have hp : (upd H1 p (.lst [.int 5])) p = some (.lst (([5] : List Int).map V.int)) := upd_same
      have s2 := s1.trans (Same.nw (o := .lst [.int 5]) np)
      generalize upd H1 p (.lst [.int 5]) = H2 at hp s2 ⊢
      have hc1 : 1 ≤ ([5] : List Int).length := by decide
      have hc63 : ([5] : List Int).length ≤ 63 := by decide
      generalize ([5] : List Int) = cs at hp hc1 hc63
    case' cons x r =>
      refine itT rfl ⟨_, rfl, 63, rfl, sa, _, rfl, hs1, fun p np => ?_⟩
      have ec : cutV ((x :: r).map V.int) none (some 63) = ((x :: r).take 63).map V.int := by
        rw [show (63 : Int) = ((63 : Nat) : Int) from rfl, cut_take, List.map_take]
      rw [ec]
      have hp : (upd H1 p (.lst (((x :: r).take 63).map V.int))) p = some (.lst (((x :: r).take 63).map V.int)) := upd_same
      have s2 := s1.trans (Same.nw (o := .lst (((x :: r).take 63).map V.int)) np)
      generalize upd H1 p (.lst (((x :: r).take 63).map V.int)) = H2 at hp s2 ⊢
      have hc1 : 1 ≤ ((x :: r).take 63).length := by rw [List.length_take, List.length_cons]; omega
      have hc63 : ((x :: r).take 63).length ≤ 63 := by rw [List.length_take]; omega
      generalize (x :: r).take 63 = cs at hp hc1 hc63
    all_goals
      have hlen : (cs.map V.int).length = cs.length := List.length_map ..
      have hfm : (i : Int).fmod (((cs.map V.int).length : Nat) : Int) = ((i % cs.length : Nat) : Int) := by
        rw [hlen, Int.fmod_eq_emod_of_nonneg _ (by omega), Int.natCast_emod]
      have hlt : i % cs.length < cs.length := Nat.mod_lt _ (by omega)
      refine ⟨_, rfl, _, rfl, .inl ⟨_, rfl, _, rfl, p, _, rfl, .inl (SqL.of hp), _, _, rfl, rfl, by omega, p, _, _, .int cs[i % cs.length], rfl, rfl, SqL.of hp, by rw [hfm]; exact atI_nat (by rw [List.getElem?_map, List.getElem?_eq_getElem hlt]; rfl), ?_⟩⟩
      refine ⟨_, rfl, _, rfl, p, _, rfl, .inl (SqL.of hp), _, _, rfl, rfl, ⟨by omega, by omega⟩, _, _, rfl, rfl, .inl ⟨by decide, by decide⟩, _, _, rfl, rfl, ?_⟩
      refine ⟨_, rfl, .inl ⟨_, rfl, _, _, rfl, rfl, (by show (_ : Int) ≠ 0; decide), _, rfl, _, _, rfl, rfl, ⟨by decide, by decide⟩, .inl ⟨_, rfl, _, _, rfl, rfl, (by show (_ : Int) ≠ 0; decide), _, _, rfl, ?_⟩⟩⟩
      refine ⟨_, rfl, p, cs, rfl, SqL.of hp, .inl ⟨_, rfl, _, _, rfl, rfl, (by show (_ : Int) ≠ 0; decide), ?_⟩⟩
      refine ⟨_, rfl, _, rfl, _, _, rfl, rfl, .inl ⟨by decide, by decide⟩, _, _, rfl, rfl, _, _, rfl, rfl, .inr ⟨by decide, by decide⟩, _, rfl, _, _, rfl, rfl, .inl ⟨by decide, by decide⟩, _, _, rfl, rfl, _, rfl, _, _, rfl, rfl, .inl ⟨_, rfl, _, _, rfl, rfl, (by show (_ : Int) ≠ 0; decide), ?_⟩⟩
      refine ⟨_, rfl, _, rfl, _, rfl, _, _, rfl, rfl, .inl ⟨by decide, by decide⟩, _, _, rfl, rfl, _, _, rfl, rfl, _, _, rfl, rfl, .inl ?_, .inl ⟨_, rfl, _, _, rfl, rfl, (by show (_ : Int) ≠ 0; decide), _, _, rfl, rfl, .inr ⟨by decide, by decide⟩, _, rfl, _, _, rfl, rfl, k _ _ s2⟩⟩
      exact fmod_w _
/-! ### take -/
def spTake (K : PySem.W.Frag) : Sp := fun vs H Q _ => ∃ (d s : Addr) (ns : List Int) (n : Nat), vs = [.ref d, vN n] ∧ 1 ≤ n ∧ Dr K d s ns H ∧ ∀ H' x, DW K d s ns H H' → x < n → Q (vN x) H'
theorem sc__law_take : FnScope ["_law_draw", "_law_many"] ["_law_draw", "_law_many"] (defScope s__law_take) := ⟨rfl, rfl, rfl, by decide +kernel, rfl, by decide +kernel, by decide +kernel⟩
theorem ok_take (T : Tx K mg) (h : Has K mg "_law_take" s__law_take) (c__law_number : Cal P w K mg base 1 "_law_number" (spNumber K)) : Cal P w K mg base 2 "_law_take" (spTake K) := by
  refine cal_of h sc__law_take (fun _ _ _ _ _ _ us hl => match us, hl with | [_, _], _ => rfl) (fun vs H Q E h => ?_) (fun f cdv A outer s H vs Q E hr h => ?_)
  · obtain ⟨_, _, _, _, rfl, _⟩ := h
    rfl
  · obtain ⟨d, sa, ns, n, rfl, h1, ⟨c, hd, hs⟩, k⟩ := h
    refine ⟨_, (pss_cons (ps_asg (pe_op op_add (pe_ix (kixL K) (pv 0) pe_int (fun _ _ => rfl)) pe_int) (pg_sub (pv 0) pe_int set_list))
      (pss_one (ps_ret (pe_op op_modN (pe_callTy call_int1 (by rfl) T.bInt (by decide +kernel) (pa_cons (pc c__law_number hr (by decide) (by rfl) (pa_cons (pe_ix (kixL K) (pv 0) pe_int (fun _ _ => rfl)) (pa_cons (pe_callTy call_int1 (by rfl) T.bInt (by decide +kernel) (pa_cons (pe_ix (kixL K) (pv 0) pe_int (fun _ _ => rfl)) pa_nil)) pa_nil))) pa_nil)) (pv 1))))), ?_⟩
    refine ⟨_, rfl, d, _, 1, vN c, rfl, rfl, SqL.of hd, atI_nat (j := 1) rfl, _, _, rfl, rfl, ?_⟩
    refine ⟨_, rfl, d, _, 1, 1, rfl, rfl, hd, rfl, ?_⟩
    have e1 : ([V.ref sa, vN c] : List V).set 1 (V.int ((c : Int) + 1)) = [.ref sa, vN (c + 1)] := by
      show [V.ref sa, V.int _] = [V.ref sa, V.int ((c + 1 : Nat) : Int)]
      rw [Int.natCast_add]
      rfl
    rw [e1]
    have se : SE H (upd H d (.lst [.ref sa, vN (c + 1)])) := by
      refine ⟨fun b o hb e => ?_, fun b e => ?_⟩
      · refine (upd_ne fun z => ?_).trans e
        rw [z, hd] at e
        cases e
        cases hb
      · by_cases z : b = d
        · rw [z, upd_same] at e
          cases e
        · rw [upd_ne z] at e
          exact e
    have hd1 : (upd H d (.lst [.ref sa, vN (c + 1)])) d = some (.lst [.ref sa, vN (c + 1)]) := upd_same
    generalize upd H d (.lst [.ref sa, vN (c + 1)]) = H1 at se hd1
    have hs1 := SqL.sdI se.1 hs
    refine ⟨_, rfl, d, _, 0, .ref sa, rfl, rfl, SqL.of hd1, atI_nat (j := 0) rfl, _, rfl, d, _, 1, vN (c + 1), rfl, rfl, SqL.of hd1, atI_nat (j := 1) rfl, .inl ⟨_, rfl, ?_⟩⟩
    refine ⟨sa, ns, c + 1, rfl, hs1, fun H2 z s2 => .inl ⟨_, rfl, _, rfl, _, _, rfl, rfl, by omega, ?_⟩⟩
    have hb := fmod_b z (show (0 : Int) < (n : Int) by omega)
    show Q (.int (z.fmod (n : Int))) H2
    generalize z.fmod (n : Int) = B at hb
    have hB : B = ((B.toNat : Nat) : Int) := by omega
    rw [hB]
    exact k H2 B.toNat ⟨se.trans s2.se, ⟨c, hd, hs⟩, ⟨c + 1, s2 _ _ hd1, s2.seq hs1⟩⟩ (by omega)
def spPick (K : PySem.W.Frag) : Sp := fun vs H Q _ => ∃ (d s l : Addr) (ns : List Int) (xs : List V), vs = [.ref d, .ref l] ∧ xs ≠ [] ∧ Dr K d s ns H ∧ H l = some (.lst xs) ∧ isDraw (.lst xs) = false ∧ ∀ H' x, DW K d s ns H H' → x ∈ xs → Q x H'
theorem sc__law_pick : FnScope ["_law_draw", "_law_things"] ["_law_draw", "_law_things"] (defScope s__law_pick) := ⟨rfl, rfl, rfl, by decide +kernel, rfl, by decide +kernel, by decide +kernel⟩
theorem ok_pick (T : Tx K mg) (h : Has K mg "_law_pick" s__law_pick) (c__law_take : Cal P w K mg base 2 "_law_take" (spTake K)) : Cal P w K mg base 3 "_law_pick" (spPick K) := by
  refine cal_of h sc__law_pick (fun _ _ _ _ _ _ us hl => match us, hl with | [_, _], _ => rfl) (fun vs H Q E h => ?_) (fun f cdv A outer s H vs Q E hr h => ?_)
  · obtain ⟨_, _, _, _, _, rfl, _⟩ := h
    rfl
  · obtain ⟨d, sa, l, ns, xs, rfl, h1, hd, hl, hnd, k⟩ := h
    have hx : 0 < xs.length := List.length_pos_iff.mpr h1
    refine ⟨_, (pss_one (ps_ret (pe_ix (kixL K) (pv 1) (pc c__law_take hr (by decide) (by rfl) (pa_cons (pv 0) (pa_cons (pe_callB (klen K) (by rfl) T.bLen (by decide +kernel) (pa_cons (pv 1) pa_nil)) pa_nil))) (fun _ _ => rfl)))), ?_⟩
    refine ⟨_, rfl, _, rfl, _, rfl, l, _, rfl, .inl (SqL.of hl), d, sa, ns, xs.length, rfl, hx, hd, fun H1 x se hxl => ?_⟩
    refine ⟨l, xs, _, xs[x], rfl, rfl, SqL.of (se.sd _ _ hnd hl), atI_nat (List.getElem?_eq_getElem hxl), k H1 _ se (List.getElem_mem hxl)⟩
end
end K16
set_option Elab.async false
set_option linter.all false
set_option maxRecDepth 100000
set_option maxHeartbeats 4000000
namespace K16
open PySem PySem.Spec PyProof.Rows L2
theorem papp {α β : Type} {R : α → β → Prop} : ∀ {l l2 : List α} {m m2 : List β}, Paired R l m → Paired R l2 m2 → Paired R (l ++ l2) (m ++ m2)
  | _, _, _, _, .nil, h => h
  | _, _, _, _, .cons r t, h => .cons r (papp t h)
theorem seqIx {n x : Nat} (h : x < n) : seqIndex? (x : Int) n = some x := by
  refine (ixN_seq (n := n) (i := (x : Int)) (j := x) ?_).1
  unfold ixN
  rw [if_pos (by omega), if_pos (by omega), Int.toNat_natCast]
theorem erase_map {α β : Type} (f : α → β) : ∀ (l : List α) (k : Nat), (l.map f).eraseIdx k = (l.eraseIdx k).map f
  | [], _ => rfl
  | _ :: _, 0 => rfl
  | a :: l, k + 1 => congrArg (f a :: ·) (erase_map f l k)
theorem erase_perm {α : Type} : ∀ (l : List α) (k : Nat) (h : k < l.length), (l.eraseIdx k ++ [l[k]]).Perm l
  | a :: l, 0, _ => List.perm_append_singleton a l
  | a :: l, k + 1, h => (erase_perm l k (Nat.lt_of_succ_lt_succ h)).cons a
theorem cells1 (size : Nat) : cells size 1 = (List.range size).map fun v => [v] := by
  show ([[]] : List (List Nat)).flatMap _ = _
  simp
theorem cells2 (size : Nat) : cells size 2 = (List.range size).flatMap fun v => (List.range size).map fun u => [v, u] := by
  show (cells size 1).flatMap _ = _
  rw [cells1, List.flatMap_map]
  rfl
section
variable {P : Program} {w : World} {K : PySem.W.Frag} {mg : Str → Option Value} {base : Heap} {CS CD CQ : Addr}
/-! ### an order -/
def spOrder (K : PySem.W.Frag) : Sp := fun vs H Q _ => ∃ (d s : Addr) (ns : List Int) (n : Nat), vs = [.ref d, vN n] ∧ n ≤ 100 ∧ Dr K d s ns H ∧ ∀ H' p os, DW K d s ns H H' → H p = none → LN H' p os → os.Nodup → (∀ i ∈ os, i < n) → os.length = n → Q (.ref p) H'
theorem sc__law_order : FnScope ["_law_draw", "_law_many", "_law_left", "_law_order_here", "_law_turn"] ["_law_draw", "_law_many"] (defScope s__law_order) := ⟨rfl, rfl, rfl, by decide +kernel, rfl, by decide +kernel, by decide +kernel⟩
theorem ok_order (T : Tx K mg) (h : Has K mg "_law_order" s__law_order) (c__law_take : Cal P w K mg base 2 "_law_take" (spTake K)) : Cal P w K mg base 3 "_law_order" (spOrder K) := by
  refine cal_of h sc__law_order (fun _ _ _ _ _ _ us hl => match us, hl with | [_, _], _ => rfl) (fun vs H Q E h => ?_) (fun f cdv A outer s H vs Q E hr h => ?_)
  · obtain ⟨_, _, _, _, rfl, _⟩ := h
    rfl
  · obtain ⟨d, sa, ns, n, rfl, hn, hd, k⟩ := h
    refine ⟨_, (pss_cons (ps_par (i := 2) (j := 3) (by rfl) sc__law_order.nd rfl rfl (by decide) rfl rfl (pa_cons (pe_listRg rfl (by rfl) T.bList (prg_1 (by rfl) T.bRange (pv 1))) (pa_cons (pe_lst pa_nil) pa_nil)) (by rfl))
      (pss_cons (ps_for PassesOwn.never rfl (pi_range1 (by rfl) T.bRange (pa_cons (pv 1) pa_nil)) (pg_name (i := 4) sc__law_order.nd rfl (Or.inl rfl)) (pss_one (ps_expr (kapp K (pv 3) (pa_cons (kpop K (pv 2) (pa_cons (pc c__law_take hr (by decide) (by rfl) (pa_cons (pv 0) (pa_cons (pe_callB (klen K) (by rfl) T.bLen (by decide +kernel) (pa_cons (pv 2) pa_nil)) pa_nil))) pa_nil)) pa_nil)))))
      (pss_one (ps_ret (pv 3))))), ?_⟩
    refine ⟨_, rfl, (n : Int), rfl, .of_le (by omega) (by omega) (by omega) (by omega), fun l nl => ⟨by show 0 ≤ sizeLine; decide, fun o no => ⟨_, _, rfl, ?_⟩⟩⟩
    have nol : o ≠ l := fun z => by rw [z, upd_same] at no; cases no
    have no0 : H o = none := (Same.nw nl).free no
    have w1 : DW K d sa ns H (upd (upd H l (.lst (rgV 0 (n : Nat)))) o (.lst [])) := ((DW.refl hd).mt nl).mt no0
    have hl1 : LN (upd (upd H l (.lst (rgV 0 (n : Nat)))) o (.lst [])) l (List.range n) := by
      show _ = _
      rw [upd_ne nol.symm, upd_same, rg_vN]
    have ho1 : LN (upd (upd H l (.lst (rgV 0 (n : Nat)))) o (.lst [])) o [] := upd_same
    generalize upd (upd H l (.lst (rgV 0 (n : Nat)))) o (.lst []) = H1 at w1 hl1 ho1
    refine ⟨_, rfl, (n : Int), rfl, by omega, by omega, for_it walk_range (fun i σ H2 => ∃ (c4 : Option V) (ls os : List Nat), σ = [some (.ref d), some (vN n), some (.ref l), some (.ref o), c4] ∧ DW K d sa ns H H2 ∧ LN H2 l ls ∧ LN H2 o os ∧ (ls ++ os).Nodup ∧ (∀ j ∈ ls ++ os, j < n) ∧ ls.length + i = n ∧ os.length = i) ⟨none, List.range n, [], rfl, w1, hl1, ho1, by rw [List.append_nil]; exact List.nodup_range, fun j hj => by rw [List.append_nil] at hj; exact List.mem_range.mp hj, by rw [List.length_range]; rfl, rfl⟩ (fun _ _ _ _ _ => trivial) ?_ ?_⟩
    · rintro i x σ H2 H2' hi ⟨c4, ls, os, rfl, w2, hl, ho, nd, hb, l1, l2⟩ ⟨rfl, rfl⟩
      have hi2 : i < n := by simpa using hi
      refine ⟨_, rfl, .inl ⟨rfl, _, SqL.of ho⟩, _, rfl, .inl ⟨rfl, _, SqL.of hl⟩, _, rfl, _, rfl, l, _, rfl, .inl (SqL.of hl), d, sa, ns, (ls.map vN).length, rfl, by rw [List.length_map]; omega, w2.dr, fun H3 x w3 hx => ?_⟩
      rw [List.length_map] at hx
      have hl3 : LN H3 l ls := w3.sd _ _ (isDraw_nats _) hl
      have ho3 : LN H3 o os := w3.sd _ _ (isDraw_nats _) ho
      have hln : ls.length ≤ 100 := by omega
      refine ⟨l, _, (x : Int), x, vN ls[x], rfl, rfl, hl3, by omega, by omega, seqIx (by rw [List.length_map]; exact hx), by rw [List.getElem?_map, List.getElem?_eq_getElem hx]; rfl, ?_⟩
      rw [erase_map]
      have w4 := (w2.trans w3).mt (o := .lst ((ls.eraseIdx x).map vN)) nl
      have ho4 : (upd H3 l (.lst ((ls.eraseIdx x).map vN))) o = some (.lst (os.map vN)) := by rw [upd_ne nol]; exact ho3
      have hl4 : (upd H3 l (.lst ((ls.eraseIdx x).map vN))) l = some (.lst ((ls.eraseIdx x).map vN)) := upd_same
      generalize upd H3 l (.lst ((ls.eraseIdx x).map vN)) = H4 at w4 ho4 hl4
      have hpm : (ls.eraseIdx x ++ (os ++ [ls[x]])).Perm (ls ++ os) := by
        have e1 : (ls.eraseIdx x ++ (os ++ [ls[x]])).Perm (ls.eraseIdx x ++ ([ls[x]] ++ os)) := List.perm_append_comm.append_left _
        rw [← List.append_assoc] at e1
        exact (List.append_assoc .. ▸ e1).trans ((List.append_assoc .. ▸ ((erase_perm ls x hx).append_right os)))
      refine ⟨o, _, _, rfl, rfl, ho4, szs (by rw [List.length_map]; omega), ?_⟩
      refine ⟨_, ls.eraseIdx x, os ++ [ls[x]], rfl, w4.mt no0, ?_, ?_, (hpm.nodup_iff).mpr nd, fun j hj => hb j (hpm.mem_iff.mp hj), by rw [List.length_eraseIdx_of_lt hx]; omega, by rw [List.length_append, l2]; rfl⟩
      · show _ = _
        rw [upd_ne nol.symm]
        exact hl4
      · show _ = _
        rw [upd_same, List.map_append]
        rfl
    · rintro σ H2 ⟨c4, ls, os, rfl, w2, hl, ho, nd, hb, l1, l2⟩
      have en : ((n : Int)).toNat = n := Int.toNat_natCast _
      rw [en] at l1 l2
      have : ls = [] := List.length_eq_zero_iff.mp (by omega)
      subst this
      exact ⟨_, rfl, k H2 o os w2 no0 ho nd hb l2⟩
/-! ### a schema's numbers -/
def spSchema (K : PySem.W.Frag) : Sp := fun vs H Q _ => ∃ (d s : Addr) (ns : List Int), vs = [.ref d, .int 3] ∧ Dr K d s ns H ∧ ∀ H' p q (size : Nat) (widths : List Nat), DW K d s ns H H' → H p = none → H' p = some (.tup [vN size, .ref q]) → TN H' q widths → 2 ≤ size → size ≤ 3 → 1 ≤ widths.length → widths.length ≤ 3 → (∀ u ∈ widths, 1 ≤ u ∧ u ≤ 2) → Q (.ref p) H'
theorem sc__law_schema : FnScope ["_law_draw", "_law_most", "_law_size", "_law_table"] ["_law_draw", "_law_most"] (defScope s__law_schema) := ⟨rfl, rfl, rfl, by decide +kernel, rfl, by decide +kernel, by decide +kernel⟩
theorem ok_schema (T : Tx K mg) (h : Has K mg "_law_schema" s__law_schema) (c__law_take : Cal P w K mg base 2 "_law_take" (spTake K)) : Cal P w K mg base 3 "_law_schema" (spSchema K) := by
  refine cal_of h sc__law_schema (fun _ _ _ _ _ _ us hl => match us, hl with | [_, _], _ => rfl) (fun vs H Q E h => ?_) (fun f cdv A outer s H vs Q E hr h => ?_)
  · obtain ⟨_, _, _, rfl, _⟩ := h
    rfl
  · obtain ⟨d, sa, ns, rfl, hd, k⟩ := h
    refine ⟨_, (pss_cons (ps_set (i := 2) sc__law_schema.nd rfl (Or.inl rfl) (pe_op op_add pe_int (pc c__law_take hr (by decide) (by rfl) (pa_cons (pv 0) (pa_cons (pe_op op_sub (pv 1) pe_int) pa_nil)))))
      (pss_one (ps_ret (pe_tup (pa_cons (pv 2) (pa_cons (pe_callTy (ktupOf K) (by rfl) T.bTuple (by decide +kernel) (pa_cons (pe_lc (own := [("_law_table", 3)]) (by rfl) sc__law_schema.nd (pi_range1 (by rfl) T.bRange (pa_cons (pe_op op_add pe_int (pc c__law_take hr (by decide) (by rfl) (pa_cons (pv 0) (pa_cons pe_int pa_nil)))) pa_nil)) (blkOk_by (own := [("_law_table", 3)]) (N := ["_law_draw", "_law_most", "_law_size", "_law_table"]) (sc := defScope s__law_schema) (by decide +kernel)) (fun _ _ _ _ _ => (pg_name (i := 3) sc__law_schema.nd rfl (Or.inl rfl))) (fun _ _ _ _ _ => pts_nil) (fun _ _ _ _ _ => (pe_op op_add pe_int (pc c__law_take hr (by decide) (by rfl) (pa_cons (pv 0) (pa_cons pe_int pa_nil)))))) pa_nil)) pa_nil)))))), ?_⟩
    refine ⟨_, rfl, _, rfl, _, _, rfl, rfl, d, sa, ns, 2, rfl, by decide, hd, fun H1 x w1 hx => ⟨_, _, rfl, rfl, ?_⟩⟩
    have e2 : (V.int (2 + (x : Int))) = vN (2 + x) := congrArg V.int (by omega)
    refine ⟨_, rfl, ?_⟩
    refine ⟨_, rfl, d, sa, ns, 3, rfl, by decide, w1.dr, fun H2 y w2 hy => ⟨_, _, rfl, rfl, 1 + (y : Int), rfl, by omega, by omega, fun D hD => ?_⟩⟩
    have w02 := w1.trans w2
    have n0 : H D = none := w02.free hD
    refine it_core walk_range (fun i H3 => ∃ ws : List Nat, H3 D = some (.lst (ws.map vN)) ∧ DW K d sa ns H H3 ∧ ws.length = i ∧ ∀ u ∈ ws, 1 ≤ u ∧ u ≤ 2) ⟨[], upd_same, w02.mt n0, rfl, fun u hu => by cases hu⟩ (fun _ _ _ _ => trivial) ?_ ?_
    · rintro i x3 H3 H4 hi ⟨ws, g1, g2, g3, g4⟩ ⟨rfl, rfl⟩
      refine ⟨rfl, lc_yes ?_⟩
      refine ⟨_, rfl, d, sa, ns, 2, rfl, by decide, g2.dr, fun H5 z w5 hz => ⟨_, _, rfl, rfl, ?_⟩⟩
      have e3 : (V.int (1 + (z : Int))) = vN (1 + z) := congrArg V.int (by omega)
      refine ⟨_, w5.sd _ _ (isDraw_nats _) g1, szs (by rw [List.length_map]; omega), ws ++ [1 + z], ?_, (g2.trans w5).mt n0, by rw [List.length_append, g3]; rfl, fun u hu => ?_⟩
      · rw [upd_same, List.map_append]
        show some (HO.lst (_ ++ [V.int (1 + (z : Int))])) = _
        rw [e3]
        rfl
      · rcases List.mem_append.mp hu with e | e
        · exact g4 u e
        · rw [List.mem_singleton.mp e]
          omega
    · rintro H3 ⟨ws, g1, g2, g3, g4⟩
      have en : (1 + (y : Int)).toNat = 1 + y := by omega
      rw [en] at g3
      refine ⟨D, _, rfl, .inl ⟨SqL.of g1, fun t nt => ⟨by show 2 ≤ sizeLine; decide, fun r nr => ?_⟩⟩⟩
      have w5 := g2.same (Same.nw (o := .tup (ws.map vN)) nt)
      have ht : (upd H3 t (.tup (ws.map vN))) t = some (.tup (ws.map vN)) := upd_same
      generalize upd H3 t (.tup (ws.map vN)) = H5 at w5 ht nr
      show Q (.ref r) (upd H5 r (.tup [V.int (2 + (x : Int)), .ref t]))
      rw [e2]
      exact k _ r t (2 + x) ws (w5.same (Same.nw nr)) (w5.free nr) upd_same ((Same.nw (o := .tup [vN (2 + x), .ref t]) nr) _ _ ht) (by omega) (by omega) (by omega) (by omega) g4
/-! ### cells -/
def spLawCells : Sp := fun vs H Q _ => ∃ (size width : Nat), vs = [vN size, vN width] ∧ size ≤ 6 ∧ 1 ≤ width ∧ width ≤ 2 ∧ ∀ H' p, Same H H' → H p = none → LstOf TN H' p (cells size width) → Q (.ref p) H'
theorem sc__law_cells : FnScope ["_law_size", "_law_width", "_law_value", "_law_found", "_law_late"] ["_law_size", "_law_width"] (defScope s__law_cells) := ⟨rfl, rfl, rfl, by decide +kernel, rfl, by decide +kernel, by decide +kernel⟩
theorem ok_lawCells (T : Tx K mg) (h : Has K mg "_law_cells" s__law_cells) : Cal P w K mg base 1 "_law_cells" spLawCells := by
  refine cal_of h sc__law_cells (fun _ _ _ _ _ _ us hl => match us, hl with | [_, _], _ => rfl) (fun vs H Q E h => ?_) (fun f cdv A outer s H vs Q E hr h => ?_)
  · obtain ⟨_, _, rfl, _⟩ := h
    rfl
  · obtain ⟨size, width, rfl, h6, h1, h2, k⟩ := h
    have en : ((size : Int)).toNat = size := Int.toNat_natCast _
    refine ⟨_, (pss_cons (ps_if (pt_cmpR op_eq (pv 1) pe_int (nomark _)) (pss_one (ps_ret (pe_lc (own := [("_law_value", 2)]) (by rfl) sc__law_cells.nd (pi_range1 (by rfl) T.bRange (pa_cons (pv 0) pa_nil)) (blkOk_by (own := [("_law_value", 2)]) (N := ["_law_size", "_law_width", "_law_value", "_law_found", "_law_late"]) (sc := defScope s__law_cells) (by decide +kernel)) (fun _ _ _ _ _ => (pg_name (i := 2) sc__law_cells.nd rfl (Or.inl rfl))) (fun _ _ _ _ _ => pts_nil) (fun _ _ _ _ _ => (pe_tup (pa_cons (pv 2) pa_nil)))))) pss_nil)
      (pss_cons (ps_set (i := 3) sc__law_cells.nd rfl (Or.inl rfl) (pe_lst pa_nil))
      (pss_cons (ps_for PassesOwn.never rfl (pi_range1 (by rfl) T.bRange (pa_cons (pv 0) pa_nil)) (pg_name (i := 2) sc__law_cells.nd rfl (Or.inr rfl)) (pss_one (ps_set (i := 3) sc__law_cells.nd rfl (Or.inl rfl) (pe_op op_cat (pv 3) (pe_lc (own := [("_law_late", 4)]) (by rfl) sc__law_cells.nd (pi_range1 (by rfl) T.bRange (pa_cons (pv 0) pa_nil)) (blkOk_by (own := [("_law_late", 4)]) (N := ["_law_size", "_law_width", "_law_value", "_law_found", "_law_late"]) (sc := defScope s__law_cells) (by decide +kernel)) (fun _ _ _ _ _ => (pg_name (i := 4) sc__law_cells.nd rfl (Or.inl rfl))) (fun _ _ _ _ _ => pts_nil) (fun _ _ _ _ _ => (pe_tup (pa_cons (pv 2) (pa_cons (pv 4) pa_nil)))))))))
      (pss_one (ps_ret (pv 3)))))), ?_⟩
    refine ⟨_, rfl, rfl, _, rfl, ?_⟩
    by_cases hw : width = 1
    · subst hw
      refine itT (decide_eq_true rfl) ?_
      refine ⟨_, rfl, (size : Int), rfl, by omega, by omega, fun D hD => it_core walk_range (fun i H2 => ∃ ys, H2 D = some (.lst (ys.map V.ref)) ∧ Same H H2 ∧ Paired (TN H2) ys ((List.range i).map fun v => [v])) ⟨[], upd_same, Same.nw hD, .nil⟩ (fun _ _ _ _ => trivial) ?_ ?_⟩
      · rintro i x H2 H3 hi ⟨ys, y1, y2, y3⟩ ⟨rfl, rfl⟩
        have hi2 : i < size := by omega
        have hyl := plen y3
        rw [List.length_map, List.length_range] at hyl
        refine ⟨rfl, lc_yes ?_⟩
        refine ⟨_, rfl, by show 1 ≤ sizeLine; decide, fun t nt => ?_⟩
        obtain ⟨a1, a2, a3, a4, a5⟩ := app_new (o := HO.tup [V.int (0 + (i : Int))]) y1 y2 hD nt
        refine ⟨_, a1, szs (by rw [List.length_map]; omega), ys ++ [t], a2, a3, ?_⟩
        rw [List.range_succ, List.map_append]
        refine psnoc (ptn a4 y3) ?_
        show _ = some (HO.tup ([i].map vN))
        rw [a5, Int.zero_add]
        rfl
      · rintro H2 ⟨ys, y1, y2, y3⟩
        rw [en, ← cells1] at y3
        exact k H2 D y2 hD ⟨ys, y1, y3⟩
    · have hw2 : width = 2 := by omega
      subst hw2
      refine itF (decide_eq_false fun z => by cases z) ?_
      refine ⟨by show 0 ≤ sizeLine; decide, fun l nl => ?_⟩
      refine ⟨_, rfl, (size : Int), rfl, by omega, by omega, for_it walk_range (fun i σ H1 => ∃ (c2 : Option V) (p : Addr) (ys : List Addr), σ = [some (vN size), some (vN 2), c2, some (.ref p), none] ∧ Same H H1 ∧ H p = none ∧ H1 p = some (.lst (ys.map V.ref)) ∧ Paired (TN H1) ys ((List.range i).flatMap fun v => (List.range size).map fun u => [v, u])) ⟨none, l, [], rfl, Same.nw nl, nl, upd_same, .nil⟩ (fun _ _ _ _ _ => trivial) ?_ ?_⟩
      · rintro i x σ H1 H1' hi ⟨c2, p, ys, rfl, s1, np, hp, hys⟩ ⟨rfl, rfl⟩
        have hi2 : i < size := by omega
        have hyl := plen hys
        rw [flatMap_len (n := size) (fun a _ => by rw [List.length_map, List.length_range]), List.length_range] at hyl
        have hyl6 : ys.length ≤ 36 := by
          have : i * size ≤ 6 * 6 := Nat.mul_le_mul (by omega) h6
          omega
        refine ⟨_, rfl, _, rfl, (size : Int), rfl, by omega, by omega, fun D hD => it_core walk_range (fun j H2 => ∃ zs, H2 D = some (.lst (zs.map V.ref)) ∧ Same H1' H2 ∧ Paired (TN H2) zs ((List.range j).map fun u => [i, u])) ⟨[], upd_same, Same.nw hD, .nil⟩ (fun _ _ _ _ => trivial) ?_ ?_⟩
        · rintro j x H2 H3 hj ⟨zs, z1, z2, z3⟩ ⟨rfl, rfl⟩
          have hj2 : j < size := by omega
          have hzl := plen z3
          rw [List.length_map, List.length_range] at hzl
          refine ⟨rfl, lc_yes ?_⟩
          refine ⟨_, rfl, _, rfl, by show 2 ≤ sizeLine; decide, fun t nt => ?_⟩
          obtain ⟨a1, a2, a3, a4, a5⟩ := app_new (o := HO.tup [V.int (0 + (i : Int)), V.int (0 + (j : Int))]) z1 z2 hD nt
          refine ⟨_, a1, szs (by rw [List.length_map]; omega), zs ++ [t], a2, a3, ?_⟩
          rw [List.range_succ, List.map_append]
          refine psnoc (ptn a4 z3) ?_
          show _ = some (HO.tup ([i, j].map vN))
          rw [a5, Int.zero_add, Int.zero_add]
          rfl
        · rintro H2 ⟨zs, z1, z2, z3⟩
          rw [en] at z3
          have hzl := plen z3
          rw [List.length_map, List.length_range] at hzl
          refine ⟨p, D, _, _, rfl, rfl, z2 _ _ hp, z1, szl (by rw [List.length_map, List.length_map]; omega), fun q nq => ?_⟩
          have s3 : Same H2 (upd H2 q (.lst (ys.map V.ref ++ zs.map V.ref))) := Same.nw nq
          refine ⟨_, q, ys ++ zs, rfl, (s1.trans z2).trans s3, (s1.trans z2).free nq, by rw [upd_same, List.map_append], ?_⟩
          rw [List.range_succ, List.flatMap_append]
          have e1 : ([i].flatMap fun v => (List.range size).map fun u => [v, u]) = (List.range size).map fun u => [i, u] := by simp
          rw [e1]
          exact papp (ptn (z2.trans s3).ts hys) (ptn s3.ts z3)
      · rintro σ H1 ⟨c2, p, ys, rfl, s1, np, hp, hys⟩
        rw [en, ← cells2] at hys
        exact ⟨_, rfl, k H1 p s1 np ⟨ys, hp, hys⟩⟩
/-! ### tables -/
def spTables (K : PySem.W.Frag) : Sp := fun vs H Q _ => ∃ (d s q : Addr) (ns : List Int) (size : Nat) (widths : List Nat), vs = [.ref d, vN size, .ref q, .int 9] ∧ Dr K d s ns H ∧ size ≤ 3 ∧ TN H q widths ∧ widths.length ≤ 4 ∧ (∀ u ∈ widths, 1 ≤ u ∧ u ≤ 2) ∧
  ∀ H' p (tabs : List (List Nat)), DW K d s ns H H' → H p = none → LstOf LN H' p tabs → tabs.length = widths.length → (∀ (i wd : Nat) (tab : List Nat), widths[i]? = some wd → tabs[i]? = some tab → tab.length = size ^ wd ∧ ∀ c ∈ tab, c ≤ 9) → Q (.ref p) H'
theorem sc__law_tables : FnScope ["_law_draw", "_law_size", "_law_widths", "_law_most", "_law_found", "_law_width", "_law_cell"] ["_law_draw", "_law_size", "_law_widths", "_law_most"] (defScope s__law_tables) := ⟨rfl, rfl, rfl, by decide +kernel, rfl, by decide +kernel, by decide +kernel⟩
theorem ok_tables (T : Tx K mg) (h : Has K mg "_law_tables" s__law_tables) (c__law_take : Cal P w K mg base 2 "_law_take" (spTake K)) (c__law_cells : Cal P w K mg base 1 "_law_cells" spLawCells) : Cal P w K mg base 3 "_law_tables" (spTables K) := by
  refine cal_of h sc__law_tables (fun _ _ _ _ _ _ us hl => match us, hl with | [_, _, _, _], _ => rfl) (fun vs H Q E h => ?_) (fun f cdv A outer s H vs Q E hr h => ?_)
  · obtain ⟨_, _, _, _, _, _, rfl, _⟩ := h
    rfl
  · obtain ⟨d, sa, q, ns, size, widths, rfl, hd, h3, hq, l4, hw, k⟩ := h
    refine ⟨_, (pss_cons (ps_set (i := 4) sc__law_tables.nd rfl (Or.inl rfl) (pe_lst pa_nil))
      (pss_cons (ps_for PassesOwn.never rfl (kpt K (pv 2)) (pg_name (i := 5) sc__law_tables.nd rfl (Or.inl rfl)) (pss_one (ps_expr (kapp K (pv 4) (pa_cons (pe_lc (own := [("_law_cell", 6)]) (by rfl) sc__law_tables.nd (kpl K (pc c__law_cells hr (by decide) (by rfl) (pa_cons (pv 1) (pa_cons (pv 5) pa_nil)))) (blkOk_by (own := [("_law_cell", 6)]) (N := ["_law_draw", "_law_size", "_law_widths", "_law_most", "_law_found", "_law_width", "_law_cell"]) (sc := defScope s__law_tables) (by decide +kernel)) (fun _ _ _ _ _ => (pg_name (i := 6) sc__law_tables.nd rfl (Or.inl rfl))) (fun _ _ _ _ _ => pts_nil) (fun _ _ _ _ _ => (pe_ifExp (pt_cmpR op_eq (pc c__law_take hr (by decide) (by rfl) (pa_cons (pv 0) (pa_cons pe_int pa_nil))) pe_int (nomark _)) (pc c__law_take hr (by decide) (by rfl) (pa_cons (pv 0) (pa_cons (pe_op op_add (pv 3) pe_int) pa_nil))) pe_int))) pa_nil)))))
      (pss_one (ps_ret (pv 4))))), ?_⟩
    refine ⟨by show 0 ≤ sizeLine; decide, fun l nl => ?_⟩
    refine ⟨_, rfl, q, rfl, ⟨_, SqT.of ((Same.nw nl) _ _ hq)⟩, for_it (walk_tup (K := K) (a := q) (xs := widths.map vN)) (fun i σ H1 => ∃ (c5 : Option V) (ys : List Addr) (tabs : List (List Nat)), σ = [some (.ref d), some (vN size), some (.ref q), some (.int 9), some (.ref l), c5, none] ∧ DW K d sa ns H H1 ∧ H1 l = some (.lst (ys.map V.ref)) ∧ Paired (LN H1) ys tabs ∧ tabs.length = i ∧
      ∀ (j wd : Nat) (tab : List Nat), widths[j]? = some wd → tabs[j]? = some tab → tab.length = size ^ wd ∧ ∀ c ∈ tab, c ≤ 9) ⟨none, [], [], rfl, (DW.refl hd).mt nl, upd_same, .nil, rfl, fun j wd tab _ e => by simp at e⟩ (fun i σ H1 _ ⟨_, _, _, _, e, _⟩ => SqT.of (hq.ts e.ts)) ?_ ?_⟩
    · rintro i x σ H1 H1' hi ⟨c5, ys, tabs, rfl, w1, hl, hys, tl, ht⟩ ⟨rfl, hx⟩
      rw [List.length_map] at hi
      obtain rfl := at_map hi hx
      obtain ⟨u1, u2⟩ := hw _ (List.getElem_mem hi)
      have hwi : widths[i]? = some widths[i] := List.getElem?_eq_getElem hi
      generalize widths[i] = wd at u1 u2 hwi
      have hyl := plen hys
      refine ⟨_, rfl, .inl ⟨rfl, _, SqL.of hl⟩, _, rfl, _, rfl, size, wd, rfl, by omega, u1, u2, fun H2 p s2 np ⟨cs, hp, hcs⟩ => ?_⟩
      have hcl := plen hcs
      rw [cells_len] at hcl
      have hc9 : size ^ wd ≤ 9 := Nat.le_trans (Nat.pow_le_pow_left h3 _) (Nat.le_trans (Nat.pow_le_pow_right (by decide) u2) (by decide))
      have w2 := w1.same s2
      refine ⟨p, rfl, ⟨_, SqL.of hp⟩, fun D hD => ?_⟩
      have nD : H D = none := w2.free hD
      have nD1 : H1' D = none := s2.free hD
      have w2' : DW K d sa ns H1' H2 := ⟨s2.se, w1.dr, w2.dr⟩
      have hpD : D ≠ p := fun z => by rw [z, hp] at hD; cases hD
      refine it_core (walk_list (K := K) (a := p) (xs := cs.map V.ref)) (fun j H3 => ∃ ws : List Nat, H3 D = some (.lst (ws.map vN)) ∧ DW K d sa ns H1' H3 ∧ H3 p = some (.lst (cs.map V.ref)) ∧ ws.length = j ∧ ∀ c ∈ ws, c ≤ 9) ⟨[], upd_same, w2'.mt nD1, by rw [upd_ne hpD.symm]; exact hp, rfl, fun c hc => by cases hc⟩ (fun _ H3 _ ⟨_, _, _, e, _⟩ => SqL.of e) ?_ ?_
      · rintro j x H3 H4 hj ⟨ws, g1, g2, g5, g3, g4⟩ ⟨rfl, hx⟩
        rw [List.length_map] at hj
        have fin : ∀ (H5 : Hp) (z : Nat), DW K d sa ns H4 H5 → z ≤ 9 → ∃ acc, H5 D = some (.lst acc) ∧ acc.length < sizeLine ∧ ∃ ws : List Nat, (upd H5 D (.lst (acc ++ [vN z]))) D = some (.lst (ws.map vN)) ∧ DW K d sa ns H1' (upd H5 D (.lst (acc ++ [vN z]))) ∧ (upd H5 D (.lst (acc ++ [vN z]))) p = some (.lst (cs.map V.ref)) ∧ ws.length = j + 1 ∧ ∀ c ∈ ws, c ≤ 9 := by
          intro H5 z w5 hz
          refine ⟨_, w5.sd _ _ (isDraw_nats _) g1, szs (by rw [List.length_map]; omega), ws ++ [z], by rw [upd_same, List.map_append]; rfl, (g2.trans w5).mt nD1, ?_, by rw [List.length_append, g3]; rfl, fun c hc => ?_⟩
          · rw [upd_ne hpD.symm]
            exact w5.sd _ _ (isDraw_refs _) g5
          · rcases List.mem_append.mp hc with e | e
            · exact g4 c e
            · rw [List.mem_singleton.mp e]; exact hz
        refine ⟨rfl, lc_yes ?_⟩
        refine ⟨_, rfl, d, sa, ns, 2, rfl, by decide, g2.dr, fun H5 y w5 hy => ⟨rfl, _, rfl, ?_⟩⟩
        by_cases hy0 : y = 0
        · refine itT (decide_eq_true (by rw [hy0]; rfl)) ?_
          refine ⟨_, rfl, _, rfl, _, _, rfl, rfl, d, sa, ns, 10, rfl, by decide, w5.dr, fun H6 z w6 hz => fin H6 z (w5.trans w6) (by omega)⟩
        · refine itF (decide_eq_false fun z => hy0 (by injection z; omega)) ?_
          exact fin H5 0 w5 (by omega)
      · rintro H3 ⟨ws, g1, g2, g5, g3, g4⟩
        rw [List.length_map, hcl] at g3
        have hl3 := g2.sd _ _ (isDraw_refs _) hl
        have lD : D ≠ l := fun z => by rw [z, hl] at nD1; cases nD1
        refine ⟨l, _, _, rfl, rfl, hl3, szs (by rw [List.length_map]; omega), ?_⟩
        have w4 := (w1.trans g2).mt (o := .lst (ys.map V.ref ++ [.ref D])) nl
        refine ⟨_, ys ++ [D], tabs ++ [ws], rfl, w4, by rw [upd_same, List.map_append]; rfl, ?_, by rw [List.length_append, tl]; rfl, fun j wd2 tab e1 e2 => ?_⟩
        · have keep : ∀ a t, LN H1' a t → a ≠ l → LN (upd H3 l (.lst (ys.map V.ref ++ [.ref D]))) a t := fun a t e n => by
            show _ = _
            rw [upd_ne n]
            exact g2.sd _ _ (isDraw_nats _) e
          refine psnoc ?_ ?_
          · cases ys with
            | nil =>
              cases hys
              exact .nil
            | cons y0 yr =>
              refine pimp hys fun a t e => keep a t e fun z => ?_
              have e : H1' a = some (.lst (t.map vN)) := e
              rw [z, hl] at e
              cases t with
              | nil => cases e
              | cons _ _ => cases e
          · show _ = _
            rw [upd_ne lD]
            exact g1
        · by_cases hj : j < tabs.length
          · rw [List.getElem?_append_left hj] at e2
            exact ht j wd2 tab e1 e2
          · rw [List.getElem?_append_right (by omega)] at e2
            have hj0 : j - tabs.length = 0 := by
              by_cases z : j - tabs.length = 0
              · exact z
              · rw [List.getElem?_eq_none (by simp; omega)] at e2
                cases e2
            rw [hj0] at e2
            have e2 : ws = tab := Option.some.inj e2
            subst e2
            have : j = i := by omega
            subst this
            rw [hwi] at e1
            have e1 := Option.some.inj e1
            subst e1
            exact ⟨g3, g4⟩
    · rintro σ H1 ⟨c5, ys, tabs, rfl, w1, hl, hys, tl, ht⟩
      rw [List.length_map] at tl
      exact ⟨_, rfl, k H1 l tabs w1 nl ⟨ys, hl, hys⟩ tl ht⟩
end
end K16
set_option Elab.async false
set_option linter.all false
set_option maxRecDepth 100000
set_option maxHeartbeats 4000000
namespace K16
open PySem PySem.Spec PyProof.Rows L2
theorem look_rel {env : Env} {x : Str} : ∀ {names : List (Str × NameKind)}, names.lookup x = some .cell ∨ names.lookup x = some .free →
    ((names.map fun (n, k) => if (k == NameKind.free && env.scope.kind == .function && env.kindOf n == some .cell) then (n, NameKind.cell) else (n, k)).lookup x = some .cell ∨
      (names.map fun (n, k) => if (k == NameKind.free && env.scope.kind == .function && env.kindOf n == some .cell) then (n, NameKind.cell) else (n, k)).lookup x = some .free)
  | [], h => by simp at h
  | (n, k) :: r, h => by
    have ih := look_rel (env := env) (x := x) (names := r)
    rw [List.map_cons]
    by_cases hx : (x == n) = true
    · rw [List.lookup_cons, hx] at h
      show List.lookup x ((if _ then (n, NameKind.cell) else (n, k)) :: _) = _ ∨ List.lookup x ((if _ then (n, NameKind.cell) else (n, k)) :: _) = _
      by_cases hc : (k == NameKind.free && env.scope.kind == .function && env.kindOf n == some .cell) = true
      · rw [if_pos hc, List.lookup_cons, hx]
        exact .inl rfl
      · rw [if_neg hc, List.lookup_cons, hx]
        exact h
    · have hx := Bool.eq_false_iff.mpr hx
      rw [List.lookup_cons, hx] at h
      show List.lookup x ((if _ then (n, NameKind.cell) else (n, k)) :: _) = _ ∨ List.lookup x ((if _ then (n, NameKind.cell) else (n, k)) :: _) = _
      by_cases hc : (k == NameKind.free && env.scope.kind == .function && env.kindOf n == some .cell) = true
      · rw [if_pos hc, List.lookup_cons, hx]
        exact ih h
      · rw [if_neg hc, List.lookup_cons, hx]
        exact ih h
/-- a comprehension within a comprehension -/
theorem blkOk_rel {N : List Str} {sc scope : Scope} {own : List (Str × Nat)} {env : Env} (h : blkC N sc scope own = true) : BlkOk N (relabel sc env) scope own := by
  have b := blkOk_by h
  exact ⟨b.kind, b.uniq, b.ix, fun y hy e => look_rel (b.free y hy e), b.own⟩
theorem toN {z : Int} (h : 0 ≤ z) : V.int z = vN z.toNat := congrArg V.int (Int.toNat_of_nonneg h).symm
theorem any_dP (p : Nat × List Nat) : ∀ l : List (Nat × List Nat), ((l.map dP).any fun z => PyData.eqv z (dP p)) = decide (p ∈ l)
  | [] => by simp
  | a :: l => by
    rw [List.map_cons, List.any_cons, any_dP p l, eqv_P, ← Bool.decide_or]
    refine decide_eq_decide.mpr ?_
    rw [List.mem_cons]
    exact or_congr_left eq_comm
theorem eqV_NN (a b : Nat) : eqV (vN a) (vN b) = decide (a = b) := by
  by_cases h : a = b
  · subst h
    rw [decide_eq_true rfl]
    show decide ((a : Int) = (a : Int)) = true
    exact decide_eq_true rfl
  · rw [decide_eq_false h]
    show decide ((a : Int) = (b : Int)) = false
    exact decide_eq_false (by omega)
theorem idx_first {l : List Nat} {v : Nat} (h : v ∈ l) : l[l.idxOf v]? = some v ∧ ∀ m z, m < l.idxOf v → l[m]? = some z → z ≠ v := by
  have hl := List.idxOf_lt_length_iff.mpr h
  refine ⟨by rw [List.getElem?_eq_getElem hl, List.getElem_idxOf hl], fun m z hm hz e => ?_⟩
  subst e
  obtain ⟨hm2, e⟩ := List.getElem?_eq_some_iff.mp hz
  have := List.not_of_lt_findIdx (p := (· == z)) (xs := l) hm
  rw [e] at this
  simp at this
section
variable {P : Program} {w : World} {K : PySem.W.Frag} {mg : Str → Option Value} {base : Heap} {CS CD CQ : Addr}
def spNames : Sp := fun vs H Q _ => ∃ (a : Addr) (ats : List (Nat × List Nat)), vs = [.ref a] ∧ LstOf PR H a ats ∧ AtsOk ats ∧ ∀ H' p, Same H H' → H p = none → LN H' p (varsOf ats) → Q (.ref p) H'
theorem sc__law_names : FnScope ["_law_atoms", "_law_found", "_law_table", "_law_variables"] ["_law_atoms"] (defScope s__law_names) := ⟨rfl, rfl, rfl, by decide +kernel, rfl, by decide +kernel, by decide +kernel⟩
theorem ok_names (T : Tx K mg) (h : Has K mg "_law_names" s__law_names) : Cal P w K mg base 1 "_law_names" spNames := by
  refine cal_of h sc__law_names (fun _ _ _ _ _ _ us hl => match us, hl with | [_], _ => rfl) (fun vs H Q E h => ?_) (fun f cdv A outer s H vs Q E hr h => ?_)
  · obtain ⟨_, _, rfl, _⟩ := h
    rfl
  · obtain ⟨a, ats, rfl, ⟨xs, ha, hx⟩, ⟨l4, hok⟩, k⟩ := h
    have hxl := plen hx
    refine ⟨_, (pss_cons (ps_set (i := 1) sc__law_names.nd rfl (Or.inl rfl) (pe_lst pa_nil))
      (pss_cons (ps_for PassesOwn.never rfl (kps K (pv 0)) (kgtup K (n := 2) rfl (pgs_cons (pg_name (i := 2) sc__law_names.nd rfl (Or.inl rfl)) (pgs_cons (pg_name (i := 3) sc__law_names.nd rfl (Or.inl rfl)) pgs_nil))) (pss_one (ps_set (i := 1) sc__law_names.nd rfl (Or.inl rfl) (pe_op op_cat (pv 1) (pe_callTy (klstOf K) (by rfl) T.bList (by decide +kernel) (pa_cons (pv 3) pa_nil))))))
      (pss_one (ps_ret (pe_callB (cr_sortedSet rfl) (by rfl) T.bSorted (by decide +kernel) (pa_cons (pe_callTy (ksetL K rfl) (by rfl) T.bSet (by decide +kernel) (pa_cons (pv 1) pa_nil)) pa_nil)))))), ?_⟩
    refine ⟨by show 0 ≤ sizeLine; decide, fun l nl => ?_⟩
    refine .inl ⟨_, rfl, a, rfl, ⟨_, SqL.of ((Same.nw nl) _ _ ha)⟩, for_it (walk_list (K := K) (a := a) (xs := xs.map V.ref)) (fun i σ H1 => ∃ (p : Addr) (c2 c3 : Option V), σ = [some (.ref a), some (.ref p), c2, c3] ∧ Same H H1 ∧ H p = none ∧ LN H1 p ((ats.take i).flatMap (·.2))) ⟨l, none, none, rfl, Same.nw nl, nl, upd_same⟩ (fun i σ H1 _ ⟨_, _, _, _, e, _⟩ => e.seq (SqL.of ha)) ?_ ?_⟩
    · rintro i x σ H1 H1' hi ⟨p, c2, c3, rfl, s1, np, hp⟩ ⟨rfl, hxx⟩
      rw [List.length_map] at hi
      obtain rfl := at_map hi hxx
      have hi2 : i < ats.length := by omega
      obtain ⟨q, p1, p2⟩ := pget hx (List.getElem?_eq_getElem hi) (List.getElem?_eq_getElem hi2)
      have hl2 := (hok _ (List.getElem_mem hi2)).1
      have h8 : ((ats.take i).flatMap (·.2)).length ≤ 8 := by
        refine Nat.le_trans (fm_len (k := 2) fun p hp => (hok p (List.mem_of_mem_take hp)).1) ?_
        rw [List.length_take]
        omega
      refine ⟨xs[i], _, rfl, SqT.of (s1 _ _ p1), rfl, _, _, rfl, _, _, rfl, rfl, ?_⟩
      refine ⟨_, rfl, _, rfl, q, _, rfl, .inr (SqT.of (s1 _ _ p2)), fun r nr => ?_⟩
      have s2 : Same H1' (upd H1' r (.lst (ats[i].2.map vN))) := Same.nw nr
      refine ⟨p, r, _, _, rfl, rfl, s2 _ _ hp, upd_same, szl (by rw [List.length_map, List.length_map]; omega), fun t nt => ?_⟩
      refine ⟨t, _, _, rfl, (s1.trans s2).trans (Same.nw nt), (s1.trans s2).free nt, ?_⟩
      show _ = _
      rw [upd_same, take_s hi2, List.flatMap_append, List.map_append]
      simp
    · rintro σ H1 ⟨p, c2, c3, rfl, s1, np, hp⟩
      rw [List.length_map, hxl, List.take_length] at hp
      have hl8 : (ats.flatMap (·.2)).length ≤ 8 := Nat.le_trans (fm_len fun p hp => (hok p hp).1) (by omega)
      refine ⟨_, rfl, p, (ats.flatMap (·.2)).map fun (n : Nat) => (n : Int), rfl, SqL.of (by rw [← vN_map]; exact hp), by rw [List.length_map]; omega, fun b S n nb hS hn => ?_⟩
      rw [List.length_map] at hn
      refine ⟨b, S, n, rfl, upd_same, by omega, fun ns p3 q1 q2 q3 np3 => ?_⟩
      have ens := varsOf_eq (fun p hp => (hok p hp).2) q1 fun k => (q2 k).trans (hS k)
      have s5 : Same H (upd H1 b (SetO w b S n)) := s1.trans (Same.nw nb)
      refine k _ p3 (s5.trans (Same.nw np3)) (s5.free np3) ?_
      show _ = some _
      rw [upd_same, ens, vN_map]
/-! ### atoms, filters, shown -/
def spParts (K : PySem.W.Frag) : Sp := fun vs H Q _ => ∃ (d s q : Addr) (ns : List Int) (size : Nat) (widths : List Nat), vs = [.ref d, vN size, .ref q, .int 3] ∧ Dr K d s ns H ∧ size ≤ 3 ∧ TN H q widths ∧ 1 ≤ widths.length ∧ widths.length ≤ 4 ∧ (∀ u ∈ widths, 1 ≤ u ∧ u ≤ 2) ∧
  ∀ H' p a f sh (ats fl : List (Nat × List Nat)) (shown : List Nat), DW K d s ns H H' → H p = none → H' p = some (.tup [.ref a, .ref f, .ref sh]) → TupOf PR H' a ats → TupOf PR H' f fl → TN H' sh shown → AtomsOk widths ats → AtW widths ats → FiltOk size (varsOf ats).length fl → shown.Nodup →
    (∀ v ∈ shown, v < (varsOf ats).length) → shown.length ≤ 6 → Q (.ref p) H'
def At0 (widths : List Nat) (ats : List (Nat × List Nat)) : Prop := ∀ p ∈ ats, widths[p.1]? = some p.2.length ∧ 1 ≤ p.2.length ∧ p.2.length ≤ 2 ∧ ∀ u ∈ p.2, u ≤ 5
theorem sc__law_parts : FnScope ["_law_draw", "_law_size", "_law_widths", "_law_most", "_law_atoms", "_law_many", "_law_turn", "_law_table", "_law_variables", "_law_column", "_law_variable", "_law_some", "_law_filters", "_law_shown", "_law_value"] ["_law_draw", "_law_size", "_law_widths", "_law_most"] (defScope s__law_parts) := ⟨rfl, rfl, rfl, by decide +kernel, rfl, by decide +kernel, by decide +kernel⟩
theorem ok_parts (T : Tx K mg) (h : Has K mg "_law_parts" s__law_parts) (c__law_take : Cal P w K mg base 2 "_law_take" (spTake K)) (c__law_names : Cal P w K mg base 1 "_law_names" spNames) (c__law_order : Cal P w K mg base 3 "_law_order" (spOrder K)) : Cal P w K mg base 4 "_law_parts" (spParts K) := by
  refine cal_of h sc__law_parts (fun _ _ _ _ _ _ us hl => match us, hl with | [_, _, _, _], _ => rfl) (fun vs H Q E h => ?_) (fun f cdv A outer s H vs Q E hr h => ?_)
  · obtain ⟨_, _, _, _, _, _, rfl, _⟩ := h
    rfl
  · obtain ⟨d, sa, q, ns, size, widths, rfl, hd, h3, hq, l1, l4, hw, k⟩ := h
    have hu65 : (A.deeper (envOfC "_law_parts" (defScope s__law_parts) s.heap.objs.size f cdv)).units + 65 < cLine := by have := hr.un; omega
    refine ⟨_, (pss_cons (ps_par (i := 4) (j := 5) (by rfl) sc__law_parts.nd rfl rfl (by decide) rfl rfl (pa_cons (pe_lst pa_nil) (pa_cons pe_int pa_nil)) (by rfl))
      (pss_cons (ps_for PassesOwn.never rfl (pi_range1 (by rfl) T.bRange (pa_cons (pe_op op_add pe_int (pc c__law_take hr (by decide) (by rfl) (pa_cons (pv 0) (pa_cons (pv 3) pa_nil)))) pa_nil)) (pg_name (i := 6) sc__law_parts.nd rfl (Or.inl rfl)) (pss_cons (ps_par (i := 7) (j := 8) (by rfl) sc__law_parts.nd rfl rfl (by decide) rfl rfl (pa_cons (pc c__law_take hr (by decide) (by rfl) (pa_cons (pv 0) (pa_cons (pe_callB (klen K) (by rfl) T.bLen (by decide +kernel) (pa_cons (pv 2) pa_nil)) pa_nil))) (pa_cons (pe_lst pa_nil) pa_nil)) (by rfl))
      (pss_cons (ps_for PassesOwn.never rfl (pi_range1 (by rfl) T.bRange (pa_cons (pe_ix (kixT K) (pv 2) (pv 7) (fun _ _ => rfl)) pa_nil)) (pg_name (i := 9) sc__law_parts.nd rfl (Or.inl rfl)) (pss_cons (ps_set (i := 10) sc__law_parts.nd rfl (Or.inl rfl) (pc c__law_take hr (by decide) (by rfl) (pa_cons (pv 0) (pa_cons (pe_callB (call_min2 rfl) (by rfl) T.bMin (by decide +kernel) (pa_cons pe_int (pa_cons (pe_op op_add (pe_op op_add (pv 5) pe_int) (pc c__law_take hr (by decide) (by rfl) (pa_cons (pv 0) (pa_cons pe_int pa_nil)))) pa_nil))) pa_nil))))
      (pss_cons (ps_set (i := 10) sc__law_parts.nd rfl (Or.inl rfl) (pe_callB (call_min2 rfl) (by rfl) T.bMin (by decide +kernel) (pa_cons (pv 10) (pa_cons (pv 5) pa_nil))))
      (pss_cons (ps_set (i := 5) sc__law_parts.nd rfl (Or.inl rfl) (pe_ifExp (pt_cmpR op_lt (pv 10) pe_int (nomark _)) (pe_callB (call_max2 rfl) (by rfl) T.bMax (by decide +kernel) (pa_cons (pv 5) (pa_cons (pe_op op_add (pv 10) pe_int) pa_nil))) (pv 5)))
      (pss_one (ps_expr (kapp K (pv 8) (pa_cons (pe_callB (call_min2 rfl) (by rfl) T.bMin (by decide +kernel) (pa_cons (pv 10) (pa_cons pe_int pa_nil))) pa_nil))))))))
      (pss_one (ps_if (pt_cmpR (kninD K hu65) (pe_tup (pa_cons (pv 7) (pa_cons (pe_callTy (ktupOf K) (by rfl) T.bTuple (by decide +kernel) (pa_cons (pv 8) pa_nil)) pa_nil))) (pv 4) (by rfl)) (pss_one (ps_expr (kapp K (pv 4) (pa_cons (pe_tup (pa_cons (pv 7) (pa_cons (pe_callTy (ktupOf K) (by rfl) T.bTuple (by decide +kernel) (pa_cons (pv 8) pa_nil)) pa_nil))) pa_nil)))) pss_nil)))))
      (pss_cons (ps_set (i := 11) sc__law_parts.nd rfl (Or.inr rfl) (pc c__law_names hr (by decide) (by rfl) (pa_cons (pv 4) pa_nil)))
      (pss_cons (ps_set (i := 4) sc__law_parts.nd rfl (Or.inl rfl) (pe_callTy (ktupOf K) (by rfl) T.bTuple (by decide +kernel) (pa_cons (pe_lc (own := [("_law_table", 7), ("_law_variables", 8)]) (by rfl) sc__law_parts.nd (kpl K (pv 4)) (blkOk_by (own := [("_law_table", 7), ("_law_variables", 8)]) (N := ["_law_draw", "_law_size", "_law_widths", "_law_most", "_law_atoms", "_law_many", "_law_turn", "_law_table", "_law_variables", "_law_column", "_law_variable", "_law_some", "_law_filters", "_law_shown", "_law_value"]) (sc := defScope s__law_parts) (by decide +kernel)) (fun _ _ _ _ _ => (kgtup K (n := 2) rfl (pgs_cons (pg_name (i := 7) sc__law_parts.nd rfl (Or.inl rfl)) (pgs_cons (pg_name (i := 8) sc__law_parts.nd rfl (Or.inl rfl)) pgs_nil)))) (fun _ _ _ _ _ => pts_nil) (fun _ _ _ _ _ => (pe_tup (pa_cons (pv 7) (pa_cons (pe_callTy (ktupOf K) (by rfl) T.bTuple (by decide +kernel) (pa_cons (pe_lc (own := [("_law_variable", 10)]) (by rfl) sc__law_parts.nd (kpt K (pv 8)) (blkOk_rel (own := [("_law_variable", 10)]) (N := ["_law_draw", "_law_size", "_law_widths", "_law_most", "_law_atoms", "_law_many", "_law_turn", "_law_table", "_law_variables", "_law_column", "_law_variable", "_law_some", "_law_filters", "_law_shown", "_law_value"]) (sc := ({ kind := .function, names := [(".0", .local), ("_law_table", .local), ("_law_variables", .local), ("tuple", .globalImplicit), ("_law_some", .free)], isGenerator := false, isCoroutine := false } : Scope)) (by decide +kernel)) (fun _ _ _ _ _ => (pg_name (i := 10) sc__law_parts.nd rfl (Or.inl rfl))) (fun _ _ _ _ _ => pts_nil) (fun _ _ _ _ _ => (kidx K (kindex K) (pv 11) (pa_cons (pv 10) pa_nil)))) pa_nil)) pa_nil))))) pa_nil)))
      (pss_cons (ps_set (i := 12) sc__law_parts.nd rfl (Or.inl rfl) (pe_lst pa_nil))
      (pss_cons (ps_for PassesOwn.never rfl (pi_range1 (by rfl) T.bRange (pa_cons (pe_callB (klen K) (by rfl) T.bLen (by decide +kernel) (pa_cons (pv 11) pa_nil)) pa_nil)) (pg_name (i := 10) sc__law_parts.nd rfl (Or.inl rfl)) (pss_one (ps_if (pt_cmpR op_eq (pc c__law_take hr (by decide) (by rfl) (pa_cons (pv 0) (pa_cons pe_int pa_nil))) pe_int (nomark _)) (pss_one (ps_expr (kapp K (pv 12) (pa_cons (pe_tup (pa_cons (pv 10) (pa_cons (pe_callTy (ktupOf K) (by rfl) T.bTuple (by decide +kernel) (pa_cons (pe_lc (own := [("_law_value", 14)]) (by rfl) sc__law_parts.nd (pi_range1 (by rfl) T.bRange (pa_cons (pv 1) pa_nil)) (blkOk_by (own := [("_law_value", 14)]) (N := ["_law_draw", "_law_size", "_law_widths", "_law_most", "_law_atoms", "_law_many", "_law_turn", "_law_table", "_law_variables", "_law_column", "_law_variable", "_law_some", "_law_filters", "_law_shown", "_law_value"]) (sc := defScope s__law_parts) (by decide +kernel)) (fun _ _ _ _ _ => (pg_name (i := 14) sc__law_parts.nd rfl (Or.inl rfl))) (fun _ _ _ _ _ => (pts_one (pt_cmpR op_gt (pc c__law_take hr (by decide) (by rfl) (pa_cons (pv 0) (pa_cons pe_int pa_nil))) pe_int (nomark _)))) (fun _ _ _ _ _ => (pv 14))) pa_nil)) pa_nil))) pa_nil)))) pss_nil)))
      (pss_cons (ps_setLc (i := 13) (own := [("_law_variable", 10)]) (by rfl) sc__law_parts.nd rfl rfl (sw_true rfl rfl rfl (by decide +kernel)) (kpl K (pc c__law_order hr (by decide) (by rfl) (pa_cons (pv 0) (pa_cons (pe_callB (klen K) (by rfl) T.bLen (by decide +kernel) (pa_cons (pv 11) pa_nil)) pa_nil)))) (blkOk_by (own := [("_law_variable", 10)]) (N := ["_law_draw", "_law_size", "_law_widths", "_law_most", "_law_atoms", "_law_many", "_law_turn", "_law_table", "_law_variables", "_law_column", "_law_variable", "_law_some", "_law_filters", "_law_shown", "_law_value"]) (sc := defScope s__law_parts) (by decide +kernel)) (fun _ _ _ _ _ => (pg_name (i := 10) sc__law_parts.nd rfl (Or.inl rfl))) (fun _ _ _ _ _ => (pts_one (pt_cmpR op_eq (pc c__law_take hr (by decide) (by rfl) (pa_cons (pv 0) (pa_cons pe_int pa_nil))) pe_int (nomark _)))) (fun _ _ _ _ _ => (pv 10)))
      (pss_one (ps_ret (pe_tup (pa_cons (pv 4) (pa_cons (pe_callTy (ktupOf K) (by rfl) T.bTuple (by decide +kernel) (pa_cons (pv 12) pa_nil)) (pa_cons (pe_callTy (ktupOf K) (by rfl) T.bTuple (by decide +kernel) (pa_cons (pv 13) pa_nil)) pa_nil))))))))))))), ?_⟩
    refine ⟨by show 0 ≤ sizeLine; decide, fun l nl => ⟨_, _, rfl, ?_⟩⟩
    have w0 : DW K d sa ns H (upd H l (.lst [])) := (DW.refl hd).mt nl
    have hl0 : (upd H l (.lst [])) l = some (.lst (([] : List Addr).map V.ref)) := upd_same
    generalize upd H l (.lst []) = H0 at w0 hl0
    refine ⟨_, rfl, _, rfl, d, sa, ns, 3, rfl, by decide, w0.dr, fun H1 y w1 hy => ⟨_, _, rfl, rfl, 1 + (y : Int), rfl, by omega, by omega, ?_⟩⟩
    have w01 := w0.trans w1
    have hl1 := w1.sd _ _ (isDraw_refs _) hl0
    refine for_it walk_range (fun i σ H2 => ∃ (c6 c7 c8 c9 c10 : Option V) (mn : Int) (ys : List Addr) (ats : List (Nat × List Nat)), σ = [some (.ref d), some (vN size), some (.ref q), some (.int 3), some (.ref l), some (.int mn), c6, c7, c8, c9, c10, none, none, none, none] ∧ DW K d sa ns H H2 ∧ H2 l = some (.lst (ys.map V.ref)) ∧ Paired (PR H2) ys ats ∧
      0 ≤ mn ∧ mn ≤ 6 ∧ ats.length ≤ i ∧ ats.Nodup ∧ (0 < i → 1 ≤ ats.length) ∧ At0 widths ats) ⟨none, none, none, none, none, 0, [], [], rfl, w01, hl1, .nil, by omega, by omega, Nat.le_refl _, List.nodup_nil, fun z => absurd z (Nat.lt_irrefl _), fun p hp => by cases hp⟩ (fun _ _ _ _ _ => trivial) ?_ ?_
    · rintro i x σ H2 H2' hi ⟨c6, c7, c8, c9, c10, mn, ys, ats, rfl, w2, hl2, hys, m0, m6, al, nd, ne, a0⟩ ⟨rfl, rfl⟩
      have hyl := plen hys
      refine ⟨_, rfl, _, rfl, q, _, rfl, .inr (SqT.of (hq.ts w2.ts)), d, sa, ns, (widths.map vN).length, rfl, by rw [List.length_map]; exact l1, w2.dr, fun H3 t w3 ht => ⟨by show 0 ≤ sizeLine; decide, fun vl nvl => ⟨_, _, rfl, ?_⟩⟩⟩
      rw [List.length_map] at ht
      have w23 := w2.trans w3
      obtain ⟨u1, u2⟩ := hw _ (List.getElem_mem ht)
      have hwi : widths[t]? = some widths[t] := List.getElem?_eq_getElem ht
      generalize widths[t] = wd at u1 u2 hwi
      have w4 : DW K d sa ns H3 (upd H3 vl (.lst [])) := (DW.refl w3.dr).mt nvl
      have hv4 : LN (upd H3 vl (.lst [])) vl [] := upd_same
      generalize upd H3 vl (.lst []) = H4 at w4 hv4
      refine ⟨_, rfl, _, rfl, q, _, (t : Int), vN wd, rfl, rfl, SqT.of (hq.ts (w23.trans w4).ts), atI_nat (by rw [List.getElem?_map, hwi]; rfl), (wd : Int), rfl, by omega, by omega, ?_⟩
      refine for_it walk_range (fun j σ H5 => ∃ (c9 c10 : Option V) (mn : Int) (us : List Nat), σ = [some (.ref d), some (vN size), some (.ref q), some (.int 3), some (.ref l), some (.int mn), some (.int (0 + (i : Int))), some (vN t), some (.ref vl), c9, c10, none, none, none, none] ∧ DW K d sa ns H3 H5 ∧ LN H5 vl us ∧
        0 ≤ mn ∧ mn ≤ 6 ∧ us.length = j ∧ ∀ u ∈ us, u ≤ 5) ⟨c9, c10, mn, [], rfl, w4, hv4, m0, m6, rfl, fun u hu => by cases hu⟩ (fun _ _ _ _ _ => trivial) ?_ ?_
      · rintro j x σ H5 H5' hj ⟨c9, c10, mn, us, rfl, w5, hv5, m0, m6, ul, ub⟩ ⟨rfl, rfl⟩
        refine ⟨_, rfl, _, rfl, _, _, rfl, rfl, _, rfl, d, sa, ns, 2, rfl, by decide, w5.dr, fun H6 a w6 ha => ⟨_, _, rfl, rfl, _, _, rfl, ?_⟩⟩
        have hz : 1 ≤ (if (mn + 1 + (a : Int)) < 6 then (mn + 1 + (a : Int)) else 6) ∧ (if (mn + 1 + (a : Int)) < 6 then (mn + 1 + (a : Int)) else 6) ≤ 6 := by split <;> omega
        refine ⟨d, sa, ns, (if (mn + 1 + (a : Int)) < 6 then (mn + 1 + (a : Int)) else 6).toNat, congrArg (fun z => [V.ref d, z]) (toN (by omega)), by omega, w6.dr, fun H7 v w7 hv => ?_⟩
        have hv6 : v < 6 := by omega
        refine ⟨_, rfl, _, rfl, _, _, rfl, ?_⟩
        have hz2 : 0 ≤ (if mn < (v : Int) then mn else (v : Int)) ∧ (if mn < (v : Int) then mn else (v : Int)) < 6 := by split <;> omega
        refine ⟨_, rfl, _, _, rfl, rfl, _, rfl, itT (decide_eq_true hz2.2) ?_⟩
        refine ⟨_, rfl, _, rfl, _, _, rfl, rfl, _, _, rfl, ?_⟩
        have hz3 : 0 ≤ (if (if mn < (v : Int) then mn else (v : Int)) + 1 > mn then (if mn < (v : Int) then mn else (v : Int)) + 1 else mn) ∧ (if (if mn < (v : Int) then mn else (v : Int)) + 1 > mn then (if mn < (v : Int) then mn else (v : Int)) + 1 else mn) ≤ 6 := by split <;> omega
        have w57 := w5.trans (w6.trans w7)
        have hv7 : LN H7 vl us := (w6.trans w7).sd _ _ (isDraw_nats _) hv5
        have hus : us.length ≤ 2 := by omega
        refine ⟨_, rfl, .inl ⟨rfl, _, SqL.of hv7⟩, _, rfl, _, _, rfl, vl, _, _, rfl, rfl, hv7, szs (by rw [List.length_map]; omega), ?_⟩
        have hz4 : 0 ≤ (if 5 < (if mn < (v : Int) then mn else (v : Int)) then 5 else (if mn < (v : Int) then mn else (v : Int))) ∧ (if 5 < (if mn < (v : Int) then mn else (v : Int)) then 5 else (if mn < (v : Int) then mn else (v : Int))) ≤ 5 := by split <;> omega
        refine ⟨_, _, _, us ++ [(if 5 < (if mn < (v : Int) then mn else (v : Int)) then 5 else (if mn < (v : Int) then mn else (v : Int))).toNat], rfl, w57.mt nvl, ?_, hz3.1, hz3.2, by rw [List.length_append, ul]; rfl, fun u hu => ?_⟩
        · show _ = some _
          rw [upd_same, List.map_append]
          exact congrArg (fun z => some (HO.lst (us.map vN ++ [z]))) (toN hz4.1)
        · rcases List.mem_append.mp hu with e | e
          · exact ub u e
          · rw [List.mem_singleton.mp e]
            omega
      · rintro σ H5 ⟨c9, c10, mn, us, rfl, w5, hv5, m0, m6, ul, ub⟩
        have en : ((wd : Int)).toNat = wd := Int.toNat_natCast _
        rw [en] at ul
        have hl5 := (w3.trans w5).sd _ _ (isDraw_refs _) hl2
        have hys5 : Paired (PR H5) ys ats := pimp hys fun _ _ e => e.ts (w3.trans w5).ts
        have w25 := w2.trans (w3.trans w5)
        refine ⟨_, rfl, _, rfl, vl, _, rfl, .inl ⟨SqL.of hv5, fun t1 nt1 => ⟨by show 2 ≤ sizeLine; decide, fun t2 nt2 => ?_⟩⟩⟩
        have s6 : Same H5 (upd (upd H5 t1 (.tup (us.map vN))) t2 (.tup [vN t, .ref t1])) := (Same.nw nt1).trans (Same.nw nt2)
        have hp6 : PR (upd (upd H5 t1 (.tup (us.map vN))) t2 (.tup [vN t, .ref t1])) t2 (t, us) := ⟨t1, upd_same, (Same.nw nt2) _ _ upd_same⟩
        generalize upd (upd H5 t1 (.tup (us.map vN))) t2 (.tup [vN t, .ref t1]) = H6 at s6 hp6
        refine ⟨_, rfl, dP (t, us), ats.map dP, dp_PR hp6, dp_LP ⟨ys, s6 _ _ hl5, pimp hys5 fun _ _ e => e.ts s6.ts⟩, shp_P _, shp_LP _, _, rfl, ?_⟩
        rw [any_dP]
        have w26 := w25.same s6
        by_cases hm : (t, us) ∈ ats
        · refine itF (by rw [decide_eq_true hm]; rfl) ?_
          exact ⟨_, _, _, _, _, mn, ys, ats, rfl, w26, s6 _ _ hl5, pimp hys5 fun _ _ e => e.ts s6.ts, m0, m6, by omega, nd, fun _ => List.length_pos_of_mem hm, a0⟩
        · refine itT (by rw [decide_eq_false hm]; rfl) ?_
          have hv6 := s6 _ _ hv5
          refine ⟨_, rfl, .inl ⟨rfl, _, SqL.of (s6 _ _ hl5)⟩, _, rfl, _, rfl, vl, _, rfl, .inl ⟨SqL.of hv6, fun t3 nt3 => ⟨by show 2 ≤ sizeLine; decide, fun t4 nt4 => ?_⟩⟩⟩
          have s7 : Same H6 (upd (upd H6 t3 (.tup (us.map vN))) t4 (.tup [vN t, .ref t3])) := (Same.nw nt3).trans (Same.nw nt4)
          have hp7 : PR (upd (upd H6 t3 (.tup (us.map vN))) t4 (.tup [vN t, .ref t3])) t4 (t, us) := ⟨t3, upd_same, (Same.nw nt4) _ _ upd_same⟩
          generalize upd (upd H6 t3 (.tup (us.map vN))) t4 (.tup [vN t, .ref t3]) = H7 at s7 hp7
          have hl7 := s7 _ _ (s6 _ _ hl5)
          have hi3 : i < 3 := by omega
          refine ⟨l, _, _, rfl, rfl, hl7, szs (by rw [List.length_map]; omega), ?_⟩
          have ts8 : TS H7 (upd H7 l (.lst (ys.map V.ref ++ [.ref t4]))) := TS.updL hl7
          refine ⟨_, _, _, _, _, mn, ys ++ [t4], ats ++ [(t, us)], rfl, (w26.same s7).mt nl, by rw [upd_same, List.map_append]; rfl, psnoc (pimp hys5 fun _ _ e => ((e.ts s6.ts).ts s7.ts).ts ts8) (hp7.ts ts8), m0, m6, by rw [List.length_append]; show _ + 1 ≤ _; omega, ?_, fun _ => by rw [List.length_append]; show 1 ≤ _ + 1; omega, fun p hp => ?_⟩
          · rw [List.nodup_append]
            refine ⟨nd, List.nodup_cons.mpr ⟨fun z => (by cases z), List.nodup_nil⟩, fun a ha b hb e => ?_⟩
            rw [List.mem_singleton.mp hb] at e
            exact hm (e ▸ ha)
          · rcases List.mem_append.mp hp with e | e
            · exact a0 p e
            · rw [List.mem_singleton.mp e]
              exact ⟨by rw [hwi, ul], by show 1 ≤ us.length; omega, by show us.length ≤ 2; omega, ub⟩
    · rintro σ H2 ⟨c6, c7, c8, c9, c10, mn, ys, ats, rfl, w2, hl2, hys, m0, m6, al, nd, ne, a0⟩
      have hyl := plen hys
      have al3 : ats.length ≤ 3 := by omega
      have al1 : 1 ≤ ats.length := ne (by omega)
      have aok : AtsOk ats := ⟨by omega, fun p hp => ⟨(a0 p hp).2.2.1, (a0 p hp).2.2.2⟩⟩
      refine ⟨_, rfl, l, ats, rfl, ⟨ys, hl2, hys⟩, aok, fun H3 p3 s3 np3 hp3 => ?_⟩
      have w3 := w2.same s3
      have hl3 := s3 _ _ hl2
      have hys3 : Paired (PR H3) ys ats := pimp hys fun _ _ e => e.ts s3.ts
      have hmem : ∀ p ∈ ats, ∀ u ∈ p.2, u ∈ varsOf ats := fun p hp u hu => (mem_varsOf fun p hp => (a0 p hp).2.2.2).mpr (List.mem_flatMap.mpr ⟨p, hp, hu⟩)
      have hrl : (relab (varsOf ats) ats).length = ats.length := List.length_map ..
      obtain ⟨rok, raw⟩ := relab_ok al1 al3 nd a0
      have hn6 := varsOf_le ats
      have hvr := varsOf_relab (ats := ats) fun p hp => (a0 p hp).2.2.2
      have hvl : (varsOf (relab (varsOf ats) ats)).length = (varsOf ats).length := by rw [hvr, List.length_range]
      generalize hN : varsOf ats = names at *
      refine ⟨_, rfl, l, rfl, ⟨_, SqL.of hl3⟩, fun D hD => it_core (walk_list (K := K) (a := l) (xs := ys.map V.ref)) (fun i H4 => ∃ zs : List Addr, H4 D = some (.lst (zs.map V.ref)) ∧ Same H3 H4 ∧ Paired (PR H4) zs ((relab names ats).take i)) ⟨[], upd_same, Same.nw hD, .nil⟩ (fun _ H4 _ ⟨_, _, e, _⟩ => e.seq (SqL.of hl3)) ?_ ?_⟩
      · rintro i x H4 H5 hi ⟨zs, z1, z2, z3⟩ ⟨rfl, hx⟩
        rw [List.length_map] at hi
        obtain rfl := at_map hi hx
        have hi2 : i < ats.length := by omega
        obtain ⟨qv, p1, p2⟩ := pget hys3 (List.getElem?_eq_getElem hi) (List.getElem?_eq_getElem hi2)
        have hzl := plen z3
        rw [List.length_take] at hzl
        have p2' := z2 _ _ p2
        refine ⟨ys[i], _, rfl, SqT.of (z2 _ _ p1), rfl, _, _, rfl, _, _, rfl, rfl, rfl, lc_yes ?_⟩
        refine ⟨_, rfl, _, rfl, qv, rfl, ⟨_, SqT.of p2'⟩, fun D2 hD2 => it_core (walk_tup (K := K) (a := qv) (xs := ats[i].2.map vN)) (LcI D2 fun j acc H6 => acc = ((ats[i].2.take j).map (names.idxOf ·)).map vN ∧ Same H5 H6) ⟨[], upd_same, Nat.le_refl _, rfl, Same.nw hD2⟩ (fun _ H6 _ ⟨_, _, _, _, e⟩ => e.tp (SqT.of p2')) ?_ ?_⟩
        · rintro j x H6 H7 hj ⟨acc, g1, g2, g3, g4⟩ ⟨rfl, hx⟩
          rw [List.length_map] at hj
          obtain rfl := at_map hj hx
          have hum := hmem _ (List.getElem_mem hi2) _ (List.getElem_mem hj)
          obtain ⟨f1, f2⟩ := idx_first hum
          refine ⟨rfl, lc_yes ?_⟩
          have hp7 := g4 _ _ (z2 _ _ hp3)
          refine ⟨_, rfl, .inl ⟨rfl, _, SqL.of hp7⟩, _, rfl, p3, _, _, names.idxOf ats[i].2[j], vN ats[i].2[j], rfl, rfl, SqL.of hp7, rfl, flat_N _, by rw [List.getElem?_map, f1]; rfl, by rw [eqV_NN]; exact decide_eq_true rfl, fun m z hm hz => ?_, ?_⟩
          · rw [List.getElem?_map] at hz
            cases hg : names[m]? with
            | none => rw [hg] at hz; cases hz
            | some y =>
              rw [hg] at hz
              have hz : vN y = z := Option.some.inj hz
              rw [← hz, eqV_NN]
              exact decide_eq_false (f2 m y hm hg)
          · refine lc_end g1 g2 hj (by have := (a0 _ (List.getElem_mem hi2)).2.2.1; omega) ⟨?_, g4.mt hD2⟩
            rw [g3, take_s hj, List.map_append, List.map_append]
            rfl
        · rintro H6 ⟨acc, g1, g2, g3, g4⟩
          rw [List.length_map, List.take_length] at g3
          refine ⟨D2, _, rfl, .inl ⟨SqL.of g1, fun t nt => ⟨by show 2 ≤ sizeLine; decide, fun t2 nt2 => ?_⟩⟩⟩
          rw [g3] at nt2 ⊢
          have s7 : Same H5 (upd H6 t (.tup (((ats[i].2).map (names.idxOf ·)).map vN))) := g4.trans (Same.nw nt)
          have hT : (upd H6 t (.tup (((ats[i].2).map (names.idxOf ·)).map vN))) t = some (.tup (((ats[i].2).map (names.idxOf ·)).map vN)) := upd_same
          generalize upd H6 t (.tup (((ats[i].2).map (names.idxOf ·)).map vN)) = H7 at s7 hT nt2
          obtain ⟨b1, b2, b3, b4, b5⟩ := app_new (H1 := H3) (o := HO.tup [vN ats[i].1, .ref t]) (s7 _ _ z1) (z2.trans s7) hD nt2
          refine ⟨_, b1, szs (by rw [List.length_map]; omega), zs ++ [t2], b2, b3, ?_⟩
          have hri : i < (relab names ats).length := by omega
          rw [take_s hri]
          refine psnoc (pimp z3 fun _ _ e => (e.ts s7.ts).ts b4) ?_
          have er : (relab names ats)[i] = (ats[i].1, ats[i].2.map (names.idxOf ·)) := List.getElem_map ..
          rw [er]
          exact ⟨t, b5, b4 _ _ hT⟩
      rintro H4 ⟨zs, z1, z2, z3⟩
      rw [List.length_map, hyl, ← hrl, List.take_length] at z3
      refine ⟨D, _, rfl, .inl ⟨SqL.of z1, fun ta nta => ?_⟩⟩
      have w4 := (w3.same z2).same (Same.nw (o := .tup (zs.map V.ref)) nta)
      have hA5 : TupOf PR (upd H4 ta (.tup (zs.map V.ref))) ta (relab names ats) := ⟨zs, upd_same, pimp z3 fun _ _ e => e.ts (TS.new nta)⟩
      have hp5 : LN (upd H4 ta (.tup (zs.map V.ref))) p3 names := (Same.nw nta) _ _ (z2 _ _ hp3)
      generalize upd H4 ta (.tup (zs.map V.ref)) = H5 at w4 hA5 hp5
      have efl : (names.map vN).length = names.length := List.length_map ..
      -- filters
      refine ⟨by show 0 ≤ sizeLine; decide, fun fl0 nf0 => ?_⟩
      have nfH := w4.free nf0
      have w6 : DW K d sa ns H5 (upd H5 fl0 (.lst [])) := (DW.refl w4.dr).mt nf0
      have hf6 : (upd H5 fl0 (.lst [])) fl0 = some (.lst (([] : List Addr).map V.ref)) := upd_same
      generalize upd H5 fl0 (.lst []) = H6 at w6 hf6
      refine ⟨_, rfl, p3, _, rfl, .inl (SqL.of (w6.sd _ _ (isDraw_nats _) hp5)), ((names.map vN).length : Int), rfl, by omega, by omega, for_it walk_range (fun i σ H7 => ∃ (c10 : Option V) (fs : List Addr) (fl : List (Nat × List Nat)), σ = [some (.ref d), some (vN size), some (.ref q), some (.int 3), some (.ref ta), some (.int mn), c6, c7, c8, c9, c10, some (.ref p3), some (.ref fl0), none, none] ∧ DW K d sa ns H5 H7 ∧ H7 fl0 = some (.lst (fs.map V.ref)) ∧ Paired (PR H7) fs fl ∧
        (fl.map (·.1)).Pairwise (· < ·) ∧ (∀ p ∈ fl, p.1 < i) ∧ fl.length ≤ i ∧ ∀ p ∈ fl, p.2.Pairwise (· < ·) ∧ p.2.length ≤ 6 ∧ ∀ v ∈ p.2, v < size) ⟨c10, [], [], rfl, w6, hf6, .nil, .nil, fun p hp => (by cases hp), Nat.le_refl _, fun p hp => (by cases hp)⟩ (fun _ _ _ _ _ => trivial) ?_ ?_⟩
      · rintro i x σ H7 H7' hi ⟨c10, fs, fl, rfl, w7, hf7, hfs, f1, f2, f3, f4⟩ ⟨rfl, rfl⟩
        have hi2 : i < names.length := by omega
        have hfl := plen hfs
        refine ⟨_, rfl, d, sa, ns, 4, rfl, by decide, w7.dr, fun H8 y w8 hy => ⟨rfl, _, rfl, ?_⟩⟩
        have hf8 := w8.sd _ _ (isDraw_refs _) hf7
        have hfs8 : Paired (PR H8) fs fl := pimp hfs fun _ _ e => e.ts w8.ts
        have w78 := w7.trans w8
        by_cases hy0 : y = 0
        · refine itT (decide_eq_true (by rw [hy0]; rfl)) ?_
          refine ⟨_, rfl, .inl ⟨rfl, _, SqL.of hf8⟩, _, rfl, _, rfl, (size : Int), rfl, by omega, by omega, fun D2 hD2 => it_core walk_range (fun j H9 => ∃ ws : List Nat, H9 D2 = some (.lst (ws.map vN)) ∧ DW K d sa ns H8 H9 ∧ ws.Pairwise (· < ·) ∧ (∀ v ∈ ws, v < j) ∧ ws.length ≤ j) ⟨[], upd_same, (DW.refl w8.dr).mt hD2, .nil, fun v hv => (by cases hv), Nat.le_refl _⟩ (fun _ _ _ _ => trivial) ?_ ?_⟩
          · rintro j x H9 H10 hj ⟨ws, g1, g2, g3, g4, g5⟩ ⟨rfl, rfl⟩
            have hj3 : j < size := by omega
            refine ⟨rfl, _, rfl, d, sa, ns, 3, rfl, by decide, g2.dr, fun H11 z w11 hz => ⟨_, _, rfl, rfl, _, rfl, ?_⟩⟩
            have g1' := w11.sd _ _ (isDraw_nats _) g1
            have g2' := g2.trans w11
            by_cases hz0 : 0 < z
            · refine itT (decide_eq_true (by show (z : Int) > 0; omega)) ?_
              refine ⟨_, rfl, _, g1', szs (by rw [List.length_map]; omega), ws ++ [j], ?_, g2'.mt hD2, ?_, fun v hv => ?_, by rw [List.length_append]; show _ + 1 ≤ _; omega⟩
              · rw [upd_same, List.map_append]
                show some (HO.lst (_ ++ [V.int (0 + (j : Int))])) = _
                rw [Int.zero_add]
                rfl
              · rw [List.pairwise_append]
                exact ⟨g3, List.pairwise_singleton _ _, fun a ha b hb => by rw [List.mem_singleton.mp hb]; exact g4 a ha⟩
              · rcases List.mem_append.mp hv with e | e
                · exact Nat.lt_succ_of_lt (g4 v e)
                · rw [List.mem_singleton.mp e]; omega
            · refine itF (decide_eq_false (by show ¬ (z : Int) > 0; omega)) ?_
              exact ⟨ws, g1', g2', g3, fun v hv => Nat.lt_succ_of_lt (g4 v hv), by omega⟩
          · rintro H9 ⟨ws, g1, g2, g3, g4, g5⟩
            have en : ((size : Int)).toNat = size := Int.toNat_natCast _
            rw [en] at g4 g5
            refine ⟨D2, _, rfl, .inl ⟨SqL.of g1, fun t1 nt1 => ⟨by show 2 ≤ sizeLine; decide, fun t2 nt2 => ?_⟩⟩⟩
            have s10 : Same H9 (upd (upd H9 t1 (.tup (ws.map vN))) t2 (.tup [.int (0 + (i : Int)), .ref t1])) := (Same.nw nt1).trans (Same.nw nt2)
            have hp10 : PR (upd (upd H9 t1 (.tup (ws.map vN))) t2 (.tup [.int (0 + (i : Int)), .ref t1])) t2 (i, ws) := by
              refine ⟨t1, ?_, (Same.nw nt2) _ _ upd_same⟩
              rw [upd_same, Int.zero_add]
            generalize upd (upd H9 t1 (.tup (ws.map vN))) t2 (.tup [.int (0 + (i : Int)), .ref t1]) = H10 at s10 hp10
            have hf10 := s10 _ _ (g2.sd _ _ (isDraw_refs _) hf8)
            refine ⟨fl0, _, _, rfl, rfl, hf10, szs (by rw [List.length_map]; omega), ?_⟩
            have ts11 : TS H10 (upd H10 fl0 (.lst (fs.map V.ref ++ [.ref t2]))) := TS.updL hf10
            refine ⟨_, fs ++ [t2], fl ++ [(i, ws)], rfl, ((w78.trans g2).same s10).mt nf0, by rw [upd_same, List.map_append]; rfl, psnoc (pimp hfs8 fun _ _ e => ((e.ts g2.ts).ts s10.ts).ts ts11) (hp10.ts ts11), ?_, fun p hp => ?_, by rw [List.length_append]; show _ + 1 ≤ _; omega, fun p hp => ?_⟩
            · rw [List.map_append, List.pairwise_append]
              refine ⟨f1, List.pairwise_singleton _ _, fun a ha b hb => ?_⟩
              obtain ⟨p, hp, rfl⟩ := List.mem_map.mp ha
              rw [List.mem_singleton.mp hb]
              exact f2 p hp
            · rcases List.mem_append.mp hp with e | e
              · exact Nat.lt_succ_of_lt (f2 p e)
              · rw [List.mem_singleton.mp e]; exact Nat.lt_succ_self _
            · rcases List.mem_append.mp hp with e | e
              · exact f4 p e
              · rw [List.mem_singleton.mp e]
                exact ⟨g3, by show ws.length ≤ 6; omega, g4⟩
        · refine itF (decide_eq_false fun z => hy0 (by injection z; omega)) ?_
          exact ⟨_, fs, fl, rfl, w78, hf8, hfs8, f1, fun p hp => Nat.lt_succ_of_lt (f2 p hp), by omega, f4⟩
      · rintro σ H7 ⟨c10, fs, fl, rfl, w7, hf7, hfs, f1, f2, f3, f4⟩
        have en : (((names.map vN).length : Nat) : Int).toNat = names.length := by rw [Int.toNat_natCast, efl]
        rw [en] at f2 f3
        have hp7 : LN H7 p3 names := w7.sd _ _ (isDraw_nats _) hp5
        refine ⟨_, rfl, _, rfl, p3, _, rfl, .inl (SqL.of hp7), d, sa, ns, (names.map vN).length, rfl, by omega, w7.dr, fun H8 po os w8 npo hpo ond ob ol => ⟨po, rfl, ⟨_, SqL.of hpo⟩, fun D2 hD2 => ?_⟩⟩
        rw [efl] at ob ol
        refine it_core (walk_list (K := K) (a := po) (xs := os.map vN)) (fun j H9 => ∃ ws : List Nat, H9 D2 = some (.lst (ws.map vN)) ∧ DW K d sa ns H8 H9 ∧ ws.Sublist (os.take j)) ⟨[], upd_same, (DW.refl w8.dr).mt hD2, List.nil_sublist _⟩ (fun _ H9 _ ⟨_, _, e, _⟩ => SqL.of (e.sd _ _ (isDraw_nats _) hpo)) ?_ ?_
        · rintro j x H9 H10 hj ⟨ws, g1, g2, g3⟩ ⟨rfl, hx⟩
          rw [List.length_map] at hj
          obtain rfl := at_map hj hx
          have hwl := g3.length_le
          rw [List.length_take] at hwl
          refine ⟨rfl, _, rfl, d, sa, ns, 2, rfl, by decide, g2.dr, fun H11 z w11 hz => ⟨rfl, _, rfl, ?_⟩⟩
          have g1' := w11.sd _ _ (isDraw_nats _) g1
          have g2' := g2.trans w11
          rw [take_s hj]
          by_cases hz0 : z = 0
          · refine itT (decide_eq_true (by rw [hz0]; rfl)) ?_
            exact ⟨_, rfl, _, g1', szs (by rw [List.length_map]; omega), ws ++ [os[j]], by rw [upd_same, List.map_append]; rfl, g2'.mt hD2, g3.append (List.Sublist.refl _)⟩
          · refine itF (decide_eq_false fun z => hz0 (by injection z; omega)) ?_
            exact ⟨ws, g1', g2', g3.trans (List.sublist_append_left _ _)⟩
        · rintro H9 ⟨ws, g1, g2, g3⟩
          rw [List.length_map, List.take_length] at g3
          have hwl := g3.length_le
          have w59 := (w7.trans w8).trans g2
          have hf9 := (w8.trans g2).sd _ _ (isDraw_refs _) hf7
          refine ⟨_, rfl, _, rfl, fl0, _, rfl, .inl ⟨SqL.of hf9, fun tf ntf => ?_⟩⟩
          have s10 : Same H9 (upd H9 tf (.tup (fs.map V.ref))) := Same.nw ntf
          refine ⟨_, rfl, D2, _, rfl, .inl ⟨SqL.of (s10 _ _ g1), fun ts nts => ⟨by show 3 ≤ sizeLine; decide, fun r nr => ?_⟩⟩⟩
          have hF10 : TupOf PR (upd H9 tf (.tup (fs.map V.ref))) tf fl := ⟨fs, upd_same, pimp hfs fun _ _ e => (e.ts (w8.trans g2).ts).ts s10.ts⟩
          generalize upd H9 tf (.tup (fs.map V.ref)) = H10 at s10 hF10 nts nr ⊢
          have s11 : Same H10 (upd H10 ts (.tup (ws.map vN))) := Same.nw nts
          have hS11 : TN (upd H10 ts (.tup (ws.map vN))) ts ws := upd_same
          generalize upd H10 ts (.tup (ws.map vN)) = H11 at s11 hS11 nr ⊢
          have s12 : Same H11 (upd H11 r (.tup [.ref ta, .ref tf, .ref ts])) := Same.nw nr
          have w12 := (((w4.trans w59).same s10).same s11).same s12
          have sf : Same H10 (upd H11 r (.tup [.ref ta, .ref tf, .ref ts])) := s11.trans s12
          have t5 : TS H5 (upd H11 r (.tup [.ref ta, .ref tf, .ref ts])) := ((w59.same s10).same sf).ts
          have nrH : H r = none := (((w4.trans w59).same s10).same s11).free nr
          refine k _ r ta tf ts (relab names ats) fl ws w12 nrH upd_same (hA5.ts t5 fun _ _ e => e.ts t5) (hF10.ts sf.ts fun _ _ e => e.ts sf.ts) (hS11.ts s12.ts) rok raw ⟨f1, by omega, fun p hp => ⟨by rw [hvl]; exact f2 p hp, f4 p hp⟩⟩ (ond.sublist g3) (fun v hv => by rw [hvl]; exact ob v (g3.subset hv)) (by omega)
end
end K16
set_option Elab.async false
set_option linter.all false
set_option maxRecDepth 100000
set_option maxHeartbeats 4000000
namespace K16
open PySem PySem.Spec PyProof.Rows L2
theorem idx_at {α : Type} [BEq α] [LawfulBEq α] {l : List α} {v : α} (h : v ∈ l) : l[l.idxOf v]? = some v ∧ ∀ m z, m < l.idxOf v → l[m]? = some z → z ≠ v := by
  have hl := List.idxOf_lt_length_iff.mpr h
  refine ⟨by rw [List.getElem?_eq_getElem hl, List.getElem_idxOf hl], fun m z hm hz e => ?_⟩
  subst e
  obtain ⟨hm2, e⟩ := List.getElem?_eq_some_iff.mp hz
  have := List.not_of_lt_findIdx (p := (· == z)) (xs := l) hm
  rw [e] at this
  simp at this
theorem cells_has {size : Nat} : ∀ {w : Nat} {c : List Nat}, c.length = w → (∀ v ∈ c, v < size) → c ∈ cells size w
  | 0, c, h, _ => by
    rw [List.length_eq_zero_iff.mp h]
    exact List.mem_singleton.mpr rfl
  | w + 1, c, h, hb => by
    rcases List.eq_nil_or_concat c with rfl | ⟨i, x, rfl⟩
    · cases h
    · rw [List.concat_eq_append] at h hb ⊢
      rw [List.length_append] at h
      exact List.mem_flatMap.mpr ⟨i, cells_has (by simpa using h) fun v hv => hb v (List.mem_append_left _ hv), List.mem_map.mpr ⟨x, List.mem_range.mpr (hb x (List.mem_append_right _ List.mem_cons_self)), rfl⟩⟩
theorem prodL_len {f : Nat → List Nat} {k : Nat} (h : ∀ i, (f i).length ≤ k) : ∀ n, (prodL f n).length ≤ k ^ n
  | 0 => Nat.le_refl 1
  | n + 1 => by
    rw [Nat.pow_succ]
    refine Nat.le_trans (fm_len' (k := k) fun t _ => ?_) (Nat.mul_le_mul_right _ (prodL_len h n))
    rw [List.length_map]
    exact h n
theorem putK_new {kvs : List (Key × V)} {k : Key} {v : V} (h : k ∉ kvs.map (·.1)) : putK kvs k v = kvs ++ [(k, v)] := by
  unfold putK
  rw [if_neg]
  intro z
  obtain ⟨p, hp, e⟩ := List.any_eq_true.mp z
  exact h (of_decide_eq_true e ▸ List.mem_map_of_mem hp)
theorem merge_nd : ∀ (more acc : List (Key × V)), ((acc ++ more).map (·.1)).Nodup → mergeK acc more = acc ++ more
  | [], acc, _ => (List.append_nil _).symm
  | p :: r, acc, nd => by
    have hk : p.1 ∉ acc.map (·.1) := by
      rw [List.map_append, List.nodup_append] at nd
      exact fun z => nd.2.2 _ z _ List.mem_cons_self rfl
    show mergeK (putK acc p.1 p.2) r = _
    rw [putK_new hk, merge_nd r (acc ++ [p]) (by rw [List.append_assoc]; exact nd), List.append_assoc]
    rfl
/-- a filter within the dict -/
def KR (H : Hp) (kv : Key × V) (x : Nat × List Nat) : Prop := kv.1 = Sum.inl (x.1 : Int) ∧ ∃ q, kv.2 = .ref q ∧ TN H q x.2
theorem kr_of {H : Hp} : ∀ {fs : List Addr} {kept : List (Nat × List Nat)}, Paired (PR H) fs kept → ∃ kvs : List (Key × V), Paired (fun p (kv : Key × V) => H p = some (.tup [kV kv.1, kv.2])) fs kvs ∧ Paired (KR H) kvs kept
  | _, _, .nil => ⟨[], .nil, .nil⟩
  | _, _, .cons (a := a) (b := b) h t => by
    obtain ⟨kvs, h1, h2⟩ := kr_of t
    obtain ⟨q, e1, e2⟩ := h
    exact ⟨(Sum.inl (b.1 : Int), .ref q) :: kvs, .cons e1 h1, .cons ⟨rfl, q, rfl, e2⟩ h2⟩
theorem kr_keys {H : Hp} : ∀ {kvs : List (Key × V)} {kept : List (Nat × List Nat)}, Paired (KR H) kvs kept → kvs.map (·.1) = kept.map fun x => (Sum.inl (x.1 : Int) : Key)
  | _, _, .nil => rfl
  | _, _, .cons h t => by rw [List.map_cons, List.map_cons, kr_keys t, h.1]
theorem kr_get {H : Hp} {size : Nat} (v : Nat) : ∀ {kvs : List (Key × V)} {kept : List (Nat × List Nat)}, Paired (KR H) kvs kept →
    (valV kvs (Sum.inl (v : Int)) = none ∧ allowedL size kept v = List.range size) ∨ ∃ q, valV kvs (Sum.inl (v : Int)) = some (.ref q) ∧ TN H q (allowedL size kept v)
  | _, _, .nil => .inl ⟨rfl, rfl⟩
  | kv :: kvs, x :: kept, .cons h t => by
    obtain ⟨h1, q, h2, h3⟩ := h
    by_cases e : x.1 = v
    · refine .inr ⟨q, ?_, ?_⟩
      · rw [valV_pos (by rw [h1, e]), h2]
      · have : allowedL size (x :: kept) v = x.2 := by
          unfold allowedL
          rw [List.filter_cons, if_pos (decide_eq_true e)]
          rfl
        rw [this]
        exact h3
    · have : allowedL size (x :: kept) v = allowedL size kept v := by
        unfold allowedL
        rw [List.filter_cons, if_neg (fun z => e (of_decide_eq_true z))]
      rw [this, valV_neg (fun z => e (by rw [h1] at z; exact kk.mp z))]
      exact kr_get v t
theorem allowed_len {size : Nat} {kept : List (Nat × List Nat)} (h6 : size ≤ 6) (h : ∀ p ∈ kept, p.2.length ≤ 6) (v : Nat) : (allowedL size kept v).length ≤ 6 := by
  unfold allowedL
  split
  · rw [List.length_range]; exact h6
  · rename_i l r e
    have hm : l ∈ (kept.filter fun p => decide (p.1 = v)).map (·.2) := by rw [e]; exact List.mem_cons_self
    obtain ⟨p, hp, rfl⟩ := List.mem_map.mp hm
    exact h p (List.mem_filter.mp hp).1
theorem allowed_lt {size : Nat} {kept : List (Nat × List Nat)} (h : ∀ p ∈ kept, ∀ x ∈ p.2, x < size) (v : Nat) : ∀ x ∈ allowedL size kept v, x < size := by
  unfold allowedL
  split
  · exact fun x hx => List.mem_range.mp hx
  · rename_i l r e
    have hm : l ∈ (kept.filter fun p => decide (p.1 = v)).map (·.2) := by rw [e]; exact List.mem_cons_self
    obtain ⟨p, hp, rfl⟩ := List.mem_map.mp hm
    exact h p (List.mem_filter.mp hp).1
theorem prd_snoc (l : List Nat) (a : Nat) : prd (l ++ [a]) = prd l * a := by
  rw [prd_app]
  show _ * (a * 1) = _
  rw [Nat.mul_one]
theorem szm {n : Nat} (h : n < 1000000) : n < sizeLine := Nat.lt_of_lt_of_le h (by decide)
theorem eqv_idx {cs : List (List Nat)} {c : List Nat} (h : c ∈ cs) : (cs.map dT)[cs.idxOf c]? = some (dT c) ∧ PyData.eqv (dT c) (dT c) = true ∧ ∀ m z, m < cs.idxOf c → (cs.map dT)[m]? = some z → PyData.eqv z (dT c) = false := by
  obtain ⟨h1, h2⟩ := idx_at h
  refine ⟨by rw [List.getElem?_map, h1]; rfl, by rw [eqv_T]; exact decide_eq_true rfl, fun m z hm hz => ?_⟩
  rw [List.getElem?_map] at hz
  cases hg : cs[m]? with
  | none => rw [hg] at hz; cases hz
  | some y =>
    rw [hg] at hz
    have hz : dT y = z := Option.some.inj hz
    rw [← hz, eqv_T]
    exact decide_eq_false (h2 m y hm hg)
section
variable {P : Program} {w : World} {K : PySem.W.Frag} {mg : Str → Option Value} {base : Heap} {CS CD CQ : Addr}
def LateOk (widths : List Nat) (tabs : List (List Nat)) (size many : Nat) (late : List (Nat × List Nat)) : Prop :=
  1 ≤ late.length ∧ late.length ≤ 3 ∧ many ≤ 6 ∧ 1 ≤ many ∧ (∃ p ∈ late, many - 1 ∈ p.2) ∧ ∀ p ∈ late, widths[p.1]? = some p.2.length ∧ 1 ≤ p.2.length ∧ p.2.length ≤ 2 ∧ (∀ u ∈ p.2, u < many) ∧ ∃ tab, tabs[p.1]? = some tab ∧ tab.length = size ^ p.2.length ∧ ∀ c ∈ tab, c ≤ 9
def KeptOk (size : Nat) (kept : List (Nat × List Nat)) : Prop := (kept.map (·.1)).Nodup ∧ kept.length ≤ 6 ∧ ∀ p ∈ kept, p.2.length ≤ 6 ∧ ∀ x ∈ p.2, x < size
def spAssigned : Sp := fun vs H Q _ => ∃ (q tb a f : Addr) (size many : Nat) (widths : List Nat) (tabs : List (List Nat)) (late kept : List (Nat × List Nat)), vs = [vN size, .ref q, .ref tb, .ref a, .ref f] ∧ size ≤ 3 ∧ TN H q widths ∧ LstOf LN H tb tabs ∧ LstOf PR H a late ∧ LstOf PR H f kept ∧
  LateOk widths tabs size many late ∧ KeptOk size kept ∧ ∀ H' p, Same H H' → H p = none → LstOf FR H' p (asgL size tabs late kept many) → Q (.ref p) H'
theorem sc__law_assigned : FnScope ["_law_size", "_law_widths", "_law_tables_here", "_law_atoms", "_law_filters", "_law_table", "_law_variables", "_law_many", "_law_found", "_law_kept", "_law_variable", "_law_late", "_law_some", "_law_rows", "_law_count", "_law_cell", "_law_at", "_law_value"] ["_law_size", "_law_widths", "_law_tables_here", "_law_atoms", "_law_filters"] (defScope s__law_assigned) := ⟨rfl, rfl, rfl, by decide +kernel, rfl, by decide +kernel, by decide +kernel⟩
theorem ok_assigned (T : Tx K mg) (h : Has K mg "_law_assigned" s__law_assigned) (c__law_cells : Cal P w K mg base 1 "_law_cells" spLawCells) : Cal P w K mg base 2 "_law_assigned" spAssigned := by
  refine cal_of h sc__law_assigned (fun _ _ _ _ _ _ us hl => match us, hl with | [_, _, _, _, _], _ => rfl) (fun vs H Q E h => ?_) (fun f cdv A outer s H vs Q E hr h => ?_)
  · obtain ⟨_, _, _, _, _, _, _, _, _, _, rfl, _⟩ := h
    rfl
  · obtain ⟨q, tb, a, fa, size, many, widths, tabs, late, kept, rfl, h3, hq, ⟨tbs, htb, htbs⟩, ⟨xa, ha, hxa⟩, ⟨fs, hf, hfs⟩, ⟨l1, l3, m6, m1, hmx, hlt⟩, ⟨kn, k6, kb⟩, k⟩ := h
    have hu65 : (A.deeper (envOfC "_law_assigned" (defScope s__law_assigned) s.heap.objs.size f cdv)).units + 65 < cLine := by have := hr.un; omega
    have hu := hu_of hr
    have hxl := plen hxa
    refine ⟨_, (pss_cons (ps_set (i := 7) sc__law_assigned.nd rfl (Or.inl rfl) (pe_op op_add pe_int (pe_callB (kmax K rfl) (by rfl) T.bMax (by decide +kernel) (pa_cons (pe_lc (own := [("_law_table", 5), ("_law_variables", 6)]) (by rfl) sc__law_assigned.nd (kpl K (pv 3)) (blkOk_by (own := [("_law_table", 5), ("_law_variables", 6)]) (N := ["_law_size", "_law_widths", "_law_tables_here", "_law_atoms", "_law_filters", "_law_table", "_law_variables", "_law_many", "_law_found", "_law_kept", "_law_variable", "_law_late", "_law_some", "_law_rows", "_law_count", "_law_cell", "_law_at", "_law_value"]) (sc := defScope s__law_assigned) (by decide +kernel)) (fun _ _ _ _ _ => (kgtup K (n := 2) rfl (pgs_cons (pg_name (i := 5) sc__law_assigned.nd rfl (Or.inl rfl)) (pgs_cons (pg_name (i := 6) sc__law_assigned.nd rfl (Or.inl rfl)) pgs_nil)))) (fun _ _ _ _ _ => pts_nil) (fun _ _ _ _ _ => (pe_callB (kmaxT K rfl) (by rfl) T.bMax (by decide +kernel) (pa_cons (pv 6) pa_nil)))) pa_nil))))
      (pss_cons (ps_par (i := 8) (j := 9) (by rfl) sc__law_assigned.nd rfl rfl (by decide) rfl rfl (pa_cons (pe_lst (pa_cons (pe_tup pa_nil) pa_nil)) (pa_cons (pe_callTy (kdictP K rfl) (by rfl) T.bDict (by decide +kernel) (pa_cons (pv 4) pa_nil)) pa_nil)) (by rfl))
      (pss_cons (ps_for PassesOwn.never rfl (pi_range1 (by rfl) T.bRange (pa_cons (pv 7) pa_nil)) (pg_name (i := 10) sc__law_assigned.nd rfl (Or.inl rfl)) (pss_cons (ps_set (i := 11) sc__law_assigned.nd rfl (Or.inl rfl) (pe_lst pa_nil))
      (pss_cons (ps_for PassesOwn.never rfl (kpl K (pv 8)) (pg_name (i := 12) sc__law_assigned.nd rfl (Or.inr rfl)) (pss_one (ps_set (i := 11) sc__law_assigned.nd rfl (Or.inl rfl) (pe_op op_cat (pv 11) (pe_lc (own := [("_law_value", 17)]) (by rfl) sc__law_assigned.nd (kpt K (pe_dget2 hu (pv 9) (pv 10) (pe_tupRg rfl (by rfl) T.bTuple (prg_1 (by rfl) T.bRange (pv 0))) ⟨rfl, rfl, rfl, rfl⟩)) (blkOk_by (own := [("_law_value", 17)]) (N := ["_law_size", "_law_widths", "_law_tables_here", "_law_atoms", "_law_filters", "_law_table", "_law_variables", "_law_many", "_law_found", "_law_kept", "_law_variable", "_law_late", "_law_some", "_law_rows", "_law_count", "_law_cell", "_law_at", "_law_value"]) (sc := defScope s__law_assigned) (by decide +kernel)) (fun _ _ _ _ _ => (pg_name (i := 17) sc__law_assigned.nd rfl (Or.inl rfl))) (fun _ _ _ _ _ => pts_nil) (fun _ _ _ _ _ => (pe_op (kcatA K) (pv 12) (pe_tup (pa_cons (pv 17) pa_nil)))))))))
      (pss_one (ps_set (i := 8) sc__law_assigned.nd rfl (Or.inl rfl) (pv 11))))))
      (pss_cons (ps_set (i := 13) sc__law_assigned.nd rfl (Or.inl rfl) (pe_lst pa_nil))
      (pss_cons (ps_for PassesOwn.never rfl (kpl K (pv 8)) (pg_name (i := 12) sc__law_assigned.nd rfl (Or.inr rfl)) (pss_cons (ps_set (i := 14) sc__law_assigned.nd rfl (Or.inl rfl) pe_int)
      (pss_cons (ps_for PassesOwn.never rfl (kpl K (pv 3)) (kgtup K (n := 2) rfl (pgs_cons (pg_name (i := 5) sc__law_assigned.nd rfl (Or.inl rfl)) (pgs_cons (pg_name (i := 6) sc__law_assigned.nd rfl (Or.inl rfl)) pgs_nil))) (pss_cons (ps_set (i := 15) sc__law_assigned.nd rfl (Or.inl rfl) (pe_callTy (ktupOf K) (by rfl) T.bTuple (by decide +kernel) (pa_cons (pe_lc (own := [("_law_variable", 10)]) (by rfl) sc__law_assigned.nd (kpt K (pv 6)) (blkOk_by (own := [("_law_variable", 10)]) (N := ["_law_size", "_law_widths", "_law_tables_here", "_law_atoms", "_law_filters", "_law_table", "_law_variables", "_law_many", "_law_found", "_law_kept", "_law_variable", "_law_late", "_law_some", "_law_rows", "_law_count", "_law_cell", "_law_at", "_law_value"]) (sc := defScope s__law_assigned) (by decide +kernel)) (fun _ _ _ _ _ => (pg_name (i := 10) sc__law_assigned.nd rfl (Or.inl rfl))) (fun _ _ _ _ _ => pts_nil) (fun _ _ _ _ _ => (pe_ix (kixT K) (pv 12) (pv 10) (fun _ _ => rfl)))) pa_nil)))
      (pss_cons (ps_set (i := 16) sc__law_assigned.nd rfl (Or.inl rfl) (kidx K (kindexD K hu65) (pc c__law_cells hr (by decide) (by rfl) (pa_cons (pv 0) (pa_cons (pe_ix (kixT K) (pv 1) (pv 5) (fun _ _ => rfl)) pa_nil))) (pa_cons (pv 15) pa_nil)))
      (pss_one (ps_set (i := 14) sc__law_assigned.nd rfl (Or.inl rfl) (pe_op op_mul (pv 14) (pe_ix (kixL K) (pe_ix (kixL K) (pv 2) (pv 5) (fun _ _ => rfl)) (pv 16) (fun _ _ => rfl))))))))
      (pss_one (ps_set (i := 13) sc__law_assigned.nd rfl (Or.inl rfl) (pe_op op_cat (pv 13) (pe_ifExp (pt_cmpR op_gt (pv 14) pe_int (nomark _)) (pe_lst (pa_cons (pe_tup (pa_cons (pv 12) (pa_cons (pv 14) pa_nil))) pa_nil)) (pe_lst pa_nil))))))))
      (pss_one (ps_ret (pv 13)))))))), ?_⟩
    -- many
    refine ⟨_, rfl, a, rfl, ⟨_, SqL.of ha⟩, fun D hD => it_core (walk_list (K := K) (a := a) (xs := xa.map V.ref)) (fun i H1 => ∃ ms : List Nat, H1 D = some (.lst (ms.map vN)) ∧ Same H H1 ∧ ms.length = i ∧ (∀ m ∈ ms, m < many) ∧ ∀ j p, j < i → late[j]? = some p → ∀ u ∈ p.2, ∃ m ∈ ms, u ≤ m) ⟨[], upd_same, Same.nw hD, rfl, fun m hm => (by cases hm), fun j p hj => absurd hj (Nat.not_lt_zero _)⟩ (fun _ H1 _ ⟨_, _, e, _⟩ => e.seq (SqL.of ha)) ?_ ?_⟩
    · rintro i x H1 H2 hi ⟨ms, g1, g2, g3, g4, g5⟩ ⟨rfl, hx⟩
      rw [List.length_map] at hi
      obtain rfl := at_map hi hx
      have hi2 : i < late.length := by omega
      obtain ⟨qv, p1, p2⟩ := pget hxa (List.getElem?_eq_getElem hi) (List.getElem?_eq_getElem hi2)
      obtain ⟨w1, w2, w3, w4, w5⟩ := hlt _ (List.getElem_mem hi2)
      refine ⟨xa[i], _, rfl, SqT.of (g2 _ _ p1), rfl, _, _, rfl, _, _, rfl, rfl, rfl, lc_yes ?_⟩
      refine ⟨_, rfl, qv, late[i].2.map fun (n : Nat) => (n : Int), rfl, SqT.of (by rw [← vN_map]; exact g2 _ _ p2), by rw [List.length_map]; omega, fun m hm hle => ?_⟩
      obtain ⟨m0, hm0, rfl⟩ := List.mem_map.mp hm
      refine ⟨_, g1, szs (by rw [List.length_map]; omega), ms ++ [m0], by rw [upd_same, List.map_append]; rfl, g2.mt hD, by rw [List.length_append, g3]; rfl, fun m hm => ?_, fun j p hj hp u hu => ?_⟩
      · rcases List.mem_append.mp hm with e | e
        · exact g4 m e
        · rw [List.mem_singleton.mp e]; exact w4 _ hm0
      · by_cases hji : j < i
        · obtain ⟨m, hm, e⟩ := g5 j p hji hp u hu
          exact ⟨m, List.mem_append_left _ hm, e⟩
        · have : j = i := by omega
          subst this
          rw [List.getElem?_eq_getElem hi2] at hp
          have hp := Option.some.inj hp
          subst hp
          refine ⟨m0, List.mem_append_right _ List.mem_cons_self, ?_⟩
          have := hle (u : Int) (List.mem_map_of_mem hu)
          omega
    rintro H1 ⟨ms, g1, g2, g3, g4, g5⟩
    rw [List.length_map, hxl] at g3 g5
    refine ⟨D, ms.map fun (n : Nat) => (n : Int), rfl, SqL.of (by rw [g1, vN_map]), by rw [List.length_map]; omega, fun m hm hle => ⟨_, _, rfl, rfl, ?_⟩⟩
    have hmany : (1 : Int) + m = (many : Int) := by
      obtain ⟨m0, hm0, rfl⟩ := List.mem_map.mp hm
      obtain ⟨p, hp, hu⟩ := hmx
      obtain ⟨j, hj, rfl⟩ := List.mem_iff_getElem.mp hp
      obtain ⟨m', hm', e⟩ := g5 j _ hj (List.getElem?_eq_getElem hj) _ hu
      have h1 := hle (m' : Int) (List.mem_map_of_mem hm')
      have h2 := g4 _ hm0
      omega
    refine ⟨by show 0 ≤ sizeLine; decide, fun t0 n0 => ⟨by show 1 ≤ sizeLine; decide, fun l0 m0 => ?_⟩⟩
    have s2 : Same H1 (upd (upd H1 t0 (.tup [])) l0 (.lst [.ref t0])) := (Same.nw n0).trans (Same.nw m0)
    have hl0 : LstOf TN (upd (upd H1 t0 (.tup [])) l0 (.lst [.ref t0])) l0 (prodL (allowedL size kept) 0) := ⟨[t0], upd_same, .cons ((Same.nw m0) _ _ upd_same) .nil⟩
    have nl0 : H l0 = none := (g2.trans (Same.nw n0)).free m0
    generalize upd (upd H1 t0 (.tup [])) l0 (.lst [.ref t0]) = H2 at s2 hl0
    have s02 := g2.trans s2
    obtain ⟨kvs, kp1, kp2⟩ := kr_of hfs
    have ekv : mergeK [] kvs = kvs := merge_nd kvs [] (by
      rw [List.nil_append, kr_keys kp2]
      refine (List.pairwise_map.mp kn).map _ ?_
      exact fun a b hab z => hab (kk.mp z))
    refine ⟨_, rfl, fa, fs, kvs, rfl, SqL.of (s02 _ _ hf), pimp kp1 (fun _ _ e => SqT.of (s02 _ _ e)), fun kp nkp => ⟨_, _, rfl, ?_⟩⟩
    rw [ekv]
    have s3 : Same H2 (upd H2 kp (.dK kvs)) := Same.nw nkp
    have hkp : (upd H2 kp (.dK kvs)) kp = some (.dK kvs) := upd_same
    have hl3 : LstOf TN (upd H2 kp (.dK kvs)) l0 (prodL (allowedL size kept) 0) := hl0.sd s3.sd fun _ _ e => e.ts s3.ts
    generalize upd H2 kp (.dK kvs) = H3 at s3 hkp hl3
    have s03 := s02.trans s3
    have hal := allowed_len (size := size) (kept := kept) (by omega) fun p hp => (kb p hp).1
    have hab := allowed_lt (size := size) (kept := kept) fun p hp => (kb p hp).2
    have hget := fun v => kr_get (size := size) v kp2
    generalize hF : allowedL size kept = F at hal hab hget hl3
    have hpl : ∀ i, i ≤ 6 → (prodL F i).length ≤ 46656 := fun i hi => Nat.le_trans (prodL_len hal i) (Nat.le_trans (Nat.pow_le_pow_right (by decide) hi) (by decide))
    refine ⟨_, rfl, 1 + m, rfl, by omega, by omega, for_it walk_range (fun i σ H4 => ∃ (c10 c11 c12 : Option V) (p : Addr), σ = [some (vN size), some (.ref q), some (.ref tb), some (.ref a), some (.ref fa), none, none, some (.int (1 + m)), some (.ref p), some (.ref kp), c10, c11, c12, none, none, none, none, none] ∧ Same H3 H4 ∧ H p = none ∧ LstOf TN H4 p (prodL F i)) ⟨none, none, none, l0, rfl, Same.refl _, nl0, hl3⟩ (fun _ _ _ _ _ => trivial) ?_ ?_⟩
    · rintro i x σ H4 H4' hi ⟨c10, c11, c12, p, rfl, s4, np, ys, hp, hys⟩ ⟨rfl, rfl⟩
      have hi2 : i < many := by omega
      have hyl := plen hys
      have hpi := hpl i (by omega)
      refine ⟨by show 0 ≤ sizeLine; decide, fun lt nlt => ?_⟩
      have s5 : Same H4' (upd H4' lt (.lst [])) := Same.nw nlt
      have hp5 := s5 _ _ hp
      refine ⟨_, rfl, p, rfl, ⟨_, SqL.of hp5⟩, for_it (walk_list (K := K) (a := p) (xs := ys.map V.ref)) (fun j σ H5 => ∃ (c12 : Option V) (p2 : Addr), σ = [some (vN size), some (.ref q), some (.ref tb), some (.ref a), some (.ref fa), none, none, some (.int (1 + m)), some (.ref p), some (.ref kp), some (.int (0 + (i : Int))), some (.ref p2), c12, none, none, none, none, none] ∧ Same H4' H5 ∧ H p2 = none ∧
        LstOf TN H5 p2 (((prodL F i).take j).flatMap fun t => (F i).map fun x => t ++ [x])) ⟨c12, lt, rfl, s5, (s03.trans s4).free nlt, [], upd_same, .nil⟩ (fun _ _ H5 _ ⟨_, _, _, e, _⟩ => e.seq (SqL.of hp)) ?_ ?_⟩
      · rintro j x σ H5 H5' hj ⟨c12, p2, rfl, s5, np2, zs, hp2, hzs⟩ ⟨rfl, hx⟩
        rw [List.length_map] at hj
        obtain rfl := at_map hj hx
        have hj2 : j < (prodL F i).length := by omega
        have ht := (pget hys (List.getElem?_eq_getElem hj) (List.getElem?_eq_getElem hj2)).ts s5.ts
        have hts := take_s hj2
        have htl := (prodL_mem (List.getElem_mem hj2)).1
        generalize (prodL F i)[j] = tp at ht hts htl
        have hzl := plen hzs
        have hzb : zs.length ≤ 46656 * 6 := by
          rw [hzl]
          refine Nat.le_trans (fm_len' (k := 6) fun t _ => by rw [List.length_map]; exact hal i) ?_
          rw [List.length_take]
          omega
        have s35 := s4.trans s5
        have hkp5 := s35 _ _ hkp
        refine ⟨_, rfl, _, rfl, kp, rfl, .inl ⟨_, .of hkp5⟩, _, rfl, _, rfl, (size : Int), rfl, .of_le (by omega) (by omega) (by omega) (by omega), fun tr ntr => ?_⟩
        have s6 : Same H5' (upd H5' tr (.tup (rgV 0 (size : Nat)))) := Same.nw ntr
        have htr : TN (upd H5' tr (.tup (rgV 0 (size : Nat)))) tr (List.range size) := by
          show _ = _
          rw [upd_same, rg_vN]
        generalize upd H5' tr (.tup (rgV 0 (size : Nat))) = H6 at s6 htr
        have s06 := (s03.trans s35).trans s6
        have hval : ∃ ra, (valV kvs (Sum.inl (0 + (i : Int)))).getD (V.ref tr) = V.ref ra ∧ TN H6 ra (F i) := by
          rw [Int.zero_add]
          rcases hget i with ⟨e1, e2⟩ | ⟨q2, e1, e2⟩
          · rw [e1, e2]
            exact ⟨tr, rfl, htr⟩
          · rw [e1]
            exact ⟨q2, rfl, s06 _ _ e2⟩
        obtain ⟨ra, hra, hra2⟩ := hval
        refine ⟨_, DGet.k (k := Sum.inl (0 + (i : Int))) (s6 _ _ hkp5), ?_⟩
        rw [hra]
        refine ⟨ra, rfl, ⟨_, SqT.of hra2⟩, fun D2 hD2 => it_core (walk_tup (K := K) (a := ra) (xs := (F i).map vN)) (fun v H7 => ∃ us : List Addr, H7 D2 = some (.lst (us.map V.ref)) ∧ Same H6 H7 ∧ Paired (TN H7) us (((F i).take v).map fun x => tp ++ [x])) ⟨[], upd_same, Same.nw hD2, .nil⟩ (fun _ H7 _ ⟨_, _, e, _⟩ => e.tp (SqT.of hra2)) ?_ ?_⟩
        · rintro v x H7 H8 hv ⟨us, u1, u2, u3⟩ ⟨rfl, hx⟩
          rw [List.length_map] at hv
          obtain rfl := at_map hv hx
          have hul := plen u3
          rw [List.length_map, List.length_take] at hul
          have hFl := hal i
          have ht7 := (ht.ts s6.ts).ts u2.ts
          have fin : ∀ (H9 : Hp) (t : Addr), Same H8 H9 → TN H9 t (tp ++ [(F i)[v]]) → ∃ acc, H9 D2 = some (.lst acc) ∧ acc.length < sizeLine ∧ ∃ us : List Addr, (upd H9 D2 (.lst (acc ++ [V.ref t]))) D2 = some (.lst (us.map V.ref)) ∧ Same H6 (upd H9 D2 (.lst (acc ++ [V.ref t]))) ∧ Paired (TN (upd H9 D2 (.lst (acc ++ [V.ref t])))) us (((F i).take (v + 1)).map fun x => tp ++ [x]) := by
            intro H9 t s9 ht9
            have h9 := s9 _ _ u1
            refine ⟨_, h9, szs (by rw [List.length_map]; omega), us ++ [t], by rw [upd_same, List.map_append]; rfl, (u2.trans s9).mt hD2, ?_⟩
            rw [take_s hv, List.map_append]
            exact psnoc (ptn (s9.ts.trans (TS.updL h9)) u3) (ht9.ts (TS.updL h9))
          refine ⟨rfl, lc_yes ?_⟩
          refine ⟨_, rfl, _, rfl, by show 1 ≤ sizeLine; decide, fun t1 nt1 => ?_⟩
          have s9 : Same H8 (upd H8 t1 (.tup [vN (F i)[v]])) := Same.nw nt1
          have ht1 : (upd H8 t1 (.tup [vN (F i)[v]])) t1 = some (.tup [vN (F i)[v]]) := upd_same
          refine ⟨ys[j], t1, _, _, rfl, rfl, SqT.of (s9 _ _ ht7), SqT.of ht1, szl (by rw [List.length_map]; show _ + 1 ≤ _; omega), fun e0 => ?_, fun _ e1 => (by cases e1), fun _ _ p9 np9 => ?_⟩
          · have e0 : tp = [] := List.map_eq_nil_iff.mp e0
            refine fin _ _ s9 ?_
            rw [e0]
            exact ht1
          · refine fin _ _ (s9.trans (Same.nw np9)) ?_
            show _ = some _
            rw [upd_same, List.map_append]
            rfl
        · rintro H7 ⟨us, u1, u2, u3⟩
          rw [List.length_map, List.take_length] at u3
          have hul := plen u3
          rw [List.length_map] at hul
          have hFl := hal i
          have s57 := s6.trans u2
          refine ⟨p2, D2, _, _, rfl, rfl, s57 _ _ hp2, u1, Nat.le_of_lt (szm (by rw [List.length_map, List.length_map]; omega)), fun p3 np3 => ?_⟩
          have s8 : Same H7 (upd H7 p3 (.lst (zs.map V.ref ++ us.map V.ref))) := Same.nw np3
          refine ⟨_, p3, rfl, (s5.trans s57).trans s8, ((s03.trans s4).trans (s5.trans s57)).free np3, zs ++ us, by rw [upd_same, List.map_append], ?_⟩
          rw [hts, List.flatMap_append]
          have e1 : ([tp].flatMap fun t => (F i).map fun x => t ++ [x]) = (F i).map fun x => tp ++ [x] := by simp
          rw [e1]
          exact papp (ptn (s57.trans s8).ts hzs) (ptn s8.ts u3)
      · rintro σ H5 ⟨c12, p2, rfl, s5, np2, hp2⟩
        rw [List.length_map, hyl, List.take_length] at hp2
        exact ⟨_, rfl, _, _, _, p2, rfl, s4.trans s5, np2, hp2⟩
    rintro σ H4 ⟨c10, c11, c12, p, rfl, s4, np, ys, hp, hys⟩
    have en : (1 + m).toNat = many := by omega
    rw [en] at hys
    have s04 := s03.trans s4
    have hyl := plen hys
    have hpm := hpl many m6
    refine ⟨by show 0 ≤ sizeLine; decide, fun rt nrt => ?_⟩
    have s5 : Same H4 (upd H4 rt (.lst [])) := Same.nw nrt
    refine ⟨_, rfl, p, rfl, ⟨_, SqL.of (s5 _ _ hp)⟩, for_it (walk_list (K := K) (a := p) (xs := ys.map V.ref)) (fun j σ H5 => ∃ (c5 c6 c12 c14 c15 c16 : Option V) (p3 : Addr), σ = [some (vN size), some (.ref q), some (.ref tb), some (.ref a), some (.ref fa), c5, c6, some (.int (1 + m)), some (.ref p), some (.ref kp), c10, c11, c12, some (.ref p3), c14, c15, c16, none] ∧ Same H4 H5 ∧ H p3 = none ∧
      LstOf FR H5 p3 ((((prodL F many).take j).map fun t => (t, lawW size tabs t late)).filter fun p => decide (0 < p.2))) ⟨none, none, c12, none, none, none, rt, rfl, s5, s04.free nrt, [], upd_same, .nil⟩ (fun _ _ H5 _ ⟨_, _, _, _, _, _, _, _, e, _⟩ => e.seq (SqL.of hp)) ?_ ?_⟩
    · rintro j x σ H5 H5' hj ⟨c5, c6, c12, c14, c15, c16, p3, rfl, s5, np3, rs, hp3, hrs⟩ ⟨rfl, hx⟩
      rw [List.length_map] at hj
      obtain rfl := at_map hj hx
      have hj2 : j < (prodL F many).length := by omega
      have ht := (pget hys (List.getElem?_eq_getElem hj) (List.getElem?_eq_getElem hj2)).ts s5.ts
      have hts := take_s hj2
      obtain ⟨htl, htv⟩ := prodL_mem (List.getElem_mem hj2)
      generalize (prodL F many)[j] = tp at ht hts htl htv
      have s05 := s04.trans s5
      refine ⟨_, rfl, a, rfl, ⟨_, SqL.of (s05 _ _ ha)⟩, for_it (walk_list (K := K) (a := a) (xs := xa.map V.ref)) (fun i σ H6 => ∃ (c5 c6 c15 c16 : Option V), σ = [some (vN size), some (.ref q), some (.ref tb), some (.ref a), some (.ref fa), c5, c6, some (.int (1 + m)), some (.ref p), some (.ref kp), c10, c11, some (.ref ys[j]), some (.ref p3), some (vN (prd ((late.take i).map (wt size tabs fun v => tp.getD v 0)))), c15, c16, none] ∧ Same H5' H6) ⟨c5, c6, c15, c16, rfl, Same.refl _⟩ (fun _ _ H6 _ ⟨_, _, _, _, _, e⟩ => (s05.trans e).seq (SqL.of ha)) ?_ ?_⟩
      · rintro i x σ H6 H6' hi ⟨c5, c6, c15, c16, rfl, s6⟩ ⟨rfl, hx⟩
        rw [List.length_map] at hi
        obtain rfl := at_map hi hx
        have hi2 : i < late.length := by omega
        obtain ⟨qv, p1, p2⟩ := pget hxa (List.getElem?_eq_getElem hi) (List.getElem?_eq_getElem hi2)
        obtain ⟨w1, w2, w3, w4, tab, t1, t2, t3⟩ := hlt _ (List.getElem_mem hi2)
        have hts2 := take_s hi2
        have s06 := s05.trans s6
        have p2' := s06 _ _ p2
        refine ⟨xa[i], _, rfl, SqT.of (s06 _ _ p1), rfl, _, _, rfl, _, _, rfl, rfl, ?_⟩
        generalize late[i] = lp at p2 p2' w1 w2 w3 w4 t1 t2 hts2 ⊢
        refine ⟨_, rfl, qv, rfl, ⟨_, SqT.of p2'⟩, fun D2 hD2 => it_core (walk_tup (K := K) (a := qv) (xs := lp.2.map vN)) (LcI D2 fun v acc H7 => acc = ((lp.2.take v).map fun u => tp.getD u 0).map vN ∧ Same H6' H7) ⟨[], upd_same, Nat.le_refl _, rfl, Same.nw hD2⟩ (fun _ H7 _ ⟨_, _, _, _, e⟩ => e.tp (SqT.of p2')) ?_ ?_⟩
        · rintro v x H7 H8 hv ⟨acc, g1, g2, g3, g4⟩ ⟨rfl, hx⟩
          rw [List.length_map] at hv
          obtain rfl := at_map hv hx
          have hul : lp.2[v] < tp.length := by
            have := w4 _ (List.getElem_mem hv)
            omega
          refine ⟨rfl, lc_yes ?_⟩
          refine ⟨_, rfl, _, rfl, ys[j], _, (lp.2[v] : Int), vN (tp.getD lp.2[v] 0), rfl, rfl, SqT.of (g4 _ _ (s6 _ _ ht)), atI_nat ?_, lc_end g1 g2 hv (by omega) ⟨?_, g4.mt hD2⟩⟩
          · rw [List.getElem?_map, List.getD_eq_getElem?_getD, List.getElem?_eq_getElem hul]
            rfl
          · rw [g3, take_s hv, List.map_append, List.map_append]
            rfl
        rintro H7 ⟨acc, g1, g2, g3, g4⟩
        rw [List.length_map, List.take_length] at g3
        refine ⟨D2, _, rfl, .inl ⟨SqL.of g1, fun ct nct => ?_⟩⟩
        have hcm : (lp.2.map fun u => tp.getD u 0) ∈ cells size lp.2.length := by
          refine cells_has (List.length_map ..) fun v hv => ?_
          obtain ⟨u, hu', rfl⟩ := List.mem_map.mp hv
          exact hab u _ (htv u (w4 u hu'))
        have hwt : wt size tabs (fun v => tp.getD v 0) lp = tab.getD ((cells size lp.2.length).idxOf (lp.2.map fun u => tp.getD u 0)) 0 := by
          unfold wt
          rw [t1]
          rfl
        have hil := List.idxOf_lt_length_iff.mpr hcm
        rw [cells_len, ← t2] at hil
        rw [g3]
        generalize hcell : (lp.2.map fun u => tp.getD u 0) = cell at hcm hwt hil g3
        have s7 : Same H6' (upd H7 ct (.tup (cell.map vN))) := g4.trans (Same.nw nct)
        have hct : TN (upd H7 ct (.tup (cell.map vN))) ct cell := upd_same
        generalize upd H7 ct (.tup (cell.map vN)) = H8 at s7 hct
        have s08 := s06.trans s7
        obtain ⟨e1, e2, e3⟩ := eqv_idx hcm
        have hwl : widths[lp.1]? = some lp.2.length := w1
        refine ⟨_, rfl, _, rfl, _, rfl, q, _, (lp.1 : Int), vN lp.2.length, rfl, rfl, SqT.of (s08 _ _ hq), atI_nat (by rw [List.getElem?_map, hwl]; rfl), size, lp.2.length, rfl, by omega, w2, w3, fun H9 cp s9 ncp ⟨cs, hcp, hcs⟩ => ⟨.inl ⟨rfl, _, SqL.of hcp⟩, _, rfl, cp, _, dT cell, (cells size lp.2.length).map dT, (cells size lp.2.length).idxOf cell, dT cell, rfl, rfl, dp_LT ⟨cs, hcp, hcs⟩, dp_TN (s9 _ _ hct), shp_LT _, shp_T _, e1, e2, e3, ?_⟩⟩
        have s09 := s08.trans s9
        obtain ⟨htl2, et⟩ := List.getElem?_eq_some_iff.mp t1
        have htbl := plen htbs
        have htbi : lp.1 < tbs.length := by omega
        have htab := pget htbs (List.getElem?_eq_getElem htbi) t1
        have htab9 : H9 tbs[lp.1] = some (.lst (tab.map vN)) := s09 _ _ htab
        have hgd : tab.getD ((cells size lp.2.length).idxOf cell) 0 = tab[(cells size lp.2.length).idxOf cell] := by
          rw [List.getD_eq_getElem?_getD, List.getElem?_eq_getElem hil]
          rfl
        have h9 := t3 _ (List.getElem_mem hil)
        refine ⟨_, rfl, _, rfl, _, rfl, tb, _, (lp.1 : Int), .ref tbs[lp.1], rfl, rfl, SqL.of (s09 _ _ htb), atI_nat (by rw [List.getElem?_map, List.getElem?_eq_getElem htbi]; rfl), _, rfl, tbs[lp.1], _, (((cells size lp.2.length).idxOf cell : Nat) : Int), vN tab[(cells size lp.2.length).idxOf cell], rfl, rfl, SqL.of htab9, atI_nat (by rw [List.getElem?_map, List.getElem?_eq_getElem hil]; rfl), _, _, rfl, rfl, .inr ⟨by show -(2 ^ 64) < ((tab[(cells size lp.2.length).idxOf cell] : Nat) : Int); omega, by show ((tab[(cells size lp.2.length).idxOf cell] : Nat) : Int) < 2 ^ 64; omega⟩, ?_⟩
        refine ⟨some (vN lp.1), some (.ref qv), some (.ref ct), some (vN ((cells size lp.2.length).idxOf cell)), ?_, s6.trans (s7.trans s9)⟩
        rw [hts2, List.map_append]
        show _ = [_, _, _, _, _, _, _, _, _, _, _, _, _, _, some (vN (prd (_ ++ [wt size tabs (fun v => tp.getD v 0) lp]))), _, _, _]
        rw [prd_snoc, hwt, hgd]
        show [_, _, _, _, _, _, _, _, _, _, _, _, _, _, some (V.int (((prd ((late.take i).map (wt size tabs fun v => tp.getD v 0)) : Nat) : Int) * ((tab[(cells size lp.2.length).idxOf cell] : Nat) : Int))), _, _, _] = [_, _, _, _, _, _, _, _, _, _, _, _, _, _, some (V.int ((_ * _ : Nat) : Int)), _, _, _]
        rw [Int.natCast_mul]
      · rintro σ H6 ⟨c5, c6, c15, c16, rfl, s6⟩
        rw [List.length_map, hxl, List.take_length]
        have elw : prd (late.map (wt size tabs fun v => tp.getD v 0)) = lawW size tabs tp late := rfl
        rw [elw]
        have hrl := plen hrs
        have hrb : rs.length ≤ 46656 := by
          rw [hrl]
          refine Nat.le_trans (List.length_filter_le ..) ?_
          rw [List.length_map, List.length_take]
          omega
        have hp36 := s6 _ _ hp3
        have efl : ((((prodL F many).take (j + 1)).map fun t => (t, lawW size tabs t late)).filter fun p => decide (0 < p.2)) = ((((prodL F many).take j).map fun t => (t, lawW size tabs t late)).filter fun p => decide (0 < p.2)) ++ if 0 < lawW size tabs tp late then [(tp, lawW size tabs tp late)] else [] := by
          rw [hts, List.map_append, List.filter_append]
          congr 1
          by_cases hc : 0 < lawW size tabs tp late
          · simp [hc]
          · simp [hc]
        refine ⟨_, rfl, _, rfl, _, _, rfl, rfl, _, rfl, ?_⟩
        by_cases hc : 0 < lawW size tabs tp late
        · rw [if_pos hc] at efl
          refine itT (decide_eq_true (by show ((lawW size tabs tp late : Nat) : Int) > 0; omega)) ?_
          refine ⟨_, rfl, _, rfl, by show 2 ≤ sizeLine; decide, fun tt ntt => ⟨by show 1 ≤ sizeLine; decide, fun ll nll => ?_⟩⟩
          have s7 : Same H6 (upd (upd H6 tt (.tup [.ref ys[j], vN (lawW size tabs tp late)])) ll (.lst [.ref tt])) := (Same.nw ntt).trans (Same.nw nll)
          have htt : (upd (upd H6 tt (.tup [.ref ys[j], vN (lawW size tabs tp late)])) ll (.lst [.ref tt])) tt = some (.tup [.ref ys[j], vN (lawW size tabs tp late)]) := (Same.nw nll) _ _ upd_same
          have hll : (upd (upd H6 tt (.tup [.ref ys[j], vN (lawW size tabs tp late)])) ll (.lst [.ref tt])) ll = some (.lst [.ref tt]) := upd_same
          generalize upd (upd H6 tt (.tup [.ref ys[j], vN (lawW size tabs tp late)])) ll (.lst [.ref tt]) = H7 at s7 htt hll
          refine ⟨p3, ll, _, _, rfl, rfl, s7 _ _ hp36, hll, Nat.le_of_lt (szm (by rw [List.length_map]; show _ + 1 < _; omega)), fun p4 np4 => ?_⟩
          have s8 : Same H7 (upd H7 p4 (.lst (rs.map V.ref ++ [.ref tt]))) := Same.nw np4
          have s58 := s6.trans (s7.trans s8)
          refine ⟨_, _, _, _, _, _, p4, rfl, s5.trans s58, (s05.trans (s6.trans s7)).free np4, rs ++ [tt], by rw [upd_same, List.map_append]; rfl, ?_⟩
          rw [efl]
          exact psnoc (pimp hrs fun _ _ e => e.ts s58.ts) ⟨ys[j], s8 _ _ htt, ht.ts s58.ts⟩
        · rw [if_neg hc, List.append_nil] at efl
          refine itF (decide_eq_false (by show ¬ ((lawW size tabs tp late : Nat) : Int) > 0; omega)) ?_
          refine ⟨by show 0 ≤ sizeLine; decide, fun ll nll => ?_⟩
          have s7 : Same H6 (upd H6 ll (.lst [])) := Same.nw nll
          have hll : (upd H6 ll (.lst [])) ll = some (.lst []) := upd_same
          generalize upd H6 ll (.lst []) = H7 at s7 hll
          refine ⟨p3, ll, _, _, rfl, rfl, s7 _ _ hp36, hll, Nat.le_of_lt (szm (by rw [List.length_map]; show _ + 0 < _; omega)), fun p4 np4 => ?_⟩
          have s8 : Same H7 (upd H7 p4 (.lst (rs.map V.ref ++ []))) := Same.nw np4
          have s58 := s6.trans (s7.trans s8)
          refine ⟨_, _, _, _, _, _, p4, rfl, s5.trans s58, (s05.trans (s6.trans s7)).free np4, rs, by rw [upd_same, List.append_nil], ?_⟩
          rw [efl]
          exact pimp hrs fun _ _ e => e.ts s58.ts
    · rintro σ H5 ⟨c5, c6, c12, c14, c15, c16, p3, rfl, s5, np3, hp3⟩
      rw [List.length_map, hyl, List.take_length] at hp3
      refine ⟨_, rfl, k H5 p3 (s04.trans s5) np3 ?_⟩
      unfold asgL
      rw [hF]
      exact hp3
end
end K16
set_option Elab.async false
set_option linter.all false
set_option maxRecDepth 100000
set_option maxHeartbeats 4000000
namespace K16
open PySem PySem.Spec PyProof.Rows L2
theorem new_ins {H : Hp} {x dx C : Addr} (nx : H x = none) (nd : H dx = none) (ne : dx ≠ x) : Same H (upd (upd H dx (.own x)) x (.ins C dx [])) :=
  (Same.nw nd).trans (Same.nw (by rw [upd_ne ne.symm]; exact nx))
/-- the law's own parts -/
def PartsAt (H : Hp) (pp : Addr) (size : Nat) (widths : List Nat) (tabs : List (List Nat)) (ats fl : List (Nat × List Nat)) : Prop :=
  ∃ q tb a f sh, H pp = some (.tup [vN size, .ref q, .ref tb, .ref a, .ref f, .ref sh]) ∧ TN H q widths ∧ LstOf LN H tb tabs ∧ TupOf PR H a ats ∧ TupOf PR H f fl
theorem PartsAt.sd {H H' : Hp} {pp : Addr} {size : Nat} {widths : List Nat} {tabs : List (List Nat)} {ats fl : List (Nat × List Nat)} (e : SD H H') (h : PartsAt H pp size widths tabs ats fl) : PartsAt H' pp size widths tabs ats fl :=
  let ⟨q, tb, a, f, sh, h1, h2, h3, h4, h5⟩ := h
  ⟨q, tb, a, f, sh, e _ _ rfl h1, h2.ts e.ts, h3.sd e fun _ _ q => q.sd e, h4.ts e.ts fun _ _ q => q.ts e.ts, h5.ts e.ts fun _ _ q => q.ts e.ts⟩
/-- numbers of the law's kind -/
def NumOk (size : Nat) (widths : List Nat) (tabs : List (List Nat)) (ats fl : List (Nat × List Nat)) : Prop :=
  TabOk size widths tabs ∧ size ≤ 3 ∧ AtW widths ats ∧ FiltOk size (varsOf ats).length fl
section
variable {P : Program} {w : World} {K : PySem.W.Frag} {mg : Str → Option Value} {base : Heap} {CS CD CQ : Addr}
def spQuery (K : PySem.W.Frag) (CS CD CQ : Addr) : Sp := fun vs H Q _ => ∃ (d s : Addr) (ns : List Int), vs = [.ref d, .int 3, .int 3] ∧ Dr K d s ns H ∧ ∀ H' p qq dd pp size widths ats fl tabs, DW K d s ns H H' → H p = none → H' p = some (.tup [.ref qq, .ref dd, .ref pp]) →
  Good CS CD CQ H' qq dd size widths ats fl tabs → PartsAt H' pp size widths tabs ats fl → NumOk size widths tabs ats fl → Q (.ref p) H'
theorem sc__law_query : FnScope ["_law_draw", "_law_most", "_law_top", "_law_size", "_law_widths", "_law_tables_here", "_law_atoms", "_law_filters", "_law_shown", "_law_schema_here"] ["_law_draw", "_law_most", "_law_top"] (defScope s__law_query) := ⟨rfl, rfl, rfl, by decide +kernel, rfl, by decide +kernel, by decide +kernel⟩
theorem ok_query (T : Tx K mg) (Z : Cs K mg CS CD CQ) (h : Has K mg "_law_query" s__law_query) (c__law_schema : Cal P w K mg base 3 "_law_schema" (spSchema K)) (c__law_tables : Cal P w K mg base 3 "_law_tables" (spTables K)) (c__law_parts : Cal P w K mg base 4 "_law_parts" (spParts K))
    (c_Schema : MakO P w K mg base 2 "Schema" CS (spSchemaI CS)) (c_Query : MakO P w K mg base 4 "Query" CQ (spQueryI CQ CS)) (c_Data : MakO P w K mg base 3 "Data" CD (spDataI CD CS)) : Cal P w K mg base 6 "_law_query" (spQuery K CS CD CQ) := by
  refine cal_of h sc__law_query (fun _ _ _ _ _ _ us hl => match us, hl with | [_, _, _], _ => rfl) (fun vs H Q E h => ?_) (fun f cdv A outer s H vs Q E hr h => ?_)
  · obtain ⟨_, _, _, rfl, _⟩ := h
    rfl
  · obtain ⟨d, sa, ns, rfl, hd, k⟩ := h
    refine ⟨_, (pss_cons (ps_asg (pc c__law_schema hr (by decide) (by rfl) (pa_cons (pv 0) (pa_cons (pv 2) pa_nil))) (kgtup K (n := 2) rfl (pgs_cons (pg_name (i := 3) sc__law_query.nd rfl (Or.inl rfl)) (pgs_cons (pg_name (i := 4) sc__law_query.nd rfl (Or.inl rfl)) pgs_nil))))
      (pss_cons (ps_set (i := 5) sc__law_query.nd rfl (Or.inl rfl) (pc c__law_tables hr (by decide) (by rfl) (pa_cons (pv 0) (pa_cons (pv 3) (pa_cons (pv 4) (pa_cons pe_int pa_nil))))))
      (pss_cons (ps_asg (pc c__law_parts hr (by decide) (by rfl) (pa_cons (pv 0) (pa_cons (pv 3) (pa_cons (pv 4) (pa_cons (pv 1) pa_nil))))) (kgtup K (n := 3) rfl (pgs_cons (pg_name (i := 6) sc__law_query.nd rfl (Or.inl rfl)) (pgs_cons (pg_name (i := 7) sc__law_query.nd rfl (Or.inl rfl)) (pgs_cons (pg_name (i := 8) sc__law_query.nd rfl (Or.inl rfl)) pgs_nil)))))
      (pss_cons (ps_set (i := 9) sc__law_query.nd rfl (Or.inl rfl) (pk c_Schema hr (by decide) (by rfl) (pa_cons (pv 3) (pa_cons (pv 4) pa_nil))))
      (pss_one (ps_ret (pe_tup (pa_cons (pk c_Query hr (by decide) (by rfl) (pa_cons (pv 9) (pa_cons (pv 6) (pa_cons (pv 7) (pa_cons (pv 8) pa_nil))))) (pa_cons (pk c_Data hr (by decide) (by rfl) (pa_cons (pv 9) (pa_cons (pv 5) pa_nil))) (pa_cons (pe_tup (pa_cons (pv 3) (pa_cons (pv 4) (pa_cons (pv 5) (pa_cons (pv 6) (pa_cons (pv 7) (pa_cons (pv 8) pa_nil))))))) pa_nil)))))))))), ?_⟩
    refine ⟨_, rfl, _, rfl, d, sa, ns, rfl, hd, fun H1 p q size widths w1 np hp hq z2 z3 l1 l3 hw => ⟨p, _, rfl, SqT.of hp, rfl, _, _, rfl, _, _, rfl, rfl, ?_⟩⟩
    refine ⟨_, rfl, _, rfl, _, rfl, d, sa, q, ns, size, widths, rfl, w1.dr, z3, hq, by omega, hw, fun H2 tb tabs w2 ntb htb tl tv => ?_⟩
    have hq2 := hq.ts w2.ts
    refine ⟨_, rfl, _, rfl, _, rfl, _, rfl, d, sa, q, ns, size, widths, rfl, w2.dr, z3, hq2, l1, by omega, hw, fun H3 pp a f sh ats fl shown w3 npp hpp hA hF hS aok aw fok snd slt sl6 => ⟨pp, _, rfl, SqT.of hpp, rfl, _, _, rfl, _, _, rfl, _, _, rfl, rfl, ?_⟩⟩
    have w03 := (w1.trans w2).trans w3
    have htb3 := htb.sd w3.sd fun _ _ e => e.sd w3.sd
    have tok : TabOk size widths tabs := ⟨z2, by omega, by omega, tl, fun u hu => (hw u hu).2, tv⟩
    refine ⟨_, rfl, _, rfl, fun x dx nx ndx nex => ?_⟩
    have s4 := new_ins (C := CS) nx ndx nex
    refine ⟨x, dx, q, size, widths, rfl, upd_same, s4 _ _ (hq2.ts w3.ts), z2, by omega, l1, by omega, hw, fun H4 k4 hx4 => ⟨rfl, ?_⟩⟩
    have s34 : Same H3 H4 := Same.made nx ndx k4
    have hS4 : SchAt CS H4 x size widths := ⟨dx, q, hx4, s34 _ _ (hq2.ts w3.ts)⟩
    have w04 := w03.same s34
    have hA4 := hA.ts s34.ts fun _ _ e => e.ts s34.ts
    have hF4 := hF.ts s34.ts fun _ _ e => e.ts s34.ts
    have htb4 := htb3.sd s34.sd fun _ _ e => e.sd s34.sd
    refine ⟨_, rfl, _, rfl, _, rfl, _, rfl, fun y dy ny ndy ney => ?_⟩
    have s5 := new_ins (C := CQ) ny ndy ney
    refine ⟨y, dy, x, a, f, sh, size, widths, ats, fl, shown, rfl, upd_same, hS4.sd s5.sd, hA4.ts s5.ts (fun _ _ e => e.ts s5.ts), hF4.ts s5.ts (fun _ _ e => e.ts s5.ts), (hS.ts s34.ts).ts s5.ts, aok, fok, snd, slt, sl6, fun H5 k5 hy5 => ⟨rfl, ?_⟩⟩
    have s45 : Same H4 H5 := Same.made ny ndy k5
    refine ⟨_, rfl, _, rfl, fun z dz nz ndz nez => ?_⟩
    have s6 := new_ins (C := CD) nz ndz nez
    have s46 := s45.trans s6
    refine ⟨z, dz, x, tb, size, widths, tabs, rfl, upd_same, hS4.sd s46.sd, htb4.sd s46.sd (fun _ _ e => e.sd s46.sd), tok, fun H6 t' k6 hz6 ht6 => ⟨rfl, ?_⟩⟩
    have s56 : Same H5 H6 := Same.made nz ndz k6
    refine ⟨_, rfl, _, rfl, _, rfl, _, rfl, _, rfl, _, rfl, by show 6 ≤ sizeLine; decide, fun pt npt => ⟨by show 3 ≤ sizeLine; decide, fun r nr => ?_⟩⟩
    have s7 : Same H6 (upd H6 pt (.tup [vN size, .ref q, .ref tb, .ref a, .ref f, .ref sh])) := Same.nw npt
    have hpt : (upd H6 pt (.tup [vN size, .ref q, .ref tb, .ref a, .ref f, .ref sh])) pt = some (.tup [vN size, .ref q, .ref tb, .ref a, .ref f, .ref sh]) := upd_same
    generalize upd H6 pt (.tup [vN size, .ref q, .ref tb, .ref a, .ref f, .ref sh]) = H7 at s7 hpt nr ⊢
    have s8 : Same H7 (upd H7 r (.tup [.ref y, .ref z, .ref pt])) := Same.nw nr
    have s58 := s56.trans (s7.trans s8)
    have s48 := s45.trans s58
    have s68 := s7.trans s8
    have w08 := w04.same s48
    have nrH : H r = none := (w04.same (s45.trans (s56.trans s7))).free nr
    refine k _ r y z pt size widths ats fl tabs w08 nrH upd_same ⟨⟨dy, x, a, f, sh, s58 _ _ hy5, hS4.sd s48.sd, hA4.ts s48.ts fun _ _ e => e.ts s48.ts, hF4.ts s48.ts fun _ _ e => e.ts s48.ts⟩, ⟨dz, x, t', s68 _ _ hz6, hS4.sd s48.sd, ht6.ts s68.ts fun _ _ e => e.ts s68.ts⟩, tok, z3, fok.2.1, aw⟩ ?_ ⟨tok, z3, aw, fok⟩
    exact ⟨q, tb, a, f, sh, s8 _ _ hpt, ((hq2.ts w3.ts).ts s34.ts).ts s48.ts, htb4.sd s48.sd (fun _ _ e => e.sd s48.sd), hA4.ts s48.ts (fun _ _ e => e.ts s48.ts), hF4.ts s48.ts fun _ _ e => e.ts s48.ts⟩
end
end K16
set_option Elab.async false
set_option linter.all false
set_option maxRecDepth 100000
set_option maxHeartbeats 4000000
namespace K16
open PySem PySem.Spec PyProof.Rows L2
theorem index_F {names : List Nat} {v : Nat} (h : v ∈ names) : (names.map vN)[names.idxOf v]? = some (vN v) ∧ eqV (vN v) (vN v) = true ∧ ∀ (m : Nat) (z : V), m < names.idxOf v → (names.map vN)[m]? = some z → eqV z (vN v) = false := by
  obtain ⟨f1, f2⟩ := idx_first h
  refine ⟨by rw [List.getElem?_map, f1]; rfl, by rw [eqV_NN]; exact decide_eq_true rfl, fun m z hm hz => ?_⟩
  rw [List.getElem?_map] at hz
  cases hg : names[m]? with
  | none => rw [hg] at hz; cases hz
  | some y =>
    rw [hg] at hz
    have hz : vN y = z := Option.some.inj hz
    rw [← hz, eqV_NN]
    exact decide_eq_false (f2 m y hm hg)
theorem st_is {t : L2.TS} {D : Ends} {σ σ' : L2.St} {H : Hp} (e : σ = σ') (h : t D σ' H) : t D σ H := e ▸ h
theorem wipe2 {σ : L2.St} {a b : Nat} {x y : Option V} : wipe (((wipe σ [a, b]).set a x).set b y) [a, b] = wipe σ [a, b] := by
  show ((((((σ.set b none).set a none).set a x).set b y).set b none).set a none) = (σ.set b none).set a none
  rw [List.set_set, List.set_set]
  by_cases h : a = b
  · subst h
    simp only [List.set_set]
  · rw [List.set_comm _ _ (fun z => h z.symm), List.set_set, List.set_comm _ _ h, List.set_set]
theorem pw_len : ∀ {l : List Nat} {n : Nat}, l.Pairwise (· < ·) → (∀ v ∈ l, v < n) → l.length ≤ n
  | [], _, _, _ => Nat.zero_le _
  | x :: r, 0, _, h => absurd (h x List.mem_cons_self) (Nat.not_lt_zero _)
  | x :: r, n + 1, hp, h => by
    obtain ⟨h1, h2⟩ := List.pairwise_cons.mp hp
    have := pw_len (l := r.map (· - 1)) (n := n) (by
      refine List.pairwise_map.mpr (h2.imp_of_mem fun {a b} ha hb hab => ?_)
      have := h1 a ha
      omega) (fun v hv => by
      obtain ⟨u, hu, rfl⟩ := List.mem_map.mp hv
      have := h1 u hu
      have := h u (List.mem_cons_of_mem _ hu)
      omega)
    rw [List.length_map] at this
    rw [List.length_cons]
    omega
section
variable {size : Nat} {widths : List Nat} {tabs : List (List Nat)} {ats fl : List (Nat × List Nat)} {el : List Nat}
theorem NumOk.tab (h : NumOk size widths tabs ats fl) : ∀ p ∈ ats, ∃ tab, tabs[p.1]? = some tab ∧ tab.length = size ^ p.2.length ∧ ∀ c ∈ tab, c ≤ 9 := by
  obtain ⟨⟨z2, z6, z4, zl, zw, zt⟩, h3, aw, fok⟩ := h
  intro p hp
  obtain ⟨w1, _⟩ := aw.2.2 p hp
  have hl : p.1 < tabs.length := by
    have := (List.getElem?_eq_some_iff.mp w1).1
    omega
  exact ⟨tabs[p.1], List.getElem?_eq_getElem hl, zt _ _ _ w1 (List.getElem?_eq_getElem hl)⟩
theorem NumOk.tabl (h : NumOk size widths tabs ats fl) : ∀ p ∈ ats, ((tabs[p.1]?).getD []).length = size ^ p.2.length := by
  intro p hp
  obtain ⟨tab, e1, e2, _⟩ := h.tab p hp
  rw [e1]
  exact e2
theorem NumOk.nd (h : NumOk size widths tabs ats fl) (v : Nat) : (allowedL size fl v).Nodup := allowedL_nd (fun p hp => (h.2.2.2.2.2 p hp).2.1) v
theorem NumOk.five (h : NumOk size widths tabs ats fl) : ∀ p ∈ ats, ∀ u ∈ p.2, u ≤ 5 := fun p hp => (h.2.2.1.2.2 p hp).2.2.2
theorem pick_mem (hi : ∀ i ∈ el, i < ats.length) {p : Nat × List Nat} (hp : p ∈ pick ats el) : p ∈ ats := by
  obtain ⟨i, hi', rfl⟩ := List.mem_map.mp hp
  rw [List.getElem?_eq_getElem (hi i hi')]
  exact List.getElem_mem _
theorem kept_ok (h : NumOk size widths tabs ats fl) (names : List Nat) : KeptOk size (keptL names fl) := by
  obtain ⟨f1, f6, f2⟩ := h.2.2.2
  refine ⟨?_, ?_, fun p hp => ?_⟩
  · unfold keptL
    rw [List.map_map]
    refine List.Pairwise.map _ (R := fun a b => a.1 ≠ b.1 ∧ a.1 ∈ names ∧ b.1 ∈ names) (fun a b ⟨hab, ha, hb⟩ z => hab (idx_inj ha hb (show names.idxOf a.1 = names.idxOf b.1 from z))) ?_
    have hp := (List.pairwise_map.mp f1).filter fun p => decide (p.1 ∈ names)
    refine hp.imp_of_mem fun {a b} ha hb hab => ⟨Nat.ne_of_lt hab, of_decide_eq_true (List.mem_filter.mp ha).2, of_decide_eq_true (List.mem_filter.mp hb).2⟩
  · unfold keptL
    rw [List.length_map]
    exact Nat.le_trans (List.length_filter_le ..) f6
  · obtain ⟨q, hq, rfl⟩ := List.mem_map.mp hp
    obtain ⟨_, _, a, b⟩ := f2 q (List.mem_filter.mp hq).1
    exact ⟨a, b⟩
theorem late_ok (h : NumOk size widths tabs ats fl) (hi : ∀ i ∈ el, i < ats.length) (e1 : 1 ≤ el.length) (e3 : el.length ≤ 3) : LateOk widths tabs size (varsOf (pick ats el)).length (relab (varsOf (pick ats el)) (pick ats el)) := by
  have aw := pick_ok h.2.2.1 hi e1 e3
  have h5 : ∀ p ∈ pick ats el, ∀ u ∈ p.2, u ≤ 5 := fun p hp => (aw.2.2 p hp).2.2.2
  have hpos := aw.pos
  have hv := varsOf_relab h5
  have hm : ∀ p ∈ pick ats el, ∀ u ∈ p.2, u ∈ varsOf (pick ats el) := fun p hp u hu => (mem_varsOf h5).mpr (List.mem_flatMap.mpr ⟨p, hp, hu⟩)
  have hle := varsOf_le (pick ats el)
  have hr : ∀ p ∈ relab (varsOf (pick ats el)) (pick ats el), widths[p.1]? = some p.2.length ∧ 1 ≤ p.2.length ∧ p.2.length ≤ 2 ∧ (∀ u ∈ p.2, u < (varsOf (pick ats el)).length) ∧ ∃ tab, tabs[p.1]? = some tab ∧ tab.length = size ^ p.2.length ∧ ∀ c ∈ tab, c ≤ 9 := by
    intro p hp
    obtain ⟨q, hq, rfl⟩ := List.mem_map.mp hp
    obtain ⟨a1, a2, a3, a4⟩ := aw.2.2 q hq
    have elq : (relP (varsOf (pick ats el)) q).2.length = q.2.length := List.length_map ..
    obtain ⟨tab, t1, t2, t3⟩ := h.tab q (pick_mem hi hq)
    rw [elq]
    refine ⟨a1, a2, a3, fun u hu => ?_, tab, t1, t2, t3⟩
    obtain ⟨v, hv', rfl⟩ := List.mem_map.mp hu
    exact List.idxOf_lt_length_iff.mpr (hm q hq v hv')
  have hl : (relab (varsOf (pick ats el)) (pick ats el)).length = (pick ats el).length := List.length_map ..
  refine ⟨by rw [hl]; exact aw.1, by rw [hl]; exact aw.2.1, hle, hpos, ?_, hr⟩
  have hmem : (varsOf (pick ats el)).length - 1 ∈ varsOf (relab (varsOf (pick ats el)) (pick ats el)) := by
    rw [hv]
    exact List.mem_range.mpr (by omega)
  rw [mem_varsOf fun p hp u hu => by have := (hr p hp).2.2.2.1 u hu; omega] at hmem
  exact List.mem_flatMap.mp hmem
theorem asg_len (h : NumOk size widths tabs ats fl) (names : List Nat) (late : List (Nat × List Nat)) {many : Nat} (hm : many ≤ 6) : (asgL size tabs late (keptL names fl) many).length ≤ 46656 := by
  unfold asgL
  refine Nat.le_trans (List.length_filter_le ..) ?_
  rw [List.length_map]
  have h6 := h.2.1
  exact Nat.le_trans (prodL_len (allowed_len (by omega) fun p hp => ((kept_ok h names).2.2 p hp).1) many) (Nat.le_trans (Nat.pow_le_pow_right (by decide) hm) (by decide))
theorem asg_left (h : NumOk size widths tabs ats fl) (hi : ∀ i ∈ el, i < ats.length) : ((asgL size tabs (relab (varsOf (pick ats el)) (pick ats el)) (keptL (varsOf (pick ats el)) fl) (varsOf (pick ats el)).length).map (·.2)).sum = leftN size fl tabs ats el :=
  law_left (fun p hp => h.five p (pick_mem hi hp)) h.nd fun p hp => h.tabl p (pick_mem hi hp)
end
section
variable {P : Program} {w : World} {K : PySem.W.Frag} {mg : Str → Option Value} {base : Heap} {CS CD CQ : Addr}
def spMade : Sp := fun vs H Q _ => ∃ (pp e : Addr) (size : Nat) (widths : List Nat) (tabs : List (List Nat)) (ats fl : List (Nat × List Nat)) (el : List Nat), vs = [.ref pp, .ref e] ∧ PartsAt H pp size widths tabs ats fl ∧ NumOk size widths tabs ats fl ∧ TN H e el ∧ (∀ i ∈ el, i < ats.length) ∧ 1 ≤ el.length ∧ el.length ≤ 3 ∧
  ∀ H' p n r (rows : List (List Nat × Nat)), Same H H' → H p = none → H' p = some (.tup [.ref n, .ref r]) → LstOf FR H' r rows → rows.length ≤ 46656 → (rows.map (·.2)).sum = leftN size fl tabs ats el → Q (.ref p) H'
theorem sc__law_made : FnScope ["_law_parts_here", "_law_early", "_law_size", "_law_widths", "_law_tables_here", "_law_atoms", "_law_filters", "_law_shown", "_law_some", "_law_names_here", "_law_late", "_law_kept", "_law_atom", "_law_table", "_law_variables", "_law_variable", "_law_values"] ["_law_parts_here", "_law_early"] (defScope s__law_made) := ⟨rfl, rfl, rfl, by decide +kernel, rfl, by decide +kernel, by decide +kernel⟩
theorem ok_made (T : Tx K mg) (h : Has K mg "_law_made" s__law_made) (c__law_names : Cal P w K mg base 1 "_law_names" spNames) (c__law_assigned : Cal P w K mg base 2 "_law_assigned" spAssigned) : Cal P w K mg base 3 "_law_made" spMade := by
  refine cal_of h sc__law_made (fun _ _ _ _ _ _ us hl => match us, hl with | [_, _], _ => rfl) (fun vs H Q E h => ?_) (fun f cdv A outer s H vs Q E hr h => ?_)
  · obtain ⟨_, _, _, _, _, _, _, _, rfl, _⟩ := h
    rfl
  · obtain ⟨pp, e, size, widths, tabs, ats, fl, el, rfl, ⟨q, tb, a, fa, sh, hpp, hq, htb, ⟨xa, ha, hxa⟩, ⟨fs, hf, hfs⟩⟩, num, he, hi, e1, e3, k⟩ := h
    have hxl := plen hxa
    have hfl := plen hfs
    have f6 := num.2.2.2.2.1
    have aw := pick_ok num.2.2.1 hi e1 e3
    have hll := late_ok num hi e1 e3
    have hkk := kept_ok num (varsOf (pick ats el))
    have hlen := asg_len num (varsOf (pick ats el)) (relab (varsOf (pick ats el)) (pick ats el)) (varsOf_le (pick ats el))
    have hleft := asg_left num hi
    have hpl : (pick ats el).length = el.length := List.length_map ..
    have h5 : ∀ p ∈ pick ats el, ∀ u ∈ p.2, u ≤ 5 := fun p hp => (aw.2.2 p hp).2.2.2
    have hmem : ∀ p ∈ pick ats el, ∀ u ∈ p.2, u ∈ varsOf (pick ats el) := fun p hp u hu => (mem_varsOf h5).mpr (List.mem_flatMap.mpr ⟨p, hp, hu⟩)
    refine ⟨_, (pss_cons (ps_asg (pv 0) (kgtup K (n := 6) rfl (pgs_cons (pg_name (i := 2) sc__law_made.nd rfl (Or.inl rfl)) (pgs_cons (pg_name (i := 3) sc__law_made.nd rfl (Or.inl rfl)) (pgs_cons (pg_name (i := 4) sc__law_made.nd rfl (Or.inl rfl)) (pgs_cons (pg_name (i := 5) sc__law_made.nd rfl (Or.inr rfl)) (pgs_cons (pg_name (i := 6) sc__law_made.nd rfl (Or.inl rfl)) (pgs_cons (pg_name (i := 7) sc__law_made.nd rfl (Or.inl rfl)) pgs_nil))))))))
      (pss_cons (ps_setLc (i := 8) (own := [("_law_atom", 12)]) (by rfl) sc__law_made.nd rfl rfl (sw_true rfl rfl rfl (by decide +kernel)) (kpt K (pv 1)) (blkOk_by (own := [("_law_atom", 12)]) (N := ["_law_parts_here", "_law_early", "_law_size", "_law_widths", "_law_tables_here", "_law_atoms", "_law_filters", "_law_shown", "_law_some", "_law_names_here", "_law_late", "_law_kept", "_law_atom", "_law_table", "_law_variables", "_law_variable", "_law_values"]) (sc := defScope s__law_made) (by decide +kernel)) (fun _ _ _ _ _ => (pg_name (i := 12) sc__law_made.nd rfl (Or.inl rfl))) (fun _ _ _ _ _ => pts_nil) (fun _ _ _ _ _ => (pe_ix (kixT K) (pv 5) (pv 12) (fun _ _ => rfl))))
      (pss_cons (ps_if (pt_cmpR (keqD K hr.units) (pv 8) (pe_lst pa_nil) (nomark _)) (pss_one (ps_ret (pe_tup (pa_cons (pe_lst pa_nil) (pa_cons (pe_lst (pa_cons (pe_tup (pa_cons (pe_tup pa_nil) (pa_cons pe_int pa_nil))) pa_nil)) pa_nil))))) pss_nil)
      (pss_cons (ps_set (i := 9) sc__law_made.nd rfl (Or.inr rfl) (pc c__law_names hr (by decide) (by rfl) (pa_cons (pv 8) pa_nil)))
      (pss_cons (ps_setLc (i := 10) (own := [("_law_table", 13), ("_law_variables", 14)]) (by rfl) sc__law_made.nd rfl rfl (sw_true rfl rfl rfl (by decide +kernel)) (kpl K (pv 8)) (blkOk_by (own := [("_law_table", 13), ("_law_variables", 14)]) (N := ["_law_parts_here", "_law_early", "_law_size", "_law_widths", "_law_tables_here", "_law_atoms", "_law_filters", "_law_shown", "_law_some", "_law_names_here", "_law_late", "_law_kept", "_law_atom", "_law_table", "_law_variables", "_law_variable", "_law_values"]) (sc := defScope s__law_made) (by decide +kernel)) (fun _ _ _ _ _ => (kgtup K (n := 2) rfl (pgs_cons (pg_name (i := 13) sc__law_made.nd rfl (Or.inl rfl)) (pgs_cons (pg_name (i := 14) sc__law_made.nd rfl (Or.inl rfl)) pgs_nil)))) (fun _ _ _ _ _ => pts_nil) (fun _ _ _ _ _ => (pe_tup (pa_cons (pv 13) (pa_cons (pe_callTy (ktupOf K) (by rfl) T.bTuple (by decide +kernel) (pa_cons (pe_lc (own := [("_law_variable", 15)]) (by rfl) sc__law_made.nd (kpt K (pv 14)) (blkOk_rel (own := [("_law_variable", 15)]) (N := ["_law_parts_here", "_law_early", "_law_size", "_law_widths", "_law_tables_here", "_law_atoms", "_law_filters", "_law_shown", "_law_some", "_law_names_here", "_law_late", "_law_kept", "_law_atom", "_law_table", "_law_variables", "_law_variable", "_law_values"]) (sc := ({ kind := .function, names := [(".0", .local), ("_law_table", .local), ("_law_variables", .local), ("tuple", .globalImplicit), ("_law_names_here", .free)], isGenerator := false, isCoroutine := false } : Scope)) (by decide +kernel)) (fun _ _ _ _ _ => (pg_name (i := 15) sc__law_made.nd rfl (Or.inl rfl))) (fun _ _ _ _ _ => pts_nil) (fun _ _ _ _ _ => (kidx K (kindex K) (pv 9) (pa_cons (pv 15) pa_nil)))) pa_nil)) pa_nil)))))
      (pss_cons (ps_setLc (i := 11) (own := [("_law_variable", 15), ("_law_values", 16)]) (by rfl) sc__law_made.nd rfl rfl (sw_true rfl rfl rfl (by decide +kernel)) (kpt K (pv 6)) (blkOk_by (own := [("_law_variable", 15), ("_law_values", 16)]) (N := ["_law_parts_here", "_law_early", "_law_size", "_law_widths", "_law_tables_here", "_law_atoms", "_law_filters", "_law_shown", "_law_some", "_law_names_here", "_law_late", "_law_kept", "_law_atom", "_law_table", "_law_variables", "_law_variable", "_law_values"]) (sc := defScope s__law_made) (by decide +kernel)) (fun _ _ _ _ _ => (kgtup K (n := 2) rfl (pgs_cons (pg_name (i := 15) sc__law_made.nd rfl (Or.inl rfl)) (pgs_cons (pg_name (i := 16) sc__law_made.nd rfl (Or.inl rfl)) pgs_nil)))) (fun _ _ _ _ _ => (pts_one (pt_cmpR (kin K) (pv 15) (pv 9) (by rfl)))) (fun _ _ _ _ _ => (pe_tup (pa_cons (kidx K (kindex K) (pv 9) (pa_cons (pv 15) pa_nil)) (pa_cons (pv 16) pa_nil)))))
      (pss_one (ps_ret (pe_tup (pa_cons (pv 9) (pa_cons (pc c__law_assigned hr (by decide) (by rfl) (pa_cons (pv 2) (pa_cons (pv 3) (pa_cons (pv 4) (pa_cons (pv 10) (pa_cons (pv 11) pa_nil)))))) pa_nil))))))))))), ?_⟩
    refine ⟨_, rfl, pp, _, rfl, SqT.of hpp, rfl, _, _, rfl, _, _, rfl, _, _, rfl, _, _, rfl, _, _, rfl, _, _, rfl, rfl, ?_⟩
    refine st_is (σ' := [some (.ref pp), some (.ref e), some (vN size), some (.ref q), some (.ref tb), some (.ref a), some (.ref fa), some (.ref sh), none, none, none, none, none, none, none, none, none]) rfl ?_
    -- some
    refine ⟨_, rfl, e, rfl, ⟨_, SqT.of he⟩, fun D hD => it_core (walk_tup (K := K) (a := e) (xs := el.map vN)) (fun j H1 => ∃ ys : List Addr, H1 D = some (.lst (ys.map V.ref)) ∧ Same H H1 ∧ Paired (PR H) ys (pick ats (el.take j))) ⟨[], upd_same, Same.nw hD, .nil⟩ (fun _ H1 _ ⟨_, _, e', _⟩ => e'.tp (SqT.of he)) ?_ ?_⟩
    · rintro j x H1 H2 hj ⟨ys, y1, y2, y3⟩ ⟨rfl, hx⟩
      rw [List.length_map] at hj
      obtain rfl := at_map hj hx
      have hij := hi _ (List.getElem_mem hj)
      have hyl := plen y3
      unfold pick at hyl
      rw [List.length_map, List.length_take] at hyl
      refine ⟨rfl, lc_yes ?_⟩
      refine ⟨_, rfl, _, rfl, a, _, (el[j] : Int), .ref (xa[el[j]]'(by omega)), rfl, rfl, SqT.of (y2 _ _ ha), atI_nat (by rw [List.getElem?_map, List.getElem?_eq_getElem (by omega)]; rfl), ?_⟩
      refine ⟨_, y1, szs (by rw [List.length_map]; omega), ys ++ [xa[el[j]]'(by omega)], by rw [upd_same, List.map_append]; rfl, y2.mt hD, ?_⟩
      rw [pick_snoc hj]
      refine psnoc y3 ?_
      rw [List.getElem?_eq_getElem hij]
      exact pget hxa (List.getElem?_eq_getElem (by omega)) (List.getElem?_eq_getElem hij)
    rintro H1 ⟨ys, y1, y2, y3⟩
    rw [List.length_map, List.take_length] at y3
    generalize pick ats el = so at *
    have hys1 : Paired (PR H1) ys so := pimp y3 fun _ _ e => e.ts y2.ts
    refine ⟨_, rfl, by show 0 ≤ sizeLine; decide, fun l nl => ?_⟩
    have s2 : Same H1 (upd H1 l (.lst [])) := Same.nw nl
    have hl2 : LN (upd H1 l (.lst [])) l [] := upd_same
    generalize upd H1 l (.lst []) = H2 at s2 hl2
    have hys2 : Paired (PR H2) ys so := pimp hys1 fun _ _ e => e.ts s2.ts
    refine ⟨_, _, dp_LP ⟨ys, s2 _ _ y1, hys2⟩, dp_LN hl2, shp_LP _, shp_LN _, _, rfl, itF ?_ ?_⟩
    · cases so with
      | nil => exact absurd aw.1 (by decide)
      | cons x r => rfl
    have hyl := plen hys2
    have s02 := y2.trans s2
    refine ⟨_, rfl, D, so, rfl, ⟨ys, s2 _ _ y1, hys2⟩, aw.ok, fun H3 p3 s3 np3 hp3 => ?_⟩
    have s03 := s02.trans s3
    have hys3 : Paired (PR H3) ys so := pimp hys2 fun _ _ e => e.ts s3.ts
    have hD3 := s3 _ _ (s2 _ _ y1)
    have hrl : (relab (varsOf so) so).length = so.length := List.length_map ..
    have hn6 := varsOf_le so
    generalize varsOf so = names at *
    -- late
    refine ⟨_, rfl, D, rfl, ⟨_, SqL.of hD3⟩, fun L hL => it_core (walk_list (K := K) (a := D) (xs := ys.map V.ref)) (fun i H4 => ∃ zs : List Addr, H4 L = some (.lst (zs.map V.ref)) ∧ Same H3 H4 ∧ Paired (PR H4) zs ((relab names so).take i)) ⟨[], upd_same, Same.nw hL, .nil⟩ (fun _ H4 _ ⟨_, _, e, _⟩ => e.seq (SqL.of hD3)) ?_ ?_⟩
    · rintro i x H4 H5 hi ⟨zs, z1, z2, z3⟩ ⟨rfl, hx⟩
      rw [List.length_map] at hi
      obtain rfl := at_map hi hx
      have hi2 : i < so.length := by omega
      obtain ⟨qv, p1, p2⟩ := pget hys3 (List.getElem?_eq_getElem hi) (List.getElem?_eq_getElem hi2)
      have hzl := plen z3
      rw [List.length_take] at hzl
      have p2' := z2 _ _ p2
      refine ⟨ys[i], _, rfl, SqT.of (z2 _ _ p1), rfl, _, _, rfl, _, _, rfl, rfl, rfl, lc_yes ?_⟩
      refine ⟨_, rfl, _, rfl, qv, rfl, ⟨_, SqT.of p2'⟩, fun D2 hD2 => it_core (walk_tup (K := K) (a := qv) (xs := so[i].2.map vN)) (LcI D2 fun j acc H6 => acc = ((so[i].2.take j).map (names.idxOf ·)).map vN ∧ Same H5 H6) ⟨[], upd_same, Nat.le_refl _, rfl, Same.nw hD2⟩ (fun _ H6 _ ⟨_, _, _, _, e⟩ => e.tp (SqT.of p2')) ?_ ?_⟩
      · rintro j x H6 H7 hj ⟨acc, g1, g2, g3, g4⟩ ⟨rfl, hx⟩
        rw [List.length_map] at hj
        obtain rfl := at_map hj hx
        have hum := hmem _ (List.getElem_mem hi2) _ (List.getElem_mem hj)
        refine ⟨rfl, lc_yes ?_⟩
        have hp7 := g4 _ _ (z2 _ _ hp3)
        obtain ⟨i1, i2, i3⟩ := index_F hum
        refine ⟨_, rfl, .inl ⟨rfl, _, SqL.of hp7⟩, _, rfl, p3, _, _, _, _, rfl, rfl, SqL.of hp7, rfl, flat_N _, i1, i2, i3, ?_⟩
        refine lc_end g1 g2 hj (by have := (aw.2.2 _ (List.getElem_mem hi2)).2.2.1; omega) ⟨?_, g4.mt hD2⟩
        rw [g3, take_s hj, List.map_append, List.map_append]
        rfl
      · rintro H6 ⟨acc, g1, g2, g3, g4⟩
        rw [List.length_map, List.take_length] at g3
        refine ⟨D2, _, rfl, .inl ⟨SqL.of g1, fun t nt => ⟨by show 2 ≤ sizeLine; decide, fun t2 nt2 => ?_⟩⟩⟩
        rw [g3] at nt2 ⊢
        have s7 : Same H5 (upd H6 t (.tup (((so[i].2).map (names.idxOf ·)).map vN))) := g4.trans (Same.nw nt)
        have hT : (upd H6 t (.tup (((so[i].2).map (names.idxOf ·)).map vN))) t = some (.tup (((so[i].2).map (names.idxOf ·)).map vN)) := upd_same
        generalize upd H6 t (.tup (((so[i].2).map (names.idxOf ·)).map vN)) = H7 at s7 hT nt2
        obtain ⟨b1, b2, b3, b4, b5⟩ := app_new (H1 := H3) (o := HO.tup [vN so[i].1, .ref t]) (s7 _ _ z1) (z2.trans s7) hL nt2
        refine ⟨_, b1, szs (by rw [List.length_map]; omega), zs ++ [t2], b2, b3, ?_⟩
        have hri : i < (relab names so).length := by omega
        rw [take_s hri]
        refine psnoc (pimp z3 fun _ _ e => (e.ts s7.ts).ts b4) ?_
        have er : (relab names so)[i] = (so[i].1, so[i].2.map (names.idxOf ·)) := List.getElem_map ..
        rw [er]
        exact ⟨t, b5, b4 _ _ hT⟩
    rintro H4 ⟨zs, z1, z2, z3⟩
    rw [List.length_map, hyl, ← hrl, List.take_length] at z3
    have s04 := s03.trans z2
    have hf4 := s04 _ _ hf
    have hfs4 : Paired (PR H4) fs fl := pimp hfs fun _ _ e => e.ts s04.ts
    have hp4 := z2 _ _ hp3
    -- kept
    refine ⟨_, rfl, fa, rfl, ⟨_, SqT.of hf4⟩, fun M hM => it_core (walk_tup (K := K) (a := fa) (xs := fs.map V.ref)) (fun i H5 => ∃ us : List Addr, H5 M = some (.lst (us.map V.ref)) ∧ Same H4 H5 ∧ Paired (PR H5) us (keptL names (fl.take i))) ⟨[], upd_same, Same.nw hM, .nil⟩ (fun _ H5 _ ⟨_, _, e, _⟩ => e.tp (SqT.of hf4)) ?_ ?_⟩
    · rintro i x H5 H6 hi ⟨us, u1, u2, u3⟩ ⟨rfl, hx⟩
      rw [List.length_map] at hi
      obtain rfl := at_map hi hx
      have hi2 : i < fl.length := by omega
      obtain ⟨qv, p1, p2⟩ := pget hfs4 (List.getElem?_eq_getElem hi) (List.getElem?_eq_getElem hi2)
      have hul := plen u3
      have hul2 : us.length ≤ 6 := by
        rw [hul]
        unfold keptL
        rw [List.length_map]
        refine Nat.le_trans (List.length_filter_le ..) ?_
        rw [List.length_take]
        omega
      have ek : keptL names (fl.take (i + 1)) = keptL names (fl.take i) ++ if fl[i].1 ∈ names then [(names.idxOf fl[i].1, fl[i].2)] else [] := by
        unfold keptL
        rw [take_s hi2, List.filter_append, List.map_append]
        congr 1
        by_cases hm : fl[i].1 ∈ names
        · simp [hm]
        · simp [hm]
      refine ⟨fs[i], _, rfl, SqT.of (u2 _ _ p1), rfl, _, _, rfl, _, _, rfl, rfl, wipe2, ?_⟩
      have hp6 := u2 _ _ hp4
      refine ⟨_, rfl, _, rfl, p3, _, rfl, .inl (SqL.of hp6), rfl, flat_N _, _, rfl, ?_⟩
      rw [inV_N]
      by_cases hm : fl[i].1 ∈ names
      · rw [if_pos hm] at ek
        refine itT (decide_eq_true hm) ?_
        obtain ⟨i1, i2, i3⟩ := index_F hm
        refine ⟨_, rfl, .inl ⟨rfl, _, SqL.of hp6⟩, _, rfl, p3, _, _, _, _, rfl, rfl, SqL.of hp6, rfl, flat_N _, i1, i2, i3, _, rfl, by show 2 ≤ sizeLine; decide, fun t nt => ?_⟩
        obtain ⟨b1, b2, b3, b4, b5⟩ := app_new (H1 := H4) (o := HO.tup [vN (names.idxOf fl[i].1), .ref qv]) u1 u2 hM nt
        refine ⟨_, b1, szs (by rw [List.length_map]; omega), us ++ [t], b2, b3, ?_⟩
        rw [ek]
        exact psnoc (pimp u3 fun _ _ e => e.ts b4) ⟨qv, b5, b4 _ _ (u2 _ _ p2)⟩
      · rw [if_neg hm, List.append_nil] at ek
        refine itF (decide_eq_false hm) ⟨us, u1, u2, ?_⟩
        rw [ek]
        exact u3
    rintro H5 ⟨us, u1, u2, u3⟩
    rw [List.length_map, hfl, List.take_length] at u3
    have s05 := s04.trans u2
    refine ⟨_, rfl, _, rfl, _, rfl, _, rfl, _, rfl, _, rfl, q, tb, L, M, size, names.length, widths, tabs, relab names so, keptL names fl, rfl, num.2.1, hq.ts s05.ts, htb.sd s05.sd (fun _ _ e => e.sd s05.sd), ⟨zs, u2 _ _ z1, pimp z3 fun _ _ e => e.ts u2.ts⟩, ⟨us, u1, u3⟩, hll, hkk, fun H6 r s6 nr hr6 => ⟨by show 2 ≤ sizeLine; decide, fun p np => ?_⟩⟩
    have s7 : Same H6 (upd H6 p (.tup [.ref p3, .ref r])) := Same.nw np
    exact k _ p p3 r _ ((s05.trans s6).trans s7) ((s05.trans s6).free np) upd_same (hr6.sd s7.sd fun _ _ e => e.ts s7.ts) hlen hleft
end
end K16
set_option Elab.async false
set_option linter.all false
set_option maxRecDepth 100000
set_option maxHeartbeats 4000000
namespace K16
open PySem PySem.Spec PyProof.Rows L2
section
variable {P : Program} {w : World} {K : PySem.W.Frag} {mg : Str → Option Value} {base : Heap} {CS CD CQ : Addr}
def spLawMoves : Sp := fun vs H Q _ => ∃ (pp e : Addr) (size : Nat) (widths : List Nat) (tabs : List (List Nat)) (ats fl : List (Nat × List Nat)) (el : List Nat) (i m : Nat), vs = [.ref pp, .ref e, vN i, vN m] ∧ PartsAt H pp size widths tabs ats fl ∧ NumOk size widths tabs ats fl ∧ TN H e el ∧ (∀ i ∈ el, i < ats.length) ∧ 1 ≤ el.length ∧ el.length ≤ 3 ∧
  i < ats.length ∧ 3 ≤ m ∧ m ≤ 8 ∧ ∀ H' p, Same H H' → H p = none → H' p = some (.dK (mvA size fl tabs ats el i m)) → Q (.ref p) H'
theorem sc__law_moves : FnScope ["_law_parts_here", "_law_early", "_law_atom", "_law_memory", "_law_left", "_law_table", "_law_variables", "_law_right", "_law_fillings", "_law_rest", "_law_found", "_law_known", "_law_some", "_law_count", "_law_late", "_law_variable"] ["_law_parts_here", "_law_early", "_law_atom", "_law_memory"] (defScope s__law_moves) := ⟨rfl, rfl, rfl, by decide +kernel, rfl, by decide +kernel, by decide +kernel⟩
theorem ok_lawMoves (T : Tx K mg) (h : Has K mg "_law_moves" s__law_moves) (c__law_made : Cal P w K mg base 3 "_law_made" spMade) (c__law_names : Cal P w K mg base 1 "_law_names" spNames) (c_sort_cost : Cal P w K mg base 4 "sort_cost" spSortCost) : Cal P w K mg base 5 "_law_moves" spLawMoves := by
  refine cal_of h sc__law_moves (fun _ _ _ _ _ _ us hl => match us, hl with | [_, _, _, _], _ => rfl) (fun vs H Q E h => ?_) (fun f cdv A outer s H vs Q E hr h => ?_)
  · obtain ⟨_, _, _, _, _, _, _, _, _, _, rfl, _⟩ := h
    rfl
  · obtain ⟨pp, e, size, widths, tabs, ats, fl, el, i, m, rfl, hP, num, he, hi, e1, e3, hia, m3, m8, k⟩ := h
    obtain ⟨q, tb, a, fa, sh, hpp, hq, ⟨tbs, htb, htbs⟩, ⟨xa, ha, hxa⟩, _⟩ := id hP
    have hxl := plen hxa
    have htbl := plen htbs
    have hu := hu_of hr
    have aw := num.2.2.1
    have hpk := pick_ok aw hi e1 e3
    have eat : (ats[i]?).getD (0, []) = ats[i] := by rw [List.getElem?_eq_getElem hia]; rfl
    obtain ⟨hw, u1, u2, u5⟩ := aw.2.2 _ (List.getElem_mem hia)
    obtain ⟨tab, t1, t2, t3⟩ := num.tab _ (List.getElem_mem hia)
    obtain ⟨htl, et⟩ := List.getElem?_eq_some_iff.mp t1
    have hrN : rightN tabs ats i = tab.sum := by
      unfold rightN
      rw [eat, t1]
      rfl
    have hr81 : tab.sum ≤ 81 := by
      have := sum_le9 t3
      have h9 : size ^ ats[i].2.length ≤ 9 := Nat.le_trans (Nat.pow_le_pow_left num.2.1 _) (Nat.le_trans (Nat.pow_le_pow_right (by decide) u2) (by decide))
      omega
    refine ⟨_, (pss_cons (ps_set (i := 4) sc__law_moves.nd rfl (Or.inl rfl) (pe_callB (ksum K rfl) (by rfl) T.bSum (by decide +kernel) (pa_cons (pe_lc (own := [("_law_some", 12), ("_law_count", 13)]) (by rfl) sc__law_moves.nd (kpl K (pe_ix (kixT K) (pc c__law_made hr (by decide) (by rfl) (pa_cons (pv 0) (pa_cons (pv 1) pa_nil))) pe_int (fun _ _ => rfl))) (blkOk_by (own := [("_law_some", 12), ("_law_count", 13)]) (N := ["_law_parts_here", "_law_early", "_law_atom", "_law_memory", "_law_left", "_law_table", "_law_variables", "_law_right", "_law_fillings", "_law_rest", "_law_found", "_law_known", "_law_some", "_law_count", "_law_late", "_law_variable"]) (sc := defScope s__law_moves) (by decide +kernel)) (fun _ _ _ _ _ => (kgtup K (n := 2) rfl (pgs_cons (pg_name (i := 12) sc__law_moves.nd rfl (Or.inl rfl)) (pgs_cons (pg_name (i := 13) sc__law_moves.nd rfl (Or.inl rfl)) pgs_nil)))) (fun _ _ _ _ _ => pts_nil) (fun _ _ _ _ _ => (pv 13))) pa_nil)))
      (pss_cons (ps_asg (pe_ix (kixT K) (pe_ix (kixT K) (pv 0) pe_int (fun _ _ => rfl)) (pv 2) (fun _ _ => rfl)) (kgtup K (n := 2) rfl (pgs_cons (pg_name (i := 5) sc__law_moves.nd rfl (Or.inl rfl)) (pgs_cons (pg_name (i := 6) sc__law_moves.nd rfl (Or.inl rfl)) pgs_nil))))
      (pss_cons (ps_par3 (i := 7) (j := 8) (l := 9) (by rfl) sc__law_moves.nd rfl rfl rfl (by decide) (by decide) (by decide) rfl rfl rfl (pa_cons (pe_callB (ksum K rfl) (by rfl) T.bSum (by decide +kernel) (pa_cons (pe_ix (kixL K) (pe_ix (kixT K) (pv 0) pe_int (fun _ _ => rfl)) (pv 5) (fun _ _ => rfl)) pa_nil)) (pa_cons pe_int (pa_cons (pv 4) pa_nil))) (by rfl))
      (pss_cons (ps_while PassesOwn.never (pt_cmpR op_gt (pv 9) pe_int (nomark _)) (pss_one (ps_par (i := 9) (j := 8) (by rfl) sc__law_moves.nd rfl rfl (by decide) rfl rfl (pa_cons (pe_op op_sub (pv 9) (pe_op op_sub (pv 3) pe_int)) (pa_cons (pe_op op_add (pv 8) pe_int) pa_nil)) (by rfl))))
      (pss_cons (ps_set (i := 10) sc__law_moves.nd rfl (Or.inl rfl) (pe_disp (pps_cons pe_str (pe_op op_add (pv 4) (pe_op op_mul (pv 7) (pv 8))) pps_nil) (by rfl) (by rfl) (fun z => by cases z) (by decide)))
      (pss_cons (ps_set (i := 11) sc__law_moves.nd rfl (Or.inr rfl) (pc c__law_names hr (by decide) (by rfl) (pa_cons (pe_lc (own := [("_law_late", 14)]) (by rfl) sc__law_moves.nd (kpt K (pv 1)) (blkOk_by (own := [("_law_late", 14)]) (N := ["_law_parts_here", "_law_early", "_law_atom", "_law_memory", "_law_left", "_law_table", "_law_variables", "_law_right", "_law_fillings", "_law_rest", "_law_found", "_law_known", "_law_some", "_law_count", "_law_late", "_law_variable"]) (sc := defScope s__law_moves) (by decide +kernel)) (fun _ _ _ _ _ => (pg_name (i := 14) sc__law_moves.nd rfl (Or.inl rfl))) (fun _ _ _ _ _ => pts_nil) (fun _ _ _ _ _ => (pe_ix (kixT K) (pe_ix (kixT K) (pv 0) pe_int (fun _ _ => rfl)) (pv 14) (fun _ _ => rfl)))) pa_nil)))
      (pss_cons (ps_if (PW.pt (pw_and (pt_val (pe_callB (kany K rfl) (by rfl) T.bAny (by decide +kernel) (pa_cons (pe_lc (own := [("_law_variable", 15)]) (by rfl) sc__law_moves.nd (kpt K (pv 6)) (blkOk_by (own := [("_law_variable", 15)]) (N := ["_law_parts_here", "_law_early", "_law_atom", "_law_memory", "_law_left", "_law_table", "_law_variables", "_law_right", "_law_fillings", "_law_rest", "_law_found", "_law_known", "_law_some", "_law_count", "_law_late", "_law_variable"]) (sc := defScope s__law_moves) (by decide +kernel)) (fun _ _ _ _ _ => (pg_name (i := 15) sc__law_moves.nd rfl (Or.inl rfl))) (fun _ _ _ _ _ => pts_nil) (fun _ _ _ _ _ => (pe_cmpR (kin K) (pv 15) (pv 11) (by rfl)))) pa_nil))) (pw_and1 (pt_cmpR op_le (pe_callB (call_max2 rfl) (by rfl) T.bMax (by decide +kernel) (pa_cons (pv 4) (pa_cons (pv 7) pa_nil))) pe_int (nomark _))))) (pss_one (ps_dput hu (pv 10) pe_str (pe_op op_add (pe_op op_add (pe_op op_add (pc c_sort_cost hr (by decide) (by rfl) (pa_cons (pv 4) (pa_cons (pv 3) pa_nil))) (pc c_sort_cost hr (by decide) (by rfl) (pa_cons (pv 7) (pa_cons (pv 3) pa_nil)))) (pv 4)) (pv 7)) rfl)) pss_nil)
      (pss_one (ps_ret (pv 10)))))))))), ?_⟩
    -- left
    refine ⟨_, rfl, _, rfl, pp, e, size, widths, tabs, ats, fl, el, rfl, hP, num, he, hi, e1, e3, fun H1 p n r rows s1 np hp ⟨rs, hr1, hrs⟩ hrb hsum => ?_⟩
    have hrl := plen hrs
    refine ⟨p, _, 1, .ref r, rfl, rfl, SqT.of hp, atI_nat (j := 1) rfl, r, rfl, ⟨_, SqL.of hr1⟩, fun D hD => it_core (walk_list (K := K) (a := r) (xs := rs.map V.ref)) (fun j H2 => H2 D = some (.lst (((rows.take j).map (·.2)).map vN)) ∧ Same H1 H2) ⟨upd_same, Same.nw hD⟩ (fun _ H2 _ ⟨_, e⟩ => e.seq (SqL.of hr1)) ?_ ?_⟩
    · rintro j x H2 H3 hj ⟨g1, g2⟩ ⟨rfl, hx⟩
      rw [List.length_map] at hj
      obtain rfl := at_map hj hx
      have hj2 : j < rows.length := by omega
      obtain ⟨qv, p1, p2⟩ := pget hrs (List.getElem?_eq_getElem hj) (List.getElem?_eq_getElem hj2)
      refine ⟨rs[j], _, rfl, SqT.of (g2 _ _ p1), rfl, _, _, rfl, _, _, rfl, rfl, rfl, lc_yes ?_⟩
      refine ⟨_, rfl, _, g1, szs (by rw [List.length_map, List.length_map, List.length_take]; omega), ?_, g2.mt hD⟩
      rw [upd_same, take_s hj2, List.map_append, List.map_append]
      rfl
    rintro H2 ⟨g1, g2⟩
    rw [List.length_map, hrl, List.take_length] at g1
    refine ⟨D, (rows.map (·.2)).map fun (n : Nat) => (n : Int), rfl, SqL.of (by rw [g1, vN_map]), ?_⟩
    rw [sum_cast, hsum]
    have s2 := s1.trans g2
    generalize hL : leftN size fl tabs ats el = left
    -- table, variables
    obtain ⟨qv, hp1, hp2⟩ := pget hxa (List.getElem?_eq_getElem (by omega : i < xa.length)) (List.getElem?_eq_getElem hia)
    refine ⟨_, rfl, pp, _, 3, .ref a, rfl, rfl, SqT.of (s2 _ _ hpp), atI_nat (j := 3) rfl, _, rfl, a, _, (i : Int), .ref (xa[i]'(by omega)), rfl, rfl, SqT.of (s2 _ _ ha), atI_nat (by rw [List.getElem?_map, List.getElem?_eq_getElem (by omega)]; rfl), xa[i]'(by omega), _, rfl, SqT.of (s2 _ _ hp1), rfl, _, _, rfl, _, _, rfl, rfl, ?_⟩
    -- right
    have htbi : ats[i].1 < tbs.length := by omega
    have htab := pget htbs (List.getElem?_eq_getElem htbi) t1
    refine ⟨_, rfl, pp, _, 2, .ref tb, rfl, rfl, SqT.of (s2 _ _ hpp), atI_nat (j := 2) rfl, _, rfl, tb, _, (ats[i].1 : Int), .ref tbs[ats[i].1], rfl, rfl, SqL.of (s2 _ _ htb), atI_nat (by rw [List.getElem?_map, List.getElem?_eq_getElem htbi]; rfl), tbs[ats[i].1], tab.map fun (n : Nat) => (n : Int), rfl, SqL.of (by rw [← vN_map]; exact s2 _ _ htab), ?_⟩
    rw [sum_cast]
    refine ⟨_, rfl, _, _, _, rfl, ?_⟩
    rw [← hrN] at hr81 ⊢
    generalize hR : rightN tabs ats i = right at hr81
    refine st_is (σ' := [some (.ref pp), some (.ref e), some (vN i), some (vN m), some (vN left), some (vN ats[i].1), some (.ref qv), some (vN right), some (vN 0), some (vN left), none, none, none, none, none, none]) rfl ?_
    refine ⟨fun mm σ H4 => ∃ (rest : Int) (c : Nat), mm = rest.toNat ∧ σ = [some (.ref pp), some (.ref e), some (vN i), some (vN m), some (vN left), some (vN ats[i].1), some (.ref qv), some (vN right), some (vN c), some (.int rest), none, none, none, none, none, none] ∧ H4 = H2 ∧ rest = (left : Int) - (c : Int) * ((m : Int) - 2) ∧ (c = 0 ∨ 0 < rest + ((m : Int) - 2)), ⟨_, (left : Int), 0, rfl, rfl, rfl, by omega, .inl rfl⟩, ?_⟩
    rintro mm σ H4 ⟨rest, c, rfl, rfl, rfl, hrest, hc⟩
    refine ⟨_, rfl, _, _, rfl, rfl, _, rfl, ?_⟩
    by_cases hpos : rest > 0
    · refine itT (decide_eq_true hpos) ?_
      refine ⟨_, fun _ _ h => h, ?_⟩
      refine ⟨_, rfl, _, rfl, _, _, rfl, rfl, _, _, rfl, rfl, _, rfl, _, _, rfl, rfl, _, _, rfl, ?_⟩
      refine ⟨(rest - ((m : Int) - 2)).toNat, by omega, rest - ((m : Int) - 2), c + 1, rfl, ?_, rfl, ?_, .inr (by omega)⟩
      · show [_, _, _, _, _, _, _, _, some (V.int ((c : Int) + 1)), _, _, _, _, _, _, _] = [_, _, _, _, _, _, _, _, some (V.int ((c + 1 : Nat) : Int)), _, _, _, _, _, _, _]
        rw [Int.natCast_add]
        rfl
      · rw [hrest, Int.natCast_add, Int.add_mul]
        omega
    · refine itF (decide_eq_false hpos) ?_
      have hcm : ((c * (m - 2) : Nat) : Int) = (c : Int) * ((m : Int) - 2) := by
        rw [Int.natCast_mul]
        have : ((m - 2 : Nat) : Int) = (m : Int) - 2 := by omega
        rw [this]
      have hcd : c = (left + m - 3) / (m - 2) := ceil_div left m m3 c (by
        rcases hc with z | z
        · subst z
          omega
        · omega) (by omega)
      -- found
      refine fun fp nfp => ?_
      refine ⟨_, rfl, _, rfl, _, rfl, _, _, rfl, rfl, .inl ⟨by omega, by omega⟩, _, _, rfl, rfl, upd_same, [(Sum.inr "nested", vN (left + right * ((left + m - 3) / (m - 2))))], ?_, by show 1 ≤ 15; decide, ?_⟩
      · rw [← hcd]
        show [(V.str "nested", V.int ((left : Int) + (right : Int) * (c : Int)))] = [(V.str "nested", V.int ((left + right * c : Nat) : Int))]
        rw [Int.natCast_add, Int.natCast_mul]
      have emk : mergeK [] [((Sum.inr "nested" : Key), vN (left + right * ((left + m - 3) / (m - 2))))] = [((Sum.inr "nested" : Key), vN (left + right * ((left + m - 3) / (m - 2))))] := rfl
      rw [emk]
      have s3 : Same H4 (upd (upd H4 fp (.dK [])) fp (.dK [((Sum.inr "nested" : Key), vN (left + right * ((left + m - 3) / (m - 2))))])) := (Same.nw nfp).mt nfp
      have hfp : (upd (upd H4 fp (.dK [])) fp (.dK [((Sum.inr "nested" : Key), vN (left + right * ((left + m - 3) / (m - 2))))])) fp = some (.dK [((Sum.inr "nested" : Key), vN (left + right * ((left + m - 3) / (m - 2))))]) := upd_same
      generalize upd (upd H4 fp (.dK [])) fp (.dK [((Sum.inr "nested" : Key), vN (left + right * ((left + m - 3) / (m - 2))))]) = H3 at s3 hfp
      have s03 := s2.trans s3
      have nfH : H fp = none := s2.free nfp
      -- known
      refine ⟨_, rfl, e, rfl, ⟨_, SqT.of (s03 _ _ he)⟩, fun D hD => it_core (walk_tup (K := K) (a := e) (xs := el.map vN)) (fun j H4 => ∃ ys : List Addr, H4 D = some (.lst (ys.map V.ref)) ∧ Same H3 H4 ∧ Paired (PR H) ys (pick ats (el.take j))) ⟨[], upd_same, Same.nw hD, .nil⟩ (fun _ H4 _ ⟨_, _, e', _⟩ => e'.tp (SqT.of (s03 _ _ he))) ?_ ?_⟩
      · rintro j x H4 H5 hj ⟨ys, y1, y2, y3⟩ ⟨rfl, hx⟩
        rw [List.length_map] at hj
        obtain rfl := at_map hj hx
        have hij := hi _ (List.getElem_mem hj)
        have hyl := plen y3
        unfold pick at hyl
        rw [List.length_map, List.length_take] at hyl
        have s04 := s03.trans y2
        refine ⟨rfl, lc_yes ?_⟩
        refine ⟨_, rfl, pp, _, 3, .ref a, rfl, rfl, SqT.of (s04 _ _ hpp), atI_nat (j := 3) rfl, _, rfl, a, _, (el[j] : Int), .ref (xa[el[j]]'(by omega)), rfl, rfl, SqT.of (s04 _ _ ha), atI_nat (by rw [List.getElem?_map, List.getElem?_eq_getElem (by omega)]; rfl), ?_⟩
        refine ⟨_, y1, szs (by rw [List.length_map]; omega), ys ++ [xa[el[j]]'(by omega)], by rw [upd_same, List.map_append]; rfl, y2.mt hD, ?_⟩
        rw [pick_snoc hj]
        refine psnoc y3 ?_
        rw [List.getElem?_eq_getElem hij]
        exact pget hxa (List.getElem?_eq_getElem (by omega)) (List.getElem?_eq_getElem hij)
      rintro H4 ⟨ys, y1, y2, y3⟩
      rw [List.length_map, List.take_length] at y3
      have s04 := s03.trans y2
      refine ⟨D, pick ats el, rfl, ⟨ys, y1, pimp y3 fun _ _ e' => e'.ts s04.ts⟩, hpk.ok, fun H5 kp s5 nkp hkp => ?_⟩
      have s05 := s04.trans s5
      have s35 := y2.trans s5
      have hv5 := s05 _ _ hp2
      -- any
      refine ⟨_, rfl, qv, rfl, ⟨_, SqT.of hv5⟩, fun D2 hD2 => it_core (walk_tup (K := K) (a := qv) (xs := ats[i].2.map vN)) (LcI D2 fun j acc H6 => acc = ((ats[i].2.take j).map fun v => decide (v ∈ varsOf (pick ats el))).map V.bl ∧ Same H5 H6) ⟨[], upd_same, Nat.le_refl _, rfl, Same.nw hD2⟩ (fun _ H6 _ ⟨_, _, _, _, e'⟩ => e'.tp (SqT.of hv5)) ?_ ?_⟩
      · rintro j x H6 H7 hj ⟨acc, g1, g2, g3, g4⟩ ⟨rfl, hx⟩
        rw [List.length_map] at hj
        obtain rfl := at_map hj hx
        refine ⟨rfl, lc_yes ?_⟩
        refine ⟨_, rfl, _, rfl, kp, _, rfl, .inl (SqL.of (g4 _ _ hkp)), rfl, flat_N _, ?_⟩
        rw [if_neg Bool.false_ne_true, inV_N]
        refine lc_end g1 g2 hj (by omega) ⟨?_, g4.mt hD2⟩
        rw [g3, take_s hj, List.map_append, List.map_append]
        rfl
      rintro H6 ⟨acc, g1, g2, g3, g4⟩
      rw [List.length_map, List.take_length] at g3
      have hlk : (ats[i].2.map fun v => decide (v ∈ varsOf (pick ats el))).any id = linkB ats el i := by
        unfold linkB
        rw [eat]
      refine ⟨D2, _, rfl, SqL.of (by rw [g1, g3]), _, rfl, ?_⟩
      rw [hlk]
      have s36 := s35.trans g4
      have s06 := s05.trans g4
      have hfp6 := s36 _ _ hfp
      have hmv : mvA size fl tabs ats el i m = mvD left right (linkB ats el i) m := by
        unfold mvA
        rw [hL, hR]
      rw [hmv] at k
      have fin0 : ¬ (linkB ats el i = true ∧ left ≤ 60 ∧ right ≤ 60) → Q (.ref fp) H6 := fun hn => by
        refine k H6 fp s06 nfH ?_
        rw [hfp6]
        unfold mvD
        rw [if_neg hn]
      by_cases hb : linkB ats el i = true
      · refine itT hb ?_
        refine ⟨_, rfl, _, rfl, _, _, rfl, _, _, rfl, rfl, _, rfl, ?_⟩
        have hmax : ((if ((right : Nat) : Int) > ((left : Nat) : Int) then ((right : Nat) : Int) else ((left : Nat) : Int)) ≤ 60) ↔ (left ≤ 60 ∧ right ≤ 60) := by
          split <;> omega
        by_cases hl : left ≤ 60 ∧ right ≤ 60
        · refine itT (decide_eq_true (hmax.mpr hl)) ?_
          obtain ⟨hl, hrr⟩ := hl
          refine ⟨_, rfl, _, rfl, left, m, rfl, hl, m3, m8, fun H7 s7 => ⟨_, rfl, _, rfl, right, m, rfl, hrr, m3, m8, fun H8 s8 => ⟨_, _, rfl, rfl, _, rfl, _, _, rfl, rfl, _, rfl, _, _, rfl, rfl, _, rfl, fp, _, rfl, DPut.k (k := Sum.inr "sorted") (s8 _ _ (s7 _ _ hfp6)) (szs (by show 1 < 100000; decide)), ?_⟩⟩⟩
          refine ⟨_, rfl, k _ fp ((s06.trans (s7.trans s8)).mt nfH) nfH ?_⟩
          rw [upd_same]
          unfold mvD
          rw [if_pos ⟨hb, hl, hrr⟩]
          have e2 : putK [((Sum.inr "nested" : Key), vN (left + right * ((left + m - 3) / (m - 2))))] (Sum.inr "sorted") (V.int ((costBy left m : Int) + (costBy right m : Int) + (left : Int) + (right : Int))) = [((Sum.inr "nested" : Key), vN (left + right * ((left + m - 3) / (m - 2)))), (Sum.inr "sorted", vN (costBy left m + costBy right m + left + right))] := by
            unfold putK
            have ek : ¬ (Sum.inr "nested" : Key) = (Sum.inr "sorted" : Key) := by decide +kernel
            rw [if_neg (by show ¬ (decide ((Sum.inr "nested" : Key) = (Sum.inr "sorted" : Key)) || false) = true; rw [decide_eq_false ek]; exact Bool.false_ne_true)]
            show [_, ((Sum.inr "sorted" : Key), V.int _)] = [_, ((Sum.inr "sorted" : Key), V.int ((_ : Nat) : Int))]
            rw [Int.natCast_add, Int.natCast_add, Int.natCast_add]
          exact congrArg (fun z => some (HO.dK z)) e2
        · exact itF (decide_eq_false fun z => hl (hmax.mp z)) ⟨_, rfl, fin0 fun z => hl z.2⟩
      · exact itF (Bool.eq_false_iff.mpr hb) (iteF ⟨_, rfl, fin0 fun z => hb z.1⟩)
end
end K16
set_option Elab.async false
set_option linter.all false
set_option maxRecDepth 100000
set_option maxHeartbeats 4000000
namespace K16
open PySem PySem.Spec PyProof.Rows L2
theorem ordersL_len {n : Nat} (h3 : n ≤ 3) : ∀ k, (ordersL n k).length ≤ 3 ^ k
  | 0 => Nat.le_refl 1
  | k + 1 => by
    rw [Nat.pow_succ]
    refine Nat.le_trans (fm_len' (k := 3) fun t _ => ?_) (Nat.mul_le_mul_right _ (ordersL_len h3 k))
    rw [List.length_map]
    refine Nat.le_trans (List.length_filter_le ..) ?_
    rw [List.length_range]
    exact h3
section
variable {P : Program} {w : World} {K : PySem.W.Frag} {mg : Str → Option Value} {base : Heap} {CS CD CQ : Addr}
def spOrders : Sp := fun vs H Q _ => ∃ (n : Nat), vs = [vN n] ∧ n ≤ 3 ∧ ∀ H' p, Same H H' → H p = none → LstOf TN H' p (ordersL n n) → Q (.ref p) H'
theorem sc__law_orders : FnScope ["_law_many", "_law_found", "_law_step", "_law_late", "_law_order_here", "_law_atom"] ["_law_many"] (defScope s__law_orders) := ⟨rfl, rfl, rfl, by decide +kernel, rfl, by decide +kernel, by decide +kernel⟩
theorem ok_orders (T : Tx K mg) (h : Has K mg "_law_orders" s__law_orders) : Cal P w K mg base 1 "_law_orders" spOrders := by
  refine cal_of h sc__law_orders (fun _ _ _ _ _ _ us hl => match us, hl with | [_], _ => rfl) (fun vs H Q E h => ?_) (fun f cdv A outer s H vs Q E hr h => ?_)
  · obtain ⟨_, rfl, _⟩ := h
    rfl
  · obtain ⟨n, rfl, h3, k⟩ := h
    have en : ((n : Int)).toNat = n := Int.toNat_natCast _
    refine ⟨_, (pss_cons (ps_set (i := 1) sc__law_orders.nd rfl (Or.inl rfl) (pe_lst (pa_cons (pe_tup pa_nil) pa_nil)))
      (pss_cons (ps_for PassesOwn.never rfl (pi_range1 (by rfl) T.bRange (pa_cons (pv 0) pa_nil)) (pg_name (i := 2) sc__law_orders.nd rfl (Or.inl rfl)) (pss_cons (ps_set (i := 3) sc__law_orders.nd rfl (Or.inl rfl) (pe_lst pa_nil))
      (pss_cons (ps_for PassesOwn.never rfl (kpl K (pv 1)) (pg_name (i := 4) sc__law_orders.nd rfl (Or.inr rfl)) (pss_one (ps_set (i := 3) sc__law_orders.nd rfl (Or.inl rfl) (pe_op op_cat (pv 3) (pe_lc (own := [("_law_atom", 5)]) (by rfl) sc__law_orders.nd (pi_range1 (by rfl) T.bRange (pa_cons (pv 0) pa_nil)) (blkOk_by (own := [("_law_atom", 5)]) (N := ["_law_many", "_law_found", "_law_step", "_law_late", "_law_order_here", "_law_atom"]) (sc := defScope s__law_orders) (by decide +kernel)) (fun _ _ _ _ _ => (pg_name (i := 5) sc__law_orders.nd rfl (Or.inl rfl))) (fun _ _ _ _ _ => (pts_one (pt_cmpR (knin K) (pv 5) (pv 4) (by rfl)))) (fun _ _ _ _ _ => (pe_op (kcatA K) (pv 4) (pe_tup (pa_cons (pv 5) pa_nil)))))))))
      (pss_one (ps_set (i := 1) sc__law_orders.nd rfl (Or.inl rfl) (pv 3))))))
      (pss_one (ps_ret (pv 1))))), ?_⟩
    refine ⟨by show 0 ≤ sizeLine; decide, fun t0 n0 => ⟨by show 1 ≤ sizeLine; decide, fun l0 m0 => ?_⟩⟩
    have s0 : Same H (upd (upd H t0 (.tup [])) l0 (.lst [.ref t0])) := (Same.nw n0).trans (Same.nw m0)
    have hl0 : LstOf TN (upd (upd H t0 (.tup [])) l0 (.lst [.ref t0])) l0 (ordersL n 0) := ⟨[t0], upd_same, .cons ((Same.nw m0) _ _ upd_same) .nil⟩
    have nl0 : H l0 = none := (Same.nw n0).free m0
    generalize upd (upd H t0 (.tup [])) l0 (.lst [.ref t0]) = H0 at s0 hl0
    have hol : ∀ i, i ≤ 3 → (ordersL n i).length ≤ 27 := fun i hi => Nat.le_trans (ordersL_len h3 i) (Nat.le_trans (Nat.pow_le_pow_right (by decide) hi) (by decide))
    refine ⟨_, rfl, (n : Int), rfl, by omega, by omega, for_it walk_range (fun i σ H1 => ∃ (c2 c3 c4 : Option V) (p : Addr), σ = [some (vN n), some (.ref p), c2, c3, c4, none] ∧ Same H H1 ∧ H p = none ∧ LstOf TN H1 p (ordersL n i)) ⟨none, none, none, l0, rfl, s0, nl0, hl0⟩ (fun _ _ _ _ _ => trivial) ?_ ?_⟩
    · rintro i x σ H1 H1' hi ⟨c2, c3, c4, p, rfl, s1, np, ys, hp, hys⟩ ⟨rfl, rfl⟩
      have hi2 : i < n := by omega
      have hyl := plen hys
      have hoi := hol i (by omega)
      refine ⟨by show 0 ≤ sizeLine; decide, fun lt nlt => ?_⟩
      have s2 : Same H1' (upd H1' lt (.lst [])) := Same.nw nlt
      refine ⟨_, rfl, p, rfl, ⟨_, SqL.of (s2 _ _ hp)⟩, for_it (walk_list (K := K) (a := p) (xs := ys.map V.ref)) (fun j σ H2 => ∃ (c4 : Option V) (p2 : Addr), σ = [some (vN n), some (.ref p), some (.int (0 + (i : Int))), some (.ref p2), c4, none] ∧ Same H1' H2 ∧ H p2 = none ∧
        LstOf TN H2 p2 (((ordersL n i).take j).flatMap fun o => ((List.range n).filter fun a => !decide (a ∈ o)).map fun a => o ++ [a])) ⟨c4, lt, rfl, s2, s1.free nlt, [], upd_same, .nil⟩ (fun _ _ H2 _ ⟨_, _, _, e, _⟩ => e.seq (SqL.of hp)) ?_ ?_⟩
      · rintro j x σ H2 H2' hj ⟨c4, p2, rfl, s2, np2, zs, hp2, hzs⟩ ⟨rfl, hx⟩
        rw [List.length_map] at hj
        obtain rfl := at_map hj hx
        have hj2 : j < (ordersL n i).length := by omega
        have ht := (pget hys (List.getElem?_eq_getElem hj) (List.getElem?_eq_getElem hj2)).ts s2.ts
        have hts := take_s hj2
        have htl := (ordersL_mem (List.getElem_mem hj2)).1
        generalize (ordersL n i)[j] = o at ht hts htl
        have hzl := plen hzs
        have hzb : zs.length ≤ 27 * 3 := by
          rw [hzl]
          refine Nat.le_trans (fm_len' (k := 3) fun t _ => ?_) ?_
          · rw [List.length_map]
            exact Nat.le_trans (List.length_filter_le ..) (by rw [List.length_range]; exact h3)
          · rw [List.length_take]
            omega
        refine ⟨_, rfl, _, rfl, (n : Int), rfl, by omega, by omega, fun D hD => it_core walk_range (fun v H3 => ∃ us : List Addr, H3 D = some (.lst (us.map V.ref)) ∧ Same H2' H3 ∧ Paired (TN H3) us (((List.range v).filter fun a => !decide (a ∈ o)).map fun a => o ++ [a])) ⟨[], upd_same, Same.nw hD, .nil⟩ (fun _ _ _ _ => trivial) ?_ ?_⟩
        · rintro v x H3 H4 hv ⟨us, u1, u2, u3⟩ ⟨rfl, hx⟩
          have hx : x = vN v := by
            rw [hx]
            show V.int (0 + (v : Int)) = _
            rw [Int.zero_add]
          subst hx
          have hv2 : v < n := by omega
          have hul := plen u3
          have hulb : us.length ≤ 3 := by
            rw [hul, List.length_map]
            refine Nat.le_trans (List.length_filter_le ..) ?_
            rw [List.length_range]
            omega
          have ht3 := ht.ts u2.ts
          have est : (((List.range (v + 1)).filter fun a => !decide (a ∈ o)).map fun a => o ++ [a]) = (((List.range v).filter fun a => !decide (a ∈ o)).map fun a => o ++ [a]) ++ if v ∈ o then [] else [o ++ [v]] := by
            rw [List.range_succ, List.filter_append, List.map_append]
            congr 1
            by_cases hm : v ∈ o
            · simp [hm]
            · simp [hm]
          refine ⟨rfl, _, rfl, _, rfl, ys[j], _, rfl, .inr (SqT.of ht3), rfl, flat_N _, _, rfl, ?_⟩
          rw [if_pos rfl, inV_N]
          by_cases hm : v ∈ o
          · rw [if_pos hm, List.append_nil] at est
            refine itF (by rw [decide_eq_true hm]; rfl) ⟨us, u1, u2, ?_⟩
            rw [est]
            exact u3
          · rw [if_neg hm] at est
            refine itT (by rw [decide_eq_false hm]; rfl) ?_
            have fin : ∀ (H9 : Hp) (t : Addr), Same H4 H9 → TN H9 t (o ++ [v]) → ∃ acc, H9 D = some (.lst acc) ∧ acc.length < sizeLine ∧ ∃ us : List Addr, (upd H9 D (.lst (acc ++ [V.ref t]))) D = some (.lst (us.map V.ref)) ∧ Same H2' (upd H9 D (.lst (acc ++ [V.ref t]))) ∧ Paired (TN (upd H9 D (.lst (acc ++ [V.ref t])))) us (((List.range (v + 1)).filter fun a => !decide (a ∈ o)).map fun a => o ++ [a]) := by
              intro H9 t s9 ht9
              have h9 := s9 _ _ u1
              refine ⟨_, h9, szs (by rw [List.length_map]; omega), us ++ [t], by rw [upd_same, List.map_append]; rfl, (u2.trans s9).mt hD, ?_⟩
              rw [est]
              exact psnoc (ptn (s9.ts.trans (TS.updL h9)) u3) (ht9.ts (TS.updL h9))
            refine ⟨_, rfl, _, rfl, by show 1 ≤ sizeLine; decide, fun t1 nt1 => ?_⟩
            have s9 : Same H4 (upd H4 t1 (.tup [vN v])) := Same.nw nt1
            have ht1 : (upd H4 t1 (.tup [vN v])) t1 = some (.tup [vN v]) := upd_same
            refine ⟨ys[j], t1, _, _, rfl, rfl, SqT.of (s9 _ _ ht3), SqT.of ht1, szl (by rw [List.length_map]; show _ + 1 ≤ _; omega), fun e0 => ?_, fun _ e1 => (by cases e1), fun _ _ p9 np9 => ?_⟩
            · have e0 : o = [] := List.map_eq_nil_iff.mp e0
              refine fin _ _ s9 ?_
              rw [e0]
              exact ht1
            · refine fin _ _ (s9.trans (Same.nw np9)) ?_
              show _ = some _
              rw [upd_same, List.map_append]
              rfl
        · rintro H3 ⟨us, u1, u2, u3⟩
          rw [en] at u3
          have hul := plen u3
          have hulb : us.length ≤ 3 := by
            rw [hul, List.length_map]
            refine Nat.le_trans (List.length_filter_le ..) ?_
            rw [List.length_range]
            omega
          refine ⟨p2, D, _, _, rfl, rfl, u2 _ _ hp2, u1, szl (by rw [List.length_map, List.length_map]; omega), fun p3 np3 => ?_⟩
          have s8 : Same H3 (upd H3 p3 (.lst (zs.map V.ref ++ us.map V.ref))) := Same.nw np3
          refine ⟨_, p3, rfl, (s2.trans u2).trans s8, (s1.trans (s2.trans u2)).free np3, zs ++ us, by rw [upd_same, List.map_append], ?_⟩
          rw [hts, List.flatMap_append]
          have e1 : ([o].flatMap fun o => ((List.range n).filter fun a => !decide (a ∈ o)).map fun a => o ++ [a]) = ((List.range n).filter fun a => !decide (a ∈ o)).map fun a => o ++ [a] := by simp
          rw [e1]
          exact papp (ptn (u2.trans s8).ts hzs) (ptn s8.ts u3)
      · rintro σ H2 ⟨c4, p2, rfl, s2, np2, hp2⟩
        rw [List.length_map, hyl, List.take_length] at hp2
        exact ⟨_, rfl, _, _, _, p2, rfl, s1.trans s2, np2, hp2⟩
    · rintro σ H1 ⟨c2, c3, c4, p, rfl, s1, np, hp⟩
      rw [en] at hp
      exact ⟨_, rfl, k H1 p s1 np hp⟩
def spTotal : Sp := fun vs H Q _ => ∃ (pp e : Addr) (size : Nat) (widths : List Nat) (tabs : List (List Nat)) (ats fl : List (Nat × List Nat)) (el : List Nat) (m : Nat), vs = [.ref pp, .ref e, vN m] ∧ PartsAt H pp size widths tabs ats fl ∧ NumOk size widths tabs ats fl ∧ TN H e el ∧ OrdOk ats.length el ∧ 3 ≤ m ∧ m ≤ 8 ∧
  ∀ H', Same H H' → Q (vN (ordC size fl tabs ats m el)) H'
theorem sc__law_total : FnScope ["_law_parts_here", "_law_order_here", "_law_memory", "_law_found", "_law_step"] ["_law_parts_here", "_law_order_here", "_law_memory"] (defScope s__law_total) := ⟨rfl, rfl, rfl, by decide +kernel, rfl, by decide +kernel, by decide +kernel⟩
theorem ok_total (T : Tx K mg) (h : Has K mg "_law_total" s__law_total) (c__law_moves : Cal P w K mg base 5 "_law_moves" spLawMoves) : Cal P w K mg base 6 "_law_total" spTotal := by
  refine cal_of h sc__law_total (fun _ _ _ _ _ _ us hl => match us, hl with | [_, _, _], _ => rfl) (fun vs H Q E h => ?_) (fun f cdv A outer s H vs Q E hr h => ?_)
  · obtain ⟨_, _, _, _, _, _, _, _, _, rfl, _⟩ := h
    rfl
  · obtain ⟨pp, e, size, widths, tabs, ats, fl, el, m, rfl, hP, num, he, ⟨o1, o2, o3⟩, m3, m8, k⟩ := h
    obtain ⟨q, tb, a, fa, sh, hpp, hq, ⟨tbs, htb, htbs⟩, ⟨xa, ha, hxa⟩, _⟩ := id hP
    have hxl := plen hxa
    have htbl := plen htbs
    obtain ⟨l1, a3, hat⟩ := num.2.2.1
    have hi0 := o1 _ (List.getElem_mem (show 0 < el.length by omega))
    obtain ⟨tab, t1, t2, t3⟩ := num.tab _ (List.getElem_mem hi0)
    obtain ⟨htl, et⟩ := List.getElem?_eq_some_iff.mp t1
    have htbi : ats[el[0]].1 < tbs.length := by omega
    have htab := pget htbs (List.getElem?_eq_getElem htbi) t1
    obtain ⟨qv, hp1, hp2⟩ := pget hxa (List.getElem?_eq_getElem (by omega : el[0] < xa.length)) (List.getElem?_eq_getElem hi0)
    refine ⟨_, (pss_cons (ps_set (i := 3) sc__law_total.nd rfl (Or.inl rfl) (pe_callB (ksum K rfl) (by rfl) T.bSum (by decide +kernel) (pa_cons (pe_ix (kixL K) (pe_ix (kixT K) (pv 0) pe_int (fun _ _ => rfl)) (pe_ix (kixT K) (pe_ix (kixT K) (pe_ix (kixT K) (pv 0) pe_int (fun _ _ => rfl)) (pe_ix (kixT K) (pv 1) pe_int (fun _ _ => rfl)) (fun _ _ => rfl)) pe_int (fun _ _ => rfl)) (fun _ _ => rfl)) pa_nil)))
      (pss_cons (ps_for PassesOwn.never rfl (pi_range2 (by rfl) T.bRange (pa_cons pe_int (pa_cons (pe_callB (klen K) (by rfl) T.bLen (by decide +kernel) (pa_cons (pv 1) pa_nil)) pa_nil))) (pg_name (i := 4) sc__law_total.nd rfl (Or.inl rfl)) (pss_one (ps_set (i := 3) sc__law_total.nd rfl (Or.inl rfl) (pe_op op_add (pv 3) (pe_callB (kmin K rfl) (by rfl) T.bMin (by decide +kernel) (pa_cons (pe_listVals rfl (by rfl) T.bList (pc c__law_moves hr (by decide) (by rfl) (pa_cons (pv 0) (pa_cons (pe_slice (kslT K) (pv 1) po_none (po_some (pv 4))) (pa_cons (pe_ix (kixT K) (pv 1) (pv 4) (fun _ _ => rfl)) (pa_cons (pv 2) pa_nil)))))) pa_nil))))))
      (pss_one (ps_ret (pv 3))))), ?_⟩
    refine ⟨_, rfl, pp, _, 2, .ref tb, rfl, rfl, SqT.of hpp, atI_nat (j := 2) rfl, _, rfl, pp, _, 3, .ref a, rfl, rfl, SqT.of hpp, atI_nat (j := 3) rfl, _, rfl, e, _, 0, vN el[0], rfl, rfl, SqT.of he, atI_nat (j := 0) (by rw [List.getElem?_map, List.getElem?_eq_getElem (by omega)]; rfl), a, _, (el[0] : Int), .ref (xa[el[0]]'(by omega)), rfl, rfl, SqT.of ha, atI_nat (by rw [List.getElem?_map, List.getElem?_eq_getElem (by omega)]; rfl), xa[el[0]]'(by omega), _, 0, _, rfl, rfl, SqT.of hp1, atI_nat (j := 0) rfl, tb, _, (ats[el[0]].1 : Int), .ref tbs[ats[el[0]].1], rfl, rfl, SqL.of htb, atI_nat (by rw [List.getElem?_map, List.getElem?_eq_getElem htbi]; rfl), tbs[ats[el[0]].1], tab.map fun (n : Nat) => (n : Int), rfl, SqL.of (by rw [← vN_map]; exact htab), ?_⟩
    rw [sum_cast]
    have er : tab.sum = ordS size fl tabs ats m el 0 := by
      unfold ordS rightN
      rw [getD_at (by omega), List.getElem?_eq_getElem hi0]
      show _ = ((tabs[ats[el[0]].1]?).getD []).sum + 0
      rw [t1]
      rfl
    rw [er]
    refine ⟨_, rfl, e, _, rfl, .inr (SqT.of he), 1, _, rfl, ⟨by omega, by omega, by omega, by rw [List.length_map]; omega⟩, for_it walk_range (fun i σ H1 => ∃ c4 : Option V, σ = [some (.ref pp), some (.ref e), some (vN m), some (vN (ordS size fl tabs ats m el i)), c4] ∧ Same H H1) ⟨none, rfl, Same.refl _⟩ (fun _ _ _ _ _ => trivial) ?_ ?_⟩
    · rintro i x σ H1 H1' hi ⟨c4, rfl, r1⟩ ⟨rfl, hx⟩
      rw [List.length_map] at hi
      have hi2 : i + 1 < el.length := by omega
      have ex : (1 : Int) + (i : Int) = ((i + 1 : Nat) : Int) := by omega
      have hx : x = V.int ((i + 1 : Nat) : Int) := by rw [← ex]; exact hx
      subst hx
      have he1 := r1 _ _ he
      refine ⟨_, rfl, _, rfl, _, rfl, _, rfl, ((i + 1 : Nat) : Int), rfl, e, _, rfl, SqT.of he1, notwhole (by rw [List.length_map]; exact hi2), fun pe npe => ?_⟩
      rw [cut_takeT]
      have r3 : Same H1' (upd H1' pe (.tup ((el.take (i + 1)).map vN))) := Same.nw npe
      have hpe : TN (upd H1' pe (.tup ((el.take (i + 1)).map vN))) pe (el.take (i + 1)) := upd_same
      generalize upd H1' pe (.tup ((el.take (i + 1)).map vN)) = H3 at r3 hpe
      have r03 := r1.trans r3
      refine ⟨_, rfl, _, rfl, e, _, ((i + 1 : Nat) : Int), vN (el.getD (i + 1) 0), rfl, rfl, SqT.of (r03 _ _ he), atI_nat ?_, _, rfl, pp, pe, size, widths, tabs, ats, fl, el.take (i + 1), el.getD (i + 1) 0, m, rfl, hP.sd r03.sd, num, hpe, fun i hi => o1 i (List.mem_of_mem_take hi), ?_, ?_, ?_, m3, m8, fun H4 p s4 np hp => ?_⟩
      · rw [getD_at hi2, List.getElem?_map, List.getElem?_eq_getElem hi2]
        rfl
      · rw [List.length_take]
        omega
      · rw [List.length_take]
        omega
      · rw [getD_at hi2]
        exact o1 _ (List.getElem_mem _)
      refine ⟨p, _, rfl, .inl ⟨_, hp, rfl⟩, fun lp nlp => ?_⟩
      refine ⟨lp, (mvN (leftN size fl tabs ats (el.take (i + 1))) (rightN tabs ats (el.getD (i + 1) 0)) (linkB ats (el.take (i + 1)) (el.getD (i + 1) 0)) m).map fun (n : Nat) => (n : Int), rfl, SqL.of ?_, ?_, fun mm h1 h2 => ?_⟩
      · rw [upd_same]
        unfold mvA
        rw [mvD_vals, vN_map]
      · unfold mvN
        rw [List.length_map]
        exact Nat.zero_lt_succ _
      · have em := mnL_is h1 h2
        subst em
        refine ⟨_, _, rfl, rfl, some (vN (i + 1)), ?_, (r03.trans s4).trans (Same.nw nlp)⟩
        · have eo : ordS size fl tabs ats m el (i + 1) = ordS size fl tabs ats m el i + stepC size fl tabs ats m (el.take (i + 1)) (el.getD (i + 1) 0) := by
            unfold ordS
            rw [List.range_succ, List.map_append, List.sum_append]
            simp
            omega
          rw [eo]
          show [_, _, _, some (V.int ((ordS size fl tabs ats m el i : Int) + (stepC size fl tabs ats m (el.take (i + 1)) (el.getD (i + 1) 0) : Int))), _] = [_, _, _, some (V.int ((_ + _ : Nat) : Int)), _]
          rw [Int.natCast_add (ordS size fl tabs ats m el i)]
    · rintro σ H1 ⟨c4, rfl, r1⟩
      have en : (((el.map vN).length : Int) - 1).toNat = el.length - 1 := by
        rw [List.length_map]
        omega
      refine ⟨_, rfl, ?_⟩
      rw [en]
      exact k H1 r1
end
end K16
set_option Elab.async false
set_option linter.all false
set_option maxRecDepth 100000
set_option maxHeartbeats 8000000
namespace K16
open PySem PySem.Spec PyProof.Rows L2
theorem pmem {α β : Type} {R : α → β → Prop} : ∀ {l : List α} {m : List β} {a : α}, Paired R l m → a ∈ l → ∃ b ∈ m, R a b
  | _, _, _, .nil, h => by cases h
  | _, _, _, .cons r t, h => by
    rcases List.mem_cons.mp h with e | e
    · subst e
      exact ⟨_, List.mem_cons_self, r⟩
    · obtain ⟨b, hb, q⟩ := pmem t e
      exact ⟨b, List.mem_cons_of_mem _ hb, q⟩
def kNest : Key := Sum.inr "nested"
def kSort : Key := Sum.inr "sorted"
theorem mvD_self (left right : Nat) (linked : Bool) (m : Nat) : ∀ p ∈ mvD left right linked m, valV (mvD left right linked m) p.1 = some p.2 ∧ flatB p.2 = true := by
  unfold mvD
  intro p hp
  have ek : ¬ (Sum.inr "nested" : Key) = (Sum.inr "sorted" : Key) := by decide +kernel
  split
  · rename_i h
    rw [if_pos h] at hp
    rcases List.mem_cons.mp hp with e | e
    · subst e
      exact ⟨valV_pos rfl, rfl⟩
    · rw [List.mem_singleton.mp e]
      refine ⟨?_, rfl⟩
      rw [valV_neg ek]
      exact valV_pos rfl
  · rename_i h
    rw [if_neg h] at hp
    rw [List.mem_singleton.mp hp]
    exact ⟨valV_pos rfl, rfl⟩
theorem perm1 {α : Type} {a : α} {l : List α} (h : l.Perm [a]) : l = [a] := List.perm_singleton.mp h
theorem perm2 {α : Type} {a b : α} {l : List α} (h : l.Perm [a, b]) : l = [a, b] ∨ l = [b, a] := by
  match l, h with
  | [], h => exact absurd h.length_eq (by simp)
  | [x], h => exact absurd h.length_eq (by simp)
  | x :: y :: z :: r, h => exact absurd h.length_eq (by simp)
  | [x, y], h =>
    have hx : x ∈ [a, b] := h.subset List.mem_cons_self
    rcases List.mem_cons.mp hx with e | e
    · subst e
      have := perm1 ((List.perm_cons _).mp h)
      exact .inl (by rw [this])
    · have e := List.mem_singleton.mp e
      subst e
      have h2 : ([y, x] : List α).Perm [a, x] := (List.Perm.swap x y []).trans h
      have h3 : ([x, y] : List α).Perm [x, a] := h.trans (List.Perm.swap x a [])
      have := perm1 ((List.perm_cons _).mp h3)
      exact .inr (by rw [this])
theorem mvD_keys (left right : Nat) (linked : Bool) (m : Nat) : ∃ ks : List Str, (mvD left right linked m).map (·.1) = ks.map Sum.inr ∧ ks.length < 64 ∧ (∀ ys : List Str, ys.Perm ks → sortedS ys = true → ys = ks) ∧ SeqAt.shaped (.list (ks.map PyData.str)) = true := by
  unfold mvD
  split
  · refine ⟨["nested", "sorted"], rfl, by decide, fun ys hp hs => ?_, by decide +kernel⟩
    rcases perm2 hp with e | e
    · exact e
    · rw [e] at hs
      exact absurd hs (by decide +kernel)
  · exact ⟨["nested"], rfl, by decide, fun ys hp _ => perm1 hp, by decide +kernel⟩
theorem dpS {K : PySem.W.Frag} {H : Hp} : ∀ l : List Str, DpAll K H (l.map V.str) (l.map PyData.str)
  | [] => .nil
  | a :: l => .cons (.str _) (dpS l)
theorem shp_eqv {d : PyData} (h : SeqAt.shaped d = true) : PyData.eqv d d = true := by
  unfold SeqAt.shaped at h
  exact SeqAt.eqv_refl d (Bool.and_eq_true_iff.mp h).1
theorem keys_str {kvs : List (Key × V)} {ks : List Str} (h : kvs.map (·.1) = ks.map Sum.inr) : (kvs.map fun kv => kV kv.1) = ks.map V.str := by
  have := congrArg (List.map kV) h
  rw [List.map_map, List.map_map] at this
  exact this
section
variable {size : Nat} {widths : List Nat} {tabs : List (List Nat)} {ats fl : List (Nat × List Nat)}
def lo (size : Nat) (fl : List (Nat × List Nat)) (tabs : List (List Nat)) (ats : List (Nat × List Nat)) (m : Nat) : Nat := lawLeast (stepC size fl tabs ats m) (rightN tabs ats) ats.length
theorem NumOk.least (h : NumOk size widths tabs ats fl) (m : Nat) : leastOf size fl tabs ats m = lo size fl tabs ats m :=
  leastOf_eq (fun e f i p hj => stepC_perm p hj h.five h.nd h.tabl) h.2.2.1.1 h.2.2.1.2.1
theorem lo_zero (h : NumOk size widths tabs ats fl) {m m' : Nat} (hm : 3 ≤ m) (hm' : 3 ≤ m') (hz : lo size fl tabs ats m = 0) : lo size fl tabs ats m' = 0 :=
  least_zero (fun e i => (stepC_zero hm).trans (stepC_zero hm').symm) (ordersL_ne h.2.2.1.1 h.2.2.1.2.1) hz
theorem enough_head (h : NumOk size widths tabs ats fl) : vHead (enoughL (leastOf size fl tabs ats) 0) = if lo size fl tabs ats 3 = 0 then vN 3 else .non := by
  by_cases hz : lo size fl tabs ats 3 = 0
  · rw [if_pos hz]
    have e : ∀ i, decide (leastOf size fl tabs ats (i + 3) ≤ 0) = true := fun i => by
      rw [h.least, lo_zero h (Nat.le_refl 3) (by omega) hz]
      rfl
    have e2 : (List.range 6).filter ((fun m => decide (leastOf size fl tabs ats m ≤ 0)) ∘ fun i => i + 3) = List.range 6 := List.filter_eq_self.mpr fun i _ => e i
    unfold enoughL
    rw [List.filter_map, e2]
    rfl
  · rw [if_neg hz]
    have e : ∀ i, decide (leastOf size fl tabs ats (i + 3) ≤ 0) = false := fun i => by
      rw [h.least]
      refine decide_eq_false fun z => hz (lo_zero h (by omega : 3 ≤ i + 3) (Nat.le_refl 3) (by omega))
    have e2 : (List.range 6).filter ((fun m => decide (leastOf size fl tabs ats m ≤ 0)) ∘ fun i => i + 3) = [] := List.filter_eq_nil_iff.mpr fun i _ => by
      show ¬ decide (leastOf size fl tabs ats (i + 3) ≤ 0) = true
      rw [e i]
      exact Bool.false_ne_true
    unfold enoughL
    rw [List.filter_map, e2]
    rfl
end
section
variable {P : Program} {w : World} {K : PySem.W.Frag} {mg : Str → Option Value} {base : Heap} {CS CD CQ : Addr}
def spLaw (K : PySem.W.Frag) : Sp := fun vs H Q _ => ∃ (a : Addr) (ns : List Int), vs = [.ref a] ∧ SqL K H a (ns.map V.int) ∧ ∀ H', Q (.bl true) H'
theorem sc_law : FnScope ["_law_script", "_law_draw", "_law_turn", "_law_query_here", "_law_data", "_law_parts_here", "_law_many", "_law_memory", "_law_orders_here", "_law_order_here", "_law_step", "_law_due", "_law_told", "_law_rows", "_law_most", "_law_enough", "_law_size", "_law_least", "_law_late"] ["_law_script"] (defScope s_law) := ⟨rfl, rfl, rfl, by decide +kernel, rfl, by decide +kernel, by decide +kernel⟩
theorem ok_law (T : Tx K mg) (Z : Cs K mg CS CD CQ) {f : Addr} {fd : FuncData} (F : FunD K "law" "law" (defArgs s_law) (defBody s_law) (defScope s_law) [] [] f fd) (c__law_query : Cal P w K mg base 6 "_law_query" (spQuery K CS CD CQ)) (c_lenQ : MetO P w K mg base 1 CQ "__len__" (spLenQ CQ CS)) (c__law_take : Cal P w K mg base 2 "_law_take" (spTake K)) (c__law_orders : Cal P w K mg base 1 "_law_orders" spOrders)
    (c__law_pick : Cal P w K mg base 3 "_law_pick" (spPick K)) (c__law_moves : Cal P w K mg base 5 "_law_moves" spLawMoves) (c_step_moves : Cal P w K mg base 8 "step_moves" (spStepMoves CS CD CQ)) (c_order_moves : Cal P w K mg base 9 "order_moves" (spOrderMoves CS CD CQ)) (c__law_total : Cal P w K mg base 6 "_law_total" spTotal)
    (c_least_moves : Cal P w K mg base 9 "least_moves" (spLeastMoves CS CD CQ)) (c_memory_needed : Cal P w K mg base 9 "memory_needed" (spMemoryNeeded CS CD CQ)) : FnOk P w K mg base CX0 10 f fd ["_law_script"] (spLaw K) := by
  refine fn_body F sc_law (fun vs H Q E h => ?_) (fun cdv A outer s H vs Q E hr h => ?_)
  · obtain ⟨_, _, rfl, _⟩ := h
    rfl
  · obtain ⟨sa, ns, rfl, hs, k⟩ := h
    have hu := hu_of hr
    have hu1 : (A.deeper (envOfC "law" (defScope s_law) s.heap.objs.size f cdv)).units < cLine := hr.units0
    refine ⟨_, (pss_cons (ps_set (i := 1) sc_law.nd rfl (Or.inl rfl) (pe_lst (pa_cons (pv 0) (pa_cons pe_int pa_nil))))
      (pss_cons (ps_for PassesOwn.never rfl (pi_range1 (by rfl) T.bRange (pa_cons pe_int pa_nil)) (pg_name (i := 2) sc_law.nd rfl (Or.inl rfl)) (pss_cons (ps_asg (pc c__law_query hr (by decide) (by rfl) (pa_cons (pv 1) (pa_cons pe_int (pa_cons pe_int pa_nil)))) (kgtup K (n := 3) rfl (pgs_cons (pg_name (i := 3) sc_law.nd rfl (Or.inr rfl)) (pgs_cons (pg_name (i := 4) sc_law.nd rfl (Or.inr rfl)) (pgs_cons (pg_name (i := 5) sc_law.nd rfl (Or.inr rfl)) pgs_nil)))))
      (pss_cons (ps_par (i := 6) (j := 7) (by rfl) sc_law.nd rfl rfl (by decide) rfl rfl (pa_cons (pe_callB (cr_lenOwn c_lenQ hr (by decide)) (by rfl) T.bLen (by decide +kernel) (pa_cons (pv 3) pa_nil)) (pa_cons (pe_op op_add pe_int (pc c__law_take hr (by decide) (by rfl) (pa_cons (pv 1) (pa_cons pe_int pa_nil)))) pa_nil)) (by rfl))
      (pss_cons (ps_set (i := 8) sc_law.nd rfl (Or.inr rfl) (pc c__law_orders hr (by decide) (by rfl) (pa_cons (pv 6) pa_nil)))
      (pss_cons (ps_set (i := 9) sc_law.nd rfl (Or.inl rfl) (pc c__law_pick hr (by decide) (by rfl) (pa_cons (pv 1) (pa_cons (pv 8) pa_nil))))
      (pss_cons (ps_if (pt_cmpR op_gt (pv 6) pe_int (nomark _)) (pss_cons (ps_set (i := 10) sc_law.nd rfl (Or.inl rfl) (pe_op op_add pe_int (pc c__law_take hr (by decide) (by rfl) (pa_cons (pv 1) (pa_cons (pe_op op_sub (pv 6) pe_int) pa_nil)))))
      (pss_cons (ps_set (i := 11) sc_law.nd rfl (Or.inl rfl) (pc c__law_moves hr (by decide) (by rfl) (pa_cons (pv 5) (pa_cons (pe_slice (kslT K) (pv 9) po_none (po_some (pv 10))) (pa_cons (pe_ix (kixT K) (pv 9) (pv 10) (fun _ _ => rfl)) (pa_cons (pv 7) pa_nil))))))
      (pss_cons (ps_set (i := 12) sc_law.nd rfl (Or.inl rfl) (pc c_step_moves hr (by decide) (by rfl) (pa_cons (pv 3) (pa_cons (pv 9) (pa_cons (pv 10) (pa_cons (pv 4) (pa_cons (pv 7) pa_nil)))))))
      (pss_one (ps_if (PW.pt (pw_or (pt_cmpR (op_ne_dictA hu1) (pv 12) (pv 11) (nomark _)) (pw_or1 (pt_cmpR (kneD K hr.units) (pe_callTy (call_list_dK rfl) (by rfl) T.bList (by decide +kernel) (pa_cons (pv 12) pa_nil)) (pe_callB (call_sortedD rfl) (by rfl) T.bSorted (by decide +kernel) (pa_cons (pv 11) pa_nil)) (nomark _))))) (pss_one (ps_ret pe_bl)) pss_nil))))) pss_nil)
      (pss_cons (ps_if (pt_cmpR op_ne (pc c_order_moves hr (by decide) (by rfl) (pa_cons (pv 3) (pa_cons (pv 9) (pa_cons (pv 4) (pa_cons (pv 7) pa_nil))))) (pc c__law_total hr (by decide) (by rfl) (pa_cons (pv 5) (pa_cons (pv 9) (pa_cons (pv 7) pa_nil)))) (nomark _)) (pss_one (ps_ret pe_bl)) pss_nil)
      (pss_cons (ps_set (i := 13) sc_law.nd rfl (Or.inl rfl) (pe_callTy (kdictP K rfl) (by rfl) T.bDict (by decide +kernel) (pa_cons (pe_lc (own := [("_law_size", 16)]) (by rfl) sc_law.nd (kpt K (pe_tup (pa_cons pe_int (pa_cons pe_int (pa_cons pe_int pa_nil))))) (blkOk_by (own := [("_law_size", 16)]) (N := ["_law_script", "_law_draw", "_law_turn", "_law_query_here", "_law_data", "_law_parts_here", "_law_many", "_law_memory", "_law_orders_here", "_law_order_here", "_law_step", "_law_due", "_law_told", "_law_rows", "_law_most", "_law_enough", "_law_size", "_law_least", "_law_late"]) (sc := defScope s_law) (by decide +kernel)) (fun _ _ _ _ _ => (pg_name (i := 16) sc_law.nd rfl (Or.inr rfl))) (fun _ _ _ _ _ => pts_nil) (fun _ _ _ _ _ => (pe_tup (pa_cons (pv 16) (pa_cons (pe_callB (kmin K rfl) (by rfl) T.bMin (by decide +kernel) (pa_cons (pe_lc (own := [("_law_late", 18)]) (by rfl) sc_law.nd (kpl K (pv 8)) (blkOk_rel (own := [("_law_late", 18)]) (N := ["_law_script", "_law_draw", "_law_turn", "_law_query_here", "_law_data", "_law_parts_here", "_law_many", "_law_memory", "_law_orders_here", "_law_order_here", "_law_step", "_law_due", "_law_told", "_law_rows", "_law_most", "_law_enough", "_law_size", "_law_least", "_law_late"]) (sc := ({ kind := .function, names := [(".0", .local), ("_law_size", .cell), ("min", .globalImplicit), ("_law_orders_here", .free), ("_law_parts_here", .free)], isGenerator := false, isCoroutine := false } : Scope)) (by decide +kernel)) (fun _ _ _ _ _ => (pg_name (i := 18) sc_law.nd rfl (Or.inl rfl))) (fun _ _ _ _ _ => pts_nil) (fun _ _ _ _ _ => (pc c__law_total hr (by decide) (by rfl) (pa_cons (pv 5) (pa_cons (pv 18) (pa_cons (pv 16) pa_nil)))))) pa_nil)) pa_nil))))) pa_nil)))
      (pss_cons (ps_if (pt_not (pt_val (pe_callB (kall K rfl) (by rfl) T.bAll (by decide +kernel) (pa_cons (pe_lock (pe_lc (own := [("_law_size", 16), ("_law_least", 17)]) (by rfl) sc_law.nd (pi_items (pv 13)) (blkOk_by (own := [("_law_size", 16), ("_law_least", 17)]) (N := ["_law_script", "_law_draw", "_law_turn", "_law_query_here", "_law_data", "_law_parts_here", "_law_many", "_law_memory", "_law_orders_here", "_law_order_here", "_law_step", "_law_due", "_law_told", "_law_rows", "_law_most", "_law_enough", "_law_size", "_law_least", "_law_late"]) (sc := defScope s_law) (by decide +kernel)) (fun _ _ _ _ _ => (kgtup K (n := 2) rfl (pgs_cons (pg_name (i := 16) sc_law.nd rfl (Or.inl rfl)) (pgs_cons (pg_name (i := 17) sc_law.nd rfl (Or.inl rfl)) pgs_nil)))) (fun _ _ _ _ _ => pts_nil) (fun _ _ _ _ _ => (pe_cmpR op_eq (pc c_least_moves hr (by decide) (by rfl) (pa_cons (pv 3) (pa_cons (pv 4) (pa_cons (pv 16) pa_nil)))) (pv 17) (nomark _))))) pa_nil)))) (pss_one (ps_ret pe_bl)) pss_nil)
      (pss_cons (ps_set (i := 14) sc_law.nd rfl (Or.inr rfl) (pe_callB (call_min2 rfl) (by rfl) T.bMin (by decide +kernel) (pa_cons pe_int (pa_cons (pe_callB (call_max2 rfl) (by rfl) T.bMax (by decide +kernel) (pa_cons pe_int (pa_cons (pe_op op_sub (pe_dget hu (pv 13) pe_int (fun _ _ => rfl)) (pc c__law_take hr (by decide) (by rfl) (pa_cons (pv 1) (pa_cons pe_int pa_nil)))) pa_nil))) pa_nil))))
      (pss_cons (ps_setLc (i := 15) (own := [("_law_size", 16)]) (by rfl) sc_law.nd rfl rfl (sw_true rfl rfl rfl (by decide +kernel)) (pi_range2 (by rfl) T.bRange (pa_cons pe_int (pa_cons pe_int pa_nil))) (blkOk_by (own := [("_law_size", 16)]) (N := ["_law_script", "_law_draw", "_law_turn", "_law_query_here", "_law_data", "_law_parts_here", "_law_many", "_law_memory", "_law_orders_here", "_law_order_here", "_law_step", "_law_due", "_law_told", "_law_rows", "_law_most", "_law_enough", "_law_size", "_law_least", "_law_late"]) (sc := defScope s_law) (by decide +kernel)) (fun _ _ _ _ _ => (pg_name (i := 16) sc_law.nd rfl (Or.inl rfl))) (fun _ _ _ _ _ => (pts_one (pt_cmpR op_le (pc c_least_moves hr (by decide) (by rfl) (pa_cons (pv 3) (pa_cons (pv 4) (pa_cons (pv 16) pa_nil)))) (pv 14) (nomark _)))) (fun _ _ _ _ _ => (pv 16)))
      (pss_cons (ps_if (pt_cmpR op_ne (pc c_memory_needed hr (by decide) (by rfl) (pa_cons (pv 3) (pa_cons (pv 4) (pa_cons (pv 14) pa_nil)))) (pe_ifExp (pt_cmpR (kneD K hr.units) (pv 15) (pe_lst pa_nil) (nomark _)) (pe_ix (kixL K) (pv 15) pe_int (fun _ _ => rfl)) pe_non) (nomark _)) (pss_one (ps_ret pe_bl)) pss_nil)
      (pss_one (ps_if (PW.pt (pw_and (pt_cmpR op_ne (pc c_memory_needed hr (by decide) (by rfl) (pa_cons (pv 3) (pa_cons (pv 4) (pa_cons pe_int pa_nil)))) (pe_ifExp (pt_cmpR op_eq (pe_dget hu (pv 13) pe_int (fun _ _ => rfl)) pe_int (nomark _)) pe_int pe_non) (nomark _)) (pw_and1 (pt_cmpR op_gt (pe_dget hu (pv 13) pe_int (fun _ _ => rfl)) pe_int (nomark _))))) (pss_one (ps_ret pe_bl)) pss_nil))))))))))))))
      (pss_one (ps_ret pe_bl)))), ?_⟩
    refine ⟨_, rfl, by show 2 ≤ sizeLine; decide, fun d nd => ?_⟩
    have d0 : Dr K d sa ns (upd H d (.lst [.ref sa, .int 0])) := ⟨0, upd_same, (Same.nw nd).seq hs⟩
    generalize upd H d (.lst [.ref sa, .int 0]) = H0 at d0
    refine ⟨2, rfl, by decide, by decide, for_it walk_range (fun i σ H1 => ∃ (c2 c3 c4 c5 c6 c7 c8 c9 c10 c11 c12 c13 c14 c15 : Option V), σ = [some (.ref sa), some (.ref d), c2, c3, c4, c5, c6, c7, c8, c9, c10, c11, c12, c13, c14, c15, none, none, none] ∧ Dr K d sa ns H1) ⟨none, none, none, none, none, none, none, none, none, none, none, none, none, none, rfl, d0⟩ (fun _ _ _ _ _ => trivial) ?_ ?_⟩
    · rintro i x σ H1 H1' hi ⟨c2, c3, c4, c5, c6, c7, c8, c9, c10, c11, c12, c13, c14, c15, rfl, hd⟩ ⟨rfl, rfl⟩
      refine ⟨_, rfl, d, sa, ns, rfl, hd, fun H2 p qq dd pp size widths ats fl tabs w2 np hp good parts num => ⟨p, _, rfl, SqT.of hp, rfl, _, _, rfl, _, _, rfl, _, _, rfl, rfl, ?_⟩⟩
      have n1 := num.2.2.1.1
      have n3 := num.2.2.1.2.1
      obtain ⟨dx, sx, ax, fx, shx, hqq, _⟩ := id good.1
      refine ⟨_, rfl, qq, dx, _, rfl, hqq, qq, size, widths, ats, fl, rfl, good.1, ats.length, rfl, by omega, ?_⟩
      refine ⟨_, rfl, d, sa, ns, 6, rfl, by decide, w2.dr, fun H3 x3 w3 hx3 => ⟨_, _, rfl, rfl, _, _, rfl, ?_⟩⟩
      have m3 : 3 ≤ 3 + x3 := by omega
      have m8 : 3 + x3 ≤ 8 := by omega
      refine st_is (σ' := [some (.ref sa), some (.ref d), some (.int (0 + (i : Int))), some (.ref qq), some (.ref dd), some (.ref pp), some (vN ats.length), some (vN (3 + x3)), c8, c9, c10, c11, c12, c13, c14, c15, none, none, none]) rfl ?_
      generalize 3 + x3 = m at m3 m8
      have good3 := good.sd w3.sd
      have parts3 := parts.sd w3.sd
      refine ⟨_, rfl, ats.length, rfl, n3, fun H4 op s4 nop ⟨ys, hop, hys⟩ => ?_⟩
      have hyl := plen hys
      have hone := ordersL_ne n1 n3
      have w4 := DW.of w3.dr s4
      refine ⟨_, rfl, _, rfl, d, sa, op, ns, ys.map V.ref, rfl, ?_, w4.dr, hop, isDraw_refs _, fun H5 x5 w5 hx5 => ?_⟩
      · intro z
        have : ys = [] := List.map_eq_nil_iff.mp z
        rw [this] at hyl
        exact hone (List.length_eq_zero_iff.mp hyl.symm)
      obtain ⟨oa, hoa, rfl⟩ := List.mem_map.mp hx5
      obtain ⟨el, hel, ht4⟩ := pmem hys hoa
      obtain ⟨ol, ond, ob⟩ := ordersL_mem hel
      have oko : OrdOk ats.length el := ⟨ob, ond, ol⟩
      have w35 := (DW.of w3.dr s4).trans w5
      have good5 := good3.sd w35.sd
      have parts5 := parts3.sd w35.sd
      have he5 : TN H5 oa el := ht4.ts w5.ts
      have hop5 := w5.sd _ _ (isDraw_refs _) hop
      have hys5 : Paired (TN H5) ys (ordersL ats.length ats.length) := ptn w5.ts hys
      have hol := ordersL_len n3 ats.length
      have hol27 : (ordersL ats.length ats.length).length ≤ 27 := Nat.le_trans hol (Nat.le_trans (Nat.pow_le_pow_right (by decide) n3) (by decide))
      have hordok : ∀ j (hj : j < (ordersL ats.length ats.length).length), OrdOk ats.length (ordersL ats.length ats.length)[j] := fun j hj => by
        obtain ⟨a1, a2, a3⟩ := ordersL_mem (List.getElem_mem hj)
        exact ⟨a3, a2, a1⟩
      refine ⟨_, rfl, _, _, rfl, rfl, _, rfl, ?_⟩
      by_cases hmany : 1 < ats.length
      case' pos =>
        refine itT (decide_eq_true (by omega)) ?_
        refine ⟨_, rfl, _, rfl, _, _, rfl, rfl, d, sa, ns, ats.length - 1, congrArg (fun z => [V.ref d, V.int z]) (by omega : (ats.length : Int) - 1 = ((ats.length - 1 : Nat) : Int)), by omega, w5.dr, fun G6 y v6 hy => ⟨_, _, rfl, rfl, ?_⟩⟩
        have hst1 : 1 ≤ 1 + y := by omega
        have hst2 : 1 + y < ats.length := by omega
        show tSeq _ _ _ _ _
        refine st_is (σ' := [some (.ref sa), some (.ref d), some (.int (0 + (i : Int))), some (.ref qq), some (.ref dd), some (.ref pp), some (vN ats.length), some (vN m), some (.ref op), some (.ref oa), some (vN (1 + y)), c11, c12, c13, c14, c15, none, none, none]) rfl ?_
        generalize 1 + y = st at hst1 hst2
        have g6 := good5.sd v6.sd
        have q6 := parts5.sd v6.sd
        have e6 : TN G6 oa el := he5.ts v6.ts
        refine ⟨_, rfl, _, rfl, _, rfl, (st : Int), rfl, oa, _, rfl, SqT.of e6, notwhole (by rw [List.length_map]; omega), fun pe npe => ?_⟩
        rw [cut_takeT]
        have r7 : Same G6 (upd G6 pe (.tup ((el.take st).map vN))) := Same.nw npe
        have hpe : TN (upd G6 pe (.tup ((el.take st).map vN))) pe (el.take st) := upd_same
        generalize upd G6 pe (.tup ((el.take st).map vN)) = G7 at r7 hpe
        refine ⟨_, rfl, _, rfl, oa, _, (st : Int), vN (el.getD st 0), rfl, rfl, SqT.of (r7 _ _ e6), atI_nat (by rw [getD_at (by omega), List.getElem?_map, List.getElem?_eq_getElem (by omega)]; rfl), _, rfl, pp, pe, size, widths, tabs, ats, fl, el.take st, el.getD st 0, m, rfl, q6.sd r7.sd, num, hpe, fun i hi => ob i (List.mem_of_mem_take hi), by rw [List.length_take]; omega, by rw [List.length_take]; omega, by rw [getD_at (by omega)]; exact ob _ (List.getElem_mem _), m3, m8, fun G8 p8 r8 np8 hp8 => ?_⟩
        have r68 := r7.trans r8
        refine ⟨_, rfl, _, rfl, _, rfl, _, rfl, _, rfl, qq, oa, dd, size, widths, ats, fl, tabs, el, st, m, rfl, g6.sd r68.sd, r68 _ _ e6, oko, hst1, hst2, m3, m8, fun G9 p9 r9 np9 hp9 => ?_⟩
        have hp8' := r9 _ _ hp8
        obtain ⟨ks, k1, k2, k3, k4⟩ := mvD_keys (leftN size fl tabs ats (el.take st)) (rightN tabs ats (el.getD st 0)) (linkB ats (el.take st) (el.getD st 0)) m
        refine ⟨_, rfl, _, rfl, p9, p8, _, _, rfl, rfl, hp9, hp8', rfl, mvD_self _ _ _ _, _, rfl, itF rfl ?_⟩
        refine ⟨_, rfl, p9, _, rfl, hp9, fun q1 nq1 => ?_⟩
        have r10 : Same G9 (upd G9 q1 (.lst ((mvA size fl tabs ats (el.take st) (el.getD st 0) m).map fun kv => kV kv.1))) := Same.nw nq1
        have hq1 : (upd G9 q1 (.lst ((mvA size fl tabs ats (el.take st) (el.getD st 0) m).map fun kv => kV kv.1))) q1 = some (.lst (ks.map V.str)) := by
          rw [upd_same]
          exact congrArg (fun z => some (HO.lst z)) (keys_str k1)
        generalize upd G9 q1 (.lst ((mvA size fl tabs ats (el.take st) (el.getD st 0) m).map fun kv => kV kv.1)) = G10 at r10 hq1
        refine ⟨_, rfl, p8, _, ks, rfl, .inl (r10 _ _ hp8'), k1, k2, fun zs q2 hzp hzs nq2 => ?_⟩
        have hzk := k3 zs hzp hzs
        subst hzk
        have r11 : Same G10 (upd G10 q2 (.lst (zs.map V.str))) := Same.nw nq2
        have hq2 : (upd G10 q2 (.lst (zs.map V.str))) q2 = some (.lst (zs.map V.str)) := upd_same
        have wE := v6.same (((r68.trans r9).trans r10).trans r11)
        generalize upd G10 q2 (.lst (zs.map V.str)) = H6 at r11 hq2 wE
        refine ⟨_, _, .lst (SqL.of (r11 _ _ hq1)) (dpS zs), .lst (SqL.of hq2) (dpS zs), k4, k4, _, rfl, itF (by rw [shp_eqv k4]; rfl) ?_⟩
      case' neg =>
        refine itF (decide_eq_false (by omega)) ?_
        have wE := DW.refl w5.dr
        obtain ⟨H6, hH6⟩ : ∃ H6, H5 = H6 := ⟨H5, rfl⟩
        rw [hH6] at good5 parts5 he5 hop5 hys5 wE ⊢
      all_goals
        have good6 := good5.sd wE.sd
        have parts6 := parts5.sd wE.sd
        have he6 : TN H6 oa el := he5.ts wE.ts
        have hop6 := wE.sd _ _ (isDraw_refs _) hop5
        have hys6 := ptn wE.ts hys5
        refine ⟨_, rfl, _, rfl, _, rfl, _, rfl, qq, oa, dd, size, widths, ats, fl, tabs, el, m, rfl, good6, he6, oko, m3, m8, fun H7 s7 => ?_⟩
        refine ⟨_, rfl, _, rfl, _, rfl, pp, oa, size, widths, tabs, ats, fl, el, m, rfl, parts6.sd s7.sd, num, s7 _ _ he6, oko, m3, m8, fun H8 s8 => ⟨rfl, _, rfl, iteNS rfl ?_⟩⟩
        -- rows
        have s68 := s7.trans s8
        refine ⟨by show 3 ≤ sizeLine; decide, fun t3 nt3 => ?_⟩
        have s9 : Same H8 (upd H8 t3 (.tup [.int 3, .int 5, .int 8])) := Same.nw nt3
        have ht3 : TN (upd H8 t3 (.tup [.int 3, .int 5, .int 8])) t3 [3, 5, 8] := upd_same
        refine ⟨t3, rfl, ⟨_, SqT.of ht3⟩, fun D hD => ?_⟩
        generalize upd H8 t3 (.tup [.int 3, .int 5, .int 8]) = H9 at s9 ht3 hD ⊢
        have s69 := s68.trans s9
        refine it_core (walk_tup (K := K) (a := t3) (xs := ([3, 5, 8] : List Nat).map vN)) (fun i2 G => ∃ ps : List Addr, G D = some (.lst (ps.map V.ref)) ∧ Same H9 G ∧ Paired (fun p (kv : Key × V) => G p = some (.tup [kV kv.1, kv.2])) ps ((([3, 5, 8] : List Nat).take i2).map fun (mm : Nat) => ((Sum.inl (mm : Int) : Key), vN (lo size fl tabs ats mm)))) ⟨[], upd_same, Same.nw hD, .nil⟩ (fun _ G _ ⟨_, _, e, _⟩ => e.tp (SqT.of ht3)) ?_ ?_
        · rintro i2 x G1 G2 hi2 ⟨ps, g1, g2, g3⟩ ⟨rfl, hx⟩
          rw [List.length_map] at hi2
          obtain rfl := at_map hi2 hx
          have hts := take_s hi2
          have hmm : 3 ≤ ([3, 5, 8] : List Nat)[i2] ∧ ([3, 5, 8] : List Nat)[i2] ≤ 8 := by
            have := List.getElem_mem hi2
            simp only [List.mem_cons, List.not_mem_nil, or_false] at this
            omega
          generalize ([3, 5, 8] : List Nat)[i2] = mm at hts hmm
          have hpl := plen g3
          rw [List.length_map, List.length_take] at hpl
          have hpb : ps.length ≤ 3 := by
            rw [hpl]
            exact Nat.le_trans (Nat.min_le_right _ _) (by decide)
          have s6G := s69.trans g2
          refine ⟨rfl, lc_yes ?_⟩
          refine ⟨_, rfl, _, rfl, op, rfl, ⟨_, SqL.of (s6G _ _ hop6)⟩, fun D2 hD2 => ?_⟩
          refine it_core (walk_list (K := K) (a := op) (xs := ys.map V.ref)) (fun j G3 => G3 D2 = some (.lst ((((ordersL ats.length ats.length).take j).map (ordC size fl tabs ats mm)).map vN)) ∧ Same G2 G3) ⟨upd_same, Same.nw hD2⟩ (fun _ G3 _ ⟨_, e⟩ => (s6G.trans e).seq (SqL.of hop6)) ?_ ?_
          · rintro j x G3 G4 hj ⟨e1, e2⟩ ⟨rfl, hx⟩
            rw [List.length_map] at hj
            obtain rfl := at_map hj hx
            have hj2 : j < (ordersL ats.length ats.length).length := by omega
            have hyt := pget hys6 (List.getElem?_eq_getElem hj) (List.getElem?_eq_getElem hj2)
            have hoj := hordok j hj2
            have hts2 := take_s hj2
            have s64 := s6G.trans e2
            refine ⟨rfl, lc_yes ?_⟩
            refine ⟨_, rfl, _, rfl, _, rfl, pp, ys[j], size, widths, tabs, ats, fl, (ordersL ats.length ats.length)[j], mm, rfl, parts6.sd s64.sd, num, s64 _ _ hyt, hoj, hmm.1, hmm.2, fun G5 s5 => ?_⟩
            refine ⟨_, s5 _ _ e1, szs (by rw [List.length_map, List.length_map, List.length_take]; omega), ?_, (e2.trans s5).mt hD2⟩
            rw [upd_same, hts2, List.map_append, List.map_append]
            rfl
          rintro G3 ⟨e1, e2⟩
          rw [List.length_map, hyl, List.take_length] at e1
          refine ⟨D2, ((ordersL ats.length ats.length).map (ordC size fl tabs ats mm)).map fun (n : Nat) => (n : Int), rfl, SqL.of (by rw [e1, vN_map]), by rw [List.length_map, List.length_map]; exact List.length_pos_iff.mpr hone, fun mn h1 h2 => ?_⟩
          have em := mnL_is h1 h2
          subst em
          refine ⟨by show 2 ≤ sizeLine; decide, fun t nt => ?_⟩
          obtain ⟨b1, b2, b3, b4, b5⟩ := app_new (H1 := H9) (o := HO.tup [vN mm, vN (lo size fl tabs ats mm)]) (e2 _ _ g1) (g2.trans e2) hD nt
          refine ⟨_, b1, szs (by rw [List.length_map]; omega), ps ++ [t], b2, b3, ?_⟩
          rw [hts, List.map_append]
          exact psnoc (pimp g3 fun _ _ e => b4 _ _ (e2 _ _ e)) b5
        rintro G ⟨ps, g1, g2, g3⟩
        have g3 : Paired (fun p (kv : Key × V) => G p = some (.tup [kV kv.1, kv.2])) ps [((Sum.inl 3 : Key), vN (lo size fl tabs ats 3)), (Sum.inl 5, vN (lo size fl tabs ats 5)), (Sum.inl 8, vN (lo size fl tabs ats 8))] := g3
        refine ⟨D, ps, _, rfl, SqL.of g1, pimp g3 (fun _ _ e => SqT.of e), fun rp nrp => ?_⟩
        rw [merge_nd _ [] (by show ([Sum.inl 3, Sum.inl 5, Sum.inl 8] : List Key).Nodup; decide), List.nil_append]
        have hv3 : valV [((Sum.inl 3 : Key), vN (lo size fl tabs ats 3)), (Sum.inl 5, vN (lo size fl tabs ats 5)), (Sum.inl 8, vN (lo size fl tabs ats 8))] (Sum.inl 3) = some (vN (lo size fl tabs ats 3)) := valV_pos rfl
        have hv5 : valV [((Sum.inl 3 : Key), vN (lo size fl tabs ats 3)), (Sum.inl 5, vN (lo size fl tabs ats 5)), (Sum.inl 8, vN (lo size fl tabs ats 8))] (Sum.inl 5) = some (vN (lo size fl tabs ats 5)) := (valV_neg (by show ¬ (Sum.inl 3 : Key) = Sum.inl 5; decide)).trans (valV_pos rfl)
        have hv8 : valV [((Sum.inl 3 : Key), vN (lo size fl tabs ats 3)), (Sum.inl 5, vN (lo size fl tabs ats 5)), (Sum.inl 8, vN (lo size fl tabs ats 8))] (Sum.inl 8) = some (vN (lo size fl tabs ats 8)) := ((valV_neg (by show ¬ (Sum.inl 3 : Key) = Sum.inl 8; decide)).trans (valV_neg (by show ¬ (Sum.inl 5 : Key) = Sum.inl 8; decide))).trans (valV_pos rfl)
        have hkv : ∀ j, j < 3 → ∃ mm : Nat, 3 ≤ mm ∧ mm ≤ 8 ∧ ([((Sum.inl 3 : Key), vN (lo size fl tabs ats 3)), (Sum.inl 5, vN (lo size fl tabs ats 5)), (Sum.inl 8, vN (lo size fl tabs ats 8))] : List (Key × V))[j]? = some (Sum.inl (mm : Int), vN (lo size fl tabs ats mm)) := by
          intro j hj
          match j, hj with
          | 0, _ => exact ⟨3, by decide, by decide, rfl⟩
          | 1, _ => exact ⟨5, by decide, by decide, rfl⟩
          | 2, _ => exact ⟨8, by decide, by decide, rfl⟩
        have hkl : ([((Sum.inl 3 : Key), vN (lo size fl tabs ats 3)), (Sum.inl 5, vN (lo size fl tabs ats 5)), (Sum.inl 8, vN (lo size fl tabs ats 8))] : List (Key × V)).length = 3 := rfl
        generalize [((Sum.inl 3 : Key), vN (lo size fl tabs ats 3)), (Sum.inl 5, vN (lo size fl tabs ats 5)), (Sum.inl 8, vN (lo size fl tabs ats 8))] = kvs at hv3 hv5 hv8 hkv hkl
        have s6G := s69.trans g2
        have nrp6 : H6 rp = none := s6G.free nrp
        have s10 : Same H6 (upd G rp (.dK kvs)) := s6G.mt nrp6
        have hrp : (upd G rp (.dK kvs)) rp = some (.dK kvs) := upd_same
        generalize upd G rp (.dK kvs) = H10 at s10 hrp
        -- all
        refine ⟨rp, .dK kvs, hrp, trivial, fun od => ?_⟩
        refine ⟨_, rfl, rp, od, kvs, rfl, upd_same, fun D hD => ?_⟩
        have s11 : Same H6 (upd H10 rp (.frz od (.dK kvs))) := s10.mt nrp6
        refine it_core (walk_items (d := rp) (o := od) (kvs := kvs)) (LcI D fun j acc G => acc = List.replicate j (.bl true) ∧ Same (upd H10 rp (.frz od (.dK kvs))) G) ⟨[], upd_same, Nat.le_refl _, rfl, Same.nw hD⟩ (fun _ G _ ⟨_, _, _, _, e⟩ => e _ _ upd_same) ?_ ?_
        · rintro j x G1 G2 hj ⟨acc, a1, a2, a3, a4⟩ ⟨tp, x1, x2, rfl, ntp, rfl, f1, f2⟩
          rw [hkl] at hj
          obtain ⟨mm, mm3, mm8, hkj⟩ := hkv j hj
          have f1 : kvs[j]?.map (fun kv => kV kv.1) = some x1 := f1
          have f2 : kvs[j]?.map Prod.snd = some x2 := f2
          rw [hkj] at f1 f2
          obtain rfl : vN mm = x1 := Option.some.inj f1
          obtain rfl : vN (lo size fl tabs ats mm) = x2 := Option.some.inj f2
          have b1 : Same G1 (upd G1 tp (.tup [vN mm, vN (lo size fl tabs ats mm)])) := Same.nw ntp
          refine ⟨tp, _, rfl, SqT.of upd_same, rfl, _, _, rfl, _, _, rfl, rfl, wipe2, lc_yes ?_⟩
          have s6G := (s11.trans a4).trans b1
          refine ⟨_, rfl, _, rfl, _, rfl, qq, dd, size, widths, ats, fl, tabs, mm, rfl, good6.sd s6G.sd, mm3, mm8, fun G3 b3 => ⟨_, rfl, rfl, ?_⟩⟩
          refine lc_end (b3 _ _ (b1 _ _ a1)) a2 (Nat.lt_succ_of_lt hj) (by decide) ⟨?_, ((a4.trans b1).trans b3).mt hD⟩
          rw [a3, List.replicate_succ', num.least, decide_eq_true rfl]
        rintro G' ⟨acc, a1, a2, a3, a4⟩
        rw [hkl] at a3
        refine ⟨a4 _ _ upd_same, ?_⟩
        have Drp : D ≠ rp := fun z => by rw [z, upd_same] at hD; cases hD
        refine ⟨D, List.replicate 3 true, rfl, SqL.of (by rw [upd_ne Drp, a1, a3, List.map_replicate]), true, rfl, iteF ?_⟩
        have s12 : Same H6 (upd G' rp (.dK kvs)) := (s11.trans a4).mt nrp6
        have hrp12 : (upd G' rp (.dK kvs)) rp = some (.dK kvs) := upd_same
        generalize upd G' rp (.dK kvs) = H12 at s12 hrp12
        have w12 := wE.same s12
        -- most
        have hd5 : DGet H12 rp (.int 5) (some (vN (lo size fl tabs ats 5))) := by
          have := DGet.k (k := Sum.inl 5) hrp12
          rw [hv5] at this
          exact this
        refine ⟨_, rfl, rp, _, rfl, hd5, _, rfl, d, sa, ns, 2, rfl, by decide, w12.dr, fun H13 x13 w13 hx13 => ⟨_, _, rfl, rfl, _, _, rfl, _, _, rfl, ?_⟩⟩
        obtain ⟨most, hm1, hm2⟩ : ∃ most : Nat, (if (if ((lo size fl tabs ats 5 : Nat) : Int) - (x13 : Int) > 0 then ((lo size fl tabs ats 5 : Nat) : Int) - (x13 : Int) else 0) < 9999 then (if ((lo size fl tabs ats 5 : Nat) : Int) - (x13 : Int) > 0 then ((lo size fl tabs ats 5 : Nat) : Int) - (x13 : Int) else 0) else 9999) = (most : Int) ∧ most ≤ 9999 := by
          refine ⟨(if (if ((lo size fl tabs ats 5 : Nat) : Int) - (x13 : Int) > 0 then ((lo size fl tabs ats 5 : Nat) : Int) - (x13 : Int) else 0) < 9999 then (if ((lo size fl tabs ats 5 : Nat) : Int) - (x13 : Int) > 0 then ((lo size fl tabs ats 5 : Nat) : Int) - (x13 : Int) else 0) else 9999).toNat, ?_, ?_⟩
          · split <;> omega
          · split <;> omega
        show tSeq _ _ _ _ _
        refine st_is (σ' := [some (.ref sa), some (.ref d), some (.int (0 + (i : Int))), some (.ref qq), some (.ref dd), some (.ref pp), some (vN ats.length), some (vN m), some (.ref op), some (.ref oa), _, _, _, some (.ref rp), some (vN most), c15, none, none, none]) (congrArg (fun z => ([some (.ref sa), some (.ref d), some (.int (0 + (i : Int))), some (.ref qq), some (.ref dd), some (.ref pp), some (vN ats.length), some (vN m), some (.ref op), some (.ref oa), _, _, _, some (.ref rp), some (.int z), c15, none, none, none] : L2.St)) hm1) ?_
        have w613 := w12.trans w13
        have w63 : SD H6 H13 := s12.sd.trans w13.sd
        have good13 := good6.sd w63
        have hrp13 := w13.sd _ _ rfl hrp12
        have dr13 := w13.dr
        -- enough
        refine ⟨3, 9, rfl, by decide, fun D hD => ?_⟩
        refine it_core walk_range (fun j G => G D = some (.lst (((((List.range 6).map fun i => i + 3).take j).filter fun mm => decide (leastOf size fl tabs ats mm ≤ most)).map vN)) ∧ Same H13 G) ⟨upd_same, Same.nw hD⟩ (fun _ _ _ _ => trivial) ?_ ?_
        · rintro j x G1 G2 hj ⟨g1, g2⟩ ⟨rfl, hx⟩
          have hj6 : j < 6 := hj
          have hx : x = vN (j + 3) := by
            rw [hx]
            show V.int (3 + (j : Int)) = V.int ((j + 3 : Nat) : Int)
            rw [show (3 : Int) + (j : Int) = ((j + 3 : Nat) : Int) by omega]
          subst hx
          have hl : j < ((List.range 6).map fun i => i + 3).length := by rw [List.length_map, List.length_range]; exact hj6
          have eg : ((List.range 6).map fun i => i + 3)[j] = j + 3 := by simp
          refine ⟨rfl, _, rfl, _, rfl, _, rfl, qq, dd, size, widths, ats, fl, tabs, j + 3, rfl, good13.sd g2.sd, by omega, by omega, fun G4 b4 => ?_⟩
          refine ⟨_, rfl, _, _, rfl, rfl, _, rfl, ?_⟩
          have g1' := b4 _ _ g1
          have g2' := g2.trans b4
          by_cases hm : leastOf size fl tabs ats (j + 3) ≤ most
          · refine itT (decide_eq_true (by omega)) ?_
            refine ⟨_, rfl, _, g1', szs ?_, ?_, g2'.mt hD⟩
            · rw [List.length_map]
              refine Nat.lt_of_le_of_lt (List.length_filter_le ..) ?_
              rw [List.length_take]
              omega
            · rw [upd_same, take_s hl, List.filter_append, eg]
              have : List.filter (fun mm => decide (leastOf size fl tabs ats mm ≤ most)) [j + 3] = [j + 3] := by simp [hm]
              rw [this, List.map_append]
              rfl
          · refine itF (decide_eq_false (by omega)) ⟨?_, g2'⟩
            rw [g1', take_s hl, List.filter_append, eg]
            have : List.filter (fun mm => decide (leastOf size fl tabs ats mm ≤ most)) [j + 3] = [] := by simp [hm]
            rw [this, List.append_nil]
        rintro G'' ⟨g1, g2⟩
        have g1 : G'' D = some (.lst ((enoughL (leastOf size fl tabs ats) most).map vN)) := g1
        refine ⟨_, rfl, _, rfl, _, rfl, qq, dd, size, widths, ats, fl, tabs, most, rfl, good13.sd g2.sd, hm2, fun H15 s15 => ?_⟩
        have g1 := s15 _ _ g1
        have s1315 := g2.trans s15
        have hd3 := fun (H' : Hp) (e : Same H13 H') => (DGet.k (k := Sum.inl 3) (e _ _ hrp13) : DGet H' rp (.int 3) (valV kvs (Sum.inl 3)))
        rw [hv3] at hd3
        have hd8 := fun (H' : Hp) (e : Same H13 H') => (DGet.k (k := Sum.inl 8) (e _ _ hrp13) : DGet H' rp (.int 8) (valV kvs (Sum.inl 8)))
        have eh := enough_head num
        generalize enoughL (leastOf size fl tabs ats) most = L at g1 ⊢
        refine ⟨_, rfl, by show 0 ≤ sizeLine; decide, fun l nl => ?_⟩
        have s16 : Same H15 (upd H15 l (.lst [])) := Same.nw nl
        have hl0 : LN (upd H15 l (.lst [])) l [] := upd_same
        generalize upd H15 l (.lst []) = H16 at s16 hl0
        have hL : LN H16 D L := s16 _ _ g1
        have s1316 := s1315.trans s16
        refine ⟨_, _, dp_LN hL, dp_LN hl0, shp_LN _, shp_LN _, _, rfl, ?_⟩
        cases L
        case' nil =>
          refine itF rfl ⟨rfl, _, rfl, iteNS rfl ?_⟩
        case' cons b r =>
          refine itT rfl ⟨_, rfl, D, _, 0, _, rfl, rfl, SqL.of hL, atI_nat (j := 0) rfl, rfl, _, rfl, iteNS rfl ?_⟩
        all_goals
          refine ⟨_, rfl, _, rfl, qq, dd, size, widths, ats, fl, tabs, 0, rfl, good13.sd s1316.sd, by decide, fun H17 s17 => ?_⟩
          rw [eh]
          have hd17 := hd3 H17 (s1316.trans s17)
          by_cases hz : lo size fl tabs ats 3 = 0
          · rw [if_pos hz]
            refine ⟨_, rfl, rp, _, rfl, hd17, rfl, _, rfl, itT (by rw [hz]; rfl) ⟨rfl, _, rfl, iteNS rfl (iteF ?_)⟩⟩
            exact ⟨_, _, _, _, _, _, _, _, _, _, _, _, _, _, rfl, dr13.same (s1316.trans s17)⟩
          · rw [if_neg hz]
            refine ⟨_, rfl, rp, _, rfl, hd17, rfl, _, rfl, itF (decide_eq_false fun z => hz (by injection z; omega)) ⟨rfl, _, rfl, iteNS rfl (iteF ?_)⟩⟩
            exact ⟨_, _, _, _, _, _, _, _, _, _, _, _, _, _, rfl, dr13.same (s1316.trans s17)⟩
    · rintro σ H1 ⟨c2, c3, c4, c5, c6, c7, c8, c9, c10, c11, c12, c13, c14, c15, rfl, hd⟩
      exact k H1
end
end K16
set_option Elab.async false
set_option linter.all false
set_option maxRecDepth 100000
set_option maxHeartbeats 0
namespace K16
open PySem PySem.Spec PyProof.Rows L2
/-! ### what the head says -/
section
variable {K : PySem.W.Frag} {h : Heap} {mg : Str → Option Value}
theorem sd_of (c : SaysZ K) : He.SaysD fal fnl K := congrArg (fun z : AlZ => z.2) c
theorem ex_of (c : SaysZ K) : exB K = true := congrArg (fun z : AlZ => z.1) c
theorem insC_of {C : Addr} (c : Cls K C) (e : insB K C = true) : C8.InsC K C := by
  obtain ⟨h1, h2⟩ := He.ba e
  obtain ⟨h2, h3⟩ := He.ba h2
  obtain ⟨h3, h4⟩ := He.ba h3
  obtain ⟨h4, h5⟩ := He.ba h4
  exact ⟨c, He.eqO_ok h1, He.eqO_ok h2, of_decide_eq_true h3, of_decide_eq_true h4, of_decide_eq_true h5⟩
theorem tx_of (X : K.In h) (G : h.Ns mainGlobals mg) (c : He.SaysD fal fnl K) : Tx K mg :=
  ⟨He.free_ok X G (c.fact 51 (f := .free "isinstance") rfl),
    He.free_ok X G (c.fact 52 (f := .free "int") rfl),
    He.free_ok X G (c.fact 53 (f := .free "bool") rfl),
    He.free_ok X G (c.fact 54 (f := .free "tuple") rfl),
    He.free_ok X G (c.fact 55 (f := .free "list") rfl),
    He.free_ok X G (c.fact 56 (f := .free "len") rfl),
    He.free_ok X G (c.fact 57 (f := .free "all") rfl),
    He.free_ok X G (c.fact 58 (f := .free "any") rfl),
    He.free_ok X G (c.fact 59 (f := .free "range") rfl),
    He.free_ok X G (c.fact 60 (f := .free "enumerate") rfl),
    He.free_ok X G (c.fact 61 (f := .free "zip") rfl),
    He.free_ok X G (c.fact 62 (f := .free "sum") rfl),
    He.free_ok X G (c.fact 63 (f := .free "sorted") rfl),
    He.free_ok X G (c.fact 64 (f := .free "set") rfl),
    He.free_ok X G (c.fact 65 (f := .free "dict") rfl),
    He.free_ok X G (c.fact 66 (f := .free "min") rfl),
    He.free_ok X G (c.fact 67 (f := .free "max") rfl),
    He.int_ok X G (c.fact 68 (f := .int "MOST_SIZE" 6) rfl),
    He.int_ok X G (c.fact 69 (f := .int "MOST_TABLES" 4) rfl),
    He.int_ok X G (c.fact 70 (f := .int "MOST_WIDTH" 2) rfl),
    He.int_ok X G (c.fact 71 (f := .int "MOST_COUNT" 9) rfl),
    He.int_ok X G (c.fact 72 (f := .int "MOST_ATOMS" 4) rfl),
    He.int_ok X G (c.fact 73 (f := .int "MOST_VARIABLE" 5) rfl),
    He.int_ok X G (c.fact 74 (f := .int "MOST_ROWS" 60) rfl),
    He.int_ok X G (c.fact 75 (f := .int "MOST_MEMORY" 8) rfl),
    He.int_ok X G (c.fact 76 (f := .int "MOST_MOVES" 9999) rfl)⟩
theorem cs_of (X : K.In h) (G : h.Ns mainGlobals mg) (c : He.SaysD fal fnl K) (e : exB K = true) : Cs K mg (He.ga K "Schema") (He.ga K "Data") (He.ga K "Query") := by
  obtain ⟨e1, e⟩ := He.ba e
  obtain ⟨e2, e⟩ := He.ba e
  obtain ⟨e3, e⟩ := He.ba e
  exact ⟨He.cls_ok (c.fact 77 (f := .cls "Schema") rfl),
    He.cls_ok (c.fact 81 (f := .cls "Data") rfl),
    He.cls_ok (c.fact 85 (f := .cls "Query") rfl),
    He.glo_ok X G (c.fact 2 (f := .glo "Schema") rfl),
    He.glo_ok X G (c.fact 7 (f := .glo "Data") rfl),
    He.glo_ok X G (c.fact 14 (f := .glo "Query") rfl),
    insC_of (He.cls_ok (c.fact 77 (f := .cls "Schema") rfl)) e1,
    insC_of (He.cls_ok (c.fact 81 (f := .cls "Data") rfl)) e2,
    insC_of (He.cls_ok (c.fact 85 (f := .cls "Query") rfl)) e3,
    He.noat_ok (c.fact 79 (f := .noat "Schema" "size") rfl),
    He.noat_ok (c.fact 80 (f := .noat "Schema" "widths") rfl),
    He.noat_ok (c.fact 83 (f := .noat "Data" "schema") rfl),
    He.noat_ok (c.fact 84 (f := .noat "Data" "tables") rfl),
    He.noat_ok (c.fact 87 (f := .noat "Query" "schema") rfl),
    He.noat_ok (c.fact 88 (f := .noat "Query" "atoms") rfl),
    He.noat_ok (c.fact 89 (f := .noat "Query" "filters") rfl),
    He.noat_ok (c.fact 90 (f := .noat "Query" "shown") rfl)⟩
theorem ne_of_head (e : exB K = true) : PySem.W.findIn K (.ref (He.ga K "Schema")) "__ne__" = some (some (.builtin "object.__ne__")) := by
  obtain ⟨_, e⟩ := He.ba e
  obtain ⟨_, e⟩ := He.ba e
  obtain ⟨_, e⟩ := He.ba e
  exact He.eqO_ok e
theorem has_is_number (X : K.In h) (G : h.Ns mainGlobals mg) (c : He.SaysD fal fnl K) : Has K mg "is_number" s_is_number :=
  let ⟨fd, F⟩ := c.def_ 0 (d := d_is_number) rfl
  ⟨_, fd, F, He.glo_ok X G (c.fact 0 (f := .glo "is_number") rfl)⟩
theorem has_check_number (X : K.In h) (G : h.Ns mainGlobals mg) (c : He.SaysD fal fnl K) : Has K mg "check_number" s_check_number :=
  let ⟨fd, F⟩ := c.def_ 1 (d := d_check_number) rfl
  ⟨_, fd, F, He.glo_ok X G (c.fact 1 (f := .glo "check_number") rfl)⟩
theorem has_Schema___init__ (c : He.SaysD fal fnl K) : HasI K (He.ga K "Schema") "Schema.__init__" s_Schema___init__ :=
  let ⟨fd, F⟩ := c.def_ 2 (d := d_Schema___init__) rfl
  ⟨_, fd, F, He.mkr_ok (c.fact 78 (f := .mkr "Schema") rfl)⟩
theorem has_Schema___eq__ (c : He.SaysD fal fnl K) : HasM K (He.ga K "Schema") "__eq__" "Schema.__eq__" s_Schema___eq__ :=
  let ⟨fd, F⟩ := c.def_ 3 (d := d_Schema___eq__) rfl
  ⟨_, fd, F, He.meth_ok (c.fact 91 (f := .meth "Schema" "__eq__") rfl)⟩
theorem has_cells_of (X : K.In h) (G : h.Ns mainGlobals mg) (c : He.SaysD fal fnl K) : Has K mg "cells_of" s_cells_of :=
  let ⟨fd, F⟩ := c.def_ 4 (d := d_cells_of) rfl
  ⟨_, fd, F, He.glo_ok X G (c.fact 3 (f := .glo "cells_of") rfl)⟩
theorem has_check_schema (X : K.In h) (G : h.Ns mainGlobals mg) (c : He.SaysD fal fnl K) : Has K mg "check_schema" s_check_schema :=
  let ⟨fd, F⟩ := c.def_ 5 (d := d_check_schema) rfl
  ⟨_, fd, F, He.glo_ok X G (c.fact 4 (f := .glo "check_schema") rfl)⟩
theorem has_check_table (X : K.In h) (G : h.Ns mainGlobals mg) (c : He.SaysD fal fnl K) : Has K mg "check_table" s_check_table :=
  let ⟨fd, F⟩ := c.def_ 6 (d := d_check_table) rfl
  ⟨_, fd, F, He.glo_ok X G (c.fact 5 (f := .glo "check_table") rfl)⟩
theorem has_are_counts (X : K.In h) (G : h.Ns mainGlobals mg) (c : He.SaysD fal fnl K) : Has K mg "are_counts" s_are_counts :=
  let ⟨fd, F⟩ := c.def_ 7 (d := d_are_counts) rfl
  ⟨_, fd, F, He.glo_ok X G (c.fact 6 (f := .glo "are_counts") rfl)⟩
theorem has_Data___init__ (c : He.SaysD fal fnl K) : HasI K (He.ga K "Data") "Data.__init__" s_Data___init__ :=
  let ⟨fd, F⟩ := c.def_ 8 (d := d_Data___init__) rfl
  ⟨_, fd, F, He.mkr_ok (c.fact 82 (f := .mkr "Data") rfl)⟩
theorem has_Data_rows (c : He.SaysD fal fnl K) : HasM K (He.ga K "Data") "rows" "Data.rows" s_Data_rows :=
  let ⟨fd, F⟩ := c.def_ 9 (d := d_Data_rows) rfl
  ⟨_, fd, F, He.meth_ok (c.fact 92 (f := .meth "Data" "rows") rfl)⟩
theorem has_Data_filled (c : He.SaysD fal fnl K) : HasM K (He.ga K "Data") "filled" "Data.filled" s_Data_filled :=
  let ⟨fd, F⟩ := c.def_ 10 (d := d_Data_filled) rfl
  ⟨_, fd, F, He.meth_ok (c.fact 93 (f := .meth "Data" "filled") rfl)⟩
theorem has_check_data (X : K.In h) (G : h.Ns mainGlobals mg) (c : He.SaysD fal fnl K) : Has K mg "check_data" s_check_data :=
  let ⟨fd, F⟩ := c.def_ 11 (d := d_check_data) rfl
  ⟨_, fd, F, He.glo_ok X G (c.fact 8 (f := .glo "check_data") rfl)⟩
theorem has_is_atom (X : K.In h) (G : h.Ns mainGlobals mg) (c : He.SaysD fal fnl K) : Has K mg "is_atom" s_is_atom :=
  let ⟨fd, F⟩ := c.def_ 12 (d := d_is_atom) rfl
  ⟨_, fd, F, He.glo_ok X G (c.fact 9 (f := .glo "is_atom") rfl)⟩
theorem has_are_atoms (X : K.In h) (G : h.Ns mainGlobals mg) (c : He.SaysD fal fnl K) : Has K mg "are_atoms" s_are_atoms :=
  let ⟨fd, F⟩ := c.def_ 13 (d := d_are_atoms) rfl
  ⟨_, fd, F, He.glo_ok X G (c.fact 10 (f := .glo "are_atoms") rfl)⟩
theorem has_variables_in (X : K.In h) (G : h.Ns mainGlobals mg) (c : He.SaysD fal fnl K) : Has K mg "variables_in" s_variables_in :=
  let ⟨fd, F⟩ := c.def_ 14 (d := d_variables_in) rfl
  ⟨_, fd, F, He.glo_ok X G (c.fact 11 (f := .glo "variables_in") rfl)⟩
theorem has_ascends (X : K.In h) (G : h.Ns mainGlobals mg) (c : He.SaysD fal fnl K) : Has K mg "ascends" s_ascends :=
  let ⟨fd, F⟩ := c.def_ 15 (d := d_ascends) rfl
  ⟨_, fd, F, He.glo_ok X G (c.fact 12 (f := .glo "ascends") rfl)⟩
theorem has_are_filters (X : K.In h) (G : h.Ns mainGlobals mg) (c : He.SaysD fal fnl K) : Has K mg "are_filters" s_are_filters :=
  let ⟨fd, F⟩ := c.def_ 16 (d := d_are_filters) rfl
  ⟨_, fd, F, He.glo_ok X G (c.fact 13 (f := .glo "are_filters") rfl)⟩
theorem has_Query___init__ (c : He.SaysD fal fnl K) : HasI K (He.ga K "Query") "Query.__init__" s_Query___init__ :=
  let ⟨fd, F⟩ := c.def_ 17 (d := d_Query___init__) rfl
  ⟨_, fd, F, He.mkr_ok (c.fact 86 (f := .mkr "Query") rfl)⟩
theorem has_Query___len__ (c : He.SaysD fal fnl K) : HasM K (He.ga K "Query") "__len__" "Query.__len__" s_Query___len__ :=
  let ⟨fd, F⟩ := c.def_ 18 (d := d_Query___len__) rfl
  ⟨_, fd, F, He.meth_ok (c.fact 94 (f := .meth "Query" "__len__") rfl)⟩
theorem has_Query_allowed (c : He.SaysD fal fnl K) : HasM K (He.ga K "Query") "allowed" "Query.allowed" s_Query_allowed :=
  let ⟨fd, F⟩ := c.def_ 19 (d := d_Query_allowed) rfl
  ⟨_, fd, F, He.meth_ok (c.fact 95 (f := .meth "Query" "allowed") rfl)⟩
theorem has_check_query (X : K.In h) (G : h.Ns mainGlobals mg) (c : He.SaysD fal fnl K) : Has K mg "check_query" s_check_query :=
  let ⟨fd, F⟩ := c.def_ 20 (d := d_check_query) rfl
  ⟨_, fd, F, He.glo_ok X G (c.fact 15 (f := .glo "check_query") rfl)⟩
theorem has_check_both (X : K.In h) (G : h.Ns mainGlobals mg) (c : He.SaysD fal fnl K) : Has K mg "check_both" s_check_both :=
  let ⟨fd, F⟩ := c.def_ 21 (d := d_check_both) rfl
  ⟨_, fd, F, He.glo_ok X G (c.fact 16 (f := .glo "check_both") rfl)⟩
theorem has_extended (X : K.In h) (G : h.Ns mainGlobals mg) (c : He.SaysD fal fnl K) : Has K mg "extended" s_extended :=
  let ⟨fd, F⟩ := c.def_ 22 (d := d_extended) rfl
  ⟨_, fd, F, He.glo_ok X G (c.fact 17 (f := .glo "extended") rfl)⟩
theorem has_is_bound (X : K.In h) (G : h.Ns mainGlobals mg) (c : He.SaysD fal fnl K) : Has K mg "is_bound" s_is_bound :=
  let ⟨fd, F⟩ := c.def_ 23 (d := d_is_bound) rfl
  ⟨_, fd, F, He.glo_ok X G (c.fact 18 (f := .glo "is_bound") rfl)⟩
theorem has_rows_after (X : K.In h) (G : h.Ns mainGlobals mg) (c : He.SaysD fal fnl K) : Has K mg "rows_after" s_rows_after :=
  let ⟨fd, F⟩ := c.def_ 24 (d := d_rows_after) rfl
  ⟨_, fd, F, He.glo_ok X G (c.fact 19 (f := .glo "rows_after") rfl)⟩
theorem has_rows_of (X : K.In h) (G : h.Ns mainGlobals mg) (c : He.SaysD fal fnl K) : Has K mg "rows_of" s_rows_of :=
  let ⟨fd, F⟩ := c.def_ 25 (d := d_rows_of) rfl
  ⟨_, fd, F, He.glo_ok X G (c.fact 20 (f := .glo "rows_of") rfl)⟩
theorem has_is_order (X : K.In h) (G : h.Ns mainGlobals mg) (c : He.SaysD fal fnl K) : Has K mg "is_order" s_is_order :=
  let ⟨fd, F⟩ := c.def_ 26 (d := d_is_order) rfl
  ⟨_, fd, F, He.glo_ok X G (c.fact 21 (f := .glo "is_order") rfl)⟩
theorem has_check_order (X : K.In h) (G : h.Ns mainGlobals mg) (c : He.SaysD fal fnl K) : Has K mg "check_order" s_check_order :=
  let ⟨fd, F⟩ := c.def_ 27 (d := d_check_order) rfl
  ⟨_, fd, F, He.glo_ok X G (c.fact 22 (f := .glo "check_order") rfl)⟩
theorem has_check_memory (X : K.In h) (G : h.Ns mainGlobals mg) (c : He.SaysD fal fnl K) : Has K mg "check_memory" s_check_memory :=
  let ⟨fd, F⟩ := c.def_ 28 (d := d_check_memory) rfl
  ⟨_, fd, F, He.glo_ok X G (c.fact 23 (f := .glo "check_memory") rfl)⟩
theorem has_first_many (X : K.In h) (G : h.Ns mainGlobals mg) (c : He.SaysD fal fnl K) : Has K mg "first_many" s_first_many :=
  let ⟨fd, F⟩ := c.def_ 29 (d := d_first_many) rfl
  ⟨_, fd, F, He.glo_ok X G (c.fact 24 (f := .glo "first_many") rfl)⟩
theorem has_best_tree (X : K.In h) (G : h.Ns mainGlobals mg) (c : He.SaysD fal fnl K) : Has K mg "best_tree" s_best_tree :=
  let ⟨fd, F⟩ := c.def_ 30 (d := d_best_tree) rfl
  ⟨_, fd, F, He.glo_ok X G (c.fact 25 (f := .glo "best_tree") rfl)⟩
theorem has_sort_cost (X : K.In h) (G : h.Ns mainGlobals mg) (c : He.SaysD fal fnl K) : Has K mg "sort_cost" s_sort_cost :=
  let ⟨fd, F⟩ := c.def_ 31 (d := d_sort_cost) rfl
  ⟨_, fd, F, He.glo_ok X G (c.fact 26 (f := .glo "sort_cost") rfl)⟩
theorem has_cost_by (X : K.In h) (G : h.Ns mainGlobals mg) (c : He.SaysD fal fnl K) : Has K mg "cost_by" s_cost_by :=
  let ⟨fd, F⟩ := c.def_ 32 (d := d_cost_by) rfl
  ⟨_, fd, F, He.glo_ok X G (c.fact 27 (f := .glo "cost_by") rfl)⟩
theorem has_moves_of (X : K.In h) (G : h.Ns mainGlobals mg) (c : He.SaysD fal fnl K) : Has K mg "moves_of" s_moves_of :=
  let ⟨fd, F⟩ := c.def_ 33 (d := d_moves_of) rfl
  ⟨_, fd, F, He.glo_ok X G (c.fact 28 (f := .glo "moves_of") rfl)⟩
theorem has_step_moves (X : K.In h) (G : h.Ns mainGlobals mg) (c : He.SaysD fal fnl K) : Has K mg "step_moves" s_step_moves :=
  let ⟨fd, F⟩ := c.def_ 34 (d := d_step_moves) rfl
  ⟨_, fd, F, He.glo_ok X G (c.fact 29 (f := .glo "step_moves") rfl)⟩
theorem has_moves_by (X : K.In h) (G : h.Ns mainGlobals mg) (c : He.SaysD fal fnl K) : Has K mg "moves_by" s_moves_by :=
  let ⟨fd, F⟩ := c.def_ 35 (d := d_moves_by) rfl
  ⟨_, fd, F, He.glo_ok X G (c.fact 30 (f := .glo "moves_by") rfl)⟩
theorem has_order_moves (X : K.In h) (G : h.Ns mainGlobals mg) (c : He.SaysD fal fnl K) : Has K mg "order_moves" s_order_moves :=
  let ⟨fd, F⟩ := c.def_ 36 (d := d_order_moves) rfl
  ⟨_, fd, F, He.glo_ok X G (c.fact 31 (f := .glo "order_moves") rfl)⟩
theorem has_least_by (X : K.In h) (G : h.Ns mainGlobals mg) (c : He.SaysD fal fnl K) : Has K mg "least_by" s_least_by :=
  let ⟨fd, F⟩ := c.def_ 37 (d := d_least_by) rfl
  ⟨_, fd, F, He.glo_ok X G (c.fact 32 (f := .glo "least_by") rfl)⟩
theorem has_least_moves (X : K.In h) (G : h.Ns mainGlobals mg) (c : He.SaysD fal fnl K) : Has K mg "least_moves" s_least_moves :=
  let ⟨fd, F⟩ := c.def_ 38 (d := d_least_moves) rfl
  ⟨_, fd, F, He.glo_ok X G (c.fact 33 (f := .glo "least_moves") rfl)⟩
theorem has_memory_needed (X : K.In h) (G : h.Ns mainGlobals mg) (c : He.SaysD fal fnl K) : Has K mg "memory_needed" s_memory_needed :=
  let ⟨fd, F⟩ := c.def_ 39 (d := d_memory_needed) rfl
  ⟨_, fd, F, He.glo_ok X G (c.fact 34 (f := .glo "memory_needed") rfl)⟩
theorem has__law_number (X : K.In h) (G : h.Ns mainGlobals mg) (c : He.SaysD fal fnl K) : Has K mg "_law_number" s__law_number :=
  let ⟨fd, F⟩ := c.def_ 40 (d := d__law_number) rfl
  ⟨_, fd, F, He.glo_ok X G (c.fact 35 (f := .glo "_law_number") rfl)⟩
theorem has__law_take (X : K.In h) (G : h.Ns mainGlobals mg) (c : He.SaysD fal fnl K) : Has K mg "_law_take" s__law_take :=
  let ⟨fd, F⟩ := c.def_ 41 (d := d__law_take) rfl
  ⟨_, fd, F, He.glo_ok X G (c.fact 36 (f := .glo "_law_take") rfl)⟩
theorem has__law_pick (X : K.In h) (G : h.Ns mainGlobals mg) (c : He.SaysD fal fnl K) : Has K mg "_law_pick" s__law_pick :=
  let ⟨fd, F⟩ := c.def_ 42 (d := d__law_pick) rfl
  ⟨_, fd, F, He.glo_ok X G (c.fact 37 (f := .glo "_law_pick") rfl)⟩
theorem has__law_order (X : K.In h) (G : h.Ns mainGlobals mg) (c : He.SaysD fal fnl K) : Has K mg "_law_order" s__law_order :=
  let ⟨fd, F⟩ := c.def_ 43 (d := d__law_order) rfl
  ⟨_, fd, F, He.glo_ok X G (c.fact 38 (f := .glo "_law_order") rfl)⟩
theorem has__law_schema (X : K.In h) (G : h.Ns mainGlobals mg) (c : He.SaysD fal fnl K) : Has K mg "_law_schema" s__law_schema :=
  let ⟨fd, F⟩ := c.def_ 44 (d := d__law_schema) rfl
  ⟨_, fd, F, He.glo_ok X G (c.fact 39 (f := .glo "_law_schema") rfl)⟩
theorem has__law_cells (X : K.In h) (G : h.Ns mainGlobals mg) (c : He.SaysD fal fnl K) : Has K mg "_law_cells" s__law_cells :=
  let ⟨fd, F⟩ := c.def_ 45 (d := d__law_cells) rfl
  ⟨_, fd, F, He.glo_ok X G (c.fact 40 (f := .glo "_law_cells") rfl)⟩
theorem has__law_tables (X : K.In h) (G : h.Ns mainGlobals mg) (c : He.SaysD fal fnl K) : Has K mg "_law_tables" s__law_tables :=
  let ⟨fd, F⟩ := c.def_ 46 (d := d__law_tables) rfl
  ⟨_, fd, F, He.glo_ok X G (c.fact 41 (f := .glo "_law_tables") rfl)⟩
theorem has__law_names (X : K.In h) (G : h.Ns mainGlobals mg) (c : He.SaysD fal fnl K) : Has K mg "_law_names" s__law_names :=
  let ⟨fd, F⟩ := c.def_ 47 (d := d__law_names) rfl
  ⟨_, fd, F, He.glo_ok X G (c.fact 42 (f := .glo "_law_names") rfl)⟩
theorem has__law_parts (X : K.In h) (G : h.Ns mainGlobals mg) (c : He.SaysD fal fnl K) : Has K mg "_law_parts" s__law_parts :=
  let ⟨fd, F⟩ := c.def_ 48 (d := d__law_parts) rfl
  ⟨_, fd, F, He.glo_ok X G (c.fact 43 (f := .glo "_law_parts") rfl)⟩
theorem has__law_assigned (X : K.In h) (G : h.Ns mainGlobals mg) (c : He.SaysD fal fnl K) : Has K mg "_law_assigned" s__law_assigned :=
  let ⟨fd, F⟩ := c.def_ 49 (d := d__law_assigned) rfl
  ⟨_, fd, F, He.glo_ok X G (c.fact 44 (f := .glo "_law_assigned") rfl)⟩
theorem has__law_query (X : K.In h) (G : h.Ns mainGlobals mg) (c : He.SaysD fal fnl K) : Has K mg "_law_query" s__law_query :=
  let ⟨fd, F⟩ := c.def_ 50 (d := d__law_query) rfl
  ⟨_, fd, F, He.glo_ok X G (c.fact 45 (f := .glo "_law_query") rfl)⟩
theorem has__law_made (X : K.In h) (G : h.Ns mainGlobals mg) (c : He.SaysD fal fnl K) : Has K mg "_law_made" s__law_made :=
  let ⟨fd, F⟩ := c.def_ 51 (d := d__law_made) rfl
  ⟨_, fd, F, He.glo_ok X G (c.fact 46 (f := .glo "_law_made") rfl)⟩
theorem has__law_moves (X : K.In h) (G : h.Ns mainGlobals mg) (c : He.SaysD fal fnl K) : Has K mg "_law_moves" s__law_moves :=
  let ⟨fd, F⟩ := c.def_ 52 (d := d__law_moves) rfl
  ⟨_, fd, F, He.glo_ok X G (c.fact 47 (f := .glo "_law_moves") rfl)⟩
theorem has__law_orders (X : K.In h) (G : h.Ns mainGlobals mg) (c : He.SaysD fal fnl K) : Has K mg "_law_orders" s__law_orders :=
  let ⟨fd, F⟩ := c.def_ 53 (d := d__law_orders) rfl
  ⟨_, fd, F, He.glo_ok X G (c.fact 48 (f := .glo "_law_orders") rfl)⟩
theorem has__law_total (X : K.In h) (G : h.Ns mainGlobals mg) (c : He.SaysD fal fnl K) : Has K mg "_law_total" s__law_total :=
  let ⟨fd, F⟩ := c.def_ 54 (d := d__law_total) rfl
  ⟨_, fd, F, He.glo_ok X G (c.fact 49 (f := .glo "_law_total") rfl)⟩
end
theorem facts {P : Program} {w : World} {K : PySem.W.Frag} {h : Heap} {mg : Str → Option Value} {f : Addr} (X : K.In h) (G : h.Ns mainGlobals mg) (hfa : mg ("law" : Str) = some (.ref f)) (cz : SaysZ K) :
    ∃ fd : FuncData, (∀ (s : Shared) (v : Value), BindsTo s fd ⟨[v], []⟩ [("_law_script", v)]) ∧ ∀ base : Heap, K.In base → base.Ns mainGlobals mg → FnOk P w K mg base CX0 10 f fd ["_law_script"] (spLaw K) := by
  have c := sd_of cz
  have T := tx_of X G c
  have Z := cs_of X G c (ex_of cz)
  have neS := ne_of_head (ex_of cz)
  obtain ⟨fd, F⟩ := c.def_ 55 (d := d_law) rfl
  have e := hfa.symm.trans (He.glo_ok X G (c.fact 50 (f := .glo "law") rfl))
  cases e
  have b := FunD.bindsA (ps := ["_law_script"]) F fun _ _ _ _ _ _ us hl => match us, hl with | [_], _ => rfl
  refine ⟨fd, fun s v => b s [v] rfl, fun base _ _ => ?_⟩
  have c_is_number : Cal P w K mg base 1 "is_number" spIsNumber := ok_is_number T (has_is_number X G c)
  have c_check_number : Cal P w K mg base 2 "check_number" spCheckNumber := ok_check_number T (has_check_number X G c) c_is_number
  have c_Schema : MakO P w K mg base 2 "Schema" (He.ga K "Schema") (spSchemaI (He.ga K "Schema")) := ok_Schema_init T Z (has_Schema___init__ c) c_is_number
  have c_cells_of : Cal P w K mg base 1 "cells_of" spCellsOf := ok_cells_of T (has_cells_of X G c)
  have c_check_schema : Cal P w K mg base 1 "check_schema" (spCheckSchema (He.ga K "Schema")) := ok_check_schema T Z (has_check_schema X G c)
  have c_check_data : Cal P w K mg base 1 "check_data" (spCheckData (He.ga K "Data")) := ok_check_data T Z (has_check_data X G c)
  have c_check_query : Cal P w K mg base 1 "check_query" (spCheckData (He.ga K "Query")) := ok_check_query T Z (has_check_query X G c)
  have c_check_table : Cal P w K mg base 2 "check_table" (spCheckTable (He.ga K "Schema")) := ok_check_table T Z (has_check_table X G c) c_is_number
  have c_are_counts : Cal P w K mg base 2 "are_counts" (spAreCounts (He.ga K "Schema")) := ok_are_counts T Z (has_are_counts X G c) c_is_number c_cells_of
  have c_Data : MakO P w K mg base 3 "Data" (He.ga K "Data") (spDataI (He.ga K "Data") (He.ga K "Schema")) := ok_Data_init T Z (has_Data___init__ c) c_check_schema c_are_counts
  have c_rows : MetO P w K mg base 3 (He.ga K "Data") "rows" (spRows (He.ga K "Data") (He.ga K "Schema")) := ok_rows T Z (has_Data_rows c) c_check_table
  have c_filled : MetO P w K mg base 3 (He.ga K "Data") "filled" (spFilled (He.ga K "Data") (He.ga K "Schema")) := ok_filled T Z (has_Data_filled c) c_check_table c_cells_of
  have c_is_atom : Cal P w K mg base 2 "is_atom" (spIsAtom (He.ga K "Schema")) := ok_is_atom T Z (has_is_atom X G c) c_is_number
  have c_variables_in : Cal P w K mg base 1 "variables_in" spVarsIn := ok_variables_in T (has_variables_in X G c)
  have c_ascends : Cal P w K mg base 1 "ascends" spAscends := ok_ascends T (has_ascends X G c)
  have c_are_atoms : Cal P w K mg base 3 "are_atoms" (spAreAtoms (He.ga K "Schema")) := ok_are_atoms T Z (has_are_atoms X G c) c_is_atom c_variables_in
  have c_are_filters : Cal P w K mg base 2 "are_filters" (spAreFilters (He.ga K "Schema")) := ok_are_filters T Z (has_are_filters X G c) c_is_number c_ascends
  have c_Query : MakO P w K mg base 4 "Query" (He.ga K "Query") (spQueryI (He.ga K "Query") (He.ga K "Schema")) := ok_Query_init T Z (has_Query___init__ c) c_is_number c_check_schema c_are_atoms c_variables_in c_are_filters
  have c_lenQ : MetO P w K mg base 1 (He.ga K "Query") "__len__" (spLenQ (He.ga K "Query") (He.ga K "Schema")) := ok_lenQ T Z (has_Query___len__ c)
  have c_allowed : MetO P w K mg base 1 (He.ga K "Query") "allowed" (spAllowed (He.ga K "Query") (He.ga K "Schema")) := ok_allowed T Z (has_Query_allowed c)
  have c_eqS : MetO P w K mg base 1 (He.ga K "Schema") "__eq__" (spEq (RS (He.ga K "Schema"))) := ok_eqS T Z (has_Schema___eq__ c)
  have c_check_both : Cal P w K mg base 4 "check_both" (spCheckBoth (He.ga K "Schema") (He.ga K "Data") (He.ga K "Query")) := ok_check_both T Z neS (has_check_both X G c) c_check_query c_check_data c_eqS
  have c_is_bound : Cal P w K mg base 2 "is_bound" (spIsBound (He.ga K "Query") (He.ga K "Schema")) := ok_is_bound T Z (has_is_bound X G c) c_allowed
  have c_extended : Cal P w K mg base 4 "extended" (spExtended (He.ga K "Schema") (He.ga K "Data") (He.ga K "Query")) := ok_extended T Z (has_extended X G c) c_filled c_is_bound
  have c_rows_after : Cal P w K mg base 5 "rows_after" (spRowsAfter (He.ga K "Schema") (He.ga K "Data") (He.ga K "Query")) := ok_rows_after T Z (has_rows_after X G c) c_extended c_variables_in
  have c_rows_of : Cal P w K mg base 6 "rows_of" (spRowsOf (He.ga K "Schema") (He.ga K "Data") (He.ga K "Query")) := ok_rows_of T Z (has_rows_of X G c) c_rows_after
  have c_is_order : Cal P w K mg base 2 "is_order" (spIsOrder (He.ga K "Schema") (He.ga K "Query")) := ok_is_order T Z (has_is_order X G c) c_is_number
  have c_check_order : Cal P w K mg base 3 "check_order" (spCheckOrder (He.ga K "Schema") (He.ga K "Query")) := ok_check_order T Z (has_check_order X G c) c_is_order
  have c_check_memory : Cal P w K mg base 2 "check_memory" spCheckMemory := ok_check_memory T (has_check_memory X G c) c_is_number
  have c_first_many : Cal P w K mg base 1 "first_many" spFirstMany := ok_first_many T (has_first_many X G c)
  have c_best_tree : Cal P w K mg base 2 "best_tree" spBestTree := ok_best_tree T (has_best_tree X G c) c_first_many
  have c_cost_by : Cal P w K mg base 3 "cost_by" spCostBy := ok_cost_by T (has_cost_by X G c) c_best_tree
  have c_sort_cost : Cal P w K mg base 4 "sort_cost" spSortCost := ok_sort_cost T (has_sort_cost X G c) c_is_number c_check_memory c_cost_by
  have c_moves_of : Cal P w K mg base 7 "moves_of" (spMovesOf (He.ga K "Schema") (He.ga K "Data") (He.ga K "Query")) := ok_moves_of T Z (has_moves_of X G c) c_rows_of c_rows c_variables_in c_cost_by
  have c_step_moves : Cal P w K mg base 8 "step_moves" (spStepMoves (He.ga K "Schema") (He.ga K "Data") (He.ga K "Query")) := ok_step_moves T Z (has_step_moves X G c) c_check_both c_check_order c_check_number c_check_memory c_moves_of
  have c_moves_by : Cal P w K mg base 8 "moves_by" (spMovesBy (He.ga K "Schema") (He.ga K "Data") (He.ga K "Query")) := ok_moves_by T Z (has_moves_by X G c) c_rows c_moves_of
  have c_order_moves : Cal P w K mg base 9 "order_moves" (spOrderMoves (He.ga K "Schema") (He.ga K "Data") (He.ga K "Query")) := ok_order_moves T Z (has_order_moves X G c) c_check_both c_check_order c_check_memory c_moves_by
  have c_least_by : Cal P w K mg base 8 "least_by" (spLeastBy (He.ga K "Schema") (He.ga K "Data") (He.ga K "Query")) := ok_least_by T Z (has_least_by X G c) c_rows c_moves_of
  have c_least_moves : Cal P w K mg base 9 "least_moves" (spLeastMoves (He.ga K "Schema") (He.ga K "Data") (He.ga K "Query")) := ok_least_moves T Z (has_least_moves X G c) c_check_both c_check_memory c_least_by
  have c_memory_needed : Cal P w K mg base 9 "memory_needed" (spMemoryNeeded (He.ga K "Schema") (He.ga K "Data") (He.ga K "Query")) := ok_memory_needed T Z (has_memory_needed X G c) c_check_both c_check_number c_least_by
  have c__law_number : Cal P w K mg base 1 "_law_number" (spNumber K) := ok_number T (has__law_number X G c)
  have c__law_take : Cal P w K mg base 2 "_law_take" (spTake K) := ok_take T (has__law_take X G c) c__law_number
  have c__law_pick : Cal P w K mg base 3 "_law_pick" (spPick K) := ok_pick T (has__law_pick X G c) c__law_take
  have c__law_order : Cal P w K mg base 3 "_law_order" (spOrder K) := ok_order T (has__law_order X G c) c__law_take
  have c__law_schema : Cal P w K mg base 3 "_law_schema" (spSchema K) := ok_schema T (has__law_schema X G c) c__law_take
  have c__law_cells : Cal P w K mg base 1 "_law_cells" spLawCells := ok_lawCells T (has__law_cells X G c)
  have c__law_tables : Cal P w K mg base 3 "_law_tables" (spTables K) := ok_tables T (has__law_tables X G c) c__law_take c__law_cells
  have c__law_names : Cal P w K mg base 1 "_law_names" spNames := ok_names T (has__law_names X G c)
  have c__law_parts : Cal P w K mg base 4 "_law_parts" (spParts K) := ok_parts T (has__law_parts X G c) c__law_take c__law_names c__law_order
  have c__law_assigned : Cal P w K mg base 2 "_law_assigned" spAssigned := ok_assigned T (has__law_assigned X G c) c__law_cells
  have c__law_query : Cal P w K mg base 6 "_law_query" (spQuery K (He.ga K "Schema") (He.ga K "Data") (He.ga K "Query")) := ok_query T Z (has__law_query X G c) c__law_schema c__law_tables c__law_parts c_Schema c_Query c_Data
  have c__law_made : Cal P w K mg base 3 "_law_made" spMade := ok_made T (has__law_made X G c) c__law_names c__law_assigned
  have c__law_moves : Cal P w K mg base 5 "_law_moves" spLawMoves := ok_lawMoves T (has__law_moves X G c) c__law_made c__law_names c_sort_cost
  have c__law_orders : Cal P w K mg base 1 "_law_orders" spOrders := ok_orders T (has__law_orders X G c)
  have c__law_total : Cal P w K mg base 6 "_law_total" spTotal := ok_total T (has__law_total X G c) c__law_moves
  exact ok_law T Z F c__law_query c_lenQ c__law_take c__law_orders c__law_pick c__law_moves c_step_moves c_order_moves c__law_total c_least_moves c_memory_needed
end K16
open PySem PySem.W PySem.Calls PyProof.Rows
theorem PySem.Challenge.cw_surelyplan_k16_whole_limits_holds : PySem.Challenge.rw_surelyplan_k16_whole_limits.Holds := by
  w_on; o_law
  refine HandSHeadRun.head_any (r := OpenLaw.row PySem.Challenge.rw_surelyplan_k16_whole_limits) (q := view (OpenLaw.row PySem.Challenge.rw_surelyplan_k16_whole_limits).prog [78]) (H := K16.hk) (ob := K16.ob) (M := 20000) (loose := K16.loose1 ++ K16.loose2) (d := HandSHeadRun.topDef (OpenLaw.row PySem.Challenge.rw_surelyplan_k16_whole_limits).prog 78) (kwd := []) K16.ob_eq
    (by kernel_rfl) (fun s => by kernel_rfl) K16.run (by kernel_rfl) (by kernel_rfl) (by kernel_rfl) (by rfl) (by first | assumption | decide +kernel) (by decide +kernel) ⟨rfl, rfl, rfl, rfl, rfl, by decide +kernel⟩ ?hw ?hc
  case hw => w_witness2
  case hc =>
    refine L2.walk_ofE (l := PySem.Challenge.rw_surelyplan_k16_whole_limits) (n := 63) (k := 10) (x := "_law_script") (CX := L2.CX0) rfl (by decide) (by kernel_rfl) ⟨rfl, by decide, by decide⟩ ?F (fun _ _ _ _ z => z)
    intro w mg fa h Y G hmg0
    obtain ⟨K, KX, c⟩ := Y
    have hmg : mg ("law" : PySem.Str) = some (.ref fa) := by
      have e : (HandSHeadRun.topDef (OpenLaw.row PySem.Challenge.rw_surelyplan_k16_whole_limits).prog 78).name = ("law" : PySem.Str) := by kernel_rfl
      rw [← e]
      exact hmg0
    obtain ⟨fd, hb, hF⟩ := K16.facts (P := (PySem.Challenge.rw_surelyplan_k16_whole_limits).prog) (w := w) KX G hmg c
    exact ⟨K, fd, K16.spLaw K, KX, hb, fun H a ns hl _ hS => ⟨a, ns, rfl, hS, fun _ => rfl⟩, hF⟩
