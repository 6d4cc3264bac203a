import PyProof.Rows.All
import Wide.All
import OpenK.AllK
import Wide.FinOn
import HandS.ForMost
import HandS.Defaults
import HandS.WordsExc
import KE.KStateDown
import Lean
import HandS.Head0
import HandS.Head1
import HandS.Head2
import HandS.HeadEnd
import HandS.HeadHook1
import HandS.HeadHook2
import HandS.GenList
import HandS.Evl
import PyProof.InstNe
import PyProof.ContainsOpen
import HandS.More
import HandS.SlotsOwn
import KE.DataCmp
import PyProof.DictMoreH
import HandS.DictComp
import HandS.IsInst
import HandS.Star
import HandS.Walk
import HandS.RevRange
import HandS.WideBits
import HandS.Deep
import HandS.Flow
import HandS.Wide
import HandS.Conv
import HandS.TupLen
import PySem.Challenge.RW_pairorder_k50_whole_orders_compare_as_nu
set_option Elab.async false
set_option linter.all false
section /- TX -/
set_option Elab.async false
set_option linter.all false
set_option maxRecDepth 100000
set_option maxHeartbeats 0
/-! The text: where each def stands. -/
namespace K50
open PySem PySem.Spec L2
def top (i : Nat) : Stmt := PySem.Challenge.pw_pairorder_k50_whole_orders_compare_as_nu.main.body.getD i (.Pass ⟨0, 0, 0, 0⟩)
def inCls (s : Stmt) (i : Nat) : Stmt := match s with
  | .ClassDef (body := b) .. => b.getD i (.Pass ⟨0, 0, 0, 0⟩)
  | _ => .Pass ⟨0, 0, 0, 0⟩
abbrev s_is_integer : Stmt := top 11
abbrev s_is_between : Stmt := top 12
abbrev s_is_spot : Stmt := top 13
abbrev s_is_kind : Stmt := top 16
abbrev s_check_kind : Stmt := top 17
abbrev s_counts_columns : Stmt := top 18
abbrev s_counts_rows : Stmt := top 19
abbrev s_is_possible_pair : Stmt := top 23
abbrev s_check_order : Stmt := top 25
abbrev s_is_dearer : Stmt := top 27
abbrev s_bars : Stmt := top 28
abbrev s_first_bar : Stmt := top 29
abbrev s_first_fault : Stmt := top 31
abbrev s_check_right : Stmt := top 32
abbrev s_needs_of : Stmt := top 34
abbrev s_check_limit : Stmt := top 37
abbrev s_bit_of : Stmt := top 38
abbrev s_bar_masks : Stmt := top 39
abbrev s_meets_all : Stmt := top 40
abbrev s_open_numbers : Stmt := top 41
abbrev s_ways_to_end : Stmt := top 42
abbrev s_count : Stmt := top 43
abbrev s_order_at : Stmt := top 44
abbrev s_number_of : Stmt := top 45
abbrev s_is_entry : Stmt := top 48
abbrev s_is_row : Stmt := top 49
abbrev s_width_of : Stmt := top 50
abbrev s__law_cell : Stmt := top 55
abbrev s__law_mixed : Stmt := top 56
abbrev s__law_draws : Stmt := top 57
abbrev s__law_grid : Stmt := top 58
abbrev s__law_spots : Stmt := top 59
abbrev s__law_copy : Stmt := top 60
abbrev s__law_cross : Stmt := top 61
abbrev s__law_needs_of : Stmt := top 62
abbrev s__law_needs : Stmt := top 63
abbrev s__law_met : Stmt := top 64
abbrev s__law_open : Stmt := top 65
abbrev s__law_walk : Stmt := top 67
abbrev s__law_few : Stmt := top 68
abbrev s_law : Stmt := top 69
abbrev s_Order_init : Stmt := inCls (top 24) 0
abbrev s_Order_eq : Stmt := inCls (top 24) 1
abbrev s_Order_lt : Stmt := inCls (top 24) 2
abbrev s_Order_ge : Stmt := inCls (top 24) 5
abbrev s_Order_len : Stmt := inCls (top 24) 7
abbrev s_Order_pairs : Stmt := inCls (top 24) 10
abbrev s_Table_init : Stmt := inCls (top 53) 0
abbrev s_Table_len : Stmt := inCls (top 53) 4
abbrev s_Table_contains : Stmt := inCls (top 53) 6
abbrev s_Table_rows : Stmt := inCls (top 53) 12
abbrev s_Table_has_cell : Stmt := inCls (top 53) 13
abbrev s_Table_pairs : Stmt := inCls (top 53) 14
end K50
end
section /- HD -/
set_option Elab.async false
set_option linter.all false
set_option maxRecDepth 100000
set_option maxHeartbeats 0
/-! The head: facts by names, one more truth value. -/
namespace K50
open PySem PySem.Spec PyProof.Rows L2
/-! ### the hook, with one more truth value -/
def obsM (fa : List He.Fa) (fn : List He.DefD) (ex : PySem.W.Frag → Bool) (K : PySem.W.Frag) : He.AlD := ((((fa.all fun f => f.ok K) && fn.all fun d => d.ok K) && ex K), fn.map fun d => He.fnW K d.at_)
def SaysM (fa : List He.Fa) (fn : List He.DefD) (ex : PySem.W.Frag → Bool) (K : PySem.W.Frag) : Prop := obsM fa fn ex K = He.valD fn
def obsMG (n : Nat) (fa : List He.Fa) (fn : List He.DefD) (ex : PySem.W.Frag → Bool) (g : Addr → Option Obj) : He.AlD := obsM fa fn ex (He.frG g (He.asD g n))
def hookM (n : Nat) (fa : List He.Fa) (fn : List He.DefD) (ex : PySem.W.Frag → Bool) : PySem.W.Hook where
  α := He.AlD
  obs := fun s => obsMG n fa fn ex s.heap.get?
  val := fun _ => He.valD fn
  says := fun _ h => ∃ K : PySem.W.Frag, K.In h ∧ SaysM fa fn ex K
  of := fun _ _ e => ⟨_, He.frG_in, e⟩
  keeps := fun _ _ _ ⟨K, hK, c⟩ k => ⟨K, PySem.W.Frag.In.keeps hK k, c⟩
theorem obsMG_eq {n : Nat} {fa : List He.Fa} {fn : List He.DefD} {ex : PySem.W.Frag → Bool} {g : Addr → Option Obj} {s : Shared} (h : ∀ a, g a = s.heap.get? a) : obsMG n fa fn ex g = (hookM n fa fn ex).obs s := by
  have e : g = s.heap.get? := funext h
  rw [e] <;> rfl
theorem SaysM.d {fa : List He.Fa} {fn : List He.DefD} {ex : PySem.W.Frag → Bool} {K : PySem.W.Frag} (c : SaysM fa fn ex K) : He.SaysD fa fn K := by
  have e : fn.map (fun d => He.fnW K d.at_) = fn.map He.DefD.val := congrArg (fun z : He.AlD => z.2) c
  have c1 := (He.ba (show (((fa.all fun f => f.ok K) && fn.all fun d => d.ok K) && ex K) = true from congrArg (fun z : He.AlD => z.1) c)).1
  show (_, _) = (_, _)
  exact Prod.ext c1 e
theorem SaysM.x {fa : List He.Fa} {fn : List He.DefD} {ex : PySem.W.Frag → Bool} {K : PySem.W.Frag} (c : SaysM fa fn ex K) : ex K = true :=
  (He.ba (show (((fa.all fun f => f.ok K) && fn.all fun d => d.ok K) && ex K) = true from congrArg (fun z : He.AlD => z.1) c)).2
/-! ### the defs, the facts -/
def d_is_integer : He.DefD := ⟨("is_integer", none), "is_integer", "is_integer", defArgs s_is_integer, defBody s_is_integer, defScope s_is_integer, [], []⟩
def d_is_between : He.DefD := ⟨("is_between", none), "is_between", "is_between", defArgs s_is_between, defBody s_is_between, defScope s_is_between, [], []⟩
def d_is_spot : He.DefD := ⟨("is_spot", none), "is_spot", "is_spot", defArgs s_is_spot, defBody s_is_spot, defScope s_is_spot, [], []⟩
def d_is_kind : He.DefD := ⟨("is_kind", none), "is_kind", "is_kind", defArgs s_is_kind, defBody s_is_kind, defScope s_is_kind, [], []⟩
def d_check_kind : He.DefD := ⟨("check_kind", none), "check_kind", "check_kind", defArgs s_check_kind, defBody s_check_kind, defScope s_check_kind, [], []⟩
def d_counts_columns : He.DefD := ⟨("counts_columns", none), "counts_columns", "counts_columns", defArgs s_counts_columns, defBody s_counts_columns, defScope s_counts_columns, [], []⟩
def d_counts_rows : He.DefD := ⟨("counts_rows", none), "counts_rows", "counts_rows", defArgs s_counts_rows, defBody s_counts_rows, defScope s_counts_rows, [], []⟩
def d_is_possible_pair : He.DefD := ⟨("is_possible_pair", none), "is_possible_pair", "is_possible_pair", defArgs s_is_possible_pair, defBody s_is_possible_pair, defScope s_is_possible_pair, [], []⟩
def d_check_order : He.DefD := ⟨("check_order", none), "check_order", "check_order", defArgs s_check_order, defBody s_check_order, defScope s_check_order, [], []⟩
def d_is_dearer : He.DefD := ⟨("is_dearer", none), "is_dearer", "is_dearer", defArgs s_is_dearer, defBody s_is_dearer, defScope s_is_dearer, [], []⟩
def d_bars : He.DefD := ⟨("bars", none), "bars", "bars", defArgs s_bars, defBody s_bars, defScope s_bars, [], []⟩
def d_first_bar : He.DefD := ⟨("first_bar", none), "first_bar", "first_bar", defArgs s_first_bar, defBody s_first_bar, defScope s_first_bar, [], []⟩
def d_first_fault : He.DefD := ⟨("first_fault", none), "first_fault", "first_fault", defArgs s_first_fault, defBody s_first_fault, defScope s_first_fault, [], [("kind", .str "even")]⟩
def d_check_right : He.DefD := ⟨("check_right", none), "check_right", "check_right", defArgs s_check_right, defBody s_check_right, defScope s_check_right, [], []⟩
def d_needs_of : He.DefD := ⟨("needs_of", none), "needs_of", "needs_of", defArgs s_needs_of, defBody s_needs_of, defScope s_needs_of, [], []⟩
def d_check_limit : He.DefD := ⟨("check_limit", none), "check_limit", "check_limit", defArgs s_check_limit, defBody s_check_limit, defScope s_check_limit, [], []⟩
def d_bit_of : He.DefD := ⟨("bit_of", none), "bit_of", "bit_of", defArgs s_bit_of, defBody s_bit_of, defScope s_bit_of, [], []⟩
def d_bar_masks : He.DefD := ⟨("bar_masks", none), "bar_masks", "bar_masks", defArgs s_bar_masks, defBody s_bar_masks, defScope s_bar_masks, [], []⟩
def d_meets_all : He.DefD := ⟨("meets_all", none), "meets_all", "meets_all", defArgs s_meets_all, defBody s_meets_all, defScope s_meets_all, [], []⟩
def d_open_numbers : He.DefD := ⟨("open_numbers", none), "open_numbers", "open_numbers", defArgs s_open_numbers, defBody s_open_numbers, defScope s_open_numbers, [], []⟩
def d_ways_to_end : He.DefD := ⟨("ways_to_end", none), "ways_to_end", "ways_to_end", defArgs s_ways_to_end, defBody s_ways_to_end, defScope s_ways_to_end, [], []⟩
def d_count : He.DefD := ⟨("count", none), "count", "count", defArgs s_count, defBody s_count, defScope s_count, [], [("kind", .str "even")]⟩
def d_order_at : He.DefD := ⟨("order_at", none), "order_at", "order_at", defArgs s_order_at, defBody s_order_at, defScope s_order_at, [], [("kind", .str "even")]⟩
def d_number_of : He.DefD := ⟨("number_of", none), "number_of", "number_of", defArgs s_number_of, defBody s_number_of, defScope s_number_of, [], [("kind", .str "even")]⟩
def d_is_entry : He.DefD := ⟨("is_entry", none), "is_entry", "is_entry", defArgs s_is_entry, defBody s_is_entry, defScope s_is_entry, [], []⟩
def d_is_row : He.DefD := ⟨("is_row", none), "is_row", "is_row", defArgs s_is_row, defBody s_is_row, defScope s_is_row, [], []⟩
def d_width_of : He.DefD := ⟨("width_of", none), "width_of", "width_of", defArgs s_width_of, defBody s_width_of, defScope s_width_of, [], []⟩
def d__law_cell : He.DefD := ⟨("_law_cell", none), "_law_cell", "_law_cell", defArgs s__law_cell, defBody s__law_cell, defScope s__law_cell, [], []⟩
def d__law_mixed : He.DefD := ⟨("_law_mixed", none), "_law_mixed", "_law_mixed", defArgs s__law_mixed, defBody s__law_mixed, defScope s__law_mixed, [], []⟩
def d__law_draws : He.DefD := ⟨("_law_draws", none), "_law_draws", "_law_draws", defArgs s__law_draws, defBody s__law_draws, defScope s__law_draws, [], []⟩
def d__law_grid : He.DefD := ⟨("_law_grid", none), "_law_grid", "_law_grid", defArgs s__law_grid, defBody s__law_grid, defScope s__law_grid, [], []⟩
def d__law_spots : He.DefD := ⟨("_law_spots", none), "_law_spots", "_law_spots", defArgs s__law_spots, defBody s__law_spots, defScope s__law_spots, [], []⟩
def d__law_copy : He.DefD := ⟨("_law_copy", none), "_law_copy", "_law_copy", defArgs s__law_copy, defBody s__law_copy, defScope s__law_copy, [], []⟩
def d__law_cross : He.DefD := ⟨("_law_cross", none), "_law_cross", "_law_cross", defArgs s__law_cross, defBody s__law_cross, defScope s__law_cross, [], []⟩
def d__law_needs_of : He.DefD := ⟨("_law_needs_of", none), "_law_needs_of", "_law_needs_of", defArgs s__law_needs_of, defBody s__law_needs_of, defScope s__law_needs_of, [], []⟩
def d__law_needs : He.DefD := ⟨("_law_needs", none), "_law_needs", "_law_needs", defArgs s__law_needs, defBody s__law_needs, defScope s__law_needs, [], []⟩
def d__law_met : He.DefD := ⟨("_law_met", none), "_law_met", "_law_met", defArgs s__law_met, defBody s__law_met, defScope s__law_met, [], []⟩
def d__law_open : He.DefD := ⟨("_law_open", none), "_law_open", "_law_open", defArgs s__law_open, defBody s__law_open, defScope s__law_open, [], []⟩
def d__law_walk : He.DefD := ⟨("_law_walk", none), "_law_walk", "_law_walk", defArgs s__law_walk, defBody s__law_walk, defScope s__law_walk, [], []⟩
def d__law_few : He.DefD := ⟨("_law_few", none), "_law_few", "_law_few", defArgs s__law_few, defBody s__law_few, defScope s__law_few, [], []⟩
def d_law : He.DefD := ⟨("law", none), "law", "law", defArgs s_law, defBody s_law, defScope s_law, [], []⟩
def d_Order_init : He.DefD := ⟨("Order", some "__init__"), "__init__", "Order.__init__", defArgs s_Order_init, defBody s_Order_init, defScope s_Order_init, [], []⟩
def d_Order_eq : He.DefD := ⟨("Order", some "__eq__"), "__eq__", "Order.__eq__", defArgs s_Order_eq, defBody s_Order_eq, defScope s_Order_eq, [], []⟩
def d_Order_lt : He.DefD := ⟨("Order", some "__lt__"), "__lt__", "Order.__lt__", defArgs s_Order_lt, defBody s_Order_lt, defScope s_Order_lt, [], []⟩
def d_Order_ge : He.DefD := ⟨("Order", some "__ge__"), "__ge__", "Order.__ge__", defArgs s_Order_ge, defBody s_Order_ge, defScope s_Order_ge, [], []⟩
def d_Order_len : He.DefD := ⟨("Order", some "__len__"), "__len__", "Order.__len__", defArgs s_Order_len, defBody s_Order_len, defScope s_Order_len, [], []⟩
def d_Order_pairs : He.DefD := ⟨("Order", some "pairs"), "pairs", "Order.pairs", defArgs s_Order_pairs, defBody s_Order_pairs, defScope s_Order_pairs, [], []⟩
def d_Table_init : He.DefD := ⟨("Table", some "__init__"), "__init__", "Table.__init__", defArgs s_Table_init, defBody s_Table_init, defScope s_Table_init, [], []⟩
def d_Table_len : He.DefD := ⟨("Table", some "__len__"), "__len__", "Table.__len__", defArgs s_Table_len, defBody s_Table_len, defScope s_Table_len, [], []⟩
def d_Table_contains : He.DefD := ⟨("Table", some "__contains__"), "__contains__", "Table.__contains__", defArgs s_Table_contains, defBody s_Table_contains, defScope s_Table_contains, [], []⟩
def d_Table_rows : He.DefD := ⟨("Table", some "rows"), "rows", "Table.rows", defArgs s_Table_rows, defBody s_Table_rows, defScope s_Table_rows, [], []⟩
def d_Table_has_cell : He.DefD := ⟨("Table", some "has_cell"), "has_cell", "Table.has_cell", defArgs s_Table_has_cell, defBody s_Table_has_cell, defScope s_Table_has_cell, [], []⟩
def d_Table_pairs : He.DefD := ⟨("Table", some "pairs"), "pairs", "Table.pairs", defArgs s_Table_pairs, defBody s_Table_pairs, defScope s_Table_pairs, [], []⟩
def fn_0 : List He.DefD := [d_is_integer, d_is_between, d_is_spot, d_is_kind, d_check_kind, d_counts_columns, d_counts_rows, d_is_possible_pair, d_check_order, d_is_dearer, d_bars, d_first_bar, d_first_fault, d_check_right, d_needs_of, d_check_limit, d_bit_of, d_bar_masks, d_meets_all, d_open_numbers, d_ways_to_end, d_count, d_order_at, d_number_of, d_is_entry, d_is_row, d_width_of, d__law_cell, d__law_mixed, d__law_draws]
def fn_1 : List He.DefD := [d__law_grid, d__law_spots, d__law_copy, d__law_cross, d__law_needs_of, d__law_needs, d__law_met, d__law_open, d__law_walk, d__law_few, d_law, d_Order_init, d_Order_eq, d_Order_lt, d_Order_ge, d_Order_len, d_Order_pairs, d_Table_init, d_Table_len, d_Table_contains, d_Table_rows, d_Table_has_cell, d_Table_pairs]
def fn : List He.DefD := fn_0 ++ fn_1
def fa_0 : List He.Fa := [.glo "is_integer", .glo "is_between", .glo "is_spot", .glo "is_kind", .glo "check_kind", .glo "counts_columns", .glo "counts_rows", .glo "is_possible_pair", .glo "check_order", .glo "is_dearer", .glo "bars", .glo "first_bar", .glo "first_fault", .glo "check_right", .glo "needs_of", .glo "check_limit", .glo "bit_of", .glo "bar_masks", .glo "meets_all", .glo "open_numbers", .glo "ways_to_end", .glo "count", .glo "order_at", .glo "number_of", .glo "is_entry", .glo "is_row", .glo "width_of", .glo "_law_cell", .glo "_law_mixed", .glo "_law_draws"]
def fa_1 : List He.Fa := [.glo "_law_grid", .glo "_law_spots", .glo "_law_copy", .glo "_law_cross", .glo "_law_needs_of", .glo "_law_needs", .glo "_law_met", .glo "_law_open", .glo "_law_walk", .glo "_law_few", .glo "law", .glo "Order", .glo "Table", .glo "KINDS", .free "isinstance", .free "int", .free "bool", .free "list", .free "tuple", .free "str", .free "len", .free "range", .free "enumerate", .free "reversed", .free "sum", .free "max", .int "LONGEST" 64, .int "GREATEST" 7, .int "MOST_PAIRS" 12, .int "MOST" 8]
def fa_2 : List He.Fa := [.cls "Order", .mkr "Order", .keep "Order", .cls "Table", .mkr "Table", .keep "Table", .noat "Order" "listed", .noat "Order" "spots", .noat "Table" "grid", .meth "Order" "__init__", .meth "Order" "__eq__", .meth "Order" "__lt__", .meth "Order" "__ge__", .meth "Order" "__len__", .meth "Order" "pairs", .meth "Table" "__init__", .meth "Table" "__len__", .meth "Table" "__contains__", .meth "Table" "rows", .meth "Table" "has_cell", .meth "Table" "pairs"]
def fa : List He.Fa := fa_0 ++ fa_1 ++ fa_2
def ex (K : PySem.W.Frag) : Bool :=
  He.tupB K "KINDS" [.str "even", .str "stock", .str "wish", .str "any"] && (He.eqO (PySem.W.findIn K (.ref (He.ga K "Order")) "__ne__") (some (some (.builtin "object.__ne__"))) &&
    (He.eqO (PySem.W.findIn K (.ref (He.ga K "Order")) "__class__") (some (some (.builtin "object.__class__"))) && (He.eqO (PySem.W.specialIn K (.builtin "object.__class__") "__get__") (some (some (.builtin "getset_descriptor.__get__"))) &&
      (decide (PySem.W.takesIn K (.builtin "object.__class__") = some true) && (decide (PySem.W.mroIn K (He.ga K "Order") (.type "object") = some true) && decide (PySem.W.kitOne K (.ref (He.ga K "Order")) (.ref (He.ga K "Order")) = some true))))))
def loose_0 : List Str := ["_wall", "copied", "PairError", "InvalidTable", "InvalidOrder", "InvalidPair", "InvalidBound", "NotRight", "LimitExceeded", "is_integer", "is_between", "is_spot", "KINDS", "is_kind", "check_kind", "counts_columns", "counts_rows", "LONGEST", "GREATEST", "is_possible_pair", "Order", "check_order", "is_dearer", "bars", "first_bar", "first_fault", "check_right", "needs_of", "MOST_PAIRS", "check_limit"]
def loose_1 : List Str := ["bit_of", "bar_masks", "meets_all", "open_numbers", "ways_to_end", "count", "order_at", "number_of", "MOST", "is_entry", "is_row", "width_of", "is_same_size", "entry_sum", "Table", "_law_cell", "_law_mixed", "_law_draws", "_law_grid", "_law_spots", "_law_copy", "_law_cross", "_law_needs_of", "_law_needs", "_law_met", "_law_open", "_law_is_right", "_law_walk", "_law_few"]
def loose : List Str := loose_0 ++ loose_1
/-! ### what the facts give -/
structure Tx (K : PySem.W.Frag) (mg : Str → Option Value) : Prop where
  hp : ∃ h : Heap, K.In h ∧ h.Ns mainGlobals mg
  c : SaysM fa fn ex K
section
variable {K : PySem.W.Frag} {mg : Str → Option Value} (T : Tx K mg)
include T
theorem Tx.glo {x : Str} (c : (He.Fa.glo x).ok K = true) : mg x = some (.ref (He.ga K x)) := let ⟨_, X, G⟩ := T.hp; He.glo_ok X G c
theorem Tx.free {x : Str} (c : (He.Fa.free x).ok K = true) : mg x = none := let ⟨_, X, G⟩ := T.hp; He.free_ok X G c
theorem Tx.int {x : Str} {i : Int} (c : (He.Fa.int x i).ok K = true) : ∃ t, mg x = some (.int i t) := let ⟨_, X, G⟩ := T.hp; He.int_ok X G c
theorem Tx.g_is_integer : mg "is_integer" = some (.ref (He.ga K "is_integer")) := T.glo (T.c.d.fact 0 (f := .glo "is_integer") rfl)
theorem Tx.g_is_between : mg "is_between" = some (.ref (He.ga K "is_between")) := T.glo (T.c.d.fact 1 (f := .glo "is_between") rfl)
theorem Tx.g_is_spot : mg "is_spot" = some (.ref (He.ga K "is_spot")) := T.glo (T.c.d.fact 2 (f := .glo "is_spot") rfl)
theorem Tx.g_is_kind : mg "is_kind" = some (.ref (He.ga K "is_kind")) := T.glo (T.c.d.fact 3 (f := .glo "is_kind") rfl)
theorem Tx.g_check_kind : mg "check_kind" = some (.ref (He.ga K "check_kind")) := T.glo (T.c.d.fact 4 (f := .glo "check_kind") rfl)
theorem Tx.g_counts_columns : mg "counts_columns" = some (.ref (He.ga K "counts_columns")) := T.glo (T.c.d.fact 5 (f := .glo "counts_columns") rfl)
theorem Tx.g_counts_rows : mg "counts_rows" = some (.ref (He.ga K "counts_rows")) := T.glo (T.c.d.fact 6 (f := .glo "counts_rows") rfl)
theorem Tx.g_is_possible_pair : mg "is_possible_pair" = some (.ref (He.ga K "is_possible_pair")) := T.glo (T.c.d.fact 7 (f := .glo "is_possible_pair") rfl)
theorem Tx.g_check_order : mg "check_order" = some (.ref (He.ga K "check_order")) := T.glo (T.c.d.fact 8 (f := .glo "check_order") rfl)
theorem Tx.g_is_dearer : mg "is_dearer" = some (.ref (He.ga K "is_dearer")) := T.glo (T.c.d.fact 9 (f := .glo "is_dearer") rfl)
theorem Tx.g_bars : mg "bars" = some (.ref (He.ga K "bars")) := T.glo (T.c.d.fact 10 (f := .glo "bars") rfl)
theorem Tx.g_first_bar : mg "first_bar" = some (.ref (He.ga K "first_bar")) := T.glo (T.c.d.fact 11 (f := .glo "first_bar") rfl)
theorem Tx.g_first_fault : mg "first_fault" = some (.ref (He.ga K "first_fault")) := T.glo (T.c.d.fact 12 (f := .glo "first_fault") rfl)
theorem Tx.g_check_right : mg "check_right" = some (.ref (He.ga K "check_right")) := T.glo (T.c.d.fact 13 (f := .glo "check_right") rfl)
theorem Tx.g_needs_of : mg "needs_of" = some (.ref (He.ga K "needs_of")) := T.glo (T.c.d.fact 14 (f := .glo "needs_of") rfl)
theorem Tx.g_check_limit : mg "check_limit" = some (.ref (He.ga K "check_limit")) := T.glo (T.c.d.fact 15 (f := .glo "check_limit") rfl)
theorem Tx.g_bit_of : mg "bit_of" = some (.ref (He.ga K "bit_of")) := T.glo (T.c.d.fact 16 (f := .glo "bit_of") rfl)
theorem Tx.g_bar_masks : mg "bar_masks" = some (.ref (He.ga K "bar_masks")) := T.glo (T.c.d.fact 17 (f := .glo "bar_masks") rfl)
theorem Tx.g_meets_all : mg "meets_all" = some (.ref (He.ga K "meets_all")) := T.glo (T.c.d.fact 18 (f := .glo "meets_all") rfl)
theorem Tx.g_open_numbers : mg "open_numbers" = some (.ref (He.ga K "open_numbers")) := T.glo (T.c.d.fact 19 (f := .glo "open_numbers") rfl)
theorem Tx.g_ways_to_end : mg "ways_to_end" = some (.ref (He.ga K "ways_to_end")) := T.glo (T.c.d.fact 20 (f := .glo "ways_to_end") rfl)
theorem Tx.g_count : mg "count" = some (.ref (He.ga K "count")) := T.glo (T.c.d.fact 21 (f := .glo "count") rfl)
theorem Tx.g_order_at : mg "order_at" = some (.ref (He.ga K "order_at")) := T.glo (T.c.d.fact 22 (f := .glo "order_at") rfl)
theorem Tx.g_number_of : mg "number_of" = some (.ref (He.ga K "number_of")) := T.glo (T.c.d.fact 23 (f := .glo "number_of") rfl)
theorem Tx.g_is_entry : mg "is_entry" = some (.ref (He.ga K "is_entry")) := T.glo (T.c.d.fact 24 (f := .glo "is_entry") rfl)
theorem Tx.g_is_row : mg "is_row" = some (.ref (He.ga K "is_row")) := T.glo (T.c.d.fact 25 (f := .glo "is_row") rfl)
theorem Tx.g_width_of : mg "width_of" = some (.ref (He.ga K "width_of")) := T.glo (T.c.d.fact 26 (f := .glo "width_of") rfl)
theorem Tx.g__law_cell : mg "_law_cell" = some (.ref (He.ga K "_law_cell")) := T.glo (T.c.d.fact 27 (f := .glo "_law_cell") rfl)
theorem Tx.g__law_mixed : mg "_law_mixed" = some (.ref (He.ga K "_law_mixed")) := T.glo (T.c.d.fact 28 (f := .glo "_law_mixed") rfl)
theorem Tx.g__law_draws : mg "_law_draws" = some (.ref (He.ga K "_law_draws")) := T.glo (T.c.d.fact 29 (f := .glo "_law_draws") rfl)
theorem Tx.g__law_grid : mg "_law_grid" = some (.ref (He.ga K "_law_grid")) := T.glo (T.c.d.fact 30 (f := .glo "_law_grid") rfl)
theorem Tx.g__law_spots : mg "_law_spots" = some (.ref (He.ga K "_law_spots")) := T.glo (T.c.d.fact 31 (f := .glo "_law_spots") rfl)
theorem Tx.g__law_copy : mg "_law_copy" = some (.ref (He.ga K "_law_copy")) := T.glo (T.c.d.fact 32 (f := .glo "_law_copy") rfl)
theorem Tx.g__law_cross : mg "_law_cross" = some (.ref (He.ga K "_law_cross")) := T.glo (T.c.d.fact 33 (f := .glo "_law_cross") rfl)
theorem Tx.g__law_needs_of : mg "_law_needs_of" = some (.ref (He.ga K "_law_needs_of")) := T.glo (T.c.d.fact 34 (f := .glo "_law_needs_of") rfl)
theorem Tx.g__law_needs : mg "_law_needs" = some (.ref (He.ga K "_law_needs")) := T.glo (T.c.d.fact 35 (f := .glo "_law_needs") rfl)
theorem Tx.g__law_met : mg "_law_met" = some (.ref (He.ga K "_law_met")) := T.glo (T.c.d.fact 36 (f := .glo "_law_met") rfl)
theorem Tx.g__law_open : mg "_law_open" = some (.ref (He.ga K "_law_open")) := T.glo (T.c.d.fact 37 (f := .glo "_law_open") rfl)
theorem Tx.g__law_walk : mg "_law_walk" = some (.ref (He.ga K "_law_walk")) := T.glo (T.c.d.fact 38 (f := .glo "_law_walk") rfl)
theorem Tx.g__law_few : mg "_law_few" = some (.ref (He.ga K "_law_few")) := T.glo (T.c.d.fact 39 (f := .glo "_law_few") rfl)
theorem Tx.g_law : mg "law" = some (.ref (He.ga K "law")) := T.glo (T.c.d.fact 40 (f := .glo "law") rfl)
theorem Tx.g_Order : mg "Order" = some (.ref (He.ga K "Order")) := T.glo (T.c.d.fact 41 (f := .glo "Order") rfl)
theorem Tx.g_Table : mg "Table" = some (.ref (He.ga K "Table")) := T.glo (T.c.d.fact 42 (f := .glo "Table") rfl)
theorem Tx.g_KINDS : mg "KINDS" = some (.ref (He.ga K "KINDS")) := T.glo (T.c.d.fact 43 (f := .glo "KINDS") rfl)
theorem Tx.n_isinstance : mg "isinstance" = none := T.free (T.c.d.fact 44 (f := .free "isinstance") rfl)
theorem Tx.n_int : mg "int" = none := T.free (T.c.d.fact 45 (f := .free "int") rfl)
theorem Tx.n_bool : mg "bool" = none := T.free (T.c.d.fact 46 (f := .free "bool") rfl)
theorem Tx.n_list : mg "list" = none := T.free (T.c.d.fact 47 (f := .free "list") rfl)
theorem Tx.n_tuple : mg "tuple" = none := T.free (T.c.d.fact 48 (f := .free "tuple") rfl)
theorem Tx.n_str : mg "str" = none := T.free (T.c.d.fact 49 (f := .free "str") rfl)
theorem Tx.n_len : mg "len" = none := T.free (T.c.d.fact 50 (f := .free "len") rfl)
theorem Tx.n_range : mg "range" = none := T.free (T.c.d.fact 51 (f := .free "range") rfl)
theorem Tx.n_enumerate : mg "enumerate" = none := T.free (T.c.d.fact 52 (f := .free "enumerate") rfl)
theorem Tx.n_reversed : mg "reversed" = none := T.free (T.c.d.fact 53 (f := .free "reversed") rfl)
theorem Tx.n_sum : mg "sum" = none := T.free (T.c.d.fact 54 (f := .free "sum") rfl)
theorem Tx.n_max : mg "max" = none := T.free (T.c.d.fact 55 (f := .free "max") rfl)
theorem Tx.i_LONGEST : ∃ u, mg "LONGEST" = some u ∧ RelV (.int 64) u := let ⟨t, e⟩ := T.int (T.c.d.fact 56 (f := .int "LONGEST" 64) rfl); ⟨_, e, t, rfl⟩
theorem Tx.i_GREATEST : ∃ u, mg "GREATEST" = some u ∧ RelV (.int 7) u := let ⟨t, e⟩ := T.int (T.c.d.fact 57 (f := .int "GREATEST" 7) rfl); ⟨_, e, t, rfl⟩
theorem Tx.i_MOST_PAIRS : ∃ u, mg "MOST_PAIRS" = some u ∧ RelV (.int 12) u := let ⟨t, e⟩ := T.int (T.c.d.fact 58 (f := .int "MOST_PAIRS" 12) rfl); ⟨_, e, t, rfl⟩
theorem Tx.i_MOST : ∃ u, mg "MOST" = some u ∧ RelV (.int 8) u := let ⟨t, e⟩ := T.int (T.c.d.fact 59 (f := .int "MOST" 8) rfl); ⟨_, e, t, rfl⟩
theorem Tx.cl_Order : Cls K (He.ga K "Order") := He.cls_ok (T.c.d.fact 60 (f := .cls "Order") rfl)
theorem Tx.mk_Order : Mk K (He.ga K "Order") (He.ma K (He.ga K "Order") "__init__") := He.mkr_ok (T.c.d.fact 61 (f := .mkr "Order") rfl)
theorem Tx.cl_Table : Cls K (He.ga K "Table") := He.cls_ok (T.c.d.fact 63 (f := .cls "Table") rfl)
theorem Tx.mk_Table : Mk K (He.ga K "Table") (He.ma K (He.ga K "Table") "__init__") := He.mkr_ok (T.c.d.fact 64 (f := .mkr "Table") rfl)
theorem Tx.na_Order_listed : NoAttr K (He.ga K "Order") "listed" := He.noat_ok (T.c.d.fact 66 (f := .noat "Order" "listed") rfl)
theorem Tx.na_Order_spots : NoAttr K (He.ga K "Order") "spots" := He.noat_ok (T.c.d.fact 67 (f := .noat "Order" "spots") rfl)
theorem Tx.na_Table_grid : NoAttr K (He.ga K "Table") "grid" := He.noat_ok (T.c.d.fact 68 (f := .noat "Table" "grid") rfl)
theorem Tx.m_Order_init : Meth K (He.ga K "Order") "__init__" (He.ma K (He.ga K "Order") "__init__") := He.meth_ok (T.c.d.fact 69 (f := .meth "Order" "__init__") rfl)
theorem Tx.m_Order_eq : Meth K (He.ga K "Order") "__eq__" (He.ma K (He.ga K "Order") "__eq__") := He.meth_ok (T.c.d.fact 70 (f := .meth "Order" "__eq__") rfl)
theorem Tx.m_Order_lt : Meth K (He.ga K "Order") "__lt__" (He.ma K (He.ga K "Order") "__lt__") := He.meth_ok (T.c.d.fact 71 (f := .meth "Order" "__lt__") rfl)
theorem Tx.m_Order_ge : Meth K (He.ga K "Order") "__ge__" (He.ma K (He.ga K "Order") "__ge__") := He.meth_ok (T.c.d.fact 72 (f := .meth "Order" "__ge__") rfl)
theorem Tx.m_Order_len : Meth K (He.ga K "Order") "__len__" (He.ma K (He.ga K "Order") "__len__") := He.meth_ok (T.c.d.fact 73 (f := .meth "Order" "__len__") rfl)
theorem Tx.m_Order_pairs : Meth K (He.ga K "Order") "pairs" (He.ma K (He.ga K "Order") "pairs") := He.meth_ok (T.c.d.fact 74 (f := .meth "Order" "pairs") rfl)
theorem Tx.m_Table_init : Meth K (He.ga K "Table") "__init__" (He.ma K (He.ga K "Table") "__init__") := He.meth_ok (T.c.d.fact 75 (f := .meth "Table" "__init__") rfl)
theorem Tx.m_Table_len : Meth K (He.ga K "Table") "__len__" (He.ma K (He.ga K "Table") "__len__") := He.meth_ok (T.c.d.fact 76 (f := .meth "Table" "__len__") rfl)
theorem Tx.m_Table_contains : Meth K (He.ga K "Table") "__contains__" (He.ma K (He.ga K "Table") "__contains__") := He.meth_ok (T.c.d.fact 77 (f := .meth "Table" "__contains__") rfl)
theorem Tx.m_Table_rows : Meth K (He.ga K "Table") "rows" (He.ma K (He.ga K "Table") "rows") := He.meth_ok (T.c.d.fact 78 (f := .meth "Table" "rows") rfl)
theorem Tx.m_Table_has_cell : Meth K (He.ga K "Table") "has_cell" (He.ma K (He.ga K "Table") "has_cell") := He.meth_ok (T.c.d.fact 79 (f := .meth "Table" "has_cell") rfl)
theorem Tx.m_Table_pairs : Meth K (He.ga K "Table") "pairs" (He.ma K (He.ga K "Table") "pairs") := He.meth_ok (T.c.d.fact 80 (f := .meth "Table" "pairs") rfl)
theorem Tx.f_is_integer : ∃ fd, FunD K "is_integer" "is_integer" (defArgs s_is_integer) (defBody s_is_integer) (defScope s_is_integer) [] [] (He.ga K "is_integer") fd := T.c.d.def_ 0 (d := d_is_integer) rfl
theorem Tx.f_is_between : ∃ fd, FunD K "is_between" "is_between" (defArgs s_is_between) (defBody s_is_between) (defScope s_is_between) [] [] (He.ga K "is_between") fd := T.c.d.def_ 1 (d := d_is_between) rfl
theorem Tx.f_is_spot : ∃ fd, FunD K "is_spot" "is_spot" (defArgs s_is_spot) (defBody s_is_spot) (defScope s_is_spot) [] [] (He.ga K "is_spot") fd := T.c.d.def_ 2 (d := d_is_spot) rfl
theorem Tx.f_is_kind : ∃ fd, FunD K "is_kind" "is_kind" (defArgs s_is_kind) (defBody s_is_kind) (defScope s_is_kind) [] [] (He.ga K "is_kind") fd := T.c.d.def_ 3 (d := d_is_kind) rfl
theorem Tx.f_check_kind : ∃ fd, FunD K "check_kind" "check_kind" (defArgs s_check_kind) (defBody s_check_kind) (defScope s_check_kind) [] [] (He.ga K "check_kind") fd := T.c.d.def_ 4 (d := d_check_kind) rfl
theorem Tx.f_counts_columns : ∃ fd, FunD K "counts_columns" "counts_columns" (defArgs s_counts_columns) (defBody s_counts_columns) (defScope s_counts_columns) [] [] (He.ga K "counts_columns") fd := T.c.d.def_ 5 (d := d_counts_columns) rfl
theorem Tx.f_counts_rows : ∃ fd, FunD K "counts_rows" "counts_rows" (defArgs s_counts_rows) (defBody s_counts_rows) (defScope s_counts_rows) [] [] (He.ga K "counts_rows") fd := T.c.d.def_ 6 (d := d_counts_rows) rfl
theorem Tx.f_is_possible_pair : ∃ fd, FunD K "is_possible_pair" "is_possible_pair" (defArgs s_is_possible_pair) (defBody s_is_possible_pair) (defScope s_is_possible_pair) [] [] (He.ga K "is_possible_pair") fd := T.c.d.def_ 7 (d := d_is_possible_pair) rfl
theorem Tx.f_check_order : ∃ fd, FunD K "check_order" "check_order" (defArgs s_check_order) (defBody s_check_order) (defScope s_check_order) [] [] (He.ga K "check_order") fd := T.c.d.def_ 8 (d := d_check_order) rfl
theorem Tx.f_is_dearer : ∃ fd, FunD K "is_dearer" "is_dearer" (defArgs s_is_dearer) (defBody s_is_dearer) (defScope s_is_dearer) [] [] (He.ga K "is_dearer") fd := T.c.d.def_ 9 (d := d_is_dearer) rfl
theorem Tx.f_bars : ∃ fd, FunD K "bars" "bars" (defArgs s_bars) (defBody s_bars) (defScope s_bars) [] [] (He.ga K "bars") fd := T.c.d.def_ 10 (d := d_bars) rfl
theorem Tx.f_first_bar : ∃ fd, FunD K "first_bar" "first_bar" (defArgs s_first_bar) (defBody s_first_bar) (defScope s_first_bar) [] [] (He.ga K "first_bar") fd := T.c.d.def_ 11 (d := d_first_bar) rfl
theorem Tx.f_first_fault : ∃ fd, FunD K "first_fault" "first_fault" (defArgs s_first_fault) (defBody s_first_fault) (defScope s_first_fault) [] [("kind", .str "even")] (He.ga K "first_fault") fd := T.c.d.def_ 12 (d := d_first_fault) rfl
theorem Tx.f_check_right : ∃ fd, FunD K "check_right" "check_right" (defArgs s_check_right) (defBody s_check_right) (defScope s_check_right) [] [] (He.ga K "check_right") fd := T.c.d.def_ 13 (d := d_check_right) rfl
theorem Tx.f_needs_of : ∃ fd, FunD K "needs_of" "needs_of" (defArgs s_needs_of) (defBody s_needs_of) (defScope s_needs_of) [] [] (He.ga K "needs_of") fd := T.c.d.def_ 14 (d := d_needs_of) rfl
theorem Tx.f_check_limit : ∃ fd, FunD K "check_limit" "check_limit" (defArgs s_check_limit) (defBody s_check_limit) (defScope s_check_limit) [] [] (He.ga K "check_limit") fd := T.c.d.def_ 15 (d := d_check_limit) rfl
theorem Tx.f_bit_of : ∃ fd, FunD K "bit_of" "bit_of" (defArgs s_bit_of) (defBody s_bit_of) (defScope s_bit_of) [] [] (He.ga K "bit_of") fd := T.c.d.def_ 16 (d := d_bit_of) rfl
theorem Tx.f_bar_masks : ∃ fd, FunD K "bar_masks" "bar_masks" (defArgs s_bar_masks) (defBody s_bar_masks) (defScope s_bar_masks) [] [] (He.ga K "bar_masks") fd := T.c.d.def_ 17 (d := d_bar_masks) rfl
theorem Tx.f_meets_all : ∃ fd, FunD K "meets_all" "meets_all" (defArgs s_meets_all) (defBody s_meets_all) (defScope s_meets_all) [] [] (He.ga K "meets_all") fd := T.c.d.def_ 18 (d := d_meets_all) rfl
theorem Tx.f_open_numbers : ∃ fd, FunD K "open_numbers" "open_numbers" (defArgs s_open_numbers) (defBody s_open_numbers) (defScope s_open_numbers) [] [] (He.ga K "open_numbers") fd := T.c.d.def_ 19 (d := d_open_numbers) rfl
theorem Tx.f_ways_to_end : ∃ fd, FunD K "ways_to_end" "ways_to_end" (defArgs s_ways_to_end) (defBody s_ways_to_end) (defScope s_ways_to_end) [] [] (He.ga K "ways_to_end") fd := T.c.d.def_ 20 (d := d_ways_to_end) rfl
theorem Tx.f_count : ∃ fd, FunD K "count" "count" (defArgs s_count) (defBody s_count) (defScope s_count) [] [("kind", .str "even")] (He.ga K "count") fd := T.c.d.def_ 21 (d := d_count) rfl
theorem Tx.f_order_at : ∃ fd, FunD K "order_at" "order_at" (defArgs s_order_at) (defBody s_order_at) (defScope s_order_at) [] [("kind", .str "even")] (He.ga K "order_at") fd := T.c.d.def_ 22 (d := d_order_at) rfl
theorem Tx.f_number_of : ∃ fd, FunD K "number_of" "number_of" (defArgs s_number_of) (defBody s_number_of) (defScope s_number_of) [] [("kind", .str "even")] (He.ga K "number_of") fd := T.c.d.def_ 23 (d := d_number_of) rfl
theorem Tx.f_is_entry : ∃ fd, FunD K "is_entry" "is_entry" (defArgs s_is_entry) (defBody s_is_entry) (defScope s_is_entry) [] [] (He.ga K "is_entry") fd := T.c.d.def_ 24 (d := d_is_entry) rfl
theorem Tx.f_is_row : ∃ fd, FunD K "is_row" "is_row" (defArgs s_is_row) (defBody s_is_row) (defScope s_is_row) [] [] (He.ga K "is_row") fd := T.c.d.def_ 25 (d := d_is_row) rfl
theorem Tx.f_width_of : ∃ fd, FunD K "width_of" "width_of" (defArgs s_width_of) (defBody s_width_of) (defScope s_width_of) [] [] (He.ga K "width_of") fd := T.c.d.def_ 26 (d := d_width_of) rfl
theorem Tx.f__law_cell : ∃ fd, FunD K "_law_cell" "_law_cell" (defArgs s__law_cell) (defBody s__law_cell) (defScope s__law_cell) [] [] (He.ga K "_law_cell") fd := T.c.d.def_ 27 (d := d__law_cell) rfl
theorem Tx.f__law_mixed : ∃ fd, FunD K "_law_mixed" "_law_mixed" (defArgs s__law_mixed) (defBody s__law_mixed) (defScope s__law_mixed) [] [] (He.ga K "_law_mixed") fd := T.c.d.def_ 28 (d := d__law_mixed) rfl
theorem Tx.f__law_draws : ∃ fd, FunD K "_law_draws" "_law_draws" (defArgs s__law_draws) (defBody s__law_draws) (defScope s__law_draws) [] [] (He.ga K "_law_draws") fd := T.c.d.def_ 29 (d := d__law_draws) rfl
theorem Tx.f__law_grid : ∃ fd, FunD K "_law_grid" "_law_grid" (defArgs s__law_grid) (defBody s__law_grid) (defScope s__law_grid) [] [] (He.ga K "_law_grid") fd := T.c.d.def_ 30 (d := d__law_grid) rfl
theorem Tx.f__law_spots : ∃ fd, FunD K "_law_spots" "_law_spots" (defArgs s__law_spots) (defBody s__law_spots) (defScope s__law_spots) [] [] (He.ga K "_law_spots") fd := T.c.d.def_ 31 (d := d__law_spots) rfl
theorem Tx.f__law_copy : ∃ fd, FunD K "_law_copy" "_law_copy" (defArgs s__law_copy) (defBody s__law_copy) (defScope s__law_copy) [] [] (He.ga K "_law_copy") fd := T.c.d.def_ 32 (d := d__law_copy) rfl
theorem Tx.f__law_cross : ∃ fd, FunD K "_law_cross" "_law_cross" (defArgs s__law_cross) (defBody s__law_cross) (defScope s__law_cross) [] [] (He.ga K "_law_cross") fd := T.c.d.def_ 33 (d := d__law_cross) rfl
theorem Tx.f__law_needs_of : ∃ fd, FunD K "_law_needs_of" "_law_needs_of" (defArgs s__law_needs_of) (defBody s__law_needs_of) (defScope s__law_needs_of) [] [] (He.ga K "_law_needs_of") fd := T.c.d.def_ 34 (d := d__law_needs_of) rfl
theorem Tx.f__law_needs : ∃ fd, FunD K "_law_needs" "_law_needs" (defArgs s__law_needs) (defBody s__law_needs) (defScope s__law_needs) [] [] (He.ga K "_law_needs") fd := T.c.d.def_ 35 (d := d__law_needs) rfl
theorem Tx.f__law_met : ∃ fd, FunD K "_law_met" "_law_met" (defArgs s__law_met) (defBody s__law_met) (defScope s__law_met) [] [] (He.ga K "_law_met") fd := T.c.d.def_ 36 (d := d__law_met) rfl
theorem Tx.f__law_open : ∃ fd, FunD K "_law_open" "_law_open" (defArgs s__law_open) (defBody s__law_open) (defScope s__law_open) [] [] (He.ga K "_law_open") fd := T.c.d.def_ 37 (d := d__law_open) rfl
theorem Tx.f__law_walk : ∃ fd, FunD K "_law_walk" "_law_walk" (defArgs s__law_walk) (defBody s__law_walk) (defScope s__law_walk) [] [] (He.ga K "_law_walk") fd := T.c.d.def_ 38 (d := d__law_walk) rfl
theorem Tx.f__law_few : ∃ fd, FunD K "_law_few" "_law_few" (defArgs s__law_few) (defBody s__law_few) (defScope s__law_few) [] [] (He.ga K "_law_few") fd := T.c.d.def_ 39 (d := d__law_few) rfl
theorem Tx.f_law : ∃ fd, FunD K "law" "law" (defArgs s_law) (defBody s_law) (defScope s_law) [] [] (He.ga K "law") fd := T.c.d.def_ 40 (d := d_law) rfl
theorem Tx.f_Order_init : ∃ fd, FunD K "__init__" "Order.__init__" (defArgs s_Order_init) (defBody s_Order_init) (defScope s_Order_init) [] [] (He.ma K (He.ga K "Order") "__init__") fd := T.c.d.def_ 41 (d := d_Order_init) rfl
theorem Tx.f_Order_eq : ∃ fd, FunD K "__eq__" "Order.__eq__" (defArgs s_Order_eq) (defBody s_Order_eq) (defScope s_Order_eq) [] [] (He.ma K (He.ga K "Order") "__eq__") fd := T.c.d.def_ 42 (d := d_Order_eq) rfl
theorem Tx.f_Order_lt : ∃ fd, FunD K "__lt__" "Order.__lt__" (defArgs s_Order_lt) (defBody s_Order_lt) (defScope s_Order_lt) [] [] (He.ma K (He.ga K "Order") "__lt__") fd := T.c.d.def_ 43 (d := d_Order_lt) rfl
theorem Tx.f_Order_ge : ∃ fd, FunD K "__ge__" "Order.__ge__" (defArgs s_Order_ge) (defBody s_Order_ge) (defScope s_Order_ge) [] [] (He.ma K (He.ga K "Order") "__ge__") fd := T.c.d.def_ 44 (d := d_Order_ge) rfl
theorem Tx.f_Order_len : ∃ fd, FunD K "__len__" "Order.__len__" (defArgs s_Order_len) (defBody s_Order_len) (defScope s_Order_len) [] [] (He.ma K (He.ga K "Order") "__len__") fd := T.c.d.def_ 45 (d := d_Order_len) rfl
theorem Tx.f_Order_pairs : ∃ fd, FunD K "pairs" "Order.pairs" (defArgs s_Order_pairs) (defBody s_Order_pairs) (defScope s_Order_pairs) [] [] (He.ma K (He.ga K "Order") "pairs") fd := T.c.d.def_ 46 (d := d_Order_pairs) rfl
theorem Tx.f_Table_init : ∃ fd, FunD K "__init__" "Table.__init__" (defArgs s_Table_init) (defBody s_Table_init) (defScope s_Table_init) [] [] (He.ma K (He.ga K "Table") "__init__") fd := T.c.d.def_ 47 (d := d_Table_init) rfl
theorem Tx.f_Table_len : ∃ fd, FunD K "__len__" "Table.__len__" (defArgs s_Table_len) (defBody s_Table_len) (defScope s_Table_len) [] [] (He.ma K (He.ga K "Table") "__len__") fd := T.c.d.def_ 48 (d := d_Table_len) rfl
theorem Tx.f_Table_contains : ∃ fd, FunD K "__contains__" "Table.__contains__" (defArgs s_Table_contains) (defBody s_Table_contains) (defScope s_Table_contains) [] [] (He.ma K (He.ga K "Table") "__contains__") fd := T.c.d.def_ 49 (d := d_Table_contains) rfl
theorem Tx.f_Table_rows : ∃ fd, FunD K "rows" "Table.rows" (defArgs s_Table_rows) (defBody s_Table_rows) (defScope s_Table_rows) [] [] (He.ma K (He.ga K "Table") "rows") fd := T.c.d.def_ 50 (d := d_Table_rows) rfl
theorem Tx.f_Table_has_cell : ∃ fd, FunD K "has_cell" "Table.has_cell" (defArgs s_Table_has_cell) (defBody s_Table_has_cell) (defScope s_Table_has_cell) [] [] (He.ma K (He.ga K "Table") "has_cell") fd := T.c.d.def_ 51 (d := d_Table_has_cell) rfl
theorem Tx.f_Table_pairs : ∃ fd, FunD K "pairs" "Table.pairs" (defArgs s_Table_pairs) (defBody s_Table_pairs) (defScope s_Table_pairs) [] [] (He.ma K (He.ga K "Table") "pairs") fd := T.c.d.def_ 52 (d := d_Table_pairs) rfl
theorem Tx.kinds (H : Hp) : SqT K H (He.ga K "KINDS") [.str "even", .str "stock", .str "wish", .str "any"] := He.tupB_ok (vs := [.str "even", .str "stock", .str "wish", .str "any"]) (He.ba T.c.x).1 H
theorem Tx.ne_Order : PySem.W.findIn K (.ref (He.ga K "Order")) "__ne__" = some (some (.builtin "object.__ne__")) := He.eqO_ok (He.ba (He.ba T.c.x).2).1
theorem Tx.isi : PySem.W.findIn K (.ref (He.ga K "Order")) "__class__" = some (some (.builtin "object.__class__")) ∧ PySem.W.specialIn K (.builtin "object.__class__") "__get__" = some (some (.builtin "getset_descriptor.__get__")) ∧
    PySem.W.takesIn K (.builtin "object.__class__") = some true ∧ PySem.W.mroIn K (He.ga K "Order") (.type "object") = some true ∧ PySem.W.kitOne K (.ref (He.ga K "Order")) (.ref (He.ga K "Order")) = some true := by
  have h := (He.ba (He.ba T.c.x).2).2
  obtain ⟨h1, h⟩ := He.ba h
  obtain ⟨h2, h⟩ := He.ba h
  obtain ⟨h3, h⟩ := He.ba h
  obtain ⟨h4, h5⟩ := He.ba h
  exact ⟨He.eqO_ok h1, He.eqO_ok h2, of_decide_eq_true h3, of_decide_eq_true h4, of_decide_eq_true h5⟩
end
end K50
end
section /- HR -/
set_option Elab.async false
set_option linter.all false
set_option maxRecDepth 100000
set_option maxHeartbeats 0
/-! The head, run once. -/
namespace K50
open PySem PySem.Spec PyProof.Rows L2
abbrev R : PySem.W.OpenRow := PySem.W.OpenLaw.row PySem.Challenge.rw_pairorder_k50_whole_orders_compare_as_nu
abbrev hk : PySem.W.Hook := hookM 5 fa fn ex
def ob (s : PySem.W.SharedT) : He.AlD := obsMG 5 fa fn ex (HandSHeadRun.getT s)
theorem ob_eq (s : PySem.W.SharedT) : ob s = hk.obs s.abs := obsMG_eq (HandSHeadRun.getT_eq s)
theorem run (w : World) : HandSHeadRun.RunEq R (PySem.W.view R.prog [69]) hk ob 5000 loose w := by
  intro os
  kernel_rfl
end K50
end
section /- MA -/
set_option linter.all false
/-! Sets of placed numbers as bits; the ways to the end; ranks. No program here. -/
namespace K50
theorem bit_add : ∀ (k S j : Nat), S.testBit k = false → (S + 2 ^ k).testBit j = (S.testBit j || decide (k = j))
  | 0, S, 0, h => by
    rw [Nat.testBit_zero] at h
    have h2 : S % 2 = 0 := by
      have := of_decide_eq_false h
      omega
    rw [Nat.testBit_zero, Nat.testBit_zero]
    simp only [decide_true, Bool.or_true, decide_eq_true_eq]
    omega
  | 0, S, j + 1, h => by
    rw [Nat.testBit_zero] at h
    have h2 : S % 2 = 0 := by
      have := of_decide_eq_false h
      omega
    rw [Nat.testBit_succ, Nat.testBit_succ, show (S + 2 ^ 0) / 2 = S / 2 by omega]
    simp
  | k + 1, S, 0, h => by
    rw [Nat.testBit_zero, Nat.testBit_zero, show (S + 2 ^ (k + 1)) % 2 = S % 2 by omega]
    simp
  | k + 1, S, j + 1, h => by
    rw [Nat.testBit_succ] at h
    rw [Nat.testBit_succ, Nat.testBit_succ, show (S + 2 ^ (k + 1)) / 2 = S / 2 + 2 ^ k by omega, bit_add k (S / 2) j h]
    simp
theorem bit_lt {N S k : Nat} (hS : S < 2 ^ N) (hk : k < N) (h : S.testBit k = false) : S + 2 ^ k < 2 ^ N := by
  refine Nat.lt_pow_two_of_testBit _ fun j hj => ?_
  rw [bit_add k S j h, Nat.testBit_lt_two_pow (Nat.lt_of_lt_of_le hS (Nat.pow_le_pow_right (by decide) hj)), Bool.false_or]
  exact decide_eq_false (by omega)
theorem all_bits {N S : Nat} (hS : S < 2 ^ N) (h : ∀ k, k < N → S.testBit k = true) : S + 1 = 2 ^ N := by
  have e : S = 2 ^ N - 1 := Nat.eq_of_testBit_eq fun j => by
    rw [Nat.testBit_two_pow_sub_one]
    by_cases q : j < N
    · rw [h j q, decide_eq_true q]
    · rw [Nat.testBit_lt_two_pow (Nat.lt_of_lt_of_le hS (Nat.pow_le_pow_right (by decide) (Nat.le_of_not_lt q))), decide_eq_false q]
  have : 0 < 2 ^ N := Nat.two_pow_pos N
  omega
theorem full_bit {N S k : Nat} (h : S + 1 = 2 ^ N) (hk : k < N) : S.testBit k = true := by
  have e : S = 2 ^ N - 1 := by omega
  rw [e, Nat.testBit_two_pow_sub_one]
  exact decide_eq_true hk

/-! ### open numbers -/
def met (m S : Nat) : Bool := !decide (m &&& S = 0)
def opn (ms : List (List Nat)) (S k : Nat) : Bool := !S.testBit k && (ms.getD k []).all fun m => met m S
def opens (ms : List (List Nat)) (N S : Nat) : List Nat := (List.range N).filter (opn ms S)
theorem mem_opens {ms : List (List Nat)} {N S k : Nat} : k ∈ opens ms N S ↔ k < N ∧ opn ms S k = true := by
  unfold opens
  rw [List.mem_filter, List.mem_range]
theorem open_bit {ms : List (List Nat)} {N S k : Nat} (h : k ∈ opens ms N S) : S.testBit k = false := by
  have := (mem_opens.mp h).2
  unfold opn at this
  rw [Bool.and_eq_true, Bool.not_eq_true'] at this
  exact this.1
theorem open_lt {ms : List (List Nat)} {N S k : Nat} (h : k ∈ opens ms N S) : k < N := (mem_opens.mp h).1
theorem opens_sorted (ms : List (List Nat)) (N S : Nat) : (opens ms N S).Pairwise (· < ·) := List.Pairwise.filter _ List.pairwise_lt_range
def W (ms : List (List Nat)) (N : Nat) (S : Nat) : Nat := if h : S + 1 < 2 ^ N then ((opens ms N S).map fun k => W ms N (S + 2 ^ k)).sum else 1
termination_by 2 ^ N - S
decreasing_by
  have := Nat.two_pow_pos k
  omega
theorem W_lt {ms : List (List Nat)} {N S : Nat} (h : S + 1 < 2 ^ N) : W ms N S = ((opens ms N S).map fun k => W ms N (S + 2 ^ k)).sum := by
  rw [W, dif_pos h]
theorem W_end {ms : List (List Nat)} {N S : Nat} (h : ¬ S + 1 < 2 ^ N) : W ms N S = 1 := by
  rw [W, dif_neg h]

/-- from the set S: the rest of an order -/
def Run (ms : List (List Nat)) (N : Nat) : Nat → List Nat → Prop
  | S, [] => S + 1 = 2 ^ N
  | S, k :: ks => k ∈ opens ms N S ∧ Run ms N (S + 2 ^ k) ks
/-- the same without the end -/
def Part (ms : List (List Nat)) (N : Nat) : Nat → List Nat → Prop
  | _, [] => True
  | S, k :: ks => k ∈ opens ms N S ∧ Part ms N (S + 2 ^ k) ks
def setOf : Nat → List Nat → Nat
  | S, [] => S
  | S, k :: ks => setOf (S + 2 ^ k) ks
def less (ms : List (List Nat)) (N S k : Nat) : Nat := (((opens ms N S).filter fun c => decide (c < k)).map fun c => W ms N (S + 2 ^ c)).sum
def rank (ms : List (List Nat)) (N : Nat) : Nat → List Nat → Nat
  | _, [] => 0
  | S, k :: ks => less ms N S k + rank ms N (S + 2 ^ k) ks
theorem not_full {ms : List (List Nat)} {N S k : Nat} (hS : S < 2 ^ N) (h : k ∈ opens ms N S) : S + 1 < 2 ^ N := by
  have a := bit_lt hS (open_lt h) (open_bit h)
  have := Nat.two_pow_pos k
  omega
theorem next_lt {ms : List (List Nat)} {N S k : Nat} (hS : S < 2 ^ N) (h : k ∈ opens ms N S) : S + 2 ^ k < 2 ^ N := bit_lt hS (open_lt h) (open_bit h)

/-! ### sums over sorted lists -/
theorem sum_split (f : Nat → Nat) (k : Nat) : ∀ l : List Nat, l.Pairwise (· < ·) → k ∈ l → ((l.filter fun c => decide (c < k)).map f).sum + f k ≤ (l.map f).sum
  | [], _, h => by cases h
  | c :: l, hp, h => by
    rw [List.pairwise_cons] at hp
    rw [List.map_cons, List.sum_cons]
    rcases List.mem_cons.mp h with e | h
    · subst e
      have z : (k :: l).filter (fun c => decide (c < k)) = [] := by
        rw [List.filter_eq_nil_iff]
        intro x hx
        rcases List.mem_cons.mp hx with e | hx
        · subst e
          simp
        · have := hp.1 x hx
          simp
          omega
      rw [z]
      simp
    · have ih := sum_split f k l hp.2 h
      by_cases q : c < k
      · rw [List.filter_cons_of_pos (by simpa using q), List.map_cons, List.sum_cons]
        omega
      · rw [List.filter_cons_of_neg (by simpa using q)]
        omega
theorem sum_mono (f : Nat → Nat) {k j : Nat} (h : k < j) : ∀ l : List Nat, l.Pairwise (· < ·) → k ∈ l → ((l.filter fun c => decide (c < k)).map f).sum + f k ≤ ((l.filter fun c => decide (c < j)).map f).sum
  | l, hp, hk => by
    have a := sum_split f k (l.filter fun c => decide (c < j)) (List.Pairwise.filter _ hp) (List.mem_filter.mpr ⟨hk, by simpa using h⟩)
    rw [List.filter_filter] at a
    have e : (l.filter fun c => decide (c < k) && decide (c < j)) = l.filter fun c => decide (c < k) := by
      apply List.filter_congr
      intro x _
      by_cases q : x < k
      · have : x < j := by omega
        simp [q, this]
      · simp [q]
    rw [e] at a
    exact a

theorem rank_lt {ms : List (List Nat)} {N : Nat} : ∀ (ks : List Nat) (S : Nat), S < 2 ^ N → Run ms N S ks → rank ms N S ks < W ms N S
  | [], S, hS, h => by
    have h : S + 1 = 2 ^ N := h
    rw [W_end (by omega)]
    exact Nat.zero_lt_one
  | k :: ks, S, hS, h => by
    obtain ⟨h1, h2⟩ := h
    have ih := rank_lt ks (S + 2 ^ k) (next_lt hS h1) h2
    rw [W_lt (not_full hS h1)]
    have := sum_split (fun c => W ms N (S + 2 ^ c)) k _ (opens_sorted ms N S) h1
    show less ms N S k + rank ms N (S + 2 ^ k) ks < _
    unfold less
    omega

/-- lists of numbers in order -/
def lexL : List Nat → List Nat → Bool
  | [], [] => false
  | [], _ :: _ => true
  | _ :: _, [] => false
  | a :: as, b :: bs => if a = b then lexL as bs else decide (a < b)
theorem lexL_irrefl : ∀ l : List Nat, lexL l l = false
  | [] => rfl
  | a :: as => by
    unfold lexL
    rw [if_pos rfl]
    exact lexL_irrefl as
theorem run_len {ms : List (List Nat)} {N : Nat} : ∀ (ks ls : List Nat) (S : Nat), S < 2 ^ N → Run ms N S ks → Run ms N S ls → lexL ks ls = true → rank ms N S ks < rank ms N S ls
  | [], [], _, _, _, _, h => by cases h
  | [], l :: ls, S, hS, h1, h2, _ => by
    have h1 : S + 1 = 2 ^ N := h1
    have := not_full hS h2.1
    omega
  | k :: ks, [], S, hS, h1, h2, _ => by
    have h2 : S + 1 = 2 ^ N := h2
    have := not_full hS h1.1
    omega
  | k :: ks, l :: ls, S, hS, h1, h2, h => by
    unfold lexL at h
    obtain ⟨a1, a2⟩ := h1
    obtain ⟨b1, b2⟩ := h2
    by_cases e : k = l
    · subst e
      rw [if_pos rfl] at h
      have ih := run_len ks ls (S + 2 ^ k) (next_lt hS a1) a2 b2 h
      show less ms N S k + _ < less ms N S k + _
      omega
    · rw [if_neg e] at h
      have hkl : k < l := of_decide_eq_true h
      have r := rank_lt ks (S + 2 ^ k) (next_lt hS a1) a2
      have m := sum_mono (fun c => W ms N (S + 2 ^ c)) hkl _ (opens_sorted ms N S) a1
      show less ms N S k + _ < less ms N S l + _
      unfold less
      omega
theorem lexL_total : ∀ (ks ls : List Nat), lexL ks ls = true ∨ lexL ls ks = true ∨ ks = ls
  | [], [] => .inr (.inr rfl)
  | [], _ :: _ => .inl rfl
  | _ :: _, [] => .inr (.inl rfl)
  | a :: as, b :: bs => by
    by_cases e : a = b
    · subst e
      rcases lexL_total as bs with h | h | h
      · exact .inl (by unfold lexL; rw [if_pos rfl]; exact h)
      · exact .inr (.inl (by unfold lexL; rw [if_pos rfl]; exact h))
      · exact .inr (.inr (by rw [h]))
    · by_cases q : a < b
      · exact .inl (by unfold lexL; rw [if_neg e]; exact decide_eq_true q)
      · exact .inr (.inl (by unfold lexL; rw [if_neg (fun z => e z.symm)]; exact decide_eq_true (by omega)))
/-- the ranks stand in the lists' order -/
theorem rank_order {ms : List (List Nat)} {N S : Nat} {ks ls : List Nat} (hS : S < 2 ^ N) (h1 : Run ms N S ks) (h2 : Run ms N S ls) :
    decide (rank ms N S ks < rank ms N S ls) = lexL ks ls ∧ decide (rank ms N S ks = rank ms N S ls) = decide (ks = ls) := by
  rcases lexL_total ks ls with h | h | h
  · have r := run_len ks ls S hS h1 h2 h
    rw [h, decide_eq_true r]
    refine ⟨rfl, ?_⟩
    rw [decide_eq_false (by omega), decide_eq_false]
    intro e
    subst e
    rw [lexL_irrefl] at h
    cases h
  · have r := run_len ls ks S hS h2 h1 h
    have n : lexL ks ls = false := by
      cases q : lexL ks ls with
      | false => rfl
      | true =>
        have := run_len ks ls S hS h1 h2 q
        omega
    rw [n, decide_eq_false (by omega)]
    refine ⟨rfl, ?_⟩
    rw [decide_eq_false (by omega), decide_eq_false]
    intro e
    subst e
    rw [lexL_irrefl] at h
    cases h
  · subst h
    rw [lexL_irrefl]
    simp

/-! ### orders there are, or none -/
theorem sum_pos {α : Type} (f : α → Nat) : ∀ l : List α, 0 < (l.map f).sum → ∃ x ∈ l, 0 < f x
  | [], h => by simp at h
  | a :: l, h => by
    rw [List.map_cons, List.sum_cons] at h
    by_cases q : 0 < f a
    · exact ⟨a, List.mem_cons_self, q⟩
    · obtain ⟨x, hx, hp⟩ := sum_pos f l (by omega)
      exact ⟨x, List.mem_cons_of_mem _ hx, hp⟩
theorem run_of_pos {ms : List (List Nat)} {N : Nat} : ∀ (n S : Nat), 2 ^ N - S ≤ n → S < 2 ^ N → 0 < W ms N S → ∃ ks, Run ms N S ks
  | 0, S, h, hS, _ => by omega
  | n + 1, S, h, hS, hp => by
    by_cases q : S + 1 < 2 ^ N
    · rw [W_lt q] at hp
      obtain ⟨k, hk, hw⟩ := sum_pos _ _ hp
      have := Nat.two_pow_pos k
      obtain ⟨ks, hr⟩ := run_of_pos n (S + 2 ^ k) (by omega) (next_lt hS hk) hw
      exact ⟨k :: ks, hk, hr⟩
    · exact ⟨[], show S + 1 = 2 ^ N by omega⟩
/-- more placed, no less open -/
theorem met_mono {m S T : Nat} (h : ∀ j, S.testBit j = true → T.testBit j = true) (hm : met m S = true) : met m T = true := by
  unfold met at hm ⊢
  rw [Bool.not_eq_true', decide_eq_false_iff_not] at hm ⊢
  intro e
  apply hm
  refine Nat.eq_of_testBit_eq fun j => ?_
  have ej : (m &&& T).testBit j = false := by rw [e, Nat.zero_testBit]
  rw [Nat.testBit_and] at ej
  rw [Nat.testBit_and, Nat.zero_testBit]
  cases q : S.testBit j with
  | false => rw [Bool.and_false]
  | true =>
    rw [h j q] at ej
    rw [← ej]
theorem stuck {ms : List (List Nat)} {N T : Nat} (hT : T + 1 < 2 ^ N) (ho : opens ms N T = []) : ∀ (ks : List Nat) (S : Nat), S < 2 ^ N → (∀ j, S.testBit j = true → T.testBit j = true) → ¬ Run ms N S ks
  | [], S, hS, hs, h => by
    have h : S + 1 = 2 ^ N := h
    have z : T + 1 = 2 ^ N := all_bits (by omega) fun k hk => hs k (full_bit h hk)
    omega
  | k :: ks, S, hS, hs, h => by
    obtain ⟨h1, h2⟩ := h
    by_cases q : T.testBit k = true
    · refine stuck hT ho ks (S + 2 ^ k) (next_lt hS h1) (fun j hj => ?_) h2
      rw [bit_add k S j (open_bit h1), Bool.or_eq_true] at hj
      rcases hj with hj | hj
      · exact hs j hj
      · have e : k = j := of_decide_eq_true hj
        subst e
        exact q
    · have z : k ∈ opens ms N T := by
        refine mem_opens.mpr ⟨open_lt h1, ?_⟩
        have o := (mem_opens.mp h1).2
        unfold opn at o ⊢
        rw [Bool.and_eq_true] at o ⊢
        refine ⟨by simpa using q, List.all_eq_true.mpr fun m hm => met_mono hs (List.all_eq_true.mp o.2 m hm)⟩
      rw [ho] at z
      cases z
/-- where one walk is stuck there is no order -/
theorem none_of_stuck {ms : List (List Nat)} {N T : Nat} (hT : T + 1 < 2 ^ N) (ho : opens ms N T = []) : W ms N 0 = 0 ∧ ∀ ks, ¬ Run ms N 0 ks := by
  have hz : ∀ ks, ¬ Run ms N 0 ks := fun ks => stuck hT ho ks 0 (Nat.two_pow_pos N) fun j hj => by rw [Nat.zero_testBit] at hj; cases hj
  refine ⟨?_, hz⟩
  rcases Nat.eq_zero_or_pos (W ms N 0) with h | h
  · exact h
  · obtain ⟨ks, hr⟩ := run_of_pos _ 0 (Nat.le_refl _) (Nat.two_pow_pos N) h
    exact absurd hr (hz ks)
theorem setOf_app : ∀ (ks : List Nat) (k S : Nat), setOf S (ks ++ [k]) = setOf S ks + 2 ^ k
  | [], _, _ => rfl
  | _ :: ks, k, S => setOf_app ks k _
theorem setOf_lt {ms : List (List Nat)} {N : Nat} : ∀ (ks : List Nat) (S : Nat), S < 2 ^ N → Part ms N S ks → setOf S ks < 2 ^ N
  | [], _, hS, _ => hS
  | _ :: ks, _, hS, h => setOf_lt ks _ (next_lt hS h.1) h.2
theorem part_app {ms : List (List Nat)} {N : Nat} : ∀ (ks : List Nat) (k S : Nat), Part ms N S ks → k ∈ opens ms N (setOf S ks) → Part ms N S (ks ++ [k])
  | [], _, _, _, h => ⟨h, trivial⟩
  | _ :: ks, k, _, h, hk => ⟨h.1, part_app ks k _ h.2 hk⟩
theorem run_of_part {ms : List (List Nat)} {N : Nat} : ∀ (ks : List Nat) (S : Nat), Part ms N S ks → setOf S ks + 1 = 2 ^ N → Run ms N S ks
  | [], _, _, h => h
  | _ :: ks, _, h, e => ⟨h.1, run_of_part ks _ h.2 e⟩
theorem part_of_run {ms : List (List Nat)} {N : Nat} : ∀ (ks : List Nat) (S : Nat), Run ms N S ks → Part ms N S ks
  | [], _, _ => trivial
  | _ :: ks, _, h => ⟨h.1, part_of_run ks _ h.2⟩
theorem part_pre {ms : List (List Nat)} {N : Nat} : ∀ (ks ls : List Nat) (S : Nat), Part ms N S (ks ++ ls) → Part ms N S ks
  | [], _, _, _ => trivial
  | _ :: ks, ls, _, h => ⟨h.1, part_pre ks ls _ h.2⟩
theorem setOf_bit {ms : List (List Nat)} {N : Nat} : ∀ (ks : List Nat) (S j : Nat), Part ms N S ks → (setOf S ks).testBit j = (S.testBit j || decide (j ∈ ks))
  | [], S, j, _ => by simp [setOf]
  | k :: ks, S, j, h => by
    show (setOf (S + 2 ^ k) ks).testBit j = _
    rw [setOf_bit ks _ j h.2, bit_add k S j (open_bit h.1)]
    by_cases q : k = j
    · subst q
      simp
    · have q2 : ¬ j = k := fun z => q z.symm
      simp [q, q2]
theorem part_nodup {ms : List (List Nat)} {N : Nat} : ∀ (ks : List Nat) (S : Nat), Part ms N S ks → ks.Nodup ∧ ∀ k ∈ ks, k < N ∧ S.testBit k = false
  | [], _, _ => ⟨List.nodup_nil, fun _ h => by cases h⟩
  | k :: ks, S, h => by
    obtain ⟨n, a⟩ := part_nodup ks _ h.2
    refine ⟨List.nodup_cons.mpr ⟨fun hk => ?_, n⟩, fun j hj => ?_⟩
    · have := (a k hk).2
      rw [bit_add k S k (open_bit h.1)] at this
      simp at this
    · rcases List.mem_cons.mp hj with e | hj
      · subst e
        exact ⟨open_lt h.1, open_bit h.1⟩
      · obtain ⟨b, c⟩ := a j hj
        rw [bit_add k S j (open_bit h.1), Bool.or_eq_false_iff] at c
        exact ⟨b, c.1⟩
theorem nodup_len : ∀ (l ks : List Nat), l.Nodup → (∀ x ∈ l, x ∈ ks) → l.length ≤ ks.length
  | [], _, _, _ => Nat.zero_le _
  | a :: l, ks, hn, h => by
    rw [List.nodup_cons] at hn
    have ha : a ∈ ks := h a List.mem_cons_self
    have ih := nodup_len l (ks.erase a) hn.2 fun x hx => by
      have e : x ≠ a := fun z => hn.1 (z ▸ hx)
      exact (List.mem_erase_of_ne e).mpr (h x (List.mem_cons_of_mem _ hx))
    rw [List.length_erase_of_mem ha] at ih
    have := List.length_pos_of_mem ha
    rw [List.length_cons]
    omega
theorem bits_len {N : Nat} {ks : List Nat} (hn : ks.Nodup) (hl : ∀ k ∈ ks, k < N) : ks.length ≤ N := by
  have := nodup_len ks (List.range N) hn fun k hk => List.mem_range.mpr (hl k hk)
  rw [List.length_range] at this
  exact this
/-- all are placed exactly behind N of them -/
theorem part_full {ms : List (List Nat)} {N : Nat} {ks : List Nat} (h : Part ms N 0 ks) : ks.length ≤ N ∧ (ks.length = N ↔ setOf 0 ks + 1 = 2 ^ N) := by
  obtain ⟨n, a⟩ := part_nodup ks 0 h
  have len := bits_len n fun k hk => (a k hk).1
  have lt := setOf_lt ks 0 (Nat.two_pow_pos N) h
  refine ⟨len, fun e => all_bits lt fun k hk => ?_, fun e => ?_⟩
  · rw [setOf_bit ks 0 k h, Nat.zero_testBit, Bool.false_or, decide_eq_true_eq]
    refine Decidable.byContradiction fun z => ?_
    have := bits_len (N := N) (List.nodup_cons.mpr ⟨z, n⟩) fun j hj => by
      rcases List.mem_cons.mp hj with e | hj
      · subst e
        exact hk
      · exact (a j hj).1
    rw [List.length_cons] at this
    omega
  · have := nodup_len (List.range N) ks List.nodup_range fun k hk => by
      have hk := List.mem_range.mp hk
      have b := full_bit e hk
      rw [setOf_bit ks 0 k h, Nat.zero_testBit, Bool.false_or, decide_eq_true_eq] at b
      exact b
    rw [List.length_range] at this
    omega
theorem part_set_app : ∀ (ks ls : List Nat) (S : Nat), setOf S (ks ++ ls) = setOf (setOf S ks) ls
  | [], _, _ => rfl
  | _ :: ks, ls, _ => part_set_app ks ls _
/-- a run, cut -/
theorem run_cut {ms : List (List Nat)} {N : Nat} : ∀ (ks ls : List Nat) (S : Nat), Run ms N S (ks ++ ls) → Part ms N S ks ∧ Run ms N (setOf S ks) ls
  | [], _, _, h => ⟨trivial, h⟩
  | _ :: ks, ls, _, h => ⟨⟨h.1, (run_cut ks ls _ h.2).1⟩, (run_cut ks ls _ h.2).2⟩
theorem rank_cut {ms : List (List Nat)} {N : Nat} : ∀ (ks ls : List Nat) (S : Nat), rank ms N S (ks ++ ls) = rank ms N S ks + rank ms N (setOf S ks) ls
  | [], _, S => by simp [rank, setOf]
  | k :: ks, ls, S => by
    show less ms N S k + rank ms N _ (ks ++ ls) = less ms N S k + rank ms N _ ks + rank ms N (setOf (S + 2 ^ k) ks) ls
    rw [rank_cut ks ls]
    omega
/-- how order_at finds the next number: it goes on while what is left reaches the ways behind the choice -/
def sumTo (f : Nat → Nat) (l : List Nat) (t : Nat) : Nat := ((l.take t).map f).sum
theorem filter_take : ∀ (l : List Nat), l.Pairwise (· < ·) → ∀ (t : Nat) (h : t < l.length), l.filter (fun c => decide (c < l[t])) = l.take t
  | [], _, t, h => by cases h
  | a :: l, hp, 0, h => by
    rw [List.pairwise_cons] at hp
    show (a :: l).filter (fun c => decide (c < a)) = []
    rw [List.filter_eq_nil_iff]
    intro x hx
    rcases List.mem_cons.mp hx with e | hx
    · subst e
      simp
    · have := hp.1 x hx
      simp
      omega
  | a :: l, hp, t + 1, h => by
    rw [List.pairwise_cons] at hp
    have h2 : t < l.length := Nat.lt_of_succ_lt_succ h
    have e : (a :: l)[t + 1] = l[t] := rfl
    rw [e, List.filter_cons_of_pos (by simpa using hp.1 _ (List.getElem_mem h2)), filter_take l hp.2 t h2]
    rfl
/-- the place of the next number of a run among the open ones: at t turns less than t's ways are taken -/
theorem find_at {ms : List (List Nat)} {N S k : Nat} {ks : List Nat} (hS : S < 2 ^ N) (h : Run ms N S (k :: ks)) : ∃ t, ∃ ht : t < (opens ms N S).length, (opens ms N S)[t] = k ∧
    rank ms N S (k :: ks) = sumTo (fun c => W ms N (S + 2 ^ c)) (opens ms N S) t + rank ms N (S + 2 ^ k) ks ∧ rank ms N (S + 2 ^ k) ks < W ms N (S + 2 ^ k) := by
  obtain ⟨h1, h2⟩ := h
  obtain ⟨t, ht, e⟩ := List.mem_iff_getElem.mp h1
  refine ⟨t, ht, e, ?_, rank_lt ks _ (next_lt hS h1) h2⟩
  show less ms N S k + _ = _
  unfold less sumTo
  rw [← filter_take _ (opens_sorted ms N S) t ht, e]
theorem sumTo_succ (f : Nat → Nat) (l : List Nat) (t : Nat) (h : t < l.length) : sumTo f l (t + 1) = sumTo f l t + f l[t] := by
  unfold sumTo
  rw [List.take_succ_eq_append_getElem h, List.map_append, List.sum_append]
  simp
theorem sumTo_mono (f : Nat → Nat) (l : List Nat) : ∀ {a b : Nat}, a ≤ b → b ≤ l.length → sumTo f l a ≤ sumTo f l b
  | a, b, h, hb => by
    induction b with
    | zero =>
      have : a = 0 := by omega
      subst this
      exact Nat.le_refl _
    | succ b ih =>
      by_cases e : a = b + 1
      · subst e
        exact Nat.le_refl _
      · have := ih (by omega) (by omega)
        rw [sumTo_succ f l b (by omega)]
        omega
end K50
end
section /- GF2 -/
set_option Elab.async false
set_option linter.all false
set_option maxRecDepth 100000
set_option maxHeartbeats 1000000
/-! A generator that is walked by a for loop, segment by segment; each segment bears a tag (where it was woken). After PyProof.Gen, GenRules, GenQ and HandS.GenList, whose segments bear a state and no tag. -/
namespace GF
open PySem PySem.Spec PyProof.Rows GenW L2

abbrev GEndT (τ : Type) := Nat → τ → Result → Shared → Prop
abbrev ProtT (τ : Type) := Nat → τ → Value → Shared → (τ → Resume → Shared → Prop) → Prop
def SegEndT {τ : Type} (R : GEndT τ) (Y : ProtT τ) (n : Nat) (go : τ → Code → Sem PySem.Fin → List Frame → Shared → Prop) (g : τ) (e : End) (s' : Shared) : Prop :=
  match e with
  | .ret r => R n g r s'
  | .susp v q l k c p fs => (End.susp v q l k c p fs).quiet = true ∧ Y (n - 1) g v s' fun g' r s'' => go g' c (k r) fs s''
def SegT {τ : Type} (M : Model) (A : Around) (R : GEndT τ) (Y : ProtT τ) : Nat → τ → Code → Sem PySem.Fin → List Frame → Shared → Prop
  | 0 => fun g c t fs s => ∀ Γ p, Γ.code = c → Γ.Woken A → ∃ e s', Runs M Γ p t fs s e s' ∧ SegEndT R Y 0 (fun _ _ _ _ _ => False) g e s'
  | n + 1 => fun g c t fs s => ∀ Γ p, Γ.code = c → Γ.Woken A → ∃ e s', Runs M Γ p t fs s e s' ∧
      SegEndT R Y (n + 1) (fun g' c' t' fs' s'' => SegT M A R Y n g' c' t' fs' s'') g e s'
def SegT.next {τ : Type} (M : Model) (A : Around) (R : GEndT τ) (Y : ProtT τ) : Nat → τ → Code → Sem PySem.Fin → List Frame → Shared → Prop
  | 0 => fun _ _ _ _ _ => False
  | n + 1 => fun g c t fs s'' => SegT M A R Y n g c t fs s''

section
variable {τ : Type} {M : Model} {A : Around} {R : GEndT τ} {Y : ProtT τ} {n : Nat} {g : τ} {c : Code} {fs : List Frame} {s : Shared} {t : Sem PySem.Fin}
theorem segT_iff : SegT M A R Y n g c t fs s ↔ ∀ Γ p, Γ.code = c → Γ.Woken A → ∃ e s', Runs M Γ p t fs s e s' ∧ SegEndT R Y n (SegT.next M A R Y n) g e s' := by
  cases n <;> rfl
theorem segT_wrap {α : Type} {m : Sem α} {K : α → Sem PySem.Fin} {H : Value → Sem PySem.Fin} {gd lv}
    (h : wpAny M (A.over c fs) m (fun a s' => SegT M A R Y n g c (K a) fs s') (fun x s' => SegT M A R Y n g c (H x) fs s') s) :
    SegT M A R Y n g c (m.wrap K H gd lv) fs s := by
  rw [segT_iff]
  rintro Γ p rfl hΓ
  exact runs_wrap_of_wp K H gd lv m (h (Γ.over fs) p (hΓ.over fs)) (fun a p' s' h' => segT_iff.mp h' Γ p' rfl hΓ)
    (fun x p' s' h' => segT_iff.mp h' Γ p' rfl hΓ)
theorem segT_bind {α β : Type} {m : Sem α} {K : α → Sem β} {K' : β → Sem PySem.Fin} {H' : Value → Sem PySem.Fin} {gd lv}
    (h : wpAny M (A.over c fs) m (fun a s' => SegT M A R Y n g c ((K a).wrap K' H' gd lv) fs s') (fun _ _ => False) s) : SegT M A R Y n g c ((m >>= K).wrap K' H' gd lv) fs s := by
  rw [Sem.bind_eq_wrap', Sem.wrap_wrap]; exact segT_wrap (wpAny_mono h (fun _ _ x => x) fun _ _ z => z.elim)
theorem segT_at {p' : Pos} {k : Unit → Sem PySem.Fin} (h : SegT M A R Y n g c (k ()) fs s) : SegT M A R Y n g c (.at p' k) fs s :=
  segT_wrap (m := standAt p') (K := k) (H := .raise) (gd := id) (lv := id) (wpAny_standAt h)
theorem segT_point {l : List Value} {k : Unit → Sem PySem.Fin} (h : SegT M A R Y n g c (k ()) fs s) : SegT M A R Y n g c (.point l k) fs s :=
  segT_wrap (m := point) (K := k) (H := .raise) (gd := id) (lv := fun _ => l) (wpAny_point h)
theorem segT_call {c' : Code} {h q l} {k : Result → Sem PySem.Fin} (hc : ∀ p, SegT M A R Y n g c' (M.den c') (.ret k h q l c p [] :: fs) s) :
    SegT M A R Y n g c (.call c' h q l k) fs s := by
  rw [segT_iff]
  rintro Γ p rfl hΓ
  obtain ⟨e, s', hr, he⟩ := segT_iff.mp (hc p) (Γ.goto c') p rfl (hΓ.goto c')
  exact ⟨e, s', runs_call_seg hr, he⟩
theorem segT_leaf {k h q l c₁ p₁ kp} (r : Result) (hk : SegT M A R Y n g c₁ (k r) fs s) : SegT M A R Y n g c (leafOf r) (.ret k h q l c₁ p₁ kp :: fs) s := by
  rw [segT_iff]
  rintro Γ p rfl hΓ
  obtain ⟨e, s', hr, he⟩ := segT_iff.mp hk (Γ.goto c₁) p₁ rfl (hΓ.goto c₁)
  exact ⟨e, s', Runs.pop r hr, he⟩
theorem segT_again {c' : Code} (hq : c'.quiet = true) (hc : SegT M A R Y n g c' (M.den c') fs s) : SegT M A R Y n g c (.pure (.again c')) fs s := by
  rw [segT_iff]
  rintro Γ p rfl hΓ
  obtain ⟨e, s', hr, he⟩ := segT_iff.mp hc (Γ.goto c') p rfl (hΓ.goto c')
  exact ⟨e, s', Runs.head (c₁ := c') (fun _ _ x => .again hq x) hr, he⟩
theorem segT_end (r : Result) (h : R n g r s) : SegT M A R Y n g c (leafOf r) [] s := by
  rw [segT_iff]
  rintro Γ p rfl _
  exact ⟨.ret r, s, Runs.leaf r, h⟩
theorem segT_yield {v q l} {k : Resume → Sem PySem.Fin} (hfs : splitAtGen fs = none) (hg : q = false) (hfg : fs.any Frame.guarded = false)
    (h : Y n g v s fun g' r s'' => SegT M A R Y n g' c (k r) fs s'') : SegT M A R Y (n + 1) g c (.yield v q l k) fs s := by
  rintro Γ p rfl _
  exact ⟨_, s, Runs.yield' fs hfs, And.intro (by simp [End.quiet, hg, hfg]) h⟩
end

/-! ### statements -/
section
variable {τ : Type} {M : Model} {A : Around} {R : GEndT τ} {Y : ProtT τ} {n : Nat} {g : τ} {c : Code} {fs : List Frame} {s : Shared} {env : Env}
  {K : Flow → Sem PySem.Fin} {J : Value → Sem PySem.Fin} {gd : Bool → Bool} {lv : List Value → List Value}
theorem segT_nil (h : SegT M A R Y n g c (K .next) fs s) : SegT M A R Y n g c ((execs [] env).wrap K J gd lv) fs s := h
theorem segT_cons {st : Stmt} {rest : List Stmt}
    (h : SegT M A R Y n g c ((exec st env).wrap (fun f => match f with | .next => (execs rest env).wrap K J gd lv | f => K f) J gd lv) fs s) :
    SegT M A R Y n g c ((execs (st :: rest) env).wrap K J gd lv) fs s := by rw [execs_cons_wrap]; exact h
theorem segT_Expr_Yield {e : Expr} {ypos pos : Pos} (hfs : splitAtGen fs = none) (hgd : gd false = false) (hfg : fs.any Frame.guarded = false)
    (h : wpAny M (A.over c fs) (eval e env) (fun v s' => ∀ kap : τ → Resume → Shared → Prop,
        (∀ g' x s'', (match x with | .ref _ => False | _ => SegT M A R Y n g' c (K .next) fs s'') → kap g' (.send x) s'') → Y n g v s' kap) (fun _ _ => False) s)
    (hco : env.scope.isCoroutine = false := by rfl) (hi : interactive env = false := by rfl) :
    SegT M A R Y (n + 1) g c ((exec (.Expr (.Yield (some e) ypos) pos) env).wrap K J gd lv) fs s := by
  rw [exec_Expr env _ pos hi rfl]
  show SegT M A R Y (n + 1) g c (.at pos fun _ => ((eval e env >>= fun v => (standAt ypos >>= fun _ => yieldOut env v)) >>= fun x =>
    dropValue (.Yield (some e) ypos) pos x).wrap K J gd lv) fs s
  have hy : ∀ v, yieldOut env v = yieldValue v := fun v => by simp only [yieldOut, hco, Bool.false_eq_true, if_false]
  simp only [hy]
  refine segT_at ?_
  rw [Sem.bind_eq_wrap', Sem.bind_eq_wrap', Sem.wrap_wrap, Sem.wrap_wrap]
  refine segT_wrap (wpAny_mono h (fun v s' h' => ?_) fun _ _ x => x.elim)
  refine segT_at (segT_yield hfs hgd hfg ?_)
  refine h' _ fun g' x s'' hx => ?_
  cases x <;> first | exact hx | exact hx.elim
theorem segT_If {test : Expr} {body orelse : List Stmt} {pos : Pos}
    (h : wpAny M (A.over c fs) (isTrue test env (eval test env)) (fun b s' => if b = true then SegT M A R Y n g c ((execs body env).wrap K J gd lv) fs s' else SegT M A R Y n g c ((execs orelse env).wrap K J gd lv) fs s')
      (fun _ _ => False) s) :
    SegT M A R Y n g c ((exec (.If test body orelse pos) env).wrap K J gd lv) fs s := by
  rw [exec_If]
  refine segT_bind (wpAny_standAt ?_)
  refine segT_bind (wpAny_mono h (fun b s' hb => ?_) fun _ _ z => z.elim)
  cases b with
  | true => exact hb
  | false => exact hb
theorem segT_For {tg iter : Expr} {body : List Stmt} {pos : Pos} (hs : ∀ x, foldedSetIterable iter env x = pure x)
    (h : wpAny M (A.over c fs) (eval iter env) (fun v s1 => wpAny M (A.over c fs) (pyIter v) (fun it s2 => ∀ p, SegT M A R Y n g (.forLoop tg it body [] env) (M.den (.forLoop tg it body [] env))
      (.ret (fun r => ((match r with | .ok f => (.pure f : Sem Flow) | .error e => .raise e).onRaise fun (x : Value) => do
        if (← field x 1) == Value.none then unsupported "frame.own-activation:exception-without-traceback"
        setFlight x env.frame).wrap K J gd lv) none (gd false) (lv []) c p [] :: fs) s2) (fun _ _ => False) s1) (fun _ _ => False) s) :
    SegT M A R Y n g c ((exec (.For tg iter body [] pos) env).wrap K J gd lv) fs s := by
  rw [exec_For]
  refine segT_bind (wpAny_standAt ?_)
  refine segT_bind (wpAny_mono h (fun v s1 h1 => ?_) fun _ _ z => z.elim)
  refine segT_bind (wpAny_of_eq (hs v) ?_)
  refine segT_bind (wpAny_standAt ?_)
  refine segT_bind (wpAny_holding (wpAny_mono h1 (fun it s2 h2 => ?_) fun _ _ z => z.elim))
  exact segT_call h2
end

section
variable {τ : Type} {prog : Program} {w : World} {A : Around} {R : GEndT τ} {Y : ProtT τ} {n : Nat} {g : τ} {fs : List Frame} {s : Shared} {env : Env}
theorem segT_forLoop {tg : Expr} {it : Value} {body : List Stmt}
    (h : wpAny (model prog w) (A.over (.forLoop tg it body [] env) fs) (pyNext it) (fun r s1 => match r with
      | none => SegT (model prog w) A R Y n g (.block [] env) (leafOf (.ok .next)) fs s1
      | some v => wpAny (model prog w) (A.over (.forLoop tg it body [] env) fs) (letOwnedTupleGo tg it v) (fun _ s2 => wpAny (model prog w) (A.over (.forLoop tg it body [] env) fs) (assign tg env v) (fun _ s3 =>
          SegT (model prog w) A R Y n g (.forLoop tg it body [] env) ((execs body env).wrap (fun f => match f with
            | .next | .cont => .pure (.again (.forLoop tg it body [] env))
            | .brk => .pure (.done .next)
            | .ret v => .pure (.done (.ret v))) (fun e => (do noteFrame e env; theTreesLotGoes e : Sem Unit).wrap (fun _ => .raise e) .raise id id) id id) fs s3) (fun _ _ => False) s2) (fun _ _ => False) s1) (fun _ _ => False) s) :
    SegT (model prog w) A R Y n g (.forLoop tg it body [] env) ((model prog w).den (.forLoop tg it body [] env)) fs s := by
  show SegT _ A R Y n g _ ((forTurn tg it body [] env).onRaise (fun x => do noteFrame x env; theTreesLotGoes x)) fs s
  unfold forTurn
  rw [Sem.onRaise_eq_wrap]
  refine segT_bind (wpAny_standAt ?_)
  refine segT_bind (wpAny_onRaise (wpAny_mono h (fun r s1 h1 => ?_) fun _ _ z => z.elim))
  cases r with
  | none =>
    refine segT_again (by rfl) ?_
    exact h1
  | some v =>
    show SegT _ A R Y n g _ (Sem.wrap _ _ _ _ (letOwnedTupleGo tg it v >>= fun _ => _)) fs s1
    refine segT_bind (wpAny_mono h1 (fun _ s2 h2 => ?_) fun _ _ z => z.elim)
    refine segT_bind (wpAny_mono h2 (fun _ s3 h3 => ?_) fun _ _ z => z.elim)
    rw [Sem.bind_eq_wrap', Sem.wrap_wrap]
    rw [Sem.wrap_congr (execs body env) _ _ (K' := fun f => match f with
            | .next | .cont => .pure (.again (.forLoop tg it body [] env))
            | .brk => .pure (.done .next)
            | .ret v => .pure (.done (.ret v))) (H' := (fun e => (do noteFrame e env; theTreesLotGoes e : Sem Unit).wrap (fun _ => .raise e) .raise id id))
        (fun f => by cases f <;> rfl)
        (fun e => by first | exact Sem.bind_eq_wrap _ _ | (show (do noteFrame e env; theTreesLotGoes e : Sem Unit).bind (fun _ => .raise e) = _; rw [Sem.bind_eq_wrap]))]
    exact h3
theorem segT_func {body : List Stmt}
    (h : SegT (model prog w) A R Y n g (.func body env) ((execs body env).wrap (fun f => .pure (.done (.ret (match f with | .ret v => v | _ => .none))))
      (fun e => (leaving env e).wrap (fun _ => .raise e) .raise id id) id id) fs s) :
    SegT (model prog w) A R Y n g (.func body env) ((model prog w).den (.func body env)) fs s := by
  show SegT _ A R Y n g _ (.point [] fun _ => ((execs body env).onRaise (leaving env)) >>= _) fs s
  refine segT_point ?_
  rw [Sem.onRaise_eq_wrap, Sem.bind_eq_wrap', Sem.wrap_wrap]
  rw [Sem.wrap_congr (execs body env) _ _ (K' := fun f => .pure (.done (.ret (match f with | .ret v => v | _ => .none))))
    (H' := fun e => (leaving env e).wrap (fun _ => .raise e) .raise id id) (fun f => by cases f <;> rfl)
    (fun e => by rw [Sem.bind_eq_wrap, Sem.wrap_wrap]; rfl)]
  exact h
end

/-! ### waking -/
def GoesT {τ : Type} (M : Model) (A : Around) (R : GEndT τ) (Y : ProtT τ) (n : Nat) (gs : GenState) (g : τ) (r : Resume) (s : Shared) : Prop :=
  match gs with
  | .fresh c => r = .send .none ∧ SegT M A R Y n g c (M.den c) [] s
  | .suspended k _ c _ fs _ => SegT M A R Y n g c (k r) fs s
  | _ => False
theorem wpAny_resumeT {τ : Type} {M : Model} {A : Around} {R : GEndT τ} {Y : ProtT τ} {n : Nat} {t : τ} {E : Value → Shared → Prop} {s : Shared} {g : Nat} {gs : GenState}
    {r : Resume} {l : List Value} {α : Type} {k : GenResult → Sem α} {Q : α → Shared → Prop} (hg : s.gens[g]? = some gs)
    (hgo : GoesT M A R Y n gs t r (s.setGen g .running))
    (hR : ∀ x s₁, R n t x s₁ → wpAny M A (k (End.ret x).result) Q E (s₁.setGen g .finished))
    (hY : ∀ v s₁ gs', gs'.bare = true → Y (n - 1) t v s₁ (fun t' r' s'' => match n with | 0 => False | m + 1 => GoesT M A R Y m gs' t' r' s'') →
      wpAny M A (k (.yielded v)) Q E (s₁.setGen g gs')) :
    wpAny M A (.resume g r l k) Q E s := by
  intro Γ p hΓ
  rw [Sem.wp_resume]
  have hB : ∀ c, (Γ.wake c p).Woken A := fun c => hΓ.wake c p
  have fin : ∀ e₁ s₁, SegEndT R Y n (SegT.next M A R Y n) t e₁ s₁ →
      Sem.wp M Γ (k e₁.result) (fun a _ s' => Q a s') (fun e _ s' => E e s') p (s₁.setGen g e₁.genState) := by
    intro e₁ s₁ he
    cases e₁ with
    | ret x => exact hR x s₁ he Γ p hΓ
    | susp v g₀ l₀ k₀ c₀ p₀ fs₀ =>
      refine hY v s₁ _ (End.bare_of_quiet he.1) ?_ Γ p hΓ
      cases n with
      | zero => exact he.2
      | succ m => exact he.2
  have hqt : ∀ e₁ s₁, SegEndT R Y n (SegT.next M A R Y n) t e₁ s₁ → e₁.quiet = true := by
    intro e₁ s₁ he
    cases e₁ with
    | ret x => rfl
    | susp v g₀ l₀ k₀ c₀ p₀ fs₀ => exact he.1
  cases gs with
  | fresh c =>
    obtain ⟨rfl, hs⟩ := hgo
    obtain ⟨e₁, s₁, hr, he⟩ := segT_iff.mp hs (Γ.wake c p) p rfl (hB c)
    exact ⟨_, _, by unfold Wakes; rw [hg]; exact ⟨e₁, s₁, hr, hqt e₁ s₁ he, rfl, rfl⟩, fin e₁ s₁ he⟩
  | suspended k₀ l₀ c₀ p₀ fs₀ cl =>
    obtain ⟨e₁, s₁, hr, he⟩ := segT_iff.mp hgo (Γ.wake c₀ p) p₀ rfl (hB c₀)
    exact ⟨_, _, by unfold Wakes; rw [hg]; exact ⟨e₁, s₁, hr, hqt e₁ s₁ he, rfl, rfl⟩, fin e₁ s₁ he⟩
  | running => exact hgo.elim
  | finished => exact hgo.elim

section
variable {P : Program} {w : World} {A : Around} {E : Value → Shared → Prop} {s : Shared}
/-- next(g), no exception leaves the generator -/
theorem next_genT {τ : Type} {a : Addr} {g n : Nat} {gs : GenState} {R : GEndT τ} {Y : ProtT τ} {t : τ} {Q : Option Value → Shared → Prop} (hh : A.handled = none)
    (hl : s.heap.NoLimit) (hroom : A.depth < recursionLimit) (hg : s.heap.IsGen a g) (hgs : s.gens[g]? = some gs)
    (hgo : GoesT (model P w) A.in1 R Y n gs t (.send .none) (s.setGen g .running))
    (hR : ∀ r s₁, R n t r s₁ → (r = .ok (.ret .none) ∨ r = .ok .next))
    (hY : ∀ v s₁ gs', gs'.bare = true → Y (n - 1) t v s₁ (fun t' r' s'' => match n with
        | 0 => False
        | m + 1 => GoesT (model P w) A.in1 R Y m gs' t' r' s'') → Q (some v) (s₁.setGen g gs'))
    (hP : ∀ r s₁, R n t r s₁ → ∀ h', (∀ b o, s₁.heap.get? b = some o → h'.get? b = some o) → Q none { s₁.setGen g .finished with heap := h' }) :
    wpAny (model P w) A (pyNext (.ref a)) Q E s := by
  unfold pyNext
  refine wpAny_bind (wpAny_attempt (wpAny_callSpecial?_slot (name := Str.ofString "__next__") hg.typeIs slot_gen_next
    (wpAny_call_entry slot_gen_next hg.typeIs entry_gen_next ?_ (args_gen_next _))))
  show wpAny _ A.in1 (Builtin.Generator.genWake (.ref a) (.send .none)) _ _ s
  unfold Builtin.Generator.genWake
  refine wpAny_bind (wpAny_holding (wpAny_genNumber hg (wpAny_bind (wpAny_genState hgs ?_))))
  cases gs with
  | running => exact hgo.elim
  | finished => exact hgo.elim
  | _ =>
    refine wpAny_bind (wpAny_roomToWake hl hroom ?_)
    show wpAny _ A.in1 (.resume g (.send .none) [] _) _ _ s
    refine wpAny_resumeT hgs hgo (fun x s₁ hx => ?_) (fun v s₁ gs' hb hv => ?_)
    · have hres : End.result (.ret x) = .returned .none := by
        rcases hR x s₁ hx with hr | hr <;> rw [hr] <;> rfl
      first | rw [hres] | simp only [hres]
      show wpAny _ A.in1 (newExc (.type "StopIteration") [] >>= _) _ _ _
      refine wpAny_bind ?_
      simp only [newExc, newTuple]
      refine wpAny_bind (wpAny_newObj_type ?_ (by size_fits))
      refine wpAny_bind (m := firstArgMember _ _) (wpAny_of_eq (a := Value.none) (by first | rfl | (simp only [firstArgMember]; rfl)) ?_)
      refine wpAny_newObj_type ?_ (by size_fits)
      simp only [raiseNew]
      refine wpAny_bind (wpAny_bind (wpAny_handled ?_))
      first | rw [show A.in1.handled = none from hh] | rw [hh]
      refine wpAny_throw ?_
      refine wpAny_bind (wpAny_isInstance (T := "StopIteration") (b := true) ⟨_, Heap.get?_push_size _ rfl, rfl⟩ isSubtype_stop ?_)
      exact wpAny_pure (hP x s₁ hx _ fun b o hb => Heap.get?_push_of_some _ (Heap.get?_push_of_some _ hb))
    · exact wpAny_pure ⟨v, rfl, wpAny_pure (hY v s₁ gs' hb hv)⟩
end
end GF
end
section /- GF3 -/
set_option Elab.async false
set_option linter.all false
set_option maxRecDepth 100000
set_option maxHeartbeats 1000000
/-! A generator's body, its contexts (one for each waking), its statements. -/
namespace GF
open PySem PySem.Spec GenW L2
open PyProof.Rows hiding St

/-- all that stays the same of a generator's frame -/
structure GX where
  prog : Program
  w : World
  K : PySem.W.Frag
  mg : Str → Option Value
  base : Heap
  A : Around
  N : List Str
  env : Env
  outer : List Env
  pn : List (Addr × Obj)
/-- a waking: the state (cut at the frame) and the abstract heap -/
abbrev Tag := Shared × Hp
/-- the context of a segment -/
def GX.at (g : GX) (t : Tag) : Cx where
  prog := g.prog
  w := g.w
  K := g.K
  mg := g.mg
  base := g.base
  A := g.A
  N := g.N
  s_0 := t.1
  H_0 := t.2
  env := g.env
  outer := g.outer
  stack := g.env :: g.outer
  ex := []
  calm := true
  fn := fun _ => true
  pn := g.pn
  xe := fun _ _ => False

/-- the heap below an address -/
def cut (L : Nat) (h : Heap) : Heap := { h with objs := h.objs.extract 0 L }
theorem arr_cut {α : Type} (xs : Array α) (L b : Nat) (hb : b < L) : (xs.extract 0 L)[b]? = xs[b]? := by
  by_cases q : b < xs.size
  · have h1 : b < (xs.extract 0 L).size := by simp only [Array.size_extract]; omega
    rw [Array.getElem?_eq_getElem h1, Array.getElem?_eq_getElem q, Array.getElem_extract]
    simp
  · have h1 : (xs.extract 0 L).size ≤ b := by simp only [Array.size_extract]; omega
    rw [Array.getElem?_eq_none h1, Array.getElem?_eq_none (by omega)]
theorem arr_cut_size {α : Type} (xs : Array α) (L : Nat) (hl : L ≤ xs.size) : (xs.extract 0 L).size = L := by
  simp only [Array.size_extract]; omega
theorem arr_cut_lt {α : Type} (xs : Array α) (L : Nat) : (xs.extract 0 L).size ≤ L := by
  simp only [Array.size_extract]; omega
theorem cut_get {L : Nat} {h : Heap} {b : Addr} (hb : b < L) : (cut L h).get? b = h.get? b := by
  have e : (h.objs.extract 0 L)[b]? = h.objs[b]? := arr_cut h.objs L b hb
  unfold Heap.get? cut
  simp only [e]
theorem cut_size {L : Nat} {h : Heap} (hl : L ≤ h.objs.size) : (cut L h).objs.size = L := arr_cut_size h.objs L hl
theorem cut_of {L : Nat} {h : Heap} {b : Addr} {o : Obj} (e : (cut L h).get? b = some o) : b < L ∧ h.get? b = some o := by
  have hb : b < L := by
    have q := Heap.lt_size e
    exact Nat.lt_of_lt_of_le q (arr_cut_lt h.objs L)
  exact ⟨hb, (cut_get hb).symm.trans e⟩
/-- the tag of a waking at s with H -/
def GX.root (g : GX) (H : Hp) (s : Shared) : Tag := ({ s with heap := cut g.env.locals s.heap }, H)

/-- the generator's own part of the state is as at the yield; the abstract heap may be another one -/
structure Wk (g : GX) (H : Hp) (s : Shared) (H' : Hp) (s' : Shared) : Prop where
  os : s'.os = s.os
  bare : AllBare s'.gens
  keep : ∀ b o, g.env.locals ≤ b → H b = none → s.heap.get? b = some o → s'.heap.get? b = some o ∧ H' b = none
  hok : HOk g.prog g.w H' s'.heap
  bs : ∀ b o, g.base.get? b = some o → s'.heap.get? b = some o ∧ H' b = none
  funs : s'.heap.FunFrames g.base g.outer
  frf : ∀ b ∈ frs g.outer, H' b = none

theorem funs_cut {h : Heap} {base : Heap} {L : Nat} : ∀ {l : List Env}, h.FunFrames base l → (∀ b ∈ frs l, b < L) → (cut L h).FunFrames base l
  | [], _, _ => trivial
  | env :: r, ⟨hk, ⟨b, o, hf, hn, ho, hd⟩, hr⟩, hl => by
    have hb : b ∈ frs (env :: r) := by unfold frs; rw [List.filterMap_cons, hf]; exact List.mem_cons_self
    refine ⟨hk, ⟨b, o, hf, hn, (cut_get (hl b hb)).trans ho, hd⟩, funs_cut hr fun c hc => hl c ?_⟩
    unfold frs at hc ⊢
    rw [List.filterMap_cons, hf]
    exact List.mem_cons_of_mem _ hc

/-- running in a segment: nothing of the generator's own stands below its frame -/
structure GI (g : GX) (t : Tag) (ip : List (Addr × Obj)) (σ : St) (H : Hp) (s : Shared) : Prop where
  inv : Inv (g.at t) ip σ H s
  sz : t.1.heap.objs.size = g.env.locals
  above : ∀ p ∈ g.pn ++ ip, g.env.locals ≤ p.1

theorem GI.woken {g : GX} {t : Tag} {ip : List (Addr × Obj)} {σ : St} {H H' : Hp} {s s' : Shared} (h : GI g t ip σ H s) (w : Wk g H s H' s') : GI g (g.root H' s') ip σ H' s' := by
  obtain ⟨I, sz, ab⟩ := h
  have hL' : g.env.locals ≤ s'.heap.objs.size := by
    obtain ⟨m, ⟨o, es, ep, ho, r⟩, _⟩ := I.loc
    exact Nat.le_of_lt (Heap.lt_size (w.keep _ o (Nat.le_refl _) I.free ho).1)
  have szr : (g.root H' s').1.heap.objs.size = g.env.locals := cut_size hL'
  have bl : ∀ b o, g.base.get? b = some o → b < g.env.locals := fun b o e => by
    have q := I.ok.bsz
    have q2 := Heap.lt_size e
    have q3 : (g.at t).s_0.heap.objs.size = g.env.locals := sz
    rw [q3] at q
    exact Nat.lt_of_lt_of_le q2 q
  have okr : (g.at (g.root H' s')).Ok := by
    refine ⟨I.ok.mod, I.ok.kind, I.ok.glob, I.ok.blt, ?_, I.ok.inj, I.ok.has, fun x c hx hc => ?_, I.ok.hd, I.ok.frames, .inr ⟨rfl, ?_⟩, fun b z => absurd z (by simp [GX.at]), fun b o e => ?_, ?_, fun b o e => by simp [GX.at], fun b z => absurd z (by simp [GX.at]), ?_, w.frf⟩
    · show (g.root H' s').1.heap.objs.size ≤ g.env.locals
      rw [szr]; exact Nat.le_refl _
    · have q : (g.at t).s_0.heap.objs.size ≤ c := I.ok.cab x c hx hc
      have q3 : (g.at t).s_0.heap.objs.size = g.env.locals := sz
      show (g.root H' s').1.heap.objs.size ≤ c
      rw [szr, ← q3]; exact q
    · rcases I.ok.stk with e | ⟨_, e⟩
      · have e2 : g.env :: g.outer = g.outer := e
        exact absurd (congrArg List.length e2) (by simp)
      · exact e
    · obtain ⟨e1, e2⟩ := w.bs b o e
      exact ⟨(cut_get (bl b o e)).trans e1, e2⟩
    · show g.base.objs.size ≤ (g.root H' s').1.heap.objs.size
      rw [szr, ← sz]; exact I.ok.bsz
    · refine funs_cut w.funs fun b hb => ?_
      obtain ⟨_, o, ho, _⟩ := I.ok.funs.mem hb
      have q3 : (g.at t).s_0.heap.objs.size = g.env.locals := sz
      rw [← q3]
      exact Heap.lt_size ho
  refine ⟨⟨okr, rfl, w.bare, Un.kept fun b o e => (cut_of e).2, ?_, fun x c e => ?_, ?_, fun x c e => ?_, fun p hp => ?_, w.hok, I.len⟩, szr, ab⟩
  · obtain ⟨m, hn, hl⟩ := I.loc
    obtain ⟨o, es, ep, ho, r⟩ := hn
    refine ⟨m, ⟨o, es, ep, (w.keep _ o (Nat.le_refl _) I.free ho).1, r⟩, fun i x v e1 e2 e3 => ?_⟩
    obtain ⟨u, ru, l⟩ := hl i x v e1 e2 e3
    refine ⟨u, ru, ?_⟩
    rcases l with l | ⟨k, c, e, ⟨oc, hoc, hd⟩⟩
    · exact .inl l
    · have hc : g.env.locals ≤ c := by
        have q : (g.at t).s_0.heap.objs.size ≤ c := I.ok.cab x c rfl e
        have q3 : (g.at t).s_0.heap.objs.size = g.env.locals := sz
        rw [← q3]; exact q
      exact .inr ⟨k, c, e, oc, (w.keep c oc hc (I.freeC x c e) hoc).1, hd⟩
  · obtain ⟨v, oc, hoc, hd⟩ := I.cell x c e
    have hc : g.env.locals ≤ c := by
      have q : (g.at t).s_0.heap.objs.size ≤ c := I.ok.cab x c rfl e
      have q3 : (g.at t).s_0.heap.objs.size = g.env.locals := sz
      rw [← q3]; exact q
    exact ⟨v, oc, (w.keep c oc hc (I.freeC x c e) hoc).1, hd⟩
  · obtain ⟨m, ⟨o, es, ep, ho, r⟩, _⟩ := I.loc
    exact (w.keep _ o (Nat.le_refl _) I.free ho).2
  · obtain ⟨v, oc, hoc, hd⟩ := I.cell x c e
    have hc : g.env.locals ≤ c := by
      have q : (g.at t).s_0.heap.objs.size ≤ c := I.ok.cab x c rfl e
      have q3 : (g.at t).s_0.heap.objs.size = g.env.locals := sz
      rw [← q3]; exact q
    exact (w.keep c oc hc (I.freeC x c e) hoc).2
  · obtain ⟨e, n, ne, nf, d⟩ := I.pin p hp
    obtain ⟨e', n'⟩ := w.keep p.1 p.2 (ab p hp) n e
    exact ⟨e', n', ne, nf, d⟩

/-! ### the protocol: N items, the i-th one is told by IT; the consumer may change what U says -/
/-- all that H holds but U -/
def ExU (U : Addr → Prop) (H H' : Hp) : Prop := ∀ b o, H b = some o → (¬ U b → H' b = some o) ∧ H' b ≠ none
def YG (g : GX) (U : Addr → Prop) (N : Nat) (IT : Nat → V → Hp → Prop) : ProtT Tag := fun n t v s kap =>
  ∃ i x ip σ H, n + 1 + i = N ∧ RelV x v ∧ GI g t ip σ H s ∧ Evl.Ex t.2 H ∧ IT i x H ∧ ∀ H' s', Wk g H s H' s' → ExU U H H' → kap (g.root H' s') (.send .none) s'
def RG (g : GX) : GEndT Tag := fun n t r s => n = 0 ∧ r = .ok (.ret .none) ∧ ∃ ip σ H, GI g t ip σ H s ∧ Evl.Ex t.2 H
/-- what is wanted behind a statement: how many are out, the heap at the waking -/
structure GE where
  nx : Nat → Hp → St → Hp → Prop
  bk : Nat → Hp → St → Hp → Prop := fun _ _ _ _ => False
  ct : Nat → Hp → St → Hp → Prop := fun _ _ _ _ => False
abbrev TGn := GE → Nat → Hp → St → Hp → Prop
def GE.at (D : GE) (i : Nat) (Hb : Hp) : Ends := { nx := D.nx i Hb, rt := fun _ _ => False, bk := D.bk i Hb, ct := D.ct i Hb }
def GSP (g : GX) (t : Tag) (ip : List (Addr × Obj)) (D : GE) (i : Nat) (f : Flow) (s : Shared) : Prop :=
  match f with
  | .next => ∃ σ H, GI g t ip σ H s ∧ D.nx i t.2 σ H
  | .brk => ∃ σ H, GI g t ip σ H s ∧ D.bk i t.2 σ H
  | .cont => ∃ σ H, GI g t ip σ H s ∧ D.ct i t.2 σ H
  | .ret _ => False
structure GC (g : GX) (A : Around) (c : Code) (fs : List Frame) (gd : Bool → Bool) : Prop where
  over : A.over c fs = g.A
  split : splitAtGen fs = none
  guard : fs.any Frame.guarded = false
  gd : gd false = false
abbrev SG (g : GX) (U : Addr → Prop) (N : Nat) (IT : Nat → V → Hp → Prop) (A : Around) := SegT (model g.prog g.w) A (RG g) (YG g U N IT)
/-- what follows -/
def GK (g : GX) (U : Addr → Prop) (N : Nat) (IT : Nat → V → Hp → Prop) (ip : List (Addr × Obj)) (A : Around) (c : Code) (fs : List Frame) (K : Flow → Sem PySem.Fin) (D : GE) : Prop :=
  ∀ (n i : Nat) (t : Tag) (s : Shared) (f : Flow), n + i = N → GSP g t ip D i f s → SG g U N IT A n t c (K f) fs s
structure GS (g : GX) (U : Addr → Prop) (N : Nat) (IT : Nat → V → Hp → Prop) (st : Stmt) (t : TGn) : Prop where
  run : ∀ (A : Around) (ip : List (Addr × Obj)) (n i : Nat) (tg : Tag) (c : Code) (fs : List Frame) (K : Flow → Sem PySem.Fin) (J : Value → Sem PySem.Fin) (gd : Bool → Bool) (lv : List Value → List Value) (s : Shared) (σ : St) (H : Hp) (D : GE),
    GC g A c fs gd → n + i = N → GK g U N IT ip A c fs K D → GI g tg ip σ H s → t D i tg.2 σ H → SG g U N IT A n tg c ((exec st g.env).wrap K J gd lv) fs s
structure GSs (g : GX) (U : Addr → Prop) (N : Nat) (IT : Nat → V → Hp → Prop) (st : List Stmt) (t : TGn) : Prop where
  run : ∀ (A : Around) (ip : List (Addr × Obj)) (n i : Nat) (tg : Tag) (c : Code) (fs : List Frame) (K : Flow → Sem PySem.Fin) (J : Value → Sem PySem.Fin) (gd : Bool → Bool) (lv : List Value → List Value) (s : Shared) (σ : St) (H : Hp) (D : GE),
    GC g A c fs gd → n + i = N → GK g U N IT ip A c fs K D → GI g tg ip σ H s → t D i tg.2 σ H → SG g U N IT A n tg c ((execs st g.env).wrap K J gd lv) fs s

section
variable {g : GX} {U : Addr → Prop} {N : Nat} {IT : Nat → V → Hp → Prop} {st : Stmt} {rest : List Stmt}
theorem sp_gsp {t : Tag} {ip : List (Addr × Obj)} {s : Shared} {D : GE} {i : Nat} {f : Flow} (sz : t.1.heap.objs.size = g.env.locals) (ab : ∀ p ∈ g.pn ++ ip, g.env.locals ≤ p.1) (h : SP (g.at t) ip (D.at i t.2) f s) : GSP g t ip D i f s := by
  cases f with
  | next => obtain ⟨σ, H, I, q⟩ := h; exact ⟨σ, H, ⟨I, sz, ab⟩, q⟩
  | brk => obtain ⟨σ, H, I, q⟩ := h; exact ⟨σ, H, ⟨I, sz, ab⟩, q⟩
  | cont => obtain ⟨σ, H, I, q⟩ := h; exact ⟨σ, H, ⟨I, sz, ab⟩, q⟩
  | ret u => obtain ⟨v, σ, H, I, r1, q⟩ := h; exact q
/-- a statement that hands out nothing -/
def tPlain (t : TS) : TGn := fun D i Hb σ H => t (D.at i Hb) σ H
theorem gs_ps {t : TS} (h : ∀ tg, PS (g.at tg) st t) : GS g U N IT st (tPlain t) := by
  refine ⟨fun A ip n i tg c fs K J gd lv s σ H D gc hn k hI ht => ?_⟩
  refine segT_wrap ?_
  rw [gc.over]
  exact wpAny_mono ((h tg).run _ s σ H (D.at i tg.2) hI.inv ht) (fun f s' hs => k n i tg s' f hn (sp_gsp hI.sz hI.above hs)) fun x s' hx => hx.elim
theorem gss_pss {t : TS} (h : ∀ tg, PSs (g.at tg) rest t) : GSs g U N IT rest (tPlain t) := by
  refine ⟨fun A ip n i tg c fs K J gd lv s σ H D gc hn k hI ht => ?_⟩
  refine segT_wrap ?_
  rw [gc.over]
  exact wpAny_mono ((h tg).run _ s σ H (D.at i tg.2) hI.inv ht) (fun f s' hs => k n i tg s' f hn (sp_gsp hI.sz hI.above hs)) fun x s' hx => hx.elim
def tG0 : TGn := fun D i Hb σ H => D.nx i Hb σ H
theorem gss_nil : GSs g U N IT [] tG0 := by
  refine ⟨fun A ip n i tg c fs K J gd lv s σ H D gc hn k hI ht => ?_⟩
  exact segT_nil (k n i tg s .next hn ⟨σ, H, hI, ht⟩)
def tGThen (t u : TGn) : TGn := fun D i Hb σ H => t { D with nx := fun i' Hb' σ' H' => u D i' Hb' σ' H' } i Hb σ H
theorem gss_cons {t u : TGn} (a : GS g U N IT st t) (b : GSs g U N IT rest u) : GSs g U N IT (st :: rest) (tGThen t u) := by
  refine ⟨fun A ip n i tg c fs K J gd lv s σ H D gc hn k hI ht => ?_⟩
  refine segT_cons ?_
  refine a.run A ip n i tg c fs _ J gd lv s σ H { D with nx := fun i' Hb' σ' H' => u D i' Hb' σ' H' } gc hn (fun n' i' tg' s' f hn' hs => ?_) hI ht
  cases f with
  | next =>
    obtain ⟨σ', H', I', q⟩ := hs
    exact b.run A ip n' i' tg' c fs K J gd lv s' σ' H' D gc hn' k I' q
  | brk => exact k n' i' tg' s' .brk hn' hs
  | cont => exact k n' i' tg' s' .cont hn' hs
  | ret u => exact hs.elim
theorem gss_one {t : TGn} (a : GS g U N IT st t) : GSs g U N IT [st] (tGThen t tG0) := gss_cons a gss_nil
/-- yield e -/
def tGYield (U : Addr → Prop) (N : Nat) (IT : Nat → V → Hp → Prop) (te : TE) : TGn := fun D i Hb σ H => i < N ∧ te σ H fun x H1 => Evl.Ex Hb H1 ∧ IT i x H1 ∧ ∀ H2, ExU U H1 H2 → D.nx (i + 1) H2 σ H2
theorem gs_yield {e : Expr} {te : TE} {yp pos : Pos} (he : ∀ tg, PE (g.at tg) e te) (hco : g.env.scope.isCoroutine = false := by rfl) (hi : interactive g.env = false := by rfl) : GS g U N IT (.Expr (.Yield (some e) yp) pos) (tGYield U N IT te) := by
  refine ⟨fun A ip n i tg c fs K J gd lv s σ H D gc hn k hI ht => ?_⟩
  obtain ⟨hlt, ht⟩ := ht
  obtain ⟨n, rfl⟩ : ∃ m, n = m + 1 := ⟨n - 1, by omega⟩
  refine segT_Expr_Yield gc.split gc.gd gc.guard ?_ hco hi
  rw [gc.over]
  refine wpAny_mono ((he tg).run _ s σ H _ hI.inv ht) (fun v s' hv => ?_) fun x s' hx => hx.elim
  obtain ⟨x, H1, I1, rv, q1, q2, q3⟩ := hv
  have G1 : GI g tg ip σ H1 s' := ⟨I1, hI.sz, hI.above⟩
  intro kap hk
  refine ⟨i, x, ip, σ, H1, hn, rv, G1, q1, q2, fun H' s'' z zu => hk _ .none s'' ?_⟩
  exact k n (i + 1) (g.root H' s'') s'' .next (by omega) ⟨σ, H', G1.woken z, q3 H' zu⟩
/-- if -/
def tGIf (tc : TT) (t u : TGn) : TGn := fun D i Hb σ H => tc σ H fun b H1 => if b = true then t D i Hb σ H1 else u D i Hb σ H1
theorem gs_if {test : Expr} {a b : List Stmt} {pos : Pos} {tc : TT} {t u : TGn} (hc : ∀ tg, PT (g.at tg) test tc) (ha : GSs g U N IT a t) (hb : GSs g U N IT b u) : GS g U N IT (.If test a b pos) (tGIf tc t u) := by
  refine ⟨fun A ip n i tg c fs K J gd lv s σ H D gc hn k hI ht => ?_⟩
  refine segT_If ?_
  rw [gc.over]
  refine wpAny_mono ((hc tg).run _ s σ H _ hI.inv ht) (fun d s' hd => ?_) fun x s' hx => hx.elim
  obtain ⟨H1, I1, q⟩ := hd
  have G1 : GI g tg ip σ H1 s' := ⟨I1, hI.sz, hI.above⟩
  cases d with
  | true =>
    rw [if_pos rfl] at q ⊢
    exact ha.run A ip n i tg c fs K J gd lv s' σ H1 D gc hn k G1 q
  | false =>
    rw [if_neg Bool.false_ne_true] at q ⊢
    exact hb.run A ip n i tg c fs K J gd lv s' σ H1 D gc hn k G1 q
/-- for -/
def tGFor (wi : TI) (gt : TG) (tb : TGn) : TGn := fun D i Hb σ H => wi σ H fun J H1 => ∃ W : Nat → Nat → Nat → Hp → St → Hp → Prop, (∃ m, W 0 m i Hb σ H1) ∧ ∀ j m i Hb σ H, W j m i Hb σ H →
  (J.stop j H ∧ D.nx i Hb σ H) ∨ (J.go j H ∧ ∃ Nx : Nat → Hp → St → Hp → Prop, (∀ i' Hb' σ' H', Nx i' Hb' σ' H' → ∃ m', m' < m ∧ W (j + 1) m' i' Hb' σ' H') ∧
    ∀ x H', J.yld j H x H' → gt x σ H' fun σ2 H2 => tb { nx := Nx, ct := Nx, bk := D.nx } i Hb σ2 H2)
theorem gc_loop {A : Around} {c c' : Code} {fs : List Frame} {gd : Bool → Bool} {k : Result → Sem PySem.Fin} {l kp : List Value} {p : Pos} (gc : GC g A c fs gd) (hw : c'.weight = 0) (hu : c'.cUnits = 0) :
    GC g A c' (.ret k none (gd false) l c p kp :: fs) id where
  over := (over_loop hw hu).trans gc.over
  split := by
    show (splitAtGen fs).map _ = none
    rw [gc.split]; rfl
  guard := by
    show (gd false || fs.any Frame.guarded) = false
    rw [gc.gd, gc.guard]; rfl
  gd := rfl
theorem gs_for {tg iter : Expr} {body : List Stmt} {pos : Pos} {wi : TI} {gt : TG} {tb : TGn} (hi : ∀ t, PI (g.at t) tg iter wi) (hg : ∀ t, PG (g.at t) tg gt) (hb : GSs g U N IT body tb)
    (hs : ∀ x, foldedSetIterable iter g.env x = pure x := by intro _; rfl) : GS g U N IT (.For tg iter body [] pos) (tGFor wi gt tb) := by
  refine ⟨fun A ip n i t c fs K J gd lv s σ H D gc hn k hI ht => ?_⟩
  refine segT_For hs ?_
  rw [gc.over]
  refine wpAny_mono ((hi t).run ip s σ H _ hI.inv ht) (fun v s1 h1 => wpAny_mono h1 (fun itv s2 h2 => ?_) fun _ _ z => z.elim) fun _ _ z => z.elim
  obtain ⟨it, fp, tn, Jt, H2, e, I2, T, st2, f2, W, ⟨m0, w0⟩, turn⟩ := h2
  subst e
  intro p
  have gl := fun (kk : Result → Sem PySem.Fin) => gc_loop (k := kk) (c' := .forLoop tg (.ref it) body [] g.env) (l := lv []) (kp := []) (p := p) gc rfl rfl
  -- what stays true of the iterator's objects
  have lo : ∀ b ∈ fp, g.env.locals ≤ b := fun b hb => by
    obtain ⟨_, _, _, q, _⟩ := f2 b hb
    rcases q with q | q
    · exact absurd q (by simp [GX.at])
    · have q3 : (g.at t).s_0.heap.objs.size = g.env.locals := hI.sz
      rw [← q3]; exact q
  have stat : ∀ {t' : Tag} {H' : Hp}, t'.1.heap.objs.size = g.env.locals → (∀ b ∈ fp, H' b = none) → ∀ b ∈ fp, FpOk (g.at t') ip H' b := fun {t' H'} sz' hn' b hb => by
    obtain ⟨_, a2, a3, _, a5, a6⟩ := f2 b hb
    refine ⟨hn' b hb, a2, a3, .inr ?_, a5, a6⟩
    show t'.1.heap.objs.size ≤ b
    rw [sz']; exact lo b hb
  have loop : ∀ (m j n i : Nat) (t : Tag) (s : Shared) (σ : St) (H : Hp), n + i = N → W j m i t.2 σ H → GI g t ip σ H s → tn j s.heap → (∀ b ∈ fp, H b = none) →
      SG g U N IT A n t (.forLoop tg (.ref it) body [] g.env) ((model g.prog g.w).den (.forLoop tg (.ref it) body [] g.env))
        (.ret (fun r => ((match r with | .ok f => (.pure f : Sem Flow) | .error e => .raise e).onRaise fun (x : Value) => do
        if (← field x 1) == Value.none then unsupported "frame.own-activation:exception-without-traceback"
        setFlight x g.env.frame).wrap K J gd lv) none (gd false) (lv []) c p [] :: fs) s := by
    intro m
    induction m using Nat.strongRecOn with
    | ind m ih =>
      intro j n i t s σ H hn w hI st fr
      refine segT_forLoop ?_
      rw [(gl _).over]
      rcases turn j m i t.2 σ H w with ⟨stop, qn⟩ | ⟨go, Nx, hN, step⟩
      · refine wpAny_mono (T.done (g.at t) rfl rfl rfl rfl j ip s σ H (fun _ _ => False) hI.inv (stat hI.sz fr) st stop) (fun r s4 hr => ?_) fun _ _ z => z.elim
        obtain ⟨hr, I4⟩ := hr
        subst hr
        exact segT_leaf (.ok .next) (k n i t s4 .next hn ⟨σ, H, ⟨I4, hI.sz, hI.above⟩, qn⟩)
      · refine wpAny_mono (T.item (g.at t) rfl rfl rfl rfl j ip s σ H (fun _ _ => False) hI.inv (stat hI.sz fr) st go) (fun r s4 hr => ?_) fun _ _ z => z.elim
        obtain ⟨u, hr, h4⟩ := hr
        subst hr
        refine wpAny_mono h4 (fun _ s5 h5 => ?_) fun _ _ z => z.elim
        obtain ⟨x, H5, I5, r5, y5, st5, fr5⟩ := h5
        have I5' := I5.pinned (stat hI.sz fr5) (T.obj _ _ st5)
        refine wpAny_mono ((hg t).run _ s5 σ H5 x u _ I5' r5 (step x H5 y5)) (fun _ s6 h6 => ?_) fun _ _ z => z.elim
        obtain ⟨σ6, H6, I6, q6⟩ := h6
        have ab6 : ∀ p ∈ g.pn ++ (ip ++ pinsAt fp s5.heap), g.env.locals ≤ p.1 := fun p hp => by
          rcases List.mem_append.mp hp with hp | hp
          · exact hI.above p (List.mem_append_left _ hp)
          · rcases List.mem_append.mp hp with hp | hp
            · exact hI.above p (List.mem_append_right _ hp)
            · exact lo _ (of_pinsAt hp).1
        refine hb.run A (ip ++ pinsAt fp s5.heap) n i t _ _ _ _ id id s6 σ6 H6 { nx := Nx, ct := Nx, bk := D.nx } (gl _) hn (fun n' i' t' s7 f hn' hs => ?_) ⟨I6, hI.sz, ab6⟩ q6
        have again : ∀ {σ7 : St} {H7 : Hp}, GI g t' (ip ++ pinsAt fp s5.heap) σ7 H7 s7 → Nx i' t'.2 σ7 H7 → SG g U N IT A n' t' (.forLoop tg (.ref it) body [] g.env) (.pure (.again (.forLoop tg (.ref it) body [] g.env)))
          (.ret (fun r => ((match r with | .ok f => (.pure f : Sem Flow) | .error e => .raise e).onRaise fun (x : Value) => do
        if (← field x 1) == Value.none then unsupported "frame.own-activation:exception-without-traceback"
        setFlight x g.env.frame).wrap K J gd lv) none (gd false) (lv []) c p [] :: fs) s7 := fun {σ7 H7} I7 n7 => by
          obtain ⟨m', hm, w7⟩ := hN i' t'.2 σ7 H7 n7
          have pk : ∀ b ∈ fp, ∀ o, s5.heap.get? b = some o → s7.heap.get? b = some o ∧ H7 b = none := fun b hb o e =>
            let q := I7.inv.pin (b, o) (List.mem_append_right _ (List.mem_append_right _ (mem_pinsAt hb e)))
            ⟨q.1, q.2.1⟩
          refine segT_again rfl (ih m' hm (j + 1) n' i' t' s7 σ7 H7 hn' w7 ⟨I7.inv.unpinned, I7.sz, fun p hp => ?_⟩ (T.keep _ _ _ st5 fun b hb o e => (pk b hb o e).1) fun b hb => ?_)
          · rcases List.mem_append.mp hp with hp | hp
            · exact hI.above p (List.mem_append_left _ hp)
            · exact hI.above p (List.mem_append_right _ hp)
          · obtain ⟨o, e, d⟩ := T.obj _ _ st5 b hb
            exact (pk b hb o e).2
        cases f with
        | next => obtain ⟨σ7, H7, I7, n7⟩ := hs; exact again I7 n7
        | cont => obtain ⟨σ7, H7, I7, n7⟩ := hs; exact again I7 n7
        | brk =>
          obtain ⟨σ7, H7, I7, q7⟩ := hs
          refine segT_leaf (.ok .next) (k n' i' t' s7 .next hn' ⟨σ7, H7, ⟨I7.inv.unpinned, I7.sz, fun p hp => ?_⟩, q7⟩)
          rcases List.mem_append.mp hp with hp | hp
          · exact hI.above p (List.mem_append_left _ hp)
          · exact hI.above p (List.mem_append_right _ hp)
        | ret v => exact hs.elim
  exact loop m0 0 n i t s2 σ H2 hn w0 ⟨I2, hI.sz, hI.above⟩ st2 fun b hb => (f2 b hb).1
end
end GF
end
section /- GF4 -/
set_option Elab.async false
set_option linter.all false
set_option maxRecDepth 100000
set_option maxHeartbeats 1000000
/-! A generator def's call, a for loop over it. The call after HandS.GenCall, there for a generator that a list takes up. -/
namespace GF
open PySem PySem.Spec GenW L2
open PyProof.Rows hiding St

/-- a generator def's promise: the arguments, the heap; U: what the consumer may change meanwhile; how many items, what the i-th one is -/
abbrev SpC := List V → Hp → (Addr → Prop) → Nat → (Nat → V → Hp → Prop) → Prop
def gxOf (P : Program) (w : World) (K : PySem.W.Frag) (mg : Str → Option Value) (base : Heap) (N : List Str) (qual : Str) (scope : Scope) (f : Addr) (cd : Value) (A : Around) (outer : List Env) (L : Addr) (pn : List (Addr × Obj)) : GX :=
  ⟨P, w, K, mg, base, A.deeper (envOfC qual scope L f cd), N, envOfC qual scope L f cd, outer, pn⟩
/-- what the call gives: a generator that has not begun -/
def GMadeC (P : Program) (w : World) (base : Heap) (k : Nat) (outer : List Env) (H : Hp) (s : Shared) (U : Addr → Prop) (N : Nat) (IT : Nat → V → Hp → Prop) (u : Value) (s' : Shared) : Prop :=
  ∃ (a : Addr) (g : Nat) (c : Code), u = .ref a ∧ s'.heap.IsGen a g ∧ s'.gens[g]? = some (.fresh c) ∧ s'.os = s.os ∧ AllBare s'.gens ∧ (∀ b o, s.heap.get? b = some o → s'.heap.get? b = some o) ∧ s.heap.objs.size ≤ a ∧
    ∀ A : Around, Room k A → A.frames = some outer → ∃ gx : GX, gx.env.locals = s.heap.objs.size ∧ gx.prog = P ∧ gx.w = w ∧ gx.base = base ∧ gx.outer = outer ∧ (∃ go, gx.pn = [(a, go)] ∧ s'.heap.get? a = some go ∧ ∀ h : Heap, h.get? a = some go → h.IsGen a g) ∧
      ∀ H2 s2, Wk gx H s' H2 s2 → ExU U H H2 → SegT (model P w) A (RG gx) (YG gx U N IT) N (gx.root H2 s2) c ((model P w).den c) [] s2
structure GFnC (P : Program) (w : World) (K : PySem.W.Frag) (mg : Str → Option Value) (base : Heap) (k : Nat) (f : Addr) (fd : FuncData) (ps : List Str) (sp : SpC) : Prop where
  len : ∀ vs H U N IT, sp vs H U N IT → vs.length = ps.length
  run : ∀ (A : Around) (outer : List Env) (s : Shared) (H : Hp) (args : Args) (us : List Value) (vs : List V) (U : Addr → Prop) (N : Nat) (IT : Nat → V → Hp → Prop), Room k A → Env0 P w K mg base A outer s H → BindsTo s fd args (ps.zip us) → Vals vs us → sp vs H U N IT →
    codeAny (model P w) A (.call (.ref f) args) (fun r s' => match r with | .ok (.ret u) => GMadeC P w base k outer H s U N IT u s' | _ => False) s

/-- THE RULE: a generator def, by its body -/
theorem gfnC_of {P : Program} {w : World} {K : PySem.W.Frag} {mg : Str → Option Value} {base : Heap} {k : Nat} {f : Addr} {name qual : Str} {params : Arguments} {body : List Stmt} {scope : Scope} {dV kV doc pm cdv ct oc : Value} {an od : Option Addr}
    {osl : Array (Option Value)} {NN ps : List Str} {sp : SpC} (lk : K.lookup f = some ⟨oc, od, .func (PySem.W.fnOf name qual params body scope dV kV doc pm an cdv ct), osl⟩) (hcd : PySem.W.codeIn K cdv qual = true) (S : GScope NN ps scope)
    (len : ∀ vs H U N IT, sp vs H U N IT → vs.length = ps.length)
    (hbody : ∀ (A : Around) (outer : List Env) (L : Addr) (H : Hp) (vs : List V) (U : Addr → Prop) (N : Nat) (IT : Nat → V → Hp → Prop) (pn : List (Addr × Obj)), Room k (A.deeper (envOfC qual scope L f cdv)) → sp vs H U N IT →
      ∃ t, GSs (gxOf P w K mg base NN qual scope f cdv A outer L pn) U N IT body t ∧ ∀ H2, ExU U H H2 → t { nx := fun i Hb _ H' => i = N ∧ Evl.Ex Hb H' } 0 H2 (start NN vs) H2) :
    GFnC P w K mg base (k + 1) f (PySem.W.fnOf name qual params body scope dV kV doc pm an cdv ct) ps sp := by
  refine ⟨len, fun A outer s H args us vs U N IT hr e0 hb r hsp => ?_⟩
  have hl := len _ _ _ _ _ hsp
  have KX : K.In s.heap := e0.mod.kin.keeps fun b o e => (e0.bs b o e).1
  have lim : s.heap.NoLimit := e0.mod.nolimit.keeps fun b o e => (e0.bs b o e).1
  have hkind : ∀ y ∈ ps.zip us, scope.names.lookup y.1 = some .local ∨ (scope.names.lookup y.1 = some .cell ∧ ((cellsFrom (s.heap.objs.size + 1) scope.names []).lookup y.1).isSome = true) := fun ⟨n, v⟩ hy => by
    rcases S.par n (List.of_mem_zip hy).1 with q | q
    · exact .inl q
    · exact .inr ⟨q, PySem.W.cellsFrom_some _ _ _ (.inl q)⟩
  refine codeAny_call_generator hr.depth (KX _ _ lk) rfl S.co S.gen rfl (PySem.W.codeRec_of KX hcd) (hb _ _ _ _ ?_)
  refine wpAny_newFunctionEnv_cells S.kind hkind fun env he s1 x => ?_
  subst he
  have lim1 : s1.heap.NoLimit := lim.keeps x.toInCall.keep
  refine ⟨lim1, ?_⟩
  obtain ⟨h1, tk, es1, hk1⟩ := x.done
  have os1 : s1.os = s.os := by rw [es1]
  have gen1 : s1.gens = s.gens := by rw [es1]
  have lt1 : s.heap.objs.size < s1.heap.objs.size := x.toInCall.ns.lt
  have sz1 : s.heap.objs.size ≤ s1.heap.objs.size := Nat.le_of_lt lt1
  have kp1 : ∀ b o, s.heap.get? b = some o → s1.heap.get? b = some o := x.toInCall.keep
  have main : ∀ (go : Obj) (nm qn : Value) (tk2 : Nat), go.cls = .type "generator" → go.data = .fields #[.int s1.gens.size 0, nm, qn] → go.slots = #[] → (∀ h : Heap, (h.push go).get? h.objs.size = some go) →
      GMadeC P w base (k + 1) outer H s U N IT (.ref s1.heap.objs.size) { s1 with gens := s1.gens.push (.fresh (.func body (envOfC qual scope s.heap.objs.size f cdv))), toks := tk2, heap := s1.heap.push go } := by
    intro go nm qn tk2 hgc hgd0 hgs hgp
    have hgen : ∀ h : Heap, h.get? s1.heap.objs.size = some go → h.IsGen s1.heap.objs.size s1.gens.size := fun h e => ⟨go, nm, qn, e, hgc, hgd0, hgs⟩
    have hpushed : (s1.heap.push go).get? s1.heap.objs.size = some go := hgp _
    have kp' : ∀ b o, s1.heap.get? b = some o → (s1.heap.push go).get? b = some o := fun b o e => Heap.get?_push_of_some _ e
    refine ⟨s1.heap.objs.size, s1.gens.size, _, rfl, hgen _ hpushed, Array.getElem?_push_size .., os1, ?_, fun b o e => Heap.get?_push_of_some _ (kp1 b o e), sz1, ?_⟩
    · exact AllBare.push (by rw [gen1]; exact e0.bare) rfl
    intro Aw hrw hfr
    refine ⟨gxOf P w K mg base NN qual scope f cdv Aw outer s.heap.objs.size [(s1.heap.objs.size, go)], rfl, rfl, rfl, rfl, rfl, ⟨go, rfl, hpushed, hgen⟩, ?_⟩
    have e0w : Env0 P w K mg base Aw outer s H := ⟨hfr, e0.mod, e0.bs, e0.bsz, e0.funs, e0.frf, e0.hok, e0.bare⟩
    have I1 : Inv (gcxOf P w K mg base NN qual scope f cdv Aw outer s H E0 []) [] (start NN vs) H s1 := inv_startG S hrw.hd e0w hl r x
    have hgd : ∀ v, go.data ≠ .cell v := fun v q => by rw [hgd0] at q; cases q
    have young : ∀ b, s1.heap.objs.size ≤ b → H b = none ∧ b ≠ s.heap.objs.size ∧ b ∉ frs outer := fun b hb =>
      ⟨I1.hok.fresh hb, Nat.ne_of_gt (Nat.lt_of_lt_of_le lt1 hb), I1.nofs hb⟩
    have I2 : Inv (gcxOf P w K mg base NN qual scope f cdv Aw outer s H E0 []) [] (start NN vs) H { s1 with gens := s1.gens.push (.fresh (.func body (envOfC qual scope s.heap.objs.size f cdv))), toks := tk2, heap := s1.heap.push go } :=
      I1.call' (ch := []) rfl (Un.kept kp') (I1.hok.kept kp') (AllBare.push (by rw [gen1]; exact e0.bare) rfl) fun b z => by simp at z
    have I3 : Inv (gcxOf P w K mg base NN qual scope f cdv Aw outer s H E0 [(s1.heap.objs.size, go)]) [] (start NN vs) H { s1 with gens := s1.gens.push (.fresh (.func body (envOfC qual scope s.heap.objs.size f cdv))), toks := tk2, heap := s1.heap.push go } := by
      refine Inv.pinnedG I2 fun p hp => ?_
      have hp' : p = (s1.heap.objs.size, go) := by simpa using hp
      rw [hp']
      obtain ⟨y1, y2, y3⟩ := young s1.heap.objs.size (Nat.le_refl _)
      exact ⟨hpushed, y1, y2, y3, hgd⟩
    have G0 : GI (gxOf P w K mg base NN qual scope f cdv Aw outer s.heap.objs.size [(s1.heap.objs.size, go)]) (s, H) [] (start NN vs) H { s1 with gens := s1.gens.push (.fresh (.func body (envOfC qual scope s.heap.objs.size f cdv))), toks := tk2, heap := s1.heap.push go } := by
      refine ⟨I3.wish (fun _ _ => False), rfl, fun p hp => ?_⟩
      have hp' : p = (s1.heap.objs.size, go) := by simpa [gxOf] using hp
      rw [hp']
      exact sz1
    intro H2 s2 wk hu
    obtain ⟨t, ht, hq⟩ := hbody Aw outer s.heap.objs.size H vs U N IT [(s1.heap.objs.size, go)] (hrw.deeper _) hsp
    have G2 := G0.woken wk
    refine segT_func ?_
    refine ht.run Aw [] N 0 _ _ [] _ _ id id s2 (start NN vs) H2 _ ⟨over_func, rfl, rfl, rfl⟩ (Nat.add_zero _) (fun n i tg s' fl hn hs => ?_) G2 (hq H2 hu)
    cases fl with
    | next =>
      obtain ⟨σ', H', hI, hi, hx⟩ := hs
      exact segT_end (.ok (.ret .none)) ⟨by omega, rfl, [], σ', H', hI, hx⟩
    | brk => obtain ⟨_, _, _, q⟩ := hs; exact q.elim
    | cont => obtain ⟨_, _, _, q⟩ := hs; exact q.elim
    | ret u => exact hs.elim
  exact main _ _ _ _ rfl rfl rfl fun h => Heap.get?_push_size _ rfl

/-! ### the consumer -/
section
variable {X : Cx}
/-- as PG, PSs; the table of generators stays -/
structure PGk (X : Cx) (target : Expr) (t : TG) : Prop where
  run : ∀ (pins : List (Addr × Obj)) (s : Shared) (σ : St) (H : Hp) (v : V) (u : Value) (Q : St → Hp → Prop), Inv X pins σ H s → RelV v u → t v σ H Q →
    wpAny (model X.prog X.w) X.A (assign target X.env u) (fun _ s' => (∃ σ' H', Inv X pins σ' H' s' ∧ Q σ' H') ∧ s'.gens = s.gens) X.xe s
structure PSsk (X : Cx) (st : List Stmt) (t : TS) : Prop where
  run : ∀ (pins : List (Addr × Obj)) (s : Shared) (σ : St) (H : Hp) (D : Ends), Inv X pins σ H s → t D σ H → wpAny (model X.prog X.w) X.A (execs st X.env) (fun f s' => SP X pins D f s' ∧ s'.gens = s.gens) X.xe s
theorem psk_never {sts : List Stmt} : PSsk X sts tNever := ⟨fun _ _ _ _ _ _ h => h.elim⟩

/-- what H1 held, and all that is no hidden thing, is kept -/
def Grow (H1 H H' : Hp) : Prop := ∀ b o, H b = some o → (H1 b ≠ none ∨ ∀ φ, o ≠ .ext φ) → H' b = some o
theorem Grow.ex {H1 H H' : Hp} (g : Grow H1 H H') (e : Evl.Ex H1 H) : Evl.Ex H1 H' := fun b o h => g b o (e b o h) (.inl (by rw [h]; intro q; cases q))

/-- the abstract heap behind a segment, the generator's own things hidden -/
def veil (L : Addr) (H : Hp) (h : Heap) : Hp := fun b => match H b with
  | some o => some o
  | none => if L ≤ b then (h.get? b).map (fun o => .ext fun h' => h'.get? b = some o) else none
theorem veil_some {L : Addr} {H : Hp} {h : Heap} {b : Addr} {o : HO} (e : H b = some o) : veil L H h b = some o := by
  unfold veil; rw [e]
theorem veil_own {L : Addr} {H : Hp} {h : Heap} {b : Addr} {o : Obj} (e : H b = none) (hl : L ≤ b) (ho : h.get? b = some o) : veil L H h b = some (.ext fun h' => h'.get? b = some o) := by
  unfold veil; rw [e]; simp only [if_pos hl, ho]; rfl
theorem veil_low {L : Addr} {H : Hp} {h : Heap} {b : Addr} (e : H b = none) (hl : b < L) : veil L H h b = none := by
  unfold veil; rw [e]; exact if_neg (Nat.not_le_of_lt hl)
theorem veil_cases {L : Addr} {H : Hp} {h : Heap} {b : Addr} {o : HO} (e : veil L H h b = some o) : H b = some o ∨ (H b = none ∧ L ≤ b ∧ ∃ ob, h.get? b = some ob ∧ o = .ext fun h' => h'.get? b = some ob) := by
  unfold veil at e
  cases q : H b with
  | some o' => rw [q] at e; exact .inl e
  | none =>
    rw [q] at e
    refine .inr ⟨rfl, ?_⟩
    by_cases hl : L ≤ b
    · simp only [if_pos hl] at e
      cases g : h.get? b with
      | none => rw [g] at e; cases e
      | some ob => rw [g] at e; exact ⟨hl, ob, rfl, (Option.some.inj e).symm⟩
    · simp only [if_neg hl] at e; cases e
theorem veil_hok {P : Program} {w : World} {L : Addr} {H : Hp} {h : Heap} (hok : HOk P w H h) : HOk P w (veil L H h) h := fun b o e => by
  rcases veil_cases e with q | ⟨q, hl, ob, ho, rfl⟩
  · exact (hok b o q).stay (fun _ _ _ z => z) (fun c z => veil_some z) fun c xs z => veil_some z
  · exact ⟨ho, ⟨ob, ho⟩, fun h1 h2 p k => k _ p⟩
/-- .. without the generator's own things -/
def bare (L : Addr) (Hy : Hp) (h : Heap) (Hc : Hp) : Hp := fun b => if decide (L ≤ b) && (Hy b).isNone && (h.get? b).isSome then none else Hc b
theorem bare_of {L : Addr} {Hy : Hp} {h : Heap} {Hc : Hp} {b : Addr} {o : HO} (e : bare L Hy h Hc b = some o) : Hc b = some o := by
  unfold bare at e
  split at e
  · cases e
  · exact e
theorem bare_none {L : Addr} {Hy : Hp} {h : Heap} {Hc : Hp} {b : Addr} (e : Hc b = none) : bare L Hy h Hc b = none := by
  unfold bare; split
  · rfl
  · exact e
theorem bare_hid {L : Addr} {Hy : Hp} {h : Heap} {Hc : Hp} {b : Addr} {o : Obj} (hl : L ≤ b) (hy : Hy b = none) (ho : h.get? b = some o) : bare L Hy h Hc b = none := by
  unfold bare; rw [hy, ho]; simp [hl]

/-- the loop's head: the generator sleeps since sy, Hy; the consumer is at Hc -/
structure Tied (L : Addr) (U : Addr → Prop) (Hy : Hp) (sy : Shared) (Hc : Hp) : Prop where
  hid : ∀ b o, L ≤ b → Hy b = none → sy.heap.get? b = some o → Hc b = some (.ext fun h => h.get? b = some o)
  ex : ExU U Hy Hc
theorem Tied.see {L : Addr} {U : Addr → Prop} {Hy : Hp} {sy : Shared} {Hc : Hp} (t : Tied L U Hy sy Hc) {b : Addr} {o : HO} (e : Hc b = some o) (hn : ∀ φ, o ≠ .ext φ) : bare L Hy sy.heap Hc b = some o := by
  unfold bare
  split
  · rename_i q
    simp only [Bool.and_eq_true, decide_eq_true_eq] at q
    obtain ⟨⟨q1, q2⟩, q3⟩ := q
    obtain ⟨ob, hob⟩ := Option.isSome_iff_exists.mp q3
    have z := t.hid b ob q1 (Option.isNone_iff_eq_none.mp q2) hob
    rw [e] at z
    exact absurd (Option.some.inj z) (hn _)
  · exact e
theorem Tied.low {L : Addr} {U : Addr → Prop} {Hy : Hp} {sy : Shared} {Hc : Hp} {b : Addr} (hb : b < L) : bare L Hy sy.heap Hc b = Hc b := by
  unfold bare
  have : decide (L ≤ b) = false := decide_eq_false (Nat.not_le_of_lt hb)
  rw [this]; rfl
theorem Tied.exu {L : Addr} {U : Addr → Prop} {Hy : Hp} {sy : Shared} {Hc : Hp} (t : Tied L U Hy sy Hc) : ExU U Hy (bare L Hy sy.heap Hc) := fun b o e => by
  unfold bare
  rw [e]
  simpa using t.ex b o e

/-- a waking -/
theorem wk_of {gx : GX} {pins : List (Addr × Obj)} {σ : St} {U : Addr → Prop} {Hy Hc : Hp} {sy s : Shared} {G : Array GenState} (hP : gx.prog = X.prog) (hw : gx.w = X.w) (hB : gx.base = X.base) (ho : gx.outer = X.stack)
    (I : Inv X pins σ Hc s) (os : sy.os = X.s_0.os) (t : Tied gx.env.locals U Hy sy Hc) (hG : AllBare G) : Wk gx Hy sy (bare gx.env.locals Hy sy.heap Hc) { s with gens := G } where
  os := I.os.trans os.symm
  bare := hG
  keep := fun b o hl hy e => by
    have z := t.hid b o hl hy e
    exact ⟨(I.hok b _ z).1, bare_hid hl hy e⟩
  hok := by
    rw [hP, hw]
    exact fun b o e => (I.hok b o (bare_of e)).stay (fun _ _ _ z => z) (fun c z => t.see z (by intro φ q; cases q)) fun c xs z => t.see z (by intro φ q; cases q)
  bs := fun b o e => by
    rw [hB] at e
    obtain ⟨e1, e2⟩ := I.bs b o e
    exact ⟨e1, bare_none e2⟩
  funs := by
    rw [hB, ho]; exact I.stack
  frf := fun b hb => by
    rw [ho] at hb
    exact bare_none (I.stkFree b hb)
theorem Wk.refl {g : GX} {t : Tag} {ip : List (Addr × Obj)} {σ : St} {H : Hp} {s : Shared} (h : GI g t ip σ H s) : Wk g H s H s where
  os := rfl
  bare := h.inv.bare
  keep := fun b o _ hy e => ⟨e, hy⟩
  hok := h.inv.hok
  bs := h.inv.bs
  funs := h.inv.funs
  frf := fun b hb => by
    obtain ⟨_, o, ho, _⟩ := h.inv.ok.funs.mem hb
    exact h.inv.base.free b o ho (h.inv.ok.frf b hb) (by simp [GX.at])

/-- behind a segment: the consumer's state again -/
theorem Inv.behind {gx : GX} {pins : List (Addr × Obj)} {σ σg : St} {U : Addr → Prop} {Hy Hc Hz Hm : Hp} {sy s s1 s2 : Shared} {ip : List (Addr × Obj)} {G : Array GenState} (hP : gx.prog = X.prog) (hw : gx.w = X.w) (ho : gx.outer = X.stack)
    (I : Inv X pins σ Hc s) (t : Tied gx.env.locals U Hy sy Hc) (GIz : GI gx (gx.root (bare gx.env.locals Hy sy.heap Hc) { s with gens := G }) ip σg Hz s1) (hL : gx.env.locals ≤ s.heap.objs.size)
    (l0 : X.s_0.heap.objs.size ≤ gx.env.locals) (l1 : X.env.locals < gx.env.locals) (l2 : ∀ x c, X.env.cells.lookup x = some c → c < gx.env.locals) (l3 : ∀ p ∈ X.pn ++ pins, p.1 < gx.env.locals)
    (hm1 : ∀ b o, Hz b = some o → Hm b = some o) (hm2 : ∀ b, b < gx.env.locals → Hz b = none → Hm b = none) (hok : HOk X.prog X.w Hm s2.heap) (k : ∀ b o, s1.heap.get? b = some o → s2.heap.get? b = some o) (os : s2.os = s1.os) (hb : AllBare s2.gens) : Inv X pins σ Hm s2 := by
  obtain ⟨J, jz, ja⟩ := GIz
  have un : Un (frs gx.outer) [] (bare gx.env.locals Hy sy.heap Hc) Hz (cut gx.env.locals s.heap) s1.heap := J.base
  rw [ho] at un
  have inC : ∀ {b : Addr}, b ∉ (List.range s.heap.objs.size).filter (fun b => decide (gx.env.locals ≤ b)) → ∀ o, s.heap.get? b = some o → b < gx.env.locals ∧ (cut gx.env.locals s.heap).get? b = some o := fun {b} hb o e => by
    have lt := Heap.lt_size e
    have q : b < gx.env.locals := by
      by_cases z : gx.env.locals ≤ b
      · exact absurd (List.mem_filter.mpr ⟨List.mem_range.mpr lt, decide_eq_true z⟩) hb
      · exact Nat.lt_of_not_le z
    exact ⟨q, (cut_get q).trans e⟩
  refine I.call' (ch := (List.range s.heap.objs.size).filter (fun b => decide (gx.env.locals ≤ b))) ?_ ⟨fun b o e n hf hc => ?_, fun b o e n hf hc => ?_, fun b o e n hc => ?_, fun b o e hc => ?_, fun b xs e => ?_, fun b o u e => ?_, fun b ps e => ?_⟩ hok hb fun b hb => ?_
  · have q : s1.os = s.os := J.os
    exact os.trans q
  · obtain ⟨q, e'⟩ := inC hc o e
    exact k b o (un.keep b o e' (bare_none n) hf (by simp))
  · obtain ⟨q, e'⟩ := inC hc o e
    obtain ⟨sl, e2⟩ := un.slot b o e' (bare_none n) hf (by simp)
    exact ⟨sl, k b _ e2⟩
  · obtain ⟨q, e'⟩ := inC hc o e
    exact hm2 b q (un.free b o e' (bare_none n) (by simp))
  · obtain ⟨q, e'⟩ := inC hc o e
    obtain ⟨o', e2⟩ := un.there b o e' (by simp)
    exact ⟨o', k b o' e2⟩
  · exact hm1 b _ (un.tups b xs (t.see e (by intro φ q; cases q)))
  · exact hm1 b _ (un.frzs b o u (t.see e (by intro φ q; cases q)))
  · obtain ⟨more, e2⟩ := un.tbls b ps (t.see e (by intro φ q; cases q))
    exact ⟨more, hm1 b _ e2⟩
  · have q := of_decide_eq_true (List.mem_filter.mp hb).2
    exact ⟨.inr (Nat.le_trans l0 q), Nat.ne_of_gt (Nat.lt_of_lt_of_le l1 q), fun x c e => Nat.ne_of_lt (Nat.lt_of_lt_of_le (l2 x c e) q), fun p hp => Nat.ne_of_lt (Nat.lt_of_lt_of_le (l3 p hp) q)⟩

/-- for .. in g(..): body; the word Pv of the turn, the slots, the heap -/
def tForG (sp : SpC) (dvs : List V) (t : TA) (gt : TG) (tb : TS) : TS := fun D σ H => t σ H fun vs H1 => ∃ (U : Addr → Prop) (N : Nat) (IT : Nat → V → Hp → Prop) (Pv : Nat → St → Hp → Prop), sp (vs ++ dvs) H1 U N IT ∧ (∀ b, U b → H1 b ≠ none) ∧ (∀ H', Evl.Ex H1 H' → Pv 0 σ H') ∧
  (∀ σ' H' H'', Pv N σ' H' → Grow H1 H' H'' → D.nx σ' H'') ∧
  ∀ i σ' H' H'' Hy x, i < N → Pv i σ' H' → Grow H1 H' H'' → IT i x Hy → Evl.Ex Hy H'' →
    gt x σ' H'' fun σ2 H2 => tb { nx := fun σ3 H3 => Pv (i + 1) σ3 H3 ∧ ExU U H'' H3, rt := fun _ _ => False, ct := fun σ3 H3 => Pv (i + 1) σ3 H3 ∧ ExU U H'' H3 } σ2 H2
end
end GF
end
section /- GF5 -/
set_option Elab.async false
set_option linter.all false
set_option maxRecDepth 100000
set_option maxHeartbeats 1000000
/-! A for loop over a generator. -/
namespace GF
open PySem PySem.Spec GenW L2
open PyProof.Rows hiding St

/-- the loop's head -/
structure Head (X : Cx) (pins : List (Addr × Obj)) (gx : GX) (a : Addr) (g : Nat) (U : Addr → Prop) (N : Nat) (IT : Nat → V → Hp → Prop) (Pv : Nat → St → Hp → Prop) (i : Nat) (σ : St) (Hc : Hp) (gs : GenState) (Hy : Hp) (sy s : Shared) : Prop where
  le : i ≤ N
  inv : Inv X pins σ Hc s
  word : Pv i σ Hc
  gen : s.gens[g]? = some gs
  tied : Tied gx.env.locals U Hy sy Hc
  os : sy.os = X.s_0.os
  here : ∃ go, gx.env.locals ≤ a ∧ Hy a = none ∧ sy.heap.get? a = some go ∧ ∀ h : Heap, h.get? a = some go → h.IsGen a g
  goes : ∀ H' s', Wk gx Hy sy H' s' → ExU U Hy H' → GoesT (model X.prog X.w) X.A.in1 (RG gx) (YG gx U N IT) (N - i) gs (gx.root H' s') (.send .none) s'

section
variable {X : Cx} {k : Nat} {f : Addr} {fd : FuncData} {ps : List Str} {sp : SpC} {dvs : List V} {ds : List Value} {x : Str} {p pos pos' : Pos} {e : Expr} {es : List Expr} {t : TA}
theorem ps_forGen {tg : Expr} {body : List Stmt} {gt : TG} {tb : TS} (F : GFnC X.prog X.w X.K X.mg X.base k f fd ps sp) (hr : Room (k + 1) X.A) (hg : Gl X x) (hm : X.mg x = some (.ref f)) (hk : PySem.W.keepIn X.K (.ref f) = true) (hb : Binds X.K fd ps ds) (hd : Vals dvs ds)
    (ha : PA X (e :: es) t) (hgt : PGk X tg gt) (hbd : PSsk X body tb) (hp : PassesOwn (model X.prog X.w) X.A X.env X.xe) (hs : ∀ v, foldedSetIterable (.Call (.Name x p) (e :: es) [] pos) X.env v = pure v := by intro _; rfl)
    (hdb : (x == ("__debug__" : Str)) = false := by decide) (he : starEach (e :: es) X.env = (false, eval e X.env) :: starEach es X.env := by rfl) (hpl : (backTo pos (starEach es X.env)).any (·.1) = false := by rfl) :
    PS X (.For tg (.Call (.Name x p) (e :: es) [] pos) body [] pos') (tForG sp dvs t gt tb) := by
  refine ⟨fun pins s σ H D I h => ?_⟩
  refine wpAny_For ?_ hs
  refine wpAny_Call_Name_kw (ld_glob I hg hm ?_ hdb)
  refine PySem.W.callWith_K (h₀ := X.base) I.ok.mod.kin hk (thn (ha.run pos pins s σ H _ I h) fun us s1 ⟨vs, H1, I1, r, q⟩ => ⟨I1.kIn, ?_⟩) he hpl
  obtain ⟨U, N, IT, Pv, hsp, hU, h0, hend, hstep⟩ := q
  have r2 : Vals (vs ++ dvs) (us ++ ds) := r.append hd
  have hl2 : (us ++ ds).length = ps.length := by rw [← r2.length]; exact F.len _ _ _ _ _ hsp
  refine wpAny_call (codeAny_mono (F.run X.A X.stack s1 H1 ⟨us, []⟩ (us ++ ds) (vs ++ dvs) U N IT (hr.mono (Nat.le_succ k)) I1.env0 (hb s1 us I1.kIn hl2) r2 hsp) fun r s2 hq => ?_)
  cases r with
  | error e => exact False.elim hq
  | ok fl =>
    cases fl with
    | next => exact False.elim hq
    | brk => exact False.elim hq
    | cont => exact False.elim hq
    | ret u =>
      obtain ⟨a, g, c, rfl, hgen, hgs, hos, hbare, hkp, hLa, wake⟩ := hq
      obtain ⟨gx, eL, eP, ew, eB, eo, ⟨go, hpn, hgo, hgok⟩, wake⟩ := wake X.A.in1 hr.in1 I1.ok.frames
      refine wpAny_pyIter_gen hgen ?_
      -- the consumer's heap behind the call
      have lt1 : ∀ {b o}, H1 b = some o → b < gx.env.locals := fun {b o} e => by rw [eL]; exact I1.hok.lt e
      have low : ∀ b, gx.env.locals ≤ b → H1 b = none := fun b hb => by rw [eL] at hb; exact I1.hok.fresh hb
      have l0 : X.s_0.heap.objs.size ≤ gx.env.locals := by rw [eL]; exact I1.sz
      have l1 : X.env.locals < gx.env.locals := by rw [eL]; exact I1.lt
      have l2 : ∀ y c, X.env.cells.lookup y = some c → c < gx.env.locals := fun y c e => by
        obtain ⟨v, o, ho, _⟩ := I1.cell y c e
        rw [eL]; exact Heap.lt_size ho
      have l3 : ∀ p ∈ X.pn ++ pins, p.1 < gx.env.locals := fun p hp => by
        rw [eL]; exact Heap.lt_size (I1.pin p hp).1
      have hLsz : gx.env.locals ≤ s2.heap.objs.size := by
        rw [eL]; exact Nat.le_trans hLa (Nat.le_of_lt (Heap.lt_size hgo))
      have I2 : Inv X pins σ (veil gx.env.locals H1 s2.heap) s2 := by
        refine I1.call' (ch := []) hos ⟨fun b o e n _ _ => hkp b o e, fun b o e n _ _ => ⟨o.slots, hkp b o e⟩, fun b o e n _ => veil_low n (by rw [eL]; exact Heap.lt_size e), fun b o e _ => ⟨o, hkp b o e⟩, fun b xs e => veil_some e, fun b o u e => veil_some e, fun b ps e => ⟨#[], by rw [veil_some e]; simp⟩⟩
          (veil_hok (I1.hok.kept hkp)) hbare fun b z => by simp at z
      have hw0 : Pv 0 σ (veil gx.env.locals H1 s2.heap) := h0 _ fun b o e => veil_some e
      have tied0 : Tied gx.env.locals U H1 s2 (veil gx.env.locals H1 s2.heap) := ⟨fun b o hl hy e => veil_own hy hl e, fun b o e => ⟨fun _ => veil_some e, by rw [veil_some e]; intro z; cases z⟩⟩
      refine codeAny_forLoop_any (fun m s' => ∃ i σ' Hc gs Hy sy, m = N - i ∧ Head X pins gx a g U N IT Pv i σ' Hc gs Hy sy s') ?_ N
        ⟨0, σ, veil gx.env.locals H1 s2.heap, _, H1, s2, rfl, ⟨Nat.zero_le _, I2, hw0, hgs, tied0, hos.trans I1.os, ⟨go, by rw [eL]; exact hLa, low a (by rw [eL]; exact hLa), hgo, hgok⟩, fun H' s' wk hu => ⟨rfl, wake H' s' wk hu⟩⟩⟩
      rintro m s3 ⟨i, σ3, Hc, gs, Hy, sy, rfl, hd3⟩
      obtain ⟨hle, I3, w3, g3, t3, os3, ⟨go3, a1, a2, a3, a4⟩, goes3⟩ := hd3
      have ea := t3.hid a go3 a1 a2 a3
      have gen3 : s3.heap.IsGen a g := a4 _ (I3.hok a _ ea).1
      have sz3 : gx.env.locals ≤ s3.heap.objs.size := Nat.le_trans a1 (Nat.le_of_lt (Heap.lt_size (I3.hok a _ ea).1))
      have hgl : g < s3.gens.size := (Array.getElem?_eq_some_iff.mp g3).1
      have wk3 := wk_of (s := s3) (G := (s3.setGen g .running).gens) eP ew eB eo I3 os3 t3 (allBare_setGen I3.bare rfl)
      have go3' := goes3 _ _ wk3 t3.exu
      refine wpAny_passesOwn hp (wpAny_gsz (n := g + 1) hgl (next_genT (A := X.A) hr.hd I3.nolimit hr.depth gen3 g3 go3' (fun r s₁ hR => .inl hR.2.1) (fun v s₁ gs' hb' hv => ?_) fun r s₁ hR h' hk' => ?_))
      · intro hsz
        obtain ⟨i', x, ip, σg, Hz, hn, rv, GIz, hex, hit, kap⟩ := hv
        -- it has not been the end
        have hi : i < N := by
          by_cases q : i < N
          · exact q
          · exfalso
            have e0 : N - i = 0 := by omega
            rw [e0] at kap
            exact kap Hz s₁ (Wk.refl GIz) fun b o e => ⟨fun _ => e, by rw [e]; intro z; cases z⟩
        obtain ⟨n', hn'⟩ : ∃ n', N - i = n' + 1 := ⟨N - i - 1, by omega⟩
        rw [hn'] at hn kap
        have ei : i' = i := by omega
        subst ei
        have grow : Grow H1 Hc (veil gx.env.locals Hz s₁.heap) := fun b o e q => by
          have key : bare gx.env.locals Hy sy.heap Hc b = some o := by
            rcases q with q | q
            · cases z : H1 b with
              | none => exact absurd z q
              | some o' => exact (Tied.low (U := U) (sy := sy) (Hc := Hc) (lt1 z)).trans e
            · exact t3.see e q
          exact veil_some (hex b o key)
        have pinA : s₁.heap.get? a = some go ∧ Hz a = none := by
          have z := GIz.inv.pin (a, go) (List.mem_append_left _ (by show (a, go) ∈ gx.pn; rw [hpn]; exact List.mem_singleton.mpr rfl))
          exact ⟨z.1, z.2.1⟩
        have osz : s₁.os = X.s_0.os := by
          have q : s₁.os = s3.os := GIz.inv.os
          exact q.trans I3.os
        have hokz : HOk X.prog X.w Hz s₁.heap := by
          have q := GIz.inv.hok
          rw [← eP, ← ew]; exact q
        have I4 : Inv X pins σ3 (veil gx.env.locals Hz s₁.heap) (s₁.setGen g gs') :=
          Inv.behind (s1 := s₁) eP ew eo I3 t3 GIz sz3 l0 l1 l2 l3 (fun b o e => veil_some e) (fun b hb e => veil_low e hb) (veil_hok hokz) (fun _ _ e => e) rfl (allBare_setGen GIz.inv.bare hb')
        obtain ⟨og, nm, qn, hog, hoc, hod, _⟩ := hgok _ pinA.1
        have hog' : (s₁.setGen g gs').heap.get? a = some og := hog
        refine wpAny_passesOwn hp (go_of hog' hoc hod (by decide) ?_)
        refine wpAny_passesOwn hp (thn (hgt.run pins _ σ3 _ x v _ I4 rv (hstep i' σ3 Hc _ Hz x hi w3 grow hit fun b o e => veil_some e)) fun _ s6 hq6 => ?_)
        obtain ⟨⟨σ6, H6, I6, q6⟩, eg6⟩ := hq6
        refine wpAny_passesOwn hp (thn (hbd.run pins s6 σ6 H6 _ I6 q6) fun fl s7 hq7 => ?_)
        obtain ⟨q7, eg7⟩ := hq7
        have hsz1 : g < s₁.gens.size := by
          have q : (s₁.setGen g gs').gens.size = s₁.gens.size := setGen_size _ _ _
          omega
        have again : ∀ {σ7 : St} {H7 : Hp}, Inv X pins σ7 H7 s7 → Pv (i' + 1) σ7 H7 → ExU U (veil gx.env.locals Hz s₁.heap) H7 → ∃ m, m < N - i' ∧ ∃ i σ' Hc gs Hy sy, m = N - i ∧ Head X pins gx a g U N IT Pv i σ' Hc gs Hy sy s7 := fun {σ7 H7} I7 w7 u7 => by
          refine ⟨N - (i' + 1), by omega, i' + 1, σ7, H7, gs', Hz, s₁, rfl, by omega, I7, w7, ?_, ⟨fun b o hl hy e => ?_, fun b o e => u7 b o (veil_some e)⟩, osz, ⟨go, a1, pinA.2, pinA.1, hgok⟩, fun H' s' wk hu => ?_⟩
          · rw [eg7, eg6]; exact setGen_at hsz1
          · refine (u7 b _ (veil_own hy hl e)).1 fun hu => ?_
            have := hU b hu
            exact this (low b hl)
          · have e1 : N - (i' + 1) = n' := by omega
            rw [e1]
            exact kap H' s' wk hu
        cases fl with
        | next => obtain ⟨σ7, H7, I7, w7, u7⟩ := q7; exact again I7 w7 u7
        | cont => obtain ⟨σ7, H7, I7, w7, u7⟩ := q7; exact again I7 w7 u7
        | brk => obtain ⟨_, _, _, q7⟩ := q7; exact q7.elim
        | ret u => obtain ⟨_, _, _, _, _, q7⟩ := q7; exact q7.elim
      · intro hsz
        obtain ⟨hn, hrr, ip, σg, Hz, GIz, hex⟩ := hR
        have ei : i = N := by omega
        subst ei
        have grow : Grow H1 Hc Hz := fun b o e q => by
          have key : bare gx.env.locals Hy sy.heap Hc b = some o := by
            rcases q with q | q
            · cases z : H1 b with
              | none => exact absurd z q
              | some o' => exact (Tied.low (U := U) (sy := sy) (Hc := Hc) (lt1 z)).trans e
            · exact t3.see e q
          exact hex b o key
        have hokz : HOk X.prog X.w Hz s₁.heap := by
          have q := GIz.inv.hok
          rw [← eP, ← ew]; exact q
        have I4 : Inv X pins σ3 Hz { s₁.setGen g .finished with heap := h' } :=
          Inv.behind (s1 := s₁) eP ew eo I3 t3 GIz sz3 l0 l1 l2 l3 (fun b o e => e) (fun b hb e => e) (hokz.kept hk') hk' rfl (allBare_setGen (s := s₁) GIz.inv.bare rfl)
        exact wpAny_execs_nil ⟨σ3, Hz, I4, hend σ3 Hc Hz w3 grow⟩
end
end GF
end
section /- GF6 -/
set_option Elab.async false
set_option linter.all false
set_option maxRecDepth 100000
set_option maxHeartbeats 1000000
/-! The statements of a consumer's body, told that no generator is made or woken (the rules of HandS.Base, Call and List with one thing more in the answer). -/
namespace GF
open PySem PySem.Spec GenW L2
open PyProof.Rows hiding St

section
variable {X : Cx}
structure PEk (X : Cx) (e : Expr) (t : TE) : Prop where
  run : ∀ (pins : List (Addr × Obj)) (s : Shared) (σ : St) (H : Hp) (Q : VK), Inv X pins σ H s → t σ H Q → wpAny (model X.prog X.w) X.A (eval e X.env) (fun u s' => EP X pins σ Q u s' ∧ s'.gens = s.gens) X.xe s
structure PAk (X : Cx) (es : List Expr) (t : TA) : Prop where
  run : ∀ (pos : Pos) (pins : List (Addr × Obj)) (s : Shared) (σ : St) (H : Hp) (Q : List V → Hp → Prop), Inv X pins σ H s → t σ H Q →
    wpAny (model X.prog X.w) X.A (spliced (backTo pos (starEach es X.env))) (fun us s' => AP X pins σ Q us s' ∧ s'.gens = s.gens) X.xe s
structure PTk (X : Cx) (e : Expr) (t : TT) : Prop where
  run : ∀ (pins : List (Addr × Obj)) (s : Shared) (σ : St) (H : Hp) (Q : Bool → Hp → Prop), Inv X pins σ H s → t σ H Q → wpAny (model X.prog X.w) X.A (isTrue e X.env (eval e X.env)) (fun b s' => TP X pins σ Q b s' ∧ s'.gens = s.gens) X.xe s
structure PSk (X : Cx) (st : Stmt) (t : TS) : Prop where
  run : ∀ (pins : List (Addr × Obj)) (s : Shared) (σ : St) (H : Hp) (D : Ends), Inv X pins σ H s → t D σ H → wpAny (model X.prog X.w) X.A (exec st X.env) (fun f s' => SP X pins D f s' ∧ s'.gens = s.gens) X.xe s
structure PGsk (X : Cx) (ts : List Expr) (t : TGs) : Prop where
  run : ∀ (pins : List (Addr × Obj)) (s : Shared) (σ : St) (H : Hp) (vs : List V) (us : List Value) (Q : St → Hp → Prop), Inv X pins σ H s → Vals vs us → t vs σ H Q →
    wpAny (model X.prog X.w) X.A (assignInOrder ((assignEach ts X.env).map (·.2)) us) (fun _ s' => (∃ σ' H', Inv X pins σ' H' s' ∧ Q σ' H') ∧ s'.gens = s.gens) X.xe s

/-- a local name -/
theorem vk (i : Nat) {x : Str} {pos : Pos} (hN : X.N[i]? = some x := by rfl) (hl : X.env.scope.names.lookup x = some .local := by rfl) (hd : (x == ("__debug__" : Str)) = false := by decide) : PEk X (.Name x pos) (tVar i) := by
  refine ⟨fun pins s σ H Q I h => ?_⟩
  obtain ⟨v, e, h⟩ := h
  obtain ⟨m, hn, hw⟩ := I.loc
  obtain ⟨u, r, l⟩ := hw i x v hN e (.inl hl)
  rcases l with ⟨hk, hm⟩ | ⟨hk, _⟩
  · exact wpAny_Name (wpAny_loadName_local I.ok.kind hk hn hm ⟨⟨v, H, I, r, h⟩, rfl⟩) hd
  · have q : X.env.kindOf x = some .local := hl
    rw [q] at hk
    rcases hk with hk | hk <;> cases hk
theorem strk {x : Str} {j pos} : PEk X (.Constant (.str x) j pos) (tC (.str x)) :=
  ⟨fun _ _ _ H _ I h => Calls.Constant_str ⟨⟨.str x, H, I.tok _, ⟨_, rfl⟩, h⟩, rfl⟩⟩
theorem ak_nil : PAk X [] tNil := ⟨fun _ _ _ _ H Q I h => Calls.spliced_nil ⟨⟨[], H, I, .nil, h⟩, rfl⟩⟩
theorem ak_cons {e : Expr} {es : List Expr} {te : TE} {t : TA} (ha : PEk X e te) (hr : PAk X es t) (hs : starEach (e :: es) X.env = (false, eval e X.env) :: starEach es X.env := by rfl) : PAk X (e :: es) (tCons te t) := by
  refine ⟨fun pos pins s σ H Q I h => ?_⟩
  rw [hs]
  show wpAny _ _ (spliced ((false, eval e X.env) :: backTo pos (starEach es X.env))) _ _ s
  refine Calls.spliced_cons (thn (ha.run pins s σ H _ I h) fun u s1 h1 => ?_)
  obtain ⟨⟨x, H1, I1, r1, q1⟩, g1⟩ := h1
  refine thn (hr.run pos pins s1 σ H1 _ I1 q1) fun us s2 h2 => ?_
  obtain ⟨⟨xs, H2, I2, r2, q2⟩, g2⟩ := h2
  exact ⟨⟨x :: xs, H2, I2, .cons r1 r2, q2⟩, g2.trans g1⟩
theorem tupk {es : List Expr} {t : TA} {x1} {pos : Pos} (h : PAk X es t) : PEk X (.Tuple es x1 pos) (tTup t) := by
  refine ⟨fun pins s σ H Q I hq => ?_⟩
  refine wpAny_Tuple_spliced (thn (h.run pos pins s σ H _ I hq) fun us s1 h1 => ?_)
  obtain ⟨⟨xs, H1, I1, r, z, q⟩, g1⟩ := h1
  refine ⟨by rw [← r.length]; exact z, ⟨.ref s1.heap.objs.size, upd H1 s1.heap.objs.size (.tup xs), I1.laid (t' := s1.toks) (fun b u e => Heap.get?_push_of_some _ e) (Nat.le_refl _) ?_, rfl, q _ (I1.hok.fresh (Nat.le_refl _))⟩, g1⟩
  exact ⟨z, us, r, ⟨_, Heap.get?_push_size _ rfl, rfl, _, rfl⟩⟩
theorem lstk {es : List Expr} {t : TA} {pos : Pos} (h : PAk X es t) : PEk X (.List es pos) (tLst t) := by
  refine ⟨fun pins s σ H Q I hq => ?_⟩
  refine wpAny_List_spliced (thn (h.run pos pins s σ H _ I hq) fun us s1 h1 => ?_)
  obtain ⟨⟨xs, H1, I1, r, z, q⟩, g1⟩ := h1
  refine ⟨by rw [← r.length]; exact z, ⟨.ref s1.heap.objs.size, upd H1 s1.heap.objs.size (.lst xs), I1.laid (t' := s1.toks) (fun b u e => Heap.get?_push_of_some _ e) (Nat.le_refl _) ?_, rfl, q _ (I1.hok.fresh (Nat.le_refl _))⟩, g1⟩
  exact ⟨z, us, 0, r, Heap.get?_push_size _ rfl⟩
/-- two texts are equal, as a test -/
def tEqS (ta tb : TE) : TT := fun σ H Q => ta σ H fun x H1 => tb σ H1 fun y H2 => ∃ a b, x = .str a ∧ y = .str b ∧ Q (decide (a = b)) H2
theorem eqk {a b : Expr} {ta tb : TE} {pos : Pos} (ha : PEk X a ta) (hb : PEk X b tb) (hm : behindInMarks .Eq b = false) : PTk X (.Compare a [.Eq] [b] pos) (tEqS ta tb) := by
  refine ⟨fun pins s σ H Q I h => ?_⟩
  refine wpAny_isTrue_Compare1 (thn (ha.run pins s σ H _ I h) fun v s1 h1 => ?_) hm
  obtain ⟨⟨x, H1, I1, r1, q1⟩, g1⟩ := h1
  refine thn (hb.run pins s1 σ H1 _ I1 q1) fun u s2 h2 => ?_
  obtain ⟨⟨y, H2, I2, r2, i, j, rfl, rfl, q2⟩, g2⟩ := h2
  obtain ⟨t1, rfl⟩ := r1
  obtain ⟨t2, rfl⟩ := r2
  refine eq_str (wpAny_truthy_bool ⟨⟨H2, I2, ?_⟩, g2.trans g1⟩)
  have e : (i == j) = decide (i = j) := by
    by_cases z : i = j
    · subst z; simp
    · rw [decide_eq_false z]; exact beq_eq_false_iff_ne.mpr z
  rw [e]; exact q2
/-- xs.append(e) -/
def tAppk (to te : TE) : TE := fun σ H Q => to σ H fun x H1 => (∃ l xs, x = .ref l ∧ H1 l = some (.lst xs)) ∧ te σ H1 fun y H2 => ∃ l xs, x = .ref l ∧ H2 l = some (.lst xs) ∧ xs.length < sizeLine ∧ Q .non (upd H2 l (.lst (xs ++ [y])))
theorem appk {o e : Expr} {to te : TE} {apos cpos : Pos} (ho : PEk X o to) (he : PEk X e te)
    (hbase : attributeBase o "append" X.env (eval o X.env) = eval o X.env := by rfl)
    (hfew : ((backTo cpos (starEach [e] X.env)).all (fun x => !x.1) && (backToKw cpos (keywordEach [] X.env)).all (fun x => x.1.isSome)
      && decide ([e].length + ([] : List Keyword).length + (if ([] : List Keyword).isEmpty then 0 else 1) < 30)) = true := by rfl)
    (hline : (apos.endLine == cpos.line) = true := by rfl) (hs : starEach [e] X.env = (false, eval e X.env) :: starEach [] X.env := by rfl) :
    PEk X (.Call (.Attribute o "append" apos) [e] [] cpos) (tAppk to te) := by
  refine ⟨fun pins s σ H Q I h => ?_⟩
  refine wpAny_Call_method_late hbase hfew hline rfl (thn (ho.run pins s σ H _ I h) fun v s1 h1 => ?_)
  obtain ⟨⟨x, H1, I1, r1, ⟨l0, xs0, rfl, hl0⟩, q1⟩, g1⟩ := h1
  have ty : tyV X.K "list" (.ref l0) H1 := .inl ⟨rfl, _, SqL.of hl0⟩
  obtain ⟨k1, k2⟩ := tyV_is I1 r1 ty
  refine ⟨"list", "list.append", PySem.F.plainAttrs_list, PySem.F.slot_list_append, PySem.F.type_list_append, k1, k2, ?_⟩
  rw [hs]
  refine Calls.callWith_builtin rfl (Calls.evalArgs_plain ?_)
  refine Calls.spliced_cons (thn (he.run pins s1 σ H1 _ I1 q1) fun u s2 h2 => ?_)
  obtain ⟨⟨y, H2, I2, r2, l, xs, ex, hH, hz, q2⟩, g2⟩ := h2
  refine Calls.spliced_nil ?_
  cases ex
  cases r1
  obtain ⟨z, its, n, r, hl, e'⟩ := I2.lstM hH
  refine call_meets F.slot_list_append ⟨_, e', rfl⟩ F.entry_list_append (F.args_list_append_2 _ _) (PySem.list_append l0 its.toArray n u (by rw [List.size_toArray]; omega)) ⟨e', ?_⟩
  refine ⟨⟨.non, _, I2.lset (its' := its ++ [u]) hH e' (by simp) (r.append (.cons r2 .nil)) ?_, rfl, q2⟩, g2.trans g1⟩
  rw [List.length_append]
  exact hz
/-! ### targets -/
theorem store_k {pins : List (Addr × Obj)} {σ : St} {H : Hp} {s : Shared} {i : Nat} {x : Str} {v : V} {u : Value} {E : Value → Shared → Prop} (I : Inv X pins σ H s) (hN : X.N.Nodup) (hi : X.N[i]? = some x) (hk : X.env.scope.names.lookup x = some .local) (r : RelV v u) :
    wpAny (model X.prog X.w) X.A (storeName X.env x u) (fun _ s' => Inv X pins (σ.set i (some v)) H s' ∧ s'.gens = s.gens) E s := by
  obtain ⟨m, hn, hl⟩ := id I.loc
  have hiσ : i < σ.length := by rw [I.len]; exact (List.getElem?_eq_some_iff.mp hi).1
  refine wpAny_storeName_local hk hn (fun h' hn' hs => ⟨?_, rfl⟩) (by rw [I.ok.kind]; rfl)
  have same : ∀ {b : Addr} {o : Obj}, b ≠ X.env.locals → s.heap.get? b = some o → h'.get? b = some o := fun hb e => (hs.2 _ hb).trans e
  have old : ∀ {b : Addr} {o : Obj}, X.s_0.heap.get? b = some o → b ≠ X.env.locals := fun e => Nat.ne_of_lt (Nat.lt_of_lt_of_le (Heap.lt_size e) I.ok.above)
  refine ⟨I.ok, I.os, I.bare, ⟨fun b o e n hb hx => same (old e) (I.base.keep b o e n hb hx), fun b o e n hb hx => ?_, I.base.free, fun b o e hx => ?_, I.base.tups, I.base.frzs, I.base.tbls⟩,
    ⟨_, hn', fun j y v' e1 e2 e3 => ?_⟩, fun y c e => ?_, I.free, I.freeC, fun p hp => ?_, fun b ob e => ?_, by rw [List.length_set]; exact I.len⟩
  · obtain ⟨sl, e1⟩ := I.base.slot b o e n hb hx
    exact ⟨sl, same (old e) e1⟩
  · obtain ⟨o', e1⟩ := I.base.there b o e hx
    exact ⟨o', same (old e) e1⟩
  · by_cases hj : j = i
    · subst hj
      have ey : y = x := Option.some.inj (e1.symm.trans hi)
      subst ey
      rw [List.getElem?_set_self hiσ] at e2
      have ev : v = v' := Option.some.inj (Option.some.inj e2)
      subst ev
      exact ⟨u, r, .inl ⟨hk, by simp⟩⟩
    · rw [List.getElem?_set_ne (Ne.symm hj)] at e2
      obtain ⟨u', r', q⟩ := hl j y v' e1 e2 e3
      refine ⟨u', r', ?_⟩
      rcases q with ⟨k, e⟩ | ⟨k, c, e, z⟩
      · have hne : y ≠ x := fun e => hj (nodup_ix hN e1 (e ▸ hi))
        exact .inl ⟨k, by simp [hne, e]⟩
      · exact .inr ⟨k, c, e, z.sameBut hs (I.cne y c e)⟩
  · obtain ⟨w', z⟩ := I.cell y c e
    exact ⟨w', z.sameBut hs (I.cne y c e)⟩
  · obtain ⟨e, n, ne, nf, d⟩ := I.pin p hp
    exact ⟨same ne e, n, ne, nf, d⟩
  · refine (I.hok b ob e).stay (fun c w' hc q => same (fun z => ?_) q) (fun _ q => q) fun _ _ q => q
    rcases hc with hc | hc
    · rw [hc] at z; rw [z, I.free] at e; cases e
    · rw [z, I.free] at hc; cases hc
theorem gk_name {i : Nat} {x : Str} {pos : Pos} (hN : X.N.Nodup) (hi : X.N[i]? = some x) (hk : X.env.scope.names.lookup x = some .local) : PGk X (.Name x pos) (gName i) :=
  ⟨fun pins s σ H v u Q I r h => wpAny_assign_Name (thn (store_k I hN hi hk r) fun _ s' z => ⟨⟨_, H, z.1, h⟩, z.2⟩)⟩
theorem gsk_nil : PGsk X [] gNil := by
  refine ⟨fun pins s σ H vs us Q I r h => ?_⟩
  obtain ⟨e, h⟩ := h
  subst e
  cases r
  exact assignInOrder_nil ⟨⟨σ, H, I, h⟩, rfl⟩
theorem gsk_cons {e : Expr} {es : List Expr} {t : TG} {u : TGs} (h1 : PGk X e t) (h2 : PGsk X es u)
    (hs : (assignEach (e :: es) X.env).map (·.2) = assign e X.env :: (assignEach es X.env).map (·.2) := by rfl) : PGsk X (e :: es) (gCons t u) := by
  refine ⟨fun pins s σ H vs us Q I r h => ?_⟩
  obtain ⟨v, vr, e1, h⟩ := h
  subst e1
  cases r with
  | cons r rr =>
    rw [hs]
    refine assignInOrder_cons (thn (h1.run pins s σ H _ _ _ I r h) fun _ s1 z => ?_)
    obtain ⟨⟨σ1, H1, I1, q1⟩, g1⟩ := z
    refine thn (h2.run pins s1 σ1 H1 _ _ Q I1 rr q1) fun _ s2 z2 => ⟨z2.1, z2.2.trans g1⟩
theorem gk_tup {es : List Expr} {k : Nat} {t : TGs} {n : Nat} {pos : Pos} (hc : X.calm = true) (h : PGsk X es t)
    (hn : (assignEach es X.env).length = n := by rfl) (hst : (assignEach es X.env).findIdx? (·.1) = none := by rfl) : PGk X (.Tuple es k pos) (gTup X.K n t) := by
  refine ⟨fun pins s σ H v u Q I r hw => ?_⟩
  obtain ⟨a, xs, e1, hq, hl, hw⟩ := hw
  subst e1
  cases r
  obtain ⟨its, rv, ht, hz⟩ := I.tuple hq
  refine assign_Tuple_tuple (I.ok.hd hc) ht (by simp [hn, ← hl, rv.length]) hst fun h' hx => ?_
  have I1 : Inv X pins σ H { s with heap := h' } := I.kept (t' := s.toks) fun b o e => hx b o (Nat.ne_of_lt (Heap.lt_size e)) e
  exact h.run pins _ σ H xs _ Q I1 (by simpa using rv) hw
/-! ### statements -/
theorem sk_expr {e : Expr} {te : TE} {pos : Pos} (he : PEk X e te) (hs : swapsWith e none pos.line X.env = pure false := by rfl) : PSk X (.Expr e pos) (tDrop te) := by
  refine ⟨fun pins s σ H D I h => ?_⟩
  refine wpAny_Expr_any (thn (he.run pins s σ H _ I h) fun v s1 z => ?_) I.quiet hs
  obtain ⟨⟨x, H1, I1, r1, q1⟩, g1⟩ := z
  exact ⟨⟨σ, H1, I1, q1⟩, g1⟩
theorem sk_if {c : Expr} {a b : List Stmt} {tc : TT} {t u : TS} {pos : Pos} (hc : PTk X c tc) (ha : PSsk X a t) (hb : PSsk X b u) : PSk X (.If c a b pos) (tIfS tc t u) := by
  refine ⟨fun pins s σ H D I h => ?_⟩
  refine wpAny_If (thn (hc.run pins s σ H _ I h) fun d s1 z => ?_)
  obtain ⟨⟨H1, I1, q1⟩, g1⟩ := z
  cases d with
  | true => exact thn (ha.run pins s1 σ H1 D I1 q1) fun f s2 z2 => ⟨z2.1, z2.2.trans g1⟩
  | false => exact thn (hb.run pins s1 σ H1 D I1 q1) fun f s2 z2 => ⟨z2.1, z2.2.trans g1⟩
theorem ssk_one {st : Stmt} {t : TS} (h1 : PSk X st t) : PSsk X [st] t := by
  refine ⟨fun pins s σ H D I h => ?_⟩
  refine wpAny_execs_cons (thn (h1.run pins s σ H D I h) fun f s1 q => ?_)
  cases f with
  | next => exact wpAny_execs_nil q
  | ret v => exact q
  | brk => exact q
  | cont => exact q
end
end GF
end
section /- OW1 -/
set_option Elab.async false
set_option linter.all false
set_option maxRecDepth 100000
set_option maxHeartbeats 1000000
/-! Operators over instances whose class says them: len, in, ==, <, >=, and != by the own ==. -/
namespace OW
open PySem PySem.Spec L2
open PyProof.Rows hiding St
open PySem.W (findIn isFn InstAt Looks looks_findIn bind_fn looks_mroIn clsIn plainOver onlyObject only_has looks_clsIn)

section
variable {prog : Program} {w : World} {A : Around} {E : Value → Shared → Prop} {s : Shared} {K : PySem.W.Frag} {x C f : Addr} {ox : Obj} {od : Option Obj}
theorem len_at {Q : Value → Shared → Prop} (X : K.In s.heap) (I : InstAt s.heap x ox C od) (hs : findIn K (.ref C) "__len__" = some (some (.ref f))) (hf : isFn K (.ref f) = true)
    (h : wpAny (model prog w) A.in1 (call (.ref f) [.ref x]) (fun r s' => ∃ n u, r = Value.int n u ∧ 0 ≤ n ∧ n < 2 ^ 63 ∧ Q (.int n s'.toks) { s' with toks := s'.toks + 1 }) E s) :
    wpAny (model prog w) A (call (.builtin "len") [.ref x]) Q E s := by
  refine Calls.call_function_entry kind_len plain_len entry_len (args_len1 _) ?_
  unfold Builtin.«len»
  refine wpAny_bind (m := oneArg "len" _) (wpAny_pure ?_)
  refine wpAny_bind (m := callSpecial? (.ref x) (Str.ofString "__len__")) (PySem.W.special_fn X I hs (beq_iff_eq.mp hf) (wpAny_mono h (fun r s' hr => ?_) fun _ _ y => y))
  obtain ⟨n, u, rfl, h0, h1, hq⟩ := hr
  refine wpAny_bind (wpAny_holding (wpAny_pure ?_))
  refine wpAny_bind (wpAny_letGo ?_)
  show wpAny _ _ (if n < 0 then _ else _) _ _ _
  rw [if_neg (by omega)]
  show wpAny _ _ (if n ≥ 2 ^ 63 then _ else _) _ _ _
  rw [if_neg (by omega)]
  exact wpAny_bind (wpAny_mkInt (wpAny_pure ⟨_, rfl, hq⟩))
theorem contains_at {y : Value} {Q : Bool → Shared → Prop} (X : K.In s.heap) (I : InstAt s.heap x ox C od) (hs : findIn K (.ref C) "__contains__" = some (some (.ref f))) (hf : isFn K (.ref f) = true)
    (h : wpAny (model prog w) A (call (.ref f) [.ref x, y]) (fun r s' => ∃ b, r = Value.bool b ∧ Q b s') E s) : wpAny (model prog w) A (contains (.ref x) y) Q E s := by
  unfold contains
  refine wpAny_holding ?_
  rw [stdlibNamesSay?_ref]
  refine wpAny_bind (m := specialOf (.ref x) _) (wpAny_bind (I.type.here ((looks_findIn X hs).here ?_)))
  rw [show ((some (Value.ref f)) == some Value.none) = false from rfl]
  simp only [Bool.false_eq_true, if_false]
  refine wpAny_bind (m := callSpecialUnlessNone? (.ref x) _ [y] _) ?_
  unfold callSpecialUnlessNone?
  refine wpAny_bind (m := specialOf (.ref x) _) (wpAny_bind (I.type.here ((looks_findIn X hs).here ?_)))
  refine wpAny_holding (wpAny_bind ((bind_fn X _ (beq_iff_eq.mp hf)).here ?_))
  dsimp only
  rw [show ((Value.ref f) == Value.none) = false from rfl]
  simp only [Bool.false_eq_true, if_false]
  refine wpAny_bind (wpAny_mono h (fun r s' hr => ?_) fun _ _ e => e)
  obtain ⟨b, rfl, hq⟩ := hr
  exact wpAny_pure (wpAny_truthy_bool hq)
theorem ifBound_B {M : Model} {name : Str} {b : String} {args : List Value} {Q : Option Value → Shared → Prop} (X : K.In s.heap) (I : InstAt s.heap x ox C od) (hs : findIn K (.ref C) name = some (some (.builtin b)))
    (hb : ∀ self, bindSpecial (.builtin b) self = pure (.builtin b, [self])) (h : wpAny M A (call (.builtin b) (.ref x :: args)) (fun v => Q (some v)) E s) : wpAny M A (callSpecialIfBound? (.ref x) name args) Q E s := by
  simp only [callSpecialIfBound?, bindSpecialIfBound?]
  refine wpAny_holding (wpAny_bind (wpAny_bind (wpAny_bind (I.type.here ((looks_findIn X hs).here ?_)))))
  refine wpAny_bind (wpAny_askSetting (wpAny_ite ?_))
  have fin : wpAny M A (call (.builtin b) ([.ref x] ++ args) >>= fun v => pure (some v)) Q E s := wpAny_bind (wpAny_mono h (fun v s' h' => wpAny_pure h') fun _ _ h' => h')
  rw [hb]
  split
  · exact wpAny_bind (wpAny_pure (wpAny_pure (by exact fin)))
  · exact wpAny_tryCatch (wpAny_bind (wpAny_pure (wpAny_pure (by exact fin))))
theorem ne_entry {y : Value} (X : K.In s.heap) (I : InstAt s.heap x ox C od) (hs : findIn K (.ref C) "__eq__" = some (some (.ref f))) (hf : isFn K (.ref f) = true) (hu : A.units < cLine) {Q : Fin → Shared → Prop}
    (hcall : wpAny (model prog w) A (call (.ref f) [.ref x, y]) (fun v s' => ∃ b, v = .bool b ∧ Q (.done (.ret (.bool (!b)))) s') E s) :
    wpAny (model prog w) A (Builtin.«object.__ne__» ⟨[.ref x, y], []⟩) Q E s := by
  obtain ⟨h, g, d, t, os⟩ := s
  unfold Builtin.«object.__ne__»
  repeat (first
    | with_reducible refine wpAny_cRoomFor hu ?_
    | (refine wpAny_bind (m := callSpecialIfBound? (.ref x) (Str.ofString "__eq__") [y])
        (PySem.W.ifBound_K X I hs hf (wpAny_mono hcall (fun r s' hr => by
          obtain ⟨b, rfl, hq⟩ := hr
          repeat (first | exact hq | exact wpAny_pure hq | exact wpAny_truthy_bool hq | (refine wpAny_bind (m := truthy (.bool _)) (wpAny_truthy_bool ?_)) | wp_step)) fun _ _ e => e)))
    | wp_step)
/-- x != y by the class's own ==, != left as object has it -/
theorem ne_at {y : Addr} (X : K.In s.heap) (I : InstAt s.heap x ox C od) {oy : Obj} {ody : Option Obj} (J : InstAt s.heap y oy C ody) (hp : plainOver K C = true) (hn : findIn K (.ref C) "__ne__" = some (some (.builtin "object.__ne__")))
    (hs : findIn K (.ref C) "__eq__" = some (some (.ref f))) (hf : isFn K (.ref f) = true) (hu : A.units + 1 < cLine) {Q : Value → Shared → Prop}
    (hcall : wpAny (model prog w) A.in1 (call (.ref f) [.ref x, .ref y]) (fun v s' => ∃ b, v = .bool b ∧ Q (.bool (!b)) s') E s) :
    wpAny (model prog w) A (richCompare .NotEq (.ref x) (.ref y)) Q E s := by
  obtain ⟨cd, hc, ho⟩ := PySem.W.any_some hp
  have ne : cd.mro.isEmpty = false := by cases q : cd.mro with | nil => rw [q] at ho; cases ho | cons _ _ => rfl
  have sub : Looks (model prog w) s.heap (isInstance (.ref x) (.type "object")) true := I.type.andThen (looks_mroIn X (by unfold PySem.W.mroIn; rw [hc, Option.bind_some, if_neg (by rw [ne]; decide), only_has ho]))
  have one : wpAny (model prog w) A (tryCompare (.ref x) "__ne__" (.ref y)) (fun r s' => ∃ v, r = some v ∧ Q v s') E s := by
    simp only [tryCompare]
    refine wpAny_bind (ifBound_B X I hn PySem.F.cmp_object.ne.bind (wpAny_call (codeAny_call_builtin PySem.F.cmp_object.ne.plain PySem.F.cmpEntry_ne
      (PySem.W.check_slot PySem.F.cmpKind_ne PySem.F.cmpSplit_ne sub (PySem.F.cmpArgs_ne _ _) (ne_entry (A := A.in1) X I hs hf hu (wpAny_mono hcall (fun v s' hv => ?_) fun _ _ e => e))))))
    obtain ⟨b, rfl, hq⟩ := hv
    first | exact ⟨b, rfl, wpAny_pure ⟨_, rfl, hq⟩⟩ | exact ⟨b, rfl, wpAny_pure (wpAny_pure ⟨_, rfl, hq⟩)⟩ | exact ⟨b, rfl, _, rfl, hq⟩
  unfold richCompare
  simp only [oneThing_ref]
  refine wpAny_holding (wpAny_bind (wpAny_cRoomFor (Nat.lt_of_succ_lt hu) ?_))
  rw [cmpInfo_NotEq]
  dsimp only
  refine wpAny_bind (I.type.here (wpAny_bind (J.type.here ?_)))
  rw [show (Value.ref C != Value.ref C) = false from by simp]
  simp only [Bool.false_eq_true, if_false]
  refine wpAny_bind (wpAny_pure ?_)
  simp only [Bool.false_eq_true, if_false]
  refine wpAny_bind (wpAny_mono one (fun r s' z => ?_) fun _ _ e => e)
  obtain ⟨v, rfl, hq⟩ := z
  exact wpAny_pure hq
end

section
variable {X : Cx} {C g : Addr} {n : Nat} {sp : Sp}
/-- len(o) -/
def rLenO (C : Addr) (sp : Sp) : List V → Hp → VK → Prop := fun xs H Q => ∃ a dx fs, xs = [V.ref a] ∧ H a = some (.ins C dx fs) ∧ sp [.ref a] H (fun z H' => ∃ k : Int, z = .int k ∧ 0 ≤ k ∧ k < 2 ^ 63 ∧ Q z H') E0
theorem call_lenO (hm : Meth X.K C "__len__" g) (F : FnR X.prog X.w X.K X.mg X.base CX0 n g sp) (hr : Room (n + 1) X.A) : CallR X (.builtin "len") (rLenO C sp) := by
  intro pins s σ H xs us Q I r h
  obtain ⟨a, dx, fs, rfl, hi, q⟩ := h
  obtain ⟨u, rfl, ru⟩ := r.one
  cases (show u = Value.ref a from ru)
  obtain ⟨mA, O, _⟩ := ins_get I.hok hi
  obtain ⟨od, J, _⟩ := O.look
  refine len_at I.kIn J hm.at_ hm.fn (wpAny_mono (wpAny_call (SlX.run_at (us := [.ref a]) (ws := [.ref a]) F hr.in1 I.env0.in1 pass0 I (.cons rfl .nil) q)) (fun w s' z => ?_) fun _ _ x => x)
  obtain ⟨z', H', I', rz, k, ek, k0, k1, qz⟩ := z
  subst ek
  obtain ⟨t, e⟩ := (show ∃ t, w = Value.int k t from rz)
  cases e
  exact ⟨k, t, rfl, k0, k1, .int k, H', I'.tok _, ⟨_, rfl⟩, qz⟩
/-- x in o, x not in o -/
def rInO (C : Addr) (sp : Sp) (neg : Bool) : R2 := fun x y H Q => ∃ a dx fs, y = V.ref a ∧ H a = some (.ins C dx fs) ∧ sp [.ref a, x] H (fun z H' => ∃ b, z = .bl b ∧ Q (.bl (if neg then !b else b)) H') E0
theorem op_inO (hm : Meth X.K C "__contains__" g) (F : FnR X.prog X.w X.K X.mg X.base CX0 n g sp) (hr : Room n X.A) : OpR X (compareOp .In) (rInO C sp false) := by
  intro pins s σ H x y v u Q I rx ry h
  obtain ⟨a, dx, fs, rfl, hi, q⟩ := h
  cases (show u = Value.ref a from ry)
  obtain ⟨mA, O, _⟩ := ins_get I.hok hi
  obtain ⟨od, J, _⟩ := O.look
  unfold compareOp
  refine wpAny_bind (contains_at I.kIn J hm.at_ hm.fn (wpAny_mono (wpAny_call (SlX.run_at (us := [.ref a, v]) (ws := [.ref a, x]) F hr I.env0 pass0 I (.cons rfl (.cons rx .nil)) q)) (fun w s' z => ?_) fun _ _ x => x))
  obtain ⟨z', H', I', rz, b, eb, qz⟩ := z
  subst eb
  exact ⟨b, rz, wpAny_pure ⟨.bl b, H', I', rfl, qz⟩⟩
theorem op_ninO (hm : Meth X.K C "__contains__" g) (F : FnR X.prog X.w X.K X.mg X.base CX0 n g sp) (hr : Room n X.A) : OpR X (compareOp .NotIn) (rInO C sp true) := by
  intro pins s σ H x y v u Q I rx ry h
  obtain ⟨a, dx, fs, rfl, hi, q⟩ := h
  cases (show u = Value.ref a from ry)
  obtain ⟨mA, O, _⟩ := ins_get I.hok hi
  obtain ⟨od, J, _⟩ := O.look
  unfold compareOp
  refine wpAny_bind (contains_at I.kIn J hm.at_ hm.fn (wpAny_mono (wpAny_call (SlX.run_at (us := [.ref a, v]) (ws := [.ref a, x]) F hr I.env0 pass0 I (.cons rfl (.cons rx .nil)) q)) (fun w s' z => ?_) fun _ _ x => x))
  obtain ⟨z', H', I', rz, b, eb, qz⟩ := z
  subst eb
  exact ⟨b, rz, wpAny_pure ⟨.bl (!b), H', I', rfl, qz⟩⟩
/-- x op y, both instances of the class at C whose def for op is at g -/
def rCmpO (C : Addr) (sp : Sp) : R2 := fun x y H Q => ∃ a dx fs b dy ws, x = V.ref a ∧ y = V.ref b ∧ H a = some (.ins C dx fs) ∧ H b = some (.ins C dy ws) ∧ sp [x, y] H Q E0
theorem op_cmpO {op : CmpOp} (hop : ∀ a b, compareOp op a b = richCompare op a b) (hm : Meth X.K C (cmpInfo op).2.1 g) (F : FnR X.prog X.w X.K X.mg X.base CX0 n g sp)
    (hr : Room n X.A) : OpR X (compareOp op) (rCmpO C sp) := by
  intro pins s σ H x y v u Q I rx ry h
  obtain ⟨a, dx, fs, b, dy, ws, rfl, rfl, ha, hb, q⟩ := h
  cases (show v = Value.ref a from rx)
  cases (show u = Value.ref b from ry)
  obtain ⟨mA, O, _⟩ := ins_get I.hok ha
  obtain ⟨od, J, _⟩ := O.look
  obtain ⟨mB, O', _⟩ := ins_get I.hok hb
  obtain ⟨od', J', _⟩ := O'.look
  obtain ⟨m, hF⟩ := I.fr
  rw [hop]
  refine PySem.W.cmp_K (op := op) (tb := .ref C) hr.units0 hF I.ok.mod.kin J J'.type (by unfold PySem.W.notFirst; simp) hm.at_ hm.fn ?_
  refine wpAny_mono (wpAny_call (SlX.run_at (us := [.ref a, .ref b]) (ws := [.ref a, .ref b]) F hr I.env0 pass0 I (.cons rfl (.cons rfl .nil)) q)) (fun w s' z => ?_) fun _ _ x => x
  obtain ⟨z', H', I', rz, qz⟩ := z
  exact SlX.cmpback rz ⟨z', H', I', rz, qz⟩
/-- x != y by the own == -/
def rNeO (C : Addr) (sp : Sp) : R2 := fun x y H Q => ∃ a dx fs b dy ws, x = V.ref a ∧ y = V.ref b ∧ H a = some (.ins C dx fs) ∧ H b = some (.ins C dy ws) ∧ sp [x, y] H (fun z H' => ∃ k, z = .bl k ∧ Q (.bl (!k)) H') E0
theorem op_neO (c : Cls X.K C) (hn : findIn X.K (.ref C) "__ne__" = some (some (.builtin "object.__ne__"))) (hm : Meth X.K C "__eq__" g) (F : FnR X.prog X.w X.K X.mg X.base CX0 n g sp)
    (hr : Room (n + 1) X.A) : OpR X (compareOp .NotEq) (rNeO C sp) := by
  intro pins s σ H x y v u Q I rx ry h
  obtain ⟨a, dx, fs, b, dy, ws, rfl, rfl, ha, hb, q⟩ := h
  cases (show v = Value.ref a from rx)
  cases (show u = Value.ref b from ry)
  obtain ⟨mA, O, _⟩ := ins_get I.hok ha
  obtain ⟨od, J, _⟩ := O.look
  obtain ⟨mB, O', _⟩ := ins_get I.hok hb
  obtain ⟨od', J', _⟩ := O'.look
  unfold compareOp
  refine ne_at I.kIn J J' c.po hn hm.at_ hm.fn (by have := hr.units; omega) ?_
  refine wpAny_mono (wpAny_call (SlX.run_at (us := [.ref a, .ref b]) (ws := [.ref a, .ref b]) F hr.in1 I.env0.in1 pass0 I (.cons rfl (.cons rfl .nil)) q)) (fun w s' z => ?_) fun _ _ x => x
  obtain ⟨z', H', I', rz, k, ek, qz⟩ := z
  subst ek
  exact ⟨k, rz, .bl (!k), H', I', rfl, qz⟩
end
end OW
end
section /- OW2 -/
set_option Elab.async false
set_option linter.all false
set_option maxRecDepth 100000
set_option maxHeartbeats 1000000
/-! Dicts whose keys are tuples: made by a comprehension, a key taken out; the order of lists of data. The comprehension after HandS.DictComp, there for ints and texts as keys. -/
namespace OW
open PySem PySem.Spec L2
open PyProof.Rows hiding St
section
variable {X : Cx} {pins : List (Addr × Obj)} {σ : L2.St} {H : Hp} {s : Shared} {E : Value → Shared → Prop} {D b : Addr} {kvs : List (List Key × V)} {k : List Key} {v : V} {u r : Value} {A : Around}
theorem setT {Q : Unit → Shared → Prop} (hu : A.units + 1 < cLine) (I : Inv X pins σ H s) (hD : H D = some (.dT kvs)) (hb : H b = some (.tup (k.map kV))) (hz : kvs.length < sizeLine)
    (ry : RelV (.ref b) u) (rv : RelV v r) (h : ∀ s', Inv X pins σ (upd H D (.dT (putK kvs k v))) s' → Q () s') : wpAny (model X.prog X.w) A (dictSet D u r) Q E s := by
  cases (show u = Value.ref b from ry)
  obtain ⟨z, hd, xs, rel, dd⟩ := dt_of I.hok hD
  have lx : xs.length ≤ sizeLine := (Paired.length rel) ▸ z
  have ln : (putK kvs k v).length ≤ sizeLine := by
    have := length_putK kvs k v
    omega
  refine wpAny_dictSet_heap (hsz := lx) (show A.units < cLine by omega) (key_of I.hok hb) dd fun h' dd' same => h _ ?_
  obtain ⟨q, es, ep, hq, c2, c3, c4, _, c5⟩ := dd'
  refine d_write I (by rw [hD]; exact True.intro) same ⟨q, hq⟩ ⟨ln, hd, _, (rel.put k hb rv).keeps fun c ys ec => ?_, q, es, ep, hq, c2, c3, c4, c5⟩
  rw [upd_ne (ne_of ec hD (fun z => nomatch z))]
  exact ec
theorem KT_drop {l : List (List Key × V)} {xs : List (List Key × Addr × Value)} (rel : KT H l xs) (k : List Key) : KT H (dropK l k) (withoutH xs k) := by
  unfold dropK withoutH
  induction rel with
  | nil => exact .nil
  | @cons p q ps qs h t ih =>
    by_cases e : p.1 = k
    · rw [List.filter_cons_of_neg (by simp [e]), List.filter_cons_of_neg (by simp [← h.1, e])]
      exact ih
    · rw [List.filter_cons_of_pos (by simp [e]), List.filter_cons_of_pos (by simp [← h.1, e])]
      exact .cons h ih
theorem delT {Q : Unit → Shared → Prop} (hu : A.units + 1 < cLine) (I : Inv X pins σ H s) (hD : H D = some (.dT kvs)) (hb : H b = some (.tup (k.map kV))) (l : (valV kvs k).isSome = true)
    (ry : RelV (.ref b) u) (h : ∀ s', Inv X pins σ (upd H D (.dT (dropK kvs k))) s' → Q () s') : wpAny (model X.prog X.w) A (delItem (.ref D) u) Q E s := by
  cases (show u = Value.ref b from ry)
  obtain ⟨z, hd, xs, rel, dd⟩ := dt_of I.hok hD
  have lx : xs.length ≤ sizeLine := (Paired.length rel) ▸ z
  have ln : (dropK kvs k).length ≤ sizeLine := Nat.le_trans (dropK_le kvs k) z
  have hp : ((atKey xs k).map (·.2)).isSome = true := by rw [← (rel.val k).isSome_eq]; exact l
  rw [Option.isSome_map] at hp
  obtain ⟨p, ep⟩ := Option.isSome_iff_exists.mp hp
  refine wpAny_delItem_heap (hsz := lx) (tupleKind_room_in1 hu) (key_of I.hok hb) hd dd ep fun h' dd' same => h _ ?_
  obtain ⟨q, es, ep, hq, c2, c3, c4, _, c5⟩ := dd'
  refine d_write I (by rw [hD]; exact True.intro) same ⟨q, hq⟩ ⟨ln, hd, _, KT.keeps (KT_drop rel k) fun c ys ec => ?_, q, es, ep, hq, c2, c3, c4, c5⟩
  rw [upd_ne (ne_of ec hD (fun z => nomatch z))]
  exact ec
end
/-- del d[k], the key a tuple that is there -/
def sDelT (tdd ty : TE) : TS := fun D σ H => tdd σ H fun x H1 => ty σ H1 fun y H2 => ∃ a kvs k b, x = V.ref a ∧ y = V.ref b ∧ H2 a = some (.dT kvs) ∧ H2 b = some (.tup (k.map kV)) ∧ (valV kvs k).isSome = true ∧ D.nx σ (upd H2 a (.dT (dropK kvs k)))
theorem ps_delT {X : Cx} {o i : Expr} {tdd ty : TE} {tpos pos : Pos} (hu : X.A.units + 1 < cLine) (ho : PE X o tdd) (hi : PE X i ty) : PS X (.Delete [.Subscript o i tpos] pos) (sDelT tdd ty) := by
  refine ⟨fun pins s σ H D I h => ?_⟩
  refine wpAny_Delete (wpAny_deleteEach_cons (wpAny_delete_Subscript (thn (ho.run pins s σ H _ I h) fun u s1 ⟨x, H1, I1, rx, q1⟩ => thn (hi.run pins s1 σ H1 _ I1 q1) fun iv s2 ⟨y, H2, I2, ry, a, kvs, k, b, ex, ey, e, eb, l, q2⟩ => ?_)))
  subst ex ey
  cases (show u = Value.ref a from rx)
  exact delT hu I2 e eb l ry fun s3 I3 => wpAny_deleteEach_nil ⟨σ, _, I3, q2⟩
section
variable {X : Cx}
/-- {k: v for target in iter if ..}, the keys tuples -/
def tDcT (wi : TI) (g : TG) (tt : TT) (tk tv : TE) (vs : List Nat) : TE := fun σ H Q => wi σ H fun J H1 => ∀ D, H1 D = none → ∃ W : Nat → Nat → Hp → Prop, (∃ m, W 0 m (upd H1 D (.dT []))) ∧ ∀ i m H, W i m H →
  (J.stop i H ∧ Q (.ref D) H) ∨ (J.go i H ∧ ∃ Nx : Hp → Prop, (∀ H', Nx H' → ∃ m', m' < m ∧ W (i + 1) m' H') ∧ ∀ x H', J.yld i H x H' → g x (wipe σ vs) H' fun σ2 H2 => wipe σ2 vs = wipe σ vs ∧ tt σ2 H2 fun b H3 =>
    if b = true then tk σ2 H3 fun y H4 => tv σ2 H4 fun z H5 => ∃ kvs k b, y = V.ref b ∧ H5 D = some (.dT kvs) ∧ H5 b = some (.tup (k.map kV)) ∧ kvs.length < sizeLine ∧ Nx (upd H5 D (.dT (putK kvs k z))) else Nx H3)
theorem dcT_core {pins : List (Addr × Obj)} {s : Shared} {σ : St} {H : Hp} {Q : VK} {kxp vxp tg iter : Expr} {ifs : List Expr} {scope : Scope} {own : List (Str × Nat)} {pos pos' : Pos} {wi : TI} {g : TG} {tt : TT} {tk tv : TE} {use : Option (Value → Sem Unit)} {Qf : Value → Shared → Prop}
    (hu : X.A.units + 1 < cLine) (hc : X.calm = true) (hN : X.N.Nodup) (I : Inv X pins σ H s) (hi : PI X tg iter wi) (ok : BlkOk X.N X.env.scope scope own)
    (hg : ∀ (s : Shared) (H : Hp) (C : Addr) (cl : List (Str × Addr)) (fp : List Addr), PG (X.blk s H scope (compEnvC scope cl C X.env) fp) tg g) (ht : ∀ (s : Shared) (H : Hp) (C : Addr) (cl : List (Str × Addr)) (fp : List Addr), PTs (X.blk s H scope (compEnvC scope cl C X.env) fp) ifs tt)
    (hk : ∀ (s : Shared) (H : Hp) (C : Addr) (cl : List (Str × Addr)) (fp : List Addr), PE (X.blk s H scope (compEnvC scope cl C X.env) fp) kxp tk)
    (he : ∀ (s : Shared) (H : Hp) (C : Addr) (cl : List (Str × Addr)) (fp : List Addr), PE (X.blk s H scope (compEnvC scope cl C X.env) fp) vxp tv) (hs : ∀ x, foldedSetIterable iter X.env x = pure x)
    (h : tDcT wi g tt tk tv (own.map (·.2)) σ H Q)
    (hRR : ∀ D C s' m H', Inv X pins σ H' s' → Q (.ref D) H' → s'.heap.Ns C m → FpOk X pins H' C → compPost (model X.prog X.w) X.A X.xe use Qf (.ref D) C (.ok .next) s') :
    wpAny (model X.prog X.w) X.A (comprehension (.DictComp kxp vxp [⟨tg, iter, ifs, 0⟩] scope pos) scope X.env pos' newDict false (eval iter X.env) use) Qf X.xe s := by
  have hfree : ∀ y ∈ scope.names, y.2 = .free → ∃ c, X.env.cells.lookup y.1 = some c := fun y hy e => by
    rcases ok.free y hy e with k | k
    · exact I.ok.has _ (.inl k)
    · exact I.ok.has _ (.inr k)
  refine wpAny_comprehension_free (use := use) rfl hs (closure_ok hfree) ok.kind (fun y hy e => by rw [ok.uniq y hy, e])
    (thn (hi.run pins s σ H _ I h) fun xv s1 hx => thn hx fun itv tb h2 => ?_)
  obtain ⟨it, fp, tn, J, H2, e, J2, T, w2, g2, q⟩ := h2
  subst e
  refine wpAny_newObj_type (newEnv_comp ?_)
  generalize hD : tb.heap.objs.size = D
  have hDn : H2 D = none := J2.hok.fresh (Nat.le_of_eq hD)
  obtain ⟨W, ⟨m0, w0⟩, turn⟩ := q D hDn
  
  generalize hs3 : ({ tb with heap := tb.heap.push { cls := .type "dict", data := .dict #[] } } : Shared) = tc
  have J3 : Inv X pins σ (upd H2 D (.dT [])) tc := by
    rw [← hs3]
    refine J2.laid (t' := tb.toks) (fun b o e => Heap.get?_push_of_some _ e) (Nat.le_of_eq hD) ?_
    rw [← hD]
    exact dt_empty tb.heap J2.big
  have e3 : tc.heap = tb.heap.push { cls := .type "dict", data := .dict #[] } := by rw [← hs3]
  have below : ∀ b ∈ fp, b < tb.heap.objs.size := fun b hb => by
    obtain ⟨o, e, _⟩ := T.obj _ _ w2 b hb
    exact Heap.lt_size e
  have g3 : ∀ b ∈ fp, FpOk X pins (upd H2 D (.dT [])) b ∧ b < tc.heap.objs.size := fun b hb => by
    have hlt := below b hb
    refine ⟨⟨?_, (g2 b hb).2⟩, by rw [e3, Heap.size_push]; exact Nat.lt_succ_of_lt hlt⟩
    rw [upd_ne (by rw [← hD]; exact Nat.ne_of_lt hlt)]
    exact (g2 b hb).1
  have w3 : tn 0 tc.heap := T.keep _ _ _ w2 fun b _ o e => by rw [e3]; exact Heap.get?_push_of_some _ e
  have J4 := block_start J3 ok hN g3
  have qg := hg tc (upd H2 D (.dT [])) tc.heap.objs.size (cellsFrom (tc.heap.objs.size + 1) scope.names (cloFrom X.env.cells scope.names [])) fp
  have qt := ht tc (upd H2 D (.dT [])) tc.heap.objs.size (cellsFrom (tc.heap.objs.size + 1) scope.names (cloFrom X.env.cells scope.names [])) fp
  have qk := hk tc (upd H2 D (.dT [])) tc.heap.objs.size (cellsFrom (tc.heap.objs.size + 1) scope.names (cloFrom X.env.cells scope.names [])) fp
  have qe := he tc (upd H2 D (.dT [])) tc.heap.objs.size (cellsFrom (tc.heap.objs.size + 1) scope.names (cloFrom X.env.cells scope.names [])) fp
  show codeAny _ _ (.compStart (.DictComp kxp vxp [⟨tg, iter, ifs, 0⟩] scope pos) 0 (.ref it) (.ref D) (compEnvC scope (cellsFrom (tc.heap.objs.size + 1) scope.names (cloFrom X.env.cells scope.names [])) tc.heap.objs.size X.env)) (compPost (model X.prog X.w) X.A X.xe use Qf (.ref D) tc.heap.objs.size) { tc with heap := pushCells (tc.heap.push { cls := .type "dict", data := .dict #[] }) scope.names }
  have bare0 : ∀ b ∈ fp, (upd H2 D (.dT [])) b = none := fun b hb => (g3 b hb).1.1
  generalize henv : compEnvC scope (cellsFrom (tc.heap.objs.size + 1) scope.names (cloFrom X.env.cells scope.names [])) tc.heap.objs.size X.env = ce at J4 qg qt qk qe ⊢
  have cL : ce.locals = tc.heap.objs.size := by subst henv; rfl
  generalize hH3 : upd H2 D (.dT []) = H3 at J3 J4 qg qt qk qe w0 bare0 g3
  generalize hs4 : ({ tc with heap := pushCells (tc.heap.push { cls := .type "dict", data := .dict #[] }) scope.names } : Shared) = td2 at J4 ⊢
  have w4 : tn 0 td2.heap := T.keep _ _ _ w3 fun b _ o e => by rw [← hs4]; exact pushCells_keeps _ _ _ _ (Heap.get?_push_of_some _ e)
  have stat : ∀ {σ' : St} {H' : Hp} {s' : Shared}, Inv (X.blk tc H3 scope ce fp) [] σ' H' s' → (∀ b ∈ fp, H' b = none) → ∀ b ∈ fp, FpOk (X.blk tc H3 scope ce fp) [] H' b := fun {σ' H' s'} I' hn b hb =>
    ⟨hn b hb, (I'.ok.exf b hb).1, I'.ok.exfs b hb, .inl hb, fun x c e => (I'.ok.exf b hb).2 x c e, fun p hp => absurd (show p ∈ ([] : List (Addr × Obj)) ++ [] from hp) (by simp)⟩
  have loop : codeAny (model X.prog X.w) X.A (.compLoop (.DictComp kxp vxp [⟨tg, iter, ifs, 0⟩] scope pos) 0 (.ref it) (.ref D) ce) (compPost (model X.prog X.w) X.A X.xe use Qf (.ref D) tc.heap.objs.size) td2 := by
    refine compLoop_anyD (fun n s' => ∃ i H', Inv (X.blk tc H3 scope ce fp) [] (wipe σ (own.map (·.2))) H' s' ∧ tn i s'.heap ∧ (∀ b ∈ fp, H' b = none) ∧ W i n H') ?_ m0 ⟨0, H3, J4, w4, bare0, w0⟩
    rintro n te5 ⟨i, H5, J5, w5x, n5, w5⟩
    rcases turn i n H5 w5 with ⟨stop, qq⟩ | ⟨go, Nx, hNx, step⟩
    · have tdn := T.done (X.blk tc H3 scope ce fp) rfl rfl rfl hc i [] te5 _ H5 (fun _ _ => False) J5 (stat J5 n5) w5x stop
      refine thnF tdn fun r te6 ⟨hr, J6⟩ => ?_
      subst hr
      
      have J7 : Inv X pins σ H5 te6 := J3.call' (ch := fp) J6.os J6.base J6.hok J6.bare fun b hb => ⟨(g3 b hb).1.2.2.2.1, (g3 b hb).1.2.1, (g3 b hb).1.2.2.2.2.1, (g3 b hb).1.2.2.2.2.2⟩
      have nC : H5 tc.heap.objs.size = none := by
        have z : H5 ce.locals = none := J6.free
        rw [cL] at z
        exact z
      obtain ⟨m, hn, _⟩ := J6.loc
      have hn : te6.heap.Ns ce.locals m := hn
      rw [cL] at hn
      exact hRR D tc.heap.objs.size te6 m H5 J7 qq hn (J3.fpOk (Nat.le_refl _) nC)
    · have tin := T.item (X.blk tc H3 scope ce fp) rfl rfl rfl hc i [] te5 _ H5 (fun _ _ => False) J5 (stat J5 n5) w5x go
      refine thnF tin fun r te6 ⟨u, hr, h6⟩ => ?_
      subst hr
      refine thnF h6 fun _ te7 ⟨x, H7, J7, r7, y7, w7, n7⟩ => ?_
      have J7' := J7.pinned (stat J7 n7) (T.obj _ _ w7)
      refine thnF (qg.run _ te7 _ H7 x u _ J7' r7 (step x H7 y7)) fun _ te8 ⟨σ8, H8, J8, hw8, q8⟩ => ?_
      refine thnF (qt.run _ te8 σ8 H8 _ J8 q8) fun b te9 ⟨H9, J9, q9⟩ => ?_
      
      have fin : ∀ {s' : Shared} {H' : Hp}, Inv (X.blk tc H3 scope ce fp) ([] ++ pinsAt fp te7.heap) σ8 H' s' → Nx H' → ∃ m, m < n ∧ ∃ i H', Inv (X.blk tc H3 scope ce fp) [] (wipe σ (own.map (·.2))) H' s' ∧ tn i s'.heap ∧ (∀ b ∈ fp, H' b = none) ∧ W i m H' := fun {s' H'} I' nx => by
        obtain ⟨m', hm, w'⟩ := hNx H' nx
        have pin' : ∀ b ∈ fp, ∀ o, te7.heap.get? b = some o → s'.heap.get? b = some o ∧ H' b = none := fun b hb o e =>
          let z := I'.pin (b, o) (List.mem_append_right _ (List.mem_append_right _ (mem_pinsAt hb e)))
          ⟨z.1, z.2.1⟩
        have hl : (wipe σ (own.map (·.2))).length = σ8.length := by rw [← hw8, wipe_length]
        refine ⟨m', hm, i + 1, H', (I'.unpinned (pins := [])).weak hl (fun j v e => ?_), T.keep _ _ _ w7 fun b hb o e => (pin' b hb o e).1, fun b hb => ?_, w'⟩
        · rw [← hw8] at e
          exact (wipe_some e).1
        · obtain ⟨o, e, _⟩ := T.obj _ _ w7 b hb
          exact (pin' b hb o e).2
      cases b with
      | false =>
        simp only [Bool.false_eq_true, if_false] at q9 ⊢
        exact fin J9 q9
      | true =>
        simp only [if_true] at q9 ⊢
        refine thnF (qk.run _ te9 σ8 H9 _ J9 q9) fun z te10 ⟨yk, H10, J10, r10, q10⟩ => ?_
        refine thnF (qe.run _ te10 σ8 H10 _ J10 q10) fun z2 te11 ⟨yv, H11, J11, r11, kvs, k, b, ek, hD11, hb11, hz11, nx⟩ => ?_
        subst ek
        exact setT (X := X.blk tc H3 scope ce fp) hu J11 hD11 hb11 hz11 r10 r11 fun te12 J12 => fin J12 nx
  exact codeAny_compStart_dict loop (T.self X.A 0 _ _ _ w4 loop)

theorem pe_dcT {kxp vxp tg iter : Expr} {ifs : List Expr} {scope : Scope} {own : List (Str × Nat)} {pos : Pos} {wi : TI} {g : TG} {tt : TT} {tk tv : TE} (hu : X.A.units + 1 < cLine) (hc : X.calm = true) (hN : X.N.Nodup) (hi : PI X tg iter wi) (ok : BlkOk X.N X.env.scope scope own)
    (hg : ∀ (s : Shared) (H : Hp) (C : Addr) (cl : List (Str × Addr)) (fp : List Addr), PG (X.blk s H scope (compEnvC scope cl C X.env) fp) tg g) (ht : ∀ (s : Shared) (H : Hp) (C : Addr) (cl : List (Str × Addr)) (fp : List Addr), PTs (X.blk s H scope (compEnvC scope cl C X.env) fp) ifs tt)
    (hk : ∀ (s : Shared) (H : Hp) (C : Addr) (cl : List (Str × Addr)) (fp : List Addr), PE (X.blk s H scope (compEnvC scope cl C X.env) fp) kxp tk)
    (he : ∀ (s : Shared) (H : Hp) (C : Addr) (cl : List (Str × Addr)) (fp : List Addr), PE (X.blk s H scope (compEnvC scope cl C X.env) fp) vxp tv) (hs : ∀ x, foldedSetIterable iter X.env x = pure x := by intro _; rfl) :
    PE X (.DictComp kxp vxp [⟨tg, iter, ifs, 0⟩] scope pos) (tDcT wi g tt tk tv (own.map (·.2))) := by
  refine ⟨fun pins s σ H Q I h => ?_⟩
  rw [arm_eval_DictComp]
  refine dcT_core hu hc hN I hi ok hg ht hk he hs h fun D C s' m H' I' q hn f => ⟨m, hn, fun h'' sb => ?_⟩
  obtain ⟨f0, f1, g2, g3, f4, f5⟩ := f
  exact ⟨.ref D, H', I'.turned (t' := s'.toks) (fun b o hb e => (sb.2 b hb).trans e) f0 f1 g3 f4 f5, rfl, q⟩
end
section
variable {X : Cx}
/-- d < e, d >= e of data that are alike -/
def rLtD (K : PySem.W.Frag) : R2 := fun x y H Q => ∃ d e, Dp K H x d ∧ Dp K H y e ∧ PySem.W.alike d e = true ∧ d ≠ .none ∧ min d.depth e.depth ≤ 60 ∧ Q (.bl (PySem.W.dataLt d e)) H
def rGeD (K : PySem.W.Frag) : R2 := fun x y H Q => ∃ d e, Dp K H x d ∧ Dp K H y e ∧ PySem.W.alike d e = true ∧ d ≠ .none ∧ min d.depth e.depth ≤ 60 ∧ Q (.bl (!PySem.W.dataLt d e)) H
theorem op_ltD (hu : X.A.units + 64 < cLine) : OpR X (compareOp .Lt) (rLtD X.K) := by
  intro pins s σ H x y v u Q I rx ry h
  obtain ⟨d, e, hd, he, al, nn, dp, q⟩ := h
  obtain ⟨as, r1⟩ := Dp.reads I d x v hd rx
  obtain ⟨bs, r2⟩ := Dp.reads I e y u he ry
  exact PySem.W.lt_data r1 r2 al nn (by omega) ⟨.bl _, H, I, rfl, q⟩
theorem op_geD (hu : X.A.units + 64 < cLine) : OpR X (compareOp .GtE) (rGeD X.K) := by
  intro pins s σ H x y v u Q I rx ry h
  obtain ⟨d, e, hd, he, al, nn, dp, q⟩ := h
  obtain ⟨as, r1⟩ := Dp.reads I d x v hd rx
  obtain ⟨bs, r2⟩ := Dp.reads I e y u he ry
  exact PySem.W.ge_data r1 r2 al nn (by omega) ⟨.bl _, H, I, rfl, q⟩
end
end OW
end
section /- OW3 -/
set_option Elab.async false
set_option linter.all false
set_option maxRecDepth 100000
set_option maxHeartbeats 1000000
/-! y = {k: v for ..}, the keys tuples, y a local. -/
namespace OW
open PySem PySem.Spec L2
open PyProof.Rows hiding St
section
variable {X : Cx}
theorem swD {kx vx : Expr} {gs : List Comprehension} {scope : Scope} {pos py : Pos} {y : Str} {l : Nat} {env : Env} (hk : env.scope.kind = .function) (hy : env.scope.names.lookup y = some .local) (hl : (py.line == pos.line) = true)
    (ha : (scope.names.any fun (n, k) => n == y && (k == .local || k == .cell)) = false) : swapsWith (.DictComp kx vx gs scope pos) (some (.Name y py)) l env = pure true := by
  have hb : env.blockKind = .function := by
    unfold Env.blockKind
    rw [hk]
    rfl
  have ky : env.kindOf y = some .local := hy
  unfold swapsWith
  simp only [hb, ky, ha, Expr.pos, hl]
  rfl
theorem ps_setDcT {i : Nat} {y : Str} {py : Pos} {kxp vxp tg iter : Expr} {ifs : List Expr} {scope : Scope} {own : List (Str × Nat)} {pos spos : Pos} {wi : TI} {g : TG} {tt : TT} {tk tv : TE} (hu : X.A.units + 1 < cLine) (hc : X.calm = true) (hN : X.N.Nodup) (hy : X.N[i]? = some y) (hyl : X.env.scope.names.lookup y = some .local)
    (hsw : swapsWith (.DictComp kxp vxp [⟨tg, iter, ifs, 0⟩] scope pos) (some (.Name y py)) spos.line X.env = pure true) (hi : PI X tg iter wi) (ok : BlkOk X.N X.env.scope scope own)
    (hg : ∀ (s : Shared) (H : Hp) (C : Addr) (cl : List (Str × Addr)) (fp : List Addr), PG (X.blk s H scope (compEnvC scope cl C X.env) fp) tg g) (ht : ∀ (s : Shared) (H : Hp) (C : Addr) (cl : List (Str × Addr)) (fp : List Addr), PTs (X.blk s H scope (compEnvC scope cl C X.env) fp) ifs tt)
    (hk : ∀ (s : Shared) (H : Hp) (C : Addr) (cl : List (Str × Addr)) (fp : List Addr), PE (X.blk s H scope (compEnvC scope cl C X.env) fp) kxp tk)
    (he : ∀ (s : Shared) (H : Hp) (C : Addr) (cl : List (Str × Addr)) (fp : List Addr), PE (X.blk s H scope (compEnvC scope cl C X.env) fp) vxp tv) (hs : ∀ x, foldedSetIterable iter X.env x = pure x := by intro _; rfl) :
    PS X (.Assign [.Name y py] (.DictComp kxp vxp [⟨tg, iter, ifs, 0⟩] scope pos) spos) (tAsg (tDcT wi g tt tk tv (own.map (·.2))) (gName i)) := by
  refine ⟨fun pins s σ H D I h => ?_⟩
  rw [exec_Assign_Name_used _ _ _ _ hsw]
  refine wpAny_bind (wpAny_standAt (wpAny_bind ?_))
  show wpAny _ X.A (do let _ ← comprehension (.DictComp kxp vxp [⟨tg, iter, ifs, 0⟩] scope pos) scope X.env (firstIterPos [⟨tg, iter, ifs, 0⟩] pos) newDict false (eval iter X.env) (some (assign (.Name y py) X.env))) _ _ s
  have h : tDcT wi g tt tk tv (own.map (·.2)) σ H (fun x H1 => gName i x σ H1 D.nx) := h
  refine wpAny_bind (thn (dcT_core (Qf := fun _ s' => SP X pins D .next s') hu hc hN I hi ok hg ht hk he hs h fun L C s' m H' J q hn f => ?_) fun _ s' hq => wpAny_pure (wpAny_pure hq))
  show wpAny _ _ (assign (.Name y py) X.env (.ref L)) _ _ _
  refine wpAny_assign_Name (store_ok2 (v := V.ref L) J hN hy (.inl hyl) rfl (fun s2 J2 ⟨a, sb, ha⟩ => ?_) (.inr hyl))
  obtain ⟨f0, f1, f2, f3, f4, f5⟩ := f
  have ne : C ≠ a := by
    rcases ha with z | z
    · rw [z]
      exact f1
    · exact fun e => f4 y a z e.symm
  exact ⟨m, hn.sameBut sb ne, fun h3 sb3 => ⟨_, H', J2.turned (t' := s2.toks) (fun b o hb e => (sb3.2 b hb).trans e) f0 f1 f3 f4 f5, q⟩⟩
end
end OW
end
section /- EV -/
set_option Elab.async false
set_option linter.all false
set_option maxRecDepth 100000
set_option maxHeartbeats 1000000
/-! Calls by positional promises; what a reading evaluates to, told by a relation of value and heaps. -/
namespace EV
open PySem PySem.Spec L2 Evl
open PyProof.Rows hiding St
/-- a promise of a def that lets nothing out -/
abbrev Pm := List V → Hp → VK → Prop
abbrev Pm.sp (p : Pm) : Sp := fun vs H Q _ => p vs H Q
abbrev FnP (P : Program) (w : World) (K : PySem.W.Frag) (mg : Str → Option Value) (base : Heap) (k : Nat) (f : Addr) (p : Pm) : Prop := FnR P w K mg base CX0 k f p.sp
abbrev cx (P : Program) (w : World) (K : PySem.W.Frag) (mg : Str → Option Value) (base : Heap) (N : List Str) (qual : Str) (scope : Scope) (f : Addr) (cdv : Value) (A : Around) (outer : List Env) (s : Shared) (H : Hp) : Cx :=
  (cxOf CX0 P w K mg base N qual scope f cdv A outer s H E0).nox
section
variable {P : Program} {w : World} {K : PySem.W.Frag} {mg : Str → Option Value} {base : Heap}
/-- a def without defaults, by its body -/
theorem okR {x qual : Str} {params : Arguments} {body : List Stmt} {scope : Scope} {f : Addr} {fd : FuncData} {N ps : List Str} {k : Nat} {p : Pm} (F : FunD K x qual params body scope [] [] f fd) (S : FnScope N ps scope)
    (hb : ∀ (kV doc pm : Value) (an : Option Addr) (cdv ct : Value) (us : List Value), us.length = ps.length → bindArgs (PySem.W.fnOf x qual params body scope .none kV doc pm an cdv ct) ⟨us, []⟩ = pure (ps.zip us))
    (len : ∀ vs H Q, p vs H Q → vs.length = ps.length)
    (hbody : ∀ (cdv : Value) (A : Around) (outer : List Env) (s : Shared) (H : Hp) (vs : List V) (Q : VK), Room k (A.deeper (envOfC qual scope s.heap.objs.size f cdv)) → p vs H Q →
      ∃ t, PSs (cx P w K mg base N qual scope f cdv A outer s H) body t ∧ t { nx := fun _ H' => Q .non H', rt := Q } (start N vs) H) : FnP P w K mg base (k + 1) f p := by
  have G : FnOk P w K mg base CX0 (k + 1) f fd ps p.sp := F.ok S (fun vs H Q _ h => len vs H Q h) fun cdv A outer s H vs Q E hr h => by
    obtain ⟨t, h1, h2⟩ := hbody cdv A outer s H vs Q hr h
    exact ⟨t, PSs.nox (X := cxOf CX0 P w K mg base N qual scope f cdv A outer s H E) h1, h2⟩
  intro A outer s H us vs Q E hr e0 r hs
  have hl : us.length = ps.length := by rw [← r.length]; exact len _ _ _ hs
  have bd := F.bindsN hb s us (e0.mod.kin.keeps fun b o e => (e0.bs b o e).1) (by rw [List.append_nil]; exact hl)
  rw [List.append_nil] at bd
  exact G.run A outer s H ⟨us, []⟩ us vs Q E hr e0 bd r hs
end
def tCallR (p : Pm) (t : TA) : TE := fun σ H Q => t σ H fun vs H1 => p vs H1 Q
/-- o.m() -/
def tM0 (C : Addr) (m : Str) (p : Pm) (ta : TE) : TE := fun σ H Q => ta σ H fun x H1 => ∃ a dx fs, x = .ref a ∧ H1 a = some (.ins C dx fs) ∧ fs.lookup m = none ∧ p [x] H1 Q
section
variable {X : Cx} {k : Nat} {f C : Addr} {p : Pm} {x m : Str} {ps pos apos : Pos} {e o : Expr} {es : List Expr} {ta : TE} {t : TA}
theorem pe_cR (F : FnP X.prog X.w X.K X.mg X.base k f p) (hr : Room k X.A) (hg : Gl X x) (hm : X.mg x = some (.ref f)) (hk : PySem.W.keepIn X.K (.ref f) = true) (ha : PA X (e :: es) t) (hdb : (x == ("__debug__" : Str)) = false := by decide)
    (he : starEach (e :: es) X.env = (false, eval e X.env) :: starEach es X.env := by rfl) (hpl : (backTo pos (starEach es X.env)).any (·.1) = false := by rfl) : PE X (.Call (.Name x ps) (e :: es) [] pos) (tCallR p t) := by
  refine ⟨fun pins s σ H Q I h => wpAny_Call_Name_kw (ld_glob I hg hm ?_ hdb)⟩
  exact PySem.W.callWith_K (h₀ := X.base) I.ok.mod.kin hk (thn (ha.run pos pins s σ H _ I h) fun us s1 ⟨vs, H1, I1, r, q⟩ => ⟨I1.kIn, wpAny_call (run_fnR (E := E0) F hr pass0 I1 r q)⟩) he hpl
theorem pe_m0 {pl : Sem Bool} (ho : PE X o ta) (c : Cls X.K C) (hm : Meth X.K C m f) (F : FnP X.prog X.w X.K X.mg X.base k f p) (hr : Room k X.A)
    (ht : eval (.Call (.Attribute o m apos) [] [] pos) X.env = (do
      let ov ← eval o X.env
      standAt apos.atName
      let (f, first) ← holding [ov] (getMethod ov m pl)
      callWith pos f first (backTo pos (starEach [] X.env)) (backToKw pos (keywordEach [] X.env))) := by rfl) : PE X (.Call (.Attribute o m apos) [] [] pos) (tM0 C m p ta) := by
  refine ⟨fun pins s σ H Q I h => PySem.W.methodCall_KW (pl := pl) (thn (ho.run pins s σ H _ I h) fun u s1 ⟨y, H1, I1, ry, a, dx, fs, ey, ea, l, q⟩ => ?_) ht⟩
  subst ey
  obtain rfl : u = Value.ref a := ry
  refine getmeth_ok I1 ea c hm l ?_
  exact PySem.W.callWith_K0 (first := [.ref a]) I1.kIn hm.kp (wpAny_call (run_fnR (us := [.ref a]) (vs := [.ref a]) (E := E0) F hr pass0 I1 (.cons rfl .nil) q))
/-- o.m(e, ..) -/
theorem pe_mR {pl : Sem Bool} (ho : PE X o ta) (c : Cls X.K C) (hm : Meth X.K C m f) (F : FnP X.prog X.w X.K X.mg X.base k f p) (hr : Room k X.A) (ha : PA X (e :: es) t)
    (hst : starEach (e :: es) X.env = (false, eval e X.env) :: starEach es X.env := by rfl) (hpl : (backTo pos (starEach es X.env)).any (·.1) = false := by rfl)
    (ht : eval (.Call (.Attribute o m apos) (e :: es) [] pos) X.env = (do
      let ov ← eval o X.env
      standAt apos.atName
      let (f, first) ← holding [ov] (getMethod ov m pl)
      callWith pos f first (backTo pos (starEach (e :: es) X.env)) (backToKw pos (keywordEach [] X.env))) := by rfl) :
    PE X (.Call (.Attribute o m apos) (e :: es) [] pos) (tMethR C m p.sp E0 ta t) := pe_methR (pl := pl) ho c hm F hr pass0 ha hst hpl ht
end

/-! ### relations -/
abbrev Rel := V → Hp → Hp → Prop
/-- te gives some v, what stood stands, and P v (the heap ahead) (the heap behind) -/
def EvP (te : TE) (σ : L2.St) (H : Hp) (P : Rel) : Prop := ∀ H1, Ex H H1 → ∀ Q : VK, (∀ v H2, Ex H1 H2 → P v H1 H2 → Q v H2) → te σ H1 Q
def PmP (p : Pm) (vs : List V) (H : Hp) (P : Rel) : Prop := ∀ H1, Ex H H1 → ∀ Q : VK, (∀ v H2, Ex H1 H2 → P v H1 H2 → Q v H2) → p vs H1 Q
abbrev Is (z : V) : Rel := fun v _ _ => v = z
/-- a new object -/
def NewO (o : Hp → HO → Prop) : Rel := fun v H H' => ∃ p u, v = .ref p ∧ H p = none ∧ H' p = some u ∧ o H' u
section
variable {K : PySem.W.Frag} {σ : L2.St} {H H' : Hp} {ta tb te : TE} {t : TA} {p : Pm} {vs : List V} {P : Rel} {C dx a : Addr} {fs : List (Str × V)} {m : Str} {v : V}
theorem EvP.ev {z : V} (h : EvP te σ H (Is z)) : Ev te σ H z := fun H1 e Q q => h H1 e Q fun v H2 e2 ev => by rw [show v = z from ev]; exact q H2 e2
theorem evp_of {z : V} (h : Ev te σ H z) : EvP te σ H (Is z) := fun H1 e Q q => h H1 e Q fun H2 e2 => q z H2 e2 rfl
theorem evp_mono (h : EvP te σ H P) (e : Ex H H') : EvP te σ H' P := fun H1 e1 Q q => h H1 (e.trans e1) Q q
theorem pmp_mono (h : PmP p vs H P) (e : Ex H H') : PmP p vs H' P := fun H1 e1 Q q => h H1 (e.trans e1) Q q
theorem evp_c (h : EvA t σ H vs) (hp : PmP p vs H P) (hs : ∀ v H1 H2 H3, Ex H1 H2 → P v H2 H3 → P v H1 H3 := by exact fun _ _ _ _ _ h => h) : EvP (tCallR p t) σ H P := fun H1 e Q q =>
  h H1 e _ fun H2 e2 => hp H2 (e.trans e2) Q fun v H3 e3 r => q v H3 (e2.trans e3) (hs v H1 H2 H3 e2 r)
theorem ev_c' {z : V} (h : EvA t σ H vs) (hp : PmP p vs H (Is z)) : Ev (tCallR p t) σ H z := (evp_c h hp).ev
theorem evp_m0 (ho : Ev ta σ H (.ref a)) (hi : H a = some (.ins C dx fs)) (hl : fs.lookup m = none) (hp : PmP p [.ref a] H P) (hs : ∀ v H1 H2 H3, Ex H1 H2 → P v H2 H3 → P v H1 H3 := by exact fun _ _ _ _ _ h => h) : EvP (tM0 C m p ta) σ H P := fun H1 e Q q =>
  ho H1 e _ fun H2 e2 => ⟨a, dx, fs, rfl, (e.trans e2) _ _ hi, hl, hp H2 (e.trans e2) Q fun v H3 e3 r => q v H3 (e2.trans e3) (hs v H1 H2 H3 e2 r)⟩
theorem evp_mR (ho : Ev ta σ H (.ref a)) (hi : H a = some (.ins C dx fs)) (hl : fs.lookup m = none) (h : EvA t σ H vs) (hp : PmP p (.ref a :: vs) H P) (hs : ∀ v H1 H2 H3, Ex H1 H2 → P v H2 H3 → P v H1 H3 := by exact fun _ _ _ _ _ h => h) :
    EvP (tMethR C m p.sp E0 ta t) σ H P := fun H1 e Q q =>
  ho H1 e _ fun H2 e2 => ⟨a, dx, fs, rfl, (e.trans e2) _ _ hi, hl, h H2 (e.trans e2) _ fun H3 e3 => hp H3 ((e.trans e2).trans e3) Q fun v H4 e4 r => q v H4 ((e2.trans e3).trans e4) (hs v H1 H3 H4 (e2.trans e3) r)⟩
theorem NewO.back {o : Hp → HO → Prop} : ∀ v H1 H2 H3, Ex H1 H2 → NewO o v H2 H3 → NewO o v H1 H3 := fun _ _ _ _ e ⟨p, u, ev, hn, hp, ho⟩ => ⟨p, u, ev, fresh_back e hn, hp, ho⟩
theorem ev_fld {f : Str} (ho : Ev ta σ H (.ref a)) (hi : H a = some (.ins C dx fs)) (c : Cls K C) (n : NoAttr K C f) (l : fs.lookup f = some v) : Ev (tFld K ta f) σ H v := fun H1 e Q q =>
  ho H1 e _ fun H2 e2 => ⟨a, C, dx, fs, v, rfl, (e.trans e2) _ _ hi, c, n, l, q H2 e2⟩
/-- isinstance(x, c) -/
theorem ev_isi {x c : V} {ty u : Value} {b : Bool} (h : EvA t σ H [x, c]) (k : ClsV c u) (tx : ∀ H1, Ex H H1 → TyX K H1 x ty) (hb : PySem.W.kitOne K ty u = some b) : Ev (tCB (rIsi K) t) σ H (.bl b) := fun H1 e Q q =>
  h H1 e _ fun H2 e2 => ⟨x, c, ty, u, b, rfl, k, tx H2 (e.trans e2), hb, q H2 e2⟩
variable {D : Ends} {tu tz : TS} {i : Nat}
theorem s_asgP (h : EvP te σ H P) (k : ∀ v H1, Ex H H1 → P v H H1 → D.nx (σ.set i (some v)) H1) : tAsg te (gName i) D σ H := h H (Ex.refl H) _ fun v H1 e r => k v H1 e r
theorem q_asgP (h : EvP te σ H P) (k : ∀ v H1, Ex H H1 → P v H H1 → tz D (σ.set i (some v)) H1) : tSeq (tAsg te (gName i)) tz D σ H := h H (Ex.refl H) _ fun v H1 e r => k v H1 e r
theorem s_retP (h : EvP te σ H P) (k : ∀ v H1, Ex H H1 → P v H H1 → D.rt v H1) : tRet te D σ H := h H (Ex.refl H) _ k
theorem q_dropP (h : EvP te σ H P) (k : ∀ v H1, Ex H H1 → P v H H1 → tz D σ H1) : tSeq (tDrop te) tz D σ H := h H (Ex.refl H) _ fun v H1 e r => k v H1 e r
/-- for target in <a list> -/
theorem s_forP {xs : Addr → List V} {g : TG} (h : EvP te σ H P) (hx : ∀ v H1, Ex H H1 → P v H H1 → ∃ a xs, v = .ref a ∧ SqL K H1 a xs ∧ ∃ Pv : Nat → L2.St → Hp → Prop, Pv 0 σ H1 ∧ (∀ i σ' H', i ≤ xs.length → Pv i σ' H' → SqL K H' a xs) ∧
    (∀ i x σ' H', xs[i]? = some x → Pv i σ' H' → g x σ' H' fun σ2 H2 => tu { D with nx := Pv (i + 1), ct := Pv (i + 1), bk := D.nx } σ2 H2) ∧ ∀ σ' H', Pv xs.length σ' H' → D.nx σ' H') : tFor (iList K te) g tu D σ H :=
  h H (Ex.refl H) _ fun v H1 e r => by
    obtain ⟨a, xs, rfl, hs, Pv, h0, hl, ht, hd⟩ := hx v H1 e r
    exact ⟨a, rfl, ⟨xs, hs⟩, for_list Pv h0 hl ht hd⟩
end
end EV
end
section /- EV2 -/
set_option Elab.async false
set_option linter.all false
set_option maxRecDepth 100000
set_option maxHeartbeats 1000000
/-! Loops and comprehensions by walks. -/
namespace EV
open PySem PySem.Spec L2 Evl
open PyProof.Rows hiding St
/-- the heap without one object -/
def hid (D : Addr) (H : Hp) : Hp := fun b => if b = D then none else H b
theorem hid_ne {D b : Addr} {H : Hp} (h : b ≠ D) : hid D H b = H b := if_neg h
theorem hid_upd {D : Addr} {H : Hp} {o : HO} : hid D (upd H D o) = hid D H := funext fun b => by
  by_cases e : b = D
  · unfold hid
    rw [if_pos e, if_pos e]
  · rw [hid_ne e, hid_ne e, upd_ne e]
theorem hid_ex {D : Addr} {H H' : Hp} (e : Ex H H') : Ex (hid D H) (hid D H') := fun b o h => by
  by_cases q : b = D
  · unfold hid at h
    rw [if_pos q] at h
    cases h
  · rw [hid_ne q] at h ⊢
    exact e b o h
theorem hid_le {D : Addr} {H : Hp} : Ex (hid D H) H := fun b o h => by
  by_cases q : b = D
  · unfold hid at h
    rw [if_pos q] at h
    cases h
  · rw [hid_ne q] at h
    exact h
theorem hid_of {D : Addr} {H H' : Hp} (e : Ex H H') (h : H D = none) : Ex H (hid D H') := fun b o hb => by
  rw [hid_ne (ne_of_none hb h)]
  exact e b o hb
theorem paired_get {α β : Type} {F : α → β → Prop} : ∀ {xs : List α} {ys : List β}, Paired F xs ys → ∀ (i : Nat) (x : α), xs[i]? = some x → ∃ y, ys[i]? = some y ∧ F x y
  | _, _, .nil, i, x, h => by cases h
  | _, _, .cons (a := a) (b := b) h t, 0, x, e => ⟨b, rfl, by cases e; exact h⟩
  | _, _, .cons h t, i + 1, x, e => paired_get t i x e
theorem paired_get' {α β : Type} {F : α → β → Prop} : ∀ {xs : List α} {ys : List β}, Paired F xs ys → ∀ (i : Nat) (y : β), ys[i]? = some y → ∃ x, xs[i]? = some x ∧ F x y
  | _, _, .nil, i, x, h => by cases h
  | _, _, .cons (a := a) (b := b) h t, 0, x, e => ⟨a, rfl, by cases e; exact h⟩
  | _, _, .cons h t, i + 1, x, e => paired_get' t i x e
theorem paired_mono {α β : Type} {F G : α → β → Prop} {xs : List α} {ys : List β} (h : Paired F xs ys) (m : ∀ a b, F a b → G a b) : Paired G xs ys := Paired.mono m h

/-- what an iterable gives: n turns, Y what each gives; it goes on while what stood stands -/
def EvI (wi : TI) (σ : L2.St) (H : Hp) (n : Nat) (Y : Nat → Hp → V → Hp → Prop) : Prop :=
  ∀ H1, Ex H H1 → ∀ R : It → Hp → Prop, (∀ J H2, Ex H1 H2 → (∃ G : Hp → Prop, Walk J n G Y ∧ ∀ H3, Ex H2 H3 → G H3) → R J H2) → wi σ H1 R
section
/-- the same, an object put aside that changes meanwhile -/
def EvIx (D : Addr) (wi : TI) (σ : L2.St) (H : Hp) (n : Nat) (Y : Nat → Hp → V → Hp → Prop) : Prop :=
  ∀ H1, Ex H H1 → ∀ R : It → Hp → Prop, (∀ J H2, Ex H1 H2 → (∃ G : Hp → Prop, Walk J n G Y ∧ ∀ H3, Ex (hid D H2) H3 → G H3) → R J H2) → wi σ H1 R
variable {K : PySem.W.Frag} {σ : L2.St} {H : Hp} {te tl : TE} {ta : TA} {n : Nat} {Y : Nat → Hp → V → Hp → Prop} {wi : TI} {g : TG}
theorem evi_list {a : Addr} {xs : List V} (h : Ev tl σ H (.ref a)) (hx : SqL K H a xs) : EvI (iList K tl) σ H xs.length (YAt xs) := fun H1 e R q =>
  h H1 e _ fun H2 e2 => ⟨a, rfl, ⟨xs, ex_l (e.trans e2) hx⟩, q _ H2 e2 ⟨_, walk_list, fun H3 e3 => ex_l ((e.trans e2).trans e3) hx⟩⟩
theorem evi_rng {k : Nat} (h : EvA ta σ H [.int (k : Int)]) (hk : k ≤ 1000000) : EvI (iRng1 ta) σ H k (YFn fun i => .int (i : Int)) := fun H1 e R q =>
  h H1 e _ fun H2 e2 => ⟨(k : Int), rfl, by omega, by omega, q _ H2 e2 ⟨_, by
    have w := (walk_range (lo := 0) (n := k)).mono (G' := fun _ => True) (Y' := YFn fun i => .int (i : Int)) (fun _ h => h) fun i H x H' _ _ y => ⟨y.1, by rw [y.2]; simp⟩
    rw [Int.toNat_natCast]
    exact w, fun _ _ => trivial⟩⟩
theorem evi_enum {a : Addr} {xs : List V} (h : EvA ta σ H [.ref a]) (hx : SqL K H a xs) : EvI (iEnum K ta) σ H xs.length (YPair (fun i => some (.int (i : Nat))) (fun i => xs[i]?)) := fun H1 e R q =>
  h H1 e _ fun H2 e2 => ⟨a, xs, rfl, ex_l (e.trans e2) hx, q _ H2 e2 ⟨_, walk_enum, fun H3 e3 => ex_l ((e.trans e2).trans e3) hx⟩⟩
theorem evix_enum {D a : Addr} {xs : List V} (h : EvA ta σ H [.ref a]) (hx : H a = some (.lst xs)) (ne : a ≠ D) : EvIx D (iEnum K ta) σ H xs.length (YPair (fun i => some (.int (i : Nat))) (fun i => xs[i]?)) := fun H1 e R q =>
  h H1 e _ fun H2 e2 => ⟨a, xs, rfl, sq_of ((e.trans e2) _ _ hx), q _ H2 e2 ⟨_, walk_enum, fun H3 e3 => sq_of (e3 a _ (by rw [hid_ne ne]; exact (e.trans e2) _ _ hx))⟩⟩
variable {D : Ends} {tu tz : TS}
theorem s_forI (h : EvI wi σ H n Y) (hp : ∀ H1, Ex H H1 → ∃ Pv : Nat → L2.St → Hp → Prop, Pv 0 σ H1 ∧ (∀ i σ' H', i ≤ n → Pv i σ' H' → Ex H1 H') ∧
    (∀ i x σ' H' H'', i < n → Pv i σ' H' → Y i H' x H'' → g x σ' H'' fun σ2 H2 => tu { D with nx := Pv (i + 1), ct := Pv (i + 1), bk := D.nx } σ2 H2) ∧ ∀ σ' H', Pv n σ' H' → D.nx σ' H') : tFor wi g tu D σ H :=
  h H (Ex.refl H) _ fun J H1 e ⟨G, w, hG⟩ => by
    obtain ⟨Pv, h0, hl, ht, hd⟩ := hp H1 e
    exact for_it w Pv h0 (fun i σ' H' hi p => hG H' (hl i σ' H' hi p)) ht hd
theorem q_forI (h : EvI wi σ H n Y) (hp : ∀ H1, Ex H H1 → ∃ Pv : Nat → L2.St → Hp → Prop, Pv 0 σ H1 ∧ (∀ i σ' H', i ≤ n → Pv i σ' H' → Ex H1 H') ∧
    (∀ i x σ' H' H'', i < n → Pv i σ' H' → Y i H' x H'' → g x σ' H'' fun σ2 H2 => tu { D with nx := Pv (i + 1), ct := Pv (i + 1), bk := tz D } σ2 H2) ∧ ∀ σ' H', Pv n σ' H' → tz D σ' H') : tSeq (tFor wi g tu) tz D σ H := s_forI (D := { D with nx := tz D }) h hp

/-! ### list comprehensions -/
/-- a new list whose items are told by F, itself put aside -/
def LRel {ι : Type} (F : Hp → V → ι → Prop) (items : List ι) : Rel := fun v Ha Hb => ∃ p xs, v = .ref p ∧ Ha p = none ∧ Hb p = some (.lst xs) ∧ Paired (F (hid p Hb)) xs items
theorem LRel.back {ι : Type} {F : Hp → V → ι → Prop} {items : List ι} : ∀ v H1 H2 H3, Ex H1 H2 → LRel F items v H2 H3 → LRel F items v H1 H3 := fun _ _ _ _ e ⟨p, u, ev, hn, hp, ho⟩ => ⟨p, u, ev, fresh_back e hn, hp, ho⟩
variable {tt : TT} {vs : List Nat}
theorem filterMap_snoc {ι : Type} (it : Nat → Option ι) (i : Nat) : (List.range (i + 1)).filterMap it = (List.range i).filterMap it ++ (it i).toList := by
  rw [List.range_succ, List.filterMap_append]
  cases h : it i <;> simp [h]
theorem evp_lc {ι : Type} (F : Hp → V → ι → Prop) (hF : ∀ H H' v x, Ex H H' → F H v x → F H' v x) (it : Nat → Option ι) (hn : n ≤ 90000) (hi : EvI wi σ H n Y)
    (ht : ∀ D i H' x H'', i < n → Ex H H' → H D = none → H' D ≠ none → Y i H' x H'' → ∀ R : L2.St → Hp → Prop, (∀ σ2 H2, wipe σ2 vs = wipe σ vs → Ex H' H2 → EvT tt σ2 H2 (it i).isSome →
      (∀ z, it i = some z → EvP te σ2 H2 fun v H3 H4 => H3 D ≠ none → F (hid D H4) v z) → R σ2 H2) → g x (wipe σ vs) H'' R) :
    EvP (tLc wi g tt te vs) σ H (LRel F ((List.range n).filterMap it)) := fun H0 e Q q => hi H0 e _ fun J H1 e1 ⟨G, w, hG⟩ D hD => by
  have hDn : H D = none := fresh_back (e.trans e1) hD
  refine lc_it w (fun i H' => Ex H1 H' ∧ ∃ acc, H' D = some (.lst acc) ∧ Paired (F (hid D H')) acc ((List.range i).filterMap it)) ⟨Ex.new hD, [], upd_same, .nil⟩ (fun i H' _ p => hG H' p.1) (fun i x H' H'' hlt p y => ?_) fun H' p => ?_
  · obtain ⟨p1, acc, pD, pr⟩ := p
    have eD : H' D ≠ none := by rw [pD]; intro z; cases z
    have len : acc.length ≤ i := by
      rw [pr.length]
      have := List.length_filterMap_le it (List.range i)
      rw [List.length_range] at this
      exact this
    refine ht D i H' x H'' hlt ((e.trans e1).trans p1) hDn eD y _ fun σ2 H2 hw e2 hT hE => ⟨hw, ?_⟩
    refine hT H2 (Ex.refl H2) _ fun H3 e3 => ?_
    cases hz : it i with
    | none =>
      show Ex H1 H3 ∧ ∃ acc, H3 D = some (.lst acc) ∧ Paired (F (hid D H3)) acc ((List.range (i + 1)).filterMap it)
      refine ⟨(p1.trans e2).trans e3, acc, (e2.trans e3) _ _ pD, ?_⟩
      rw [filterMap_snoc, hz]
      show Paired _ acc (_ ++ [])
      rw [List.append_nil]
      exact paired_mono pr fun a b r => hF _ _ _ _ (hid_ex (e2.trans e3)) r
    | some z =>
      show te σ2 H3 fun y H4 => ∃ acc, H4 D = some (.lst acc) ∧ acc.length < sizeLine ∧ Ex H1 (upd H4 D (.lst (acc ++ [y]))) ∧ ∃ acc2, upd H4 D (.lst (acc ++ [y])) D = some (.lst acc2) ∧ Paired (F (hid D (upd H4 D (.lst (acc ++ [y]))))) acc2 ((List.range (i + 1)).filterMap it)
      refine hE z hz H3 e3 _ fun v H4 e4 r => ⟨acc, (e2.trans (e3.trans e4)) _ _ pD, sz_lt (by omega), Ex.mut (p1.trans (e2.trans (e3.trans e4))) hD, acc ++ [v], upd_same, ?_⟩
      rw [filterMap_snoc, hz, hid_upd]
      have nD : H3 D ≠ none := by rw [(e2.trans e3) _ _ pD]; intro z; cases z
      exact (paired_mono pr fun a b r => hF _ _ _ _ (hid_ex (e2.trans (e3.trans e4))) r).snoc (r nD)
  · obtain ⟨p1, acc, pD, pr⟩ := p
    exact q _ H' (e1.trans p1) ⟨D, acc, rfl, fresh_back e1 hD, pD, pr⟩
/-- a comprehension over two -/
theorem evp_lc2 {ι : Type} {wi1 : TI} {g1 : TG} {tt1 : TT} {vs1 : List Nat} {n1 : Nat} (F : Hp → V → ι → Prop) (hF : ∀ H H' v x, Ex H H' → F H v x → F H' v x) (it : Nat → Nat → Option ι) (hn : n * n1 ≤ 90000) (hi : EvI wi σ H n Y)
    (ht : ∀ D i H' x H'', i < n → Ex H H' → H D = none → H' D ≠ none → Y i H' x H'' → ∀ R : L2.St → Hp → Prop, (∀ σ2 H2 (Y1 : Nat → Hp → V → Hp → Prop), wipe σ2 vs = wipe σ vs → Ex H' H2 → EvT tt σ2 H2 true → EvIx D wi1 σ2 H2 n1 Y1 →
      (∀ j H3 x H4, j < n1 → Ex H H3 → H3 D ≠ none → Y1 j H3 x H4 → ∀ R1 : L2.St → Hp → Prop, (∀ σ3 H5, wipe σ3 vs1 = wipe σ2 vs1 → Ex H3 H5 → EvT tt1 σ3 H5 (it i j).isSome → (∀ z, it i j = some z → EvP te σ3 H5 fun v H6 H7 => H6 D ≠ none → F (hid D H7) v z) → R1 σ3 H5) → g1 x (wipe σ2 vs1) H4 R1) →
      R σ2 H2) → g x (wipe σ vs) H'' R) :
    EvP (tLc2 wi g tt wi1 g1 tt1 te vs vs1) σ H (LRel F ((List.range n).flatMap fun i => (List.range n1).filterMap (it i))) := fun H0 e Q q => hi H0 e _ fun J H1 e1 ⟨G, w, hG⟩ D hD => by
  have hDn : H D = none := fresh_back (e.trans e1) hD
  have lenO : ∀ i, ((List.range i).flatMap fun i => (List.range n1).filterMap (it i)).length ≤ i * n1 := fun i => by
    induction i with
    | zero => simp
    | succ i ih =>
      rw [List.range_succ, List.flatMap_append, List.length_append]
      have := List.length_filterMap_le (it i) (List.range n1)
      rw [List.length_range] at this
      simp only [List.flatMap_cons, List.flatMap_nil, List.append_nil]
      rw [Nat.succ_mul]
      omega
  let Pv : Nat → Hp → Prop := fun i H' => Ex H1 H' ∧ ∃ acc, H' D = some (.lst acc) ∧ Paired (F (hid D H')) acc ((List.range i).flatMap fun i => (List.range n1).filterMap (it i))
  refine ⟨fun i m H' => m = n - i ∧ i ≤ n ∧ Pv i H', ⟨n, by simp, Nat.zero_le _, Ex.new hD, [], upd_same, .nil⟩, ?_⟩
  rintro i m H' ⟨rfl, hin, p⟩
  have qG := hG H' p.1
  by_cases hlt : i < n
  · refine .inr ⟨w.goes i H' hlt qG, Pv (i + 1), fun H'' p' => ⟨n - (i + 1), by omega, rfl, hlt, p'⟩, fun x H'' y => ?_⟩
    obtain ⟨p1, acc, pD, pr⟩ := p
    have eD : H' D ≠ none := by rw [pD]; intro z; cases z
    refine ht D i H' x H'' hlt ((e.trans e1).trans p1) hDn eD (w.yields i H' x H'' hlt qG y) _ fun σ2 H2 Y1 hw e2 hT hI hS => ⟨hw, ?_⟩
    refine hT H2 (Ex.refl H2) _ fun H3 e3 => ?_
    show wi1 σ2 H3 _
    refine hI H3 e3 _ fun J1 H4 e4 ⟨G1, w1, hG1⟩ => ?_
    let Pw : Nat → Hp → Prop := fun j Hj => Ex (hid D H4) Hj ∧ ∃ acc2, Hj D = some (.lst acc2) ∧ Paired (F (hid D Hj)) acc2 (((List.range i).flatMap fun i => (List.range n1).filterMap (it i)) ++ (List.range j).filterMap (it i))
    refine ⟨fun j k Hj => k = n1 - j ∧ j ≤ n1 ∧ Pw j Hj, ⟨n1, by simp, Nat.zero_le _, hid_le, acc, (e2.trans (e3.trans e4)) _ _ pD, ?_⟩, ?_⟩
    · show Paired _ acc (_ ++ [])
      rw [List.append_nil]
      exact paired_mono pr fun a b r => hF _ _ _ _ (hid_ex (e2.trans (e3.trans e4))) r
    rintro j k Hj ⟨rfl, hjn, pj⟩
    have qG1 := hG1 Hj pj.1
    by_cases hj : j < n1
    · refine .inr ⟨w1.goes j Hj hj qG1, Pw (j + 1), fun Hk p' => ⟨n1 - (j + 1), by omega, rfl, hj, p'⟩, fun y Hk yk => ?_⟩
      obtain ⟨q1, acc2, qD, qr⟩ := pj
      have nDj : Hj D ≠ none := by rw [qD]; intro z; cases z
      have len : acc2.length ≤ i * n1 + j := by
        rw [qr.length, List.length_append]
        have a := lenO i
        have b := List.length_filterMap_le (it i) (List.range j)
        rw [List.length_range] at b
        omega
      have len2 : i * n1 + j < 90000 := by
        have : (i + 1) * n1 ≤ n * n1 := Nat.mul_le_mul_right _ hlt
        rw [Nat.succ_mul] at this
        omega
      refine hS j Hj y Hk hj ((hid_of (((e.trans e1).trans p1).trans (e2.trans (e3.trans e4))) hDn).trans q1) nDj (w1.yields j Hj y Hk hj qG1 yk) _ fun σ3 H5 hw3 e5 hT1 hE => ⟨hw3, ?_⟩
      refine hT1 H5 (Ex.refl H5) _ fun H6 e6 => ?_
      cases hz : it i j with
      | none =>
        show Ex (hid D H4) H6 ∧ ∃ acc2, H6 D = some (.lst acc2) ∧ Paired (F (hid D H6)) acc2 (((List.range i).flatMap fun i => (List.range n1).filterMap (it i)) ++ (List.range (j + 1)).filterMap (it i))
        refine ⟨(q1.trans e5).trans e6, acc2, (e5.trans e6) _ _ qD, ?_⟩
        rw [filterMap_snoc, hz]
        show Paired _ acc2 (_ ++ (_ ++ []))
        rw [List.append_nil]
        exact paired_mono qr fun a b r => hF _ _ _ _ (hid_ex (e5.trans e6)) r
      | some z =>
        show te σ3 H6 fun y H7 => ∃ acc, H7 D = some (.lst acc) ∧ acc.length < sizeLine ∧ Ex (hid D H4) (upd H7 D (.lst (acc ++ [y]))) ∧ ∃ acc2, upd H7 D (.lst (acc ++ [y])) D = some (.lst acc2) ∧
          Paired (F (hid D (upd H7 D (.lst (acc ++ [y]))))) acc2 (((List.range i).flatMap fun i => (List.range n1).filterMap (it i)) ++ (List.range (j + 1)).filterMap (it i))
        refine hE z hz H6 e6 _ fun v H7 e7 r => ⟨acc2, (e5.trans (e6.trans e7)) _ _ qD, sz_lt (by omega), ?_, acc2 ++ [v], upd_same, ?_⟩
        · intro b o hb
          by_cases eb : b = D
          · subst eb
            unfold hid at hb
            rw [if_pos rfl] at hb
            cases hb
          · rw [upd_ne eb]
            exact (q1.trans (e5.trans (e6.trans e7))) _ _ hb
        · rw [filterMap_snoc, hz, hid_upd, ← List.append_assoc]
          have nD : H6 D ≠ none := by rw [(e5.trans e6) _ _ qD]; intro z; cases z
          exact (paired_mono qr fun a b r => hF _ _ _ _ (hid_ex (e5.trans (e6.trans e7))) r).snoc (r nD)
    · have ej : j = n1 := by omega
      subst ej
      obtain ⟨q1, acc2, qD, qr⟩ := pj
      refine .inl ⟨w1.stops Hj qG1, (hid_of (p1.trans (e2.trans (e3.trans e4))) hD).trans q1, acc2, qD, ?_⟩
      rw [List.range_succ, List.flatMap_append]
      simpa using qr
  · have e' : i = n := by omega
    subst e'
    obtain ⟨p1, acc, pD, pr⟩ := p
    exact .inl ⟨w.stops H' qG, q _ H' (e1.trans p1) ⟨D, acc, rfl, fresh_back e1 hD, pD, pr⟩⟩
/-! ### dict comprehensions, the keys tuples -/
def kvsTo (ky : Nat → List Key) (vl : Nat → V) (n : Nat) : List (List Key × V) := (List.range n).map fun i => (ky i, vl i)
theorem valV_none {κ : Type} [DecidableEq κ] {k : κ} : ∀ {l : List (κ × V)}, (∀ p ∈ l, p.1 ≠ k) → valV l k = none
  | [], _ => rfl
  | p :: l, h => by
    rw [valV_neg (h p List.mem_cons_self)]
    exact valV_none fun q hq => h q (List.mem_cons_of_mem _ hq)
theorem kvsTo_new {ky : Nat → List Key} {vl : Nat → V} {n i : Nat} (hd : ∀ i j, i < j → j < n → ky i ≠ ky j) (hi : i < n) : valV (kvsTo ky vl i) (ky i) = none := by
  refine valV_none fun p hp => ?_
  obtain ⟨j, hj, e⟩ := List.mem_map.mp hp
  rw [← e]
  exact hd j i (List.mem_range.mp hj) hi
theorem kvsTo_succ (ky : Nat → List Key) (vl : Nat → V) (i : Nat) : kvsTo ky vl (i + 1) = kvsTo ky vl i ++ [(ky i, vl i)] := by
  unfold kvsTo
  rw [List.range_succ, List.map_append]
  rfl
variable {tk tv : TE}
theorem evp_dcT (ky : Nat → List Key) (vl : Nat → V) (hn : n ≤ 90000) (hd : ∀ i j, i < j → j < n → ky i ≠ ky j) (hi : EvI wi σ H n Y)
    (ht : ∀ D i H' x H'', i < n → Ex H H' → H D = none → H' D ≠ none → Y i H' x H'' → ∀ R : L2.St → Hp → Prop, (∀ σ2 H2, wipe σ2 vs = wipe σ vs → Ex H' H2 → EvT tt σ2 H2 true →
      EvP tk σ2 H2 (fun y _ H4 => ∃ b, y = .ref b ∧ H4 b = some (.tup ((ky i).map kV))) → Ev tv σ2 H2 (vl i) → R σ2 H2) → g x (wipe σ vs) H'' R) :
    EvP (OW.tDcT wi g tt tk tv vs) σ H (fun v Ha Hb => ∃ p, v = .ref p ∧ Ha p = none ∧ Hb p = some (.dT (kvsTo ky vl n))) := fun H0 e Q q => hi H0 e _ fun J H1 e1 ⟨G, w, hG⟩ D hD => by
  have hDn : H D = none := fresh_back (e.trans e1) hD
  let Pv : Nat → Hp → Prop := fun i H' => Ex H1 H' ∧ H' D = some (.dT (kvsTo ky vl i))
  refine ⟨fun i m H' => m = n - i ∧ i ≤ n ∧ Pv i H', ⟨n, by simp, Nat.zero_le _, Ex.new hD, upd_same⟩, ?_⟩
  rintro i m H' ⟨rfl, hin, p1, pD⟩
  have qG := hG H' p1
  by_cases hlt : i < n
  · refine .inr ⟨w.goes i H' hlt qG, Pv (i + 1), fun H'' p' => ⟨n - (i + 1), by omega, rfl, hlt, p'⟩, fun x H'' y => ?_⟩
    have eD : H' D ≠ none := by rw [pD]; intro z; cases z
    refine ht D i H' x H'' hlt ((e.trans e1).trans p1) hDn eD (w.yields i H' x H'' hlt qG y) _ fun σ2 H2 hw e2 hT hK hV => ⟨hw, ?_⟩
    refine hT H2 (Ex.refl H2) _ fun H3 e3 => ?_
    show tk σ2 H3 _
    refine hK H3 e3 _ fun yk H4 e4 r => ?_
    obtain ⟨b, rfl, hb⟩ := r
    refine hV H4 (e3.trans e4) _ fun H5 e5 => ⟨kvsTo ky vl i, ky i, b, rfl, (e2.trans (e3.trans (e4.trans e5))) _ _ pD, e5 _ _ hb, ?_, ?_⟩
    · refine sz_lt ?_
      unfold kvsTo
      rw [List.length_map, List.length_range]
      omega
    · refine ⟨Ex.mut (p1.trans (e2.trans (e3.trans (e4.trans e5)))) hD, ?_⟩
      rw [putK_new _ (kvsTo_new hd hlt), kvsTo_succ]
      exact upd_same
  · have e' : i = n := by omega
    subst e'
    exact .inl ⟨w.stops H' qG, q _ H' (e1.trans p1) ⟨D, rfl, fresh_back e1 hD, pD⟩⟩
end
end EV
end
section /- PR1 -/
set_option Elab.async false
set_option linter.all false
set_option maxRecDepth 100000
set_option maxHeartbeats 1000000
/-! The small defs. -/
namespace K50
open PySem PySem.Spec L2 Evl EV
open PyProof.Rows hiding St
section
variable {P : Program} {w : World} {K : PySem.W.Frag} {mg : Str → Option Value} {base : Heap} (T : Tx K mg)
abbrev RetB (z : V) (H : Hp) (Q : VK) : Prop := ∀ H', Ex H H' → Q z H'
theorem pmp_ret {p : Pm} {vs : List V} {H : Hp} {z : V} (h : ∀ H1 Q, Ex H H1 → RetB z H1 Q → p vs H1 Q) : PmP p vs H (Is z) := fun H1 e Q q => h H1 Q e fun H' e' => q z H' e' rfl
theorem ev_notF {te : TE} {σ : L2.St} {H : Hp} (h : Ev te σ H (.bl false)) : Ev (tNotV te) σ H (.bl true) := ev_notV (a := false) h
theorem ev_notT {te : TE} {σ : L2.St} {H : Hp} (h : Ev te σ H (.bl true)) : Ev (tNotV te) σ H (.bl false) := ev_notV (a := true) h
theorem ev_andT {ta tb : TE} {σ : L2.St} {H : Hp} {b : Bool} (h : Ev ta σ H (.bl true)) (h2 : Ev tb σ H (.bl b)) : Ev (tAndV ta tb) σ H (.bl b) := ev_andV (a := true) h fun _ => h2
theorem ev_andF {ta tb : TE} {σ : L2.St} {H : Hp} (h : Ev ta σ H (.bl false)) : Ev (tAndV ta tb) σ H (.bl false) := ev_andV (a := false) (b := false) h fun q => by cases q
theorem et_notT {t : TT} {σ : L2.St} {H : Hp} (h : EvT t σ H true) : EvT (tNot t) σ H false := et_not (a := true) h
theorem et_notF {t : TT} {σ : L2.St} {H : Hp} (h : EvT t σ H false) : EvT (tNot t) σ H true := et_not (a := false) h
theorem et_orF {t u : TT} {σ : L2.St} {H : Hp} {b : Bool} (h : EvT t σ H false) (h2 : EvT u σ H b) : EvT (tOr t u) σ H b := et_or (a := false) h fun _ => h2
theorem et_orT {t u : TT} {σ : L2.St} {H : Hp} (h : EvT t σ H true) : EvT (tOr t u) σ H true := et_or (a := true) (b := true) h fun q => by cases q
theorem et_andT {t u : TT} {σ : L2.St} {H : Hp} {b : Bool} (h : EvT t σ H true) (h2 : EvT u σ H b) : EvT (tAnd t u) σ H b := et_and (a := true) h fun _ => h2
theorem et_andF {t u : TT} {σ : L2.St} {H : Hp} (h : EvT t σ H false) : EvT (tAnd t u) σ H false := et_and (a := false) (b := false) h fun q => by cases q
/-- an if that is not taken -/
theorem q_skip {t : TT} {tu tz : TS} {D : Ends} {σ : L2.St} {H : Hp} (h : EvT t σ H false) (k : ∀ H1, Ex H H1 → tz D σ H1) : tSeq (tIfS t tu tNext) tz D σ H := q_when h (fun q => by cases q) fun _ => k
theorem s_skip {t : TT} {tu : TS} {D : Ends} {σ : L2.St} {H : Hp} (h : EvT t σ H false) (k : ∀ H1, Ex H H1 → D.nx σ H1) : tIfS t tu tNext D σ H := s_when h (fun q => by cases q) fun _ => k
theorem ev_chain {r r' : R2} {ta tb tc : TE} {σ : L2.St} {H : Hp} {x y z : V} {b : Bool} (ha : Ev ta σ H x) (hb : Ev tb σ H y) (hc : Ev tc σ H z) (h1 : RV r x y H (.bl true)) (h2 : RV r' y z H (.bl b)) : Ev (tChain r r' ta tb tc) σ H (.bl b) := fun H1 e Q q =>
  ha H1 e _ fun H2 e2 => hb H2 (e.trans e2) _ fun H3 e3 => h1 H3 ((e.trans e2).trans e3) _ fun H4 e4 => ⟨true, rfl, by
    show tc σ H4 _
    exact hc H4 (((e.trans e2).trans e3).trans e4) _ fun H5 e5 => h2 H5 ((((e.trans e2).trans e3).trans e4).trans e5) Q fun H6 e6 => q H6 ((((e2.trans e3).trans e4).trans e5).trans e6)⟩
theorem ev_lenT {ta : TE} {σ : L2.St} {H : Hp} {a : Addr} {xs : List V} (ha : Ev ta σ H (.ref a)) (h : SqT K H a xs) : Ev (tCB (rLenS K) (tCons ta tNil)) σ H (.int (xs.length : Int)) := fun H1 e Q q =>
  ha H1 e _ fun H2 e2 => ⟨a, xs, rfl, Or.inr (ex_t (e.trans e2) h), q H2 e2⟩
theorem rv_lt {H : Hp} {i j : Int} {b : Bool} (h : decide (i < j) = b) : RV (rI0 fun i j => .bl (decide (i < j))) (.int i) (.int j) H (.bl b) := by rw [← h]; exact rv_I0
theorem rv_le {H : Hp} {i j : Int} {b : Bool} (h : decide (i ≤ j) = b) : RV (rI0 fun i j => .bl (decide (i ≤ j))) (.int i) (.int j) H (.bl b) := by rw [← h]; exact rv_I0
theorem rv_gt {H : Hp} {i j : Int} {b : Bool} (h : decide (j < i) = b) : RV (rI0 fun i j => .bl (decide (j < i))) (.int i) (.int j) H (.bl b) := by rw [← h]; exact rv_I0
theorem rv_ge {H : Hp} {i j : Int} {b : Bool} (h : decide (j ≤ i) = b) : RV (rI0 fun i j => .bl (decide (j ≤ i))) (.int i) (.int j) H (.bl b) := by rw [← h]; exact rv_I0
theorem rv_eqI {H : Hp} {i j : Int} {b : Bool} (h : decide (i = j) = b) : RV rEq (.int i) (.int j) H (.bl b) := fun H1 _ _ q => ⟨rfl, by
  have e : decide (V.int i = V.int j) = b := by rw [← h, dec_int]; by_cases z : i = j <;> simp [z]
  rw [e]
  exact q H1 (Ex.refl H1)⟩
theorem rv_neI {H : Hp} {i j : Int} {b : Bool} (h : (!decide (i = j)) = b) : RV rNe (.int i) (.int j) H (.bl b) := fun H1 _ _ q => ⟨rfl, by
  have e : (!decide (V.int i = V.int j)) = b := by rw [← h, dec_int]; by_cases z : i = j <;> simp [z]
  rw [e]
  exact q H1 (Ex.refl H1)⟩
theorem rv_eqS {H : Hp} {x y : Str} {b : Bool} (h : decide (x = y) = b) : RV rEq (.str x) (.str y) H (.bl b) := fun H1 _ _ q => ⟨rfl, by
  have e : decide (V.str x = V.str y) = b := by rw [← h]; by_cases z : x = y <;> simp [z]
  rw [e]
  exact q H1 (Ex.refl H1)⟩

theorem pe_gcn {X : Cx} {v : V} {x : Str} {pos : Pos} (hg : Gl X x) (h : ∃ u, X.mg x = some u ∧ RelV v u) (hd : (x == ("__debug__" : Str)) = false := by decide) : PE X (.Name x pos) (tC v) :=
  let ⟨_, hm, r⟩ := h
  pe_glob hg hm r hd
/-! ### values -/
abbrev Pr := Nat × Nat
def pV (p : Pr) : List V := [.int (p.1 : Int), .int (p.2 : Int)]
def PrA (H : Hp) (v : V) (p : Pr) : Prop := ∃ a, v = .ref a ∧ H a = some (.tup (pV p))
inductive Kd where
  | even | stock | wish | any
def Kd.s : Kd → Str
  | .even => "even" | .stock => "stock" | .wish => "wish" | .any => "any"
def Kd.cols : Kd → Bool
  | .stock => true | .any => true | _ => false
def Kd.rws : Kd → Bool
  | .wish => true | .any => true | _ => false
theorem PrA.ex {H H' : Hp} {v : V} {p : Pr} (h : PrA H v p) (e : Ex H H') : PrA H' v p := let ⟨a, ev, ha⟩ := h; ⟨a, ev, e _ _ ha⟩

abbrev bISI := PyProof.Rows.boot_isinstance

def p_is_integer : Pm := fun vs H Q => ∃ i : Int, vs = [.int i] ∧ RetB (.bl true) H Q
theorem sc_is_integer : FnScope ["value"] ["value"] (defScope s_is_integer) := ⟨rfl, rfl, rfl, by decide +kernel, rfl, by decide +kernel, by decide +kernel⟩
include T in
theorem ok_is_integer : FnP P w K mg base 1 (He.ga K "is_integer") p_is_integer := by
  obtain ⟨fd, F⟩ := T.f_is_integer
  refine okR F sc_is_integer (fun _ _ _ _ _ _ us hl => match us, hl with | [_], _ => rfl) (fun vs H Q h => by obtain ⟨i, rfl, _⟩ := h; rfl) fun cdv A outer s H vs Q hr h => ⟨_, pss_one (ps_ret (pe_and (pe_callB call_isi (by rfl) T.n_isinstance bISI (pa_cons (pv 0) (pa_cons (pe_bltn (v := .ty "int") (by rfl) T.n_int PyProof.Rows.boot_int rfl) pa_nil))) (pe_one (pe_not (pe_callB call_isi (by rfl) T.n_isinstance bISI (pa_cons (pv 0) (pa_cons (pe_bltn (v := .ty "bool") (by rfl) T.n_bool PyProof.Rows.boot_bool rfl) pa_nil))))))), ?_⟩
  obtain ⟨i, rfl, q⟩ := h
  refine s_ret (v := .bl true) (ev_andT ?_ (ev_notF ?_)) fun H1 e => q H1 e
  · exact ev_isi (ea_cons (ev_var rfl) (ea_cons ev_c ea_nil)) (.ty _) (fun H1 _ => .base (.int i)) (kit_ty (by decide +kernel))
  · exact ev_isi (ea_cons (ev_var rfl) (ea_cons ev_c ea_nil)) (.ty _) (fun H1 _ => .base (.int i)) (kit_ty (by decide +kernel))
include T in
theorem kp_is_integer : PySem.W.keepIn K (.ref (He.ga K "is_integer")) = true := let ⟨_, F⟩ := T.f_is_integer; F.kp
theorem u_is_integer {H : Hp} {i : Int} : PmP p_is_integer [.int i] H (Is (.bl true)) := pmp_ret fun H1 Q e q => ⟨i, rfl, q⟩
def p_is_between : Pm := fun vs H Q => ∃ i lo hi : Int, vs = [.int i, .int lo, .int hi] ∧ lo ≤ i ∧ i ≤ hi ∧ RetB (.bl true) H Q
theorem sc_is_between : FnScope ["value", "low", "high"] ["value", "low", "high"] (defScope s_is_between) := ⟨rfl, rfl, rfl, by decide +kernel, rfl, by decide +kernel, by decide +kernel⟩
include T in
theorem ok_is_between : FnP P w K mg base 2 (He.ga K "is_between") p_is_between := by
  obtain ⟨fd, F⟩ := T.f_is_between
  refine okR F sc_is_between (fun _ _ _ _ _ _ us hl => match us, hl with | [_, _, _], _ => rfl) (fun vs H Q h => by obtain ⟨i, lo, hi, rfl, _⟩ := h; rfl) fun cdv A outer s H vs Q hr h => ⟨_, pss_one (ps_ret (pe_and (pe_cR (ok_is_integer T) (hr) (by rfl) T.g_is_integer (kp_is_integer T) (pa_cons (pv 0) pa_nil)) (pe_one (pe_chain op_le op_le (pv 1) (pv 0) (pv 2))))), ?_⟩
  obtain ⟨i, lo, hi, rfl, h1, h2, q⟩ := h
  refine s_ret (v := .bl true) (ev_andT (ev_c' (ea_cons (ev_var rfl) ea_nil) u_is_integer) ?_) fun H1 e => q H1 e
  exact ev_chain (ev_var rfl) (ev_var rfl) (ev_var rfl) (rv_le (decide_eq_true h1)) (rv_le (decide_eq_true h2))
include T in
theorem kp_is_between : PySem.W.keepIn K (.ref (He.ga K "is_between")) = true := let ⟨_, F⟩ := T.f_is_between; F.kp
theorem u_is_between {H : Hp} {i lo hi : Int} (h1 : lo ≤ i) (h2 : i ≤ hi) : PmP p_is_between [.int i, .int lo, .int hi] H (Is (.bl true)) := pmp_ret fun H1 Q e q => ⟨i, lo, hi, rfl, h1, h2, q⟩
def p_is_spot : Pm := fun vs H Q => ∃ (a : Addr) (p : Pr), vs = [.ref a] ∧ H a = some (.tup (pV p)) ∧ RetB (.bl true) H Q
theorem sc_is_spot : FnScope ["value"] ["value"] (defScope s_is_spot) := ⟨rfl, rfl, rfl, by decide +kernel, rfl, by decide +kernel, by decide +kernel⟩
include T in
theorem ok_is_spot : FnP P w K mg base 2 (He.ga K "is_spot") p_is_spot := by
  obtain ⟨fd, F⟩ := T.f_is_spot
  refine okR F sc_is_spot (fun _ _ _ _ _ _ us hl => match us, hl with | [_], _ => rfl) (fun vs H Q h => by obtain ⟨a, p, rfl, _⟩ := h; rfl) fun cdv A outer s H vs Q hr h => ⟨_, pss_one (ps_ret (pe_and (pe_callB call_isi (by rfl) T.n_isinstance bISI (pa_cons (pv 0) (pa_cons (pe_bltn (v := .ty "tuple") (by rfl) T.n_tuple PyProof.Rows.boot_tuple rfl) pa_nil))) (pe_and (pe_cmpR op_eq (pe_callB call_len_seq (by rfl) T.n_len PySem.boot_len (pa_cons (pv 0) pa_nil)) pe_int (nomark _)) (pe_and (pe_cR (ok_is_integer T) (hr) (by rfl) T.g_is_integer (kp_is_integer T) (pa_cons (pe_ix ix_tup (pv 0) pe_int (fun _ _ => rfl)) pa_nil)) (pe_one (pe_cR (ok_is_integer T) (hr) (by rfl) T.g_is_integer (kp_is_integer T) (pa_cons (pe_ix ix_tup (pv 0) pe_int (fun _ _ => rfl)) pa_nil))))))), ?_⟩
  obtain ⟨a, p, rfl, ha, q⟩ := h
  refine s_ret (v := .bl true) (ev_andT ?_ (ev_andT ?_ (ev_andT ?_ ?_))) fun H1 e => q H1 e
  · exact ev_isi (ea_cons (ev_var rfl) (ea_cons ev_c ea_nil)) (.ty _) (fun H1 e => .base (.tup (e _ _ ha))) (kit_ty (by decide +kernel))
  · exact ev_op (ev_lenT (ev_var rfl) (st_of ha)) ev_c (rv_eqI rfl)
  · exact ev_c' (ea_cons (ev_op (ev_var rfl) ev_c (rv_ixT (st_of ha) rfl)) ea_nil) u_is_integer
  · exact ev_c' (ea_cons (ev_op (ev_var rfl) ev_c (rv_ixT (st_of ha) rfl)) ea_nil) u_is_integer
include T in
theorem kp_is_spot : PySem.W.keepIn K (.ref (He.ga K "is_spot")) = true := let ⟨_, F⟩ := T.f_is_spot; F.kp
theorem u_is_spot {H : Hp} {a : Addr} {p : Pr} (h : H a = some (.tup (pV p))) : PmP p_is_spot [.ref a] H (Is (.bl true)) := pmp_ret fun H1 Q e q => ⟨a, p, rfl, e _ _ h, q⟩
def p_is_kind : Pm := fun vs H Q => ∃ k : Kd, vs = [.str k.s] ∧ RetB (.bl true) H Q
theorem sc_is_kind : FnScope ["value"] ["value"] (defScope s_is_kind) := ⟨rfl, rfl, rfl, by decide +kernel, rfl, by decide +kernel, by decide +kernel⟩
include T in
theorem ok_is_kind : FnP P w K mg base 1 (He.ga K "is_kind") p_is_kind := by
  obtain ⟨fd, F⟩ := T.f_is_kind
  refine okR F sc_is_kind (fun _ _ _ _ _ _ us hl => match us, hl with | [_], _ => rfl) (fun vs H Q h => by obtain ⟨k, rfl, _⟩ := h; rfl) fun cdv A outer s H vs Q hr h => ⟨_, pss_one (ps_ret (pe_and (pe_callB call_isi (by rfl) T.n_isinstance bISI (pa_cons (pv 0) (pa_cons (pe_bltn (v := .ty "str") (by rfl) T.n_str PyProof.Rows.boot_str rfl) pa_nil))) (pe_one (pe_cmpR op_in_seq (pv 0) (pe_glob (v := .ref (He.ga K "KINDS")) (by rfl) T.g_KINDS rfl) (by rfl))))), ?_⟩
  obtain ⟨k, rfl, q⟩ := h
  refine s_ret (v := .bl true) (ev_andT ?_ ?_) fun H1 e => q H1 e
  · exact ev_isi (ea_cons (ev_var rfl) (ea_cons ev_c ea_nil)) (.ty _) (fun H1 e => .base (.str _)) (kit_ty (by decide +kernel))
  · refine ev_is (ev_op (ev_var rfl) ev_c (rv_isT (T.kinds H) rfl rfl)) ?_
    cases k <;> rfl
include T in
theorem kp_is_kind : PySem.W.keepIn K (.ref (He.ga K "is_kind")) = true := let ⟨_, F⟩ := T.f_is_kind; F.kp
theorem u_is_kind {H : Hp} {k : Kd} : PmP p_is_kind [.str k.s] H (Is (.bl true)) := pmp_ret fun H1 Q e q => ⟨k, rfl, q⟩
def p_check_kind : Pm := fun vs H Q => ∃ k : Kd, vs = [.str k.s] ∧ RetB .non H Q
theorem sc_check_kind : FnScope ["kind"] ["kind"] (defScope s_check_kind) := ⟨rfl, rfl, rfl, by decide +kernel, rfl, by decide +kernel, by decide +kernel⟩
include T in
theorem ok_check_kind : FnP P w K mg base 2 (He.ga K "check_kind") p_check_kind := by
  obtain ⟨fd, F⟩ := T.f_check_kind
  refine okR F sc_check_kind (fun _ _ _ _ _ _ us hl => match us, hl with | [_], _ => rfl) (fun vs H Q h => by obtain ⟨k, rfl, _⟩ := h; rfl) fun cdv A outer s H vs Q hr h => ⟨_, pss_one (ps_if (pt_not (pt_val (pe_cR (ok_is_kind T) (hr) (by rfl) T.g_is_kind (kp_is_kind T) (pa_cons (pv 0) pa_nil)))) pss_never pss_nil), ?_⟩
  obtain ⟨k, rfl, q⟩ := h
  exact s_skip (et_notT (et_B (ev_c' (ea_cons (ev_var rfl) ea_nil) u_is_kind))) fun H1 e => q H1 e
include T in
theorem kp_check_kind : PySem.W.keepIn K (.ref (He.ga K "check_kind")) = true := let ⟨_, F⟩ := T.f_check_kind; F.kp
theorem u_check_kind {H : Hp} {k : Kd} : PmP p_check_kind [.str k.s] H (Is .non) := pmp_ret fun H1 Q e q => ⟨k, rfl, q⟩
def p_counts_columns : Pm := fun vs H Q => ∃ k : Kd, vs = [.str k.s] ∧ RetB (.bl k.cols) H Q
theorem sc_counts_columns : FnScope ["kind"] ["kind"] (defScope s_counts_columns) := ⟨rfl, rfl, rfl, by decide +kernel, rfl, by decide +kernel, by decide +kernel⟩
include T in
theorem ok_counts_columns : FnP P w K mg base 1 (He.ga K "counts_columns") p_counts_columns := by
  obtain ⟨fd, F⟩ := T.f_counts_columns
  refine okR F sc_counts_columns (fun _ _ _ _ _ _ us hl => match us, hl with | [_], _ => rfl) (fun vs H Q h => by obtain ⟨k, rfl, _⟩ := h; rfl) fun cdv A outer s H vs Q hr h => ⟨_, pss_one (ps_ret (pe_or (pe_cmpR op_eq (pv 0) pe_str (nomark _)) (pe_one (pe_cmpR op_eq (pv 0) pe_str (nomark _))))), ?_⟩
  obtain ⟨k, rfl, q⟩ := h
  refine s_ret (v := .bl k.cols) (ev_is (ev_orV (a := decide (k.s = "stock")) (b := decide (k.s = "any")) (ev_op (ev_var rfl) ev_c (rv_eqS rfl)) fun _ => ev_op (ev_var rfl) ev_c (rv_eqS rfl)) ?_) fun H1 e => q H1 e
  cases k <;> rfl
include T in
theorem kp_counts_columns : PySem.W.keepIn K (.ref (He.ga K "counts_columns")) = true := let ⟨_, F⟩ := T.f_counts_columns; F.kp
theorem u_counts_columns {H : Hp} {k : Kd} : PmP p_counts_columns [.str k.s] H (Is (.bl k.cols)) := pmp_ret fun H1 Q e q => ⟨k, rfl, q⟩
def p_counts_rows : Pm := fun vs H Q => ∃ k : Kd, vs = [.str k.s] ∧ RetB (.bl k.rws) H Q
theorem sc_counts_rows : FnScope ["kind"] ["kind"] (defScope s_counts_rows) := ⟨rfl, rfl, rfl, by decide +kernel, rfl, by decide +kernel, by decide +kernel⟩
include T in
theorem ok_counts_rows : FnP P w K mg base 1 (He.ga K "counts_rows") p_counts_rows := by
  obtain ⟨fd, F⟩ := T.f_counts_rows
  refine okR F sc_counts_rows (fun _ _ _ _ _ _ us hl => match us, hl with | [_], _ => rfl) (fun vs H Q h => by obtain ⟨k, rfl, _⟩ := h; rfl) fun cdv A outer s H vs Q hr h => ⟨_, pss_one (ps_ret (pe_or (pe_cmpR op_eq (pv 0) pe_str (nomark _)) (pe_one (pe_cmpR op_eq (pv 0) pe_str (nomark _))))), ?_⟩
  obtain ⟨k, rfl, q⟩ := h
  refine s_ret (v := .bl k.rws) (ev_is (ev_orV (a := decide (k.s = "wish")) (b := decide (k.s = "any")) (ev_op (ev_var rfl) ev_c (rv_eqS rfl)) fun _ => ev_op (ev_var rfl) ev_c (rv_eqS rfl)) ?_) fun H1 e => q H1 e
  cases k <;> rfl
include T in
theorem kp_counts_rows : PySem.W.keepIn K (.ref (He.ga K "counts_rows")) = true := let ⟨_, F⟩ := T.f_counts_rows; F.kp
theorem u_counts_rows {H : Hp} {k : Kd} : PmP p_counts_rows [.str k.s] H (Is (.bl k.rws)) := pmp_ret fun H1 Q e q => ⟨k, rfl, q⟩
def p_is_possible_pair : Pm := fun vs H Q => ∃ (a : Addr) (p : Pr), vs = [.ref a] ∧ H a = some (.tup (pV p)) ∧ p.1 ≤ 7 ∧ p.2 ≤ 7 ∧ RetB (.bl true) H Q
theorem sc_is_possible_pair : FnScope ["value"] ["value"] (defScope s_is_possible_pair) := ⟨rfl, rfl, rfl, by decide +kernel, rfl, by decide +kernel, by decide +kernel⟩
include T in
theorem ok_is_possible_pair : FnP P w K mg base 3 (He.ga K "is_possible_pair") p_is_possible_pair := by
  obtain ⟨fd, F⟩ := T.f_is_possible_pair
  refine okR F sc_is_possible_pair (fun _ _ _ _ _ _ us hl => match us, hl with | [_], _ => rfl) (fun vs H Q h => by obtain ⟨a, p, rfl, _⟩ := h; rfl) fun cdv A outer s H vs Q hr h => ⟨_, pss_one (ps_ret (pe_and (pe_cR (ok_is_spot T) (hr) (by rfl) T.g_is_spot (kp_is_spot T) (pa_cons (pv 0) pa_nil)) (pe_and (pe_cR (ok_is_between T) (hr) (by rfl) T.g_is_between (kp_is_between T) (pa_cons (pe_ix ix_tup (pv 0) pe_int (fun _ _ => rfl)) (pa_cons pe_int (pa_cons (pe_gcn (v := .int 7) (by rfl) T.i_GREATEST) pa_nil)))) (pe_one (pe_cR (ok_is_between T) (hr) (by rfl) T.g_is_between (kp_is_between T) (pa_cons (pe_ix ix_tup (pv 0) pe_int (fun _ _ => rfl)) (pa_cons pe_int (pa_cons (pe_gcn (v := .int 7) (by rfl) T.i_GREATEST) pa_nil)))))))), ?_⟩
  obtain ⟨a, p, rfl, ha, h1, h2, q⟩ := h
  refine s_ret (v := .bl true) (ev_andT (ev_c' (ea_cons (ev_var rfl) ea_nil) (u_is_spot ha)) (ev_andT ?_ ?_)) fun H1 e => q H1 e
  · exact ev_c' (ea_cons (ev_op (ev_var rfl) ev_c (rv_ixT (st_of ha) rfl)) (ea_cons ev_c (ea_cons ev_c ea_nil))) (u_is_between (by omega) (by omega))
  · exact ev_c' (ea_cons (ev_op (ev_var rfl) ev_c (rv_ixT (st_of ha) rfl)) (ea_cons ev_c (ea_cons ev_c ea_nil))) (u_is_between (by omega) (by omega))
include T in
theorem kp_is_possible_pair : PySem.W.keepIn K (.ref (He.ga K "is_possible_pair")) = true := let ⟨_, F⟩ := T.f_is_possible_pair; F.kp
theorem u_is_possible_pair {H : Hp} {a : Addr} {p : Pr} (h : H a = some (.tup (pV p))) (h1 : p.1 ≤ 7) (h2 : p.2 ≤ 7) : PmP p_is_possible_pair [.ref a] H (Is (.bl true)) := pmp_ret fun H1 Q e q => ⟨a, p, rfl, e _ _ h, h1, h2, q⟩
def p_bit_of : Pm := fun vs H Q => ∃ n : Nat, vs = [.int (n : Int)] ∧ n ≤ 1000 ∧ RetB (.int ((2 ^ n : Nat) : Int)) H Q
theorem sc_bit_of : FnScope ["number"] ["number"] (defScope s_bit_of) := ⟨rfl, rfl, rfl, by decide +kernel, rfl, by decide +kernel, by decide +kernel⟩
include T in
theorem ok_bit_of : FnP P w K mg base 1 (He.ga K "bit_of") p_bit_of := by
  obtain ⟨fd, F⟩ := T.f_bit_of
  refine okR F sc_bit_of (fun _ _ _ _ _ _ us hl => match us, hl with | [_], _ => rfl) (fun vs H Q h => by obtain ⟨n, rfl, _⟩ := h; rfl) fun cdv A outer s H vs Q hr h => ⟨_, pss_one (ps_ret (pe_op op_shl pe_int (pv 0))), ?_⟩
  obtain ⟨n, rfl, hn, q⟩ := h
  refine s_ret (ev_is (ev_op ev_c (ev_var rfl) (rv_I ⟨by omega, by omega, by decide⟩)) ?_) fun H1 e => q H1 e
  show V.int (1 * 2 ^ (n : Int).toNat) = _
  rw [Int.toNat_natCast, Int.one_mul]
  push_cast
  rfl
include T in
theorem kp_bit_of : PySem.W.keepIn K (.ref (He.ga K "bit_of")) = true := let ⟨_, F⟩ := T.f_bit_of; F.kp
theorem u_bit_of {H : Hp} {n : Nat} (h : n ≤ 1000) : PmP p_bit_of [.int (n : Int)] H (Is (.int ((2 ^ n : Nat) : Int))) := pmp_ret fun H1 Q e q => ⟨n, rfl, h, q⟩
/-- a cell's value -/
def cV : Option Int → V
  | none => .non
  | some i => .int i
def p_is_entry : Pm := fun vs H Q => ∃ c : Option Int, vs = [cV c] ∧ RetB (.bl true) H Q
theorem sc_is_entry : FnScope ["value"] ["value"] (defScope s_is_entry) := ⟨rfl, rfl, rfl, by decide +kernel, rfl, by decide +kernel, by decide +kernel⟩
include T in
theorem ok_is_entry : FnP P w K mg base 2 (He.ga K "is_entry") p_is_entry := by
  obtain ⟨fd, F⟩ := T.f_is_entry
  refine okR F sc_is_entry (fun _ _ _ _ _ _ us hl => match us, hl with | [_], _ => rfl) (fun vs H Q h => by obtain ⟨c, rfl, _⟩ := h; rfl) fun cdv A outer s H vs Q hr h => ⟨_, pss_one (ps_ret (pe_or (pe_cmpR op_isN (pv 0) pe_non (nomark _)) (pe_one (pe_cR (ok_is_integer T) (hr) (by rfl) T.g_is_integer (kp_is_integer T) (pa_cons (pv 0) pa_nil))))), ?_⟩
  obtain ⟨c, rfl, q⟩ := h
  cases c with
  | none => exact s_ret (v := .bl true) (ev_orV (a := true) (b := true) (ev_op (ev_var rfl) ev_c fun H1 _ Q k => ⟨rfl, k H1 (Ex.refl H1)⟩) fun z => by cases z) fun H1 e => q H1 e
  | some i => exact s_ret (v := .bl true) (ev_orV (a := false) (b := true) (ev_op (ev_var rfl) ev_c fun H1 _ Q k => ⟨rfl, k H1 (Ex.refl H1)⟩) fun _ => ev_c' (ea_cons (ev_var rfl) ea_nil) u_is_integer) fun H1 e => q H1 e
include T in
theorem kp_is_entry : PySem.W.keepIn K (.ref (He.ga K "is_entry")) = true := let ⟨_, F⟩ := T.f_is_entry; F.kp
theorem u_is_entry {H : Hp} {c : Option Int} : PmP p_is_entry [cV c] H (Is (.bl true)) := pmp_ret fun H1 Q e q => ⟨c, rfl, q⟩
end
end K50
end
section /- PR2 -/
set_option Elab.async false
set_option linter.all false
set_option maxRecDepth 100000
set_option maxHeartbeats 1000000
/-! Tables and orders. -/
namespace K50
open PySem PySem.Spec L2 Evl EV
open PyProof.Rows hiding St
section
variable {P : Program} {w : World} {K : PySem.W.Frag} {mg : Str → Option Value} {base : Heap} (T : Tx K mg)
abbrev Grid := List (List (Option Int))
def RowA (H : Hp) (v : V) (r : List (Option Int)) : Prop := ∃ b, v = .ref b ∧ H b = some (.lst (r.map cV))
theorem RowA.ex : ∀ (H H' : Hp) (v : V) (r : List (Option Int)), Ex H H' → RowA H v r → RowA H' v r := fun _ _ _ _ e ⟨b, ev, h⟩ => ⟨b, ev, e _ _ h⟩
theorem PrA.ex' : ∀ (H H' : Hp) (v : V) (p : Pr), Ex H H' → PrA H v p → PrA H' v p := fun _ _ _ _ e h => h.ex e
def GrA (H : Hp) (g : Addr) (G : Grid) : Prop := ∃ rs, H g = some (.lst rs) ∧ Paired (RowA H) rs G
structure Sh (G : Grid) (m n : Nat) : Prop where
  len : G.length = m
  row : ∀ r ∈ G, r.length = n
  m1 : 1 ≤ m
  m8 : m ≤ 8
  n1 : 1 ≤ n
  n8 : n ≤ 8
def cell (G : Grid) (i j : Nat) : Option Int := (G.getD i []).getD j none
def TbA (K : PySem.W.Frag) (H : Hp) (t : Addr) (G : Grid) : Prop := ∃ dx g, H t = some (.ins (He.ga K "Table") dx [("grid", .ref g)]) ∧ GrA H g G
def PL (H : Hp) (xs : List V) (ps : List Pr) : Prop := Paired (PrA H) xs ps
def OrA (K : PySem.W.Frag) (H : Hp) (o : Addr) (ps : List Pr) : Prop := ∃ dx l d xs, H o = some (.ins (He.ga K "Order") dx [("listed", .ref l), ("spots", .ref d)]) ∧ H l = some (.lst xs) ∧ PL H xs ps
theorem GrA.ex {H H' : Hp} {g : Addr} {G : Grid} (h : GrA H g G) (e : Ex H H') : GrA H' g G := let ⟨rs, h1, h2⟩ := h; ⟨rs, e _ _ h1, paired_mono h2 fun a b => RowA.ex _ _ _ _ e⟩
theorem TbA.ex {K : PySem.W.Frag} {H H' : Hp} {g : Addr} {G : Grid} (h : TbA K H g G) (e : Ex H H') : TbA K H' g G := let ⟨dx, rs, h1, h2⟩ := h; ⟨dx, rs, e _ _ h1, h2.ex e⟩
theorem PL.ex {H H' : Hp} {xs : List V} {ps : List Pr} (h : PL H xs ps) (e : Ex H H') : PL H' xs ps := paired_mono h fun a b => PrA.ex' _ _ _ _ e
theorem OrA.ex {K : PySem.W.Frag} {H H' : Hp} {o : Addr} {ps : List Pr} (h : OrA K H o ps) (e : Ex H H') : OrA K H' o ps := let ⟨dx, l, d, xs, h1, h2, h3⟩ := h; ⟨dx, l, d, xs, e _ _ h1, e _ _ h2, h3.ex e⟩
theorem evl_row {te : TE} {σ : L2.St} {H : Hp} {D : Addr} {r : List (Option Int)} (h : EvL te σ H (r.map cV)) : EvP te σ H fun v H3 H4 => H3 D ≠ none → RowA (hid D H4) v r := fun H1 e Q q =>
  h H1 e Q fun p H2 hn e2 hp => q _ H2 e2 fun hD => ⟨p, rfl, by rw [hid_ne (fun z => hD (by rw [← z]; exact hn))]; exact hp⟩
def RowN (H0 : Hp) (H : Hp) (v : V) (r : List (Option Int)) : Prop := ∃ b, v = .ref b ∧ H0 b = none ∧ H b = some (.lst (r.map cV))
theorem RowN.ex (H0 : Hp) : ∀ (H H' : Hp) (v : V) (r : List (Option Int)), Ex H H' → RowN H0 H v r → RowN H0 H' v r := fun _ _ _ _ e ⟨b, ev, hn, h⟩ => ⟨b, ev, hn, e _ _ h⟩
theorem evl_rowN {te : TE} {σ : L2.St} {H0 H : Hp} {D : Addr} {r : List (Option Int)} (e0 : Ex H0 H) (h : EvL te σ H (r.map cV)) : EvP te σ H fun v H3 H4 => H3 D ≠ none → RowN H0 (hid D H4) v r := fun H1 e Q q =>
  h H1 e Q fun p H2 hn e2 hp => q _ H2 e2 fun hD => ⟨p, rfl, fresh_back (e0.trans e) hn, by rw [hid_ne (fun z => hD (by rw [← z]; exact hn))]; exact hp⟩
theorem evu_pr {te : TE} {σ : L2.St} {H : Hp} {D : Addr} {p : Pr} (h : EvU te σ H (pV p)) : EvP te σ H fun v H3 H4 => H3 D ≠ none → PrA (hid D H4) v p := fun H1 e Q q =>
  h H1 e Q fun a H2 hn e2 hp => q _ H2 e2 fun hD => ⟨a, rfl, by rw [hid_ne (fun z => hD (by rw [← z]; exact hn))]; exact hp⟩
theorem ev_lenO {C : Addr} {p : Pm} {ta : TE} {σ : L2.St} {H : Hp} {a dx : Addr} {fs : List (Str × V)} {k : Nat} (ho : Ev ta σ H (.ref a)) (hi : H a = some (.ins C dx fs)) (hp : PmP p [.ref a] H (Is (.int (k : Int)))) (hk : k ≤ 100000) :
    Ev (tCB (OW.rLenO C p.sp) (tCons ta tNil)) σ H (.int (k : Int)) := fun H1 e Q q =>
  ho H1 e _ fun H2 e2 => ⟨a, dx, fs, rfl, (e.trans e2) _ _ hi, hp H2 (e.trans e2) _ fun v H3 e3 ev => ⟨(k : Int), ev, by omega, by omega, by rw [show v = _ from ev]; exact q H3 (e2.trans e3)⟩⟩
theorem rv_inO {C : Addr} {p : Pm} {x : V} {H : Hp} {a dx : Addr} {fs : List (Str × V)} {neg b : Bool} (hi : H a = some (.ins C dx fs)) (hp : PmP p [.ref a, x] H (Is (.bl b))) : RV (OW.rInO C p.sp neg) x (.ref a) H (.bl (if neg then !b else b)) := fun H1 e Q q =>
  ⟨a, dx, fs, rfl, e _ _ hi, hp H1 e _ fun v H2 e2 ev => ⟨b, ev, q H2 e2⟩⟩
theorem atN {α : Type} {xs : List α} {j : Nat} {x : α} (h : xs[j]? = some x) : atI xs (j : Int) = some x := atI_nat h
/-- the target (i, x): a new pair taken apart -/
theorem g_pair {K : PySem.W.Frag} {i j : Nat} {x y : V} {T : Addr} {σ : L2.St} {H : Hp} {R : L2.St → Hp → Prop} (hT : H T = none) (h : R ((σ.set i (some x)).set j (some y)) (upd H T (.tup [x, y]))) :
    gTup K 2 (gCons (gName i) (gCons (gName j) gNil)) (.ref T) σ (upd H T (.tup [x, y])) R := ⟨T, [x, y], rfl, st_of upd_same, rfl, _, _, rfl, _, _, rfl, rfl, h⟩
theorem g_tup2 {K : PySem.W.Frag} {i j : Nat} {x y : V} {T : Addr} {σ : L2.St} {H : Hp} {R : L2.St → Hp → Prop} (hT : H T = some (.tup [x, y])) (h : R ((σ.set i (some x)).set j (some y)) H) :
    gTup K 2 (gCons (gName i) (gCons (gName j) gNil)) (.ref T) σ H R := ⟨T, [x, y], rfl, st_of hT, rfl, _, _, rfl, _, _, rfl, rfl, h⟩

theorem range_get {α : Type} : ∀ l : List α, (List.range l.length).filterMap (fun i => l[i]?) = l := fun l => by
  apply List.ext_getElem?
  intro i
  have : ∀ n, n ≤ l.length → (List.range n).filterMap (fun i => l[i]?) = l.take n := fun n => by
    induction n with
    | zero => simp
    | succ n ih =>
      intro h
      rw [List.range_succ, List.filterMap_append, ih (by omega), List.take_succ_eq_append_getElem (by omega)]
      simp [show n < l.length by omega]
  rw [this _ (Nat.le_refl _), List.take_length]

def p_is_row : Pm := fun vs H Q => ∃ (b : Addr) (r : List (Option Int)), vs = [.ref b, .int (r.length : Int)] ∧ H b = some (.lst (r.map cV)) ∧ RetB (.bl true) H Q
theorem sc_is_row : FnScope ["value", "width", "entry"] ["value", "width"] (defScope s_is_row) := ⟨rfl, rfl, rfl, by decide +kernel, rfl, by decide +kernel, by decide +kernel⟩
include T in
theorem ok_is_row : FnP P w K mg base 3 (He.ga K "is_row") p_is_row := by
  obtain ⟨fd, F⟩ := T.f_is_row
  refine okR F sc_is_row (fun _ _ _ _ _ _ us hl => match us, hl with | [_, _], _ => rfl) (fun vs H Q h => by obtain ⟨b, r, rfl, _⟩ := h; rfl) fun cdv A outer s H vs Q hr h => ⟨_, (pss_cons (ps_if (PW.pt (pw_or (pt_not (pt_val (pe_callB call_isi (by rfl) T.n_isinstance bISI (pa_cons (pv 0) (pa_cons (pe_bltn (v := .ty "list") (by rfl) T.n_list PyProof.Rows.boot_list rfl) pa_nil))))) (pw_or1 (pt_cmpR op_ne (pe_callB call_len_seq (by rfl) T.n_len PySem.boot_len (pa_cons (pv 0) pa_nil)) (pv 1) (nomark _))))) pss_never pss_nil) (pss_cons (ps_for PassesOwn.never rfl (pi_list (pv 0)) (pg_name (i := 2) sc_is_row.nd rfl (.inl rfl)) (pss_one (ps_if (pt_not (pt_val (pe_cR (ok_is_entry T) (hr.mono (by decide)) (by rfl) T.g_is_entry (kp_is_entry T) (pa_cons (pv 2) pa_nil)))) pss_never pss_nil))) (pss_one (ps_ret pe_bl)))), ?_⟩
  obtain ⟨b, r, rfl, hb, q⟩ := h
  refine q_skip (et_orF (et_notT (et_B ?_)) (et_test ?_)) fun H1 e1 => ?_
  · exact ev_isi (ea_cons (ev_var rfl) (ea_cons ev_c ea_nil)) (.ty _) (fun H1 e => .base (.lst (e _ _ hb))) (kit_ty (by decide +kernel))
  · exact ev_op (ev_len (ev_var rfl) (sq_of hb)) (ev_var rfl) (rv_neI (by rw [List.length_map]; simp))
  refine q_forI (evi_list (ev_var rfl) (sq_of (e1 _ _ hb))) fun H2 e2 => ⟨fun _ σ' H' => (∃ z, σ' = [some (.ref b), some (.int (r.length : Int)), z]) ∧ Ex H2 H', ⟨⟨_, rfl⟩, Ex.refl _⟩, fun _ _ _ _ h => h.2, ?_, ?_⟩
  · rintro i x σ' H' H'' hi ⟨⟨z, rfl⟩, e3⟩ ⟨rfl, hx⟩
    rw [List.getElem?_map] at hx
    obtain ⟨c, hc, rfl⟩ := Option.map_eq_some_iff.mp hx
    exact s_skip (et_notT (et_B (ev_c' (ea_cons (ev_var rfl) ea_nil) u_is_entry))) fun H4 e4 => ⟨⟨_, rfl⟩, e3.trans e4⟩
  · rintro σ' H' ⟨⟨z, rfl⟩, e3⟩
    exact s_ret ev_c fun H4 e4 => q H4 (e1.trans (e2.trans (e3.trans e4)))
include T in
theorem kp_is_row : PySem.W.keepIn K (.ref (He.ga K "is_row")) = true := let ⟨_, F⟩ := T.f_is_row; F.kp
theorem u_is_row {H : Hp} {b : Addr} {r : List (Option Int)} {n : Nat} (h : H b = some (.lst (r.map cV))) (hn : r.length = n) : PmP p_is_row [.ref b, .int (n : Int)] H (Is (.bl true)) := pmp_ret fun H1 Q e q => ⟨b, r, by rw [hn], e _ _ h, q⟩
def p_width_of : Pm := fun vs H Q => ∃ (g : Addr) (r : List (Option Int)) (G : Grid), vs = [.ref g] ∧ GrA H g (r :: G) ∧ r.length ≤ 8 ∧ RetB (.int (r.length : Int)) H Q
theorem sc_width_of : FnScope ["rows"] ["rows"] (defScope s_width_of) := ⟨rfl, rfl, rfl, by decide +kernel, rfl, by decide +kernel, by decide +kernel⟩
include T in
theorem ok_width_of : FnP P w K mg base 1 (He.ga K "width_of") p_width_of := by
  obtain ⟨fd, F⟩ := T.f_width_of
  refine okR F sc_width_of (fun _ _ _ _ _ _ us hl => match us, hl with | [_], _ => rfl) (fun vs H Q h => by obtain ⟨g, r, G, rfl, _⟩ := h; rfl) fun cdv A outer s H vs Q hr h => ⟨_, (pss_cons (ps_if (PW.pt (pw_and (pt_val (pe_callB call_isi (by rfl) T.n_isinstance bISI (pa_cons (pe_ix ix_list (pv 0) pe_int (fun _ _ => rfl)) (pa_cons (pe_bltn (v := .ty "list") (by rfl) T.n_list PyProof.Rows.boot_list rfl) pa_nil)))) (pw_and1 (pt_cmpR op_le (pe_callB call_len_seq (by rfl) T.n_len PySem.boot_len (pa_cons (pe_ix ix_list (pv 0) pe_int (fun _ _ => rfl)) pa_nil)) (pe_gcn (v := .int 8) (by rfl) T.i_MOST) (nomark _))))) (pss_one (ps_ret (pe_callB call_len_seq (by rfl) T.n_len PySem.boot_len (pa_cons (pe_ix ix_list (pv 0) pe_int (fun _ _ => rfl)) pa_nil)))) pss_nil) (pss_one (ps_ret pe_int))), ?_⟩
  obtain ⟨g, r, G, rfl, ⟨rs, hg, hp⟩, hn, q⟩ := h
  cases hp with
  | @cons v _ rs' _ hv ht =>
    obtain ⟨b, rfl, hb⟩ := hv
    have ix : ∀ {H1 : Hp}, Ex H H1 → Ev (tOp (rIxL K) (tVar 0) (tC (.int 0))) [some (.ref g)] H1 (.ref b) := fun e => ev_op (ev_var rfl) ev_c (rv_ixL (sq_of (e _ _ hg)) (atN (j := 0) rfl))
    refine q_when (b := true) (et_andT (et_B ?_) (et_test ?_)) (fun _ H1 e1 => ?_) (fun z => by cases z)
    · exact ev_isi (ea_cons (ix (Ex.refl H)) (ea_cons ev_c ea_nil)) (.ty _) (fun H1 e => .base (.lst (e _ _ hb))) (kit_ty (by decide +kernel))
    · exact ev_op (ev_len (ix (Ex.refl H)) (sq_of hb)) ev_c (rv_le (by rw [List.length_map]; exact decide_eq_true (by omega)))
    · refine s_ret (ev_is (ev_len (ix e1) (sq_of (e1 _ _ hb))) (by rw [List.length_map])) fun H2 e2 => q H2 (e1.trans e2)
include T in
theorem kp_width_of : PySem.W.keepIn K (.ref (He.ga K "width_of")) = true := let ⟨_, F⟩ := T.f_width_of; F.kp
theorem u_width_of {H : Hp} {g : Addr} {r : List (Option Int)} {G : Grid} (h : GrA H g (r :: G)) (hn : r.length ≤ 8) : PmP p_width_of [.ref g] H (Is (.int (r.length : Int))) := pmp_ret fun H1 Q e q => ⟨g, r, G, rfl, h.ex e, hn, q⟩
def p_Table_rows (K : PySem.W.Frag) : Pm := fun vs H Q => ∃ (t : Addr) (G : Grid), vs = [.ref t] ∧ TbA K H t G ∧ G.length ≤ 100 ∧ (∀ r ∈ G, r.length ≤ 100) ∧ ∀ v H', Ex H H' → LRel (RowN H) G v H H' → Q v H'
theorem sc_Table_rows : FnScope ["self", "row"] ["self"] (defScope s_Table_rows) := ⟨rfl, rfl, rfl, by decide +kernel, rfl, by decide +kernel, by decide +kernel⟩
include T in
theorem ok_Table_rows : FnP P w K mg base 1 (He.ma K (He.ga K "Table") "rows") (p_Table_rows K) := by
  obtain ⟨fd, F⟩ := T.f_Table_rows
  refine okR F sc_Table_rows (fun _ _ _ _ _ _ us hl => match us, hl with | [_], _ => rfl) (fun vs H Q h => by obtain ⟨t, G, rfl, _⟩ := h; rfl) fun cdv A outer s H vs Q hr h => ⟨_, (pss_one (ps_ret (pe_lc (own := [("row", 1)]) (tt := tYes) (te := tCB (rListS K) (tCons (tVar 1) tNil)) rfl sc_Table_rows.nd (pi_list (pe_fld (pv 0) rfl)) (blkOk_by (own := [("row", 1)]) (N := ["self", "row"]) (sc := (defScope s_Table_rows)) (by decide +kernel)) (fun _ _ _ _ _ => (pg_name (i := 1) sc_Table_rows.nd rfl (.inl rfl))) (fun _ _ _ _ _ => pts_nil) (fun _ _ _ _ _ => (pe_callTy call_list_of (by rfl) T.n_list PyProof.Rows.boot_list (pa_cons (pv 1) pa_nil)))))), ?_⟩
  obtain ⟨t, G, rfl, ⟨dx, g, ht, rs, hg, hp⟩, hl, hl2, q⟩ := h
  have hrs : rs.length = G.length := hp.length
  have main := evp_lc (n := rs.length) (Y := YAt rs) (σ := [some (.ref t), none]) (H := H) (wi := iList K (tFld K (tVar 0) "grid")) (g := gName 1) (tt := tYes) (te := tCB (rListS K) (tCons (tVar 1) tNil)) (vs := [1]) (RowN H) (RowN.ex H) (fun i => G[i]?) (by omega)
    (evi_list (ev_fld (ev_var rfl) ht T.cl_Table T.na_Table_grid rfl) (sq_of hg)) (by
      rintro D i H' x H'' hi e hD hD' ⟨rfl, hx⟩ R k
      obtain ⟨r, hr, b, rfl, hb⟩ := paired_get hp i x hx
      refine k _ _ rfl (Ex.refl _) ?_ ?_
      · rw [hr]
        exact fun H1 e1 Q q => q H1 (Ex.refl H1)
      · intro z hz
        have hz' : G[i]? = some z := hz
        rw [hr] at hz'
        cases hz'
        exact evl_rowN e (el_list (ev_var rfl) (sq_of (e _ _ hb))))
  refine s_retP main fun v H1 e1 r => q v H1 e1 ?_
  have er : (List.range rs.length).filterMap (fun i => G[i]?) = G := by
    rw [hrs]
    exact range_get G
  rw [er] at r
  exact r
def pairsOf (G : Grid) (m n : Nat) : List Pr := (List.range m).flatMap fun i => (List.range n).filterMap fun j => if (cell G i j).isSome then some (i, j) else none
theorem cell_at {G : Grid} {m n i j : Nat} (s : Sh G m n) (hi : i < m) (hj : j < n) : ∃ r, G[i]? = some r ∧ r.length = n ∧ r[j]? = some (cell G i j) := by
  have h1 : i < G.length := by rw [s.len]; exact hi
  have h2 : G[i].length = n := s.row _ (List.getElem_mem h1)
  refine ⟨G[i], by simp [h1], h2, ?_⟩
  unfold cell
  have e : G.getD i [] = G[i] := by simp [List.getD, h1]
  rw [e, List.getD_eq_getElem?_getD]
  simp [h2, hj]
theorem rv_notN {H : Hp} {x : V} {b : Bool} (h : (!decide (x = .non)) = b) : RV (fun x y H Q => y = .non ∧ Q (.bl (!decide (x = .non))) H) x .non H (.bl b) := fun H1 _ _ q => ⟨rfl, by rw [h]; exact q H1 (Ex.refl H1)⟩
theorem rv_isN {H : Hp} {x : V} {b : Bool} (h : decide (x = .non) = b) : RV (fun x y H Q => y = .non ∧ Q (.bl (decide (x = .non))) H) x .non H (.bl b) := fun H1 _ _ q => ⟨rfl, by rw [h]; exact q H1 (Ex.refl H1)⟩
theorem cV_non (c : Option Int) : decide (cV c = .non) = c.isNone := by cases c <;> simp [cV]
theorem ev_lenP {K : PySem.W.Frag} {ι : Type} {F : Hp → V → ι → Prop} {items : List ι} {te : TE} {σ : L2.St} {H : Hp} (h : EvP te σ H (LRel F items)) : Ev (tCB (rLenS K) (tCons te tNil)) σ H (.int (items.length : Int)) := fun H1 e Q q =>
  h H1 e _ fun v H2 e2 ⟨p, xs, ev, hn, hp, hr⟩ => ⟨p, xs, by rw [ev], .inl (sq_of hp), by rw [hr.length]; exact q H2 e2⟩
theorem ev_cell {K : PySem.W.Frag} {ta ti tj : TE} {σ : L2.St} {H : Hp} {g : Addr} {G : Grid} {m n i j : Nat} (s : Sh G m n) (hi : i < m) (hj : j < n) (hg : GrA H g G) (ha : Ev ta σ H (.ref g)) (h1 : Ev ti σ H (.int (i : Int))) (h2 : Ev tj σ H (.int (j : Int))) :
    Ev (tOp (rIxL K) (tOp (rIxL K) ta ti) tj) σ H (cV (cell G i j)) := by
  obtain ⟨r, hr, hl, hc⟩ := cell_at s hi hj
  obtain ⟨rs, hg1, hp⟩ := hg
  obtain ⟨v, hv, b, rfl, hb⟩ := paired_get' hp i r hr
  exact ev_op (ev_op ha h1 (rv_ixL (sq_of hg1) (atI_nat hv))) h2 (rv_ixL (sq_of hb) (atI_nat (by rw [List.getElem?_map, hc]; rfl)))

def p_Table_pairs (K : PySem.W.Frag) : Pm := fun vs H Q => ∃ (t : Addr) (G : Grid) (m n : Nat), vs = [.ref t] ∧ TbA K H t G ∧ Sh G m n ∧ ∀ v H', Ex H H' → LRel PrA (pairsOf G m n) v H H' → Q v H'
theorem sc_Table_pairs : FnScope ["self", "i", "row", "j", "price"] ["self"] (defScope s_Table_pairs) := ⟨rfl, rfl, rfl, by decide +kernel, rfl, by decide +kernel, by decide +kernel⟩
include T in
theorem ok_Table_pairs : FnP P w K mg base 1 (He.ma K (He.ga K "Table") "pairs") (p_Table_pairs K) := by
  obtain ⟨fd, F⟩ := T.f_Table_pairs
  refine okR F sc_Table_pairs (fun _ _ _ _ _ _ us hl => match us, hl with | [_], _ => rfl) (fun vs H Q h => by obtain ⟨t, G, m, n, rfl, _⟩ := h; rfl) fun cdv A outer s H vs Q hr h => ⟨_, (pss_one (ps_ret (pe_lc2 (own := [("i", 1), ("row", 2), ("j", 3), ("price", 4)]) (vs1 := [3, 4]) (g := gTup K 2 (gCons (gName 1) (gCons (gName 2) gNil))) (wi1 := iEnum K (tCons (tVar 2) tNil)) (g1 := gTup K 2 (gCons (gName 3) (gCons (gName 4) gNil))) (tt := tYes) rfl sc_Table_pairs.nd (pi_enum (by rfl) T.n_enumerate (pa_cons (pe_fld (pv 0) rfl) pa_nil)) (blkOk_by (own := [("i", 1), ("row", 2), ("j", 3), ("price", 4)]) (N := ["self", "i", "row", "j", "price"]) (sc := (defScope s_Table_pairs)) (by decide +kernel)) (by decide) (fun _ _ _ _ _ => (pg_tup rfl (pgs_cons (pg_name (i := 1) sc_Table_pairs.nd rfl (.inl rfl)) (pgs_cons (pg_name (i := 2) sc_Table_pairs.nd rfl (.inl rfl)) pgs_nil)))) (fun _ _ _ _ _ => pts_nil) (fun _ _ _ _ _ => (pi_enum (by rfl) T.n_enumerate (pa_cons (pv 2) pa_nil))) (fun _ _ _ _ _ => (pg_tup rfl (pgs_cons (pg_name (i := 3) sc_Table_pairs.nd rfl (.inl rfl)) (pgs_cons (pg_name (i := 4) sc_Table_pairs.nd rfl (.inl rfl)) pgs_nil)))) (fun _ _ _ _ _ => pts_one (pt_cmpR op_notN (pv 4) pe_non (nomark _))) (fun _ _ _ _ _ => pe_tup (pa_cons (pv 1) (pa_cons (pv 3) pa_nil)))))), ?_⟩
  obtain ⟨t, G, m, n, rfl, ⟨dx, g, ht, rs, hg, hp⟩, sh, q⟩ := h
  have hrs : rs.length = m := by rw [hp.length]; exact sh.len
  have := sh.m8
  have := sh.n8
  have main := evp_lc2 (n := rs.length) (n1 := n) (Y := YPair (fun i => some (.int (i : Nat))) (fun i => rs[i]?)) (σ := [some (.ref t), none, none, none, none]) (H := H) (wi := iEnum K (tCons (tFld K (tVar 0) "grid") tNil)) (g := gTup K 2 (gCons (gName 1) (gCons (gName 2) gNil))) (tt := tYes)
    (wi1 := iEnum K (tCons (tVar 2) tNil)) (g1 := gTup K 2 (gCons (gName 3) (gCons (gName 4) gNil))) (tt1 := tTest (tOp (fun x y H Q => y = .non ∧ Q (.bl (!decide (x = .non))) H) (tVar 4) (tC .non))) (te := tTup (tCons (tVar 1) (tCons (tVar 3) tNil))) (vs := [1, 2, 3, 4]) (vs1 := [3, 4])
    PrA PrA.ex' (fun i j => if (cell G i j).isSome then some (i, j) else none) (by rw [hrs]; exact Nat.le_trans (Nat.mul_le_mul sh.m8 sh.n8) (by decide)) (evi_enum (ea_cons (ev_fld (ev_var rfl) ht T.cl_Table T.na_Table_grid rfl) ea_nil) (sq_of hg)) (by
      rintro D i H' x H'' hi e hD hD' ⟨T, y1, y2, rfl, hT, rfl, e1, e2⟩ R k
      cases e1
      obtain ⟨r, hr, b, rfl, hb⟩ := paired_get hp i y2 e2
      have hi' : i < m := by omega
      have hl : (r.map cV).length = n := by
        rw [List.length_map]
        exact sh.row r (List.mem_of_getElem? hr)
      have nb : b ≠ D := ne_of_none hb hD
      refine g_pair hT (k _ _ (YPair (fun j => some (.int (j : Nat))) (fun j => (r.map cV)[j]?)) rfl (Ex.new hT) (fun H1 e1 Q q => q H1 (Ex.refl H1)) ?_ ?_)
      · rw [← hl]
        exact evix_enum (ea_cons (ev_var rfl) ea_nil) ((e.trans (Ex.new hT)) _ _ hb) nb
      rintro j H3 x H4 hj e3 hD3 ⟨T2, z1, z2, rfl, hT2, rfl, f1, f2⟩ R1 k1
      cases f1
      obtain ⟨r2, hr2, hl2, hc⟩ := cell_at sh hi' hj
      rw [hr] at hr2
      cases hr2
      have f2 : (r.map cV)[j]? = some z2 := f2
      rw [List.getElem?_map, hc] at f2
      cases f2
      refine g_pair hT2 (k1 _ _ rfl (Ex.new hT2) ?_ ?_)
      · refine et_test (ev_op (ev_var rfl) ev_c (rv_notN ?_))
        rw [cV_non]
        cases cell G i j <;> rfl
      · intro z hz
        have ez : z = (i, j) := by
          by_cases hs : (cell G i j).isSome = true
          · rw [if_pos hs] at hz
            exact (Option.some.inj hz).symm
          · rw [if_neg hs] at hz
            cases hz
        subst ez
        exact evu_pr (eu_tup (vs := pV (i, j)) (ea_cons (ev_var rfl) (ea_cons (ev_var rfl) ea_nil)) (by show 2 ≤ 100000; decide)))
  refine s_retP main fun v H1 e1 r => q v H1 e1 ?_
  rw [hrs] at r
  exact r
theorem u_Table_pairs {K : PySem.W.Frag} {H : Hp} {t : Addr} {G : Grid} {m n : Nat} (h : TbA K H t G) (s : Sh G m n) : PmP (p_Table_pairs K) [.ref t] H (LRel PrA (pairsOf G m n)) := fun H1 e Q q => ⟨t, G, m, n, rfl, h.ex e, s, fun v H2 e2 r => q v H2 e2 r⟩
theorem u_Table_rows {K : PySem.W.Frag} {H : Hp} {t : Addr} {G : Grid} {m n : Nat} (h : TbA K H t G) (s : Sh G m n) : PmP (p_Table_rows K) [.ref t] H (fun v Ha Hb => LRel (RowN Ha) G v Ha Hb) := fun H1 e Q q => ⟨t, G, rfl, h.ex e, by have := s.len; have := s.m8; omega, fun r hr => by have := s.row r hr; have := s.n8; omega, fun v H2 e2 r => q v H2 e2 r⟩
def p_Table_len (K : PySem.W.Frag) : Pm := fun vs H Q => ∃ (t : Addr) (G : Grid) (m n : Nat), vs = [.ref t] ∧ TbA K H t G ∧ Sh G m n ∧ RetB (.int ((pairsOf G m n).length : Int)) H Q
theorem sc_Table_len : FnScope ["self"] ["self"] (defScope s_Table_len) := ⟨rfl, rfl, rfl, by decide +kernel, rfl, by decide +kernel, by decide +kernel⟩
include T in
theorem ok_Table_len : FnP P w K mg base 2 (He.ma K (He.ga K "Table") "__len__") (p_Table_len K) := by
  obtain ⟨fd, F⟩ := T.f_Table_len
  refine okR F sc_Table_len (fun _ _ _ _ _ _ us hl => match us, hl with | [_], _ => rfl) (fun vs H Q h => by obtain ⟨t, G, m, n, rfl, _⟩ := h; rfl) fun cdv A outer s H vs Q hr h => ⟨_, (pss_one (ps_ret (pe_callB call_len_seq (by rfl) T.n_len PySem.boot_len (pa_cons (pe_m0 (pv 0) T.cl_Table T.m_Table_pairs (ok_Table_pairs T) (hr.mono (by decide))) pa_nil)))), ?_⟩
  obtain ⟨t, G, m, n, rfl, ht, sh, q⟩ := h
  obtain ⟨dx, g, hi, hg⟩ := id ht
  exact s_ret (ev_lenP (evp_m0 (ev_var rfl) hi rfl (u_Table_pairs ht sh) LRel.back)) fun H1 e => q H1 e
theorem u_Table_len {K : PySem.W.Frag} {H : Hp} {t : Addr} {G : Grid} {m n : Nat} (h : TbA K H t G) (s : Sh G m n) : PmP (p_Table_len K) [.ref t] H (Is (.int ((pairsOf G m n).length : Int))) := pmp_ret fun H1 Q e q => ⟨t, G, m, n, rfl, h.ex e, s, q⟩
def p_Table_has_cell (K : PySem.W.Frag) : Pm := fun vs H Q => ∃ (t a : Addr) (G : Grid) (m n : Nat) (p : Pr), vs = [.ref t, .ref a] ∧ TbA K H t G ∧ Sh G m n ∧ H a = some (.tup (pV p)) ∧ p.1 < m ∧ p.2 < n ∧ RetB (.bl true) H Q
theorem sc_Table_has_cell : FnScope ["self", "value"] ["self", "value"] (defScope s_Table_has_cell) := ⟨rfl, rfl, rfl, by decide +kernel, rfl, by decide +kernel, by decide +kernel⟩
include T in
theorem ok_Table_has_cell : FnP P w K mg base 3 (He.ma K (He.ga K "Table") "has_cell") (p_Table_has_cell K) := by
  obtain ⟨fd, F⟩ := T.f_Table_has_cell
  refine okR F sc_Table_has_cell (fun _ _ _ _ _ _ us hl => match us, hl with | [_, _], _ => rfl) (fun vs H Q h => by obtain ⟨t, a, G, m, n, p, rfl, _⟩ := h; rfl) fun cdv A outer s H vs Q hr h => ⟨_, (pss_one (ps_ret (pe_and (pe_cR (ok_is_spot T) (hr.mono (by decide)) (by rfl) T.g_is_spot (kp_is_spot T) (pa_cons (pv 1) pa_nil)) (pe_and (pe_chain op_le op_lt pe_int (pe_ix ix_tup (pv 1) pe_int (fun _ _ => rfl)) (pe_callB call_len_seq (by rfl) T.n_len PySem.boot_len (pa_cons (pe_fld (pv 0) rfl) pa_nil))) (pe_one (pe_chain op_le op_lt pe_int (pe_ix ix_tup (pv 1) pe_int (fun _ _ => rfl)) (pe_callB call_len_seq (by rfl) T.n_len PySem.boot_len (pa_cons (pe_ix ix_list (pe_fld (pv 0) rfl) pe_int (fun _ _ => rfl)) pa_nil)))))))), ?_⟩
  obtain ⟨t, a, G, m, n, p, rfl, ht, sh, ha, h1, h2, q⟩ := h
  obtain ⟨dx, g, hi, rs, hg, hp⟩ := id ht
  have hrs : rs.length = m := by rw [hp.length]; exact sh.len
  refine s_ret (v := .bl true) (ev_andT (ev_c' (ea_cons (ev_var rfl) ea_nil) (u_is_spot ha)) (ev_andT ?_ ?_)) fun H1 e => q H1 e
  · exact ev_chain ev_c (ev_op (ev_var rfl) ev_c (rv_ixT (st_of ha) (atN (j := 0) rfl))) (ev_len (ev_fld (ev_var rfl) hi T.cl_Table T.na_Table_grid rfl) (sq_of hg)) (rv_le (decide_eq_true (by omega))) (rv_lt (decide_eq_true (by omega)))
  · obtain ⟨r, hr, hl, _⟩ := cell_at sh (i := 0) (j := 0) (by omega) (by omega)
    obtain ⟨v, hv, b, rfl, hb⟩ := paired_get' hp 0 r hr
    exact ev_chain ev_c (ev_op (ev_var rfl) ev_c (rv_ixT (st_of ha) (atN (j := 1) rfl))) (ev_len (ev_op (ev_fld (ev_var rfl) hi T.cl_Table T.na_Table_grid rfl) ev_c (rv_ixL (sq_of hg) (atN (j := 0) hv))) (sq_of hb)) (rv_le (decide_eq_true (by omega))) (rv_lt (decide_eq_true (by rw [List.length_map]; omega)))
theorem u_Table_has_cell {K : PySem.W.Frag} {H : Hp} {t a : Addr} {G : Grid} {m n : Nat} {p : Pr} (h : TbA K H t G) (s : Sh G m n) (ha : H a = some (.tup (pV p))) (h1 : p.1 < m) (h2 : p.2 < n) : PmP (p_Table_has_cell K) [.ref t, .ref a] H (Is (.bl true)) := pmp_ret fun H1 Q e q => ⟨t, a, G, m, n, p, rfl, h.ex e, s, e _ _ ha, h1, h2, q⟩
def p_Table_contains (K : PySem.W.Frag) : Pm := fun vs H Q => ∃ (t a : Addr) (G : Grid) (m n : Nat) (p : Pr), vs = [.ref t, .ref a] ∧ TbA K H t G ∧ Sh G m n ∧ H a = some (.tup (pV p)) ∧ p.1 < m ∧ p.2 < n ∧ (cell G p.1 p.2).isSome = true ∧ RetB (.bl true) H Q
theorem sc_Table_contains : FnScope ["self", "value"] ["self", "value"] (defScope s_Table_contains) := ⟨rfl, rfl, rfl, by decide +kernel, rfl, by decide +kernel, by decide +kernel⟩
include T in
theorem ok_Table_contains : FnP P w K mg base 4 (He.ma K (He.ga K "Table") "__contains__") (p_Table_contains K) := by
  obtain ⟨fd, F⟩ := T.f_Table_contains
  refine okR F sc_Table_contains (fun _ _ _ _ _ _ us hl => match us, hl with | [_, _], _ => rfl) (fun vs H Q h => by obtain ⟨t, a, G, m, n, p, rfl, _⟩ := h; rfl) fun cdv A outer s H vs Q hr h => ⟨_, (pss_one (ps_ret (pe_and (pe_mR (pv 0) T.cl_Table T.m_Table_has_cell (ok_Table_has_cell T) (hr.mono (by decide)) (pa_cons (pv 1) pa_nil)) (pe_one (pe_cmpR op_notN (pe_ix ix_list (pe_ix ix_list (pe_fld (pv 0) rfl) (pe_ix ix_tup (pv 1) pe_int (fun _ _ => rfl)) (fun _ _ => rfl)) (pe_ix ix_tup (pv 1) pe_int (fun _ _ => rfl)) (fun _ _ => rfl)) pe_non (nomark _)))))), ?_⟩
  obtain ⟨t, a, G, m, n, p, rfl, ht, sh, ha, h1, h2, hc, q⟩ := h
  obtain ⟨dx, g, hi, hg⟩ := id ht
  refine s_ret (v := .bl true) (ev_andT (evp_mR (ev_var rfl) hi rfl (ea_cons (ev_var rfl) ea_nil) (u_Table_has_cell ht sh ha h1 h2)).ev ?_) fun H1 e => q H1 e
  refine ev_op (ev_cell sh h1 h2 hg (ev_fld (ev_var rfl) hi T.cl_Table T.na_Table_grid rfl) (ev_op (ev_var rfl) ev_c (rv_ixT (st_of ha) (atN (j := 0) rfl))) (ev_op (ev_var rfl) ev_c (rv_ixT (st_of ha) (atN (j := 1) rfl)))) ev_c (rv_notN ?_)
  rw [cV_non]
  cases q : cell G p.1 p.2 with
  | none => rw [q] at hc; cases hc
  | some c => rfl
theorem u_Table_contains {K : PySem.W.Frag} {H : Hp} {t a : Addr} {G : Grid} {m n : Nat} {p : Pr} (h : TbA K H t G) (s : Sh G m n) (ha : H a = some (.tup (pV p))) (h1 : p.1 < m) (h2 : p.2 < n) (hc : (cell G p.1 p.2).isSome = true) : PmP (p_Table_contains K) [.ref t, .ref a] H (Is (.bl true)) := pmp_ret fun H1 Q e q => ⟨t, a, G, m, n, p, rfl, h.ex e, s, e _ _ ha, h1, h2, hc, q⟩
end
end K50
end
section /- PR3 -/
set_option Elab.async false
set_option linter.all false
set_option maxRecDepth 100000
set_option maxHeartbeats 1000000
/-! Tables and orders made; orders compared and checked. -/
namespace K50
open PySem PySem.Spec L2 Evl EV
open PyProof.Rows hiding St
section
variable {P : Program} {w : World} {K : PySem.W.Frag} {mg : Str → Option Value} {base : Heap} (T : Tx K mg)
theorem hid_none {x a : Addr} {H : Hp} (h : H a = none) : hid x H a = none := by
  unfold hid
  split
  · rfl
  · exact h
section
variable {σ : L2.St} {H : Hp} {ta tb te tk td tv : TE} {tt : TA} {D : Ends} {tu tz : TS} {g : TG}
theorem q_forEnum {a : Addr} {xs : List V} (h : EvA tt σ H [.ref a]) (hx : SqL K H a xs) (Pv : Nat → L2.St → Hp → Prop) (h0 : ∀ H1, Ex H H1 → Pv 0 σ H1) (hG : ∀ i σ' H', i ≤ xs.length → Pv i σ' H' → SqL K H' a xs)
    (hs : ∀ i x σ' H' T, xs[i]? = some x → Pv i σ' H' → H' T = none → g (.ref T) σ' (upd H' T (.tup [.int (i : Int), x])) fun σ2 H2 => tu { D with nx := Pv (i + 1), ct := Pv (i + 1), bk := tz D } σ2 H2) (hd : ∀ σ' H', Pv xs.length σ' H' → tz D σ' H') :
    tSeq (tFor (iEnum K tt) g tu) tz D σ H := h H (Ex.refl H) _ fun H1 e => ⟨a, xs, rfl, ex_l e hx, for_it (D := { D with nx := tz D }) walk_enum Pv (h0 H1 e) hG (fun i x σ' H' H'' hi p ⟨T, y1, y2, ev, hT, eH, e1, e2⟩ => by
      subst ev eH
      cases e1
      exact hs i y2 σ' H' T e2 p hT) hd⟩
theorem s_forEnum {a : Addr} {xs : List V} (h : EvA tt σ H [.ref a]) (hx : SqL K H a xs) (Pv : Nat → L2.St → Hp → Prop) (h0 : ∀ H1, Ex H H1 → Pv 0 σ H1) (hG : ∀ i σ' H', i ≤ xs.length → Pv i σ' H' → SqL K H' a xs)
    (hs : ∀ i x σ' H' T, xs[i]? = some x → Pv i σ' H' → H' T = none → g (.ref T) σ' (upd H' T (.tup [.int (i : Int), x])) fun σ2 H2 => tu { D with nx := Pv (i + 1), ct := Pv (i + 1), bk := D.nx } σ2 H2) (hd : ∀ σ' H', Pv xs.length σ' H' → D.nx σ' H') :
    tFor (iEnum K tt) g tu D σ H := q_forEnum (tz := fun D => D.nx) h hx Pv h0 hG hs hd
theorem ev_din {b d : Addr} {kvs : List (List Key × V)} {k : List Key} {r : Bool} (h1 : Ev tk σ H (.ref b)) (h2 : Ev td σ H (.ref d)) (hd : H d = some (.dT kvs)) (hb : H b = some (.tup (k.map kV))) (hr : (valV kvs k).isSome = r) : Ev (tDIn tk td) σ H (.bl r) := fun H1 e Q q =>
  h1 H1 e _ fun H2 e2 => h2 H2 (e.trans e2) _ fun H3 e3 => ⟨d, valV kvs k, rfl, DGet.t ((e.trans (e2.trans e3)) _ _ hd) ((e.trans (e2.trans e3)) _ _ hb), by rw [hr]; exact q H3 (e2.trans e3)⟩
theorem ev_dnin {b d : Addr} {kvs : List (List Key × V)} {k : List Key} {r : Bool} (h1 : Ev tk σ H (.ref b)) (h2 : Ev td σ H (.ref d)) (hd : H d = some (.dT kvs)) (hb : H b = some (.tup (k.map kV))) (hr : (!(valV kvs k).isSome) = r) : Ev (tDNotIn tk td) σ H (.bl r) := fun H1 e Q q =>
  h1 H1 e _ fun H2 e2 => h2 H2 (e.trans e2) _ fun H3 e3 => ⟨d, valV kvs k, rfl, DGet.t ((e.trans (e2.trans e3)) _ _ hd) ((e.trans (e2.trans e3)) _ _ hb), by rw [hr]; exact q H3 (e2.trans e3)⟩
theorem ev_dget {b d : Addr} {kvs : List (List Key × V)} {k : List Key} {v : V} (h2 : Ev td σ H (.ref d)) (h1 : Ev tk σ H (.ref b)) (hd : H d = some (.dT kvs)) (hb : H b = some (.tup (k.map kV))) (hr : valV kvs k = some v) : Ev (tDGet td tk) σ H v := fun H1 e Q q =>
  h2 H1 e _ fun H2 e2 => h1 H2 (e.trans e2) _ fun H3 e3 => ⟨d, v, rfl, hr ▸ DGet.t ((e.trans (e2.trans e3)) _ _ hd) ((e.trans (e2.trans e3)) _ _ hb), q H3 (e2.trans e3)⟩
theorem s_dput {b d : Addr} {kvs : List (List Key × V)} {k : List Key} {v : V} (hv : Ev tv σ H v) (h2 : Ev td σ H (.ref d)) (h1 : Ev tk σ H (.ref b)) (hd : H d = some (.dT kvs)) (hb : H b = some (.tup (k.map kV))) (hl : kvs.length < 100000)
    (kk : ∀ H1, Ex H H1 → D.nx σ (upd H1 d (.dT (putK kvs k v)))) : sDPut td tk tv D σ H := hv H (Ex.refl H) _ fun H1 e1 => h2 H1 e1 _ fun H2 e2 => h1 H2 (e1.trans e2) _ fun H3 e3 =>
  ⟨d, _, rfl, DPut.t ((e1.trans (e2.trans e3)) _ _ hd) ((e1.trans (e2.trans e3)) _ _ hb) (sz_lt hl), kk H3 (e1.trans (e2.trans e3))⟩
theorem q_dput {b d : Addr} {kvs : List (List Key × V)} {k : List Key} {v : V} (hv : Ev tv σ H v) (h2 : Ev td σ H (.ref d)) (h1 : Ev tk σ H (.ref b)) (hd : H d = some (.dT kvs)) (hb : H b = some (.tup (k.map kV))) (hl : kvs.length < 100000)
    (kk : ∀ H1, Ex H H1 → tz D σ (upd H1 d (.dT (putK kvs k v)))) : tSeq (sDPut td tk tv) tz D σ H := s_dput (D := { D with nx := tz D }) hv h2 h1 hd hb hl kk
end
def kP (p : Pr) : List Key := [Sum.inl (p.1 : Int), Sum.inl (p.2 : Int)]
theorem kP_V (p : Pr) : (kP p).map kV = pV p := rfl
theorem kP_inj {p q : Pr} (h : kP p = kP q) : p = q := by
  unfold kP at h
  simp only [List.cons.injEq, Sum.inl.injEq, and_true] at h
  exact Prod.ext (by omega) (by omega)

def p_Table_init (K : PySem.W.Frag) : Pm := fun vs H Q => ∃ (x g0 dx : Addr) (G : Grid) (m n : Nat), vs = [.ref x, .ref g0] ∧ H x = some (.ins (He.ga K "Table") dx []) ∧ GrA H g0 G ∧ Sh G m n ∧ ∀ H', Ex (hid x H) H' → TbA K H' x G → Q .non H'
theorem sc_Table_init : FnScope ["self", "rows", "width", "at", "row"] ["self", "rows"] (defScope s_Table_init) := ⟨rfl, rfl, rfl, by decide +kernel, rfl, by decide +kernel, by decide +kernel⟩
include T in
theorem ok_Table_init : FnP P w K mg base 4 (He.ma K (He.ga K "Table") "__init__") (p_Table_init K) := by
  obtain ⟨fd, F⟩ := T.f_Table_init
  refine okR F sc_Table_init (fun _ _ _ _ _ _ us hl => match us, hl with | [_, _], _ => rfl) (fun vs H Q h => by obtain ⟨x, g0, dx, G, m, n, rfl, _⟩ := h; rfl) fun cdv A outer s H vs Q hr h => ⟨_, (pss_cons (ps_if (PW.pt (pw_or (pt_not (pt_val (pe_callB call_isi (by rfl) T.n_isinstance bISI (pa_cons (pv 1) (pa_cons (pe_bltn (v := .ty "list") (by rfl) T.n_list PyProof.Rows.boot_list rfl) pa_nil))))) (pw_or (pt_cmpR op_eq (pe_callB call_len_seq (by rfl) T.n_len PySem.boot_len (pa_cons (pv 1) pa_nil)) pe_int (nomark _)) (pw_or1 (pt_cmpR op_gt (pe_callB call_len_seq (by rfl) T.n_len PySem.boot_len (pa_cons (pv 1) pa_nil)) (pe_gcn (v := .int 8) (by rfl) T.i_MOST) (nomark _)))))) pss_never pss_nil) (pss_cons (ps_set (i := 2) sc_Table_init.nd rfl (.inl rfl) (pe_cR (ok_width_of T) (hr.mono (by decide)) (by rfl) T.g_width_of (kp_width_of T) (pa_cons (pv 1) pa_nil))) (pss_cons (ps_for PassesOwn.never rfl (pi_enum (by rfl) T.n_enumerate (pa_cons (pv 1) pa_nil)) (pg_tup rfl (pgs_cons (pg_name (i := 3) sc_Table_init.nd rfl (.inl rfl)) (pgs_cons (pg_name (i := 4) sc_Table_init.nd rfl (.inl rfl)) pgs_nil))) (pss_one (ps_if (PW.pt (pw_or (pt_cmpR op_eq (pv 2) pe_int (nomark _)) (pw_or1 (pt_not (pt_val (pe_cR (ok_is_row T) (hr.mono (by decide)) (by rfl) T.g_is_row (kp_is_row T) (pa_cons (pv 4) (pa_cons (pv 2) pa_nil)))))))) pss_never pss_nil))) (pss_one (ps_fld (pv 0) (pe_lc (own := [("row", 4)]) (tt := tYes) (te := tCB (rListS K) (tCons (tVar 4) tNil)) rfl sc_Table_init.nd (pi_list (pv 1)) (blkOk_by (own := [("row", 4)]) (N := ["self", "rows", "width", "at", "row"]) (sc := (defScope s_Table_init)) (by decide +kernel)) (fun _ _ _ _ _ => (pg_name (i := 4) sc_Table_init.nd rfl (.inl rfl))) (fun _ _ _ _ _ => pts_nil) (fun _ _ _ _ _ => (pe_callTy call_list_of (by rfl) T.n_list PyProof.Rows.boot_list (pa_cons (pv 4) pa_nil)))) rfl))))), ?_⟩
  obtain ⟨x, g0, dx, G, m, n, rfl, hx, ⟨rs, hg, hp⟩, sh, q⟩ := h
  have hrs : rs.length = m := by rw [hp.length]; exact sh.len
  have m1 := sh.m1
  have m8 := sh.m8
  have n1 := sh.n1
  have n8 := sh.n8
  refine q_skip (et_orF (et_notT (et_B ?_)) (et_orF (et_test ?_) (et_test ?_))) fun H1 e1 => ?_
  · exact ev_isi (ea_cons (ev_var rfl) (ea_cons ev_c ea_nil)) (.ty _) (fun H1 e => .base (.lst (e _ _ hg))) (kit_ty (by decide +kernel))
  · exact ev_op (ev_len (ev_var rfl) (sq_of hg)) ev_c (rv_eqI (decide_eq_false (by omega)))
  · exact ev_op (ev_len (ev_var rfl) (sq_of hg)) ev_c (rv_gt (decide_eq_false (by omega)))
  obtain ⟨r0, G', rfl⟩ : ∃ r0 G', G = r0 :: G' := by
    cases G with
    | nil => have := sh.len; rw [List.length_nil] at this; omega
    | cons r0 G' => exact ⟨r0, G', rfl⟩
  have hr0 : r0.length = n := sh.row _ List.mem_cons_self
  refine q_asg (ev_c' (ea_cons (ev_var rfl) ea_nil) (u_width_of ((show GrA H g0 (r0 :: G') from ⟨rs, hg, hp⟩).ex e1) (by omega))) fun H2 e2 => ?_
  have hg2 := (e1.trans e2) _ _ hg
  refine q_forEnum (ea_cons (ev_var rfl) ea_nil) (sq_of hg2) (fun _ σ' H' => (∃ z1 z2, σ' = [some (.ref x), some (.ref g0), some (.int (r0.length : Int)), z1, z2]) ∧ Ex H2 H') (fun H3 e3 => ⟨⟨_, _, rfl⟩, e3⟩) (fun i σ' H' _ p => sq_of (p.2 _ _ hg2)) ?_ ?_
  · rintro i v σ' H' U hv ⟨⟨z1, z2, rfl⟩, e3⟩ hU
    obtain ⟨r, hr, b, rfl, hb⟩ := paired_get hp i v hv
    have hrl : r.length = n := sh.row r (List.mem_of_getElem? hr)
    refine g_pair hU (s_skip (et_orF (et_test (ev_op (ev_var rfl) ev_c (rv_eqI (decide_eq_false (by omega))))) (et_notT (et_B (ev_c' (ea_cons (ev_var rfl) (ea_cons (ev_var rfl) ea_nil)) (u_is_row ((e1.trans (e2.trans (e3.trans (Ex.new hU)))) _ _ hb) (by omega)))))) fun H5 e5 => ⟨⟨_, _, rfl⟩, e3.trans ((Ex.new hU).trans e5)⟩)
  · rintro σ' H' ⟨⟨z1, z2, rfl⟩, e3⟩
    have e4 := e1.trans (e2.trans e3)
    have main := evp_lc (n := rs.length) (Y := YAt rs) (σ := [some (.ref x), some (.ref g0), some (.int (r0.length : Int)), z1, z2]) (H := H') (wi := iList K (tVar 1)) (g := gName 4) (tt := tYes) (te := tCB (rListS K) (tCons (tVar 4) tNil)) (vs := [4]) RowA RowA.ex (fun i => (r0 :: G')[i]?) (by omega)
      (evi_list (ev_var rfl) (sq_of (e4 _ _ hg))) (by
        rintro D i Ha v Hb hi e hD hD' ⟨rfl, hv⟩ R k
        obtain ⟨r, hr, b, rfl, hb⟩ := paired_get hp i v hv
        refine k _ _ rfl (Ex.refl _) ?_ ?_
        · rw [hr]
          exact fun H1 e1 Q q => q H1 (Ex.refl H1)
        · intro z hz
          have hz' : (r0 :: G')[i]? = some z := hz
          rw [hr] at hz'
          cases hz'
          exact evl_row (el_list (ev_var rfl) (sq_of ((e4.trans e) _ _ hb))))
    refine main H' (Ex.refl H') _ fun v H5 e5 r => ?_
    have er : (List.range rs.length).filterMap (fun i => (r0 :: G')[i]?) = r0 :: G' := by
      rw [hp.length]
      exact range_get _
    rw [er] at r
    obtain ⟨g, ys, rfl, hgn, hgy, hpy⟩ := r
    have hx5 := (e4.trans e5) _ _ hx
    refine ⟨_, rfl, x, _, dx, [], rfl, hx5, T.cl_Table, T.na_Table_grid, by decide, ?_⟩
    refine q _ (fun b o hb => ?_) ⟨dx, g, upd_same, ys, ?_, ?_⟩
    · have nb : b ≠ x := by
        rintro rfl
        unfold hid at hb
        rw [if_pos rfl] at hb
        cases hb
      rw [upd_ne nb]
      rw [hid_ne nb] at hb
      exact (e4.trans e5) _ _ hb
    · rw [upd_ne (ne_of hgy hx5 (fun z => nomatch z))]
      exact hgy
    · refine paired_mono hpy fun a r ⟨b, eb, hb⟩ => ⟨b, eb, ?_⟩
      have hb2 := hid_le _ _ hb
      rw [upd_ne (ne_of hb2 hx5 (fun z => nomatch z))]
      exact hb2
abbrev orF (l d : Addr) : List (Str × V) := [("listed", .ref l), ("spots", .ref d)]
def p_Order_init (K : PySem.W.Frag) : Pm := fun vs H Q => ∃ (x l dx : Addr) (xs : List V) (ps : List Pr), vs = [.ref x, .ref l] ∧ H x = some (.ins (He.ga K "Order") dx []) ∧ H l = some (.lst xs) ∧ PL H xs ps ∧ ps.Nodup ∧ (∀ p ∈ ps, p.1 ≤ 7 ∧ p.2 ≤ 7) ∧ ps.length ≤ 64 ∧ ∀ H', Ex (hid x H) H' → OrA K H' x ps → Q .non H'
theorem sc_Order_init : FnScope ["self", "pairs", "at", "pair"] ["self", "pairs"] (defScope s_Order_init) := ⟨rfl, rfl, rfl, by decide +kernel, rfl, by decide +kernel, by decide +kernel⟩
include T in
theorem ok_Order_init : FnP P w K mg base 4 (He.ma K (He.ga K "Order") "__init__") (p_Order_init K) := by
  obtain ⟨fd, F⟩ := T.f_Order_init
  refine okR F sc_Order_init (fun _ _ _ _ _ _ us hl => match us, hl with | [_, _], _ => rfl) (fun vs H Q h => by obtain ⟨x, l, dx, xs, ps, rfl, _⟩ := h; rfl) fun cdv A outer s H vs Q hr h => ⟨_, (pss_cons (ps_if (PW.pt (pw_or (pt_not (pt_val (pe_callB call_isi (by rfl) T.n_isinstance bISI (pa_cons (pv 1) (pa_cons (pe_bltn (v := .ty "list") (by rfl) T.n_list PyProof.Rows.boot_list rfl) pa_nil))))) (pw_or1 (pt_cmpR op_gt (pe_callB call_len_seq (by rfl) T.n_len PySem.boot_len (pa_cons (pv 1) pa_nil)) (pe_gcn (v := .int 64) (by rfl) T.i_LONGEST) (nomark _))))) pss_never pss_nil) (pss_cons (ps_fld (pv 0) (pe_lst pa_nil) rfl) (pss_cons (ps_fld (pv 0) pe_dnewT rfl) (pss_one (ps_for PassesOwn.never rfl (pi_enum (by rfl) T.n_enumerate (pa_cons (pv 1) pa_nil)) (pg_tup rfl (pgs_cons (pg_name (i := 2) sc_Order_init.nd rfl (.inl rfl)) (pgs_cons (pg_name (i := 3) sc_Order_init.nd rfl (.inl rfl)) pgs_nil))) (pss_cons (ps_if (PW.pt (pw_or (pt_not (pt_val (pe_cR (ok_is_possible_pair T) (hr.mono (by decide)) (by rfl) T.g_is_possible_pair (kp_is_possible_pair T) (pa_cons (pv 3) pa_nil)))) (pw_or1 (pt_cmp (pc_din (hu_of hr) (pv 3) (pe_fld (pv 0) rfl)))))) pss_never pss_nil) (pss_cons (ps_dput (hu_of hr) (pe_fld (pv 0) rfl) (pv 3) (pv 2) rfl) (pss_one (ps_expr (pe_bm PySem.F.plainAttrs_list PySem.F.slot_list_append PySem.F.type_list_append mt_append (pe_fld (pv 0) rfl) (pa_cons (pv 3) pa_nil))))))))))), ?_⟩
  obtain ⟨x, l, dx, xs, ps, rfl, hx, hl, hp, nd, h7, h64, q⟩ := h
  have hlen : xs.length = ps.length := hp.length
  have nlx : l ≠ x := ne_of hl hx (fun z => nomatch z)
  refine q_skip (et_orF (et_notT (et_B ?_)) (et_test ?_)) fun H1 e1 => ?_
  · exact ev_isi (ea_cons (ev_var rfl) (ea_cons ev_c ea_nil)) (.ty _) (fun H1 e => .base (.lst (e _ _ hl))) (kit_ty (by decide +kernel))
  · exact ev_op (ev_len (ev_var rfl) (sq_of hl)) ev_c (rv_gt (decide_eq_false (by omega)))
  -- self.listed = []
  refine ⟨by decide, fun L hL => ⟨_, rfl, x, _, dx, [], rfl, by rw [upd_ne (ne_of_none (e1 _ _ hx) hL)]; exact e1 _ _ hx, T.cl_Order, T.na_Order_listed, by decide, ?_⟩⟩
  have nLx : L ≠ x := (ne_of_none (e1 _ _ hx) hL).symm
  -- self.spots = {}
  refine fun D hD => ⟨_, rfl, x, _, dx, [("listed", .ref L)], rfl, ?_, T.cl_Order, T.na_Order_spots, (by show 1 < 1000; decide), ?_⟩
  · have nDx : x ≠ D := by
      rintro rfl
      rw [upd_same] at hD
      cases hD
    rw [upd_ne nDx, upd_same]
    rfl
  have nDx : D ≠ x := by
    rintro rfl
    rw [upd_same] at hD
    cases hD
  have nDL : D ≠ L := by
    rintro rfl
    rw [upd_ne nLx, upd_same] at hD
    cases hD
  have hLn : H L = none := fresh_back e1 hL
  have hDn : H D = none := by
    rw [upd_ne nDx, upd_ne nDL] at hD
    exact fresh_back e1 hD
  -- the loop
  have base0 : ∀ b o, b ≠ x → H b = some o → (upd (upd (upd (upd H1 L (.lst [])) x (.ins (He.ga K "Order") dx [("listed", .ref L)])) D (.dT [])) x (.ins (He.ga K "Order") dx (orF L D))) b = some o := fun b o nb hb => by
    rw [upd_ne nb, upd_ne (ne_of_none hb hDn), upd_ne nb, upd_ne (ne_of_none hb hLn)]
    exact e1 _ _ hb
  let ky : Nat → List Key := fun j => kP (ps.getD j (0, 0))
  let vl : Nat → V := fun j => .int (j : Int)
  let Iv : Nat → Hp → Prop := fun i H' => Ex (hid x H) H' ∧ H' x = some (.ins (He.ga K "Order") dx (orF L D)) ∧ H' L = some (.lst (xs.take i)) ∧ H' D = some (.dT (kvsTo ky vl i))
  have hd : ∀ i j, i < j → j < ps.length → ky i ≠ ky j := fun i j hij hj z => by
    have e := kP_inj z
    rw [List.getD_eq_getElem?_getD, List.getD_eq_getElem?_getD, List.getElem?_eq_getElem hj, List.getElem?_eq_getElem (show i < ps.length by omega)] at e
    exact List.pairwise_iff_getElem.mp nd i j (by omega) hj hij (show ps[i] = ps[j] from e)
  refine s_forEnum (ea_cons (ev_var rfl) ea_nil) (sq_of (base0 _ _ nlx hl)) (fun i σ' H' => (∃ z1 z2, σ' = [some (.ref x), some (.ref l), z1, z2]) ∧ Iv i H') (fun H3 e3 => ⟨⟨_, _, rfl⟩, ?_, ?_, ?_, ?_⟩) (fun i σ' H' _ p => sq_of (p.2.1 l _ (by rw [hid_ne nlx]; exact hl))) ?_ ?_
  · intro b o hb
    have nb : b ≠ x := by
      rintro rfl
      unfold hid at hb
      rw [if_pos rfl] at hb
      cases hb
    rw [hid_ne nb] at hb
    exact e3 _ _ (base0 b o nb hb)
  · exact e3 _ _ upd_same
  · refine e3 _ _ ?_
    rw [upd_ne nLx, upd_ne nDL.symm, upd_ne nLx, upd_same, List.take_zero]
  · refine e3 _ _ ?_
    rw [upd_ne nDx, upd_same]
    rfl
  · rintro i v σ' H' U hv ⟨⟨z1, z2, rfl⟩, i1, i2, i3, i4⟩ hU
    obtain ⟨p, hpi, a, rfl, ha⟩ := paired_get hp i v hv
    have hip : i < ps.length := (List.getElem?_eq_some_iff.mp hpi).1
    have hpm : p ∈ ps := List.mem_of_getElem? hpi
    have ekp : kP p = ky i := by
      show kP p = kP (ps.getD i (0, 0))
      rw [List.getD_eq_getElem?_getD, hpi]
      rfl
    have na : a ≠ x := ne_of ha hx (fun z => nomatch z)
    have eU := Ex.new (o := .tup [.int (i : Int), .ref a]) hU
    have haU : (upd H' U (.tup [.int (i : Int), .ref a])) a = some (.tup (pV p)) := eU _ _ (i1 _ _ (by rw [hid_ne na]; exact ha))
    have fl : ∀ {H2 : Hp} {j : Str} {v : V}, Ex (upd H' U (.tup [.int (i : Int), .ref a])) H2 → NoAttr K (He.ga K "Order") j → (orF L D).lookup j = some v → Ev (tFld K (tVar 0) j) [some (.ref x), some (.ref l), some (.int (i : Int)), some (.ref a)] H2 v := fun e2 na hl => ev_fld (ev_var rfl) (e2 _ _ (eU _ _ i2)) T.cl_Order na hl
    have hnone : valV (kvsTo ky vl i) (kP p) = none := by
      rw [ekp]
      exact kvsTo_new hd hip
    refine g_pair hU (q_skip (et_orF (et_notT (et_B (ev_c' (ea_cons (ev_var rfl) ea_nil) (u_is_possible_pair haU (h7 p hpm).1 (h7 p hpm).2)))) (et_B (ev_din (k := kP p) (ev_var rfl) (fl (Ex.refl _) T.na_Order_spots rfl) (eU _ _ i4) haU (by rw [hnone]; rfl)))) fun H2 e2 => ?_)
    have lk : (kvsTo ky vl i).length = i := by
      unfold kvsTo
      rw [List.length_map, List.length_range]
    refine q_dput (v := vl i) (k := kP p) (ev_var rfl) (fl e2 T.na_Order_spots rfl) (ev_var rfl) (e2 _ _ (eU _ _ i4)) (e2 _ _ haU) (by rw [lk]; omega) fun H3 e3 => ?_
    have hL3 := (eU.trans (e2.trans e3)) _ _ i3
    have hx3 := (eU.trans (e2.trans e3)) _ _ i2
    have nL : L ≠ D := nDL.symm
    refine s_app (l := L) (xs := xs.take i) (by rw [upd_ne nL]; exact hL3) (ev_fld (ev_var rfl) (by rw [upd_ne nDx.symm]; exact hx3) T.cl_Order T.na_Order_listed rfl) (ev_var (v := .ref a) rfl) (by rw [List.length_take]; omega) fun H4 e4 => ⟨⟨_, _, rfl⟩, ?_, ?_, ?_, ?_⟩
    · exact Ex.mut ((Ex.mut ((i1.trans eU).trans (e2.trans e3)) (hid_none hDn)).trans e4) (hid_none hLn)
    · rw [upd_ne nLx.symm]
      exact e4 _ _ (by rw [upd_ne nDx.symm]; exact hx3)
    · rw [upd_same, List.take_succ_eq_append_getElem (by omega)]
      have e : xs[i]'(by omega) = .ref a := by
        have := hv
        rw [List.getElem?_eq_getElem (by omega)] at this
        exact Option.some.inj this
      rw [e]
    · rw [upd_ne nDL]
      refine (e4 _ _ upd_same).trans ?_
      rw [putK_new _ hnone, ekp, kvsTo_succ]
  · rintro σ' H' ⟨_, i1, i2, i3, i4⟩
    rw [List.take_length] at i3
    refine q H' i1 ⟨dx, L, D, xs, i2, i3, paired_mono hp fun v p ⟨a, ea, ha⟩ => ⟨a, ea, i1 _ _ ?_⟩⟩
    rw [hid_ne (ne_of ha hx (fun z => nomatch z))]
    exact ha
end
end K50
end
section /- PR4 -/
set_option Elab.async false
set_option linter.all false
set_option maxRecDepth 100000
set_option maxHeartbeats 1000000
/-! Orders read, compared, checked. -/
namespace K50
open PySem PySem.Spec L2 Evl EV
open PyProof.Rows hiding St
/-! ### pairs as data -/
def pD (p : Pr) : PyData := .tuple [.int (p.1 : Int), .int (p.2 : Int)]
theorem pD_lay (p : Pr) : (pD p).canLay0 = true := by simp [pD, PyData.canLay0, PyData.canLayAll0]
theorem pD_depth (p : Pr) : (pD p).depth = 1 := by simp [pD, PyData.depth, PyData.depthAll]
theorem pDs_lay : ∀ ps : List Pr, PyData.canLayAll0 (ps.map pD) = true
  | [] => by simp [PyData.canLayAll0]
  | p :: ps => by simp [PyData.canLayAll0, pD_lay p, pDs_lay ps]
theorem pDs_depth : ∀ ps : List Pr, PyData.depthAll (ps.map pD) ≤ 1
  | [] => by simp [PyData.depthAll]
  | p :: ps => by
    have h1 := pDs_depth ps
    have h2 := pD_depth p
    simp only [List.map_cons, PyData.depthAll]
    omega
theorem pL_depth (ps : List Pr) : (PyData.list (ps.map pD)).depth ≤ 2 := by
  have := pDs_depth ps
  simp only [PyData.depth]
  omega
theorem pD_shaped (p : Pr) : SeqAt.shaped (pD p) = true := by
  unfold SeqAt.shaped
  rw [pD_lay, pD_depth]
  decide
theorem pL_shaped (ps : List Pr) : SeqAt.shaped (.list (ps.map pD)) = true := by
  have h := pL_depth ps
  unfold SeqAt.shaped
  rw [Bool.and_eq_true]
  refine ⟨?_, decide_eq_true (by omega)⟩
  simp only [PyData.canLay0]
  exact pDs_lay ps
theorem pD_eqv (p q : Pr) : PyData.eqv (pD p) (pD q) = decide (p = q) := by
  obtain ⟨a, b⟩ := p
  obtain ⟨c, d⟩ := q
  have e : PyData.eqv (pD (a, b)) (pD (c, d)) = (((a : Int) == (c : Int)) && (((b : Int) == (d : Int)) && true)) := by simp only [pD, PyData.eqv, PyData.eqvAll]
  rw [e]
  by_cases h1 : a = c
  · by_cases h2 : b = d
    · subst h1 h2
      simp
    · have n1 : ¬ ((a, b) : Pr) = (c, d) := fun z => h2 (congrArg Prod.snd z)
      have n2 : ((b : Int) == (d : Int)) = false := beq_eq_false_iff_ne.mpr (by omega)
      rw [n2, decide_eq_false n1, Bool.false_and, Bool.and_false]
  · have n1 : ¬ ((a, b) : Pr) = (c, d) := fun z => h1 (congrArg Prod.fst z)
    have n2 : ((a : Int) == (c : Int)) = false := beq_eq_false_iff_ne.mpr (by omega)
    rw [n2, decide_eq_false n1, Bool.false_and]
theorem pL_eqv : ∀ ps qs : List Pr, PyData.eqvAll (ps.map pD) (qs.map pD) = decide (ps = qs)
  | [], [] => by simp [PyData.eqvAll]
  | [], _ :: _ => by simp [PyData.eqvAll]
  | _ :: _, [] => by simp [PyData.eqvAll]
  | p :: ps, q :: qs => by
    simp only [List.map_cons, PyData.eqvAll]
    rw [pD_eqv, pL_eqv ps qs]
    by_cases h : p = q
    · subst h
      simp
    · simp [h]
def prLt (p q : Pr) : Bool := if p.1 = q.1 then decide (p.2 < q.2) else decide (p.1 < q.1)
def lexP : List Pr → List Pr → Bool
  | [], [] => false
  | [], _ :: _ => true
  | _ :: _, [] => false
  | p :: ps, q :: qs => if p = q then lexP ps qs else prLt p q
theorem pD_alike (p q : Pr) : PySem.W.alike (pD p) (pD q) = true := by simp [pD, PySem.W.alike, PySem.W.alikeAll]
theorem pL_alike : ∀ ps qs : List Pr, PySem.W.alikeAll (ps.map pD) (qs.map pD) = true
  | [], _ => by simp [PySem.W.alikeAll]
  | _ :: _, [] => by simp [PySem.W.alikeAll]
  | p :: ps, q :: qs => by
    simp only [List.map_cons, PySem.W.alikeAll]
    rw [pD_alike, pL_alike ps qs]
    rfl
theorem pD_lt (p q : Pr) (h : p ≠ q) : PySem.W.dataLt (pD p) (pD q) = prLt p q := by
  obtain ⟨a, b⟩ := p
  obtain ⟨c, d⟩ := q
  unfold pD prLt
  rw [PySem.W.dataLt_tuple]
  by_cases h1 : a = c
  · subst h1
    have h2 : b ≠ d := fun z => h (by rw [z])
    rw [PySem.W.dataLt_all_yes (by simp [PySem.W.alike]) (by simp [PyData.eqv]), PySem.W.dataLt_all_no (by simp [PySem.W.alike]) (by simp only [PyData.eqv]; exact beq_eq_false_iff_ne.mpr (by omega)), PySem.W.dataLt_int]
    simp
  · rw [PySem.W.dataLt_all_no (by simp [PySem.W.alike]) (by simp only [PyData.eqv]; exact beq_eq_false_iff_ne.mpr (by omega)), PySem.W.dataLt_int]
    simp [h1]
theorem pL_lt : ∀ ps qs : List Pr, PyProof.Rows.lexLt PyProof.Rows.itemOrd (PySem.W.keyToksAll (ps.map pD)) (PySem.W.keyToksAll (qs.map pD)) = lexP ps qs
  | [], [] => by simp [PySem.W.keyToksAll, lexP, PyProof.Rows.lexLt, PyProof.Rows.itemLt]
  | [], _ :: _ => by simp [PySem.W.keyToksAll, lexP, PyProof.Rows.lexLt, PyProof.Rows.itemLt]
  | _ :: _, [] => by simp [PySem.W.keyToksAll, lexP, PyProof.Rows.lexLt, PyProof.Rows.itemLt]
  | p :: ps, q :: qs => by
    rw [List.map_cons, List.map_cons]
    by_cases h : p = q
    · subst h
      rw [PySem.W.dataLt_all_yes (pD_alike p p) (by rw [pD_eqv]; simp), pL_lt ps qs]
      simp [lexP]
    · rw [PySem.W.dataLt_all_no (pD_alike p q) (by rw [pD_eqv]; simp [h]), pD_lt p q h]
      simp [lexP, h]
theorem PrA.dp {K : PySem.W.Frag} {H : Hp} {v : V} {p : Pr} (h : PrA H v p) : Dp K H v (pD p) := by
  obtain ⟨a, rfl, ha⟩ := h
  exact .tup (st_of ha) (.cons (.int _) (.cons (.int _) .nil))
theorem PL.dp {K : PySem.W.Frag} {H : Hp} : ∀ {xs : List V} {ps : List Pr}, PL H xs ps → DpAll K H xs (ps.map pD)
  | _, _, .nil => .nil
  | _, _, .cons h t => .cons h.dp (PL.dp t)
theorem PL.list {K : PySem.W.Frag} {H : Hp} {l : Addr} {xs : List V} {ps : List Pr} (hl : H l = some (.lst xs)) (h : PL H xs ps) : Dp K H (.ref l) (.list (ps.map pD)) := .lst (sq_of hl) h.dp
theorem rv_eqP {K : PySem.W.Frag} {H : Hp} {l l2 : Addr} {xs ys : List V} {ps qs : List Pr} (h1 : H l = some (.lst xs)) (p1 : PL H xs ps) (h2 : H l2 = some (.lst ys)) (p2 : PL H ys qs) : RV (rEqD K) (.ref l) (.ref l2) H (.bl (decide (ps = qs))) := fun H1 e Q q =>
  ⟨_, _, (p1.ex e).list (e _ _ h1), (p2.ex e).list (e _ _ h2), pL_shaped ps, pL_shaped qs, by
    have z : PyData.eqv (.list (ps.map pD)) (.list (qs.map pD)) = decide (ps = qs) := by
      simp only [PyData.eqv]
      exact pL_eqv ps qs
    rw [z]
    exact q H1 (Ex.refl H1)⟩
theorem rv_neP {K : PySem.W.Frag} {H : Hp} {l l2 : Addr} {xs ys : List V} {ps qs : List Pr} (h1 : H l = some (.lst xs)) (p1 : PL H xs ps) (h2 : H l2 = some (.lst ys)) (p2 : PL H ys qs) : RV (rNeD K) (.ref l) (.ref l2) H (.bl (!decide (ps = qs))) := fun H1 e Q q =>
  ⟨_, _, (p1.ex e).list (e _ _ h1), (p2.ex e).list (e _ _ h2), pL_shaped ps, pL_shaped qs, by
    have z : PyData.eqv (.list (ps.map pD)) (.list (qs.map pD)) = decide (ps = qs) := by
      simp only [PyData.eqv]
      exact pL_eqv ps qs
    rw [z]
    exact q H1 (Ex.refl H1)⟩
theorem rv_ltP {K : PySem.W.Frag} {H : Hp} {l l2 : Addr} {xs ys : List V} {ps qs : List Pr} (h1 : H l = some (.lst xs)) (p1 : PL H xs ps) (h2 : H l2 = some (.lst ys)) (p2 : PL H ys qs) : RV (OW.rLtD K) (.ref l) (.ref l2) H (.bl (lexP ps qs)) := fun H1 e Q q =>
  ⟨_, _, (p1.ex e).list (e _ _ h1), (p2.ex e).list (e _ _ h2), by simp only [PySem.W.alike]; exact pL_alike ps qs, (fun z => by cases z), by have := pL_depth ps; omega, by
    rw [PySem.W.dataLt_list, pL_lt]
    exact q H1 (Ex.refl H1)⟩
theorem rv_geP {K : PySem.W.Frag} {H : Hp} {l l2 : Addr} {xs ys : List V} {ps qs : List Pr} (h1 : H l = some (.lst xs)) (p1 : PL H xs ps) (h2 : H l2 = some (.lst ys)) (p2 : PL H ys qs) : RV (OW.rGeD K) (.ref l) (.ref l2) H (.bl (!lexP ps qs)) := fun H1 e Q q =>
  ⟨_, _, (p1.ex e).list (e _ _ h1), (p2.ex e).list (e _ _ h2), by simp only [PySem.W.alike]; exact pL_alike ps qs, (fun z => by cases z), by have := pL_depth ps; omega, by
    rw [PySem.W.dataLt_list, pL_lt]
    exact q H1 (Ex.refl H1)⟩
theorem PL.hid {H : Hp} {p : Addr} {zs xs : List V} {ps : List Pr} (hp : H p = some (.lst zs)) (h : PL H xs ps) : Paired (PrA (hid p H)) xs ps := paired_mono h fun v q ⟨a, ea, ha⟩ => ⟨a, ea, by rw [hid_ne (ne_of ha hp (fun z => nomatch z))]; exact ha⟩
theorem LRel.pl {v : V} {H H' : Hp} {ps : List Pr} (h : LRel PrA ps v H H') : ∃ p xs, v = .ref p ∧ H p = none ∧ H' p = some (.lst xs) ∧ PL H' xs ps := by
  obtain ⟨p, xs, ev, hn, hp, hr⟩ := h
  exact ⟨p, xs, ev, hn, hp, paired_mono hr fun a b => PrA.ex' _ _ _ _ hid_le⟩
section
variable {P : Program} {w : World} {K : PySem.W.Frag} {mg : Str → Option Value} {base : Heap} (T : Tx K mg)

include T in
theorem ty_Order {H : Hp} {o : Addr} {ps : List Pr} (h : OrA K H o ps) : ∀ H1, Ex H H1 → TyX K H1 (.ref o) (.ref (He.ga K "Order")) := fun H1 e => by
  obtain ⟨dx, l, d, xs, h1, _⟩ := h
  obtain ⟨c1, c2, c3, c4, _⟩ := T.isi
  exact .base (.ins (e _ _ h1) T.cl_Order c1 c2 c3 c4)
def p_Order_pairs (K : PySem.W.Frag) : Pm := fun vs H Q => ∃ (o : Addr) (ps : List Pr), vs = [.ref o] ∧ OrA K H o ps ∧ ∀ v H', Ex H H' → LRel PrA ps v H H' → Q v H'
theorem sc_Order_pairs : FnScope ["self"] ["self"] (defScope s_Order_pairs) := ⟨rfl, rfl, rfl, by decide +kernel, rfl, by decide +kernel, by decide +kernel⟩
include T in
theorem ok_Order_pairs : FnP P w K mg base 1 (He.ma K (He.ga K "Order") "pairs") (p_Order_pairs K) := by
  obtain ⟨fd, F⟩ := T.f_Order_pairs
  refine okR F sc_Order_pairs (fun _ _ _ _ _ _ us hl => match us, hl with | [_], _ => rfl) (fun vs H Q h => by obtain ⟨o, ps, rfl, _⟩ := h; rfl) fun cdv A outer s H vs Q hr h => ⟨_, (pss_one (ps_ret (pe_callTy call_list_of (by rfl) T.n_list PyProof.Rows.boot_list (pa_cons (pe_fld (pv 0) rfl) pa_nil)))), ?_⟩
  obtain ⟨o, ps, rfl, ⟨dx, l, d, xs, ho, hl, hp⟩, q⟩ := h
  exact s_retL (el_list (ev_fld (ev_var rfl) ho T.cl_Order T.na_Order_listed rfl) (sq_of hl)) fun p H1 hn e hq => q _ H1 e ⟨p, xs, rfl, hn, hq, (hp.ex e).hid hq⟩
theorem u_Order_pairs {K : PySem.W.Frag} {H : Hp} {o : Addr} {ps : List Pr} (h : OrA K H o ps) : PmP (p_Order_pairs K) [.ref o] H (LRel PrA ps) := fun H1 e Q q => ⟨o, ps, rfl, h.ex e, fun v H2 e2 r => q v H2 e2 r⟩
def p_Order_len (K : PySem.W.Frag) : Pm := fun vs H Q => ∃ (o : Addr) (ps : List Pr), vs = [.ref o] ∧ OrA K H o ps ∧ RetB (.int (ps.length : Int)) H Q
theorem sc_Order_len : FnScope ["self"] ["self"] (defScope s_Order_len) := ⟨rfl, rfl, rfl, by decide +kernel, rfl, by decide +kernel, by decide +kernel⟩
include T in
theorem ok_Order_len : FnP P w K mg base 1 (He.ma K (He.ga K "Order") "__len__") (p_Order_len K) := by
  obtain ⟨fd, F⟩ := T.f_Order_len
  refine okR F sc_Order_len (fun _ _ _ _ _ _ us hl => match us, hl with | [_], _ => rfl) (fun vs H Q h => by obtain ⟨o, ps, rfl, _⟩ := h; rfl) fun cdv A outer s H vs Q hr h => ⟨_, (pss_one (ps_ret (pe_callB call_len_seq (by rfl) T.n_len PySem.boot_len (pa_cons (pe_fld (pv 0) rfl) pa_nil)))), ?_⟩
  obtain ⟨o, ps, rfl, ⟨dx, l, d, xs, ho, hl, hp⟩, q⟩ := h
  exact s_ret (ev_is (ev_len (ev_fld (ev_var rfl) ho T.cl_Order T.na_Order_listed rfl) (sq_of hl)) (by rw [hp.length])) fun H1 e => q H1 e
theorem u_Order_len {K : PySem.W.Frag} {H : Hp} {o : Addr} {ps : List Pr} (h : OrA K H o ps) : PmP (p_Order_len K) [.ref o] H (Is (.int (ps.length : Int))) := pmp_ret fun H1 Q e q => ⟨o, ps, rfl, h.ex e, q⟩
def p_Order_eq (K : PySem.W.Frag) : Pm := fun vs H Q => ∃ (o o2 : Addr) (ps qs : List Pr), vs = [.ref o, .ref o2] ∧ OrA K H o ps ∧ OrA K H o2 qs ∧ RetB (.bl (decide (ps = qs))) H Q
theorem sc_Order_eq : FnScope ["self", "other"] ["self", "other"] (defScope s_Order_eq) := ⟨rfl, rfl, rfl, by decide +kernel, rfl, by decide +kernel, by decide +kernel⟩
include T in
theorem ok_Order_eq : FnP P w K mg base 1 (He.ma K (He.ga K "Order") "__eq__") (p_Order_eq K) := by
  obtain ⟨fd, F⟩ := T.f_Order_eq
  refine okR F sc_Order_eq (fun _ _ _ _ _ _ us hl => match us, hl with | [_, _], _ => rfl) (fun vs H Q h => by obtain ⟨o, o2, ps, qs, rfl, _⟩ := h; rfl) fun cdv A outer s H vs Q hr h => ⟨_, (pss_one (ps_ret (pe_and (pe_callB call_isi (by rfl) T.n_isinstance bISI (pa_cons (pv 1) (pa_cons (pe_glob (v := .ref (He.ga K "Order")) (by rfl) T.g_Order rfl) pa_nil))) (pe_one (pe_cmpR (op_eqD hr.units) (pe_fld (pv 0) rfl) (pe_fld (pv 1) rfl) (nomark _)))))), ?_⟩
  obtain ⟨o, o2, ps, qs, rfl, h1, h2, q⟩ := h
  have hty := ty_Order T h2
  obtain ⟨dx, l, d, xs, ho, hl, hp⟩ := h1
  obtain ⟨dx2, l2, d2, xs2, ho2, hl2, hp2⟩ := h2
  refine s_ret (v := .bl (decide (ps = qs))) (ev_andT (ev_isi (ea_cons (ev_var rfl) (ea_cons ev_c ea_nil)) (.own _) hty T.isi.2.2.2.2) ?_) fun H1 e => q H1 e
  exact ev_op (ev_fld (ev_var rfl) ho T.cl_Order T.na_Order_listed rfl) (ev_fld (ev_var rfl) ho2 T.cl_Order T.na_Order_listed rfl) (rv_eqP hl hp hl2 hp2)
theorem u_Order_eq {K : PySem.W.Frag} {H : Hp} {o o2 : Addr} {ps qs : List Pr} (h : OrA K H o ps) (h2 : OrA K H o2 qs) : PmP (p_Order_eq K) [.ref o, .ref o2] H (Is (.bl (decide (ps = qs)))) := pmp_ret fun H1 Q e q => ⟨o, o2, ps, qs, rfl, h.ex e, h2.ex e, q⟩
def p_Order_lt (K : PySem.W.Frag) : Pm := fun vs H Q => ∃ (o o2 : Addr) (ps qs : List Pr), vs = [.ref o, .ref o2] ∧ OrA K H o ps ∧ OrA K H o2 qs ∧ RetB (.bl (lexP ps qs)) H Q
theorem sc_Order_lt : FnScope ["self", "other"] ["self", "other"] (defScope s_Order_lt) := ⟨rfl, rfl, rfl, by decide +kernel, rfl, by decide +kernel, by decide +kernel⟩
include T in
theorem ok_Order_lt : FnP P w K mg base 1 (He.ma K (He.ga K "Order") "__lt__") (p_Order_lt K) := by
  obtain ⟨fd, F⟩ := T.f_Order_lt
  refine okR F sc_Order_lt (fun _ _ _ _ _ _ us hl => match us, hl with | [_, _], _ => rfl) (fun vs H Q h => by obtain ⟨o, o2, ps, qs, rfl, _⟩ := h; rfl) fun cdv A outer s H vs Q hr h => ⟨_, (pss_cons (ps_if (pt_not (pt_val (pe_callB call_isi (by rfl) T.n_isinstance bISI (pa_cons (pv 1) (pa_cons (pe_glob (v := .ref (He.ga K "Order")) (by rfl) T.g_Order rfl) pa_nil))))) pss_never pss_nil) (pss_one (ps_ret (pe_cmpR (OW.op_ltD hr.units) (pe_fld (pv 0) rfl) (pe_fld (pv 1) rfl) (nomark _))))), ?_⟩
  obtain ⟨o, o2, ps, qs, rfl, h1, h2, q⟩ := h
  have hty := ty_Order T h2
  obtain ⟨dx, l, d, xs, ho, hl, hp⟩ := h1
  obtain ⟨dx2, l2, d2, xs2, ho2, hl2, hp2⟩ := h2
  refine q_skip (et_notT (et_B (ev_isi (ea_cons (ev_var rfl) (ea_cons ev_c ea_nil)) (.own _) hty T.isi.2.2.2.2))) fun H1 e1 => ?_
  exact s_ret (ev_op (ev_fld (ev_var rfl) (e1 _ _ ho) T.cl_Order T.na_Order_listed rfl) (ev_fld (ev_var rfl) (e1 _ _ ho2) T.cl_Order T.na_Order_listed rfl) (rv_ltP (e1 _ _ hl) (hp.ex e1) (e1 _ _ hl2) (hp2.ex e1))) fun H2 e2 => q H2 (e1.trans e2)
theorem u_Order_lt {K : PySem.W.Frag} {H : Hp} {o o2 : Addr} {ps qs : List Pr} (h : OrA K H o ps) (h2 : OrA K H o2 qs) : PmP (p_Order_lt K) [.ref o, .ref o2] H (Is (.bl (lexP ps qs))) := pmp_ret fun H1 Q e q => ⟨o, o2, ps, qs, rfl, h.ex e, h2.ex e, q⟩
def p_Order_ge (K : PySem.W.Frag) : Pm := fun vs H Q => ∃ (o o2 : Addr) (ps qs : List Pr), vs = [.ref o, .ref o2] ∧ OrA K H o ps ∧ OrA K H o2 qs ∧ RetB (.bl (!lexP ps qs)) H Q
theorem sc_Order_ge : FnScope ["self", "other"] ["self", "other"] (defScope s_Order_ge) := ⟨rfl, rfl, rfl, by decide +kernel, rfl, by decide +kernel, by decide +kernel⟩
include T in
theorem ok_Order_ge : FnP P w K mg base 1 (He.ma K (He.ga K "Order") "__ge__") (p_Order_ge K) := by
  obtain ⟨fd, F⟩ := T.f_Order_ge
  refine okR F sc_Order_ge (fun _ _ _ _ _ _ us hl => match us, hl with | [_, _], _ => rfl) (fun vs H Q h => by obtain ⟨o, o2, ps, qs, rfl, _⟩ := h; rfl) fun cdv A outer s H vs Q hr h => ⟨_, (pss_cons (ps_if (pt_not (pt_val (pe_callB call_isi (by rfl) T.n_isinstance bISI (pa_cons (pv 1) (pa_cons (pe_glob (v := .ref (He.ga K "Order")) (by rfl) T.g_Order rfl) pa_nil))))) pss_never pss_nil) (pss_one (ps_ret (pe_cmpR (OW.op_geD hr.units) (pe_fld (pv 0) rfl) (pe_fld (pv 1) rfl) (nomark _))))), ?_⟩
  obtain ⟨o, o2, ps, qs, rfl, h1, h2, q⟩ := h
  have hty := ty_Order T h2
  obtain ⟨dx, l, d, xs, ho, hl, hp⟩ := h1
  obtain ⟨dx2, l2, d2, xs2, ho2, hl2, hp2⟩ := h2
  refine q_skip (et_notT (et_B (ev_isi (ea_cons (ev_var rfl) (ea_cons ev_c ea_nil)) (.own _) hty T.isi.2.2.2.2))) fun H1 e1 => ?_
  exact s_ret (ev_op (ev_fld (ev_var rfl) (e1 _ _ ho) T.cl_Order T.na_Order_listed rfl) (ev_fld (ev_var rfl) (e1 _ _ ho2) T.cl_Order T.na_Order_listed rfl) (rv_geP (e1 _ _ hl) (hp.ex e1) (e1 _ _ hl2) (hp2.ex e1))) fun H2 e2 => q H2 (e1.trans e2)
theorem u_Order_ge {K : PySem.W.Frag} {H : Hp} {o o2 : Addr} {ps qs : List Pr} (h : OrA K H o ps) (h2 : OrA K H o2 qs) : PmP (p_Order_ge K) [.ref o, .ref o2] H (Is (.bl (!lexP ps qs))) := pmp_ret fun H1 Q e q => ⟨o, o2, ps, qs, rfl, h.ex e, h2.ex e, q⟩
def p_check_limit (K : PySem.W.Frag) : Pm := fun vs H Q => ∃ (t : Addr) (G : Grid) (m n : Nat), vs = [.ref t] ∧ TbA K H t G ∧ Sh G m n ∧ (pairsOf G m n).length ≤ 12 ∧ RetB .non H Q
theorem sc_check_limit : FnScope ["table"] ["table"] (defScope s_check_limit) := ⟨rfl, rfl, rfl, by decide +kernel, rfl, by decide +kernel, by decide +kernel⟩
include T in
theorem ok_check_limit : FnP P w K mg base 4 (He.ga K "check_limit") (p_check_limit K) := by
  obtain ⟨fd, F⟩ := T.f_check_limit
  refine okR F sc_check_limit (fun _ _ _ _ _ _ us hl => match us, hl with | [_], _ => rfl) (fun vs H Q h => by obtain ⟨t, G, m, n, rfl, _⟩ := h; rfl) fun cdv A outer s H vs Q hr h => ⟨_, (pss_one (ps_if (pt_cmpR op_gt (pe_callB (OW.call_lenO T.m_Table_len (ok_Table_len T) (hr.mono (by decide))) (by rfl) T.n_len PySem.boot_len (pa_cons (pv 0) pa_nil)) (pe_gcn (v := .int 12) (by rfl) T.i_MOST_PAIRS) (nomark _)) pss_never pss_nil)), ?_⟩
  obtain ⟨t, G, m, n, rfl, ht, sh, h12, q⟩ := h
  obtain ⟨dx, g, hi, hg⟩ := id ht
  exact s_skip (et_test (ev_op (ev_lenO (ev_var rfl) hi (u_Table_len ht sh) (by omega)) ev_c (rv_gt (decide_eq_false (by omega))))) fun H1 e => q H1 e
include T in
theorem kp_check_limit : PySem.W.keepIn K (.ref (He.ga K "check_limit")) = true := let ⟨_, F⟩ := T.f_check_limit; F.kp
theorem u_check_limit {K : PySem.W.Frag} {H : Hp} {t : Addr} {G : Grid} {m n : Nat} (h : TbA K H t G) (s : Sh G m n) (h12 : (pairsOf G m n).length ≤ 12) : PmP (p_check_limit K) [.ref t] H (Is .non) := pmp_ret fun H1 Q e q => ⟨t, G, m, n, rfl, h.ex e, s, h12, q⟩
theorem mem_pairsOf {G : Grid} {m n : Nat} {p : Pr} : p ∈ pairsOf G m n ↔ p.1 < m ∧ p.2 < n ∧ (cell G p.1 p.2).isSome = true := by
  unfold pairsOf
  rw [List.mem_flatMap]
  constructor
  · rintro ⟨i, hi, h⟩
    obtain ⟨j, hj, e⟩ := List.mem_filterMap.mp h
    by_cases hs : (cell G i j).isSome = true
    · rw [if_pos hs] at e
      cases e
      exact ⟨List.mem_range.mp hi, List.mem_range.mp hj, hs⟩
    · rw [if_neg hs] at e
      cases e
  · rintro ⟨h1, h2, h3⟩
    exact ⟨p.1, List.mem_range.mpr h1, List.mem_filterMap.mpr ⟨p.2, List.mem_range.mpr h2, by rw [if_pos h3]⟩⟩
theorem pairs_len {G : Grid} {m n : Nat} (s : Sh G m n) : (pairsOf G m n).length ≤ 64 := by
  have : ∀ k, ((List.range k).flatMap fun i => (List.range n).filterMap fun j => if (cell G i j).isSome then some (i, j) else none).length ≤ k * n := fun k => by
    induction k with
    | zero => simp
    | succ k ih =>
      rw [List.range_succ, List.flatMap_append, List.length_append]
      have := List.length_filterMap_le (fun j => if (cell G k j).isSome then some ((k, j) : Pr) else none) (List.range n)
      rw [List.length_range] at this
      simp only [List.flatMap_cons, List.flatMap_nil, List.append_nil]
      rw [Nat.succ_mul]
      omega
  exact Nat.le_trans (this m) (Nat.le_trans (Nat.mul_le_mul s.m8 s.n8) (by decide))
def p_check_order (K : PySem.W.Frag) : Pm := fun vs H Q => ∃ (t o : Addr) (G : Grid) (m n : Nat) (ps : List Pr), vs = [.ref t, .ref o] ∧ TbA K H t G ∧ Sh G m n ∧ OrA K H o ps ∧ ps.length = (pairsOf G m n).length ∧ (∀ p ∈ ps, p ∈ pairsOf G m n) ∧ RetB .non H Q
theorem sc_check_order : FnScope ["table", "order", "pair"] ["table", "order"] (defScope s_check_order) := ⟨rfl, rfl, rfl, by decide +kernel, rfl, by decide +kernel, by decide +kernel⟩
include T in
theorem ok_check_order : FnP P w K mg base 5 (He.ga K "check_order") (p_check_order K) := by
  obtain ⟨fd, F⟩ := T.f_check_order
  refine okR F sc_check_order (fun _ _ _ _ _ _ us hl => match us, hl with | [_, _], _ => rfl) (fun vs H Q h => by obtain ⟨t, o, G, m, n, ps, rfl, _⟩ := h; rfl) fun cdv A outer s H vs Q hr h => ⟨_, (pss_cons (ps_if (pt_cmpR op_ne (pe_callB (OW.call_lenO T.m_Order_len (ok_Order_len T) (hr.mono (by decide))) (by rfl) T.n_len PySem.boot_len (pa_cons (pv 1) pa_nil)) (pe_callB (OW.call_lenO T.m_Table_len (ok_Table_len T) (hr.mono (by decide))) (by rfl) T.n_len PySem.boot_len (pa_cons (pv 0) pa_nil)) (nomark _)) pss_never pss_nil) (pss_one (ps_for PassesOwn.never rfl (pi_list (pe_m0 (pv 1) T.cl_Order T.m_Order_pairs (ok_Order_pairs T) (hr.mono (by decide)))) (pg_name (i := 2) sc_check_order.nd rfl (.inl rfl)) (pss_one (ps_if (pt_cmpR (OW.op_ninO T.m_Table_contains (ok_Table_contains T) (hr.mono (by decide))) (pv 2) (pv 0) (by rfl)) pss_never pss_nil))))), ?_⟩
  obtain ⟨t, o, G, m, n, ps, rfl, ht, sh, ho, hl, hm, q⟩ := h
  obtain ⟨dx, g, hi, hg⟩ := id ht
  obtain ⟨dx2, l, d, xs, hoi, _⟩ := id ho
  have := pairs_len sh
  refine q_skip (et_test (ev_op (ev_lenO (ev_var rfl) hoi (u_Order_len ho) (by omega)) (ev_lenO (ev_var rfl) hi (u_Table_len ht sh) (by omega)) (rv_neI (by rw [hl]; simp)))) fun H1 e1 => ?_
  refine s_forP (xs := fun _ => []) (evp_m0 (ev_var rfl) (e1 _ _ hoi) rfl (u_Order_pairs (ho.ex e1)) LRel.back) fun v H2 e2 r => ?_
  obtain ⟨p, ys, rfl, hn, hp, hpl⟩ := LRel.pl r
  refine ⟨p, ys, rfl, sq_of hp, fun _ σ' H' => (∃ z, σ' = [some (.ref t), some (.ref o), z]) ∧ Ex H2 H', ⟨⟨_, rfl⟩, Ex.refl _⟩, fun _ _ _ _ h => sq_of (h.2 _ _ hp), ?_, ?_⟩
  · rintro i x σ' H' hx ⟨⟨z, rfl⟩, e3⟩
    obtain ⟨pr, hpr, a, rfl, ha⟩ := paired_get hpl i x hx
    have e := e1.trans (e2.trans e3)
    obtain ⟨m1, m2, m3⟩ := mem_pairsOf.mp (hm pr (List.mem_of_getElem? hpr))
    refine s_skip (et_test (ev_op (y := .ref t) (ev_var rfl) (ev_var rfl) (rv_inO (neg := true) (e _ _ hi) (u_Table_contains (ht.ex e) sh (e3 _ _ ha) m1 m2 m3)))) fun H4 e4 => ⟨⟨_, rfl⟩, e3.trans e4⟩
  · rintro σ' H' ⟨_, e3⟩
    exact q H' (e1.trans (e2.trans e3))
include T in
theorem kp_check_order : PySem.W.keepIn K (.ref (He.ga K "check_order")) = true := let ⟨_, F⟩ := T.f_check_order; F.kp
theorem u_check_order {K : PySem.W.Frag} {H : Hp} {t o : Addr} {G : Grid} {m n : Nat} {ps : List Pr} (h : TbA K H t G) (s : Sh G m n) (ho : OrA K H o ps) (hl : ps.length = (pairsOf G m n).length) (hm : ∀ p ∈ ps, p ∈ pairsOf G m n) : PmP (p_check_order K) [.ref t, .ref o] H (Is .non) := pmp_ret fun H1 Q e q => ⟨t, o, G, m, n, ps, rfl, h.ex e, s, ho.ex e, hl, hm, q⟩
end
end K50
end
section /- PR5 -/
set_option Elab.async false
set_option linter.all false
set_option maxRecDepth 100000
set_option maxHeartbeats 1000000
/-! What bars a pair: a generator. -/
namespace K50
open PySem PySem.Spec L2 Evl EV GF GenW
open PyProof.Rows hiding St
/-! ### loops that hand out -/
theorem gfor_it {J : It} {n : Nat} {G : Hp → Prop} {Y : Nat → Hp → V → Hp → Prop} {gt : TG} {tb : GF.TGn} (w : Walk J n G Y) {D : GE} {i0 : Nat} {Hb0 H0 : Hp} {σ0 : L2.St} (Pv : Nat → Nat → Hp → L2.St → Hp → Prop) (h0 : Pv 0 i0 Hb0 σ0 H0)
    (hG : ∀ j i Hb σ H, j ≤ n → Pv j i Hb σ H → G H) (hs : ∀ j i Hb σ H x H', j < n → Pv j i Hb σ H → Y j H x H' → gt x σ H' fun σ2 H2 => tb { nx := Pv (j + 1), ct := Pv (j + 1), bk := D.nx } i Hb σ2 H2) (hd : ∀ i Hb σ H, Pv n i Hb σ H → D.nx i Hb σ H) :
    ∃ W : Nat → Nat → Nat → Hp → L2.St → Hp → Prop, (∃ m, W 0 m i0 Hb0 σ0 H0) ∧ ∀ j m i Hb σ H, W j m i Hb σ H →
      (J.stop j H ∧ D.nx i Hb σ H) ∨ (J.go j H ∧ ∃ Nx : Nat → Hp → L2.St → Hp → Prop, (∀ i' Hb' σ' H', Nx i' Hb' σ' H' → ∃ m', m' < m ∧ W (j + 1) m' i' Hb' σ' H') ∧
        ∀ x H', J.yld j H x H' → gt x σ H' fun σ2 H2 => tb { nx := Nx, ct := Nx, bk := D.nx } i Hb σ2 H2) := by
  refine ⟨fun j m i Hb σ H => m = n - j ∧ j ≤ n ∧ Pv j i Hb σ H, ⟨n, by simp, Nat.zero_le _, h0⟩, ?_⟩
  rintro j m i Hb σ H ⟨rfl, hj, p⟩
  have q := hG j i Hb σ H hj p
  by_cases hlt : j < n
  · exact .inr ⟨w.goes j H hlt q, Pv (j + 1), fun i' Hb' σ' H' p' => ⟨n - (j + 1), by omega, rfl, hlt, p'⟩, fun x H' y => hs j i Hb σ H x H' hlt p (w.yields j H x H' hlt q y)⟩
  · have e : j = n := by omega
    subst e
    exact .inl ⟨w.stops H q, hd i Hb σ H p⟩
def iV (n : Nat) : V := .int (n : Int)
/-- what a generator knows, whatever its consumer does -/
structure Kept (U : Addr → Prop) (Cr : Hp → Prop) : Prop where
  ex : ∀ H H', Ex H H' → Cr H → Cr H'
  exu : ∀ H H', ExU U H H' → Cr H → Cr H'
section
variable {K : PySem.W.Frag} {U : Addr → Prop} {N : Nat} {IT : Nat → V → Hp → Prop} {te : TE} {tt : TT} {Cr : Hp → Prop} {la : Addr} {xs : List Nat} {c q : Nat} {σ : L2.St} {β : Type} {B : List β} {BA : Hp → V → β → Prop} {d : Nat → Bool} {mk : Nat → β}
theorem g_yl (hK : Kept U Cr) (hl : ∀ H, Cr H → H la = some (.lst (xs.map iV))) (hc : ∀ z, (σ.set q z)[c]? = some (some (.ref la))) (hit : ∀ t v H b, B[t]? = some b → BA H v b → IT t v H) (hN : N = B.length)
    (ht : ∀ s ∈ xs, ∀ H, Cr H → EvT tt (σ.set q (some (iV s))) H (d s)) (he : ∀ s ∈ xs, d s = true → ∀ H, Cr H → EvP te (σ.set q (some (iV s))) H fun v _ H' => BA H' v (mk s)) (later : List β) {D : GE} (done : List β) (cnt : Nat) (Hb : Hp) (z : Option V) (H : Hp)
    (hB : B = done ++ ((xs.filter d).map mk ++ later)) (hcn : cnt = done.length) (hbe : Ex Hb H) (hCr : Cr H)
    (hnx : ∀ done' cnt' Hb' z' H', B = done' ++ later → cnt' = done'.length → Ex Hb' H' → Cr H' → D.nx cnt' Hb' (σ.set q z') H') :
    tGFor (iList K (tVar c)) (gName q) (tGThen (tGIf tt (tGThen (tGYield U N IT te) tG0) tG0) tG0) D cnt Hb (σ.set q z) H := by
  have ss : ∀ z z' : Option V, (σ.set q z).set q z' = σ.set q z' := fun z z' => by simp
  refine ⟨.ref la, hc z, la, rfl, ⟨_, sq_of (hl H hCr)⟩, ?_⟩
  refine gfor_it walk_list (fun j i Hb σ' H => ∃ z, σ' = σ.set q z ∧ Ex Hb H ∧ Cr H ∧ ∃ done, B = done ++ (((xs.drop j).filter d).map mk ++ later) ∧ i = done.length) ⟨z, rfl, hbe, hCr, done, hB, hcn⟩ (fun j i Hb σ' H _ ⟨_, _, _, h, _⟩ => sq_of (hl H h)) ?_ ?_
  · rintro j i Hb σ' H x H' hj ⟨z, rfl, hbe, hCr, done, hB, hcn⟩ ⟨rfl, hx⟩
    rw [List.getElem?_map] at hx
    obtain ⟨s, hs, rfl⟩ := Option.map_eq_some_iff.mp hx
    have hjl : j < xs.length := (List.getElem?_eq_some_iff.mp hs).1
    have es : xs[j] = s := (List.getElem?_eq_some_iff.mp hs).2
    have hm : s ∈ xs := List.mem_of_getElem? hs
    show tGThen _ tG0 _ i Hb ((σ.set q z).set q (some (iV s))) H'
    rw [ss]
    rw [List.drop_eq_getElem_cons hjl, es] at hB
    refine ht s hm H' hCr H' (Ex.refl _) _ fun H2 e2 => ?_
    cases hd : d s with
    | false =>
      rw [List.filter_cons_of_neg (by rw [hd]; decide)] at hB
      exact ⟨_, rfl, hbe.trans e2, hK.ex _ _ e2 hCr, done, hB, hcn⟩
    | true =>
      rw [List.filter_cons_of_pos hd, List.map_cons] at hB
      have hat : B[i]? = some (mk s) := by
        rw [hB, hcn, List.getElem?_append_right (Nat.le_refl _), Nat.sub_self]
        rfl
      refine ⟨by rw [hN]; exact (List.getElem?_eq_some_iff.mp hat).1, he s hm hd H2 (hK.ex _ _ e2 hCr) H2 (Ex.refl _) _ fun v H3 e3 r => ⟨hbe.trans (e2.trans e3), hit _ _ _ _ hat r, fun H4 e4 => ?_⟩⟩
      refine ⟨_, rfl, Ex.refl _, hK.exu _ _ e4 (hK.ex _ _ (e2.trans e3) hCr), done ++ [mk s], ?_, ?_⟩
      · rw [hB, List.append_assoc]
        rfl
      · rw [List.length_append, hcn]
        rfl
  · rintro i Hb σ' H ⟨z, rfl, hbe, hCr, done, hB, hcn⟩
    rw [List.length_map, List.drop_length] at hB
    exact hnx done i Hb z H hB hcn hbe hCr
end
/-! ### the bars of a pair -/
inductive Wd where
  | cross | column | row
def Wd.s : Wd → Str
  | .cross => "cross" | .column => "column" | .row => "row"
abbrev Bar := Wd × Nat × Nat
def prc (G : Grid) (i j : Nat) : Int := (cell G i j).getD 0
def dearer (G : Grid) (i j r s : Nat) : Bool := (cell G r s).isNone || decide (prc G i s + prc G r j < prc G i j + prc G r s)
def stocksOf (m i j : Nat) (be : Nat → Nat → Bool) : List Nat := (List.range m).filter fun r => !decide (r = i) && be r j
def wishesOf (n i j : Nat) (be : Nat → Nat → Bool) : List Nat := (List.range n).filter fun s => !decide (s = j) && be i s
def crossOf (G : Grid) (n i j : Nat) (be : Nat → Nat → Bool) (r : Nat) : List Bar := ((wishesOf n i j be).filter fun s => dearer G i j r s).map fun s => (.cross, r, s)
def colOf (G : Grid) (m i j : Nat) (kd : Kd) (be : Nat → Nat → Bool) : List Bar := if kd.cols then ((stocksOf m i j be).filter fun r => decide (prc G r j < prc G i j)).map fun r => (.column, r, j) else []
def rowOf (G : Grid) (n i j : Nat) (kd : Kd) (be : Nat → Nat → Bool) : List Bar := if kd.rws then ((wishesOf n i j be).filter fun s => decide (prc G i s < prc G i j)).map fun s => (.row, i, s) else []
def barsOf (G : Grid) (m n : Nat) (kd : Kd) (be : Nat → Nat → Bool) (p : Pr) : List Bar :=
  (stocksOf m p.1 p.2 be).flatMap (crossOf G n p.1 p.2 be) ++ (colOf G m p.1 p.2 kd be ++ rowOf G n p.1 p.2 kd be)
/-- a bar as a value -/
def BarA (p : Pr) (H : Hp) (v : V) (b : Bar) : Prop := ∃ x y z, v = .ref x ∧ H x = some (.tup [.str b.1.s, .ref y, .ref z]) ∧ H y = some (.tup (pV p)) ∧ H z = some (.tup (pV (b.2.1, b.2.2)))
section
variable {P : Program} {w : World} {K : PySem.W.Frag} {mg : Str → Option Value} {base : Heap} (T : Tx K mg)
theorem cV_some {G : Grid} {i j : Nat} (h : (cell G i j).isSome = true) : cV (cell G i j) = .int (prc G i j) := by
  unfold prc
  cases q : cell G i j with
  | none => rw [q] at h; cases h
  | some c => rfl

def p_is_dearer : Pm := fun vs H Q => ∃ (g a b : Addr) (G : Grid) (m n i j r s : Nat), vs = [.ref g, .ref a, .ref b] ∧ GrA H g G ∧ Sh G m n ∧ H a = some (.tup (pV (i, j))) ∧ H b = some (.tup (pV (r, s))) ∧ i < m ∧ j < n ∧ r < m ∧ s < n ∧ (cell G i j).isSome = true ∧ (cell G i s).isSome = true ∧ (cell G r j).isSome = true ∧ RetB (.bl (dearer G i j r s)) H Q
theorem sc_is_dearer : FnScope ["grid", "pair", "other", "i", "j", "r", "s"] ["grid", "pair", "other"] (defScope s_is_dearer) := ⟨rfl, rfl, rfl, by decide +kernel, rfl, by decide +kernel, by decide +kernel⟩
include T in
theorem ok_is_dearer : FnP P w K mg base 1 (He.ga K "is_dearer") p_is_dearer := by
  obtain ⟨fd, F⟩ := T.f_is_dearer
  refine okR F sc_is_dearer (fun _ _ _ _ _ _ us hl => match us, hl with | [_, _, _], _ => rfl) (fun vs H Q h => by obtain ⟨g, a, b, G, m, n, i, j, r, s, rfl, _⟩ := h; rfl) fun cdv A outer s H vs Q hr h => ⟨_, (pss_cons (ps_asg (pv 1) (pg_tup rfl (pgs_cons (pg_name (i := 3) sc_is_dearer.nd rfl (.inl rfl)) (pgs_cons (pg_name (i := 4) sc_is_dearer.nd rfl (.inl rfl)) pgs_nil)))) (pss_cons (ps_asg (pv 2) (pg_tup rfl (pgs_cons (pg_name (i := 5) sc_is_dearer.nd rfl (.inl rfl)) (pgs_cons (pg_name (i := 6) sc_is_dearer.nd rfl (.inl rfl)) pgs_nil)))) (pss_cons (ps_if (pt_cmpR op_isN (pe_ix ix_list (pe_ix ix_list (pv 0) (pv 5) (fun _ _ => rfl)) (pv 6) (fun _ _ => rfl)) pe_non (nomark _)) (pss_one (ps_ret pe_bl)) pss_nil) (pss_one (ps_ret (pe_cmpR op_gt (pe_op op_add (pe_ix ix_list (pe_ix ix_list (pv 0) (pv 3) (fun _ _ => rfl)) (pv 4) (fun _ _ => rfl)) (pe_ix ix_list (pe_ix ix_list (pv 0) (pv 5) (fun _ _ => rfl)) (pv 6) (fun _ _ => rfl))) (pe_op op_add (pe_ix ix_list (pe_ix ix_list (pv 0) (pv 3) (fun _ _ => rfl)) (pv 6) (fun _ _ => rfl)) (pe_ix ix_list (pe_ix ix_list (pv 0) (pv 5) (fun _ _ => rfl)) (pv 4) (fun _ _ => rfl))) (nomark _))))))), ?_⟩
  obtain ⟨g, a, b, G, m, n, i, j, r, s, rfl, hg, sh, ha, hb, hi, hj, hr', hs, c1, c2, c3, q⟩ := h
  refine ⟨_, rfl, g_tup2 ha ?_⟩
  refine ⟨_, rfl, g_tup2 hb ?_⟩
  have gc : ∀ {H1 : Hp} {x y x' y' : Nat}, Ex H H1 → x' < m → y' < n → ([some (.ref g), some (.ref a), some (.ref b), some (.int (i : Int)), some (.int (j : Int)), some (.int (r : Int)), some (.int (s : Int))] : L2.St)[x]? = some (some (.int (x' : Int))) →
      ([some (.ref g), some (.ref a), some (.ref b), some (.int (i : Int)), some (.int (j : Int)), some (.int (r : Int)), some (.int (s : Int))] : L2.St)[y]? = some (some (.int (y' : Int))) →
      Ev (tOp (rIxL K) (tOp (rIxL K) (tVar 0) (tVar x)) (tVar y)) [some (.ref g), some (.ref a), some (.ref b), some (.int (i : Int)), some (.int (j : Int)), some (.int (r : Int)), some (.int (s : Int))] H1 (cV (cell G x' y')) := fun e h1 h2 e1 e2 => ev_cell sh h1 h2 (hg.ex e) (ev_var rfl) (ev_var e1) (ev_var e2)
  refine q_when (b := (cell G r s).isNone) (et_test (ev_op (gc (Ex.refl _) hr' hs rfl rfl) ev_c (rv_isN (cV_non _)))) (fun hn H1 e1 => ?_) (fun hn H1 e1 => ?_)
  · refine s_ret ev_c fun H2 e2 => ?_
    have e : dearer G i j r s = true := by
      unfold dearer
      rw [hn]
      rfl
    have q2 := q H2 (e1.trans e2)
    rw [e] at q2
    exact q2
  · have c4 : (cell G r s).isSome = true := by
      cases z : cell G r s with
      | none => rw [z] at hn; cases hn
      | some c => rfl
    have e : dearer G i j r s = decide (prc G i s + prc G r j < prc G i j + prc G r s) := by
      unfold dearer
      rw [hn]
      rfl
    rw [e] at q
    refine s_ret (ev_op (ev_op (ev_is (gc e1 hi hj rfl rfl) (cV_some c1)) (ev_is (gc e1 hr' hs rfl rfl) (cV_some c4)) rv_I0) (ev_op (ev_is (gc e1 hi hs rfl rfl) (cV_some c2)) (ev_is (gc e1 hr' hj rfl rfl) (cV_some c3)) rv_I0) (rv_gt rfl)) fun H2 e2 => q H2 (e1.trans e2)
include T in
theorem kp_is_dearer : PySem.W.keepIn K (.ref (He.ga K "is_dearer")) = true := let ⟨_, F⟩ := T.f_is_dearer; F.kp
theorem u_is_dearer {H : Hp} {g a b : Addr} {G : Grid} {m n i j r s : Nat} (hg : GrA H g G) (sh : Sh G m n) (ha : H a = some (.tup (pV (i, j)))) (hb : H b = some (.tup (pV (r, s)))) (h1 : i < m) (h2 : j < n) (h3 : r < m) (h4 : s < n) (c1 : (cell G i j).isSome = true) (c2 : (cell G i s).isSome = true) (c3 : (cell G r j).isSome = true) : PmP p_is_dearer [.ref g, .ref a, .ref b] H (Is (.bl (dearer G i j r s))) := pmp_ret fun H1 Q e q => ⟨g, a, b, G, m, n, i, j, r, s, rfl, hg.ex e, sh, e _ _ ha, e _ _ hb, h1, h2, h3, h4, c1, c2, c3, q⟩
theorem sc_bars : GScope ["table", "behind", "pair", "kind", "grid", "i", "j", "stocks", "wishes", "r", "s"] ["table", "behind", "pair", "kind"] (defScope s_bars) := ⟨rfl, rfl, rfl, by decide +kernel, rfl, by decide +kernel, by decide +kernel⟩
abbrev rSt (K : PySem.W.Frag) : TE := tLc (iRng1 (tCons (tCB (rLenS K) (tCons (tVar 4) tNil)) tNil)) (gName 9) (tAnd (tTest (tOp rNe (tVar 9) (tVar 5))) (tB (tDIn (tTup (tCons (tVar 9) (tCons (tVar 6) tNil))) (tVar 1)))) (tVar 9) [9]
abbrev rWi (K : PySem.W.Frag) : TE := tLc (iRng1 (tCons (tCB (rLenS K) (tCons (tOp (rIxL K) (tVar 4) (tC (.int 0))) tNil)) tNil)) (gName 10) (tAnd (tTest (tOp rNe (tVar 10) (tVar 6))) (tB (tDIn (tTup (tCons (tVar 5) (tCons (tVar 10) tNil))) (tVar 1)))) (tVar 10) [10]
abbrev tItem (z : Str) (a b : Nat) : TE := tTup (tCons (tC (.str z)) (tCons (tVar 2) (tCons (tTup (tCons (tVar a) (tCons (tVar b) tNil))) tNil)))
abbrev tYl (K : PySem.W.Frag) (U : Addr → Prop) (N : Nat) (IT : Nat → V → Hp → Prop) (c q : Nat) (tt : TT) (te : TE) : GF.TGn := tGFor (iList K (tVar c)) (gName q) (tGThen (tGIf tt (tGThen (tGYield U N IT te) tG0) tG0) tG0)
abbrev tDear : TT := tB (tCallR p_is_dearer (tCons (tVar 4) (tCons (tVar 2) (tCons (tTup (tCons (tVar 9) (tCons (tVar 10) tNil))) tNil))))
abbrev tCellV (K : PySem.W.Frag) (a b : Nat) : TE := tOp (rIxL K) (tOp (rIxL K) (tVar 4) (tVar a)) (tVar b)
abbrev rGt : R2 := rI0 fun i j => .bl (decide (j < i))
abbrev t_bars (K : PySem.W.Frag) (U : Addr → Prop) (N : Nat) (IT : Nat → V → Hp → Prop) : GF.TGn :=
  tGThen (tPlain (tAsg (tM0 (He.ga K "Table") "rows" (p_Table_rows K) (tVar 0)) (gName 4)))
  (tGThen (tPlain (tAsg (tVar 2) (gTup K 2 (gCons (gName 5) (gCons (gName 6) gNil)))))
  (tGThen (tPlain (tAsg (rSt K) (gName 7)))
  (tGThen (tPlain (tAsg (rWi K) (gName 8)))
  (tGThen (tGFor (iList K (tVar 7)) (gName 9) (tGThen (tYl K U N IT 8 10 tDear (tItem "cross" 9 10)) tG0))
  (tGThen (tGIf (tB (tCallR p_counts_columns (tCons (tVar 3) tNil))) (tGThen (tYl K U N IT 7 9 (tTest (tOp rGt (tCellV K 5 6) (tCellV K 9 6))) (tItem "column" 9 6)) tG0) tG0)
  (tGThen (tGIf (tB (tCallR p_counts_rows (tCons (tVar 3) tNil))) (tGThen (tYl K U N IT 8 10 (tTest (tOp rGt (tCellV K 5 6) (tCellV K 5 10))) (tItem "row" 5 10)) tG0) tG0) tG0))))))
include T in
theorem gss_bars {f : Addr} {cdv : Value} {A : Around} {outer : List Env} {L : Addr} {pn : List (Addr × Obj)} {U : Addr → Prop} {N : Nat} {IT : Nat → V → Hp → Prop} (hr : Room 1 (A.deeper (envOfC "bars" (defScope s_bars) L f cdv))) :
    GSs (gxOf P w K mg base ["table", "behind", "pair", "kind", "grid", "i", "j", "stocks", "wishes", "r", "s"] "bars" (defScope s_bars) f cdv A outer L pn) U N IT (defBody s_bars) (t_bars K U N IT) := by
  have hu : (A.deeper (envOfC "bars" (defScope s_bars) L f cdv)).units + 1 < cLine := hu_of hr
  refine gss_cons (gs_ps fun tg => ?_) (gss_cons (gs_ps fun tg => ?_) (gss_cons (gs_ps fun tg => ?_) (gss_cons (gs_ps fun tg => ?_) (gss_cons ?_ (gss_cons ?_ (gss_one ?_))))))
  · exact ps_set (i := 4) sc_bars.nd rfl (.inl rfl) (pe_m0 (pv 0) T.cl_Table T.m_Table_rows (ok_Table_rows T) hr)
  · exact ps_asg (pv 2) (pg_tup rfl (pgs_cons (pg_name (i := 5) sc_bars.nd rfl (.inr rfl)) (pgs_cons (pg_name (i := 6) sc_bars.nd rfl (.inr rfl)) pgs_nil)))
  · exact (ps_setLc (i := 7) (own := [("r", 9)]) (te := tVar 9) (tt := tAnd (tTest (tOp rNe (tVar 9) (tVar 5))) (tB (tDIn (tTup (tCons (tVar 9) (tCons (tVar 6) tNil))) (tVar 1)))) rfl sc_bars.nd rfl rfl (sw_true rfl rfl rfl (by decide +kernel)) (pi_range1 (by rfl) T.n_range (pa_cons (pe_callB call_len_seq (by rfl) T.n_len PySem.boot_len (pa_cons (pv 4) pa_nil)) pa_nil)) (blkOk_by (own := [("r", 9)]) (N := ["table", "behind", "pair", "kind", "grid", "i", "j", "stocks", "wishes", "r", "s"]) (sc := defScope s_bars) (by decide +kernel)) (fun _ _ _ _ _ => (pg_name (i := 9) sc_bars.nd rfl (.inl rfl))) (fun _ _ _ _ _ => pts_one (PW.pt (pw_and (pt_cmpR op_ne (pv 9) (pv 5) (nomark _)) (pw_and1 (pt_cmp (pc_din hu (pe_tup (pa_cons (pv 9) (pa_cons (pv 6) pa_nil))) (pv 1))))))) (fun _ _ _ _ _ => (pv 9)))
  · exact (ps_setLc (i := 8) (own := [("s", 10)]) (te := tVar 10) (tt := tAnd (tTest (tOp rNe (tVar 10) (tVar 6))) (tB (tDIn (tTup (tCons (tVar 5) (tCons (tVar 10) tNil))) (tVar 1)))) rfl sc_bars.nd rfl rfl (sw_true rfl rfl rfl (by decide +kernel)) (pi_range1 (by rfl) T.n_range (pa_cons (pe_callB call_len_seq (by rfl) T.n_len PySem.boot_len (pa_cons (pe_ix ix_list (pv 4) pe_int (fun _ _ => rfl)) pa_nil)) pa_nil)) (blkOk_by (own := [("s", 10)]) (N := ["table", "behind", "pair", "kind", "grid", "i", "j", "stocks", "wishes", "r", "s"]) (sc := defScope s_bars) (by decide +kernel)) (fun _ _ _ _ _ => (pg_name (i := 10) sc_bars.nd rfl (.inl rfl))) (fun _ _ _ _ _ => pts_one (PW.pt (pw_and (pt_cmpR op_ne (pv 10) (pv 6) (nomark _)) (pw_and1 (pt_cmp (pc_din hu (pe_tup (pa_cons (pv 5) (pa_cons (pv 10) pa_nil))) (pv 1))))))) (fun _ _ _ _ _ => (pv 10)))
  · exact (gs_for (fun _ => pi_list (pv 7)) (fun _ => (pg_name (i := 9) sc_bars.nd rfl (.inl rfl))) (gss_one (gs_for (fun _ => pi_list (pv 8)) (fun _ => (pg_name (i := 10) sc_bars.nd rfl (.inl rfl))) (gss_one (gs_if (fun _ => pt_val (pe_cR (ok_is_dearer T) hr (by rfl) T.g_is_dearer (kp_is_dearer T) (pa_cons (pv 4) (pa_cons (pv 2) (pa_cons (pe_tup (pa_cons (pv 9) (pa_cons (pv 10) pa_nil))) pa_nil))))) (gss_one (gs_yield (fun _ => (pe_tup (pa_cons pe_str (pa_cons (pv 2) (pa_cons (pe_tup (pa_cons (pv 9) (pa_cons (pv 10) pa_nil))) pa_nil))))))) gss_nil)))))
  · exact gs_if (fun _ => pt_val (pe_cR (ok_counts_columns T) hr (by rfl) T.g_counts_columns (kp_counts_columns T) (pa_cons (pv 3) pa_nil))) (gss_one (gs_for (fun _ => pi_list (pv 7)) (fun _ => (pg_name (i := 9) sc_bars.nd rfl (.inl rfl))) (gss_one (gs_if (fun _ => pt_cmpR op_gt (pe_ix ix_list (pe_ix ix_list (pv 4) (pv 5) (fun _ _ => rfl)) (pv 6) (fun _ _ => rfl)) (pe_ix ix_list (pe_ix ix_list (pv 4) (pv 9) (fun _ _ => rfl)) (pv 6) (fun _ _ => rfl)) (nomark _)) (gss_one (gs_yield (fun _ => (pe_tup (pa_cons pe_str (pa_cons (pv 2) (pa_cons (pe_tup (pa_cons (pv 9) (pa_cons (pv 6) pa_nil))) pa_nil))))))) gss_nil)))) gss_nil
  · exact gs_if (fun _ => pt_val (pe_cR (ok_counts_rows T) hr (by rfl) T.g_counts_rows (kp_counts_rows T) (pa_cons (pv 3) pa_nil))) (gss_one (gs_for (fun _ => pi_list (pv 8)) (fun _ => (pg_name (i := 10) sc_bars.nd rfl (.inl rfl))) (gss_one (gs_if (fun _ => pt_cmpR op_gt (pe_ix ix_list (pe_ix ix_list (pv 4) (pv 5) (fun _ _ => rfl)) (pv 6) (fun _ _ => rfl)) (pe_ix ix_list (pe_ix ix_list (pv 4) (pv 5) (fun _ _ => rfl)) (pv 10) (fun _ _ => rfl)) (nomark _)) (gss_one (gs_yield (fun _ => (pe_tup (pa_cons pe_str (pa_cons (pv 2) (pa_cons (pe_tup (pa_cons (pv 5) (pa_cons (pv 10) pa_nil))) pa_nil))))))) gss_nil)))) gss_nil
theorem LRelN.back {H0 : Hp} {G : Grid} : ∀ v H1 H2 H3, Ex H1 H2 → (fun v Ha Hb => LRel (RowN Ha) G v Ha Hb) v H2 H3 → (fun v Ha Hb => LRel (RowN Ha) G v Ha Hb) v H1 H3 := fun _ _ _ _ e ⟨p, u, ev, hn, hp, ho⟩ =>
  ⟨p, u, ev, fresh_back e hn, hp, paired_mono ho fun v r ⟨b, eb, hb, h⟩ => ⟨b, eb, fresh_back e hb, h⟩⟩
theorem ev_dinU {tk td : TE} {σ : L2.St} {H : Hp} {d : Addr} {kvs : List (List Key × V)} {q : Pr} {r : Bool} (h1 : EvU tk σ H (pV q)) (h2 : Ev td σ H (.ref d)) (hd : H d = some (.dT kvs)) (hr : (valV kvs (kP q)).isSome = r) : Ev (tDIn tk td) σ H (.bl r) := fun H1 e Q k =>
  h1 H1 e _ fun b H2 hn e2 hb => h2 H2 (e.trans e2) _ fun H3 e3 => ⟨d, _, rfl, DGet.t (k := kP q) ((e.trans (e2.trans e3)) _ _ hd) (e3 _ _ hb), by rw [hr]; exact k H3 (e2.trans e3)⟩
theorem paired_iV : ∀ {xs : List V} {ns : List Nat}, Paired (fun v n => v = iV n) xs ns → xs = ns.map iV
  | _, _, .nil => rfl
  | _, _, .cons h t => by rw [h, paired_iV t]; rfl
theorem filterMap_if {α : Type} (f : α → Bool) : ∀ l : List α, (l.filterMap fun x => if f x = true then some x else none) = l.filter f
  | [] => rfl
  | a :: l => by
    by_cases h : f a = true
    · rw [List.filter_cons_of_pos h, List.filterMap_cons, if_pos h, filterMap_if f l]
    · rw [List.filter_cons_of_neg h, List.filterMap_cons, if_neg h, filterMap_if f l]
abbrev beOf (kvs : List (List Key × V)) : Nat → Nat → Bool := fun r c => (valV kvs (kP (r, c))).isSome
def sp_bars (K : PySem.W.Frag) : SpC := fun vs H U N IT => ∃ (t d a : Addr) (G : Grid) (m n : Nat) (p : Pr) (kd : Kd) (kvs : List (List Key × V)), vs = [.ref t, .ref d, .ref a, .str kd.s] ∧ Sh G m n ∧ (∀ b, U b → H b ≠ none) ∧
  (∀ H2, ExU U H H2 → TbA K H2 t G ∧ H2 d = some (.dT kvs) ∧ H2 a = some (.tup (pV p))) ∧ ¬ U a ∧ p.1 < m ∧ p.2 < n ∧ (cell G p.1 p.2).isSome = true ∧ (∀ r c, beOf kvs r c = true → r < m → c < n → (cell G r c).isSome = true) ∧
  N = (barsOf G m n kd (beOf kvs) p).length ∧ ∀ i v H' b, (barsOf G m n kd (beOf kvs) p)[i]? = some b → BarA p H' v b → IT i v H'
/-- what stays known while the consumer works -/
structure BCr (U : Addr → Prop) (G : Grid) (g sa wa a : Addr) (ss ws : List Nat) (p : Pr) (H : Hp) : Prop where
  grid : ∃ rs, H g = some (.lst rs) ∧ Paired (fun v r => ∃ b, v = .ref b ∧ ¬ U b ∧ H b = some (.lst (r.map cV))) rs G
  st : H sa = some (.lst (ss.map iV))
  wi : H wa = some (.lst (ws.map iV))
  pr : H a = some (.tup (pV p))
theorem bcr_kept {U : Addr → Prop} {G : Grid} {g sa wa a : Addr} {ss ws : List Nat} {p : Pr} (hg : ¬ U g) (hs : ¬ U sa) (hw : ¬ U wa) (ha : ¬ U a) : Kept U (BCr U G g sa wa a ss ws p) where
  ex := fun H H' e ⟨⟨rs, h1, h2⟩, h3, h4, h5⟩ => ⟨⟨rs, e _ _ h1, paired_mono h2 fun v r ⟨b, eb, nb, hb⟩ => ⟨b, eb, nb, e _ _ hb⟩⟩, e _ _ h3, e _ _ h4, e _ _ h5⟩
  exu := fun H H' e ⟨⟨rs, h1, h2⟩, h3, h4, h5⟩ => ⟨⟨rs, (e _ _ h1).1 hg, paired_mono h2 fun v r ⟨b, eb, nb, hb⟩ => ⟨b, eb, nb, (e _ _ hb).1 nb⟩⟩, (e _ _ h3).1 hs, (e _ _ h4).1 hw, (e _ _ h5).1 ha⟩
theorem BCr.gr {U : Addr → Prop} {G : Grid} {g sa wa a : Addr} {ss ws : List Nat} {p : Pr} {H : Hp} (h : BCr U G g sa wa a ss ws p H) : GrA H g G := let ⟨rs, h1, h2⟩ := h.grid; ⟨rs, h1, paired_mono h2 fun v r ⟨b, eb, _, hb⟩ => ⟨b, eb, hb⟩⟩
/-- a handed-out item -/
theorem ev_item {σ : L2.St} {H : Hp} {a : Addr} {p : Pr} {b : Bar} {x y : Nat} (h2 : σ[2]? = some (some (.ref a))) (ha : H a = some (.tup (pV p))) (hx : σ[x]? = some (some (iV b.2.1))) (hy : σ[y]? = some (some (iV b.2.2))) :
    EvP (tItem b.1.s x y) σ H fun v _ H' => BarA p H' v b := fun H1 e Q q => by
  refine ⟨_, h2, ?_⟩
  refine (eu_tup (vs := pV (b.2.1, b.2.2)) (ea_cons (ev_var hx) (ea_cons (ev_var hy) ea_nil)) (by show 2 ≤ 100000; decide)) H1 e _ fun z H2 hn e2 hz => ?_
  refine ⟨by show 3 ≤ sizeLine; decide, fun u hu => q _ _ (e2.trans (Ex.new hu)) ⟨u, a, z, rfl, upd_same, (Ex.new hu) _ _ ((e.trans e2) _ _ ha), (Ex.new hu) _ _ hz⟩⟩
theorem dnat (a b : Nat) : decide ((a : Int) = (b : Int)) = decide (a = b) := decide_eq_decide.mpr ⟨by omega, by omega⟩
theorem mem_stocks {m i j : Nat} {be : Nat → Nat → Bool} {r : Nat} (h : r ∈ stocksOf m i j be) : r < m ∧ be r j = true := by
  unfold stocksOf at h
  rw [List.mem_filter, List.mem_range, Bool.and_eq_true] at h
  exact ⟨h.1, h.2.2⟩
theorem mem_wishes {n i j : Nat} {be : Nat → Nat → Bool} {s : Nat} (h : s ∈ wishesOf n i j be) : s < n ∧ be i s = true := by
  unfold wishesOf at h
  rw [List.mem_filter, List.mem_range, Bool.and_eq_true] at h
  exact ⟨h.1, h.2.2⟩

include T in
theorem rd_bars {H : Hp} {U : Addr → Prop} {N : Nat} {IT : Nat → V → Hp → Prop} {t d a : Addr} {G : Grid} {m n : Nat} {p : Pr} {kd : Kd} {kvs : List (List Key × V)} (sh : Sh G m n) (hU : ∀ b, U b → H b ≠ none) (ht : TbA K H t G) (hd : H d = some (.dT kvs)) (ha : H a = some (.tup (pV p)))
    (na : ¬ U a) (hp1 : p.1 < m) (hp2 : p.2 < n) (hc : (cell G p.1 p.2).isSome = true) (hbe : ∀ r c, beOf kvs r c = true → r < m → c < n → (cell G r c).isSome = true) (hN : N = (barsOf G m n kd (beOf kvs) p).length) (hIT : ∀ i v H' b, (barsOf G m n kd (beOf kvs) p)[i]? = some b → BarA p H' v b → IT i v H') :
    t_bars K U N IT { nx := fun i Hb _ H' => i = N ∧ Ex Hb H' } 0 H [some (.ref t), some (.ref d), some (.ref a), some (.str kd.s), none, none, none, none, none, none, none] H := by
  obtain ⟨i, j⟩ := p
  have hp1 : i < m := hp1
  have hp2 : j < n := hp2
  have m8 := sh.m8
  have n8 := sh.n8
  have fU : ∀ {H' : Hp} {b : Addr}, Ex H H' → H' b = none → ¬ U b := fun e hb u => by
    cases q : H _ with
    | none => exact hU _ u q
    | some o => rw [e _ _ q] at hb; cases hb
  obtain ⟨dx, g0, hti, hg0⟩ := id ht
  -- grid = table.rows()
  refine s_asgP (evp_m0 (ev_var rfl) hti rfl (u_Table_rows ht sh) (LRelN.back (H0 := H) (G := G))) fun v H1 e1 r => ?_
  obtain ⟨g, rs, rfl, hgn, hg, hgp⟩ := r
  have hrs : rs.length = m := by rw [hgp.length]; exact sh.len
  have ng : ¬ U g := fU (Ex.refl H) hgn
  have hgU : Paired (fun v r => ∃ b, v = .ref b ∧ ¬ U b ∧ H1 b = some (.lst (r.map cV))) rs G := paired_mono hgp fun v r ⟨b, eb, hb, h⟩ => ⟨b, eb, fU (Ex.refl H) hb, hid_le _ _ h⟩
  -- i, j = pair
  refine ⟨_, rfl, g_tup2 (e1 _ _ ha) ?_⟩
  -- stocks
  have st := evp_lc (n := m) (Y := YFn fun i => .int (i : Int)) (σ := [some (.ref t), some (.ref d), some (.ref a), some (.str kd.s), some (.ref g), some (.int (i : Int)), some (.int (j : Int)), none, none, none, none]) (H := H1)
    (wi := iRng1 (tCons (tCB (rLenS K) (tCons (tVar 4) tNil)) tNil)) (g := gName 9) (tt := tAnd (tTest (tOp rNe (tVar 9) (tVar 5))) (tB (tDIn (tTup (tCons (tVar 9) (tCons (tVar 6) tNil))) (tVar 1)))) (te := tVar 9) (vs := [9])
    (fun _ v n => v = iV n) (fun _ _ _ _ _ h => h) (fun r => if (!decide (r = i) && beOf kvs r j) = true then some r else none) (by omega) (evi_rng (ea_cons (ev_is (ev_len (ev_var rfl) (sq_of hg)) (by rw [hrs])) ea_nil) (by omega)) (by
      rintro D r H' x H'' hr e hD hD' ⟨rfl, rfl⟩ R k
      refine k _ _ rfl (Ex.refl _) ?_ ?_
      · refine et_is (et_and (a := !decide (r = i)) (b := beOf kvs r j) (et_test (ev_op (ev_var rfl) (ev_var rfl) (rv_neI (by rw [dnat])))) fun _ => et_B (ev_dinU (q := (r, j)) (eu_tup (ea_cons (ev_var rfl) (ea_cons (ev_var rfl) ea_nil)) (by show 2 ≤ 100000; decide)) (ev_var rfl) ((e1.trans e) _ _ hd) rfl)) ?_
        by_cases q : (!decide (r = i) && beOf kvs r j) = true
        · rw [if_pos q, q]; rfl
        · rw [if_neg q]
          simpa using q
      · intro z hz
        have ez : z = r := by
          by_cases q : (!decide (r = i) && beOf kvs r j) = true
          · rw [if_pos q] at hz; exact (Option.some.inj hz).symm
          · rw [if_neg q] at hz; cases hz
        subst ez
        exact fun H3 e3 Q k => (ev_var (H := H'') rfl) H3 e3 Q fun H4 e4 => k _ _ e4 fun _ => rfl)
  rw [filterMap_if] at st
  refine s_asgP st fun v H2 e2 r => ?_
  obtain ⟨sa, xs, rfl, hsn, hs, hsp⟩ := r
  rw [paired_iV hsp] at hs
  have ns : ¬ U sa := fU e1 hsn
  -- wishes
  obtain ⟨r0, hr0, hl0, _⟩ := cell_at sh (i := 0) (j := 0) (by omega) (by omega)
  obtain ⟨v0, hv0, b0, rfl, nb0, hb0⟩ := paired_get' hgU 0 r0 hr0
  have wt := evp_lc (n := n) (Y := YFn fun i => .int (i : Int)) (σ := [some (.ref t), some (.ref d), some (.ref a), some (.str kd.s), some (.ref g), some (.int (i : Int)), some (.int (j : Int)), some (.ref sa), none, none, none]) (H := H2)
    (wi := iRng1 (tCons (tCB (rLenS K) (tCons (tOp (rIxL K) (tVar 4) (tC (.int 0))) tNil)) tNil)) (g := gName 10) (tt := tAnd (tTest (tOp rNe (tVar 10) (tVar 6))) (tB (tDIn (tTup (tCons (tVar 5) (tCons (tVar 10) tNil))) (tVar 1)))) (te := tVar 10) (vs := [10])
    (fun _ v n => v = iV n) (fun _ _ _ _ _ h => h) (fun s => if (!decide (s = j) && beOf kvs i s) = true then some s else none) (by omega) (evi_rng (ea_cons (ev_is (ev_len (ev_op (ev_var rfl) ev_c (rv_ixL (sq_of (e2 _ _ hg)) (atN (j := 0) hv0))) (sq_of (e2 _ _ hb0))) (by rw [List.length_map, hl0])) ea_nil) (by omega)) (by
      rintro D r H' x H'' hr e hD hD' ⟨rfl, rfl⟩ R k
      refine k _ _ rfl (Ex.refl _) ?_ ?_
      · refine et_is (et_and (a := !decide (r = j)) (b := beOf kvs i r) (et_test (ev_op (ev_var rfl) (ev_var rfl) (rv_neI (by rw [dnat])))) fun _ => et_B (ev_dinU (q := (i, r)) (eu_tup (ea_cons (ev_var rfl) (ea_cons (ev_var rfl) ea_nil)) (by show 2 ≤ 100000; decide)) (ev_var rfl) ((e1.trans (e2.trans e)) _ _ hd) rfl)) ?_
        by_cases q : (!decide (r = j) && beOf kvs i r) = true
        · rw [if_pos q, q]; rfl
        · rw [if_neg q]
          simpa using q
      · intro z hz
        have ez : z = r := by
          by_cases q : (!decide (r = j) && beOf kvs i r) = true
          · rw [if_pos q] at hz; exact (Option.some.inj hz).symm
          · rw [if_neg q] at hz; cases hz
        subst ez
        exact fun H3 e3 Q k => (ev_var (H := H'') rfl) H3 e3 Q fun H4 e4 => k _ _ e4 fun _ => rfl)
  rw [filterMap_if] at wt
  refine s_asgP wt fun v H3 e3 r => ?_
  obtain ⟨wa, ys, rfl, hwn, hw, hwp⟩ := r
  rw [paired_iV hwp] at hw
  have nw : ¬ U wa := fU (e1.trans e2) hwn
  obtain ⟨ss, ess⟩ : ∃ ss, ss = stocksOf m i j (beOf kvs) := ⟨_, rfl⟩
  obtain ⟨ws, ews⟩ : ∃ ws, ws = wishesOf n i j (beOf kvs) := ⟨_, rfl⟩
  have hs : H2 sa = some (.lst (ss.map iV)) := by rw [ess]; exact hs
  have hw : H3 wa = some (.lst (ws.map iV)) := by rw [ews]; exact hw
  have kpt := bcr_kept (G := G) (ss := ss) (ws := ws) (p := (i, j)) ng ns nw na
  have cr0 : BCr U G g sa wa a ss ws (i, j) H3 := ⟨⟨rs, (e2.trans e3) _ _ hg, paired_mono hgU fun v r ⟨b, eb, nb, hb⟩ => ⟨b, eb, nb, (e2.trans e3) _ _ hb⟩⟩, e3 _ _ hs, hw, (e1.trans (e2.trans e3)) _ _ ha⟩
  have e03 : Ex H H3 := e1.trans (e2.trans e3)
  let S : Option V → Option V → L2.St := fun z z' => [some (.ref t), some (.ref d), some (.ref a), some (.str kd.s), some (.ref g), some (.int (i : Int)), some (.int (j : Int)), some (.ref sa), some (.ref wa), z, z']
  have hss : ∀ r ∈ ss, r < m ∧ (cell G r j).isSome = true := fun r hr => by
    rw [ess] at hr
    obtain ⟨h1, h2⟩ := mem_stocks hr
    exact ⟨h1, hbe r j h2 h1 hp2⟩
  have hws : ∀ s ∈ ws, s < n ∧ (cell G i s).isSome = true := fun s hs => by
    rw [ews] at hs
    obtain ⟨h1, h2⟩ := mem_wishes hs
    exact ⟨h1, hbe i s h2 hp1 h1⟩
  have cv : ∀ {x y x' y' : Nat} {σ' : L2.St} {H' : Hp}, BCr U G g sa wa a ss ws (i, j) H' → x' < m → y' < n → (cell G x' y').isSome = true → σ'[4]? = some (some (.ref g)) → σ'[x]? = some (some (.int (x' : Int))) → σ'[y]? = some (some (.int (y' : Int))) → Ev (tCellV K x y) σ' H' (.int (prc G x' y')) := fun c h1 h2 h3 h4 h5 h6 =>
    ev_is (ev_cell sh h1 h2 c.gr (ev_var h4) (ev_var h5) (ev_var h6)) (cV_some h3)
  generalize eB : barsOf G m n kd (beOf kvs) (i, j) = B at hN hIT
  -- the rows' part, the end
  have k7 : ∀ (done : List Bar) (cnt : Nat) (Hb : Hp) (z z' : Option V) (H' : Hp), B = done ++ rowOf G n i j kd (beOf kvs) → cnt = done.length → Ex Hb H' → BCr U G g sa wa a ss ws (i, j) H' →
      tGIf (tB (tCallR p_counts_rows (tCons (tVar 3) tNil))) (tGThen (tYl K U N IT 8 10 (tTest (tOp rGt (tCellV K 5 6) (tCellV K 5 10))) (tItem "row" 5 10)) tG0) tG0 { nx := fun i Hb _ H' => i = N ∧ Ex Hb H' } cnt Hb (S z z') H' := fun done cnt Hb z z' H' hB hcn hbx hcr => by
    refine (et_B (ev_c' (ea_cons (ev_var (v := .str kd.s) rfl) ea_nil) u_counts_rows)) H' (Ex.refl _) _ fun H4 e4 => ?_
    have hcr4 := kpt.ex _ _ e4 hcr
    cases hk : kd.rws with
    | false =>
      have er : rowOf G n i j kd (beOf kvs) = [] := by
        unfold rowOf
        rw [hk]
        rfl
      rw [er, List.append_nil] at hB
      exact ⟨by rw [hN, hB, hcn], hbx.trans e4⟩
    | true =>
      have er : rowOf G n i j kd (beOf kvs) = (ws.filter fun s => decide (prc G i s < prc G i j)).map fun s => (.row, i, s) := by
        unfold rowOf
        rw [hk, ews]
        rfl
      rw [er] at hB
      refine g_yl (σ := S z none) (q := 10) (c := 8) (la := wa) (xs := ws) (B := B) (BA := BarA (i, j)) (d := fun s => decide (prc G i s < prc G i j)) (mk := fun s => (.row, i, s)) kpt (fun H c => c.wi) (fun z => rfl) (fun t v H b h1 h2 => hIT t v H b h1 h2) hN ?_ ?_ [] done cnt Hb z' H4 (by rw [List.append_nil]; exact hB) hcn (hbx.trans e4) hcr4 ?_
      · intro s hs H5 c5
        exact et_test (ev_op (cv c5 hp1 hp2 hc rfl rfl rfl) (cv c5 hp1 (hws s hs).1 (hws s hs).2 rfl rfl rfl) (rv_gt rfl))
      · intro s hs hd H5 c5
        exact ev_item (b := (.row, i, s)) (a := a) (p := (i, j)) rfl c5.pr rfl rfl
      · intro done' cnt' Hb' z2 H6 hB' hcn' hb' hc'
        rw [List.append_nil] at hB'
        exact ⟨by rw [hN, hB', hcn'], hb'⟩
  -- the columns' part
  have k6 : ∀ (done : List Bar) (cnt : Nat) (Hb : Hp) (z z' : Option V) (H' : Hp), B = done ++ (colOf G m i j kd (beOf kvs) ++ rowOf G n i j kd (beOf kvs)) → cnt = done.length → Ex Hb H' → BCr U G g sa wa a ss ws (i, j) H' →
      tGThen (tGIf (tB (tCallR p_counts_columns (tCons (tVar 3) tNil))) (tGThen (tYl K U N IT 7 9 (tTest (tOp rGt (tCellV K 5 6) (tCellV K 9 6))) (tItem "column" 9 6)) tG0) tG0)
        (tGThen (tGIf (tB (tCallR p_counts_rows (tCons (tVar 3) tNil))) (tGThen (tYl K U N IT 8 10 (tTest (tOp rGt (tCellV K 5 6) (tCellV K 5 10))) (tItem "row" 5 10)) tG0) tG0) tG0) { nx := fun i Hb _ H' => i = N ∧ Ex Hb H' } cnt Hb (S z z') H' := fun done cnt Hb z z' H' hB hcn hbx hcr => by
    refine (et_B (ev_c' (ea_cons (ev_var (v := .str kd.s) rfl) ea_nil) u_counts_columns)) H' (Ex.refl _) _ fun H4 e4 => ?_
    have hcr4 := kpt.ex _ _ e4 hcr
    cases hk : kd.cols with
    | false =>
      have er : colOf G m i j kd (beOf kvs) = [] := by
        unfold colOf
        rw [hk]
        rfl
      rw [er, List.nil_append] at hB
      exact k7 done cnt Hb z z' H4 hB hcn (hbx.trans e4) hcr4
    | true =>
      have er : colOf G m i j kd (beOf kvs) = (ss.filter fun r => decide (prc G r j < prc G i j)).map fun r => (.column, r, j) := by
        unfold colOf
        rw [hk, ess]
        rfl
      rw [er] at hB
      refine g_yl (σ := S none z') (q := 9) (c := 7) (la := sa) (xs := ss) (B := B) (BA := BarA (i, j)) (d := fun r => decide (prc G r j < prc G i j)) (mk := fun r => (.column, r, j)) kpt (fun H c => c.st) (fun z => rfl) (fun t v H b h1 h2 => hIT t v H b h1 h2) hN ?_ ?_ (rowOf G n i j kd (beOf kvs)) done cnt Hb z H4 hB hcn (hbx.trans e4) hcr4 ?_
      · intro r hr H5 c5
        exact et_test (ev_op (cv c5 hp1 hp2 hc rfl rfl rfl) (cv c5 (hss r hr).1 hp2 (hss r hr).2 rfl rfl rfl) (rv_gt rfl))
      · intro r hr hd H5 c5
        exact ev_item (b := (.column, r, j)) (a := a) (p := (i, j)) rfl c5.pr rfl rfl
      · intro done' cnt' Hb' z2 H6 hB' hcn' hb' hc'
        exact k7 done' cnt' Hb' z2 z' H6 hB' hcn' hb' hc'
  -- the crosses
  have eB2 : B = [] ++ (ss.flatMap (crossOf G n i j (beOf kvs)) ++ (colOf G m i j kd (beOf kvs) ++ rowOf G n i j kd (beOf kvs))) := by
    rw [← eB, ess]
    rfl
  refine ⟨.ref sa, rfl, sa, rfl, ⟨_, sq_of cr0.st⟩, ?_⟩
  refine gfor_it (walk_list (xs := ss.map iV)) (fun jj cnt Hb σ' H' => (∃ z z', σ' = S z z') ∧ Ex Hb H' ∧ BCr U G g sa wa a ss ws (i, j) H' ∧ ∃ done, B = done ++ ((ss.drop jj).flatMap (crossOf G n i j (beOf kvs)) ++ (colOf G m i j kd (beOf kvs) ++ rowOf G n i j kd (beOf kvs))) ∧ cnt = done.length)
    ⟨⟨none, none, rfl⟩, e03, cr0, [], eB2, rfl⟩ (fun _ _ _ _ _ _ h => sq_of h.2.2.1.st) ?_ ?_
  · rintro jj cnt Hb σ' H' x H'' hj ⟨⟨z, z', rfl⟩, hbx, hcr, done, hB, hcn⟩ ⟨rfl, hx⟩
    rw [List.getElem?_map] at hx
    obtain ⟨r, hr, rfl⟩ := Option.map_eq_some_iff.mp hx
    have hjl : jj < ss.length := (List.getElem?_eq_some_iff.mp hr).1
    have es : ss[jj] = r := (List.getElem?_eq_some_iff.mp hr).2
    have hrm : r ∈ ss := List.mem_of_getElem? hr
    rw [List.drop_eq_getElem_cons hjl, es, List.flatMap_cons, List.append_assoc] at hB
    have er : crossOf G n i j (beOf kvs) r = (ws.filter fun s => dearer G i j r s).map fun s => (.cross, r, s) := by
      unfold crossOf
      rw [ews]
    rw [er] at hB
    refine g_yl (σ := S (some (iV r)) none) (q := 10) (c := 8) (la := wa) (xs := ws) (B := B) (BA := BarA (i, j)) (d := fun s => dearer G i j r s) (mk := fun s => (.cross, r, s)) kpt (fun H c => c.wi) (fun z => rfl) (fun t v H b h1 h2 => hIT t v H b h1 h2) hN ?_ ?_ _ done cnt Hb z' H'' hB hcn hbx hcr ?_
    · intro s hs H5 c5
      refine et_B fun H6 e6 Q k => ⟨_, rfl, _, rfl, ?_⟩
      refine (eu_tup (vs := pV (r, s)) (ea_cons (ev_var rfl) (ea_cons (ev_var rfl) ea_nil)) (by show 2 ≤ 100000; decide)) H6 e6 _ fun b H7 hn e7 hb => ?_
      refine u_is_dearer ((c5.gr.ex e6).ex e7) sh ((e6.trans e7) _ _ c5.pr) hb hp1 hp2 (hss r hrm).1 (hws s hs).1 hc (hws s hs).2 (hss r hrm).2 H7 (Ex.refl _) _ fun v H8 e8 ev => ?_
      rw [show v = _ from ev]
      exact k H8 (e7.trans e8)
    · intro s hs hd H5 c5
      exact ev_item (b := (.cross, r, s)) (a := a) (p := (i, j)) rfl c5.pr rfl rfl
    · intro done' cnt' Hb' z2 H6 hB' hcn' hb' hc'
      exact ⟨⟨_, _, rfl⟩, hb', hc', done', hB', hcn'⟩
  · rintro cnt Hb σ' H' ⟨⟨z, z', rfl⟩, hbx, hcr, done, hB, hcn⟩
    rw [List.length_map, List.drop_length] at hB
    exact k6 done cnt Hb z z' H' hB hcn hbx hcr
include T in
theorem ok_bars : ∃ fd, GFnC P w K mg base 2 (He.ga K "bars") fd ["table", "behind", "pair", "kind"] (sp_bars K) ∧ Binds K fd ["table", "behind", "pair", "kind"] [] := by
  obtain ⟨fd, F⟩ := T.f_bars
  have bd : Binds K fd ["table", "behind", "pair", "kind"] [] := F.bindsN fun _ _ _ _ _ _ us hl => match us, hl with | [_, _, _, _], _ => rfl
  obtain ⟨oc, od, dV, kV, doc, pm, an, cdv, ct, osl, rfl, lk, hcd, _, _⟩ := F.ex
  refine ⟨_, gfnC_of lk hcd sc_bars (fun vs H U N IT h => ?_) fun A outer L H vs U N IT pn hr h => ⟨_, gss_bars T hr, fun H2 hu => ?_⟩, bd⟩
  · obtain ⟨t, d, a, G, m, n, p, kd, kvs, rfl, _⟩ := h
    rfl
  · obtain ⟨t, d, a, G, m, n, p, kd, kvs, rfl, sh, hU, hH, na, h1, h2, h3, h4, h5, h6⟩ := h
    obtain ⟨ht, hd, ha⟩ := hH H2 hu
    exact rd_bars T sh (fun b ub => by
      cases q : H b with
      | none => exact absurd q (hU b ub)
      | some o => exact (hu b o q).2) ht hd ha na h1 h2 h3 h4 h5 h6
include T in
theorem kp_bars : PySem.W.keepIn K (.ref (He.ga K "bars")) = true := let ⟨_, F⟩ := T.f_bars; F.kp
end
end K50
end
section /- PR6 -/
set_option Elab.async false
set_option linter.all false
set_option maxRecDepth 100000
set_option maxHeartbeats 1000000
/-! The bars' readers: first_bar, first_fault, needs_of. -/
namespace K50
open PySem PySem.Spec L2 Evl EV GF GenW
open PyProof.Rows hiding St
section
variable {P : Program} {w : World} {K : PySem.W.Frag} {mg : Str → Option Value} {base : Heap} (T : Tx K mg)
theorem exU_q {H H1 H2 : Hp} {q : Addr} (e : Ex H H1) (hq : H q = none) (u : ExU (fun b => b = q) H1 H2) : Ex H H2 := fun b o h => (u b o (e b o h)).1 fun z => by
  subst z
  rw [hq] at h
  cases h
theorem exU_F {H1 H2 : Hp} (u : ExU (fun _ => False) H1 H2) : Ex H1 H2 := fun b o h => (u b o h).1 id
def kvT (ps : List Pr) : List (List Key × V) := ps.map fun p => (kP p, V.bl true)
theorem kvT_get (q : Pr) : ∀ ps : List Pr, (valV (kvT ps) (kP q)).isSome = decide (q ∈ ps)
  | [] => by simp [kvT, valV]
  | p :: ps => by
    show (valV ((kP p, V.bl true) :: kvT ps) (kP q)).isSome = _
    by_cases h : kP p = kP q
    · rw [valV_pos h, kP_inj h]
      simp
    · have n : ¬ q = p := fun z => h (by rw [z])
      rw [valV_neg h, kvT_get q ps]
      simp [n]
theorem kvT_drop {p : Pr} {ps : List Pr} (h : p ∉ ps) : dropK (kvT (p :: ps)) (kP p) = kvT ps := by
  unfold dropK kvT
  rw [List.map_cons, List.filter_cons_of_neg (by simp)]
  refine List.filter_eq_self.mpr fun x hx => ?_
  obtain ⟨q, hq, e⟩ := List.mem_map.mp hx
  rw [← e]
  simp only [ne_eq, decide_not, Bool.not_eq_eq_eq_not, Bool.not_true, decide_eq_false_iff_not]
  intro z
  exact h (kP_inj z ▸ hq)
theorem kvsTo_T (ps : List Pr) : kvsTo (fun i => kP (ps.getD i (0, 0))) (fun _ => V.bl true) ps.length = kvT ps := by
  unfold kvsTo kvT
  apply List.ext_getElem?
  intro i
  rw [List.getElem?_map, List.getElem?_map]
  by_cases h : i < ps.length
  · simp [h, List.getD]
  · simp [h]
/-- the turns of a list of pairs -/
def YPr (ps : List Pr) : Nat → Hp → V → Hp → Prop := fun i H x H' => H' = H ∧ ∃ p, ps[i]? = some p ∧ PrA H x p
theorem evi_prs {K : PySem.W.Frag} {σ : L2.St} {H : Hp} {tl : TE} {ps : List Pr} (h : EvP tl σ H (LRel PrA ps)) : EvI (iList K tl) σ H ps.length (YPr ps) := fun H1 e R q =>
  h H1 e _ fun v H2 e2 r => by
    obtain ⟨a, xs, rfl, hn, ha, hp⟩ := LRel.pl r
    refine ⟨a, rfl, ⟨xs, sq_of ha⟩, q _ H2 e2 ⟨fun H3 => Ex H2 H3, ?_, fun H3 e3 => e3⟩⟩
    rw [← hp.length]
    exact (walk_list (xs := xs)).mono (fun H3 e3 => sq_of (e3 _ _ ha)) fun i H3 x H4 _ e3 y => ⟨y.1, paired_get (hp.ex e3) i x y.2⟩
theorem evp_pl {K : PySem.W.Frag} {σ : L2.St} {H : Hp} {tl : TE} {a : Addr} {xs : List V} {ps : List Pr} (h : Ev tl σ H (.ref a)) (ha : H a = some (.lst xs)) (hp : PL H xs ps) : EvI (iList K tl) σ H ps.length (YPr ps) := fun H1 e R q =>
  h H1 e _ fun H2 e2 => by
    have ha2 := (e.trans e2) _ _ ha
    refine ⟨a, rfl, ⟨xs, sq_of ha2⟩, q _ H2 e2 ⟨fun H3 => Ex H2 H3, ?_, fun H3 e3 => e3⟩⟩
    rw [← hp.length]
    exact (walk_list (xs := xs)).mono (fun H3 e3 => sq_of (e3 _ _ ha2)) fun i H3 x H4 _ e3 y => ⟨y.1, paired_get (hp.ex (e.trans (e2.trans e3))) i x y.2⟩
/-- {x: True for x in <a list of pairs>} -/
theorem evp_true {σ : L2.St} {H : Hp} {wi : TI} {ps : List Pr} {j : Nat} (h : EvI wi σ H ps.length (YPr ps)) (nd : ps.Nodup) (hl : ps.length ≤ 64) (hw : ∀ x, wipe ((wipe σ [j]).set j (some x)) [j] = wipe σ [j])
    (hj : ∀ x, ((wipe σ [j]).set j (some x))[j]? = some (some x)) : EvP (OW.tDcT wi (gName j) tYes (tVar j) (tC (.bl true)) [j]) σ H (fun v Ha Hb => ∃ p, v = .ref p ∧ Ha p = none ∧ Hb p = some (.dT (kvT ps))) := by
  have main := evp_dcT (n := ps.length) (Y := YPr ps) (σ := σ) (H := H) (wi := wi) (g := gName j) (tt := tYes) (vs := [j]) (tk := tVar j) (tv := tC (.bl true)) (fun i => kP (ps.getD i (0, 0))) (fun _ => .bl true) (by omega) (fun i k hik hk z => by
    have e := kP_inj z
    rw [List.getD_eq_getElem?_getD, List.getD_eq_getElem?_getD, List.getElem?_eq_getElem (show k < ps.length by omega), List.getElem?_eq_getElem (show i < ps.length by omega)] at e
    exact List.pairwise_iff_getElem.mp nd i k (by omega) (by omega) hik (show ps[i] = ps[k] from e)) h (by
      rintro D i H' x H'' hi e hD hD' ⟨rfl, p, hpi, b, rfl, hb⟩ R k
      refine k _ _ (hw _) (Ex.refl _) (fun H1 e1 Q q => q H1 (Ex.refl H1)) (fun H3 e3 Q q => ?_) ev_c
      refine (ev_var (hj (.ref b))) H3 e3 Q fun H4 e4 => q _ _ e4 ⟨b, rfl, ?_⟩
      have ep : ps.getD i (0, 0) = p := by
        rw [List.getD_eq_getElem?_getD, hpi]
        rfl
      rw [ep]
      exact (e3.trans e4) _ _ hb)
  rw [kvsTo_T] at main
  exact main
theorem q_forP {K : PySem.W.Frag} {σ : L2.St} {H : Hp} {te : TE} {Pr : Rel} {tu tz : TS} {D : Ends} {g : TG} (h : EvP te σ H Pr) (hx : ∀ v H1, Ex H H1 → Pr v H H1 → ∃ a xs, v = .ref a ∧ SqL K H1 a xs ∧ ∃ Pv : Nat → L2.St → Hp → Prop, Pv 0 σ H1 ∧ (∀ i σ' H', i ≤ xs.length → Pv i σ' H' → SqL K H' a xs) ∧
    (∀ i x σ' H', xs[i]? = some x → Pv i σ' H' → g x σ' H' fun σ2 H2 => tu { D with nx := Pv (i + 1), ct := Pv (i + 1), bk := tz D } σ2 H2) ∧ ∀ σ' H', Pv xs.length σ' H' → tz D σ' H') : tSeq (tFor (iList K te) g tu) tz D σ H := s_forP (D := { D with nx := tz D }) (xs := fun _ => []) h hx
theorem s_walrusN {te : TE} {i : Nat} {tu : TS} {D : Ends} {σ : L2.St} {H : Hp} (h : Ev te σ H .non) (k : ∀ H1, Ex H H1 → D.nx (σ.set i (some .non)) H1) :
    tIfW (wCmp (fun x y H Q => y = .non ∧ Q (.bl (!decide (x = .non))) H) (wNm (wE te) i) (tC .non)) tu tNext D σ H := h H (Ex.refl H) _ fun H1 e => ⟨rfl, false, rfl, k H1 e⟩

theorem q_forG {σ : L2.St} {H : Hp} {sp : SpC} {dvs vs : List V} {t : TA} {gt : TG} {tb tz : TS} {D : Ends} (h : EvA t σ H vs) (k : ∀ H1, Ex H H1 → ∃ (U : Addr → Prop) (N : Nat) (IT : Nat → V → Hp → Prop) (Pv : Nat → L2.St → Hp → Prop), sp (vs ++ dvs) H1 U N IT ∧ (∀ b, U b → H1 b ≠ none) ∧
    (∀ H', Ex H1 H' → Pv 0 σ H') ∧ (∀ σ' H' H'', Pv N σ' H' → Grow H1 H' H'' → tz D σ' H'') ∧ ∀ i σ' H' H'' Hy x, i < N → Pv i σ' H' → Grow H1 H' H'' → IT i x Hy → Ex Hy H'' →
      gt x σ' H'' fun σ2 H2 => tb { nx := fun σ3 H3 => Pv (i + 1) σ3 H3 ∧ ExU U H'' H3, rt := fun _ _ => False, ct := fun σ3 H3 => Pv (i + 1) σ3 H3 ∧ ExU U H'' H3 } σ2 H2) : tSeq (tForG sp dvs t gt tb) tz D σ H := h H (Ex.refl H) _ k
def p_first_bar (K : PySem.W.Frag) : Pm := fun vs H Q => ∃ (t d a : Addr) (G : Grid) (m n : Nat) (p : Pr) (kd : Kd) (kvs : List (List Key × V)), vs = [.ref t, .ref d, .ref a, .str kd.s] ∧ Sh G m n ∧ TbA K H t G ∧ H d = some (.dT kvs) ∧ H a = some (.tup (pV p)) ∧ p.1 < m ∧ p.2 < n ∧ (cell G p.1 p.2).isSome = true ∧
  (∀ r c, beOf kvs r c = true → r < m → c < n → (cell G r c).isSome = true) ∧ barsOf G m n kd (beOf kvs) p = [] ∧ RetB .non H Q
theorem sc_first_bar : FnScope ["table", "behind", "pair", "kind", "bar"] ["table", "behind", "pair", "kind"] (defScope s_first_bar) := ⟨rfl, rfl, rfl, by decide +kernel, rfl, by decide +kernel, by decide +kernel⟩
include T in
theorem ok_first_bar : FnP P w K mg base 4 (He.ga K "first_bar") (p_first_bar K) := by
  obtain ⟨fd, F⟩ := T.f_first_bar
  refine okR F sc_first_bar (fun _ _ _ _ _ _ us hl => match us, hl with | [_, _, _, _], _ => rfl) (fun vs H Q h => by obtain ⟨t, d, a, G, m, n, p, kd, kvs, rfl, _⟩ := h; rfl) fun cdv A outer s H vs Q hr h => ⟨_, (by obtain ⟨fdb, FB, bb⟩ := ok_bars T (P := P) (w := w) (base := base); exact (pss_cons (ps_forGen FB (hr.mono (by decide)) (by rfl) T.g_bars (kp_bars T) bb .nil (pa_cons (pv 0) (pa_cons (pv 1) (pa_cons (pv 2) (pa_cons (pv 3) pa_nil)))) (gk_name (i := 4) sc_first_bar.nd rfl rfl) psk_never PassesOwn.never) (pss_one (ps_ret pe_non)))), ?_⟩
  obtain ⟨t, d, a, G, m, n, p, kd, kvs, rfl, sh, ht, hd, ha, h1, h2, h3, h4, h5, q⟩ := h
  have ar : EvA (tCons (tVar 0) (tCons (tVar 1) (tCons (tVar 2) (tCons (tVar 3) tNil)))) [some (.ref t), some (.ref d), some (.ref a), some (.str kd.s), none] H [.ref t, .ref d, .ref a, .str kd.s] := ea_cons (ev_var rfl) (ea_cons (ev_var rfl) (ea_cons (ev_var rfl) (ea_cons (ev_var rfl) ea_nil)))
  refine q_forG ar fun H1 e1 => ?_
  refine ⟨fun _ => False, 0, fun _ _ _ => False, fun _ σ' H' => Ex H1 H', ⟨t, d, a, G, m, n, p, kd, kvs, rfl, sh, fun _ h => h.elim, fun H2 u => ⟨ht.ex (e1.trans (exU_F u)), (e1.trans (exU_F u)) _ _ hd, (e1.trans (exU_F u)) _ _ ha⟩, id, h1, h2, h3, h4, by rw [h5]; rfl, fun i v H' b hb => by rw [h5] at hb; cases hb⟩,
    fun _ h => h.elim, fun H' e => e, fun σ' H' H'' e g => ?_, fun i _ _ _ _ _ hi => absurd hi (by omega)⟩
  exact s_ret ev_c fun H2 e2 => q H2 ((e1.trans (g.ex e)).trans e2)
include T in
theorem kp_first_bar : PySem.W.keepIn K (.ref (He.ga K "first_bar")) = true := let ⟨_, F⟩ := T.f_first_bar; F.kp
theorem u_first_bar {K : PySem.W.Frag} {H : Hp} {t d a : Addr} {G : Grid} {m n : Nat} {p : Pr} {kd : Kd} {kvs : List (List Key × V)} (sh : Sh G m n) (ht : TbA K H t G) (hd : H d = some (.dT kvs)) (ha : H a = some (.tup (pV p))) (h1 : p.1 < m) (h2 : p.2 < n) (h3 : (cell G p.1 p.2).isSome = true) (h4 : ∀ r c, beOf kvs r c = true → r < m → c < n → (cell G r c).isSome = true) (h5 : barsOf G m n kd (beOf kvs) p = []) : PmP (p_first_bar K) [.ref t, .ref d, .ref a, .str kd.s] H (Is .non) := pmp_ret fun H1 Q e q => ⟨t, d, a, G, m, n, p, kd, kvs, rfl, sh, ht.ex e, e _ _ hd, e _ _ ha, h1, h2, h3, h4, h5, q⟩
theorem okN {x qual : Str} {params : Arguments} {body : List Stmt} {scope : Scope} {f : Addr} {fd : FuncData} {N ps : List Str} {k : Nat} {p : Pm} {kws : List (Str × V)} (F : FunD K x qual params body scope [] kws f fd) (S : FnScope N ps scope)
    (len : ∀ vs H Q, p vs H Q → vs.length = ps.length)
    (hbody : ∀ (cdv : Value) (A : Around) (outer : List Env) (s : Shared) (H : Hp) (vs : List V) (Q : VK), Room k (A.deeper (envOfC qual scope s.heap.objs.size f cdv)) → p vs H Q →
      ∃ t, PSs (cx P w K mg base N qual scope f cdv A outer s H) body t ∧ t { nx := fun _ H' => Q .non H', rt := Q } (start N vs) H) : FnOk P w K mg base CX0 (k + 1) f fd ps p.sp :=
  F.ok S (fun vs H Q _ h => len vs H Q h) fun cdv A outer s H vs Q E hr h => by
    obtain ⟨t, h1, h2⟩ := hbody cdv A outer s H vs Q hr h
    exact ⟨t, PSs.nox (X := cxOf CX0 P w K mg base N qual scope f cdv A outer s H E) h1, h2⟩
theorem kbn {x qual : Str} {params : Arguments} {body : List Stmt} {scope : Scope} {f : Addr} {fd : FuncData} {ps : List Str} {kws : List (Str × V)} (F : FunD K x qual params body scope [] kws f fd) (n : Nat) (ks : List Str)
    (h : ∀ (kV doc pm : Value) (an : Option Addr) (cdv ct : Value) (us ws : List Value), us.length = n → ws.length = ks.length → bindArgs (PySem.W.fnOf x qual params body scope .none kV doc pm an cdv ct) ⟨us, ks.zip ws⟩ = pure (ps.zip (us ++ ws))) :
    KBn K fd ps n ks (fun us ws => us ++ ws) (fun vs zs => vs ++ zs) := by
  obtain ⟨oc, od, dV, kV, doc, pm, an, cdv, ct, osl, rfl, lk, hcd, hD, hK⟩ := F.ex
  rcases hD with ⟨_, rfl⟩ | ⟨e, _⟩
  · exact ⟨fun s us ws X l1 l2 => .of_eq (h kV doc pm an cdv ct us ws l1 l2), fun r1 r2 => r1.append r2⟩
  · exact absurd rfl e
theorem evp_cN {σ : L2.St} {H : Hp} {n m : Nat} {p : Pm} {t tk : TA} {vs zs : List V} {R : Rel} (h : EvA t σ H vs) (hk : EvA tk σ H zs) (h1 : vs.length = n) (h2 : zs.length = m) (hp : PmP p (vs ++ zs) H R) (hs : ∀ v H1 H2 H3, Ex H1 H2 → R v H2 H3 → R v H1 H3 := by exact fun _ _ _ _ _ h => h) :
    EvP (tCallN n m p.sp (fun vs zs => vs ++ zs) E0 t tk) σ H R := fun H1 e Q q =>
  h H1 e _ fun H2 e2 => hk H2 (e.trans e2) _ fun H3 e3 => ⟨h1, h2, hp H3 (e.trans (e2.trans e3)) Q fun v H4 e4 r => q v H4 ((e2.trans e3).trans e4) (hs v H1 H3 H4 (e2.trans e3) r)⟩

def p_first_fault (K : PySem.W.Frag) : Pm := fun vs H Q => ∃ (t o : Addr) (G : Grid) (m n : Nat) (ps : List Pr) (kd : Kd), vs = [.ref t, .ref o, .str kd.s] ∧ Sh G m n ∧ TbA K H t G ∧ OrA K H o ps ∧ ps.length = (pairsOf G m n).length ∧ (∀ p ∈ ps, p ∈ pairsOf G m n) ∧ ps.Nodup ∧
  (∀ i p, ps[i]? = some p → barsOf G m n kd (fun r c => decide ((r, c) ∈ ps.drop (i + 1))) p = []) ∧ RetB .non H Q
theorem sc_first_fault : FnScope ["table", "order", "kind", "behind", "pair", "bar"] ["table", "order", "kind"] (defScope s_first_fault) := ⟨rfl, rfl, rfl, by decide +kernel, rfl, by decide +kernel, by decide +kernel⟩
include T in
theorem ok_first_fault : ∃ fd, FnOk P w K mg base CX0 6 (He.ga K "first_fault") fd ["table", "order", "kind"] (p_first_fault K).sp ∧ PySem.W.keepIn K (.ref (He.ga K "first_fault")) = true ∧ KBn K fd ["table", "order", "kind"] 2 ["kind"] (fun us ws => us ++ ws) (fun vs zs => vs ++ zs) := by
  obtain ⟨fd, F⟩ := T.f_first_fault
  refine ⟨fd, okN F sc_first_fault (fun vs H Q h => by obtain ⟨t, o, G, m, n, ps, kd, rfl, _⟩ := h; rfl) fun cdv A outer s H vs Q hr h => ⟨_, (pss_cons (ps_expr (pe_cR (ok_check_order T) (hr.mono (by decide)) (by rfl) T.g_check_order (kp_check_order T) (pa_cons (pv 0) (pa_cons (pv 1) pa_nil)))) (pss_cons (ps_expr (pe_cR (ok_check_kind T) (hr.mono (by decide)) (by rfl) T.g_check_kind (kp_check_kind T) (pa_cons (pv 2) pa_nil))) (pss_cons (OW.ps_setDcT (i := 3) (own := [("pair", 4)]) (tt := tYes)  (hu_of hr) rfl sc_first_fault.nd rfl rfl (OW.swD rfl rfl rfl (by decide +kernel)) (pi_list (pe_m0 (pv 1) T.cl_Order T.m_Order_pairs (ok_Order_pairs T) (hr.mono (by decide)))) (blkOk_by (own := [("pair", 4)]) (N := ["table", "order", "kind", "behind", "pair", "bar"]) (sc := (defScope s_first_fault)) (by decide +kernel)) (fun _ _ _ _ _ => (pg_name (i := 4) sc_first_fault.nd rfl (.inl rfl))) (fun _ _ _ _ _ => pts_nil) (fun _ _ _ _ _ => (pv 4)) (fun _ _ _ _ _ => pe_bl)) (pss_cons (ps_for PassesOwn.never rfl (pi_list (pe_m0 (pv 1) T.cl_Order T.m_Order_pairs (ok_Order_pairs T) (hr.mono (by decide)))) (pg_name (i := 4) sc_first_fault.nd rfl (.inl rfl)) (pss_cons (OW.ps_delT (hu_of hr) (pv 3) (pv 4)) (pss_one (ps_ifW (ptw_cmp op_notN (pew_named (i := 5) sc_first_fault.nd rfl (.inl rfl) (pew_of (pe_cR (ok_first_bar T) (hr.mono (by decide)) (by rfl) T.g_first_bar (kp_first_bar T) (pa_cons (pv 0) (pa_cons (pv 3) (pa_cons (pv 4) (pa_cons (pv 2) pa_nil))))))) pe_non (nomark _)) pss_never pss_nil)))) (pss_one (ps_ret pe_non)))))), ?_⟩, F.kp, kbn F 2 ["kind"] fun kV doc pm an cdv ct us ws h1 h2 => match us, ws, h1, h2 with | [_, _], [_], _, _ => rfl⟩
  obtain ⟨t, o, G, m, n, ps, kd, rfl, sh, ht, ho, hl, hm, nd, hb, q⟩ := h
  obtain ⟨dx, L, dd, xs0, hoi, _⟩ := id ho
  have h64 := pairs_len sh
  refine q_dropP (evp_c (ea_cons (ev_var rfl) (ea_cons (ev_var rfl) ea_nil)) (u_check_order ht sh ho hl hm)) fun _ H1 e1 _ => ?_
  refine q_dropP (evp_c (ea_cons (ev_var (v := .str kd.s) rfl) ea_nil) u_check_kind) fun _ H2 e2 _ => ?_
  have e12 := e1.trans e2
  refine q_asgP (evp_true (evi_prs (evp_m0 (ev_var rfl) (e12 _ _ hoi) rfl (u_Order_pairs (ho.ex e12)) LRel.back)) nd (by omega) (fun _ => rfl) (fun _ => rfl)) fun v H3 e3 r => ?_
  obtain ⟨d, rfl, hdn, hd⟩ := r
  have e13 := e12.trans e3
  refine q_forP (evp_m0 (ev_var rfl) (e13 _ _ hoi) rfl (u_Order_pairs (ho.ex e13)) LRel.back) fun v H4 e4 r => ?_
  obtain ⟨p, ys, rfl, hpn, hp, hpl⟩ := LRel.pl r
  have hd4 := e4 _ _ hd
  have ndp : p ≠ d := ne_of hp hd4 (fun z => nomatch z)
  have hbase : Ex H (hid d H4) := (hid_of (e3.trans e4) hdn |> fun z => (e12.trans z))
  refine ⟨p, ys, rfl, sq_of hp, fun i σ' H' => (∃ z4 z5, σ' = [some (.ref t), some (.ref o), some (.str kd.s), some (.ref d), z4, z5]) ∧ Ex (hid d H4) H' ∧ H' d = some (.dT (kvT (ps.drop i))), ⟨⟨_, _, rfl⟩, hid_le, hd4⟩, fun _ _ _ _ h => sq_of (h.2.1 _ _ (by rw [hid_ne ndp]; exact hp)), ?_, ?_⟩
  · rintro i x σ' H' hx ⟨⟨z4, z5, rfl⟩, eH, hdH⟩
    obtain ⟨pr, hpr, a, rfl, ha⟩ := paired_get hpl i x hx
    have hil : i < ps.length := (List.getElem?_eq_some_iff.mp hpr).1
    have eil : ps[i] = pr := (List.getElem?_eq_some_iff.mp hpr).2
    have nda : a ≠ d := ne_of ha hd4 (fun z => nomatch z)
    have haH : H' a = some (.tup (pV pr)) := eH _ _ (by rw [hid_ne nda]; exact ha)
    rw [List.drop_eq_getElem_cons hil, eil] at hdH
    have nin : pr ∉ ps.drop (i + 1) := by
      have := List.Nodup.sublist (List.drop_sublist i ps) nd
      rw [List.drop_eq_getElem_cons hil, eil, List.nodup_cons] at this
      exact this.1
    refine ⟨_, rfl, _, rfl, d, kvT (pr :: ps.drop (i + 1)), kP pr, a, rfl, rfl, hdH, haH, by rw [kvT_get]; simp, ?_⟩
    rw [kvT_drop nin]
    have eF : Ex H (upd H' d (.dT (kvT (ps.drop (i + 1))))) := Ex.mut (hbase.trans eH) (fresh_back e12 hdn)
    obtain ⟨m1, m2, m3⟩ := mem_pairsOf.mp (hm pr (List.mem_of_getElem? hpr))
    have eqb : beOf (kvT (ps.drop (i + 1))) = fun r c => decide ((r, c) ∈ ps.drop (i + 1)) := funext fun r => funext fun c => kvT_get (r, c) _
    refine s_walrusN (ev_c' (ea_cons (ev_var rfl) (ea_cons (ev_var rfl) (ea_cons (ev_var rfl) (ea_cons (ev_var (v := .str kd.s) rfl) ea_nil)))) (u_first_bar (kvs := kvT (ps.drop (i + 1))) sh (ht.ex eF) upd_same (by rw [upd_ne nda]; exact haH) m1 m2 m3 (fun r c hb _ _ => ?_) (by rw [eqb]; exact hb i pr hpr))) fun H5 e5 => ⟨⟨_, _, rfl⟩, ?_, e5 _ _ upd_same⟩
    · rw [eqb] at hb
      exact (mem_pairsOf.mp (hm (r, c) (List.mem_of_mem_drop (of_decide_eq_true hb)))).2.2
    · exact (Ex.mut eH (by unfold hid; rw [if_pos rfl])).trans e5
  · rintro σ' H' ⟨_, eH, _⟩
    exact s_ret ev_c fun H5 e5 => q H5 ((hbase.trans eH).trans e5)
theorem u_first_fault {H : Hp} {t o : Addr} {G : Grid} {m n : Nat} {ps : List Pr} {kd : Kd} (sh : Sh G m n) (ht : TbA K H t G) (ho : OrA K H o ps) (hl : ps.length = (pairsOf G m n).length) (hm : ∀ p ∈ ps, p ∈ pairsOf G m n) (nd : ps.Nodup)
    (hb : ∀ i p, ps[i]? = some p → barsOf G m n kd (fun r c => decide ((r, c) ∈ ps.drop (i + 1))) p = []) : PmP (p_first_fault K) [.ref t, .ref o, .str kd.s] H (Is .non) := pmp_ret fun H1 Q e q => ⟨t, o, G, m, n, ps, kd, rfl, sh, ht.ex e, ho.ex e, hl, hm, nd, hb, q⟩
def p_check_right (K : PySem.W.Frag) : Pm := p_first_fault K
theorem sc_check_right : FnScope ["table", "order", "kind", "fault"] ["table", "order", "kind"] (defScope s_check_right) := ⟨rfl, rfl, rfl, by decide +kernel, rfl, by decide +kernel, by decide +kernel⟩
include T in
theorem ok_check_right : FnP P w K mg base 7 (He.ga K "check_right") (p_check_right K) := by
  obtain ⟨fd, F⟩ := T.f_check_right
  refine okR F sc_check_right (fun _ _ _ _ _ _ us hl => match us, hl with | [_, _, _], _ => rfl) (fun vs H Q h => by obtain ⟨t, o, G, m, n, ps, kd, rfl, _⟩ := h; rfl) fun cdv A outer s H vs Q hr h => ⟨_, (by obtain ⟨fdF, FF, kpF, kF⟩ := ok_first_fault T (P := P) (w := w) (base := base); exact (pss_cons (ps_set (i := 3) sc_check_right.nd rfl (.inl rfl) (pe_callN FF (hr.mono (by decide)) (by rfl) T.g_first_fault kpF kF pass0 (pa_cons (pv 0) (pa_cons (pv 1) pa_nil)) (pk_cons (pv 2) pk_nil))) (pss_one (ps_if (pt_cmpR op_notN (pv 3) pe_non (nomark _)) pss_never pss_nil)))), ?_⟩
  obtain ⟨t, o, G, m, n, ps, kd, rfl, sh, ht, ho, hl, hm, nd, hb, q⟩ := h
  refine q_asgP (evp_cN (ea_cons (ev_var rfl) (ea_cons (ev_var rfl) ea_nil)) (ea_cons (ev_var (v := .str kd.s) rfl) ea_nil) rfl rfl (u_first_fault sh ht ho hl hm nd hb)) fun v H1 e1 ev => ?_
  rw [show v = _ from ev]
  exact s_skip (et_test (ev_op (ev_var rfl) ev_c (rv_notN rfl))) fun H2 e2 => q H2 (e1.trans e2)
include T in
theorem kp_check_right : PySem.W.keepIn K (.ref (He.ga K "check_right")) = true := let ⟨_, F⟩ := T.f_check_right; F.kp
theorem u_check_right {H : Hp} {t o : Addr} {G : Grid} {m n : Nat} {ps : List Pr} {kd : Kd} (sh : Sh G m n) (ht : TbA K H t G) (ho : OrA K H o ps) (hl : ps.length = (pairsOf G m n).length) (hm : ∀ p ∈ ps, p ∈ pairsOf G m n) (nd : ps.Nodup)
    (hb : ∀ i p, ps[i]? = some p → barsOf G m n kd (fun r c => decide ((r, c) ∈ ps.drop (i + 1))) p = []) : PmP (p_check_right K) [.ref t, .ref o, .str kd.s] H (Is .non) := u_first_fault sh ht ho hl hm nd hb
end
end K50
end
section /- PR7 -/
set_option Elab.async false
set_option linter.all false
set_option maxRecDepth 100000
set_option maxHeartbeats 1000000
/-! What must be placed ahead of a pair; the masks. -/
namespace K50
open PySem PySem.Spec L2 Evl EV GF GenW
open PyProof.Rows hiding St
section
variable {P : Program} {w : World} {K : PySem.W.Frag} {mg : Str → Option Value} {base : Heap} (T : Tx K mg)
/-- a list of pairs as a value -/
def NdA (H : Hp) (v : V) (l : List Pr) : Prop := ∃ q xs, v = .ref q ∧ H q = some (.lst xs) ∧ PL H xs l
theorem NdA.ex : ∀ (H H' : Hp) (v : V) (l : List Pr), Ex H H' → NdA H v l → NdA H' v l := fun _ _ _ _ e ⟨q, xs, ev, h, hp⟩ => ⟨q, xs, ev, e _ _ h, hp.ex e⟩
def needOf (p : Pr) (b : Bar) : List Pr := match b.1 with
  | .cross => [(p.1, b.2.2), (b.2.1, p.2)]
  | _ => [(b.2.1, b.2.2)]
def beAll (G : Grid) (m n : Nat) : Nat → Nat → Bool := fun r c => decide ((r, c) ∈ pairsOf G m n)
def needsOf (G : Grid) (m n : Nat) (kd : Kd) (p : Pr) : List (List Pr) := (barsOf G m n kd (beAll G m n) p).map (needOf p)
theorem evp_l1 {σ : L2.St} {H : Hp} {te : TE} {p : Pr} (h : EvU te σ H (pV p)) : EvP (tLst (tCons te tNil)) σ H fun v Ha Hb => ∃ q xs, v = .ref q ∧ Ha q = none ∧ Hb q = some (.lst xs) ∧ PL Hb xs [p] := fun H1 e Q q =>
  h H1 e _ fun u H2 hn e2 hu => ⟨by show 1 ≤ sizeLine; decide, fun a hp => q _ _ (e2.trans (Ex.new hp)) ⟨a, _, rfl, fresh_back e2 hp, upd_same, .cons ⟨u, rfl, (Ex.new hp) _ _ hu⟩ .nil⟩⟩
theorem evp_l2 {σ : L2.St} {H : Hp} {te te' : TE} {p p' : Pr} (h : EvU te σ H (pV p)) (h' : EvU te' σ H (pV p')) : EvP (tLst (tCons te (tCons te' tNil))) σ H fun v Ha Hb => ∃ q xs, v = .ref q ∧ Ha q = none ∧ Hb q = some (.lst xs) ∧ PL Hb xs [p, p'] := fun H1 e Q q =>
  h H1 e _ fun u H2 hn e2 hu => h' H2 (e.trans e2) _ fun u' H3 hn' e3 hu' =>
    ⟨by show 2 ≤ sizeLine; decide, fun a hp => q _ _ ((e2.trans e3).trans (Ex.new hp)) ⟨a, _, rfl, fresh_back (e2.trans e3) hp, upd_same, .cons ⟨u, rfl, (e3.trans (Ex.new hp)) _ _ hu⟩ (.cons ⟨u', rfl, (Ex.new hp) _ _ hu'⟩ .nil)⟩⟩
theorem evu_2 {σ : L2.St} {H : Hp} {x y a b : Nat} (hx : σ[x]? = some (some (.int (a : Int)))) (hy : σ[y]? = some (some (.int (b : Int)))) : EvU (tTup (tCons (tVar x) (tCons (tVar y) tNil))) σ H (pV (a, b)) := eu_tup (ea_cons (ev_var hx) (ea_cons (ev_var hy) ea_nil)) (by show 2 ≤ 100000; decide)
theorem s_appk {σ : L2.St} {H : Hp} {to te : TE} {l : Addr} {xs : List V} {R : Rel} {D : Ends} (hl : H l = some (.lst xs)) (ho : Ev to σ H (.ref l)) (h : EvP te σ H R) (hz : xs.length < 100000) (k : ∀ v Ha Hb, Ex H Ha → Ex Ha Hb → R v Ha Hb → D.nx σ (upd Hb l (.lst (xs ++ [v])))) : tDrop (tAppk to te) D σ H :=
  ho H (Ex.refl H) _ fun H1 e1 => ⟨⟨l, xs, rfl, e1 _ _ hl⟩, h H1 e1 _ fun v H2 e2 r => ⟨l, xs, rfl, (e1.trans e2) _ _ hl, sz_lt hz, k v H1 H2 e1 e2 r⟩⟩
theorem BarA.ex {p : Pr} {H H' : Hp} {v : V} {b : Bar} (h : BarA p H v b) (e : Ex H H') : BarA p H' v b := let ⟨x, y, z, ev, h1, h2, h3⟩ := h; ⟨x, y, z, ev, e _ _ h1, e _ _ h2, e _ _ h3⟩
theorem barsOf_len (G : Grid) (m n : Nat) (kd : Kd) (be : Nat → Nat → Bool) (p : Pr) (hm : m ≤ 8) (hn : n ≤ 8) : (barsOf G m n kd be p).length ≤ 80 := by
  have hs : (stocksOf m p.1 p.2 be).length ≤ 8 := by
    have := List.length_filter_le (fun r => !decide (r = p.1) && be r p.2) (List.range m)
    rw [List.length_range] at this
    exact Nat.le_trans this hm
  have hw : (wishesOf n p.1 p.2 be).length ≤ 8 := by
    have := List.length_filter_le (fun s => !decide (s = p.2) && be p.1 s) (List.range n)
    rw [List.length_range] at this
    exact Nat.le_trans this hn
  have hc : ∀ r, (crossOf G n p.1 p.2 be r).length ≤ 8 := fun r => by
    unfold crossOf
    rw [List.length_map]
    exact Nat.le_trans (List.length_filter_le _ _) hw
  have hf : ∀ l : List Nat, (l.flatMap (crossOf G n p.1 p.2 be)).length ≤ l.length * 8 := fun l => by
    induction l with
    | nil => simp
    | cons a l ih =>
      rw [List.flatMap_cons, List.length_append, List.length_cons, Nat.succ_mul]
      have := hc a
      omega
  have h1 := hf (stocksOf m p.1 p.2 be)
  have h2 : (colOf G m p.1 p.2 kd be).length ≤ 8 := by
    unfold colOf
    split
    · rw [List.length_map]
      exact Nat.le_trans (List.length_filter_le _ _) hs
    · exact Nat.zero_le _
  have h3 : (rowOf G n p.1 p.2 kd be).length ≤ 8 := by
    unfold rowOf
    split
    · rw [List.length_map]
      exact Nat.le_trans (List.length_filter_le _ _) hw
    · exact Nat.zero_le _
  unfold barsOf
  rw [List.length_append, List.length_append]
  omega
theorem pairs_nodup {G : Grid} {m n : Nat} : (pairsOf G m n).Nodup := by
  unfold pairsOf
  have aux : ∀ l : List Nat, l.Nodup → (l.flatMap fun i => (List.range n).filterMap fun j => if (cell G i j).isSome then some ((i, j) : Pr) else none).Nodup := fun l => by
    induction l with
    | nil => intro _; exact List.nodup_nil
    | cons a l ih =>
      intro h
      rw [List.nodup_cons] at h
      rw [List.flatMap_cons, List.nodup_append]
      refine ⟨?_, ih h.2, ?_⟩
      · refine List.Pairwise.filterMap _ (R := fun a b => a ≠ b) ?_ List.nodup_range
        intro x y hxy b hb c hc z
        by_cases q : (cell G a x).isSome = true
        · by_cases q2 : (cell G a y).isSome = true
          · rw [if_pos q] at hb
            rw [if_pos q2] at hc
            have e1 := Option.some.inj hb
            have e2 := Option.some.inj hc
            rw [← e1, ← e2] at z
            exact hxy (congrArg Prod.snd z)
          · rw [if_neg q2] at hc
            cases hc
        · rw [if_neg q] at hb
          cases hb
      · intro x hx y hy z
        subst z
        obtain ⟨j, _, hj⟩ := List.mem_filterMap.mp hx
        obtain ⟨i, hi, hy2⟩ := List.mem_flatMap.mp hy
        obtain ⟨j2, _, hj2⟩ := List.mem_filterMap.mp hy2
        have e1 : x.1 = a := by
          by_cases q : (cell G a j).isSome = true
          · rw [if_pos q] at hj
            rw [← Option.some.inj hj]
          · rw [if_neg q] at hj
            cases hj
        have e2 : x.1 = i := by
          by_cases q : (cell G i j2).isSome = true
          · rw [if_pos q] at hj2
            rw [← Option.some.inj hj2]
          · rw [if_neg q] at hj2
            cases hj2
        exact h.1 (by rw [← e1, e2]; exact hi)
  exact aux _ List.nodup_range

def p_needs_of (K : PySem.W.Frag) : Pm := fun vs H Q => ∃ (t a : Addr) (G : Grid) (m n : Nat) (p : Pr) (kd : Kd), vs = [.ref t, .ref a, .str kd.s] ∧ Sh G m n ∧ TbA K H t G ∧ H a = some (.tup (pV p)) ∧ p ∈ pairsOf G m n ∧ ∀ v H', Ex H H' → LRel NdA (needsOf G m n kd p) v H H' → Q v H'
theorem sc_needs_of : FnScope ["table", "pair", "kind", "i", "j", "every", "needs", "word", "own", "r", "s", "other"] ["table", "pair", "kind"] (defScope s_needs_of) := ⟨rfl, rfl, rfl, by decide +kernel, rfl, by decide +kernel, by decide +kernel⟩
include T in
theorem ok_needs_of : FnP P w K mg base 4 (He.ga K "needs_of") (p_needs_of K) := by
  obtain ⟨fd, F⟩ := T.f_needs_of
  refine okR F sc_needs_of (fun _ _ _ _ _ _ us hl => match us, hl with | [_, _, _], _ => rfl) (fun vs H Q h => by obtain ⟨t, a, G, m, n, p, kd, rfl, _⟩ := h; rfl) fun cdv A outer s H vs Q hr h => ⟨_, (by obtain ⟨fdb, FB, bb⟩ := ok_bars T (P := P) (w := w) (base := base); exact (pss_cons (ps_asg (pv 1) (pg_tup rfl (pgs_cons (pg_name (i := 3) sc_needs_of.nd rfl (.inl rfl)) (pgs_cons (pg_name (i := 4) sc_needs_of.nd rfl (.inl rfl)) pgs_nil)))) (pss_cons (OW.ps_setDcT (i := 5) (own := [("other", 11)]) (tt := tYes)  (hu_of hr) rfl sc_needs_of.nd rfl rfl (OW.swD rfl rfl rfl (by decide +kernel)) (pi_list (pe_m0 (pv 0) T.cl_Table T.m_Table_pairs (ok_Table_pairs T) (hr.mono (by decide)))) (blkOk_by (own := [("other", 11)]) (N := ["table", "pair", "kind", "i", "j", "every", "needs", "word", "own", "r", "s", "other"]) (sc := (defScope s_needs_of)) (by decide +kernel)) (fun _ _ _ _ _ => (pg_name (i := 11) sc_needs_of.nd rfl (.inl rfl))) (fun _ _ _ _ _ => pts_nil) (fun _ _ _ _ _ => (pv 11)) (fun _ _ _ _ _ => pe_bl)) (pss_cons (ps_set (i := 6) sc_needs_of.nd rfl (.inl rfl) (pe_lst pa_nil)) (pss_cons (ps_forGen FB (hr.mono (by decide)) (by rfl) T.g_bars (kp_bars T) bb .nil (pa_cons (pv 0) (pa_cons (pv 5) (pa_cons (pv 1) (pa_cons (pv 2) pa_nil)))) (gk_tup rfl (gsk_cons (gk_name (i := 7) sc_needs_of.nd rfl rfl) (gsk_cons (gk_name (i := 8) sc_needs_of.nd rfl rfl) (gsk_cons (gk_tup rfl (gsk_cons (gk_name (i := 9) sc_needs_of.nd rfl rfl) (gsk_cons (gk_name (i := 10) sc_needs_of.nd rfl rfl) gsk_nil))) gsk_nil)))) (ssk_one (sk_if (eqk (vk 7) strk (nomark _)) (ssk_one (sk_expr (appk (vk 6) (lstk (ak_cons (tupk (ak_cons (vk 3) (ak_cons (vk 10) ak_nil))) (ak_cons (tupk (ak_cons (vk 9) (ak_cons (vk 4) ak_nil))) ak_nil)))))) (ssk_one (sk_expr (appk (vk 6) (lstk (ak_cons (tupk (ak_cons (vk 9) (ak_cons (vk 10) ak_nil))) ak_nil))))))) PassesOwn.never) (pss_one (ps_ret (pv 6)))))))), ?_⟩
  obtain ⟨t, a, G, m, n, p, kd, rfl, sh, ht, ha, hpm, q⟩ := h
  obtain ⟨i, j⟩ := p
  obtain ⟨m1, m2, m3⟩ := mem_pairsOf.mp hpm
  obtain ⟨dx, g0, hti, _⟩ := id ht
  have h64 := pairs_len sh
  refine ⟨_, rfl, g_tup2 ha ?_⟩
  refine q_asgP (evp_true (evi_prs (evp_m0 (ev_var rfl) hti rfl (u_Table_pairs ht sh) LRel.back)) pairs_nodup h64 (fun _ => rfl) (fun _ => rfl)) fun v H1 e1 r => ?_
  obtain ⟨d, rfl, hdn, hd⟩ := r
  refine q_asgL (el_lst ea_nil (by show 0 ≤ 100000; decide)) fun N0 H2 hn0 e2 hl2 => ?_
  have hNH : H N0 = none := fresh_back e1 hn0
  have ar : EvA (tCons (tVar 0) (tCons (tVar 5) (tCons (tVar 1) (tCons (tVar 2) tNil)))) [some (.ref t), some (.ref a), some (.str kd.s), some (.int (i : Int)), some (.int (j : Int)), some (.ref d), some (.ref N0), none, none, none, none, none] H2 [.ref t, .ref d, .ref a, .str kd.s] := ea_cons (ev_var rfl) (ea_cons (ev_var rfl) (ea_cons (ev_var rfl) (ea_cons (ev_var rfl) ea_nil)))
  refine q_forG ar fun H3 e3 => ?_
  have e13 : Ex H1 H3 := e2.trans e3
  have hl3 := e3 _ _ hl2
  have ebe : beOf (kvT (pairsOf G m n)) = beAll G m n := funext fun r => funext fun c => kvT_get (r, c) _
  let B := barsOf G m n kd (beAll G m n) (i, j)
  have eB : barsOf G m n kd (beOf (kvT (pairsOf G m n))) (i, j) = B := by rw [ebe]
  have lB : B.length ≤ 80 := barsOf_len G m n kd _ _ sh.m8 sh.n8
  have hex : ∀ {H' : Hp}, Ex (hid N0 H3) H' → Ex H H' := fun e => ((hid_of (e1.trans e13) hNH).trans e)
  refine ⟨fun b => b = N0, B.length, fun k v H' => ∃ b, B[k]? = some b ∧ BarA (i, j) H' v b,
    fun k σ' H' => (∃ z1 z2 z3 z4 z5, σ' = [some (.ref t), some (.ref a), some (.str kd.s), some (.int (i : Int)), some (.int (j : Int)), some (.ref d), some (.ref N0), z1, z2, z3, z4, z5]) ∧ Ex (hid N0 H3) H' ∧ ∃ ys, H' N0 = some (.lst ys) ∧ Paired (NdA (hid N0 H')) ys ((B.take k).map (needOf (i, j))),
    ⟨t, d, a, G, m, n, (i, j), kd, kvT (pairsOf G m n), rfl, sh, fun b hb => (by have hb : b = N0 := hb; rw [hb, hl3]; intro z; cases z), fun H4 u => ?_, fun z => ?_, m1, m2, m3, fun r c hb _ _ => ?_, by rw [eB], fun k v H' b hb hB => ⟨b, by rw [← eB]; exact hb, hB⟩⟩, fun b hb => (by have hb : b = N0 := hb; rw [hb, hl3]; intro z; cases z), fun H' e => ⟨⟨_, _, _, _, _, rfl⟩, hid_le.trans e, [], e _ _ hl3, .nil⟩, fun σ' H' H'' pw g => ?_, fun k σ' H' H'' Hy x hk pw g it ey => ?_⟩
  · have e14 : Ex H1 H4 := exU_q e13 hn0 u
    exact ⟨ht.ex (e1.trans e14), e14 _ _ hd, e14 _ _ (e1 _ _ ha)⟩
  · have z : a = N0 := z
    rw [z, hNH] at ha
    cases ha
  · rw [ebe] at hb
    exact (mem_pairsOf.mp (of_decide_eq_true hb)).2.2
  · obtain ⟨⟨z1, z2, z3, z4, z5, rfl⟩, eH, ys, hys, hpy⟩ := pw
    have eH2 : Ex (hid N0 H3) H'' := fun b o hb => g b o (eH b o hb) (.inl (by
      have := hid_le _ _ hb
      rw [this]
      intro z
      cases z))
    have hys2 : H'' N0 = some (.lst ys) := g _ _ hys (.inr fun φ z => by cases z)
    rw [List.take_length] at hpy
    refine s_ret (ev_var rfl) fun H5 e5 => q _ H5 ((hex eH2).trans e5) ⟨N0, ys, rfl, hNH, e5 _ _ hys2, ?_⟩
    refine paired_mono hpy fun v l h => NdA.ex _ _ _ _ (hid_ex e5) ?_
    obtain ⟨q', xs, ev, hq, hpl⟩ := h
    have grow : ∀ b o, hid N0 H' b = some o → (∀ φ, o ≠ .ext φ) → hid N0 H'' b = some o := fun b o hb hne => by
      have nb : b ≠ N0 := by
        rintro rfl
        unfold hid at hb
        rw [if_pos rfl] at hb
        cases hb
      rw [hid_ne nb] at hb ⊢
      exact g b o hb (.inr hne)
    exact ⟨q', xs, ev, grow _ _ hq (fun φ z => by cases z), paired_mono hpl fun v pp ⟨u, eu, hu⟩ => ⟨u, eu, grow _ _ hu (fun φ z => by cases z)⟩⟩
  · obtain ⟨⟨z1, z2, z3, z4, z5, rfl⟩, eH, ys, hys, hpy⟩ := pw
    obtain ⟨b, hbk, hb⟩ := it
    obtain ⟨u, y, z, rfl, hu, hy, hz⟩ := hb.ex ey
    have eH2 : Ex (hid N0 H3) H'' := fun b o hb => g b o (eH b o hb) (.inl (by
      have := hid_le _ _ hb
      rw [this]
      intro z
      cases z))
    have hys2 : H'' N0 = some (.lst ys) := g _ _ hys (.inr fun φ z => by cases z)
    have grow : ∀ b o, hid N0 H' b = some o → (∀ φ, o ≠ .ext φ) → hid N0 H'' b = some o := fun b o hb hne => by
      have nb : b ≠ N0 := by
        rintro rfl
        unfold hid at hb
        rw [if_pos rfl] at hb
        cases hb
      rw [hid_ne nb] at hb ⊢
      exact g b o hb (.inr hne)
    have hpy2 : Paired (NdA (hid N0 H'')) ys ((B.take k).map (needOf (i, j))) := paired_mono hpy fun v l ⟨q', xs, ev, hq, hpl⟩ => ⟨q', xs, ev, grow _ _ hq (fun φ z => by cases z), paired_mono hpl fun v pp ⟨u, eu, hu⟩ => ⟨u, eu, grow _ _ hu (fun φ z => by cases z)⟩⟩
    have lys : ys.length < 100000 := by
      rw [hpy.length, List.length_map, List.length_take]
      omega
    have etk : (B.take (k + 1)).map (needOf (i, j)) = (B.take k).map (needOf (i, j)) ++ [needOf (i, j) b] := by
      rw [List.take_succ_eq_append_getElem hk, List.map_append]
      have : B[k] = b := (List.getElem?_eq_some_iff.mp hbk).2
      rw [this]
      rfl
    -- what follows an append
    have fin : ∀ (v : V) (Ha Hb : Hp) (σ' : L2.St), Ex H'' Ha → Ex Ha Hb → (∃ q xs, v = .ref q ∧ Ha q = none ∧ Hb q = some (.lst xs) ∧ PL Hb xs (needOf (i, j) b)) → (∃ z1 z2 z3 z4 z5, σ' = [some (.ref t), some (.ref a), some (.str kd.s), some (.int (i : Int)), some (.int (j : Int)), some (.ref d), some (.ref N0), z1, z2, z3, z4, z5]) →
        ((∃ z1 z2 z3 z4 z5, σ' = [some (.ref t), some (.ref a), some (.str kd.s), some (.int (i : Int)), some (.int (j : Int)), some (.ref d), some (.ref N0), z1, z2, z3, z4, z5]) ∧ Ex (hid N0 H3) (upd Hb N0 (.lst (ys ++ [v]))) ∧ ∃ ys', upd Hb N0 (.lst (ys ++ [v])) N0 = some (.lst ys') ∧ Paired (NdA (hid N0 (upd Hb N0 (.lst (ys ++ [v]))))) ys' ((B.take (k + 1)).map (needOf (i, j)))) ∧
        ExU (fun b => b = N0) H'' (upd Hb N0 (.lst (ys ++ [v]))) := fun v Ha Hb σ' ea eb r hσ => by
      obtain ⟨q', xs, rfl, hqn, hq, hpl⟩ := r
      have nq : q' ≠ N0 := by
        rintro rfl
        rw [ea _ _ hys2] at hqn
        cases hqn
      refine ⟨⟨hσ, Ex.mut (eH2.trans (ea.trans eb)) (by unfold hid; rw [if_pos rfl]), ys ++ [.ref q'], upd_same, ?_⟩, fun b o hb => ⟨fun nb => by rw [upd_ne nb]; exact (ea.trans eb) _ _ hb, ?_⟩⟩
      · rw [etk, hid_upd]
        refine (paired_mono hpy2 fun v l h => NdA.ex _ _ _ _ (hid_ex (ea.trans eb)) h).snoc ⟨q', xs, rfl, by rw [hid_ne nq]; exact hq, PL.hid (eb _ _ (ea _ _ hys2)) hpl⟩
      · by_cases nb : b = N0
        · rw [nb, upd_same]
          intro z
          cases z
        · rw [upd_ne nb, (ea.trans eb) _ _ hb]
          intro z
          cases z
    refine ⟨u, _, rfl, st_of hu, rfl, _, _, rfl, _, _, rfl, _, _, rfl, z, _, rfl, st_of hz, rfl, _, _, rfl, _, _, rfl, rfl, rfl, ?_⟩
    refine ⟨_, rfl, b.1.s, _, rfl, rfl, ?_⟩
    obtain ⟨wd, r, s⟩ := b
    cases wd with
    | cross => exact s_appk hys2 (ev_var rfl) (evp_l2 (evu_2 rfl rfl) (evu_2 rfl rfl)) lys fun v Ha Hb ea eb rr => fin v Ha Hb _ ea eb rr ⟨_, _, _, _, _, rfl⟩
    | column => exact s_appk hys2 (ev_var rfl) (evp_l1 (evu_2 rfl rfl)) lys fun v Ha Hb ea eb rr => fin v Ha Hb _ ea eb rr ⟨_, _, _, _, _, rfl⟩
    | row => exact s_appk hys2 (ev_var rfl) (evp_l1 (evu_2 rfl rfl)) lys fun v Ha Hb ea eb rr => fin v Ha Hb _ ea eb rr ⟨_, _, _, _, _, rfl⟩
include T in
theorem kp_needs_of : PySem.W.keepIn K (.ref (He.ga K "needs_of")) = true := let ⟨_, F⟩ := T.f_needs_of; F.kp
theorem u_needs_of {K : PySem.W.Frag} {H : Hp} {t a : Addr} {G : Grid} {m n : Nat} {p : Pr} {kd : Kd} (sh : Sh G m n) (ht : TbA K H t G) (ha : H a = some (.tup (pV p))) (hp : p ∈ pairsOf G m n) : PmP (p_needs_of K) [.ref t, .ref a, .str kd.s] H (LRel NdA (needsOf G m n kd p)) := fun H1 e Q q => ⟨t, a, G, m, n, p, kd, rfl, sh, ht.ex e, e _ _ ha, hp, fun v H2 e2 r => q v H2 e2 r⟩
end
end K50
end
section /- PR8 -/
set_option Elab.async false
set_option linter.all false
set_option maxRecDepth 100000
set_option maxHeartbeats 1000000
/-! The masks, the open numbers, the ways to the end. -/
namespace K50
open PySem PySem.Spec L2 Evl EV GF GenW
open PyProof.Rows hiding St
section
variable {P : Program} {w : World} {K : PySem.W.Frag} {mg : Str → Option Value} {base : Heap} (T : Tx K mg)
def MkA (H : Hp) (v : V) (ms : List Nat) : Prop := ∃ q, v = .ref q ∧ H q = some (.lst (ms.map iV))
theorem MkA.ex : ∀ (H H' : Hp) (v : V) (ms : List Nat), Ex H H' → MkA H v ms → MkA H' v ms := fun _ _ _ _ e ⟨q, ev, h⟩ => ⟨q, ev, e _ _ h⟩
def MsA (H : Hp) (M : Addr) (ms : List (List Nat)) : Prop := ∃ ys, H M = some (.lst ys) ∧ Paired (MkA H) ys ms
theorem MsA.ex {H H' : Hp} {M : Addr} {ms : List (List Nat)} (h : MsA H M ms) (e : Ex H H') : MsA H' M ms := let ⟨ys, h1, h2⟩ := h; ⟨ys, e _ _ h1, paired_mono h2 fun v m => MkA.ex _ _ _ _ e⟩
def maskOf (ps : List Pr) (need : List Pr) : Nat := (need.map fun q => 2 ^ ps.idxOf q).sum
def masksOf (G : Grid) (m n : Nat) (kd : Kd) : List (List Nat) := (pairsOf G m n).map fun p => (needsOf G m n kd p).map (maskOf (pairsOf G m n))
def kvN : Nat → List Pr → List (List Key × V)
  | _, [] => []
  | o, p :: ps => (kP p, V.int (o : Int)) :: kvN (o + 1) ps
theorem kvN_at : ∀ (ps : List Pr) (o i : Nat), (kvN o ps)[i]? = (ps[i]?).map fun p => (kP p, V.int ((o + i : Nat) : Int))
  | [], o, i => by simp [kvN]
  | p :: ps, o, 0 => by simp [kvN]
  | p :: ps, o, i + 1 => by
    show (kvN (o + 1) ps)[i]? = _
    rw [kvN_at ps (o + 1) i]
    show _ = (ps[i]?).map _
    rw [show o + 1 + i = o + (i + 1) by omega]
theorem kvN_get {q : Pr} : ∀ (ps : List Pr) (o : Nat), q ∈ ps → valV (kvN o ps) (kP q) = some (.int ((o + ps.idxOf q : Nat) : Int))
  | [], _, h => by cases h
  | p :: ps, o, h => by
    by_cases e : p = q
    · subst e
      show valV ((kP p, V.int (o : Int)) :: _) _ = _
      rw [valV_pos rfl, List.idxOf_cons_self]
      rfl
    · have n : ¬ kP p = kP q := fun z => e (kP_inj z)
      have hm : q ∈ ps := by
        rcases List.mem_cons.mp h with z | z
        · exact absurd z.symm e
        · exact z
      show valV ((kP p, V.int (o : Int)) :: _) _ = _
      have ei : (p :: ps).idxOf q = ps.idxOf q + 1 := by
        have b : (p == q) = false := beq_eq_false_iff_ne.mpr e
        rw [List.idxOf_cons, b]
        rfl
      rw [valV_neg n, kvN_get ps (o + 1) hm, ei]
      rw [show o + 1 + ps.idxOf q = o + (ps.idxOf q + 1) by omega]
theorem kvsTo_N (ps : List Pr) : kvsTo (fun i => kP (ps.getD i (0, 0))) (fun i => V.int (i : Int)) ps.length = kvN 0 ps := by
  apply List.ext_getElem?
  intro i
  rw [kvN_at]
  unfold kvsTo
  rw [List.getElem?_map]
  by_cases h : i < ps.length
  · simp [h, List.getD]
  · simp [h]
theorem sum_cast : ∀ l : List Nat, ((l.map fun n : Nat => (n : Int)).sum : Int) = ((l.sum : Nat) : Int)
  | [] => rfl
  | a :: l => by
    rw [List.map_cons, List.sum_cons, List.sum_cons, sum_cast l]
    push_cast
    rfl
theorem map_iV (l : List Nat) : l.map iV = (l.map fun n : Nat => (n : Int)).map V.int := by
  rw [List.map_map]
  rfl
theorem ev_sumP {te : TE} {σ : L2.St} {H : Hp} {ns : List Nat} (h : EvP te σ H (LRel (fun _ v n => v = iV n) ns)) : Ev (tCB (rSum K) (tCons te tNil)) σ H (.int ((ns.sum : Nat) : Int)) := fun H1 e Q q =>
  h H1 e _ fun v H2 e2 r => by
    obtain ⟨p, xs, rfl, hn, hp, hr⟩ := r
    rw [paired_iV hr, map_iV] at hp
    refine ⟨p, _, rfl, sq_of hp, ?_⟩
    rw [sum_cast]
    exact q H2 e2
theorem idx_lt {ps : List Pr} {q : Pr} (h : q ∈ ps) : ps.idxOf q < ps.length := List.idxOf_lt_length_of_mem h
theorem needs_mem {G : Grid} {m n : Nat} {kd : Kd} {p : Pr} (sh : Sh G m n) (hp : p ∈ pairsOf G m n) {nd : List Pr} (h : nd ∈ needsOf G m n kd p) : nd.length ≤ 2 ∧ ∀ q ∈ nd, q ∈ pairsOf G m n := by
  obtain ⟨m1, m2, m3⟩ := mem_pairsOf.mp hp
  unfold needsOf at h
  obtain ⟨b, hb, rfl⟩ := List.mem_map.mp h
  unfold barsOf at hb
  have hs : ∀ r, r ∈ stocksOf m p.1 p.2 (beAll G m n) → (r, p.2) ∈ pairsOf G m n := fun r hr => of_decide_eq_true (mem_stocks hr).2
  have hw : ∀ s, s ∈ wishesOf n p.1 p.2 (beAll G m n) → (p.1, s) ∈ pairsOf G m n := fun s hr => of_decide_eq_true (mem_wishes hr).2
  rcases List.mem_append.mp hb with hb | hb
  · obtain ⟨r, hr, hb⟩ := List.mem_flatMap.mp hb
    unfold crossOf at hb
    obtain ⟨s, hs2, rfl⟩ := List.mem_map.mp hb
    refine ⟨Nat.le_refl _, fun q hq => ?_⟩
    have hq : q ∈ [(p.1, s), (r, p.2)] := hq
    rcases List.mem_cons.mp hq with e | hq
    · rw [e]; exact hw s (List.mem_filter.mp hs2).1
    · rw [List.mem_singleton.mp hq]; exact hs r hr
  · rcases List.mem_append.mp hb with hb | hb
    · unfold colOf at hb
      split at hb
      · obtain ⟨r, hr, rfl⟩ := List.mem_map.mp hb
        refine ⟨by show 1 ≤ 2; decide, fun q hq => ?_⟩
        have hq : q ∈ [(r, p.2)] := hq
        rw [List.mem_singleton.mp hq]
        exact hs r (List.mem_filter.mp hr).1
      · cases hb
    · unfold rowOf at hb
      split at hb
      · obtain ⟨s, hs2, rfl⟩ := List.mem_map.mp hb
        refine ⟨by show 1 ≤ 2; decide, fun q hq => ?_⟩
        have hq : q ∈ [(p.1, s)] := hq
        rw [List.mem_singleton.mp hq]
        exact hw s (List.mem_filter.mp hs2).1
      · cases hb
theorem take_map_succ {α β : Type} (f : α → β) (l : List α) {i : Nat} {a : α} (h : l[i]? = some a) : (l.take (i + 1)).map f = (l.take i).map f ++ [f a] := by
  have hi := (List.getElem?_eq_some_iff.mp h).1
  rw [List.take_succ_eq_append_getElem hi, List.map_append, (List.getElem?_eq_some_iff.mp h).2]
  rfl

theorem needs_ne {G : Grid} {m n : Nat} {kd : Kd} {p : Pr} (sh : Sh G m n) (hp : p ∈ pairsOf G m n) {nd : List Pr} (h : nd ∈ needsOf G m n kd p) : nd ≠ [] := by
  unfold needsOf at h
  obtain ⟨b, hb, rfl⟩ := List.mem_map.mp h
  obtain ⟨wd, r, s⟩ := b
  cases wd <;> (intro z; cases z)

def p_bar_masks (K : PySem.W.Frag) : Pm := fun vs H Q => ∃ (t : Addr) (G : Grid) (m n : Nat) (kd : Kd), vs = [.ref t, .str kd.s] ∧ Sh G m n ∧ TbA K H t G ∧ ∀ M H', Ex H H' → H M = none → MsA H' M (masksOf G m n kd) → Q (.ref M) H'
theorem sc_bar_masks : FnScope ["table", "kind", "pairs", "numbers", "masks", "pair", "own", "need", "number", "other"] ["table", "kind"] (defScope s_bar_masks) := ⟨rfl, rfl, rfl, by decide +kernel, rfl, by decide +kernel, by decide +kernel⟩
include T in
theorem ok_bar_masks : FnP P w K mg base 5 (He.ga K "bar_masks") (p_bar_masks K) := by
  obtain ⟨fd, F⟩ := T.f_bar_masks
  refine okR F sc_bar_masks (fun _ _ _ _ _ _ us hl => match us, hl with | [_, _], _ => rfl) (fun vs H Q h => by obtain ⟨t, G, m, n, kd, rfl, _⟩ := h; rfl) fun cdv A outer s H vs Q hr h => ⟨_, (pss_cons (ps_set (i := 2) sc_bar_masks.nd rfl (.inl rfl) (pe_m0 (pv 0) T.cl_Table T.m_Table_pairs (ok_Table_pairs T) (hr.mono (by decide)))) (pss_cons (ps_set (i := 3) sc_bar_masks.nd rfl (.inr rfl) (OW.pe_dcT (own := [("number", 8), ("pair", 5)]) (g := gTup K 2 (gCons (gName 8) (gCons (gName 5) gNil))) (tt := tYes) (hu_of hr) rfl sc_bar_masks.nd (pi_enum (by rfl) T.n_enumerate (pa_cons (pv 2) pa_nil)) (blkOk_by (own := [("number", 8), ("pair", 5)]) (N := ["table", "kind", "pairs", "numbers", "masks", "pair", "own", "need", "number", "other"]) (sc := (defScope s_bar_masks)) (by decide +kernel)) (fun _ _ _ _ _ => (pg_tup rfl (pgs_cons (pg_name (i := 8) sc_bar_masks.nd rfl (.inl rfl)) (pgs_cons (pg_name (i := 5) sc_bar_masks.nd rfl (.inl rfl)) pgs_nil)))) (fun _ _ _ _ _ => pts_nil) (fun _ _ _ _ _ => (pv 5)) (fun _ _ _ _ _ => (pv 8)))) (pss_cons (ps_set (i := 4) sc_bar_masks.nd rfl (.inl rfl) (pe_lst pa_nil)) (pss_cons (ps_for PassesOwn.never rfl (pi_list (pv 2)) (pg_name (i := 5) sc_bar_masks.nd rfl (.inl rfl)) (pss_cons (ps_set (i := 6) sc_bar_masks.nd rfl (.inl rfl) (pe_lst pa_nil)) (pss_cons (ps_for PassesOwn.never rfl (pi_list (pe_cR (ok_needs_of T) (hr.mono (by decide)) (by rfl) T.g_needs_of (kp_needs_of T) (pa_cons (pv 0) (pa_cons (pv 5) (pa_cons (pv 1) pa_nil))))) (pg_name (i := 7) sc_bar_masks.nd rfl (.inl rfl)) (pss_one (ps_expr (pe_bm PySem.F.plainAttrs_list PySem.F.slot_list_append PySem.F.type_list_append mt_append (pv 6) (pa_cons (pe_callB (cr_sum rfl) (by rfl) T.n_sum PyProof.Rows.boot_sum (pa_cons (pe_lc (own := [("other", 9)]) (tt := tYes) rfl sc_bar_masks.nd (pi_list (pv 7)) (blkOk_by (own := [("other", 9)]) (N := ["table", "kind", "pairs", "numbers", "masks", "pair", "own", "need", "number", "other"]) (sc := (defScope s_bar_masks)) (by decide +kernel)) (fun _ _ _ _ _ => (pg_name (i := 9) sc_bar_masks.nd rfl (.inl rfl))) (fun _ _ _ _ _ => pts_nil) (fun _ _ _ _ _ => (pe_cR (ok_bit_of T) (hr.mono (by decide)) (by rfl) T.g_bit_of (kp_bit_of T) (pa_cons (pe_dget (hu_of hr) (pv 3) (pv 9) (fun _ _ => rfl)) pa_nil)))) pa_nil)) pa_nil))))) (pss_one (ps_expr (pe_bm PySem.F.plainAttrs_list PySem.F.slot_list_append PySem.F.type_list_append mt_append (pv 4) (pa_cons (pv 6) pa_nil))))))) (pss_one (ps_ret (pv 4))))))), ?_⟩
  obtain ⟨t, G, m, n, kd, rfl, sh, ht, q⟩ := h
  obtain ⟨dx, g0, hti, _⟩ := id ht
  have h64 := pairs_len sh
  refine q_asgP (evp_m0 (ev_var rfl) hti rfl (u_Table_pairs ht sh) LRel.back) fun v H1 e1 r => ?_
  obtain ⟨pa, xs, rfl, hpn, hpa, hpl⟩ := LRel.pl r
  obtain ⟨ps, eps⟩ : ∃ ps, ps = pairsOf G m n := ⟨_, rfl⟩
  have hpm : ∀ p ∈ ps, p ∈ pairsOf G m n := fun p hp => by rw [eps] at hp; exact hp
  have nd : ps.Nodup := by rw [eps]; exact pairs_nodup
  rw [← eps] at hpl h64
  have hlen := hpl.length
  -- numbers
  have dcm := evp_dcT (n := xs.length) (Y := YPair (fun i => some (.int (i : Nat))) (fun i => xs[i]?)) (σ := [some (.ref t), some (.str kd.s), some (.ref pa), none, none, none, none, none, none, none]) (H := H1) (wi := iEnum K (tCons (tVar 2) tNil)) (g := gTup K 2 (gCons (gName 8) (gCons (gName 5) gNil))) (tt := tYes) (vs := [8, 5]) (tk := tVar 5) (tv := tVar 8)
    (fun i => kP (ps.getD i (0, 0))) (fun i => V.int (i : Int)) (by omega) (fun i k hik hk z => by
      have e := kP_inj z
      rw [List.getD_eq_getElem?_getD, List.getD_eq_getElem?_getD, List.getElem?_eq_getElem (show k < ps.length by omega), List.getElem?_eq_getElem (show i < ps.length by omega)] at e
      exact List.pairwise_iff_getElem.mp nd i k (by omega) (by omega) hik (show ps[i] = ps[k] from e)) (evi_enum (ea_cons (ev_var rfl) ea_nil) (sq_of hpa)) (by
      rintro D i H' x H'' hi e hD hD' ⟨U, y1, y2, rfl, hU, rfl, e1', e2'⟩ R k
      cases e1'
      obtain ⟨p, hpi, b, rfl, hb⟩ := paired_get hpl i y2 e2'
      refine g_pair hU (k _ _ rfl (Ex.new hU) (fun Hx _ Q q => q Hx (Ex.refl Hx)) (fun H3 e3 Q q => ?_) (ev_var rfl))
      refine (ev_var (v := .ref b) (H := H3) rfl) H3 (Ex.refl H3) Q fun H4 e4 => q _ _ e4 ⟨b, rfl, ?_⟩
      have ep : ps.getD i (0, 0) = p := by
        rw [List.getD_eq_getElem?_getD, hpi]
        rfl
      rw [ep]
      exact (e.trans ((Ex.new hU).trans (e3.trans e4))) _ _ hb)
  rw [hlen, kvsTo_N] at dcm
  refine q_asgP dcm fun v H2 e2 r => ?_
  obtain ⟨d, rfl, hdn, hd⟩ := r
  refine q_asgL (el_lst ea_nil (by show 0 ≤ 100000; decide)) fun M H3 hMn e3 hM => ?_
  have hMH : H M = none := fresh_back (e1.trans e2) hMn
  have e13 : Ex H1 H3 := e2.trans e3
  have dH3 : Ex H (hid M H3) := hid_of (e1.trans e13) hMH
  have nMp : pa ≠ M := ne_of_none (e2 _ _ hpa) hMn
  have nMd : d ≠ M := ne_of_none hd hMn
  have dH1 : Ex H1 (hid M H3) := hid_of e13 (fresh_back e2 hMn)
  have dH2 : Ex H2 (hid M H3) := hid_of e3 hMn
  refine q_forLn (ev_var rfl) (sq_of (e13 _ _ hpa)) (fun i σ' H' => (∃ z5 z6 z7, σ' = [some (.ref t), some (.str kd.s), some (.ref pa), some (.ref d), some (.ref M), z5, z6, z7, none, none]) ∧ Ex (hid M H3) H' ∧ ∃ ys, H' M = some (.lst ys) ∧ Paired (MkA (hid M H')) ys ((ps.take i).map fun p => (needsOf G m n kd p).map (maskOf ps)))
    (fun H4 e4 => ⟨⟨_, _, _, rfl⟩, hid_le.trans e4, [], e4 _ _ hM, .nil⟩) (fun i σ' H' _ p => sq_of (p.2.1 _ _ (by rw [hid_ne nMp]; exact e13 _ _ hpa))) ?_ ?_
  · rintro i x σ' H' hx ⟨⟨z5, z6, z7, rfl⟩, eH, ys, hys, hpy⟩
    obtain ⟨p, hpi, a, rfl, ha⟩ := paired_get hpl i x hx
    have hp := hpm p (List.mem_of_getElem? hpi)
    have haH : H' a = some (.tup (pV p)) := (dH1.trans eH) _ _ ha
    refine q_asgL (el_lst ea_nil (by show 0 ≤ 100000; decide)) fun W H4 hWn e4 hW => ?_
    have eHW : Ex H H4 := (dH3.trans eH).trans e4
    refine q_forP (evp_c (ea_cons (ev_var rfl) (ea_cons (ev_var rfl) (ea_cons (ev_var (v := .str kd.s) rfl) ea_nil))) (u_needs_of sh (ht.ex eHW) (e4 _ _ haH) hp) LRel.back) fun v H5 e5 r => ?_
    obtain ⟨qn, qs, rfl, hqn, hq, hqp⟩ := r
    have lnd : (needsOf G m n kd p).length ≤ 80 := by
      unfold needsOf
      rw [List.length_map]
      exact barsOf_len G m n kd _ _ sh.m8 sh.n8
    have nWq : qn ≠ W := fun z => by
      rw [z, hW] at hqn
      cases hqn
    have dH4 : Ex H' (hid W H5) := hid_of (e4.trans e5) hWn
    refine ⟨qn, qs, rfl, sq_of hq, fun k σ' H'' => (∃ z7, σ' = [some (.ref t), some (.str kd.s), some (.ref pa), some (.ref d), some (.ref M), some (.ref a), some (.ref W), z7, none, none]) ∧ Ex (hid W H5) H'' ∧ H'' W = some (.lst (((needsOf G m n kd p).take k).map fun nd => iV (maskOf ps nd))),
      ⟨⟨_, rfl⟩, hid_le, e5 _ _ hW⟩, fun _ _ _ _ h => sq_of (h.2.1 _ _ (by rw [hid_ne nWq]; exact hq)), ?_, ?_⟩
    · rintro k x σ' H'' hx ⟨⟨z7, rfl⟩, eH5, hWk⟩
      obtain ⟨nd, hnd, hA⟩ := paired_get hqp k x hx
      have hA2 : NdA (hid W H5) x nd := by
        obtain ⟨q', zs, ev, h1, h2⟩ := hA
        have up : ∀ b o, hid qn H5 b = some o → (∀ l, o ≠ .lst l) ∨ b ≠ W → hid W H5 b = some o := fun b o hb hne => by
          have hb2 := hid_le _ _ hb
          have nb : b ≠ W := by
            rcases hne with hne | hne
            · rintro rfl
              rw [e5 _ _ hW] at hb2
              exact hne _ (Option.some.inj hb2).symm
            · exact hne
          rw [hid_ne nb]
          exact hb2
        have nq : q' ≠ W := by
          rintro rfl
          have h3 := hid_le _ _ h1
          rw [e5 _ _ hW] at h3
          have e0 : zs = [] := by
            have := Option.some.inj h3
            injection this with this
            exact this.symm
          rw [e0] at h2
          cases h2
          exact absurd rfl (needs_ne sh hp (List.mem_of_getElem? hnd))
        exact ⟨q', zs, ev, up _ _ h1 (.inr nq), paired_mono h2 fun v pp ⟨u, eu, hu⟩ => ⟨u, eu, up _ _ hu (.inl fun l z => by cases z)⟩⟩
      obtain ⟨q', zs, rfl, h1, h2⟩ := NdA.ex _ _ _ _ eH5 hA2
      obtain ⟨nl2, nmem⟩ := needs_mem sh hp (List.mem_of_getElem? hnd)
      have hdH : H'' d = some (.dT (kvN 0 ps)) := ((dH2.trans eH).trans (dH4.trans eH5)) _ _ hd
      have main := evp_lc (n := zs.length) (Y := YAt zs) (σ := [some (.ref t), some (.str kd.s), some (.ref pa), some (.ref d), some (.ref M), some (.ref a), some (.ref W), some (.ref q'), none, none]) (H := H'') (wi := iList K (tVar 7)) (g := gName 9) (tt := tYes) (te := tCallR p_bit_of (tCons (tDGet (tVar 3) (tVar 9)) tNil)) (vs := [9])
        (fun _ v n => v = iV n) (fun _ _ _ _ _ h => h) (fun i => (nd[i]?).map fun q => 2 ^ ps.idxOf q) (by rw [h2.length]; omega) (evi_list (ev_var rfl) (sq_of h1)) (by
          rintro D i Ha v Hb hi e hD hD' ⟨rfl, hv⟩ R kk
          obtain ⟨qq, hqq, b, rfl, hb⟩ := paired_get h2 i v hv
          have hqm : qq ∈ ps := by rw [eps]; exact nmem qq (List.mem_of_getElem? hqq)
          have := idx_lt hqm
          refine kk _ _ rfl (Ex.refl _) ?_ ?_
          · rw [hqq]
            exact fun H1 e1 Q q => q H1 (Ex.refl H1)
          · intro z hz
            rw [hqq] at hz
            cases hz
            refine fun Hc ec Q kq => (evp_of (ev_c' (ea_cons (ev_dget (k := kP qq) (v := .int ((ps.idxOf qq : Nat) : Int)) (ev_var rfl) (ev_var rfl) (e _ _ hdH) (e _ _ hb) (by rw [kvN_get ps 0 hqm, Nat.zero_add])) ea_nil) (u_bit_of (by omega)))) Hc ec Q fun v Hd ed ev => kq v Hd ed fun _ => ev)
      have eit : (List.range zs.length).filterMap (fun i => (nd[i]?).map fun q => 2 ^ ps.idxOf q) = nd.map fun q => 2 ^ ps.idxOf q := by
        rw [h2.length]
        have hh := range_get (nd.map fun q => 2 ^ ps.idxOf q)
        rw [List.length_map] at hh
        simpa only [List.getElem?_map] using hh
      rw [eit] at main
      refine s_app (xs := ((needsOf G m n kd p).take k).map fun nd => iV (maskOf ps nd)) hWk (ev_var rfl) (ev_sumP main) (by rw [List.length_map, List.length_take]; omega) fun H6 e6 => ⟨⟨_, rfl⟩, Ex.mut (eH5.trans e6) (by unfold hid; rw [if_pos rfl]), ?_⟩
      rw [upd_same, take_map_succ _ _ hnd]
      rfl
    · rintro σ' H'' ⟨⟨z7, rfl⟩, eH5, hWk⟩
      have eF := dH4.trans eH5
      rw [hqp.length, List.take_length] at hWk
      have nWM : W ≠ M := by
        rintro rfl
        rw [hys] at hWn
        cases hWn
      refine s_app (xs := ys) (eF _ _ hys) (ev_var rfl) (ev_var (v := .ref W) rfl) (by rw [hpy.length, List.length_map, List.length_take]; omega) fun H6 e6 => ⟨⟨_, _, _, rfl⟩, Ex.mut (eH.trans (eF.trans e6)) (by unfold hid; rw [if_pos rfl]), ys ++ [.ref W], upd_same, ?_⟩
      rw [take_map_succ _ _ hpi, hid_upd]
      refine (paired_mono hpy fun v l h => MkA.ex _ _ _ _ (hid_ex (eF.trans e6)) h).snoc ⟨W, rfl, ?_⟩
      rw [hid_ne nWM, List.map_map]
      exact e6 _ _ hWk
  · rintro σ' H' ⟨⟨z5, z6, z7, rfl⟩, eH, ys, hys, hpy⟩
    rw [hlen, List.take_length] at hpy
    refine s_ret (ev_var rfl) fun H4 e4 => q M H4 ((dH3.trans eH).trans e4) hMH ⟨ys, e4 _ _ hys, ?_⟩
    unfold masksOf
    rw [← eps]
    exact paired_mono hpy fun v l h => MkA.ex _ _ _ _ (hid_le.trans e4) h
include T in
theorem kp_bar_masks : PySem.W.keepIn K (.ref (He.ga K "bar_masks")) = true := let ⟨_, F⟩ := T.f_bar_masks; F.kp
theorem u_bar_masks {K : PySem.W.Frag} {H : Hp} {t : Addr} {G : Grid} {m n : Nat} {kd : Kd} (sh : Sh G m n) (ht : TbA K H t G) : PmP (p_bar_masks K) [.ref t, .str kd.s] H (fun v Ha Hb => ∃ M, v = .ref M ∧ Ha M = none ∧ MsA Hb M (masksOf G m n kd)) := fun H1 e Q q => ⟨t, G, m, n, kd, rfl, sh, ht.ex e, fun M H2 e2 hn hm => q _ H2 e2 ⟨M, rfl, hn, hm⟩⟩
end
end K50
end
section /- PR9 -/
set_option Elab.async false
set_option linter.all false
set_option maxRecDepth 100000
set_option maxHeartbeats 1000000
/-! The open numbers and the ways to the end. -/
namespace K50
open PySem PySem.Spec L2 Evl EV GF GenW
open PyProof.Rows hiding St
def wL (wh : Nat) (f : Nat → Nat) (i : Nat) : List Nat := (List.range (wh + 1)).map fun s => if wh - i ≤ s then f s else 0
theorem wL_get {wh : Nat} {f : Nat → Nat} {i s : Nat} (h : s < wh + 1) : (wL wh f i)[s]? = some (if wh - i ≤ s then f s else 0) := by
  unfold wL
  rw [List.getElem?_map, List.getElem?_range h]
  rfl
theorem wL_none {wh : Nat} {f : Nat → Nat} {i s : Nat} (h : ¬ s < wh + 1) : (wL wh f i)[s]? = none := by
  unfold wL
  refine List.getElem?_eq_none ?_
  rw [List.length_map, List.length_range]
  omega
theorem wL_len {wh : Nat} {f : Nat → Nat} {i : Nat} : (wL wh f i).length = wh + 1 := by
  unfold wL
  rw [List.length_map, List.length_range]
theorem wL_0 {wh : Nat} {f : Nat → Nat} : List.replicate wh 0 ++ [f wh] = wL wh f 0 := by
  apply List.ext_getElem?
  intro s
  by_cases h : s < wh + 1
  · rw [wL_get h]
    by_cases h1 : s < wh
    · rw [List.getElem?_append_left (by rw [List.length_replicate]; exact h1), List.getElem?_replicate, if_pos h1, if_neg (by omega)]
    · have e : s = wh := by omega
      subst e
      rw [List.getElem?_append_right (by rw [List.length_replicate]; exact Nat.le_refl _), List.length_replicate, Nat.sub_self, if_pos (by omega)]
      rfl
  · rw [wL_none h]
    refine List.getElem?_eq_none ?_
    rw [List.length_append, List.length_replicate]
    simp
    omega
theorem wL_set {wh : Nat} {f : Nat → Nat} {i : Nat} (hi : i < wh) : (wL wh f i).set (wh - 1 - i) (f (wh - 1 - i)) = wL wh f (i + 1) := by
  apply List.ext_getElem?
  intro s
  rw [List.getElem?_set, wL_len]
  by_cases h : s < wh + 1
  · by_cases h3 : wh - 1 - i = s
    · rw [if_pos h3, if_pos (by omega), wL_get h, if_pos (by omega), h3]
    · rw [if_neg h3, wL_get h, wL_get h]
      by_cases h4 : wh - i ≤ s
      · rw [if_pos h4, if_pos (by omega)]
      · rw [if_neg h4, if_neg (by omega)]
  · rw [wL_none h, if_neg (by omega), wL_none h]
theorem wL_end {wh : Nat} {f : Nat → Nat} : wL wh f wh = (List.range (wh + 1)).map f := by
  unfold wL
  refine List.map_congr_left fun s _ => ?_
  rw [Nat.sub_self, if_pos (Nat.zero_le _)]
section
variable {P : Program} {w : World} {K : PySem.W.Frag} {mg : Str → Option Value} {base : Heap} (T : Tx K mg)
abbrev rAnd : R2 := rI0 fun i j => .int (Builtin.bitAnd i j)
theorem rv_and {H : Hp} {a b : Nat} : RV rAnd (.int (a : Int)) (.int (b : Int)) H (.int ((a &&& b : Nat) : Int)) := by
  have e : Builtin.bitAnd (a : Int) (b : Int) = ((a &&& b : Nat) : Int) := by rw [bitAnd_pp (by omega) (by omega), Int.toNat_natCast, Int.toNat_natCast]
  have h : RV rAnd (.int (a : Int)) (.int (b : Int)) H (.int (Builtin.bitAnd (a : Int) (b : Int))) := rv_I0
  rw [e] at h
  exact h
theorem and_pow (S k : Nat) : decide (S &&& 2 ^ k = 0) = !S.testBit k := by
  cases h : S.testBit k with
  | true =>
    refine decide_eq_false fun z => ?_
    have : (S &&& 2 ^ k).testBit k = false := by rw [z, Nat.zero_testBit]
    rw [Nat.testBit_and, h, Nat.testBit_two_pow_self] at this
    cases this
  | false =>
    refine decide_eq_true (Nat.eq_of_testBit_eq fun j => ?_)
    rw [Nat.testBit_and, Nat.testBit_two_pow, Nat.zero_testBit]
    by_cases q : k = j
    · subst q
      rw [h, Bool.false_and]
    · rw [decide_eq_false q, Bool.and_false]
/-- the turns of a list of numbers -/
def YNs (ns : List Nat) : Nat → Hp → V → Hp → Prop := fun i H x H' => H' = H ∧ ∃ n, ns[i]? = some n ∧ x = iV n
theorem evi_nums {σ : L2.St} {H : Hp} {tl : TE} {ns : List Nat} (h : EvP tl σ H (LRel (fun _ v n => v = iV n) ns)) : EvI (iList K tl) σ H ns.length (YNs ns) := fun H1 e R q =>
  h H1 e _ fun v H2 e2 r => by
    obtain ⟨a, xs, rfl, hn, ha, hp⟩ := r
    rw [paired_iV hp] at ha
    refine ⟨a, rfl, ⟨_, sq_of ha⟩, q _ H2 e2 ⟨fun H3 => Ex H2 H3, ?_, fun H3 e3 => e3⟩⟩
    have w := (walk_list (K := K) (a := a) (xs := ns.map iV)).mono (G' := fun H3 => Ex H2 H3) (Y' := YNs ns) (fun H3 e3 => sq_of (e3 _ _ ha)) fun i H3 x H4 _ e3 y => ⟨y.1, by
      have := y.2
      rw [List.getElem?_map] at this
      obtain ⟨n, h1, h2⟩ := Option.map_eq_some_iff.mp this
      exact ⟨n, h1, h2.symm⟩⟩
    rw [List.length_map] at w
    exact w
theorem q_forRev {σ : L2.St} {H : Hp} {te : TE} {n : Nat} {g : TG} {tu tz : TS} {D : Ends} (h : Ev te σ H (.int (n : Int))) (hn : n ≤ 1000000) (Pv : Nat → L2.St → Hp → Prop) (h0 : ∀ H1, Ex H H1 → Pv 0 σ H1)
    (hs : ∀ i σ' H', i < n → Pv i σ' H' → g (.int ((n - 1 - i : Nat) : Int)) σ' H' fun σ2 H2 => tu { D with nx := Pv (i + 1), ct := Pv (i + 1), bk := tz D } σ2 H2) (hd : ∀ σ' H', Pv n σ' H' → tz D σ' H') : tSeq (tFor (iRevR (tRg1 te)) g tu) tz D σ H :=
  h H (Ex.refl H) _ fun H1 e => ⟨(n : Int), rfl, by omega, by omega, by omega, by omega, by
    have en : ((n : Int) - 0).toNat = n := by omega
    rw [en]
    refine for_it (D := { D with nx := tz D }) walk_rangeC Pv (h0 H1 e) (fun _ _ _ _ _ => trivial) (fun i x σ' H' H'' hi p y => ?_) hd
    obtain ⟨rfl, rfl⟩ := y
    have ex : (0 : Int) + (n : Int) - 1 + (i : Int) * (-1) = ((n - 1 - i : Nat) : Int) := by omega
    have ez := hs i σ' H'' hi p
    rw [← ex] at ez
    exact ez⟩

theorem paired_of_map : ∀ ns : List Nat, Paired (fun v n => v = iV n) (ns.map iV) ns
  | [] => .nil
  | n :: ns => .cons rfl (paired_of_map ns)

def p_meets_all : Pm := fun vs H Q => ∃ (q : Addr) (ms : List Nat) (S : Nat), vs = [.ref q, .int (S : Int)] ∧ H q = some (.lst (ms.map iV)) ∧ RetB (.bl (ms.all fun m => met m S)) H Q
theorem sc_meets_all : FnScope ["masks", "placed", "mask"] ["masks", "placed"] (defScope s_meets_all) := ⟨rfl, rfl, rfl, by decide +kernel, rfl, by decide +kernel, by decide +kernel⟩
include T in
theorem ok_meets_all : FnP P w K mg base 1 (He.ga K "meets_all") p_meets_all := by
  obtain ⟨fd, F⟩ := T.f_meets_all
  refine okR F sc_meets_all (fun _ _ _ _ _ _ us hl => match us, hl with | [_, _], _ => rfl) (fun vs H Q h => by obtain ⟨q, ms, S, rfl, _⟩ := h; rfl) fun cdv A outer s H vs Q hr h => ⟨_, (pss_cons (ps_for PassesOwn.never rfl (pi_list (pv 0)) (pg_name (i := 2) sc_meets_all.nd rfl (.inl rfl)) (pss_one (ps_if (pt_cmpR op_eq (pe_op op_and (pv 2) (pv 1)) pe_int (nomark _)) (pss_one (ps_ret pe_bl)) pss_nil))) (pss_one (ps_ret pe_bl))), ?_⟩
  obtain ⟨q, ms, S, rfl, hq, k⟩ := h
  refine q_forI (evi_list (ev_var rfl) (sq_of hq)) fun H1 e1 => ⟨fun i σ' H' => (∃ z, σ' = [some (.ref q), some (.int (S : Int)), z]) ∧ Ex H1 H' ∧ ((ms.take i).all fun m => met m S) = true, ⟨⟨_, rfl⟩, Ex.refl _, rfl⟩, fun _ _ _ _ h => h.2.1, ?_, ?_⟩
  · rintro i x σ' H' H'' hi ⟨⟨z, rfl⟩, e2, hall⟩ ⟨rfl, hx⟩
    rw [List.getElem?_map] at hx
    obtain ⟨m, hm, rfl⟩ := Option.map_eq_some_iff.mp hx
    have hil : i < ms.length := (List.getElem?_eq_some_iff.mp hm).1
    refine s_when (b := decide (m &&& S = 0)) (et_test (ev_op (ev_op (ev_var (v := .int (m : Int)) rfl) (ev_var rfl) rv_and) ev_c (rv_eqI (decide_eq_decide.mpr ⟨by omega, by omega⟩)))) (fun hb H2 e3 => ?_) (fun hb H2 e3 => ⟨⟨_, rfl⟩, e2.trans e3, ?_⟩)
    · refine s_ret ev_c fun H3 e4 => ?_
      have ea : (ms.all fun m => met m S) = false := List.all_eq_false.mpr ⟨m, List.mem_of_getElem? hm, by unfold met; rw [hb]; decide⟩
      rw [ea] at k
      exact k H3 (e1.trans (e2.trans (e3.trans e4)))
    · rw [List.take_succ_eq_append_getElem hil, List.all_append, hall, (List.getElem?_eq_some_iff.mp hm).2]
      simp [met, hb]
  · rintro σ' H' ⟨_, e2, hall⟩
    rw [List.length_map, List.take_length] at hall
    rw [hall] at k
    exact s_ret ev_c fun H2 e3 => k H2 (e1.trans (e2.trans e3))
include T in
theorem kp_meets_all : PySem.W.keepIn K (.ref (He.ga K "meets_all")) = true := let ⟨_, F⟩ := T.f_meets_all; F.kp
theorem u_meets_all {H : Hp} {q : Addr} {ms : List Nat} {S : Nat} (h : H q = some (.lst (ms.map iV))) : PmP p_meets_all [.ref q, .int (S : Int)] H (Is (.bl (ms.all fun m => met m S))) := pmp_ret fun H1 Q e k => ⟨q, ms, S, rfl, e _ _ h, k⟩
def p_open_numbers : Pm := fun vs H Q => ∃ (M : Addr) (ms : List (List Nat)) (S : Nat), vs = [.ref M, .int (S : Int)] ∧ MsA H M ms ∧ ms.length ≤ 64 ∧ ∀ v H', Ex H H' → LRel (fun _ v n => v = iV n) (opens ms ms.length S) v H H' → Q v H'
theorem sc_open_numbers : FnScope ["masks", "placed", "found", "number"] ["masks", "placed"] (defScope s_open_numbers) := ⟨rfl, rfl, rfl, by decide +kernel, rfl, by decide +kernel, by decide +kernel⟩
include T in
theorem ok_open_numbers : FnP P w K mg base 2 (He.ga K "open_numbers") p_open_numbers := by
  obtain ⟨fd, F⟩ := T.f_open_numbers
  refine okR F sc_open_numbers (fun _ _ _ _ _ _ us hl => match us, hl with | [_, _], _ => rfl) (fun vs H Q h => by obtain ⟨M, ms, S, rfl, _⟩ := h; rfl) fun cdv A outer s H vs Q hr h => ⟨_, (pss_cons (ps_set (i := 2) sc_open_numbers.nd rfl (.inl rfl) (pe_lst pa_nil)) (pss_cons (ps_for PassesOwn.never rfl (pi_range1 (by rfl) T.n_range (pa_cons (pe_callB call_len_seq (by rfl) T.n_len PySem.boot_len (pa_cons (pv 0) pa_nil)) pa_nil)) (pg_name (i := 3) sc_open_numbers.nd rfl (.inl rfl)) (pss_one (ps_if (PW.pt (pw_and (pt_cmpR op_eq (pe_op op_and (pv 1) (pe_cR (ok_bit_of T) (hr.mono (by decide)) (by rfl) T.g_bit_of (kp_bit_of T) (pa_cons (pv 3) pa_nil))) pe_int (nomark _)) (pw_and1 (pt_val (pe_cR (ok_meets_all T) (hr.mono (by decide)) (by rfl) T.g_meets_all (kp_meets_all T) (pa_cons (pe_ix ix_list (pv 0) (pv 3) (fun _ _ => rfl)) (pa_cons (pv 1) pa_nil))))))) (pss_one (ps_expr (pe_bm PySem.F.plainAttrs_list PySem.F.slot_list_append PySem.F.type_list_append mt_append (pv 2) (pa_cons (pv 3) pa_nil)))) pss_nil))) (pss_one (ps_ret (pv 2))))), ?_⟩
  obtain ⟨M, ms, S, rfl, hM, h64, q⟩ := h
  refine q_asgL (el_lst ea_nil (by show 0 ≤ 100000; decide)) fun F H1 hFn e1 hF => ?_
  obtain ⟨ys, hys, hp⟩ := id hM
  have dH : Ex H (hid F H1) := hid_of e1 hFn
  refine q_forR1 (n := (ms.length : Int)) (ea_cons (ev_is (ev_len (ev_var rfl) (sq_of (e1 _ _ hys))) (by rw [hp.length])) ea_nil) (by omega) (fun i σ' H' => (∃ z, σ' = [some (.ref M), some (.int (S : Int)), some (.ref F), z]) ∧ Ex (hid F H1) H' ∧ H' F = some (.lst (((List.range i).filter (opn ms S)).map iV)))
    (fun H2 e2 => ⟨⟨_, rfl⟩, hid_le.trans e2, e2 _ _ hF⟩) ?_ ?_
  · rintro i σ' H' hi ⟨⟨z, rfl⟩, eH, hFi⟩
    have hil : i < ms.length := by omega
    have eHH := dH.trans eH
    obtain ⟨v, hv, qa, rfl, hqa⟩ := paired_get' hp i ms[i] (by simp [hil])
    have eg : ms.getD i [] = ms[i] := by simp [List.getD, hil]
    have len : ((List.range i).filter (opn ms S)).length ≤ i := by
      have := List.length_filter_le (opn ms S) (List.range i)
      rw [List.length_range] at this
      exact this
    refine s_when (b := opn ms S i) (et_and (a := !S.testBit i) (b := (ms.getD i []).all fun m => met m S) (et_test (ev_op (ev_op (ev_var rfl) (ev_c' (ea_cons (ev_var rfl) ea_nil) (u_bit_of (by omega))) rv_and) ev_c (rv_eqI ?_))) (fun _ => et_B ?_)) (fun hb H2 e2 => ?_) (fun hb H2 e2 => ⟨⟨_, rfl⟩, eH.trans e2, ?_⟩)
    · rw [← and_pow]
      exact decide_eq_decide.mpr ⟨by omega, by omega⟩
    · rw [eg]
      exact ev_c' (ea_cons (ev_op (ev_var rfl) (ev_var rfl) (rv_ixL (sq_of (eHH _ _ hys)) (atI_nat hv))) (ea_cons (ev_var rfl) ea_nil)) (u_meets_all (eHH _ _ hqa))
    · refine s_app (e2 _ _ hFi) (ev_var rfl) (ev_var (v := iV i) rfl) (by rw [List.length_map]; omega) fun H3 e3 => ⟨⟨_, rfl⟩, Ex.mut (eH.trans (e2.trans e3)) (by unfold hid; rw [if_pos rfl]), ?_⟩
      rw [upd_same, List.range_succ, List.filter_append, List.map_append, List.filter_cons_of_pos hb]
      rfl
    · rw [List.range_succ, List.filter_append, List.map_append, List.filter_cons_of_neg (by rw [hb]; decide)]
      show H2 F = some (.lst (_ ++ []))
      rw [List.append_nil]
      exact e2 _ _ hFi
  · rintro σ' H' ⟨⟨z, rfl⟩, eH, hFi⟩
    rw [Int.toNat_natCast] at hFi
    refine s_ret (ev_var rfl) fun H2 e2 => q _ H2 ((dH.trans eH).trans e2) ⟨F, _, rfl, hFn, e2 _ _ hFi, ?_⟩
    exact paired_of_map _
include T in
theorem kp_open_numbers : PySem.W.keepIn K (.ref (He.ga K "open_numbers")) = true := let ⟨_, F⟩ := T.f_open_numbers; F.kp
theorem u_open_numbers {H : Hp} {M : Addr} {ms : List (List Nat)} {S N : Nat} (h : MsA H M ms) (hN : ms.length = N) (hl : N ≤ 64) : PmP p_open_numbers [.ref M, .int (S : Int)] H (LRel (fun _ v n => v = iV n) (opens ms N S)) := fun H1 e Q q => ⟨M, ms, S, rfl, h.ex e, by omega, fun v H2 e2 r => q v H2 e2 (by rw [hN] at r; exact r)⟩
def p_ways_to_end (K : PySem.W.Frag) : Pm := fun vs H Q => ∃ (M : Addr) (ms : List (List Nat)) (N : Nat), vs = [.ref M] ∧ MsA H M ms ∧ ms.length = N ∧ N ≤ 12 ∧ ∀ q H', Ex H H' → H q = none → H' q = some (.lst ((List.range (2 ^ N)).map fun s => iV (W ms N s))) → Q (.ref q) H'
theorem sc_ways_to_end : FnScope ["masks", "whole", "ways", "placed", "number"] ["masks"] (defScope s_ways_to_end) := ⟨rfl, rfl, rfl, by decide +kernel, rfl, by decide +kernel, by decide +kernel⟩
include T in
theorem ok_ways_to_end : FnP P w K mg base 3 (He.ga K "ways_to_end") (p_ways_to_end K) := by
  obtain ⟨fd, F⟩ := T.f_ways_to_end
  refine okR F sc_ways_to_end (fun _ _ _ _ _ _ us hl => match us, hl with | [_], _ => rfl) (fun vs H Q h => by obtain ⟨M, ms, N, rfl, _⟩ := h; rfl) fun cdv A outer s H vs Q hr h => ⟨_, (pss_cons (ps_set (i := 1) sc_ways_to_end.nd rfl (.inl rfl) (pe_op op_sub (pe_cR (ok_bit_of T) (hr.mono (by decide)) (by rfl) T.g_bit_of (kp_bit_of T) (pa_cons (pe_callB call_len_seq (by rfl) T.n_len PySem.boot_len (pa_cons (pv 0) pa_nil)) pa_nil)) pe_int)) (pss_cons (ps_set (i := 2) sc_ways_to_end.nd rfl (.inr rfl) (pe_lc (own := [("placed", 3)]) (tt := tYes) rfl sc_ways_to_end.nd (pi_range1 (by rfl) T.n_range (pa_cons (pv 1) pa_nil)) (blkOk_by (own := [("placed", 3)]) (N := ["masks", "whole", "ways", "placed", "number"]) (sc := (defScope s_ways_to_end)) (by decide +kernel)) (fun _ _ _ _ _ => (pg_name (i := 3) sc_ways_to_end.nd rfl (.inl rfl))) (fun _ _ _ _ _ => pts_nil) (fun _ _ _ _ _ => pe_int))) (pss_cons (ps_expr (pe_bm PySem.F.plainAttrs_list PySem.F.slot_list_append PySem.F.type_list_append mt_append (pv 2) (pa_cons pe_int pa_nil))) (pss_cons (ps_for PassesOwn.never rfl (pi_revR (by rfl) T.n_reversed (prg_1 (by rfl) T.n_range (pv 1))) (pg_name (i := 3) sc_ways_to_end.nd rfl (.inr rfl)) (pss_one (ps_asg (pe_callB (cr_sum rfl) (by rfl) T.n_sum PyProof.Rows.boot_sum (pa_cons (pe_lc (own := [("number", 4)]) (tt := tYes) (te := tOp (rIxL K) (tVar 2) (tOp (rI0 fun i j => .int (i + j)) (tVar 3) (tCallR p_bit_of (tCons (tVar 4) tNil)))) rfl sc_ways_to_end.nd (pi_list (pe_cR (ok_open_numbers T) (hr.mono (by decide)) (by rfl) T.g_open_numbers (kp_open_numbers T) (pa_cons (pv 0) (pa_cons (pv 3) pa_nil)))) (blkOk_by (own := [("number", 4)]) (N := ["masks", "whole", "ways", "placed", "number"]) (sc := (defScope s_ways_to_end)) (by decide +kernel)) (fun _ _ _ _ _ => (pg_name (i := 4) sc_ways_to_end.nd rfl (.inl rfl))) (fun _ _ _ _ _ => pts_nil) (fun _ _ _ _ _ => (pe_ix ix_list (pv 2) (pe_op op_add (pv 3) (pe_cR (ok_bit_of T) (hr.mono (by decide)) (by rfl) T.g_bit_of (kp_bit_of T) (pa_cons (pv 4) pa_nil))) (fun _ _ => rfl)))) pa_nil)) (pg_sub (pv 2) (pv 3) set_list)))) (pss_one (ps_ret (pv 2))))))), ?_⟩
  obtain ⟨M, ms, N, rfl, hM, hN, h12, q⟩ := h
  obtain ⟨ys, hys, hp⟩ := id hM
  have h2 : 2 ^ N ≤ 2 ^ 12 := Nat.pow_le_pow_right (by decide) h12
  have h2' : 2 ^ N ≤ 4096 := h2
  have hpos : 0 < 2 ^ N := Nat.two_pow_pos N
  obtain ⟨wh, hwh⟩ : ∃ wh, wh + 1 = 2 ^ N := ⟨2 ^ N - 1, by omega⟩
  refine q_asg (v := .int (wh : Int)) (ev_is (ev_op (ev_c' (ea_cons (ev_is (ev_len (ev_var rfl) (sq_of hys)) (show _ = V.int ((N : Nat) : Int) by rw [hp.length, hN])) ea_nil) (u_bit_of (by omega))) ev_c rv_I0) (by congr 1; omega)) fun H1 e1 => ?_
  have zer := evp_lc (n := wh) (Y := YFn fun i => .int (i : Int)) (σ := [some (.ref M), some (.int (wh : Int)), none, none, none]) (H := H1) (wi := iRng1 (tCons (tVar 1) tNil)) (g := gName 3) (tt := tYes) (te := tC (.int 0)) (vs := [3]) (fun _ v n => v = iV n) (fun _ _ _ _ _ h => h) (fun _ => some 0) (by omega) (evi_rng (ea_cons (ev_var rfl) ea_nil) (by omega)) (by
    rintro D i H' x H'' hi e hD hD' ⟨rfl, rfl⟩ R k
    refine k _ _ rfl (Ex.refl _) (fun H1 e1 Q q => q H1 (Ex.refl H1)) fun z hz => ?_
    cases hz
    exact fun H3 e3 Q kk => kk _ _ (Ex.refl _) fun _ => rfl)
  refine q_asgP zer fun v H2 e2 r => ?_
  obtain ⟨wa, zs, rfl, hwn, hw, hwp⟩ := r
  have e0 : (List.range wh).filterMap (fun _ => some 0) = List.replicate wh 0 := by
    have hc : ∀ l : List Nat, l.filterMap (fun _ => some 0) = List.replicate l.length 0 := fun l => by
      induction l with
      | nil => rfl
      | cons a l ih =>
        rw [List.filterMap_cons, ih]
        rfl
    rw [hc, List.length_range]
  rw [paired_iV hwp, e0, List.map_replicate] at hw
  have hwH : H wa = none := fresh_back e1 hwn
  refine q_app hw (ev_var rfl) ev_c (by rw [List.length_replicate]; omega) fun H3 e3 => ?_
  have hfe : W ms N wh = 1 := W_end (by omega)
  have L0 : List.replicate wh (iV 0) ++ [V.int 1] = (wL wh (W ms N) 0).map iV := by
    rw [← wL_0, hfe, List.map_append, List.map_replicate]
    rfl
  have dH : Ex H (hid wa (upd H3 wa (.lst (List.replicate wh (iV 0) ++ [V.int 1])))) := by
    rw [hid_upd]
    exact hid_of (e1.trans (e2.trans e3)) hwH
  rw [L0] at dH ⊢
  refine q_forRev (n := wh) (ev_var rfl) (by omega) (fun i σ' H' => (∃ z, σ' = [some (.ref M), some (.int (wh : Int)), some (.ref wa), z, none]) ∧ Ex (hid wa (upd H3 wa (.lst ((wL wh (W ms N) 0).map iV)))) H' ∧ H' wa = some (.lst ((wL wh (W ms N) i).map iV))) (fun H4 e4 => ⟨⟨_, rfl⟩, hid_le.trans e4, e4 _ _ upd_same⟩) ?_ ?_
  · rintro i σ' H' hi ⟨⟨z, rfl⟩, eH, hL⟩
    obtain ⟨S, hS⟩ : ∃ S, S = wh - 1 - i := ⟨_, rfl⟩
    have hS1 : S + 1 < 2 ^ N := by omega
    rw [← hS]
    have eHH := dH.trans eH
    have hM' := hM.ex eHH
    have main := evp_lc (n := (opens ms N S).length) (Y := YNs (opens ms N S)) (σ := [some (.ref M), some (.int (wh : Int)), some (.ref wa), some (.int (S : Int)), none]) (H := H') (wi := iList K (tCallR p_open_numbers (tCons (tVar 0) (tCons (tVar 3) tNil)))) (g := gName 4) (tt := tYes)
      (te := tOp (rIxL K) (tVar 2) (tOp (rI0 fun i j => .int (i + j)) (tVar 3) (tCallR p_bit_of (tCons (tVar 4) tNil)))) (vs := [4]) (fun _ v n => v = iV n) (fun _ _ _ _ _ h => h) (fun k => ((opens ms N S)[k]?).map fun c => W ms N (S + 2 ^ c))
      (by
        have : (opens ms N S).length ≤ N := by
          unfold opens
          have := List.length_filter_le (opn ms S) (List.range N)
          rw [List.length_range] at this
          exact this
        omega) (evi_nums (evp_c (ea_cons (ev_var rfl) (ea_cons (ev_var rfl) ea_nil)) (u_open_numbers hM' hN (by omega)) LRel.back)) (by
        rintro D k Ha x Hb hk e hD hD' ⟨rfl, c, hc, rfl⟩ R kk
        have hco : c ∈ opens ms N S := List.mem_of_getElem? hc
        have hclt := open_lt hco
        have hnl := next_lt (by omega) hco
        have hp2 := Nat.two_pow_pos c
        refine kk _ _ rfl (Ex.refl _) ?_ ?_
        · rw [hc]
          exact fun H1 e1 Q q => q H1 (Ex.refl H1)
        · intro y hy
          rw [hc] at hy
          cases hy
          refine fun Hc ec Q kq => (evp_of (ev_op (z := iV (W ms N (S + 2 ^ c))) (ev_var rfl) (ev_is (w := .int ((S + 2 ^ c : Nat) : Int)) (ev_op (ev_var rfl) (ev_c' (ea_cons (ev_var rfl) ea_nil) (u_bit_of (by omega))) rv_I0) (by push_cast; rfl)) (rv_ixL (sq_of (e _ _ hL)) (atI_nat ?_)))) Hc ec Q fun v Hd ed ev => kq v Hd ed fun _ => ev
          rw [List.getElem?_map, wL_get (by omega), if_pos (by omega)]
          rfl)
    have eit : (List.range (opens ms N S).length).filterMap (fun k => ((opens ms N S)[k]?).map fun c => W ms N (S + 2 ^ c)) = (opens ms N S).map fun c => W ms N (S + 2 ^ c) := by
      have hh := range_get ((opens ms N S).map fun c => W ms N (S + 2 ^ c))
      rw [List.length_map] at hh
      simpa only [List.getElem?_map] using hh
    rw [eit] at main
    have ev := ev_sumP (K := K) main
    rw [← W_lt hS1] at ev
    refine s_setL (j := S) (xs := (wL wh (W ms N) i).map iV) hL ev (ev_var rfl) (ev_var rfl) (by rw [List.length_map, wL_len]; omega) fun H5 e5 => ⟨⟨_, rfl⟩, Ex.mut (eH.trans e5) (by unfold hid; rw [if_pos rfl]), ?_⟩
    rw [upd_same]
    have hset := wL_set (f := W ms N) hi
    rw [← hS] at hset
    rw [← hset, List.map_set]
    rfl
  · rintro σ' H' ⟨⟨z, rfl⟩, eH, hL⟩
    refine s_ret (ev_var rfl) fun H5 e5 => q wa H5 ((dH.trans eH).trans e5) hwH (e5 _ _ ?_)
    rw [hL, wL_end, hwh, List.map_map]
    rfl
include T in
theorem kp_ways_to_end : PySem.W.keepIn K (.ref (He.ga K "ways_to_end")) = true := let ⟨_, F⟩ := T.f_ways_to_end; F.kp
end
end K50
end
section /- PR10 -/
set_option Elab.async false
set_option linter.all false
set_option maxRecDepth 100000
set_option maxHeartbeats 1000000
/-! count, order_at, number_of. -/
namespace K50
open PySem PySem.Spec L2 Evl EV GF GenW
open PyProof.Rows hiding St
section
variable {P : Program} {w : World} {K : PySem.W.Frag} {mg : Str → Option Value} {base : Heap} (T : Tx K mg)
theorem ms_len (G : Grid) (m n : Nat) (kd : Kd) : (masksOf G m n kd).length = (pairsOf G m n).length := by
  unfold masksOf
  rw [List.length_map]
/-- a call whose one argument is told by a relation -/
theorem evp_c1 {σ : L2.St} {H : Hp} {te : TE} {p : Pm} {R1 R2 : Rel} (h : EvP te σ H R1) (hp : ∀ v H1 H2, Ex H H1 → Ex H1 H2 → R1 v H1 H2 → PmP p [v] H2 (fun u _ H3 => R2 u H1 H3)) : EvP (tCallR p (tCons te tNil)) σ H R2 := fun H1 e Q q =>
  h H1 e _ fun v H2 e2 r => hp v H1 H2 e e2 r H2 (Ex.refl H2) Q fun u H3 e3 r3 => q u H3 (e2.trans e3) r3
theorem ev_opP {σ : L2.St} {H : Hp} {ta tb : TE} {r : R2} {R1 : Rel} {y z : V} (h : EvP ta σ H R1) (hb : ∀ H1, Ex H H1 → Ev tb σ H1 y) (hr : ∀ v H1 H2, Ex H H1 → Ex H1 H2 → R1 v H1 H2 → RV r v y H2 z) : Ev (tOp r ta tb) σ H z := fun H1 e Q q =>
  h H1 e _ fun v H2 e2 rr => hb H2 (e.trans e2) H2 (Ex.refl H2) _ fun H3 e3 => hr v H1 H2 e e2 rr H3 e3 Q fun H4 e4 => q H4 (e2.trans (e3.trans e4))
def WyA (H : Hp) (v : V) (ms : List (List Nat)) (N : Nat) : Prop := ∃ q, v = .ref q ∧ H q = some (.lst ((List.range (2 ^ N)).map fun s => iV (W ms N s)))
theorem u_ways {K : PySem.W.Frag} {H : Hp} {M : Addr} {ms : List (List Nat)} {N : Nat} (h : MsA H M ms) (hN : ms.length = N) (h12 : N ≤ 12) : PmP (p_ways_to_end K) [.ref M] H (fun v _ Hb => WyA Hb v ms N) := fun H1 e Q q => ⟨M, ms, N, rfl, h.ex e, hN, h12, fun a H2 e2 _ hw => q _ H2 e2 ⟨a, rfl, hw⟩⟩
theorem WyA.at_ {H : Hp} {q : Addr} {ms : List (List Nat)} {N S : Nat} (hS : S < 2 ^ N) : ((List.range (2 ^ N)).map fun s => iV (W ms N s))[S]? = some (iV (W ms N S)) := by
  rw [List.getElem?_map, List.getElem?_range hS]
  rfl
/-- Order(l) -/
theorem evp_mkO {K : PySem.W.Frag} {σ : L2.St} {H : Hp} {t : TA} {l : Addr} {xs : List V} {ps : List Pr} (h : EvA t σ H [.ref l]) (hl : H l = some (.lst xs)) (hp : PL H xs ps) (nd : ps.Nodup) (h7 : ∀ p ∈ ps, p.1 ≤ 7 ∧ p.2 ≤ 7) (h64 : ps.length ≤ 64) :
    EvP (StX.tMakeR (He.ga K "Order") (p_Order_init K).sp E0 t) σ H fun v Ha Hb => ∃ o, v = .ref o ∧ Ha o = none ∧ OrA K Hb o ps := fun H1 e Q q =>
  h H1 e _ fun H2 e2 x dx hx hdx ne => by
    have ex0 : ∀ b o, H2 b = some o → (upd (upd H2 dx (.own x)) x (.ins (He.ga K "Order") dx [])) b = some o := fun b o hb => by rw [upd_ne (ne_of_none hb hx), upd_ne (ne_of_none hb hdx)]; exact hb
    have ex1 : Ex H2 (upd (upd H2 dx (.own x)) x (.ins (He.ga K "Order") dx [])) := ex0
    refine ⟨x, l, dx, xs, ps, rfl, upd_same, ((e.trans e2).trans ex1) _ _ hl, hp.ex ((e.trans e2).trans ex1), nd, h7, h64, fun H3 e3 ho => ⟨rfl, q _ H3 (e2.trans fun b o hb => e3 _ _ ?_) ⟨x, rfl, fresh_back e2 hx, ho⟩⟩⟩
    rw [hid_ne (ne_of_none hb hx)]
    exact ex0 b o hb
theorem pair7 {G : Grid} {m n : Nat} (sh : Sh G m n) {p : Pr} (h : p ∈ pairsOf G m n) : p.1 ≤ 7 ∧ p.2 ≤ 7 := by
  obtain ⟨h1, h2, _⟩ := mem_pairsOf.mp h
  have := sh.m8
  have := sh.n8
  omega

def p_count (K : PySem.W.Frag) : Pm := fun vs H Q => ∃ (t : Addr) (G : Grid) (m n : Nat) (kd : Kd), vs = [.ref t, .str kd.s] ∧ Sh G m n ∧ TbA K H t G ∧ (pairsOf G m n).length ≤ 12 ∧ RetB (iV (W (masksOf G m n kd) (pairsOf G m n).length 0)) H Q
theorem sc_count : FnScope ["table", "kind"] ["table", "kind"] (defScope s_count) := ⟨rfl, rfl, rfl, by decide +kernel, rfl, by decide +kernel, by decide +kernel⟩
include T in
theorem ok_count : ∃ fd, FnOk P w K mg base CX0 6 (He.ga K "count") fd ["table", "kind"] (p_count K).sp ∧ PySem.W.keepIn K (.ref (He.ga K "count")) = true ∧ KBn K fd ["table", "kind"] 1 ["kind"] (fun us ws => us ++ ws) (fun vs zs => vs ++ zs) ∧
    ∃ ds, Vals [V.str "even"] ds ∧ Binds K fd ["table", "kind"] ds := by
  obtain ⟨fd, F⟩ := T.f_count
  refine ⟨fd, okN F sc_count (fun vs H Q h => by obtain ⟨t, G, m, n, kd, rfl, _⟩ := h; rfl) fun cdv A outer s H vs Q hr h => ⟨_, (pss_cons (ps_expr (pe_cR (ok_check_kind T) (hr.mono (by decide)) (by rfl) T.g_check_kind (kp_check_kind T) (pa_cons (pv 1) pa_nil))) (pss_cons (ps_expr (pe_cR (ok_check_limit T) (hr.mono (by decide)) (by rfl) T.g_check_limit (kp_check_limit T) (pa_cons (pv 0) pa_nil))) (pss_one (ps_ret (pe_ix ix_list (pe_cR (ok_ways_to_end T) (hr.mono (by decide)) (by rfl) T.g_ways_to_end (kp_ways_to_end T) (pa_cons (pe_cR (ok_bar_masks T) (hr.mono (by decide)) (by rfl) T.g_bar_masks (kp_bar_masks T) (pa_cons (pv 0) (pa_cons (pv 1) pa_nil))) pa_nil)) pe_int (fun _ _ => rfl)))))), ?_⟩, F.kp, kbn F 1 ["kind"] fun kV doc pm an cdv ct us ws h1 h2 => match us, ws, h1, h2 with | [_], [_], _, _ => rfl,
    F.binds0 1 (by simp) rfl fun D doc pm an cdv ct us ks h1 h2 => match us, ks, h1, h2 with | [_], [_], _, _ => ⟨_, _, _, _, _, _, rfl, rfl, rfl⟩⟩
  obtain ⟨t, G, m, n, kd, rfl, sh, ht, h12, q⟩ := h
  refine q_dropP (evp_c (ea_cons (ev_var (v := .str kd.s) rfl) ea_nil) u_check_kind) fun _ H1 e1 _ => ?_
  refine q_dropP (evp_c (ea_cons (ev_var rfl) ea_nil) (u_check_limit (ht.ex e1) sh h12)) fun _ H2 e2 _ => ?_
  have hp : 0 < 2 ^ (pairsOf G m n).length := Nat.two_pow_pos _
  refine s_ret (ev_opP (R1 := fun v _ Hb => WyA Hb v (masksOf G m n kd) (pairsOf G m n).length) (evp_c1 (evp_c (ea_cons (ev_var rfl) (ea_cons (ev_var (v := .str kd.s) rfl) ea_nil)) (u_bar_masks sh (ht.ex (e1.trans e2))) (fun v H1 H2 H3 e ⟨M, ev, hn, hm⟩ => ⟨M, ev, fresh_back e hn, hm⟩)) fun v Ha Hb ea eb r => ?_) (fun _ _ => ev_c) fun v Ha Hb ea eb r => ?_) fun H3 e3 => q H3 (e1.trans (e2.trans e3))
  · obtain ⟨M, rfl, hn, hm⟩ := r
    exact u_ways hm (ms_len G m n kd) h12
  · obtain ⟨qa, rfl, hw⟩ := r
    exact rv_ixL (sq_of hw) (atN (j := 0) (WyA.at_ (H := Hb) (q := qa) hp))
theorem u_count {K : PySem.W.Frag} {H : Hp} {t : Addr} {G : Grid} {m n : Nat} {kd : Kd} (sh : Sh G m n) (ht : TbA K H t G) (h12 : (pairsOf G m n).length ≤ 12) : PmP (p_count K) [.ref t, .str kd.s] H (Is (iV (W (masksOf G m n kd) (pairsOf G m n).length 0))) := pmp_ret fun H1 Q e q => ⟨t, G, m, n, kd, rfl, sh, ht.ex e, h12, q⟩
def p_order_at (K : PySem.W.Frag) : Pm := fun vs H Q => ∃ (t : Addr) (r : Nat) (G : Grid) (m n : Nat) (kd : Kd) (ks : List Nat), vs = [.ref t, iV r, .str kd.s] ∧ Sh G m n ∧ TbA K H t G ∧ (pairsOf G m n).length ≤ 12 ∧ Run (masksOf G m n kd) (pairsOf G m n).length 0 ks ∧ r = rank (masksOf G m n kd) (pairsOf G m n).length 0 ks ∧
  ∀ o H', Ex H H' → H o = none → OrA K H' o (ks.map fun k => (pairsOf G m n).getD k (0, 0)) → Q (.ref o) H'
theorem run_length {ms : List (List Nat)} {N : Nat} {ks : List Nat} (h : Run ms N 0 ks) : ks.length = N ∧ ks.Nodup ∧ ∀ k ∈ ks, k < N := by
  have hp := part_of_run ks 0 h
  obtain ⟨nd, hk⟩ := part_nodup ks 0 hp
  refine ⟨(part_full hp).2.mpr ?_, nd, fun k hk' => (hk k hk').1⟩
  have := (run_cut ks [] 0 (by rw [List.append_nil]; exact h)).2
  exact this
theorem getD_mem {ps : List Pr} {k : Nat} (h : k < ps.length) : ps.getD k (0, 0) ∈ ps := by
  rw [List.getD_eq_getElem?_getD, List.getElem?_eq_getElem h]
  exact List.getElem_mem h
theorem map_getD_nodup {ps : List Pr} (nd : ps.Nodup) {ks : List Nat} (hk : ks.Nodup) (hl : ∀ k ∈ ks, k < ps.length) : (ks.map fun k => ps.getD k (0, 0)).Nodup := by
  have inj : ∀ a b, a < ps.length → b < ps.length → ps.getD a (0, 0) = ps.getD b (0, 0) → a = b := fun a b h1 h2 e => by
    rw [List.getD_eq_getElem?_getD, List.getD_eq_getElem?_getD, List.getElem?_eq_getElem h1, List.getElem?_eq_getElem h2] at e
    have e : ps[a] = ps[b] := e
    exact Decidable.byContradiction fun n => by
      rcases Nat.lt_or_gt_of_ne n with q | q
      · exact List.pairwise_iff_getElem.mp nd a b h1 h2 q e
      · exact List.pairwise_iff_getElem.mp nd b a h2 h1 q e.symm
  induction ks with
  | nil => exact List.nodup_nil
  | cons a ks ih =>
    rw [List.nodup_cons] at hk
    rw [List.map_cons, List.nodup_cons]
    refine ⟨fun h => ?_, ih hk.2 fun k h => hl k (List.mem_cons_of_mem _ h)⟩
    obtain ⟨b, hb, e⟩ := List.mem_map.mp h
    have := inj b a (hl b (List.mem_cons_of_mem _ hb)) (hl a List.mem_cons_self) e
    subst this
    exact hk.1 hb
theorem map_getD_paired {H : Hp} {xs : List V} {ps : List Pr} (h : PL H xs ps) : ∀ ks : List Nat, (∀ k ∈ ks, k < ps.length) → PL H (ks.map fun k => xs.getD k .non) (ks.map fun k => ps.getD k (0, 0))
  | [], _ => .nil
  | k :: ks, hk => by
    refine .cons ?_ (map_getD_paired h ks fun j hj => hk j (List.mem_cons_of_mem _ hj))
    have h1 := hk k List.mem_cons_self
    obtain ⟨v, hv, hp⟩ := paired_get' h k ps[k] (by simp [h1])
    have e1 : xs.getD k .non = v := by rw [List.getD_eq_getElem?_getD, hv]; rfl
    have e2 : ps.getD k (0, 0) = ps[k] := by rw [List.getD_eq_getElem?_getD, List.getElem?_eq_getElem h1]; rfl
    show PrA H (xs.getD k .non) (ps.getD k (0, 0))
    rw [e1, e2]
    exact hp
abbrev rWay (K : PySem.W.Frag) (z : TE) : TE := tOp (rIxL K) (tVar 4) (tOp (rI0 fun i j => .int (i + j)) (tVar 7) (tCallR p_bit_of (tCons z tNil)))
theorem ev_way {K : PySem.W.Frag} {σ : L2.St} {H : Hp} {z : TE} {wa : Addr} {ms : List (List Nat)} {N S k : Nat} (h12 : N ≤ 12) (h4 : σ[4]? = some (some (.ref wa))) (h7 : σ[7]? = some (some (iV S))) (hw : H wa = some (.lst ((List.range (2 ^ N)).map fun s => iV (W ms N s)))) (hz : Ev z σ H (iV k)) (hk : k < N) (hS : S + 2 ^ k < 2 ^ N) :
    Ev (rWay K z) σ H (iV (W ms N (S + 2 ^ k))) :=
  ev_op (ev_var h4) (ev_is (w := .int ((S + 2 ^ k : Nat) : Int)) (ev_op (ev_var h7) (ev_c' (ea_cons hz ea_nil) (u_bit_of (by omega))) rv_I0) (by push_cast; rfl)) (rv_ixL (sq_of hw) (atI_nat (WyA.at_ (H := H) (q := wa) hS)))
theorem sc_order_at : FnScope ["table", "number", "kind", "masks", "ways", "pairs", "rest", "placed", "found", "choices", "at"] ["table", "number", "kind"] (defScope s_order_at) := ⟨rfl, rfl, rfl, by decide +kernel, rfl, by decide +kernel, by decide +kernel⟩
include T in
theorem ok_order_at : ∃ fd, FnOk P w K mg base CX0 7 (He.ga K "order_at") fd ["table", "number", "kind"] (p_order_at K).sp ∧ PySem.W.keepIn K (.ref (He.ga K "order_at")) = true ∧ KBn K fd ["table", "number", "kind"] 2 ["kind"] (fun us ws => us ++ ws) (fun vs zs => vs ++ zs) ∧
    ∃ ds, Vals [V.str "even"] ds ∧ Binds K fd ["table", "number", "kind"] ds := by
  obtain ⟨fd, F⟩ := T.f_order_at
  refine ⟨fd, okN F sc_order_at (fun vs H Q h => by obtain ⟨t, r, G, m, n, kd, ks, rfl, _⟩ := h; rfl) fun cdv A outer s H vs Q hr h => ⟨_, (pss_cons (ps_expr (pe_cR (ok_check_kind T) (hr.mono (by decide)) (by rfl) T.g_check_kind (kp_check_kind T) (pa_cons (pv 2) pa_nil))) (pss_cons (ps_expr (pe_cR (ok_check_limit T) (hr.mono (by decide)) (by rfl) T.g_check_limit (kp_check_limit T) (pa_cons (pv 0) pa_nil))) (pss_cons (ps_if (PW.pt (pw_or (pt_not (pt_val (pe_cR (ok_is_integer T) (hr.mono (by decide)) (by rfl) T.g_is_integer (kp_is_integer T) (pa_cons (pv 1) pa_nil)))) (pw_or1 (pt_cmpR op_lt (pv 1) pe_int (nomark _))))) pss_never pss_nil) (pss_cons (ps_set (i := 3) sc_order_at.nd rfl (.inl rfl) (pe_cR (ok_bar_masks T) (hr.mono (by decide)) (by rfl) T.g_bar_masks (kp_bar_masks T) (pa_cons (pv 0) (pa_cons (pv 2) pa_nil)))) (pss_cons (ps_set (i := 4) sc_order_at.nd rfl (.inl rfl) (pe_cR (ok_ways_to_end T) (hr.mono (by decide)) (by rfl) T.g_ways_to_end (kp_ways_to_end T) (pa_cons (pv 3) pa_nil))) (pss_cons (ps_if (pt_cmpR op_ge (pv 1) (pe_ix ix_list (pv 4) pe_int (fun _ _ => rfl)) (nomark _)) pss_never pss_nil) (pss_cons (ps_set (i := 5) sc_order_at.nd rfl (.inl rfl) (pe_m0 (pv 0) T.cl_Table T.m_Table_pairs (ok_Table_pairs T) (hr.mono (by decide)))) (pss_cons (ps_set (i := 6) sc_order_at.nd rfl (.inl rfl) (pv 1)) (pss_cons (ps_set (i := 7) sc_order_at.nd rfl (.inl rfl) pe_int) (pss_cons (ps_set (i := 8) sc_order_at.nd rfl (.inl rfl) (pe_lst pa_nil)) (pss_cons (ps_while PassesOwn.never (pt_cmpR op_lt (pe_callB call_len_seq (by rfl) T.n_len PySem.boot_len (pa_cons (pv 8) pa_nil)) (pe_callB call_len_seq (by rfl) T.n_len PySem.boot_len (pa_cons (pv 5) pa_nil)) (nomark _)) (pss_cons (ps_set (i := 9) sc_order_at.nd rfl (.inl rfl) (pe_cR (ok_open_numbers T) (hr.mono (by decide)) (by rfl) T.g_open_numbers (kp_open_numbers T) (pa_cons (pv 3) (pa_cons (pv 7) pa_nil)))) (pss_cons (ps_set (i := 10) sc_order_at.nd rfl (.inl rfl) pe_int) (pss_cons (ps_while PassesOwn.never (pt_cmpR op_ge (pv 6) (pe_ix ix_list (pv 4) (pe_op op_add (pv 7) (pe_cR (ok_bit_of T) (hr.mono (by decide)) (by rfl) T.g_bit_of (kp_bit_of T) (pa_cons (pe_ix ix_list (pv 9) (pv 10) (fun _ _ => rfl)) pa_nil))) (fun _ _ => rfl)) (nomark _)) (pss_cons (ps_aug (i := 6) sc_order_at.nd rfl (.inl rfl) (pe_ix ix_list (pv 4) (pe_op op_add (pv 7) (pe_cR (ok_bit_of T) (hr.mono (by decide)) (by rfl) T.g_bit_of (kp_bit_of T) (pa_cons (pe_ix ix_list (pv 9) (pv 10) (fun _ _ => rfl)) pa_nil))) (fun _ _ => rfl)) ip_sub) (pss_one (ps_aug (i := 10) sc_order_at.nd rfl (.inl rfl) pe_int ip_add)))) (pss_cons (ps_expr (pe_bm PySem.F.plainAttrs_list PySem.F.slot_list_append PySem.F.type_list_append mt_append (pv 8) (pa_cons (pe_ix ix_list (pv 5) (pe_ix ix_list (pv 9) (pv 10) (fun _ _ => rfl)) (fun _ _ => rfl)) pa_nil))) (pss_one (ps_aug (i := 7) sc_order_at.nd rfl (.inl rfl) (pe_cR (ok_bit_of T) (hr.mono (by decide)) (by rfl) T.g_bit_of (kp_bit_of T) (pa_cons (pe_ix ix_list (pv 9) (pv 10) (fun _ _ => rfl)) pa_nil)) ip_add))))))) (pss_one (ps_ret (StX.pe_makeR T.mk_Order (ok_Order_init T) (hr.mono (by decide)) (by rfl) T.g_Order pass0 (pa_cons (pv 8) pa_nil))))))))))))))), ?_⟩, F.kp, kbn F 2 ["kind"] fun kV doc pm an cdv ct us ws h1 h2 => match us, ws, h1, h2 with | [_, _], [_], _, _ => rfl,
    F.binds0 2 (by simp) rfl fun D doc pm an cdv ct us ks h1 h2 => match us, ks, h1, h2 with | [_, _], [_], _, _ => ⟨_, _, _, _, _, _, rfl, rfl, rfl⟩⟩
  obtain ⟨t, r, G, m, n, kd, ks, rfl, sh, ht, h12, hrun, hrk, q⟩ := h
  obtain ⟨dx, g0, hti, _⟩ := id ht
  have hml := ms_len G m n kd
  refine q_dropP (evp_c (ea_cons (ev_var (v := .str kd.s) rfl) ea_nil) u_check_kind) fun _ H1 e1 _ => ?_
  refine q_dropP (evp_c (ea_cons (ev_var rfl) ea_nil) (u_check_limit (ht.ex e1) sh h12)) fun _ H2 e2 _ => ?_
  refine q_skip (et_orF (et_notT (et_B (ev_c' (ea_cons (ev_var (v := iV r) rfl) ea_nil) u_is_integer))) (et_test (ev_op (ev_var (v := iV r) rfl) ev_c (rv_lt (decide_eq_false (by omega)))))) fun H3 e3 => ?_
  have e13 := e1.trans (e2.trans e3)
  refine q_asgP (evp_c (ea_cons (ev_var rfl) (ea_cons (ev_var (v := .str kd.s) rfl) ea_nil)) (u_bar_masks sh (ht.ex e13)) (fun v H1 H2 H3 e ⟨M, ev, hn, hm⟩ => ⟨M, ev, fresh_back e hn, hm⟩)) fun v H4 e4 rr => ?_
  obtain ⟨M, rfl, _, hM⟩ := rr
  refine q_asgP (evp_c (ea_cons (ev_var rfl) ea_nil) (u_ways hM hml h12)) fun v H5 e5 rr => ?_
  obtain ⟨wa, rfl, hw⟩ := rr
  have h0 : r < W (masksOf G m n kd) (pairsOf G m n).length 0 := by rw [hrk]; exact rank_lt ks 0 (Nat.two_pow_pos _) hrun
  refine q_skip (et_test (ev_op (ev_var (v := iV r) rfl) (ev_op (z := iV (W (masksOf G m n kd) (pairsOf G m n).length 0)) (ev_var rfl) ev_c (rv_ixL (sq_of hw) (atN (j := 0) (WyA.at_ (H := H5) (q := wa) (Nat.two_pow_pos _))))) (rv_ge (decide_eq_false (by omega))))) fun H6 e6 => ?_
  have e16 := e13.trans (e4.trans (e5.trans e6))
  refine q_asgP (evp_m0 (ev_var rfl) (e16 _ _ hti) rfl (u_Table_pairs (ht.ex e16) sh) LRel.back) fun v H7 e7 rr => ?_
  obtain ⟨pa, xs, rfl, _, hpa, hpl⟩ := LRel.pl rr
  have hM7 := hM.ex (e5.trans (e6.trans e7))
  have hw7 := (e6.trans e7) _ _ hw
  have e17 := e16.trans e7
  refine q_asg (ev_var (v := iV r) rfl) fun H8 e8 => ?_
  refine q_asg (v := iV 0) ev_c fun H9 e9 => ?_
  refine q_asgL (el_lst ea_nil (by show 0 ≤ 100000; decide)) fun F Hs hFn es hF => ?_
  have e79 := e8.trans e9
  have hM9 := hM7.ex e79
  have hw9 := e79 _ _ hw7
  have hpa9 := e79 _ _ hpa
  have hpl9 := hpl.ex e79
  have e19 := e17.trans e79
  obtain ⟨hkl, hknd, hklt⟩ := run_length hrun
  generalize eps : pairsOf G m n = ps at *
  obtain ⟨N, eN⟩ : ∃ N, N = ps.length := ⟨_, rfl⟩
  rw [← eN] at hrun hrk h12 hw9 hkl hklt hml h0
  generalize masksOf G m n kd = ms at *
  have hxl : xs.length = N := by rw [hpl9.length, eN]
  refine q_while (fun mm σ' H' => ∃ done todo z9 z10, ks = done ++ todo ∧ mm = todo.length ∧ σ' = [some (.ref t), some (iV r), some (.str kd.s), some (.ref M), some (.ref wa), some (.ref pa), some (iV (rank ms N (setOf 0 done) todo)), some (iV (setOf 0 done)), some (.ref F), z9, z10] ∧ Ex H9 H' ∧ H' F = some (.lst (done.map fun k => xs.getD k .non))) ks.length
    ⟨[], ks, none, none, rfl, rfl, by rw [hrk]; rfl, es, hF⟩ ?_
  rintro mm σ' H' ⟨done, todo, z9, z10, eks, rfl, rfl, eH, hFd⟩
  have hdl : done.length ≤ N := by
    have := congrArg List.length eks
    rw [List.length_append] at this
    omega
  have hcut := run_cut done todo 0 (by rw [← eks]; exact hrun)
  have hSlt := setOf_lt done 0 (Nat.two_pow_pos N) hcut.1
  refine ⟨decide (done.length < N), et_test (ev_op (ev_len (ev_var rfl) (sq_of hFd)) (ev_len (ev_var rfl) (sq_of (eH _ _ hpa9))) (rv_lt (decide_eq_decide.mpr (by rw [List.length_map, hxl]; omega)))), fun hb Ha ea => ?_, fun hb Ha ea => ?_⟩
  · -- one more
    obtain ⟨k, rest, rfl⟩ : ∃ k rest, todo = k :: rest := by
      cases todo with
      | nil =>
        have := congrArg List.length eks
        rw [List.append_nil] at this
        have := of_decide_eq_true hb
        omega
      | cons k rest => exact ⟨k, rest, rfl⟩
    obtain ⟨S, eS⟩ : ∃ S, S = setOf 0 done := ⟨_, rfl⟩
    rw [← eS] at hcut hSlt ⊢
    obtain ⟨ts, hts, hk, hrs, hrl⟩ := find_at hSlt hcut.2
    have hko := hcut.2.1
    have hkN := open_lt hko
    refine ⟨fun σ2 H2 => ∃ done' todo' z9 z10, ks = done' ++ todo' ∧ rest.length = todo'.length ∧ σ2 = [some (.ref t), some (iV r), some (.str kd.s), some (.ref M), some (.ref wa), some (.ref pa), some (iV (rank ms N (setOf 0 done') todo')), some (iV (setOf 0 done')), some (.ref F), z9, z10] ∧ Ex H9 H2 ∧ H2 F = some (.lst (done'.map fun k => xs.getD k .non)),
      fun σ2 H2 h => ⟨rest.length, by rw [List.length_cons]; omega, h⟩, ?_⟩
    have eHa := eH.trans ea
    refine q_asgP (evp_c (ea_cons (ev_var rfl) (ea_cons (ev_var (v := iV S) rfl) ea_nil)) (u_open_numbers (hM9.ex eHa) hml (by omega)) LRel.back) fun v Hb eb rr => ?_
    obtain ⟨c, zs, rfl, hcn, hc, hcp⟩ := rr
    rw [paired_iV hcp] at hc
    refine q_asg (v := iV 0) ev_c fun Hc ec => ?_
    have eHc := eHa.trans (eb.trans ec)
    have hwc := eHc _ _ hw9
    have hcc := ec _ _ hc
    have hFc := (ea.trans (eb.trans ec)) _ _ hFd
    let f : Nat → Nat := fun c => W ms N (S + 2 ^ c)
    let O := opens ms N S
    have at_ : ∀ tt, ∀ h : tt < O.length, (O.map iV)[tt]? = some (iV O[tt]) := fun tt h => by rw [List.getElem?_map, List.getElem?_eq_getElem h]; rfl
    refine q_while (fun mm σ' H' => ∃ tt R, mm = ts - tt ∧ tt ≤ ts ∧ R + sumTo f O tt = rank ms N S (k :: rest) ∧ σ' = [some (.ref t), some (iV r), some (.str kd.s), some (.ref M), some (.ref wa), some (.ref pa), some (iV R), some (iV S), some (.ref F), some (.ref c), some (iV tt)] ∧ Ex Hc H') ts
      ⟨0, rank ms N S (k :: rest), rfl, Nat.zero_le _, by unfold sumTo; simp, rfl, Ex.refl _⟩ ?_
    rintro mm σ' H' ⟨tt, R, rfl, htt, hR, rfl, eH2⟩
    have htO : tt < O.length := Nat.lt_of_le_of_lt htt hts
    have hOt : O[tt] ∈ opens ms N S := List.getElem_mem htO
    have chat : ∀ {H'' : Hp} {R' : Nat}, Ex Hc H'' → Ev (tOp (rIxL K) (tVar 9) (tVar 10)) [some (.ref t), some (iV r), some (.str kd.s), some (.ref M), some (.ref wa), some (.ref pa), some (iV R'), some (iV S), some (.ref F), some (.ref c), some (iV tt)] H'' (iV O[tt]) := fun e => ev_op (ev_var rfl) (ev_var rfl) (rv_ixL (sq_of (e _ _ hcc)) (atI_nat (at_ tt htO)))
    have way : ∀ {H'' : Hp} {R' : Nat}, Ex Hc H'' → Ev (rWay K (tOp (rIxL K) (tVar 9) (tVar 10))) [some (.ref t), some (iV r), some (.str kd.s), some (.ref M), some (.ref wa), some (.ref pa), some (iV R'), some (iV S), some (.ref F), some (.ref c), some (iV tt)] H'' (iV (f O[tt])) := fun e => ev_way h12 rfl rfl (e _ _ hwc) (chat e) (open_lt hOt) (next_lt hSlt hOt)
    refine ⟨decide (f O[tt] ≤ R), et_test (ev_op (ev_var (v := iV R) rfl) (way eH2) (rv_ge (decide_eq_decide.mpr (by omega)))), fun hb2 Hd ed => ?_, fun hb2 Hd ed => ?_⟩
    · have hle := of_decide_eq_true hb2
      have hlt : tt < ts := by
        rcases Nat.lt_or_eq_of_le htt with h | h
        · exact h
        · exfalso
          subst h
          have h3 : rank ms N S (k :: rest) = sumTo f O tt + rank ms N (S + 2 ^ k) rest := hrs
          have h4 : f k = W ms N (S + 2 ^ k) := rfl
          have h5 : (opens ms N S)[tt] = k := hk
          have h6 : f O[tt] = f k := congrArg f h5
          omega
      refine ⟨fun σ2 H2 => ∃ R', σ2 = [some (.ref t), some (iV r), some (.str kd.s), some (.ref M), some (.ref wa), some (.ref pa), some (iV R'), some (iV S), some (.ref F), some (.ref c), some (iV (tt + 1))] ∧ R' + sumTo f O (tt + 1) = rank ms N S (k :: rest) ∧ Ex Hc H2, fun σ2 H2 ⟨R', h1, h2, h3⟩ => ⟨ts - (tt + 1), by omega, tt + 1, R', rfl, hlt, h2, h1, h3⟩, ?_⟩
      refine q_aug (a := (R : Int)) (b := (f O[tt] : Int)) rfl (way (eH2.trans ed)) fun He ee => ?_
      refine s_aug (a := (tt : Int)) (b := 1) rfl ev_c fun Hf ef => ⟨R - f O[tt], ?_, ?_, eH2.trans (ed.trans (ee.trans ef))⟩
      · have z1 : V.int ((R : Int) - (f O[tt] : Int)) = iV (R - f O[tt]) := congrArg V.int (by omega)
        have z2 : V.int ((tt : Int) + 1) = iV (tt + 1) := congrArg V.int (by omega)
        rw [z1, z2]
        rfl
      · rw [sumTo_succ f O tt htO]
        omega
    · have hnl := of_decide_eq_false hb2
      have hts2 : tt = ts := by
        rcases Nat.lt_or_eq_of_le htt with h | h
        · exfalso
          have h1 := sumTo_succ f O tt htO
          have h2 := sumTo_mono f O (a := tt + 1) (b := ts) h (Nat.le_of_lt hts)
          have h3 : rank ms N S (k :: rest) = sumTo f O ts + rank ms N (S + 2 ^ k) rest := hrs
          omega
        · exact h
      subst hts2
      have hRr : R = rank ms N (S + 2 ^ k) rest := by
        have h3 : rank ms N S (k :: rest) = sumTo f O tt + rank ms N (S + 2 ^ k) rest := hrs
        omega
      have hOk : O[tt] = k := hk
      have eHd := eH2.trans ed
      have hxk : xs[k]? = some (xs.getD k .non) := by
        rw [List.getD_eq_getElem?_getD, List.getElem?_eq_getElem (by omega)]
        rfl
      refine q_app (eHd _ _ hFc) (ev_var rfl) (ev_op (z := xs.getD k .non) (x := .ref pa) (y := iV k) (ev_var rfl) (by rw [← hOk]; exact chat (R' := R) eHd) (rv_ixL (sq_of ((eHc.trans eHd) _ _ hpa9)) (atI_nat hxk))) (by rw [List.length_map]; omega) fun He ee => ?_
      have hcF : c ≠ F := by
        rintro rfl
        rw [ea _ _ hFd] at hcn
        cases hcn
      refine s_aug (a := (S : Int)) (b := ((2 ^ k : Nat) : Int)) rfl (ev_c' (ea_cons (x := iV k) (ev_op (ev_var rfl) (ev_var rfl) (rv_ixL (sq_of (by rw [upd_ne hcF]; exact (eHd.trans ee) _ _ hcc)) (atI_nat (by rw [at_ tt htO, hOk])))) ea_nil) (u_bit_of (by omega))) fun Hf ef => ?_
      refine ⟨done ++ [k], rest, some (.ref c), some (iV tt), by rw [eks, List.append_assoc]; rfl, rfl, ?_, (Ex.mut (eHc.trans (eHd.trans ee)) hFn).trans ef, ?_⟩
      · rw [setOf_app, ← eS, ← hRr]
        have z1 : V.int ((S : Int) + ((2 ^ k : Nat) : Int)) = iV (S + 2 ^ k) := congrArg V.int (by push_cast; rfl)
        rw [z1]
        rfl
      · refine ef _ _ ?_
        rw [upd_same, List.map_append]
        rfl
  · -- all are found
    have hnl := of_decide_eq_false hb
    have htn : todo = [] := by
      have := congrArg List.length eks
      rw [List.length_append] at this
      exact List.length_eq_zero_iff.mp (by omega)
    subst htn
    rw [List.append_nil] at eks
    rw [← eks] at hFd
    refine s_retP (evp_mkO (ea_cons (ev_var rfl) ea_nil) (ea _ _ hFd) (map_getD_paired (hpl9.ex (eH.trans ea)) ks (fun k hk => by rw [← eN]; exact hklt k hk)) (map_getD_nodup (by rw [← eps]; exact pairs_nodup) hknd (fun k hk => by rw [← eN]; exact hklt k hk)) (fun p hp => ?_) (by rw [List.length_map]; omega)) fun v Hb eb rr => ?_
    · obtain ⟨k, hk, rfl⟩ := List.mem_map.mp hp
      have := getD_mem (ps := ps) (k := k) (by rw [← eN]; exact hklt k hk)
      rw [← eps] at this ⊢
      exact pair7 sh this
    · obtain ⟨o, rfl, hon, ho⟩ := rr
      exact q o Hb (e19.trans (eH.trans (ea.trans eb))) (fresh_back (e19.trans (eH.trans ea)) hon) ho
theorem u_order_at {K : PySem.W.Frag} {H : Hp} {t : Addr} {r : Nat} {G : Grid} {m n : Nat} {kd : Kd} {ks : List Nat} (sh : Sh G m n) (ht : TbA K H t G) (h12 : (pairsOf G m n).length ≤ 12) (hr : Run (masksOf G m n kd) (pairsOf G m n).length 0 ks) (e : r = rank (masksOf G m n kd) (pairsOf G m n).length 0 ks) : PmP (p_order_at K) [.ref t, iV r, .str kd.s] H (fun v Ha Hb => ∃ o, v = .ref o ∧ Ha o = none ∧ OrA K Hb o (ks.map fun k => (pairsOf G m n).getD k (0, 0))) := fun H1 e1 Q q => ⟨t, r, G, m, n, kd, ks, rfl, sh, ht.ex e1, h12, hr, e, fun o H2 e2 hn ho => q _ H2 e2 ⟨o, rfl, hn, ho⟩⟩
end
end K50
end
section /- PRM -/
set_option Elab.async false
set_option linter.all false
set_option maxRecDepth 100000
set_option maxHeartbeats 1000000
/-! Masks and needs: plain facts. -/
namespace K50
open PySem
theorem met_iff {m S : Nat} : met m S = true ↔ ∃ j, m.testBit j = true ∧ S.testBit j = true := by
  unfold met
  rw [Bool.not_eq_true', decide_eq_false_iff_not]
  constructor
  · intro h
    refine Classical.byContradiction fun n => h (Nat.eq_of_testBit_eq fun j => ?_)
    rw [Nat.testBit_and, Nat.zero_testBit]
    cases h1 : m.testBit j with
    | false => rw [Bool.false_and]
    | true =>
      cases h2 : S.testBit j with
      | false => rw [Bool.and_false]
      | true => exact absurd ⟨j, h1, h2⟩ n
  · rintro ⟨j, h1, h2⟩ e
    have : (m &&& S).testBit j = true := by rw [Nat.testBit_and, h1, h2]; rfl
    rw [e, Nat.zero_testBit] at this
    cases this
theorem getD_idx {ps : List Pr} {q : Pr} (h : q ∈ ps) : ps.getD (ps.idxOf q) (0, 0) = q := by
  rw [List.getD_eq_getElem?_getD, List.getElem?_eq_getElem (idx_lt h)]
  show ps[ps.idxOf q]'(idx_lt h) = q
  exact List.getElem_idxOf (idx_lt h)
theorem idx_inj {ps : List Pr} {p q : Pr} (hp : p ∈ ps) (hq : q ∈ ps) (e : ps.idxOf p = ps.idxOf q) : p = q := by
  rw [← getD_idx hp, ← getD_idx hq, e]
theorem getD_inj {ps : List Pr} (nd : ps.Nodup) {a b : Nat} (h1 : a < ps.length) (h2 : b < ps.length) (e : ps.getD a (0, 0) = ps.getD b (0, 0)) : a = b := by
  rw [List.getD_eq_getElem?_getD, List.getD_eq_getElem?_getD, List.getElem?_eq_getElem h1, List.getElem?_eq_getElem h2] at e
  have e : ps[a] = ps[b] := e
  exact Decidable.byContradiction fun n => by
    rcases Nat.lt_or_gt_of_ne n with q | q
    · exact List.pairwise_iff_getElem.mp nd a b h1 h2 q e
    · exact List.pairwise_iff_getElem.mp nd b a h2 h1 q e.symm
theorem idx_getD {ps : List Pr} (nd : ps.Nodup) {k : Nat} (h : k < ps.length) : ps.idxOf (ps.getD k (0, 0)) = k :=
  getD_inj nd (idx_lt (getD_mem h)) h (getD_idx (getD_mem h))
/-- a need's shape -/
theorem need_shape {G : Grid} {m n : Nat} {kd : Kd} {be : Nat → Nat → Bool} {p : Pr} {b : Bar} (h : b ∈ barsOf G m n kd be p) :
    (∀ q ∈ needOf p b, be q.1 q.2 = true) ∧ ((∃ q, needOf p b = [q]) ∨ ∃ q q', needOf p b = [q, q'] ∧ q ≠ q') := by
  unfold barsOf at h
  rcases List.mem_append.mp h with h | h
  · obtain ⟨r, hr, h⟩ := List.mem_flatMap.mp h
    unfold crossOf at h
    obtain ⟨s, hs, rfl⟩ := List.mem_map.mp h
    have h1 := (mem_stocks hr).2
    have h2 := (mem_wishes (List.mem_filter.mp hs).1).2
    refine ⟨fun q hq => ?_, .inr ⟨(p.1, s), (r, p.2), rfl, fun z => ?_⟩⟩
    · have hq : q ∈ [(p.1, s), (r, p.2)] := hq
      rcases List.mem_cons.mp hq with e | hq
      · rw [e]; exact h2
      · rw [List.mem_singleton.mp hq]; exact h1
    · unfold stocksOf at hr
      have := (List.mem_filter.mp hr).2
      rw [Bool.and_eq_true, Bool.not_eq_true', decide_eq_false_iff_not] at this
      exact this.1 (congrArg Prod.fst z).symm
  · rcases List.mem_append.mp h with h | h
    · unfold colOf at h
      split at h
      · obtain ⟨r, hr, rfl⟩ := List.mem_map.mp h
        refine ⟨fun q hq => ?_, .inl ⟨(r, p.2), rfl⟩⟩
        have hq : q ∈ [(r, p.2)] := hq
        rw [List.mem_singleton.mp hq]
        exact (mem_stocks (List.mem_filter.mp hr).1).2
      · cases h
    · unfold rowOf at h
      split at h
      · obtain ⟨s, hs, rfl⟩ := List.mem_map.mp h
        refine ⟨fun q hq => ?_, .inl ⟨(p.1, s), rfl⟩⟩
        have hq : q ∈ [(p.1, s)] := hq
        rw [List.mem_singleton.mp hq]
        exact (mem_wishes (List.mem_filter.mp hs).1).2
      · cases h
theorem mask_bit {ps : List Pr} {p : Pr} {b : Bar} (hm : ∀ q ∈ needOf p b, q ∈ ps) (hs : (∃ q, needOf p b = [q]) ∨ ∃ q q', needOf p b = [q, q'] ∧ q ≠ q') (j : Nat) : (maskOf ps (needOf p b)).testBit j = true ↔ ∃ q ∈ needOf p b, ps.idxOf q = j := by
  rcases hs with ⟨q, e⟩ | ⟨q, q', e, ne⟩
  · rw [e]
    unfold maskOf
    rw [List.map_cons, List.map_nil, List.sum_cons, List.sum_nil, Nat.add_zero, Nat.testBit_two_pow, decide_eq_true_eq]
    simp
  · rw [e] at hm ⊢
    unfold maskOf
    rw [List.map_cons, List.map_cons, List.map_nil, List.sum_cons, List.sum_cons, List.sum_nil, Nat.add_zero]
    have hn : (2 ^ ps.idxOf q).testBit (ps.idxOf q') = false := by
      rw [Nat.testBit_two_pow]
      exact decide_eq_false fun z => ne (idx_inj (hm q (by simp)) (hm q' (by simp)) z)
    rw [bit_add _ _ j hn, Nat.testBit_two_pow, Bool.or_eq_true, decide_eq_true_eq, decide_eq_true_eq]
    simp
theorem met_need {ps : List Pr} {p : Pr} {b : Bar} (hm : ∀ q ∈ needOf p b, q ∈ ps) (hs : (∃ q, needOf p b = [q]) ∨ ∃ q q', needOf p b = [q, q'] ∧ q ≠ q') (S : Nat) : met (maskOf ps (needOf p b)) S = true ↔ ∃ q ∈ needOf p b, S.testBit (ps.idxOf q) = true := by
  rw [met_iff]
  constructor
  · rintro ⟨j, h1, h2⟩
    obtain ⟨q, hq, e⟩ := (mask_bit hm hs j).mp h1
    exact ⟨q, hq, by rw [e]; exact h2⟩
  · rintro ⟨q, hq, h⟩
    exact ⟨_, (mask_bit hm hs _).mpr ⟨q, hq, rfl⟩, h⟩
/-- a bar against some pairs is one against all -/
theorem bar_all {G : Grid} {m n : Nat} {kd : Kd} {be : Nat → Nat → Bool} (hb : ∀ r c, be r c = true → (r, c) ∈ pairsOf G m n) {p : Pr} {b : Bar} (h : b ∈ barsOf G m n kd be p) : b ∈ barsOf G m n kd (beAll G m n) p := by
  have hs : ∀ r, r ∈ stocksOf m p.1 p.2 be → r ∈ stocksOf m p.1 p.2 (beAll G m n) := fun r hr => by
    unfold stocksOf at hr ⊢
    obtain ⟨h1, h2⟩ := List.mem_filter.mp hr
    rw [Bool.and_eq_true] at h2
    exact List.mem_filter.mpr ⟨h1, by rw [Bool.and_eq_true]; exact ⟨h2.1, decide_eq_true (hb _ _ h2.2)⟩⟩
  have hw : ∀ s, s ∈ wishesOf n p.1 p.2 be → s ∈ wishesOf n p.1 p.2 (beAll G m n) := fun s hr => by
    unfold wishesOf at hr ⊢
    obtain ⟨h1, h2⟩ := List.mem_filter.mp hr
    rw [Bool.and_eq_true] at h2
    exact List.mem_filter.mpr ⟨h1, by rw [Bool.and_eq_true]; exact ⟨h2.1, decide_eq_true (hb _ _ h2.2)⟩⟩
  unfold barsOf at h ⊢
  rcases List.mem_append.mp h with h | h
  · obtain ⟨r, hr, h⟩ := List.mem_flatMap.mp h
    refine List.mem_append_left _ (List.mem_flatMap.mpr ⟨r, hs r hr, ?_⟩)
    unfold crossOf at h ⊢
    obtain ⟨s, hs2, rfl⟩ := List.mem_map.mp h
    obtain ⟨h1, h2⟩ := List.mem_filter.mp hs2
    exact List.mem_map.mpr ⟨s, List.mem_filter.mpr ⟨hw s h1, h2⟩, rfl⟩
  · refine List.mem_append_right _ ?_
    rcases List.mem_append.mp h with h | h
    · refine List.mem_append_left _ ?_
      unfold colOf at h ⊢
      split at h
      · rename_i hk
        rw [if_pos hk]
        obtain ⟨r, hr, rfl⟩ := List.mem_map.mp h
        obtain ⟨h1, h2⟩ := List.mem_filter.mp hr
        exact List.mem_map.mpr ⟨r, List.mem_filter.mpr ⟨hs r h1, h2⟩, rfl⟩
      · cases h
    · refine List.mem_append_right _ ?_
      unfold rowOf at h ⊢
      split at h
      · rename_i hk
        rw [if_pos hk]
        obtain ⟨s, hr, rfl⟩ := List.mem_map.mp h
        obtain ⟨h1, h2⟩ := List.mem_filter.mp hr
        exact List.mem_map.mpr ⟨s, List.mem_filter.mpr ⟨hw s h1, h2⟩, rfl⟩
      · cases h
theorem ms_at {G : Grid} {m n : Nat} {kd : Kd} {k : Nat} (h : k < (pairsOf G m n).length) : (masksOf G m n kd).getD k [] = (needsOf G m n kd ((pairsOf G m n).getD k (0, 0))).map (maskOf (pairsOf G m n)) := by
  unfold masksOf
  rw [List.getD_eq_getElem?_getD, List.getD_eq_getElem?_getD, List.getElem?_map, List.getElem?_eq_getElem h]
  rfl
/-- open, told by the needs -/
theorem opn_iff {G : Grid} {m n : Nat} {kd : Kd} {k S : Nat} (h : k < (pairsOf G m n).length) : opn (masksOf G m n kd) S k = true ↔
    S.testBit k = false ∧ ∀ nd ∈ needsOf G m n kd ((pairsOf G m n).getD k (0, 0)), ∃ q ∈ nd, S.testBit ((pairsOf G m n).idxOf q) = true := by
  unfold opn
  rw [Bool.and_eq_true, Bool.not_eq_true', ms_at h, List.all_map, List.all_eq_true]
  refine and_congr Iff.rfl (forall_congr' fun nd => forall_congr' fun hnd => ?_)
  unfold needsOf at hnd
  obtain ⟨b, hb, rfl⟩ := List.mem_map.mp hnd
  obtain ⟨h1, h2⟩ := need_shape hb
  exact met_need (fun q hq => of_decide_eq_true (h1 q hq)) h2 S
/-- a valid order has no bars -/
theorem no_bars {G : Grid} {m n : Nat} {kd : Kd} {ks : List Nat} (hr : Run (masksOf G m n kd) (pairsOf G m n).length 0 ks) {i k : Nat} (hk : ks[i]? = some k) :
    barsOf G m n kd (fun r c => decide ((r, c) ∈ (ks.map fun k => (pairsOf G m n).getD k (0, 0)).drop (i + 1))) ((pairsOf G m n).getD k (0, 0)) = [] := by
  obtain ⟨hl, hnd, hlt⟩ := run_length hr
  have hi := (List.getElem?_eq_some_iff.mp hk).1
  have ek := (List.getElem?_eq_some_iff.mp hk).2
  have hnodup := map_getD_nodup (pairs_nodup (G := G) (m := m) (n := n)) hnd hlt
  refine List.eq_nil_iff_forall_not_mem.mpr fun b hb => ?_
  have hsub : ∀ r c, decide ((r, c) ∈ (ks.map fun k => (pairsOf G m n).getD k (0, 0)).drop (i + 1)) = true → (r, c) ∈ pairsOf G m n := fun r c h => by
    obtain ⟨j, hj, e⟩ := List.mem_map.mp (List.mem_of_mem_drop (of_decide_eq_true h))
    rw [← e]
    exact getD_mem (hlt j hj)
  have hall := bar_all hsub hb
  obtain ⟨h1, h2⟩ := need_shape hb
  have hcut := run_cut (ks.take i) (ks.drop i) 0 (by rw [List.take_append_drop]; exact hr)
  rw [List.drop_eq_getElem_cons hi, ek] at hcut
  have hopen := ((mem_opens.mp hcut.2.1).2)
  have hkN := open_lt hcut.2.1
  obtain ⟨_, hall2⟩ := (opn_iff hkN).mp hopen
  obtain ⟨q, hq, hbit⟩ := hall2 _ (List.mem_map.mpr ⟨b, hall, rfl⟩)
  rw [setOf_bit (ks.take i) 0 _ hcut.1, Nat.zero_testBit, Bool.false_or] at hbit
  have hin := of_decide_eq_true hbit
  have hqd := of_decide_eq_true (h1 q hq)
  have hqp : q ∈ pairsOf G m n := hsub q.1 q.2 (h1 q hq)
  have hqt : q ∈ (ks.map fun k => (pairsOf G m n).getD k (0, 0)).take i := by
    rw [← List.map_take]
    exact List.mem_map.mpr ⟨_, hin, getD_idx hqp⟩
  have hsplit : (ks.map fun k => (pairsOf G m n).getD k (0, 0)) = (ks.map fun k => (pairsOf G m n).getD k (0, 0)).take i ++ (ks.map fun k => (pairsOf G m n).getD k (0, 0)).drop i := (List.take_append_drop _ _).symm
  rw [hsplit, List.nodup_append] at hnodup
  have hqd2 : q ∈ (ks.map fun k => (pairsOf G m n).getD k (0, 0)).drop i := by
    rw [List.drop_eq_getElem_cons (by rw [List.length_map]; exact hi)]
    exact List.mem_cons_of_mem _ hqd
  exact hnodup.2.2 q hqt q hqd2 rfl
end K50
end
section /- PR11 -/
set_option Elab.async false
set_option linter.all false
set_option maxRecDepth 100000
set_option maxHeartbeats 1000000
/-! number_of. -/
namespace K50
open PySem PySem.Spec L2 Evl EV GF GenW
open PyProof.Rows hiding St
section
variable {P : Program} {w : World} {K : PySem.W.Frag} {mg : Str → Option Value} {base : Heap} (T : Tx K mg)
theorem ev_index {σ : L2.St} {H : Hp} {ta te : TE} {pa a : Addr} {xs : List V} {ps : List Pr} {p : Pr} {k : Nat} (ha : Ev ta σ H (.ref pa)) (hpa : H pa = some (.lst xs)) (hpl : PL H xs ps) (he : Ev te σ H (.ref a)) (hA : H a = some (.tup (pV p))) (hk : ps[k]? = some p) (nd : ps.Nodup) :
    Ev (tBM K "list" (rIndexD K) ta (tCons te tNil)) σ H (iV k) := fun H1 e Q q => ha H1 e _ fun H2 e2 => ⟨.inl ⟨rfl, _, sq_of ((e.trans e2) _ _ hpa)⟩, he H2 (e.trans e2) _ fun H3 e3 => by
  have eH := e.trans (e2.trans e3)
  have hki := (List.getElem?_eq_some_iff.mp hk).1
  have ek := (List.getElem?_eq_some_iff.mp hk).2
  refine ⟨pa, .ref a, pD p, ps.map pD, k, pD p, rfl, rfl, (hpl.ex eH).list (eH _ _ hpa), (show PrA H3 (.ref a) p from ⟨a, rfl, eH _ _ hA⟩).dp, pL_shaped ps, pD_shaped p, by rw [List.getElem?_map, hk]; rfl, by rw [pD_eqv]; simp, fun m z' hm hz => ?_, q H3 (e2.trans e3)⟩
  rw [List.getElem?_map] at hz
  obtain ⟨p', hp', rfl⟩ := Option.map_eq_some_iff.mp hz
  have hmi := (List.getElem?_eq_some_iff.mp hp').1
  have em := (List.getElem?_eq_some_iff.mp hp').2
  rw [pD_eqv]
  refine decide_eq_false fun z => ?_
  rw [← em, ← ek] at z
  exact List.pairwise_iff_getElem.mp nd m k hmi hki hm z⟩
abbrev ordOf (G : Grid) (m n : Nat) (ks : List Nat) : List Pr := ks.map fun k => (pairsOf G m n).getD k (0, 0)

def p_number_of (K : PySem.W.Frag) : Pm := fun vs H Q => ∃ (t o : Addr) (G : Grid) (m n : Nat) (kd : Kd) (ks : List Nat), vs = [.ref t, .ref o, .str kd.s] ∧ Sh G m n ∧ TbA K H t G ∧ OrA K H o (ordOf G m n ks) ∧ (pairsOf G m n).length ≤ 12 ∧ Run (masksOf G m n kd) (pairsOf G m n).length 0 ks ∧ RetB (iV (rank (masksOf G m n kd) (pairsOf G m n).length 0 ks)) H Q
theorem sc_number_of : FnScope ["table", "order", "kind", "masks", "ways", "pairs", "total", "placed", "pair", "number", "choice"] ["table", "order", "kind"] (defScope s_number_of) := ⟨rfl, rfl, rfl, by decide +kernel, rfl, by decide +kernel, by decide +kernel⟩
include T in
theorem ok_number_of : ∃ fd, FnOk P w K mg base CX0 8 (He.ga K "number_of") fd ["table", "order", "kind"] (p_number_of K).sp ∧ PySem.W.keepIn K (.ref (He.ga K "number_of")) = true ∧ KBn K fd ["table", "order", "kind"] 2 ["kind"] (fun us ws => us ++ ws) (fun vs zs => vs ++ zs) ∧
    ∃ ds, Vals [V.str "even"] ds ∧ Binds K fd ["table", "order", "kind"] ds := by
  obtain ⟨fd, F⟩ := T.f_number_of
  refine ⟨fd, okN F sc_number_of (fun vs H Q h => by obtain ⟨t, o, G, m, n, kd, ks, rfl, _⟩ := h; rfl) fun cdv A outer s H vs Q hr h => ⟨_, (pss_cons (ps_expr (pe_cR (ok_check_order T) (hr.mono (by decide)) (by rfl) T.g_check_order (kp_check_order T) (pa_cons (pv 0) (pa_cons (pv 1) pa_nil)))) (pss_cons (ps_expr (pe_cR (ok_check_kind T) (hr.mono (by decide)) (by rfl) T.g_check_kind (kp_check_kind T) (pa_cons (pv 2) pa_nil))) (pss_cons (ps_expr (pe_cR (ok_check_limit T) (hr.mono (by decide)) (by rfl) T.g_check_limit (kp_check_limit T) (pa_cons (pv 0) pa_nil))) (pss_cons (ps_expr (pe_cR (ok_check_right T) (hr.mono (by decide)) (by rfl) T.g_check_right (kp_check_right T) (pa_cons (pv 0) (pa_cons (pv 1) (pa_cons (pv 2) pa_nil))))) (pss_cons (ps_set (i := 3) sc_number_of.nd rfl (.inl rfl) (pe_cR (ok_bar_masks T) (hr.mono (by decide)) (by rfl) T.g_bar_masks (kp_bar_masks T) (pa_cons (pv 0) (pa_cons (pv 2) pa_nil)))) (pss_cons (ps_set (i := 4) sc_number_of.nd rfl (.inl rfl) (pe_cR (ok_ways_to_end T) (hr.mono (by decide)) (by rfl) T.g_ways_to_end (kp_ways_to_end T) (pa_cons (pv 3) pa_nil))) (pss_cons (ps_set (i := 5) sc_number_of.nd rfl (.inl rfl) (pe_m0 (pv 0) T.cl_Table T.m_Table_pairs (ok_Table_pairs T) (hr.mono (by decide)))) (pss_cons (ps_set (i := 6) sc_number_of.nd rfl (.inl rfl) pe_int) (pss_cons (ps_set (i := 7) sc_number_of.nd rfl (.inl rfl) pe_int) (pss_cons (ps_for PassesOwn.never rfl (pi_list (pe_m0 (pv 1) T.cl_Order T.m_Order_pairs (ok_Order_pairs T) (hr.mono (by decide)))) (pg_name (i := 8) sc_number_of.nd rfl (.inl rfl)) (pss_cons (ps_set (i := 9) sc_number_of.nd rfl (.inl rfl) (pe_bm PySem.F.plainAttrs_list PySem.F.slot_list_index PySem.F.type_list_index (mt_indexD (by have := hr.units; show (A.deeper _).units + 65 < cLine; have := hr.un; omega)) (pv 5) (pa_cons (pv 8) pa_nil))) (pss_cons (ps_for PassesOwn.never rfl (pi_list (pe_cR (ok_open_numbers T) (hr.mono (by decide)) (by rfl) T.g_open_numbers (kp_open_numbers T) (pa_cons (pv 3) (pa_cons (pv 7) pa_nil)))) (pg_name (i := 10) sc_number_of.nd rfl (.inl rfl)) (pss_one (ps_if (pt_cmpR op_lt (pv 10) (pv 9) (nomark _)) (pss_one (ps_aug (i := 6) sc_number_of.nd rfl (.inl rfl) (pe_ix ix_list (pv 4) (pe_op op_add (pv 7) (pe_cR (ok_bit_of T) (hr.mono (by decide)) (by rfl) T.g_bit_of (kp_bit_of T) (pa_cons (pv 10) pa_nil))) (fun _ _ => rfl)) ip_add)) pss_nil))) (pss_one (ps_aug (i := 7) sc_number_of.nd rfl (.inl rfl) (pe_cR (ok_bit_of T) (hr.mono (by decide)) (by rfl) T.g_bit_of (kp_bit_of T) (pa_cons (pv 9) pa_nil)) ip_add))))) (pss_one (ps_ret (pv 6))))))))))))), ?_⟩, F.kp, kbn F 2 ["kind"] fun kV doc pm an cdv ct us ws h1 h2 => match us, ws, h1, h2 with | [_, _], [_], _, _ => rfl,
    F.binds0 2 (by simp) rfl fun D doc pm an cdv ct us ks h1 h2 => match us, ks, h1, h2 with | [_, _], [_], _, _ => ⟨_, _, _, _, _, _, rfl, rfl, rfl⟩⟩
  obtain ⟨t, o, G, m, n, kd, ks, rfl, sh, ht, ho, h12, hrun, q⟩ := h
  obtain ⟨dx, g0, hti, _⟩ := id ht
  obtain ⟨dx2, ol, od, oxs, hoi, _⟩ := id ho
  have hml := ms_len G m n kd
  obtain ⟨hkl, hknd, hklt⟩ := run_length hrun
  have hol : (ordOf G m n ks).length = (pairsOf G m n).length := by rw [List.length_map]; exact hkl
  have hom : ∀ p ∈ ordOf G m n ks, p ∈ pairsOf G m n := fun p hp => by
    obtain ⟨k, hk, rfl⟩ := List.mem_map.mp hp
    exact getD_mem (hklt k hk)
  have hond : (ordOf G m n ks).Nodup := map_getD_nodup pairs_nodup hknd hklt
  refine q_dropP (evp_c (ea_cons (ev_var rfl) (ea_cons (ev_var rfl) ea_nil)) (u_check_order ht sh ho hol hom)) fun _ H1 e1 _ => ?_
  refine q_dropP (evp_c (ea_cons (ev_var (v := .str kd.s) rfl) ea_nil) u_check_kind) fun _ H2 e2 _ => ?_
  have e12 := e1.trans e2
  refine q_dropP (evp_c (ea_cons (ev_var rfl) ea_nil) (u_check_limit (ht.ex e12) sh h12)) fun _ H3 e3 _ => ?_
  have e13 := e12.trans e3
  refine q_dropP (evp_c (ea_cons (ev_var rfl) (ea_cons (ev_var rfl) (ea_cons (ev_var (v := .str kd.s) rfl) ea_nil))) (u_check_right sh (ht.ex e13) (ho.ex e13) hol hom hond fun i p hip => ?_)) fun _ H4 e4 _ => ?_
  · rw [List.getElem?_map] at hip
    obtain ⟨k, hk, rfl⟩ := Option.map_eq_some_iff.mp hip
    exact no_bars hrun hk
  have e14 := e13.trans e4
  refine q_asgP (evp_c (ea_cons (ev_var rfl) (ea_cons (ev_var (v := .str kd.s) rfl) ea_nil)) (u_bar_masks sh (ht.ex e14)) (fun v H1 H2 H3 e ⟨M, ev, hn, hm⟩ => ⟨M, ev, fresh_back e hn, hm⟩)) fun v H5 e5 rr => ?_
  obtain ⟨M, rfl, _, hM⟩ := rr
  refine q_asgP (evp_c (ea_cons (ev_var rfl) ea_nil) (u_ways hM hml h12)) fun v H6 e6 rr => ?_
  obtain ⟨wa, rfl, hw⟩ := rr
  have e16 := e14.trans (e5.trans e6)
  refine q_asgP (evp_m0 (ev_var rfl) (e16 _ _ hti) rfl (u_Table_pairs (ht.ex e16) sh) LRel.back) fun v H7 e7 rr => ?_
  obtain ⟨pa, xs, rfl, _, hpa, hpl⟩ := LRel.pl rr
  refine q_asg (v := iV 0) ev_c fun H8 e8 => ?_
  refine q_asg (v := iV 0) ev_c fun H9 e9 => ?_
  have e69 := e7.trans (e8.trans e9)
  have hM9 := hM.ex (e6.trans e69)
  have hw9 := e69 _ _ hw
  have hpa9 := (e8.trans e9) _ _ hpa
  have hpl9 := hpl.ex (e8.trans e9)
  have e19 := e16.trans e69
  refine q_forP (evp_m0 (ev_var rfl) (e19 _ _ hoi) rfl (u_Order_pairs (ho.ex e19)) LRel.back) fun v H10 e10 rr => ?_
  obtain ⟨la, ys, rfl, _, hla, hlp⟩ := LRel.pl rr
  have hyl : ys.length = ks.length := by rw [hlp.length, List.length_map]
  generalize eN : (pairsOf G m n).length = N at *
  generalize ems : masksOf G m n kd = ms at *
  refine ⟨la, ys, rfl, sq_of hla, fun i σ' H' => (∃ z8 z9 z10, σ' = [some (.ref t), some (.ref o), some (.str kd.s), some (.ref M), some (.ref wa), some (.ref pa), some (iV (rank ms N 0 (ks.take i))), some (iV (setOf 0 (ks.take i))), z8, z9, z10]) ∧ Ex H10 H', ⟨⟨_, _, _, rfl⟩, Ex.refl _⟩, fun _ _ _ _ h => sq_of (h.2 _ _ hla), ?_, ?_⟩
  · rintro i x σ' H' hx ⟨⟨z8, z9, z10, rfl⟩, eH⟩
    obtain ⟨p, hpi, a, rfl, ha⟩ := paired_get hlp i x hx
    rw [List.getElem?_map] at hpi
    obtain ⟨k, hk, rfl⟩ := Option.map_eq_some_iff.mp hpi
    have hkN := hklt k (List.mem_of_getElem? hk)
    have hil := (List.getElem?_eq_some_iff.mp hk).1
    have eik := (List.getElem?_eq_some_iff.mp hk).2
    have e9' := e10.trans eH
    have haH := eH _ _ ha
    obtain ⟨S, eS⟩ : ∃ S, S = setOf 0 (ks.take i) := ⟨_, rfl⟩
    have hcut := run_cut (ks.take i) (ks.drop i) 0 (by rw [List.take_append_drop]; exact hrun)
    have hSlt := setOf_lt (ks.take i) 0 (Nat.two_pow_pos N) hcut.1
    rw [List.drop_eq_getElem_cons hil, eik] at hcut
    rw [← eS] at hcut hSlt ⊢
    have hkps : (pairsOf G m n)[k]? = some ((pairsOf G m n).getD k (0, 0)) := by
      rw [List.getD_eq_getElem?_getD, List.getElem?_eq_getElem (by omega)]
      rfl
    refine q_asg (v := iV k) (ev_index (ev_var rfl) (e9' _ _ hpa9) (hpl9.ex e9') (ev_var rfl) haH hkps pairs_nodup) fun H11 e11 => ?_
    obtain ⟨r0, er0⟩ : ∃ r0, r0 = rank ms N 0 (ks.take i) := ⟨_, rfl⟩
    rw [← er0]
    refine q_forI (evi_nums (evp_c (ea_cons (ev_var rfl) (ea_cons (ev_var (v := iV S) rfl) ea_nil)) (u_open_numbers (hM9.ex (e9'.trans e11)) hml (by omega)) LRel.back)) fun H12 e12' => ⟨fun j σ' H'' => (∃ z10, σ' = [some (.ref t), some (.ref o), some (.str kd.s), some (.ref M), some (.ref wa), some (.ref pa), some (iV (r0 + ((((opens ms N S).take j).filter fun c => decide (c < k)).map fun c => W ms N (S + 2 ^ c)).sum)), some (iV S), some (.ref a), some (iV k), z10]) ∧ Ex H12 H'', ⟨⟨_, rfl⟩, Ex.refl _⟩, fun _ _ _ _ h => h.2, ?_, ?_⟩
    · rintro j x σ' H'' Hx hj ⟨⟨z10, rfl⟩, eJ⟩ ⟨rfl, c, hc, rfl⟩
      have hco : c ∈ opens ms N S := List.mem_of_getElem? hc
      have hjl := (List.getElem?_eq_some_iff.mp hc).1
      have ecj := (List.getElem?_eq_some_iff.mp hc).2
      have eA := e9'.trans (e11.trans (e12'.trans eJ))
      refine s_when (b := decide (c < k)) (et_test (ev_op (ev_var (v := iV c) rfl) (ev_var (v := iV k) rfl) (rv_lt (decide_eq_decide.mpr (by omega))))) (fun hb Ha ea => ?_) (fun hb Ha ea => ⟨⟨some (iV c), ?_⟩, eJ.trans ea⟩)
      · refine s_aug (b := ((W ms N (S + 2 ^ c) : Nat) : Int)) rfl (ev_way h12 rfl rfl ((eA.trans ea) _ _ hw9) (ev_var rfl) (open_lt hco) (next_lt hSlt hco)) fun Hb eb => ⟨⟨some (iV c), ?_⟩, eJ.trans (ea.trans eb)⟩
        rw [List.take_succ_eq_append_getElem hjl, ecj, List.filter_append, List.map_append, List.sum_append]
        have hf : (([c] : List Nat).filter fun c => decide (c < k)) = [c] := by
          rw [List.filter_cons_of_pos (by exact hb)]; rfl
        rw [hf]
        have z1 : V.int (((r0 + ((((opens ms N S).take j).filter fun c => decide (c < k)).map fun c => W ms N (S + 2 ^ c)).sum : Nat) : Int) + ((W ms N (S + 2 ^ c) : Nat) : Int)) = iV (r0 + (((((opens ms N S).take j).filter fun c => decide (c < k)).map fun c => W ms N (S + 2 ^ c)).sum + (List.map (fun c => W ms N (S + 2 ^ c)) [c]).sum)) := congrArg V.int (by simp; omega)
        rw [← z1]
        rfl
      · rw [List.take_succ_eq_append_getElem hjl, ecj, List.filter_append, List.filter_cons_of_neg (by rw [hb]; decide), List.filter_nil, List.append_nil]
        rfl
    · rintro σ' H'' ⟨⟨z10, rfl⟩, eJ⟩
      rw [List.take_length]
      refine s_aug (a := (S : Int)) (b := ((2 ^ k : Nat) : Int)) rfl (ev_c' (ea_cons (ev_var rfl) ea_nil) (u_bit_of (by omega))) fun Hb eb => ⟨⟨some (.ref a), some (iV k), z10, ?_⟩, eH.trans (e11.trans (e12'.trans (eJ.trans eb)))⟩
      have et : ks.take (i + 1) = ks.take i ++ [k] := by rw [List.take_succ_eq_append_getElem hil, eik]
      rw [et, setOf_app, rank_cut, ← eS, ← er0]
      have z1 : V.int ((S : Int) + ((2 ^ k : Nat) : Int)) = iV (S + 2 ^ k) := congrArg V.int (by push_cast; rfl)
      rw [z1]
      rfl
  · rintro σ' H' ⟨⟨z8, z9, z10, rfl⟩, eH⟩
    rw [hyl, List.take_length]
    exact s_ret (ev_var rfl) fun Hb eb => q Hb (e19.trans (e10.trans (eH.trans eb)))
theorem u_number_of {K : PySem.W.Frag} {H : Hp} {t o : Addr} {G : Grid} {m n : Nat} {kd : Kd} {ks : List Nat} (sh : Sh G m n) (ht : TbA K H t G) (ho : OrA K H o (ordOf G m n ks)) (h12 : (pairsOf G m n).length ≤ 12) (hr : Run (masksOf G m n kd) (pairsOf G m n).length 0 ks) : PmP (p_number_of K) [.ref t, .ref o, .str kd.s] H (Is (iV (rank (masksOf G m n kd) (pairsOf G m n).length 0 ks))) := pmp_ret fun H1 Q e q => ⟨t, o, G, m, n, kd, ks, rfl, sh, ht.ex e, ho.ex e, h12, hr, q⟩
end
end K50
end
section /- LW1 -/
set_option Elab.async false
set_option linter.all false
set_option maxRecDepth 100000
set_option maxHeartbeats 1000000
/-! The law's draws. -/
namespace K50
open PySem PySem.Spec L2 Evl EV GF GenW
open PyProof.Rows hiding St
/-- a list that grows at its end, all else stands -/
def Bld {ι : Type} (M : Addr) (H0 H : Hp) (F : Hp → V → ι → Prop) (items : List ι) : Prop := Ex (hid M H0) H ∧ ∃ ys, H M = some (.lst ys) ∧ Paired (F (hid M H)) ys items
section
variable {ι : Type} {M : Addr} {H0 H H' : Hp} {F : Hp → V → ι → Prop} {items : List ι}
theorem Bld.new (h : H M = some (.lst [])) : Bld M H H F [] := ⟨hid_le, [], h, .nil⟩
theorem Bld.ex (hF : ∀ H H' v x, Ex H H' → F H v x → F H' v x) (h : Bld M H0 H F items) (e : Ex H H') : Bld M H0 H' F items :=
  let ⟨e0, ys, h1, h2⟩ := h; ⟨e0.trans e, ys, e _ _ h1, paired_mono h2 fun a b => hF _ _ _ _ (hid_ex e)⟩
theorem Bld.h0 (h : Bld M H0 H F items) {E : Hp} (e : Ex E H0) (n : E M = none) : Ex E H := (hid_of e n).trans h.1
theorem s_appB {K : PySem.W.Frag} {σ : L2.St} {H : Hp} {to te : TE} {l : Addr} {xs : List V} {R : Rel} {D : Ends} (hl : H l = some (.lst xs)) (ho : Ev to σ H (.ref l)) (h : EvP te σ H R) (hz : xs.length < 100000) (k : ∀ v Ha Hb, Ex H Ha → Ex Ha Hb → R v Ha Hb → D.nx σ (upd Hb l (.lst (xs ++ [v])))) : tDrop (tBM K "list" rAppend to (tCons te tNil)) D σ H :=
  ho H (Ex.refl H) _ fun H1 e1 => ⟨.inl ⟨rfl, xs, sq_of (e1 l _ hl)⟩, h H1 e1 _ fun v H2 e2 r => ⟨l, xs, v, rfl, rfl, e2 l _ (e1 l _ hl), sz_lt hz, k v H1 H2 e1 e2 r⟩⟩
theorem s_bld {K : PySem.W.Frag} {σ : L2.St} {D : Ends} {to te : TE} {item : ι} {R : Rel} (hF : ∀ H H' v x, Ex H H' → F H v x → F H' v x) (h : Bld M H0 H F items) (hl : items.length < 100000) (ho : Ev to σ H (.ref M)) (he : EvP te σ H R)
    (hr : ∀ v Ha Hb, Ex H Ha → Ex Ha Hb → Ha M ≠ none → R v Ha Hb → F (hid M Hb) v item) (k : ∀ H', Bld M H0 H' F (items ++ [item]) → D.nx σ H') : tDrop (tBM K "list" rAppend to (tCons te tNil)) D σ H := by
  obtain ⟨e0, ys, h1, h2⟩ := h
  refine s_appB h1 ho he (by rw [h2.length]; exact hl) fun v Ha Hb ea eb r => k _ ⟨?_, ys ++ [v], upd_same, ?_⟩
  · exact Ex.mut (e0.trans (ea.trans eb)) (by unfold hid; rw [if_pos rfl])
  · rw [hid_upd]
    exact (paired_mono h2 fun a b => hF _ _ _ _ (hid_ex (ea.trans eb))).snoc (hr v Ha Hb ea eb (fun z => by rw [ea _ _ h1] at z; cases z) r)
theorem q_bld {K : PySem.W.Frag} {σ : L2.St} {D : Ends} {tz : TS} {to te : TE} {item : ι} {R : Rel} (hF : ∀ H H' v x, Ex H H' → F H v x → F H' v x) (h : Bld M H0 H F items) (hl : items.length < 100000) (ho : Ev to σ H (.ref M)) (he : EvP te σ H R)
    (hr : ∀ v Ha Hb, Ex H Ha → Ex Ha Hb → Ha M ≠ none → R v Ha Hb → F (hid M Hb) v item) (k : ∀ H', Bld M H0 H' F (items ++ [item]) → tz D σ H') : tSeq (tDrop (tBM K "list" rAppend to (tCons te tNil))) tz D σ H := s_bld (D := { D with nx := tz D }) hF h hl ho he hr k
theorem Bld.lrel (h : Bld M H0 H F items) {E : Hp} (n : E M = none) : LRel F items (.ref M) E H := let ⟨_, ys, h1, h2⟩ := h; ⟨M, ys, rfl, n, h1, h2⟩
end
abbrev IvA : Hp → V → Int → Prop := fun _ v i => v = .int i
theorem paired_int : ∀ {xs : List V} {ns : List Int}, Paired (fun v i => v = V.int i) xs ns → xs = ns.map V.int
  | _, _, .nil => rfl
  | _, _, .cons h t => by rw [h, paired_int t]; rfl
theorem Bld.int {M : Addr} {H0 H : Hp} {ds : List Int} (h : Bld M H0 H IvA ds) : H M = some (.lst (ds.map V.int)) := by
  obtain ⟨_, ys, h1, h2⟩ := h
  rw [h1, paired_int h2]
section
variable {σ : L2.St} {H : Hp} {te : TE} {i : Int}
abbrev rInt1 : List V → Hp → VK → Prop := fun xs H Q => (∃ i, xs = [.int i] ∧ Q (.int i) H) ∨ ∃ k, xs = [.bl k] ∧ Q (.int (if k then 1 else 0)) H
theorem ev_int (h : Ev te σ H (.int i)) : Ev (tCB rInt1 (tCons te tNil)) σ H (.int i) := ev_cb (ea_cons h ea_nil) fun H1 e Q q => .inl ⟨i, rfl, q H1 (Ex.refl H1)⟩
end
/-- the script, read only -/
def ScA (K : PySem.W.Frag) (H : Hp) (l : Addr) : Prop := ∃ ns : List Int, SqL K H l (ns.map V.int)
theorem ScA.ex {K : PySem.W.Frag} {H H' : Hp} {l : Addr} (h : ScA K H l) (e : Ex H H') : ScA K H' l := let ⟨ns, h1⟩ := h; ⟨ns, ex_l e h1⟩
def mixF (c k : Int) : Int :=
  let a := ((c + 7919 * k + 1) * 48271) % 2147483647
  let b := (a * (a / 1009 + 69621)) % 2147483647
  (b * (b / 2003 + 40692)) % 2147483399
theorem mixF_b (c k : Int) : 0 ≤ mixF c k ∧ mixF c k < 2147483399 := by
  unfold mixF
  exact ⟨Int.emod_nonneg _ (by decide), Int.emod_lt_of_pos _ (by decide)⟩
section
variable {P : Program} {w : World} {K : PySem.W.Frag} {mg : Str → Option Value} {base : Heap} (T : Tx K mg)

def p__law_cell (K : PySem.W.Frag) : Pm := fun vs H Q => ∃ (l : Addr) (k : Nat), vs = [.ref l, iV k] ∧ ScA K H l ∧ ∀ i H', Ex H H' → Q (.int i) H'
theorem sc__law_cell : FnScope ["_law_script", "_law_k"] ["_law_script", "_law_k"] (defScope s__law_cell) := ⟨rfl, rfl, rfl, by decide +kernel, rfl, by decide +kernel, by decide +kernel⟩
include T in
theorem ok__law_cell : FnP P w K mg base 1 (He.ga K "_law_cell") (p__law_cell K) := by
  obtain ⟨fd, F⟩ := T.f__law_cell
  refine okR F sc__law_cell (fun _ _ _ _ _ _ us hl => match us, hl with | [_, _], _ => rfl) (fun vs H Q h => by obtain ⟨l, k, rfl, _⟩ := h; rfl) fun cdv A outer s H vs Q hr h => ⟨_, (pss_cons (ps_if (pt_cmpR op_lt (pv 1) (pe_callB call_len_seq (by rfl) T.n_len PySem.boot_len (pa_cons (pv 0) pa_nil)) (nomark _)) (pss_one (ps_ret (pe_callTy call_int1 (by rfl) T.n_int PyProof.Rows.boot_int (pa_cons (pe_ix ix_list (pv 0) (pv 1) (fun _ _ => rfl)) pa_nil)))) pss_nil) (pss_one (ps_ret pe_int))), ?_⟩
  obtain ⟨l, k, rfl, ⟨ns, hs⟩, q⟩ := h
  refine q_when (b := decide (k < ns.length)) (et_test (ev_op (ev_var (v := iV k) rfl) (ev_len (ev_var rfl) hs) (rv_lt (by rw [List.length_map]; exact decide_eq_decide.mpr (by omega))))) (fun hb H1 e1 => ?_) (fun hb H1 e1 => ?_)
  · have hk : k < ns.length := of_decide_eq_true hb
    exact s_ret (ev_int (i := ns[k]) (ev_op (ev_var rfl) (ev_var rfl) (rv_ixL (ex_l e1 hs) (atI_nat (by rw [List.getElem?_map, List.getElem?_eq_getElem hk]; rfl))))) fun H2 e2 => q _ H2 (e1.trans e2)
  · exact s_ret ev_c fun H2 e2 => q _ H2 (e1.trans e2)
include T in
theorem kp__law_cell : PySem.W.keepIn K (.ref (He.ga K "_law_cell")) = true := let ⟨_, F⟩ := T.f__law_cell; F.kp
theorem u__law_cell {K : PySem.W.Frag} {H : Hp} {l : Addr} {k : Nat} (h : ScA K H l) : PmP (p__law_cell K) [.ref l, iV k] H (fun v _ _ => ∃ i : Int, v = .int i) := fun H1 e Q q => ⟨l, k, rfl, h.ex e, fun i H2 e2 => q _ H2 e2 ⟨i, rfl⟩⟩
def p__law_mixed : Pm := fun vs H Q => ∃ (c k : Int), vs = [.int c, .int k] ∧ RetB (.int (mixF c k)) H Q
theorem sc__law_mixed : FnScope ["_law_cell_here", "_law_k", "_law_number"] ["_law_cell_here", "_law_k"] (defScope s__law_mixed) := ⟨rfl, rfl, rfl, by decide +kernel, rfl, by decide +kernel, by decide +kernel⟩
include T in
theorem ok__law_mixed : FnP P w K mg base 1 (He.ga K "_law_mixed") p__law_mixed := by
  obtain ⟨fd, F⟩ := T.f__law_mixed
  refine okR F sc__law_mixed (fun _ _ _ _ _ _ us hl => match us, hl with | [_, _], _ => rfl) (fun vs H Q h => by obtain ⟨c, k, rfl, _⟩ := h; rfl) fun cdv A outer s H vs Q hr h => ⟨_, (pss_cons (ps_set (i := 2) sc__law_mixed.nd rfl (.inl rfl) (pe_op op_mod (pe_callTy call_int1 (by rfl) T.n_int PyProof.Rows.boot_int (pa_cons (pe_op op_mul (pe_op op_add (pe_op op_add (pv 0) (pe_op op_mul pe_int (pv 1))) pe_int) pe_int) pa_nil)) pe_int)) (pss_cons (ps_set (i := 2) sc__law_mixed.nd rfl (.inl rfl) (pe_op op_mod (pe_callTy call_int1 (by rfl) T.n_int PyProof.Rows.boot_int (pa_cons (pe_op op_mul (pv 2) (pe_op op_add (pe_op op_fdiv (pv 2) pe_int) pe_int)) pa_nil)) pe_int)) (pss_one (ps_ret (pe_op op_mod (pe_callTy call_int1 (by rfl) T.n_int PyProof.Rows.boot_int (pa_cons (pe_op op_mul (pv 2) (pe_op op_add (pe_op op_fdiv (pv 2) pe_int) pe_int)) pa_nil)) pe_int))))), ?_⟩
  obtain ⟨c, k, rfl, q⟩ := h
  obtain ⟨a, ea⟩ : ∃ a, a = ((c + 7919 * k + 1) * 48271) % 2147483647 := ⟨_, rfl⟩
  obtain ⟨b, eb⟩ : ∃ b, b = (a * (a / 1009 + 69621)) % 2147483647 := ⟨_, rfl⟩
  have ha : 0 ≤ a ∧ a < 2147483647 := by rw [ea]; exact ⟨Int.emod_nonneg _ (by decide), Int.emod_lt_of_pos _ (by decide)⟩
  have hb : 0 ≤ b ∧ b < 2147483647 := by rw [eb]; exact ⟨Int.emod_nonneg _ (by decide), Int.emod_lt_of_pos _ (by decide)⟩
  have hm : mixF c k = (b * (b / 2003 + 40692)) % 2147483399 := by rw [eb, ea]; rfl
  rw [hm] at q
  refine q_asg (v := .int a) (ev_is (ev_op (ev_int (ev_op (ev_op (ev_op (ev_var rfl) (ev_op ev_c (ev_var rfl) (rv_I (.inl ⟨by decide, by decide⟩))) rv_I0) ev_c rv_I0) ev_c (rv_I (.inr ⟨by decide, by decide⟩)))) ev_c (rv_I (show (0 : Int) < 2147483647 by decide))) (by rw [ea])) fun H1 e1 => ?_
  refine q_asg (v := .int b) (ev_is (ev_op (ev_int (ev_op (ev_var rfl) (ev_op (ev_op (ev_var rfl) ev_c (rv_I ⟨by decide, by decide⟩)) ev_c rv_I0) (rv_I (.inl ⟨by omega, by omega⟩)))) ev_c (rv_I (show (0 : Int) < 2147483647 by decide))) (by rw [eb])) fun H2 e2 => ?_
  exact s_ret (ev_op (ev_int (ev_op (ev_var rfl) (ev_op (ev_op (ev_var rfl) ev_c (rv_I ⟨by decide, by decide⟩)) ev_c rv_I0) (rv_I (.inl ⟨by omega, by omega⟩)))) ev_c (rv_I (show (0 : Int) < 2147483399 by decide))) fun H3 e3 => q H3 (e1.trans (e2.trans e3))
include T in
theorem kp__law_mixed : PySem.W.keepIn K (.ref (He.ga K "_law_mixed")) = true := let ⟨_, F⟩ := T.f__law_mixed; F.kp
theorem u__law_mixed {H : Hp} {c k : Int} : PmP p__law_mixed [.int c, .int k] H (Is (.int (mixF c k))) := pmp_ret fun H1 Q e q => ⟨c, k, rfl, q⟩
def p__law_draws (K : PySem.W.Frag) : Pm := fun vs H Q => ∃ (l sa : Addr) (k : Nat) (ss : List Int), vs = [.ref l, iV k, .ref sa] ∧ ScA K H l ∧ k < 1000 ∧ H sa = some (.lst (ss.map V.int)) ∧ ss.length ≤ 1000 ∧ (∀ s ∈ ss, 0 < s ∧ s.natAbs < 2 ^ 250) ∧ ∀ v ds H', Ex H H' → LRel IvA ds v H H' → Paired (fun d s : Int => 0 ≤ d ∧ d < s) ds ss → Q v H'
theorem sc__law_draws : FnScope ["_law_script", "_law_spot", "_law_sizes", "_law_cell_here", "_law_left", "_law_drawn", "_law_k", "_law_size", "_law_number"] ["_law_script", "_law_spot", "_law_sizes"] (defScope s__law_draws) := ⟨rfl, rfl, rfl, by decide +kernel, rfl, by decide +kernel, by decide +kernel⟩
include T in
theorem ok__law_draws : FnP P w K mg base 3 (He.ga K "_law_draws") (p__law_draws K) := by
  obtain ⟨fd, F⟩ := T.f__law_draws
  refine okR F sc__law_draws (fun _ _ _ _ _ _ us hl => match us, hl with | [_, _, _], _ => rfl) (fun vs H Q h => by obtain ⟨l, sa, k, ss, rfl, _⟩ := h; rfl) fun cdv A outer s H vs Q hr h => ⟨_, (pss_cons (ps_set (i := 3) sc__law_draws.nd rfl (.inl rfl) (pe_cR (ok__law_cell T) (hr.mono (by decide)) (by rfl) T.g__law_cell (kp__law_cell T) (pa_cons (pv 0) (pa_cons (pv 1) pa_nil)))) (pss_cons (ps_set (i := 4) sc__law_draws.nd rfl (.inl rfl) (pv 3)) (pss_cons (ps_set (i := 5) sc__law_draws.nd rfl (.inl rfl) (pe_lst pa_nil)) (pss_cons (ps_for PassesOwn.never rfl (pi_enum (by rfl) T.n_enumerate (pa_cons (pv 2) pa_nil)) (pg_tup rfl (pgs_cons (pg_name (i := 6) sc__law_draws.nd rfl (.inl rfl)) (pgs_cons (pg_name (i := 7) sc__law_draws.nd rfl (.inl rfl)) pgs_nil))) (pss_one (ps_if (PW.pt (pw_and (pt_cmpR op_ge (pv 3) (pe_op op_pow pe_int pe_int) (nomark _)) (pw_and1 (pt_cmpR op_gt (pv 4) pe_int (nomark _))))) (pss_cons (ps_expr (pe_bm PySem.F.plainAttrs_list PySem.F.slot_list_append PySem.F.type_list_append mt_append (pv 5) (pa_cons (pe_op op_mod (pe_callTy call_int1 (by rfl) T.n_int PyProof.Rows.boot_int (pa_cons (pv 4) pa_nil)) (pv 7)) pa_nil))) (pss_one (ps_set (i := 4) sc__law_draws.nd rfl (.inl rfl) (pe_op op_fdivW (pv 4) (pv 7))))) (pss_cons (ps_set (i := 8) sc__law_draws.nd rfl (.inl rfl) (pe_op op_fdiv (pe_cR (ok__law_mixed T) (hr.mono (by decide)) (by rfl) T.g__law_mixed (kp__law_mixed T) (pa_cons (pv 3) (pa_cons (pe_op op_add (pe_op op_mul pe_int (pv 1)) (pv 6)) pa_nil))) pe_int)) (pss_cons (ps_if (pt_cmpR op_gt (pv 7) (pe_op op_pow pe_int pe_int) (nomark _)) (pss_cons (ps_set (i := 8) sc__law_draws.nd rfl (.inl rfl) (pe_op op_mul (pv 8) (pe_op op_add (pe_op op_pow pe_int pe_int) pe_int))) (pss_one (ps_aug (i := 8) sc__law_draws.nd rfl (.inl rfl) (pe_op op_fdiv (pe_cR (ok__law_mixed T) (hr.mono (by decide)) (by rfl) T.g__law_mixed (kp__law_mixed T) (pa_cons (pe_op op_add (pv 3) pe_int) (pa_cons (pe_op op_add (pe_op op_mul pe_int (pv 1)) (pv 6)) pa_nil))) pe_int) ip_add))) pss_nil) (pss_one (ps_expr (pe_bm PySem.F.plainAttrs_list PySem.F.slot_list_append PySem.F.type_list_append mt_append (pv 5) (pa_cons (pe_op op_mod (pe_callTy call_int1 (by rfl) T.n_int PyProof.Rows.boot_int (pa_cons (pv 8) pa_nil)) (pv 7)) pa_nil))))))))) (pss_one (ps_ret (pv 5))))))), ?_⟩
  obtain ⟨l, sa, k, ss, rfl, hs, hk, hsa, hsl, hss, q⟩ := h
  refine q_asgP (evp_c (ea_cons (ev_var rfl) (ea_cons (ev_var rfl) ea_nil)) (u__law_cell hs)) fun v H1 e1 r => ?_
  obtain ⟨c, rfl⟩ := r
  refine q_asg (v := .int c) (ev_var rfl) fun H2 e2 => ?_
  refine q_asgL (el_lst ea_nil (by show 0 ≤ 100000; decide)) fun F H3 hFn e3 hF => ?_
  have e12 := e1.trans e2
  have e13 := e12.trans e3
  have hFH : H F = none := fresh_back e12 hFn
  have nsF : sa ≠ F := ne_of_none hsa hFH
  refine q_forEnum (ea_cons (ev_var rfl) ea_nil) (sq_of (e13 _ _ hsa)) (fun i σ' H' => (∃ left z6 z7 z8, σ' = [some (.ref l), some (iV k), some (.ref sa), some (.int c), some (.int left), some (.ref F), z6, z7, z8]) ∧ ∃ ds, Bld F H3 H' IvA ds ∧ Paired (fun d s : Int => 0 ≤ d ∧ d < s) ds (ss.take i)) (fun H4 e4 => ⟨⟨_, _, _, _, rfl⟩, [], (Bld.new hF).ex (fun _ _ _ _ _ h => h) e4, .nil⟩) (fun i σ' H' _ p => sq_of (let ⟨_, hB, _⟩ := p.2; hB.1 _ _ (by rw [hid_ne nsF]; exact e13 _ _ hsa))) ?_ ?_
  · rintro i x σ' H' U e2' ⟨⟨left, z6, z7, z8, rfl⟩, ds, hB, hp⟩ hU
    rw [List.getElem?_map] at e2'
    obtain ⟨s, hsi, rfl⟩ := Option.map_eq_some_iff.mp e2'
    obtain ⟨hs0, hs3⟩ := hss s (List.mem_of_getElem? hsi)
    have hil : i < ss.length := (List.getElem?_eq_some_iff.mp hsi).1
    have hdl : ds.length = i := by rw [hp.length, List.length_take]; omega
    have hFm : ∀ H H' v x, Ex H H' → IvA H v x → IvA H' v x := fun _ _ _ _ _ h => h
    have snoc : ∀ d : Int, 0 ≤ d → d < s → Paired (fun d s : Int => 0 ≤ d ∧ d < s) (ds ++ [d]) (ss.take (i + 1)) := fun d h1 h2 => by
      rw [List.take_succ_eq_append_getElem hil, (List.getElem?_eq_some_iff.mp hsi).2]
      exact hp.snoc ⟨h1, h2⟩
    refine g_pair hU ?_
    have hB2 : Bld F H3 (upd H' U (.tup [.int (i : Int), .int s])) IvA ds := hB.ex hFm (Ex.new hU)
    refine s_if (b := decide (10 ^ 18 ≤ c) && decide (0 < left)) (et_and (et_test (ev_op (ev_var rfl) (ev_op ev_c ev_c (rv_I ⟨by decide, by decide, by decide⟩)) (rv_ge rfl))) fun _ => et_test (ev_op (ev_var rfl) ev_c (rv_gt rfl))) (fun hb Ha ea => ?_) (fun hb Ha ea => ?_)
    · have hl0 : 0 < left := of_decide_eq_true (Bool.and_eq_true_iff.mp hb).2
      refine q_bld (item := left % s) hFm (hB2.ex hFm ea) (by omega) (ev_var rfl) (evp_of (ev_op (ev_int (ev_var (v := .int left) rfl)) (ev_var (v := .int s) rfl) (rv_I hs0))) (fun v _ _ _ _ _ ev => ev) fun Hb hBb => ?_
      refine s_asg (v := .int (left / s)) (ev_op (ev_var rfl) (ev_var (v := .int s) rfl) (rv_I (wide_div hs0 hs3 (by decide) (by decide)))) fun Hc ec => ⟨⟨_, _, _, _, rfl⟩, _, hBb.ex hFm ec, snoc _ (Int.emod_nonneg _ (by omega)) (Int.emod_lt_of_pos _ hs0)⟩
    · obtain ⟨hm1, hm2⟩ := mixF_b c (1009 * (k : Int) + (i : Int))
      have mk : ∀ {c' : Int} {te : TE} {σ : L2.St} {H : Hp}, Ev te σ H (.int c') → σ[1]? = some (some (iV k)) → σ[6]? = some (some (.int (i : Int))) → Ev (tOp (rI CDiv fun i j => .int (i / j)) (tCallR p__law_mixed (tCons te (tCons (tOp (rI0 fun i j => .int (i + j)) (tOp (rI CMul fun i j => .int (i * j)) (tC (.int 1009)) (tVar 1)) (tVar 6)) tNil))) (tC (.int 16))) σ H (.int (mixF c' (1009 * (k : Int) + (i : Int)) / 16)) := fun h h1 h6 =>
        ev_op (ev_c' (ea_cons h (ea_cons (ev_op (ev_op ev_c (ev_var h1) (rv_I (.inl ⟨by decide, by decide⟩))) (ev_var h6) rv_I0) ea_nil)) u__law_mixed) ev_c (rv_I ⟨by decide, by decide⟩)
      refine q_asg (v := .int (mixF c (1009 * (k : Int) + (i : Int)) / 16)) (mk (ev_var rfl) rfl rfl) fun Hb eb => ?_
      have hB3 := hB2.ex hFm (ea.trans eb)
      have app : ∀ (D' : Ends) (hD : D'.nx = fun σ' H' => (∃ left z6 z7 z8, σ' = [some (.ref l), some (iV k), some (.ref sa), some (.int c), some (.int left), some (.ref F), z6, z7, z8]) ∧ ∃ ds, Bld F H3 H' IvA ds ∧ Paired (fun d s : Int => 0 ≤ d ∧ d < s) ds (ss.take (i + 1))) (num : Int) (Hx : Hp), Bld F H3 Hx IvA ds → tDrop (tBM K "list" rAppend (tVar 5) (tCons (tOp (rI (fun _ j => 0 < j) fun i j => .int (i % j)) (tCB rInt1 (tCons (tVar 8) tNil)) (tVar 7)) tNil)) D' [some (.ref l), some (iV k), some (.ref sa), some (.int c), some (.int left), some (.ref F), some (.int (i : Int)), some (.int s), some (.int num)] Hx := fun D' hD num Hx hx =>
        s_bld (item := num % s) hFm hx (by omega) (ev_var rfl) (evp_of (ev_op (ev_int (ev_var (v := .int num) rfl)) (ev_var (v := .int s) rfl) (rv_I hs0))) (fun v _ _ _ _ _ ev => ev) fun Hb hBb => by rw [hD]; exact ⟨⟨_, _, _, _, rfl⟩, _, hBb, snoc _ (Int.emod_nonneg _ (by omega)) (Int.emod_lt_of_pos _ hs0)⟩
      refine q_when (b := decide (10 ^ 8 < s)) (et_test (ev_op (ev_var rfl) (ev_op ev_c ev_c (rv_I ⟨by decide, by decide, by decide⟩)) (rv_gt rfl))) (fun _ Hc ec => ?_) (fun _ Hc ec => app _ rfl _ Hc (hB3.ex hFm ec))
      refine q_asg (v := .int (mixF c (1009 * (k : Int) + (i : Int)) / 16 * (10 ^ 22 + 9))) (ev_op (ev_var rfl) (ev_op (ev_op ev_c ev_c (rv_I ⟨by decide, by decide, by decide⟩)) ev_c rv_I0) (rv_I (.inl ⟨by omega, by omega⟩))) fun Hd ed => ?_
      exact s_aug rfl (mk (ev_op (ev_var rfl) ev_c rv_I0) rfl rfl) fun He ee => app _ rfl _ He (hB3.ex hFm (ec.trans (ed.trans ee)))
  · rintro σ' H' ⟨⟨left, z6, z7, z8, rfl⟩, ds, hB, hp⟩
    rw [List.length_map, List.take_length] at hp
    refine s_ret (ev_var rfl) fun H5 e5 => ?_
    have hB5 := hB.ex (fun _ _ _ _ _ h => h) e5
    exact q _ ds H5 (hB5.h0 e13 hFH) (hB5.lrel hFH) hp
include T in
theorem kp__law_draws : PySem.W.keepIn K (.ref (He.ga K "_law_draws")) = true := let ⟨_, F⟩ := T.f__law_draws; F.kp
theorem u__law_draws {K : PySem.W.Frag} {H : Hp} {l sa : Addr} {k : Nat} {ss : List Int} (h : ScA K H l) (hk : k < 1000) (hs : H sa = some (.lst (ss.map V.int))) (hl : ss.length ≤ 1000) (hb : ∀ s ∈ ss, 0 < s ∧ s.natAbs < 2 ^ 250) : PmP (p__law_draws K) [.ref l, iV k, .ref sa] H (fun v Ha Hb => ∃ ds, LRel IvA ds v Ha Hb ∧ Paired (fun d s : Int => 0 ≤ d ∧ d < s) ds ss) := fun H1 e Q q => ⟨l, sa, k, ss, rfl, h.ex e, hk, e _ _ hs, hl, hb, fun v ds H2 e2 r hp => q _ H2 e2 ⟨ds, r, hp⟩⟩
end
end K50
end
section /- LW2 -/
set_option Elab.async false
set_option linter.all false
set_option maxRecDepth 100000
set_option maxHeartbeats 1000000
/-! The law's spots, copy, cross. -/
namespace K50
open PySem PySem.Spec L2 Evl EV GF GenW
open PyProof.Rows hiding St
def rowP (G : Grid) (i j : Nat) : List Pr := (List.range j).filterMap fun j => if (cell G i j).isSome then some (i, j) else none
def pairP (G : Grid) (n i : Nat) : List Pr := (List.range i).flatMap fun i => rowP G i n
theorem rowP_succ (G : Grid) (i j : Nat) : rowP G i (j + 1) = rowP G i j ++ (if (cell G i j).isSome then [(i, j)] else []) := by
  unfold rowP
  rw [List.range_succ, List.filterMap_append]
  congr 1
  by_cases h : (cell G i j).isSome = true
  · rw [if_pos h, List.filterMap_cons, if_pos h]; rfl
  · rw [if_neg h, List.filterMap_cons, if_neg h]; rfl
theorem pairP_succ (G : Grid) (n i : Nat) : pairP G n (i + 1) = pairP G n i ++ rowP G i n := by
  unfold pairP
  rw [List.range_succ, List.flatMap_append]
  congr 1
  exact List.append_nil _
theorem rowP_len (G : Grid) (i j : Nat) : (rowP G i j).length ≤ j := by
  have := List.length_filterMap_le (fun j => if (cell G i j).isSome then some (i, j) else none) (List.range j)
  rw [List.length_range] at this
  exact this
theorem pairP_len (G : Grid) (n i : Nat) : (pairP G n i).length ≤ i * n := by
  induction i with
  | zero => exact Nat.zero_le _
  | succ i ih =>
    rw [pairP_succ, List.length_append, Nat.succ_mul]
    have := rowP_len G i n
    omega
theorem gra_at {H : Hp} {rs : List V} {G : Grid} (hp : Paired (RowA H) rs G) {i : Nat} {x : V} (hx : rs[i]? = some x) : ∃ b r, x = .ref b ∧ H b = some (.lst (r.map cV)) ∧ G[i]? = some r := by
  obtain ⟨r, hr, b, rfl, hb⟩ := paired_get hp i x hx
  exact ⟨b, r, rfl, hb, hr⟩
theorem cell_eq {G : Grid} {i j : Nat} {r : List (Option Int)} {c : Option Int} (hr : G[i]? = some r) (hc : r[j]? = some c) : cell G i j = c := by
  unfold cell
  have e1 : G.getD i [] = r := by rw [List.getD_eq_getElem?_getD, hr]; rfl
  rw [e1, List.getD_eq_getElem?_getD, hc]
  rfl
section
variable {P : Program} {w : World} {K : PySem.W.Frag} {mg : Str → Option Value} {base : Heap} (T : Tx K mg)

def p__law_spots (K : PySem.W.Frag) : Pm := fun vs H Q => ∃ (g : Addr) (G : Grid) (m n : Nat), vs = [.ref g] ∧ GrA H g G ∧ Sh G m n ∧ ∀ v H', Ex H H' → LRel PrA (pairsOf G m n) v H H' → Q v H'
theorem sc__law_spots : FnScope ["_law_grid_here", "_law_spots_here", "_law_i", "_law_row", "_law_j", "_law_price"] ["_law_grid_here"] (defScope s__law_spots) := ⟨rfl, rfl, rfl, by decide +kernel, rfl, by decide +kernel, by decide +kernel⟩
include T in
theorem ok__law_spots : FnP P w K mg base 2 (He.ga K "_law_spots") (p__law_spots K) := by
  obtain ⟨fd, F⟩ := T.f__law_spots
  refine okR F sc__law_spots (fun _ _ _ _ _ _ us hl => match us, hl with | [_], _ => rfl) (fun vs H Q h => by obtain ⟨g, G, m, n, rfl, _⟩ := h; rfl) fun cdv A outer s H vs Q hr h => ⟨_, (pss_cons (ps_set (i := 1) sc__law_spots.nd rfl (.inl rfl) (pe_lst pa_nil)) (pss_cons (ps_for PassesOwn.never rfl (pi_enum (by rfl) T.n_enumerate (pa_cons (pv 0) pa_nil)) (pg_tup rfl (pgs_cons (pg_name (i := 2) sc__law_spots.nd rfl (.inl rfl)) (pgs_cons (pg_name (i := 3) sc__law_spots.nd rfl (.inl rfl)) pgs_nil))) (pss_one (ps_for PassesOwn.never rfl (pi_enum (by rfl) T.n_enumerate (pa_cons (pv 3) pa_nil)) (pg_tup rfl (pgs_cons (pg_name (i := 4) sc__law_spots.nd rfl (.inl rfl)) (pgs_cons (pg_name (i := 5) sc__law_spots.nd rfl (.inl rfl)) pgs_nil))) (pss_one (ps_if (pt_cmpR op_notN (pv 5) pe_non (nomark _)) (pss_one (ps_expr (pe_bm PySem.F.plainAttrs_list PySem.F.slot_list_append PySem.F.type_list_append mt_append (pv 1) (pa_cons (pe_tup (pa_cons (pv 2) (pa_cons (pv 4) pa_nil))) pa_nil)))) pss_nil))))) (pss_one (ps_ret (pv 1))))), ?_⟩
  obtain ⟨g, G, m, n, rfl, ⟨rs, hrs, hp⟩, sh, q⟩ := h
  refine q_asgL (el_lst ea_nil (by show 0 ≤ 100000; decide)) fun M H1 hMn e1 hM => ?_
  have h64 : m * n ≤ 64 := Nat.mul_le_mul sh.m8 sh.n8
  have hrl : rs.length = m := by rw [hp.length, sh.len]
  have ngM : g ≠ M := ne_of_none hrs hMn
  refine q_forEnum (ea_cons (ev_var rfl) ea_nil) (sq_of (e1 _ _ hrs)) (fun i σ' H' => (∃ z2 z3 z4 z5, σ' = [some (.ref g), some (.ref M), z2, z3, z4, z5]) ∧ Bld M H1 H' PrA (pairP G n i)) (fun H2 e2 => ⟨⟨_, _, _, _, rfl⟩, (Bld.new hM).ex PrA.ex' e2⟩)
    (fun i σ' H' _ p => sq_of ((p.2.h0 e1 hMn) _ _ hrs)) ?_ ?_
  · rintro i x σ' H' U hx ⟨⟨z2, z3, z4, z5, rfl⟩, hB⟩ hU
    obtain ⟨b, r, rfl, hb, hr⟩ := gra_at hp hx
    have hrn := sh.row r (List.mem_of_getElem? hr)
    have him : i < m := by rw [← hrl]; exact (List.getElem?_eq_some_iff.mp hx).1
    refine g_pair hU ?_
    have hB2 := hB.ex PrA.ex' (Ex.new hU (o := .tup [.int (i : Int), .ref b]))
    have eH := hB2.h0 e1 hMn
    refine s_forEnum (ea_cons (ev_var (v := .ref b) rfl) ea_nil) (sq_of (eH _ _ hb)) (fun j σ' H' => (∃ z4 z5, σ' = [some (.ref g), some (.ref M), some (.int (i : Int)), some (.ref b), z4, z5]) ∧ Bld M H1 H' PrA (pairP G n i ++ rowP G i j)) (fun H2 e2 => ⟨⟨_, _, rfl⟩, ?_⟩) (fun j σ' H' _ p => sq_of ((p.2.h0 e1 hMn) _ _ hb)) ?_ ?_
    · show Bld M H1 H2 PrA (pairP G n i ++ [])
      rw [List.append_nil]
      exact hB2.ex PrA.ex' e2
    · rintro j y σ' H' U' hy ⟨⟨z4, z5, rfl⟩, hB⟩ hU'
      rw [List.getElem?_map] at hy
      obtain ⟨c, hc, rfl⟩ := Option.map_eq_some_iff.mp hy
      have ec := cell_eq hr hc
      have hjn : j < n := by rw [← hrn]; exact (List.getElem?_eq_some_iff.mp hc).1
      refine g_pair hU' ?_
      have hB3 := hB.ex PrA.ex' (Ex.new hU' (o := .tup [.int (j : Int), cV c]))
      have hlen : (pairP G n i ++ rowP G i j).length < 100000 := by
        rw [List.length_append]
        have h1 := pairP_len G n i
        have h2 := rowP_len G i j
        have h3 : i * n ≤ m * n := Nat.mul_le_mul_right n (by omega)
        have := sh.n8
        omega
      refine s_when (b := (cell G i j).isSome) (et_test (ev_op (ev_var rfl) ev_c (rv_notN ?_))) (fun hb Ha ea => ?_) (fun hb Ha ea => ⟨⟨_, _, rfl⟩, ?_⟩)
      · rw [cV_non, ec]
        cases c <;> rfl
      · refine s_bld (item := (i, j)) PrA.ex' (hB3.ex PrA.ex' ea) hlen (ev_var rfl) (evu_pr (D := M) (p := (i, j)) (eu_tup (ea_cons (ev_var rfl) (ea_cons (ev_var rfl) ea_nil)) (by show 2 ≤ 100000; decide))) (fun v _ _ _ _ hn r => r hn) fun Hb hBb => ⟨⟨_, _, rfl⟩, ?_⟩
        rw [rowP_succ, if_pos hb, ← List.append_assoc]
        exact hBb
      · rw [rowP_succ, if_neg (by rw [hb]; decide), List.append_nil]
        exact hB3.ex PrA.ex' ea
    · rintro σ' H' ⟨⟨z4, z5, rfl⟩, hB⟩
      rw [List.length_map, hrn, ← pairP_succ] at hB
      exact ⟨⟨_, _, _, _, rfl⟩, hB⟩
  · rintro σ' H' ⟨⟨z2, z3, z4, z5, rfl⟩, hB⟩
    rw [hrl] at hB
    refine s_ret (ev_var rfl) fun H5 e5 => ?_
    have hB5 := hB.ex PrA.ex' e5
    exact q _ H5 (hB5.h0 e1 hMn) (hB5.lrel hMn)
include T in
theorem kp__law_spots : PySem.W.keepIn K (.ref (He.ga K "_law_spots")) = true := let ⟨_, F⟩ := T.f__law_spots; F.kp
theorem u__law_spots {K : PySem.W.Frag} {H : Hp} {g : Addr} {G : Grid} {m n : Nat} (h : GrA H g G) (s : Sh G m n) : PmP (p__law_spots K) [.ref g] H (LRel PrA (pairsOf G m n)) := fun H1 e Q q => ⟨g, G, m, n, rfl, h.ex e, s, fun v H2 e2 r => q v H2 e2 r⟩
def p__law_copy (K : PySem.W.Frag) : Pm := fun vs H Q => ∃ (g : Addr) (G : Grid), vs = [.ref g] ∧ GrA H g G ∧ G.length ≤ 100 ∧ (∀ r ∈ G, r.length ≤ 100) ∧ ∀ v H', Ex H H' → LRel RowA G v H H' → Q v H'
theorem sc__law_copy : FnScope ["_law_grid_here", "_law_row"] ["_law_grid_here"] (defScope s__law_copy) := ⟨rfl, rfl, rfl, by decide +kernel, rfl, by decide +kernel, by decide +kernel⟩
include T in
theorem ok__law_copy : FnP P w K mg base 1 (He.ga K "_law_copy") (p__law_copy K) := by
  obtain ⟨fd, F⟩ := T.f__law_copy
  refine okR F sc__law_copy (fun _ _ _ _ _ _ us hl => match us, hl with | [_], _ => rfl) (fun vs H Q h => by obtain ⟨g, G, rfl, _⟩ := h; rfl) fun cdv A outer s H vs Q hr h => ⟨_, (pss_one (ps_ret (pe_lc (own := [("_law_row", 1)]) (tt := tYes) (te := tCB (rListS K) (tCons (tVar 1) tNil)) rfl sc__law_copy.nd (pi_list (pv 0)) (blkOk_by (own := [("_law_row", 1)]) (N := ["_law_grid_here", "_law_row"]) (sc := (defScope s__law_copy)) (by decide +kernel)) (fun _ _ _ _ _ => (pg_name (i := 1) sc__law_copy.nd rfl (.inl rfl))) (fun _ _ _ _ _ => pts_nil) (fun _ _ _ _ _ => (pe_callTy call_list_of (by rfl) T.n_list PyProof.Rows.boot_list (pa_cons (pv 1) pa_nil)))))), ?_⟩
  obtain ⟨g, G, rfl, ⟨rs, hrs, hp⟩, hl, hrl, q⟩ := h
  have main := evp_lc (n := rs.length) (Y := YAt rs) (σ := [some (.ref g), none]) (H := H) (wi := iList K (tVar 0)) (g := gName 1) (tt := tYes) (te := tCB (rListS K) (tCons (tVar 1) tNil)) (vs := [1]) RowA RowA.ex (fun i => G[i]?) (by rw [hp.length]; omega) (evi_list (ev_var rfl) (sq_of hrs)) (by
    rintro D i Ha v Hb hi e hD hD' ⟨rfl, hv⟩ R kk
    obtain ⟨b, r, rfl, hb, hr⟩ := gra_at hp hv
    refine kk _ _ rfl (Ex.refl _) ?_ ?_
    · rw [hr]
      exact fun H1 e1 Q q => q H1 (Ex.refl H1)
    · intro z hz
      rw [hr] at hz
      cases hz
      exact evl_row (el_list (ev_var rfl) (sq_of (e _ _ hb))))
  rw [hp.length, range_get] at main
  exact s_retP main fun v H1 e1 r => q v H1 e1 r
include T in
theorem kp__law_copy : PySem.W.keepIn K (.ref (He.ga K "_law_copy")) = true := let ⟨_, F⟩ := T.f__law_copy; F.kp
theorem u__law_copy {K : PySem.W.Frag} {H : Hp} {g : Addr} {G : Grid} {m n : Nat} (h : GrA H g G) (s : Sh G m n) : PmP (p__law_copy K) [.ref g] H (LRel RowA G) := fun H1 e Q q => ⟨g, G, rfl, h.ex e, by have := s.len; have := s.m8; omega, fun r hr => by have := s.row r hr; have := s.n8; omega, fun v H2 e2 r => q v H2 e2 r⟩
def crossL (G : Grid) (i j r s : Nat) : Bool := !decide (r = i) && !decide (s = j) && (cell G i s).isSome && (cell G r j).isSome && dearer G i j r s
def p__law_cross : Pm := fun vs H Q => ∃ (g : Addr) (G : Grid) (m n i j r s : Nat), vs = [.ref g, iV i, iV j, iV r, iV s] ∧ GrA H g G ∧ Sh G m n ∧ i < m ∧ j < n ∧ r < m ∧ s < n ∧ (cell G i j).isSome = true ∧ RetB (.bl (crossL G i j r s)) H Q
theorem sc__law_cross : FnScope ["_law_grid_here", "_law_i", "_law_j", "_law_r", "_law_s", "_law_straight"] ["_law_grid_here", "_law_i", "_law_j", "_law_r", "_law_s"] (defScope s__law_cross) := ⟨rfl, rfl, rfl, by decide +kernel, rfl, by decide +kernel, by decide +kernel⟩
include T in
theorem ok__law_cross : FnP P w K mg base 1 (He.ga K "_law_cross") p__law_cross := by
  obtain ⟨fd, F⟩ := T.f__law_cross
  refine okR F sc__law_cross (fun _ _ _ _ _ _ us hl => match us, hl with | [_, _, _, _, _], _ => rfl) (fun vs H Q h => by obtain ⟨g, G, m, n, i, j, r, s, rfl, _⟩ := h; rfl) fun cdv A outer s H vs Q hr h => ⟨_, (pss_cons (ps_if (PW.pt (pw_or (pt_cmpR op_eq (pv 3) (pv 1) (nomark _)) (pw_or1 (pt_cmpR op_eq (pv 4) (pv 2) (nomark _))))) (pss_one (ps_ret pe_bl)) pss_nil) (pss_cons (ps_if (PW.pt (pw_or (pt_cmpR op_isN (pe_ix ix_list (pe_ix ix_list (pv 0) (pv 1) (fun _ _ => rfl)) (pv 4) (fun _ _ => rfl)) pe_non (nomark _)) (pw_or1 (pt_cmpR op_isN (pe_ix ix_list (pe_ix ix_list (pv 0) (pv 3) (fun _ _ => rfl)) (pv 2) (fun _ _ => rfl)) pe_non (nomark _))))) (pss_one (ps_ret pe_bl)) pss_nil) (pss_cons (ps_if (pt_cmpR op_isN (pe_ix ix_list (pe_ix ix_list (pv 0) (pv 3) (fun _ _ => rfl)) (pv 4) (fun _ _ => rfl)) pe_non (nomark _)) (pss_one (ps_ret pe_bl)) pss_nil) (pss_cons (ps_set (i := 5) sc__law_cross.nd rfl (.inl rfl) (pe_op op_add (pe_ix ix_list (pe_ix ix_list (pv 0) (pv 1) (fun _ _ => rfl)) (pv 2) (fun _ _ => rfl)) (pe_ix ix_list (pe_ix ix_list (pv 0) (pv 3) (fun _ _ => rfl)) (pv 4) (fun _ _ => rfl)))) (pss_one (ps_ret (pe_cmpR op_gt (pv 5) (pe_op op_add (pe_ix ix_list (pe_ix ix_list (pv 0) (pv 1) (fun _ _ => rfl)) (pv 4) (fun _ _ => rfl)) (pe_ix ix_list (pe_ix ix_list (pv 0) (pv 3) (fun _ _ => rfl)) (pv 2) (fun _ _ => rfl))) (nomark _)))))))), ?_⟩
  obtain ⟨g, G, m, n, i, j, r, s, rfl, hg, sh, hi, hj, hr', hs, c1, q⟩ := h
  have gc : ∀ {H1 : Hp} {x y x' y' : Nat} {z : Option V}, Ex H H1 → x' < m → y' < n → ([some (.ref g), some (iV i), some (iV j), some (iV r), some (iV s), z] : L2.St)[x]? = some (some (.int (x' : Int))) →
      ([some (.ref g), some (iV i), some (iV j), some (iV r), some (iV s), z] : L2.St)[y]? = some (some (.int (y' : Int))) →
      Ev (tOp (rIxL K) (tOp (rIxL K) (tVar 0) (tVar x)) (tVar y)) [some (.ref g), some (iV i), some (iV j), some (iV r), some (iV s), z] H1 (cV (cell G x' y')) := fun e h1 h2 e1 e2 => ev_cell sh h1 h2 (hg.ex e) (ev_var rfl) (ev_var e1) (ev_var e2)
  have isN : ∀ {c : Option Int}, c.isNone = true → c.isSome = false := fun {c} h => match c, h with | none, _ => rfl | some _, h => nomatch h
  have noN : ∀ {c : Option Int}, c.isNone = false → c.isSome = true := fun {c} h => match c, h with | none, h => nomatch h | some _, _ => rfl
  refine q_when (b := decide (r = i) || decide (s = j)) (et_or (et_test (ev_op (ev_var (v := iV r) rfl) (ev_var (v := iV i) rfl) (rv_eqI (dnat r i)))) fun _ => et_test (ev_op (ev_var (v := iV s) rfl) (ev_var (v := iV j) rfl) (rv_eqI (dnat s j)))) (fun hb H1 e1 => ?_) (fun hb H1 e1 => ?_)
  · refine s_ret ev_c fun H2 e2 => ?_
    have e : crossL G i j r s = false := by
      unfold crossL
      rcases Bool.or_eq_true_iff.mp hb with h | h
      · rw [h]; rfl
      · rw [h]; simp
    have q2 := q H2 (e1.trans e2)
    rw [e] at q2
    exact q2
  have hb2 := Bool.or_eq_false_iff.mp hb
  refine q_when (b := (cell G i s).isNone || (cell G r j).isNone) (et_or (et_test (ev_op (gc e1 hi hs rfl rfl) ev_c (rv_isN (cV_non _)))) fun _ => et_test (ev_op (gc e1 hr' hj rfl rfl) ev_c (rv_isN (cV_non _)))) (fun hc H2 e2 => ?_) (fun hc H2 e2 => ?_)
  · refine s_ret ev_c fun H3 e3 => ?_
    have e : crossL G i j r s = false := by
      unfold crossL
      rcases Bool.or_eq_true_iff.mp hc with h | h
      · rw [isN h]; simp
      · rw [isN h]; simp
    have q2 := q H3 (e1.trans (e2.trans e3))
    rw [e] at q2
    exact q2
  have hc2 := Bool.or_eq_false_iff.mp hc
  have ed : crossL G i j r s = dearer G i j r s := by
    unfold crossL
    rw [hb2.1, hb2.2, noN hc2.1, noN hc2.2]
    rfl
  rw [ed] at q
  have e12 := e1.trans e2
  refine q_when (b := (cell G r s).isNone) (et_test (ev_op (gc e12 hr' hs rfl rfl) ev_c (rv_isN (cV_non _)))) (fun hd H3 e3 => ?_) (fun hd H3 e3 => ?_)
  · refine s_ret ev_c fun H4 e4 => ?_
    have e : dearer G i j r s = true := by
      unfold dearer
      rw [hd]
      rfl
    have q2 := q H4 (e12.trans (e3.trans e4))
    rw [e] at q2
    exact q2
  have e13 := e12.trans e3
  have e : dearer G i j r s = decide (prc G i s + prc G r j < prc G i j + prc G r s) := by
    unfold dearer
    rw [hd]
    rfl
  rw [e] at q
  refine q_asg (v := .int (prc G i j + prc G r s)) (ev_op (ev_is (gc e13 hi hj rfl rfl) (cV_some c1)) (ev_is (gc e13 hr' hs rfl rfl) (cV_some (noN hd))) rv_I0) fun H4 e4 => ?_
  have e14 := e13.trans e4
  exact s_ret (ev_op (ev_var rfl) (ev_op (ev_is (gc e14 hi hs rfl rfl) (cV_some (noN hc2.1))) (ev_is (gc e14 hr' hj rfl rfl) (cV_some (noN hc2.2))) rv_I0) (rv_gt rfl)) fun H5 e5 => q H5 (e14.trans e5)
include T in
theorem kp__law_cross : PySem.W.keepIn K (.ref (He.ga K "_law_cross")) = true := let ⟨_, F⟩ := T.f__law_cross; F.kp
theorem u__law_cross {H : Hp} {g : Addr} {G : Grid} {m n i j r s : Nat} (hg : GrA H g G) (sh : Sh G m n) (h1 : i < m) (h2 : j < n) (h3 : r < m) (h4 : s < n) (c1 : (cell G i j).isSome = true) : PmP p__law_cross [.ref g, iV i, iV j, iV r, iV s] H (Is (.bl (crossL G i j r s))) := pmp_ret fun H1 Q e q => ⟨g, G, m, n, i, j, r, s, rfl, hg.ex e, sh, h1, h2, h3, h4, c1, q⟩
end
end K50
end
section /- LW3 -/
set_option Elab.async false
set_option linter.all false
set_option maxRecDepth 100000
set_option maxHeartbeats 1000000
/-! The law's needs. -/
namespace K50
open PySem PySem.Spec L2 Evl EV GF GenW
open PyProof.Rows hiding St
theorem ifS {α : Type} {b : Bool} {x : α} : (if b = true then some x else none).isSome = b := by cases b <;> rfl
theorem set_self {σ : L2.St} {j : Nat} : ∃ z, σ = σ.set j z := by
  by_cases h : j < σ.length
  · exact ⟨σ[j], (List.set_getElem_self h).symm⟩
  · exact ⟨none, (List.set_eq_of_length_le (by omega)).symm⟩
theorem s_flt {ι : Type} {K : PySem.W.Frag} {σ : L2.St} {H : Hp} {D : Ends} {n j : Nat} {M : Addr} {H0 : Hp} {F : Hp → V → ι → Prop} {items : List ι} {ta : TA} {tt : TT} {to te : TE} (it : Nat → Option ι)
    (hF : ∀ H H' v x, Ex H H' → F H v x → F H' v x) (hB : Bld M H0 H F items) (h : EvA ta σ H [.int (n : Int)]) (hl : items.length + n < 10000)
    (ht : ∀ i H' its, i < n → Bld M H0 H' F its → EvT tt (σ.set j (some (iV i))) H' (it i).isSome)
    (ho : ∀ i H', Ev to (σ.set j (some (iV i))) H' (.ref M))
    (he : ∀ i H' its item, i < n → Bld M H0 H' F its → it i = some item → ∃ R : Rel, EvP te (σ.set j (some (iV i))) H' R ∧ ∀ v Ha Hb, Ex H' Ha → Ex Ha Hb → Ha M ≠ none → R v Ha Hb → F (hid M Hb) v item)
    (k : ∀ z H', Bld M H0 H' F (items ++ (List.range n).filterMap it) → D.nx (σ.set j z) H') :
    tFor (iRng1 ta) (gName j) (tIfS tt (tDrop (tBM K "list" rAppend to (tCons te tNil))) tNext) D σ H := by
  have ll : ∀ i, ((List.range i).filterMap it).length ≤ i := fun i => by
    have := List.length_filterMap_le it (List.range i)
    rw [List.length_range] at this
    exact this
  refine s_forR1 (n := (n : Int)) h (by omega) (fun i σ' H' => (∃ z, σ' = σ.set j z) ∧ Bld M H0 H' F (items ++ (List.range i).filterMap it)) (fun H1 e1 => ⟨set_self, ?_⟩) ?_ ?_
  · show Bld M H0 H1 F (items ++ [])
    rw [List.append_nil]
    exact hB.ex hF e1
  · rintro i σ' H' hi ⟨⟨z, rfl⟩, hB⟩
    have hin : i < n := by omega
    rw [List.set_set]
    refine s_when (ht i H' _ hin hB) (fun hb Ha ea => ?_) (fun hb Ha ea => ⟨⟨_, rfl⟩, ?_⟩)
    · obtain ⟨item, hit⟩ := Option.isSome_iff_exists.mp hb
      obtain ⟨R, h1, h2⟩ := he i Ha _ item hin (hB.ex hF ea) hit
      refine s_bld (item := item) hF (hB.ex hF ea) (by rw [List.length_append]; have := ll i; omega) (ho i Ha) h1 h2 fun Hb hBb => ⟨⟨_, rfl⟩, ?_⟩
      rw [filterMap_snoc, hit, ← List.append_assoc]
      exact hBb
    · have hit : it i = none := by
        cases q : it i with
        | none => rfl
        | some x => rw [q] at hb; cases hb
      rw [filterMap_snoc, hit]
      show Bld M H0 Ha F (_ ++ (_ ++ []))
      rw [List.append_nil]
      exact hB.ex hF ea
  · rintro σ' H' ⟨⟨z, rfl⟩, hB⟩
    rw [Int.toNat_natCast] at hB
    exact k z H' hB
def crN (G : Grid) (p : Pr) (r s : Nat) : Option (List Pr) := if crossL G p.1 p.2 r s then some [(p.1, s), (r, p.2)] else none
def clN (G : Grid) (p : Pr) (r : Nat) : Option (List Pr) := if (cell G r p.2).isSome && decide (prc G r p.2 < prc G p.1 p.2) then some [(r, p.2)] else none
def rwN (G : Grid) (p : Pr) (s : Nat) : Option (List Pr) := if (cell G p.1 s).isSome && decide (prc G p.1 s < prc G p.1 p.2) then some [(p.1, s)] else none
def crP (G : Grid) (n : Nat) (p : Pr) (i : Nat) : List (List Pr) := (List.range i).flatMap fun r => (List.range n).filterMap (crN G p r)
def clP (G : Grid) (m : Nat) (kd : Kd) (p : Pr) : List (List Pr) := if kd.cols then (List.range m).filterMap (clN G p) else []
def rwP (G : Grid) (n : Nat) (kd : Kd) (p : Pr) : List (List Pr) := if kd.rws then (List.range n).filterMap (rwN G p) else []
def lawNeeds (G : Grid) (m n : Nat) (kd : Kd) (p : Pr) : List (List Pr) := crP G n p m ++ clP G m kd p ++ rwP G n kd p
theorem crP_succ (G : Grid) (n : Nat) (p : Pr) (i : Nat) : crP G n p (i + 1) = crP G n p i ++ (List.range n).filterMap (crN G p i) := by
  unfold crP
  rw [List.range_succ, List.flatMap_append]
  congr 1
  exact List.append_nil _
theorem fml {α : Type} (f : Nat → Option α) (n : Nat) : ((List.range n).filterMap f).length ≤ n := by
  have := List.length_filterMap_le f (List.range n)
  rw [List.length_range] at this
  exact this
theorem crP_len (G : Grid) (n : Nat) (p : Pr) (i : Nat) : (crP G n p i).length ≤ i * n := by
  induction i with
  | zero => exact Nat.zero_le _
  | succ i ih =>
    rw [crP_succ, List.length_append, Nat.succ_mul]
    have := fml (crN G p i) n
    omega
theorem lawNeeds_mem {G : Grid} {m n : Nat} {kd : Kd} {p : Pr} (hp : p ∈ pairsOf G m n) {nd : List Pr} : nd ∈ lawNeeds G m n kd p ↔ nd ∈ needsOf G m n kd p := by
  obtain ⟨hi, hj, hc⟩ := mem_pairsOf.mp hp
  have be : ∀ r c, beAll G m n r c = true ↔ r < m ∧ c < n ∧ (cell G r c).isSome = true := fun r c => by
    unfold beAll
    rw [decide_eq_true_iff, mem_pairsOf]
  have ms : ∀ r, r ∈ stocksOf m p.1 p.2 (beAll G m n) ↔ r < m ∧ r ≠ p.1 ∧ (cell G r p.2).isSome = true := fun r => by
    unfold stocksOf
    rw [List.mem_filter, List.mem_range, Bool.and_eq_true, be, Bool.not_eq_true', decide_eq_false_iff_not]
    exact ⟨fun h => ⟨h.1, h.2.1, h.2.2.2.2⟩, fun h => ⟨h.1, h.2.1, h.1, hj, h.2.2⟩⟩
  have mw : ∀ s, s ∈ wishesOf n p.1 p.2 (beAll G m n) ↔ s < n ∧ s ≠ p.2 ∧ (cell G p.1 s).isSome = true := fun s => by
    unfold wishesOf
    rw [List.mem_filter, List.mem_range, Bool.and_eq_true, be, Bool.not_eq_true', decide_eq_false_iff_not]
    exact ⟨fun h => ⟨h.1, h.2.1, h.2.2.2.2⟩, fun h => ⟨h.1, h.2.1, hi, h.1, h.2.2⟩⟩
  have ecr : nd ∈ crP G n p m ↔ ∃ r s, r < m ∧ s < n ∧ crossL G p.1 p.2 r s = true ∧ nd = [(p.1, s), (r, p.2)] := by
    unfold crP
    rw [List.mem_flatMap]
    constructor
    · rintro ⟨r, hr, h⟩
      obtain ⟨s, hs, h⟩ := List.mem_filterMap.mp h
      unfold crN at h
      split at h
      · rename_i hx
        exact ⟨r, s, List.mem_range.mp hr, List.mem_range.mp hs, hx, (Option.some.inj h).symm⟩
      · cases h
    · rintro ⟨r, s, hr, hs, hx, rfl⟩
      exact ⟨r, List.mem_range.mpr hr, List.mem_filterMap.mpr ⟨s, List.mem_range.mpr hs, by unfold crN; rw [if_pos hx]⟩⟩
  have ecl : nd ∈ clP G m kd p ↔ kd.cols = true ∧ ∃ r, r < m ∧ (cell G r p.2).isSome = true ∧ prc G r p.2 < prc G p.1 p.2 ∧ nd = [(r, p.2)] := by
    unfold clP
    by_cases q : kd.cols = true
    · rw [if_pos q, List.mem_filterMap]
      constructor
      · rintro ⟨r, hr, h⟩
        unfold clN at h
        split at h
        · rename_i hx
          rw [Bool.and_eq_true, decide_eq_true_iff] at hx
          exact ⟨q, r, List.mem_range.mp hr, hx.1, hx.2, (Option.some.inj h).symm⟩
        · cases h
      · rintro ⟨_, r, hr, h1, h2, rfl⟩
        exact ⟨r, List.mem_range.mpr hr, by unfold clN; rw [if_pos (by rw [h1, decide_eq_true h2]; rfl)]⟩
    · rw [if_neg q]
      exact ⟨fun h => (nomatch h), fun h => absurd h.1 q⟩
  have erw : nd ∈ rwP G n kd p ↔ kd.rws = true ∧ ∃ s, s < n ∧ (cell G p.1 s).isSome = true ∧ prc G p.1 s < prc G p.1 p.2 ∧ nd = [(p.1, s)] := by
    unfold rwP
    by_cases q : kd.rws = true
    · rw [if_pos q, List.mem_filterMap]
      constructor
      · rintro ⟨r, hr, h⟩
        unfold rwN at h
        split at h
        · rename_i hx
          rw [Bool.and_eq_true, decide_eq_true_iff] at hx
          exact ⟨q, r, List.mem_range.mp hr, hx.1, hx.2, (Option.some.inj h).symm⟩
        · cases h
      · rintro ⟨_, r, hr, h1, h2, rfl⟩
        exact ⟨r, List.mem_range.mpr hr, by unfold rwN; rw [if_pos (by rw [h1, decide_eq_true h2]; rfl)]⟩
    · rw [if_neg q]
      exact ⟨fun h => (nomatch h), fun h => absurd h.1 q⟩
  have cx : ∀ r s, crossL G p.1 p.2 r s = true ↔ r ≠ p.1 ∧ s ≠ p.2 ∧ (cell G p.1 s).isSome = true ∧ (cell G r p.2).isSome = true ∧ dearer G p.1 p.2 r s = true := fun r s => by
    unfold crossL
    rw [Bool.and_eq_true, Bool.and_eq_true, Bool.and_eq_true, Bool.and_eq_true, Bool.not_eq_true', Bool.not_eq_true', decide_eq_false_iff_not, decide_eq_false_iff_not]
    exact ⟨fun h => ⟨h.1.1.1.1, h.1.1.1.2, h.1.1.2, h.1.2, h.2⟩, fun h => ⟨⟨⟨⟨h.1, h.2.1⟩, h.2.2.1⟩, h.2.2.2.1⟩, h.2.2.2.2⟩⟩
  unfold lawNeeds needsOf barsOf
  rw [List.mem_append, List.mem_append, List.mem_map, ecr, ecl, erw]
  constructor
  · rintro ((⟨r, s, hr, hs, hx, rfl⟩ | ⟨q, r, hr, h1, h2, rfl⟩) | ⟨q, s, hs, h1, h2, rfl⟩)
    · have h := (cx r s).mp hx
      refine ⟨(.cross, r, s), List.mem_append.mpr (.inl (List.mem_flatMap.mpr ⟨r, (ms r).mpr ⟨hr, h.1, h.2.2.2.1⟩, ?_⟩)), rfl⟩
      unfold crossOf
      exact List.mem_map.mpr ⟨s, List.mem_filter.mpr ⟨(mw s).mpr ⟨hs, h.2.1, h.2.2.1⟩, h.2.2.2.2⟩, rfl⟩
    · refine ⟨(.column, r, p.2), List.mem_append.mpr (.inr (List.mem_append.mpr (.inl ?_))), rfl⟩
      unfold colOf
      rw [if_pos q]
      exact List.mem_map.mpr ⟨r, List.mem_filter.mpr ⟨(ms r).mpr ⟨hr, fun z => by rw [z] at h2; omega, h1⟩, decide_eq_true h2⟩, rfl⟩
    · refine ⟨(.row, p.1, s), List.mem_append.mpr (.inr (List.mem_append.mpr (.inr ?_))), rfl⟩
      unfold rowOf
      rw [if_pos q]
      exact List.mem_map.mpr ⟨s, List.mem_filter.mpr ⟨(mw s).mpr ⟨hs, fun z => by rw [z] at h2; omega, h1⟩, decide_eq_true h2⟩, rfl⟩
  · rintro ⟨b, hb, rfl⟩
    rcases List.mem_append.mp hb with hb | hb
    · obtain ⟨r, hr, hb⟩ := List.mem_flatMap.mp hb
      unfold crossOf at hb
      obtain ⟨s, hs, rfl⟩ := List.mem_map.mp hb
      obtain ⟨hs, hd⟩ := List.mem_filter.mp hs
      have h1 := (ms r).mp hr
      have h2 := (mw s).mp hs
      exact .inl (.inl ⟨r, s, h1.1, h2.1, (cx r s).mpr ⟨h1.2.1, h2.2.1, h2.2.2, h1.2.2, hd⟩, rfl⟩)
    · rcases List.mem_append.mp hb with hb | hb
      · unfold colOf at hb
        split at hb
        · rename_i q
          obtain ⟨r, hr, rfl⟩ := List.mem_map.mp hb
          obtain ⟨hr, hd⟩ := List.mem_filter.mp hr
          have h1 := (ms r).mp hr
          exact .inl (.inr ⟨q, r, h1.1, h1.2.2, of_decide_eq_true hd, rfl⟩)
        · cases hb
      · unfold rowOf at hb
        split at hb
        · rename_i q
          obtain ⟨s, hs, rfl⟩ := List.mem_map.mp hb
          obtain ⟨hs, hd⟩ := List.mem_filter.mp hs
          have h1 := (mw s).mp hs
          exact .inr ⟨q, s, h1.1, h1.2.2, of_decide_eq_true hd, rfl⟩
        · cases hb
section
variable {P : Program} {w : World} {K : PySem.W.Frag} {mg : Str → Option Value} {base : Heap} (T : Tx K mg)

def p__law_needs_of (K : PySem.W.Frag) : Pm := fun vs H Q => ∃ (g : Addr) (G : Grid) (m n i j : Nat) (kd : Kd), vs = [.ref g, iV i, iV j, .str kd.s] ∧ GrA H g G ∧ Sh G m n ∧ (i, j) ∈ pairsOf G m n ∧ ∀ v H', Ex H H' → LRel NdA (lawNeeds G m n kd (i, j)) v H H' → Q v H'
theorem sc__law_needs_of : FnScope ["_law_grid_here", "_law_i", "_law_j", "_law_sort", "_law_own", "_law_r", "_law_s"] ["_law_grid_here", "_law_i", "_law_j", "_law_sort"] (defScope s__law_needs_of) := ⟨rfl, rfl, rfl, by decide +kernel, rfl, by decide +kernel, by decide +kernel⟩
include T in
theorem ok__law_needs_of : FnP P w K mg base 2 (He.ga K "_law_needs_of") (p__law_needs_of K) := by
  obtain ⟨fd, F⟩ := T.f__law_needs_of
  refine okR F sc__law_needs_of (fun _ _ _ _ _ _ us hl => match us, hl with | [_, _, _, _], _ => rfl) (fun vs H Q h => by obtain ⟨g, G, m, n, i, j, kd, rfl, _⟩ := h; rfl) fun cdv A outer s H vs Q hr h => ⟨_, (pss_cons (ps_set (i := 4) sc__law_needs_of.nd rfl (.inl rfl) (pe_lst pa_nil)) (pss_cons (ps_for PassesOwn.never rfl (pi_range1 (by rfl) T.n_range (pa_cons (pe_callB call_len_seq (by rfl) T.n_len PySem.boot_len (pa_cons (pv 0) pa_nil)) pa_nil)) (pg_name (i := 5) sc__law_needs_of.nd rfl (.inl rfl)) (pss_one (ps_for PassesOwn.never rfl (pi_range1 (by rfl) T.n_range (pa_cons (pe_callB call_len_seq (by rfl) T.n_len PySem.boot_len (pa_cons (pe_ix ix_list (pv 0) pe_int (fun _ _ => rfl)) pa_nil)) pa_nil)) (pg_name (i := 6) sc__law_needs_of.nd rfl (.inl rfl)) (pss_one (ps_if (pt_val (pe_cR (ok__law_cross T) (hr.mono (by decide)) (by rfl) T.g__law_cross (kp__law_cross T) (pa_cons (pv 0) (pa_cons (pv 1) (pa_cons (pv 2) (pa_cons (pv 5) (pa_cons (pv 6) pa_nil))))))) (pss_one (ps_expr (pe_bm PySem.F.plainAttrs_list PySem.F.slot_list_append PySem.F.type_list_append mt_append (pv 4) (pa_cons (pe_lst (pa_cons (pe_tup (pa_cons (pv 1) (pa_cons (pv 6) pa_nil))) (pa_cons (pe_tup (pa_cons (pv 5) (pa_cons (pv 2) pa_nil))) pa_nil))) pa_nil)))) pss_nil))))) (pss_cons (ps_if (PW.pt (pw_or (pt_cmpR op_eq (pv 3) pe_str (nomark _)) (pw_or1 (pt_cmpR op_eq (pv 3) pe_str (nomark _))))) (pss_one (ps_for PassesOwn.never rfl (pi_range1 (by rfl) T.n_range (pa_cons (pe_callB call_len_seq (by rfl) T.n_len PySem.boot_len (pa_cons (pv 0) pa_nil)) pa_nil)) (pg_name (i := 5) sc__law_needs_of.nd rfl (.inl rfl)) (pss_one (ps_if (PW.pt (pw_and (pt_cmpR op_notN (pe_ix ix_list (pe_ix ix_list (pv 0) (pv 5) (fun _ _ => rfl)) (pv 2) (fun _ _ => rfl)) pe_non (nomark _)) (pw_and1 (pt_cmpR op_lt (pe_ix ix_list (pe_ix ix_list (pv 0) (pv 5) (fun _ _ => rfl)) (pv 2) (fun _ _ => rfl)) (pe_ix ix_list (pe_ix ix_list (pv 0) (pv 1) (fun _ _ => rfl)) (pv 2) (fun _ _ => rfl)) (nomark _))))) (pss_one (ps_expr (pe_bm PySem.F.plainAttrs_list PySem.F.slot_list_append PySem.F.type_list_append mt_append (pv 4) (pa_cons (pe_lst (pa_cons (pe_tup (pa_cons (pv 5) (pa_cons (pv 2) pa_nil))) pa_nil)) pa_nil)))) pss_nil)))) pss_nil) (pss_cons (ps_if (PW.pt (pw_or (pt_cmpR op_eq (pv 3) pe_str (nomark _)) (pw_or1 (pt_cmpR op_eq (pv 3) pe_str (nomark _))))) (pss_one (ps_for PassesOwn.never rfl (pi_range1 (by rfl) T.n_range (pa_cons (pe_callB call_len_seq (by rfl) T.n_len PySem.boot_len (pa_cons (pe_ix ix_list (pv 0) pe_int (fun _ _ => rfl)) pa_nil)) pa_nil)) (pg_name (i := 6) sc__law_needs_of.nd rfl (.inl rfl)) (pss_one (ps_if (PW.pt (pw_and (pt_cmpR op_notN (pe_ix ix_list (pe_ix ix_list (pv 0) (pv 1) (fun _ _ => rfl)) (pv 6) (fun _ _ => rfl)) pe_non (nomark _)) (pw_and1 (pt_cmpR op_lt (pe_ix ix_list (pe_ix ix_list (pv 0) (pv 1) (fun _ _ => rfl)) (pv 6) (fun _ _ => rfl)) (pe_ix ix_list (pe_ix ix_list (pv 0) (pv 1) (fun _ _ => rfl)) (pv 2) (fun _ _ => rfl)) (nomark _))))) (pss_one (ps_expr (pe_bm PySem.F.plainAttrs_list PySem.F.slot_list_append PySem.F.type_list_append mt_append (pv 4) (pa_cons (pe_lst (pa_cons (pe_tup (pa_cons (pv 1) (pa_cons (pv 6) pa_nil))) pa_nil)) pa_nil)))) pss_nil)))) pss_nil) (pss_one (ps_ret (pv 4))))))), ?_⟩
  obtain ⟨g, G, m, n, i, j, kd, rfl, hg, sh, hp, q⟩ := h
  obtain ⟨hi, hj, hc⟩ := mem_pairsOf.mp hp
  have hi : i < m := hi
  have hj : j < n := hj
  have hc : (cell G i j).isSome = true := hc
  have h64 : m * n ≤ 64 := Nat.mul_le_mul sh.m8 sh.n8
  have hm8 := sh.m8
  have hn8 := sh.n8
  refine q_asgL (el_lst ea_nil (by show 0 ≤ 100000; decide)) fun M H1 hMn e1 hM => ?_
  obtain ⟨rs, hrs, hpr⟩ := id hg
  have hrl : rs.length = m := by rw [hpr.length, sh.len]
  have up : ∀ {H' : Hp} {its : List (List Pr)}, Bld M H1 H' NdA its → Ex H H' := fun h => h.h0 e1 hMn
  have l0 : ∀ {H' : Hp} {σ : L2.St}, Ex H H' → σ[0]? = some (some (.ref g)) → EvA (tCons (tCB (rLenS K) (tCons (tVar 0) tNil)) tNil) σ H' [.int (m : Int)] := fun e h0 => ea_cons (ev_is (ev_len (ev_var h0) (sq_of (e _ _ hrs))) (by rw [hrl])) ea_nil
  have l00 : ∀ {H' : Hp} {σ : L2.St}, Ex H H' → σ[0]? = some (some (.ref g)) → EvA (tCons (tCB (rLenS K) (tCons (tOp (rIxL K) (tVar 0) (tC (.int 0))) tNil)) tNil) σ H' [.int (n : Int)] := fun e h0 => by
    have h1 : 0 < rs.length := by have := sh.m1; omega
    obtain ⟨b, r, hb1, hb, hr⟩ := gra_at hpr (List.getElem?_eq_getElem h1)
    refine ea_cons (ev_is (ev_len (ev_op (z := .ref b) (ev_var h0) ev_c (rv_ixL (sq_of (e _ _ hrs)) (atI_nat (j := 0) (by rw [List.getElem?_eq_getElem h1, hb1])))) (sq_of (e _ _ hb))) ?_) ea_nil
    rw [List.length_map, sh.row r (List.mem_of_getElem? hr)]
  have hidNd : ∀ {Hb : Hp} {ys : List V} {v : V} {l : List Pr}, Hb M = some (.lst ys) → (∃ q xs, v = .ref q ∧ q ≠ M ∧ Hb q = some (.lst xs) ∧ PL Hb xs l) → NdA (hid M Hb) v l := fun hm ⟨q, xs, ev, hq, hqx, hpl⟩ => ⟨q, xs, ev, by rw [hid_ne hq]; exact hqx, PL.hid hm hpl⟩
  have neM : ∀ {Ha : Hp} {q : Addr}, Ha M ≠ none → Ha q = none → q ≠ M := fun h1 h2 z => h1 (by rw [← z]; exact h2)
  have gc : ∀ {σ : L2.St} {H' : Hp} {x y x' y' : Nat}, Ex H H' → x' < m → y' < n → σ[0]? = some (some (.ref g)) → σ[x]? = some (some (.int (x' : Int))) → σ[y]? = some (some (.int (y' : Int))) →
      Ev (tOp (rIxL K) (tOp (rIxL K) (tVar 0) (tVar x)) (tVar y)) σ H' (cV (cell G x' y')) := fun e h1 h2 e0 e1 e2 => ev_cell sh h1 h2 (hg.ex e) (ev_var e0) (ev_var e1) (ev_var e2)
  have cellT : ∀ {σ : L2.St} {H' : Hp} {x y x' y' : Nat}, Ex H H' → x' < m → y' < n → σ[0]? = some (some (.ref g)) → σ[x]? = some (some (.int (x' : Int))) → σ[y]? = some (some (.int (y' : Int))) → σ[1]? = some (some (.int (i : Int))) → σ[2]? = some (some (.int (j : Int))) →
      EvT (tAnd (tTest (tOp (fun x y H Q => y = V.non ∧ Q (V.bl (!decide (x = V.non))) H) (tOp (rIxL K) (tOp (rIxL K) (tVar 0) (tVar x)) (tVar y)) (tC .non))) (tTest (tOp (rI0 fun i j => .bl (decide (i < j))) (tOp (rIxL K) (tOp (rIxL K) (tVar 0) (tVar x)) (tVar y)) (tOp (rIxL K) (tOp (rIxL K) (tVar 0) (tVar 1)) (tVar 2))))) σ H' ((cell G x' y').isSome && decide (prc G x' y' < prc G i j)) := fun {σ H' x y x' y'} e h1 h2 e0 e1 e2 e3 e4 => by
    refine et_and (et_test (ev_op (gc e h1 h2 e0 e1 e2) ev_c (rv_notN ?_))) (fun hs => et_test (ev_op (ev_is (gc e h1 h2 e0 e1 e2) (cV_some hs)) (ev_is (gc e hi hj e0 e3 e4) (cV_some hc)) (rv_lt rfl)))
    rw [cV_non]
    cases cell G x' y' <;> rfl
  have bld0 : Bld M H1 H1 NdA (crP G n (i, j) 0) := Bld.new hM
  refine q_forR1 (n := (m : Int)) (l0 e1 rfl) (by omega) (fun r σ' H' => (∃ z5 z6, σ' = [some (.ref g), some (iV i), some (iV j), some (.str kd.s), some (.ref M), z5, z6]) ∧ Bld M H1 H' NdA (crP G n (i, j) r)) (fun H2 e2 => ⟨⟨_, _, rfl⟩, bld0.ex NdA.ex e2⟩) ?_ ?_
  · rintro r σ' H' hr' ⟨⟨z5, z6, rfl⟩, hB⟩
    have hrm : r < m := by omega
    refine s_flt (crN G (i, j) r) NdA.ex hB (l00 (up hB) rfl) ?_ (fun s H2 its hs hB2 => ?_) (fun s H2 => ev_var rfl) (fun s H2 its item hs hB2 hit => ?_) (fun z H2 hB2 => ⟨⟨_, _, rfl⟩, ?_⟩)
    · have := crP_len G n (i, j) r
      have : r * n ≤ m * n := Nat.mul_le_mul_right n (by omega)
      omega
    · have e : (crN G (i, j) r s).isSome = crossL G i j r s := by
        unfold crN
        exact ifS
      rw [e]
      exact et_B (ev_c' (ea_cons (ev_var rfl) (ea_cons (ev_var rfl) (ea_cons (ev_var rfl) (ea_cons (ev_var rfl) (ea_cons (ev_var rfl) ea_nil))))) (u__law_cross (hg.ex (up hB2)) sh hi hj hrm hs hc))
    · have e : item = [(i, s), (r, j)] := by
        unfold crN at hit
        split at hit
        · exact (Option.some.inj hit).symm
        · cases hit
      subst e
      refine ⟨_, evp_l2 (evu_2 rfl rfl) (evu_2 rfl rfl), fun v Ha Hb ea eb hn ⟨q, xs, ev, hq, hqx, hpl⟩ => ?_⟩
      obtain ⟨_, ys, hys, _⟩ := hB2
      exact hidNd ((ea.trans eb) _ _ hys) ⟨q, xs, ev, neM hn hq, hqx, hpl⟩
    · rw [crP_succ]
      exact hB2
  rintro σ' H2 ⟨⟨z5, z6, rfl⟩, hB⟩
  rw [Int.toNat_natCast] at hB
  have el : (crP G n (i, j) m).length ≤ 64 := Nat.le_trans (crP_len G n (i, j) m) h64
  -- columns
  have sortT : ∀ {σ : L2.St} {H' : Hp} {a b : Str} {x : Bool}, σ[3]? = some (some (.str kd.s)) → (decide (kd.s = a) || decide (kd.s = b)) = x → EvT (tOr (tTest (tOp rEq (tVar 3) (tC (.str a)))) (tTest (tOp rEq (tVar 3) (tC (.str b))))) σ H' x := fun h1 h2 => by
    rw [← h2]
    exact et_or (et_test (ev_op (ev_var h1) ev_c (rv_eqS rfl))) fun _ => et_test (ev_op (ev_var h1) ev_c (rv_eqS rfl))
  have rowPart : ∀ (H3 : Hp) (z5 z6 : Option V), Bld M H1 H3 NdA (crP G n (i, j) m ++ clP G m kd (i, j)) → _ := fun H3 z5 z6 hB => by
    have el2 : (crP G n (i, j) m ++ clP G m kd (i, j)).length ≤ 72 := by
      rw [List.length_append]
      have : (clP G m kd (i, j)).length ≤ m := by
        unfold clP
        split
        · exact fml _ _
        · exact Nat.zero_le _
      omega
    refine q_when (b := kd.rws) (tu := tFor (iRng1 (tCons (tCB (rLenS K) (tCons (tOp (rIxL K) (tVar 0) (tC (.int 0))) tNil)) tNil)) (gName 6) (tIfS (tAnd (tTest (tOp (fun x y H Q => y = V.non ∧ Q (V.bl (!decide (x = V.non))) H) (tOp (rIxL K) (tOp (rIxL K) (tVar 0) (tVar 1)) (tVar 6)) (tC .non))) (tTest (tOp (rI0 fun i j => .bl (decide (i < j))) (tOp (rIxL K) (tOp (rIxL K) (tVar 0) (tVar 1)) (tVar 6)) (tOp (rIxL K) (tOp (rIxL K) (tVar 0) (tVar 1)) (tVar 2))))) (tDrop (tBM K "list" rAppend (tVar 4) (tCons (tLst (tCons (tTup (tCons (tVar 1) (tCons (tVar 6) tNil))) tNil)) tNil))) tNext)) (tz := tRet (tVar 4)) (D := { nx := fun _ H' => Q .non H', rt := Q }) (σ := [some (.ref g), some (iV i), some (iV j), some (.str kd.s), some (.ref M), z5, z6]) (H := H3)
      (t := tOr (tTest (tOp rEq (tVar 3) (tC (.str "wish")))) (tTest (tOp rEq (tVar 3) (tC (.str "any"))))) (sortT rfl (by cases kd <;> rfl)) (fun hb Ha ea => ?_) (fun hb Ha ea => ?_)
    · have hBa := hB.ex NdA.ex ea
      refine s_flt (rwN G (i, j)) NdA.ex hBa (l00 (up hBa) rfl) (by omega) (fun s H2 its hs hB2 => ?_) (fun s H2 => ev_var rfl) (fun s H2 its item hs hB2 hit => ?_) (fun z H2 hB2 => ?_)
      · have e : (rwN G (i, j) s).isSome = ((cell G i s).isSome && decide (prc G i s < prc G i j)) := by
          unfold rwN
          exact ifS
        rw [e]
        exact cellT (up hB2) hi hs rfl rfl rfl rfl rfl
      · have e : item = [(i, s)] := by
          unfold rwN at hit
          split at hit
          · exact (Option.some.inj hit).symm
          · cases hit
        subst e
        refine ⟨_, evp_l1 (evu_2 rfl rfl), fun v Ha Hb ea eb hn ⟨q, xs, ev, hq, hqx, hpl⟩ => ?_⟩
        obtain ⟨_, ys, hys, _⟩ := hB2
        exact hidNd ((ea.trans eb) _ _ hys) ⟨q, xs, ev, neM hn hq, hqx, hpl⟩
      · refine s_ret (ev_var rfl) fun H5 e5 => ?_
        have hB5 := hB2.ex NdA.ex e5
        refine q _ H5 (up hB5) ?_
        have := hB5.lrel hMn
        unfold lawNeeds rwP
        rw [if_pos hb]
        exact this
    · refine s_ret (ev_var rfl) fun H5 e5 => ?_
      have hB5 := hB.ex NdA.ex (ea.trans e5)
      refine q _ H5 (up hB5) ?_
      have := hB5.lrel hMn
      unfold lawNeeds rwP
      rw [if_neg (by rw [hb]; decide), List.append_nil]
      exact this
  refine q_when (b := kd.cols) (sortT rfl (by cases kd <;> rfl)) (fun hb Ha ea => ?_) (fun hb Ha ea => ?_)
  · have hBa := hB.ex NdA.ex ea
    refine s_flt (clN G (i, j)) NdA.ex hBa (l0 (up hBa) rfl) (by omega) (fun s H2 its hs hB2 => ?_) (fun s H2 => ev_var rfl) (fun s H2 its item hs hB2 hit => ?_) (fun z H2 hB2 => ?_)
    · have e : (clN G (i, j) s).isSome = ((cell G s j).isSome && decide (prc G s j < prc G i j)) := by
        unfold clN
        exact ifS
      rw [e]
      exact cellT (up hB2) hs hj rfl rfl rfl rfl rfl
    · have e : item = [(s, j)] := by
        unfold clN at hit
        split at hit
        · exact (Option.some.inj hit).symm
        · cases hit
      subst e
      refine ⟨_, evp_l1 (evu_2 rfl rfl), fun v Ha Hb ea eb hn ⟨q, xs, ev, hq, hqx, hpl⟩ => ?_⟩
      obtain ⟨_, ys, hys, _⟩ := hB2
      exact hidNd ((ea.trans eb) _ _ hys) ⟨q, xs, ev, neM hn hq, hqx, hpl⟩
    · refine rowPart H2 z z6 ?_
      unfold clP
      rw [if_pos hb]
      exact hB2
  · refine rowPart Ha z5 z6 ?_
    unfold clP
    rw [if_neg (by rw [hb]; decide), List.append_nil]
    exact hB.ex NdA.ex ea
include T in
theorem kp__law_needs_of : PySem.W.keepIn K (.ref (He.ga K "_law_needs_of")) = true := let ⟨_, F⟩ := T.f__law_needs_of; F.kp
theorem u__law_needs_of {K : PySem.W.Frag} {H : Hp} {g : Addr} {G : Grid} {m n i j : Nat} {kd : Kd} (h : GrA H g G) (s : Sh G m n) (hp : (i, j) ∈ pairsOf G m n) : PmP (p__law_needs_of K) [.ref g, iV i, iV j, .str kd.s] H (LRel NdA (lawNeeds G m n kd (i, j))) := fun H1 e Q q => ⟨g, G, m, n, i, j, kd, rfl, h.ex e, s, hp, fun v H2 e2 r => q v H2 e2 r⟩
end
end K50
end
section /- LW4 -/
set_option Elab.async false
set_option linter.all false
set_option maxRecDepth 100000
set_option maxHeartbeats 1000000
/-! The law's needs as a dict; met, open. -/
namespace K50
open PySem PySem.Spec L2 Evl EV GF GenW
open PyProof.Rows hiding St
def NeA (H : Hp) (v : V) (needs : List (List Pr)) : Prop := ∃ o xs, v = .ref o ∧ H o = some (.lst xs) ∧ Paired (NdA H) xs needs
theorem NeA.ex : ∀ (H H' : Hp) (v : V) (l : List (List Pr)), Ex H H' → NeA H v l → NeA H' v l := fun _ _ _ _ e ⟨q, xs, ev, h, hp⟩ => ⟨q, xs, ev, e _ _ h, paired_mono hp fun v l => NdA.ex _ _ _ _ e⟩
abbrev KvA (f : Pr → List (List Pr)) (H : Hp) (kv : List Key × V) (p : Pr) : Prop := kv.1 = kP p ∧ NeA H kv.2 (f p)
def DkA (H : Hp) (d : Addr) (f : Pr → List (List Pr)) (ps : List Pr) : Prop := ∃ kvs, H d = some (.dT kvs) ∧ Paired (KvA f H) kvs ps
theorem KvA.up {f : Pr → List (List Pr)} {H H' : Hp} (e : Ex H H') {kvs : List (List Key × V)} {ps : List Pr} (h : Paired (KvA f H) kvs ps) : Paired (KvA f H') kvs ps := paired_mono h fun kv p q => ⟨q.1, NeA.ex _ _ _ _ e q.2⟩
theorem DkA.ex {H H' : Hp} {d : Addr} {f : Pr → List (List Pr)} {ps : List Pr} (h : DkA H d f ps) (e : Ex H H') : DkA H' d f ps := let ⟨kvs, h1, h2⟩ := h; ⟨kvs, e _ _ h1, KvA.up e h2⟩
theorem PL.hidT {H : Hp} {M : Addr} {kvs : List (List Key × V)} {xs : List V} {l : List Pr} (hm : H M = some (.dT kvs)) (h : PL H xs l) : PL (EV.hid M H) xs l := paired_mono h fun v p ⟨a, ev, ha⟩ => ⟨a, ev, by rw [EV.hid_ne (ne_of ha hm (fun z => nomatch z))]; exact ha⟩
theorem NdA.hidT {H : Hp} {M : Addr} {kvs : List (List Key × V)} (hm : H M = some (.dT kvs)) {v : V} {l : List Pr} (h : NdA H v l) : NdA (EV.hid M H) v l := let ⟨q, xs, ev, h1, h2⟩ := h; ⟨q, xs, ev, by rw [EV.hid_ne (ne_of h1 hm (fun z => nomatch z))]; exact h1, PL.hidT hm h2⟩
theorem NeA.hidT {H : Hp} {M : Addr} {kvs : List (List Key × V)} (hm : H M = some (.dT kvs)) {v : V} {l : List (List Pr)} (h : NeA H v l) : NeA (EV.hid M H) v l := let ⟨q, xs, ev, h1, h2⟩ := h; ⟨q, xs, ev, by rw [EV.hid_ne (ne_of h1 hm (fun z => nomatch z))]; exact h1, paired_mono h2 fun v l => NdA.hidT hm⟩
theorem LRel.nea {H H' : Hp} {v : V} {l : List (List Pr)} (h : LRel NdA l v H H') : NeA H' v l := let ⟨q, xs, ev, _, h1, h2⟩ := h; ⟨q, xs, ev, h1, paired_mono h2 fun v l => NdA.ex _ _ _ _ hid_le⟩
theorem valV_key {f : Pr → List (List Pr)} {H : Hp} : ∀ {kvs : List (List Key × V)} {ps : List Pr}, Paired (KvA f H) kvs ps → ∀ p ∈ ps, ∃ v, valV kvs (kP p) = some v ∧ NeA H v (f p)
  | _, _, .nil, p, h => (nomatch h)
  | _, _, .cons (a := kv) (b := q) h t, p, hp => by
    by_cases e : q = p
    · subst e
      exact ⟨kv.2, valV_pos h.1, h.2⟩
    · rw [valV_neg (fun z => e (kP_inj (h.1.symm.trans z)))]
      rcases List.mem_cons.mp hp with z | hp
      · exact absurd z.symm e
      · exact valV_key t p hp
theorem valV_new {f : Pr → List (List Pr)} {H : Hp} {kvs : List (List Key × V)} {ps : List Pr} (h : Paired (KvA f H) kvs ps) {p : Pr} (hp : p ∉ ps) : valV kvs (kP p) = none := by
  induction h with
  | nil => rfl
  | cons h t ih =>
    rw [valV_neg (fun z => hp (by rw [← kP_inj (h.1.symm.trans z)]; exact List.mem_cons_self))]
    exact ih fun q => hp (List.mem_cons_of_mem _ q)
section
variable {K : PySem.W.Frag} {σ : L2.St} {H : Hp} {D : Ends} {tz : TS} {td tk tv te : TE}
theorem q_dnewT {i : Nat} (k : ∀ d, H d = none → tz D (σ.set i (some (.ref d))) (upd H d (.dT []))) : tSeq (tAsg tDNewT (gName i)) tz D σ H := fun p hp => k p hp
theorem s_dputP {R : Rel} {d : Addr} {kvs : List (List Key × V)} {k : List Key} (hv : EvP tv σ H R) (h2 : Ev td σ H (.ref d)) (h1 : EvU tk σ H (k.map kV)) (hd : H d = some (.dT kvs)) (hl : kvs.length < 100000)
    (kk : ∀ v Ha Hb, Ex H Ha → R v H Ha → Ex Ha Hb → D.nx σ (upd Hb d (.dT (putK kvs k v)))) : sDPut td tk tv D σ H := hv H (Ex.refl H) _ fun v H1 e1 r => h2 H1 e1 _ fun H2 e2 => h1 H2 (e1.trans e2) _ fun b H3 hn e3 hb =>
  ⟨d, _, rfl, DPut.t ((e1.trans (e2.trans e3)) _ _ hd) hb (sz_lt hl), kk v H1 H3 e1 r (e2.trans e3)⟩
abbrev rListT : List V → Hp → VK → Prop := fun xs H Q => ∃ d kvs, xs = [V.ref d] ∧ Rd H d (.dT kvs) ∧ ∀ p bs, H p = none → IsKeys H kvs bs → Q (.ref p) (upd H p (.lst (bs.map V.ref)))
theorem keys_pl {H : Hp} : ∀ {kvs : List (List Key × V)} {bs : List Addr} {ps : List Pr}, IsKeys H kvs bs → kvs.map (·.1) = ps.map kP → PL H (bs.map V.ref) ps
  | [], _, [], .nil, _ => .nil
  | [], _, _ :: _, _, e => (nomatch e)
  | _ :: _, _, [], _, e => (nomatch e)
  | kv :: kvs, _, p :: ps, .cons (b := b) h t, e => by
    injection e with e1 e2
    have e1 : kv.1 = kP p := e1
    exact .cons ⟨b, rfl, by rw [e1] at h; exact h⟩ (keys_pl t e2)
theorem evp_listT {d : Addr} {kvs : List (List Key × V)} {ps : List Pr} (h : Ev te σ H (.ref d)) (hd : H d = some (.dT kvs)) (hk : kvs.map (·.1) = ps.map kP) : EvP (tCB rListT (tCons te tNil)) σ H (LRel PrA ps) := fun H1 e Q q =>
  h H1 e _ fun H2 e2 => ⟨d, kvs, rfl, .inl ((e.trans e2) _ _ hd), fun p bs hn hb => q _ _ (e2.trans (Ex.new hn)) ⟨p, _, rfl, fresh_back e2 hn, upd_same, by
    have hp := keys_pl hb hk
    refine paired_mono hp fun v q ⟨a, ev, ha⟩ => ⟨a, ev, ?_⟩
    rw [hid_ne (ne_of_none ha hn), upd_ne (ne_of_none ha hn)]
    exact ha⟩⟩
theorem ev_lenT2 {d : Addr} {kvs : List (List Key × V)} (h : Ev te σ H (.ref d)) (hd : H d = some (.dT kvs)) : Ev (tCB rLenT (tCons te tNil)) σ H (.int (kvs.length : Int)) := fun H1 e Q q =>
  h H1 e _ fun H2 e2 => ⟨d, kvs, rfl, (e.trans e2) _ _ hd, q H2 e2⟩
end
theorem kv_keys {f : Pr → List (List Pr)} {H : Hp} : ∀ {kvs : List (List Key × V)} {ps : List Pr}, Paired (KvA f H) kvs ps → kvs.map (·.1) = ps.map kP
  | _, _, .nil => rfl
  | _, _, .cons h t => by rw [List.map_cons, List.map_cons, kv_keys t, h.1]
theorem kvT_keys (ps : List Pr) : (kvT ps).map (·.1) = ps.map kP := by
  unfold kvT
  rw [List.map_map]
  rfl
/-- every need met -/
def metL (ps : List Pr) (needs : List (List Pr)) : Bool := needs.all fun nd => !decide ((nd.filter fun q => decide (q ∈ ps)).length = 0)
section
variable {P : Program} {w : World} {K : PySem.W.Frag} {mg : Str → Option Value} {base : Heap} (T : Tx K mg)

def p__law_needs (K : PySem.W.Frag) : Pm := fun vs H Q => ∃ (g : Addr) (G : Grid) (m n : Nat) (kd : Kd), vs = [.ref g, .str kd.s] ∧ GrA H g G ∧ Sh G m n ∧ ∀ d H', Ex H H' → H d = none → DkA H' d (lawNeeds G m n kd) (pairsOf G m n) → Q (.ref d) H'
theorem sc__law_needs : FnScope ["_law_grid_here", "_law_sort", "_law_needs_here", "_law_i", "_law_j"] ["_law_grid_here", "_law_sort"] (defScope s__law_needs) := ⟨rfl, rfl, rfl, by decide +kernel, rfl, by decide +kernel, by decide +kernel⟩
include T in
theorem ok__law_needs : FnP P w K mg base 3 (He.ga K "_law_needs") (p__law_needs K) := by
  obtain ⟨fd, F⟩ := T.f__law_needs
  refine okR F sc__law_needs (fun _ _ _ _ _ _ us hl => match us, hl with | [_, _], _ => rfl) (fun vs H Q h => by obtain ⟨g, G, m, n, kd, rfl, _⟩ := h; rfl) fun cdv A outer s H vs Q hr h => ⟨_, (pss_cons (ps_set (i := 2) sc__law_needs.nd rfl (.inl rfl) pe_dnewT) (pss_cons (ps_for PassesOwn.never rfl (pi_list (pe_cR (ok__law_spots T) (hr.mono (by decide)) (by rfl) T.g__law_spots (kp__law_spots T) (pa_cons (pv 0) pa_nil))) (pg_tup rfl (pgs_cons (pg_name (i := 3) sc__law_needs.nd rfl (.inl rfl)) (pgs_cons (pg_name (i := 4) sc__law_needs.nd rfl (.inl rfl)) pgs_nil))) (pss_one (ps_dput (hu_of hr) (pv 2) (pe_tup (pa_cons (pv 3) (pa_cons (pv 4) pa_nil))) (pe_cR (ok__law_needs_of T) (hr.mono (by decide)) (by rfl) T.g__law_needs_of (kp__law_needs_of T) (pa_cons (pv 0) (pa_cons (pv 3) (pa_cons (pv 4) (pa_cons (pv 1) pa_nil))))) rfl))) (pss_one (ps_ret (pv 2))))), ?_⟩
  obtain ⟨g, G, m, n, kd, rfl, hg, sh, q⟩ := h
  have h64 := pairs_len sh
  refine q_dnewT fun M hMn => ?_
  have e1 : Ex H (upd H M (.dT [])) := Ex.new hMn
  obtain ⟨H1, hH1⟩ : ∃ H1, H1 = upd H M (.dT []) := ⟨_, rfl⟩
  have hM : H1 M = some (.dT []) := by rw [hH1]; exact upd_same
  rw [← hH1] at e1 ⊢
  refine q_forP (evp_c (ea_cons (ev_var rfl) ea_nil) (u__law_spots (hg.ex e1) sh) LRel.back) fun v H2 e2 r => ?_
  obtain ⟨pa, xs, rfl, hpn, hpa, hpl⟩ := LRel.pl r
  have npM : pa ≠ M := ne_of hpa (e2 _ _ hM) (fun z => nomatch z)
  have nd : (pairsOf G m n).Nodup := pairs_nodup
  have d0 : Ex H (hid M H2) := hid_of (e1.trans e2) hMn
  refine ⟨pa, xs, rfl, sq_of hpa, fun i σ' H' => (∃ z3 z4, σ' = [some (.ref g), some (.str kd.s), some (.ref M), z3, z4]) ∧ Ex (hid M H2) H' ∧ ∃ kvs, H' M = some (.dT kvs) ∧ Paired (KvA (lawNeeds G m n kd) (hid M H')) kvs ((pairsOf G m n).take i), ⟨⟨_, _, rfl⟩, hid_le, [], e2 _ _ hM, .nil⟩, fun i σ' H' _ p => sq_of (p.2.1 _ _ (by rw [hid_ne npM]; exact hpa)), ?_, ?_⟩
  · rintro i x σ' H' hx ⟨⟨z3, z4, rfl⟩, eH, kvs, hk, hkp⟩
    obtain ⟨p, hpi, a, rfl, ha⟩ := paired_get hpl i x hx
    have hpm := List.mem_of_getElem? hpi
    have hil : i < (pairsOf G m n).length := (List.getElem?_eq_some_iff.mp hpi).1
    have naM : a ≠ M := ne_of ha (e2 _ _ hM) (fun z => nomatch z)
    have haH : H' a = some (.tup (pV p)) := eH _ _ (by rw [hid_ne naM]; exact ha)
    refine g_tup2 haH ?_
    have hnone : valV kvs (kP p) = none := valV_new hkp fun z => by
      obtain ⟨j, hj, ej⟩ := List.getElem_of_mem z
      rw [List.length_take] at hj
      rw [List.getElem_take] at ej
      exact List.pairwise_iff_getElem.mp nd j i (by omega) hil (by omega) (ej.trans (List.getElem?_eq_some_iff.mp hpi).2.symm)
    have lk : kvs.length = i := by rw [hkp.length, List.length_take]; omega
    refine s_dputP (k := kP p) (kvs := kvs) (evp_c (ea_cons (ev_var rfl) (ea_cons (ev_var (v := iV p.1) rfl) (ea_cons (ev_var (v := iV p.2) rfl) (ea_cons (ev_var (v := .str kd.s) rfl) ea_nil)))) (u__law_needs_of (hg.ex (d0.trans eH)) sh hpm) LRel.back) (ev_var rfl) (eu_tup (ea_cons (ev_var rfl) (ea_cons (ev_var rfl) ea_nil)) (by show 2 ≤ 100000; decide)) hk (by omega) fun v Ha Hb ea r eb => ⟨⟨_, _, rfl⟩, ?_, kvs ++ [(kP p, v)], ?_, ?_⟩
    · exact Ex.mut (eH.trans (ea.trans eb)) (by unfold hid; rw [if_pos rfl])
    · rw [upd_same, putK_new _ hnone]
    · rw [hid_upd, List.take_succ_eq_append_getElem hil, (List.getElem?_eq_some_iff.mp hpi).2]
      refine Paired.snoc (KvA.up (hid_ex (ea.trans eb)) hkp) ⟨rfl, ?_⟩
      exact NeA.hidT (eb _ _ (ea _ _ hk)) (NeA.ex _ _ _ _ eb (LRel.nea r))
  · rintro σ' H' ⟨⟨z3, z4, rfl⟩, eH, kvs, hk, hkp⟩
    rw [hpl.length, List.take_length] at hkp
    refine s_ret (ev_var rfl) fun H5 e5 => q M H5 (d0.trans (eH.trans e5)) hMn ⟨kvs, e5 _ _ hk, KvA.up (hid_le.trans e5) hkp⟩
include T in
theorem kp__law_needs : PySem.W.keepIn K (.ref (He.ga K "_law_needs")) = true := let ⟨_, F⟩ := T.f__law_needs; F.kp
theorem u__law_needs {K : PySem.W.Frag} {H : Hp} {g : Addr} {G : Grid} {m n : Nat} {kd : Kd} (h : GrA H g G) (s : Sh G m n) : PmP (p__law_needs K) [.ref g, .str kd.s] H (fun v Ha Hb => ∃ d, v = .ref d ∧ Ha d = none ∧ DkA Hb d (lawNeeds G m n kd) (pairsOf G m n)) := fun H1 e Q q => ⟨g, G, m, n, kd, rfl, h.ex e, s, fun d H2 e2 hn hd => q _ H2 e2 ⟨d, rfl, hn, hd⟩⟩
def p__law_met : Pm := fun vs H Q => ∃ (o d : Addr) (needs : List (List Pr)) (ps : List Pr), vs = [.ref o, .ref d] ∧ NeA H (.ref o) needs ∧ H d = some (.dT (kvT ps)) ∧ (∀ nd ∈ needs, nd.length ≤ 1000) ∧ RetB (.bl (metL ps needs)) H Q
theorem sc__law_met : FnScope ["_law_own", "_law_placed", "_law_need", "_law_spot"] ["_law_own", "_law_placed"] (defScope s__law_met) := ⟨rfl, rfl, rfl, by decide +kernel, rfl, by decide +kernel, by decide +kernel⟩
include T in
theorem ok__law_met : FnP P w K mg base 1 (He.ga K "_law_met") p__law_met := by
  obtain ⟨fd, F⟩ := T.f__law_met
  refine okR F sc__law_met (fun _ _ _ _ _ _ us hl => match us, hl with | [_, _], _ => rfl) (fun vs H Q h => by obtain ⟨o, d, needs, ps, rfl, _⟩ := h; rfl) fun cdv A outer s H vs Q hr h => ⟨_, (pss_cons (ps_for PassesOwn.never rfl (pi_list (pv 0)) (pg_name (i := 2) sc__law_met.nd rfl (.inl rfl)) (pss_one (ps_if (pt_cmpR op_eq (pe_callB call_len_seq (by rfl) T.n_len PySem.boot_len (pa_cons (pe_lc (own := [("_law_spot", 3)])  rfl sc__law_met.nd (pi_list (pv 2)) (blkOk_by (own := [("_law_spot", 3)]) (N := ["_law_own", "_law_placed", "_law_need", "_law_spot"]) (sc := (defScope s__law_met)) (by decide +kernel)) (fun _ _ _ _ _ => (pg_name (i := 3) sc__law_met.nd rfl (.inl rfl))) (fun _ _ _ _ _ => (pts_one (pt_cmp (pc_din (hu_of hr) (pv 3) (pv 1))))) (fun _ _ _ _ _ => (pv 3))) pa_nil)) pe_int (nomark _)) (pss_one (ps_ret pe_bl)) pss_nil))) (pss_one (ps_ret pe_bl))), ?_⟩
  obtain ⟨o, d, needs, ps, rfl, ⟨o', xs, eo, ho, hp⟩, hd, hl, q⟩ := h
  cases eo
  refine q_forI (evi_list (ev_var rfl) (sq_of ho)) fun H1 e1 => ⟨fun i σ' H' => (∃ z, σ' = [some (.ref o), some (.ref d), z, none]) ∧ Ex H1 H' ∧ metL ps (needs.take i) = true, ⟨⟨_, rfl⟩, Ex.refl _, rfl⟩, fun _ _ _ _ h => h.2.1, ?_, ?_⟩
  · rintro i x σ' H' H'' hi ⟨⟨z, rfl⟩, e2, hall⟩ ⟨rfl, hx⟩
    obtain ⟨nd, hnd, b, ys, rfl, hb, hpy⟩ := paired_get hp i x hx
    have hil : i < needs.length := (List.getElem?_eq_some_iff.mp hnd).1
    have eH := e1.trans e2
    have hln := hl nd (List.mem_of_getElem? hnd)
    have main := evp_lc (n := ys.length) (Y := YAt ys) (σ := [some (.ref o), some (.ref d), some (.ref b), none]) (H := H'') (wi := iList K (tVar 2)) (g := gName 3) (tt := tB (tDIn (tVar 3) (tVar 1))) (te := tVar 3) (vs := [3]) PrA PrA.ex' (fun i => (nd[i]?).bind fun q => if decide (q ∈ ps) = true then some q else none) (by rw [hpy.length]; omega) (evi_list (ev_var rfl) (sq_of (eH _ _ hb))) (by
      rintro D j Ha v Hb hj e hD hD' ⟨rfl, hv⟩ R kk
      obtain ⟨qq, hqq, c, rfl, hc⟩ := paired_get hpy j v hv
      have hcH := (eH.trans e) _ _ hc
      refine kk _ _ rfl (Ex.refl _) ?_ ?_
      · rw [hqq]
        have e2 : (((some qq : Option Pr).bind fun q => if decide (q ∈ ps) = true then some q else none).isSome) = decide (qq ∈ ps) := ifS
        rw [e2]
        exact et_B (ev_din (k := kP qq) (ev_var rfl) (ev_var rfl) ((eH.trans e) _ _ hd) hcH (kvT_get qq ps))
      · intro z hz
        have ez : z = qq := by
          rw [hqq] at hz
          have hz : (if decide (qq ∈ ps) = true then some qq else none) = some z := hz
          split at hz
          · exact (Option.some.inj hz).symm
          · cases hz
        subst ez
        exact fun Hc ec Q kq => (evp_of (ev_var (v := .ref c) rfl)) Hc ec Q fun v Hd ed ev => kq v Hd ed fun hDn => ⟨c, ev, by rw [hid_ne (ne_of_none (eH _ _ hc) hD)]; exact (ec.trans ed) _ _ hcH⟩)
    have eit : (List.range ys.length).filterMap (fun i => (nd[i]?).bind fun q => if decide (q ∈ ps) = true then some q else none) = nd.filter fun q => decide (q ∈ ps) := by
      rw [hpy.length, ← filterMap_if (fun q => decide (q ∈ ps))]
      conv => rhs; rw [← range_get nd]
      rw [List.filterMap_filterMap]
    rw [eit] at main
    refine s_when (b := decide ((nd.filter fun q => decide (q ∈ ps)).length = 0)) (et_test (ev_op (ev_lenP main) ev_c (rv_eqI (decide_eq_decide.mpr ⟨by omega, by omega⟩)))) (fun hb2 Ha ea => ?_) (fun hb2 Ha ea => ⟨⟨_, rfl⟩, e2.trans ea, ?_⟩)
    · refine s_ret ev_c fun Hb eb => ?_
      have ef : metL ps needs = false := by
        unfold metL
        rw [List.all_eq_false]
        exact ⟨nd, List.mem_of_getElem? hnd, by rw [hb2]; decide⟩
      rw [ef] at q
      exact q Hb (eH.trans (ea.trans eb))
    · rw [List.take_succ_eq_append_getElem hil, (List.getElem?_eq_some_iff.mp hnd).2]
      unfold metL at hall ⊢
      rw [List.all_append, hall, List.all_cons, hb2]
      rfl
  · rintro σ' H' ⟨_, e2, hall⟩
    rw [hp.length, List.take_length] at hall
    rw [hall] at q
    exact s_ret ev_c fun H2 e3 => q H2 (e1.trans (e2.trans e3))
include T in
theorem kp__law_met : PySem.W.keepIn K (.ref (He.ga K "_law_met")) = true := let ⟨_, F⟩ := T.f__law_met; F.kp
theorem u__law_met {H : Hp} {o d : Addr} {needs : List (List Pr)} {ps : List Pr} (h : NeA H (.ref o) needs) (hd : H d = some (.dT (kvT ps))) (hl : ∀ nd ∈ needs, nd.length ≤ 1000) : PmP p__law_met [.ref o, .ref d] H (Is (.bl (metL ps needs))) := pmp_ret fun H1 Q e q => ⟨o, d, needs, ps, rfl, NeA.ex _ _ _ _ e h, e _ _ hd, hl, q⟩
def opnL (f : Pr → List (List Pr)) (placed : List Pr) (p : Pr) : Bool := !decide (p ∈ placed) && metL placed (f p)
def p__law_open (K : PySem.W.Frag) : Pm := fun vs H Q => ∃ (d p : Addr) (f : Pr → List (List Pr)) (ps placed : List Pr), vs = [.ref d, .ref p] ∧ DkA H d f ps ∧ H p = some (.dT (kvT placed)) ∧ ps.length ≤ 1000 ∧ (∀ q ∈ ps, ∀ nd ∈ f q, nd.length ≤ 1000) ∧ ∀ v H', Ex H H' → LRel PrA (ps.filter (opnL f placed)) v H H' → Q v H'
theorem sc__law_open : FnScope ["_law_needs_here", "_law_placed", "_law_found", "_law_spot"] ["_law_needs_here", "_law_placed"] (defScope s__law_open) := ⟨rfl, rfl, rfl, by decide +kernel, rfl, by decide +kernel, by decide +kernel⟩
include T in
theorem ok__law_open : FnP P w K mg base 2 (He.ga K "_law_open") (p__law_open K) := by
  obtain ⟨fd, F⟩ := T.f__law_open
  refine okR F sc__law_open (fun _ _ _ _ _ _ us hl => match us, hl with | [_, _], _ => rfl) (fun vs H Q h => by obtain ⟨d, p, f, ps, placed, rfl, _⟩ := h; rfl) fun cdv A outer s H vs Q hr h => ⟨_, (pss_cons (ps_set (i := 2) sc__law_open.nd rfl (.inl rfl) (pe_lst pa_nil)) (pss_cons (ps_for PassesOwn.never rfl (pi_list (pe_callTy (call_list_dT rfl) (by rfl) T.n_list PyProof.Rows.boot_list (pa_cons (pv 0) pa_nil))) (pg_name (i := 3) sc__law_open.nd rfl (.inl rfl)) (pss_one (ps_if (PW.pt (pw_and (pt_cmp (pc_dnotin (hu_of hr) (pv 3) (pv 1))) (pw_and1 (pt_val (pe_cR (ok__law_met T) (hr.mono (by decide)) (by rfl) T.g__law_met (kp__law_met T) (pa_cons (pe_dget (hu_of hr) (pv 0) (pv 3) (fun _ _ => rfl)) (pa_cons (pv 1) pa_nil))))))) (pss_one (ps_expr (pe_bm PySem.F.plainAttrs_list PySem.F.slot_list_append PySem.F.type_list_append mt_append (pv 2) (pa_cons (pv 3) pa_nil)))) pss_nil))) (pss_one (ps_ret (pv 2))))), ?_⟩
  obtain ⟨d, p, f, ps, placed, rfl, ⟨kvs, hd, hkp⟩, hpd, hl, hlf, q⟩ := h
  refine q_asgL (el_lst ea_nil (by show 0 ≤ 100000; decide)) fun M H1 hMn e1 hM => ?_
  refine q_forP (evp_listT (ev_var rfl) (e1 _ _ hd) (kv_keys hkp)) fun v H2 e2 r => ?_
  obtain ⟨pa, xs, rfl, hpn, hpa, hpl⟩ := LRel.pl r
  have npM : pa ≠ M := fun z => by
    rw [z, hM] at hpn
    cases hpn
  have e12 := e1.trans e2
  refine ⟨pa, xs, rfl, sq_of hpa, fun i σ' H' => (∃ z, σ' = [some (.ref d), some (.ref p), some (.ref M), z]) ∧ Bld M H2 H' PrA ((ps.take i).filter (opnL f placed)), ⟨⟨_, rfl⟩, Bld.new (e2 _ _ hM)⟩, fun i σ' H' _ p => sq_of (p.2.1 _ _ (by rw [hid_ne npM]; exact hpa)), ?_, ?_⟩
  · rintro i x σ' H' hx ⟨⟨z, rfl⟩, hB⟩
    obtain ⟨qq, hqq, a, rfl, ha⟩ := paired_get hpl i x hx
    have hil : i < ps.length := (List.getElem?_eq_some_iff.mp hqq).1
    have hqm := List.mem_of_getElem? hqq
    have naM : a ≠ M := ne_of ha (e2 _ _ hM) (fun z => nomatch z)
    have haH : H' a = some (.tup (pV qq)) := hB.1 _ _ (by rw [hid_ne naM]; exact ha)
    have eH : Ex H H' := hB.h0 e12 hMn
    obtain ⟨v, hv, o, ys, rfl, hne⟩ := valV_key hkp qq hqm
    have hlen : ((ps.take i).filter (opnL f placed)).length < 100000 := by
      have := List.length_filter_le (opnL f placed) (ps.take i)
      rw [List.length_take] at this
      omega
    refine s_when (b := opnL f placed qq) (et_and (et_B (ev_dnin (k := kP qq) (ev_var rfl) (ev_var rfl) (eH _ _ hpd) haH (by rw [kvT_get]))) fun _ => et_B (ev_c' (ea_cons (ev_dget (k := kP qq) (v := .ref o) (ev_var rfl) (ev_var rfl) (eH _ _ hd) haH hv) (ea_cons (ev_var rfl) ea_nil)) (u__law_met (NeA.ex _ _ _ _ eH ⟨o, ys, rfl, hne⟩) (eH _ _ hpd) (hlf qq hqm)))) (fun hb Ha ea => ?_) (fun hb Ha ea => ⟨⟨_, rfl⟩, ?_⟩)
    · refine s_bld (item := qq) PrA.ex' (hB.ex PrA.ex' ea) hlen (ev_var rfl) (evp_of (ev_var (v := .ref a) rfl)) (fun v Hb Hc eb ec hn ev => ⟨a, ev, by rw [hid_ne naM]; exact (ea.trans (eb.trans ec)) _ _ haH⟩) fun Hb hBb => ⟨⟨_, rfl⟩, ?_⟩
      rw [List.take_succ_eq_append_getElem hil, (List.getElem?_eq_some_iff.mp hqq).2, List.filter_append, List.filter_cons_of_pos hb]
      exact hBb
    · rw [List.take_succ_eq_append_getElem hil, (List.getElem?_eq_some_iff.mp hqq).2, List.filter_append, List.filter_cons_of_neg (by rw [hb]; decide), List.filter_nil, List.append_nil]
      exact hB.ex PrA.ex' ea
  · rintro σ' H' ⟨⟨z, rfl⟩, hB⟩
    rw [hpl.length, List.take_length] at hB
    refine s_ret (ev_var rfl) fun H5 e5 => ?_
    have hB5 := hB.ex PrA.ex' e5
    exact q _ H5 (hB5.h0 e12 hMn) (hB5.lrel hMn)
include T in
theorem kp__law_open : PySem.W.keepIn K (.ref (He.ga K "_law_open")) = true := let ⟨_, F⟩ := T.f__law_open; F.kp
theorem u__law_open {K : PySem.W.Frag} {H : Hp} {d p : Addr} {f : Pr → List (List Pr)} {ps placed : List Pr} (h : DkA H d f ps) (hd : H p = some (.dT (kvT placed))) (hl : ps.length ≤ 1000) (hf : ∀ q ∈ ps, ∀ nd ∈ f q, nd.length ≤ 1000) : PmP (p__law_open K) [.ref d, .ref p] H (LRel PrA (ps.filter (opnL f placed))) := fun H1 e Q q => ⟨d, p, f, ps, placed, rfl, h.ex e, e _ _ hd, hl, hf, fun v H2 e2 r => q v H2 e2 r⟩
end
end K50
end
section /- LW5 -/
set_option Elab.async false
set_option linter.all false
set_option maxRecDepth 100000
set_option maxHeartbeats 1000000
/-! The law's walk. -/
namespace K50
open PySem PySem.Spec L2 Evl EV GF GenW
open PyProof.Rows hiding St
theorem mod_pl {i : Int} {n : Nat} (h : 0 < n) : (i % (n : Int)).toNat < n ∧ (((i % (n : Int)).toNat : Nat) : Int) = i % (n : Int) := by
  have a := Int.emod_nonneg i (show (n : Int) ≠ 0 by omega)
  have b := Int.emod_lt_of_pos i (show 0 < (n : Int) by omega)
  generalize i % (n : Int) = r at a b
  exact ⟨by omega, by omega⟩
theorem mem_ord {G : Grid} {m n : Nat} {ks : List Nat} (hk : ∀ k ∈ ks, k < (pairsOf G m n).length) {q : Pr} (hq : q ∈ pairsOf G m n) : q ∈ ordOf G m n ks ↔ (pairsOf G m n).idxOf q ∈ ks := by
  constructor
  · intro h
    obtain ⟨k, hkk, rfl⟩ := List.mem_map.mp h
    rw [idx_getD pairs_nodup (hk k hkk)]
    exact hkk
  · intro h
    exact List.mem_map.mpr ⟨_, h, getD_idx hq⟩
theorem metL_iff {ps : List Pr} {needs : List (List Pr)} : metL ps needs = true ↔ ∀ nd ∈ needs, ∃ q ∈ nd, q ∈ ps := by
  unfold metL
  rw [List.all_eq_true]
  refine forall_congr' fun nd => forall_congr' fun _ => ?_
  rw [Bool.not_eq_true', decide_eq_false_iff_not, List.length_eq_zero_iff]
  constructor
  · intro h
    obtain ⟨q, hq⟩ := List.exists_mem_of_ne_nil _ h
    obtain ⟨h1, h2⟩ := List.mem_filter.mp hq
    exact ⟨q, h1, of_decide_eq_true h2⟩
  · rintro ⟨q, h1, h2⟩ z
    have : q ∈ nd.filter fun q => decide (q ∈ ps) := List.mem_filter.mpr ⟨h1, decide_eq_true h2⟩
    rw [z] at this
    cases this
theorem opnL_opn {G : Grid} {m n : Nat} {kd : Kd} {ks : List Nat} (sh : Sh G m n) (h : Part (masksOf G m n kd) (pairsOf G m n).length 0 ks) {k : Nat} (hk : k < (pairsOf G m n).length) :
    opnL (lawNeeds G m n kd) (ordOf G m n ks) ((pairsOf G m n).getD k (0, 0)) = opn (masksOf G m n kd) (setOf 0 ks) k := by
  have hlt := fun k hk => ((part_nodup ks 0 h).2 k hk).1
  have hp : (pairsOf G m n).getD k (0, 0) ∈ pairsOf G m n := getD_mem hk
  have bit : ∀ j, (setOf 0 ks).testBit j = decide (j ∈ ks) := fun j => by rw [setOf_bit ks 0 j h, Nat.zero_testBit, Bool.false_or]
  rw [Bool.eq_iff_iff, opn_iff hk, bit, decide_eq_false_iff_not]
  unfold opnL
  rw [Bool.and_eq_true, Bool.not_eq_true', decide_eq_false_iff_not, mem_ord hlt hp, idx_getD pairs_nodup hk, metL_iff]
  refine and_congr Iff.rfl ⟨fun a nd hnd => ?_, fun a nd hnd => ?_⟩
  · obtain ⟨q, h1, h2⟩ := a nd ((lawNeeds_mem hp).mpr hnd)
    refine ⟨q, h1, ?_⟩
    rw [bit]
    exact decide_eq_true ((mem_ord hlt ((needs_mem sh hp hnd).2 q h1)).mp h2)
  · have hnd := (lawNeeds_mem hp).mp hnd
    obtain ⟨q, h1, h2⟩ := a nd hnd
    rw [bit] at h2
    exact ⟨q, h1, (mem_ord hlt ((needs_mem sh hp hnd).2 q h1)).mpr (of_decide_eq_true h2)⟩
theorem open_found {G : Grid} {m n : Nat} {kd : Kd} {ks : List Nat} (sh : Sh G m n) (h : Part (masksOf G m n kd) (pairsOf G m n).length 0 ks) {q : Pr} (hq : q ∈ (pairsOf G m n).filter (opnL (lawNeeds G m n kd) (ordOf G m n ks))) :
    (pairsOf G m n).idxOf q ∈ opens (masksOf G m n kd) (pairsOf G m n).length (setOf 0 ks) := by
  obtain ⟨h1, h2⟩ := List.mem_filter.mp hq
  have hk := idx_lt h1
  refine mem_opens.mpr ⟨hk, ?_⟩
  rw [← opnL_opn sh h hk, getD_idx h1]
  exact h2
theorem found_none {G : Grid} {m n : Nat} {kd : Kd} {ks : List Nat} (sh : Sh G m n) (h : Part (masksOf G m n kd) (pairsOf G m n).length 0 ks) (e : (pairsOf G m n).filter (opnL (lawNeeds G m n kd) (ordOf G m n ks)) = []) :
    opens (masksOf G m n kd) (pairsOf G m n).length (setOf 0 ks) = [] := by
  refine List.eq_nil_iff_forall_not_mem.mpr fun k hk => ?_
  obtain ⟨h1, h2⟩ := mem_opens.mp hk
  rw [← opnL_opn sh h h1] at h2
  have : (pairsOf G m n).getD k (0, 0) ∈ (pairsOf G m n).filter (opnL (lawNeeds G m n kd) (ordOf G m n ks)) := List.mem_filter.mpr ⟨getD_mem h1, h2⟩
  rw [e] at this
  cases this
theorem lawNeeds_short {G : Grid} {m n : Nat} {kd : Kd} (sh : Sh G m n) : ∀ q ∈ pairsOf G m n, ∀ nd ∈ lawNeeds G m n kd q, nd.length ≤ 1000 := fun q hq nd hnd => by
  have := (needs_mem sh hq ((lawNeeds_mem hq).mp hnd)).1
  omega
theorem kvT_app (ps : List Pr) (q : Pr) : kvT ps ++ [(kP q, V.bl true)] = kvT (ps ++ [q]) := by
  unfold kvT
  rw [List.map_append]
  rfl
theorem kvT_none {ps : List Pr} {q : Pr} (h : q ∉ ps) : valV (kvT ps) (kP q) = none := by
  have e := kvT_get q ps
  rw [decide_eq_false h] at e
  cases z : valV (kvT ps) (kP q) with
  | none => rfl
  | some v => rw [z] at e; cases e
section
variable {P : Program} {w : World} {K : PySem.W.Frag} {mg : Str → Option Value} {base : Heap} (T : Tx K mg)

def p__law_walk (K : PySem.W.Frag) : Pm := fun vs H Q => ∃ (d pk : Addr) (G : Grid) (m n : Nat) (kd : Kd) (ds : List Int), vs = [.ref d, .ref pk] ∧ Sh G m n ∧ DkA H d (lawNeeds G m n kd) (pairsOf G m n) ∧ H pk = some (.lst (ds.map V.int)) ∧ (pairsOf G m n).length ≤ ds.length ∧ (∀ H', Ex H H' → W (masksOf G m n kd) (pairsOf G m n).length 0 = 0 → (∀ ks, ¬ Run (masksOf G m n kd) (pairsOf G m n).length 0 ks) → Q .non H') ∧ ∀ v H' ks, Ex H H' → Run (masksOf G m n kd) (pairsOf G m n).length 0 ks → LRel PrA (ordOf G m n ks) v H H' → Q v H'
theorem sc__law_walk : FnScope ["_law_needs_here", "_law_picks", "_law_placed", "_law_k", "_law_found"] ["_law_needs_here", "_law_picks"] (defScope s__law_walk) := ⟨rfl, rfl, rfl, by decide +kernel, rfl, by decide +kernel, by decide +kernel⟩
include T in
theorem ok__law_walk : FnP P w K mg base 3 (He.ga K "_law_walk") (p__law_walk K) := by
  obtain ⟨fd, F⟩ := T.f__law_walk
  refine okR F sc__law_walk (fun _ _ _ _ _ _ us hl => match us, hl with | [_, _], _ => rfl) (fun vs H Q h => by obtain ⟨d, pk, G, m, n, kd, ds, rfl, _⟩ := h; rfl) fun cdv A outer s H vs Q hr h => ⟨_, (pss_cons (ps_set (i := 2) sc__law_walk.nd rfl (.inl rfl) pe_dnewT) (pss_cons (ps_for PassesOwn.never rfl (pi_range1 (by rfl) T.n_range (pa_cons (pe_callB call_len_dT (by rfl) T.n_len PySem.boot_len (pa_cons (pv 0) pa_nil)) pa_nil)) (pg_name (i := 3) sc__law_walk.nd rfl (.inl rfl)) (pss_cons (ps_set (i := 4) sc__law_walk.nd rfl (.inl rfl) (pe_cR (ok__law_open T) (hr.mono (by decide)) (by rfl) T.g__law_open (kp__law_open T) (pa_cons (pv 0) (pa_cons (pv 2) pa_nil)))) (pss_cons (ps_if (pt_cmpR op_eq (pe_callB call_len_seq (by rfl) T.n_len PySem.boot_len (pa_cons (pv 4) pa_nil)) pe_int (nomark _)) (pss_one (ps_ret pe_non)) pss_nil) (pss_one (ps_dput (hu_of hr) (pv 2) (pe_ix ix_list (pv 4) (pe_op op_mod (pe_callTy call_int1 (by rfl) T.n_int PyProof.Rows.boot_int (pa_cons (pe_ix ix_list (pv 1) (pv 3) (fun _ _ => rfl)) pa_nil)) (pe_callB call_len_seq (by rfl) T.n_len PySem.boot_len (pa_cons (pv 4) pa_nil))) (fun _ _ => rfl)) pe_bl rfl))))) (pss_one (ps_ret (pe_callTy (call_list_dT rfl) (by rfl) T.n_list PyProof.Rows.boot_list (pa_cons (pv 2) pa_nil)))))), ?_⟩
  obtain ⟨d, pk, G, m, n, kd, ds, rfl, sh, hdk, hpk, hlen, qn, qs⟩ := h
  obtain ⟨kvs, hd, hkp⟩ := id hdk
  have h64 := pairs_len sh
  have nd : (pairsOf G m n).Nodup := pairs_nodup
  obtain ⟨N, eN⟩ : ∃ N, (pairsOf G m n).length = N := ⟨_, rfl⟩
  obtain ⟨ms, ems⟩ : ∃ ms, masksOf G m n kd = ms := ⟨_, rfl⟩
  refine q_dnewT fun M hMn => ?_
  have e1 : Ex H (upd H M (.dT [])) := Ex.new hMn
  obtain ⟨H1, hH1⟩ : ∃ H1, H1 = upd H M (.dT []) := ⟨_, rfl⟩
  have hM : H1 M = some (.dT []) := by rw [hH1]; exact upd_same
  rw [← hH1] at e1 ⊢
  refine q_forR1 (n := (N : Int)) (ea_cons (ev_is (ev_lenT2 (ev_var rfl) (e1 _ _ hd)) (by rw [hkp.length, eN])) ea_nil) (by omega) (fun i σ' H' => (∃ z3 z4, σ' = [some (.ref d), some (.ref pk), some (.ref M), z3, z4]) ∧ Ex (hid M H1) H' ∧ ∃ ks, ks.length = i ∧ Part ms N 0 ks ∧ H' M = some (.dT (kvT (ordOf G m n ks)))) (fun H2 e2 => ⟨⟨_, _, rfl⟩, hid_le.trans e2, [], rfl, trivial, e2 _ _ hM⟩) ?_ ?_
  · rintro i σ' H' hi ⟨⟨z3, z4, rfl⟩, eH, ks, hkl, hpt, hMk⟩
    have hiN : i < N := by omega
    have eHH : Ex H H' := (hid_of e1 hMn).trans eH
    have hpt' : Part (masksOf G m n kd) (pairsOf G m n).length 0 ks := by rw [eN, ems]; exact hpt
    obtain ⟨full1, full2⟩ := part_full hpt
    have hSlt := setOf_lt ks 0 (Nat.two_pow_pos N) hpt
    refine q_asgP (evp_c (ea_cons (ev_var rfl) (ea_cons (ev_var rfl) ea_nil)) (u__law_open (hdk.ex eHH) hMk (by omega) (lawNeeds_short sh)) LRel.back) fun v H2 e2 r => ?_
    obtain ⟨fa, xs, rfl, hfn, hfa, hfl⟩ := LRel.pl r
    refine q_when (b := decide (xs.length = 0)) (et_test (ev_op (ev_len (ev_var rfl) (sq_of hfa)) ev_c (rv_eqI (decide_eq_decide.mpr ⟨by omega, by omega⟩)))) (fun hb H3 e3 => ?_) (fun hb H3 e3 => ?_)
    · have hz : (pairsOf G m n).filter (opnL (lawNeeds G m n kd) (ordOf G m n ks)) = [] := List.length_eq_zero_iff.mp (by rw [← hfl.length]; exact of_decide_eq_true hb)
      have ho := found_none sh hpt' hz
      rw [eN, ems] at ho
      obtain ⟨w0, wr⟩ := none_of_stuck (show setOf 0 ks + 1 < 2 ^ N by
        have : ¬ setOf 0 ks + 1 = 2 ^ N := fun z => by
          have := full2.mpr z
          omega
        omega) ho
      refine s_ret ev_c fun H4 e4 => qn H4 (eHH.trans (e2.trans (e3.trans e4))) ?_ ?_
      · rw [eN, ems]; exact w0
      · rw [eN, ems]; exact wr
    · have hx0 : 0 < xs.length := Nat.pos_of_ne_zero (of_decide_eq_false hb)
      have hil : i < ds.length := by omega
      obtain ⟨hj1, hj2⟩ := mod_pl (i := ds[i]) hx0
      obtain ⟨j, ej⟩ : ∃ j, j = (ds[i] % (xs.length : Int)).toNat := ⟨_, rfl⟩
      rw [← ej] at hj1 hj2
      obtain ⟨q, hq, a, exa, ha⟩ := paired_get hfl j xs[j] (List.getElem?_eq_getElem hj1)
      have hqf := List.mem_of_getElem? hq
      have hqp := (List.mem_filter.mp hqf).1
      have hqo := open_found sh hpt' hqf
      rw [eN, ems] at hqo
      have e23 := e2.trans e3
      have hnot : q ∉ ordOf G m n ks := by
        have h2 := (List.mem_filter.mp hqf).2
        unfold opnL at h2
        rw [Bool.and_eq_true, Bool.not_eq_true', decide_eq_false_iff_not] at h2
        exact h2.1
      have hkl2 : (kvT (ordOf G m n ks)).length = i := by
        unfold kvT
        rw [List.length_map, List.length_map, hkl]
      refine s_dput (b := a) (k := kP q) (kvs := kvT (ordOf G m n ks)) (v := .bl true) ev_c (ev_var rfl) (ev_op (ev_var rfl) (ev_is (w := .int (j : Int)) (ev_op (ev_int (i := ds[i]) (ev_op (ev_var rfl) (ev_var rfl) (rv_ixL (sq_of ((eHH.trans e23) _ _ hpk)) (atI_nat (by rw [List.getElem?_map, List.getElem?_eq_getElem hil]; rfl))))) (ev_len (ev_var rfl) (sq_of (e3 _ _ hfa))) (rv_I (show (0 : Int) < (xs.length : Int) by omega))) (by rw [hj2])) (rv_ixL (sq_of (e3 _ _ hfa)) (atI_nat (by rw [List.getElem?_eq_getElem hj1, exa])))) (e23 _ _ hMk) (e3 _ _ ha) (by omega) fun H4 e4 => ⟨⟨_, _, rfl⟩, ?_, ks ++ [(pairsOf G m n).idxOf q], ?_, part_app ks _ 0 hpt hqo, ?_⟩
      · exact Ex.mut (eH.trans (e23.trans e4)) (by unfold hid; rw [if_pos rfl])
      · rw [List.length_append, hkl]; rfl
      · rw [upd_same, putK_new _ (kvT_none hnot), kvT_app]
        have e : ordOf G m n (ks ++ [(pairsOf G m n).idxOf q]) = ordOf G m n ks ++ [q] := by
          show List.map _ _ = _
          rw [List.map_append]
          show _ ++ [(pairsOf G m n).getD ((pairsOf G m n).idxOf q) (0, 0)] = _
          rw [getD_idx hqp]
        rw [e]
  · rintro σ' H' ⟨⟨z3, z4, rfl⟩, eH, ks, hkl, hpt, hMk⟩
    rw [Int.toNat_natCast] at hkl
    have eHH : Ex H H' := (hid_of e1 hMn).trans eH
    have hrun := run_of_part ks 0 hpt ((part_full hpt).2.mp hkl)
    refine s_retP (evp_listT (ev_var rfl) hMk (kvT_keys _)) fun v H2 e2 r => qs v H2 ks (eHH.trans e2) (by rw [eN, ems]; exact hrun) (LRel.back _ _ _ _ eHH r)
include T in
theorem kp__law_walk : PySem.W.keepIn K (.ref (He.ga K "_law_walk")) = true := let ⟨_, F⟩ := T.f__law_walk; F.kp
theorem u__law_walk {K : PySem.W.Frag} {H : Hp} {d pk : Addr} {G : Grid} {m n : Nat} {kd : Kd} {ds : List Int} (sh : Sh G m n) (h : DkA H d (lawNeeds G m n kd) (pairsOf G m n)) (hp : H pk = some (.lst (ds.map V.int))) (hl : (pairsOf G m n).length ≤ ds.length) : PmP (p__law_walk K) [.ref d, .ref pk] H (fun v Ha Hb => (v = .non ∧ W (masksOf G m n kd) (pairsOf G m n).length 0 = 0 ∧ ∀ ks, ¬ Run (masksOf G m n kd) (pairsOf G m n).length 0 ks) ∨ ∃ ks, Run (masksOf G m n kd) (pairsOf G m n).length 0 ks ∧ LRel PrA (ordOf G m n ks) v Ha Hb) := fun H1 e Q q => ⟨d, pk, G, m, n, kd, ds, rfl, sh, h.ex e, e _ _ hp, hl, fun H2 e2 a b => q _ H2 e2 (.inl ⟨rfl, a, b⟩), fun v H2 ks e2 a b => q v H2 e2 (.inr ⟨ks, a, b⟩)⟩
end
end K50
end
section /- LW6 -/
set_option Elab.async false
set_option linter.all false
set_option maxRecDepth 100000
set_option maxHeartbeats 1000000
/-! The law's cutting of cells. -/
namespace K50
open PySem PySem.Spec L2 Evl EV GF GenW
open PyProof.Rows hiding St
theorem nodup_lenP : ∀ (l ks : List Pr), l.Nodup → (∀ x ∈ l, x ∈ ks) → l.length ≤ ks.length
  | [], _, _, _ => Nat.zero_le _
  | a :: l, ks, hn, h => by
    rw [List.nodup_cons] at hn
    have ha : a ∈ ks := h a List.mem_cons_self
    have ih := nodup_lenP l (ks.erase a) hn.2 fun x hx => by
      have e : x ≠ a := fun z => hn.1 (z ▸ hx)
      exact (List.mem_erase_of_ne e).mpr (h x (List.mem_cons_of_mem _ hx))
    rw [List.length_erase_of_mem ha] at ih
    have := List.length_pos_of_mem ha
    rw [List.length_cons]
    omega
abbrev Row := Addr × List (Option Int)
/-- a grid of own row lists -/
structure GrB (H : Hp) (g : Addr) (its : List Row) : Prop where
  g : H g = some (.lst (its.map fun p => .ref p.1))
  row : ∀ p ∈ its, H p.1 = some (.lst (p.2.map cV))
  nd : (its.map (·.1)).Nodup
abbrev gridOf (its : List Row) : Grid := its.map (·.2)
theorem GrB.gra {H : Hp} {g : Addr} {its : List Row} (h : GrB H g its) : GrA H g (gridOf its) := ⟨_, h.g, by
  have : ∀ l : List Row, (∀ p ∈ l, H p.1 = some (.lst (p.2.map cV))) → Paired (RowA H) (l.map fun p => V.ref p.1) (l.map (·.2)) := fun l => by
    induction l with
    | nil => exact fun _ => .nil
    | cons p l ih => exact fun h => .cons ⟨p.1, rfl, h p List.mem_cons_self⟩ (ih fun q hq => h q (List.mem_cons_of_mem _ hq))
  exact this its h.row⟩
theorem GrB.ex {H H' : Hp} {g : Addr} {its : List Row} (h : GrB H g its) (e : Ex H H') : GrB H' g its := ⟨e _ _ h.g, fun p hp => e _ _ (h.row p hp), h.nd⟩
/-- all stands but these -/
def Keep (B : List Addr) (H H' : Hp) : Prop := ∀ b o, H b = some o → b ∉ B → H' b = some o
theorem Keep.refl {B : List Addr} {H : Hp} : Keep B H H := fun _ _ h _ => h
theorem Keep.ex {B : List Addr} {H H' H2 : Hp} (h : Keep B H H') (e : Ex H' H2) : Keep B H H2 := fun b o hb hn => e _ _ (h b o hb hn)
theorem Keep.upd {B : List Addr} {H H' : Hp} (h : Keep B H H') {a : Addr} (ha : a ∈ B) {o : HO} : Keep B H (L2.upd H' a o) := fun b u hb hn => by
  rw [upd_ne (fun z => hn (by rw [z]; exact ha))]
  exact h b u hb hn
def cut (its : List Row) (i j : Nat) : List Row := match its[i]? with
  | some p => its.set i (p.1, p.2.set j none)
  | none => its
theorem cut_fst (its : List Row) (i j : Nat) : (cut its i j).map (·.1) = its.map (·.1) := by
  unfold cut
  split
  · rename_i p hp
    rw [List.map_set]
    have hi := (List.getElem?_eq_some_iff.mp hp).1
    refine List.ext_getElem? fun k => ?_
    rw [List.getElem?_set]
    by_cases e : i = k
    · subst e
      rw [if_pos rfl, if_pos (by rw [List.length_map]; exact hi), List.getElem?_map, hp]
      rfl
    · rw [if_neg e]
  · rfl
theorem cut_len (its : List Row) (i j : Nat) : (cut its i j).length = its.length := by
  have := congrArg List.length (cut_fst its i j)
  rw [List.length_map, List.length_map] at this
  exact this
theorem cut_grid {its : List Row} {i j : Nat} {p : Row} (hp : its[i]? = some p) : gridOf (cut its i j) = (gridOf its).set i (p.2.set j none) := by
  unfold cut gridOf
  rw [hp, List.map_set]
theorem cut_sh {its : List Row} {i j m n : Nat} (sh : Sh (gridOf its) m n) : Sh (gridOf (cut its i j)) m n where
  len := by rw [List.length_map, cut_len, ← sh.len, List.length_map]
  row := fun r hr => by
    unfold cut at hr
    split at hr
    · rename_i p hp
      obtain ⟨q, hq, rfl⟩ := List.mem_map.mp hr
      rcases List.mem_or_eq_of_mem_set hq with hq | rfl
      · exact sh.row _ (List.mem_map.mpr ⟨q, hq, rfl⟩)
      · show (p.2.set j none).length = n
        rw [List.length_set]
        exact sh.row _ (List.mem_map.mpr ⟨p, List.mem_of_getElem? hp, rfl⟩)
    · exact sh.row r hr
  m1 := sh.m1
  m8 := sh.m8
  n1 := sh.n1
  n8 := sh.n8
theorem cell_set {G : Grid} {i j r c : Nat} {row : List (Option Int)} (hi : G[i]? = some row) (h : (cell (G.set i (row.set j none)) r c).isSome = true) : (cell G r c).isSome = true ∧ ¬ (r = i ∧ c = j) := by
  have hil := (List.getElem?_eq_some_iff.mp hi).1
  unfold cell at h ⊢
  rw [List.getD_eq_getElem?_getD, List.getD_eq_getElem?_getD (l := G.set i _), List.getElem?_set] at h
  by_cases e : i = r
  · subst e
    rw [if_pos rfl, if_pos hil, Option.getD_some, List.getElem?_set] at h
    have eg : G.getD i [] = row := by rw [List.getD_eq_getElem?_getD, hi]; rfl
    rw [eg, List.getD_eq_getElem?_getD]
    by_cases e2 : j = c
    · rw [if_pos e2] at h
      split at h <;> cases h
    · rw [if_neg e2] at h
      exact ⟨h, fun z => e2 z.2.symm⟩
  · rw [if_neg e] at h
    rw [List.getD_eq_getElem?_getD, List.getD_eq_getElem?_getD]
    exact ⟨h, fun z => e z.1.symm⟩
theorem cut_pairs {G : Grid} {m n i j : Nat} {row : List (Option Int)} (hi : G[i]? = some row) (hp : (i, j) ∈ pairsOf G m n) : (pairsOf (G.set i (row.set j none)) m n).length + 1 ≤ (pairsOf G m n).length := by
  refine nodup_lenP ((i, j) :: pairsOf (G.set i (row.set j none)) m n) _ (List.nodup_cons.mpr ⟨fun z => ?_, pairs_nodup⟩) fun p hq => ?_
  · exact (cell_set hi (mem_pairsOf.mp z).2.2).2 ⟨rfl, rfl⟩
  · rcases List.mem_cons.mp hq with rfl | hq
    · exact hp
    · obtain ⟨a, b, c⟩ := mem_pairsOf.mp hq
      exact mem_pairsOf.mpr ⟨a, b, (cell_set hi c).1⟩
theorem pairsP (G : Grid) (m n : Nat) : pairsOf G m n = pairP G n m := rfl
section
variable {P : Program} {w : World} {K : PySem.W.Frag} {mg : Str → Option Value} {base : Heap} (T : Tx K mg)

def p__law_few (K : PySem.W.Frag) : Pm := fun vs H Q => ∃ (g pk : Addr) (mo : Nat) (its : List Row) (m n : Nat) (ds : List Int), vs = [.ref g, .ref pk, iV mo] ∧ GrB H g its ∧ Sh (gridOf its) m n ∧ H pk = some (.lst (ds.map V.int)) ∧ pk ∉ its.map (·.1) ∧ g ∉ its.map (·.1) ∧ ∀ its' H', its'.map (·.1) = its.map (·.1) → Keep (its.map (·.1)) H H' → GrB H' g its' → Sh (gridOf its') m n → ((pairsOf (gridOf its') m n).length ≤ mo ∨ (pairsOf (gridOf its') m n).length + ds.length ≤ m * n) → Q (.ref g) H'
theorem sc__law_few : FnScope ["_law_grid_here", "_law_picks", "_law_most", "_law_pick", "_law_spots_here", "_law_gone"] ["_law_grid_here", "_law_picks", "_law_most"] (defScope s__law_few) := ⟨rfl, rfl, rfl, by decide +kernel, rfl, by decide +kernel, by decide +kernel⟩
include T in
theorem ok__law_few : FnP P w K mg base 3 (He.ga K "_law_few") (p__law_few K) := by
  obtain ⟨fd, F⟩ := T.f__law_few
  refine okR F sc__law_few (fun _ _ _ _ _ _ us hl => match us, hl with | [_, _, _], _ => rfl) (fun vs H Q h => by obtain ⟨g, pk, mo, its, m, n, ds, rfl, _⟩ := h; rfl) fun cdv A outer s H vs Q hr h => ⟨_, (pss_cons (ps_for PassesOwn.never rfl (pi_list (pv 1)) (pg_name (i := 3) sc__law_few.nd rfl (.inl rfl)) (pss_cons (ps_set (i := 4) sc__law_few.nd rfl (.inl rfl) (pe_cR (ok__law_spots T) (hr.mono (by decide)) (by rfl) T.g__law_spots (kp__law_spots T) (pa_cons (pv 0) pa_nil))) (pss_one (ps_if (pt_cmpR op_gt (pe_callB call_len_seq (by rfl) T.n_len PySem.boot_len (pa_cons (pv 4) pa_nil)) (pv 2) (nomark _)) (pss_cons (ps_set (i := 5) sc__law_few.nd rfl (.inl rfl) (pe_ix ix_list (pv 4) (pe_op op_mod (pv 3) (pe_callB call_len_seq (by rfl) T.n_len PySem.boot_len (pa_cons (pv 4) pa_nil))) (fun _ _ => rfl))) (pss_one (ps_asg pe_non (pg_sub (pe_ix ix_list (pv 0) (pe_ix ix_tup (pv 5) pe_int (fun _ _ => rfl)) (fun _ _ => rfl)) (pe_ix ix_tup (pv 5) pe_int (fun _ _ => rfl)) set_list)))) pss_nil)))) (pss_one (ps_ret (pv 0)))), ?_⟩
  obtain ⟨g, pk, mo, its, m, n, ds, rfl, hB, sh, hpk, hpn, hgn, q⟩ := h
  refine q_forLn (ev_var rfl) (sq_of hpk) (fun i σ' H' => (∃ z3 z4 z5, σ' = [some (.ref g), some (.ref pk), some (iV mo), z3, z4, z5]) ∧ ∃ its', its'.map (·.1) = its.map (·.1) ∧ Keep (its.map (·.1)) H H' ∧ GrB H' g its' ∧ Sh (gridOf its') m n ∧ ((pairsOf (gridOf its') m n).length ≤ mo ∨ (pairsOf (gridOf its') m n).length + i ≤ m * n))
    (fun H1 e1 => ⟨⟨_, _, _, rfl⟩, its, rfl, Keep.refl.ex e1, hB.ex e1, sh, .inr (by rw [pairsP]; exact pairP_len _ _ _)⟩) (fun i σ' H' _ p => let ⟨_, _, k, _⟩ := p.2; sq_of (k _ _ hpk hpn)) ?_ ?_
  · rintro i x σ' H' hx ⟨⟨z3, z4, z5, rfl⟩, its', ef, kp, hB', sh', hc⟩
    rw [List.getElem?_map] at hx
    obtain ⟨d, hd, rfl⟩ := Option.map_eq_some_iff.mp hx
    refine q_asgP (evp_c (ea_cons (ev_var rfl) ea_nil) (u__law_spots hB'.gra sh') LRel.back) fun v H2 e2 r => ?_
    obtain ⟨fa, xs, rfl, hfn, hfa, hfl⟩ := LRel.pl r
    have hxl := hfl.length
    refine s_when (b := decide (mo < xs.length)) (et_test (ev_op (ev_len (ev_var rfl) (sq_of hfa)) (ev_var (v := iV mo) rfl) (rv_gt (decide_eq_decide.mpr (by omega))))) (fun hb H3 e3 => ?_) (fun hb H3 e3 => ⟨⟨_, _, _, rfl⟩, its', ef, kp.ex (e2.trans e3), hB'.ex (e2.trans e3), sh', .inl ?_⟩)
    · have hlt : mo < xs.length := of_decide_eq_true hb
      have hx0 : 0 < xs.length := by omega
      obtain ⟨hj1, hj2⟩ := mod_pl (i := d) hx0
      obtain ⟨t, et⟩ : ∃ t, t = (d % (xs.length : Int)).toNat := ⟨_, rfl⟩
      rw [← et] at hj1 hj2
      obtain ⟨p, hp, a, exa, ha⟩ := paired_get hfl t xs[t] (List.getElem?_eq_getElem hj1)
      have hpm := List.mem_of_getElem? hp
      obtain ⟨h1, h2, h3⟩ := mem_pairsOf.mp hpm
      refine q_asg (v := .ref a) (ev_op (ev_var rfl) (ev_is (w := .int (t : Int)) (ev_op (ev_var (v := .int d) rfl) (ev_len (ev_var rfl) (sq_of (e3 _ _ hfa))) (rv_I (show (0 : Int) < (xs.length : Int) by omega))) (by rw [hj2])) (rv_ixL (sq_of (e3 _ _ hfa)) (atI_nat (by rw [List.getElem?_eq_getElem hj1, exa])))) fun H4 e4 => ?_
      have e34 := e3.trans e4
      have hB4 := hB'.ex (e2.trans e34)
      have hil : p.1 < its'.length := by
        have := sh'.len
        rw [List.length_map] at this
        omega
      obtain ⟨pr, hpr⟩ : ∃ pr, its'[p.1]? = some pr := ⟨_, List.getElem?_eq_getElem hil⟩
      have hprm := List.mem_of_getElem? hpr
      have hrow := hB4.row pr hprm
      have hrl : pr.2.length = n := sh'.row _ (List.mem_map.mpr ⟨pr, hprm, rfl⟩)
      have h4a := e34 _ _ ha
      refine s_setL (j := p.2) (xs := pr.2.map cV) hrow ev_c (ev_op (ev_var rfl) (ev_op (ev_var (v := .ref a) rfl) ev_c (rv_ixT (st_of h4a) (atN (j := 0) (x := V.int (p.1 : Int)) rfl))) (rv_ixL (sq_of hB4.g) (atI_nat (by rw [List.getElem?_map, hpr]; rfl)))) (ev_op (ev_var (v := .ref a) rfl) ev_c (rv_ixT (st_of h4a) (atN (j := 1) (x := V.int (p.2 : Int)) rfl))) (by rw [List.length_map, hrl]; exact h2) fun H5 e5 => ⟨⟨_, _, _, rfl⟩, cut its' p.1 p.2, ?_, ?_, ?_, cut_sh sh', ?_⟩
      · rw [cut_fst, ef]
      · exact (kp.ex (e2.trans (e34.trans e5))).upd (by rw [← ef]; exact List.mem_map.mpr ⟨pr, hprm, rfl⟩)
      · have hB5 := hB4.ex e5
        have gne : g ≠ pr.1 := fun z => hgn (by rw [← ef, z]; exact List.mem_map.mpr ⟨pr, hprm, rfl⟩)
        have ec : cut its' p.1 p.2 = its'.set p.1 (pr.1, pr.2.set p.2 none) := by unfold cut; rw [hpr]
        refine ⟨?_, fun b hb => ?_, by rw [cut_fst]; exact hB5.nd⟩
        · have e6 : (cut its' p.1 p.2).map (fun p => V.ref p.1) = its'.map fun p => V.ref p.1 := by
            have := congrArg (List.map V.ref) (cut_fst its' p.1 p.2)
            rw [List.map_map, List.map_map] at this
            exact this
          rw [upd_ne gne, e6]
          exact hB5.g
        · rw [ec] at hb
          obtain ⟨k, hk, ek⟩ := List.getElem_of_mem hb
          rw [List.length_set] at hk
          rw [List.getElem_set] at ek
          by_cases e7 : p.1 = k
          · rw [if_pos e7] at ek
            subst ek
            rw [upd_same, List.map_set]
            rfl
          · rw [if_neg e7] at ek
            have hne : b.1 ≠ pr.1 := fun z => by
              have h8 := List.pairwise_iff_getElem.mp hB5.nd
              have e9 : (its'.map (·.1))[k]'(by rw [List.length_map]; exact hk) = b.1 := by rw [List.getElem_map, ek]
              have e10 : (its'.map (·.1))[p.1]'(by rw [List.length_map]; exact hil) = pr.1 := by rw [List.getElem_map, (List.getElem?_eq_some_iff.mp hpr).2]
              rcases Nat.lt_or_gt_of_ne e7 with l | l
              · exact h8 p.1 k _ _ l (by rw [e9, e10]; exact z.symm)
              · exact h8 k p.1 _ _ l (by rw [e9, e10]; exact z)
            rw [upd_ne hne]
            exact hB5.row b (by rw [← ek]; exact List.getElem_mem _)
      · have hcp := cut_pairs (m := m) (n := n) (i := p.1) (j := p.2) (show (gridOf its')[p.1]? = some pr.2 by rw [List.getElem?_map, hpr]; rfl) hpm
        rw [cut_grid hpr]
        rcases hc with hc | hc
        · exact .inl (by omega)
        · exact .inr (by omega)
    · have := of_decide_eq_false hb
      omega
  · rintro σ' H' ⟨⟨z3, z4, z5, rfl⟩, its', ef, kp, hB', sh', hc⟩
    rw [List.length_map] at hc
    exact s_ret (ev_var rfl) fun H5 e5 => q its' H5 ef (kp.ex e5) (hB'.ex e5) sh' hc
include T in
theorem kp__law_few : PySem.W.keepIn K (.ref (He.ga K "_law_few")) = true := let ⟨_, F⟩ := T.f__law_few; F.kp
end
end K50
end
section /- LW7 -/
set_option Elab.async false
set_option linter.all false
set_option maxRecDepth 100000
set_option maxHeartbeats 1000000
/-! The law's grid. -/
namespace K50
open PySem PySem.Spec L2 Evl EV GF GenW
open PyProof.Rows hiding St
theorem flat_rep {α : Type} (x : α) : ∀ k : Nat, (List.replicate k [x]).flatten = List.replicate k x
  | 0 => rfl
  | k + 1 => by rw [List.replicate_succ, List.flatten_cons, flat_rep x k]; rfl
section
variable {K : PySem.W.Frag} {σ : L2.St} {H : Hp} {D : Ends} {tu tz : TS} {t : TT} {ta tb : TE}
theorem q_mid {b : Bool} (Pc : L2.St → Hp → Prop) (h : EvT t σ H b) (h1 : b = true → ∀ H1, Ex H H1 → ∀ X : L2.St → Hp → Prop, (∀ σ' H', Pc σ' H' → X σ' H') → tu { D with nx := X } σ H1) (h2 : b = false → ∀ H1, Ex H H1 → Pc σ H1)
    (k : ∀ σ' H', Pc σ' H' → tz D σ' H') : tSeq (tIfS t tu tNext) tz D σ H := q_when h (fun hb H1 e => h1 hb H1 e _ k) fun hb H1 e => k _ _ (h2 hb H1 e)
theorem el_rep {x : V} {k : Nat} (h : EvL ta σ H [x]) (hb : ∀ H1, Ex H H1 → Ev tb σ H1 (.int (k : Int))) (hk : k ≤ 1000) : EvL (tOp rRep ta tb) σ H (List.replicate k x) := fun H1 e Q q =>
  h H1 e _ fun p H2 hn e2 hp => hb H2 (e.trans e2) H2 (Ex.refl H2) _ fun H3 e3 => ⟨p, (k : Int), [x], rfl, rfl, e3 _ _ hp, by omega, by omega, by
    rw [Int.toNat_natCast]
    have : k ≤ sizeLine := Nat.le_trans hk (by decide)
    show 1 * k ≤ sizeLine
    omega, fun r hr => by
      rw [Int.toNat_natCast, flat_rep]
      exact q r _ (fresh_back (e2.trans e3) hr) ((e2.trans e3).trans (Ex.new hr)) upd_same⟩
theorem el_cat {xs ys : List V} (ha : EvL ta σ H xs) (hb : EvL tb σ H ys) (hl : xs.length + ys.length ≤ 10000) : EvL (tOp rCat ta tb) σ H (xs ++ ys) := fun H1 e Q q =>
  ha H1 e _ fun p H2 hn e2 hp => hb H2 (e.trans e2) _ fun r H3 hn3 e3 hr => ⟨p, r, xs, ys, rfl, rfl, e3 _ _ hp, hr, Nat.le_trans hl (by decide), fun z hz => q z _ (fresh_back (e2.trans e3) hz) ((e2.trans e3).trans (Ex.new hz)) upd_same⟩
end
abbrev CvA : Hp → V → Option Int → Prop := fun _ v c => v = cV c
theorem CvA.ex : ∀ (H H' : Hp) (v : V) (c : Option Int), Ex H H' → CvA H v c → CvA H' v c := fun _ _ _ _ _ h => h
theorem paired_cv : ∀ {xs : List V} {cs : List (Option Int)}, Paired (fun v c => v = cV c) xs cs → xs = cs.map cV
  | _, _, .nil => rfl
  | _, _, .cons h t => by rw [h, paired_cv t]; rfl
theorem Bld.cv {M : Addr} {H0 H : Hp} {cs : List (Option Int)} (h : Bld M H0 H CvA cs) : H M = some (.lst (cs.map cV)) := by
  obtain ⟨_, ys, h1, h2⟩ := h
  rw [h1, paired_cv h2]
abbrev RwF : Hp → V → Row → Prop := fun H v p => v = .ref p.1 ∧ H p.1 = some (.lst (p.2.map cV))
theorem RwF.ex : ∀ (H H' : Hp) (v : V) (p : Row), Ex H H' → RwF H v p → RwF H' v p := fun _ _ _ _ e h => ⟨h.1, e _ _ h.2⟩
theorem paired_rw {H : Hp} : ∀ {xs : List V} {its : List Row}, Paired (RwF H) xs its → xs = its.map (fun p => .ref p.1) ∧ ∀ p ∈ its, H p.1 = some (.lst (p.2.map cV))
  | _, _, .nil => ⟨rfl, fun _ h => (nomatch h)⟩
  | _, _, .cons h t => ⟨by rw [h.1, (paired_rw t).1]; rfl, fun p hp => by
      rcases List.mem_cons.mp hp with rfl | hp
      · exact h.2
      · exact (paired_rw t).2 p hp⟩
theorem Bld.grb {M : Addr} {H0 H : Hp} {its : List Row} (h : Bld M H0 H RwF its) (nd : (its.map (·.1)).Nodup) : GrB H M its := by
  obtain ⟨_, ys, h1, h2⟩ := h
  obtain ⟨a, b⟩ := paired_rw h2
  exact ⟨by rw [h1, a], fun p hp => hid_le _ _ (b p hp), nd⟩
theorem cutV_nat {ds : List Int} {a b : Nat} (h1 : a ≤ b) (h2 : b ≤ ds.length) : cutV (ds.map V.int) (some (a : Int)) (some (b : Int)) = ((ds.drop a).take (b - a)).map V.int := by
  unfold cutV
  rw [HT.sIx_nat, HT.sIx_nat, List.length_map, Nat.min_eq_left (show a ≤ ds.length by omega), Nat.min_eq_left h2, List.map_take, List.map_drop]
theorem cutV_to {ds : List Int} {a : Nat} (h1 : a ≤ ds.length) : cutV (ds.map V.int) (some (a : Int)) none = (ds.drop a).map V.int := by
  unfold cutV
  rw [HT.sIx_nat, HT.sIx_none, List.length_map, Nat.min_eq_left h1, List.map_drop, List.take_of_length_le]
  rw [List.length_drop, List.length_map]
  exact Nat.le_refl _
section
variable {P : Program} {w : World} {K : PySem.W.Frag} {mg : Str → Option Value} {base : Heap} (T : Tx K mg)

def p__law_grid (K : PySem.W.Frag) : Pm := fun vs H Q => ∃ (l : Addr) (k m n : Nat) (st shr : Int), vs = [.ref l, iV k, iV m, iV n, .int st, .int shr] ∧ ScA K H l ∧ k < 1000 ∧ 1 ≤ m ∧ m ≤ 8 ∧ 1 ≤ n ∧ n ≤ 8 ∧ ∀ g its H', Ex H H' → H g = none → GrB H' g its → Sh (gridOf its) m n → (∀ p ∈ its, H p.1 = none) → g ∉ its.map (·.1) → Q (.ref g) H'
theorem sc__law_grid : FnScope ["_law_script", "_law_spot", "_law_m", "_law_n", "_law_style", "_law_share", "_law_spread", "_law_sizes", "_law_drawn", "_law_high", "_law_wide", "_law_grid_here", "_law_i", "_law_row", "_law_j", "_law_number", "_law_price"] ["_law_script", "_law_spot", "_law_m", "_law_n", "_law_style", "_law_share"] (defScope s__law_grid) := ⟨rfl, rfl, rfl, by decide +kernel, rfl, by decide +kernel, by decide +kernel⟩
include T in
theorem ok__law_grid : FnP P w K mg base 4 (He.ga K "_law_grid") (p__law_grid K) := by
  obtain ⟨fd, F⟩ := T.f__law_grid
  refine okR F sc__law_grid (fun _ _ _ _ _ _ us hl => match us, hl with | [_, _, _, _, _, _], _ => rfl) (fun vs H Q h => by obtain ⟨l, k, m, n, st, shr, rfl, _⟩ := h; rfl) fun cdv A outer s H vs Q hr h => ⟨_, (pss_cons (ps_set (i := 6) sc__law_grid.nd rfl (.inl rfl) (pe_ix ix_list (pe_lst (pa_cons pe_int (pa_cons pe_int (pa_cons pe_int (pa_cons (pe_op op_pow pe_int pe_int) pa_nil))))) (pe_op op_mod (pv 4) pe_int) (fun _ _ => rfl))) (pss_cons (ps_if (pt_cmpR op_eq (pv 4) pe_int (nomark _)) (pss_one (ps_set (i := 6) sc__law_grid.nd rfl (.inl rfl) (pe_op op_pow pe_int pe_int))) pss_nil) (pss_cons (ps_set (i := 7) sc__law_grid.nd rfl (.inl rfl) (pe_op op_cat (pe_op op_rep (pe_lst (pa_cons (pe_op op_mul pe_int (pv 6)) pa_nil)) (pe_op op_mul (pv 2) (pv 3))) (pe_op op_rep (pe_lst (pa_cons (pv 6) pa_nil)) (pe_op op_add (pv 2) (pv 3))))) (pss_cons (ps_set (i := 8) sc__law_grid.nd rfl (.inl rfl) (pe_cR (ok__law_draws T) (hr.mono (by decide)) (by rfl) T.g__law_draws (kp__law_draws T) (pa_cons (pv 0) (pa_cons (pv 1) (pa_cons (pv 7) pa_nil))))) (pss_cons (ps_set (i := 9) sc__law_grid.nd rfl (.inl rfl) (pe_slice sl_list (pv 8) (po_some (pe_op op_mul (pv 2) (pv 3))) (po_some (pe_op op_add (pe_op op_mul (pv 2) (pv 3)) (pv 2))))) (pss_cons (ps_set (i := 10) sc__law_grid.nd rfl (.inl rfl) (pe_slice sl_list (pv 8) (po_some (pe_op op_add (pe_op op_mul (pv 2) (pv 3)) (pv 2))) po_none)) (pss_cons (ps_set (i := 11) sc__law_grid.nd rfl (.inl rfl) (pe_lst pa_nil)) (pss_cons (ps_for PassesOwn.never rfl (pi_range1 (by rfl) T.n_range (pa_cons (pv 2) pa_nil)) (pg_name (i := 12) sc__law_grid.nd rfl (.inl rfl)) (pss_cons (ps_set (i := 13) sc__law_grid.nd rfl (.inl rfl) (pe_lst pa_nil)) (pss_cons (ps_for PassesOwn.never rfl (pi_range1 (by rfl) T.n_range (pa_cons (pv 3) pa_nil)) (pg_name (i := 14) sc__law_grid.nd rfl (.inl rfl)) (pss_cons (ps_set (i := 15) sc__law_grid.nd rfl (.inl rfl) (pe_ix ix_list (pv 8) (pe_op op_add (pe_op op_mul (pv 12) (pv 3)) (pv 14)) (fun _ _ => rfl))) (pss_cons (ps_set (i := 16) sc__law_grid.nd rfl (.inl rfl) (pe_op op_sub (pe_op op_fdiv (pv 15) pe_int) (pe_op op_fdiv (pv 6) pe_int))) (pss_cons (ps_if (pt_cmpR op_ge (pv 4) pe_int (nomark _)) (pss_one (ps_set (i := 16) sc__law_grid.nd rfl (.inl rfl) (pe_op op_sub (pe_op op_add (pe_ix ix_list (pv 9) (pv 12) (fun _ _ => rfl)) (pe_op op_mul pe_int (pe_ix ix_list (pv 10) (pv 14) (fun _ _ => rfl)))) (pe_op op_mulW (pe_ix ix_list (pv 9) (pv 12) (fun _ _ => rfl)) (pe_ix ix_list (pv 10) (pv 14) (fun _ _ => rfl)))))) pss_nil) (pss_cons (ps_if (PW.pt (pw_and (pt_cmpR op_gt (pv 5) pe_int (nomark _)) (pw_and1 (pt_cmpR op_eq (pe_op op_mod (pe_callTy call_int1 (by rfl) T.n_int PyProof.Rows.boot_int (pa_cons (pv 15) pa_nil)) (pe_callB (call_max2 rfl) (by rfl) T.n_max PyProof.Rows.boot_max (pa_cons pe_int (pa_cons (pv 5) pa_nil)))) pe_int (nomark _))))) (pss_one (ps_set (i := 16) sc__law_grid.nd rfl (.inl rfl) pe_non)) pss_nil) (pss_one (ps_expr (pe_bm PySem.F.plainAttrs_list PySem.F.slot_list_append PySem.F.type_list_append mt_append (pv 13) (pa_cons (pv 16) pa_nil))))))))) (pss_one (ps_expr (pe_bm PySem.F.plainAttrs_list PySem.F.slot_list_append PySem.F.type_list_append mt_append (pv 11) (pa_cons (pv 13) pa_nil))))))) (pss_one (ps_ret (pv 11))))))))))), ?_⟩
  obtain ⟨l, k, m, n, st, shr, rfl, hs, hk, hm1, hm8, hn1, hn8, q⟩ := h
  have h64 : m * n ≤ 64 := Nat.mul_le_mul hm8 hn8
  have hmod : (10 : Int) ^ (59 : Int).toNat = 10 ^ 59 := rfl
  obtain ⟨s0, hs0, hs1, hs2⟩ : ∃ s0 : Int, atI [V.int 3, .int 8, .int 1000, .int (10 ^ (59 : Int).toNat)] (st % 4) = some (.int s0) ∧ 3 ≤ s0 ∧ s0 ≤ 10 ^ 59 := by
    have h1 : 0 ≤ st % 4 := Int.emod_nonneg _ (by decide)
    have h2 : st % 4 < 4 := Int.emod_lt_of_pos _ (by decide)
    have h3 : st % 4 = 0 ∨ st % 4 = 1 ∨ st % 4 = 2 ∨ st % 4 = 3 := by omega
    rcases h3 with h | h | h | h
    · rw [h]; exact ⟨3, rfl, by decide, by decide⟩
    · rw [h]; exact ⟨8, rfl, by decide, by decide⟩
    · rw [h]; exact ⟨1000, rfl, by decide, by decide⟩
    · rw [h]; exact ⟨10 ^ 59, rfl, by decide, by decide⟩
  have pow : ∀ {j : Int} {σ : L2.St} {H : Hp}, 0 ≤ j → j ≤ 1000 → Ev (tOp (rI CPow fun i j => .int (i ^ j.toNat)) (tC (.int 10)) (tC (.int j))) σ H (.int (10 ^ j.toNat)) := fun h1 h2 => ev_op ev_c ev_c (rv_I ⟨h1, by omega, by decide⟩)
  refine q_asg (v := .int s0) (ev_opL1 (el_lst (ea_cons ev_c (ea_cons ev_c (ea_cons ev_c (ea_cons (pow (by decide) (by decide)) ea_nil)))) (by show 4 ≤ 100000; decide)) (fun H1 e1 => ev_op (ev_var (v := .int st) rfl) ev_c (rv_I (show (0 : Int) < 4 by decide))) (fun p H1 hp e1 => rv_ixL (sq_of hp) hs0)) fun H1 e1 => ?_
  refine q_mid (b := decide (st = 7)) (fun σ' H' => ∃ sp : Int, σ' = [some (.ref l), some (iV k), some (iV m), some (iV n), some (.int st), some (.int shr), some (.int sp), none, none, none, none, none, none, none, none, none, none] ∧ 3 ≤ sp ∧ sp ≤ 10 ^ 59 ∧ Ex H H') (et_test (ev_op (ev_var (v := .int st) rfl) ev_c (rv_eqI rfl)))
    (fun hb H2 e2 X kx => s_asg (pow (by decide) (by decide)) fun H3 e3 => kx _ _ ⟨10 ^ 29, rfl, by decide, by decide, e1.trans (e2.trans e3)⟩) (fun hb H2 e2 => ⟨s0, rfl, hs1, hs2, e1.trans e2⟩) ?_
  rintro σ' H2 ⟨sp, rfl, hp1, hp2, e2⟩
  have hp3 : sp.natAbs < 2 ^ 200 := by
    have : (10 : Int) ^ 59 < 2 ^ 200 := by decide
    omega
  have mnE : ∀ {σ : L2.St} {H' : Hp}, σ[2]? = some (some (iV m)) → σ[3]? = some (some (iV n)) → Ev (tOp (rI CMul fun i j => .int (i * j)) (tVar 2) (tVar 3)) σ H' (.int ((m * n : Nat) : Int)) := fun h1 h2 => ev_is (ev_op (ev_var h1) (ev_var h2) (rv_I (.inl ⟨by omega, by omega⟩))) (by push_cast; rfl)
  have mnmE : ∀ {σ : L2.St} {H' : Hp}, σ[2]? = some (some (iV m)) → σ[3]? = some (some (iV n)) → Ev (tOp (rI0 fun i j => .int (i + j)) (tOp (rI CMul fun i j => .int (i * j)) (tVar 2) (tVar 3)) (tVar 2)) σ H' (.int ((m * n + m : Nat) : Int)) := fun h1 h2 => ev_is (ev_op (mnE h1 h2) (ev_var h1) rv_I0) (by push_cast; rfl)
  obtain ⟨ss, hss⟩ : ∃ ss : List Int, ss = List.replicate (m * n) (18 * sp) ++ List.replicate (m + n) sp := ⟨_, rfl⟩
  have hsl : ss.length = m * n + (m + n) := by rw [hss, List.length_append, List.length_replicate, List.length_replicate]
  have hsv : ss.map V.int = List.replicate (m * n) (V.int (18 * sp)) ++ List.replicate (m + n) (V.int sp) := by rw [hss, List.map_append, List.map_replicate, List.map_replicate]
  refine q_asgL (xs := ss.map V.int) (by
    rw [hsv]
    exact el_cat (el_rep (el_lst (ea_cons (ev_op ev_c (ev_var (v := .int sp) rfl) (rv_I (.inl ⟨by decide, by decide⟩))) ea_nil) (by show 1 ≤ 100000; decide)) (fun H3 e3 => mnE rfl rfl) (by omega))
      (el_rep (el_lst (ea_cons (ev_var (v := .int sp) rfl) ea_nil) (by show 1 ≤ 100000; decide)) (fun H3 e3 => ev_is (ev_op (ev_var (v := iV m) rfl) (ev_var (v := iV n) rfl) rv_I0) (show _ = V.int ((m + n : Nat) : Int) by push_cast; rfl)) (by omega)) (by rw [List.length_replicate, List.length_replicate]; omega)) fun sa H3 hsn e3 hsa => ?_
  have e13 := e2.trans e3
  refine q_asgP (evp_c (ea_cons (ev_var rfl) (ea_cons (ev_var rfl) (ea_cons (ev_var rfl) ea_nil))) (u__law_draws (hs.ex e13) hk hsa (by omega) (fun s hs => ?_)) (fun _ _ _ _ e ⟨ds, r, p⟩ => ⟨ds, LRel.back _ _ _ _ e r, p⟩)) fun v H4 e4 r => ?_
  · rw [hss] at hs
    have h3 : (18 * sp).natAbs < 2 ^ 250 := by
      have : (18 : Int) * 10 ^ 59 < 2 ^ 250 := by decide
      omega
    have h4 : sp.natAbs < 2 ^ 250 := by omega
    rcases List.mem_append.mp hs with h | h
    · rw [List.eq_of_mem_replicate h]; exact ⟨by omega, h3⟩
    · rw [List.eq_of_mem_replicate h]; exact ⟨by omega, h4⟩
  obtain ⟨ds, ⟨da, xs, rfl, hdn, hda, hdp⟩, hbd⟩ := r
  rw [paired_int hdp] at hda
  have hdl : ds.length = m * n + (m + n) := by rw [hbd.length, hsl]
  have e14 := e13.trans e4
  have low : ∀ t, m * n ≤ t → t < m * n + (m + n) → ∃ d, ds[t]? = some d ∧ 0 ≤ d ∧ d < sp := fun t h1 h2 => by
    refine paired_get' hbd t sp ?_
    rw [hss, List.getElem?_append_right (by rw [List.length_replicate]; exact h1), List.length_replicate, List.getElem?_replicate, if_pos (by omega)]
  obtain ⟨hs', ehs⟩ : ∃ hs', hs' = (ds.drop (m * n)).take m := ⟨_, rfl⟩
  obtain ⟨ws, ews⟩ : ∃ ws, ws = ds.drop (m * n + m) := ⟨_, rfl⟩
  refine q_asgL (xs := hs'.map V.int) (by
    have h := el_sl (K := K) (te := tVar 8) (σ := [some (.ref l), some (iV k), some (iV m), some (iV n), some (.int st), some (.int shr), some (.int sp), some (.ref sa), some (.ref da), none, none, none, none, none, none, none, none]) (H := H4) (ev_var rfl) (eo_some (mnE rfl rfl)) (eo_some (mnmE rfl rfl)) (sq_of hda)
    rw [cutV_nat (by omega) (by omega), Nat.add_sub_cancel_left, ← ehs] at h
    exact h) fun ha H5 han e5 hha => ?_
  refine q_asgL (xs := ws.map V.int) (by
    have h := el_sl (K := K) (te := tVar 8) (σ := [some (.ref l), some (iV k), some (iV m), some (iV n), some (.int st), some (.int shr), some (.int sp), some (.ref sa), some (.ref da), some (.ref ha), none, none, none, none, none, none, none]) (H := H5) (ev_var rfl) (eo_some (mnmE rfl rfl)) eo_none (sq_of (e5 _ _ hda))
    rw [cutV_to (by omega), ← ews] at h
    exact h) fun wa H6 wan e6 hwa => ?_
  refine q_asgL (el_lst ea_nil (by show 0 ≤ 100000; decide)) fun M H7 hMn e7 hM => ?_
  have e47 := e5.trans (e6.trans e7)
  have e17 := e14.trans e47
  have e16 := e14.trans (e5.trans e6)
  have hMH : H M = none := fresh_back e16 hMn
  have hda6 : H6 da = some (.lst (ds.map V.int)) := (e5.trans e6) _ _ hda
  have hha6 : H6 ha = some (.lst (hs'.map V.int)) := e6 _ _ hha
  have hi_ : ∀ i, i < m → ∃ d, hs'[i]? = some d ∧ 0 ≤ d ∧ d < sp := fun i h => by
    obtain ⟨d, h1, h2⟩ := low (m * n + i) (by omega) (by omega)
    exact ⟨d, by rw [ehs, List.getElem?_take, if_pos h, List.getElem?_drop]; exact h1, h2⟩
  have wi_ : ∀ j, j < n → ∃ d, ws[j]? = some d ∧ 0 ≤ d ∧ d < sp := fun j h => by
    obtain ⟨d, h1, h2⟩ := low (m * n + m + j) (by omega) (by omega)
    exact ⟨d, by rw [ews, List.getElem?_drop]; exact h1, h2⟩
  refine q_forR1 (n := (m : Int)) (ea_cons (ev_var (v := iV m) rfl) ea_nil) (by omega) (fun i σ' H' => (∃ z12 z13 z14 z15 z16, σ' = [some (.ref l), some (iV k), some (iV m), some (iV n), some (.int st), some (.int shr), some (.int sp), some (.ref sa), some (.ref da), some (.ref ha), some (.ref wa), some (.ref M), z12, z13, z14, z15, z16]) ∧ ∃ its, Bld M H7 H' RwF its ∧ its.length = i ∧ (its.map (·.1)).Nodup ∧ ∀ p ∈ its, H p.1 = none ∧ p.1 ≠ M ∧ p.2.length = n) (fun H8 e8 => ⟨⟨_, _, _, _, _, rfl⟩, [], (Bld.new hM).ex RwF.ex e8, rfl, .nil, fun _ h => (nomatch h)⟩) ?_ ?_
  · rintro i σ' H8 hi ⟨⟨z12, z13, z14, z15, z16, rfl⟩, its, hB, hil, hnd, hits⟩
    have him : i < m := by omega
    have e68 : Ex H6 H8 := hB.h0 e7 hMn
    refine q_asgL (el_lst ea_nil (by show 0 ≤ 100000; decide)) fun W H9 hWn e9 hW => ?_
    have hMs : H8 M ≠ none := by
      obtain ⟨_, ys, h1, _⟩ := hB
      rw [h1]
      exact fun z => nomatch z
    have hWM : W ≠ M := fun z => hMs (by rw [← z]; exact hWn)
    refine q_forR1 (n := (n : Int)) (ea_cons (ev_var (v := iV n) rfl) ea_nil) (by omega) (fun j σ' H' => (∃ z14 z15 z16, σ' = [some (.ref l), some (iV k), some (iV m), some (iV n), some (.int st), some (.int shr), some (.int sp), some (.ref sa), some (.ref da), some (.ref ha), some (.ref wa), some (.ref M), some (iV i), some (.ref W), z14, z15, z16]) ∧ ∃ cs, Bld W H9 H' CvA cs ∧ cs.length = j) (fun Ha ea => ⟨⟨_, _, _, rfl⟩, [], (Bld.new hW).ex CvA.ex ea, rfl⟩) ?_ ?_
    · rintro j σ' Ha hj ⟨⟨z14, z15, z16, rfl⟩, cs, hC, hcl⟩
      have hjn : j < n := by omega
      have e6a : Ex H6 Ha := e68.trans (hC.h0 e9 hWn)
      have hlt : i * n + j < m * n := by
        have : (i + 1) * n ≤ m * n := Nat.mul_le_mul_right n him
        rw [Nat.succ_mul] at this
        omega
      obtain ⟨d, hd⟩ : ∃ d, ds[i * n + j]? = some d := ⟨_, List.getElem?_eq_getElem (by omega)⟩
      obtain ⟨hv, hh1, hh2, hh3⟩ := hi_ i him
      obtain ⟨wv, hw1, hw2, hw3⟩ := wi_ j hjn
      have hin : (i : Int) < 2 ^ 62 := by omega
      refine q_asg (v := .int d) (ev_op (ev_var rfl) (ev_is (w := .int ((i * n + j : Nat) : Int)) (ev_op (ev_op (ev_var (v := iV i) rfl) (ev_var (v := iV n) rfl) (rv_I (.inl ⟨by omega, by omega⟩))) (ev_var (v := iV j) rfl) rv_I0) (by push_cast; rfl)) (rv_ixL (sq_of (e6a _ _ hda6)) (atI_nat (by rw [List.getElem?_map, hd]; rfl)))) fun Hb eb => ?_
      refine q_asg (v := .int (d / 18 - sp / 3)) (ev_op (ev_op (ev_var rfl) ev_c (rv_I ⟨by decide, by decide⟩)) (ev_op (ev_var (v := .int sp) rfl) ev_c (rv_I ⟨by decide, by decide⟩)) rv_I0) fun Hc ec => ?_
      have e6c := e6a.trans (eb.trans ec)
      have e_ac := eb.trans ec
      have hvE : ∀ {z16 : Option V} {H' : Hp}, Ex H6 H' → Ev (tOp (rIxL K) (tVar 9) (tVar 12)) [some (.ref l), some (iV k), some (iV m), some (iV n), some (.int st), some (.int shr), some (.int sp), some (.ref sa), some (.ref da), some (.ref ha), some (.ref wa), some (.ref M), some (iV i), some (.ref W), some (iV j), some (.int d), z16] H' (.int hv) := fun e => ev_op (ev_var rfl) (ev_var (v := iV i) rfl) (rv_ixL (sq_of (e _ _ hha6)) (atI_nat (by rw [List.getElem?_map, hh1]; rfl)))
      have wvE : ∀ {z16 : Option V} {H' : Hp}, Ex H6 H' → Ev (tOp (rIxL K) (tVar 10) (tVar 14)) [some (.ref l), some (iV k), some (iV m), some (iV n), some (.int st), some (.int shr), some (.int sp), some (.ref sa), some (.ref da), some (.ref ha), some (.ref wa), some (.ref M), some (iV i), some (.ref W), some (iV j), some (.int d), z16] H' (.int wv) := fun e => ev_op (ev_var rfl) (ev_var (v := iV j) rfl) (rv_ixL (sq_of (e _ _ hwa)) (atI_nat (by rw [List.getElem?_map, hw1]; rfl)))
      refine q_mid (b := decide (4 ≤ st)) (fun σ' H' => ∃ pr : Int, σ' = [some (.ref l), some (iV k), some (iV m), some (iV n), some (.int st), some (.int shr), some (.int sp), some (.ref sa), some (.ref da), some (.ref ha), some (.ref wa), some (.ref M), some (iV i), some (.ref W), some (iV j), some (.int d), some (.int pr)] ∧ Ex Hc H') (et_test (ev_op (ev_var (v := .int st) rfl) ev_c (rv_ge rfl)))
        (fun hb Hd ed X kx => s_asg (v := .int (hv + 2 * wv - hv * wv)) (ev_op (ev_op (hvE (e6c.trans ed)) (ev_op ev_c (wvE (e6c.trans ed)) (rv_I (.inl ⟨by decide, by decide⟩))) rv_I0) (ev_op (hvE (e6c.trans ed)) (wvE (e6c.trans ed)) (rv_I (wide_mul (a := 200) (b := 200) (by omega) (by omega) (by decide) (by decide) (by decide)))) rv_I0) fun He ee => kx _ _ ⟨_, rfl, ed.trans ee⟩) (fun hb Hd ed => ⟨_, rfl, ed⟩) ?_
      rintro σ' Hd ⟨pr, rfl, ed⟩
      refine q_mid (b := decide (0 < shr) && decide (d % (if shr > 1 then shr else 1) = 0)) (fun σ' H' => ∃ c : Option Int, σ' = [some (.ref l), some (iV k), some (iV m), some (iV n), some (.int st), some (.int shr), some (.int sp), some (.ref sa), some (.ref da), some (.ref ha), some (.ref wa), some (.ref M), some (iV i), some (.ref W), some (iV j), some (.int d), some (cV c)] ∧ Ex Hd H') (et_and (et_test (ev_op (ev_var (v := .int shr) rfl) ev_c (rv_gt rfl))) fun _ => et_test (ev_op (ev_op (ev_int (ev_var (v := .int d) rfl)) (ev_max2 ev_c (ev_var (v := .int shr) rfl)) (rv_I (show (0 : Int) < (if shr > 1 then shr else 1) by split <;> omega))) ev_c (rv_eqI rfl)))
        (fun hb He ee X kx => s_asg (v := .non) ev_c fun Hf ef => kx _ _ ⟨none, rfl, ee.trans ef⟩) (fun hb He ee => ⟨some pr, rfl, ee⟩) ?_
      rintro σ' He ⟨c, rfl, ee⟩
      exact s_bld (item := c) CvA.ex (hC.ex CvA.ex (e_ac.trans (ed.trans ee))) (by omega) (ev_var rfl) (evp_of (ev_var (v := cV c) rfl)) (fun v _ _ _ _ _ ev => ev) fun Hf hCf => ⟨⟨_, _, _, rfl⟩, _, hCf, by rw [List.length_append, hcl]; rfl⟩
    · rintro σ' Ha ⟨⟨z14, z15, z16, rfl⟩, cs, hC, hcl⟩
      rw [Int.toNat_natCast] at hcl
      have e8a : Ex H8 Ha := hC.h0 e9 hWn
      have hWa := hC.cv
      refine s_bld (item := (W, cs)) RwF.ex (hB.ex RwF.ex e8a) (by omega) (ev_var rfl) (evp_of (ev_var (v := .ref W) rfl)) (fun v Hb Hc eb ec hn ev => ⟨ev, by rw [hid_ne hWM]; exact (eb.trans ec) _ _ hWa⟩) fun Hb hBb => ⟨⟨_, _, _, _, _, rfl⟩, _, hBb, by rw [List.length_append, hil]; rfl, ?_, fun p hp => ?_⟩
      · rw [List.map_append, List.nodup_append]
        refine ⟨hnd, List.nodup_cons.mpr ⟨fun h => (nomatch h), .nil⟩, fun a ha b hb e => ?_⟩
        obtain ⟨p, hp, rfl⟩ := List.mem_map.mp ha
        have hb : b ∈ [W] := hb
        have eb := List.mem_singleton.mp hb
        obtain ⟨_, ys, h1, h2⟩ := hB
        have h3 := hid_le _ _ ((paired_rw h2).2 p hp)
        have e : p.1 = b := e
        rw [e, eb, hWn] at h3
        cases h3
      · rcases List.mem_append.mp hp with hp | hp
        · exact hits p hp
        · rw [List.mem_singleton.mp hp]
          exact ⟨fresh_back (e16.trans e68) hWn, hWM, hcl⟩
  · rintro σ' H8 ⟨⟨z12, z13, z14, z15, z16, rfl⟩, its, hB, hil, hnd, hits⟩
    rw [Int.toNat_natCast] at hil
    refine s_ret (ev_var rfl) fun H9 e9 => ?_
    have hB9 := hB.ex RwF.ex e9
    refine q M its H9 (e16.trans (hB9.h0 e7 hMn)) hMH (hB9.grb hnd) ⟨by rw [List.length_map, hil], fun r hr => ?_, hm1, hm8, hn1, hn8⟩ (fun p hp => (hits p hp).1) fun h => ?_
    · obtain ⟨p, hp, rfl⟩ := List.mem_map.mp hr
      exact (hits p hp).2.2
    · obtain ⟨p, hp, e⟩ := List.mem_map.mp h
      exact (hits p hp).2.1 e
include T in
theorem kp__law_grid : PySem.W.keepIn K (.ref (He.ga K "_law_grid")) = true := let ⟨_, F⟩ := T.f__law_grid; F.kp
end
end K50
end
section /- LW8 -/
set_option Elab.async false
set_option linter.all false
set_option maxRecDepth 100000
set_option maxHeartbeats 1000000
/-! Orders and their numbers in order. -/
namespace K50
open PySem PySem.Spec L2 Evl EV GF GenW
open PyProof.Rows hiding St
theorem prLt_asym {p q : Pr} (h : prLt p q = true) : prLt q p = false := by
  unfold prLt at h ⊢
  by_cases e : p.1 = q.1
  · rw [if_pos e] at h
    rw [if_pos e.symm]
    have := of_decide_eq_true h
    exact decide_eq_false (by omega)
  · rw [if_neg e] at h
    rw [if_neg (fun z => e z.symm)]
    have := of_decide_eq_true h
    exact decide_eq_false (by omega)
theorem rowP_mem {G : Grid} {i j : Nat} {p : Pr} (h : p ∈ rowP G i j) : p.1 = i := by
  unfold rowP at h
  obtain ⟨k, _, hk⟩ := List.mem_filterMap.mp h
  by_cases q : (cell G i k).isSome = true
  · rw [if_pos q] at hk
    rw [← Option.some.inj hk]
  · rw [if_neg q] at hk
    cases hk
theorem pairs_sorted (G : Grid) (n : Nat) : ∀ m, (pairP G n m).Pairwise fun p q => prLt p q = true := fun m => by
  unfold pairP
  rw [List.pairwise_flatMap]
  refine ⟨fun i _ => ?_, List.Pairwise.imp (fun {a b} h p hp q hq => ?_) List.pairwise_lt_range⟩
  · unfold rowP
    refine List.Pairwise.filterMap _ (R := fun a b => a < b) ?_ List.pairwise_lt_range
    intro x y hxy b hb c hc
    by_cases q : (cell G i x).isSome = true
    · by_cases q2 : (cell G i y).isSome = true
      · rw [if_pos q] at hb
        rw [if_pos q2] at hc
        rw [← Option.some.inj hb, ← Option.some.inj hc]
        unfold prLt
        rw [if_pos rfl]
        exact decide_eq_true hxy
      · rw [if_neg q2] at hc
        cases hc
    · rw [if_neg q] at hb
      cases hb
  · have e1 := rowP_mem hp
    have e2 := rowP_mem hq
    unfold prLt
    rw [if_neg (by omega)]
    exact decide_eq_true (by omega)
theorem getD_lt {G : Grid} {m n a b : Nat} (h1 : a < (pairsOf G m n).length) (h2 : b < (pairsOf G m n).length) (h : a < b) : prLt ((pairsOf G m n).getD a (0, 0)) ((pairsOf G m n).getD b (0, 0)) = true := by
  have := List.pairwise_iff_getElem.mp (pairs_sorted G n m) a b h1 h2 h
  rw [List.getD_eq_getElem?_getD, List.getD_eq_getElem?_getD, List.getElem?_eq_getElem h1, List.getElem?_eq_getElem h2]
  exact this
theorem lexP_ord {G : Grid} {m n : Nat} : ∀ ks ls : List Nat, (∀ k ∈ ks, k < (pairsOf G m n).length) → (∀ k ∈ ls, k < (pairsOf G m n).length) → lexP (ordOf G m n ks) (ordOf G m n ls) = lexL ks ls
  | [], [], _, _ => rfl
  | [], _ :: _, _, _ => rfl
  | _ :: _, [], _, _ => rfl
  | a :: ks, b :: ls, h1, h2 => by
    have ha := h1 a List.mem_cons_self
    have hb := h2 b List.mem_cons_self
    have ih := lexP_ord (G := G) (m := m) (n := n) ks ls (fun k h => h1 k (List.mem_cons_of_mem _ h)) (fun k h => h2 k (List.mem_cons_of_mem _ h))
    show lexP ((pairsOf G m n).getD a (0, 0) :: ordOf G m n ks) ((pairsOf G m n).getD b (0, 0) :: ordOf G m n ls) = lexL (a :: ks) (b :: ls)
    unfold lexP lexL
    by_cases e : a = b
    · rw [if_pos e, if_pos (by rw [e])]
      exact ih
    · rw [if_neg e, if_neg (fun z => e (getD_inj pairs_nodup ha hb z))]
      rcases Nat.lt_or_gt_of_ne e with l | l
      · rw [getD_lt ha hb l, decide_eq_true l]
      · rw [prLt_asym (getD_lt hb ha l), decide_eq_false (by omega)]
theorem ord_inj {G : Grid} {m n : Nat} : ∀ ks ls : List Nat, (∀ k ∈ ks, k < (pairsOf G m n).length) → (∀ k ∈ ls, k < (pairsOf G m n).length) → (ordOf G m n ks = ordOf G m n ls ↔ ks = ls)
  | [], [], _, _ => ⟨fun _ => rfl, fun _ => rfl⟩
  | [], _ :: _, _, _ => ⟨fun h => (nomatch h), fun h => (nomatch h)⟩
  | _ :: _, [], _, _ => ⟨fun h => (nomatch h), fun h => (nomatch h)⟩
  | a :: ks, b :: ls, h1, h2 => by
    have ih := ord_inj (G := G) (m := m) (n := n) ks ls (fun k h => h1 k (List.mem_cons_of_mem _ h)) (fun k h => h2 k (List.mem_cons_of_mem _ h))
    constructor
    · intro h
      have h : (pairsOf G m n).getD a (0, 0) :: ordOf G m n ks = (pairsOf G m n).getD b (0, 0) :: ordOf G m n ls := h
      injection h with e1 e2
      rw [getD_inj pairs_nodup (h1 a List.mem_cons_self) (h2 b List.mem_cons_self) e1, ih.mp e2]
    · intro h
      rw [h]
/-- the two numbers stand as the two orders -/
theorem ends {G : Grid} {m n : Nat} {kd : Kd} {ks ls : List Nat} (h1 : Run (masksOf G m n kd) (pairsOf G m n).length 0 ks) (h2 : Run (masksOf G m n kd) (pairsOf G m n).length 0 ls) :
    decide (rank (masksOf G m n kd) (pairsOf G m n).length 0 ks < rank (masksOf G m n kd) (pairsOf G m n).length 0 ls) = lexP (ordOf G m n ks) (ordOf G m n ls) ∧
    decide (rank (masksOf G m n kd) (pairsOf G m n).length 0 ks = rank (masksOf G m n kd) (pairsOf G m n).length 0 ls) = decide (ordOf G m n ks = ordOf G m n ls) := by
  obtain ⟨a, b⟩ := rank_order (Nat.two_pow_pos _) h1 h2
  obtain ⟨_, _, l1⟩ := run_length h1
  obtain ⟨_, _, l2⟩ := run_length h2
  rw [a, b, lexP_ord ks ls l1 l2]
  exact ⟨rfl, decide_eq_decide.mpr (ord_inj ks ls l1 l2).symm⟩
theorem few_end {G : Grid} {m n N : Nat} (h : (pairsOf G m n).length ≤ N ∨ (pairsOf G m n).length + 6 ≤ m * n) (hN : N ≤ 12) (hm : m ≤ 4) (hn : n ≤ 4) : (pairsOf G m n).length ≤ 12 := by
  have : m * n ≤ 4 * 4 := Nat.mul_le_mul hm hn
  rcases h with h | h <;> omega
end K50
end
section /- LW9 -/
set_option Elab.async false
set_option linter.all false
set_option maxRecDepth 100000
set_option maxHeartbeats 1000000
/-! Arguments by relations; the calls that the law makes. -/
namespace K50
open PySem PySem.Spec L2 Evl EV GF GenW
open PyProof.Rows hiding St
def EaP (ta : TA) (σ : L2.St) (H : Hp) (R : List V → Hp → Hp → Prop) : Prop := ∀ H1, Ex H H1 → ∀ Q : List V → Hp → Prop, (∀ vs H2, Ex H1 H2 → R vs H1 H2 → Q vs H2) → ta σ H1 Q
section
variable {σ : L2.St} {H : Hp} {te ta' tb : TE} {ta tr : TA} {D : Ends} {tz : TS}
theorem eap_one {R : Rel} (h : EvP te σ H R) : EaP (tCons te tNil) σ H (fun vs Ha Hb => ∃ v, vs = [v] ∧ R v Ha Hb) := fun H1 e Q q => h H1 e _ fun v H2 e2 r => q _ H2 e2 ⟨v, rfl, r⟩
theorem eap_cons {x : V} {R : List V → Hp → Hp → Prop} (h : Ev te σ H x) (hr : EaP tr σ H R) (hs : ∀ v H1 H2 H3, Ex H1 H2 → R v H2 H3 → R v H1 H3) : EaP (tCons te tr) σ H (fun vs Ha Hb => ∃ ws, vs = x :: ws ∧ R ws Ha Hb) := fun H1 e Q q =>
  h H1 e _ fun H2 e2 => hr H2 (e.trans e2) _ fun ws H3 e3 r => q _ H3 (e2.trans e3) ⟨ws, rfl, hs _ _ _ _ e2 r⟩
theorem eap_mid {R : Rel} {ws : List V} (h : EvP te σ H R) (hr : ∀ H1, Ex H H1 → EvA tr σ H1 ws) : EaP (tCons te tr) σ H (fun vs Ha Hb => ∃ v Hm, vs = v :: ws ∧ Ex Ha Hm ∧ Ex Hm Hb ∧ R v Ha Hm) := fun H1 e Q q =>
  h H1 e _ fun v H2 e2 r => hr H2 (e.trans e2) H2 (Ex.refl H2) _ fun H3 e3 => q _ H3 (e2.trans e3) ⟨v, H2, rfl, e2, e3, r⟩
theorem evp_L {xs : List V} (h : EvL te σ H xs) : EvP te σ H (fun v Ha Hb => ∃ p, v = .ref p ∧ Ha p = none ∧ Hb p = some (.lst xs)) := fun H1 e Q q => h H1 e Q fun p H2 hn e2 hp => q _ H2 e2 ⟨p, rfl, hn, hp⟩
theorem evp_cP {p : Pm} {R : List V → Hp → Hp → Prop} {R2 : Rel} (h : EaP ta σ H R) (hp : ∀ vs H1 H2, Ex H H1 → Ex H1 H2 → R vs H1 H2 → PmP p vs H2 R2) (hs : ∀ v H1 H2 H3, Ex H1 H2 → R2 v H2 H3 → R2 v H1 H3) : EvP (tCallR p ta) σ H R2 := fun H1 e Q q =>
  h H1 e _ fun vs H2 e2 r => hp vs H1 H2 e e2 r H2 (Ex.refl H2) Q fun u H3 e3 r3 => q u H3 (e2.trans e3) (hs _ _ _ _ e2 r3)
theorem q_asgRaw {p : Pm} {i : Nat} {R : List V → Hp → Hp → Prop} (h : EaP ta σ H R) (k : ∀ vs H1, Ex H H1 → R vs H H1 → p vs H1 (fun v H2 => tz D (σ.set i (some v)) H2)) : tSeq (tAsg (tCallR p ta) (gName i)) tz D σ H := h H (Ex.refl H) _ fun vs H1 e r => k vs H1 e r
theorem evp_call {p : Pm} {dvs vs : List V} {R : Rel} (h : EvA ta σ H vs) (hp : PmP p (vs ++ dvs) H R) (hs : ∀ v H1 H2 H3, Ex H1 H2 → R v H2 H3 → R v H1 H3) : EvP (tCall p.sp dvs E0 ta) σ H R := fun H1 e Q q =>
  h H1 e _ fun H2 e2 => hp H2 (e.trans e2) Q fun v H3 e3 r => q v H3 (e2.trans e3) (hs _ _ _ _ e2 r)
theorem evp_m0P {C : Addr} {m : Str} {p : Pm} {R R2 : Rel} (ho : EvP ta' σ H R) (hi : ∀ v H1 H2, Ex H H1 → Ex H1 H2 → R v H1 H2 → ∃ a dx fs, v = .ref a ∧ H2 a = some (.ins C dx fs) ∧ fs.lookup m = none ∧ PmP p [.ref a] H2 R2) (hs : ∀ v H1 H2 H3, Ex H1 H2 → R2 v H2 H3 → R2 v H1 H3) : EvP (tM0 C m p ta') σ H R2 := fun H1 e Q q =>
  ho H1 e _ fun v H2 e2 r => by
    obtain ⟨a, dx, fs, rfl, ha, hl, hp⟩ := hi v H1 H2 e e2 r
    exact ⟨a, dx, fs, rfl, ha, hl, hp H2 (Ex.refl H2) Q fun u H3 e3 r3 => q u H3 (e2.trans e3) (hs _ _ _ _ e2 r3)⟩
end
/-- a new list of drawn ints -/
def DrR (ss : List Int) : Rel := fun v Ha Hb => ∃ ds, LRel IvA ds v Ha Hb ∧ Paired (fun d s : Int => 0 ≤ d ∧ d < s) ds ss
theorem DrR.back {ss : List Int} : ∀ v H1 H2 H3, Ex H1 H2 → DrR ss v H2 H3 → DrR ss v H1 H3 := fun _ _ _ _ e ⟨ds, r, p⟩ => ⟨ds, LRel.back _ _ _ _ e r, p⟩
theorem DrR.get {ss : List Int} {v : V} {Ha Hb : Hp} (h : DrR ss v Ha Hb) : ∃ da ds, v = .ref da ∧ Ha da = none ∧ Hb da = some (.lst (ds.map V.int)) ∧ Paired (fun d s : Int => 0 ≤ d ∧ d < s) ds ss := by
  obtain ⟨ds, ⟨da, xs, rfl, hn, hda, hp⟩, hb⟩ := h
  rw [paired_int hp] at hda
  exact ⟨da, ds, rfl, hn, hda, hb⟩
section
variable {K : PySem.W.Frag} {σ : L2.St} {H : Hp} {te tl : TE} {ta : TA}
theorem evp_draws {l : Addr} {k : Nat} {ss : List Int} {c : V} (h0 : σ[0]? = some (some (.ref l))) (hs : ScA K H l) (hc : c = iV k) (hk : k < 1000) (hl : EvL tl σ H (ss.map V.int)) (hn : ss.length ≤ 1000) (hb : ∀ s ∈ ss, 0 < s ∧ s.natAbs < 2 ^ 250) :
    EvP (tCallR (p__law_draws K) (tCons (tVar 0) (tCons (tC c) (tCons tl tNil)))) σ H (DrR ss) := by
  subst hc
  refine evp_cP (eap_cons (ev_var h0) (eap_cons ev_c (eap_one (evp_L hl)) ?_) ?_) ?_ DrR.back
  · rintro v H1 H2 H3 e ⟨w, rfl, p, ev, hn, hp⟩
    exact ⟨w, rfl, p, ev, fresh_back e hn, hp⟩
  · rintro v H1 H2 H3 e ⟨ws, rfl, w, ew, p, ev, hn, hp⟩
    exact ⟨ws, rfl, w, ew, p, ev, fresh_back e hn, hp⟩
  · rintro vs H1 H2 e e2 ⟨ws, rfl, ws2, rfl, v, rfl, p, rfl, _, hp⟩
    exact u__law_draws (hs.ex (e.trans e2)) hk hp hn hb
theorem evp_mkOP {ps : List Pr} (h : EvP te σ H (fun v Ha Hb => ∃ l xs, v = .ref l ∧ Hb l = some (.lst xs) ∧ PL Hb xs ps)) (nd : ps.Nodup) (h7 : ∀ p ∈ ps, p.1 ≤ 7 ∧ p.2 ≤ 7) (h64 : ps.length ≤ 64) :
    EvP (StX.tMakeR (He.ga K "Order") (p_Order_init K).sp E0 (tCons te tNil)) σ H fun v Ha Hb => ∃ o, v = .ref o ∧ Ha o = none ∧ OrA K Hb o ps := fun H1 e Q q =>
  h H1 e _ fun v H2 e2 ⟨l, xs, ev, hl, hp⟩ => by
    subst ev
    exact evp_mkO (σ := σ) (t := tCons (tC (.ref l)) tNil) (ea_cons ev_c ea_nil) hl hp nd h7 h64 H2 (Ex.refl H2) Q fun v H3 e3 ⟨o, eo, hn, ho⟩ => q v H3 (e2.trans e3) ⟨o, eo, fresh_back e2 hn, ho⟩
theorem evp_mkT {t : TA} {l : Addr} {G : Grid} {m n : Nat} (h : EvA t σ H [.ref l]) (hl : GrA H l G) (sh : Sh G m n) :
    EvP (StX.tMakeR (He.ga K "Table") (p_Table_init K).sp E0 t) σ H fun v Ha Hb => ∃ o, v = .ref o ∧ Ha o = none ∧ TbA K Hb o G := fun H1 e Q q =>
  h H1 e _ fun H2 e2 x dx hx hdx ne => by
    have ex0 : ∀ b o, H2 b = some o → (upd (upd H2 dx (.own x)) x (.ins (He.ga K "Table") dx [])) b = some o := fun b o hb => by rw [upd_ne (ne_of_none hb hx), upd_ne (ne_of_none hb hdx)]; exact hb
    have ex1 : Ex H2 (upd (upd H2 dx (.own x)) x (.ins (He.ga K "Table") dx [])) := ex0
    refine ⟨x, l, dx, G, m, n, rfl, upd_same, hl.ex ((e.trans e2).trans ex1), sh, fun H3 e3 ho => ⟨rfl, q _ H3 (e2.trans fun b o hb => e3 _ _ ?_) ⟨x, rfl, fresh_back e2 hx, ho⟩⟩⟩
    rw [hid_ne (ne_of_none hb hx)]
    exact ex0 b o hb
theorem evp_mkTP {G : Grid} {m n : Nat} (h : EvP te σ H (fun v Ha Hb => ∃ l, v = .ref l ∧ GrA Hb l G)) (sh : Sh G m n) :
    EvP (StX.tMakeR (He.ga K "Table") (p_Table_init K).sp E0 (tCons te tNil)) σ H fun v Ha Hb => ∃ o, v = .ref o ∧ Ha o = none ∧ TbA K Hb o G := fun H1 e Q q =>
  h H1 e _ fun v H2 e2 ⟨l, ev, hl⟩ => by
    subst ev
    exact evp_mkT (σ := σ) (t := tCons (tC (.ref l)) tNil) (ea_cons ev_c ea_nil) hl sh H2 (Ex.refl H2) Q fun v H3 e3 ⟨o, eo, hn, ho⟩ => q v H3 (e2.trans e3) ⟨o, eo, fresh_back e2 hn, ho⟩
theorem LRel.gra {G : Grid} {v : V} {Ha Hb : Hp} (h : LRel RowA G v Ha Hb) : ∃ l, v = .ref l ∧ GrA Hb l G := let ⟨p, xs, ev, _, h1, h2⟩ := h; ⟨p, ev, xs, h1, paired_mono h2 fun a b => RowA.ex _ _ _ _ hid_le⟩
theorem rv_neO {o o2 : Addr} {ps qs : List Pr} (h : OrA K H o ps) (h2 : OrA K H o2 qs) : RV (OW.rNeO (He.ga K "Order") (p_Order_eq K).sp) (.ref o) (.ref o2) H (.bl (!decide (ps = qs))) := fun H1 e Q q => by
  obtain ⟨dx, l, d, xs, h3, _⟩ := h.ex e
  obtain ⟨dy, l', d', xs', h4, _⟩ := h2.ex e
  exact ⟨o, dx, _, o2, dy, _, rfl, rfl, h3, h4, u_Order_eq (h.ex e) (h2.ex e) H1 (Ex.refl H1) _ fun v H2 e2 ev => ⟨_, ev, q H2 e2⟩⟩
theorem rv_ltO {o o2 : Addr} {ps qs : List Pr} (h : OrA K H o ps) (h2 : OrA K H o2 qs) : RV (OW.rCmpO (He.ga K "Order") (p_Order_lt K).sp) (.ref o) (.ref o2) H (.bl (lexP ps qs)) := fun H1 e Q q => by
  obtain ⟨dx, l, d, xs, h3, _⟩ := h.ex e
  obtain ⟨dy, l', d', xs', h4, _⟩ := h2.ex e
  exact ⟨o, dx, _, o2, dy, _, rfl, rfl, h3, h4, u_Order_lt (h.ex e) (h2.ex e) H1 (Ex.refl H1) _ fun v H2 e2 ev => by rw [show v = _ from ev]; exact q H2 e2⟩
theorem rv_geO {o o2 : Addr} {ps qs : List Pr} (h : OrA K H o ps) (h2 : OrA K H o2 qs) : RV (OW.rCmpO (He.ga K "Order") (p_Order_ge K).sp) (.ref o) (.ref o2) H (.bl (!lexP ps qs)) := fun H1 e Q q => by
  obtain ⟨dx, l, d, xs, h3, _⟩ := h.ex e
  obtain ⟨dy, l', d', xs', h4, _⟩ := h2.ex e
  exact ⟨o, dx, _, o2, dy, _, rfl, rfl, h3, h4, u_Order_ge (h.ex e) (h2.ex e) H1 (Ex.refl H1) _ fun v H2 e2 ev => by rw [show v = _ from ev]; exact q H2 e2⟩
theorem rv_neB {a b c : Bool} (h : (!decide (a = b)) = c) : RV rNe (.bl a) (.bl b) H (.bl c) := fun H1 _ _ q => ⟨rfl, by
  have e : (!decide (V.bl a = V.bl b)) = c := by rw [← h]; cases a <;> cases b <;> rfl
  rw [e]
  exact q H1 (Ex.refl H1)⟩
theorem rv_eqB {a b c : Bool} (h : decide (a = b) = c) : RV rEq (.bl a) (.bl b) H (.bl c) := fun H1 _ _ q => ⟨rfl, by
  have e : decide (V.bl a = V.bl b) = c := by rw [← h]; cases a <;> cases b <;> rfl
  rw [e]
  exact q H1 (Ex.refl H1)⟩
/-- what the walk gives -/
def WkR (G : Grid) (m n : Nat) (kd : Kd) : Rel := fun v Ha Hb => (v = .non ∧ W (masksOf G m n kd) (pairsOf G m n).length 0 = 0 ∧ ∀ ks, ¬ Run (masksOf G m n kd) (pairsOf G m n).length 0 ks) ∨ ∃ ks, Run (masksOf G m n kd) (pairsOf G m n).length 0 ks ∧ LRel PrA (ordOf G m n ks) v Ha Hb
theorem WkR.back {G : Grid} {m n : Nat} {kd : Kd} : ∀ v H1 H2 H3, Ex H1 H2 → WkR G m n kd v H2 H3 → WkR G m n kd v H1 H3 := fun _ _ _ _ e h => h.imp id fun ⟨ks, a, r⟩ => ⟨ks, a, LRel.back _ _ _ _ e r⟩
theorem evp_walk {i : Nat} {d : Addr} {G : Grid} {m n : Nat} {kd : Kd} {ss : List Int} (h0 : σ[i]? = some (some (.ref d))) (sh : Sh G m n) (hd : DkA H d (lawNeeds G m n kd) (pairsOf G m n)) (hl : (pairsOf G m n).length ≤ ss.length) (h : EvP te σ H (DrR ss)) :
    EvP (tCallR (p__law_walk K) (tCons (tVar i) (tCons te tNil))) σ H (WkR G m n kd) := by
  refine evp_cP (eap_cons (ev_var h0) (eap_one h) ?_) ?_ WkR.back
  · rintro v H1 H2 H3 e ⟨w, rfl, r⟩
    exact ⟨w, rfl, DrR.back _ _ _ _ e r⟩
  · rintro vs H1 H2 e e2 ⟨ws, rfl, v, rfl, r⟩
    obtain ⟨da, ds, rfl, _, hda, hb⟩ := r.get
    exact u__law_walk sh (hd.ex (e.trans e2)) hda (by rw [hb.length]; exact hl)
end
end K50
end
section /- LW10 -/
set_option Elab.async false
set_option linter.all false
set_option maxRecDepth 100000
set_option maxHeartbeats 2000000
/-! The law. -/
namespace K50
open PySem PySem.Spec L2 Evl EV GF GenW
open PyProof.Rows hiding St
def GdR (m n : Nat) : Rel := fun v Ha Hb => ∃ g its, v = .ref g ∧ Ha g = none ∧ GrB Hb g its ∧ Sh (gridOf its) m n ∧ (∀ p ∈ its, Ha p.1 = none) ∧ g ∉ its.map (·.1)
theorem GdR.back {m n : Nat} : ∀ v H1 H2 H3, Ex H1 H2 → GdR m n v H2 H3 → GdR m n v H1 H3 := fun _ _ _ _ e ⟨g, its, ev, hn, hB, sh, hr, hg⟩ => ⟨g, its, ev, fresh_back e hn, hB, sh, fun p hp => fresh_back e (hr p hp), hg⟩
theorem u__law_grid {K : PySem.W.Frag} {H : Hp} {l : Addr} {k m n : Nat} {st shr : Int} (hs : ScA K H l) (hk : k < 1000) (h1 : 1 ≤ m) (h2 : m ≤ 8) (h3 : 1 ≤ n) (h4 : n ≤ 8) : PmP (p__law_grid K) [.ref l, iV k, iV m, iV n, .int st, .int shr] H (GdR m n) := fun H1 e Q q =>
  ⟨l, k, m, n, st, shr, rfl, hs.ex e, hk, h1, h2, h3, h4, fun g its H2 e2 hn hB sh hr hg => q _ H2 e2 ⟨g, its, rfl, hn, hB, sh, hr, hg⟩⟩
theorem evp_listPL {K : PySem.W.Frag} {σ : L2.St} {H : Hp} {te : TE} {a : Addr} {xs : List V} {ps : List Pr} (h : Ev te σ H (.ref a)) (ha : H a = some (.lst xs)) (hp : PL H xs ps) : EvP (tCB (rListS K) (tCons te tNil)) σ H (fun v _ Hb => ∃ l xs, v = .ref l ∧ Hb l = some (.lst xs) ∧ PL Hb xs ps) := fun H1 e Q q =>
  el_list h (sq_of ha) H1 e Q fun p H2 _ e2 h2 => q _ H2 e2 ⟨p, xs, rfl, h2, hp.ex (e.trans e2)⟩
theorem q_at {t : TS} {D : Ends} {σ σ' : L2.St} {H : Hp} (e : σ = σ') (h : t D σ' H) : t D σ H := by rw [e]; exact h
section
variable {P : Program} {w : World} {K : PySem.W.Frag} {mg : Str → Option Value} {base : Heap} (T : Tx K mg)

def p_law (K : PySem.W.Frag) : Pm := fun vs H Q => ∃ l : Addr, vs = [.ref l] ∧ ScA K H l ∧ ∀ H', Q (.bl true) H'
theorem sc_law : FnScope ["_law_script", "_law_head", "_law_m", "_law_n", "_law_grid_here", "_law_most", "_law_sort", "_law_needs_here", "_law_table", "_law_many", "_law_one", "_law_two", "_law_first", "_law_second", "_law_low", "_law_high", "_law_number"] ["_law_script"] (defScope s_law) := ⟨rfl, rfl, rfl, by decide +kernel, rfl, by decide +kernel, by decide +kernel⟩
include T in
theorem ok_law {fd : FuncData} (F : FunD K "law" "law" (defArgs s_law) (defBody s_law) (defScope s_law) [] [] (He.ga K "law") fd) : FnOk P w K mg base CX0 9 (He.ga K "law") fd ["_law_script"] (p_law K).sp := by
  obtain ⟨fdC, FC, kpC, kC, _⟩ := ok_count T (P := P) (w := w) (base := base)
  obtain ⟨fdN, FN, kpN, kN, dsN, vN, bN⟩ := ok_number_of T (P := P) (w := w) (base := base)
  obtain ⟨fdA, FA, kpA, kA, dsA, vA, bA⟩ := ok_order_at T (P := P) (w := w) (base := base)
  refine okN F sc_law (fun vs H Q h => by obtain ⟨l, rfl, _⟩ := h; rfl) fun cdv A outer s H vs Q hr h => ⟨_, (pss_cons (ps_set (i := 1) sc_law.nd rfl (.inl rfl) (pe_cR (ok__law_draws T) (hr.mono (by decide)) (by rfl) T.g__law_draws (kp__law_draws T) (pa_cons (pv 0) (pa_cons pe_int (pa_cons (pe_op op_cat (pe_lst (pa_cons pe_int (pa_cons pe_int (pa_cons pe_int (pa_cons pe_int (pa_cons pe_int (pa_cons pe_int pa_nil))))))) (pe_op op_rep (pe_lst (pa_cons pe_int pa_nil)) pe_int)) pa_nil)))))
    (pss_cons (ps_set (i := 2) sc_law.nd rfl (.inl rfl) (pe_op op_add pe_int (pe_ix ix_list (pv 1) pe_int (fun _ _ => rfl))))
    (pss_cons (ps_set (i := 3) sc_law.nd rfl (.inl rfl) (pe_op op_add pe_int (pe_ix ix_list (pv 1) pe_int (fun _ _ => rfl))))
    (pss_cons (ps_set (i := 4) sc_law.nd rfl (.inl rfl) (pe_cR (ok__law_grid T) (hr.mono (by decide)) (by rfl) T.g__law_grid (kp__law_grid T) (pa_cons (pv 0) (pa_cons pe_int (pa_cons (pv 2) (pa_cons (pv 3) (pa_cons (pe_ix ix_list (pv 1) pe_int (fun _ _ => rfl)) (pa_cons (pe_ix ix_list (pe_lst (pa_cons pe_int (pa_cons pe_int (pa_cons pe_int (pa_cons pe_int pa_nil))))) (pe_ix ix_list (pv 1) pe_int (fun _ _ => rfl)) (fun _ _ => rfl)) pa_nil))))))))
    (pss_cons (ps_set (i := 5) sc_law.nd rfl (.inl rfl) (pe_ifExp (pt_cmpR op_eq (pe_ix ix_list (pv 1) pe_int (fun _ _ => rfl)) pe_int (nomark _)) pe_int pe_int))
    (pss_cons (ps_set (i := 4) sc_law.nd rfl (.inl rfl) (pe_cR (ok__law_few T) (hr.mono (by decide)) (by rfl) T.g__law_few (kp__law_few T) (pa_cons (pv 4) (pa_cons (pe_slice sl_list (pv 1) (po_some pe_int) po_none) (pa_cons (pv 5) pa_nil)))))
    (pss_cons (ps_set (i := 6) sc_law.nd rfl (.inl rfl) (pe_ix ix_list (pe_lst (pa_cons pe_str (pa_cons pe_str (pa_cons pe_str (pa_cons pe_str pa_nil))))) (pe_ix ix_list (pv 1) pe_int (fun _ _ => rfl)) (fun _ _ => rfl)))
    (pss_cons (ps_set (i := 7) sc_law.nd rfl (.inl rfl) (pe_cR (ok__law_needs T) (hr.mono (by decide)) (by rfl) T.g__law_needs (kp__law_needs T) (pa_cons (pv 4) (pa_cons (pv 6) pa_nil))))
    (pss_cons (ps_set (i := 8) sc_law.nd rfl (.inl rfl) (StX.pe_makeR T.mk_Table (ok_Table_init T) (hr.mono (by decide)) (by rfl) T.g_Table pass0 (pa_cons (pe_cR (ok__law_copy T) (hr.mono (by decide)) (by rfl) T.g__law_copy (kp__law_copy T) (pa_cons (pv 4) pa_nil)) pa_nil)))
    (pss_cons (ps_set (i := 9) sc_law.nd rfl (.inl rfl) (pe_callN FC (hr.mono (by decide)) (by rfl) T.g_count kpC kC pass0 (pa_cons (pv 8) pa_nil) (pk_cons (pv 6) pk_nil)))
    (pss_cons (ps_set (i := 10) sc_law.nd rfl (.inl rfl) (pe_cR (ok__law_walk T) (hr.mono (by decide)) (by rfl) T.g__law_walk (kp__law_walk T) (pa_cons (pv 7) (pa_cons (pe_cR (ok__law_draws T) (hr.mono (by decide)) (by rfl) T.g__law_draws (kp__law_draws T) (pa_cons (pv 0) (pa_cons pe_int (pa_cons (pe_op op_rep (pe_lst (pa_cons pe_int pa_nil)) pe_int) pa_nil)))) pa_nil))))
    (pss_cons (ps_set (i := 11) sc_law.nd rfl (.inl rfl) (pe_cR (ok__law_walk T) (hr.mono (by decide)) (by rfl) T.g__law_walk (kp__law_walk T) (pa_cons (pv 7) (pa_cons (pe_cR (ok__law_draws T) (hr.mono (by decide)) (by rfl) T.g__law_draws (kp__law_draws T) (pa_cons (pv 0) (pa_cons pe_int (pa_cons (pe_op op_rep (pe_lst (pa_cons pe_int pa_nil)) pe_int) pa_nil)))) pa_nil))))
    (pss_cons (ps_if (PW.pt (pw_or (pt_cmpR op_isN (pv 10) pe_non (nomark _)) (pw_or1 (pt_cmpR op_isN (pv 11) pe_non (nomark _))))) (pss_one (ps_ret (pe_and (pe_cmpR op_isN (pv 10) pe_non (nomark _)) (pe_and (pe_cmpR op_isN (pv 11) pe_non (nomark _)) (pe_one (pe_cmpR op_eq (pv 9) pe_int (nomark _))))))) pss_nil)
    (pss_cons (ps_set (i := 12) sc_law.nd rfl (.inl rfl) (StX.pe_makeR T.mk_Order (ok_Order_init T) (hr.mono (by decide)) (by rfl) T.g_Order pass0 (pa_cons (pe_callTy call_list_of (by rfl) T.n_list PyProof.Rows.boot_list (pa_cons (pv 10) pa_nil)) pa_nil)))
    (pss_cons (ps_set (i := 13) sc_law.nd rfl (.inl rfl) (StX.pe_makeR T.mk_Order (ok_Order_init T) (hr.mono (by decide)) (by rfl) T.g_Order pass0 (pa_cons (pe_callTy call_list_of (by rfl) T.n_list PyProof.Rows.boot_list (pa_cons (pv 11) pa_nil)) pa_nil)))
    (pss_cons (ps_set (i := 14) sc_law.nd rfl (.inl rfl) (pe_callN FN (hr.mono (by decide)) (by rfl) T.g_number_of kpN kN pass0 (pa_cons (pv 8) (pa_cons (pv 12) pa_nil)) (pk_cons (pv 6) pk_nil)))
    (pss_cons (ps_set (i := 15) sc_law.nd rfl (.inl rfl) (pe_callN FN (hr.mono (by decide)) (by rfl) T.g_number_of kpN kN pass0 (pa_cons (pv 8) (pa_cons (pv 13) pa_nil)) (pk_cons (pv 6) pk_nil)))
    (pss_cons (ps_for PassesOwn.never rfl (pi_list (pe_lst (pa_cons (pv 14) (pa_cons (pv 15) pa_nil)))) (pg_name (i := 16) sc_law.nd rfl (.inl rfl)) (pss_cons (ps_if (PW.pt (pw_or (pt_not (pt_val (pe_callB call_isi (by rfl) T.n_isinstance bISI (pa_cons (pv 16) (pa_cons (pe_bltn (v := .ty "int") (by rfl) T.n_int PyProof.Rows.boot_int rfl) pa_nil))))) (pw_or1 (pt_val (pe_callB call_isi (by rfl) T.n_isinstance bISI (pa_cons (pv 16) (pa_cons (pe_bltn (v := .ty "bool") (by rfl) T.n_bool PyProof.Rows.boot_bool rfl) pa_nil))))))) (pss_one (ps_ret pe_bl)) pss_nil) (pss_one (ps_if (PW.pt (pw_or (pt_cmpR op_lt (pv 16) pe_int (nomark _)) (pw_or1 (pt_cmpR op_ge (pv 16) (pv 9) (nomark _))))) (pss_one (ps_ret pe_bl)) pss_nil))))
    (pss_cons (ps_if (pt_cmpR (OW.op_neO T.cl_Order T.ne_Order T.m_Order_eq (ok_Order_eq T) (hr.mono (by decide))) (pe_callN FA (hr.mono (by decide)) (by rfl) T.g_order_at kpA kA pass0 (pa_cons (pv 8) (pa_cons (pv 14) pa_nil)) (pk_cons (pv 6) pk_nil)) (pv 12) (nomark _)) (pss_one (ps_ret pe_bl)) pss_nil)
    (pss_cons (ps_if (pt_cmpR (op_neD hr.units) (pe_m0 (pe_callN FA (hr.mono (by decide)) (by rfl) T.g_order_at kpA kA pass0 (pa_cons (pv 8) (pa_cons (pv 15) pa_nil)) (pk_cons (pv 6) pk_nil)) T.cl_Order T.m_Order_pairs (ok_Order_pairs T) (hr.mono (by decide))) (pv 11) (nomark _)) (pss_one (ps_ret pe_bl)) pss_nil)
    (pss_cons (ps_if (PW.pt (pw_and (pt_cmpR op_eq (pv 6) pe_str (nomark _)) (pw_and1 (pt_cmpR op_ne (pe_call FN (hr.mono (by decide)) (by rfl) T.g_number_of kpN bN vN pass0 (pa_cons (pv 8) (pa_cons (pv 12) pa_nil))) (pv 14) (nomark _))))) (pss_one (ps_ret pe_bl)) pss_nil)
    (pss_cons (ps_if (PW.pt (pw_and (pt_cmpR op_eq (pv 6) pe_str (nomark _)) (pw_and1 (pt_cmpR (OW.op_neO T.cl_Order T.ne_Order T.m_Order_eq (ok_Order_eq T) (hr.mono (by decide))) (pe_call FA (hr.mono (by decide)) (by rfl) T.g_order_at kpA bA vA pass0 (pa_cons (pv 8) (pa_cons (pv 15) pa_nil))) (pv 13) (nomark _))))) (pss_one (ps_ret pe_bl)) pss_nil)
    (pss_cons (ps_if (PW.pt (pw_or (pt_cmpR op_ne (pe_cmpR op_lt (pv 14) (pv 15) (nomark _)) (pe_cmpR (OW.op_ltD hr.units) (pv 10) (pv 11) (nomark _)) (nomark _)) (pw_or1 (pt_cmpR op_ne (pe_cmpR op_eq (pv 14) (pv 15) (nomark _)) (pe_cmpR (op_eqD hr.units) (pv 10) (pv 11) (nomark _)) (nomark _))))) (pss_one (ps_ret pe_bl)) pss_nil)
    (pss_one (ps_ret (pe_and (pe_cmpR op_eq (pe_cmpR (OW.op_cmpO (op := .Lt) (fun _ _ => rfl) T.m_Order_lt (ok_Order_lt T) (hr.mono (by decide))) (pv 12) (pv 13) (nomark _)) (pe_cmpR (OW.op_ltD hr.units) (pv 10) (pv 11) (nomark _)) (nomark _)) (pe_one (pe_cmpR op_eq (pe_cmpR (OW.op_cmpO (op := .GtE) (fun _ _ => rfl) T.m_Order_ge (ok_Order_ge T) (hr.mono (by decide))) (pv 12) (pv 13) (nomark _)) (pe_cmpR (OW.op_geD hr.units) (pv 10) (pv 11) (nomark _)) (nomark _))))))))))))))))))))))))))))), ?_⟩
  obtain ⟨l, rfl, hs, q⟩ := h
  have el12 : ∀ {σ : L2.St} {H : Hp}, EvL (tOp rRep (tLst (tCons (tC (.int 12)) tNil)) (tC (.int 12))) σ H ((List.replicate 12 (12 : Int)).map V.int) := el_rep (k := 12) (x := .int 12) (el_lst (ea_cons ev_c ea_nil) (by show 1 ≤ 100000; decide)) (fun _ _ => ev_c) (by decide)
  refine q_asgP (evp_draws (k := 0) (ss := [4, 4, 8, 4, 4, 4, 64, 64, 64, 64, 64, 64]) rfl hs rfl (by decide) (el_cat (xs := [.int 4, .int 4, .int 8, .int 4, .int 4, .int 4]) (ys := List.replicate 6 (.int 64)) (el_lst (ea_cons ev_c (ea_cons ev_c (ea_cons ev_c (ea_cons ev_c (ea_cons ev_c (ea_cons ev_c ea_nil)))))) (by show 6 ≤ 100000; decide)) (el_rep (k := 6) (x := .int 64) (el_lst (ea_cons ev_c ea_nil) (by show 1 ≤ 100000; decide)) (fun _ _ => ev_c) (by decide)) (by decide)) (by decide) (by decide)) fun v H1 e1 r => ?_
  obtain ⟨da, ds, rfl, hdn, hda, hb⟩ := r.get
  have hdl : ds.length = 12 := hb.length
  obtain ⟨a0, g0, b0, c0⟩ := paired_get' hb 0 4 rfl
  obtain ⟨a1, g1, b1, c1⟩ := paired_get' hb 1 4 rfl
  obtain ⟨a2, g2, b2, c2⟩ := paired_get' hb 2 8 rfl
  obtain ⟨a3, g3, b3, c3⟩ := paired_get' hb 3 4 rfl
  obtain ⟨a4, g4, b4, c4⟩ := paired_get' hb 4 4 rfl
  obtain ⟨a5, g5, b5, c5⟩ := paired_get' hb 5 4 rfl
  have hix : ∀ {σ : L2.St} {H' : Hp} (j : Nat) (d : Int), Ex H1 H' → σ[1]? = some (some (.ref da)) → ds[j]? = some d → Ev (tOp (rIxL K) (tVar 1) (tC (.int (j : Int)))) σ H' (.int d) := fun j d e h1 h2 => ev_op (ev_var h1) ev_c (rv_ixL (sq_of (e _ _ hda)) (atI_nat (by rw [List.getElem?_map, h2]; rfl)))
  obtain ⟨m, hm⟩ : ∃ m : Nat, (m : Int) = 1 + a0 := ⟨(1 + a0).toNat, by omega⟩
  obtain ⟨n, hn⟩ : ∃ n : Nat, (n : Int) = 1 + a1 := ⟨(1 + a1).toNat, by omega⟩
  refine q_asg (v := iV m) (ev_is (ev_op ev_c (hix 0 a0 (Ex.refl _) rfl g0) rv_I0) (congrArg V.int hm.symm)) fun H2 e2 => ?_
  refine q_asg (v := iV n) (ev_is (ev_op ev_c (hix 1 a1 e2 rfl g1) rv_I0) (congrArg V.int hn.symm)) fun H3 e3 => ?_
  have e13 := e2.trans e3
  refine q_at (σ' := [some (.ref l), some (.ref da), some (iV m), some (iV n), none, none, none, none, none, none, none, none, none, none, none, none, none]) rfl ?_
  obtain ⟨shr, hshr⟩ : ∃ shr : Int, atI [V.int 0, .int 6, .int 3, .int 2] a3 = some (.int shr) := by
    have h : a3 = 0 ∨ a3 = 1 ∨ a3 = 2 ∨ a3 = 3 := by omega
    rcases h with h | h | h | h <;> rw [h]
    · exact ⟨0, rfl⟩
    · exact ⟨6, rfl⟩
    · exact ⟨3, rfl⟩
    · exact ⟨2, rfl⟩
  obtain ⟨kd, hkd⟩ : ∃ kd : Kd, atI [V.str "even", .str "stock", .str "wish", .str "any"] a4 = some (.str kd.s) := by
    have h : a4 = 0 ∨ a4 = 1 ∨ a4 = 2 ∨ a4 = 3 := by omega
    rcases h with h | h | h | h <;> rw [h]
    · exact ⟨.even, rfl⟩
    · exact ⟨.stock, rfl⟩
    · exact ⟨.wish, rfl⟩
    · exact ⟨.any, rfl⟩
  obtain ⟨mo, hmo⟩ : ∃ mo : Nat, mo = if a5 = 0 then 12 else 10 := ⟨_, rfl⟩
  have hmo12 : mo ≤ 12 := by rw [hmo]; split <;> decide
  -- the grid
  refine q_asgP (evp_c (ea_cons (ev_var rfl) (ea_cons (x := iV 1) ev_c (ea_cons (ev_var (v := iV m) rfl) (ea_cons (ev_var (v := iV n) rfl) (ea_cons (hix 2 a2 e13 rfl g2) (ea_cons (ev_opL1 (el_lst (ea_cons ev_c (ea_cons ev_c (ea_cons ev_c (ea_cons ev_c ea_nil)))) (by show 4 ≤ 100000; decide)) (fun H' e' => hix 3 a3 (e13.trans e') rfl g3) (fun p H' hp e' => rv_ixL (sq_of hp) hshr)) ea_nil)))))) (u__law_grid (hs.ex (e1.trans e13)) (by decide) (by omega) (by omega) (by omega) (by omega)) GdR.back) fun v H4 e4 r => ?_
  obtain ⟨g, its, rfl, hgn, hB, sh, hrn, hgr⟩ := r
  have e14 := e13.trans e4
  refine q_at (σ' := [some (.ref l), some (.ref da), some (iV m), some (iV n), some (.ref g), none, none, none, none, none, none, none, none, none, none, none, none]) rfl ?_
  refine q_asg (v := iV mo) (ev_if (b := decide (a5 = 0)) (et_test (ev_op (hix 5 a5 e14 rfl g5) ev_c (rv_eqI rfl))) (fun h => ev_is ev_c (by rw [hmo, if_pos (of_decide_eq_true h)]; rfl)) (fun h => ev_is ev_c (by rw [hmo, if_neg (of_decide_eq_false h)]; rfl))) fun H5 e5 => ?_
  have e15 := e14.trans e5
  refine q_at (σ' := [some (.ref l), some (.ref da), some (iV m), some (iV n), some (.ref g), some (iV mo), none, none, none, none, none, none, none, none, none, none, none]) rfl ?_
  -- the cut
  refine q_asgRaw (eap_cons (x := .ref g) (ev_var rfl) (eap_mid (evp_L (el_sl (ev_var rfl) (show EvO _ _ _ (some ((6 : Nat) : Int)) from eo_some ev_c) eo_none (sq_of (e15 _ _ hda)))) (fun _ _ => ea_cons (ev_var (v := iV mo) rfl) ea_nil)) (by
    rintro v Ha Hb Hc e ⟨w, Hm, rfl, e1, e2, p, ev, hn, hp⟩
    exact ⟨w, Hm, rfl, e.trans e1, e2, p, ev, fresh_back e hn, hp⟩)) fun vs H6 e6 r => ?_
  obtain ⟨ws, rfl, v, Hm, rfl, ea, eb, pk, rfl, hpn, hpk⟩ := r
  rw [cutV_to (by omega)] at hpk
  have hB5 := hB.ex e5
  have hpkr : pk ∉ its.map (·.1) := fun h => by
    obtain ⟨p, hp, e⟩ := List.mem_map.mp h
    have h2 := hB5.row p hp
    have e : p.1 = pk := e
    rw [e, hpn] at h2
    cases h2
  refine ⟨g, pk, mo, its, m, n, ds.drop 6, rfl, hB5.ex e6, sh, eb _ _ hpk, hpkr, hgr, fun its' H7 ef kp hB' sh' hc => ?_⟩
  have e37 : Ex H3 H7 := fun b o hb => kp b o ((e4.trans (e5.trans e6)) b o hb) fun h => by
    obtain ⟨p, hp, e⟩ := List.mem_map.mp h
    have e : p.1 = b := e
    rw [← e, hrn p hp] at hb
    cases hb
  have h12 : (pairsOf (gridOf its') m n).length ≤ 12 := few_end (N := mo) (by rw [List.length_drop, hdl] at hc; exact hc) hmo12 (by omega) (by omega)
  have hG := hB'.gra
  obtain ⟨G, eG⟩ : ∃ G, G = gridOf its' := ⟨_, rfl⟩
  rw [← eG] at hG sh' h12
  have e17 := e13.trans e37
  have h64 := pairs_len sh'
  -- kind, needs, table, count
  refine q_asg (v := .str kd.s) (ev_opL1 (el_lst (ea_cons ev_c (ea_cons ev_c (ea_cons ev_c (ea_cons ev_c ea_nil)))) (by show 4 ≤ 100000; decide)) (fun H' e' => hix 4 a4 (e17.trans e') rfl g4) (fun p H' hp e' => rv_ixL (sq_of hp) hkd)) fun H8 e8 => ?_
  refine q_at (σ' := [some (.ref l), some (.ref da), some (iV m), some (iV n), some (.ref g), some (iV mo), some (.str kd.s), none, none, none, none, none, none, none, none, none, none]) rfl ?_
  refine q_asgP (evp_c (ea_cons (ev_var rfl) (ea_cons (ev_var (v := .str kd.s) rfl) ea_nil)) (u__law_needs (hG.ex e8) sh') (fun _ _ _ _ e ⟨d, ev, hn, hd⟩ => ⟨d, ev, fresh_back e hn, hd⟩)) fun v H9 e9 r => ?_
  obtain ⟨d, rfl, hdn, hdk⟩ := r
  refine q_at (σ' := [some (.ref l), some (.ref da), some (iV m), some (iV n), some (.ref g), some (iV mo), some (.str kd.s), some (.ref d), none, none, none, none, none, none, none, none, none]) rfl ?_
  have cp : EvP (tCallR (p__law_copy K) (tCons (tVar 4) tNil)) [some (.ref l), some (.ref da), some (iV m), some (iV n), some (.ref g), some (iV mo), some (.str kd.s), some (.ref d), none, none, none, none, none, none, none, none, none] H9 (LRel RowA G) := evp_c (ea_cons (ev_var rfl) ea_nil) (u__law_copy (hG.ex (e8.trans e9)) sh') LRel.back
  refine q_asgP (evp_mkTP (fun H1 e Q q => cp H1 e Q fun v H2 e2 r => q v H2 e2 (LRel.gra r)) sh') fun v H10 e10 r => ?_
  obtain ⟨t, rfl, htn, ht⟩ := r
  refine q_at (σ' := [some (.ref l), some (.ref da), some (iV m), some (iV n), some (.ref g), some (iV mo), some (.str kd.s), some (.ref d), some (.ref t), none, none, none, none, none, none, none, none]) rfl ?_
  refine q_asgP (evp_cN (ea_cons (ev_var rfl) ea_nil) (ea_cons (ev_var (v := .str kd.s) rfl) ea_nil) rfl rfl (u_count sh' ht h12)) fun v H11 e11 ev => ?_
  rw [show v = _ from ev]
  obtain ⟨N, eN⟩ : ∃ N, N = W (masksOf G m n kd) (pairsOf G m n).length 0 := ⟨_, rfl⟩
  rw [← eN]
  refine q_at (σ' := [some (.ref l), some (.ref da), some (iV m), some (iV n), some (.ref g), some (iV mo), some (.str kd.s), some (.ref d), some (.ref t), some (iV N), none, none, none, none, none, none, none]) rfl ?_
  have hs11 : ScA K H11 l := hs.ex (e1.trans (e17.trans (e8.trans (e9.trans (e10.trans e11)))))
  have hdk11 := hdk.ex (e10.trans e11)
  have ht11 := ht.ex e11
  refine q_asgP (evp_walk (i := 7) (ss := List.replicate 12 12) rfl sh' hdk11 h12 (evp_draws (k := 2) rfl hs11 rfl (by decide) el12 (by decide) (by decide))) fun v1 H12 e12 r1 => ?_
  refine q_at (σ' := [some (.ref l), some (.ref da), some (iV m), some (iV n), some (.ref g), some (iV mo), some (.str kd.s), some (.ref d), some (.ref t), some (iV N), some v1, none, none, none, none, none, none]) rfl ?_
  refine q_asgP (evp_walk (i := 7) (ss := List.replicate 12 12) rfl sh' (hdk11.ex e12) h12 (evp_draws (k := 3) rfl (hs11.ex e12) rfl (by decide) el12 (by decide) (by decide))) fun v2 H13 e13' r2 => ?_
  rcases r1 with ⟨rfl, hW, hno⟩ | ⟨ks, hr1, hl1⟩
  · rcases r2 with ⟨rfl, _, _⟩ | ⟨ls, hr2, _⟩
    · rw [hW] at eN
      subst eN
      refine q_at (σ' := [some (.ref l), some (.ref da), some (iV m), some (iV n), some (.ref g), some (iV mo), some (.str kd.s), some (.ref d), some (.ref t), some (iV 0), some .non, some .non, none, none, none, none, none]) rfl ?_
      refine q_when (b := true) (et_orT (et_test (ev_op (ev_var (v := .non) rfl) ev_c (rv_isN rfl)))) (fun _ H14 e14 => ?_) (fun h => by cases h)
      exact s_ret (v := .bl true) (ev_andT (ev_op (ev_var (v := .non) rfl) ev_c (rv_isN rfl)) (ev_andT (ev_op (ev_var (v := .non) rfl) ev_c (rv_isN rfl)) (ev_op (ev_var (v := iV 0) rfl) ev_c (rv_eqI rfl)))) fun H15 _ => q H15
    · exact absurd hr2 (hno ls)
  rcases r2 with ⟨_, _, hno⟩ | ⟨ls, hr2, hl2⟩
  · exact absurd hr1 (hno ks)
  obtain ⟨oa, xs, rfl, _, hoa, hpa⟩ := LRel.pl hl1
  obtain ⟨ob, ys, rfl, _, hob, hpb⟩ := LRel.pl hl2
  refine q_at (σ' := [some (.ref l), some (.ref da), some (iV m), some (iV n), some (.ref g), some (iV mo), some (.str kd.s), some (.ref d), some (.ref t), some (iV N), some (.ref oa), some (.ref ob), none, none, none, none, none]) rfl ?_
  obtain ⟨en1, en2⟩ := ends hr1 hr2
  have lt1 := rank_lt ks 0 (Nat.two_pow_pos _) hr1
  have lt2 := rank_lt ls 0 (Nat.two_pow_pos _) hr2
  rw [← eN] at lt1 lt2
  obtain ⟨l1, n1, k1⟩ := run_length hr1
  obtain ⟨l2, n2, k2⟩ := run_length hr2
  obtain ⟨A1, eA1⟩ : ∃ A1, A1 = rank (masksOf G m n kd) (pairsOf G m n).length 0 ks := ⟨_, rfl⟩
  obtain ⟨A2, eA2⟩ : ∃ A2, A2 = rank (masksOf G m n kd) (pairsOf G m n).length 0 ls := ⟨_, rfl⟩
  rw [← eA1] at lt1 en1 en2
  rw [← eA2] at lt2 en1 en2
  have in7 : ∀ zs : List Nat, (∀ k ∈ zs, k < (pairsOf G m n).length) → ∀ p ∈ ordOf G m n zs, p.1 ≤ 7 ∧ p.2 ≤ 7 := fun zs hz p hp => by
    obtain ⟨k, hk, rfl⟩ := List.mem_map.mp hp
    exact pair7 sh' (getD_mem (hz k hk))
  have hoa13 := e13' _ _ hoa
  have hpa13 := hpa.ex e13'
  refine q_skip (et_orF (et_test (ev_op (ev_var (v := .ref oa) rfl) ev_c (rv_isN rfl))) (et_test (ev_op (ev_var (v := .ref ob) rfl) ev_c (rv_isN rfl)))) fun H14 e14' => ?_
  refine q_asgP (evp_mkOP (ps := ordOf G m n ks) (evp_listPL (ev_var (v := .ref oa) rfl) (e14' _ _ hoa13) (hpa13.ex e14')) (map_getD_nodup pairs_nodup n1 k1) (in7 ks k1) (by rw [List.length_map]; omega)) fun v H15 e15' r => ?_
  obtain ⟨f1, rfl, _, ho1⟩ := r
  refine q_at (σ' := [some (.ref l), some (.ref da), some (iV m), some (iV n), some (.ref g), some (iV mo), some (.str kd.s), some (.ref d), some (.ref t), some (iV N), some (.ref oa), some (.ref ob), some (.ref f1), none, none, none, none]) rfl ?_
  refine q_asgP (evp_mkOP (ps := ordOf G m n ls) (evp_listPL (ev_var (v := .ref ob) rfl) ((e14'.trans e15') _ _ hob) (hpb.ex (e14'.trans e15'))) (map_getD_nodup pairs_nodup n2 k2) (in7 ls k2) (by rw [List.length_map]; omega)) fun v H16 e16 r => ?_
  obtain ⟨f2, rfl, _, ho2⟩ := r
  refine q_at (σ' := [some (.ref l), some (.ref da), some (iV m), some (iV n), some (.ref g), some (iV mo), some (.str kd.s), some (.ref d), some (.ref t), some (iV N), some (.ref oa), some (.ref ob), some (.ref f1), some (.ref f2), none, none, none]) rfl ?_
  have ho1 := ho1.ex e16
  have eT : Ex H11 H16 := e12.trans (e13'.trans (e14'.trans (e15'.trans e16)))
  have ht16 := ht11.ex eT
  have hoa16 := (e14'.trans (e15'.trans e16)) _ _ hoa13
  have hpa16 := hpa13.ex (e14'.trans (e15'.trans e16))
  have hob16 := (e14'.trans (e15'.trans e16)) _ _ hob
  have hpb16 := hpb.ex (e14'.trans (e15'.trans e16))
  refine q_asgP (evp_cN (ea_cons (ev_var rfl) (ea_cons (ev_var rfl) ea_nil)) (ea_cons (ev_var (v := .str kd.s) rfl) ea_nil) rfl rfl (u_number_of sh' ht16 ho1 h12 hr1)) fun v H17 e17' ev => ?_
  rw [show v = _ from ev, ← eA1]
  refine q_at (σ' := [some (.ref l), some (.ref da), some (iV m), some (iV n), some (.ref g), some (iV mo), some (.str kd.s), some (.ref d), some (.ref t), some (iV N), some (.ref oa), some (.ref ob), some (.ref f1), some (.ref f2), some (iV A1), none, none]) rfl ?_
  refine q_asgP (evp_cN (ea_cons (ev_var rfl) (ea_cons (ev_var rfl) ea_nil)) (ea_cons (ev_var (v := .str kd.s) rfl) ea_nil) rfl rfl (u_number_of sh' (ht16.ex e17') (ho2.ex e17') h12 hr2)) fun v H18 e18 ev => ?_
  rw [show v = _ from ev, ← eA2]
  refine q_at (σ' := [some (.ref l), some (.ref da), some (iV m), some (iV n), some (.ref g), some (iV mo), some (.str kd.s), some (.ref d), some (.ref t), some (iV N), some (.ref oa), some (.ref ob), some (.ref f1), some (.ref f2), some (iV A1), some (iV A2), none]) rfl ?_
  have e68 := e17'.trans e18
  refine q_forNLn (el_lst (ea_cons (ev_var (v := iV A1) rfl) (ea_cons (ev_var (v := iV A2) rfl) ea_nil)) (by show 2 ≤ 100000; decide)) (fun p i σ' H' => (∃ z, σ' = [some (.ref l), some (.ref da), some (iV m), some (iV n), some (.ref g), some (iV mo), some (.str kd.s), some (.ref d), some (.ref t), some (iV N), some (.ref oa), some (.ref ob), some (.ref f1), some (.ref f2), some (iV A1), some (iV A2), z]) ∧ Ex H18 H' ∧ H' p = some (.lst [iV A1, iV A2])) (fun p Ha hn ea hp => ⟨⟨_, rfl⟩, ea, hp⟩) (fun p i σ' H' _ h => sq_of h.2.2) ?_ ?_
  · rintro p i x σ' Ha hx ⟨⟨z, rfl⟩, ea, hp⟩
    obtain ⟨r, rfl, hrN⟩ : ∃ r, x = iV r ∧ r < N := by
      match i, hx with
      | 0, hx => exact ⟨A1, (Option.some.inj hx).symm, lt1⟩
      | 1, hx => exact ⟨A2, (Option.some.inj hx).symm, lt2⟩
      | i + 2, hx => cases hx
    refine q_skip (et_orF (et_notT (et_B (ev_isi (ea_cons (ev_var rfl) (ea_cons ev_c ea_nil)) (.ty _) (fun H1 _ => .base (.int r)) (kit_ty (by decide +kernel))))) (et_B (ev_isi (ea_cons (ev_var rfl) (ea_cons ev_c ea_nil)) (.ty _) (fun H1 _ => .base (.int r)) (kit_ty (by decide +kernel))))) fun Hb eb => ?_
    exact s_skip (et_orF (et_test (ev_op (ev_var (v := iV r) rfl) ev_c (rv_lt (decide_eq_false (by omega))))) (et_test (ev_op (ev_var (v := iV r) rfl) (ev_var (v := iV N) rfl) (rv_ge (decide_eq_false (by omega)))))) fun Hc ec => ⟨⟨_, rfl⟩, ea.trans (eb.trans ec), (eb.trans ec) _ _ hp⟩
  rintro p σ' H19 ⟨⟨z, rfl⟩, e19, _⟩
  have eX := e68.trans e19
  have oaB : ∀ (v : V) (Ha Hb Hc : Hp) (ps : List Pr), Ex Ha Hb → (∃ o : Addr, v = .ref o ∧ Hb o = none ∧ OrA K Hc o ps) → ∃ o : Addr, v = .ref o ∧ Ha o = none ∧ OrA K Hc o ps := fun _ _ _ _ _ e ⟨o, ev, hn, ho⟩ => ⟨o, ev, fresh_back e hn, ho⟩
  have neS : ∀ {H : Hp} {v : V} {o : Addr} {ps : List Pr} {Hx : Hp}, (∃ o, v = .ref o ∧ Hx o = none ∧ OrA K H o ps) → OrA K H o ps → RV (OW.rNeO (He.ga K "Order") (p_Order_eq K).sp) v (.ref o) H (.bl false) := fun {H v o ps Hx} h h2 => by
    obtain ⟨o', rfl, _, ho'⟩ := h
    have := rv_neO ho' h2
    rw [decide_eq_true rfl] at this
    exact this
  -- order_at of the first number
  refine q_skip (et_test (ev_opP (evp_cN (ea_cons (ev_var rfl) (ea_cons (ev_var (v := iV A1) rfl) ea_nil)) (ea_cons (ev_var (v := .str kd.s) rfl) ea_nil) rfl rfl (u_order_at sh' (ht16.ex eX) h12 hr1 eA1) (fun v Ha Hb Hc e r => oaB v Ha Hb Hc _ e r)) (fun _ _ => ev_var (v := .ref f1) rfl) (fun v Ha Hb ea eb r => neS r (ho1.ex (eX.trans (ea.trans eb)))))) fun H20 e20 => ?_
  have eX := eX.trans e20
  -- order_at of the second, its pairs
  refine q_skip (et_test (ev_opP (evp_m0P (evp_cN (ea_cons (ev_var rfl) (ea_cons (ev_var (v := iV A2) rfl) ea_nil)) (ea_cons (ev_var (v := .str kd.s) rfl) ea_nil) rfl rfl (u_order_at sh' (ht16.ex eX) h12 hr2 eA2) (fun v Ha Hb Hc e r => oaB v Ha Hb Hc _ e r)) (fun v Ha Hb ea eb r => by
      obtain ⟨o, rfl, _, ho⟩ := r
      obtain ⟨dx, L, D, zs, h1, _⟩ := id ho
      exact ⟨o, dx, _, rfl, h1, rfl, u_Order_pairs ho⟩) LRel.back) (fun _ _ => ev_var (v := .ref ob) rfl) (fun v Ha Hb ea eb r => by
      obtain ⟨pp, zs, rfl, _, h1, h2⟩ := LRel.pl r
      have := rv_neP (K := K) h1 h2 ((eX.trans (ea.trans eb)) _ _ hob16) (hpb16.ex (eX.trans (ea.trans eb)))
      rw [decide_eq_true rfl] at this
      exact this))) fun H21 e21 => ?_
  have eX := eX.trans e21
  have evenK : decide (kd.s = "even") = true → kd = .even := fun h => by
    cases kd <;> first | rfl | (exact absurd h (by decide))
  -- even left out
  refine q_skip (et_is (et_and (b := false) (et_test (ev_op (ev_var (v := .str kd.s) rfl) ev_c (rv_eqS rfl))) (fun h => ?_)) (Bool.and_false _)) fun H22 e22 => ?_
  · have hk := evenK h
    subst hk
    exact et_test (ev_op (evp_call (ea_cons (ev_var rfl) (ea_cons (ev_var rfl) ea_nil)) (u_number_of sh' (ht16.ex eX) (ho1.ex eX) h12 hr1) (fun _ _ _ _ _ h => h)).ev (ev_var (v := iV A1) rfl) (rv_neI (by rw [← eA1]; simp)))
  have eX := eX.trans e22
  refine q_skip (et_is (et_and (b := false) (et_test (ev_op (ev_var (v := .str kd.s) rfl) ev_c (rv_eqS rfl))) (fun h => ?_)) (Bool.and_false _)) fun H23 e23 => ?_
  · have hk := evenK h
    subst hk
    exact et_test (ev_opP (evp_call (ea_cons (ev_var rfl) (ea_cons (ev_var (v := iV A2) rfl) ea_nil)) (u_order_at sh' (ht16.ex eX) h12 hr2 eA2) (fun v Ha Hb Hc e r => oaB v Ha Hb Hc _ e r)) (fun _ _ => ev_var (v := .ref f2) rfl) (fun v Ha Hb ea eb r => neS r (ho2.ex (eX.trans (ea.trans eb)))))
  have eX := eX.trans e23
  have en1' : decide ((A1 : Int) < (A2 : Int)) = lexP (ordOf G m n ks) (ordOf G m n ls) := by
    rw [← en1]
    exact decide_eq_decide.mpr (by omega)
  have en2' : decide ((A1 : Int) = (A2 : Int)) = decide (ordOf G m n ks = ordOf G m n ls) := by
    rw [← en2]
    exact decide_eq_decide.mpr (by omega)
  refine q_skip (et_orF (et_test (ev_op (ev_op (ev_var (v := iV A1) rfl) (ev_var (v := iV A2) rfl) (rv_lt en1')) (ev_op (ev_var (v := .ref oa) rfl) (ev_var (v := .ref ob) rfl) (rv_ltP (eX _ _ hoa16) (hpa16.ex eX) (eX _ _ hob16) (hpb16.ex eX))) (rv_neB (by simp))))
    (et_test (ev_op (ev_op (ev_var (v := iV A1) rfl) (ev_var (v := iV A2) rfl) (rv_eqI en2')) (ev_op (ev_var (v := .ref oa) rfl) (ev_var (v := .ref ob) rfl) (rv_eqP (eX _ _ hoa16) (hpa16.ex eX) (eX _ _ hob16) (hpb16.ex eX))) (rv_neB (by simp))))) fun H24 e24 => ?_
  have eX := eX.trans e24
  exact s_ret (v := .bl true) (ev_andT (ev_op (ev_op (ev_var (v := .ref f1) rfl) (ev_var (v := .ref f2) rfl) (rv_ltO (ho1.ex eX) (ho2.ex eX))) (ev_op (ev_var (v := .ref oa) rfl) (ev_var (v := .ref ob) rfl) (rv_ltP (eX _ _ hoa16) (hpa16.ex eX) (eX _ _ hob16) (hpb16.ex eX))) (rv_eqB (decide_eq_true rfl)))
    (ev_op (ev_op (ev_var (v := .ref f1) rfl) (ev_var (v := .ref f2) rfl) (rv_geO (ho1.ex eX) (ho2.ex eX))) (ev_op (ev_var (v := .ref oa) rfl) (ev_var (v := .ref ob) rfl) (rv_geP (eX _ _ hoa16) (hpa16.ex eX) (eX _ _ hob16) (hpb16.ex eX))) (rv_eqB (decide_eq_true rfl)))) fun H25 _ => q H25

end
end K50
end
set_option Elab.async false
set_option linter.all false
set_option maxRecDepth 100000
set_option maxHeartbeats 0
/-! The end: the head, then the law. -/
namespace K50
open PySem PySem.Spec PyProof.Rows L2
theorem facts {P : Program} {w : World} {K : PySem.W.Frag} {h : Heap} {mg : Str → Option Value} {f : Addr} (X : K.In h) (G : h.Ns mainGlobals mg) (hfa : mg ("law" : Str) = some (.ref f)) (c : SaysM fa fn ex K) :
    ∃ fd : FuncData, (∀ (s : Shared) (v : Value), BindsTo s fd ⟨[v], []⟩ [("_law_script", v)]) ∧ ∀ base : Heap, K.In base → base.Ns mainGlobals mg → FnOk P w K mg base CX0 9 f fd ["_law_script"] (EV.Pm.sp (p_law K)) := by
  have T : Tx K mg := ⟨⟨h, X, G⟩, c⟩
  obtain ⟨fd, F⟩ := T.f_law
  have e := hfa.symm.trans T.g_law
  cases e
  have b := FunD.bindsA (ps := ["_law_script"]) F fun _ _ _ _ _ _ us hl => match us, hl with | [_], _ => rfl
  exact ⟨fd, fun s v => b s [v] rfl, fun base _ _ => ok_law T F⟩
end K50
open PySem PySem.W PySem.Calls PyProof.Rows
theorem PySem.Challenge.cw_pairorder_k50_whole_orders_compare_as_nu_holds : PySem.Challenge.rw_pairorder_k50_whole_orders_compare_as_nu.Holds := by
  w_on; o_law
  refine HandSHeadRun.head_any (r := OpenLaw.row PySem.Challenge.rw_pairorder_k50_whole_orders_compare_as_nu) (q := view (OpenLaw.row PySem.Challenge.rw_pairorder_k50_whole_orders_compare_as_nu).prog [69]) (H := K50.hk) (ob := K50.ob) (M := 5000) (loose := K50.loose) (d := HandSHeadRun.topDef (OpenLaw.row PySem.Challenge.rw_pairorder_k50_whole_orders_compare_as_nu).prog 69) (kwd := []) K50.ob_eq
    (by kernel_rfl) (fun s => by kernel_rfl) K50.run (by kernel_rfl) (by kernel_rfl) (by kernel_rfl) (by rfl) (by first | assumption | decide +kernel) (by decide +kernel) ⟨rfl, rfl, rfl, rfl, rfl, by decide +kernel⟩ ?hw ?hc
  case hw => w_witness2
  case hc =>
    refine L2.walk_ofE (l := PySem.Challenge.rw_pairorder_k50_whole_orders_compare_as_nu) (n := 63) (k := 9) (x := "_law_script") (CX := L2.CX0) rfl (by decide) (by kernel_rfl) ⟨rfl, by decide, by decide⟩ ?F (fun _ _ _ _ z => z)
    intro w mg fa h Y G hmg0
    obtain ⟨K, KX, c⟩ := Y
    have hmg : mg ("law" : PySem.Str) = some (.ref fa) := by
      have e : (HandSHeadRun.topDef (OpenLaw.row PySem.Challenge.rw_pairorder_k50_whole_orders_compare_as_nu).prog 69).name = ("law" : PySem.Str) := by kernel_rfl
      rw [← e]
      exact hmg0
    obtain ⟨fd, hb, hF⟩ := K50.facts (P := (PySem.Challenge.rw_pairorder_k50_whole_orders_compare_as_nu).prog) (w := w) KX G hmg c
    exact ⟨K, fd, EV.Pm.sp (K50.p_law K), KX, hb, fun H a ns hl _ hS => ⟨a, rfl, ⟨ns, hS⟩, fun _ => rfl⟩, hF⟩
