import PyProof.Rows.All
import Wide.All
import OpenK.AllK
import Wide.FinOn
import KE.KStateDown
import HandS.Base
import HandS.Call
import HandS.Ends
import HandS.More
import HandS.Words
import HandS.WordsExc
import HandS.Defaults
import HandS.Head0
import HandS.Head1
import HandS.Head2
import HandS.HeadEnd
import HandS.HeadHook1
import HandS.HeadHook2
import HandS.ForMost
import HandS.Evl
import HandS.Walk
import HandS.IsInst
import HandS.Flow
import HandS.Strs
import HandS.StrMore
import HandS.TupAny
import HandS.TupMul
import HandS.Codes
import HandS.NoneIn
import KE.KDictKeyed
import KE.KDictWalk
import KE.KeyNested
import HandS.WordsDict
import HandS.Zip
import KE.GoesZip
import KE.GoesMore
import HandS.TupSets
import KE.SortData
import HandS.OwnEq
import HandS.NamedTupSort
import HandS.Text
import HandS.Style
import HandS.Conv
import HandS.DeepEq
import PyProof.Rows.StrCut
import PySem.Challenge.RW_foldbough_k25_whole_least_of_all
set_option Elab.async false
set_option linter.all false
set_option autoImplicit false
set_option maxRecDepth 100000
set_option maxHeartbeats 0
/-! The text: where each def stands, what the head tells of it. -/
namespace Fb
open PySem PySem.Spec L2
def top (i : Nat) : Stmt := PySem.Challenge.pw_foldbough_k25_whole_least_of_all.main.body.getD i (.Pass ⟨0, 0, 0, 0⟩)
abbrev s_is_name : Stmt := top 12
abbrev s_is_value : Stmt := top 13
abbrev s_is_row : Stmt := top 14
abbrev s_want_row : Stmt := top 15
abbrev s_are_columns : Stmt := top 16
abbrev s_Table_init : Stmt := inClass (top 17) 0
abbrev s_Table_columns : Stmt := inClass (top 17) 4
abbrev s_Table_rows : Stmt := inClass (top 17) 5
abbrev s_Table_of : Stmt := inClass (top 17) 9
abbrev s_Fold_init : Stmt := inClass (top 19) 0
abbrev s_Fold_eq : Stmt := inClass (top 19) 2
abbrev s_Fold_bunches : Stmt := inClass (top 19) 5
abbrev s_Fold_tops : Stmt := inClass (top 19) 6
abbrev s_Pool_init : Stmt := inClass (top 25) 0
abbrev s_Pool_put : Stmt := inClass (top 25) 1
abbrev s_Pool_fold : Stmt := inClass (top 25) 2
abbrev s_visit : Stmt := top 26
abbrev s_moved : Stmt := top 27
abbrev s_is_part : Stmt := top 29
abbrev s_is_bunch : Stmt := top 30
abbrev s_fold_of : Stmt := top 31
abbrev s_at_places : Stmt := top 32
abbrev s_mixed : Stmt := top 33
abbrev s_values_in : Stmt := top 34
abbrev s_first_missing : Stmt := top 35
abbrev s_first_mixed : Stmt := top 36
abbrev s_want_columns : Stmt := top 37
abbrev s_split_rows : Stmt := top 38
abbrev s_bunch_of : Stmt := top 39
abbrev s_folded : Stmt := top 40
abbrev s_is_pair : Stmt := top 42
abbrev s_order_from : Stmt := top 43
abbrev s_Tree_init : Stmt := inClass (top 44) 0
abbrev s_Tree_eq : Stmt := inClass (top 44) 2
abbrev s_Tree_want : Stmt := inClass (top 44) 4
abbrev s_Tree_columns : Stmt := inClass (top 44) 5
abbrev s_Tree_pairs : Stmt := inClass (top 44) 6
abbrev s_Tree_over : Stmt := inClass (top 44) 7
abbrev s_Tree_above : Stmt := inClass (top 44) 8
abbrev s_Tree_beneath : Stmt := inClass (top 44) 9
abbrev s_Tree_children : Stmt := inClass (top 44) 10
abbrev s_Lwell : Stmt := top 47
abbrev s_Ldraw : Stmt := top 48
abbrev s_Lnames : Stmt := top 49
abbrev s_Lbase : Stmt := top 50
abbrev s_Lpairs : Stmt := top 51
abbrev s_Lorder : Stmt := top 52
abbrev s_Lbunch : Stmt := top 53
abbrev s_Lraw : Stmt := top 54
abbrev s_Lshuffled : Stmt := top 55
abbrev s_Lrows_of : Stmt := top 56
abbrev s_Lspread : Stmt := top 57
abbrev s_Lsecond : Stmt := top 58
abbrev s_Lcounts : Stmt := top 59
abbrev s_Lno_fewer : Stmt := top 60
abbrev s_Lright : Stmt := top 61
abbrev s_law : Stmt := top 62
def d_is_name : He.DefD := ⟨("is_name", none), "is_name", "is_name", defArgs s_is_name, defBody s_is_name, defScope s_is_name, [], []⟩
def d_is_value : He.DefD := ⟨("is_value", none), "is_value", "is_value", defArgs s_is_value, defBody s_is_value, defScope s_is_value, [], []⟩
def d_is_row : He.DefD := ⟨("is_row", none), "is_row", "is_row", defArgs s_is_row, defBody s_is_row, defScope s_is_row, [], []⟩
def d_want_row : He.DefD := ⟨("want_row", none), "want_row", "want_row", defArgs s_want_row, defBody s_want_row, defScope s_want_row, [.int 0], []⟩
def d_are_columns : He.DefD := ⟨("are_columns", none), "are_columns", "are_columns", defArgs s_are_columns, defBody s_are_columns, defScope s_are_columns, [], []⟩
def d_Table_init : He.DefD := ⟨("Table", some "__init__"), "__init__", "Table.__init__", defArgs s_Table_init, defBody s_Table_init, defScope s_Table_init, [.non], []⟩
def d_Table_columns : He.DefD := ⟨("Table", some "columns"), "columns", "Table.columns", defArgs s_Table_columns, defBody s_Table_columns, defScope s_Table_columns, [], []⟩
def d_Table_rows : He.DefD := ⟨("Table", some "rows"), "rows", "Table.rows", defArgs s_Table_rows, defBody s_Table_rows, defScope s_Table_rows, [], []⟩
def d_Table_of : He.DefD := ⟨("Table", some "of"), "of", "Table.of", defArgs s_Table_of, defBody s_Table_of, defScope s_Table_of, [], []⟩
def d_Fold_init : He.DefD := ⟨("Fold", some "__init__"), "__init__", "Fold.__init__", defArgs s_Fold_init, defBody s_Fold_init, defScope s_Fold_init, [], []⟩
def d_Fold_eq : He.DefD := ⟨("Fold", some "__eq__"), "__eq__", "Fold.__eq__", defArgs s_Fold_eq, defBody s_Fold_eq, defScope s_Fold_eq, [], []⟩
def d_Fold_bunches : He.DefD := ⟨("Fold", some "bunches"), "bunches", "Fold.bunches", defArgs s_Fold_bunches, defBody s_Fold_bunches, defScope s_Fold_bunches, [], []⟩
def d_Fold_tops : He.DefD := ⟨("Fold", some "tops"), "tops", "Fold.tops", defArgs s_Fold_tops, defBody s_Fold_tops, defScope s_Fold_tops, [], []⟩
def d_Pool_init : He.DefD := ⟨("Pool", some "__init__"), "__init__", "Pool.__init__", defArgs s_Pool_init, defBody s_Pool_init, defScope s_Pool_init, [], []⟩
def d_Pool_put : He.DefD := ⟨("Pool", some "put"), "put", "Pool.put", defArgs s_Pool_put, defBody s_Pool_put, defScope s_Pool_put, [], []⟩
def d_Pool_fold : He.DefD := ⟨("Pool", some "fold"), "fold", "Pool.fold", defArgs s_Pool_fold, defBody s_Pool_fold, defScope s_Pool_fold, [], []⟩
def d_visit : He.DefD := ⟨("visit", none), "visit", "visit", defArgs s_visit, defBody s_visit, defScope s_visit, [], []⟩
def d_moved : He.DefD := ⟨("moved", none), "moved", "moved", defArgs s_moved, defBody s_moved, defScope s_moved, [], []⟩
def d_is_part : He.DefD := ⟨("is_part", none), "is_part", "is_part", defArgs s_is_part, defBody s_is_part, defScope s_is_part, [], []⟩
def d_is_bunch : He.DefD := ⟨("is_bunch", none), "is_bunch", "is_bunch", defArgs s_is_bunch, defBody s_is_bunch, defScope s_is_bunch, [], []⟩
def d_fold_of : He.DefD := ⟨("fold_of", none), "fold_of", "fold_of", defArgs s_fold_of, defBody s_fold_of, defScope s_fold_of, [], []⟩
def d_at_places : He.DefD := ⟨("at_places", none), "at_places", "at_places", defArgs s_at_places, defBody s_at_places, defScope s_at_places, [], []⟩
def d_mixed : He.DefD := ⟨("mixed", none), "mixed", "mixed", defArgs s_mixed, defBody s_mixed, defScope s_mixed, [], []⟩
def d_values_in : He.DefD := ⟨("values_in", none), "values_in", "values_in", defArgs s_values_in, defBody s_values_in, defScope s_values_in, [], []⟩
def d_first_missing : He.DefD := ⟨("first_missing", none), "first_missing", "first_missing", defArgs s_first_missing, defBody s_first_missing, defScope s_first_missing, [], []⟩
def d_first_mixed : He.DefD := ⟨("first_mixed", none), "first_mixed", "first_mixed", defArgs s_first_mixed, defBody s_first_mixed, defScope s_first_mixed, [], []⟩
def d_want_columns : He.DefD := ⟨("want_columns", none), "want_columns", "want_columns", defArgs s_want_columns, defBody s_want_columns, defScope s_want_columns, [], []⟩
def d_split_rows : He.DefD := ⟨("split_rows", none), "split_rows", "split_rows", defArgs s_split_rows, defBody s_split_rows, defScope s_split_rows, [], []⟩
def d_bunch_of : He.DefD := ⟨("bunch_of", none), "bunch_of", "bunch_of", defArgs s_bunch_of, defBody s_bunch_of, defScope s_bunch_of, [], []⟩
def d_folded : He.DefD := ⟨("folded", none), "folded", "folded", defArgs s_folded, defBody s_folded, defScope s_folded, [], []⟩
def d_is_pair : He.DefD := ⟨("is_pair", none), "is_pair", "is_pair", defArgs s_is_pair, defBody s_is_pair, defScope s_is_pair, [], []⟩
def d_order_from : He.DefD := ⟨("order_from", none), "order_from", "order_from", defArgs s_order_from, defBody s_order_from, defScope s_order_from, [], []⟩
def d_Tree_init : He.DefD := ⟨("Tree", some "__init__"), "__init__", "Tree.__init__", defArgs s_Tree_init, defBody s_Tree_init, defScope s_Tree_init, [], []⟩
def d_Tree_eq : He.DefD := ⟨("Tree", some "__eq__"), "__eq__", "Tree.__eq__", defArgs s_Tree_eq, defBody s_Tree_eq, defScope s_Tree_eq, [], []⟩
def d_Tree_want : He.DefD := ⟨("Tree", some "want"), "want", "Tree.want", defArgs s_Tree_want, defBody s_Tree_want, defScope s_Tree_want, [], []⟩
def d_Tree_columns : He.DefD := ⟨("Tree", some "columns"), "columns", "Tree.columns", defArgs s_Tree_columns, defBody s_Tree_columns, defScope s_Tree_columns, [], []⟩
def d_Tree_pairs : He.DefD := ⟨("Tree", some "pairs"), "pairs", "Tree.pairs", defArgs s_Tree_pairs, defBody s_Tree_pairs, defScope s_Tree_pairs, [], []⟩
def d_Tree_over : He.DefD := ⟨("Tree", some "over"), "over", "Tree.over", defArgs s_Tree_over, defBody s_Tree_over, defScope s_Tree_over, [], []⟩
def d_Tree_above : He.DefD := ⟨("Tree", some "above"), "above", "Tree.above", defArgs s_Tree_above, defBody s_Tree_above, defScope s_Tree_above, [], []⟩
def d_Tree_beneath : He.DefD := ⟨("Tree", some "beneath"), "beneath", "Tree.beneath", defArgs s_Tree_beneath, defBody s_Tree_beneath, defScope s_Tree_beneath, [], []⟩
def d_Tree_children : He.DefD := ⟨("Tree", some "children"), "children", "Tree.children", defArgs s_Tree_children, defBody s_Tree_children, defScope s_Tree_children, [.non], []⟩
def d_Lwell : He.DefD := ⟨("_law_well", none), "_law_well", "_law_well", defArgs s_Lwell, defBody s_Lwell, defScope s_Lwell, [], []⟩
def d_Ldraw : He.DefD := ⟨("_law_draw", none), "_law_draw", "_law_draw", defArgs s_Ldraw, defBody s_Ldraw, defScope s_Ldraw, [], []⟩
def d_Lnames : He.DefD := ⟨("_law_names", none), "_law_names", "_law_names", defArgs s_Lnames, defBody s_Lnames, defScope s_Lnames, [], []⟩
def d_Lbase : He.DefD := ⟨("_law_base", none), "_law_base", "_law_base", defArgs s_Lbase, defBody s_Lbase, defScope s_Lbase, [], []⟩
def d_Lpairs : He.DefD := ⟨("_law_pairs", none), "_law_pairs", "_law_pairs", defArgs s_Lpairs, defBody s_Lpairs, defScope s_Lpairs, [], []⟩
def d_Lorder : He.DefD := ⟨("_law_order", none), "_law_order", "_law_order", defArgs s_Lorder, defBody s_Lorder, defScope s_Lorder, [], []⟩
def d_Lbunch : He.DefD := ⟨("_law_bunch", none), "_law_bunch", "_law_bunch", defArgs s_Lbunch, defBody s_Lbunch, defScope s_Lbunch, [], []⟩
def d_Lraw : He.DefD := ⟨("_law_raw", none), "_law_raw", "_law_raw", defArgs s_Lraw, defBody s_Lraw, defScope s_Lraw, [], []⟩
def d_Lshuffled : He.DefD := ⟨("_law_shuffled", none), "_law_shuffled", "_law_shuffled", defArgs s_Lshuffled, defBody s_Lshuffled, defScope s_Lshuffled, [], []⟩
def d_Lrows_of : He.DefD := ⟨("_law_rows_of", none), "_law_rows_of", "_law_rows_of", defArgs s_Lrows_of, defBody s_Lrows_of, defScope s_Lrows_of, [], []⟩
def d_Lspread : He.DefD := ⟨("_law_spread", none), "_law_spread", "_law_spread", defArgs s_Lspread, defBody s_Lspread, defScope s_Lspread, [], []⟩
def d_Lsecond : He.DefD := ⟨("_law_second", none), "_law_second", "_law_second", defArgs s_Lsecond, defBody s_Lsecond, defScope s_Lsecond, [], []⟩
def d_Lcounts : He.DefD := ⟨("_law_counts", none), "_law_counts", "_law_counts", defArgs s_Lcounts, defBody s_Lcounts, defScope s_Lcounts, [], []⟩
def d_Lno_fewer : He.DefD := ⟨("_law_no_fewer", none), "_law_no_fewer", "_law_no_fewer", defArgs s_Lno_fewer, defBody s_Lno_fewer, defScope s_Lno_fewer, [], []⟩
def d_Lright : He.DefD := ⟨("_law_right", none), "_law_right", "_law_right", defArgs s_Lright, defBody s_Lright, defScope s_Lright, [], []⟩
def d_law : He.DefD := ⟨("law", none), "law", "law", defArgs s_law, defBody s_law, defScope s_law, [], []⟩
def fn : List He.DefD := [d_is_name, d_is_value, d_is_row, d_want_row, d_are_columns, d_Table_init, d_Table_columns, d_Table_rows, d_Table_of, d_Fold_init, d_Fold_eq, d_Fold_bunches, d_Fold_tops, d_Pool_init, d_Pool_put, d_Pool_fold, d_visit, d_moved, d_is_part, d_is_bunch, d_fold_of, d_at_places, d_mixed, d_values_in, d_first_missing, d_first_mixed, d_want_columns, d_split_rows, d_bunch_of, d_folded, d_is_pair, d_order_from, d_Tree_init, d_Tree_eq, d_Tree_want, d_Tree_columns, d_Tree_pairs, d_Tree_over, d_Tree_above, d_Tree_beneath, d_Tree_children, d_Lwell, d_Ldraw, d_Lnames, d_Lbase, d_Lpairs, d_Lorder, d_Lbunch, d_Lraw, d_Lshuffled, d_Lrows_of, d_Lspread, d_Lsecond, d_Lcounts, d_Lno_fewer, d_Lright, d_law]
def fa : List He.Fa := [.glo "is_name", .glo "is_value", .glo "is_row", .glo "want_row", .glo "are_columns", .glo "visit", .glo "moved", .glo "is_part", .glo "is_bunch", .glo "fold_of", .glo "at_places", .glo "mixed", .glo "values_in", .glo "first_missing", .glo "first_mixed", .glo "want_columns", .glo "split_rows", .glo "bunch_of", .glo "folded", .glo "is_pair", .glo "order_from", .glo "_law_well", .glo "_law_draw", .glo "_law_names", .glo "_law_base", .glo "_law_pairs", .glo "_law_order", .glo "_law_bunch", .glo "_law_raw", .glo "_law_shuffled", .glo "_law_rows_of", .glo "_law_spread", .glo "_law_second", .glo "_law_counts", .glo "_law_no_fewer", .glo "_law_right", .glo "law", .glo "Table", .glo "Fold", .glo "Pool", .glo "Tree", .free "isinstance", .free "len", .free "all", .free "set", .free "sorted", .free "list", .free "enumerate", .free "zip", .free "reversed", .free "tuple", .free "dict", .free "int", .free "range", .free "sum", .free "str", .free "bool", .str "LETTERS" "abcdefghijklmnopqrstuvwxyz", .int "LONGEST_NAME" 8, .int "MOST_COLUMNS" 8, .cls "Table", .mkr "Table", .noat "Table" "named", .noat "Table" "held", .cls "Fold", .mkr "Fold", .noat "Fold" "shape", .noat "Fold" "held", .noat "Fold" "roots", .cls "Pool", .mkr "Pool", .noat "Pool" "shape", .noat "Pool" "numbers", .noat "Pool" "held", .cls "Tree", .mkr "Tree", .noat "Tree" "overs", .noat "Tree" "kids", .noat "Tree" "order", .meth "Table" "columns", .meth "Table" "rows", .meth "Table" "of", .meth "Fold" "__eq__", .meth "Fold" "bunches", .meth "Fold" "tops", .meth "Pool" "put", .meth "Pool" "fold", .meth "Tree" "__eq__", .meth "Tree" "want", .meth "Tree" "columns", .meth "Tree" "pairs", .meth "Tree" "over", .meth "Tree" "above", .meth "Tree" "beneath", .meth "Tree" "children"]
def insB (K : PySem.W.Frag) (C : Addr) : Bool := He.eqO (PySem.W.findIn K (.ref C) "__class__") (some (some (.builtin "object.__class__"))) && (He.eqO (PySem.W.specialIn K (.builtin "object.__class__") "__get__") (some (some (.builtin "getset_descriptor.__get__"))) && (decide (PySem.W.takesIn K (.builtin "object.__class__") = some true) && (decide (PySem.W.mroIn K C (.type "object") = some true) && (decide (PySem.W.kitOne K (.ref C) (.ref C) = some true) && He.eqO (PySem.W.findIn K (.ref C) "__ne__") (some (some (.builtin "object.__ne__")))))))
def extra (K : PySem.W.Frag) : Bool := insB K (He.ga K "Tree") && insB K (He.ga K "Fold")
def names0 : List PySem.Str := ["_wall", "FoldError", "NoColumns", "NoRow", "NoTree", "NoColumn", "NoFold", "LETTERS", "LONGEST_NAME", "MOST_COLUMNS", "is_name", "is_value", "is_row", "want_row", "are_columns", "Table", "Fold", "product_at", "by_columns", "counts_of"]
def names1 : List PySem.Str := ["parts_at", "holds", "Pool", "visit", "moved", "is_part", "is_bunch", "fold_of", "at_places", "mixed", "values_in", "first_missing", "first_mixed", "want_columns", "split_rows", "bunch_of", "folded", "is_pair", "order_from", "Tree"]
def names2 : List PySem.Str := ["shown_below", "_law_well", "_law_draw", "_law_names", "_law_base", "_law_pairs", "_law_order", "_law_bunch", "_law_raw", "_law_shuffled", "_law_rows_of", "_law_spread", "_law_second", "_law_counts", "_law_no_fewer", "_law_right"]
def names : List PySem.Str := names0 ++ names1 ++ names2
abbrev R : PySem.W.OpenRow := PySem.W.OpenLaw.row PySem.Challenge.rw_foldbough_k25_whole_least_of_all
abbrev AlE : Type := Bool × He.AlD
def obsE (K : PySem.W.Frag) : AlE := (extra K, He.obsD fa fn K)
def obsEG (n : Nat) (g : Addr → Option Obj) : AlE := obsE (He.frG g (He.asD g n))
def hookE (n : Nat) : PySem.W.Hook where
  α := AlE
  obs := fun s => obsEG n s.heap.get?
  val := fun _ => (true, He.valD fn)
  says := fun _ h => ∃ K : PySem.W.Frag, K.In h ∧ He.SaysD fa fn K ∧ extra K = true
  of := fun _ _ e => ⟨_, He.frG_in, congrArg (fun z : AlE => z.2) e, congrArg (fun z : AlE => z.1) e⟩
  keeps := fun _ _ _ ⟨K, hK, c⟩ k => ⟨K, PySem.W.Frag.In.keeps hK k, c⟩
abbrev hk : PySem.W.Hook := hookE 5
def ob (s : PySem.W.SharedT) : AlE := obsEG 5 (HandSHeadRun.getT s)
theorem ob_eq (s : PySem.W.SharedT) : ob s = hk.obs s.abs := by
  have e : HandSHeadRun.getT s = s.abs.heap.get? := funext (HandSHeadRun.getT_eq s)
  unfold ob
  rw [e]
  rfl
theorem run (w : World) : HandSHeadRun.RunEq R (PySem.W.view R.prog [62]) hk ob 6000 names w := by
  intro os
  kernel_rfl
end Fb

set_option maxRecDepth 512
set_option maxHeartbeats 200000
/-! Mathematics of folded things, no program here: forests, rows, good lists of rows, keys, the least fold. -/
namespace Fb
theorem flatMap_same {α β : Type} {f g : α → List β} : ∀ {l : List α}, (∀ x ∈ l, f x = g x) → l.flatMap f = l.flatMap g
  | [], _ => rfl
  | x :: l, h => by rw [List.flatMap_cons, List.flatMap_cons, h x (by simp), flatMap_same fun y hy => h y (List.mem_cons_of_mem _ hy)]
abbrev Row := List Int
/-- a forest of columns: the first tree (its column, what stands beneath it), then the others -/
inductive Fo (N : Type) where
  | nil
  | cons (c : N) (k r : Fo N)
  deriving DecidableEq
section
variable {N : Type}
def Fo.order : Fo N → List N
  | .nil => []
  | .cons c k r => c :: (k.order ++ r.order)
def Fo.tops : Fo N → List N
  | .nil => []
  | .cons c _ r => c :: r.tops
def Fo.width : Fo N → Nat
  | .nil => 0
  | .cons _ k r => k.width + r.width + 1
def Fo.depth : Fo N → Nat
  | .nil => 0
  | .cons _ k r => max (k.depth + 1) r.depth
theorem Fo.order_length : ∀ F : Fo N, F.order.length = F.width
  | .nil => rfl
  | .cons c k r => by simp [Fo.order, Fo.width, Fo.order_length k, Fo.order_length r]
theorem Fo.depth_le : ∀ F : Fo N, F.depth ≤ F.width
  | .nil => Nat.le_refl _
  | .cons c k r => by
    have h1 := Fo.depth_le k
    have h2 := Fo.depth_le r
    simp only [Fo.depth, Fo.width]
    omega
end
/-- every row of the one with every row of the other behind it -/
def prod (A B : List Row) : List Row := A.flatMap fun a => B.map (a ++ ·)
theorem prod_nil_left (B : List Row) : prod [] B = [] := rfl
theorem prod_one_left (B : List Row) : prod [[]] B = B := by simp [prod]
theorem prod_one_right (A : List Row) : prod A [[]] = A := by
  induction A with
  | nil => rfl
  | cons a A ih => simp only [prod, List.flatMap_cons, List.map_cons, List.map_nil, List.append_nil] at ih ⊢; rw [ih]; rfl
theorem prod_nil_right (A : List Row) : prod A [] = [] := by
  induction A with
  | nil => rfl
  | cons a A ih => simp only [prod, List.flatMap_cons, List.map_nil, List.nil_append] at ih ⊢; rw [ih]
theorem prod_append (A A' B : List Row) : prod (A ++ A') B = prod A B ++ prod A' B := by simp [prod]
theorem prod_cons (a : Row) (A B : List Row) : prod (a :: A) B = B.map (a ++ ·) ++ prod A B := by simp [prod]
theorem prod_map (a : Row) (A B : List Row) : prod (A.map (a ++ ·)) B = (prod A B).map (a ++ ·) := by
  induction A with
  | nil => rfl
  | cons b A ih => rw [List.map_cons, prod_cons, prod_cons, ih, List.map_append, List.map_map]; congr 1; apply List.map_congr_left; intro x _; simp
theorem prod_assoc (A B C : List Row) : prod (prod A B) C = prod A (prod B C) := by
  induction A with
  | nil => rfl
  | cons a A ih => rw [prod_cons, prod_append, prod_cons, ih, prod_map]
theorem mem_prod {A B : List Row} {x : Row} : x ∈ prod A B ↔ ∃ a ∈ A, ∃ b ∈ B, x = a ++ b := by
  simp only [prod, List.mem_flatMap, List.mem_map]
  constructor
  · rintro ⟨a, ha, b, hb, rfl⟩; exact ⟨a, ha, b, hb, rfl⟩
  · rintro ⟨a, ha, b, hb, rfl⟩; exact ⟨a, ha, b, hb, rfl⟩
theorem length_prod (A B : List Row) : (prod A B).length = A.length * B.length := by
  induction A with
  | nil => simp [prod]
  | cons a A ih => rw [prod_cons, List.length_append, List.length_map, ih, List.length_cons, Nat.add_mul]; omega
theorem prod_eq_nil {A B : List Row} : prod A B = [] ↔ A = [] ∨ B = [] := by
  cases A with
  | nil => simp [prod]
  | cons a A =>
    rw [prod_cons]
    cases B with
    | nil => simp [prod_nil_right]
    | cons b B => simp
/-- v ahead of every row -/
def heads1 (v : Int) (S : List Row) : List Row := S.map (v :: ·)
/-- the rows of entries -/
def joinE (es : List (Int × List Row)) : List Row := es.flatMap fun e => e.2.map (e.1 :: ·)
theorem joinE_cons (v : Int) (S : List Row) (es : List (Int × List Row)) : joinE ((v, S) :: es) = S.map (v :: ·) ++ joinE es := by simp [joinE]

/-! ### rows of a folded thing -/
section
variable {N : Type}
abbrev Ent := Int × List Nat
abbrev Bun (N : Type) := N × List Ent
def ents (bs : List (Bun N)) (i : Nat) : List Ent := match bs[i]? with
  | some b => b.2
  | none => []
theorem ents_at {bs : List (Bun N)} {i : Nat} {c : N} {es : List Ent} (h : bs[i]? = some (c, es)) : ents bs i = es := by simp [ents, h]
/-- all rows of some parts together, along a forest -/
def rowsF (bs : List (Bun N)) : Fo N → List Nat → List Row
  | .nil, _ => [[]]
  | .cons _ k r, ps => prod ((ents bs (ps.headD 0)).flatMap fun e => (rowsF bs k e.2).map (e.1 :: ·)) (rowsF bs r ps.tail)
/-- the rows of a bunch -/
def rowsT (bs : List (Bun N)) (k : Fo N) (i : Nat) : List Row := (ents bs i).flatMap fun e => (rowsF bs k e.2).map (e.1 :: ·)
theorem rowsF_cons (bs : List (Bun N)) (c : N) (k r : Fo N) (p : Nat) (ps : List Nat) : rowsF bs (.cons c k r) (p :: ps) = prod (rowsT bs k p) (rowsF bs r ps) := rfl
def Rising (es : List Ent) : Prop := es.Pairwise fun a b => a.1 < b.1
/-- parts that lead, all the way down, to bunches of the forest's columns -/
def PartOk (bs : List (Bun N)) : Fo N → List Nat → Prop
  | .nil, ps => ps = []
  | .cons c k r, ps => ∃ p q es, ps = p :: q ∧ bs[p]? = some (c, es) ∧ Rising es ∧ (∀ e ∈ es, PartOk bs k e.2) ∧ PartOk bs r q
theorem PartOk.length {bs : List (Bun N)} : ∀ {F : Fo N} {ps : List Nat}, PartOk bs F ps → ps.length = F.tops.length
  | .nil, _, h => by rw [show _ = [] from h]; rfl
  | .cons c k r, _, ⟨p, q, es, e, _, _, _, h⟩ => by rw [e, List.length_cons, PartOk.length h]; rfl
/-- a node of a forest: a column and what stands beneath it -/
def Sub : Fo N → N → Fo N → Prop
  | .nil, _, _ => False
  | .cons a k r, c, j => (a = c ∧ k = j) ∨ Sub k c j ∨ Sub r c j
theorem Sub.mem : ∀ {F : Fo N} {c : N} {j : Fo N}, Sub F c j → c ∈ F.order
  | .nil, _, _, h => h.elim
  | .cons a k r, c, j, h => by
    simp only [Fo.order, List.mem_cons, List.mem_append]
    rcases h with ⟨e, _⟩ | h | h
    · exact .inl e.symm
    · exact .inr (.inl h.mem)
    · exact .inr (.inr h.mem)
theorem Sub.of_mem : ∀ {F : Fo N} {c : N}, c ∈ F.order → ∃ j, Sub F c j
  | .nil, _, h => by simp [Fo.order] at h
  | .cons a k r, c, h => by
    simp only [Fo.order, List.mem_cons, List.mem_append] at h
    rcases h with e | h | h
    · exact ⟨k, .inl ⟨e.symm, rfl⟩⟩
    · obtain ⟨j, q⟩ := Sub.of_mem h; exact ⟨j, .inr (.inl q)⟩
    · obtain ⟨j, q⟩ := Sub.of_mem h; exact ⟨j, .inr (.inr q)⟩
theorem Sub.one : ∀ {F : Fo N} {c : N} {j j' : Fo N}, F.order.Nodup → Sub F c j → Sub F c j' → j = j'
  | .nil, _, _, _, _, h, _ => h.elim
  | .cons a k r, c, j, j', nd, h, h' => by
    simp only [Fo.order, List.nodup_cons, List.mem_append, not_or, List.nodup_append] at nd
    obtain ⟨⟨n1, n2⟩, n3, n4, n5⟩ := nd
    rcases h with ⟨e, q⟩ | h | h
    · rcases h' with ⟨e', q'⟩ | h' | h'
      · rw [← q, ← q']
      · exact absurd (e ▸ h'.mem) n1
      · exact absurd (e ▸ h'.mem) n2
    · rcases h' with ⟨e', q'⟩ | h' | h'
      · exact absurd (e' ▸ h.mem) n1
      · exact Sub.one n3 h h'
      · exact absurd rfl (n5 _ h.mem _ h'.mem)
    · rcases h' with ⟨e', q'⟩ | h' | h'
      · exact absurd (e' ▸ h.mem) n2
      · exact absurd rfl (n5 _ h'.mem _ h.mem)
      · exact Sub.one n4 h h'
/-- what stands in a subforest stands in the forest -/
theorem Sub.trans : ∀ {F : Fo N} {c d : N} {j i : Fo N}, Sub F c j → Sub j d i → Sub F d i
  | .nil, _, _, _, _, h, _ => h.elim
  | .cons a k r, c, d, j, i, h, h' => by
    rcases h with ⟨_, q⟩ | h | h
    · rw [← q] at h'; exact .inr (.inl h')
    · exact .inr (.inl (Sub.trans h h'))
    · exact .inr (.inr (Sub.trans h h'))
theorem Sub.depth : ∀ {F : Fo N} {c : N} {j : Fo N}, Sub F c j → j.depth + 1 ≤ F.depth
  | .nil, _, _, h => h.elim
  | .cons a k r, c, j, h => by
    simp only [Fo.depth]
    rcases h with ⟨_, q⟩ | h | h
    · rw [← q]; omega
    · have := Sub.depth h; omega
    · have := Sub.depth h; omega
theorem Sub.order : ∀ {F : Fo N} {c : N} {j : Fo N}, Sub F c j → ∀ x ∈ j.order, x ∈ F.order
  | .nil, _, _, h, _, _ => h.elim
  | .cons a k r, c, j, h, x, hx => by
    simp only [Fo.order, List.mem_cons, List.mem_append]
    rcases h with ⟨_, q⟩ | h | h
    · rw [q]; exact .inr (.inl hx)
    · exact .inr (.inl (Sub.order h x hx))
    · exact .inr (.inr (Sub.order h x hx))
theorem Sub.nodup : ∀ {F : Fo N} {c : N} {j : Fo N}, F.order.Nodup → Sub F c j → (c :: j.order).Nodup
  | .nil, _, _, _, h => h.elim
  | .cons a k r, c, j, nd, h => by
    simp only [Fo.order, List.nodup_cons, List.mem_append, not_or, List.nodup_append] at nd
    obtain ⟨⟨n1, n2⟩, n3, n4, n5⟩ := nd
    rcases h with ⟨e, q⟩ | h | h
    · rw [← q, ← e]; exact List.nodup_cons.mpr ⟨n1, n3⟩
    · exact Sub.nodup n3 h
    · exact Sub.nodup n4 h
/-- a folded thing along a forest: every bunch is one of a column, its values rising, its parts lead on -/
def WF (F : Fo N) (bs : List (Bun N)) : Prop := ∀ b ∈ bs, ∃ k, Sub F b.1 k ∧ Rising b.2 ∧ ∀ e ∈ b.2, PartOk bs k e.2
end

/-! ### lists of rows that fold -/
section
variable {N : Type}
/-- the rows over a forest that fold, each part with rows -/
def Good : Fo N → List Row → Prop
  | .nil, S => S = [[]]
  | .cons _ k r, S => ∃ (es : List (Int × List Row)) (B : List Row), es ≠ [] ∧ es.Pairwise (fun a b => a.1 < b.1) ∧ (∀ e ∈ es, Good k e.2) ∧ Good r B ∧ S = prod (joinE es) B
/-- the rows of one tree -/
def GoodT (k : Fo N) (R : List Row) : Prop := ∃ es : List (Int × List Row), es ≠ [] ∧ es.Pairwise (fun a b => a.1 < b.1) ∧ (∀ e ∈ es, Good k e.2) ∧ R = joinE es
theorem good_cons {c : N} {k r : Fo N} {S : List Row} : Good (.cons c k r) S ↔ ∃ A B, GoodT k A ∧ Good r B ∧ S = prod A B := by
  constructor
  · rintro ⟨es, B, h1, h2, h3, h4, h5⟩; exact ⟨joinE es, B, ⟨es, h1, h2, h3, rfl⟩, h4, h5⟩
  · rintro ⟨A, B, ⟨es, h1, h2, h3, h6⟩, h4, h5⟩; exact ⟨es, B, h1, h2, h3, h4, by rw [h5, h6]⟩
theorem Good.ne : ∀ {F : Fo N} {S : List Row}, Good F S → S ≠ []
  | .nil, S, h => by rw [show S = [[]] from h]; simp
  | .cons c k r, S, h => by
    obtain ⟨es, B, h1, h2, h3, h4, h5⟩ := h
    rw [h5]
    intro q
    rcases prod_eq_nil.mp q with q | q
    · cases es with
      | nil => exact h1 rfl
      | cons e es =>
        obtain ⟨v, S'⟩ := e
        rw [joinE_cons] at q
        have := (List.append_eq_nil_iff.mp q).1
        exact Good.ne (h3 (v, S') (by simp)) (by simpa using this)
    · exact Good.ne h4 q
theorem GoodT.ne {k : Fo N} {R : List Row} (h : GoodT k R) : R ≠ [] := by
  obtain ⟨es, h1, h2, h3, rfl⟩ := h
  cases es with
  | nil => exact absurd rfl h1
  | cons e es =>
    obtain ⟨v, S'⟩ := e
    rw [joinE_cons]
    intro q
    have := (List.append_eq_nil_iff.mp q).1
    exact Good.ne (h3 (v, S') (by simp)) (by simpa using this)
theorem Good.width : ∀ {F : Fo N} {S : List Row}, Good F S → ∀ x ∈ S, x.length = F.width
  | .nil, S, h, x, hx => by rw [show S = [[]] from h] at hx; simp at hx; rw [hx]; rfl
  | .cons c k r, S, h, x, hx => by
    obtain ⟨es, B, h1, h2, h3, h4, h5⟩ := h
    rw [h5] at hx
    obtain ⟨a, ha, b, hb, rfl⟩ := mem_prod.mp hx
    simp only [joinE, List.mem_flatMap, List.mem_map] at ha
    obtain ⟨e, he, y, hy, rfl⟩ := ha
    have w1 := Good.width (h3 e he) y hy
    have w2 := Good.width h4 b hb
    simp only [Fo.width, List.length_append, List.length_cons, w1, w2]
    omega
theorem GoodT.width {k : Fo N} {R : List Row} (h : GoodT k R) : ∀ x ∈ R, x.length = k.width + 1 := by
  intro x hx
  obtain ⟨es, h1, h2, h3, rfl⟩ := h
  simp only [joinE, List.mem_flatMap, List.mem_map] at hx
  obtain ⟨e, he, y, hy, rfl⟩ := hx
  simp [Good.width (h3 e he) y hy]
/-! strictly in the order of lists -/
abbrev SortedR (S : List Row) : Prop := S.Pairwise (· < ·)
theorem lt_append_left (a x y : Row) (h : x < y) : a ++ x < a ++ y := by
  induction a with
  | nil => exact h
  | cons v a ih => exact List.cons_lt_cons_iff.mpr (.inr ⟨rfl, ih⟩)
theorem lt_append_of_lt : ∀ {a a' : Row} (x y : Row), a.length = a'.length → a < a' → a ++ x < a' ++ y
  | [], [], _, _, _, h => absurd h (List.lt_irrefl _)
  | [], _ :: _, _, _, hl, _ => by simp at hl
  | _ :: _, [], _, _, hl, _ => by simp at hl
  | v :: a, v' :: a', x, y, hl, h => by
    rcases List.cons_lt_cons_iff.mp h with h | ⟨e, h⟩
    · exact List.cons_lt_cons_iff.mpr (.inl h)
    · exact List.cons_lt_cons_iff.mpr (.inr ⟨e, lt_append_of_lt x y (by simpa using hl) h⟩)
theorem prod_sorted {A B : List Row} {n : Nat} (hA : SortedR A) (hB : SortedR B) (hn : ∀ a ∈ A, a.length = n) : SortedR (prod A B) := by
  induction A with
  | nil => exact List.Pairwise.nil
  | cons a A ih =>
    rw [prod_cons]
    obtain ⟨h1, h2⟩ := List.pairwise_cons.mp hA
    refine List.pairwise_append.mpr ⟨?_, ih h2 fun x hx => hn x (List.mem_cons_of_mem _ hx), ?_⟩
    · rw [List.pairwise_map]
      exact hB.imp fun h => lt_append_left a _ _ h
    · intro x hx y hy
      obtain ⟨b, hb, rfl⟩ := List.mem_map.mp hx
      obtain ⟨a', ha', b', hb', rfl⟩ := mem_prod.mp hy
      exact lt_append_of_lt _ _ (by rw [hn a (by simp), hn a' (by simp [ha'])]) (h1 a' ha')
theorem joinE_sorted {es : List (Int × List Row)} (h : es.Pairwise fun a b => a.1 < b.1) (hs : ∀ e ∈ es, SortedR e.2) : SortedR (joinE es) := by
  induction es with
  | nil => exact List.Pairwise.nil
  | cons e es ih =>
    obtain ⟨v, S⟩ := e
    rw [joinE_cons]
    obtain ⟨h1, h2⟩ := List.pairwise_cons.mp h
    refine List.pairwise_append.mpr ⟨?_, ih h2 fun x hx => hs x (List.mem_cons_of_mem _ hx), ?_⟩
    · rw [List.pairwise_map]
      exact (hs (v, S) (by simp)).imp fun h => List.cons_lt_cons_iff.mpr (.inr ⟨rfl, h⟩)
    · intro x hx y hy
      obtain ⟨b, hb, rfl⟩ := List.mem_map.mp hx
      simp only [joinE, List.mem_flatMap, List.mem_map] at hy
      obtain ⟨e, he, y', hy', rfl⟩ := hy
      exact List.cons_lt_cons_iff.mpr (.inl (h1 e he))
theorem Good.sorted : ∀ {F : Fo N} {S : List Row}, Good F S → SortedR S
  | .nil, S, h => by rw [show S = [[]] from h]; exact List.pairwise_singleton _ _
  | .cons c k r, S, h => by
    obtain ⟨es, B, h1, h2, h3, h4, h5⟩ := h
    rw [h5]
    refine prod_sorted (n := k.width + 1) (joinE_sorted h2 fun e he => Good.sorted (h3 e he)) (Good.sorted h4) ?_
    exact GoodT.width ⟨es, h1, h2, h3, rfl⟩
theorem GoodT.sorted {k : Fo N} {R : List Row} (h : GoodT k R) : SortedR R := by
  obtain ⟨es, h1, h2, h3, rfl⟩ := h
  exact joinE_sorted h2 fun e he => (h3 e he).sorted
theorem SortedR.nodup {S : List Row} (h : SortedR S) : S.Nodup := List.Pairwise.imp (fun {a b} (h : a < b) (e : a = b) => List.lt_irrefl b (e ▸ h)) h
/-- two lists strictly in order with the same members are one -/
theorem sorted_one : ∀ {S T : List Row}, SortedR S → SortedR T → (∀ x, x ∈ S ↔ x ∈ T) → S = T
  | [], [], _, _, _ => rfl
  | [], y :: T, _, _, h => by have := (h y).mpr (by simp); simp at this
  | x :: S, [], _, _, h => by have := (h x).mp (by simp); simp at this
  | x :: S, y :: T, hS, hT, h => by
    obtain ⟨s1, s2⟩ := List.pairwise_cons.mp hS
    obtain ⟨t1, t2⟩ := List.pairwise_cons.mp hT
    have e : x = y := by
      rcases List.mem_cons.mp ((h x).mp (by simp)) with q | q
      · exact q
      · rcases List.mem_cons.mp ((h y).mpr (by simp)) with p | p
        · exact p.symm
        · exact absurd (List.lt_trans (t1 x q) (s1 y p)) (List.lt_irrefl _)
    subst e
    rw [sorted_one s2 t2 fun z => ?_]
    constructor
    · intro hz
      rcases List.mem_cons.mp ((h z).mp (List.mem_cons_of_mem _ hz)) with q | q
      · rw [q] at hz; exact absurd (s1 x hz) (List.lt_irrefl _)
      · exact q
    · intro hz
      rcases List.mem_cons.mp ((h z).mpr (List.mem_cons_of_mem _ hz)) with q | q
      · rw [q] at hz; exact absurd (t1 x hz) (List.lt_irrefl _)
      · exact q
end
/-! ### rows of a folded thing: none, or good -/
section
variable {N : Type}
/-- the entries with rows, each with the rows of its parts -/
def aliveR (bs : List (Bun N)) (k : Fo N) (es : List Ent) : List (Int × List Row) := (es.map fun e => (e.1, rowsF bs k e.2)).filter fun e => !e.2.isEmpty
theorem joinE_alive (bs : List (Bun N)) (k : Fo N) (es : List Ent) : (es.flatMap fun e => (rowsF bs k e.2).map (e.1 :: ·)) = joinE (aliveR bs k es) := by
  induction es with
  | nil => rfl
  | cons e es ih =>
    rw [List.flatMap_cons, ih]
    unfold aliveR
    rw [List.map_cons, List.filter_cons]
    cases q : rowsF bs k e.2 with
    | nil => simp
    | cons x X => simp [joinE]
theorem alive_rising (bs : List (Bun N)) (k : Fo N) {es : List Ent} (h : Rising es) : (aliveR bs k es).Pairwise fun a b => a.1 < b.1 := by
  unfold aliveR
  refine List.Pairwise.filter _ ?_
  rw [List.pairwise_map]
  exact h
theorem rows_good (bs : List (Bun N)) : ∀ {F : Fo N} {ps : List Nat}, PartOk bs F ps → rowsF bs F ps = [] ∨ Good F (rowsF bs F ps)
  | .nil, ps, h => .inr rfl
  | .cons c k r, ps, h => by
    obtain ⟨p, q, es, rfl, h1, h2, h3, h4⟩ := h
    rw [rowsF_cons]
    unfold rowsT
    rw [ents_at h1, joinE_alive]
    rcases rows_good bs h4 with e | g
    · exact .inl (prod_eq_nil.mpr (.inr e))
    · by_cases z : aliveR bs k es = []
      · exact .inl (by rw [z]; rfl)
      · refine .inr ⟨_, _, z, alive_rising bs k h2, fun e he => ?_, g, rfl⟩
        unfold aliveR at he
        rw [List.mem_filter, List.mem_map] at he
        obtain ⟨⟨e', he', rfl⟩, hne⟩ := he
        rcases rows_good bs (h3 e' he') with z | g
        · rw [z] at hne; simp at hne
        · exact g
theorem rowsT_good (bs : List (Bun N)) {k : Fo N} {i : Nat} {c : N} {es : List Ent} (h1 : bs[i]? = some (c, es)) (h2 : Rising es) (h3 : ∀ e ∈ es, PartOk bs k e.2) : rowsT bs k i = [] ∨ GoodT k (rowsT bs k i) := by
  have h : PartOk bs (.cons c k .nil) [i] := ⟨i, [], es, rfl, h1, h2, h3, rfl⟩
  rcases rows_good bs h with e | g
  · rw [rowsF_cons, show rowsF bs (.nil : Fo N) [] = [[]] from rfl, prod_one_right] at e; exact .inl e
  · rw [rowsF_cons, show rowsF bs (.nil : Fo N) [] = [[]] from rfl, prod_one_right] at g
    obtain ⟨A, B, g1, g2, g3⟩ := good_cons.mp g
    rw [show B = [[]] from g2, prod_one_right] at g3
    rw [g3]; exact .inr g1
end
end Fb

namespace Fb
/-! ### first occurrences -/
section
variable {α β : Type} [DecidableEq α]
def dd : List α → List α
  | [] => []
  | a :: l => a :: (dd l).filter fun b => decide (b ≠ a)
theorem mem_dd {x : α} : ∀ {l : List α}, x ∈ dd l ↔ x ∈ l
  | [] => Iff.rfl
  | a :: l => by
    simp only [dd, List.mem_cons, List.mem_filter, mem_dd (l := l), decide_eq_true_eq]
    by_cases h : x = a <;> simp [h]
theorem nodup_dd : ∀ l : List α, (dd l).Nodup
  | [] => List.nodup_nil
  | a :: l => by
    simp only [dd, List.nodup_cons, List.mem_filter]
    exact ⟨fun h => by simp at h, (nodup_dd l).filter _⟩
theorem dd_of_nodup : ∀ {l : List α}, l.Nodup → dd l = l
  | [], _ => rfl
  | a :: l, h => by
    obtain ⟨h1, h2⟩ := List.nodup_cons.mp h
    rw [dd, dd_of_nodup h2, List.filter_eq_self.mpr]
    intro b hb
    exact decide_eq_true fun e => h1 (e ▸ hb)
theorem dd_append : ∀ l m : List α, dd (l ++ m) = dd l ++ (dd m).filter fun x => decide (x ∉ l)
  | [], m => by
    rw [List.nil_append, List.filter_eq_self.mpr]
    · rfl
    · intro x _; simp
  | a :: l, m => by
    rw [List.cons_append, dd, dd_append l m, dd, List.filter_append, List.filter_filter, List.cons_append]
    congr 2
    apply List.filter_congr
    intro x _
    by_cases h1 : x = a <;> by_cases h2 : x ∈ l <;> simp [h1, h2]
theorem dd_append_sub {l m : List α} (h : ∀ x ∈ m, x ∈ l) : dd (l ++ m) = dd l := by
  rw [dd_append, List.filter_eq_nil_iff.mpr, List.append_nil]
  intro x hx
  simp [h x (mem_dd.mp hx)]
theorem dd_const {a : α} : ∀ {l : List α}, l ≠ [] → (∀ x ∈ l, x = a) → dd l = [a]
  | [], h, _ => absurd rfl h
  | b :: l, _, h => by
    have hb : b = a := h b (by simp)
    rw [dd, hb, List.filter_eq_nil_iff.mpr]
    intro x hx
    simp [h x (List.mem_cons_of_mem _ (mem_dd.mp hx))]
theorem dd_length_le : ∀ l : List α, (dd l).length ≤ l.length
  | [] => Nat.le_refl _
  | a :: l => by
    have h1 := dd_length_le l
    have h2 := List.length_filter_le (fun b => decide (b ≠ a)) (dd l)
    simp only [dd, List.length_cons]; omega
theorem dd_eq_nil {l : List α} : dd l = [] ↔ l = [] := by cases l <;> simp [dd]
/-- groups that follow one another -/
theorem dd_groups {γ : Type} (g : γ → α) (f : γ → List β) : ∀ {l : List γ}, (l.map g).Nodup → (∀ x ∈ l, f x ≠ []) → dd (l.flatMap fun x => (f x).map fun _ => g x) = l.map g
  | [], _, _ => rfl
  | x :: l, h, hf => by
    rw [List.map_cons, List.nodup_cons] at h
    rw [List.flatMap_cons, dd_append, dd_groups g f h.2 fun y hy => hf y (List.mem_cons_of_mem _ hy), dd_const (a := g x) (by simpa using hf x (by simp)) (by simp), List.filter_eq_self.mpr]
    · rfl
    · intro y hy
      refine decide_eq_true fun q => h.1 ?_
      obtain ⟨_, _, e⟩ := List.mem_map.mp q
      rw [e]; exact hy
/-- the same over and over -/
theorem dd_again {γ : Type} (B : List α) : ∀ {l : List γ}, l ≠ [] → dd (l.flatMap fun _ => B) = dd B
  | [], h => absurd rfl h
  | x :: l, _ => by
    rw [List.flatMap_cons]
    exact dd_append_sub fun y hy => by
      obtain ⟨_, _, h⟩ := List.mem_flatMap.mp hy
      exact h
end
/-! ### keys: a column, what stands beneath it, rows -/
structure KeyS (N : Type) where
  c : N
  k : Fo N
  R : List Row
  deriving DecidableEq
def heads (R : List Row) : List Int := dd (R.map fun x => x.headD 0)
def restOf (v : Int) (R : List Row) : List Row := (R.filter fun x => decide (x.headD 0 = v)).map List.tail
def segs (w : Nat) (S : List Row) : List Row := dd (S.map fun x => x.take w)
section
variable {N : Type}
def Fo.trees : Fo N → List (N × Fo N)
  | .nil => []
  | .cons c k r => (c, k) :: r.trees
theorem Fo.trees_sub : ∀ {F : Fo N} {c : N} {k : Fo N}, (c, k) ∈ F.trees → Sub F c k
  | .nil, _, _, h => by simp [Fo.trees] at h
  | .cons a j r, c, k, h => by
    rcases List.mem_cons.mp h with e | h
    · cases e; exact .inl ⟨rfl, rfl⟩
    · exact .inr (.inr (Fo.trees_sub h))
theorem Fo.trees_tops : ∀ F : Fo N, F.trees.map (·.1) = F.tops
  | .nil => rfl
  | .cons a j r => by simp [Fo.trees, Fo.tops, Fo.trees_tops r]
theorem Fo.trees_depth : ∀ {F : Fo N} {c : N} {k : Fo N}, (c, k) ∈ F.trees → k.depth + 1 ≤ F.depth
  | .nil, _, _, h => by simp [Fo.trees] at h
  | .cons a j r, c, k, h => by
    simp only [Fo.depth]
    rcases List.mem_cons.mp h with e | h
    · cases e; omega
    · have := Fo.trees_depth h; omega
/-- the keys of the parts of some rows along a forest -/
def parts : Fo N → List Row → List (KeyS N)
  | .nil, _ => []
  | .cons c k r, S => ⟨c, k, segs (k.width + 1) S⟩ :: parts r (S.map fun x => x.drop (k.width + 1))
def ent (K : KeyS N) : List (Int × List (KeyS N)) := (heads K.R).map fun v => (v, parts K.k (restOf v K.R))
def GoodK (K : KeyS N) : Prop := GoodT K.k K.R
theorem parts_again {γ : Type} : ∀ (F : Fo N) (B : List Row) {l : List γ}, l ≠ [] → parts F (l.flatMap fun _ => B) = parts F B
  | .nil, _, _, _ => rfl
  | .cons c k r, B, l, h => by
    have e1 : ∀ f : Row → Row, (l.flatMap fun _ => B).map f = l.flatMap fun _ => B.map f := fun f => by rw [List.map_flatMap]
    simp only [parts, segs, e1]
    rw [dd_again _ h, parts_again r _ h]
theorem prod_take {A B : List Row} {n : Nat} (hA : ∀ a ∈ A, a.length = n) (f : Row → Row) (hf : ∀ a b : Row, a.length = n → f (a ++ b) = a) : (prod A B).map f = A.flatMap fun a => B.map fun _ => a := by
  unfold prod
  rw [List.map_flatMap]
  induction A with
  | nil => rfl
  | cons a A ih =>
    rw [List.flatMap_cons, List.flatMap_cons, ih fun x hx => hA x (List.mem_cons_of_mem _ hx), List.map_map]
    congr 1
    apply List.map_congr_left
    intro b _
    exact hf a b (hA a (by simp))
theorem prod_drop {A B : List Row} {n : Nat} (hA : ∀ a ∈ A, a.length = n) (f : Row → Row) (hf : ∀ a b : Row, a.length = n → f (a ++ b) = b) : (prod A B).map f = A.flatMap fun _ => B := by
  unfold prod
  rw [List.map_flatMap]
  induction A with
  | nil => rfl
  | cons a A ih =>
    rw [List.flatMap_cons, List.flatMap_cons, ih fun x hx => hA x (List.mem_cons_of_mem _ hx), List.map_map]
    congr 1
    conv => rhs; rw [← List.map_id B]
    apply List.map_congr_left
    intro b _
    exact hf a b (hA a (by simp))
theorem segs_prod {k : Fo N} {A B : List Row} (hA : GoodT k A) (hB : B ≠ []) : segs (k.width + 1) (prod A B) = A := by
  unfold segs
  rw [prod_take (n := k.width + 1) hA.width _ fun a b h => by rw [← h]; simp]
  have := dd_groups (fun a : Row => a) (fun _ => B) (l := A) (by simpa using hA.sorted.nodup) (fun _ _ => hB)
  simpa using this
theorem parts_cons {c : N} {k r : Fo N} {A B : List Row} (hA : GoodT k A) (hB : Good r B) : parts (.cons c k r) (prod A B) = ⟨c, k, A⟩ :: parts r B := by
  simp only [parts]
  rw [segs_prod hA hB.ne, prod_drop (n := k.width + 1) hA.width _ fun a b h => by rw [← h]; simp, parts_again r B hA.ne]
/-- what the parts are: tops with good rows, whose product is all -/
theorem parts_ok : ∀ {F : Fo N} {S : List Row}, Good F S → (∀ K ∈ parts F S, (K.c, K.k) ∈ F.trees ∧ GoodK K) ∧ ((parts F S).map KeyS.R).foldr prod [[]] = S
  | .nil, S, h => by rw [show S = [[]] from h]; exact ⟨fun K hK => by simp [parts] at hK, rfl⟩
  | .cons c k r, S, h => by
    obtain ⟨A, B, hA, hB, rfl⟩ := good_cons.mp h
    obtain ⟨i1, i2⟩ := parts_ok hB
    rw [parts_cons hA hB]
    refine ⟨fun K hK => ?_, by rw [List.map_cons, List.foldr_cons, i2]⟩
    rcases List.mem_cons.mp hK with e | hK
    · rw [e]; exact ⟨List.mem_cons_self, hA⟩
    · exact ⟨List.mem_cons_of_mem _ (i1 K hK).1, (i1 K hK).2⟩
theorem parts_tops : ∀ (F : Fo N) (S : List Row), (parts F S).map (fun K => (K.c, K.k)) = F.trees
  | .nil, _ => rfl
  | .cons c k r, S => by simp [parts, Fo.trees, parts_tops r]
theorem heads_join {es : List (Int × List Row)} (h : es.Pairwise fun a b => a.1 < b.1) (hs : ∀ e ∈ es, e.2 ≠ []) : heads (joinE es) = es.map (·.1) := by
  unfold heads joinE
  rw [List.map_flatMap]
  have := dd_groups (fun e : Int × List Row => e.1) (fun e => e.2) (l := es) (List.pairwise_map.mpr (h.imp fun h => Int.ne_of_lt h)) hs
  rw [← this]
  simp only [List.map_map]
  rfl
theorem filter_join_none {v : Int} {es : List (Int × List Row)} (h : ∀ e ∈ es, e.1 ≠ v) : (joinE es).filter (fun x => decide (x.headD 0 = v)) = [] := by
  refine List.filter_eq_nil_iff.mpr fun x hx => ?_
  simp only [joinE, List.mem_flatMap, List.mem_map] at hx
  obtain ⟨e, he, y, hy, rfl⟩ := hx
  simp [h e he]
theorem rest_join {es : List (Int × List Row)} (h : es.Pairwise fun a b => a.1 < b.1) {e : Int × List Row} (he : e ∈ es) : restOf e.1 (joinE es) = e.2 := by
  unfold restOf
  induction es with
  | nil => simp at he
  | cons d es ih =>
    obtain ⟨v, S⟩ := d
    obtain ⟨h1, h2⟩ := List.pairwise_cons.mp h
    rw [joinE_cons, List.filter_append, List.map_append]
    rcases List.mem_cons.mp he with q | he
    · subst q
      rw [filter_join_none fun d hd => Int.ne_of_gt (h1 d hd), List.filter_eq_self.mpr]
      · rw [List.map_map, List.map_nil, List.append_nil]
        conv => rhs; rw [← List.map_id S]
        rfl
      · intro x hx
        obtain ⟨y, _, rfl⟩ := List.mem_map.mp hx
        simp
    · rw [ih h2 he, List.filter_eq_nil_iff.mpr]
      · rfl
      · intro x hx
        obtain ⟨y, _, rfl⟩ := List.mem_map.mp hx
        have h1' : v < e.1 := h1 e he
        have : ¬ v = e.1 := by omega
        simp [this]
theorem ent_join {c : N} {k : Fo N} {es : List (Int × List Row)} (h : es.Pairwise fun a b => a.1 < b.1) (hs : ∀ e ∈ es, Good k e.2) : ent ⟨c, k, joinE es⟩ = es.map fun e => (e.1, parts k e.2) := by
  unfold ent
  simp only
  rw [heads_join h fun e he => (hs e he).ne, List.map_map]
  apply List.map_congr_left
  intro e he
  simp only [Function.comp]
  rw [rest_join h he]
/-- from the entries back to the rows -/
theorem join_ent {K : KeyS N} (h : GoodK K) : joinE ((ent K).map fun e => (e.1, (e.2.map KeyS.R).foldr prod [[]])) = K.R := by
  obtain ⟨c, k, R⟩ := K
  obtain ⟨es, h1, h2, h3, e⟩ := h
  simp only at e
  subst e
  rw [ent_join h2 h3, List.map_map]
  congr 1
  conv => rhs; rw [← List.map_id es]
  apply List.map_congr_left
  intro e he
  simp only [Function.comp, id]
  rw [(parts_ok (h3 e he)).2]
theorem ent_inj {K K' : KeyS N} (h : GoodK K) (h' : GoodK K') (e : ent K = ent K') : K.R = K'.R := by rw [← join_ent h, ← join_ent h', e]
theorem ent_ne {K : KeyS N} (h : GoodK K) : ent K ≠ [] := by
  obtain ⟨c, k, R⟩ := K
  obtain ⟨es, h1, h2, h3, e⟩ := h
  simp only at e
  subst e
  rw [ent_join h2 h3]
  simpa using h1
theorem ent_rising {K : KeyS N} (h : GoodK K) : (ent K).Pairwise fun a b => a.1 < b.1 := by
  obtain ⟨c, k, R⟩ := K
  obtain ⟨es, h1, h2, h3, e⟩ := h
  simp only at e
  subst e
  rw [ent_join h2 h3, List.pairwise_map]
  exact h2
/-- the children of a good key -/
theorem ent_ok {K : KeyS N} (h : GoodK K) {e : Int × List (KeyS N)} (he : e ∈ ent K) : ∃ S, Good K.k S ∧ e.2 = parts K.k S := by
  obtain ⟨c, k, R⟩ := K
  obtain ⟨es, h1, h2, h3, q⟩ := h
  simp only at q
  subst q
  rw [ent_join h2 h3] at he
  obtain ⟨d, hd, rfl⟩ := List.mem_map.mp he
  exact ⟨d.2, h3 d hd, rfl⟩
theorem ent_child {K : KeyS N} (h : GoodK K) {e : Int × List (KeyS N)} (he : e ∈ ent K) {K' : KeyS N} (hK : K' ∈ e.2) : (K'.c, K'.k) ∈ K.k.trees ∧ GoodK K' := by
  obtain ⟨S, g, q⟩ := ent_ok h he
  rw [q] at hK
  exact (parts_ok g).1 K' hK
end
end Fb

namespace Fb
/-! ### places in a list -/
section
variable {α β : Type} [DecidableEq α]
def ix (l : List α) (a : α) : Nat := l.idxOf a
theorem ix_lt {l : List α} {a : α} (h : a ∈ l) : ix l a < l.length := List.idxOf_lt_length_iff.mpr h
theorem ix_get {l : List α} {a : α} (h : a ∈ l) : l[ix l a]? = some a := by
  rw [List.getElem?_eq_getElem (ix_lt h)]
  exact congrArg some (List.getElem_idxOf (ix_lt h))
theorem ix_inj {l : List α} {a b : α} (ha : a ∈ l) (hb : b ∈ l) (e : ix l a = ix l b) : a = b := by
  have h1 := ix_get ha
  rw [e, ix_get hb] at h1
  exact (Option.some.inj h1).symm
theorem ix_append {l m : List α} {a : α} (h : a ∈ l) : ix (l ++ m) a = ix l a := by
  unfold ix
  rw [List.idxOf_append, if_pos h]
theorem ix_new {l : List α} {a : α} (h : a ∉ l) : ix (l ++ [a]) a = l.length := by
  unfold ix
  rw [List.idxOf_append, if_neg h]
  simp
theorem ix_of_get {l : List α} (h : l.Nodup) {i : Nat} {a : α} (e : l[i]? = some a) : ix l a = i := by
  obtain ⟨h1, rfl⟩ := List.getElem?_eq_some_iff.mp e
  exact h.idxOf_getElem i h1
theorem map_ix_inj {l : List α} : ∀ {xs ys : List α}, (∀ x ∈ xs, x ∈ l) → (∀ y ∈ ys, y ∈ l) → xs.map (ix l) = ys.map (ix l) → xs = ys
  | [], [], _, _, _ => rfl
  | [], _ :: _, _, _, e => by simp at e
  | _ :: _, [], _, _, e => by simp at e
  | x :: xs, y :: ys, h1, h2, e => by
    rw [List.map_cons, List.map_cons, List.cons.injEq] at e
    rw [ix_inj (h1 x (by simp)) (h2 y (by simp)) e.1, map_ix_inj (fun z hz => h1 z (List.mem_cons_of_mem _ hz)) (fun z hz => h2 z (List.mem_cons_of_mem _ hz)) e.2]
end
section
variable {N : Type} [DecidableEq N]
/-! ### going through the keys -/
def visS : Nat → KeyS N → List (KeyS N) → List (KeyS N)
  | 0, _, o => o
  | n + 1, K, o => if K ∈ o then o else (ent K).foldl (fun o e => e.2.foldl (fun o K' => visS n K' o) o) (o ++ [K])
def visL (n : Nat) (Ks : List (KeyS N)) (o : List (KeyS N)) : List (KeyS N) := Ks.foldl (fun o K => visS n K o) o
def kids (K : KeyS N) : List (KeyS N) := (ent K).flatMap (·.2)
theorem visE_eq (n : Nat) : ∀ (es : List (Int × List (KeyS N))) (o : List (KeyS N)), es.foldl (fun o e => e.2.foldl (fun o K' => visS n K' o) o) o = visL n (es.flatMap (·.2)) o
  | [], o => rfl
  | e :: es, o => by
    rw [List.foldl_cons, visE_eq n es, List.flatMap_cons]
    unfold visL
    rw [List.foldl_append]
theorem visS_succ (n : Nat) (K : KeyS N) (o : List (KeyS N)) : visS (n + 1) K o = if K ∈ o then o else visL n (kids K) (o ++ [K]) := by
  rw [visS, visE_eq]; rfl
theorem visL_cons (n : Nat) (K : KeyS N) (Ks o : List (KeyS N)) : visL n (K :: Ks) o = visL n Ks (visS n K o) := rfl
/-- what holds of all keys met -/
theorem visS_all {P : KeyS N → Prop} (hk : ∀ K, P K → ∀ K' ∈ kids K, P K') : ∀ (n : Nat), (∀ (K : KeyS N) (o : List (KeyS N)), P K → (∀ x ∈ o, P x) → ∀ x ∈ visS n K o, P x) ∧ ∀ (Ks o : List (KeyS N)), (∀ x ∈ Ks, P x) → (∀ x ∈ o, P x) → ∀ x ∈ visL n Ks o, P x
  | 0 => by
    have h0 : ∀ (Ks o : List (KeyS N)), visL 0 Ks o = o := fun Ks => by
      induction Ks with
      | nil => intro o; rfl
      | cons K Ks ih => intro o; rw [visL_cons, ih]; rfl
    exact ⟨fun _ _ _ h => h, fun Ks o _ h => by rw [h0]; exact h⟩
  | n + 1 => by
    have ih := (visS_all hk n).2
    have h1 : ∀ (K : KeyS N) (o : List (KeyS N)), P K → (∀ x ∈ o, P x) → ∀ x ∈ visS (n + 1) K o, P x := fun K o hK ho => by
      rw [visS_succ]
      split
      · exact ho
      · refine ih _ _ (hk K hK) fun x hx => ?_
        rcases List.mem_append.mp hx with q | q
        · exact ho x q
        · rw [List.mem_singleton.mp q]; exact hK
    refine ⟨h1, fun Ks => ?_⟩
    induction Ks with
    | nil => intro o _ h; exact h
    | cons K Ks ih2 =>
      intro o h1' h2
      rw [visL_cons]
      exact ih2 _ (fun x hx => h1' x (List.mem_cons_of_mem _ hx)) (h1 K o (h1' K (by simp)) h2)
theorem visS_nodup : ∀ (n : Nat), (∀ (K : KeyS N) (o : List (KeyS N)), o.Nodup → (visS n K o).Nodup) ∧ ∀ (Ks o : List (KeyS N)), o.Nodup → (visL n Ks o).Nodup
  | 0 => by
    have h0 : ∀ (Ks o : List (KeyS N)), visL 0 Ks o = o := fun Ks => by
      induction Ks with
      | nil => intro o; rfl
      | cons K Ks ih => intro o; rw [visL_cons, ih]; rfl
    exact ⟨fun _ _ h => h, fun Ks o h => by rw [h0]; exact h⟩
  | n + 1 => by
    have ih := (visS_nodup n).2
    have h1 : ∀ (K : KeyS N) (o : List (KeyS N)), o.Nodup → (visS (n + 1) K o).Nodup := fun K o ho => by
      rw [visS_succ]
      split
      · exact ho
      · rename_i hK
        refine ih _ _ (List.nodup_append.mpr ⟨ho, by simp, fun a ha b hb e => hK ?_⟩)
        rw [← List.mem_singleton.mp hb, ← e]; exact ha
    refine ⟨h1, fun Ks => ?_⟩
    induction Ks with
    | nil => intro o h; exact h
    | cons K Ks ih2 => intro o h; rw [visL_cons]; exact ih2 _ (h1 K o h)
theorem visS_mono : ∀ (n : Nat), (∀ (K : KeyS N) (o : List (KeyS N)), ∀ x ∈ o, x ∈ visS n K o) ∧ ∀ (Ks o : List (KeyS N)), ∀ x ∈ o, x ∈ visL n Ks o
  | 0 => by
    have h0 : ∀ (Ks o : List (KeyS N)), visL 0 Ks o = o := fun Ks => by
      induction Ks with
      | nil => intro o; rfl
      | cons K Ks ih => intro o; rw [visL_cons, ih]; rfl
    exact ⟨fun _ _ _ h => h, fun Ks o x h => by rw [h0]; exact h⟩
  | n + 1 => by
    have ih := (visS_mono n).2
    have h1 : ∀ (K : KeyS N) (o : List (KeyS N)), ∀ x ∈ o, x ∈ visS (n + 1) K o := fun K o x hx => by
      rw [visS_succ]
      split
      · exact hx
      · exact ih _ _ x (List.mem_append_left _ hx)
    refine ⟨h1, fun Ks => ?_⟩
    induction Ks with
    | nil => intro o x h; exact h
    | cons K Ks ih2 => intro o x h; rw [visL_cons]; exact ih2 _ x (h1 K o x h)
/-- good, and of little depth -/
def Low (n : Nat) (K : KeyS N) : Prop := GoodK K ∧ K.k.depth < n
theorem Low.kids {n : Nat} {K : KeyS N} (h : Low (n + 1) K) : ∀ K' ∈ kids K, Low n K' := fun K' hK => by
  obtain ⟨e, he, hK⟩ := List.mem_flatMap.mp hK
  obtain ⟨h1, h2⟩ := ent_child h.1 he hK
  have := Fo.trees_depth h1
  exact ⟨h2, by have := h.2; omega⟩
/-- all is met that comes of what is met -/
theorem visS_closed : ∀ (n : Nat), (∀ (K : KeyS N) (o : List (KeyS N)), Low n K → K ∈ visS n K o ∧ ∀ x ∈ visS n K o, x ∈ o ∨ ∀ y ∈ kids x, y ∈ visS n K o) ∧
    ∀ (Ks o : List (KeyS N)), (∀ K ∈ Ks, Low n K) → (∀ K ∈ Ks, K ∈ visL n Ks o) ∧ ∀ x ∈ visL n Ks o, x ∈ o ∨ ∀ y ∈ kids x, y ∈ visL n Ks o
  | 0 => by
    refine ⟨fun K o h => absurd h.2 (Nat.not_lt_zero _), fun Ks o h => ?_⟩
    cases Ks with
    | nil => exact ⟨fun K hK => by simp at hK, fun x hx => .inl hx⟩
    | cons K Ks => exact absurd (h K (by simp)).2 (Nat.not_lt_zero _)
  | n + 1 => by
    have ih := (visS_closed n).2
    have h1 : ∀ (K : KeyS N) (o : List (KeyS N)), Low (n + 1) K → K ∈ visS (n + 1) K o ∧ ∀ x ∈ visS (n + 1) K o, x ∈ o ∨ ∀ y ∈ kids x, y ∈ visS (n + 1) K o := fun K o hK => by
      rw [visS_succ]
      split
      · rename_i h; exact ⟨h, fun x hx => .inl hx⟩
      · obtain ⟨a, b⟩ := ih (kids K) (o ++ [K]) hK.kids
        refine ⟨(visS_mono n).2 _ _ K (by simp), fun x hx => ?_⟩
        rcases b x hx with q | q
        · rcases List.mem_append.mp q with q | q
          · exact .inl q
          · rw [List.mem_singleton.mp q]; exact .inr a
        · exact .inr q
    refine ⟨h1, fun Ks => ?_⟩
    induction Ks with
    | nil => intro o _; exact ⟨fun K hK => by simp at hK, fun x hx => .inl hx⟩
    | cons K Ks ih2 =>
      intro o h
      rw [visL_cons]
      obtain ⟨a, b⟩ := h1 K o (h K (by simp))
      obtain ⟨c, d⟩ := ih2 (visS (n + 1) K o) fun x hx => h x (List.mem_cons_of_mem _ hx)
      refine ⟨fun x hx => ?_, fun x hx => ?_⟩
      · rcases List.mem_cons.mp hx with q | q
        · rw [q]; exact (visS_mono (n + 1)).2 _ _ _ a
        · exact c x q
      · rcases d x hx with q | q
        · rcases b x q with q | q
          · exact .inl q
          · exact .inr fun y hy => (visS_mono (n + 1)).2 _ _ _ (q y hy)
        · exact .inr q
/-! ### the least folded thing of some rows -/
def ordOf (n : Nat) (F : Fo N) (S : List Row) : List (KeyS N) := visL n (parts F S) []
def bunOf (o : List (KeyS N)) (K : KeyS N) : Bun N := (K.c, (ent K).map fun e => (e.1, e.2.map (ix o)))
def bunsOf (o : List (KeyS N)) : List (Bun N) := o.map (bunOf o)
/-- bunches and tops -/
def canon (n : Nat) (F : Fo N) (S : List Row) : List (Bun N) × Option (List Nat) :=
  if S = [] then ([], none) else (bunsOf (ordOf n F S), some ((parts F S).map (ix (ordOf n F S))))
/-- a list of keys that holds all that comes of it -/
structure Whole (n : Nat) (o : List (KeyS N)) : Prop where
  nd : o.Nodup
  low : ∀ K ∈ o, Low n K
  kids : ∀ K ∈ o, ∀ y ∈ kids K, y ∈ o
theorem ord_whole {n : Nat} {F : Fo N} {S : List Row} (h : Good F S) (hn : F.depth ≤ n) : Whole n (ordOf n F S) ∧ ∀ K ∈ parts F S, K ∈ ordOf n F S := by
  have hl : ∀ K ∈ parts F S, Low n K := fun K hK => by
    obtain ⟨h1, h2⟩ := (parts_ok h).1 K hK
    exact ⟨h2, by have := Fo.trees_depth h1; omega⟩
  obtain ⟨a, b⟩ := (visS_closed n).2 (parts F S) [] hl
  refine ⟨⟨(visS_nodup n).2 _ _ List.nodup_nil, ?_, fun K hK => ?_⟩, a⟩
  · refine (visS_all (P := Low n) (fun K hK K' hk => ?_) n).2 _ _ hl (fun x hx => by simp at hx)
    obtain ⟨e, he, hk⟩ := List.mem_flatMap.mp hk
    obtain ⟨h1, h2⟩ := ent_child hK.1 he hk
    have := Fo.trees_depth h1
    exact ⟨h2, by have := hK.2; omega⟩
  · rcases b K hK with q | q
    · simp at q
    · exact q
theorem bunsOf_get {o : List (KeyS N)} {K : KeyS N} (h : K ∈ o) : (bunsOf o)[ix o K]? = some (bunOf o K) := by
  unfold bunsOf
  rw [List.getElem?_map, ix_get h]; rfl
theorem kids_mem {K : KeyS N} {e : Int × List (KeyS N)} (he : e ∈ ent K) {y : KeyS N} (hy : y ∈ e.2) : y ∈ kids K := List.mem_flatMap.mpr ⟨e, he, hy⟩
/-- its parts lead on, and its rows are those -/
theorem canon_part {n : Nat} {o : List (KeyS N)} (W : Whole n o) : ∀ {F : Fo N} {S : List Row}, Good F S → (∀ K ∈ parts F S, K ∈ o) → PartOk (bunsOf o) F ((parts F S).map (ix o)) ∧ rowsF (bunsOf o) F ((parts F S).map (ix o)) = S
  | .nil, S, h, _ => by rw [show S = [[]] from h]; exact ⟨rfl, rfl⟩
  | .cons c k r, S, h, hm => by
    obtain ⟨A, B, hA, hB, rfl⟩ := good_cons.mp h
    rw [parts_cons hA hB] at hm ⊢
    have hK := hm ⟨c, k, A⟩ (by simp)
    obtain ⟨i1, i2⟩ := canon_part W hB fun K hK => hm K (by simp [hK])
    obtain ⟨es, h1, h2, h3, q⟩ := hA
    subst q
    have eb : bunOf o ⟨c, k, joinE es⟩ = (c, es.map fun e => (e.1, (parts k e.2).map (ix o))) := by
      unfold bunOf
      rw [ent_join h2 h3, List.map_map]; rfl
    have hg := bunsOf_get hK
    rw [eb] at hg
    have hsub : ∀ e ∈ es, ∀ y ∈ parts k e.2, y ∈ o := fun e he y hy => W.kids _ hK y (kids_mem (e := (e.1, parts k e.2)) (by rw [ent_join h2 h3]; exact List.mem_map.mpr ⟨e, he, rfl⟩) hy)
    refine ⟨⟨_, _, _, List.map_cons, hg, ?_, ?_, i1⟩, ?_⟩
    · exact List.pairwise_map.mpr h2
    · intro e he
      obtain ⟨d, hd, rfl⟩ := List.mem_map.mp he
      exact (canon_part W (h3 d hd) (hsub d hd)).1
    · rw [List.map_cons, rowsF_cons, i2]
      congr 1
      unfold rowsT
      rw [ents_at hg, List.flatMap_map]
      unfold joinE
      exact flatMap_same fun e he => by rw [(canon_part W (h3 e he) (hsub e he)).2]
end
end Fb

namespace Fb
section
variable {N : Type} [DecidableEq N]
/-! ### the least folded thing is told by its rows, and tells them -/
theorem canon_good {n : Nat} {F : Fo N} {S : List Row} (h : Good F S) : canon n F S = (bunsOf (ordOf n F S), some ((parts F S).map (ix (ordOf n F S)))) := by
  unfold canon
  rw [if_neg h.ne]
theorem canon_inj {n : Nat} {F : Fo N} {S S' : List Row} (h : S = [] ∨ Good F S) (h' : S' = [] ∨ Good F S') (hn : F.depth ≤ n) (e : canon n F S = canon n F S') : S = S' := by
  rcases h with h | h
  · rcases h' with h' | h'
    · rw [h, h']
    · rw [canon_good h', h] at e
      simp [canon] at e
  · rcases h' with h' | h'
    · rw [canon_good h, h'] at e
      simp [canon] at e
    · rw [canon_good h, canon_good h'] at e
      injection e with e1 e2
      injection e2 with e2
      obtain ⟨W, m⟩ := ord_whole h hn
      obtain ⟨W', m'⟩ := ord_whole h' hn
      rw [← (canon_part W h m).2, ← (canon_part W' h' m').2, e1, e2]
theorem ord_sub {n : Nat} {F : Fo N} {S : List Row} (h : Good F S) : ∀ K ∈ ordOf n F S, Sub F K.c K.k ∧ GoodK K := by
  refine (visS_all (P := fun K => Sub F K.c K.k ∧ GoodK K) (fun K hK K' hk => ?_) n).2 _ _ (fun K hK => ?_) (fun x hx => by simp at hx)
  · obtain ⟨e, he, hk⟩ := List.mem_flatMap.mp hk
    obtain ⟨h1, h2⟩ := ent_child hK.2 he hk
    exact ⟨hK.1.trans (Fo.trees_sub h1), h2⟩
  · obtain ⟨h1, h2⟩ := (parts_ok h).1 K hK
    exact ⟨Fo.trees_sub h1, h2⟩
theorem canon_wf {n : Nat} {F : Fo N} {S : List Row} (h : Good F S) (hn : F.depth ≤ n) : WF F (bunsOf (ordOf n F S)) := by
  intro b hb
  obtain ⟨W, m⟩ := ord_whole h hn
  obtain ⟨K, hK, rfl⟩ := List.mem_map.mp hb
  obtain ⟨h1, h2⟩ := ord_sub h K hK
  refine ⟨K.k, h1, List.pairwise_map.mpr (ent_rising h2), fun e he => ?_⟩
  obtain ⟨d, hd, rfl⟩ := List.mem_map.mp he
  obtain ⟨S', g, q⟩ := ent_ok h2 hd
  have := (canon_part W g fun y hy => W.kids K hK y (kids_mem hd (by rw [q]; exact hy))).1
  rw [← q] at this
  exact this
/-! ### what comes of a folded thing -/
def Of (bs : List (Bun N)) (K : KeyS N) : Prop := ∃ i es, bs[i]? = some (K.c, es) ∧ Rising es ∧ (∀ e ∈ es, PartOk bs K.k e.2) ∧ K.R = rowsT bs K.k i ∧ K.R ≠ []
theorem of_parts {bs : List (Bun N)} : ∀ {F : Fo N} {ps : List Nat}, PartOk bs F ps → rowsF bs F ps ≠ [] → ∀ K ∈ parts F (rowsF bs F ps), Of bs K
  | .nil, _, _, _, K, hK => by simp [parts] at hK
  | .cons c k r, _, h, hne, K, hK => by
    obtain ⟨p, q, es, rfl, h1, h2, h3, h4⟩ := h
    rw [rowsF_cons] at hne hK
    have hA : rowsT bs k p ≠ [] := fun e => hne (prod_eq_nil.mpr (.inl e))
    have hB : rowsF bs r q ≠ [] := fun e => hne (prod_eq_nil.mpr (.inr e))
    have gA := (rowsT_good bs h1 h2 h3).resolve_left hA
    have gB := (rows_good bs h4).resolve_left hB
    rw [parts_cons gA gB] at hK
    rcases List.mem_cons.mp hK with e | hK
    · rw [e]; exact ⟨p, es, h1, h2, h3, rfl, hA⟩
    · exact of_parts h4 hB K hK
theorem of_ent {bs : List (Bun N)} {K : KeyS N} {i : Nat} {es : List Ent} (h1 : bs[i]? = some (K.c, es)) (h2 : Rising es) (h3 : ∀ e ∈ es, PartOk bs K.k e.2) (h4 : K.R = rowsT bs K.k i) : ent K = (aliveR bs K.k es).map fun e => (e.1, parts K.k e.2) := by
  have e : K = ⟨K.c, K.k, joinE (aliveR bs K.k es)⟩ := by
    rw [← joinE_alive, ← ents_at h1]
    cases K with
    | mk c k R => simp only at h4; rw [h4]; rfl
  rw [e]
  refine ent_join (alive_rising bs K.k h2) fun e he => ?_
  unfold aliveR at he
  rw [List.mem_filter, List.mem_map] at he
  obtain ⟨⟨e', he', rfl⟩, hne⟩ := he
  rcases rows_good bs (h3 e' he') with z | g
  · rw [z] at hne; simp at hne
  · exact g
theorem of_kids {bs : List (Bun N)} {K : KeyS N} (h : Of bs K) : ∀ K' ∈ kids K, Of bs K' := by
  intro K' hK
  obtain ⟨i, es, h1, h2, h3, h4, h5⟩ := h
  obtain ⟨e, he, hk⟩ := List.mem_flatMap.mp hK
  rw [of_ent h1 h2 h3 h4] at he
  obtain ⟨d, hd, rfl⟩ := List.mem_map.mp he
  unfold aliveR at hd
  rw [List.mem_filter, List.mem_map] at hd
  obtain ⟨⟨e', he', rfl⟩, hne⟩ := hd
  exact of_parts (h3 e' he') (by intro z; simp only at hne; rw [z] at hne; simp at hne) K' hk
theorem of_length {bs : List (Bun N)} {K : KeyS N} {i : Nat} {es : List Ent} (h1 : bs[i]? = some (K.c, es)) (h2 : Rising es) (h3 : ∀ e ∈ es, PartOk bs K.k e.2) (h4 : K.R = rowsT bs K.k i) : (ent K).length ≤ es.length := by
  rw [of_ent h1 h2 h3 h4, List.length_map]
  unfold aliveR
  exact Nat.le_trans (List.length_filter_le _ _) (by rw [List.length_map]; exact Nat.le_refl _)
theorem ord_of {bs : List (Bun N)} {n : Nat} {F : Fo N} {ps : List Nat} (h : PartOk bs F ps) (hne : rowsF bs F ps ≠ []) : ∀ K ∈ ordOf n F (rowsF bs F ps), Of bs K :=
  (visS_all (P := Of bs) (fun K hK => of_kids hK) n).2 _ _ (of_parts h hne) (fun x hx => by simp at hx)
/-! ### counting -/
theorem sum_erase {α : Type} [DecidableEq α] (w : α → Nat) : ∀ {l : List α} {a : α}, a ∈ l → (l.map w).sum = w a + ((l.erase a).map w).sum
  | [], a, h => by simp at h
  | b :: l, a, h => by
    by_cases e : b = a
    · subst e; simp
    · have h' : a ∈ l := by simpa [Ne.symm e] using h
      rw [List.erase_cons_tail (by simpa using e), List.map_cons, List.map_cons, List.sum_cons, List.sum_cons, sum_erase w h']
      omega
theorem count_le {α β : Type} [DecidableEq α] (rel : β → α → Prop) (hr : ∀ b a a', rel b a → rel b a' → a = a') (w : α → Nat) (u : β → Nat) : ∀ (M : List β) (l : List α), l.Nodup → (∀ a ∈ l, ∃ b ∈ M, rel b a ∧ w a ≤ u b) → (l.map w).sum ≤ (M.map u).sum
  | [], l, _, h => by
    cases l with
    | nil => simp
    | cons a l => obtain ⟨b, hb, _⟩ := h a (by simp); simp at hb
  | m :: M, l, nd, h => by
    rw [List.map_cons, List.sum_cons]
    by_cases z : ∃ a ∈ l, rel m a ∧ w a ≤ u m
    · obtain ⟨a, ha, r, hw⟩ := z
      rw [sum_erase w ha]
      have := count_le rel hr w u M (l.erase a) (nd.erase a) fun a' ha' => by
        have hne : a' ≠ a := fun e => by
          have := (List.Nodup.mem_erase_iff nd).mp ha'
          exact this.1 e
        obtain ⟨b, hb, r', hw'⟩ := h a' (List.mem_of_mem_erase ha')
        rcases List.mem_cons.mp hb with e | hb
        · rw [e] at r'; exact absurd (hr _ _ _ r' r) hne
        · exact ⟨b, hb, r', hw'⟩
      omega
    · have := count_le rel hr w u M l nd fun a ha => by
        obtain ⟨b, hb, r', hw'⟩ := h a ha
        rcases List.mem_cons.mp hb with e | hb
        · rw [e] at r' hw'; exact absurd ⟨a, ha, r', hw'⟩ z
        · exact ⟨b, hb, r', hw'⟩
      omega
def ofCol (c : N) (bs : List (Bun N)) : List (Bun N) := bs.filter fun b => decide (b.1 = c)
def cntB (bs : List (Bun N)) (c : N) : Nat := (ofCol c bs).length
def cntE (bs : List (Bun N)) (c : N) : Nat := ((ofCol c bs).map fun b => b.2.length).sum
theorem zip_col (c : N) (bs : List (Bun N)) (f : Bun N → Nat) : ∀ m, ((((bs.zipIdx m).filter fun x => decide (x.1.1 = c)).map fun x => f x.1)) = (ofCol c bs).map f := by
  unfold ofCol
  induction bs with
  | nil => intro m; rfl
  | cons b bs ih =>
    intro m
    rw [List.zipIdx_cons, List.filter_cons, List.filter_cons]
    by_cases h : b.1 = c
    · simp only [h, decide_true, if_true, List.map_cons, ih]
    · simp only [h, decide_false, if_false, ih]; simp [ih]
theorem sum_one {α : Type} : ∀ l : List α, (l.map fun _ => 1).sum = l.length
  | [] => rfl
  | a :: l => by rw [List.map_cons, List.sum_cons, sum_one l, List.length_cons]; omega
/-- no folded thing has of any column fewer bunches, or fewer entries, than the least one of its rows -/
theorem least {bs : List (Bun N)} {n : Nat} {F : Fo N} {ps : List Nat} (nd : F.order.Nodup) (h : PartOk bs F ps) (hn : F.depth ≤ n) (c : N) :
    cntB (canon n F (rowsF bs F ps)).1 c ≤ cntB bs c ∧ cntE (canon n F (rowsF bs F ps)).1 c ≤ cntE bs c := by
  rcases rows_good bs h with z | g
  · rw [z]; simp [canon, cntB, cntE, ofCol]
  · rw [canon_good g]
    have W := (ord_whole g hn).1
    have hO := ord_of (n := n) h g.ne
    have hS := ord_sub (n := n) g
    generalize ordOf n F (rowsF bs F ps) = o at W hO hS
    let rel : Bun N × Nat → KeyS N → Prop := fun x K => K.c = x.1.1 ∧ Sub F K.c K.k ∧ K.R = rowsT bs K.k x.2
    have hr : ∀ b a a', rel b a → rel b a' → a = a' := fun b a a' r r' => by
      obtain ⟨r1, r2, r3⟩ := r
      obtain ⟨q1, q2, q3⟩ := r'
      have e1 : a.c = a'.c := r1.trans q1.symm
      have e2 : a.k = a'.k := Sub.one nd r2 (e1 ▸ q2)
      have e3 : a.R = a'.R := by rw [r3, q3, e2]
      cases a; cases a'; simp only at e1 e2 e3; rw [e1, e2, e3]
    have ndc : (o.filter fun K => decide (K.c = c)).Nodup := W.nd.filter _
    have key : ∀ (w : KeyS N → Nat) (u : Bun N → Nat), (∀ K i es, bs[i]? = some (K.c, es) → Rising es → (∀ e ∈ es, PartOk bs K.k e.2) → K.R = rowsT bs K.k i → w K ≤ u (K.c, es)) →
        ((o.filter fun K => decide (K.c = c)).map w).sum ≤ ((ofCol c bs).map u).sum := fun w u hw => by
      rw [← zip_col c bs u 0]
      refine count_le rel hr w (fun x => u x.1) _ _ ndc fun K hK => ?_
      rw [List.mem_filter, decide_eq_true_eq] at hK
      obtain ⟨hK, hc⟩ := hK
      obtain ⟨i, es, h1, h2, h3, h4, h5⟩ := hO K hK
      refine ⟨((K.c, es), i), ?_, ⟨rfl, (hS K hK).1, h4⟩, hw K i es h1 h2 h3 h4⟩
      rw [List.mem_filter]
      refine ⟨?_, by simpa using hc⟩
      rw [List.mem_zipIdx_iff_getElem?]
      exact h1
    have ecol : ∀ f : Bun N → Nat, (ofCol c (bunsOf o)).map f = (o.filter fun K => decide (K.c = c)).map fun K => f (bunOf o K) := fun f => by
      unfold ofCol bunsOf
      rw [List.filter_map, List.map_map]
      rfl
    constructor
    · have := key (fun _ => 1) (fun _ => 1) fun _ _ _ _ _ _ _ => Nat.le_refl _
      rw [sum_one, sum_one] at this
      unfold cntB
      have e := congrArg List.length (ecol fun _ => 0)
      rw [List.length_map, List.length_map] at e
      simp only
      rw [e]; exact this
    · have := key (fun K => (ent K).length) (fun b => b.2.length) fun K i es h1 h2 h3 h4 => of_length h1 h2 h3 h4
      unfold cntE
      simp only
      rw [ecol]
      simp only [bunOf, List.length_map]
      exact this
end
end Fb

namespace Fb
/-! ### a pool of bunches -/
section
variable {N : Type} [DecidableEq N]
abbrev EntO := Int × List (Option Nat)
def alive (E : List EntO) : List Ent := E.filterMap fun e => if none ∈ e.2 then none else some (e.1, e.2.map fun p => p.getD 0)
def putP (h : List (Bun N)) (c : N) (E : List EntO) : Option Nat × List (Bun N) :=
  if alive E = [] then (none, h) else if (c, alive E) ∈ h then (some (ix h (c, alive E)), h) else (some h.length, h ++ [(c, alive E)])
structure PoolOk (F : Fo N) (sem : List (KeyS N)) : Prop where
  nd : sem.Nodup
  good : ∀ K ∈ sem, Sub F K.c K.k ∧ GoodK K
  kids : ∀ K ∈ sem, ∀ y ∈ kids K, y ∈ sem
theorem PoolOk.nil (F : Fo N) : PoolOk F [] := ⟨List.nodup_nil, fun _ h => by simp at h, fun _ h => by simp at h⟩
theorem bunOf_grow {o m : List (KeyS N)} {K : KeyS N} (h : ∀ y ∈ kids K, y ∈ o) : bunOf (o ++ m) K = bunOf o K := by
  unfold bunOf
  congr 1
  apply List.map_congr_left
  intro e he
  congr 1
  apply List.map_congr_left
  intro y hy
  exact ix_append (h y (kids_mem he hy))
theorem bunsOf_snoc {F : Fo N} {sem : List (KeyS N)} {K : KeyS N} (P : PoolOk F sem) (hk : ∀ y ∈ kids K, y ∈ sem) : bunsOf (sem ++ [K]) = bunsOf sem ++ [bunOf sem K] := by
  unfold bunsOf
  rw [List.map_append, List.map_cons, List.map_nil, bunOf_grow hk]
  congr 1
  apply List.map_congr_left
  intro K' hK'
  exact bunOf_grow (P.kids K' hK')
theorem entM_inj {l : List (KeyS N)} : ∀ {xs ys : List (Int × List (KeyS N))}, (∀ e ∈ xs, ∀ y ∈ e.2, y ∈ l) → (∀ e ∈ ys, ∀ y ∈ e.2, y ∈ l) → (xs.map fun e => (e.1, e.2.map (ix l))) = (ys.map fun e => (e.1, e.2.map (ix l))) → xs = ys
  | [], [], _, _, _ => rfl
  | [], _ :: _, _, _, e => by simp at e
  | _ :: _, [], _, _, e => by simp at e
  | x :: xs, y :: ys, h1, h2, e => by
    rw [List.map_cons, List.map_cons, List.cons.injEq, Prod.mk.injEq] at e
    obtain ⟨⟨e1, e2⟩, e3⟩ := e
    rw [entM_inj (fun z hz => h1 z (List.mem_cons_of_mem _ hz)) (fun z hz => h2 z (List.mem_cons_of_mem _ hz)) e3]
    have := map_ix_inj (h1 x (by simp)) (h2 y (by simp)) e2
    cases x; cases y; simp only at e1 this; rw [e1, this]
theorem bunOf_inj {F : Fo N} {sem : List (KeyS N)} {K K' : KeyS N} (nd : F.order.Nodup) (h1 : Sub F K.c K.k ∧ GoodK K) (h2 : Sub F K'.c K'.k ∧ GoodK K') (k1 : ∀ y ∈ kids K, y ∈ sem) (k2 : ∀ y ∈ kids K', y ∈ sem) (e : bunOf sem K = bunOf sem K') : K = K' := by
  unfold bunOf at e
  injection e with e1 e2
  have e3 := entM_inj (fun e he y hy => k1 y (kids_mem he hy)) (fun e he y hy => k2 y (kids_mem he hy)) e2
  have e4 : K.k = K'.k := Sub.one nd h1.1 (e1 ▸ h2.1)
  have e5 := ent_inj h1.2 h2.2 e3
  cases K; cases K'; simp only at e1 e4 e5; rw [e1, e4, e5]
theorem bunsOf_nodup {F : Fo N} {sem : List (KeyS N)} (nd : F.order.Nodup) (P : PoolOk F sem) : (bunsOf sem).Nodup := by
  unfold bunsOf
  refine List.pairwise_map.mpr (List.Pairwise.imp_of_mem (fun {a b} ha hb hne e => hne ?_) P.nd)
  exact bunOf_inj nd (P.good a ha) (P.good b hb) (P.kids a ha) (P.kids b hb) e
def grown (sem : List (KeyS N)) (K : KeyS N) : List (KeyS N) := if K ∈ sem then sem else sem ++ [K]
theorem grown_mem (sem : List (KeyS N)) (K : KeyS N) : K ∈ grown sem K := by unfold grown; split <;> simp_all
theorem grown_sub {sem : List (KeyS N)} {K x : KeyS N} (h : x ∈ sem) : x ∈ grown sem K := by unfold grown; split <;> simp_all
theorem grown_ix {sem : List (KeyS N)} {K x : KeyS N} (h : x ∈ sem) : ix (grown sem K) x = ix sem x := by
  unfold grown
  split
  · rfl
  · exact ix_append h
theorem grown_ok {F : Fo N} {sem : List (KeyS N)} {K : KeyS N} (P : PoolOk F sem) (h1 : Sub F K.c K.k ∧ GoodK K) (hk : ∀ y ∈ kids K, y ∈ sem) : PoolOk F (grown sem K) := by
  unfold grown
  split
  · exact P
  · rename_i hK
    refine ⟨List.nodup_append.mpr ⟨P.nd, by simp, fun a ha b hb e => hK ?_⟩, fun x hx => ?_, fun x hx y hy => ?_⟩
    · rw [← List.mem_singleton.mp hb, ← e]; exact ha
    · rcases List.mem_append.mp hx with q | q
      · exact P.good x q
      · rw [List.mem_singleton.mp q]; exact h1
    · rcases List.mem_append.mp hx with q | q
      · exact List.mem_append_left _ (P.kids x q y hy)
      · rw [List.mem_singleton.mp q] at hy; exact List.mem_append_left _ (hk y hy)
theorem put_sem {F : Fo N} {sem : List (KeyS N)} {K : KeyS N} {E : List EntO} (nd : F.order.Nodup) (P : PoolOk F sem) (h1 : Sub F K.c K.k ∧ GoodK K) (hk : ∀ y ∈ kids K, y ∈ sem)
    (hE : alive E = (ent K).map fun e => (e.1, e.2.map (ix sem))) : putP (bunsOf sem) K.c E = (some (ix (grown sem K) K), bunsOf (grown sem K)) := by
  have eb : (K.c, alive E) = bunOf sem K := by unfold bunOf; rw [hE]
  have hne : alive E ≠ [] := by rw [hE]; simpa using ent_ne h1.2
  unfold putP
  rw [if_neg hne, eb]
  by_cases hK : K ∈ sem
  · have hm : bunOf sem K ∈ bunsOf sem := List.mem_map.mpr ⟨K, hK, rfl⟩
    rw [if_pos hm, ix_of_get (bunsOf_nodup nd P) (bunsOf_get hK)]
    unfold grown
    rw [if_pos hK]
  · have hm : bunOf sem K ∉ bunsOf sem := fun q => by
      obtain ⟨K', hK', e⟩ := List.mem_map.mp q
      exact hK (bunOf_inj nd (P.good K' hK') h1 (P.kids K' hK') hk e ▸ hK')
    rw [if_neg hm]
    unfold grown
    rw [if_neg hK, bunsOf_snoc P hk, ix_new hK]
    simp [bunsOf]
/-! ### a folded thing put into a pool, column by column from the last one -/
abbrev PSt (N : Type) := List (Option Nat) × List (Bun N)
def fnd (f : List (Option Nat)) (p : Nat) : Option Nat := (f[p]?).getD none
def stepAt (c : N) (st : PSt N) (x : Bun N × Nat) : PSt N :=
  if x.1.1 = c then (st.1.set x.2 (putP st.2 c (x.1.2.map fun e => (e.1, e.2.map (fnd st.1)))).1, (putP st.2 c (x.1.2.map fun e => (e.1, e.2.map (fnd st.1)))).2) else st
def colStep (bs : List (Bun N)) (st : PSt N) (c : N) : PSt N := bs.zipIdx.foldl (stepAt c) st
def foldPool (cols : List N) (bs : List (Bun N)) : PSt N := cols.reverse.foldl (colStep bs) (List.replicate bs.length none, [])
/-- a bunch that was put in: none where it has no rows, else its key's place -/
def Done (F : Fo N) (bs : List (Bun N)) (sem : List (KeyS N)) (f : List (Option Nat)) (i : Nat) : Prop :=
  ∀ c es, bs[i]? = some (c, es) → ∃ k, Sub F c k ∧ ((rowsT bs k i = [] ∧ fnd f i = none) ∨ (rowsT bs k i ≠ [] ∧ (⟨c, k, rowsT bs k i⟩ : KeyS N) ∈ sem ∧ fnd f i = some (ix sem ⟨c, k, rowsT bs k i⟩)))
theorem fnd_set {f : List (Option Nat)} {i j : Nat} {v : Option Nat} (hi : i < f.length) : fnd (f.set i v) j = if i = j then v else fnd f j := by
  unfold fnd
  rw [List.getElem?_set]
  by_cases h : i = j
  · subst h; simp [hi]
  · simp [h]
theorem Done.grow {F : Fo N} {bs : List (Bun N)} {sem : List (KeyS N)} {f : List (Option Nat)} {i : Nat} (h : Done F bs sem f i) {K : KeyS N} : Done F bs (grown sem K) f i := fun c es e => by
  obtain ⟨k, hs, q⟩ := h c es e
  refine ⟨k, hs, ?_⟩
  rcases q with q | ⟨q1, q2, q3⟩
  · exact .inl q
  · exact .inr ⟨q1, grown_sub q2, by rw [grown_ix q2]; exact q3⟩
/-- parts that were put in -/
theorem parts_found {F : Fo N} {bs : List (Bun N)} {sem : List (KeyS N)} {f : List (Option Nat)} (nd : F.order.Nodup) (P : PoolOk F sem) : ∀ {G : Fo N} {ps : List Nat}, PartOk bs G ps → (∀ c k, (c, k) ∈ G.trees → Sub F c k) →
    (∀ i es c, bs[i]? = some (c, es) → c ∈ G.tops → Done F bs sem f i) →
    (rowsF bs G ps = [] ∧ none ∈ ps.map (fnd f)) ∨ (rowsF bs G ps ≠ [] ∧ (∀ K ∈ parts G (rowsF bs G ps), K ∈ sem) ∧ ps.map (fnd f) = (parts G (rowsF bs G ps)).map fun K => some (ix sem K))
  | .nil, _, h, _, _ => .inr ⟨by simp [rowsF], fun K hK => by simp [parts] at hK, by rw [show _ = [] from h]; rfl⟩
  | .cons c k r, _, h, ht, hd => by
    obtain ⟨p, q, es, rfl, h1, h2, h3, h4⟩ := h
    rw [rowsF_cons]
    have ih := parts_found nd P h4 (fun c' k' hm => ht c' k' (List.mem_cons_of_mem _ hm)) fun i es' c' e hm => hd i es' c' e (List.mem_cons_of_mem _ hm)
    obtain ⟨k', hs, dq⟩ := hd p es c h1 List.mem_cons_self c es h1
    have ek : k' = k := Sub.one nd hs (ht c k List.mem_cons_self)
    subst ek
    rcases dq with ⟨d1, d2⟩ | ⟨d1, d2, d3⟩
    · exact .inl ⟨prod_eq_nil.mpr (.inl d1), by rw [List.map_cons, d2]; simp⟩
    · rcases ih with ⟨i1, i2⟩ | ⟨i1, i2, i3⟩
      · exact .inl ⟨prod_eq_nil.mpr (.inr i1), by rw [List.map_cons]; exact List.mem_cons_of_mem _ i2⟩
      · have gA := (rowsT_good bs h1 h2 h3).resolve_left d1
        have gB := (rows_good bs h4).resolve_left i1
        rw [parts_cons gA gB]
        refine .inr ⟨fun e => (prod_eq_nil.mp e).elim d1 i1, fun K hK => ?_, ?_⟩
        · rcases List.mem_cons.mp hK with e | hK
          · rw [e]; exact d2
          · exact i2 K hK
        · rw [List.map_cons, List.map_cons, d3, i3]
theorem none_not_map {α : Type} (l : List α) (g : α → Nat) : (none : Option Nat) ∉ l.map fun x => some (g x) := by simp
/-- the entries that stay are those of the key -/
theorem alive_found {F : Fo N} {bs : List (Bun N)} {sem : List (KeyS N)} {f : List (Option Nat)} (nd : F.order.Nodup) (P : PoolOk F sem) {G : Fo N} (ht : ∀ c k, (c, k) ∈ G.trees → Sub F c k)
    (hd : ∀ i es c, bs[i]? = some (c, es) → c ∈ G.tops → Done F bs sem f i) : ∀ {es : List Ent}, (∀ e ∈ es, PartOk bs G e.2) →
    alive (es.map fun e => (e.1, e.2.map (fnd f))) = ((aliveR bs G es).map fun e => (e.1, parts G e.2)).map (fun e => (e.1, e.2.map (ix sem))) ∧ ∀ e ∈ aliveR bs G es, ∀ y ∈ parts G e.2, y ∈ sem
  | [], _ => ⟨rfl, fun e he => by simp [aliveR] at he⟩
  | e :: es, h => by
    obtain ⟨i1, i2⟩ := alive_found nd P ht hd (es := es) fun e' he' => h e' (List.mem_cons_of_mem _ he')
    have ea : aliveR bs G (e :: es) = (if !(rowsF bs G e.2).isEmpty then [(e.1, rowsF bs G e.2)] else []) ++ aliveR bs G es := by
      unfold aliveR
      rw [List.map_cons, List.filter_cons]
      split <;> simp_all
    have eal : alive ((e :: es).map fun e => (e.1, e.2.map (fnd f))) = (if none ∈ e.2.map (fnd f) then [] else [(e.1, (e.2.map (fnd f)).map fun p => p.getD 0)]) ++ alive (es.map fun e => (e.1, e.2.map (fnd f))) := by
      unfold alive
      rw [List.map_cons, List.filterMap_cons]
      by_cases z : none ∈ e.2.map (fnd f)
      · simp only [if_pos z, List.nil_append]
      · simp only [if_neg z, List.singleton_append]
    rw [ea, eal, i1]
    rcases parts_found nd P (h e (by simp)) ht hd with ⟨q1, q2⟩ | ⟨q1, q2, q3⟩
    · rw [if_pos q2, q1]
      exact ⟨rfl, i2⟩
    · rw [q3, if_neg (none_not_map _ _)]
      have : (!(rowsF bs G e.2).isEmpty) = true := by simpa using q1
      rw [if_pos this]
      refine ⟨?_, fun d hd' y hy => ?_⟩
      · rw [List.map_append, List.map_append]
        simp [Function.comp_def]
      · rcases List.mem_append.mp hd' with z | z
        · rw [List.mem_singleton.mp z] at hy; exact q2 y hy
        · exact i2 d z y hy
/-- what stands beneath a column comes behind it -/
theorem order_behind : ∀ {F : Fo N} {pre post : List N} {c : N} {k : Fo N}, F.order.Nodup → F.order = pre ++ c :: post → Sub F c k → ∀ x ∈ k.order, x ∈ post
  | .nil, _, _, _, _, _, _, h, _, _ => h.elim
  | .cons a j r, pre, post, c, k, nd, e, h, x, hx => by
    have nd0 := nd
    simp only [Fo.order, List.nodup_cons, List.mem_append, not_or, List.nodup_append] at nd
    obtain ⟨⟨n1, n2⟩, n3, n4, n5⟩ := nd
    rw [Fo.order] at e
    cases pre with
    | nil =>
      rw [List.nil_append, List.cons.injEq] at e
      obtain ⟨e1, e2⟩ := e
      subst e1
      rw [← e2]
      have : k = j := Sub.one nd0 h (.inl ⟨rfl, rfl⟩)
      rw [this] at hx
      exact List.mem_append_left _ hx
    | cons b pre =>
      rw [List.cons_append, List.cons.injEq] at e
      obtain ⟨e1, e2⟩ := e
      have hc : c ∈ j.order ++ r.order := by rw [e2]; simp
      have hca : a ≠ c := fun z => by
        rcases List.mem_append.mp hc with q | q
        · exact n1 (z ▸ q)
        · exact n2 (z ▸ q)
      rcases List.append_eq_append_iff.mp e2 with ⟨m, m1, m2⟩ | ⟨m, m1, m2⟩
      · -- pre = j.order ++ m, r.order = m ++ c :: post
        have hcr : c ∈ r.order := by rw [m2]; simp
        rcases h with ⟨z, _⟩ | h | h
        · exact absurd z hca
        · exact absurd rfl (n5 c h.mem c hcr)
        · exact order_behind n4 m2 h x hx
      · -- j.order = pre ++ m, c :: post = m ++ r.order
        cases m with
        | nil =>
          rw [List.nil_append] at m2
          rcases h with ⟨z, _⟩ | h | h
          · exact absurd z hca
          · exact absurd rfl (n5 c h.mem c (by rw [← m2]; simp))
          · exact order_behind (pre := []) n4 (by rw [← m2]; rfl) h x hx
        | cons d m =>
          rw [List.cons_append, List.cons.injEq] at m2
          obtain ⟨m3, m4⟩ := m2
          subst m3
          rcases h with ⟨z, _⟩ | h | h
          · exact absurd z hca
          · rw [m4]; exact List.mem_append_left _ (order_behind n3 m1 h x hx)
          · exact absurd rfl (n5 c (by rw [m1]; simp) c h.mem)
theorem Fo.tops_order : ∀ {F : Fo N} {x : N}, x ∈ F.tops → x ∈ F.order
  | .nil, _, h => by simp [Fo.tops] at h
  | .cons a j r, x, h => by
    simp only [Fo.tops, Fo.order, List.mem_cons, List.mem_append] at h ⊢
    rcases h with h | h
    · exact .inl h
    · exact .inr (.inr (Fo.tops_order h))
/-- what the loops keep -/
structure PInv (F : Fo N) (bs : List (Bun N)) (st : PSt N) (sem : List (KeyS N)) : Prop where
  len : st.1.length = bs.length
  ok : PoolOk F sem
  held : st.2 = bunsOf sem
theorem step_inv {F : Fo N} {bs : List (Bun N)} (nd : F.order.Nodup) (wf : WF F bs) {st : PSt N} {sem : List (KeyS N)} (I : PInv F bs st sem) {c : N} {i : Nat} {b : Bun N} (hb : bs[i]? = some b)
    (hd : ∀ k, Sub F c k → ∀ j es d, bs[j]? = some (d, es) → d ∈ k.tops → Done F bs sem st.1 j) :
    ∃ sem', PInv F bs (stepAt c st (b, i)) sem' ∧ (∀ j, (j = i → b.1 = c ∨ Done F bs sem st.1 j) → (j ≠ i → Done F bs sem st.1 j) → Done F bs sem' (stepAt c st (b, i)).1 j) ∧
      (∀ j, j ≠ i → Done F bs sem st.1 j → Done F bs sem' (stepAt c st (b, i)).1 j) ∧ (b.1 = c → Done F bs sem' (stepAt c st (b, i)).1 i) ∧ (b.1 ≠ c → ∀ j, Done F bs sem st.1 j → Done F bs sem' (stepAt c st (b, i)).1 j) := by
  have hlt : i < bs.length := (List.getElem?_eq_some_iff.mp hb).1
  by_cases hc : b.1 = c
  · obtain ⟨d, es⟩ := b
    simp only at hc
    subst hc
    obtain ⟨k, hs, hr, hp⟩ := wf (d, es) (List.mem_of_getElem? hb)
    simp only at hs hr hp
    have ht : ∀ c' k', (c', k') ∈ k.trees → Sub F c' k' := fun c' k' hm => hs.trans (Fo.trees_sub hm)
    obtain ⟨a1, a2⟩ := alive_found nd I.ok ht (hd k hs) hp
    have es_st : stepAt d st ((d, es), i) = (st.1.set i (putP st.2 d (es.map fun e => (e.1, e.2.map (fnd st.1)))).1, (putP st.2 d (es.map fun e => (e.1, e.2.map (fnd st.1)))).2) := by unfold stepAt; simp
    rw [es_st, I.held]
    by_cases z : rowsT bs k i = []
    · have ha : aliveR bs k es = [] := by
        unfold rowsT at z
        rw [ents_at hb, joinE_alive] at z
        cases q : aliveR bs k es with
        | nil => rfl
        | cons e r =>
          exfalso
          obtain ⟨v, S⟩ := e
          rw [q, joinE_cons] at z
          have hm : (v, S) ∈ aliveR bs k es := by rw [q]; simp
          unfold aliveR at hm
          rw [List.mem_filter] at hm
          have := (List.append_eq_nil_iff.mp z).1
          have hS : S = [] := by simpa using this
          rw [hS] at hm; simp at hm
      rw [ha] at a1
      have ep : putP (bunsOf sem) d (es.map fun e => (e.1, e.2.map (fnd st.1))) = (none, bunsOf sem) := by unfold putP; rw [if_pos (by rw [a1]; rfl)]
      rw [ep]
      have keep : ∀ j, j ≠ i → Done F bs sem st.1 j → Done F bs sem (st.1.set i none) j := fun j hj h c es' e => by
        obtain ⟨k', hs', q⟩ := h c es' e
        refine ⟨k', hs', ?_⟩
        rw [fnd_set (by rw [I.len]; exact hlt), if_neg (Ne.symm hj)]
        exact q
      have self : Done F bs sem (st.1.set i none) i := fun c es' e => by
        rw [hb] at e
        cases e
        exact ⟨k, hs, .inl ⟨z, by rw [fnd_set (by rw [I.len]; exact hlt), if_pos rfl]⟩⟩
      refine ⟨sem, ⟨by simpa using I.len, I.ok, rfl⟩, fun j h1 h2 => ?_, keep, fun _ => self, fun hne => absurd rfl hne⟩
      by_cases hj : j = i
      · rw [hj]; exact self
      · exact keep j hj (h2 hj)
    · have hK : Sub F d k ∧ GoodK (⟨d, k, rowsT bs k i⟩ : KeyS N) := ⟨hs, (rowsT_good bs hb hr hp).resolve_left z⟩
      have ee := of_ent (K := ⟨d, k, rowsT bs k i⟩) hb hr hp rfl
      have hk : ∀ y ∈ kids (⟨d, k, rowsT bs k i⟩ : KeyS N), y ∈ sem := fun y hy => by
        obtain ⟨e, he, hy⟩ := List.mem_flatMap.mp hy
        rw [ee] at he
        obtain ⟨e', he', rfl⟩ := List.mem_map.mp he
        exact a2 e' he' y hy
      have ep := put_sem (K := ⟨d, k, rowsT bs k i⟩) (E := es.map fun e => (e.1, e.2.map (fnd st.1))) nd I.ok hK hk (by rw [a1, ee])
      rw [ep]
      have keep : ∀ j, j ≠ i → Done F bs sem st.1 j → Done F bs (grown sem ⟨d, k, rowsT bs k i⟩) (st.1.set i (some (ix (grown sem ⟨d, k, rowsT bs k i⟩) ⟨d, k, rowsT bs k i⟩))) j := fun j hj h c es' e => by
        obtain ⟨k', hs', q⟩ := h.grow c es' e
        refine ⟨k', hs', ?_⟩
        rw [fnd_set (by rw [I.len]; exact hlt), if_neg (Ne.symm hj)]
        exact q
      have self : Done F bs (grown sem ⟨d, k, rowsT bs k i⟩) (st.1.set i (some (ix (grown sem ⟨d, k, rowsT bs k i⟩) ⟨d, k, rowsT bs k i⟩))) i := fun c es' e => by
        rw [hb] at e
        cases e
        exact ⟨k, hs, .inr ⟨z, grown_mem _ _, by rw [fnd_set (by rw [I.len]; exact hlt), if_pos rfl]⟩⟩
      refine ⟨grown sem ⟨d, k, rowsT bs k i⟩, ⟨by simpa using I.len, grown_ok I.ok hK hk, rfl⟩, fun j h1 h2 => ?_, keep, fun _ => self, fun hne => absurd rfl hne⟩
      by_cases hj : j = i
      · rw [hj]; exact self
      · exact keep j hj (h2 hj)
  · have e : stepAt c st (b, i) = st := by unfold stepAt; rw [if_neg hc]
    rw [e]
    refine ⟨sem, I, fun j h1 h2 => ?_, fun _ _ h => h, fun h => absurd h hc, fun _ _ h => h⟩
    by_cases hj : j = i
    · rcases h1 hj with q | q
      · exact absurd q hc
      · exact q
    · exact h2 hj
theorem col_inv {F : Fo N} {bs : List (Bun N)} (nd : F.order.Nodup) (wf : WF F bs) {C : N → Prop} {c : N} (hC : ∀ k, Sub F c k → ∀ x ∈ k.tops, C x) (hcC : ¬ C c) {st : PSt N} {sem : List (KeyS N)} (I : PInv F bs st sem)
    (hd : ∀ j es d, bs[j]? = some (d, es) → C d → Done F bs sem st.1 j) :
    ∃ sem', PInv F bs (colStep bs st c) sem' ∧ ∀ j es d, bs[j]? = some (d, es) → C d ∨ d = c → Done F bs sem' (colStep bs st c).1 j := by
  have main : ∀ (l : List (Bun N)) (m : Nat) (st : PSt N) (sem : List (KeyS N)), bs.drop m = l → PInv F bs st sem → (∀ j es d, bs[j]? = some (d, es) → (C d ∨ (d = c ∧ j < m)) → Done F bs sem st.1 j) →
      ∃ sem', PInv F bs ((l.zipIdx m).foldl (stepAt c) st) sem' ∧ ∀ j es d, bs[j]? = some (d, es) → C d ∨ d = c → Done F bs sem' ((l.zipIdx m).foldl (stepAt c) st).1 j := by
    intro l
    induction l with
    | nil =>
      intro m st sem hl I hd
      refine ⟨sem, I, fun j es d e h => hd j es d e ?_⟩
      rcases h with h | h
      · exact .inl h
      · refine .inr ⟨h, ?_⟩
        have h1 := (List.getElem?_eq_some_iff.mp e).1
        have h2 := congrArg List.length hl
        rw [List.length_drop, List.length_nil] at h2
        omega
    | cons b l ih =>
      intro m st sem hl I hd
      have hb : bs[m]? = some b := by
        have := congrArg (fun z => z[0]?) hl
        simpa using this
      have hl' : bs.drop (m + 1) = l := by
        have := congrArg List.tail hl
        simpa using this
      obtain ⟨sem', I', g1, g2, g3, g4⟩ := step_inv nd wf (c := c) I hb fun k hs j es d e hm => hd j es d e (.inl (hC k hs d hm))
      rw [List.zipIdx_cons, List.foldl_cons]
      refine ih (m + 1) _ sem' hl' I' fun j es d e h => ?_
      by_cases hj : j = m
      · subst hj
        rw [hb] at e
        cases e
        by_cases z : d = c
        · exact g3 z
        · refine g4 z j (hd j es d hb ?_)
          rcases h with h | ⟨h, _⟩
          · exact .inl h
          · exact absurd h z
      · refine g2 j hj (hd j es d e ?_)
        rcases h with h | ⟨h, hlt⟩
        · exact .inl h
        · exact .inr ⟨h, by omega⟩
  refine main bs 0 st sem rfl I fun j es d e h => hd j es d e ?_
  rcases h with h | ⟨_, h⟩
  · exact h
  · omega
theorem pool_inv {F : Fo N} {bs : List (Bun N)} (nd : F.order.Nodup) (wf : WF F bs) : ∃ sem, PInv F bs (foldPool F.order bs) sem ∧ ∀ j es d, bs[j]? = some (d, es) → Done F bs sem (foldPool F.order bs).1 j := by
  have main : ∀ (post pre : List N), F.order = pre ++ post → ∃ sem, PInv F bs (post.reverse.foldl (colStep bs) (List.replicate bs.length none, [])) sem ∧
      ∀ j es d, bs[j]? = some (d, es) → d ∈ post → Done F bs sem (post.reverse.foldl (colStep bs) (List.replicate bs.length none, [])).1 j := by
    intro post
    induction post with
    | nil =>
      intro pre _
      exact ⟨[], ⟨by simp, PoolOk.nil F, rfl⟩, fun _ _ _ _ h => by simp at h⟩
    | cons c post ih =>
      intro pre e
      obtain ⟨sem, I, hd⟩ := ih (pre ++ [c]) (by rw [e]; simp)
      rw [List.reverse_cons, List.foldl_append, List.foldl_cons, List.foldl_nil]
      have hc : c ∉ post := by
        have := nd
        rw [e, List.nodup_append] at this
        exact (List.nodup_cons.mp this.2.1).1
      obtain ⟨sem', I', hd'⟩ := col_inv nd wf (C := fun x => x ∈ post) (c := c) (fun k hs x hx => order_behind nd e hs x (Fo.tops_order hx)) hc I hd
      refine ⟨sem', I', fun j es d q h => hd' j es d q ?_⟩
      rcases List.mem_cons.mp h with h | h
      · exact .inr h
      · exact .inl h
  obtain ⟨sem, I, hd⟩ := main F.order [] rfl
  refine ⟨sem, I, fun j es d e => hd j es d e ?_⟩
  obtain ⟨k, hs, _⟩ := wf (d, es) (List.mem_of_getElem? e)
  exact hs.mem
end
end Fb

namespace Fb
section
variable {N : Type} [DecidableEq N]
/-! ### numbering a pool's bunches from some at the top -/
def visP (h : List (Bun N)) : Nat → Nat → List Nat → List Nat
  | 0, _, o => o
  | n + 1, i, o => if i ∈ o then o else (ents h i).foldl (fun o e => e.2.foldl (fun o p => visP h n p o) o) (o ++ [i])
def visPL (h : List (Bun N)) (n : Nat) (ps : List Nat) (o : List Nat) : List Nat := ps.foldl (fun o p => visP h n p o) o
def renB (h : List (Bun N)) (o : List Nat) : List (Bun N) := o.filterMap fun i => (h[i]?).map fun b => (b.1, b.2.map fun e => (e.1, e.2.map (ix o)))
def poolFold (n : Nat) (h : List (Bun N)) (ts : List Nat) : List (Bun N) × List Nat := (renB h (visPL h n ts []), ts.map (ix (visPL h n ts [])))
/-- so deep, and no deeper, down to a bunch's last parts -/
def Dep (h : List (Bun N)) : Nat → Nat → Prop
  | 0, _ => False
  | n + 1, i => (∃ b, h[i]? = some b) ∧ ∀ e ∈ ents h i, ∀ p ∈ e.2, Dep h n p
theorem filterMap_all {α β : Type} {f : α → Option β} {g : α → β} : ∀ {l : List α}, (∀ x ∈ l, f x = some (g x)) → l.filterMap f = l.map g
  | [], _ => rfl
  | x :: l, h => by rw [List.filterMap_cons, h x (by simp), List.map_cons, filterMap_all fun y hy => h y (List.mem_cons_of_mem _ hy)]
theorem foldl_same {α β γ : Type} (f : β → α → β) (g : γ → α → γ) (rel : β → γ → Prop) (l : List α) : ∀ (b : β) (c : γ), rel b c → (∀ a ∈ l, ∀ b c, rel b c → rel (f b a) (g c a)) → rel (l.foldl f b) (l.foldl g c) := by
  induction l with
  | nil => intro b c h _; exact h
  | cons a l ih => intro b c h hs; exact ih _ _ (hs a (by simp) b c h) fun x hx => hs x (List.mem_cons_of_mem _ hx)
theorem ix_map {α β : Type} [DecidableEq α] [DecidableEq β] {f : α → β} {l : List α} {a : α} (h : ∀ x ∈ l, f x = f a → x = a) (ha : a ∈ l) : ix (l.map f) (f a) = ix l a := by
  induction l with
  | nil => simp at ha
  | cons b l ih =>
    unfold ix at ih ⊢
    rw [List.map_cons, List.idxOf_cons, List.idxOf_cons]
    by_cases e : b = a
    · subst e; simp
    · have e' : f b ≠ f a := fun q => e (h b (by simp) q)
      have ha' : a ∈ l := by simpa [Ne.symm e] using ha
      have b1 : (b == a) = false := beq_eq_false_iff_ne.mpr e
      have b2 : (f b == f a) = false := beq_eq_false_iff_ne.mpr e'
      rw [b1, b2]
      simp only [cond_false]
      rw [ih (fun x hx => h x (List.mem_cons_of_mem _ hx)) ha']
theorem ents_bunsOf {sem : List (KeyS N)} {K : KeyS N} (h : K ∈ sem) : ents (bunsOf sem) (ix sem K) = (ent K).map fun e => (e.1, e.2.map (ix sem)) := by
  unfold ents
  rw [bunsOf_get h]; rfl
theorem vis_sem {F : Fo N} {sem : List (KeyS N)} (P : PoolOk F sem) : ∀ (n : Nat), (∀ (K : KeyS N) (o : List (KeyS N)), K ∈ sem → (∀ x ∈ o, x ∈ sem) → visP (bunsOf sem) n (ix sem K) (o.map (ix sem)) = (visS n K o).map (ix sem)) ∧
    ∀ (Ks o : List (KeyS N)), (∀ x ∈ Ks, x ∈ sem) → (∀ x ∈ o, x ∈ sem) → visPL (bunsOf sem) n (Ks.map (ix sem)) (o.map (ix sem)) = (visL n Ks o).map (ix sem)
  | 0 => by
    have h0 : ∀ (Ks o : List (KeyS N)), visL 0 Ks o = o := fun Ks => by
      induction Ks with
      | nil => intro o; rfl
      | cons K Ks ih => intro o; rw [visL_cons, ih]; rfl
    have h1 : ∀ (ps o : List Nat), visPL (bunsOf sem) 0 ps o = o := fun ps => by
      induction ps with
      | nil => intro o; rfl
      | cons p ps ih => intro o; exact ih o
    exact ⟨fun _ _ _ _ => rfl, fun Ks o _ _ => by rw [h0, h1]⟩
  | n + 1 => by
    have ih := (vis_sem P n).2
    have pe : ∀ (es : List Ent) (o : List Nat), es.foldl (fun o e => e.2.foldl (fun o p => visP (bunsOf sem) n p o) o) o = visPL (bunsOf sem) n (es.flatMap (·.2)) o := fun es => by
      induction es with
      | nil => intro o; rfl
      | cons e es ih =>
        intro o
        rw [List.foldl_cons, ih, List.flatMap_cons]
        unfold visPL
        rw [List.foldl_append]
    have h1 : ∀ (K : KeyS N) (o : List (KeyS N)), K ∈ sem → (∀ x ∈ o, x ∈ sem) → visP (bunsOf sem) (n + 1) (ix sem K) (o.map (ix sem)) = (visS (n + 1) K o).map (ix sem) := fun K o hK ho => by
      have hm : ix sem K ∈ o.map (ix sem) ↔ K ∈ o := by
        rw [List.mem_map]
        constructor
        · rintro ⟨x, hx, e⟩
          rw [← ix_inj (ho x hx) hK e]; exact hx
        · intro h; exact ⟨K, h, rfl⟩
      rw [visS_succ, visP, pe, ents_bunsOf hK]
      by_cases q : K ∈ o
      · rw [if_pos (hm.mpr q), if_pos q]
      · rw [if_neg (fun z => q (hm.mp z)), if_neg q]
        have e1 : ((ent K).map fun e => (e.1, e.2.map (ix sem))).flatMap (·.2) = (kids K).map (ix sem) := by
          unfold kids
          rw [List.flatMap_map, List.map_flatMap]
        have e2 : o.map (ix sem) ++ [ix sem K] = (o ++ [K]).map (ix sem) := by simp
        rw [e1, e2]
        refine ih _ _ (P.kids K hK) fun x hx => ?_
        rcases List.mem_append.mp hx with z | z
        · exact ho x z
        · rw [List.mem_singleton.mp z]; exact hK
    refine ⟨h1, fun Ks => ?_⟩
    induction Ks with
    | nil => intro o _ _; rfl
    | cons K Ks ih2 =>
      intro o hKs ho
      rw [visL_cons]
      show visPL (bunsOf sem) (n + 1) (Ks.map (ix sem)) (visP (bunsOf sem) (n + 1) (ix sem K) (o.map (ix sem))) = _
      rw [h1 K o (hKs K (by simp)) ho]
      exact ih2 _ (fun x hx => hKs x (List.mem_cons_of_mem _ hx)) ((visS_all (P := fun x => x ∈ sem) (fun K hK => P.kids K hK) (n + 1)).1 K o (hKs K (by simp)) ho)
theorem dep_sem {F : Fo N} {sem : List (KeyS N)} (P : PoolOk F sem) : ∀ {n : Nat} {K : KeyS N}, K ∈ sem → K.k.depth < n → Dep (bunsOf sem) n (ix sem K)
  | 0, _, _, h => absurd h (Nat.not_lt_zero _)
  | n + 1, K, hK, h => by
    refine ⟨⟨_, bunsOf_get hK⟩, fun e he p hp => ?_⟩
    rw [ents_bunsOf hK] at he
    obtain ⟨d, hd, rfl⟩ := List.mem_map.mp he
    obtain ⟨y, hy, rfl⟩ := List.mem_map.mp hp
    have := Fo.trees_depth (ent_child (P.good K hK).2 hd hy).1
    exact dep_sem P (P.kids K hK y (kids_mem hd hy)) (by omega)
theorem poolFold_sem {F : Fo N} {sem : List (KeyS N)} (P : PoolOk F sem) {n : Nat} {S : List Row} (h : Good F S) (hn : F.depth ≤ n) (hm : ∀ K ∈ parts F S, K ∈ sem) :
    poolFold n (bunsOf sem) ((parts F S).map (ix sem)) = (bunsOf (ordOf n F S), (parts F S).map (ix (ordOf n F S))) := by
  have hv := (vis_sem P n).2 (parts F S) [] hm (fun x hx => by simp at hx)
  have hs : ∀ x ∈ ordOf n F S, x ∈ sem := (visS_all (P := fun x => x ∈ sem) (fun K hK => P.kids K hK) n).2 _ _ hm (fun x hx => by simp at hx)
  obtain ⟨W, hp⟩ := ord_whole h hn
  have hv' : visPL (bunsOf sem) n ((parts F S).map (ix sem)) [] = (ordOf n F S).map (ix sem) := hv
  unfold poolFold
  rw [hv']
  have hx : ∀ y ∈ ordOf n F S, ix ((ordOf n F S).map (ix sem)) (ix sem y) = ix (ordOf n F S) y := fun y hy => ix_map (fun x hx e => ix_inj (hs x hx) (hs y hy) e) hy
  congr 1
  · unfold renB bunsOf
    rw [List.filterMap_map]
    refine filterMap_all fun K hK => ?_
    simp only [Function.comp]
    rw [show (List.map (bunOf sem) sem)[ix sem K]? = some (bunOf sem K) from bunsOf_get (hs K hK)]
    simp only [Option.map_some, bunOf, List.map_map]
    congr 2
    apply List.map_congr_left
    intro e he
    simp only [Function.comp, List.map_map]
    congr 1
    apply List.map_congr_left
    intro y hy
    exact hx y (W.kids K hK y (kids_mem he hy))
  · rw [List.map_map]
    apply List.map_congr_left
    intro y hy
    exact hx y (hp y hy)
/-! ### fold_of, as the program does it -/
def finish (n : Nat) (h : List (Bun N)) (ts : List (Option Nat)) : List (Bun N) × Option (List Nat) :=
  if none ∈ ts then ([], none) else ((poolFold n h (ts.map fun t => t.getD 0)).1, some (poolFold n h (ts.map fun t => t.getD 0)).2)
def foldOfP (n : Nat) (F : Fo N) (bs : List (Bun N)) (roots : List Nat) : List (Bun N) × Option (List Nat) :=
  finish n (foldPool F.order bs).2 (roots.map (fnd (foldPool F.order bs).1))
theorem trees_subs (F : Fo N) : ∀ c k, (c, k) ∈ F.trees → Sub F c k := fun _ _ h => Fo.trees_sub h
theorem foldOf_sem {n : Nat} {F : Fo N} {bs : List (Bun N)} {roots : List Nat} (nd : F.order.Nodup) (wf : WF F bs) (hp : PartOk bs F roots) (hn : F.depth ≤ n) :
    foldOfP n F bs roots = canon n F (rowsF bs F roots) ∧ ∀ t ∈ roots.map (fnd (foldPool F.order bs).1), none ∈ roots.map (fnd (foldPool F.order bs).1) ∨ Dep (foldPool F.order bs).2 n (t.getD 0) := by
  obtain ⟨sem, I, hd⟩ := pool_inv nd wf
  unfold foldOfP finish
  rcases parts_found nd I.ok hp (trees_subs F) fun i es c e _ => hd i es c e with ⟨q1, q2⟩ | ⟨q1, q2, q3⟩
  · refine ⟨?_, fun t _ => .inl q2⟩
    rw [if_pos q2, q1]
    unfold canon
    rw [if_pos rfl]
  · have g := (rows_good bs hp).resolve_left q1
    have hne : none ∉ roots.map (fnd (foldPool F.order bs).1) := by rw [q3]; exact none_not_map _ _
    have e : ((roots.map (fnd (foldPool F.order bs).1)).map fun t => t.getD 0) = (parts F (rowsF bs F roots)).map (ix sem) := by
      rw [q3, List.map_map]; rfl
    refine ⟨?_, fun t ht => .inr ?_⟩
    · rw [if_neg hne, e, I.held, poolFold_sem I.ok g hn q2, canon_good g]
    · rw [q3] at ht
      obtain ⟨K, hK, rfl⟩ := List.mem_map.mp ht
      rw [I.held]
      have := Fo.trees_depth ((parts_ok g).1 K hK).1
      exact dep_sem I.ok (q2 K hK) (by omega)
end
end Fb

namespace Fb
section
variable {N : Type} [DecidableEq N]
/-! ### rows put into a pool, from the top down -/
abbrev SpSt (N : Type) := List EntO × List (Bun N)
def splitP : Fo N → List (Bun N) → List Row → List (Option Nat) × List (Bun N)
  | .nil, h, _ => ([], h)
  | .cons c k r, h, S =>
    let st : SpSt N := (heads (segs (k.width + 1) S)).foldl (fun a v => (a.1 ++ [(v, (splitP k a.2 (restOf v (segs (k.width + 1) S))).1)], (splitP k a.2 (restOf v (segs (k.width + 1) S))).2)) ([], h)
    let b := putP st.2 c st.1
    let y := splitP r b.2 (S.map fun x => x.drop (k.width + 1))
    (b.1 :: y.1, y.2)
def spStep (k : Fo N) (R : List Row) (a : SpSt N) (v : Int) : SpSt N := (a.1 ++ [(v, (splitP k a.2 (restOf v R)).1)], (splitP k a.2 (restOf v R)).2)
/-- the bunch of some rows -/
def bunchP (c : N) (k : Fo N) (h : List (Bun N)) (R : List Row) : Option Nat × List (Bun N) :=
  putP ((heads R).foldl (spStep k R) ([], h)).2 c ((heads R).foldl (spStep k R) ([], h)).1
theorem splitP_cons (c : N) (k r : Fo N) (h : List (Bun N)) (S : List Row) : splitP (.cons c k r) h S =
    ((bunchP c k h (segs (k.width + 1) S)).1 :: (splitP r (bunchP c k h (segs (k.width + 1) S)).2 (S.map fun x => x.drop (k.width + 1))).1,
     (splitP r (bunchP c k h (segs (k.width + 1) S)).2 (S.map fun x => x.drop (k.width + 1))).2) := rfl
theorem splitP_again {γ : Type} : ∀ (F : Fo N) (h : List (Bun N)) (B : List Row) {l : List γ}, l ≠ [] → splitP F h (l.flatMap fun _ => B) = splitP F h B
  | .nil, _, _, _, _ => rfl
  | .cons c k r, h, B, l, hl => by
    have e1 : ∀ f : Row → Row, (l.flatMap fun _ => B).map f = l.flatMap fun _ => B.map f := fun f => by rw [List.map_flatMap]
    have e2 : segs (k.width + 1) (l.flatMap fun _ => B) = segs (k.width + 1) B := by
      unfold segs
      rw [e1, dd_again _ hl]
    rw [splitP_cons, splitP_cons, e2, e1, splitP_again r _ _ hl]
def Pre (s t : List (KeyS N)) : Prop := ∃ m, t = s ++ m
theorem Pre.refl (s : List (KeyS N)) : Pre s s := ⟨[], by simp⟩
theorem Pre.trans {s t u : List (KeyS N)} (a : Pre s t) (b : Pre t u) : Pre s u := by
  obtain ⟨m, rfl⟩ := a
  obtain ⟨m', rfl⟩ := b
  exact ⟨m ++ m', by simp⟩
theorem Pre.mem {s t : List (KeyS N)} (a : Pre s t) {x : KeyS N} (h : x ∈ s) : x ∈ t := by
  obtain ⟨m, rfl⟩ := a
  exact List.mem_append_left _ h
theorem Pre.ix {s t : List (KeyS N)} (a : Pre s t) {x : KeyS N} (h : x ∈ s) : Fb.ix t x = Fb.ix s x := by
  obtain ⟨m, rfl⟩ := a
  exact ix_append h
theorem grown_pre (s : List (KeyS N)) (K : KeyS N) : Pre s (grown s K) := by
  unfold grown
  split
  · exact Pre.refl s
  · exact ⟨[K], rfl⟩
theorem split_sem {F : Fo N} (nd : F.order.Nodup) : ∀ {G : Fo N} {S : List Row} {sem : List (KeyS N)}, PoolOk F sem → Good G S → (∀ c k, (c, k) ∈ G.trees → Sub F c k) →
    ∃ sem', PoolOk F sem' ∧ Pre sem sem' ∧ (∀ K ∈ parts G S, K ∈ sem') ∧ splitP G (bunsOf sem) S = ((parts G S).map (fun K => some (ix sem' K)), bunsOf sem')
  | .nil, S, sem, P, h, _ => ⟨sem, P, Pre.refl _, fun K hK => by simp [parts] at hK, by rw [show S = [[]] from h]; rfl⟩
  | .cons c k r, S, sem, P, h, ht => by
    obtain ⟨A, B, hA, hB, rfl⟩ := good_cons.mp h
    have htk : ∀ c' k', (c', k') ∈ k.trees → Sub F c' k' := fun c' k' hm => (ht c k List.mem_cons_self).trans (Fo.trees_sub hm)
    rw [splitP_cons, segs_prod hA hB.ne, prod_drop (n := k.width + 1) hA.width _ fun a b h => by rw [← h]; simp, splitP_again r _ B hA.ne, parts_cons hA hB]
    obtain ⟨es, h1, h2, h3, q⟩ := id hA
    -- the entries
    have loop : ∀ (post pre : List (Int × List Row)) (s : List (KeyS N)), pre ++ post = es → PoolOk F s → Pre sem s → (∀ e ∈ pre, ∀ K ∈ parts k e.2, K ∈ s) →
        ∃ s', PoolOk F s' ∧ Pre sem s' ∧ (∀ e ∈ es, ∀ K ∈ parts k e.2, K ∈ s') ∧
          (post.map (·.1)).foldl (spStep k A) (pre.map fun e => (e.1, (parts k e.2).map fun K => some (ix s K)), bunsOf s) = (es.map fun e => (e.1, (parts k e.2).map fun K => some (ix s' K)), bunsOf s') := by
      intro post
      induction post with
      | nil =>
        intro pre s e hs hp hm
        rw [List.append_nil] at e
        subst e
        exact ⟨s, hs, hp, hm, rfl⟩
      | cons d post ih =>
        intro pre s e hs hp hm
        have hd : d ∈ es := by rw [← e]; simp
        obtain ⟨s1, hs1, p1, m1, e1⟩ := split_sem nd hs (h3 d hd) htk
        rw [List.map_cons, List.foldl_cons]
        have er : restOf d.1 A = d.2 := by rw [q]; exact rest_join h2 hd
        have est : spStep k A (pre.map fun e => (e.1, (parts k e.2).map fun K => some (ix s K)), bunsOf s) d.1 = ((pre ++ [d]).map fun e => (e.1, (parts k e.2).map fun K => some (ix s1 K)), bunsOf s1) := by
          unfold spStep
          simp only
          rw [er, e1, List.map_append, List.map_cons, List.map_nil]
          congr 2
          apply List.map_congr_left
          intro e' he'
          congr 1
          apply List.map_congr_left
          intro K hK
          rw [p1.ix (hm e' he' K hK)]
        rw [est]
        refine ih (pre ++ [d]) s1 (by rw [← e]; simp) hs1 (hp.trans p1) fun e' he' K hK => ?_
        rcases List.mem_append.mp he' with z | z
        · exact p1.mem (hm e' z K hK)
        · rw [List.mem_singleton.mp z] at hK; exact m1 K hK
    obtain ⟨s1, hs1, p1, m1, e1⟩ := loop es [] sem rfl P (Pre.refl _) (fun _ h => by simp at h)
    have eh : heads A = es.map (·.1) := by rw [q]; exact heads_join h2 fun e he => (h3 e he).ne
    have ee : ent (⟨c, k, A⟩ : KeyS N) = es.map fun e => (e.1, parts k e.2) := by rw [q]; exact ent_join h2 h3
    have hK : Sub F c k ∧ GoodK (⟨c, k, A⟩ : KeyS N) := ⟨ht c k List.mem_cons_self, hA⟩
    have hk : ∀ y ∈ kids (⟨c, k, A⟩ : KeyS N), y ∈ s1 := fun y hy => by
      obtain ⟨e, he, hy⟩ := List.mem_flatMap.mp hy
      rw [ee] at he
      obtain ⟨e', he', rfl⟩ := List.mem_map.mp he
      exact m1 e' he' y hy
    have eb : bunchP c k (bunsOf sem) A = (some (ix (grown s1 ⟨c, k, A⟩) ⟨c, k, A⟩), bunsOf (grown s1 ⟨c, k, A⟩)) := by
      unfold bunchP
      rw [eh]
      have e1' : (es.map (·.1)).foldl (spStep k A) ([], bunsOf sem) = (es.map fun e => (e.1, (parts k e.2).map fun K => some (ix s1 K)), bunsOf s1) := e1
      rw [e1']
      refine put_sem (K := ⟨c, k, A⟩) nd hs1 hK hk ?_
      rw [ee]
      clear e1 e1' eh ee hk hK m1 loop h1 h2 h3 q hA
      unfold alive
      induction es with
      | nil => rfl
      | cons e es ih =>
        rw [List.map_cons, List.filterMap_cons, if_neg (none_not_map _ _), ih, List.map_cons, List.map_cons, List.map_map]
        rfl
    rw [eb]
    obtain ⟨s2, hs2, p2, m2, e2⟩ := split_sem nd (grown_ok hs1 hK hk) hB fun c' k' hm => ht c' k' (List.mem_cons_of_mem _ hm)
    refine ⟨s2, hs2, (p1.trans (grown_pre _ _)).trans p2, fun K hK => ?_, ?_⟩
    · rcases List.mem_cons.mp hK with z | hK
      · rw [z]; exact p2.mem (grown_mem _ _)
      · exact m2 K hK
    · rw [e2, List.map_cons, p2.ix (grown_mem _ _)]
/-- folded, as the program does it -/
def foldedP (n : Nat) (F : Fo N) (S : List Row) : List (Bun N) × Option (List Nat) :=
  if S = [] then ([], none) else finish n (splitP F [] S).2 (splitP F [] S).1
theorem folded_sem {n : Nat} {F : Fo N} {S : List Row} (nd : F.order.Nodup) (h : Good F S) (hn : F.depth ≤ n) :
    foldedP n F S = canon n F S ∧ none ∉ (splitP F [] S).1 ∧ ∀ t ∈ (splitP F [] S).1, Dep (splitP F [] S).2 n (t.getD 0) := by
  obtain ⟨sem, P, p, m, e⟩ := split_sem nd (PoolOk.nil F) h (trees_subs F)
  have e' : splitP F [] S = ((parts F S).map (fun K => some (ix sem K)), bunsOf sem) := e
  unfold foldedP finish
  rw [if_neg h.ne, e']
  simp only
  refine ⟨?_, none_not_map _ _, fun t ht => ?_⟩
  · have eq : ((parts F S).map (fun K => some (ix sem K))).map (fun t => t.getD 0) = (parts F S).map (ix sem) := by rw [List.map_map]; rfl
    rw [if_neg (none_not_map _ _), eq, poolFold_sem P h hn m, canon_good h]
  · obtain ⟨K, hK, rfl⟩ := List.mem_map.mp ht
    have := Fo.trees_depth ((parts_ok h).1 K hK).1
    exact dep_sem P (m K hK) (by omega)
/-! ### how large the pool grows -/
theorem putP_length (h : List (Bun N)) (c : N) (E : List EntO) : (putP h c E).2.length ≤ h.length + 1 := by
  unfold putP
  split
  · simp
  · split <;> simp
theorem putP_length0 (h : List (Bun N)) (c : N) : (putP h c []).2.length = h.length := by unfold putP; rw [if_pos (show alive [] = [] from rfl)]
theorem rest_sum (R : List Row) : ∀ {vs : List Int}, vs.Nodup → (vs.map fun v => (restOf v R).length).sum ≤ R.length := by
  induction R with
  | nil =>
    intro vs _
    have : (vs.map fun v => (restOf v []).length).sum = 0 := by
      induction vs with
      | nil => rfl
      | cons v vs ih => rename_i h; rw [List.map_cons, List.sum_cons, ih (List.nodup_cons.mp h).2]; rfl
    rw [this]; exact Nat.le_refl _
  | cons x R ih =>
    intro vs nd
    have one : ∀ {vs : List Int}, vs.Nodup → (vs.map fun v => (restOf v (x :: R)).length).sum ≤ (vs.map fun v => (restOf v R).length).sum + if x.headD 0 ∈ vs then 1 else 0 := by
      intro vs
      induction vs with
      | nil => intro _; simp
      | cons v vs ih2 =>
        intro nd
        obtain ⟨n1, n2⟩ := List.nodup_cons.mp nd
        have i := ih2 n2
        rw [List.map_cons, List.map_cons, List.sum_cons, List.sum_cons]
        by_cases e : x.headD 0 = v
        · have hv : x.headD 0 ∉ vs := by rw [e]; exact n1
          rw [if_neg hv] at i
          have e1 : (restOf v (x :: R)).length = (restOf v R).length + 1 := by
            unfold restOf
            rw [List.filter_cons, if_pos (by simpa using e)]
            simp
          rw [e1, if_pos (by rw [e]; simp)]
          omega
        · have e1 : (restOf v (x :: R)).length = (restOf v R).length := by
            unfold restOf
            rw [List.filter_cons, if_neg (by simpa using e)]
          have hm : x.headD 0 ∈ v :: vs ↔ x.headD 0 ∈ vs := ⟨fun q => (List.mem_cons.mp q).resolve_left e, fun q => List.mem_cons_of_mem _ q⟩
          rw [e1]
          simp only [hm]
          omega
    have a := one nd
    have b := ih nd
    rw [List.length_cons]
    split at a <;> omega
theorem spFold_length (k : Fo N) (R : List Row) (hk : ∀ (h : List (Bun N)) (S : List Row), (splitP k h S).2.length ≤ h.length + S.length * k.width) : ∀ (vs : List Int) (a : SpSt N), (vs.foldl (spStep k R) a).2.length ≤ a.2.length + (vs.map fun v => (restOf v R).length).sum * k.width
  | [], a => by simp
  | v :: vs, a => by
    have i := spFold_length k R hk vs (spStep k R a v)
    have j := hk a.2 (restOf v R)
    rw [List.foldl_cons, List.map_cons, List.sum_cons, Nat.add_mul]
    have e : (spStep k R a v).2 = (splitP k a.2 (restOf v R)).2 := rfl
    rw [e] at i
    omega
theorem segs_length (w : Nat) (S : List Row) : (segs w S).length ≤ S.length := by
  unfold segs
  exact Nat.le_trans (dd_length_le _) (by simp)
theorem split_length : ∀ (F : Fo N) (h : List (Bun N)) (S : List Row), (splitP F h S).2.length ≤ h.length + S.length * F.width
  | .nil, h, S => by simp [splitP]
  | .cons c k r, h, S => by
    rw [splitP_cons]
    simp only
    have i := split_length r (bunchP c k h (segs (k.width + 1) S)).2 (S.map fun x => x.drop (k.width + 1))
    rw [List.length_map] at i
    have j := spFold_length k (segs (k.width + 1) S) (split_length k) (heads (segs (k.width + 1) S)) ([], h)
    have s1 := rest_sum (segs (k.width + 1) S) (nodup_dd ((segs (k.width + 1) S).map fun x => x.headD 0))
    have s2 := segs_length (k.width + 1) S
    have p : (bunchP c k h (segs (k.width + 1) S)).2.length ≤ ((heads (segs (k.width + 1) S)).foldl (spStep k (segs (k.width + 1) S)) ([], h)).2.length + S.length := by
      by_cases z : S = []
      · subst z
        exact Nat.le_of_eq (putP_length0 h c)
      · have : 0 < S.length := List.length_pos_iff.mpr z
        have := putP_length ((heads (segs (k.width + 1) S)).foldl (spStep k (segs (k.width + 1) S)) ([], h)).2 c ((heads (segs (k.width + 1) S)).foldl (spStep k (segs (k.width + 1) S)) ([], h)).1
        unfold bunchP
        omega
    have m : (List.map (fun v => (restOf v (segs (k.width + 1) S)).length) (heads (segs (k.width + 1) S))).sum * k.width ≤ S.length * k.width := Nat.mul_le_mul_right _ (by unfold heads; omega)
    simp only [Fo.width, Nat.mul_add, Nat.mul_one]
    simp only at j
    omega
end
end Fb

namespace Fb
section
variable {N : Type} [DecidableEq N]
/-! ### no mix bars good rows -/
def valuesIn (cols names : List N) (row : Row) : Row := ((cols.zip row).filter fun p => decide (p.1 ∈ names)).map (·.2)
def outOf (cols inner : List N) (row : Row) : List (Option Int) := (cols.zip row).map fun p => if p.1 ∈ inner then none else some p.2
/-- a node with the columns above it -/
def Node : Fo N → List N → N → Fo N → Prop
  | .nil, _, _, _ => False
  | .cons a j r, as, c, k => (as = [] ∧ a = c ∧ j = k) ∨ (∃ as', as = a :: as' ∧ Node j as' c k) ∨ Node r as c k
theorem Node.sub : ∀ {F : Fo N} {as : List N} {c : N} {k : Fo N}, Node F as c k → Sub F c k
  | .nil, _, _, _, h => h.elim
  | .cons a j r, as, c, k, h => by
    rcases h with ⟨_, h⟩ | ⟨_, _, h⟩ | h
    · exact .inl h
    · exact .inr (.inl h.sub)
    · exact .inr (.inr h.sub)
theorem Node.of_sub : ∀ {F : Fo N} {c : N} {k : Fo N}, Sub F c k → ∃ as, Node F as c k
  | .nil, _, _, h => h.elim
  | .cons a j r, c, k, h => by
    rcases h with h | h | h
    · exact ⟨[], .inl ⟨rfl, h⟩⟩
    · obtain ⟨as, q⟩ := Node.of_sub h; exact ⟨a :: as, .inr (.inl ⟨as, rfl, q⟩)⟩
    · obtain ⟨as, q⟩ := Node.of_sub h; exact ⟨as, .inr (.inr q)⟩
theorem Node.above_mem : ∀ {F : Fo N} {as : List N} {c : N} {k : Fo N}, Node F as c k → ∀ x ∈ as, x ∈ F.order
  | .nil, _, _, _, h, _, _ => h.elim
  | .cons a j r, as, c, k, h, x, hx => by
    simp only [Fo.order, List.mem_cons, List.mem_append]
    rcases h with ⟨e, _⟩ | ⟨as', e, h⟩ | h
    · rw [e] at hx; simp at hx
    · rw [e] at hx
      rcases List.mem_cons.mp hx with q | q
      · exact .inl q
      · exact .inr (.inl (h.above_mem x q))
    · exact .inr (.inr (h.above_mem x hx))
theorem Node.inner_mem {F : Fo N} {as : List N} {c : N} {k : Fo N} (h : Node F as c k) : ∀ x ∈ c :: k.order, x ∈ F.order := fun x hx => by
  rcases List.mem_cons.mp hx with q | q
  · rw [q]; exact h.sub.mem
  · exact h.sub.order x q
theorem Node.apart : ∀ {F : Fo N} {as : List N} {c : N} {k : Fo N}, F.order.Nodup → Node F as c k → ∀ x ∈ as, x ∉ c :: k.order
  | .nil, _, _, _, _, h, _, _ => h.elim
  | .cons a j r, as, c, k, nd, h, x, hx => by
    simp only [Fo.order, List.nodup_cons, List.mem_append, not_or, List.nodup_append] at nd
    obtain ⟨⟨n1, n2⟩, n3, n4, n5⟩ := nd
    rcases h with ⟨e, _⟩ | ⟨as', e, h⟩ | h
    · rw [e] at hx; simp at hx
    · rw [e] at hx
      rcases List.mem_cons.mp hx with q | q
      · rw [q]; exact fun z => n1 (h.inner_mem a z)
      · exact Node.apart n3 h x q
    · exact Node.apart n4 h x hx
theorem valuesIn_append {c1 c2 : List N} {x1 x2 : Row} (names : List N) (h : c1.length = x1.length) : valuesIn (c1 ++ c2) names (x1 ++ x2) = valuesIn c1 names x1 ++ valuesIn c2 names x2 := by
  unfold valuesIn
  rw [List.zip_append h, List.filter_append, List.map_append]
theorem outOf_append {c1 c2 : List N} {x1 x2 : Row} (inner : List N) (h : c1.length = x1.length) : outOf (c1 ++ c2) inner (x1 ++ x2) = outOf c1 inner x1 ++ outOf c2 inner x2 := by
  unfold outOf
  rw [List.zip_append h, List.map_append]
theorem valuesIn_none {cols names : List N} {x : Row} (h : ∀ c ∈ cols, c ∉ names) : valuesIn cols names x = [] := by
  unfold valuesIn
  rw [List.filter_eq_nil_iff.mpr]
  · rfl
  · intro p hp
    have := h p.1 (List.of_mem_zip (a := p.1) (b := p.2) hp).1
    simpa using this
theorem valuesIn_congr {cols n1 n2 : List N} {x : Row} (h : ∀ c ∈ cols, (c ∈ n1 ↔ c ∈ n2)) : valuesIn cols n1 x = valuesIn cols n2 x := by
  unfold valuesIn
  congr 1
  apply List.filter_congr
  intro p hp
  have := h p.1 (List.of_mem_zip (a := p.1) (b := p.2) hp).1
  simp [this]
theorem outOf_congr {cols n1 n2 : List N} {x : Row} (h : ∀ c ∈ cols, (c ∈ n1 ↔ c ∈ n2)) : outOf cols n1 x = outOf cols n2 x := by
  unfold outOf
  apply List.map_congr_left
  intro p hp
  have := h p.1 (List.of_mem_zip (a := p.1) (b := p.2) hp).1
  simp [this]
theorem valuesIn_all : ∀ {cols names : List N} {x : Row}, cols.length = x.length → (∀ c ∈ cols, c ∈ names) → valuesIn cols names x = x
  | [], _, [], _, _ => rfl
  | [], _, _ :: _, h, _ => by simp at h
  | _ :: _, _, [], h, _ => by simp at h
  | c :: cols, names, v :: x, h, hm => by
    have i := valuesIn_all (names := names) (x := x) (cols := cols) (by simpa using h) fun c hc => hm c (List.mem_cons_of_mem _ hc)
    unfold valuesIn at i ⊢
    rw [List.zip_cons_cons, List.filter_cons, if_pos (by simpa using hm c (by simp)), List.map_cons, i]
theorem outOf_all : ∀ {cols inner : List N} {x y : Row}, cols.length = x.length → cols.length = y.length → (∀ c ∈ cols, c ∈ inner) → outOf cols inner x = outOf cols inner y
  | [], _, _, _, _, _, _ => by simp [outOf]
  | _ :: _, _, [], _, h, _, _ => by simp at h
  | _ :: _, _, _ :: _, [], _, h, _ => by simp at h
  | c :: cols, inner, v :: x, w :: y, h, h', hm => by
    have i := outOf_all (inner := inner) (x := x) (y := y) (cols := cols) (by simpa using h) (by simpa using h') fun c hc => hm c (List.mem_cons_of_mem _ hc)
    unfold outOf at i ⊢
    rw [List.zip_cons_cons, List.zip_cons_cons, List.map_cons, List.map_cons, i]
    simp [hm c (by simp)]
/-- what is out and what is in tell the row -/
theorem out_in_inj : ∀ {cols inner : List N} {x y : Row}, cols.length = x.length → cols.length = y.length → outOf cols inner x = outOf cols inner y → valuesIn cols inner x = valuesIn cols inner y → x = y
  | [], _, [], [], _, _, _, _ => rfl
  | [], _, _ :: _, _, h, _, _, _ => by simp at h
  | [], _, _, _ :: _, _, h, _, _ => by simp at h
  | _ :: _, _, [], _, h, _, _, _ => by simp at h
  | _ :: _, _, _, [], _, h, _, _ => by simp at h
  | c :: cols, inner, v :: x, w :: y, h, h', ho, hi => by
    unfold outOf at ho
    unfold valuesIn at hi
    rw [List.zip_cons_cons, List.zip_cons_cons, List.map_cons, List.map_cons, List.cons.injEq] at ho
    rw [List.zip_cons_cons, List.zip_cons_cons, List.filter_cons, List.filter_cons] at hi
    by_cases hc : c ∈ inner
    · rw [if_pos (by simpa using hc), if_pos (by simpa using hc), List.map_cons, List.map_cons, List.cons.injEq] at hi
      rw [show v = w from hi.1, out_in_inj (inner := inner) (x := x) (y := y) (cols := cols) (by simpa using h) (by simpa using h') ho.2 hi.2]
    · rw [if_neg (by simpa using hc), if_neg (by simpa using hc)] at hi
      have hv : v = w := by simpa [hc] using ho.1
      rw [hv, out_in_inj (inner := inner) (x := x) (y := y) (cols := cols) (by simpa using h) (by simpa using h') ho.2 hi]
/-- what stands above is told by what is out -/
theorem above_of_out : ∀ {cols inner names : List N} {x y : Row}, (∀ c ∈ names, c ∉ inner) → outOf cols inner x = outOf cols inner y → valuesIn cols names x = valuesIn cols names y
  | [], _, _, _, _, _, _ => by simp [valuesIn]
  | _ :: _, _, _, [], [], _, _ => rfl
  | _ :: _, _, _, [], _ :: _, _, h => by simp [outOf] at h
  | _ :: _, _, _, _ :: _, [], _, h => by simp [outOf] at h
  | c :: cols, inner, names, v :: x, w :: y, hn, h => by
    unfold outOf at h
    rw [List.zip_cons_cons, List.zip_cons_cons, List.map_cons, List.map_cons, List.cons.injEq] at h
    have i := above_of_out (cols := cols) (x := x) (y := y) hn h.2
    unfold valuesIn at i ⊢
    rw [List.zip_cons_cons, List.zip_cons_cons, List.filter_cons, List.filter_cons]
    by_cases hc : c ∈ names
    · have hv : v = w := by simpa [hn c hc] using h.1
      rw [if_pos (by simpa using hc), if_pos (by simpa using hc), List.map_cons, List.map_cons, i, hv]
    · rw [if_neg (by simpa using hc), if_neg (by simpa using hc), i]
theorem rise_one {α : Type} : ∀ {es : List (Int × α)}, es.Pairwise (fun a b => a.1 < b.1) → ∀ {p q : Int × α}, p ∈ es → q ∈ es → p.1 = q.1 → p = q
  | [], _, _, _, h, _, _ => by simp at h
  | d :: es, hr, p, q, hp, hq, e => by
    obtain ⟨s1, s2⟩ := List.pairwise_cons.mp hr
    rcases List.mem_cons.mp hp with z | z
    · rcases List.mem_cons.mp hq with w | w
      · rw [z, w]
      · have := s1 q w; rw [← z] at this; omega
    · rcases List.mem_cons.mp hq with w | w
      · have := s1 p z; rw [← w] at this; omega
      · exact rise_one s2 z w e
/-- THE MIX stands among the rows -/
theorem mix_mem : ∀ {F : Fo N} {S : List Row} {as : List N} {c : N} {k : Fo N}, F.order.Nodup → Good F S → Node F as c k → ∀ {x y : Row}, x ∈ S → y ∈ S → valuesIn F.order as x = valuesIn F.order as y →
    ∃ z ∈ S, outOf F.order (c :: k.order) z = outOf F.order (c :: k.order) x ∧ valuesIn F.order (c :: k.order) z = valuesIn F.order (c :: k.order) y
  | .nil, _, _, _, _, _, _, h, _, _, _, _, _ => h.elim
  | .cons a j r, S, as, c, k, nd, g, h, x, y, hx, hy, e => by
    have nd0 := nd
    simp only [Fo.order, List.nodup_cons, List.mem_append, not_or, List.nodup_append] at nd
    obtain ⟨⟨n1, n2⟩, n3, n4, n5⟩ := nd
    obtain ⟨es, B, g1, g2, g3, g4, rfl⟩ := g
    obtain ⟨x1, hx1, x2, hx2, rfl⟩ := mem_prod.mp hx
    obtain ⟨y1, hy1, y2, hy2, rfl⟩ := mem_prod.mp hy
    have hA : GoodT j (joinE es) := ⟨es, g1, g2, g3, rfl⟩
    have lx1 := hA.width x1 hx1
    have ly1 := hA.width y1 hy1
    have lx2 := g4.width x2 hx2
    have ly2 := g4.width y2 hy2
    have eo : (Fo.cons a j r).order = (a :: j.order) ++ r.order := rfl
    have l1 : (a :: j.order).length = x1.length := by rw [lx1, List.length_cons, Fo.order_length]
    have l1' : (a :: j.order).length = y1.length := by rw [ly1, List.length_cons, Fo.order_length]
    have l2 : r.order.length = x2.length := by rw [lx2, Fo.order_length]
    have l2' : r.order.length = y2.length := by rw [ly2, Fo.order_length]
    rw [eo] at e ⊢
    rw [valuesIn_append _ l1, valuesIn_append _ l1'] at e
    have behind : ∀ inner : List N, (∀ q ∈ inner, q ∈ a :: j.order) → ∀ q ∈ r.order, q ∉ inner := fun inner hi q hq hq' => by
      rcases List.mem_cons.mp (hi q hq') with z | z
      · exact n2 (z ▸ hq)
      · exact n5 q z q hq rfl
    rcases h with ⟨e1, e2, e3⟩ | ⟨as', e1, h⟩ | h
    · -- the first tree's own column
      subst e2 e3
      refine ⟨y1 ++ x2, mem_prod.mpr ⟨y1, hy1, x2, hx2, rfl⟩, ?_, ?_⟩
      · rw [outOf_append _ l1', outOf_append _ l1, outOf_all l1' l1 fun q hq => hq]
      · rw [valuesIn_append _ l1', valuesIn_append _ l1', valuesIn_none (behind _ fun q hq => hq), valuesIn_none (behind _ fun q hq => hq)]
    · -- within the first tree
      subst e1
      simp only [joinE, List.mem_flatMap, List.mem_map] at hx1 hy1
      obtain ⟨e1, he1, u, hu, rfl⟩ := hx1
      obtain ⟨e2, he2, v, hv, rfl⟩ := hy1
      have hin : ∀ q ∈ c :: k.order, q ∈ j.order := h.inner_mem
      have hab : ∀ q ∈ as', q ∈ j.order := h.above_mem
      have hna : ∀ q ∈ a :: as', q ∉ r.order := fun q hq hq' => by
        rcases List.mem_cons.mp hq with z | z
        · exact n2 (z ▸ hq')
        · exact n5 q (hab q z) q hq' rfl
      rw [valuesIn_none (cols := r.order) fun q hq hq' => hna q hq' hq, valuesIn_none (cols := r.order) fun q hq hq' => hna q hq' hq, List.append_nil, List.append_nil] at e
      have step : ∀ (t : Int) (z : Row), valuesIn (a :: j.order) (a :: as') (t :: z) = t :: valuesIn j.order as' z := fun t z => by
        have q : valuesIn j.order (a :: as') z = valuesIn j.order as' z := valuesIn_congr fun q hq => by
          constructor
          · intro hh
            rcases List.mem_cons.mp hh with y | y
            · exact absurd (y ▸ hq) n1
            · exact y
          · intro hh; exact List.mem_cons_of_mem _ hh
        rw [← q]
        unfold valuesIn
        rw [List.zip_cons_cons, List.filter_cons, if_pos (by simp), List.map_cons]
      rw [step, step, List.cons.injEq] at e
      have ee : e1 = e2 := rise_one g2 he1 he2 e.1
      subst ee
      obtain ⟨z, hz, z1, z2⟩ := mix_mem n3 (g3 e1 he1) h hu hv e.2
      have lz : (a :: j.order).length = (e1.1 :: z).length := by rw [List.length_cons, List.length_cons, Good.width (g3 e1 he1) z hz, Fo.order_length]
      have ha : a ∉ c :: k.order := fun q => n1 (hin a q)
      have hr : ∀ q ∈ r.order, q ∉ c :: k.order := fun q hq hq' => n5 q (hin q hq') q hq rfl
      have so : ∀ (t : Int) (q : Row), outOf (a :: j.order) (c :: k.order) (t :: q) = some t :: outOf j.order (c :: k.order) q := fun t q => by
        unfold outOf
        rw [List.zip_cons_cons, List.map_cons, if_neg ha]
      have si : ∀ (t : Int) (q : Row), valuesIn (a :: j.order) (c :: k.order) (t :: q) = valuesIn j.order (c :: k.order) q := fun t q => by
        unfold valuesIn
        rw [List.zip_cons_cons, List.filter_cons, if_neg (by simpa using ha)]
      refine ⟨(e1.1 :: z) ++ x2, mem_prod.mpr ⟨e1.1 :: z, ?_, x2, hx2, rfl⟩, ?_, ?_⟩
      · simp only [joinE, List.mem_flatMap, List.mem_map]; exact ⟨e1, he1, z, hz, rfl⟩
      · rw [outOf_append _ lz, outOf_append _ l1, so, so, z1]
      · rw [valuesIn_append _ lz, valuesIn_append _ l1', si, si, z2, valuesIn_none hr, valuesIn_none hr]
    · -- behind it
      have hin : ∀ q ∈ c :: k.order, q ∈ r.order := h.inner_mem
      have hab : ∀ q ∈ as, q ∈ r.order := h.above_mem
      have no : ∀ l : List N, (∀ q ∈ l, q ∈ r.order) → ∀ q ∈ a :: j.order, q ∉ l := fun l hl q hq hq' => by
        rcases List.mem_cons.mp hq with z | z
        · exact n2 (z ▸ hl q hq')
        · exact n5 q z q (hl q hq') rfl
      rw [valuesIn_none (no as hab), valuesIn_none (no as hab), List.nil_append, List.nil_append] at e
      obtain ⟨z, hz, z1, z2⟩ := mix_mem n4 g4 h hx2 hy2 e
      refine ⟨x1 ++ z, mem_prod.mpr ⟨x1, hx1, z, hz, rfl⟩, ?_, ?_⟩
      · rw [outOf_append _ l1, outOf_append _ l1, z1]
      · rw [valuesIn_append _ l1, valuesIn_append _ l1', z2, valuesIn_none (no _ hin), valuesIn_none (no _ hin)]
/-! ### counting a product -/
theorem count_prod {α β γ : Type} [DecidableEq β] [DecidableEq γ] {g : List α} (nd : g.Nodup) (f : α → β) (h : α → γ) (hi : ∀ x ∈ g, ∀ y ∈ g, f x = f y → h x = h y → x = y) (hm : ∀ x ∈ g, ∀ y ∈ g, ∃ z ∈ g, f z = f x ∧ h z = h y) :
    (dd (g.map f)).length * (dd (g.map h)).length = g.length := by
  have n1 : (g.map fun x => (f x, h x)).Nodup := List.pairwise_map.mpr (List.Pairwise.imp_of_mem (fun {a b} ha hb hne e => by
    rw [Prod.mk.injEq] at e
    exact hne (hi a ha b hb e.1 e.2)) nd)
  have n2 : ((dd (g.map f)).flatMap fun a => (dd (g.map h)).map fun b => (a, b)).Nodup := by
    have : ∀ (l : List β), l.Nodup → (l.flatMap fun a => (dd (g.map h)).map fun b => (a, b)).Nodup := by
      intro l
      induction l with
      | nil => intro _; exact List.nodup_nil
      | cons a l ih =>
        intro hl
        obtain ⟨h1, h2⟩ := List.nodup_cons.mp hl
        rw [List.flatMap_cons]
        refine List.nodup_append.mpr ⟨List.pairwise_map.mpr ((nodup_dd (g.map h)).imp fun hne e => hne (by rw [Prod.mk.injEq] at e; exact e.2)), ih h2, fun p hp q hq e => ?_⟩
        obtain ⟨b, _, rfl⟩ := List.mem_map.mp hp
        obtain ⟨a', ha', hq⟩ := List.mem_flatMap.mp hq
        obtain ⟨b', _, rfl⟩ := List.mem_map.mp hq
        rw [Prod.mk.injEq] at e
        exact h1 (e.1 ▸ ha')
    exact this _ (nodup_dd _)
  have hp := ((List.perm_ext_iff_of_nodup n2 n1).mpr fun p => by
    obtain ⟨b, c⟩ := p
    simp only [List.mem_flatMap, List.mem_map, mem_dd, Prod.mk.injEq]
    constructor
    · rintro ⟨a, ⟨x, hx, rfl⟩, b', ⟨y, hy, rfl⟩, rfl, rfl⟩
      obtain ⟨z, hz, z1, z2⟩ := hm x hx y hy
      exact ⟨z, hz, z1, z2⟩
    · rintro ⟨x, hx, rfl, rfl⟩
      exact ⟨f x, ⟨x, hx, rfl⟩, h x, ⟨x, hx, rfl⟩, rfl, rfl⟩).length_eq
  rw [List.length_map, List.length_flatMap] at hp
  rw [← hp]
  generalize dd (g.map f) = l
  simp only [List.length_map]
  induction l with
  | nil => simp
  | cons a l ih => rw [List.length_cons, List.map_cons, List.sum_cons, ← ih, Nat.add_mul]; omega
/-- first_missing finds nothing in any group -/
theorem no_mix {F : Fo N} {S : List Row} (nd : F.order.Nodup) (h : S = [] ∨ Good F S) {as : List N} {c : N} {k : Fo N} (hN : Node F as c k) (κ : Row) :
    (dd ((S.filter fun x => decide (valuesIn F.order as x = κ)).map (outOf F.order (c :: k.order)))).length * (dd ((S.filter fun x => decide (valuesIn F.order as x = κ)).map (valuesIn F.order (c :: k.order)))).length = (S.filter fun x => decide (valuesIn F.order as x = κ)).length := by
  rcases h with h | h
  · subst h; rfl
  · have hw : ∀ x ∈ S, F.order.length = x.length := fun x hx => by rw [h.width x hx, Fo.order_length]
    refine count_prod (h.sorted.nodup.filter _) _ _ (fun x hx y hy => ?_) fun x hx y hy => ?_
    · rw [List.mem_filter] at hx hy
      exact out_in_inj (hw x hx.1) (hw y hy.1)
    · rw [List.mem_filter, decide_eq_true_eq] at hx hy
      obtain ⟨z, hz, z1, z2⟩ := mix_mem nd h hN hx.1 hy.1 (hx.2.trans hy.2.symm)
      refine ⟨z, ?_, z1, z2⟩
      rw [List.mem_filter, decide_eq_true_eq]
      exact ⟨hz, (above_of_out (hN.apart nd) z1).trans hx.2⟩
end
end Fb

namespace Fb
section
variable {N : Type} [DecidableEq N]
/-! ### the bunches in another order -/
def renE (o : List Nat) (es : List Ent) : List Ent := es.map fun e => (e.1, e.2.map (ix o))
theorem renB_eq (bs : List (Bun N)) (o : List Nat) : renB bs o = o.filterMap fun i => (bs[i]?).map fun b => (b.1, renE o b.2) := rfl
/-- an order of all numbers below n -/
structure PermOf (o : List Nat) (n : Nat) : Prop where
  nd : o.Nodup
  mem : ∀ i, i ∈ o ↔ i < n
theorem renB_map {bs : List (Bun N)} {o : List Nat} (h : ∀ i ∈ o, i < bs.length) (d : Bun N) : renB bs o = o.map fun i => ((bs.getD i d).1, renE o (bs.getD i d).2) := by
  rw [renB_eq]
  refine filterMap_all fun i hi => ?_
  rw [List.getD_eq_getElem?_getD, List.getElem?_eq_getElem (h i hi)]; rfl
theorem renB_get {bs : List (Bun N)} {o : List Nat} (P : PermOf o bs.length) {i : Nat} {c : N} {es : List Ent} (h : bs[i]? = some (c, es)) : (renB bs o)[ix o i]? = some (c, renE o es) := by
  have hi : i ∈ o := (P.mem i).mpr (List.getElem?_eq_some_iff.mp h).1
  rw [renB_map (fun i hi => (P.mem i).mp hi) (c, es), List.getElem?_map, ix_get hi]
  have : bs.getD i (c, es) = (c, es) := by rw [List.getD_eq_getElem?_getD, h]; rfl
  rw [Option.map_some, this]
theorem renE_rising {o : List Nat} {es : List Ent} (h : Rising es) : Rising (renE o es) := List.pairwise_map.mpr h
theorem ren_part {bs : List (Bun N)} {o : List Nat} (P : PermOf o bs.length) : ∀ {F : Fo N} {ps : List Nat}, PartOk bs F ps → PartOk (renB bs o) F (ps.map (ix o)) ∧ rowsF (renB bs o) F (ps.map (ix o)) = rowsF bs F ps
  | .nil, _, h => by rw [show _ = [] from h]; exact ⟨rfl, rfl⟩
  | .cons c k r, _, h => by
    obtain ⟨p, q, es, rfl, h1, h2, h3, h4⟩ := h
    obtain ⟨i1, i2⟩ := ren_part P h4
    have hg := renB_get P h1
    refine ⟨⟨_, _, _, List.map_cons, hg, renE_rising h2, fun e he => ?_, i1⟩, ?_⟩
    · obtain ⟨d, hd, rfl⟩ := List.mem_map.mp he
      exact (ren_part P (h3 d hd)).1
    · rw [List.map_cons, rowsF_cons, rowsF_cons, i2]
      congr 1
      unfold rowsT
      rw [ents_at hg, ents_at h1]
      unfold renE
      rw [List.flatMap_map]
      exact flatMap_same fun e he => by rw [(ren_part P (h3 e he)).2]
theorem ren_wf {F : Fo N} {bs : List (Bun N)} {o : List Nat} (P : PermOf o bs.length) (wf : WF F bs) : WF F (renB bs o) := by
  intro b hb
  rw [renB_eq] at hb
  obtain ⟨i, hi, e⟩ := List.mem_filterMap.mp hb
  cases hg : bs[i]? with
  | none => rw [hg] at e; cases e
  | some b' =>
    rw [hg] at e
    obtain rfl := Option.some.inj e
    obtain ⟨k, h1, h2, h3⟩ := wf b' (List.mem_of_getElem? hg)
    refine ⟨k, h1, renE_rising h2, fun e he => ?_⟩
    obtain ⟨d, hd, rfl⟩ := List.mem_map.mp he
    exact (ren_part P (h3 d hd)).1
theorem renB_length {bs : List (Bun N)} {o : List Nat} (P : PermOf o bs.length) : (renB bs o).length = bs.length := by
  have e : o.length = bs.length := by
    have := (List.perm_ext_iff_of_nodup P.nd List.nodup_range).mpr fun i => by rw [P.mem i, List.mem_range]
    simpa using this.length_eq
  cases bs with
  | nil =>
    have : o = [] := by simpa using e
    rw [this]; rfl
  | cons b bs => rw [renB_map (fun i hi => (P.mem i).mp hi) b, List.length_map, e]
/-! ### more bunches behind -/
theorem grow_part {bs m : List (Bun N)} : ∀ {F : Fo N} {ps : List Nat}, PartOk bs F ps → PartOk (bs ++ m) F ps ∧ rowsF (bs ++ m) F ps = rowsF bs F ps
  | .nil, _, h => ⟨h, rfl⟩
  | .cons c k r, _, h => by
    obtain ⟨p, q, es, rfl, h1, h2, h3, h4⟩ := h
    obtain ⟨i1, i2⟩ := grow_part (m := m) h4
    have hg : (bs ++ m)[p]? = some (c, es) := by rw [List.getElem?_append_left (List.getElem?_eq_some_iff.mp h1).1]; exact h1
    refine ⟨⟨p, q, es, rfl, hg, h2, fun e he => (grow_part (h3 e he)).1, i1⟩, ?_⟩
    rw [rowsF_cons, rowsF_cons, i2]
    congr 1
    unfold rowsT
    rw [ents_at hg, ents_at h1]
    exact flatMap_same fun e he => by rw [(grow_part (m := m) (h3 e he)).2]
/-! ### each bunch written out for each road to it -/
abbrev SprSt (N : Type) := List Ent × List (Bun N)
def spreadF (bs : List (Bun N)) : Fo N → List (Bun N) → List Nat → List Nat × List (Bun N)
  | .nil, made, _ => ([], made)
  | .cons c k r, made, ps =>
    let st : SprSt N := (ents bs (ps.headD 0)).foldl (fun a e => (a.1 ++ [(e.1, (spreadF bs k a.2 e.2).1)], (spreadF bs k a.2 e.2).2)) ([], made)
    let y := spreadF bs r (st.2 ++ [(c, st.1)]) ps.tail
    (st.2.length :: y.1, y.2)
def sprStep (bs : List (Bun N)) (k : Fo N) (a : SprSt N) (e : Ent) : SprSt N := (a.1 ++ [(e.1, (spreadF bs k a.2 e.2).1)], (spreadF bs k a.2 e.2).2)
theorem spreadF_cons (bs : List (Bun N)) (c : N) (k r : Fo N) (made : List (Bun N)) (p : Nat) (ps : List Nat) : spreadF bs (.cons c k r) made (p :: ps) =
    (((ents bs p).foldl (sprStep bs k) ([], made)).2.length :: (spreadF bs r (((ents bs p).foldl (sprStep bs k) ([], made)).2 ++ [(c, ((ents bs p).foldl (sprStep bs k) ([], made)).1)]) ps).1,
     (spreadF bs r (((ents bs p).foldl (sprStep bs k) ([], made)).2 ++ [(c, ((ents bs p).foldl (sprStep bs k) ([], made)).1)]) ps).2) := rfl
/-- how many bunches come of it, each with three entries at most -/
def Fo.most : Fo N → Nat
  | .nil => 0
  | .cons _ k r => 3 * k.most + 1 + r.most
theorem Fo.most_lt : ∀ F : Fo N, F.most < 4 ^ F.width
  | .nil => Nat.zero_lt_one
  | .cons c k r => by
    have h1 := Fo.most_lt k
    have h2 := Fo.most_lt r
    have e : 4 ^ (k.width + r.width + 1) = 4 * (4 ^ k.width * 4 ^ r.width) := by rw [Nat.pow_succ, Nat.pow_add]; omega
    have p1 : 0 < 4 ^ k.width := Nat.pow_pos (by decide)
    have p2 : 0 < 4 ^ r.width := Nat.pow_pos (by decide)
    have m1 : 4 ^ k.width ≤ 4 ^ k.width * 4 ^ r.width := Nat.le_mul_of_pos_right _ p2
    have m2 : 4 ^ r.width ≤ 4 ^ k.width * 4 ^ r.width := Nat.le_mul_of_pos_left _ p1
    simp only [Fo.most, Fo.width]
    omega
def NewOk (F : Fo N) (all new : List (Bun N)) : Prop := ∀ b ∈ new, (∃ k, Sub F b.1 k ∧ Rising b.2 ∧ ∀ e ∈ b.2, PartOk all k e.2) ∧ b.2.length ≤ 3
theorem NewOk.grow {F : Fo N} {all new m : List (Bun N)} (h : NewOk F all new) : NewOk F (all ++ m) new := fun b hb => by
  obtain ⟨⟨k, h1, h2, h3⟩, h4⟩ := h b hb
  exact ⟨⟨k, h1, h2, fun e he => (grow_part (h3 e he)).1⟩, h4⟩
theorem NewOk.append {F : Fo N} {all a b : List (Bun N)} (h : NewOk F all a) (h' : NewOk F all b) : NewOk F all (a ++ b) := fun x hx => (List.mem_append.mp hx).elim (h x) (h' x)
theorem spread_ok {F : Fo N} {bs : List (Bun N)} (h3 : ∀ b ∈ bs, b.2.length ≤ 3) : ∀ {G : Fo N} {ps : List Nat} {made : List (Bun N)}, PartOk bs G ps → (∀ c k, (c, k) ∈ G.trees → Sub F c k) →
    ∃ new, (spreadF bs G made ps).2 = made ++ new ∧ new.length ≤ G.most ∧ NewOk F (made ++ new) new ∧ PartOk (made ++ new) G (spreadF bs G made ps).1 ∧ rowsF (made ++ new) G (spreadF bs G made ps).1 = rowsF bs G ps
  | .nil, _, made, h, _ => ⟨[], by simp [spreadF], Nat.le_refl _, fun _ h => by simp at h, rfl, rfl⟩
  | .cons c k r, _, made, h, ht => by
    obtain ⟨p, q, es, rfl, h1, h2, hp, h4⟩ := h
    have htk : ∀ c' k', (c', k') ∈ k.trees → Sub F c' k' := fun c' k' hm => (ht c k List.mem_cons_self).trans (Fo.trees_sub hm)
    have hl : es.length ≤ 3 := h3 (c, es) (List.mem_of_getElem? h1)
    rw [spreadF_cons, ents_at h1]
    have loop : ∀ (post pre : List Ent) (acc : List Ent) (new : List (Bun N)), pre ++ post = es → acc.map (·.1) = pre.map (·.1) → new.length ≤ pre.length * k.most → NewOk F (made ++ new) new →
        (∀ (i : Nat) (a e : Ent), acc[i]? = some a → pre[i]? = some e → PartOk (made ++ new) k a.2 ∧ rowsF (made ++ new) k a.2 = rowsF bs k e.2) →
        ∃ acc' new', post.foldl (sprStep bs k) (acc, made ++ new) = (acc', made ++ new') ∧ acc'.map (·.1) = es.map (·.1) ∧ new'.length ≤ es.length * k.most ∧ NewOk F (made ++ new') new' ∧
          (∀ (i : Nat) (a e : Ent), acc'[i]? = some a → es[i]? = some e → PartOk (made ++ new') k a.2 ∧ rowsF (made ++ new') k a.2 = rowsF bs k e.2) := by
      intro post
      induction post with
      | nil =>
        intro pre acc new e e1 e2 e3 e4
        rw [List.append_nil] at e
        subst e
        exact ⟨acc, new, rfl, e1, e2, e3, e4⟩
      | cons d post ih =>
        intro pre acc new e e1 e2 e3 e4
        have hd : d ∈ es := by rw [← e]; simp
        obtain ⟨n2, f1, f2, f3, f4, f5⟩ := spread_ok h3 (made := made ++ new) (hp d hd) htk
        have est : sprStep bs k (acc, made ++ new) d = (acc ++ [(d.1, (spreadF bs k (made ++ new) d.2).1)], made ++ (new ++ n2)) := by
          unfold sprStep
          simp only
          rw [f1, List.append_assoc]
        rw [List.foldl_cons, est]
        have la : acc.length = pre.length := by simpa using congrArg List.length e1
        rw [List.append_assoc] at f3 f4 f5
        refine ih (pre ++ [d]) _ (new ++ n2) (by rw [← e]; simp) (by rw [List.map_append, List.map_append, e1]; rfl) ?_ ?_ ?_
        · rw [List.length_append, List.length_append, List.length_singleton, Nat.add_mul]; omega
        · have e3' := e3.grow (m := n2)
          rw [List.append_assoc] at e3'
          exact e3'.append f3
        · intro i a e' ha he'
          by_cases hi : i < acc.length
          · rw [List.getElem?_append_left hi] at ha
            rw [List.getElem?_append_left (by omega)] at he'
            obtain ⟨g1, g2⟩ := e4 i a e' ha he'
            obtain ⟨g3, g4⟩ := grow_part (m := n2) g1
            rw [List.append_assoc] at g3 g4
            exact ⟨g3, g4.trans g2⟩
          · have hi' : i = acc.length := by
              have := (List.getElem?_eq_some_iff.mp ha).1
              simp at this; omega
            subst hi'
            rw [List.getElem?_append_right (Nat.le_refl _)] at ha
            rw [la, List.getElem?_append_right (Nat.le_refl _)] at he'
            simp at ha he'
            subst ha he'
            exact ⟨f4, f5⟩
    obtain ⟨acc, new, e0, e1, e2, e3, e4⟩ := loop es [] [] [] rfl rfl (by simp) (fun _ h => by simp at h) (fun i a e h => by simp at h)
    rw [List.append_nil] at e0
    rw [e0]
    simp only
    have la : acc.length = es.length := by simpa using congrArg List.length e1
    have hpair : ∀ a ∈ acc, ∃ e ∈ es, a.1 = e.1 ∧ PartOk (made ++ new) k a.2 ∧ rowsF (made ++ new) k a.2 = rowsF bs k e.2 := fun a ha => by
      obtain ⟨i, hi⟩ := List.mem_iff_getElem?.mp ha
      have hi' : i < es.length := by rw [← la]; exact (List.getElem?_eq_some_iff.mp hi).1
      have he := List.getElem?_eq_getElem hi'
      refine ⟨es[i], List.getElem_mem hi', ?_, e4 i a _ hi he⟩
      have := congrArg (fun l => l[i]?) e1
      simp only [List.getElem?_map, hi, he, Option.map_some, Option.some.injEq] at this
      exact this
    have hrise : Rising acc := by
      have : (acc.map (·.1)).Pairwise (· < ·) := by rw [e1]; exact List.pairwise_map.mpr h2
      exact List.pairwise_map.mp this
    have hrows : acc.flatMap (fun e => (rowsF (made ++ new) k e.2).map (e.1 :: ·)) = es.flatMap (fun e => (rowsF bs k e.2).map (e.1 :: ·)) := by
      have : ∀ (l m : List Ent), l.map (·.1) = m.map (·.1) → (∀ (i : Nat) (a e : Ent), l[i]? = some a → m[i]? = some e → rowsF (made ++ new) k a.2 = rowsF bs k e.2) →
          l.flatMap (fun e => (rowsF (made ++ new) k e.2).map (e.1 :: ·)) = m.flatMap (fun e => (rowsF bs k e.2).map (e.1 :: ·)) := by
        intro l
        induction l with
        | nil => intro m hm _; cases m with
          | nil => rfl
          | cons b m => simp at hm
        | cons a l ih =>
          intro m hm hr
          cases m with
          | nil => simp at hm
          | cons b m =>
            rw [List.map_cons, List.map_cons, List.cons.injEq] at hm
            rw [List.flatMap_cons, List.flatMap_cons, ih m hm.2 fun i a' e' ha he => hr (i + 1) a' e' (by simpa using ha) (by simpa using he), hr 0 a b rfl rfl, hm.1]
      exact this acc es e1 fun i a e ha he => (e4 i a e ha he).2
    obtain ⟨n2, f1, f2, f3, f4, f5⟩ := spread_ok h3 (made := made ++ new ++ [(c, acc)]) h4 fun c' k' hm => ht c' k' (List.mem_cons_of_mem _ hm)
    refine ⟨new ++ [(c, acc)] ++ n2, by rw [f1]; simp, ?_, ?_, ?_⟩
    · have m : es.length * k.most ≤ 3 * k.most := Nat.mul_le_mul_right _ hl
      simp only [List.length_append, List.length_singleton, Fo.most]
      omega
    · have eq : made ++ (new ++ [(c, acc)] ++ n2) = made ++ new ++ [(c, acc)] ++ n2 := by simp
      rw [eq]
      refine NewOk.append (NewOk.append ?_ ?_) f3
      · exact (e3.grow (m := [(c, acc)])).grow (m := n2)
      · intro b hb
        rw [List.mem_singleton.mp hb]
        refine ⟨⟨k, ht c k List.mem_cons_self, hrise, fun a ha => ?_⟩, by rw [la]; exact hl⟩
        obtain ⟨_, _, _, g, _⟩ := hpair a ha
        exact (grow_part (grow_part g).1).1
    · have eq : made ++ (new ++ [(c, acc)] ++ n2) = made ++ new ++ [(c, acc)] ++ n2 := by simp
      rw [eq]
      have hg : (made ++ new ++ [(c, acc)] ++ n2)[(made ++ new).length]? = some (c, acc) := by
        rw [List.getElem?_append_left (by simp), List.getElem?_append_right (Nat.le_refl _)]
        simp
      refine ⟨⟨_, _, _, rfl, hg, hrise, fun a ha => ?_, f4⟩, ?_⟩
      · obtain ⟨_, _, _, g, _⟩ := hpair a ha
        exact (grow_part (grow_part g).1).1
      · rw [rowsF_cons, rowsF_cons, f5]
        congr 1
        unfold rowsT
        rw [ents_at hg, ents_at h1, ← hrows]
        refine flatMap_same fun a ha => ?_
        obtain ⟨_, _, _, g, _⟩ := hpair a ha
        rw [(grow_part (m := n2) (grow_part (m := [(c, acc)]) g).1).2, (grow_part (m := [(c, acc)]) g).2]
theorem newOk_wf {F : Fo N} {bs : List (Bun N)} (h : NewOk F bs bs) : WF F bs := fun b hb => (h b hb).1
/-! ### one value otherwise -/
def bump (es : List Ent) (d : Int) : List Ent := match es.getLast? with
  | some e => es.dropLast ++ [(e.1 + d, e.2)]
  | none => es
theorem bump_snoc (es : List Ent) (e : Ent) (d : Int) : bump (es ++ [e]) d = es ++ [(e.1 + d, e.2)] := by simp [bump]
theorem bump_ok {es : List Ent} {d : Int} (hd : 0 < d) (h : Rising es) : Rising (bump es d) ∧ (bump es d).map (·.2) = es.map (·.2) ∧ (bump es d).length = es.length := by
  rcases List.eq_nil_or_concat es with e | ⟨l, e, q⟩
  · subst e; exact ⟨h, rfl, rfl⟩
  · rw [List.concat_eq_append] at q
    subst q
    rw [bump_snoc]
    refine ⟨?_, by simp, by simp⟩
    obtain ⟨h1, h2, h3⟩ := List.pairwise_append.mp h
    refine List.pairwise_append.mpr ⟨h1, List.pairwise_singleton _ _, fun a ha b hb => ?_⟩
    rw [List.mem_singleton.mp hb]
    have := h3 a ha e (by simp)
    simp only
    omega
theorem bump_part {bs : List (Bun N)} {i : Nat} {c : N} {es : List Ent} {d : Int} (hd : 0 < d) (hi : bs[i]? = some (c, es)) : ∀ {F : Fo N} {ps : List Nat}, PartOk bs F ps → PartOk (bs.set i (c, bump es d)) F ps
  | .nil, _, h => h
  | .cons a k r, _, h => by
    obtain ⟨p, q, fs, rfl, h1, h2, h3, h4⟩ := h
    have hlt := (List.getElem?_eq_some_iff.mp hi).1
    by_cases e : i = p
    · subst e
      rw [hi] at h1
      cases h1
      obtain ⟨b1, b2, b3⟩ := bump_ok hd h2
      refine ⟨i, q, bump es d, rfl, by rw [List.getElem?_set_self hlt], b1, fun e he => ?_, bump_part hd hi h4⟩
      have hm : e.2 ∈ (bump es d).map (·.2) := List.mem_map.mpr ⟨e, he, rfl⟩
      rw [b2] at hm
      obtain ⟨e', he', q'⟩ := List.mem_map.mp hm
      rw [← q']
      exact bump_part hd hi (h3 e' he')
    · exact ⟨p, q, fs, rfl, by rw [List.getElem?_set_ne e]; exact h1, h2, fun e he => bump_part hd hi (h3 e he), bump_part hd hi h4⟩
theorem bump_wf {F : Fo N} {bs : List (Bun N)} {i : Nat} {c : N} {es : List Ent} {d : Int} (hd : 0 < d) (hi : bs[i]? = some (c, es)) (wf : WF F bs) : WF F (bs.set i (c, bump es d)) := by
  intro b hb
  obtain ⟨j, hj⟩ := List.mem_iff_getElem?.mp hb
  by_cases e : i = j
  · subst e
    rw [List.getElem?_set_self (List.getElem?_eq_some_iff.mp hi).1] at hj
    obtain rfl := Option.some.inj hj
    obtain ⟨k, h1, h2, h3⟩ := wf (c, es) (List.mem_of_getElem? hi)
    obtain ⟨b1, b2, b3⟩ := bump_ok hd h2
    refine ⟨k, h1, b1, fun e he => ?_⟩
    have hm : e.2 ∈ (bump es d).map (·.2) := List.mem_map.mpr ⟨e, he, rfl⟩
    rw [b2] at hm
    obtain ⟨e', he', q'⟩ := List.mem_map.mp hm
    rw [← q']
    exact bump_part hd hi (h3 e' he')
  · rw [List.getElem?_set_ne e] at hj
    obtain ⟨k, h1, h2, h3⟩ := wf b (List.mem_of_getElem? hj)
    exact ⟨k, h1, h2, fun e he => bump_part hd hi (h3 e he)⟩
/-! ### how many rows there are -/
theorem rowsF_length {bs : List (Bun N)} (h3 : ∀ b ∈ bs, b.2.length ≤ 3) : ∀ (F : Fo N) (ps : List Nat), (rowsF bs F ps).length ≤ 3 ^ F.width
  | .nil, _ => by simp [rowsF, Fo.width]
  | .cons c k r, ps => by
    show (prod (rowsT bs k (ps.headD 0)) (rowsF bs r ps.tail)).length ≤ _
    rw [length_prod]
    have i2 := rowsF_length h3 r ps.tail
    have he : (ents bs (ps.headD 0)).length ≤ 3 := by
      unfold ents
      cases q : bs[ps.headD 0]? with
      | none => simp
      | some b => exact h3 b (List.mem_of_getElem? q)
    have i1 : (rowsT bs k (ps.headD 0)).length ≤ 3 * 3 ^ k.width := by
      unfold rowsT
      rw [List.length_flatMap]
      generalize ents bs (ps.headD 0) = es at he
      have : ∀ es : List Ent, (es.map fun e => ((rowsF bs k e.2).map (e.1 :: ·)).length).sum ≤ es.length * 3 ^ k.width := by
        intro es
        induction es with
        | nil => simp
        | cons e es ih =>
          rw [List.map_cons, List.sum_cons, List.length_map, List.length_cons, Nat.add_mul]
          have := rowsF_length h3 k e.2
          omega
      exact Nat.le_trans (this es) (Nat.mul_le_mul_right _ he)
    have e : 3 ^ (Fo.cons c k r).width = 3 * 3 ^ k.width * 3 ^ r.width := by
      show 3 ^ (k.width + r.width + 1) = _
      rw [Nat.pow_succ, Nat.pow_add, Nat.mul_comm _ 3, Nat.mul_assoc]
    rw [e]
    exact Nat.mul_le_mul i1 i2
end
end Fb

namespace Fb
section
variable {N : Type} [DecidableEq N]
/-! ### a tree from its pairs -/
abbrev Prs (N : Type) := List (N × Option N)
def Kids (ps : Prs N) (x : Option N) : List N := (ps.filter fun p => decide (p.2 = x)).map (·.1)
theorem Kids_append (a b : Prs N) (x : Option N) : Kids (a ++ b) x = Kids a x ++ Kids b x := by simp [Kids]
theorem Kids_cons (p : N × Option N) (b : Prs N) (x : Option N) : Kids (p :: b) x = (if p.2 = x then [p.1] else []) ++ Kids b x := by
  unfold Kids
  rw [List.filter_cons]
  by_cases h : p.2 = x <;> simp [h]
theorem mem_Kids {ps : Prs N} {x : Option N} {c : N} : c ∈ Kids ps x ↔ (c, x) ∈ ps := by
  unfold Kids
  simp only [List.mem_map, List.mem_filter, decide_eq_true_eq]
  constructor
  · rintro ⟨⟨a, b⟩, ⟨h1, h2⟩, h3⟩; simp only at h2 h3; rw [← h2, ← h3]; exact h1
  · intro h; exact ⟨(c, x), ⟨h, rfl⟩, rfl⟩
/-- pairs of a tree: new columns, each over none or one ahead -/
def PairsOk : Prs N → Prop
  | [] => True
  | p :: r => PairsOk r ∧ p.1 ∉ r.map (·.1) ∧ ∀ x, p.2 = some x → x ∈ r.map (·.1)
def Fo.snoc (c : N) : Fo N → Fo N
  | .nil => .cons c .nil .nil
  | .cons a k r => .cons a k (r.snoc c)
def Fo.put (p c : N) : Fo N → Fo N
  | .nil => .nil
  | .cons a k r => .cons a (if a = p then k.snoc c else k.put p c) (r.put p c)
def Fo.add (o : Option N) (c : N) (F : Fo N) : Fo N := match o with
  | none => F.snoc c
  | some p => F.put p c
theorem snoc_tops (c : N) : ∀ F : Fo N, (F.snoc c).tops = F.tops ++ [c]
  | .nil => rfl
  | .cons a k r => by simp [Fo.snoc, Fo.tops, snoc_tops c r]
theorem snoc_order (c : N) : ∀ F : Fo N, (F.snoc c).order = F.order ++ [c]
  | .nil => rfl
  | .cons a k r => by simp [Fo.snoc, Fo.order, snoc_order c r]
theorem snoc_sub {c : N} : ∀ {F : Fo N} {x : N} {k : Fo N}, Sub (F.snoc c) x k ↔ Sub F x k ∨ (x = c ∧ k = .nil)
  | .nil, x, k => by
    simp only [Fo.snoc, Sub, or_false, false_or]
    constructor
    · rintro ⟨h1, h2⟩; exact ⟨h1.symm, h2.symm⟩
    · rintro ⟨h1, h2⟩; exact ⟨h1.symm, h2.symm⟩
  | .cons a j r, x, k => by
    simp only [Fo.snoc, Sub, snoc_sub (F := r)]
    constructor
    · rintro (h | h | h | h)
      · exact .inl (.inl h)
      · exact .inl (.inr (.inl h))
      · exact .inl (.inr (.inr h))
      · exact .inr h
    · rintro ((h | h | h) | h)
      · exact .inl h
      · exact .inr (.inl h)
      · exact .inr (.inr (.inl h))
      · exact .inr (.inr (.inr h))
theorem put_tops (p c : N) : ∀ F : Fo N, (F.put p c).tops = F.tops
  | .nil => rfl
  | .cons a k r => by simp [Fo.put, Fo.tops, put_tops p c r]
theorem put_out {p c : N} : ∀ {F : Fo N}, p ∉ F.order → F.put p c = F
  | .nil, _ => rfl
  | .cons a k r, h => by
    simp only [Fo.order, List.mem_cons, List.mem_append, not_or] at h
    simp only [Fo.put]
    rw [if_neg (Ne.symm h.1), put_out h.2.1, put_out h.2.2]
theorem put_order {p c : N} : ∀ {F : Fo N}, F.order.Nodup → p ∈ F.order → ∀ x, x ∈ (F.put p c).order ↔ x ∈ F.order ∨ x = c
  | .nil, _, h, _ => by simp [Fo.order] at h
  | .cons a k r, nd, h, x => by
    simp only [Fo.order, List.nodup_cons, List.mem_append, not_or, List.nodup_append] at nd
    obtain ⟨⟨n1, n2⟩, n3, n4, n5⟩ := nd
    simp only [Fo.order, List.mem_cons, List.mem_append] at h
    simp only [Fo.put, Fo.order, List.mem_cons, List.mem_append]
    by_cases e : a = p
    · subst e
      rw [if_pos rfl, put_out n2, snoc_order]
      simp only [List.mem_append, List.mem_singleton]
      constructor
      · rintro (h | (h | h) | h)
        · exact .inl (.inl h)
        · exact .inl (.inr (.inl h))
        · exact .inr h
        · exact .inl (.inr (.inr h))
      · rintro ((h | h | h) | h)
        · exact .inl h
        · exact .inr (.inl (.inl h))
        · exact .inr (.inr h)
        · exact .inr (.inl (.inr h))
    · rw [if_neg e]
      rcases h with h | h | h
      · exact absurd h.symm e
      · rw [put_order n3 h x, put_out (fun z => n5 p h p z rfl)]
        constructor
        · rintro (h | (h | h) | h)
          · exact .inl (.inl h)
          · exact .inl (.inr (.inl h))
          · exact .inr h
          · exact .inl (.inr (.inr h))
        · rintro ((h | h | h) | h)
          · exact .inl h
          · exact .inr (.inl (.inl h))
          · exact .inr (.inr h)
          · exact .inr (.inl (.inr h))
      · rw [put_order n4 h x, put_out (fun z => n5 p z p h rfl)]
        constructor
        · rintro (h | h | (h | h))
          · exact .inl (.inl h)
          · exact .inl (.inr (.inl h))
          · exact .inl (.inr (.inr h))
          · exact .inr h
        · rintro ((h | h | h) | h)
          · exact .inl h
          · exact .inr (.inl h)
          · exact .inr (.inr (.inl h))
          · exact .inr (.inr (.inr h))
theorem put_nodup {p c : N} : ∀ {F : Fo N}, F.order.Nodup → p ∈ F.order → c ∉ F.order → (F.put p c).order.Nodup
  | .nil, _, h, _ => by simp [Fo.order] at h
  | .cons a k r, nd, h, hc => by
    simp only [Fo.order, List.nodup_cons, List.mem_append, not_or, List.nodup_append] at nd
    obtain ⟨⟨n1, n2⟩, n3, n4, n5⟩ := nd
    simp only [Fo.order, List.mem_cons, List.mem_append] at h
    simp only [Fo.order, List.mem_cons, List.mem_append, not_or] at hc
    obtain ⟨c1, c2, c3⟩ := hc
    simp only [Fo.put, Fo.order, List.nodup_cons, List.mem_append, not_or, List.nodup_append]
    by_cases e : a = p
    · subst e
      rw [if_pos rfl, put_out n2, snoc_order]
      simp only [List.mem_append, List.mem_singleton, not_or, List.nodup_append]
      refine ⟨⟨⟨n1, Ne.symm c1⟩, n2⟩, ⟨n3, by simp, fun x hx y hy e => c2 ?_⟩, n4, fun x hx y hy e => ?_⟩
      · rw [← hy, ← e]; exact hx
      · rcases hx with hx | hx
        · exact n5 x hx y hy e
        · exact c3 (by rw [← hx, e]; exact hy)
    · rw [if_neg e]
      rcases h with h | h | h
      · exact absurd h.symm e
      · rw [put_out (fun z => n5 p h p z rfl)]
        refine ⟨⟨fun z => ?_, n2⟩, put_nodup n3 h c2, n4, fun x hx y hy e => ?_⟩
        · rcases (put_order n3 h a).mp z with z | z
          · exact n1 z
          · exact c1 z.symm
        · rcases (put_order n3 h x).mp hx with z | z
          · exact n5 x z y hy e
          · exact c3 (by rw [← z, e]; exact hy)
      · rw [put_out (fun z => n5 p z p h rfl)]
        refine ⟨⟨n1, fun z => ?_⟩, n3, put_nodup n4 h c3, fun x hx y hy e => ?_⟩
        · rcases (put_order n4 h a).mp z with z | z
          · exact n2 z
          · exact c1 z.symm
        · rcases (put_order n4 h y).mp hy with z | z
          · exact n5 x hx y z e
          · exact c2 (by rw [← z, ← e]; exact hx)
/-- a node of the tree with one more -/
theorem put_sub {p c : N} : ∀ {F : Fo N} {x : N} {k' : Fo N}, F.order.Nodup → p ∈ F.order → Sub (F.put p c) x k' → (x = c ∧ k' = .nil) ∨ ∃ k, Sub F x k ∧ k'.tops = if x = p then k.tops ++ [c] else k.tops
  | .nil, _, _, _, h, _ => by simp [Fo.order] at h
  | .cons a k r, x, k', nd, h, hs => by
    have nd0 := nd
    simp only [Fo.order, List.nodup_cons, List.mem_append, not_or, List.nodup_append] at nd
    obtain ⟨⟨n1, n2⟩, n3, n4, n5⟩ := nd
    simp only [Fo.order, List.mem_cons, List.mem_append] at h
    rw [Fo.put] at hs
    have stay : ∀ {G : Fo N}, p ∉ G.order → Sub G x k' → (G = k ∨ G = r) → (x = c ∧ k' = .nil) ∨ ∃ j, Sub (.cons a k r) x j ∧ k'.tops = if x = p then j.tops ++ [c] else j.tops := fun {G} hp hG hk => by
      refine .inr ⟨k', ?_, ?_⟩
      · rcases hk with e | e
        · rw [e] at hG; exact .inr (.inl hG)
        · rw [e] at hG; exact .inr (.inr hG)
      · rw [if_neg (fun z : x = p => hp (z ▸ hG.mem))]
    rcases hs with ⟨e1, e2⟩ | hs | hs
    · refine .inr ⟨k, .inl ⟨e1, rfl⟩, ?_⟩
      rw [← e2, ← e1]
      by_cases z : a = p
      · rw [if_pos z, if_pos z, snoc_tops]
      · rw [if_neg z, if_neg z, put_tops]
    · by_cases z : a = p
      · rw [if_pos z] at hs
        rcases snoc_sub.mp hs with q | q
        · exact stay (by rw [← z]; exact n1) q (.inl rfl)
        · exact .inl q
      · rw [if_neg z] at hs
        rcases h with h | h | h
        · exact absurd h.symm z
        · rcases put_sub n3 h hs with q | ⟨j, q1, q2⟩
          · exact .inl q
          · exact .inr ⟨j, .inr (.inl q1), q2⟩
        · rw [put_out (fun w => n5 p w p h rfl)] at hs
          exact stay (fun w => n5 p w p h rfl) hs (.inl rfl)
    · by_cases z : p ∈ r.order
      · rcases put_sub n4 z hs with q | ⟨j, q1, q2⟩
        · exact .inl q
        · exact .inr ⟨j, .inr (.inr q1), q2⟩
      · rw [put_out z] at hs
        exact stay z hs (.inr rfl)
/-- the tree has just these pairs -/
structure Shape (ps : Prs N) (F : Fo N) : Prop where
  nd : F.order.Nodup
  mem : ∀ x, x ∈ F.order ↔ x ∈ ps.map (·.1)
  tops : F.tops = Kids ps none
  kids : ∀ c k, Sub F c k → k.tops = Kids ps (some c)
/-- the tree of some pairs, the last one told first -/
def build : Prs N → Fo N
  | [] => .nil
  | p :: r => (build r).add p.2 p.1
theorem Kids_out {ps : Prs N} (h : PairsOk ps) {c : N} (hc : c ∉ ps.map (·.1)) : Kids ps (some c) = [] := by
  induction ps with
  | nil => rfl
  | cons p r ih =>
    obtain ⟨h1, h2, h3⟩ := h
    rw [List.map_cons, List.mem_cons, not_or] at hc
    rw [Kids_cons, ih h1 hc.2, if_neg fun e => hc.2 (h3 c e)]
    rfl
theorem PairsOk.rev_kids {ps : Prs N} (x : Option N) : Kids ps.reverse x = (Kids ps x).reverse := by simp [Kids, List.filter_reverse]
theorem build_shape : ∀ {ps : Prs N}, PairsOk ps → Shape ps.reverse (build ps)
  | [], _ => ⟨List.nodup_nil, fun x => by simp [build, Fo.order], rfl, fun _ _ h => h.elim⟩
  | p :: r, h => by
    obtain ⟨h1, h2, h3⟩ := h
    have I := build_shape h1
    obtain ⟨c, o⟩ := p
    simp only at h2 h3
    have hc : c ∉ (build r).order := fun q => h2 (by simpa using (I.mem c).mp q)
    have hk : ∀ x, Kids (((c, o) :: r).reverse) x = Kids r.reverse x ++ if o = x then [c] else [] := fun x => by
      rw [List.reverse_cons, Kids_append, Kids_cons]; simp [Kids]
    have hcn : Kids r.reverse (some c) = [] := by rw [PairsOk.rev_kids, Kids_out h1 h2]; rfl
    cases o with
    | none =>
      show Shape _ ((build r).snoc c)
      refine ⟨by rw [snoc_order]; exact List.nodup_append.mpr ⟨I.nd, by simp, fun a ha b hb e => hc (by rw [← List.mem_singleton.mp hb, ← e]; exact ha)⟩, fun x => ?_, by rw [snoc_tops, hk, I.tops]; rfl, fun d k hs => ?_⟩
      · rw [snoc_order, List.mem_append, I.mem x]; simp
      · rw [hk]
        rcases snoc_sub.mp hs with q | ⟨q1, q2⟩
        · rw [I.kids d k q]; simp
        · rw [q1, q2, hcn]; rfl
    | some p =>
      show Shape _ ((build r).put p c)
      have hp : p ∈ (build r).order := (I.mem p).mpr (by simpa using h3 p rfl)
      have hpc : p ≠ c := fun e => hc (e ▸ hp)
      refine ⟨put_nodup I.nd hp hc, fun x => ?_, by rw [put_tops, hk, I.tops]; simp, fun d k hs => ?_⟩
      · rw [put_order I.nd hp x, I.mem x]; simp
      · rw [hk]
        rcases put_sub I.nd hp hs with ⟨q1, q2⟩ | ⟨j, q1, q2⟩
        · rw [q1, q2, hcn, if_neg (by simpa using hpc)]; rfl
        · rw [q2, ← I.kids d j q1]
          by_cases z : d = p
          · rw [if_pos z, if_pos (by rw [z])]
          · rw [if_neg z, if_neg (by simpa using Ne.symm z), List.append_nil]
/-! ### the pairs in the tree's order -/
def Fo.pairs : Fo N → Option N → Prs N
  | .nil, _ => []
  | .cons c k r, o => (c, o) :: (k.pairs (some c) ++ r.pairs o)
theorem Fo.pairs_fst : ∀ (F : Fo N) (o : Option N), (F.pairs o).map (·.1) = F.order
  | .nil, _ => rfl
  | .cons c k r, o => by simp [Fo.pairs, Fo.order, Fo.pairs_fst k, Fo.pairs_fst r]
theorem kids_pairs_out : ∀ {F : Fo N} {o : Option N} {x : Option N}, o ≠ x → (∀ c, x = some c → c ∉ F.order) → Kids (F.pairs o) x = []
  | .nil, _, _, _, _ => rfl
  | .cons c k r, o, x, h, hx => by
    rw [Fo.pairs, Kids_cons, Kids_append, if_neg h, kids_pairs_out (F := r) h fun d e => ?_, kids_pairs_out (F := k) (fun e => ?_) fun d e => ?_]
    · rfl
    · exact hx c e.symm (by simp [Fo.order])
    · exact fun q => hx d e (by simp [Fo.order, q])
    · exact fun q => hx d e (by simp [Fo.order, q])
theorem kids_pairs_top : ∀ {F : Fo N} {o : Option N}, (∀ c, o = some c → c ∉ F.order) → Kids (F.pairs o) o = F.tops
  | .nil, _, _ => rfl
  | .cons c k r, o, h => by
    rw [Fo.pairs, Kids_cons, Kids_append, if_pos rfl, kids_pairs_top (F := r) fun d e q => h d e (by simp [Fo.order, q]), kids_pairs_out (F := k) (fun e => h c e.symm (by simp [Fo.order])) fun d e q => h d e (by simp [Fo.order, q])]
    rfl
theorem kids_pairs : ∀ {F : Fo N} {o : Option N} {c : N} {j : Fo N}, F.order.Nodup → (∀ d, o = some d → d ∉ F.order) → Sub F c j → Kids (F.pairs o) (some c) = j.tops
  | .nil, _, _, _, _, _, h => h.elim
  | .cons a k r, o, c, j, nd, ho, h => by
    have hc : o ≠ some c := fun e => ho c e h.mem
    simp only [Fo.order, List.nodup_cons, List.mem_append, not_or, List.nodup_append] at nd
    obtain ⟨⟨n1, n2⟩, n3, n4, n5⟩ := nd
    rw [Fo.pairs, Kids_cons, Kids_append, if_neg hc, List.nil_append]
    have hro : ∀ d, o = some d → d ∉ r.order := fun d e q => ho d e (by simp [Fo.order, q])
    rcases h with ⟨e1, e2⟩ | h | h
    · subst e1 e2
      rw [kids_pairs_top fun d e => by rw [← Option.some.inj e]; exact n1, kids_pairs_out hc fun d e => by rw [← Option.some.inj e]; exact n2, List.append_nil]
    · rw [kids_pairs n3 (fun d e => by rw [← Option.some.inj e]; exact n1) h, kids_pairs_out hc fun d e q => n5 c h.mem d q (Option.some.inj e), List.append_nil]
    · rw [kids_pairs n4 hro h, kids_pairs_out (F := k) (fun e => n2 (by rw [Option.some.inj e]; exact h.mem)) fun d e q => n5 d q c h.mem (Option.some.inj e).symm]
      rfl
theorem pairs_shape {F : Fo N} (nd : F.order.Nodup) : Shape (F.pairs none) F :=
  ⟨nd, fun x => by rw [Fo.pairs_fst], (kids_pairs_top fun _ e => by cases e).symm, fun c k h => (kids_pairs nd (fun _ e => by cases e) h).symm⟩
/-- its pairs are the tree's, whatever their order -/
theorem pairs_mem {ps : Prs N} {F : Fo N} (h : Shape ps F) : ∀ p ∈ F.pairs none, p ∈ ps := by
  have main : ∀ {G : Fo N} {o : Option N}, (∀ c k, Sub G c k → Sub F c k) → (∀ x ∈ G.tops, x ∈ Kids ps o) → ∀ p ∈ G.pairs o, p ∈ ps := by
    intro G
    induction G with
    | nil => intro o _ _ p hp; simp [Fo.pairs] at hp
    | cons c k r ih1 ih2 =>
      intro o hs ht p hp
      rw [Fo.pairs, List.mem_cons, List.mem_append] at hp
      rcases hp with e | hp | hp
      · rw [e]; exact mem_Kids.mp (ht c (by simp [Fo.tops]))
      · exact ih1 (fun d j q => hs d j (.inr (.inl q))) (fun x hx => by rw [← h.kids c k (hs c k (.inl ⟨rfl, rfl⟩))]; exact hx) p hp
      · exact ih2 (fun d j q => hs d j (.inr (.inr q))) (fun x hx => ht x (by simp [Fo.tops, hx])) p hp
  exact main (fun _ _ q => q) fun x hx => by rw [← h.tops]; exact hx
theorem fst_inj {ps : Prs N} (nd : (ps.map (·.1)).Nodup) {c : N} {o o' : Option N} (h : (c, o) ∈ ps) (h' : (c, o') ∈ ps) : o = o' := by
  induction ps with
  | nil => simp at h
  | cons p r ih =>
    rw [List.map_cons, List.nodup_cons] at nd
    rcases List.mem_cons.mp h with e | h
    · rcases List.mem_cons.mp h' with e' | h'
      · rw [← e] at e'; injection e' with _ e2; exact e2.symm
      · exact absurd (List.mem_map.mpr ⟨(c, o'), h', by rw [← e]⟩) nd.1
    · rcases List.mem_cons.mp h' with e' | h'
      · exact absurd (List.mem_map.mpr ⟨(c, o), h, by rw [← e']⟩) nd.1
      · exact ih nd.2 h h'
/-- what stands right above a node -/
theorem Node.over {F : Fo N} : ∀ {G : Fo N} {o : Option N} {as : List N} {c : N} {k : Fo N}, Node G as c k → (∀ p ∈ G.pairs o, p ∈ F.pairs none) → (c, match as.getLast? with | some x => some x | none => o) ∈ F.pairs none
  | .nil, _, _, _, _, h, _ => h.elim
  | .cons a j r, o, as, c, k, h, hp => by
    rcases h with ⟨e1, e2, e3⟩ | ⟨as', e1, h⟩ | h
    · subst e1 e2; exact hp _ (by simp [Fo.pairs])
    · have := Node.over (o := some a) h fun p q => hp p (by simp [Fo.pairs, q])
      subst e1
      rw [List.getLast?_cons]
      cases q : as'.getLast? with
      | none => rw [q] at this; exact this
      | some x => rw [q] at this; exact this
    · exact Node.over h fun p q => hp p (by simp [Fo.pairs, q])
/-- one step up -/
theorem Node.up : ∀ {F : Fo N} {as : List N} {p c : N} {k : Fo N}, Node F (as ++ [p]) c k → ∃ j, Node F as p j
  | .nil, _, _, _, _, h => h.elim
  | .cons a j r, as, p, c, k, h => by
    rcases h with ⟨e1, _⟩ | ⟨as', e1, h⟩ | h
    · simp at e1
    · cases as with
      | nil =>
        simp at e1
        exact ⟨j, .inl ⟨rfl, e1.1.symm, rfl⟩⟩
      | cons b as =>
        simp at e1
        obtain ⟨rfl, rfl⟩ := e1
        obtain ⟨i, q⟩ := Node.up h
        exact ⟨i, .inr (.inl ⟨as, rfl, q⟩)⟩
    · obtain ⟨i, q⟩ := Node.up h
      exact ⟨i, .inr (.inr q)⟩
theorem Node.len : ∀ {F : Fo N} {as : List N} {c : N} {k : Fo N}, Node F as c k → as.length + 1 ≤ F.depth
  | .nil, _, _, _, h => h.elim
  | .cons a j r, as, c, k, h => by
    simp only [Fo.depth]
    rcases h with ⟨e1, _⟩ | ⟨as', e1, h⟩ | h
    · rw [e1]; simp; omega
    · have := h.len
      rw [e1, List.length_cons]; omega
    · have := h.len; omega
end
end Fb

namespace Fb
/-! ### splitting rows, tree by tree -/
section
variable {N : Type} [DecidableEq N]
/-- copies of rows that fold -/
def Rep (F : Fo N) (S : List Row) : Prop := ∃ (B : List Row) (l : List Row), l ≠ [] ∧ Good F B ∧ S = l.flatMap fun _ => B
theorem Good.rep {F : Fo N} {S : List Row} (h : Good F S) : Rep F S := ⟨S, [[]], by simp, h, by simp⟩
theorem segs_rep {w : Nat} {B : List Row} {l : List Row} (hl : l ≠ []) : segs w (l.flatMap fun _ => B) = segs w B := by
  unfold segs
  rw [List.map_flatMap, dd_again _ hl]
theorem Rep.head {c : N} {k r : Fo N} {S : List Row} (h : Rep (.cons c k r) S) : GoodT k (segs (k.width + 1) S) := by
  obtain ⟨B, l, hl, hB, rfl⟩ := h
  obtain ⟨A, B', hA, hB', rfl⟩ := good_cons.mp hB
  rw [segs_rep hl, segs_prod hA hB'.ne]
  exact hA
theorem Rep.tail {c : N} {k r : Fo N} {S : List Row} (h : Rep (.cons c k r) S) : Rep r (S.map fun x => x.drop (k.width + 1)) := by
  obtain ⟨B, l, hl, hB, rfl⟩ := h
  obtain ⟨A, B', hA, hB', rfl⟩ := good_cons.mp hB
  refine ⟨B', l.flatMap fun _ => A, ?_, hB', ?_⟩
  · cases l with
    | nil => exact absurd rfl hl
    | cons x l =>
      rw [List.flatMap_cons]
      exact fun q => hA.ne (List.append_eq_nil_iff.mp q).1
  · rw [List.map_flatMap, prod_drop (n := k.width + 1) hA.width _ fun a b h => by rw [← h]; simp, List.flatMap_assoc]
/-- one tree: what it makes, where it starts -/
def stT (S : List Row) (st : (List (Option Nat) × List (Bun N)) × Nat) (t : N × Fo N) : (List (Option Nat) × List (Bun N)) × Nat :=
  ((st.1.1 ++ [(bunchP t.1 t.2 st.1.2 (segs (t.2.width + 1) (S.map fun x => x.drop st.2))).1], (bunchP t.1 t.2 st.1.2 (segs (t.2.width + 1) (S.map fun x => x.drop st.2))).2), st.2 + (t.2.width + 1))
theorem drop_drop_map (S : List Row) (a b : Nat) : ((S.map fun x => x.drop a).map fun x => x.drop b) = S.map fun x => x.drop (a + b) := by
  rw [List.map_map]
  apply List.map_congr_left
  intro x _
  simp [List.drop_drop]
theorem stT_all (S : List Row) : ∀ (F : Fo N) (fs : List (Option Nat)) (h : List (Bun N)) (at' : Nat), (F.trees.foldl (stT S) ((fs, h), at')).1 = (fs ++ (splitP F h (S.map fun x => x.drop at')).1, (splitP F h (S.map fun x => x.drop at')).2)
  | .nil, fs, h, a => by simp [Fo.trees, splitP]
  | .cons c k r, fs, h, a => by
    rw [Fo.trees, List.foldl_cons, splitP_cons, drop_drop_map]
    have := stT_all S r (fs ++ [(bunchP c k h (segs (k.width + 1) (S.map fun x => x.drop a))).1]) (bunchP c k h (segs (k.width + 1) (S.map fun x => x.drop a))).2 (a + (k.width + 1))
    show (List.foldl (stT S) ((fs ++ [(bunchP c k h (segs (k.width + 1) (S.map fun x => x.drop a))).1], (bunchP c k h (segs (k.width + 1) (S.map fun x => x.drop a))).2), a + (k.width + 1)) r.trees).1 = _
    rw [this, List.append_assoc]
    rfl
/-- at each tree the rows are those of a tree, and there is room -/
theorem stT_at (S : List Row) : ∀ (F : Fo N) (fs : List (Option Nat)) (h : List (Bun N)) (at' : Nat), Rep F (S.map fun x => x.drop at') → ∀ (a b : List (N × Fo N)) (t : N × Fo N), F.trees = a ++ t :: b →
    GoodT t.2 (segs (t.2.width + 1) (S.map fun x => x.drop (a.foldl (stT S) ((fs, h), at')).2)) ∧ (a.foldl (stT S) ((fs, h), at')).1.2.length + S.length * (t.2.width + 1) ≤ h.length + S.length * F.width ∧ (a.foldl (stT S) ((fs, h), at')).1.1.length = fs.length + a.length
  | .nil, _, _, _, _, a, b, t, e => by simp [Fo.trees] at e
  | .cons c k r, fs, h, n, hr, [], b, t, e => by
    simp [Fo.trees] at e
    obtain ⟨rfl, _⟩ := e
    refine ⟨hr.head, ?_, rfl⟩
    show h.length + S.length * (k.width + 1) ≤ h.length + S.length * (k.width + r.width + 1)
    exact Nat.add_le_add_left (Nat.mul_le_mul_left _ (by omega)) _
  | .cons c k r, fs, h, n, hr, u :: a, b, t, e => by
    simp [Fo.trees] at e
    obtain ⟨rfl, e⟩ := e
    have tl := hr.tail
    rw [drop_drop_map] at tl
    obtain ⟨h1, h2, h3⟩ := stT_at S r (fs ++ [(bunchP c k h (segs (k.width + 1) (S.map fun x => x.drop n))).1]) (bunchP c k h (segs (k.width + 1) (S.map fun x => x.drop n))).2 (n + (k.width + 1)) tl a b t e
    refine ⟨h1, Nat.le_trans h2 ?_, by
      show _ = fs.length + (a.length + 1)
      rw [show (List.foldl (stT S) ((fs, h), n) ((c, k) :: a)).1.1.length = fs.length + 1 + a.length from by rw [List.foldl_cons]; rw [List.length_append] at h3; exact h3]
      omega⟩
    have sl := split_length (.cons c k .nil) h (S.map fun x => x.drop n)
    rw [splitP_cons, List.length_map] at sl
    have : (bunchP c k h (segs (k.width + 1) (S.map fun x => x.drop n))).2.length ≤ h.length + S.length * (k.width + 0 + 1) := sl
    have e3 : S.length * (Fo.cons c k r).width = S.length * (k.width + 0 + 1) + S.length * r.width := by
      rw [← Nat.mul_add]
      congr 1
      simp [Fo.width]; omega
    omega
end
end Fb

namespace Fb
section
variable {N : Type} [DecidableEq N]
theorem GoodT.rest {k : Fo N} {R : List Row} (h : GoodT k R) : ∀ v ∈ heads R, Good k (restOf v R) := fun v hv => by
  obtain ⟨es, h1, h2, h3, rfl⟩ := h
  rw [heads_join h2 fun e he => (h3 e he).ne] at hv
  obtain ⟨e, he, rfl⟩ := List.mem_map.mp hv
  rw [rest_join h2 he]
  exact h3 e he
theorem bunch_room (k : Fo N) (h : List (Bun N)) (R : List Row) {a b : List Int} {v : Int} (e : heads R = a ++ v :: b) : (a.foldl (spStep k R) ([], h)).2.length + (restOf v R).length * k.width ≤ h.length + R.length * k.width := by
  have h1 := spFold_length k R (split_length k) a ([], h)
  have nd : (a ++ [v]).Nodup := by
    have := nodup_dd (R.map fun x => x.headD 0)
    have e' : dd (R.map fun x => x.headD 0) = (a ++ [v]) ++ b := by rw [show dd (R.map fun x => x.headD 0) = heads R from rfl, e]; simp
    rw [e'] at this
    exact (List.nodup_append.mp this).1
  have h2 := rest_sum R nd
  rw [List.map_append, List.sum_append] at h2
  simp at h2
  have h3 := Nat.mul_le_mul_right k.width h2
  rw [Nat.add_mul] at h3
  simp only at h1
  omega
theorem spStep_len {k : Fo N} {R : List Row} : ∀ (vs : List Int) (st : SpSt N), (vs.foldl (spStep k R) st).1.length = st.1.length + vs.length
  | [], st => rfl
  | v :: vs, st => by
    rw [List.foldl_cons, spStep_len vs]
    simp [spStep]
    omega
theorem heads_length (R : List Row) : (heads R).length ≤ R.length := by
  unfold heads
  exact Nat.le_trans (dd_length_le _) (by simp)
theorem rest_length (v : Int) (R : List Row) : (restOf v R).length ≤ R.length := by
  unfold restOf
  rw [List.length_map]
  exact List.length_filter_le _ _
end
end Fb

namespace Fb
/-! ### rows, part by part from the left -/
section
variable {N : Type} [DecidableEq N]
abbrev TP (N : Type) := (N × Fo N) × Nat
def stepR (bs : List (Bun N)) (S : List Row) (x : TP N) : List Row := prod S (rowsT bs x.1.2 x.2)
def accR (bs : List (Bun N)) (a : List (TP N)) : List Row := a.foldl (stepR bs) [[]]
theorem accR_snoc (bs : List (Bun N)) (a : List (TP N)) (x : TP N) : accR bs (a ++ [x]) = prod (accR bs a) (rowsT bs x.1.2 x.2) := by
  unfold accR; rw [List.foldl_append]; rfl
theorem accR_from (bs : List (Bun N)) : ∀ (F : Fo N) (ps : List Nat) (S : List Row), ps.length = F.tops.length → (F.trees.zip ps).foldl (stepR bs) S = prod S (rowsF bs F ps)
  | .nil, ps, S, h => by simp [Fo.trees, rowsF, prod_one_right]
  | .cons c k r, [], S, h => by simp [Fo.tops] at h
  | .cons c k r, p :: q, S, h => by
    have h' : q.length = r.tops.length := by simpa [Fo.tops] using h
    rw [Fo.trees, List.zip_cons_cons, List.foldl_cons, accR_from bs r q _ h', rowsF_cons]
    show prod (prod S _) _ = _
    rw [prod_assoc]
theorem accR_all (bs : List (Bun N)) {F : Fo N} {ps : List Nat} (h : ps.length = F.tops.length) : accR bs (F.trees.zip ps) = rowsF bs F ps := by
  unfold accR
  rw [accR_from bs F ps _ h, prod_one_left]
def lenB (a : List (TP N)) : Nat := (a.map fun x => x.1.2.width + 1).sum
theorem lenB_zip : ∀ {F : Fo N} {ps : List Nat}, ps.length = F.tops.length → lenB (F.trees.zip ps) = F.width
  | .nil, ps, h => by simp [Fo.trees, lenB, Fo.width]
  | .cons c k r, [], h => by simp [Fo.tops] at h
  | .cons c k r, p :: q, h => by
    have h' : q.length = r.tops.length := by simpa [Fo.tops] using h
    have ih := lenB_zip h'
    unfold lenB at ih ⊢
    rw [Fo.trees, List.zip_cons_cons, List.map_cons, List.sum_cons, ih, Fo.width]
    show k.width + 1 + r.width = _
    omega
theorem lenB_app (a b : List (TP N)) : lenB (a ++ b) = lenB a + lenB b := by simp [lenB]
theorem zip_at {bs : List (Bun N)} : ∀ {F : Fo N} {ps : List Nat}, PartOk bs F ps → ∀ x ∈ F.trees.zip ps, x.1 ∈ F.trees ∧ ∃ es, bs[x.2]? = some (x.1.1, es) ∧ Rising es ∧ ∀ e ∈ es, PartOk bs x.1.2 e.2
  | .nil, ps, h, x, hx => by simp [Fo.trees] at hx
  | .cons c k r, ps, ⟨p, q, es, e, h1, h2, h3, h4⟩, x, hx => by
    subst e
    rw [Fo.trees, List.zip_cons_cons] at hx
    rcases List.mem_cons.mp hx with rfl | hx
    · exact ⟨by simp [Fo.trees], es, h1, h2, h3⟩
    · obtain ⟨g1, g2⟩ := zip_at h4 x hx
      exact ⟨by simp [Fo.trees, g1], g2⟩
theorem rowsT_bound {bs : List (Bun N)} (h3 : ∀ b ∈ bs, b.2.length ≤ 3) (c : N) (k : Fo N) (p : Nat) : (rowsT bs k p).length ≤ 3 ^ (k.width + 1) := by
  have := rowsF_length h3 (.cons c k .nil) [p]
  rw [rowsF_cons, show rowsF bs (.nil : Fo N) [] = [[]] from rfl, prod_one_right] at this
  exact this
theorem rowsT_width {bs : List (Bun N)} {c : N} {k : Fo N} {p : Nat} {es : List Ent} (h1 : bs[p]? = some (c, es)) (h2 : Rising es) (h3 : ∀ e ∈ es, PartOk bs k e.2) : ∀ r ∈ rowsT bs k p, r.length = k.width + 1 := fun r hr => by
  rcases rowsT_good bs h1 h2 h3 with e | g
  · rw [e] at hr; cases hr
  · exact g.width r hr
theorem rowsF_width {bs : List (Bun N)} {F : Fo N} {ps : List Nat} (h : PartOk bs F ps) : ∀ r ∈ rowsF bs F ps, r.length = F.width := fun r hr => by
  rcases rows_good bs h with e | g
  · rw [e] at hr; cases hr
  · exact g.width r hr
theorem acc_from {bs : List (Bun N)} : ∀ (a : List (TP N)) (S : List Row) (n : Nat), S.length ≤ 3 ^ n → (∀ r ∈ S, r.length = n) → (∀ x ∈ a, (rowsT bs x.1.2 x.2).length ≤ 3 ^ (x.1.2.width + 1) ∧ ∀ r ∈ rowsT bs x.1.2 x.2, r.length = x.1.2.width + 1) →
    (a.foldl (stepR bs) S).length ≤ 3 ^ (n + lenB a) ∧ ∀ r ∈ a.foldl (stepR bs) S, r.length = n + lenB a
  | [], S, n, h1, h2, _ => ⟨h1, h2⟩
  | x :: a, S, n, h1, h2, h => by
    obtain ⟨g1, g2⟩ := h x (List.mem_cons_self ..)
    have ih := acc_from a (stepR bs S x) (n + (x.1.2.width + 1)) (by
      unfold stepR
      rw [length_prod, Nat.pow_add]
      exact Nat.mul_le_mul h1 g1) (fun r hr => by
      obtain ⟨u, hu, v, hv, rfl⟩ := mem_prod.mp hr
      rw [List.length_append, h2 u hu, g2 v hv]) fun y hy => h y (List.mem_cons_of_mem _ hy)
    have e : n + lenB (x :: a) = n + (x.1.2.width + 1) + lenB a := by
      unfold lenB; rw [List.map_cons, List.sum_cons]; omega
    rw [e]
    exact ih
theorem acc_ok {bs : List (Bun N)} {a : List (TP N)} (h : ∀ x ∈ a, (rowsT bs x.1.2 x.2).length ≤ 3 ^ (x.1.2.width + 1) ∧ ∀ r ∈ rowsT bs x.1.2 x.2, r.length = x.1.2.width + 1) : (accR bs a).length ≤ 3 ^ lenB a ∧ ∀ r ∈ accR bs a, r.length = lenB a := by
  have := acc_from (bs := bs) a [[]] 0 (by simp) (fun r hr => by rw [List.mem_singleton.mp hr]; rfl) h
  simpa [accR] using this
end
end Fb

namespace Fb
/-! ### written out for each road, part by part -/
section
variable {N : Type} [DecidableEq N]
theorem spreadF_len {bs : List (Bun N)} (h3 : ∀ b ∈ bs, b.2.length ≤ 3) {G : Fo N} {ps : List Nat} {made : List (Bun N)} (h : PartOk bs G ps) : (spreadF bs G made ps).2.length ≤ made.length + G.most := by
  obtain ⟨new, e, l, _⟩ := spread_ok (F := G) h3 (made := made) h fun c k h => Fo.trees_sub h
  rw [e, List.length_append]
  omega
abbrev SpP (N : Type) := List Nat × List (Bun N)
def sprOne (bs : List (Bun N)) (st : SpP N) (x : TP N) : SpP N :=
  (st.1 ++ [((ents bs x.2).foldl (sprStep bs x.1.2) ([], st.2)).2.length], ((ents bs x.2).foldl (sprStep bs x.1.2) ([], st.2)).2 ++ [(x.1.1, ((ents bs x.2).foldl (sprStep bs x.1.2) ([], st.2)).1)])
theorem spr_from (bs : List (Bun N)) : ∀ (F : Fo N) (ps ns : List Nat) (made : List (Bun N)), ps.length = F.tops.length → (F.trees.zip ps).foldl (sprOne bs) (ns, made) = (ns ++ (spreadF bs F made ps).1, (spreadF bs F made ps).2)
  | .nil, ps, ns, made, h => by simp [Fo.trees, spreadF]
  | .cons c k r, [], _, _, h => by simp [Fo.tops] at h
  | .cons c k r, p :: q, ns, made, h => by
    have h' : q.length = r.tops.length := by simpa [Fo.tops] using h
    rw [Fo.trees, List.zip_cons_cons, List.foldl_cons, spreadF_cons]
    unfold sprOne
    simp only
    have := spr_from bs r q (ns ++ [((ents bs p).foldl (sprStep bs k) ([], made)).2.length]) (((ents bs p).foldl (sprStep bs k) ([], made)).2 ++ [(c, ((ents bs p).foldl (sprStep bs k) ([], made)).1)]) h'
    unfold sprOne at this
    rw [this, List.append_assoc]
    rfl
def mostP (a : List (TP N)) : Nat := (a.map fun x => 3 * x.1.2.most + 1).sum
theorem mostP_zip : ∀ {F : Fo N} {ps : List Nat}, ps.length = F.tops.length → mostP (F.trees.zip ps) = F.most
  | .nil, ps, h => by simp [Fo.trees, mostP, Fo.most]
  | .cons c k r, [], h => by simp [Fo.tops] at h
  | .cons c k r, p :: q, h => by
    have h' : q.length = r.tops.length := by simpa [Fo.tops] using h
    have ih := mostP_zip h'
    unfold mostP at ih ⊢
    rw [Fo.trees, List.zip_cons_cons, List.map_cons, List.sum_cons, ih, Fo.most]
theorem mostP_app (a b : List (TP N)) : mostP (a ++ b) = mostP a + mostP b := by simp [mostP]
theorem one_len {bs : List (Bun N)} (h3 : ∀ b ∈ bs, b.2.length ≤ 3) {c : N} {k : Fo N} {p : Nat} (h : PartOk bs (.cons c k .nil) [p]) (made : List (Bun N)) : ((ents bs p).foldl (sprStep bs k) ([], made)).2.length + 1 ≤ made.length + (3 * k.most + 1) := by
  have := spreadF_len h3 (made := made) h
  rw [spreadF_cons] at this
  simp [spreadF, Fo.most] at this
  omega
theorem spr_len {bs : List (Bun N)} (h3 : ∀ b ∈ bs, b.2.length ≤ 3) : ∀ (a : List (TP N)) (st : SpP N), (∀ x ∈ a, PartOk bs (.cons x.1.1 x.1.2 .nil) [x.2]) → (a.foldl (sprOne bs) st).2.length ≤ st.2.length + mostP a
  | [], st, _ => Nat.le_refl _
  | x :: a, st, h => by
    have ih := spr_len h3 a (sprOne bs st x) fun y hy => h y (List.mem_cons_of_mem _ hy)
    have o := one_len h3 (h x (List.mem_cons_self ..)) st.2
    rw [List.foldl_cons]
    have e : mostP (x :: a) = 3 * x.1.2.most + 1 + mostP a := by unfold mostP; rw [List.map_cons, List.sum_cons]
    have l : (sprOne bs st x).2.length = ((ents bs x.2).foldl (sprStep bs x.1.2) ([], st.2)).2.length + 1 := by unfold sprOne; simp
    omega
theorem spr_len1 (bs : List (Bun N)) : ∀ (a : List (TP N)) (st : SpP N), (a.foldl (sprOne bs) st).1.length = st.1.length + a.length
  | [], st => rfl
  | x :: a, st => by
    rw [List.foldl_cons, spr_len1 bs a]
    unfold sprOne
    simp
    omega
theorem step_len {bs : List (Bun N)} (h3 : ∀ b ∈ bs, b.2.length ≤ 3) {k : Fo N} : ∀ (es : List Ent) (st : SprSt N), (∀ e ∈ es, PartOk bs k e.2) → (es.foldl (sprStep bs k) st).2.length ≤ st.2.length + es.length * k.most ∧ (es.foldl (sprStep bs k) st).1.length = st.1.length + es.length
  | [], st, _ => ⟨by simp, by simp⟩
  | e :: es, st, h => by
    obtain ⟨i1, i2⟩ := step_len h3 es (sprStep bs k st e) fun y hy => h y (List.mem_cons_of_mem _ hy)
    have o := spreadF_len h3 (made := st.2) (h e (List.mem_cons_self ..))
    rw [List.foldl_cons]
    have l : (sprStep bs k st e).2.length = (spreadF bs k st.2 e.2).2.length := rfl
    have l1 : (sprStep bs k st e).1.length = st.1.length + 1 := by simp [sprStep]
    rw [List.length_cons, Nat.add_mul]
    exact ⟨by omega, by omega⟩
theorem zip_part {bs : List (Bun N)} {F : Fo N} {ps : List Nat} (h : PartOk bs F ps) : ∀ x ∈ F.trees.zip ps, PartOk bs (.cons x.1.1 x.1.2 .nil) [x.2] := fun x hx => by
  obtain ⟨_, es, h1, h2, h3⟩ := zip_at h x hx
  exact ⟨x.2, [], es, rfl, h1, h2, h3, rfl⟩
theorem Fo.most_le : ∀ F : Fo N, 2 * F.most + 1 ≤ 3 ^ F.width
  | .nil => Nat.le_refl _
  | .cons c k r => by
    have h1 := Fo.most_le k
    have h2 := Fo.most_le r
    have e : 3 ^ (k.width + r.width + 1) = 3 * (3 ^ k.width * 3 ^ r.width) := by rw [Nat.pow_succ, Nat.pow_add]; omega
    have p1 : 0 < 3 ^ k.width := Nat.pow_pos (by decide)
    have p2 : 0 < 3 ^ r.width := Nat.pow_pos (by decide)
    simp only [Fo.most, Fo.width]
    rw [e]
    have hm : (2 * k.most + 1) * (2 * r.most + 1) ≤ 3 ^ k.width * 3 ^ r.width := Nat.mul_le_mul h1 h2
    have : (2 * k.most + 1) * (2 * r.most + 1) = 4 * (k.most * r.most) + 2 * k.most + 2 * r.most + 1 := by
      rw [Nat.add_mul, Nat.mul_add, Nat.mul_add]
      have : 2 * k.most * (2 * r.most) = 4 * (k.most * r.most) := by
        rw [Nat.mul_assoc, Nat.mul_left_comm k.most 2 r.most]; omega
      omega
    omega
end
end Fb

set_option maxRecDepth 100000
set_option maxHeartbeats 400000
/-! The logic of the walk: what a value is (Rp), what stands in the changing part of the heap (Wd), what a reading does (Eg, Tg, Ag, Go). -/
namespace Fb
open PySem PySem.Spec L2 Evl

/-! ### what a value is: it stays so while the heap grows -/
structure Rp where
  r : Hp → V → Prop
  m : ∀ {D D' : Hp} {v : V}, Ex D D' → r D v → r D' v
def rV (v0 : V) : Rp := ⟨fun _ v => v = v0, fun _ h => h⟩
/-! data of known lists and tuples -/
mutual
inductive Dq (D : Hp) : V → PyData → Prop
  | non : Dq D .non .none
  | bl (b : Bool) : Dq D (.bl b) (.bool b)
  | int (i : Int) : Dq D (.int i) (.int i)
  | str (x : Str) : Dq D (.str x) (.str x)
  | lst {a : Addr} {xs : List V} {ds : List PyData} : D a = some (.lst xs) → DqAll D xs ds → Dq D (.ref a) (.list ds)
  | tup {a : Addr} {xs : List V} {ds : List PyData} : D a = some (.tup xs) → DqAll D xs ds → Dq D (.ref a) (.tuple ds)
inductive DqAll (D : Hp) : List V → List PyData → Prop
  | nil : DqAll D [] []
  | cons {v : V} {vs : List V} {d : PyData} {ds : List PyData} : Dq D v d → DqAll D vs ds → DqAll D (v :: vs) (d :: ds)
end
mutual
theorem dq_up {D D' : Hp} (e : Ex D D') : ∀ (d : PyData) (v : V), Dq D v d → Dq D' v d
  | .none, _, h => by cases h; exact .non
  | .bool b, _, h => by cases h; exact .bl b
  | .int i, _, h => by cases h; exact .int i
  | .str x, _, h => by cases h; exact .str x
  | .list ds, _, h => by cases h with | lst hs ha => exact .lst (e _ _ hs) (dqAll_up e ds _ ha)
  | .tuple ds, _, h => by cases h with | tup hs ha => exact .tup (e _ _ hs) (dqAll_up e ds _ ha)
  | .dict _, _, h => by cases h
theorem dqAll_up {D D' : Hp} (e : Ex D D') : ∀ (ds : List PyData) (vs : List V), DqAll D vs ds → DqAll D' vs ds
  | [], _, h => by cases h; exact .nil
  | d :: ds, _, h => by cases h with | cons h1 h2 => exact .cons (dq_up e d _ h1) (dqAll_up e ds _ h2)
end
mutual
theorem Dq.dp {K : PySem.W.Frag} {D : Hp} : ∀ (d : PyData) (v : V), Dq D v d → Dp K D v d
  | .none, _, h => by cases h; exact .non
  | .bool b, _, h => by cases h; exact .bl b
  | .int i, _, h => by cases h; exact .int i
  | .str x, _, h => by cases h; exact .str x
  | .list ds, _, h => by cases h with | lst hs ha => exact .lst (SqL.of hs) (DqAll.dp ds _ ha)
  | .tuple ds, _, h => by cases h with | tup hs ha => exact .tup (SqT.of hs) (DqAll.dp ds _ ha)
  | .dict _, _, h => by cases h
theorem DqAll.dp {K : PySem.W.Frag} {D : Hp} : ∀ (ds : List PyData) (vs : List V), DqAll D vs ds → DpAll K D vs ds
  | [], _, h => by cases h; exact .nil
  | d :: ds, _, h => by cases h with | cons h1 h2 => exact .cons (Dq.dp d _ h1) (DqAll.dp ds _ h2)
end
def rD (d : PyData) : Rp := ⟨fun D v => Dq D v d, fun e h => dq_up e _ _ h⟩
abbrev AllR (D : Hp) : List V → List Rp → Prop := Paired fun v R => R.r D v
theorem AllR.up {D D' : Hp} (e : Ex D D') {vs : List V} {Rs : List Rp} (h : AllR D vs Rs) : AllR D' vs Rs := Paired.mapP h fun _ R q => R.m e q
def rTup (Rs : List Rp) : Rp := ⟨fun D v => ∃ a vs, v = .ref a ∧ D a = some (.tup vs) ∧ AllR D vs Rs, fun e ⟨a, vs, h1, h2, h3⟩ => ⟨a, vs, h1, e _ _ h2, h3.up e⟩⟩
def rLst (Rs : List Rp) : Rp := ⟨fun D v => ∃ a vs, v = .ref a ∧ D a = some (.lst vs) ∧ AllR D vs Rs, fun e ⟨a, vs, h1, h2, h3⟩ => ⟨a, vs, h1, e _ _ h2, h3.up e⟩⟩
def rX {ι : Type} (P : ι → Prop) (R : ι → Rp) : Rp := ⟨fun D v => ∃ i, P i ∧ (R i).r D v, fun e ⟨i, p, h⟩ => ⟨i, p, (R i).m e h⟩⟩
theorem AllR.len {D : Hp} {vs : List V} {Rs : List Rp} (h : AllR D vs Rs) : vs.length = Rs.length := Paired.length h
theorem AllR.of_dp {D : Hp} : ∀ {vs : List V} {ds : List PyData}, DqAll D vs ds → AllR D vs (ds.map (rD))
  | _, [], h => by cases h; exact .nil
  | _, d :: ds, h => by cases h with | cons h1 h2 => exact .cons h1 (AllR.of_dp h2)
theorem AllR.to_dp {D : Hp} : ∀ {vs : List V} {ds : List PyData}, AllR D vs (ds.map (rD)) → DqAll D vs ds
  | _, [], h => by cases h; exact .nil
  | _, d :: ds, h => by cases h with | cons h1 h2 => exact .cons h1 (AllR.to_dp h2)
theorem AllR.get {D : Hp} : ∀ {vs : List V} {Rs : List Rp} {i : Nat} {R : Rp}, AllR D vs Rs → Rs[i]? = some R → ∃ v, vs[i]? = some v ∧ R.r D v
  | _, _, 0, R, .cons r t, e => by simp at e; subst e; exact ⟨_, rfl, r⟩
  | _, _, i + 1, R, .cons r t, e => by
    obtain ⟨v, h1, h2⟩ := AllR.get (i := i) (R := R) t (by simpa using e)
    exact ⟨v, by simpa using h1, h2⟩
  | _, _, _, _, .nil, e => by simp at e
theorem AllR.app {D : Hp} : ∀ {vs ws : List V} {Rs Ss : List Rp}, AllR D vs Rs → AllR D ws Ss → AllR D (vs ++ ws) (Rs ++ Ss)
  | _, _, _, _, .nil, h => h
  | _, _, _, _, .cons r t, h => .cons r (AllR.app t h)
theorem AllR.set {D : Hp} {v : V} {R : Rp} (h : R.r D v) : ∀ {vs : List V} {Rs : List Rp} (i : Nat), AllR D vs Rs → AllR D (vs.set i v) (Rs.set i R)
  | _, _, _, .nil => .nil
  | _, _, 0, .cons _ t => .cons h t
  | _, _, i + 1, .cons r t => .cons r (AllR.set h i t)
theorem AllR.imp {D : Hp} : ∀ {vs : List V} {Rs Ss : List Rp}, Rs.length = Ss.length → (∀ (i : Nat) (R S : Rp), Rs[i]? = some R → Ss[i]? = some S → ∀ v, R.r D v → S.r D v) → AllR D vs Rs → AllR D vs Ss
  | [], [], [], _, _, _ => .nil
  | [], [], _ :: _, l, _, _ => by simp at l
  | _ :: _, _ :: _, [], l, _, _ => by simp at l
  | _ :: _, R :: Rs, S :: Ss, l, h, h' => by
    cases h' with
    | cons r t => exact .cons (h 0 R S rfl rfl _ r) (AllR.imp (by simpa using l) (fun i R S' e1 e2 => h (i + 1) R S' (by simpa using e1) (by simpa using e2)) t)
theorem rD_tup {ds : List PyData} {D : Hp} {v : V} (h : (rTup (ds.map (rD))).r D v) : (rD (.tuple ds)).r D v := by
  obtain ⟨a, vs, rfl, h1, h2⟩ := h
  exact .tup h1 h2.to_dp
theorem rD_lst {ds : List PyData} {D : Hp} {v : V} (h : (rLst (ds.map (rD))).r D v) : (rD (.list ds)).r D v := by
  obtain ⟨a, vs, rfl, h1, h2⟩ := h
  exact .lst h1 h2.to_dp
theorem tup_rD {ds : List PyData} {D : Hp} {v : V} (h : (rD (.tuple ds)).r D v) : (rTup (ds.map (rD))).r D v := by
  cases h with
  | tup h1 h2 => exact ⟨_, _, rfl, h1, .of_dp h2⟩
theorem lst_rD {ds : List PyData} {D : Hp} {v : V} (h : (rD (.list ds)).r D v) : (rLst (ds.map (rD))).r D v := by
  cases h with
  | lst h1 h2 => exact ⟨_, _, rfl, h1, .of_dp h2⟩

/-! ### the changing part of the heap -/
structure Wd where
  dom : List Addr
  s : Hp → Hp → Prop
  al : ∀ {D H : Hp} {a : Addr}, s D H → a ∈ dom → (∃ o, H a = some o) ∧ D a = none
  st : ∀ {D H D' H' : Hp}, s D H → Ex D D' → (∀ a ∈ dom, H' a = H a ∧ D' a = none) → s D' H'
structure Hd (D H : Hp) (L : List Wd) : Prop where
  ex : Ex D H
  s : ∀ (i : Nat) w, L[i]? = some w → w.s D H
  dj : ∀ (i j : Nat) w w', i ≠ j → L[i]? = some w → L[j]? = some w' → ∀ a ∈ w.dom, a ∉ w'.dom
theorem Ex.upd2 {D H : Hp} {p : Addr} {o : HO} (e : Ex D H) : Ex (upd D p o) (upd H p o) := fun a u h => by
  by_cases q : a = p
  · subst q; rw [upd_same] at h ⊢; exact h
  · rw [upd_ne q] at h ⊢; exact e a u h
/-- the heap grows, what is new is known -/
theorem Hd.grow {D H D' H' : Hp} {L : List Wd} (h : Hd D H L) (e1 : Ex D D') (e2 : Ex D' H') (e3 : Ex H H') (f : ∀ a o, H a = some o → D a = none → D' a = none) : Hd D' H' L :=
  ⟨e2, fun i w hi => by
    have q := h.s i w hi
    refine w.st q e1 fun a ha => ?_
    obtain ⟨⟨o, ho⟩, hn⟩ := w.al q ha
    exact ⟨by rw [ho]; exact e3 a o ho, f a o ho hn⟩, h.dj⟩
theorem Hd.alloc {D H : Hp} {L : List Wd} {p : Addr} {o : HO} (h : Hd D H L) (hp : H p = none) : Hd (upd D p o) (upd H p o) L :=
  h.grow (Ex.new (by
    cases q : D p with
    | none => rfl
    | some u => rw [h.ex p u q] at hp; cases hp)) (Ex.upd2 h.ex) (Ex.new hp) fun a u hu hd => by rw [upd_ne (ne_of_none hu hp)]; exact hd
theorem Hd.dnone {D H : Hp} {L : List Wd} {p : Addr} (h : Hd D H L) (hp : H p = none) : D p = none := by
  cases q : D p with
  | none => rfl
  | some u => rw [h.ex p u q] at hp; cases hp
theorem Hd.exnew {D H : Hp} {L : List Wd} {p : Addr} {o : HO} (h : Hd D H L) (hp : H p = none) : Ex D (upd D p o) := Ex.new (h.dnone hp)
/-- one word is written -/
theorem Hd.set {D H H' : Hp} {L : List Wd} {j : Nat} {w w' : Wd} (h : Hd D H L) (hj : L[j]? = some w) (k : ∀ a, a ∉ w.dom → H' a = H a) (hd : ∀ a ∈ w'.dom, a ∈ w.dom) (hs : w'.s D H') : Hd D H' (L.set j w') := by
  have lj : j < L.length := (List.getElem?_eq_some_iff.mp hj).1
  refine ⟨fun a o q => ?_, fun i u hi => ?_, fun i i' u u' ne hi hi' a ha hb => ?_⟩
  · rw [k a fun ha => ?_]
    · exact h.ex a o q
    · rw [(w.al (h.s j w hj) ha).2] at q; cases q
  · rw [List.getElem?_set] at hi
    by_cases e : j = i
    · rw [if_pos e, if_pos lj] at hi
      cases hi
      exact hs
    · rw [if_neg e] at hi
      refine u.st (h.s i u hi) (Ex.refl D) fun a ha => ⟨k a ?_, (u.al (h.s i u hi) ha).2⟩
      exact h.dj i j u w (fun z => e z.symm) hi hj a ha
  · rw [List.getElem?_set] at hi hi'
    by_cases e : j = i
    · rw [if_pos e, if_pos lj] at hi
      cases hi
      rw [if_neg (fun z => ne (e.symm.trans z))] at hi'
      exact h.dj j i' w u' (fun z => ne (e.symm.trans z)) hj hi' a (hd a ha) hb
    · rw [if_neg e] at hi
      by_cases e' : j = i'
      · rw [if_pos e', if_pos lj] at hi'
        cases hi'
        exact h.dj i j u w (fun z => e z.symm) hi hj a ha (hd a hb)
      · rw [if_neg e'] at hi'
        exact h.dj i i' u u' ne hi hi' a ha hb
/-- a word more -/
theorem Hd.new {D H H' : Hp} {L : List Wd} {w : Wd} (h : Hd D H L) (e : Ex H H') (hd : ∀ a ∈ w.dom, H a = none) (hs : w.s D H') : Hd D H' (w :: L) := by
  refine ⟨h.ex.trans e, fun i u hi => ?_, fun i i' u u' ne hi hi' a ha hb => ?_⟩
  · cases i with
    | zero => cases hi; exact hs
    | succ i =>
      exact u.st (h.s i u hi) (Ex.refl D) fun a ha => by
        obtain ⟨⟨o, ho⟩, hn⟩ := u.al (h.s i u hi) ha
        exact ⟨by rw [ho]; exact e a o ho, hn⟩
  · have fr : ∀ {j : Nat} {v : Wd}, L[j]? = some v → ∀ b ∈ v.dom, b ∉ w.dom := fun hj b hb hw => by
      obtain ⟨⟨o, ho⟩, _⟩ := Wd.al _ (h.s _ _ hj) hb
      rw [hd b hw] at ho; cases ho
    cases i with
    | zero =>
      cases hi
      cases i' with
      | zero => exact ne rfl
      | succ i' => exact fr hi' a hb ha
    | succ i =>
      cases i' with
      | zero => cases hi'; exact fr hi a ha hb
      | succ i' => exact h.dj i i' u u' (fun z => ne (by rw [z])) hi hi' a ha hb
theorem Hd.newAt {D H H' : Hp} {L : List Wd} {w : Wd} (h : Hd D H L) (e : Ex H H') (hd : ∀ a ∈ w.dom, H a = none) (hs : w.s D H') : Hd D H' (L ++ [w]) := by
  have q := h.new e hd hs
  refine ⟨q.ex, fun i u hi => ?_, fun i i' u u' ne hi hi' => ?_⟩
  · by_cases hl : i < L.length
    · rw [List.getElem?_append_left hl] at hi
      exact q.s (i + 1) u hi
    · rw [List.getElem?_append_right (by omega)] at hi
      have : i - L.length = 0 := by
        have := (List.getElem?_eq_some_iff.mp hi).1
        simp at this; omega
      rw [this] at hi
      exact q.s 0 u hi
  · have tr : ∀ {i : Nat} {u : Wd}, (L ++ [w])[i]? = some u → (i < L.length ∧ (w :: L)[i + 1]? = some u) ∨ (i = L.length ∧ (w :: L)[0]? = some u) := fun {i u} hi => by
      by_cases hl : i < L.length
      · rw [List.getElem?_append_left hl] at hi
        exact .inl ⟨hl, hi⟩
      · rw [List.getElem?_append_right (by omega)] at hi
        have z : i - L.length = 0 := by
          have := (List.getElem?_eq_some_iff.mp hi).1
          simp at this; omega
        rw [z] at hi
        exact .inr ⟨by omega, hi⟩
    rcases tr hi with ⟨l1, k1⟩ | ⟨l1, k1⟩ <;> rcases tr hi' with ⟨l2, k2⟩ | ⟨l2, k2⟩
    · exact q.dj _ _ u u' (by omega) k1 k2
    · exact q.dj _ _ u u' (by omega) k1 k2
    · exact q.dj _ _ u u' (by omega) k1 k2
    · omega
/-- words in another order, or fewer of them: f tells where each stands -/
theorem Hd.pick {D H : Hp} {L L' : List Wd} (h : Hd D H L) (f : Nat → Nat) (hf : ∀ i w, L'[i]? = some w → L[f i]? = some w) (inj : ∀ i j, i < L'.length → j < L'.length → f i = f j → i = j) : Hd D H L' :=
  ⟨h.ex, fun i w hi => h.s _ w (hf i w hi), fun i j w w' ne hi hj => h.dj (f i) (f j) w w' (fun e => ne (inj i j (List.getElem?_eq_some_iff.mp hi).1 (List.getElem?_eq_some_iff.mp hj).1 e)) (hf i w hi) (hf j w' hj)⟩
theorem Hd.tail {D H : Hp} {w : Wd} {L : List Wd} (h : Hd D H (w :: L)) : Hd D H L := h.pick (· + 1) (fun i u e => e) fun i j _ _ e => by omega
theorem Hd.swap {D H : Hp} {w u : Wd} {L : List Wd} (h : Hd D H (w :: u :: L)) : Hd D H (u :: w :: L) :=
  h.pick (fun i => match i with | 0 => 1 | 1 => 0 | i + 2 => i + 2) (fun i x e => by
    match i, e with
    | 0, e => exact e
    | 1, e => exact e
    | i + 2, e => exact e) fun i j _ _ e => by
    match i, j, e with
    | 0, 0, _ => rfl
    | 1, 1, _ => rfl
    | i + 2, j + 2, e => exact e
    | 0, 1, e => cases e
    | 1, 0, e => cases e
    | 0, j + 2, e => simp at e
    | 1, j + 2, e => simp at e
    | i + 2, 0, e => simp at e
    | i + 2, 1, e => simp at e
theorem Hd.init {D H : Hp} {L F : List Wd} (h : Hd D H (L ++ F)) : Hd D H L := h.pick id (fun i w e => by
  have l := (List.getElem?_eq_some_iff.mp e).1
  show (L ++ F)[i]? = some w
  rw [List.getElem?_append_left l]; exact e) fun _ _ _ _ e => e

/-- a list that may change -/
def mL (p : Addr) (Rs : List Rp) : Wd where
  dom := [p]
  s := fun D H => D p = none ∧ ∃ vs, H p = some (.lst vs) ∧ AllR D vs Rs
  al := fun {D H a} h ha => by
    rw [List.mem_singleton] at ha; subst ha
    obtain ⟨h1, vs, h2, _⟩ := h
    exact ⟨⟨_, h2⟩, h1⟩
  st := fun {D H D' H'} h e k => by
    obtain ⟨h1, vs, h2, h3⟩ := h
    obtain ⟨k1, k2⟩ := k p (List.mem_singleton.mpr rfl)
    exact ⟨k2, vs, by rw [k1]; exact h2, h3.up e⟩
/-- it is known from now on -/
theorem Hd.freeze {D H : Hp} {L : List Wd} {p : Addr} {Rs : List Rp} (h : Hd D H (mL p Rs :: L)) : ∃ D', Ex D D' ∧ Hd D' H L ∧ (rLst Rs).r D' (.ref p) := by
  obtain ⟨h1, vs, h2, h3⟩ := h.s 0 _ rfl
  have e : Ex D (upd D p (.lst vs)) := Ex.new h1
  refine ⟨upd D p (.lst vs), e, ⟨fun a o q => ?_, fun i w hi => ?_, h.tail.dj⟩, p, vs, rfl, upd_same, h3.up e⟩
  · by_cases z : a = p
    · subst z; rw [upd_same] at q; cases q; exact h2
    · rw [upd_ne z] at q; exact h.ex a o q
  · have q := h.tail.s i w hi
    refine w.st q e fun a ha => ⟨rfl, ?_⟩
    have na : a ≠ p := fun z => h.dj 0 (i + 1) _ w (by omega) rfl hi p (List.mem_singleton.mpr rfl) (z ▸ ha)
    rw [upd_ne na]
    exact (w.al q ha).2

/-! ### the slots -/
abbrev Gm := List (Option Rp)
structure Gv (D : Hp) (σ : L2.St) (Γ : Gm) : Prop where
  len : σ.length = Γ.length
  at' : ∀ (i : Nat) (R : Rp), Γ[i]? = some (some R) → ∃ v, σ[i]? = some (some v) ∧ R.r D v
theorem Gv.up {D D' : Hp} {σ : L2.St} {Γ : Gm} (e : Ex D D') (h : Gv D σ Γ) : Gv D' σ Γ := ⟨h.len, fun i (R : Rp) q => let ⟨v, h1, h2⟩ := h.at' i R q; ⟨v, h1, R.m e h2⟩⟩
theorem Gv.set {D : Hp} {σ : L2.St} {Γ : Gm} {i : Nat} {v : V} {R : Rp} (h : Gv D σ Γ) (r : R.r D v) : Gv D (σ.set i (some v)) (Γ.set i (some R)) := by
  refine ⟨by rw [List.length_set, List.length_set]; exact h.len, fun j S q => ?_⟩
  rw [List.getElem?_set] at q ⊢
  by_cases e : i = j
  · subst e
    rw [if_pos rfl] at q ⊢
    by_cases l : i < Γ.length
    · rw [if_pos l] at q
      rw [if_pos (by rw [h.len]; exact l)]
      cases q
      exact ⟨v, rfl, r⟩
    · rw [if_neg l] at q; cases q
  · rw [if_neg e] at q ⊢
    exact h.at' j S q
/-- Γ' asks no more than Γ -/
def Less (Γ' Γ : Gm) : Prop := Γ'.length = Γ.length ∧ ∀ (i : Nat) (R : Rp), Γ'[i]? = some (some R) → Γ[i]? = some (some R)
theorem Gv.less {D : Hp} {σ : L2.St} {Γ Γ' : Gm} (h : Gv D σ Γ) (l : Less Γ' Γ) : Gv D σ Γ' := ⟨h.len.trans l.1.symm, fun i R q => h.at' i R (l.2 i R q)⟩
theorem Less.refl (Γ : Gm) : Less Γ Γ := ⟨rfl, fun _ _ h => h⟩

/-! ### what a reading does -/
def Eg (te : TE) (Γ : Gm) (L : List Wd) (R : Rp) (L' : List Wd) : Prop := ∀ σ D H, Gv D σ Γ → Hd D H L → ∀ Q : VK, (∀ v D2 H2, Ex D D2 → Hd D2 H2 L' → R.r D2 v → Q v H2) → te σ H Q
def Tg (tt : TT) (Γ : Gm) (L : List Wd) (b : Bool) (L' : List Wd) : Prop := ∀ σ D H, Gv D σ Γ → Hd D H L → ∀ Q : Bool → Hp → Prop, (∀ D2 H2, Ex D D2 → Hd D2 H2 L' → Q b H2) → tt σ H Q
def Ag (ta : TA) (Γ : Gm) (L : List Wd) (Rs : List Rp) (L' : List Wd) : Prop := ∀ σ D H, Gv D σ Γ → Hd D H L → ∀ Q : List V → Hp → Prop, (∀ vs D2 H2, Ex D D2 → Hd D2 H2 L' → AllR D2 vs Rs → Q vs H2) → ta σ H Q
def Tog (to : TO) (Γ : Gm) (L : List Wd) (o : Option Int) (L' : List Wd) : Prop := ∀ σ D H, Gv D σ Γ → Hd D H L → ∀ Q : Option Int → Hp → Prop, (∀ D2 H2, Ex D D2 → Hd D2 H2 L' → Q o H2) → to σ H Q
def Og (r : R2) (Ra Rb : Rp) (L : List Wd) (R : Rp) (L' : List Wd) : Prop := ∀ x y D H, Hd D H L → Ra.r D x → Rb.r D y → ∀ Q : VK, (∀ z D2 H2, Ex D D2 → Hd D2 H2 L' → R.r D2 z → Q z H2) → r x y H Q
def Ug (r : V → Hp → VK → Prop) (Ra : Rp) (L : List Wd) (R : Rp) (L' : List Wd) : Prop := ∀ x D H, Hd D H L → Ra.r D x → ∀ Q : VK, (∀ z D2 H2, Ex D D2 → Hd D2 H2 L' → R.r D2 z → Q z H2) → r x H Q
def Cg (r : List V → Hp → VK → Prop) (Rs : List Rp) (L : List Wd) (R : Rp) (L' : List Wd) : Prop := ∀ xs D H, Hd D H L → AllR D xs Rs → ∀ Q : VK, (∀ z D2 H2, Ex D D2 → Hd D2 H2 L' → R.r D2 z → Q z H2) → r xs H Q
def Mg (r : V → List V → Hp → VK → Prop) (Ra : Rp) (Rs : List Rp) (L : List Wd) (R : Rp) (L' : List Wd) : Prop := ∀ x xs D H, Hd D H L → Ra.r D x → AllR D xs Rs → ∀ Q : VK, (∀ z D2 H2, Ex D D2 → Hd D2 H2 L' → R.r D2 z → Q z H2) → r x xs H Q
section
variable {K : PySem.W.Frag} {Γ : Gm} {L L1 L2' L3 L' : List Wd} {R Ra Rb Rc R' : Rp} {Rs : List Rp} {ta tb te tx : TE} {t u : TT} {tr : TA} {r : R2}
theorem eg_var {i : Nat} (h : Γ[i]? = some (some R)) : Eg (tVar i) Γ L R L := fun σ D H g hd Q q => by
  obtain ⟨v, h1, h2⟩ := g.at' i R h
  exact ⟨v, h1, q v D H (Ex.refl D) hd h2⟩
theorem eg_c {v : V} (h : ∀ D, R.r D v) : Eg (tC v) Γ L R L := fun σ D H g hd Q q => q v D H (Ex.refl D) hd (h D)
theorem eg_int {i : Int} : Eg (tC (.int i)) Γ L (rD (.int i)) L := eg_c fun _ => .int i
theorem eg_str {i : Str} : Eg (tC (.str i)) Γ L (rD (.str i)) L := eg_c fun _ => .str i
theorem eg_non : Eg (tC .non) Γ L (rD .none) L := eg_c fun _ => .non
theorem eg_bl {b : Bool} : Eg (tC (.bl b)) Γ L (rD (.bool b)) L := eg_c fun _ => .bl b
theorem eg_cv {v : V} : Eg (tC v) Γ L (rV v) L := eg_c fun _ => rfl
theorem Eg.imp (h : Eg te Γ L R L') (k : ∀ D v, R.r D v → R'.r D v) : Eg te Γ L R' L' := fun σ D H g hd Q q => h σ D H g hd Q fun v D2 H2 e h2 r => q v D2 H2 e h2 (k D2 v r)
theorem Eg.to {d : PyData} {d' : PyData} (h : Eg te Γ L (rD d) L') (e : d = d') : Eg te Γ L (rD d') L' := e ▸ h
theorem Eg.less {Γ' : Gm} (h : Eg te Γ' L R L') (l : Less Γ' Γ) : Eg te Γ L R L' := fun σ D H g => h σ D H (g.less l)
theorem Eg.tup {ds : List PyData} (h : Eg te Γ L (rTup (ds.map (rD))) L') : Eg te Γ L (rD (.tuple ds)) L' := h.imp fun _ _ => rD_tup
theorem Eg.lst {ds : List PyData} (h : Eg te Γ L (rLst (ds.map (rD))) L') : Eg te Γ L (rD (.list ds)) L' := h.imp fun _ _ => rD_lst
theorem eg_op (ha : Eg ta Γ L Ra L1) (hb : Eg tb Γ L1 Rb L2') (hr : Og r Ra Rb L2' R L') : Eg (tOp r ta tb) Γ L R L' := fun σ D H g hd Q q =>
  ha σ D H g hd _ fun x D1 H1 e1 h1 r1 => hb σ D1 H1 (g.up e1) h1 _ fun y D2 H2 e2 h2 r2 => hr x y D2 H2 h2 (Ra.m e2 r1) r2 _ fun z D3 H3 e3 h3 r3 => q z D3 H3 ((e1.trans e2).trans e3) h3 r3
theorem eg_un {r : V → Hp → VK → Prop} (ha : Eg ta Γ L Ra L1) (hr : Ug r Ra L1 R L') : Eg (tUn r ta) Γ L R L' := fun σ D H g hd Q q =>
  ha σ D H g hd _ fun x D1 H1 e1 h1 r1 => hr x D1 H1 h1 r1 _ fun z D3 H3 e3 h3 r3 => q z D3 H3 (e1.trans e3) h3 r3
theorem ag_nil : Ag tNil Γ L [] L := fun σ D H g hd Q q => q [] D H (Ex.refl D) hd .nil
theorem ag_cons (ha : Eg ta Γ L Ra L1) (hr : Ag tr Γ L1 Rs L') : Ag (tCons ta tr) Γ L (Ra :: Rs) L' := fun σ D H g hd Q q =>
  ha σ D H g hd _ fun x D1 H1 e1 h1 r1 => hr σ D1 H1 (g.up e1) h1 _ fun xs D2 H2 e2 h2 r2 => q _ D2 H2 (e1.trans e2) h2 (.cons (Ra.m e2 r1) r2)
theorem Ag.imp {Rs' : List Rp} (h : Ag tr Γ L Rs L') (k : ∀ D vs, AllR D vs Rs → AllR D vs Rs') : Ag tr Γ L Rs' L' := fun σ D H g hd Q q => h σ D H g hd Q fun v D2 H2 e h2 r => q v D2 H2 e h2 (k D2 v r)
theorem eg_tup (h : Ag tr Γ L Rs L') (hz : Rs.length ≤ 100000) : Eg (tTup tr) Γ L (rTup Rs) L' := fun σ D H g hd Q q =>
  h σ D H g hd _ fun vs D1 H1 e1 h1 r1 => ⟨sz_of (by rw [r1.len]; exact hz), fun p hp => q (.ref p) (upd D1 p (.tup vs)) _ (e1.trans (h1.exnew hp)) (h1.alloc hp) ⟨p, vs, rfl, upd_same, r1.up (h1.exnew hp)⟩⟩
theorem eg_lst (h : Ag tr Γ L Rs L') (hz : Rs.length ≤ 100000) : Eg (tLst tr) Γ L (rLst Rs) L' := fun σ D H g hd Q q =>
  h σ D H g hd _ fun vs D1 H1 e1 h1 r1 => ⟨sz_of (by rw [r1.len]; exact hz), fun p hp => q (.ref p) (upd D1 p (.lst vs)) _ (e1.trans (h1.exnew hp)) (h1.alloc hp) ⟨p, vs, rfl, upd_same, r1.up (h1.exnew hp)⟩⟩
theorem eg_cb {r : List V → Hp → VK → Prop} (h : Ag tr Γ L Rs L1) (hr : Cg r Rs L1 R L') : Eg (tCB r tr) Γ L R L' := fun σ D H g hd Q q =>
  h σ D H g hd _ fun vs D1 H1 e1 h1 r1 => hr vs D1 H1 h1 r1 _ fun z D3 H3 e3 h3 r3 => q z D3 H3 (e1.trans e3) h3 r3
theorem eg_bm {T : String} {r : V → List V → Hp → VK → Prop} (ho : Eg ta Γ L Ra L1) (hy : ∀ x D H, Hd D H L1 → Ra.r D x → tyV K T x H) (h : Ag tr Γ L1 Rs L2') (hr : Mg r Ra Rs L2' R L') : Eg (tBM K T r ta tr) Γ L R L' := fun σ D H g hd Q q =>
  ho σ D H g hd _ fun x D1 H1 e1 h1 r1 => ⟨hy x D1 H1 h1 r1, h σ D1 H1 (g.up e1) h1 _ fun vs D2 H2 e2 h2 r2 => hr x vs D2 H2 h2 (Ra.m e2 r1) r2 _ fun z D3 H3 e3 h3 r3 => q z D3 H3 ((e1.trans e2).trans e3) h3 r3⟩
theorem eg_bm0 {T : String} {r : V → List V → Hp → VK → Prop} (ho : Eg ta Γ L Ra L1) (hy : ∀ x D H, Hd D H L1 → Ra.r D x → tyV K T x H) (hr : Mg r Ra [] L1 R L') : Eg (tBM0 K T r ta) Γ L R L' := fun σ D H g hd Q q =>
  ho σ D H g hd _ fun x D1 H1 e1 h1 r1 => ⟨hy x D1 H1 h1 r1, hr x [] D1 H1 h1 r1 .nil _ fun z D3 H3 e3 h3 r3 => q z D3 H3 (e1.trans e3) h3 r3⟩
theorem eg_if {b : Bool} (h : Tg t Γ L b L1) (h1 : b = true → Eg ta Γ L1 R L') (h2 : b = false → Eg tb Γ L1 R L') : Eg (tIf t ta tb) Γ L R L' := fun σ D H g hd Q q =>
  h σ D H g hd _ fun D1 H1 e1 hd1 => by
    cases b with
    | true => exact h1 rfl σ D1 H1 (g.up e1) hd1 Q fun v D2 H2 e2 => q v D2 H2 (e1.trans e2)
    | false => exact h2 rfl σ D1 H1 (g.up e1) hd1 Q fun v D2 H2 e2 => q v D2 H2 (e1.trans e2)
theorem bl_of {D : Hp} {v : V} {b : Bool} (h : (rD (.bool b)).r D v) : v = .bl b := by cases h; rfl
theorem int_of {D : Hp} {v : V} {i : Int} (h : (rD (.int i)).r D v) : v = .int i := by cases h; rfl
theorem str_of {D : Hp} {v : V} {i : Str} (h : (rD (.str i)).r D v) : v = .str i := by cases h; rfl
theorem non_of {D : Hp} {v : V} (h : (rD .none).r D v) : v = .non := by cases h; rfl
theorem eg_andV {a b : Bool} (h1 : Eg ta Γ L (rD (.bool a)) L) (h2 : a = true → Eg tb Γ L (rD (.bool b)) L) : Eg (tAndV ta tb) Γ L (rD (.bool (a && b))) L := fun σ D H g hd Q q =>
  h1 σ D H g hd _ fun x D1 H1 e1 hd1 r1 => ⟨a, bl_of r1, by
    cases a with
    | true => exact h2 rfl σ D1 H1 (g.up e1) hd1 Q fun v D2 H2 e2 => q v D2 H2 (e1.trans e2)
    | false => exact q _ D1 H1 e1 hd1 (.bl false)⟩
theorem eg_orV {a b : Bool} (h1 : Eg ta Γ L (rD (.bool a)) L) (h2 : a = false → Eg tb Γ L (rD (.bool b)) L) : Eg (tOrV ta tb) Γ L (rD (.bool (a || b))) L := fun σ D H g hd Q q =>
  h1 σ D H g hd _ fun x D1 H1 e1 hd1 r1 => ⟨a, bl_of r1, by
    cases a with
    | false => exact h2 rfl σ D1 H1 (g.up e1) hd1 Q fun v D2 H2 e2 => q v D2 H2 (e1.trans e2)
    | true => exact q _ D1 H1 e1 hd1 (.bl true)⟩
theorem eg_notV {a : Bool} (h1 : Eg ta Γ L (rD (.bool a)) L') : Eg (tNotV ta) Γ L (rD (.bool (!a))) L' := fun σ D H g hd Q q =>
  h1 σ D H g hd _ fun x D1 H1 e1 hd1 r1 => ⟨a, bl_of r1, q _ D1 H1 e1 hd1 (.bl _)⟩
theorem tg_test {b : Bool} (h : Eg te Γ L (rD (.bool b)) L') : Tg (tTest te) Γ L b L' := fun σ D H g hd Q q => h σ D H g hd _ fun x D1 H1 e1 h1 r1 => ⟨b, bl_of r1, q D1 H1 e1 h1⟩
theorem tg_B {b : Bool} (h : Eg te Γ L (rD (.bool b)) L') : Tg (tB te) Γ L b L' := fun σ D H g hd Q q => h σ D H g hd _ fun x D1 H1 e1 h1 r1 => ⟨b, bl_of r1, q D1 H1 e1 h1⟩
theorem tg_and {a b : Bool} (h1 : Tg t Γ L a L) (h2 : a = true → Tg u Γ L b L) : Tg (tAnd t u) Γ L (a && b) L := fun σ D H g hd Q q => h1 σ D H g hd _ fun D1 H1 e1 hd1 => by
  cases a with
  | true => exact h2 rfl σ D1 H1 (g.up e1) hd1 Q fun D2 H2 e2 => q D2 H2 (e1.trans e2)
  | false => exact q D1 H1 e1 hd1
theorem tg_or {a b : Bool} (h1 : Tg t Γ L a L) (h2 : a = false → Tg u Γ L b L) : Tg (tOr t u) Γ L (a || b) L := fun σ D H g hd Q q => h1 σ D H g hd _ fun D1 H1 e1 hd1 => by
  cases a with
  | false => exact h2 rfl σ D1 H1 (g.up e1) hd1 Q fun D2 H2 e2 => q D2 H2 (e1.trans e2)
  | true => exact q D1 H1 e1 hd1
theorem tg_not {a : Bool} (h1 : Tg t Γ L a L') : Tg (tNot t) Γ L (!a) L' := fun σ D H g hd Q q => h1 σ D H g hd _ q
theorem Tg.to {a b : Bool} (h : Tg t Γ L a L') (e : a = b) : Tg t Γ L b L' := e ▸ h
theorem tog_none : Tog tNoPart Γ L none L := fun σ D H g hd Q q => q D H (Ex.refl D) hd
theorem tog_some {i : Int} (h : Eg te Γ L (rD (.int i)) L') : Tog (tPart te) Γ L (some i) L' := fun σ D H g hd Q q => h σ D H g hd _ fun x D1 H1 e1 h1 r1 => ⟨i, int_of r1, q D1 H1 e1 h1⟩
theorem eg_isN {b : Bool} (ha : Eg ta Γ L R L') (hb : ∀ D v, R.r D v → decide (v = .non) = b) : Eg (tIsN ta) Γ L (rD (.bool b)) L' := fun σ D H g hd Q q =>
  ha σ D H g hd _ fun x D1 H1 e1 h1 r1 => q _ D1 H1 e1 h1 (by rw [hb D1 x r1]; exact .bl b)
theorem eg_notN {b : Bool} (ha : Eg ta Γ L R L') (hb : ∀ D v, R.r D v → decide (v = .non) = b) : Eg (tNotN ta) Γ L (rD (.bool (!b))) L' := fun σ D H g hd Q q =>
  ha σ D H g hd _ fun x D1 H1 e1 h1 r1 => q _ D1 H1 e1 h1 (by rw [hb D1 x r1]; exact .bl _)

/-! ### operations on values -/
theorem og_Xl {ι : Type} {P : ι → Prop} {Ri : ι → Rp} (h : ∀ i, P i → Og r (Ri i) Rb L R L') : Og r (rX P Ri) Rb L R L' := fun x y D H hd ⟨i, p, rx⟩ ry => h i p x y D H hd rx ry
theorem og_Xr {ι : Type} {P : ι → Prop} {Ri : ι → Rp} (h : ∀ i, P i → Og r Ra (Ri i) L R L') : Og r Ra (rX P Ri) L R L' := fun x y D H hd rx ⟨i, p, ry⟩ => h i p x y D H hd rx ry
theorem Og.imp (h : Og r Ra Rb L R L') (k : ∀ D v, R.r D v → R'.r D v) : Og r Ra Rb L R' L' := fun x y D H hd rx ry Q q => h x y D H hd rx ry Q fun v D2 H2 e h2 r => q v D2 H2 e h2 (k D2 v r)
theorem rX_in {ι : Type} {P : ι → Prop} {Ri : ι → Rp} {i : ι} (p : P i) : ∀ D v, (Ri i).r D v → (rX P Ri).r D v := fun _ _ h => ⟨i, p, h⟩
theorem og_I0 {f : Int → Int → V} {i j : Int} (h : ∀ D, R.r D (f i j)) : Og (rI0 f) (rD (.int i)) (rD (.int j)) L R L := fun x y D H hd rx ry Q q => ⟨i, j, int_of rx, int_of ry, q _ D H (Ex.refl D) hd (h D)⟩
theorem og_I {C : Int → Int → Prop} {f : Int → Int → V} {i j : Int} (c : C i j) (h : ∀ D, R.r D (f i j)) : Og (rI C f) (rD (.int i)) (rD (.int j)) L R L := fun x y D H hd rx ry Q q => ⟨i, j, int_of rx, int_of ry, c, q _ D H (Ex.refl D) hd (h D)⟩
theorem og_eqD {d e : PyData} (sd : SeqAt.shaped d = true) (se : SeqAt.shaped e = true) : Og (rEqD K) (rD d) (rD e) L (rD (.bool (PyData.eqv d e))) L := fun x y D H hd rx ry Q q => ⟨d, e, (dq_up hd.ex _ _ rx).dp, (dq_up hd.ex _ _ ry).dp, sd, se, q _ D H (Ex.refl D) hd (.bl _)⟩
theorem og_neD {d e : PyData} (sd : SeqAt.shaped d = true) (se : SeqAt.shaped e = true) : Og (rNeD K) (rD d) (rD e) L (rD (.bool (!PyData.eqv d e))) L := fun x y D H hd rx ry Q q => ⟨d, e, (dq_up hd.ex _ _ rx).dp, (dq_up hd.ex _ _ ry).dp, sd, se, q _ D H (Ex.refl D) hd (.bl _)⟩
/-- the i-th of a list | of a tuple -/
theorem og_ixL {i : Int} (h : atI Rs i = some R) : Og (rIxL K) (rLst Rs) (rD (.int i)) L R L := fun x y D H hd ⟨a, vs, e, hs, ha⟩ ry Q q => by
  obtain ⟨j, h1, h2, h3⟩ : ∃ j, ixN Rs.length i = some j ∧ Rs[j]? = some R ∧ True := by
    unfold atI at h
    cases hj : ixN Rs.length i with
    | none => rw [hj] at h; cases h
    | some j => rw [hj] at h; exact ⟨j, rfl, h, trivial⟩
  obtain ⟨v, hv, rv⟩ := ha.get h2
  exact ⟨a, vs, i, v, e, int_of ry, SqL.of (hd.ex _ _ hs), by unfold atI; rw [ha.len, h1]; exact hv, q v D H (Ex.refl D) hd rv⟩
theorem og_ixT {i : Int} (h : atI Rs i = some R) : Og (rIxT K) (rTup Rs) (rD (.int i)) L R L := fun x y D H hd ⟨a, vs, e, hs, ha⟩ ry Q q => by
  obtain ⟨j, h1, h2, h3⟩ : ∃ j, ixN Rs.length i = some j ∧ Rs[j]? = some R ∧ True := by
    unfold atI at h
    cases hj : ixN Rs.length i with
    | none => rw [hj] at h; cases h
    | some j => rw [hj] at h; exact ⟨j, rfl, h, trivial⟩
  obtain ⟨v, hv, rv⟩ := ha.get h2
  exact ⟨a, vs, i, v, e, int_of ry, SqT.of (hd.ex _ _ hs), by unfold atI; rw [ha.len, h1]; exact hv, q v D H (Ex.refl D) hd rv⟩
/-- the i-th of a list that may change -/
theorem og_ixW {p : Addr} {k : Nat} {i : Int} (hk : L[k]? = some (mL p Rs)) (h : atI Rs i = some R) : Og (rIxL K) (rV (.ref p)) (rD (.int i)) L R L := fun x y D H hd e ry Q q => by
  obtain ⟨_, vs, hs, ha⟩ := hd.s k _ hk
  obtain ⟨j, h1, h2, h3⟩ : ∃ j, ixN Rs.length i = some j ∧ Rs[j]? = some R ∧ True := by
    unfold atI at h
    cases hj : ixN Rs.length i with
    | none => rw [hj] at h; cases h
    | some j => rw [hj] at h; exact ⟨j, rfl, h, trivial⟩
  obtain ⟨v, hv, rv⟩ := ha.get h2
  exact ⟨p, vs, i, v, e, int_of ry, SqL.of hs, by unfold atI; rw [ha.len, h1]; exact hv, q v D H (Ex.refl D) hd rv⟩
end
end Fb

/-! Statements, targets, what is walked, for, comprehensions; the promise of a def (spG). -/
namespace Fb
open PySem PySem.Spec L2 Evl

def Go (D0 : Hp) (Γ : Gm) (L : List Wd) (P : L2.St → Hp → Prop) : Prop := ∀ σ D H, Ex D0 D → Gv D σ Γ → Hd D H L → P σ H
/-- what a reading does, told by what holds behind it -/
def Xg (te : TE) (Γ : Gm) (L : List Wd) (Φ : V → Hp → Hp → Prop) : Prop := ∀ σ D H, Gv D σ Γ → Hd D H L → ∀ Q : VK, (∀ v D2 H2, Ex D D2 → Φ v D2 H2 → Q v H2) → te σ H Q
/-- the target takes the value apart, the heap stays -/
def Tgt (g : TG) (Y : Rp) (Γ Γ' : Gm) (S : List Nat) : Prop := ∀ x σ D H (P : L2.St → Hp → Prop), Ex D H → Y.r D x → Gv D σ Γ → (∀ σ', Gv D σ' Γ' → (∀ vs, (∀ s ∈ S, s ∈ vs) → wipe σ' vs = wipe σ vs) → P σ' H) → g x σ H P
def Tgs (gs : TGs) (Ys : List Rp) (Γ Γ' : Gm) (S : List Nat) : Prop := ∀ xs σ D H (P : L2.St → Hp → Prop), Ex D H → AllR D xs Ys → Gv D σ Γ → (∀ σ', Gv D σ' Γ' → (∀ vs, (∀ s ∈ S, s ∈ vs) → wipe σ' vs = wipe σ vs) → P σ' H) → gs xs σ H P
theorem wipe_set {σ : L2.St} {i : Nat} {x : Option V} : ∀ {vs : List Nat}, i ∈ vs → wipe (σ.set i x) vs = wipe σ vs
  | v :: vs, h => by
    unfold wipe
    by_cases e : i ∈ vs
    · rw [wipe_set e]
    · have e2 : i = v := by simpa [e] using h
      subst e2
      have hs : ∀ us : List Nat, i ∉ us → wipe (σ.set i x) us = (wipe σ us).set i x := by
        intro us
        induction us with
        | nil => intro _; rfl
        | cons u us ih =>
          intro hu
          have h1 : i ≠ u := fun z => hu (by simp [z])
          have h2 : i ∉ us := fun z => hu (List.mem_cons_of_mem _ z)
          unfold wipe
          rw [ih h2, List.set_comm _ _ h1]
      rw [hs vs e, List.set_set]
  | [], h => by cases h
theorem wipe_wipe {σ : L2.St} {vs : List Nat} : ∀ {us : List Nat}, (∀ u ∈ us, u ∈ vs) → wipe (wipe σ us) vs = wipe σ vs
  | [], _ => rfl
  | u :: us, h => by
    show wipe ((wipe σ us).set u none) vs = _
    rw [wipe_set (h u (by simp)), wipe_wipe fun x hx => h x (List.mem_cons_of_mem _ hx)]
/-- what is known of the slots, a block's own ones forgotten -/
def wipeG (Γ : Gm) : List Nat → Gm
  | [] => Γ
  | v :: vs => (wipeG Γ vs).set v none
theorem Gv.unset {D : Hp} {σ : L2.St} {Γ : Gm} {i : Nat} {x : Option V} (h : Gv D σ Γ) : Gv D (σ.set i x) (Γ.set i none) := by
  refine ⟨by rw [List.length_set, List.length_set]; exact h.len, fun j S q => ?_⟩
  rw [List.getElem?_set] at q ⊢
  by_cases e : i = j
  · subst e
    rw [if_pos rfl] at q
    split at q <;> cases q
  · rw [if_neg e] at q ⊢
    exact h.at' j S q
theorem Gv.wiped {D : Hp} {σ : L2.St} {Γ : Gm} (h : Gv D σ Γ) : ∀ vs : List Nat, Gv D (wipe σ vs) (wipeG Γ vs)
  | [] => h
  | v :: vs => (h.wiped vs).unset
section
variable {K : PySem.W.Frag} {Γ Γ' Γ2 : Gm} {L L1 L' : List Wd} {R Y : Rp} {Rs Ys : List Rp} {te : TE} {tr : TA} {D0 : Hp} {E : Ends} {P : L2.St → Hp → Prop} {i : Nat}
theorem tgt_name : Tgt (gName i) Y Γ (Γ.set i (some Y)) [i] := fun x σ D H P e r g k => k _ (g.set r) fun vs hs => wipe_set (hs i (by simp))
theorem tgs_nil : Tgs gNil [] Γ Γ [] := fun xs σ D H P e r g k => by
  cases r
  exact ⟨rfl, k σ g fun _ _ => rfl⟩
theorem tgs_cons {g : TG} {gs : TGs} {S T : List Nat} (h1 : Tgt g Y Γ Γ' S) (h2 : Tgs gs Ys Γ' Γ2 T) : Tgs (gCons g gs) (Y :: Ys) Γ Γ2 (S ++ T) := fun xs σ D H P e r g k => by
  cases r with
  | cons a b => exact ⟨_, _, rfl, h1 _ σ D H _ e a g fun σ' g' w' => h2 _ σ' D H P e b g' fun σ2 g2 w2 => k σ2 g2 fun vs hs => (w2 vs fun s q => hs s (List.mem_append_right _ q)).trans (w' vs fun s q => hs s (List.mem_append_left _ q))⟩
theorem tgt_tup {gs : TGs} {S : List Nat} {n : Nat} (h : Tgs gs Rs Γ Γ' S) (hn : Rs.length = n) : Tgt (gTup K n gs) (rTup Rs) Γ Γ' S := fun x σ D H P e ⟨a, vs, h1, h2, h3⟩ g k =>
  ⟨a, vs, h1, SqT.of (e _ _ h2), h3.len.trans hn, h vs σ D H P e h3 g k⟩
theorem Tgt.imp {g : TG} {Y' : Rp} {S : List Nat} (h : Tgt g Y Γ Γ' S) (k : ∀ D v, Y'.r D v → Y.r D v) : Tgt g Y' Γ Γ' S := fun x σ D H P e r => h x σ D H P e (k D x r)
theorem tgt_tupD {gs : TGs} {S : List Nat} {n : Nat} {ds : List PyData} (h : Tgs gs (ds.map (rD)) Γ Γ' S) (hn : ds.length = n) : Tgt (gTup K n gs) (rD (.tuple ds)) Γ Γ' S :=
  (tgt_tup h (by rw [List.length_map]; exact hn)).imp fun D v => tup_rD

/-! ### statements -/
theorem go_seq {t u : TS} (h : Go D0 Γ L (t { E with nx := u E })) : Go D0 Γ L (tSeq t u E) := h
theorem go_asg (h : Eg te Γ L R L') (k : Go D0 (Γ.set i (some R)) L' E.nx) : Go D0 Γ L (tAsg te (gName i) E) := fun σ D H e g hd => h σ D H g hd _ fun v D1 H1 e1 h1 r1 => k _ D1 H1 (e.trans e1) ((g.up e1).set r1) h1
theorem go_asgT {g : TG} {S : List Nat} (h : Eg te Γ L R L') (ht : Tgt g R Γ Γ' S) (k : Go D0 Γ' L' E.nx) : Go D0 Γ L (tAsg te g E) := fun σ D H e g hd => h σ D H g hd _ fun v D1 H1 e1 h1 r1 =>
  ht v σ D1 H1 _ h1.ex r1 (g.up e1) fun σ' g' _ => k σ' D1 H1 (e.trans e1) g' h1
theorem go_asgX {ι : Type} {ok : ι → Prop} {Rx : ι → Rp} {Lx : ι → List Wd} (h : Xg te Γ L fun v D H => ∃ x, ok x ∧ Hd D H (Lx x) ∧ (Rx x).r D v) (k : ∀ x, ok x → Go D0 (Γ.set i (some (Rx x))) (Lx x) E.nx) : Go D0 Γ L (tAsg te (gName i) E) := fun σ D H e g hd =>
  h σ D H g hd _ fun v D1 H1 e1 ⟨x, o, h1, r1⟩ => k x o _ D1 H1 (e.trans e1) ((g.up e1).set r1) h1
theorem go_new (h : Ag tr Γ L Rs L') (hz : Rs.length ≤ 100000) (k : ∀ p, Go D0 (Γ.set i (some (rV (.ref p)))) (mL p Rs :: L') E.nx) : Go D0 Γ L (tAsg (tLst tr) (gName i) E) := fun σ D H e g hd =>
  h σ D H g hd _ fun vs D1 H1 e1 h1 r1 => ⟨sz_of (by rw [r1.len]; exact hz), fun p hp => k p _ D1 _ (e.trans e1) ((g.up e1).set rfl)
    (h1.new (Ex.new hp) (fun a ha => by rw [List.mem_singleton.mp ha]; exact hp) ⟨h1.dnone hp, vs, upd_same, r1⟩)⟩
theorem go_drop (h : Eg te Γ L R L') (k : Go D0 Γ L' E.nx) : Go D0 Γ L (tDrop te E) := fun σ D H e g hd => h σ D H g hd _ fun v D1 H1 e1 h1 r1 => k σ D1 H1 (e.trans e1) (g.up e1) h1
theorem go_dropX {ι : Type} {ok : ι → Prop} {Lx : ι → List Wd} (h : Xg te Γ L fun v D H => ∃ x, ok x ∧ Hd D H (Lx x)) (k : ∀ x, ok x → Go D0 Γ (Lx x) E.nx) : Go D0 Γ L (tDrop te E) := fun σ D H e g hd =>
  h σ D H g hd _ fun v D1 H1 e1 ⟨x, o, h1⟩ => k x o σ D1 H1 (e.trans e1) (g.up e1) h1
theorem go_ret (h : Eg te Γ L R L') (k : ∀ v D H, Ex D0 D → Hd D H L' → R.r D v → E.rt v H) : Go D0 Γ L (tRet te E) := fun σ D H e g hd => h σ D H g hd _ fun v D1 H1 e1 h1 r1 => k v D1 H1 (e.trans e1) h1 r1
theorem go_retX {Φ : V → Hp → Hp → Prop} (h : Xg te Γ L Φ) (k : ∀ v D H, Ex D0 D → Φ v D H → E.rt v H) : Go D0 Γ L (tRet te E) := fun σ D H e g hd => h σ D H g hd _ fun v D1 H1 e1 p => k v D1 H1 (e.trans e1) p
theorem go_retN (k : ∀ D H, Ex D0 D → Hd D H L → E.rt .non H) : Go D0 Γ L (tRetN E) := fun σ D H e g hd => k D H e hd
theorem go_if {tt : TT} {t u : TS} {b : Bool} (h : Tg tt Γ L b L') (h1 : b = true → Go D0 Γ L' (t E)) (h2 : b = false → Go D0 Γ L' (u E)) : Go D0 Γ L (tIfS tt t u E) := fun σ D H e g hd => h σ D H g hd _ fun D1 H1 e1 hd1 => by
  cases b with
  | true => exact h1 rfl σ D1 H1 (e.trans e1) (g.up e1) hd1
  | false => exact h2 rfl σ D1 H1 (e.trans e1) (g.up e1) hd1
theorem go_if_f {tt : TT} {t u : TS} (h : Tg tt Γ L false L') (h2 : Go D0 Γ L' (u E)) : Go D0 Γ L (tIfS tt t u E) := go_if h (fun z => nomatch z) fun _ => h2
theorem go_if_t {tt : TT} {t u : TS} (h : Tg tt Γ L true L') (h2 : Go D0 Γ L' (t E)) : Go D0 Γ L (tIfS tt t u E) := go_if h (fun _ => h2) fun z => nomatch z
theorem go_next (k : Go D0 Γ L E.nx) : Go D0 Γ L (tNext E) := k
theorem Go.less (h : Go D0 Γ' L P) (l : Less Γ' Γ) : Go D0 Γ L P := fun σ D H e g hd => h σ D H e (g.less l) hd
theorem go_X {ι : Type} {ok : ι → Prop} {Rx : ι → Rp} (h : Γ[i]? = some (some (rX ok Rx))) (k : ∀ x, ok x → Go D0 (Γ.set i (some (Rx x))) L P) : Go D0 Γ L P := fun σ D H e g hd => by
  obtain ⟨v, h1, x, o, h2⟩ := g.at' i _ h
  have q := k x o (σ.set i (some v)) D H e (g.set h2) hd
  have z : σ.set i (some v) = σ := by
    apply List.ext_getElem?
    intro j
    rw [List.getElem?_set]
    by_cases e : i = j
    · subst e
      rw [if_pos rfl, h1]
      rw [if_pos (List.getElem?_eq_some_iff.mp h1).1]
    · rw [if_neg e]
  rw [z] at q
  exact q
/-- a slot told by less -/
theorem go_as {R' : Rp} (h : Γ[i]? = some (some R)) (r : ∀ D v, R.r D v → R'.r D v) (k : Go D0 (Γ.set i (some R')) L P) : Go D0 Γ L P := fun σ D H e g hd => by
  obtain ⟨v, h1, h2⟩ := g.at' i _ h
  have q := k (σ.set i (some v)) D H e (g.set (r D v h2)) hd
  have z : σ.set i (some v) = σ := by
    apply List.ext_getElem?
    intro j
    rw [List.getElem?_set]
    by_cases e : i = j
    · subst e
      rw [if_pos rfl, h1]
      rw [if_pos (List.getElem?_eq_some_iff.mp h1).1]
    · rw [if_neg e]
  rw [z] at q
  exact q
theorem go_freeze {p : Addr} (h : Γ[i]? = some (some (rV (.ref p)))) (k : Go D0 (Γ.set i (some (rLst Rs))) L P) : Go D0 Γ (mL p Rs :: L) P := fun σ D H e g hd => by
  obtain ⟨D', e', hd', r'⟩ := hd.freeze
  obtain ⟨v, h1, h2⟩ := g.at' i _ h
  have h3 : v = .ref p := h2
  subst h3
  have q := k (σ.set i (some (.ref p))) D' H (e.trans e') ((g.up e').set r') hd'
  have z : σ.set i (some (.ref p)) = σ := by
    apply List.ext_getElem?
    intro j
    rw [List.getElem?_set]
    by_cases e : i = j
    · subst e
      rw [if_pos rfl, h1]
      rw [if_pos (List.getElem?_eq_some_iff.mp h1).1]
    · rw [if_neg e]
  rw [z] at q
  exact q
theorem go_pick (f : Nat → Nat) (k : Go D0 Γ L' P) (hf : ∀ i w, L'[i]? = some w → L[f i]? = some w) (inj : ∀ i j, i < L'.length → j < L'.length → f i = f j → i = j) : Go D0 Γ L P := fun σ D H e g hd => k σ D H e g (hd.pick f hf inj)
theorem go_swap {w u : Wd} (k : Go D0 Γ (u :: w :: L) P) : Go D0 Γ (w :: u :: L) P := fun σ D H e g hd => k σ D H e g hd.swap
theorem eg_frz {p : Addr} (h : Γ[i]? = some (some (rV (.ref p)))) : Eg (tVar i) Γ (mL p Rs :: L) (rLst Rs) L := fun σ D H g hd Q q => by
  obtain ⟨D', e', hd', r'⟩ := hd.freeze
  obtain ⟨v, h1, h2⟩ := g.at' i _ h
  exact ⟨v, h1, q v D' H e' hd' (by rw [show v = .ref p from h2]; exact r')⟩
/-- xs.append(e) -/
theorem eg_append {ta : TE} {p : Addr} {j : Nat} (ho : Eg ta Γ L (rV (.ref p)) L1) (hy : ∃ (j0 : Nat) (Rs0 : List Rp), L1[j0]? = some (mL p Rs0)) (h : Eg te Γ L1 R L') (hj : L'[j]? = some (mL p Rs)) (hz : Rs.length < 100000) :
    Eg (tBM K "list" rAppend ta (tCons te tNil)) Γ L (rV .non) (L'.set j (mL p (Rs ++ [R]))) := fun σ D H g hd Q q =>
  ho σ D H g hd _ fun x D1 H1 e1 h1 r1 => by
    have r1' : x = .ref p := r1
    subst r1'
    obtain ⟨j0, Rs0, k0⟩ := hy
    obtain ⟨_, vs0, hs0, _⟩ := h1.s _ _ k0
    refine ⟨Or.inl ⟨rfl, vs0, SqL.of hs0⟩, h σ D1 H1 (g.up e1) h1 _ fun v D2 H2 e2 h2 r2 => ?_⟩
    obtain ⟨n1, vs, hs, ha⟩ := h2.s _ _ hj
    refine ⟨p, vs, v, rfl, rfl, hs, sz_lt (by rw [ha.len]; exact hz), q _ D2 _ (e1.trans e2) (h2.set hj (fun a ha' => ?_) (fun a ha' => ha') ⟨n1, _, upd_same, ha.app (.cons r2 .nil)⟩) rfl⟩
    exact upd_ne fun z => ha' (List.mem_singleton.mpr z)
/-- xs[i] = e -/
theorem go_setL {ta tb : TE} {p : Addr} {j : Nat} {k : Nat} {L2' L3 : List Wd} (h : Eg te Γ L R L1) (ho : Eg ta Γ L1 (rV (.ref p)) L2') (hi : Eg tb Γ L2' (rD (.int (k : Int))) L3) (hj : L3[j]? = some (mL p Rs)) (hk : k < Rs.length)
    (kk : Go D0 Γ (L3.set j (mL p (Rs.set k R))) E.nx) : Go D0 Γ L (tAsg te (gSub ta tb rSetL) E) := fun σ D H e g hd =>
  h σ D H g hd _ fun v D1 H1 e1 h1 r1 => ho σ D1 H1 (g.up e1) h1 _ fun o D2 H2 e2 h2 r2 => hi σ D2 H2 ((g.up e1).up e2) h2 _ fun ix D3 H3 e3 h3 r3 => by
    obtain ⟨n1, vs, hs, ha⟩ := h3.s _ _ hj
    refine ⟨p, vs, (k : Int), k, r2, int_of r3, hs, ixN_nat (by rw [ha.len]; exact hk), kk σ D3 _ (((e.trans e1).trans e2).trans e3) (((g.up e1).up e2).up e3) (h3.set hj (fun a ha' => upd_ne fun z => ha' (List.mem_singleton.mpr z)) (fun a ha' => ha') ⟨n1, _, upd_same, ha.set (R.m (e2.trans e3) r1) k⟩)⟩
theorem go_aug {f : Int → Int → Int} {a b : Int} (hx : Γ[i]? = some (some (rD (.int a)))) (h : Eg te Γ L (rD (.int b)) L') (k : Go D0 (Γ.set i (some (rD (.int (f a b))))) L' E.nx) : Go D0 Γ L (tAug i te (ipI f) E) := fun σ D H e g hd => by
  obtain ⟨v, h1, h2⟩ := g.at' i _ hx
  exact ⟨v, h1, h σ D H g hd _ fun y D1 H1 e1 hd1 r1 => ⟨a, b, int_of h2, int_of r1, k _ D1 H1 (e.trans e1) ((g.up e1).set (.int _)) hd1⟩⟩
theorem go_par {j : Nat} {R1 R2 : Rp} (h : Ag tr Γ L [R1, R2] L') (k : Go D0 ((Γ.set i (some R1)).set j (some R2)) L' E.nx) : Go D0 Γ L (tPar i j tr E) := fun σ D H e g hd => h σ D H g hd _ fun vs D1 H1 e1 hd1 r1 => by
  cases r1 with
  | cons a t => cases t with
    | cons b t => cases t; exact ⟨_, _, rfl, k _ D1 H1 (e.trans e1) (((g.up e1).set a).set b) hd1⟩
/-- while -/
theorem go_while {tt : TT} {tb : TS} {ι : Type} (ok : Nat → ι → Prop) (Γi : ι → Gm) (Li : ι → List Wd) (h0 : ∃ m x, ok m x ∧ Less (Γi x) Γ ∧ L = Li x)
    (hs : ∀ m x D1, Ex D0 D1 → ok m x → ∃ b, Tg tt (Γi x) (Li x) b (Li x) ∧ (b = true → ∀ N : L2.St → Hp → Prop, (∀ m' x', m' < m → ok m' x' → Go D1 (Γi x') (Li x') N) → Go D1 (Γi x) (Li x) (tb { E with nx := N, ct := N, bk := E.nx })) ∧ (b = false → Go D1 (Γi x) (Li x) E.nx)) :
    Go D0 Γ L (tWhile tt tb E) := fun σ D H e g hd => by
  obtain ⟨m, x, o, l, rfl⟩ := h0
  refine ⟨fun m σ H => ∃ x D, Ex D0 D ∧ ok m x ∧ Gv D σ (Γi x) ∧ Hd D H (Li x), ⟨m, x, D, e, o, g.less l, hd⟩, ?_⟩
  rintro m σ H ⟨x, D, e, o, g, hd⟩
  obtain ⟨b, hb, h1, h2⟩ := hs m x D e o
  refine hb σ D H g hd _ fun D1 H1 e1 hd1 => ?_
  cases b with
  | true =>
    refine ⟨fun σ' H' => ∃ m', m' < m ∧ ∃ x D, Ex D0 D ∧ ok m' x ∧ Gv D σ' (Γi x) ∧ Hd D H' (Li x), fun σ' H' p => p, ?_⟩
    exact h1 rfl _ (fun m' x' hm o' σ' D' H' e' g' hd' => ⟨m', hm, x', D', e.trans e', o', g', hd'⟩) σ D1 H1 e1 (g.up e1) hd1
  | false => exact h2 rfl σ D1 H1 e1 (g.up e1) hd1

/-! ### what is walked -/
structure WalkD (J : It) (n : Nat) (D : Hp) (G : List Wd → Prop) (Y : Nat → Rp → Prop) : Prop where
  goes : ∀ i D' H' Lx, i < n → Ex D D' → G Lx → Hd D' H' Lx → J.go i H'
  stops : ∀ D' H' Lx, Ex D D' → G Lx → Hd D' H' Lx → J.stop n H'
  yields : ∀ i D' H' x H'' Lx, i < n → Ex D D' → G Lx → Hd D' H' Lx → J.yld i H' x H'' → ∃ D'' R, Ex D' D'' ∧ Hd D'' H'' Lx ∧ Y i R ∧ R.r D'' x
def Ig (wi : TI) (Γ : Gm) (L : List Wd) (n : Nat) (Y : Nat → Rp → Prop) (L' : List Wd) (G : List Wd → Prop) : Prop := ∀ σ D H, Gv D σ Γ → Hd D H L → ∀ R, (∀ J D2 H2, Ex D D2 → Hd D2 H2 L' → WalkD J n D2 G Y → R J H2) → wi σ H R
theorem go_for {wi : TI} {g : TG} {tb : TS} {n : Nat} {Yr : Nat → Rp → Prop} {G : List Wd → Prop} {ι : Type} (hi : Ig wi Γ L n Yr L1 G) (ok : Nat → ι → Prop) (Γi : Nat → ι → Gm) (Li : Nat → ι → List Wd)
    (h0 : ∃ x, ok 0 x ∧ Less (Γi 0 x) Γ ∧ L1 = Li 0 x) (hG : ∀ i x, i ≤ n → ok i x → G (Li i x))
    (hb : ∀ i x R D1 (N : L2.St → Hp → Prop), i < n → Ex D0 D1 → ok i x → Yr i R → (∀ x', ok (i + 1) x' → Go D1 (Γi (i + 1) x') (Li (i + 1) x') N) → ∃ Γt S, Tgt g R (Γi i x) Γt S ∧ Go D1 Γt (Li i x) (tb { E with nx := N, ct := N, bk := E.nx }))
    (hd : ∀ x, ok n x → Go D0 (Γi n x) (Li n x) E.nx) : Go D0 Γ L (tFor wi g tb E) := fun σ D H e g hD => by
  refine hi σ D H g hD _ fun J D2 H2 e2 h2 w => ?_
  obtain ⟨x0, o0, l0, rfl⟩ := h0
  refine ⟨fun i m σ H => m = n - i ∧ i ≤ n ∧ ∃ x D, Ex D2 D ∧ ok i x ∧ Gv D σ (Γi i x) ∧ Hd D H (Li i x), ⟨n, by simp, Nat.zero_le _, x0, D2, Ex.refl _, o0, (g.up e2).less l0, h2⟩, ?_⟩
  rintro i m σ H ⟨rfl, hi, x, D', e', o, g', h'⟩
  by_cases hlt : i < n
  · refine .inr ⟨w.goes i D' H _ hlt e' (hG i x hi o) h', fun σ H => ∃ x D, Ex D2 D ∧ ok (i + 1) x ∧ Gv D σ (Γi (i + 1) x) ∧ Hd D H (Li (i + 1) x), fun σ' H' p => ⟨n - (i + 1), by omega, rfl, hlt, p⟩, fun v H'' y => ?_⟩
    obtain ⟨D'', R, e3, h3, yR, rR⟩ := w.yields i D' H v H'' _ hlt e' (hG i x hi o) h' y
    obtain ⟨Γt, S, ht, hgo⟩ := hb i x R D'' (fun σ H => ∃ x D, Ex D2 D ∧ ok (i + 1) x ∧ Gv D σ (Γi (i + 1) x) ∧ Hd D H (Li (i + 1) x)) hlt (((e.trans e2).trans e').trans e3) o yR
      fun x' o' σ4 D4 H4 e4 g4 h4 => ⟨x', D4, (e'.trans e3).trans e4, o', g4, h4⟩
    exact ht v σ D'' H'' _ h3.ex rR (g'.up e3) fun σ5 g5 _ => hgo σ5 D'' H'' (Ex.refl _) g5 h3
  · have e1 : i = n := by omega
    subst e1
    exact .inl ⟨w.stops D' H _ e' (hG i x hi o) h', hd x o σ D' H ((e.trans e2).trans e') g' h'⟩
theorem Hd.rot {D H : Hp} {w : Wd} (h : Hd D H (L ++ [w])) : Hd D H (w :: L) :=
  h.pick (fun i => match i with | 0 => L.length | i + 1 => i) (fun i u e => by
    match i, e with
    | 0, e => show (L ++ [w])[L.length]? = some u; rw [List.getElem?_append_right (Nat.le_refl _), Nat.sub_self]; exact e
    | i + 1, e =>
      have e' : L[i]? = some u := e
      show (L ++ [w])[i]? = some u
      rw [List.getElem?_append_left (List.getElem?_eq_some_iff.mp e').1]; exact e') fun i j hi hj e => by
    match i, j, hi, hj, e with
    | 0, 0, _, _, _ => rfl
    | 0, j + 1, _, hj, e => simp at hj e; omega
    | i + 1, 0, hi, _, e => simp at hi e; omega
    | i + 1, j + 1, _, _, e => simp at e; omega
theorem Hd.last {D H : Hp} {w : Wd} (h : Hd D H (L ++ [w])) : w.s D H := h.rot.s 0 w rfl
theorem Hd.setLast {D H H' : Hp} {w w' : Wd} (h : Hd D H (L ++ [w])) (k : ∀ a, a ∉ w.dom → H' a = H a) (hd : ∀ a ∈ w'.dom, a ∈ w.dom) (hs : w'.s D H') : Hd D H' (L ++ [w']) := by
  have q := h.set (j := L.length) (w := w) (w' := w') (by rw [List.getElem?_append_right (Nat.le_refl _), Nat.sub_self]; rfl) k hd hs
  rwa [List.set_append_right _ _ (Nat.le_refl _), Nat.sub_self] at q
/-- a comprehension: res tells the items so far -/
theorem xg_lc {wi : TI} {g : TG} {tt : TT} {vs : List Nat} {n : Nat} {Yr : Nat → Rp → Prop} {G : List Wd → Prop} {ι : Type} (hi : Ig wi Γ L n Yr L1 G) (hz : n ≤ 100000)
    (ok : Nat → ι → Prop) (Li : Nat → ι → List Wd) (res : ι → List Rp) (h0 : ∃ x, ok 0 x ∧ L1 = Li 0 x ∧ res x = []) (hl : ∀ i x, ok i x → (res x).length ≤ i) (hG : ∀ i x F, i ≤ n → ok i x → G (Li i x ++ F))
    (hb : ∀ i x R, i < n → ok i x → Yr i R → ∃ Γt S, Tgt g R (wipeG Γ vs) Γt S ∧ (∀ s ∈ S, s ∈ vs) ∧ ∃ b, (∀ F, Tg tt Γt (Li i x ++ F) b (Li i x ++ F)) ∧
      (b = true → ∀ F, Xg te Γt (Li i x ++ F) fun v D H => ∃ x' R', ok (i + 1) x' ∧ Hd D H (Li (i + 1) x' ++ F) ∧ res x' = res x ++ [R'] ∧ R'.r D v) ∧
      (b = false → ∃ x', ok (i + 1) x' ∧ Li (i + 1) x' = Li i x ∧ res x' = res x)) :
    Xg (tLc wi g tt te vs) Γ L fun v D H => ∃ x, ok n x ∧ Hd D H (Li n x) ∧ (rLst (res x)).r D v := fun σ D H gv hD Q q => by
  refine hi σ D H gv hD _ fun J D2 H2 e2 h2 w => ?_
  obtain ⟨x0, o0, rfl, r0⟩ := h0
  intro Dl hDl
  refine ⟨fun i m H => m = n - i ∧ i ≤ n ∧ ∃ x D, Ex D2 D ∧ ok i x ∧ Hd D H (Li i x ++ [mL Dl (res x)]), ⟨n, by simp, Nat.zero_le _, x0, D2, Ex.refl _, o0, ?_⟩, ?_⟩
  · refine h2.newAt (Ex.new hDl) (fun a ha => by rw [List.mem_singleton.mp ha]; exact hDl) ⟨h2.dnone hDl, [], upd_same, ?_⟩
    rw [r0]; exact .nil
  rintro i m H ⟨rfl, hin, x, D', e', o, h'⟩
  by_cases hlt : i < n
  · refine .inr ⟨w.goes i D' H _ hlt e' (hG i x _ hin o) h', fun H => ∃ x D, Ex D2 D ∧ ok (i + 1) x ∧ Hd D H (Li (i + 1) x ++ [mL Dl (res x)]), fun H' p => ⟨n - (i + 1), by omega, rfl, hlt, p⟩, fun v H'' y => ?_⟩
    obtain ⟨D'', R, e3, h3, yR, rR⟩ := w.yields i D' H v H'' _ hlt e' (hG i x _ hin o) h' y
    obtain ⟨Γt, S, ht, hS, b, hf, h1, h1'⟩ := hb i x R hlt o yR
    refine ht v (wipe σ vs) D'' H'' _ h3.ex rR (((gv.up e2).up (e'.trans e3)).wiped vs) fun σ5 g5 w5 => ⟨(w5 vs hS).trans (wipe_wipe fun u hu => hu), ?_⟩
    refine hf _ σ5 D'' H'' g5 h3 _ fun D6 H6 e6 h6 => ?_
    cases b with
    | true =>
      show te σ5 H6 _
      refine h1 rfl _ σ5 D6 H6 (g5.up e6) h6 _ fun z D7 H7 e7 ⟨x', R', o', h7, rs, r7⟩ => ?_
      obtain ⟨n7, acc, hac, al⟩ := h7.last
      refine ⟨acc, hac, sz_lt (by rw [al.len]; have := hl i x o; omega), x', D7, ((e'.trans e3).trans e6).trans e7, o', ?_⟩
      refine h7.setLast (fun a ha' => upd_ne fun z => ha' (List.mem_singleton.mpr z)) (fun a ha => ha) ⟨n7, _, upd_same, ?_⟩
      rw [rs]
      exact al.app (.cons r7 .nil)
    | false =>
      obtain ⟨x', o', l', r'⟩ := h1' rfl
      exact ⟨x', D6, (e'.trans e3).trans e6, o', by rw [l', r']; exact h6⟩
  · have e1 : i = n := by omega
    subst e1
    obtain ⟨D3, e3, h3, r3⟩ := h'.rot.freeze
    exact .inl ⟨w.stops D' H _ e' (hG i x _ hin o) h', q _ D3 H ((e2.trans e').trans e3) ⟨x, o, h3, r3⟩⟩
/-- .. that leaves the heap's words as they are, its items told by their place -/
theorem eg_lc {wi : TI} {g : TG} {tt : TT} {vs : List Nat} {n : Nat} {Yr : Nat → Rp → Prop} {G : List Wd → Prop} (hi : Ig wi Γ L n Yr L1 G) (hz : n ≤ 100000) (f : Nat → Bool) (Re : Nat → Rp)
    (hG : ∀ F, G (L1 ++ F)) (hb : ∀ i R, i < n → Yr i R → ∃ Γt S, Tgt g R (wipeG Γ vs) Γt S ∧ (∀ s ∈ S, s ∈ vs) ∧ (∀ F, Tg tt Γt (L1 ++ F) (f i) (L1 ++ F)) ∧ (f i = true → ∀ F, Eg te Γt (L1 ++ F) (Re i) (L1 ++ F))) :
    Eg (tLc wi g tt te vs) Γ L (rLst (((List.range n).filter f).map Re)) L1 := by
  have h := xg_lc (te := te) (tt := tt) (g := g) (vs := vs) hi hz (ι := Nat) (fun i x => x = i) (fun _ _ => L1) (fun x => ((List.range x).filter f).map Re) ⟨0, rfl, rfl, rfl⟩ (fun i x e => by
    rw [List.length_map, e]
    have := List.length_filter_le f (List.range i)
    rwa [List.length_range] at this) (fun i x F _ _ => hG F) ?_
  · intro σ D H g hd Q q
    refine h σ D H g hd Q fun v D2 H2 e2 ⟨x, o, h2, r2⟩ => ?_
    subst o
    exact q v D2 H2 e2 h2 r2
  · rintro i x R hlt rfl yR
    obtain ⟨Γt, S, ht, hS, hf, he⟩ := hb x R hlt yR
    refine ⟨Γt, S, ht, hS, f x, hf, fun e F => ?_, fun e => ?_⟩
    · intro σ D H g hd Q q
      refine he e F σ D H g hd Q fun v D2 H2 e2 h2 r2 => q v D2 H2 e2 ⟨x + 1, Re x, rfl, h2, ?_, r2⟩
      rw [List.range_succ, List.filter_append, List.map_append, List.filter_cons, if_pos e]; rfl
    · refine ⟨x + 1, rfl, rfl, ?_⟩
      rw [List.range_succ, List.filter_append, List.map_append, List.filter_cons, if_neg (by rw [e]; decide)]
      exact List.append_nil _
end
end Fb

/-! What is walked, built-in calls, the promise of a def and its calls. -/
namespace Fb
open PySem PySem.Spec L2 Evl
section
variable {K : PySem.W.Frag} {Γ Γ' : Gm} {L L1 L2' L' : List Wd} {R Ra Y : Rp} {Rs Ys : List Rp} {te ta tb tl : TE} {tr : TA} {D0 : Hp} {i : Nat}

/-! ### what is walked -/
theorem WalkD.at' {J : It} {n : Nat} {D : Hp} {G : List Wd → Prop} {Rs : List Rp} {G0 : Hp → Prop} {Y0 : Nat → Hp → V → Hp → Prop} (w : Walk J n G0 Y0)
    (hG : ∀ D' H' Lx, Ex D D' → G Lx → Hd D' H' Lx → G0 H') (hY : ∀ i D' H' x H'' Lx, i < n → Ex D D' → G Lx → Hd D' H' Lx → Y0 i H' x H'' → H'' = H' ∧ ∃ R, Rs[i]? = some R ∧ R.r D' x) : WalkD J n D G fun i R => Rs[i]? = some R :=
  ⟨fun i D' H' Lx hi e g hd => w.goes i H' hi (hG D' H' Lx e g hd), fun D' H' Lx e g hd => w.stops H' (hG D' H' Lx e g hd), fun i D' H' x H'' Lx hi e g hd y => by
    obtain ⟨h1, R, h2, h3⟩ := hY i D' H' x H'' Lx hi e g hd (w.yields i H' x H'' hi (hG D' H' Lx e g hd) y)
    subst h1
    exact ⟨D', R, Ex.refl _, hd, h2, h3⟩⟩
theorem WalkD.pair {J : It} {n : Nat} {D : Hp} {G : List Wd → Prop} {Y1 Y2 : Nat → Rp → Prop} {xs ys : Nat → Option V} {G0 : Hp → Prop} (w : Walk J n G0 (YPair xs ys))
    (hG : ∀ D' H' Lx, Ex D D' → G Lx → Hd D' H' Lx → G0 H') (hY : ∀ i D' H' x y Lx, i < n → Ex D D' → G Lx → Hd D' H' Lx → xs i = some x → ys i = some y → (∃ R, Y1 i R ∧ R.r D' x) ∧ ∃ R, Y2 i R ∧ R.r D' y) :
    WalkD J n D G fun i R => ∃ R1 R2, R = rTup [R1, R2] ∧ Y1 i R1 ∧ Y2 i R2 :=
  ⟨fun i D' H' Lx hi e g hd => w.goes i H' hi (hG D' H' Lx e g hd), fun D' H' Lx e g hd => w.stops H' (hG D' H' Lx e g hd), fun i D' H' x H'' Lx hi e g hd y => by
    obtain ⟨T, a, b, rfl, hT, rfl, ha, hb⟩ := w.yields i H' x H'' hi (hG D' H' Lx e g hd) y
    obtain ⟨⟨R1, y1, r1⟩, R2, y2, r2⟩ := hY i D' H' a b Lx hi e g hd ha hb
    have e2 := hd.exnew (o := .tup [a, b]) hT
    exact ⟨upd D' T (.tup [a, b]), _, e2, hd.alloc hT, ⟨R1, R2, rfl, y1, y2⟩, T, [a, b], rfl, upd_same, .cons (R1.m e2 r1) (.cons (R2.m e2 r2) .nil)⟩⟩
theorem AllR.nth {D : Hp} {vs : List V} {Rs : List Rp} {i : Nat} {v : V} (h : AllR D vs Rs) (e : vs[i]? = some v) : ∃ R, Rs[i]? = some R ∧ R.r D v := by
  have hl : i < Rs.length := by
    rw [← h.len]; exact (List.getElem?_eq_some_iff.mp e).1
  obtain ⟨v', h1, h2⟩ := h.get (List.getElem?_eq_getElem hl)
  rw [e] at h1; cases h1
  exact ⟨_, List.getElem?_eq_getElem hl, h2⟩
abbrev gT : List Wd → Prop := fun _ => True
abbrev gW (w : Wd) : List Wd → Prop := fun Lx => ∃ j : Nat, Lx[j]? = some w
theorem gW.app {w : Wd} {Lx F : List Wd} (h : gW w Lx) : gW w (Lx ++ F) := let ⟨j, e⟩ := h; ⟨j, by rw [List.getElem?_append_left (List.getElem?_eq_some_iff.mp e).1]; exact e⟩
theorem ig_list (h : Eg tl Γ L (rLst Rs) L') : Ig (iList K tl) Γ L Rs.length (fun i R => Rs[i]? = some R) L' gT := fun σ D H g hd R k => h σ D H g hd _ fun x D1 H1 e1 h1 ⟨a, vs, ex, hs, al⟩ =>
  ⟨a, ex, ⟨vs, SqL.of (h1.ex _ _ hs)⟩, k _ D1 H1 e1 h1 (by
    rw [← al.len]
    exact WalkD.at' (walk_list (a := a) (xs := vs)) (fun D' H' Lx e _ hd' => SqL.of (hd'.ex _ _ (e _ _ hs))) fun i D' H' x H'' Lx hi e _ hd' y => ⟨y.1, by
      obtain ⟨R', q1, q2⟩ := al.nth y.2
      exact ⟨R', q1, R'.m e q2⟩⟩)⟩
theorem ig_tup (h : Eg tl Γ L (rTup Rs) L') : Ig (iTup K tl) Γ L Rs.length (fun i R => Rs[i]? = some R) L' gT := fun σ D H g hd R k => h σ D H g hd _ fun x D1 H1 e1 h1 ⟨a, vs, ex, hs, al⟩ =>
  ⟨a, ex, ⟨vs, SqT.of (h1.ex _ _ hs)⟩, k _ D1 H1 e1 h1 (by
    rw [← al.len]
    exact WalkD.at' (walk_tup (a := a) (xs := vs)) (fun D' H' Lx e _ hd' => SqT.of (hd'.ex _ _ (e _ _ hs))) fun i D' H' x H'' Lx hi e _ hd' y => ⟨y.1, by
      obtain ⟨R', q1, q2⟩ := al.nth y.2
      exact ⟨R', q1, R'.m e q2⟩⟩)⟩
theorem ig_listW {p : Addr} (h : Eg tl Γ L (rV (.ref p)) L') (hw : gW (mL p Rs) L') : Ig (iList K tl) Γ L Rs.length (fun i R => Rs[i]? = some R) L' (gW (mL p Rs)) := fun σ D H g hd R k => h σ D H g hd _ fun x D1 H1 e1 h1 ex => by
  obtain ⟨j, hj⟩ := hw
  obtain ⟨_, vs, hs, al⟩ := h1.s _ _ hj
  have len : vs.length = Rs.length := al.len
  refine ⟨p, ex, ⟨vs, SqL.of hs⟩, k _ D1 H1 e1 h1 ?_⟩
  refine ⟨fun i D' H' Lx hi e g' hd' => ?_, fun D' H' Lx e g' hd' => ?_, fun i D' H' x H'' Lx hi e g' hd' y => ?_⟩
  · obtain ⟨j', hj'⟩ := g'
    obtain ⟨_, ws, hs', al'⟩ := hd'.s _ _ hj'
    exact ⟨ws, ws[i]'(by rw [al'.len]; exact hi), SqL.of hs', by simp⟩
  · obtain ⟨j', hj'⟩ := g'
    obtain ⟨_, ws, hs', al'⟩ := hd'.s _ _ hj'
    exact ⟨ws, SqL.of hs', by rw [al'.len]; exact Nat.le_refl _⟩
  · obtain ⟨j', hj'⟩ := g'
    obtain ⟨_, ws, hs', al'⟩ := hd'.s _ _ hj'
    obtain ⟨y1, y2⟩ := y
    subst y1
    obtain ⟨R', q1, q2⟩ := al'.nth (y2 ws (SqL.of hs'))
    exact ⟨D', R', Ex.refl _, hd', q1, q2⟩
theorem Ig.to {wi : TI} {n n' : Nat} {Yr Yr' : Nat → Rp → Prop} {G : List Wd → Prop} (h : Ig wi Γ L n Yr L' G) (hn : n = n') (hy : ∀ i R, i < n → Yr i R → ∃ R', Yr' i R' ∧ ∀ D v, R.r D v → R'.r D v) : Ig wi Γ L n' Yr' L' G := by
  subst hn
  exact fun σ D H g hd R k => h σ D H g hd R fun J D2 H2 e2 h2 w => k J D2 H2 e2 h2 ⟨w.goes, w.stops, fun i D' H' x H'' Lx hi e g' hd' y => by
    obtain ⟨D'', R, h1, h2, h3, h4⟩ := w.yields i D' H' x H'' Lx hi e g' hd' y
    obtain ⟨R', y', im⟩ := hy i R hi h3
    exact ⟨D'', R', h1, h2, y', im _ _ h4⟩⟩
/-- the i-th of data -/
abbrev YD (ds : List PyData) : Nat → Rp → Prop := fun i R => ∃ d, ds[i]? = some d ∧ R = rD d
theorem yd_of {ds : List PyData} {i : Nat} {R : Rp} (h : (ds.map (rD))[i]? = some R) : YD ds i R := by
  rw [List.getElem?_map] at h
  cases q : ds[i]? with
  | none => rw [q] at h; cases h
  | some d => rw [q] at h; cases h; exact ⟨d, q, rfl⟩
theorem ig_listD {ds : List PyData} (h : Eg tl Γ L (rD (.list ds)) L') : Ig (iList K tl) Γ L ds.length (YD ds) L' gT :=
  (ig_list (h.imp fun _ _ => lst_rD)).to (by rw [List.length_map]) fun i R _ y => ⟨R, yd_of y, fun _ _ q => q⟩
theorem ig_tupD {ds : List PyData} (h : Eg tl Γ L (rD (.tuple ds)) L') : Ig (iTup K tl) Γ L ds.length (YD ds) L' gT :=
  (ig_tup (h.imp fun _ _ => tup_rD)).to (by rw [List.length_map]) fun i R _ y => ⟨R, yd_of y, fun _ _ q => q⟩
theorem ig_listWD {p : Addr} {ds : List PyData} (h : Eg tl Γ L (rV (.ref p)) L') (hw : gW (mL p (ds.map (rD))) L') : Ig (iList K tl) Γ L ds.length (YD ds) L' (gW (mL p (ds.map (rD)))) :=
  (ig_listW h hw).to (by rw [List.length_map]) fun i R _ y => ⟨R, yd_of y, fun _ _ q => q⟩
theorem ig_rng1 {n : Int} (h : Ag tr Γ L [rD (.int n)] L') (h1 : -1000000 ≤ n) (h2 : n ≤ 1000000) : Ig (iRng1 tr) Γ L n.toNat (fun i R => R = rD (.int (i : Int))) L' gT := fun σ D H g hd R k => h σ D H g hd _ fun xs D1 H1 e1 h1 r1 => by
  cases r1 with
  | cons a t =>
    cases t
    have e := int_of a
    subst e
    refine ⟨n, rfl, by omega, by omega, k _ D1 H1 e1 h1 ?_⟩
    refine ⟨fun i D' H' Lx hi _ _ _ => hi, fun D' H' Lx _ _ _ => Nat.le_refl _, fun i D' H' x H'' Lx hi e _ hd' y => ?_⟩
    obtain ⟨y1, y2⟩ := y
    subst y1 y2
    exact ⟨D', _, Ex.refl _, hd', rfl, by rw [Int.zero_add]; exact .int _⟩
/-- enumerate -/
abbrev YE (Y : Nat → Rp → Prop) : Nat → Rp → Prop := fun i R => ∃ R1, Y i R1 ∧ R = rTup [rD (.int (i : Int)), R1]
theorem ig_enum (h : Ag tr Γ L [rLst Rs] L') : Ig (iEnum K tr) Γ L Rs.length (YE fun i R => Rs[i]? = some R) L' gT := fun σ D H g hd R k => h σ D H g hd _ fun xs D1 H1 e1 h1 r1 => by
  cases r1 with
  | cons a t =>
    cases t
    obtain ⟨a, vs, rfl, hs, al⟩ := a
    refine ⟨a, vs, rfl, SqL.of (h1.ex _ _ hs), k _ D1 H1 e1 h1 ?_⟩
    rw [← al.len]
    have w := WalkD.pair (n := vs.length) (D := D1) (G := gT) (Y1 := fun i R => R = rD (.int (i : Int))) (Y2 := fun i R => Rs[i]? = some R) (walk_enum (K := K) (a := a) (xs := vs)) (fun D' H' Lx e _ hd' => SqL.of (hd'.ex _ _ (e _ _ hs)))
      fun i D' H' x y Lx hi e _ hd' hx hy => ⟨⟨_, rfl, by cases hx; exact .int _⟩, by
        obtain ⟨R', q1, q2⟩ := al.nth hy
        exact ⟨R', q1, R'.m e q2⟩⟩
    refine ⟨w.goes, w.stops, fun i D' H' x H'' Lx hi e g' hd' y => ?_⟩
    obtain ⟨D'', R, h1, h2, ⟨R1, R2, rfl, rfl, y2⟩, h4⟩ := w.yields i D' H' x H'' Lx hi e g' hd' y
    exact ⟨D'', _, h1, h2, ⟨R2, y2, rfl⟩, h4⟩
theorem ig_enumD {ds : List PyData} (h : Ag tr Γ L [rD (.list ds)] L') : Ig (iEnum K tr) Γ L ds.length (YE (YD ds)) L' gT :=
  (ig_enum (h.imp fun D vs q => by cases q with | cons a t => exact .cons (lst_rD a) t)).to (by rw [List.length_map]) fun i R _ ⟨R1, y, e⟩ => ⟨R, ⟨R1, yd_of y, e⟩, fun _ _ q => q⟩
theorem ig_enumW {p : Addr} (h : Ag tr Γ L [rV (.ref p)] L') (hw : gW (mL p Rs) L') : Ig (iEnum K tr) Γ L Rs.length (YE fun i R => Rs[i]? = some R) L' (gW (mL p Rs)) := fun σ D H g hd R k => h σ D H g hd _ fun xs D1 H1 e1 h1 r1 => by
  cases r1 with
  | cons a t =>
    cases t
    have e0 := a
    subst e0
    obtain ⟨j, hj⟩ := hw
    obtain ⟨_, vs, hs, al⟩ := h1.s _ _ hj
    refine ⟨p, vs, rfl, SqL.of hs, k _ D1 H1 e1 h1 ?_⟩
    refine ⟨fun i D' H' Lx hi e g' hd' => ?_, fun D' H' Lx e g' hd' => ?_, fun i D' H' x H'' Lx hi e g' hd' y => ?_⟩
    · obtain ⟨j', hj'⟩ := g'
      obtain ⟨_, ws, hs', al'⟩ := hd'.s _ _ hj'
      exact ⟨ws, ws[i]'(by rw [al'.len]; exact hi), SqL.of hs', by simp⟩
    · obtain ⟨j', hj'⟩ := g'
      obtain ⟨_, ws, hs', al'⟩ := hd'.s _ _ hj'
      exact ⟨ws, SqL.of hs', by rw [al'.len]; exact Nat.le_refl _⟩
    · obtain ⟨j', hj'⟩ := g'
      obtain ⟨_, ws, hs', al'⟩ := hd'.s _ _ hj'
      obtain ⟨T, z, rfl, hT, rfl, hz⟩ := y
      obtain ⟨R', q1, q2⟩ := al'.nth (hz ws (SqL.of hs'))
      have e2 := hd'.exnew (o := .tup [.int (i : Nat), z]) hT
      exact ⟨_, _, e2, hd'.alloc hT, ⟨R', q1, rfl⟩, T, _, rfl, upd_same, .cons (.int _) (.cons (R'.m e2 q2) .nil)⟩
theorem ig_enumWD {p : Addr} {ds : List PyData} (h : Ag tr Γ L [rV (.ref p)] L') (hw : gW (mL p (ds.map (rD))) L') : Ig (iEnum K tr) Γ L ds.length (YE (YD ds)) L' (gW (mL p (ds.map (rD)))) :=
  (ig_enumW h hw).to (by rw [List.length_map]) fun i R _ ⟨R1, y, e⟩ => ⟨R, ⟨R1, yd_of y, e⟩, fun _ _ q => q⟩
/-- reversed, of a list that is known -/
theorem ig_rev (h : Ag tr Γ L [rLst Rs] L') : Ig (iRev K tr) Γ L Rs.length (fun i R => Rs.reverse[i]? = some R) L' gT := fun σ D H g hd R k => h σ D H g hd _ fun xs D1 H1 e1 h1 r1 => by
  cases r1 with
  | cons a t =>
    cases t
    obtain ⟨a, vs, rfl, hs, al⟩ := a
    refine ⟨a, vs, rfl, SqL.of (h1.ex _ _ hs), k _ D1 H1 e1 h1 ?_⟩
    rw [← al.len]
    refine WalkD.at' (Rs := Rs.reverse) (walk_rev (a := a) (xs := vs)) (fun D' H' Lx e _ hd' => SqL.of (hd'.ex _ _ (e _ _ hs))) fun i D' H' x H'' Lx hi e _ hd' y => ⟨y.1, ?_⟩
    obtain ⟨R', q1, q2⟩ := al.nth y.2
    refine ⟨R', ?_, R'.m e q2⟩
    rw [List.getElem?_reverse (by rw [← al.len]; exact hi), ← al.len]
    exact q1
theorem ig_revD {ds : List PyData} (h : Ag tr Γ L [rD (.list ds)] L') : Ig (iRev K tr) Γ L ds.length (YD ds.reverse) L' gT :=
  (ig_rev (h.imp fun D vs q => by cases q with | cons a t => exact .cons (lst_rD a) t)).to (by rw [List.length_map]) fun i R _ y => ⟨R, yd_of (by rw [← List.map_reverse] at y; exact y), fun _ _ q => q⟩

/-! ### built-in calls -/
abbrev rLenV (K : PySem.W.Frag) : List V → Hp → VK → Prop := fun xs H Q => ∃ x n, xs = [x] ∧ LenV K x H n ∧ Q (.int n) H
theorem cg_lenL : Cg (rLenV K) [rLst Rs] L (rD (.int (Rs.length : Nat))) L := fun xs D H hd r Q q => by
  cases r with
  | cons a t =>
    cases t
    obtain ⟨a, vs, rfl, hs, al⟩ := a
    exact ⟨_, vs.length, rfl, .inl ⟨vs, SqL.of (hd.ex _ _ hs), rfl⟩, q _ D H (Ex.refl _) hd (by rw [al.len]; exact .int _)⟩
theorem cg_lenT : Cg (rLenV K) [rTup Rs] L (rD (.int (Rs.length : Nat))) L := fun xs D H hd r Q q => by
  cases r with
  | cons a t =>
    cases t
    obtain ⟨a, vs, rfl, hs, al⟩ := a
    exact ⟨_, vs.length, rfl, .inr ⟨vs, SqT.of (hd.ex _ _ hs), rfl⟩, q _ D H (Ex.refl _) hd (by rw [al.len]; exact .int _)⟩
theorem cg_lenW {p : Addr} {j : Nat} (hj : L[j]? = some (mL p Rs)) : Cg (rLenV K) [rV (.ref p)] L (rD (.int (Rs.length : Nat))) L := fun xs D H hd r Q q => by
  cases r with
  | cons a t =>
    cases t
    have e := a
    subst e
    obtain ⟨_, vs, hs, al⟩ := hd.s _ _ hj
    exact ⟨_, vs.length, rfl, .inl ⟨vs, SqL.of hs, rfl⟩, q _ D H (Ex.refl _) hd (by rw [al.len]; exact .int _)⟩
theorem Cg.pre {r : List V → Hp → VK → Prop} {Rs' : List Rp} (h : Cg r Rs L R L') (k : ∀ D vs, AllR D vs Rs' → AllR D vs Rs) : Cg r Rs' L R L' := fun xs D H hd a => h xs D H hd (k D xs a)
theorem Cg.imp {r : List V → Hp → VK → Prop} {R' : Rp} (h : Cg r Rs L R L') (k : ∀ D v, R.r D v → R'.r D v) : Cg r Rs L R' L' := fun xs D H hd a Q q => h xs D H hd a Q fun v D2 H2 e h2 r => q v D2 H2 e h2 (k D2 v r)
theorem cg_lenD {ds : List PyData} : Cg (rLenV K) [rD (.list ds)] L (rD (.int (ds.length : Nat))) L := by
  have h := cg_lenL (K := K) (Rs := ds.map (rD)) (L := L)
  rw [List.length_map] at h
  exact h.pre fun D vs q => by cases q with | cons a t => exact .cons (lst_rD a) t
theorem cg_lenDT {ds : List PyData} : Cg (rLenV K) [rD (.tuple ds)] L (rD (.int (ds.length : Nat))) L := by
  have h := cg_lenT (K := K) (Rs := ds.map (rD)) (L := L)
  rw [List.length_map] at h
  exact h.pre fun D vs q => by cases q with | cons a t => exact .cons (tup_rD a) t
theorem cg_lenS {z : Str} (hz : z.length ≤ 100000) : Cg (rLenV K) [rD (.str z)] L (rD (.int (z.length : Nat))) L := fun xs D H hd r Q q => by
  cases r with
  | cons a t =>
    cases t
    have e := str_of a
    subst e
    exact ⟨_, z.length, rfl, ⟨sz_of hz, rfl⟩, q _ D H (Ex.refl _) hd (.int _)⟩
abbrev rListOf (K : PySem.W.Frag) : List V → Hp → VK → Prop := fun xs H Q => ∃ p ys, xs = [.ref p] ∧ (SqL K H p ys ∨ SqT K H p ys) ∧ ∀ l, H l = none → Q (.ref l) (upd H l (.lst ys))
theorem cg_listL : Cg (rListOf K) [rLst Rs] L (rLst Rs) L := fun xs D H hd r Q q => by
  cases r with
  | cons a t =>
    cases t
    obtain ⟨a, vs, rfl, hs, al⟩ := a
    exact ⟨_, vs, rfl, .inl (SqL.of (hd.ex _ _ hs)), fun l hl => q _ _ _ (hd.exnew hl) (hd.alloc hl) ⟨l, vs, rfl, upd_same, al.up (hd.exnew hl)⟩⟩
theorem cg_listD {ds : List PyData} : Cg (rListOf K) [rD (.list ds)] L (rD (.list ds)) L :=
  (cg_listL (Rs := ds.map (rD))).pre (fun D vs q => by cases q with | cons a t => exact .cons (lst_rD a) t) |>.imp fun D v => rD_lst
theorem cg_listW {p : Addr} {j : Nat} (hj : L[j]? = some (mL p Rs)) : Cg (rListOf K) [rV (.ref p)] L (rLst Rs) L := fun xs D H hd r Q q => by
  cases r with
  | cons a t =>
    cases t
    have e := a
    subst e
    obtain ⟨_, vs, hs, al⟩ := hd.s _ _ hj
    exact ⟨_, vs, rfl, .inl (SqL.of hs), fun l hl => q _ _ _ (hd.exnew hl) (hd.alloc hl) ⟨l, vs, rfl, upd_same, al.up (hd.exnew hl)⟩⟩
abbrev rTupOf (K : PySem.W.Frag) : List V → Hp → VK → Prop := fun xs H Q => ∃ p ys, xs = [.ref p] ∧ ((SqL K H p ys ∧ ∀ l, H l = none → Q (.ref l) (upd H l (.tup ys))) ∨ (SqT K H p ys ∧ Q (.ref p) H))
theorem cg_tupL : Cg (rTupOf K) [rLst Rs] L (rTup Rs) L := fun xs D H hd r Q q => by
  cases r with
  | cons a t =>
    cases t
    obtain ⟨a, vs, rfl, hs, al⟩ := a
    exact ⟨_, vs, rfl, .inl ⟨SqL.of (hd.ex _ _ hs), fun l hl => q _ _ _ (hd.exnew hl) (hd.alloc hl) ⟨l, vs, rfl, upd_same, al.up (hd.exnew hl)⟩⟩⟩
theorem cg_tupD {ds : List PyData} : Cg (rTupOf K) [rD (.list ds)] L (rD (.tuple ds)) L :=
  (cg_tupL (Rs := ds.map (rD))).pre (fun D vs q => by cases q with | cons a t => exact .cons (lst_rD a) t) |>.imp fun D v => rD_tup
theorem Dp.bools {D : Hp} : ∀ {bs : List Bool} {vs : List V}, AllR D vs (bs.map fun b => rD (.bool b)) → vs = bs.map V.bl
  | [], _, h => by cases h; rfl
  | b :: bs, _, h => by
    cases h with
    | cons a t => rw [Dp.bools t, bl_of a]; rfl
theorem Dp.ints {D : Hp} : ∀ {bs : List Int} {vs : List V}, AllR D vs (bs.map fun b => rD (.int b)) → vs = bs.map V.int
  | [], _, h => by cases h; rfl
  | b :: bs, _, h => by
    cases h with
    | cons a t => rw [Dp.ints t, int_of a]; rfl
theorem Dp.strs {D : Hp} : ∀ {bs : List Str} {vs : List V}, AllR D vs (bs.map fun b => rD (.str b)) → vs = bs.map V.str
  | [], _, h => by cases h; rfl
  | b :: bs, _, h => by
    cases h with
    | cons a t => rw [Dp.strs t, str_of a]; rfl
theorem cg_all {bs : List Bool} : Cg (rAll K) [rLst (bs.map fun b => rD (.bool b))] L (rD (.bool (bs.all id))) L := fun xs D H hd r Q q => by
  cases r with
  | cons a t =>
    cases t
    obtain ⟨a, vs, rfl, hs, al⟩ := a
    exact ⟨a, bs, rfl, by rw [← Dp.bools al]; exact SqL.of (hd.ex _ _ hs), q _ D H (Ex.refl _) hd (.bl _)⟩
theorem cg_sum {ns : List Int} : Cg (rSum K) [rLst (ns.map fun b => rD (.int b))] L (rD (.int ns.sum)) L := fun xs D H hd r Q q => by
  cases r with
  | cons a t =>
    cases t
    obtain ⟨a, vs, rfl, hs, al⟩ := a
    exact ⟨a, ns, rfl, by rw [← Dp.ints al]; exact SqL.of (hd.ex _ _ hs), q _ D H (Ex.refl _) hd (.int _)⟩
/-- the i-th of data -/
theorem og_ixD {ds : List PyData} {d : PyData} {i : Int} (h : atI ds i = some d) : Og (rIxL K) (rD (.list ds)) (rD (.int i)) L (rD d) L := fun x y D H hd rx ry => by
  refine og_ixL (Rs := ds.map (rD)) ?_ x y D H hd (lst_rD rx) ry
  unfold atI at h ⊢
  rw [List.length_map]
  cases hj : ixN ds.length i with
  | none => rw [hj] at h; cases h
  | some j =>
    rw [hj] at h
    show (ds.map (rD))[j]? = some (rD d)
    rw [List.getElem?_map, show ds[j]? = some d from h]; rfl
theorem og_ixDT {ds : List PyData} {d : PyData} {i : Int} (h : atI ds i = some d) : Og (rIxT K) (rD (.tuple ds)) (rD (.int i)) L (rD d) L := fun x y D H hd rx ry => by
  refine og_ixT (Rs := ds.map (rD)) ?_ x y D H hd (tup_rD rx) ry
  unfold atI at h ⊢
  rw [List.length_map]
  cases hj : ixN ds.length i with
  | none => rw [hj] at h; cases h
  | some j =>
    rw [hj] at h
    show (ds.map (rD))[j]? = some (rD d)
    rw [List.getElem?_map, show ds[j]? = some d from h]; rfl

/-! ### what type a value is of -/
theorem ty_lst {D H : Hp} {v : V} (e : Ex D H) (h : (rLst Rs).r D v) : TyX K H v (.type "list") := by
  obtain ⟨a, vs, rfl, hs, _⟩ := h
  exact .base (.lst (e _ _ hs))
theorem ty_tup {D H : Hp} {v : V} (e : Ex D H) (h : (rTup Rs).r D v) : TyX K H v (.type "tuple") := by
  obtain ⟨a, vs, rfl, hs, _⟩ := h
  exact .base (.tup (e _ _ hs))
def tyD : PyData → String
  | .none => "NoneType" | .bool _ => "bool" | .int _ => "int" | .str _ => "str" | .list _ => "list" | .tuple _ => "tuple" | .dict _ => "dict"
theorem ty_D {D H : Hp} {v : V} (e : Ex D H) : ∀ {d : PyData}, (rD d).r D v → TyX K H v (.type (tyD d))
  | .none, h => by rw [non_of h]; exact .base .non
  | .bool b, h => by rw [bl_of h]; exact .base (.bl b)
  | .int i, h => by rw [int_of h]; exact .base (.int i)
  | .str i, h => by rw [str_of h]; exact .base (.str i)
  | .list _, h => ty_lst e (lst_rD h)
  | .tuple _, h => ty_tup e (tup_rD h)
  | .dict _, h => by cases h
theorem cg_isi {d : PyData} {t : String} {b : Bool} (h : kitB (tyD d) t = some b) : Cg (rIsi K) [rD d, rV (.ty t)] L (rD (.bool b)) L := fun xs D H hd r Q q => by
  cases r with
  | cons a t' =>
    cases t' with
    | cons c t' =>
      cases t'
      have e := c
      subst e
      exact ⟨_, _, _, _, b, rfl, .ty t, ty_D hd.ex a, kit_ty h, q _ D H (Ex.refl _) hd (.bl _)⟩

/-! ### the promise of a def -/
/-- ι: what the arguments are, κ: what the answer is -/
def spX {ι κ : Type} (ok : ι → Prop) (A : ι → List Rp) (Li : ι → List Wd) (okp : ι → κ → Prop) (Ri : ι → κ → Rp) (Lp : ι → κ → List Wd) : Sp := fun vs H Q _ =>
  ∃ i F D, ok i ∧ Hd D H (Li i ++ F) ∧ AllR D vs (A i) ∧ ∀ v D' H' x, Ex D D' → okp i x → Hd D' H' (Lp i x ++ F) → (Ri i x).r D' v → Q v H'
abbrev spP {ι : Type} (ok : ι → Prop) (A : ι → List Rp) (Ri : ι → Rp) : Sp := spX (κ := Unit) ok A (fun _ => []) (fun _ _ => True) (fun i _ => Ri i) fun _ _ => []
section
variable {ι κ : Type} {ok : ι → Prop} {A : ι → List Rp} {Li : ι → List Wd} {okp : ι → κ → Prop} {Ri : ι → κ → Rp} {Lp : ι → κ → List Wd}
/-- the slots at the entry -/
def gam (N : List Str) (As : List Rp) : Gm := As.map some ++ List.replicate (N.length - As.length) none
theorem gam_start {N : List Str} {D : Hp} {vs : List V} {As : List Rp} (h : AllR D vs As) : Gv D (L2.start N vs) (gam N As) := by
  have hl := h.len
  refine ⟨by unfold L2.start gam; rw [List.length_append, List.length_append, List.length_map, List.length_map, List.length_replicate, List.length_replicate, hl], fun i R q => ?_⟩
  unfold gam at q
  unfold L2.start
  by_cases hi : i < As.length
  · rw [List.getElem?_append_left (by rw [List.length_map]; exact hi), List.getElem?_map] at q
    rw [List.getElem?_append_left (by rw [List.length_map, hl]; exact hi), List.getElem?_map]
    cases e : As[i]? with
    | none => rw [e] at q; cases q
    | some S =>
      rw [e] at q
      cases q
      obtain ⟨v, h1, h2⟩ := h.get e
      exact ⟨v, by rw [h1]; rfl, h2⟩
  · rw [List.getElem?_append_right (by rw [List.length_map]; omega), List.getElem?_replicate] at q
    split at q <;> cases q
/-- THE RULE: a def keeps its promise -/
theorem fn_X {P : Program} {w : World} {mg : Str → Option Value} {base : Heap} {x qual : Str} {pa : Arguments} {bd : List Stmt} {sc : Scope} {dvs : List V} {kws : List (Str × V)} {f : Addr} {fd : FuncData} {CX : CXT} {N ps : List Str} {k : Nat}
    (F : FunD K x qual pa bd sc dvs kws f fd) (S : FnScope N ps sc) (hl : ∀ i, ok i → (A i).length = ps.length)
    (hb : ∀ (cdv : Value) (A' : Around) (outer : List Env) (s : Shared) (H : Hp) (E : XK), Room k (A'.deeper (PyProof.Rows.envOfC qual sc s.heap.objs.size f cdv)) → ∃ t, PSs (cxOf CX P w K mg base N qual sc f cdv A' outer s H E).nox bd t ∧
      ∀ i F D0 (Q : VK), ok i → (∀ v D H x, Ex D0 D → okp i x → Hd D H (Lp i x ++ F) → (Ri i x).r D v → Q v H) → Go D0 (gam N (A i)) (Li i ++ F) (t { nx := fun _ H' => Q .non H', rt := Q })) :
    FnOk P w K mg base CX (k + 1) f fd ps (spX ok A Li okp Ri Lp) := by
  refine F.ok (CX := CX) S (fun vs H Q E h => ?_) fun cdv A' outer s H vs Q E hr h => ?_
  · obtain ⟨i, F, D, o, _, al, _⟩ := h
    rw [al.len]; exact hl i o
  · obtain ⟨t, ht, go⟩ := hb cdv A' outer s H E hr
    obtain ⟨i, F, D, o, hd, al, q⟩ := h
    exact ⟨t, ht.nox, go i F D Q o (fun v D' H' x e op h' r => q v D' H' x e op h' r) _ D H (Ex.refl D) (gam_start al) hd⟩
theorem go_end {Q : VK} (k : ∀ D H, Ex D0 D → Hd D H L → Q .non H) : Go D0 Γ L (fun _ H => Q .non H) := fun σ D H e _ hd => k D H e hd
theorem xg_call {E : XK} {dvs : List V} {As Ds : List Rp} {F : List Wd} (i : ι) (o : ok i) (h : Ag tr Γ L As (Li i ++ F)) (hd : ∀ D, AllR D dvs Ds) (ha : A i = As ++ Ds) :
    Xg (tCall (spX ok A Li okp Ri Lp) dvs E tr) Γ L fun v D H => ∃ x, okp i x ∧ Hd D H (Lp i x ++ F) ∧ (Ri i x).r D v := fun σ D H g hD Q q =>
  h σ D H g hD _ fun vs D1 H1 e1 h1 r1 => ⟨i, F, D1, o, h1, by rw [ha]; exact r1.app (hd D1), fun v D' H' x e op h' r => q v D' H' (e1.trans e) ⟨x, op, h', r⟩⟩
theorem Xg.eg {x : κ → Prop} {Rx : κ → Rp} {Lx : κ → List Wd} (h : Xg te Γ L fun v D H => ∃ y, x y ∧ Hd D H (Lx y) ∧ (Rx y).r D v) (R : Rp) (L' : List Wd) (k : ∀ y, x y → (∀ D v, (Rx y).r D v → R.r D v) ∧ Lx y = L') : Eg te Γ L R L' :=
  fun σ D H g hd Q q => h σ D H g hd Q fun v D2 H2 e ⟨y, p, h2, r2⟩ => q v D2 H2 e (by rw [← (k y p).2]; exact h2) ((k y p).1 D2 v r2)
/-- a def that only reads -/
theorem eg_callP {ι : Type} {ok : ι → Prop} {A : ι → List Rp} {Ri : ι → Rp} {E : XK} {As : List Rp} (i : ι) (o : ok i) (h : Ag tr Γ L As L') (ha : A i = As) : Eg (tCall (spP ok A Ri) [] E tr) Γ L (Ri i) L' :=
  (xg_call (κ := Unit) (Ds := []) i o h (fun _ => .nil) (by rw [ha, List.append_nil])).eg (Ri i) L' fun _ _ => ⟨fun _ _ r => r, rfl⟩
/-- an instance of C -/
def Ins (C : Addr) (R : Rp) (m : Str) : Prop := ∀ D v, R.r D v → ∃ a dx fs, v = .ref a ∧ D a = some (.ins C dx fs) ∧ fs.lookup m = none
theorem xg_meth {E : XK} {dvs : List V} {As Ds : List Rp} {F : List Wd} {C : Addr} {m : Str} (i : ι) (o : ok i) (ho : Eg ta Γ L Ra L1) (hi : Ins C Ra m) (h : Ag tr Γ L1 As (Li i ++ F)) (hd : ∀ D, AllR D dvs Ds) (ha : A i = Ra :: (As ++ Ds)) :
    Xg (tMeth C m (spX ok A Li okp Ri Lp) dvs E ta tr) Γ L fun v D H => ∃ x, okp i x ∧ Hd D H (Lp i x ++ F) ∧ (Ri i x).r D v := fun σ D H g hD Q q =>
  ho σ D H g hD _ fun y D1 H1 e1 h1 r1 => by
    obtain ⟨a, dx, fs, rfl, hD1, hl⟩ := hi D1 y r1
    exact ⟨a, dx, fs, rfl, h1.ex a _ hD1, hl, h σ D1 H1 (g.up e1) h1 _ fun vs D2 H2 e2 h2 r2 => ⟨i, F, D2, o, h2, by rw [ha]; exact .cons (Ra.m e2 r1) (r2.app (hd D2)), fun v D' H' x e op h' r => q v D' H' ((e1.trans e2).trans e) ⟨x, op, h', r⟩⟩⟩
theorem eg_methP {ι : Type} {ok : ι → Prop} {A : ι → List Rp} {Ri : ι → Rp} {E : XK} {dvs : List V} {As Ds : List Rp} {C : Addr} {m : Str} (i : ι) (o : ok i) (ho : Eg ta Γ L Ra L1) (hi : Ins C Ra m) (h : Ag tr Γ L1 As L') (hd : ∀ D, AllR D dvs Ds) (ha : A i = Ra :: (As ++ Ds)) :
    Eg (tMeth C m (spP ok A Ri) dvs E ta tr) Γ L (Ri i) L' := (xg_meth (κ := Unit) i o ho hi h hd ha).eg (Ri i) L' fun _ _ => ⟨fun _ _ r => r, rfl⟩
/-- a field -/
theorem eg_fld {f : Str} {C : Addr} (c : Cls K C) (n : NoAttr K C f) (ho : Eg ta Γ L Ra L') (hf : ∀ D v, Ra.r D v → ∃ a dx fs u, v = .ref a ∧ D a = some (.ins C dx fs) ∧ fs.lookup f = some u ∧ R.r D u) : Eg (tFld K ta f) Γ L R L' := fun σ D H g hd Q q =>
  ho σ D H g hd _ fun x D1 H1 e1 h1 r1 => by
    obtain ⟨a, dx, fs, u, rfl, hD1, hl, r⟩ := hf D1 x r1
    exact ⟨a, C, dx, fs, u, rfl, h1.ex a _ hD1, c, n, hl, q u D1 H1 e1 h1 r⟩
end
end
end Fb

set_option maxHeartbeats 1000000
/-! Rules of our own: tuple * int, 1 too. -/
namespace Fb
open PySem PySem.Spec PyProof.Rows L2 Evl
theorem tuple_mulW1 (l : Addr) (items : Array Value) (n : Nat) (dd : Option Addr) (sl : Array (Option Value)) (u : Tok) :
    Meets (Builtin.«tuple.__mul__» ⟨[.ref l, .int 1 u], []⟩) (fun _ R s => s.heap.get? l = some { cls := .type "tuple", dict := dd, data := .seq items n, slots := sl } ∧ R (.ok (.ret (Value.ref l))) s) :=
  .of_wp fun prog w A R s h => by
    obtain ⟨hp, g, d, tk, os⟩ := s
    obtain ⟨hl, h⟩ := h
    have f1 := AutoSeq1.idx_int
    have c0 : (decide ((1 : Int) < -(2 ^ 63)) || decide ((1 : Int) ≥ 2 ^ 63)) = false := by decide
    have c1 : (items.isEmpty || (1 : Int) == 1) = true := by simp
    wp_walk using wpAny_loadPart' hl
    repeat (first
      | (refine wpAny_ite_false (decide_eq_false (by rw [c0]; exact Bool.false_ne_true)) ?_; wp_walk using wpAny_loadPart' hl)
      | (refine wpAny_ite_true (decide_eq_true c1) ?_; wp_walk using wpAny_loadPart' hl))
    exact ⟨_, rfl, h⟩
def rRepA (K : PySem.W.Frag) : R2 := fun x y H Q => ∃ l k xs, x = .ref l ∧ y = .int k ∧ SqT K H l xs ∧ xs ≠ [] ∧ 1 ≤ k ∧ k ≤ 1000 ∧ xs.length ≤ 1000 ∧ (k = 1 → Q (.ref l) H) ∧ (k ≠ 1 → ∀ p, H p = none → Q (.ref p) (upd H p (.tup (List.replicate k.toNat xs).flatten)))
section
variable {X : Cx}
theorem op_repA : OpR X (binaryOp .Mult) (rRepA X.K) := by
  intro pins s σ H x y v u Q I rx ry h
  obtain ⟨l, k, xs, rfl, rfl, hT, hne, h1, h2, hz, q1, q2⟩ := h
  by_cases hk : k = 1
  · subst hk
    cases rx
    obtain ⟨t, rfl⟩ := ry
    obtain ⟨its, r, ⟨⟨cls, dd, data, sl⟩, ho, hc, n, hd⟩, hs⟩ := I.tuple hT
    simp only at hc hd
    subst hc hd
    refine wpAny_binaryOp_repeat_ref (T := "tuple") (U := "int") (by decide) ⟨_, ho, rfl⟩ (fun s' => typeIs_int s' 1 t) noFill_tuple_mul F.fills_int_mul F.slot_int_rmul repeat_tuple F.slot_int_index.lookup
      (call_meets F.slot_int_rmul (typeIs_int s 1 t) F.entry_int_rmul (F.args_int_rmul_2 _ _) (int_rmul_tuple 1 t l its.toArray n dd sl)
        ⟨ho, rfl, ⟨_, ho, rfl⟩, call_meets F.slot_tuple_mul ⟨_, ho, rfl⟩ F.entry_tuple_mul (F.args_tuple_mul_2 _ _) (tuple_mulW1 l its.toArray n dd sl t) ⟨ho, ?_⟩⟩)
    exact ⟨.ref l, H, I, rfl, q1 rfl⟩
  · exact op_repT pins s σ H _ _ v u Q I rx ry ⟨l, k, xs, rfl, rfl, hT, hne, by omega, h2, hz, q2 hk⟩
end
end Fb

set_option maxHeartbeats 400000
/-! The rules with the fragment K named: inside a block the context is another, K is the same. -/
namespace Fb
open PySem PySem.Spec L2 Evl
section
variable {X : Cx} (K : PySem.W.Frag)
theorem kOp (r : PySem.W.Frag → R2) {f : Value → Value → Sem Value} (h : OpR X f (r X.K)) (hK : X.K = K := by rfl) : OpR X f (r K) := hK ▸ h
theorem kIx (r : PySem.W.Frag → R2) (h : IxR X (r X.K)) (hK : X.K = K := by rfl) : IxR X (r K) := hK ▸ h
theorem kCall (r : PySem.W.Frag → List V → Hp → VK → Prop) {f : Value} (h : CallR X f (r X.K)) (hK : X.K = K := by rfl) : CallR X f (r K) := hK ▸ h
theorem kMt (r : PySem.W.Frag → V → List V → Hp → VK → Prop) {id : String} (h : MtR X id (r X.K)) (hK : X.K = K := by rfl) : MtR X id (r K) := hK ▸ h
theorem kSl (r : PySem.W.Frag → V → Option Int → Option Int → Hp → VK → Prop) (h : SlR X (r X.K)) (hK : X.K = K := by rfl) : SlR X (r K) := hK ▸ h
theorem kPE (t : PySem.W.Frag → TE) {e : Expr} (h : PE X e (t X.K)) (hK : X.K = K := by rfl) : PE X e (t K) := hK ▸ h
theorem kPI (t : PySem.W.Frag → TI) {tg e : Expr} (h : PI X tg e (t X.K)) (hK : X.K = K := by rfl) : PI X tg e (t K) := hK ▸ h
theorem kPG (t : PySem.W.Frag → TG) {e : Expr} (h : PG X e (t X.K)) (hK : X.K = K := by rfl) : PG X e (t K) := hK ▸ h
theorem kPS (t : PySem.W.Frag → TS) {e : Stmt} (h : PS X e (t X.K)) (hK : X.K = K := by rfl) : PS X e (t K) := hK ▸ h
end
section
variable {X : Cx} (K : PySem.W.Frag)
theorem pe_fldK {e : Expr} {f : Str} {pos : Pos} {ta : TE} (he : PE X e ta) (hb : attributeBase e f X.env (eval e X.env) = eval e X.env := by rfl) (hK : X.K = K := by rfl) : PE X (.Attribute e f pos) (tFld K ta f) := kPE K (fun K => tFld K ta f) (pe_fld he hb) hK
theorem ps_fldK {o value : Expr} {f : Str} {pos pos' : Pos} {ta tv : TE} (ha : PE X o ta) (hv : PE X value tv) (hs : swapsWith value (some (.Attribute o f pos')) pos.line X.env = pure false := by rfl) (hK : X.K = K := by rfl) : PS X (.Assign [.Attribute o f pos'] value pos) (sFld K ta tv f) :=
  kPS K (fun K => sFld K ta tv f) (ps_fld ha hv hs) hK
theorem pg_tupK {es : List Expr} {k : Nat} {t : TGs} {n : Nat} {pos : Pos} (hc : X.calm = true) (h : PGs X es t) (hl : (assignEach es X.env).length = n := by rfl) (hst : (assignEach es X.env).findIdx? (·.1) = none := by rfl) (hK : X.K = K := by rfl) : PG X (.Tuple es k pos) (gTup K n t) := by
  subst hK
  exact pg_tup hc h hl hst
theorem pi_listK {tg l : Expr} {tl : TE} (hl : PE X l tl) (hK : X.K = K := by rfl) : PI X tg l (iList K tl) := kPI K (fun K => iList K tl) (pi_list hl) hK
theorem pi_tupK {tg l : Expr} {tl : TE} (hl : PE X l tl) (hK : X.K = K := by rfl) : PI X tg l (iTup K tl) := kPI K (fun K => iTup K tl) (pi_tup hl) hK
theorem pi_enumK {e : Expr} {ta : TA} {p pos tpos : Pos} {elts : List Expr} {kk : Nat} (hg : Gl X "enumerate") (hm : X.mg "enumerate" = none) (ha : PA X [e] ta) (hs : starEach [e] X.env = [(false, eval e X.env)] := by rfl) (hK : X.K = K := by rfl) :
    PI X (.Tuple elts kk tpos) (.Call (.Name "enumerate" p) [e] [] pos) (iEnum K ta) := kPI K (fun K => iEnum K ta) (pi_enum hg hm ha hs) hK
theorem pi_reversedK {tg e : Expr} {ta : TA} {p pos : Pos} (hg : Gl X "reversed") (hm : X.mg "reversed" = none) (ha : PA X [e] ta) (hs : starEach [e] X.env = [(false, eval e X.env)] := by rfl) (hK : X.K = K := by rfl) : PI X tg (.Call (.Name "reversed" p) [e] [] pos) (iRev K ta) :=
  kPI K (fun K => iRev K ta) (pi_reversed hg hm ha hs) hK
theorem pe_bmK {o e : Expr} {es : List Expr} {to : TE} {t : TA} {name : Str} {apos cpos : Pos} {T id : String} {r : V → List V → Hp → VK → Prop} (pa : PlainAttrs T) (slot : Slot T name id) (hty : typeOf (.builtin id) = pure (.type "method_descriptor")) (hm : MtR X id r) (ho : PE X o to) (ha : PA X (e :: es) t)
    (hbase : attributeBase o name X.env (eval o X.env) = eval o X.env := by rfl)
    (hfew : ((backTo cpos (starEach (e :: es) X.env)).all (fun x => !x.1) && (backToKw cpos (keywordEach [] X.env)).all (fun x => x.1.isSome)
      && decide ((e :: es).length + ([] : List Keyword).length + (if ([] : List Keyword).isEmpty then 0 else 1) < 30)) = true := by rfl)
    (hline : (apos.endLine == cpos.line) = true := by rfl) (hs : starEach (e :: es) X.env = (false, eval e X.env) :: starEach es X.env := by rfl) (hplain : (backTo cpos (starEach es X.env)).any (·.1) = false := by rfl) (hK : X.K = K := by rfl) :
    PE X (.Call (.Attribute o name apos) (e :: es) [] cpos) (tBM K T r to t) := kPE K (fun K => tBM K T r to t) (pe_bm pa slot hty hm ho ha hbase hfew hline hs hplain) hK
end
end Fb

/-! A def, a method, an __init__ by its body: the bundles C8.Cal, C8.Met, C8.Mak. -/
namespace Fb
open PySem PySem.Spec L2 Evl
open C8 (Cal Met Mak)
section
variable {P : Program} {w : World} {K : PySem.W.Frag} {mg : Str → Option Value} {base : Heap}
variable {ι κ : Type} {ok : ι → Prop} {A : ι → List Rp} {Li : ι → List Wd} {okp : ι → κ → Prop} {Ri : ι → κ → Rp} {Lp : ι → κ → List Wd}
variable {x qual m : Str} {pa : Arguments} {bd : List Stmt} {sc : Scope} {dvs dvs0 : List V} {f C : Addr} {N ps : List Str} {k : Nat}
/-- the body keeps the promise (f: where the def stands; hr: the room) -/
abbrev BodyX (P : Program) (w : World) (K : PySem.W.Frag) (mg : Str → Option Value) (base : Heap) (N : List Str) (qual : Str) (sc : Scope) (bd : List Stmt) (f : Addr) (k : Nat) {ι κ : Type} (ok : ι → Prop) (A : ι → List Rp) (Li : ι → List Wd) (okp : ι → κ → Prop) (Ri : ι → κ → Rp) (Lp : ι → κ → List Wd) : Prop :=
  ∀ (cdv : Value) (A' : Around) (outer : List Env) (s : Shared) (H : Hp) (E : XK), Room k (A'.deeper (PyProof.Rows.envOfC qual sc s.heap.objs.size f cdv)) → ∃ t, PSs (cxOf C8.CX0 P w K mg base N qual sc f cdv A' outer s H E).nox bd t ∧
      ∀ i F D0 (Q : VK), ok i → (∀ v D H x, Ex D0 D → okp i x → Hd D H (Lp i x ++ F) → (Ri i x).r D v → Q v H) → Go D0 (gam N (A i)) (Li i ++ F) (t { nx := fun _ H' => Q .non H', rt := Q })
theorem cal_of (hF : ∃ fd, FunD K x x pa bd sc dvs0 [] f fd) (hg : mg x = some (.ref f)) (hb : ∀ fd, FunD K x x pa bd sc dvs0 [] f fd → ∃ ds, Vals dvs ds ∧ Binds K fd ps ds) (S : FnScope N ps sc) (hl : ∀ i, ok i → (A i).length = ps.length)
    (h : BodyX P w K mg base N x sc bd f k ok A Li okp Ri Lp) : Cal P w K mg base (k + 1) x (spX ok A Li okp Ri Lp) dvs := by
  obtain ⟨fd, F⟩ := hF
  obtain ⟨ds, v, b⟩ := hb fd F
  exact ⟨⟨f, fd, ps, ds, fn_X F S hl h, hg, F.kp, b, v⟩⟩
theorem met_of (hF : ∃ fd, FunD K m qual pa bd sc dvs0 [] f fd) (c : Cls K C) (hm : Meth K C m f) (hb : ∀ fd, FunD K m qual pa bd sc dvs0 [] f fd → ∃ ds, Vals dvs ds ∧ Binds K fd ps ds) (S : FnScope N ps sc) (hl : ∀ i, ok i → (A i).length = ps.length)
    (h : BodyX P w K mg base N qual sc bd f k ok A Li okp Ri Lp) : Met P w K mg base (k + 1) C m (spX ok A Li okp Ri Lp) dvs := by
  obtain ⟨fd, F⟩ := hF
  obtain ⟨ds, v, b⟩ := hb fd F
  exact ⟨⟨f, fd, ps, ds, c, hm, fn_X F S hl h, b, v⟩⟩
theorem mak_of (hF : ∃ fd, FunD K "__init__" qual pa bd sc dvs0 [] f fd) (hg : mg x = some (.ref C)) (hm : Mk K C f) (hb : ∀ fd, FunD K "__init__" qual pa bd sc dvs0 [] f fd → ∃ ds, Vals dvs ds ∧ Binds K fd ps ds) (S : FnScope N ps sc) (hl : ∀ i, ok i → (A i).length = ps.length)
    (h : BodyX P w K mg base N qual sc bd f k ok A Li okp Ri Lp) : Mak P w K mg base (k + 1) x C (spX ok A Li okp Ri Lp) dvs := by
  obtain ⟨fd, F⟩ := hF
  obtain ⟨ds, v, b⟩ := hb fd F
  exact ⟨⟨f, fd, ps, ds, hm, fn_X F S hl h, hg, b, v⟩⟩
theorem bindN {fd : FuncData} (F : FunD K x qual pa bd sc [] [] f fd)
    (h : ∀ (kV doc pm : Value) (an : Option Addr) (cdv ct : Value) (us : List Value), us.length = ps.length → bindArgs (PySem.W.fnOf x qual pa bd sc .none kV doc pm an cdv ct) ⟨us, []⟩ = pure (ps.zip us)) : ∃ ds, Vals [] ds ∧ Binds K fd ps ds := ⟨[], .nil, F.bindsN h⟩
end
section
variable {X : Cx} {x z : Str} {pos : Pos}
theorem pe_gS (hg : Gl X x) (hm : ∃ t, X.mg x = some (.str z t)) (hd : (x == ("__debug__" : Str)) = false := by decide) : PE X (.Name x pos) (tC (.str z)) := by
  obtain ⟨t, h⟩ := hm
  exact pe_glob hg h ⟨t, rfl⟩ hd
theorem pe_gI {i : Int} (hg : Gl X x) (hm : ∃ t, X.mg x = some (.int i t)) (hd : (x == ("__debug__" : Str)) = false := by decide) : PE X (.Name x pos) (tC (.int i)) := by
  obtain ⟨t, h⟩ := hm
  exact pe_glob hg h ⟨t, rfl⟩ hd
end
end Fb

set_option maxHeartbeats 0
/-! The text: where each def stands, what the head tells of it. -/
namespace Fb
open PySem PySem.Spec L2 Evl
open C8 (Cal Met Mak)
theorem insB_ok {K : PySem.W.Frag} {C : Addr} (h : insB K C = true) (c : Cls K C) : C8.InsC K C ∧ PySem.W.findIn K (.ref C) "__ne__" = some (some (.builtin "object.__ne__")) := by
  obtain ⟨h1, h⟩ := He.ba h
  obtain ⟨h2, h⟩ := He.ba h
  obtain ⟨h3, h⟩ := He.ba h
  obtain ⟨h4, h⟩ := He.ba h
  obtain ⟨h5, h6⟩ := He.ba h
  exact ⟨⟨c, He.eqO_ok h1, He.eqO_ok h2, of_decide_eq_true h3, of_decide_eq_true h4, of_decide_eq_true h5⟩, He.eqO_ok h6⟩
structure Wo (K : PySem.W.Frag) (mg : Str → Option Value) (base : Heap) : Prop where
  c : He.SaysD fa fn K
  X : K.In base
  G : base.Ns mainGlobals mg
  e : extra K = true
section
variable {K : PySem.W.Frag} {mg : Str → Option Value} {base : Heap} (W : Wo K mg base)
include W
theorem g_is_name : mg "is_name" = some (.ref (He.ga K "is_name")) := He.glo_ok W.X W.G (W.c.fact 0 (f := .glo "is_name") rfl)
theorem g_is_value : mg "is_value" = some (.ref (He.ga K "is_value")) := He.glo_ok W.X W.G (W.c.fact 1 (f := .glo "is_value") rfl)
theorem g_is_row : mg "is_row" = some (.ref (He.ga K "is_row")) := He.glo_ok W.X W.G (W.c.fact 2 (f := .glo "is_row") rfl)
theorem g_want_row : mg "want_row" = some (.ref (He.ga K "want_row")) := He.glo_ok W.X W.G (W.c.fact 3 (f := .glo "want_row") rfl)
theorem g_are_columns : mg "are_columns" = some (.ref (He.ga K "are_columns")) := He.glo_ok W.X W.G (W.c.fact 4 (f := .glo "are_columns") rfl)
theorem g_visit : mg "visit" = some (.ref (He.ga K "visit")) := He.glo_ok W.X W.G (W.c.fact 5 (f := .glo "visit") rfl)
theorem g_moved : mg "moved" = some (.ref (He.ga K "moved")) := He.glo_ok W.X W.G (W.c.fact 6 (f := .glo "moved") rfl)
theorem g_is_part : mg "is_part" = some (.ref (He.ga K "is_part")) := He.glo_ok W.X W.G (W.c.fact 7 (f := .glo "is_part") rfl)
theorem g_is_bunch : mg "is_bunch" = some (.ref (He.ga K "is_bunch")) := He.glo_ok W.X W.G (W.c.fact 8 (f := .glo "is_bunch") rfl)
theorem g_fold_of : mg "fold_of" = some (.ref (He.ga K "fold_of")) := He.glo_ok W.X W.G (W.c.fact 9 (f := .glo "fold_of") rfl)
theorem g_at_places : mg "at_places" = some (.ref (He.ga K "at_places")) := He.glo_ok W.X W.G (W.c.fact 10 (f := .glo "at_places") rfl)
theorem g_mixed : mg "mixed" = some (.ref (He.ga K "mixed")) := He.glo_ok W.X W.G (W.c.fact 11 (f := .glo "mixed") rfl)
theorem g_values_in : mg "values_in" = some (.ref (He.ga K "values_in")) := He.glo_ok W.X W.G (W.c.fact 12 (f := .glo "values_in") rfl)
theorem g_first_missing : mg "first_missing" = some (.ref (He.ga K "first_missing")) := He.glo_ok W.X W.G (W.c.fact 13 (f := .glo "first_missing") rfl)
theorem g_first_mixed : mg "first_mixed" = some (.ref (He.ga K "first_mixed")) := He.glo_ok W.X W.G (W.c.fact 14 (f := .glo "first_mixed") rfl)
theorem g_want_columns : mg "want_columns" = some (.ref (He.ga K "want_columns")) := He.glo_ok W.X W.G (W.c.fact 15 (f := .glo "want_columns") rfl)
theorem g_split_rows : mg "split_rows" = some (.ref (He.ga K "split_rows")) := He.glo_ok W.X W.G (W.c.fact 16 (f := .glo "split_rows") rfl)
theorem g_bunch_of : mg "bunch_of" = some (.ref (He.ga K "bunch_of")) := He.glo_ok W.X W.G (W.c.fact 17 (f := .glo "bunch_of") rfl)
theorem g_folded : mg "folded" = some (.ref (He.ga K "folded")) := He.glo_ok W.X W.G (W.c.fact 18 (f := .glo "folded") rfl)
theorem g_is_pair : mg "is_pair" = some (.ref (He.ga K "is_pair")) := He.glo_ok W.X W.G (W.c.fact 19 (f := .glo "is_pair") rfl)
theorem g_order_from : mg "order_from" = some (.ref (He.ga K "order_from")) := He.glo_ok W.X W.G (W.c.fact 20 (f := .glo "order_from") rfl)
theorem g__law_well : mg "_law_well" = some (.ref (He.ga K "_law_well")) := He.glo_ok W.X W.G (W.c.fact 21 (f := .glo "_law_well") rfl)
theorem g__law_draw : mg "_law_draw" = some (.ref (He.ga K "_law_draw")) := He.glo_ok W.X W.G (W.c.fact 22 (f := .glo "_law_draw") rfl)
theorem g__law_names : mg "_law_names" = some (.ref (He.ga K "_law_names")) := He.glo_ok W.X W.G (W.c.fact 23 (f := .glo "_law_names") rfl)
theorem g__law_base : mg "_law_base" = some (.ref (He.ga K "_law_base")) := He.glo_ok W.X W.G (W.c.fact 24 (f := .glo "_law_base") rfl)
theorem g__law_pairs : mg "_law_pairs" = some (.ref (He.ga K "_law_pairs")) := He.glo_ok W.X W.G (W.c.fact 25 (f := .glo "_law_pairs") rfl)
theorem g__law_order : mg "_law_order" = some (.ref (He.ga K "_law_order")) := He.glo_ok W.X W.G (W.c.fact 26 (f := .glo "_law_order") rfl)
theorem g__law_bunch : mg "_law_bunch" = some (.ref (He.ga K "_law_bunch")) := He.glo_ok W.X W.G (W.c.fact 27 (f := .glo "_law_bunch") rfl)
theorem g__law_raw : mg "_law_raw" = some (.ref (He.ga K "_law_raw")) := He.glo_ok W.X W.G (W.c.fact 28 (f := .glo "_law_raw") rfl)
theorem g__law_shuffled : mg "_law_shuffled" = some (.ref (He.ga K "_law_shuffled")) := He.glo_ok W.X W.G (W.c.fact 29 (f := .glo "_law_shuffled") rfl)
theorem g__law_rows_of : mg "_law_rows_of" = some (.ref (He.ga K "_law_rows_of")) := He.glo_ok W.X W.G (W.c.fact 30 (f := .glo "_law_rows_of") rfl)
theorem g__law_spread : mg "_law_spread" = some (.ref (He.ga K "_law_spread")) := He.glo_ok W.X W.G (W.c.fact 31 (f := .glo "_law_spread") rfl)
theorem g__law_second : mg "_law_second" = some (.ref (He.ga K "_law_second")) := He.glo_ok W.X W.G (W.c.fact 32 (f := .glo "_law_second") rfl)
theorem g__law_counts : mg "_law_counts" = some (.ref (He.ga K "_law_counts")) := He.glo_ok W.X W.G (W.c.fact 33 (f := .glo "_law_counts") rfl)
theorem g__law_no_fewer : mg "_law_no_fewer" = some (.ref (He.ga K "_law_no_fewer")) := He.glo_ok W.X W.G (W.c.fact 34 (f := .glo "_law_no_fewer") rfl)
theorem g__law_right : mg "_law_right" = some (.ref (He.ga K "_law_right")) := He.glo_ok W.X W.G (W.c.fact 35 (f := .glo "_law_right") rfl)
theorem g_law : mg "law" = some (.ref (He.ga K "law")) := He.glo_ok W.X W.G (W.c.fact 36 (f := .glo "law") rfl)
theorem g_Table : mg "Table" = some (.ref (He.ga K "Table")) := He.glo_ok W.X W.G (W.c.fact 37 (f := .glo "Table") rfl)
theorem g_Fold : mg "Fold" = some (.ref (He.ga K "Fold")) := He.glo_ok W.X W.G (W.c.fact 38 (f := .glo "Fold") rfl)
theorem g_Pool : mg "Pool" = some (.ref (He.ga K "Pool")) := He.glo_ok W.X W.G (W.c.fact 39 (f := .glo "Pool") rfl)
theorem g_Tree : mg "Tree" = some (.ref (He.ga K "Tree")) := He.glo_ok W.X W.G (W.c.fact 40 (f := .glo "Tree") rfl)
theorem n_isinstance : mg "isinstance" = none := He.free_ok W.X W.G (W.c.fact 41 (f := .free "isinstance") rfl)
theorem n_len : mg "len" = none := He.free_ok W.X W.G (W.c.fact 42 (f := .free "len") rfl)
theorem n_all : mg "all" = none := He.free_ok W.X W.G (W.c.fact 43 (f := .free "all") rfl)
theorem n_set : mg "set" = none := He.free_ok W.X W.G (W.c.fact 44 (f := .free "set") rfl)
theorem n_sorted : mg "sorted" = none := He.free_ok W.X W.G (W.c.fact 45 (f := .free "sorted") rfl)
theorem n_list : mg "list" = none := He.free_ok W.X W.G (W.c.fact 46 (f := .free "list") rfl)
theorem n_enumerate : mg "enumerate" = none := He.free_ok W.X W.G (W.c.fact 47 (f := .free "enumerate") rfl)
theorem n_zip : mg "zip" = none := He.free_ok W.X W.G (W.c.fact 48 (f := .free "zip") rfl)
theorem n_reversed : mg "reversed" = none := He.free_ok W.X W.G (W.c.fact 49 (f := .free "reversed") rfl)
theorem n_tuple : mg "tuple" = none := He.free_ok W.X W.G (W.c.fact 50 (f := .free "tuple") rfl)
theorem n_dict : mg "dict" = none := He.free_ok W.X W.G (W.c.fact 51 (f := .free "dict") rfl)
theorem n_int : mg "int" = none := He.free_ok W.X W.G (W.c.fact 52 (f := .free "int") rfl)
theorem n_range : mg "range" = none := He.free_ok W.X W.G (W.c.fact 53 (f := .free "range") rfl)
theorem n_sum : mg "sum" = none := He.free_ok W.X W.G (W.c.fact 54 (f := .free "sum") rfl)
theorem n_str : mg "str" = none := He.free_ok W.X W.G (W.c.fact 55 (f := .free "str") rfl)
theorem n_bool : mg "bool" = none := He.free_ok W.X W.G (W.c.fact 56 (f := .free "bool") rfl)
theorem k_LETTERS : ∃ t, mg "LETTERS" = some (.str "abcdefghijklmnopqrstuvwxyz" t) := He.str_ok W.X W.G (W.c.fact 57 (f := .str "LETTERS" "abcdefghijklmnopqrstuvwxyz") rfl)
theorem k_LONGEST_NAME : ∃ t, mg "LONGEST_NAME" = some (.int 8 t) := He.int_ok W.X W.G (W.c.fact 58 (f := .int "LONGEST_NAME" 8) rfl)
theorem k_MOST_COLUMNS : ∃ t, mg "MOST_COLUMNS" = some (.int 8 t) := He.int_ok W.X W.G (W.c.fact 59 (f := .int "MOST_COLUMNS" 8) rfl)
theorem cl_Table : Cls K (He.ga K "Table") := He.cls_ok (W.c.fact 60 (f := .cls "Table") rfl)
theorem mk_Table : Mk K (He.ga K "Table") (He.ma K (He.ga K "Table") "__init__") := He.mkr_ok (W.c.fact 61 (f := .mkr "Table") rfl)
theorem no_Table_named : NoAttr K (He.ga K "Table") "named" := He.noat_ok (W.c.fact 62 (f := .noat "Table" "named") rfl)
theorem no_Table_held : NoAttr K (He.ga K "Table") "held" := He.noat_ok (W.c.fact 63 (f := .noat "Table" "held") rfl)
theorem cl_Fold : Cls K (He.ga K "Fold") := He.cls_ok (W.c.fact 64 (f := .cls "Fold") rfl)
theorem mk_Fold : Mk K (He.ga K "Fold") (He.ma K (He.ga K "Fold") "__init__") := He.mkr_ok (W.c.fact 65 (f := .mkr "Fold") rfl)
theorem no_Fold_shape : NoAttr K (He.ga K "Fold") "shape" := He.noat_ok (W.c.fact 66 (f := .noat "Fold" "shape") rfl)
theorem no_Fold_held : NoAttr K (He.ga K "Fold") "held" := He.noat_ok (W.c.fact 67 (f := .noat "Fold" "held") rfl)
theorem no_Fold_roots : NoAttr K (He.ga K "Fold") "roots" := He.noat_ok (W.c.fact 68 (f := .noat "Fold" "roots") rfl)
theorem cl_Pool : Cls K (He.ga K "Pool") := He.cls_ok (W.c.fact 69 (f := .cls "Pool") rfl)
theorem mk_Pool : Mk K (He.ga K "Pool") (He.ma K (He.ga K "Pool") "__init__") := He.mkr_ok (W.c.fact 70 (f := .mkr "Pool") rfl)
theorem no_Pool_shape : NoAttr K (He.ga K "Pool") "shape" := He.noat_ok (W.c.fact 71 (f := .noat "Pool" "shape") rfl)
theorem no_Pool_numbers : NoAttr K (He.ga K "Pool") "numbers" := He.noat_ok (W.c.fact 72 (f := .noat "Pool" "numbers") rfl)
theorem no_Pool_held : NoAttr K (He.ga K "Pool") "held" := He.noat_ok (W.c.fact 73 (f := .noat "Pool" "held") rfl)
theorem cl_Tree : Cls K (He.ga K "Tree") := He.cls_ok (W.c.fact 74 (f := .cls "Tree") rfl)
theorem mk_Tree : Mk K (He.ga K "Tree") (He.ma K (He.ga K "Tree") "__init__") := He.mkr_ok (W.c.fact 75 (f := .mkr "Tree") rfl)
theorem no_Tree_overs : NoAttr K (He.ga K "Tree") "overs" := He.noat_ok (W.c.fact 76 (f := .noat "Tree" "overs") rfl)
theorem no_Tree_kids : NoAttr K (He.ga K "Tree") "kids" := He.noat_ok (W.c.fact 77 (f := .noat "Tree" "kids") rfl)
theorem no_Tree_order : NoAttr K (He.ga K "Tree") "order" := He.noat_ok (W.c.fact 78 (f := .noat "Tree" "order") rfl)
theorem me_Table_columns : Meth K (He.ga K "Table") "columns" (He.ma K (He.ga K "Table") "columns") := He.meth_ok (W.c.fact 79 (f := .meth "Table" "columns") rfl)
theorem me_Table_rows : Meth K (He.ga K "Table") "rows" (He.ma K (He.ga K "Table") "rows") := He.meth_ok (W.c.fact 80 (f := .meth "Table" "rows") rfl)
theorem me_Table_of : Meth K (He.ga K "Table") "of" (He.ma K (He.ga K "Table") "of") := He.meth_ok (W.c.fact 81 (f := .meth "Table" "of") rfl)
theorem me_Fold_eq : Meth K (He.ga K "Fold") "__eq__" (He.ma K (He.ga K "Fold") "__eq__") := He.meth_ok (W.c.fact 82 (f := .meth "Fold" "__eq__") rfl)
theorem me_Fold_bunches : Meth K (He.ga K "Fold") "bunches" (He.ma K (He.ga K "Fold") "bunches") := He.meth_ok (W.c.fact 83 (f := .meth "Fold" "bunches") rfl)
theorem me_Fold_tops : Meth K (He.ga K "Fold") "tops" (He.ma K (He.ga K "Fold") "tops") := He.meth_ok (W.c.fact 84 (f := .meth "Fold" "tops") rfl)
theorem me_Pool_put : Meth K (He.ga K "Pool") "put" (He.ma K (He.ga K "Pool") "put") := He.meth_ok (W.c.fact 85 (f := .meth "Pool" "put") rfl)
theorem me_Pool_fold : Meth K (He.ga K "Pool") "fold" (He.ma K (He.ga K "Pool") "fold") := He.meth_ok (W.c.fact 86 (f := .meth "Pool" "fold") rfl)
theorem me_Tree_eq : Meth K (He.ga K "Tree") "__eq__" (He.ma K (He.ga K "Tree") "__eq__") := He.meth_ok (W.c.fact 87 (f := .meth "Tree" "__eq__") rfl)
theorem me_Tree_want : Meth K (He.ga K "Tree") "want" (He.ma K (He.ga K "Tree") "want") := He.meth_ok (W.c.fact 88 (f := .meth "Tree" "want") rfl)
theorem me_Tree_columns : Meth K (He.ga K "Tree") "columns" (He.ma K (He.ga K "Tree") "columns") := He.meth_ok (W.c.fact 89 (f := .meth "Tree" "columns") rfl)
theorem me_Tree_pairs : Meth K (He.ga K "Tree") "pairs" (He.ma K (He.ga K "Tree") "pairs") := He.meth_ok (W.c.fact 90 (f := .meth "Tree" "pairs") rfl)
theorem me_Tree_over : Meth K (He.ga K "Tree") "over" (He.ma K (He.ga K "Tree") "over") := He.meth_ok (W.c.fact 91 (f := .meth "Tree" "over") rfl)
theorem me_Tree_above : Meth K (He.ga K "Tree") "above" (He.ma K (He.ga K "Tree") "above") := He.meth_ok (W.c.fact 92 (f := .meth "Tree" "above") rfl)
theorem me_Tree_beneath : Meth K (He.ga K "Tree") "beneath" (He.ma K (He.ga K "Tree") "beneath") := He.meth_ok (W.c.fact 93 (f := .meth "Tree" "beneath") rfl)
theorem me_Tree_children : Meth K (He.ga K "Tree") "children" (He.ma K (He.ga K "Tree") "children") := He.meth_ok (W.c.fact 94 (f := .meth "Tree" "children") rfl)
theorem ic_Tree : C8.InsC K (He.ga K "Tree") := (insB_ok (He.ba W.e).1 (cl_Tree W)).1
theorem ne_Tree : PySem.W.findIn K (.ref (He.ga K "Tree")) "__ne__" = some (some (.builtin "object.__ne__")) := (insB_ok (He.ba W.e).1 (cl_Tree W)).2
theorem ic_Fold : C8.InsC K (He.ga K "Fold") := (insB_ok (He.ba W.e).2 (cl_Fold W)).1
theorem ne_Fold : PySem.W.findIn K (.ref (He.ga K "Fold")) "__ne__" = some (some (.builtin "object.__ne__")) := (insB_ok (He.ba W.e).2 (cl_Fold W)).2
theorem f_is_name : ∃ fd, FunD K "is_name" "is_name" (defArgs s_is_name) (defBody s_is_name) (defScope s_is_name) [] [] (He.ga K "is_name") fd := W.c.def_ 0 (d := d_is_name) rfl
theorem f_is_value : ∃ fd, FunD K "is_value" "is_value" (defArgs s_is_value) (defBody s_is_value) (defScope s_is_value) [] [] (He.ga K "is_value") fd := W.c.def_ 1 (d := d_is_value) rfl
theorem f_is_row : ∃ fd, FunD K "is_row" "is_row" (defArgs s_is_row) (defBody s_is_row) (defScope s_is_row) [] [] (He.ga K "is_row") fd := W.c.def_ 2 (d := d_is_row) rfl
theorem f_want_row : ∃ fd, FunD K "want_row" "want_row" (defArgs s_want_row) (defBody s_want_row) (defScope s_want_row) [.int 0] [] (He.ga K "want_row") fd := W.c.def_ 3 (d := d_want_row) rfl
theorem f_are_columns : ∃ fd, FunD K "are_columns" "are_columns" (defArgs s_are_columns) (defBody s_are_columns) (defScope s_are_columns) [] [] (He.ga K "are_columns") fd := W.c.def_ 4 (d := d_are_columns) rfl
theorem f_Table_init : ∃ fd, FunD K "__init__" "Table.__init__" (defArgs s_Table_init) (defBody s_Table_init) (defScope s_Table_init) [.non] [] (He.ma K (He.ga K "Table") "__init__") fd := W.c.def_ 5 (d := d_Table_init) rfl
theorem f_Table_columns : ∃ fd, FunD K "columns" "Table.columns" (defArgs s_Table_columns) (defBody s_Table_columns) (defScope s_Table_columns) [] [] (He.ma K (He.ga K "Table") "columns") fd := W.c.def_ 6 (d := d_Table_columns) rfl
theorem f_Table_rows : ∃ fd, FunD K "rows" "Table.rows" (defArgs s_Table_rows) (defBody s_Table_rows) (defScope s_Table_rows) [] [] (He.ma K (He.ga K "Table") "rows") fd := W.c.def_ 7 (d := d_Table_rows) rfl
theorem f_Table_of : ∃ fd, FunD K "of" "Table.of" (defArgs s_Table_of) (defBody s_Table_of) (defScope s_Table_of) [] [] (He.ma K (He.ga K "Table") "of") fd := W.c.def_ 8 (d := d_Table_of) rfl
theorem f_Fold_init : ∃ fd, FunD K "__init__" "Fold.__init__" (defArgs s_Fold_init) (defBody s_Fold_init) (defScope s_Fold_init) [] [] (He.ma K (He.ga K "Fold") "__init__") fd := W.c.def_ 9 (d := d_Fold_init) rfl
theorem f_Fold_eq : ∃ fd, FunD K "__eq__" "Fold.__eq__" (defArgs s_Fold_eq) (defBody s_Fold_eq) (defScope s_Fold_eq) [] [] (He.ma K (He.ga K "Fold") "__eq__") fd := W.c.def_ 10 (d := d_Fold_eq) rfl
theorem f_Fold_bunches : ∃ fd, FunD K "bunches" "Fold.bunches" (defArgs s_Fold_bunches) (defBody s_Fold_bunches) (defScope s_Fold_bunches) [] [] (He.ma K (He.ga K "Fold") "bunches") fd := W.c.def_ 11 (d := d_Fold_bunches) rfl
theorem f_Fold_tops : ∃ fd, FunD K "tops" "Fold.tops" (defArgs s_Fold_tops) (defBody s_Fold_tops) (defScope s_Fold_tops) [] [] (He.ma K (He.ga K "Fold") "tops") fd := W.c.def_ 12 (d := d_Fold_tops) rfl
theorem f_Pool_init : ∃ fd, FunD K "__init__" "Pool.__init__" (defArgs s_Pool_init) (defBody s_Pool_init) (defScope s_Pool_init) [] [] (He.ma K (He.ga K "Pool") "__init__") fd := W.c.def_ 13 (d := d_Pool_init) rfl
theorem f_Pool_put : ∃ fd, FunD K "put" "Pool.put" (defArgs s_Pool_put) (defBody s_Pool_put) (defScope s_Pool_put) [] [] (He.ma K (He.ga K "Pool") "put") fd := W.c.def_ 14 (d := d_Pool_put) rfl
theorem f_Pool_fold : ∃ fd, FunD K "fold" "Pool.fold" (defArgs s_Pool_fold) (defBody s_Pool_fold) (defScope s_Pool_fold) [] [] (He.ma K (He.ga K "Pool") "fold") fd := W.c.def_ 15 (d := d_Pool_fold) rfl
theorem f_visit : ∃ fd, FunD K "visit" "visit" (defArgs s_visit) (defBody s_visit) (defScope s_visit) [] [] (He.ga K "visit") fd := W.c.def_ 16 (d := d_visit) rfl
theorem f_moved : ∃ fd, FunD K "moved" "moved" (defArgs s_moved) (defBody s_moved) (defScope s_moved) [] [] (He.ga K "moved") fd := W.c.def_ 17 (d := d_moved) rfl
theorem f_is_part : ∃ fd, FunD K "is_part" "is_part" (defArgs s_is_part) (defBody s_is_part) (defScope s_is_part) [] [] (He.ga K "is_part") fd := W.c.def_ 18 (d := d_is_part) rfl
theorem f_is_bunch : ∃ fd, FunD K "is_bunch" "is_bunch" (defArgs s_is_bunch) (defBody s_is_bunch) (defScope s_is_bunch) [] [] (He.ga K "is_bunch") fd := W.c.def_ 19 (d := d_is_bunch) rfl
theorem f_fold_of : ∃ fd, FunD K "fold_of" "fold_of" (defArgs s_fold_of) (defBody s_fold_of) (defScope s_fold_of) [] [] (He.ga K "fold_of") fd := W.c.def_ 20 (d := d_fold_of) rfl
theorem f_at_places : ∃ fd, FunD K "at_places" "at_places" (defArgs s_at_places) (defBody s_at_places) (defScope s_at_places) [] [] (He.ga K "at_places") fd := W.c.def_ 21 (d := d_at_places) rfl
theorem f_mixed : ∃ fd, FunD K "mixed" "mixed" (defArgs s_mixed) (defBody s_mixed) (defScope s_mixed) [] [] (He.ga K "mixed") fd := W.c.def_ 22 (d := d_mixed) rfl
theorem f_values_in : ∃ fd, FunD K "values_in" "values_in" (defArgs s_values_in) (defBody s_values_in) (defScope s_values_in) [] [] (He.ga K "values_in") fd := W.c.def_ 23 (d := d_values_in) rfl
theorem f_first_missing : ∃ fd, FunD K "first_missing" "first_missing" (defArgs s_first_missing) (defBody s_first_missing) (defScope s_first_missing) [] [] (He.ga K "first_missing") fd := W.c.def_ 24 (d := d_first_missing) rfl
theorem f_first_mixed : ∃ fd, FunD K "first_mixed" "first_mixed" (defArgs s_first_mixed) (defBody s_first_mixed) (defScope s_first_mixed) [] [] (He.ga K "first_mixed") fd := W.c.def_ 25 (d := d_first_mixed) rfl
theorem f_want_columns : ∃ fd, FunD K "want_columns" "want_columns" (defArgs s_want_columns) (defBody s_want_columns) (defScope s_want_columns) [] [] (He.ga K "want_columns") fd := W.c.def_ 26 (d := d_want_columns) rfl
theorem f_split_rows : ∃ fd, FunD K "split_rows" "split_rows" (defArgs s_split_rows) (defBody s_split_rows) (defScope s_split_rows) [] [] (He.ga K "split_rows") fd := W.c.def_ 27 (d := d_split_rows) rfl
theorem f_bunch_of : ∃ fd, FunD K "bunch_of" "bunch_of" (defArgs s_bunch_of) (defBody s_bunch_of) (defScope s_bunch_of) [] [] (He.ga K "bunch_of") fd := W.c.def_ 28 (d := d_bunch_of) rfl
theorem f_folded : ∃ fd, FunD K "folded" "folded" (defArgs s_folded) (defBody s_folded) (defScope s_folded) [] [] (He.ga K "folded") fd := W.c.def_ 29 (d := d_folded) rfl
theorem f_is_pair : ∃ fd, FunD K "is_pair" "is_pair" (defArgs s_is_pair) (defBody s_is_pair) (defScope s_is_pair) [] [] (He.ga K "is_pair") fd := W.c.def_ 30 (d := d_is_pair) rfl
theorem f_order_from : ∃ fd, FunD K "order_from" "order_from" (defArgs s_order_from) (defBody s_order_from) (defScope s_order_from) [] [] (He.ga K "order_from") fd := W.c.def_ 31 (d := d_order_from) rfl
theorem f_Tree_init : ∃ fd, FunD K "__init__" "Tree.__init__" (defArgs s_Tree_init) (defBody s_Tree_init) (defScope s_Tree_init) [] [] (He.ma K (He.ga K "Tree") "__init__") fd := W.c.def_ 32 (d := d_Tree_init) rfl
theorem f_Tree_eq : ∃ fd, FunD K "__eq__" "Tree.__eq__" (defArgs s_Tree_eq) (defBody s_Tree_eq) (defScope s_Tree_eq) [] [] (He.ma K (He.ga K "Tree") "__eq__") fd := W.c.def_ 33 (d := d_Tree_eq) rfl
theorem f_Tree_want : ∃ fd, FunD K "want" "Tree.want" (defArgs s_Tree_want) (defBody s_Tree_want) (defScope s_Tree_want) [] [] (He.ma K (He.ga K "Tree") "want") fd := W.c.def_ 34 (d := d_Tree_want) rfl
theorem f_Tree_columns : ∃ fd, FunD K "columns" "Tree.columns" (defArgs s_Tree_columns) (defBody s_Tree_columns) (defScope s_Tree_columns) [] [] (He.ma K (He.ga K "Tree") "columns") fd := W.c.def_ 35 (d := d_Tree_columns) rfl
theorem f_Tree_pairs : ∃ fd, FunD K "pairs" "Tree.pairs" (defArgs s_Tree_pairs) (defBody s_Tree_pairs) (defScope s_Tree_pairs) [] [] (He.ma K (He.ga K "Tree") "pairs") fd := W.c.def_ 36 (d := d_Tree_pairs) rfl
theorem f_Tree_over : ∃ fd, FunD K "over" "Tree.over" (defArgs s_Tree_over) (defBody s_Tree_over) (defScope s_Tree_over) [] [] (He.ma K (He.ga K "Tree") "over") fd := W.c.def_ 37 (d := d_Tree_over) rfl
theorem f_Tree_above : ∃ fd, FunD K "above" "Tree.above" (defArgs s_Tree_above) (defBody s_Tree_above) (defScope s_Tree_above) [] [] (He.ma K (He.ga K "Tree") "above") fd := W.c.def_ 38 (d := d_Tree_above) rfl
theorem f_Tree_beneath : ∃ fd, FunD K "beneath" "Tree.beneath" (defArgs s_Tree_beneath) (defBody s_Tree_beneath) (defScope s_Tree_beneath) [] [] (He.ma K (He.ga K "Tree") "beneath") fd := W.c.def_ 39 (d := d_Tree_beneath) rfl
theorem f_Tree_children : ∃ fd, FunD K "children" "Tree.children" (defArgs s_Tree_children) (defBody s_Tree_children) (defScope s_Tree_children) [.non] [] (He.ma K (He.ga K "Tree") "children") fd := W.c.def_ 40 (d := d_Tree_children) rfl
theorem f_Lwell : ∃ fd, FunD K "_law_well" "_law_well" (defArgs s_Lwell) (defBody s_Lwell) (defScope s_Lwell) [] [] (He.ga K "_law_well") fd := W.c.def_ 41 (d := d_Lwell) rfl
theorem f_Ldraw : ∃ fd, FunD K "_law_draw" "_law_draw" (defArgs s_Ldraw) (defBody s_Ldraw) (defScope s_Ldraw) [] [] (He.ga K "_law_draw") fd := W.c.def_ 42 (d := d_Ldraw) rfl
theorem f_Lnames : ∃ fd, FunD K "_law_names" "_law_names" (defArgs s_Lnames) (defBody s_Lnames) (defScope s_Lnames) [] [] (He.ga K "_law_names") fd := W.c.def_ 43 (d := d_Lnames) rfl
theorem f_Lbase : ∃ fd, FunD K "_law_base" "_law_base" (defArgs s_Lbase) (defBody s_Lbase) (defScope s_Lbase) [] [] (He.ga K "_law_base") fd := W.c.def_ 44 (d := d_Lbase) rfl
theorem f_Lpairs : ∃ fd, FunD K "_law_pairs" "_law_pairs" (defArgs s_Lpairs) (defBody s_Lpairs) (defScope s_Lpairs) [] [] (He.ga K "_law_pairs") fd := W.c.def_ 45 (d := d_Lpairs) rfl
theorem f_Lorder : ∃ fd, FunD K "_law_order" "_law_order" (defArgs s_Lorder) (defBody s_Lorder) (defScope s_Lorder) [] [] (He.ga K "_law_order") fd := W.c.def_ 46 (d := d_Lorder) rfl
theorem f_Lbunch : ∃ fd, FunD K "_law_bunch" "_law_bunch" (defArgs s_Lbunch) (defBody s_Lbunch) (defScope s_Lbunch) [] [] (He.ga K "_law_bunch") fd := W.c.def_ 47 (d := d_Lbunch) rfl
theorem f_Lraw : ∃ fd, FunD K "_law_raw" "_law_raw" (defArgs s_Lraw) (defBody s_Lraw) (defScope s_Lraw) [] [] (He.ga K "_law_raw") fd := W.c.def_ 48 (d := d_Lraw) rfl
theorem f_Lshuffled : ∃ fd, FunD K "_law_shuffled" "_law_shuffled" (defArgs s_Lshuffled) (defBody s_Lshuffled) (defScope s_Lshuffled) [] [] (He.ga K "_law_shuffled") fd := W.c.def_ 49 (d := d_Lshuffled) rfl
theorem f_Lrows_of : ∃ fd, FunD K "_law_rows_of" "_law_rows_of" (defArgs s_Lrows_of) (defBody s_Lrows_of) (defScope s_Lrows_of) [] [] (He.ga K "_law_rows_of") fd := W.c.def_ 50 (d := d_Lrows_of) rfl
theorem f_Lspread : ∃ fd, FunD K "_law_spread" "_law_spread" (defArgs s_Lspread) (defBody s_Lspread) (defScope s_Lspread) [] [] (He.ga K "_law_spread") fd := W.c.def_ 51 (d := d_Lspread) rfl
theorem f_Lsecond : ∃ fd, FunD K "_law_second" "_law_second" (defArgs s_Lsecond) (defBody s_Lsecond) (defScope s_Lsecond) [] [] (He.ga K "_law_second") fd := W.c.def_ 52 (d := d_Lsecond) rfl
theorem f_Lcounts : ∃ fd, FunD K "_law_counts" "_law_counts" (defArgs s_Lcounts) (defBody s_Lcounts) (defScope s_Lcounts) [] [] (He.ga K "_law_counts") fd := W.c.def_ 53 (d := d_Lcounts) rfl
theorem f_Lno_fewer : ∃ fd, FunD K "_law_no_fewer" "_law_no_fewer" (defArgs s_Lno_fewer) (defBody s_Lno_fewer) (defScope s_Lno_fewer) [] [] (He.ga K "_law_no_fewer") fd := W.c.def_ 54 (d := d_Lno_fewer) rfl
theorem f_Lright : ∃ fd, FunD K "_law_right" "_law_right" (defArgs s_Lright) (defBody s_Lright) (defScope s_Lright) [] [] (He.ga K "_law_right") fd := W.c.def_ 55 (d := d_Lright) rfl
theorem f_law : ∃ fd, FunD K "law" "law" (defArgs s_law) (defBody s_law) (defScope s_law) [] [] (He.ga K "law") fd := W.c.def_ 56 (d := d_law) rfl
end
abbrev N_is_name : List Str := ["thing"]
abbrev P_is_name : List Str := ["thing"]
theorem sc_is_name : FnScope N_is_name P_is_name (defScope s_is_name) := ⟨rfl, rfl, rfl, by decide +kernel, rfl, by decide +kernel, by decide +kernel⟩
theorem b_is_name {K : PySem.W.Frag} {a : Addr} (fd : FuncData) (F : FunD K "is_name" "is_name" (defArgs s_is_name) (defBody s_is_name) (defScope s_is_name) [] [] a fd) : ∃ ds, Vals [] ds ∧ Binds K fd P_is_name ds := bindN F fun _ _ _ _ _ _ us hl => match us, hl with | [_], _ => rfl
abbrev N_is_value : List Str := ["thing"]
abbrev P_is_value : List Str := ["thing"]
theorem sc_is_value : FnScope N_is_value P_is_value (defScope s_is_value) := ⟨rfl, rfl, rfl, by decide +kernel, rfl, by decide +kernel, by decide +kernel⟩
theorem b_is_value {K : PySem.W.Frag} {a : Addr} (fd : FuncData) (F : FunD K "is_value" "is_value" (defArgs s_is_value) (defBody s_is_value) (defScope s_is_value) [] [] a fd) : ∃ ds, Vals [] ds ∧ Binds K fd P_is_value ds := bindN F fun _ _ _ _ _ _ us hl => match us, hl with | [_], _ => rfl
abbrev N_is_row : List Str := ["thing", "many", "one"]
abbrev P_is_row : List Str := ["thing", "many"]
theorem sc_is_row : FnScope N_is_row P_is_row (defScope s_is_row) := ⟨rfl, rfl, rfl, by decide +kernel, rfl, by decide +kernel, by decide +kernel⟩
theorem b_is_row {K : PySem.W.Frag} {a : Addr} (fd : FuncData) (F : FunD K "is_row" "is_row" (defArgs s_is_row) (defBody s_is_row) (defScope s_is_row) [] [] a fd) : ∃ ds, Vals [] ds ∧ Binds K fd P_is_row ds := bindN F fun _ _ _ _ _ _ us hl => match us, hl with | [_, _], _ => rfl
abbrev N_want_row : List Str := ["thing", "many", "at"]
abbrev P_want_row : List Str := ["thing", "many", "at"]
theorem sc_want_row : FnScope N_want_row P_want_row (defScope s_want_row) := ⟨rfl, rfl, rfl, by decide +kernel, rfl, by decide +kernel, by decide +kernel⟩
abbrev N_are_columns : List Str := ["thing", "one"]
abbrev P_are_columns : List Str := ["thing"]
theorem sc_are_columns : FnScope N_are_columns P_are_columns (defScope s_are_columns) := ⟨rfl, rfl, rfl, by decide +kernel, rfl, by decide +kernel, by decide +kernel⟩
theorem b_are_columns {K : PySem.W.Frag} {a : Addr} (fd : FuncData) (F : FunD K "are_columns" "are_columns" (defArgs s_are_columns) (defBody s_are_columns) (defScope s_are_columns) [] [] a fd) : ∃ ds, Vals [] ds ∧ Binds K fd P_are_columns ds := bindN F fun _ _ _ _ _ _ us hl => match us, hl with | [_], _ => rfl
abbrev N_Table_init : List Str := ["self", "columns", "rows", "at", "row"]
abbrev P_Table_init : List Str := ["self", "columns", "rows"]
theorem sc_Table_init : FnScope N_Table_init P_Table_init (defScope s_Table_init) := ⟨rfl, rfl, rfl, by decide +kernel, rfl, by decide +kernel, by decide +kernel⟩
abbrev N_Table_columns : List Str := ["self"]
abbrev P_Table_columns : List Str := ["self"]
theorem sc_Table_columns : FnScope N_Table_columns P_Table_columns (defScope s_Table_columns) := ⟨rfl, rfl, rfl, by decide +kernel, rfl, by decide +kernel, by decide +kernel⟩
theorem b_Table_columns {K : PySem.W.Frag} {a : Addr} (fd : FuncData) (F : FunD K "columns" "Table.columns" (defArgs s_Table_columns) (defBody s_Table_columns) (defScope s_Table_columns) [] [] a fd) : ∃ ds, Vals [] ds ∧ Binds K fd P_Table_columns ds := bindN F fun _ _ _ _ _ _ us hl => match us, hl with | [_], _ => rfl
abbrev N_Table_rows : List Str := ["self"]
abbrev P_Table_rows : List Str := ["self"]
theorem sc_Table_rows : FnScope N_Table_rows P_Table_rows (defScope s_Table_rows) := ⟨rfl, rfl, rfl, by decide +kernel, rfl, by decide +kernel, by decide +kernel⟩
theorem b_Table_rows {K : PySem.W.Frag} {a : Addr} (fd : FuncData) (F : FunD K "rows" "Table.rows" (defArgs s_Table_rows) (defBody s_Table_rows) (defScope s_Table_rows) [] [] a fd) : ∃ ds, Vals [] ds ∧ Binds K fd P_Table_rows ds := bindN F fun _ _ _ _ _ _ us hl => match us, hl with | [_], _ => rfl
abbrev N_Table_of : List Str := ["self", "columns", "name", "places", "row", "at"]
abbrev P_Table_of : List Str := ["self", "columns"]
theorem sc_Table_of : FnScope N_Table_of P_Table_of (defScope s_Table_of) := ⟨rfl, rfl, rfl, by decide +kernel, rfl, by decide +kernel, by decide +kernel⟩
theorem b_Table_of {K : PySem.W.Frag} {a : Addr} (fd : FuncData) (F : FunD K "of" "Table.of" (defArgs s_Table_of) (defBody s_Table_of) (defScope s_Table_of) [] [] a fd) : ∃ ds, Vals [] ds ∧ Binds K fd P_Table_of ds := bindN F fun _ _ _ _ _ _ us hl => match us, hl with | [_, _], _ => rfl
abbrev N_Fold_init : List Str := ["self", "tree", "bunches", "tops"]
abbrev P_Fold_init : List Str := ["self", "tree", "bunches", "tops"]
theorem sc_Fold_init : FnScope N_Fold_init P_Fold_init (defScope s_Fold_init) := ⟨rfl, rfl, rfl, by decide +kernel, rfl, by decide +kernel, by decide +kernel⟩
theorem b_Fold_init {K : PySem.W.Frag} {a : Addr} (fd : FuncData) (F : FunD K "__init__" "Fold.__init__" (defArgs s_Fold_init) (defBody s_Fold_init) (defScope s_Fold_init) [] [] a fd) : ∃ ds, Vals [] ds ∧ Binds K fd P_Fold_init ds := bindN F fun _ _ _ _ _ _ us hl => match us, hl with | [_, _, _, _], _ => rfl
abbrev N_Fold_eq : List Str := ["self", "other"]
abbrev P_Fold_eq : List Str := ["self", "other"]
theorem sc_Fold_eq : FnScope N_Fold_eq P_Fold_eq (defScope s_Fold_eq) := ⟨rfl, rfl, rfl, by decide +kernel, rfl, by decide +kernel, by decide +kernel⟩
theorem b_Fold_eq {K : PySem.W.Frag} {a : Addr} (fd : FuncData) (F : FunD K "__eq__" "Fold.__eq__" (defArgs s_Fold_eq) (defBody s_Fold_eq) (defScope s_Fold_eq) [] [] a fd) : ∃ ds, Vals [] ds ∧ Binds K fd P_Fold_eq ds := bindN F fun _ _ _ _ _ _ us hl => match us, hl with | [_, _], _ => rfl
abbrev N_Fold_bunches : List Str := ["self", "column", "entries"]
abbrev P_Fold_bunches : List Str := ["self"]
theorem sc_Fold_bunches : FnScope N_Fold_bunches P_Fold_bunches (defScope s_Fold_bunches) := ⟨rfl, rfl, rfl, by decide +kernel, rfl, by decide +kernel, by decide +kernel⟩
theorem b_Fold_bunches {K : PySem.W.Frag} {a : Addr} (fd : FuncData) (F : FunD K "bunches" "Fold.bunches" (defArgs s_Fold_bunches) (defBody s_Fold_bunches) (defScope s_Fold_bunches) [] [] a fd) : ∃ ds, Vals [] ds ∧ Binds K fd P_Fold_bunches ds := bindN F fun _ _ _ _ _ _ us hl => match us, hl with | [_], _ => rfl
abbrev N_Fold_tops : List Str := ["self"]
abbrev P_Fold_tops : List Str := ["self"]
theorem sc_Fold_tops : FnScope N_Fold_tops P_Fold_tops (defScope s_Fold_tops) := ⟨rfl, rfl, rfl, by decide +kernel, rfl, by decide +kernel, by decide +kernel⟩
theorem b_Fold_tops {K : PySem.W.Frag} {a : Addr} (fd : FuncData) (F : FunD K "tops" "Fold.tops" (defArgs s_Fold_tops) (defBody s_Fold_tops) (defScope s_Fold_tops) [] [] a fd) : ∃ ds, Vals [] ds ∧ Binds K fd P_Fold_tops ds := bindN F fun _ _ _ _ _ _ us hl => match us, hl with | [_], _ => rfl
abbrev N_Pool_init : List Str := ["self", "tree"]
abbrev P_Pool_init : List Str := ["self", "tree"]
theorem sc_Pool_init : FnScope N_Pool_init P_Pool_init (defScope s_Pool_init) := ⟨rfl, rfl, rfl, by decide +kernel, rfl, by decide +kernel, by decide +kernel⟩
theorem b_Pool_init {K : PySem.W.Frag} {a : Addr} (fd : FuncData) (F : FunD K "__init__" "Pool.__init__" (defArgs s_Pool_init) (defBody s_Pool_init) (defScope s_Pool_init) [] [] a fd) : ∃ ds, Vals [] ds ∧ Binds K fd P_Pool_init ds := bindN F fun _ _ _ _ _ _ us hl => match us, hl with | [_, _], _ => rfl
abbrev N_Pool_put : List Str := ["self", "column", "entries", "alive", "key", "value", "parts"]
abbrev P_Pool_put : List Str := ["self", "column", "entries"]
theorem sc_Pool_put : FnScope N_Pool_put P_Pool_put (defScope s_Pool_put) := ⟨rfl, rfl, rfl, by decide +kernel, rfl, by decide +kernel, by decide +kernel⟩
theorem b_Pool_put {K : PySem.W.Frag} {a : Addr} (fd : FuncData) (F : FunD K "put" "Pool.put" (defArgs s_Pool_put) (defBody s_Pool_put) (defScope s_Pool_put) [] [] a fd) : ∃ ds, Vals [] ds ∧ Binds K fd P_Pool_put ds := bindN F fun _ _ _ _ _ _ us hl => match us, hl with | [_, _, _], _ => rfl
abbrev N_Pool_fold : List Str := ["self", "tops", "places", "order", "top", "bunches", "number", "column", "entries", "value", "parts"]
abbrev P_Pool_fold : List Str := ["self", "tops"]
theorem sc_Pool_fold : FnScope N_Pool_fold P_Pool_fold (defScope s_Pool_fold) := ⟨rfl, rfl, rfl, by decide +kernel, rfl, by decide +kernel, by decide +kernel⟩
theorem b_Pool_fold {K : PySem.W.Frag} {a : Addr} (fd : FuncData) (F : FunD K "fold" "Pool.fold" (defArgs s_Pool_fold) (defBody s_Pool_fold) (defScope s_Pool_fold) [] [] a fd) : ∃ ds, Vals [] ds ∧ Binds K fd P_Pool_fold ds := bindN F fun _ _ _ _ _ _ us hl => match us, hl with | [_, _], _ => rfl
abbrev N_visit : List Str := ["held", "number", "places", "order", "value", "parts", "part"]
abbrev P_visit : List Str := ["held", "number", "places", "order"]
theorem sc_visit : FnScope N_visit P_visit (defScope s_visit) := ⟨rfl, rfl, rfl, by decide +kernel, rfl, by decide +kernel, by decide +kernel⟩
theorem b_visit {K : PySem.W.Frag} {a : Addr} (fd : FuncData) (F : FunD K "visit" "visit" (defArgs s_visit) (defBody s_visit) (defScope s_visit) [] [] a fd) : ∃ ds, Vals [] ds ∧ Binds K fd P_visit ds := bindN F fun _ _ _ _ _ _ us hl => match us, hl with | [_, _, _, _], _ => rfl
abbrev N_moved : List Str := ["parts", "places", "part"]
abbrev P_moved : List Str := ["parts", "places"]
theorem sc_moved : FnScope N_moved P_moved (defScope s_moved) := ⟨rfl, rfl, rfl, by decide +kernel, rfl, by decide +kernel, by decide +kernel⟩
theorem b_moved {K : PySem.W.Frag} {a : Addr} (fd : FuncData) (F : FunD K "moved" "moved" (defArgs s_moved) (defBody s_moved) (defScope s_moved) [] [] a fd) : ∃ ds, Vals [] ds ∧ Binds K fd P_moved ds := bindN F fun _ _ _ _ _ _ us hl => match us, hl with | [_, _], _ => rfl
abbrev N_is_part : List Str := ["thing", "columns", "many", "bunches", "number", "column", "bunch"]
abbrev P_is_part : List Str := ["thing", "columns", "many", "bunches"]
theorem sc_is_part : FnScope N_is_part P_is_part (defScope s_is_part) := ⟨rfl, rfl, rfl, by decide +kernel, rfl, by decide +kernel, by decide +kernel⟩
theorem b_is_part {K : PySem.W.Frag} {a : Addr} (fd : FuncData) (F : FunD K "is_part" "is_part" (defArgs s_is_part) (defBody s_is_part) (defScope s_is_part) [] [] a fd) : ∃ ds, Vals [] ds ∧ Binds K fd P_is_part ds := bindN F fun _ _ _ _ _ _ us hl => match us, hl with | [_, _, _, _], _ => rfl
abbrev N_is_bunch : List Str := ["tree", "thing", "bunches", "children", "last", "entry"]
abbrev P_is_bunch : List Str := ["tree", "thing", "bunches"]
theorem sc_is_bunch : FnScope N_is_bunch P_is_bunch (defScope s_is_bunch) := ⟨rfl, rfl, rfl, by decide +kernel, rfl, by decide +kernel, by decide +kernel⟩
theorem b_is_bunch {K : PySem.W.Frag} {a : Addr} (fd : FuncData) (F : FunD K "is_bunch" "is_bunch" (defArgs s_is_bunch) (defBody s_is_bunch) (defScope s_is_bunch) [] [] a fd) : ∃ ds, Vals [] ds ∧ Binds K fd P_is_bunch ds := bindN F fun _ _ _ _ _ _ us hl => match us, hl with | [_, _, _], _ => rfl
abbrev N_fold_of : List Str := ["tree", "bunches", "tops", "heads", "pool", "found", "column", "at", "bunch", "name", "entries", "value", "parts"]
abbrev P_fold_of : List Str := ["tree", "bunches", "tops"]
theorem sc_fold_of : FnScope N_fold_of P_fold_of (defScope s_fold_of) := ⟨rfl, rfl, rfl, by decide +kernel, rfl, by decide +kernel, by decide +kernel⟩
theorem b_fold_of {K : PySem.W.Frag} {a : Addr} (fd : FuncData) (F : FunD K "fold_of" "fold_of" (defArgs s_fold_of) (defBody s_fold_of) (defScope s_fold_of) [] [] a fd) : ∃ ds, Vals [] ds ∧ Binds K fd P_fold_of ds := bindN F fun _ _ _ _ _ _ us hl => match us, hl with | [_, _, _], _ => rfl
abbrev N_at_places : List Str := ["found", "parts", "part"]
abbrev P_at_places : List Str := ["found", "parts"]
theorem sc_at_places : FnScope N_at_places P_at_places (defScope s_at_places) := ⟨rfl, rfl, rfl, by decide +kernel, rfl, by decide +kernel, by decide +kernel⟩
theorem b_at_places {K : PySem.W.Frag} {a : Addr} (fd : FuncData) (F : FunD K "at_places" "at_places" (defArgs s_at_places) (defBody s_at_places) (defScope s_at_places) [] [] a fd) : ∃ ds, Vals [] ds ∧ Binds K fd P_at_places ds := bindN F fun _ _ _ _ _ _ us hl => match us, hl with | [_, _], _ => rfl
abbrev N_mixed : List Str := ["columns", "inner", "one", "other", "name", "mine", "its"]
abbrev P_mixed : List Str := ["columns", "inner", "one", "other"]
theorem sc_mixed : FnScope N_mixed P_mixed (defScope s_mixed) := ⟨rfl, rfl, rfl, by decide +kernel, rfl, by decide +kernel, by decide +kernel⟩
theorem b_mixed {K : PySem.W.Frag} {a : Addr} (fd : FuncData) (F : FunD K "mixed" "mixed" (defArgs s_mixed) (defBody s_mixed) (defScope s_mixed) [] [] a fd) : ∃ ds, Vals [] ds ∧ Binds K fd P_mixed ds := bindN F fun _ _ _ _ _ _ us hl => match us, hl with | [_, _, _, _], _ => rfl
abbrev N_values_in : List Str := ["columns", "names", "row", "name", "value"]
abbrev P_values_in : List Str := ["columns", "names", "row"]
theorem sc_values_in : FnScope N_values_in P_values_in (defScope s_values_in) := ⟨rfl, rfl, rfl, by decide +kernel, rfl, by decide +kernel, by decide +kernel⟩
theorem b_values_in {K : PySem.W.Frag} {a : Addr} (fd : FuncData) (F : FunD K "values_in" "values_in" (defArgs s_values_in) (defBody s_values_in) (defScope s_values_in) [] [] a fd) : ∃ ds, Vals [] ds ∧ Binds K fd P_values_in ds := bindN F fun _ _ _ _ _ _ us hl => match us, hl with | [_, _, _], _ => rfl
abbrev N_first_missing : List Str := ["columns", "inner", "rows", "outs", "ins", "row", "there", "one", "other"]
abbrev P_first_missing : List Str := ["columns", "inner", "rows"]
theorem sc_first_missing : FnScope N_first_missing P_first_missing (defScope s_first_missing) := ⟨rfl, rfl, rfl, by decide +kernel, rfl, by decide +kernel, by decide +kernel⟩
theorem b_first_missing {K : PySem.W.Frag} {a : Addr} (fd : FuncData) (F : FunD K "first_missing" "first_missing" (defArgs s_first_missing) (defBody s_first_missing) (defScope s_first_missing) [] [] a fd) : ∃ ds, Vals [] ds ∧ Binds K fd P_first_missing ds := bindN F fun _ _ _ _ _ _ us hl => match us, hl with | [_, _, _], _ => rfl
abbrev N_first_mixed : List Str := ["tree", "rows", "columns", "column", "above", "groups", "row", "some", "found"]
abbrev P_first_mixed : List Str := ["tree", "rows"]
theorem sc_first_mixed : FnScope N_first_mixed P_first_mixed (defScope s_first_mixed) := ⟨rfl, rfl, rfl, by decide +kernel, rfl, by decide +kernel, by decide +kernel⟩
theorem b_first_mixed {K : PySem.W.Frag} {a : Addr} (fd : FuncData) (F : FunD K "first_mixed" "first_mixed" (defArgs s_first_mixed) (defBody s_first_mixed) (defScope s_first_mixed) [] [] a fd) : ∃ ds, Vals [] ds ∧ Binds K fd P_first_mixed ds := bindN F fun _ _ _ _ _ _ us hl => match us, hl with | [_, _], _ => rfl
abbrev N_want_columns : List Str := ["table", "tree"]
abbrev P_want_columns : List Str := ["table", "tree"]
theorem sc_want_columns : FnScope N_want_columns P_want_columns (defScope s_want_columns) := ⟨rfl, rfl, rfl, by decide +kernel, rfl, by decide +kernel, by decide +kernel⟩
theorem b_want_columns {K : PySem.W.Frag} {a : Addr} (fd : FuncData) (F : FunD K "want_columns" "want_columns" (defArgs s_want_columns) (defBody s_want_columns) (defScope s_want_columns) [] [] a fd) : ∃ ds, Vals [] ds ∧ Binds K fd P_want_columns ds := bindN F fun _ _ _ _ _ _ us hl => match us, hl with | [_, _], _ => rfl
abbrev N_split_rows : List Str := ["pool", "children", "rows", "found", "at", "child", "wide", "row"]
abbrev P_split_rows : List Str := ["pool", "children", "rows"]
theorem sc_split_rows : FnScope N_split_rows P_split_rows (defScope s_split_rows) := ⟨rfl, rfl, rfl, by decide +kernel, rfl, by decide +kernel, by decide +kernel⟩
theorem b_split_rows {K : PySem.W.Frag} {a : Addr} (fd : FuncData) (F : FunD K "split_rows" "split_rows" (defArgs s_split_rows) (defBody s_split_rows) (defScope s_split_rows) [] [] a fd) : ∃ ds, Vals [] ds ∧ Binds K fd P_split_rows ds := bindN F fun _ _ _ _ _ _ us hl => match us, hl with | [_, _, _], _ => rfl
abbrev N_bunch_of : List Str := ["pool", "column", "rows", "rests", "row", "children", "value", "some"]
abbrev P_bunch_of : List Str := ["pool", "column", "rows"]
theorem sc_bunch_of : FnScope N_bunch_of P_bunch_of (defScope s_bunch_of) := ⟨rfl, rfl, rfl, by decide +kernel, rfl, by decide +kernel, by decide +kernel⟩
theorem b_bunch_of {K : PySem.W.Frag} {a : Addr} (fd : FuncData) (F : FunD K "bunch_of" "bunch_of" (defArgs s_bunch_of) (defBody s_bunch_of) (defScope s_bunch_of) [] [] a fd) : ∃ ds, Vals [] ds ∧ Binds K fd P_bunch_of ds := bindN F fun _ _ _ _ _ _ us hl => match us, hl with | [_, _, _], _ => rfl
abbrev N_folded : List Str := ["table", "tree", "rows", "paper", "pool"]
abbrev P_folded : List Str := ["table", "tree"]
theorem sc_folded : FnScope N_folded P_folded (defScope s_folded) := ⟨rfl, rfl, rfl, by decide +kernel, rfl, by decide +kernel, by decide +kernel⟩
theorem b_folded {K : PySem.W.Frag} {a : Addr} (fd : FuncData) (F : FunD K "folded" "folded" (defArgs s_folded) (defBody s_folded) (defScope s_folded) [] [] a fd) : ∃ ds, Vals [] ds ∧ Binds K fd P_folded ds := bindN F fun _ _ _ _ _ _ us hl => match us, hl with | [_, _], _ => rfl
abbrev N_is_pair : List Str := ["thing", "overs"]
abbrev P_is_pair : List Str := ["thing", "overs"]
theorem sc_is_pair : FnScope N_is_pair P_is_pair (defScope s_is_pair) := ⟨rfl, rfl, rfl, by decide +kernel, rfl, by decide +kernel, by decide +kernel⟩
theorem b_is_pair {K : PySem.W.Frag} {a : Addr} (fd : FuncData) (F : FunD K "is_pair" "is_pair" (defArgs s_is_pair) (defBody s_is_pair) (defScope s_is_pair) [] [] a fd) : ∃ ds, Vals [] ds ∧ Binds K fd P_is_pair ds := bindN F fun _ _ _ _ _ _ us hl => match us, hl with | [_, _], _ => rfl
abbrev N_order_from : List Str := ["kids", "column", "found", "child"]
abbrev P_order_from : List Str := ["kids", "column"]
theorem sc_order_from : FnScope N_order_from P_order_from (defScope s_order_from) := ⟨rfl, rfl, rfl, by decide +kernel, rfl, by decide +kernel, by decide +kernel⟩
theorem b_order_from {K : PySem.W.Frag} {a : Addr} (fd : FuncData) (F : FunD K "order_from" "order_from" (defArgs s_order_from) (defBody s_order_from) (defScope s_order_from) [] [] a fd) : ∃ ds, Vals [] ds ∧ Binds K fd P_order_from ds := bindN F fun _ _ _ _ _ _ us hl => match us, hl with | [_, _], _ => rfl
abbrev N_Tree_init : List Str := ["self", "pairs", "column", "at", "pair", "over"]
abbrev P_Tree_init : List Str := ["self", "pairs"]
theorem sc_Tree_init : FnScope N_Tree_init P_Tree_init (defScope s_Tree_init) := ⟨rfl, rfl, rfl, by decide +kernel, rfl, by decide +kernel, by decide +kernel⟩
theorem b_Tree_init {K : PySem.W.Frag} {a : Addr} (fd : FuncData) (F : FunD K "__init__" "Tree.__init__" (defArgs s_Tree_init) (defBody s_Tree_init) (defScope s_Tree_init) [] [] a fd) : ∃ ds, Vals [] ds ∧ Binds K fd P_Tree_init ds := bindN F fun _ _ _ _ _ _ us hl => match us, hl with | [_, _], _ => rfl
abbrev N_Tree_eq : List Str := ["self", "other"]
abbrev P_Tree_eq : List Str := ["self", "other"]
theorem sc_Tree_eq : FnScope N_Tree_eq P_Tree_eq (defScope s_Tree_eq) := ⟨rfl, rfl, rfl, by decide +kernel, rfl, by decide +kernel, by decide +kernel⟩
theorem b_Tree_eq {K : PySem.W.Frag} {a : Addr} (fd : FuncData) (F : FunD K "__eq__" "Tree.__eq__" (defArgs s_Tree_eq) (defBody s_Tree_eq) (defScope s_Tree_eq) [] [] a fd) : ∃ ds, Vals [] ds ∧ Binds K fd P_Tree_eq ds := bindN F fun _ _ _ _ _ _ us hl => match us, hl with | [_, _], _ => rfl
abbrev N_Tree_want : List Str := ["self", "column"]
abbrev P_Tree_want : List Str := ["self", "column"]
theorem sc_Tree_want : FnScope N_Tree_want P_Tree_want (defScope s_Tree_want) := ⟨rfl, rfl, rfl, by decide +kernel, rfl, by decide +kernel, by decide +kernel⟩
theorem b_Tree_want {K : PySem.W.Frag} {a : Addr} (fd : FuncData) (F : FunD K "want" "Tree.want" (defArgs s_Tree_want) (defBody s_Tree_want) (defScope s_Tree_want) [] [] a fd) : ∃ ds, Vals [] ds ∧ Binds K fd P_Tree_want ds := bindN F fun _ _ _ _ _ _ us hl => match us, hl with | [_, _], _ => rfl
abbrev N_Tree_columns : List Str := ["self"]
abbrev P_Tree_columns : List Str := ["self"]
theorem sc_Tree_columns : FnScope N_Tree_columns P_Tree_columns (defScope s_Tree_columns) := ⟨rfl, rfl, rfl, by decide +kernel, rfl, by decide +kernel, by decide +kernel⟩
theorem b_Tree_columns {K : PySem.W.Frag} {a : Addr} (fd : FuncData) (F : FunD K "columns" "Tree.columns" (defArgs s_Tree_columns) (defBody s_Tree_columns) (defScope s_Tree_columns) [] [] a fd) : ∃ ds, Vals [] ds ∧ Binds K fd P_Tree_columns ds := bindN F fun _ _ _ _ _ _ us hl => match us, hl with | [_], _ => rfl
abbrev N_Tree_pairs : List Str := ["self", "column"]
abbrev P_Tree_pairs : List Str := ["self"]
theorem sc_Tree_pairs : FnScope N_Tree_pairs P_Tree_pairs (defScope s_Tree_pairs) := ⟨rfl, rfl, rfl, by decide +kernel, rfl, by decide +kernel, by decide +kernel⟩
theorem b_Tree_pairs {K : PySem.W.Frag} {a : Addr} (fd : FuncData) (F : FunD K "pairs" "Tree.pairs" (defArgs s_Tree_pairs) (defBody s_Tree_pairs) (defScope s_Tree_pairs) [] [] a fd) : ∃ ds, Vals [] ds ∧ Binds K fd P_Tree_pairs ds := bindN F fun _ _ _ _ _ _ us hl => match us, hl with | [_], _ => rfl
abbrev N_Tree_over : List Str := ["self", "column"]
abbrev P_Tree_over : List Str := ["self", "column"]
theorem sc_Tree_over : FnScope N_Tree_over P_Tree_over (defScope s_Tree_over) := ⟨rfl, rfl, rfl, by decide +kernel, rfl, by decide +kernel, by decide +kernel⟩
theorem b_Tree_over {K : PySem.W.Frag} {a : Addr} (fd : FuncData) (F : FunD K "over" "Tree.over" (defArgs s_Tree_over) (defBody s_Tree_over) (defScope s_Tree_over) [] [] a fd) : ∃ ds, Vals [] ds ∧ Binds K fd P_Tree_over ds := bindN F fun _ _ _ _ _ _ us hl => match us, hl with | [_, _], _ => rfl
abbrev N_Tree_above : List Str := ["self", "column", "found", "over"]
abbrev P_Tree_above : List Str := ["self", "column"]
theorem sc_Tree_above : FnScope N_Tree_above P_Tree_above (defScope s_Tree_above) := ⟨rfl, rfl, rfl, by decide +kernel, rfl, by decide +kernel, by decide +kernel⟩
theorem b_Tree_above {K : PySem.W.Frag} {a : Addr} (fd : FuncData) (F : FunD K "above" "Tree.above" (defArgs s_Tree_above) (defBody s_Tree_above) (defScope s_Tree_above) [] [] a fd) : ∃ ds, Vals [] ds ∧ Binds K fd P_Tree_above ds := bindN F fun _ _ _ _ _ _ us hl => match us, hl with | [_, _], _ => rfl
abbrev N_Tree_beneath : List Str := ["self", "column"]
abbrev P_Tree_beneath : List Str := ["self", "column"]
theorem sc_Tree_beneath : FnScope N_Tree_beneath P_Tree_beneath (defScope s_Tree_beneath) := ⟨rfl, rfl, rfl, by decide +kernel, rfl, by decide +kernel, by decide +kernel⟩
theorem b_Tree_beneath {K : PySem.W.Frag} {a : Addr} (fd : FuncData) (F : FunD K "beneath" "Tree.beneath" (defArgs s_Tree_beneath) (defBody s_Tree_beneath) (defScope s_Tree_beneath) [] [] a fd) : ∃ ds, Vals [] ds ∧ Binds K fd P_Tree_beneath ds := bindN F fun _ _ _ _ _ _ us hl => match us, hl with | [_, _], _ => rfl
abbrev N_Tree_children : List Str := ["self", "column"]
abbrev P_Tree_children : List Str := ["self", "column"]
theorem sc_Tree_children : FnScope N_Tree_children P_Tree_children (defScope s_Tree_children) := ⟨rfl, rfl, rfl, by decide +kernel, rfl, by decide +kernel, by decide +kernel⟩
abbrev N_Lwell : List Str := ["_law_cell", "_law_k"]
abbrev P_Lwell : List Str := ["_law_cell", "_law_k"]
theorem sc_Lwell : FnScope N_Lwell P_Lwell (defScope s_Lwell) := ⟨rfl, rfl, rfl, by decide +kernel, rfl, by decide +kernel, by decide +kernel⟩
theorem b_Lwell {K : PySem.W.Frag} {a : Addr} (fd : FuncData) (F : FunD K "_law_well" "_law_well" (defArgs s_Lwell) (defBody s_Lwell) (defScope s_Lwell) [] [] a fd) : ∃ ds, Vals [] ds ∧ Binds K fd P_Lwell ds := bindN F fun _ _ _ _ _ _ us hl => match us, hl with | [_, _], _ => rfl
abbrev N_Ldraw : List Str := ["_law_well_here", "_law_top", "_law_prime", "_law_twist", "_law_found"]
abbrev P_Ldraw : List Str := ["_law_well_here", "_law_top"]
theorem sc_Ldraw : FnScope N_Ldraw P_Ldraw (defScope s_Ldraw) := ⟨rfl, rfl, rfl, by decide +kernel, rfl, by decide +kernel, by decide +kernel⟩
theorem b_Ldraw {K : PySem.W.Frag} {a : Addr} (fd : FuncData) (F : FunD K "_law_draw" "_law_draw" (defArgs s_Ldraw) (defBody s_Ldraw) (defScope s_Ldraw) [] [] a fd) : ∃ ds, Vals [] ds ∧ Binds K fd P_Ldraw ds := bindN F fun _ _ _ _ _ _ us hl => match us, hl with | [_, _], _ => rfl
abbrev N_Lnames : List Str := ["_law_well_here", "_law_count", "_law_letters", "_law_begin", "_law_apart", "_law_base_here", "_law_spot", "_law_more", "_law_found", "_law_k", "_law_letter"]
abbrev P_Lnames : List Str := ["_law_well_here", "_law_count"]
theorem sc_Lnames : FnScope N_Lnames P_Lnames (defScope s_Lnames) := ⟨rfl, rfl, rfl, by decide +kernel, rfl, by decide +kernel, by decide +kernel⟩
theorem b_Lnames {K : PySem.W.Frag} {a : Addr} (fd : FuncData) (F : FunD K "_law_names" "_law_names" (defArgs s_Lnames) (defBody s_Lnames) (defScope s_Lnames) [] [] a fd) : ∃ ds, Vals [] ds ∧ Binds K fd P_Lnames ds := bindN F fun _ _ _ _ _ _ us hl => match us, hl with | [_, _], _ => rfl
abbrev N_Lbase : List Str := ["_law_well_here", "_law_great"]
abbrev P_Lbase : List Str := ["_law_well_here"]
theorem sc_Lbase : FnScope N_Lbase P_Lbase (defScope s_Lbase) := ⟨rfl, rfl, rfl, by decide +kernel, rfl, by decide +kernel, by decide +kernel⟩
theorem b_Lbase {K : PySem.W.Frag} {a : Addr} (fd : FuncData) (F : FunD K "_law_base" "_law_base" (defArgs s_Lbase) (defBody s_Lbase) (defScope s_Lbase) [] [] a fd) : ∃ ds, Vals [] ds ∧ Binds K fd P_Lbase ds := bindN F fun _ _ _ _ _ _ us hl => match us, hl with | [_], _ => rfl
abbrev N_Lpairs : List Str := ["_law_well_here", "_law_names_here", "_law_found", "_law_k", "_law_name"]
abbrev P_Lpairs : List Str := ["_law_well_here", "_law_names_here"]
theorem sc_Lpairs : FnScope N_Lpairs P_Lpairs (defScope s_Lpairs) := ⟨rfl, rfl, rfl, by decide +kernel, rfl, by decide +kernel, by decide +kernel⟩
theorem b_Lpairs {K : PySem.W.Frag} {a : Addr} (fd : FuncData) (F : FunD K "_law_pairs" "_law_pairs" (defArgs s_Lpairs) (defBody s_Lpairs) (defScope s_Lpairs) [] [] a fd) : ∃ ds, Vals [] ds ∧ Binds K fd P_Lpairs ds := bindN F fun _ _ _ _ _ _ us hl => match us, hl with | [_, _], _ => rfl
abbrev N_Lorder : List Str := ["_law_pairs_here", "_law_over", "_law_found", "_law_name", "_law_head"]
abbrev P_Lorder : List Str := ["_law_pairs_here", "_law_over"]
theorem sc_Lorder : FnScope N_Lorder P_Lorder (defScope s_Lorder) := ⟨rfl, rfl, rfl, by decide +kernel, rfl, by decide +kernel, by decide +kernel⟩
theorem b_Lorder {K : PySem.W.Frag} {a : Addr} (fd : FuncData) (F : FunD K "_law_order" "_law_order" (defArgs s_Lorder) (defBody s_Lorder) (defScope s_Lorder) [] [] a fd) : ∃ ds, Vals [] ds ∧ Binds K fd P_Lorder ds := bindN F fun _ _ _ _ _ _ us hl => match us, hl with | [_, _], _ => rfl
abbrev N_Lbunch : List Str := ["_law_well_here", "_law_pairs_here", "_law_made", "_law_name", "_law_base_here", "_law_children", "_law_entries", "_law_step", "_law_k", "_law_parts", "_law_child", "_law_some", "_law_other", "_law_over", "_law_at", "_law_bunch_here"]
abbrev P_Lbunch : List Str := ["_law_well_here", "_law_pairs_here", "_law_made", "_law_name", "_law_base_here"]
theorem sc_Lbunch : FnScope N_Lbunch P_Lbunch (defScope s_Lbunch) := ⟨rfl, rfl, rfl, by decide +kernel, rfl, by decide +kernel, by decide +kernel⟩
theorem b_Lbunch {K : PySem.W.Frag} {a : Addr} (fd : FuncData) (F : FunD K "_law_bunch" "_law_bunch" (defArgs s_Lbunch) (defBody s_Lbunch) (defScope s_Lbunch) [] [] a fd) : ∃ ds, Vals [] ds ∧ Binds K fd P_Lbunch ds := bindN F fun _ _ _ _ _ _ us hl => match us, hl with | [_, _, _, _, _], _ => rfl
abbrev N_Lraw : List Str := ["_law_well_here", "_law_pairs_here", "_law_base_here", "_law_made", "_law_name", "_law_roots", "_law_k", "_law_some", "_law_over", "_law_at", "_law_bunch_here"]
abbrev P_Lraw : List Str := ["_law_well_here", "_law_pairs_here", "_law_base_here"]
theorem sc_Lraw : FnScope N_Lraw P_Lraw (defScope s_Lraw) := ⟨rfl, rfl, rfl, by decide +kernel, rfl, by decide +kernel, by decide +kernel⟩
theorem b_Lraw {K : PySem.W.Frag} {a : Addr} (fd : FuncData) (F : FunD K "_law_raw" "_law_raw" (defArgs s_Lraw) (defBody s_Lraw) (defScope s_Lraw) [] [] a fd) : ∃ ds, Vals [] ds ∧ Binds K fd P_Lraw ds := bindN F fun _ _ _ _ _ _ us hl => match us, hl with | [_, _, _], _ => rfl
abbrev N_Lshuffled : List Str := ["_law_well_here", "_law_made", "_law_roots", "_law_left", "_law_order_here", "_law_found", "_law_at", "_law_k", "_law_name", "_law_entries", "_law_root", "_law_value", "_law_parts", "_law_part"]
abbrev P_Lshuffled : List Str := ["_law_well_here", "_law_made", "_law_roots"]
theorem sc_Lshuffled : FnScope N_Lshuffled P_Lshuffled (defScope s_Lshuffled) := ⟨rfl, rfl, rfl, by decide +kernel, rfl, by decide +kernel, by decide +kernel⟩
theorem b_Lshuffled {K : PySem.W.Frag} {a : Addr} (fd : FuncData) (F : FunD K "_law_shuffled" "_law_shuffled" (defArgs s_Lshuffled) (defBody s_Lshuffled) (defScope s_Lshuffled) [] [] a fd) : ∃ ds, Vals [] ds ∧ Binds K fd P_Lshuffled ds := bindN F fun _ _ _ _ _ _ us hl => match us, hl with | [_, _, _], _ => rfl
abbrev N_Lrows_of : List Str := ["_law_bunches", "_law_parts", "_law_found", "_law_part", "_law_rows", "_law_longer", "_law_row", "_law_value", "_law_more", "_law_rest"]
abbrev P_Lrows_of : List Str := ["_law_bunches", "_law_parts"]
theorem sc_Lrows_of : FnScope N_Lrows_of P_Lrows_of (defScope s_Lrows_of) := ⟨rfl, rfl, rfl, by decide +kernel, rfl, by decide +kernel, by decide +kernel⟩
theorem b_Lrows_of {K : PySem.W.Frag} {a : Addr} (fd : FuncData) (F : FunD K "_law_rows_of" "_law_rows_of" (defArgs s_Lrows_of) (defBody s_Lrows_of) (defScope s_Lrows_of) [] [] a fd) : ∃ ds, Vals [] ds ∧ Binds K fd P_Lrows_of ds := bindN F fun _ _ _ _ _ _ us hl => match us, hl with | [_, _], _ => rfl
abbrev N_Lspread : List Str := ["_law_bunches", "_law_part", "_law_made", "_law_found", "_law_name", "_law_entries", "_law_value", "_law_parts", "_law_more"]
abbrev P_Lspread : List Str := ["_law_bunches", "_law_part", "_law_made"]
theorem sc_Lspread : FnScope N_Lspread P_Lspread (defScope s_Lspread) := ⟨rfl, rfl, rfl, by decide +kernel, rfl, by decide +kernel, by decide +kernel⟩
theorem b_Lspread {K : PySem.W.Frag} {a : Addr} (fd : FuncData) (F : FunD K "_law_spread" "_law_spread" (defArgs s_Lspread) (defBody s_Lspread) (defScope s_Lspread) [] [] a fd) : ∃ ds, Vals [] ds ∧ Binds K fd P_Lspread ds := bindN F fun _ _ _ _ _ _ us hl => match us, hl with | [_, _, _], _ => rfl
abbrev N_Lsecond : List Str := ["_law_well_here", "_law_tree", "_law_bunches", "_law_roots", "_law_base_here", "_law_way", "_law_odd", "_law_made", "_law_tops", "_law_at", "_law_name", "_law_entries", "_law_value", "_law_parts", "_law_root"]
abbrev P_Lsecond : List Str := ["_law_well_here", "_law_tree", "_law_bunches", "_law_roots", "_law_base_here"]
theorem sc_Lsecond : FnScope N_Lsecond P_Lsecond (defScope s_Lsecond) := ⟨rfl, rfl, rfl, by decide +kernel, rfl, by decide +kernel, by decide +kernel⟩
theorem b_Lsecond {K : PySem.W.Frag} {a : Addr} (fd : FuncData) (F : FunD K "_law_second" "_law_second" (defArgs s_Lsecond) (defBody s_Lsecond) (defScope s_Lsecond) [] [] a fd) : ∃ ds, Vals [] ds ∧ Binds K fd P_Lsecond ds := bindN F fun _ _ _ _ _ _ us hl => match us, hl with | [_, _, _, _, _], _ => rfl
abbrev N_Lcounts : List Str := ["_law_bunches", "_law_name", "_law_some", "_law_head", "_law_entries"]
abbrev P_Lcounts : List Str := ["_law_bunches", "_law_name"]
theorem sc_Lcounts : FnScope N_Lcounts P_Lcounts (defScope s_Lcounts) := ⟨rfl, rfl, rfl, by decide +kernel, rfl, by decide +kernel, by decide +kernel⟩
theorem b_Lcounts {K : PySem.W.Frag} {a : Addr} (fd : FuncData) (F : FunD K "_law_counts" "_law_counts" (defArgs s_Lcounts) (defBody s_Lcounts) (defScope s_Lcounts) [] [] a fd) : ∃ ds, Vals [] ds ∧ Binds K fd P_Lcounts ds := bindN F fun _ _ _ _ _ _ us hl => match us, hl with | [_, _], _ => rfl
abbrev N_Lno_fewer : List Str := ["_law_order_here", "_law_bunches", "_law_house", "_law_told", "_law_name", "_law_mine", "_law_its"]
abbrev P_Lno_fewer : List Str := ["_law_order_here", "_law_bunches", "_law_house"]
theorem sc_Lno_fewer : FnScope N_Lno_fewer P_Lno_fewer (defScope s_Lno_fewer) := ⟨rfl, rfl, rfl, by decide +kernel, rfl, by decide +kernel, by decide +kernel⟩
theorem b_Lno_fewer {K : PySem.W.Frag} {a : Addr} (fd : FuncData) (F : FunD K "_law_no_fewer" "_law_no_fewer" (defArgs s_Lno_fewer) (defBody s_Lno_fewer) (defScope s_Lno_fewer) [] [] a fd) : ∃ ds, Vals [] ds ∧ Binds K fd P_Lno_fewer ds := bindN F fun _ _ _ _ _ _ us hl => match us, hl with | [_, _, _], _ => rfl
abbrev N_Lright : List Str := ["_law_well_here", "_law_names_here", "_law_tree", "_law_order_here", "_law_base_here", "_law_rows", "_law_lines", "_law_bunches", "_law_roots", "_law_others", "_law_more", "_law_house", "_law_shed", "_law_again", "_law_tops"]
abbrev P_Lright : List Str := ["_law_well_here"]
theorem sc_Lright : FnScope N_Lright P_Lright (defScope s_Lright) := ⟨rfl, rfl, rfl, by decide +kernel, rfl, by decide +kernel, by decide +kernel⟩
theorem b_Lright {K : PySem.W.Frag} {a : Addr} (fd : FuncData) (F : FunD K "_law_right" "_law_right" (defArgs s_Lright) (defBody s_Lright) (defScope s_Lright) [] [] a fd) : ∃ ds, Vals [] ds ∧ Binds K fd P_Lright ds := bindN F fun _ _ _ _ _ _ us hl => match us, hl with | [_], _ => rfl
abbrev N_law : List Str := ["_law_script", "_law_k", "_law_cell"]
abbrev P_law : List Str := ["_law_script"]
theorem sc_law : FnScope N_law P_law (defScope s_law) := ⟨rfl, rfl, rfl, by decide +kernel, rfl, by decide +kernel, by decide +kernel⟩
theorem b_law {K : PySem.W.Frag} {a : Addr} (fd : FuncData) (F : FunD K "law" "law" (defArgs s_law) (defBody s_law) (defScope s_law) [] [] a fd) : ∃ ds, Vals [] ds ∧ Binds K fd P_law ds := bindN F fun _ _ _ _ _ _ us hl => match us, hl with | [_], _ => rfl
end Fb

set_option maxHeartbeats 400000
/-! Further rules: chains, comparisons, cuts, what data equal. -/
namespace Fb
open PySem PySem.Spec L2 Evl
section
variable {K : PySem.W.Frag} {Γ Γ' : Gm} {L L1 L2' L3 L' : List Wd} {R Ra Rb Rc Y : Rp} {Rs Ys : List Rp} {te ta tb tc tl : TE} {tr : TA} {D0 : Hp} {i : Nat} {r r' : R2}
theorem eg_chain {a b : Bool} (ha : Eg ta Γ L Ra L) (hb : Eg tb Γ L Rb L) (h1 : Og r Ra Rb L (rD (.bool a)) L) (hc : Eg tc Γ L Rc L) (h2 : Og r' Rb Rc L (rD (.bool b)) L) : Eg (tChain r r' ta tb tc) Γ L (rD (.bool (a && b))) L := fun σ D H g hd Q q =>
  ha σ D H g hd _ fun x D1 H1 e1 d1 r1 => hb σ D1 H1 (g.up e1) d1 _ fun y D2 H2 e2 d2 r2 => h1 x y D2 H2 d2 (Ra.m e2 r1) r2 _ fun z D3 H3 e3 d3 r3 => ⟨a, bl_of r3, by
    cases a with
    | true => exact hc σ D3 H3 (((g.up e1).up e2).up e3) d3 _ fun w D4 H4 e4 d4 r4 => h2 y w D4 H4 d4 (Rb.m (e3.trans e4) r2) r4 _ fun z5 D5 H5 e5 d5 r5 => q z5 D5 H5 ((((e1.trans e2).trans e3).trans e4).trans e5) d5 r5
    | false => exact q _ D3 H3 ((e1.trans e2).trans e3) d3 (.bl false)⟩
theorem tg_yes : Tg tYes Γ L true L := fun σ D H g hd Q q => q D H (Ex.refl D) hd
/-- comparisons of ints -/
theorem og_cmp {p : Int → Int → Prop} [∀ a b, Decidable (p a b)] {a b : Int} : Og (rI0 fun i j => .bl (decide (p i j))) (rD (.int a)) (rD (.int b)) L (rD (.bool (decide (p a b)))) L := og_I0 fun _ => .bl _
theorem og_add {a b : Int} : Og (rI0 fun i j => .int (i + j)) (rD (.int a)) (rD (.int b)) L (rD (.int (a + b))) L := og_I0 fun _ => .int _
theorem og_sub {a b : Int} : Og (rI0 fun i j => .int (i - j)) (rD (.int a)) (rD (.int b)) L (rD (.int (a - b))) L := og_I0 fun _ => .int _
theorem og_mul {a b : Int} (h : CMul a b) : Og (rI CMul fun i j => .int (i * j)) (rD (.int a)) (rD (.int b)) L (rD (.int (a * b))) L := og_I h fun _ => .int _
/-- == of ints, of texts -/
theorem og_eqI {a b : Int} : Og rEq (rD (.int a)) (rD (.int b)) L (rD (.bool (decide (a = b)))) L := fun x y D H hd rx ry Q q => by
  rw [int_of rx, int_of ry]
  exact ⟨rfl, q _ D H (Ex.refl D) hd (by rw [show decide (V.int a = V.int b) = decide (a = b) from by simp]; exact .bl _)⟩
theorem og_eqS {a b : Str} : Og rEq (rD (.str a)) (rD (.str b)) L (rD (.bool (decide (a = b)))) L := fun x y D H hd rx ry Q q => by
  rw [str_of rx, str_of ry]
  exact ⟨rfl, q _ D H (Ex.refl D) hd (by rw [show decide (V.str a = V.str b) = decide (a = b) from by simp]; exact .bl _)⟩
theorem og_neB {a b : Bool} : Og rNe (rD (.bool a)) (rD (.bool b)) L (rD (.bool (!decide (a = b)))) L := fun x y D H hd rx ry Q q => by
  rw [bl_of rx, bl_of ry]
  exact ⟨rfl, q _ D H (Ex.refl D) hd (by rw [show decide (V.bl a = V.bl b) = decide (a = b) from by simp]; exact .bl _)⟩
theorem og_eqB {a b : Bool} : Og rEq (rD (.bool a)) (rD (.bool b)) L (rD (.bool (decide (a = b)))) L := fun x y D H hd rx ry Q q => by
  rw [bl_of rx, bl_of ry]
  exact ⟨rfl, q _ D H (Ex.refl D) hd (by rw [show decide (V.bl a = V.bl b) = decide (a = b) from by simp]; exact .bl _)⟩
/-- a flat piece of data as a value -/
def toV : PyData → V
  | .bool b => .bl b | .int i => .int i | .str x => .str x | _ => .non
def flatD : PyData → Bool
  | .bool _ | .int _ | .str _ | .none => true | _ => false
theorem toV_of {D : Hp} {v : V} : ∀ {d : PyData}, flatD d = true → (rD d).r D v → v = toV d
  | .none, _, h => non_of h
  | .bool b, _, h => bl_of h
  | .int i, _, h => int_of h
  | .str x, _, h => str_of h
theorem toVs_of {D : Hp} : ∀ {ds : List PyData} {vs : List V}, ds.all flatD = true → AllR D vs (ds.map (rD)) → vs = ds.map toV
  | [], _, _, h => by cases h; rfl
  | d :: ds, _, f, h => by
    cases h with
    | cons a t =>
      rw [List.all_cons, Bool.and_eq_true] at f
      rw [toVs_of f.2 t, toV_of f.1 a]; rfl
theorem flat_toV : ∀ {d : PyData}, flatD d = true → flatV (toV d) = true
  | .none, _ => rfl | .bool _, _ => rfl | .int _, _ => rfl | .str _, _ => rfl
theorem flat_toVs {ds : List PyData} (h : ds.all flatD = true) : (ds.map toV).all flatV = true := by
  rw [List.all_eq_true] at h ⊢
  intro v hv
  obtain ⟨d, hd, rfl⟩ := List.mem_map.mp hv
  exact flat_toV (h d hd)
/-- x in xs: a list, a tuple of flat things -/
theorem og_in {neg : Bool} {d : PyData} {ds : List PyData} (fd : flatD d = true) (fs : ds.all flatD = true) : Og (rIn K neg) (rD d) (rD (.list ds)) L (rD (.bool (if neg then !inV (toV d) (ds.map toV) else inV (toV d) (ds.map toV)))) L := fun x y D H hd rx ry Q q => by
  obtain ⟨a, vs, rfl, hs, al⟩ := lst_rD ry
  rw [toV_of fd rx]
  have e := toVs_of fs al
  subst e
  exact ⟨a, _, rfl, .inl (SqL.of (hd.ex _ _ hs)), flat_toV fd, flat_toVs fs, q _ D H (Ex.refl D) hd (.bl _)⟩
theorem og_inT {neg : Bool} {d : PyData} {ds : List PyData} (fd : flatD d = true) (fs : ds.all flatD = true) : Og (rIn K neg) (rD d) (rD (.tuple ds)) L (rD (.bool (if neg then !inV (toV d) (ds.map toV) else inV (toV d) (ds.map toV)))) L := fun x y D H hd rx ry Q q => by
  obtain ⟨a, vs, rfl, hs, al⟩ := tup_rD ry
  rw [toV_of fd rx]
  have e := toVs_of fs al
  subst e
  exact ⟨a, _, rfl, .inr (SqT.of (hd.ex _ _ hs)), flat_toV fd, flat_toVs fs, q _ D H (Ex.refl D) hd (.bl _)⟩
theorem eqV_str (a b : Str) : eqV (.str a) (.str b) = decide (a = b) := by
  by_cases h : a = b
  · subst h; simp [eqV]
  · simp [eqV, h]
theorem inV_str {a : Str} {xs : List Str} : inV (.str a) (xs.map V.str) = decide (a ∈ xs) := by
  unfold inV
  rw [List.any_map]
  by_cases h : a ∈ xs
  · rw [decide_eq_true h, List.any_eq_true]
    exact ⟨a, h, by show eqV (.str a) (.str a) = true; rw [eqV_str]; simp⟩
  · rw [decide_eq_false h, List.any_eq_false]
    intro b hb
    show ¬ eqV (.str b) (.str a) = true
    rw [eqV_str]
    simp
    intro e; subst e; exact h hb
/-- a cut of a list, of a tuple -/
theorem AllR.cut {D : Hp} {vs : List V} {Rs : List Rp} (h : AllR D vs Rs) (n m : Nat) : AllR D ((vs.drop n).take m) ((Rs.drop n).take m) := by
  have dr : ∀ (n : Nat) {vs : List V} {Rs : List Rp}, AllR D vs Rs → AllR D (vs.drop n) (Rs.drop n) := fun n => by
    induction n with
    | zero => exact fun h => h
    | succ n ih => exact fun h => by cases h with
      | nil => exact .nil
      | cons a t => exact ih t
  have tk : ∀ (n : Nat) {vs : List V} {Rs : List Rp}, AllR D vs Rs → AllR D (vs.take n) (Rs.take n) := fun n => by
    induction n with
    | zero => exact fun h => .nil
    | succ n ih => exact fun h => by cases h with
      | nil => exact .nil
      | cons a t => exact .cons a (ih t)
  exact tk m (dr n h)
def cutR {α : Type} (xs : List α) (lo hi : Option Int) : List α := (xs.drop (HT.sIx xs.length 0 lo)).take (HT.sIx xs.length xs.length hi - HT.sIx xs.length 0 lo)
theorem cutR_map {α β : Type} (f : α → β) (xs : List α) (lo hi : Option Int) : (cutR xs lo hi).map f = cutR (xs.map f) lo hi := by
  unfold cutR
  rw [List.map_take, List.map_drop, List.length_map]
theorem cutR_whole {α : Type} {xs : List α} {lo hi : Option Int} (h : HT.sIx xs.length 0 lo = 0 ∧ HT.sIx xs.length xs.length hi = xs.length) : cutR xs lo hi = xs := by
  unfold cutR
  rw [h.1, h.2, Nat.sub_zero, List.drop_zero, List.take_length]
theorem eg_slT {tlo thi : TO} {lo hi : Option Int} {ds : List PyData} (h : Eg te Γ L (rD (.tuple ds)) L) (h1 : Tog tlo Γ L lo L) (h2 : Tog thi Γ L hi L) : Eg (tSl (rSlA K) te tlo thi) Γ L (rD (.tuple (cutR ds lo hi))) L := fun σ D H g hd Q q =>
  h σ D H g hd _ fun x D1 H1 e1 d1 r1 => h1 σ D1 H1 (g.up e1) d1 _ fun D2 H2 e2 d2 => h2 σ D2 H2 ((g.up e1).up e2) d2 _ fun D3 H3 e3 d3 => by
    obtain ⟨a, vs, rfl, hs, al⟩ := tup_rD (dq_up (e2.trans e3) _ _ r1)
    have al' : AllR D3 (cutV vs lo hi) ((cutR ds lo hi).map rD) := by
      rw [cutR_map]
      unfold cutV cutR
      rw [al.len]
      exact al.cut _ _
    have hl : vs.length = ds.length := by rw [al.len, List.length_map]
    refine ⟨a, vs, rfl, SqT.of (d3.ex _ _ hs), fun hw => q _ _ _ ((e1.trans e2).trans e3) d3 (rD_tup ⟨a, vs, rfl, hs, ?_⟩), fun _ p hp => q _ _ _ ((((e1.trans e2).trans e3)).trans (d3.exnew hp)) (d3.alloc hp) (rD_tup ⟨p, _, rfl, upd_same, al'.up (d3.exnew hp)⟩)⟩
    rw [cutR_whole (by rw [← hl]; exact hw)]
    exact al
theorem eg_slL {tlo thi : TO} {lo hi : Option Int} {ds : List PyData} (h : Eg te Γ L (rD (.list ds)) L) (h1 : Tog tlo Γ L lo L) (h2 : Tog thi Γ L hi L) : Eg (tSl (rSlL K) te tlo thi) Γ L (rD (.list (cutR ds lo hi))) L := fun σ D H g hd Q q =>
  h σ D H g hd _ fun x D1 H1 e1 d1 r1 => h1 σ D1 H1 (g.up e1) d1 _ fun D2 H2 e2 d2 => h2 σ D2 H2 ((g.up e1).up e2) d2 _ fun D3 H3 e3 d3 => by
    obtain ⟨a, vs, rfl, hs, al⟩ := lst_rD (dq_up (e2.trans e3) _ _ r1)
    have al' : AllR D3 (cutV vs lo hi) ((cutR ds lo hi).map (rD)) := by
      rw [cutR_map]
      unfold cutV cutR
      rw [al.len]
      exact al.cut _ _
    exact ⟨a, vs, rfl, SqL.of (d3.ex _ _ hs), fun p hp => q _ _ _ ((((e1.trans e2).trans e3)).trans (d3.exnew hp)) (d3.alloc hp) (rD_lst ⟨p, _, rfl, upd_same, al'.up (d3.exnew hp)⟩)⟩
/-- a + b of lists, of tuples -/
theorem og_cat {as bs : List PyData} (hz : as.length + bs.length ≤ 100000) : Og rCat (rD (.list as)) (rD (.list bs)) L (rD (.list (as ++ bs))) L := fun x y D H hd rx ry Q q => by
  obtain ⟨a, vs, rfl, h1, a1⟩ := lst_rD rx
  obtain ⟨b, ws, rfl, h2, a2⟩ := lst_rD ry
  exact ⟨a, b, vs, ws, rfl, rfl, hd.ex _ _ h1, hd.ex _ _ h2, sz_of (by rw [a1.len, a2.len, List.length_map, List.length_map]; exact hz), fun p hp => q _ _ _ (hd.exnew hp) (hd.alloc hp) (rD_lst ⟨p, _, rfl, upd_same, by
    rw [List.map_append]
    exact (a1.app a2).up (hd.exnew hp)⟩)⟩
theorem og_catT {as bs : List PyData} (hz : as.length + bs.length ≤ 100000) : Og (rCatA K) (rD (.tuple as)) (rD (.tuple bs)) L (rD (.tuple (as ++ bs))) L := fun x y D H hd rx ry Q q => by
  obtain ⟨a, vs, rfl, h1, a1⟩ := tup_rD rx
  obtain ⟨b, ws, rfl, h2, a2⟩ := tup_rD ry
  refine ⟨a, b, vs, ws, rfl, rfl, SqT.of (hd.ex _ _ h1), SqT.of (hd.ex _ _ h2), sz_of (by rw [a1.len, a2.len, List.length_map, List.length_map]; exact hz), fun e => q _ D H (Ex.refl D) hd (rD_tup ⟨b, ws, rfl, h2, ?_⟩), fun _ e => q _ D H (Ex.refl D) hd (rD_tup ⟨a, vs, rfl, h1, ?_⟩), fun _ _ p hp => q _ _ _ (hd.exnew hp) (hd.alloc hp) (rD_tup ⟨p, _, rfl, upd_same, ?_⟩)⟩
  · subst e
    have : as = [] := by cases as with
      | nil => rfl
      | cons a as => cases a1
    subst this
    exact a2
  · subst e
    have : bs = [] := by cases bs with
      | nil => rfl
      | cons a as => cases a2
    subst this
    rw [List.append_nil]
    exact a1
  · rw [List.map_append]
    exact (a1.app a2).up (hd.exnew hp)
end
end Fb

set_option maxHeartbeats 1000000
/-! Rules of our own: dicts whose keys are nested tuples. -/
namespace Fb
open PySem PySem.Spec PyProof.Rows L2 Evl
section
variable (P : Program) (w : World)
/-- the raw dict: keys as told, where their tuples stand, values -/
abbrev RelN : List (NestedKey × Addr × V) → List (NestedKey × Addr × Value) → Prop := Paired fun p q => p.1 = q.1 ∧ p.2.1 = q.2.1 ∧ RelV p.2.2 q.2.2
def rawN (a : Addr) (xs : List (NestedKey × Addr × V)) (h : Heap) : Prop := (a == sysModules) = false ∧ xs.length ≤ sizeLine ∧ ∃ ys, RelN xs ys ∧
  ∃ o es ep, h.get? a = some o ∧ o.ExactDict ∧ o.data = .dict es ep ∧ es.toList = ys.map (entryOfKey (nestedKind P w)) ∧ (ys.map (·.1)).Nodup
def DNx (a : Addr) (xs : List (NestedKey × Addr × V)) : HO := .ext (rawN P w a xs)
end
/-- the keys stand where they are said to -/
abbrev KeysN (H : Hp) (xs : List (NestedKey × Addr × V)) : Prop := ∀ x ∈ xs, Dq H (.ref x.2.1) x.1.data ∧ x.1.depth ≤ 8
def lookN (xs : List (NestedKey × Addr × V)) (k : NestedKey) : Option V := (xs.find? fun x => decide (x.1 = k)).map (·.2.2)
section
variable {X : Cx} {pins : List (Addr × Obj)} {σ : L2.St} {H : Hp} {s : Shared}
mutual
theorem nested_of (I : Inv X pins σ H s) : ∀ (k : NestedKey) (v : V) (u : Value), Dq H v k.data → RelV v u → NestedIs s.heap k u
  | .none, _, _, h, r => by cases h; cases r; exact .none
  | .num i, _, _, h, r => by cases h; obtain ⟨t, rfl⟩ := r; exact .int i t
  | .text x, _, _, h, r => by cases h; obtain ⟨t, rfl⟩ := r; exact .text x t
  | .tup ks, _, _, h, r => by
    cases h with
    | tup h1 h2 =>
      cases r
      obtain ⟨its, rv, ⟨o, ho, hc, n, hd⟩, _⟩ := I.tuple (SqT.of h1)
      exact .tup ho hc hd (nestedAll_of I ks _ its h2 rv)
theorem nestedAll_of (I : Inv X pins σ H s) : ∀ (ks : List NestedKey) (vs : List V) (us : List Value), DqAll H vs (NestedKey.datas ks) → Vals vs us → NestedAll s.heap ks us
  | [], _, _, h, r => by cases h; cases r; exact .nil
  | k :: ks, _, _, h, r => by
    cases h with
    | cons h1 h2 =>
      cases r with
      | cons r1 r2 => exact .cons (nested_of I k _ _ h1 r1) (nestedAll_of I ks _ _ h2 r2)
end
theorem RelN.look {xs : List (NestedKey × Addr × V)} {ys : List (NestedKey × Addr × Value)} (r : RelN xs ys) (k : NestedKey) : RelO (lookN xs k) ((atKey ys k).map (·.2)) := by
  unfold lookN
  induction r with
  | nil => trivial
  | @cons p q ps qs h t ih =>
    obtain ⟨h1, h2, h3⟩ := h
    by_cases e : p.1 = k
    · have e' : q.1 = k := h1 ▸ e
      simp only [List.find?_cons, decide_eq_true e, atKey, decide_eq_true e', Option.map_some]
      exact h3
    · have e' : ¬ q.1 = k := fun z => e (h1.trans z)
      simp only [List.find?_cons, decide_eq_false e, atKey, decide_eq_false e'] at ih ⊢
      exact ih
theorem RelN.back {xs : List (NestedKey × Addr × V)} {ys : List (NestedKey × Addr × Value)} (r : RelN xs ys) : ∀ y ∈ ys, ∃ x ∈ xs, x.1 = y.1 ∧ x.2.1 = y.2.1 := by
  induction r with
  | nil => intro y hy; cases hy
  | @cons p q ps qs h t ih =>
    intro y hy
    rcases List.mem_cons.mp hy with rfl | hy
    · exact ⟨p, by simp, h.1, h.2.1⟩
    · obtain ⟨x, hx, q⟩ := ih y hy
      exact ⟨x, List.mem_cons_of_mem _ hx, q⟩
theorem dn_of {a : Addr} {xs : List (NestedKey × Addr × V)} (I : Inv X pins σ H s) (e : H a = some (DNx X.prog X.w a xs)) (hk : KeysN H xs) :
    (a == sysModules) = false ∧ xs.length ≤ sizeLine ∧ ∃ ys, RelN xs ys ∧ s.heap.DictOfH (nestedKind X.prog X.w) a ys := by
  obtain ⟨⟨h1, h2, ys, r, o, es, ep, ho, hc, hd, he, hn⟩, _⟩ := I.hok a _ e
  refine ⟨h1, h2, ys, r, o, es, ep, ho, hc, hd, he, fun y hy => ?_, hn⟩
  obtain ⟨x, hx, e1, e2⟩ := r.back y hy
  obtain ⟨d, dp⟩ := hk x hx
  rw [e1, e2] at d
  exact ⟨nested_of I y.1 _ _ d rfl, by rw [← e1]; exact dp⟩
theorem key_is {k : NestedKey} {b : Addr} (I : Inv X pins σ H s) (d : Dq H (.ref b) k.data) (dp : k.depth ≤ 8) : (nestedKind X.prog X.w).is s.heap k b := ⟨nested_of I k _ _ d rfl, dp⟩
theorem roomN {A : Around} (hu : A.units + 64 < cLine) : (nestedKind X.prog X.w).room A.in1 := by
  show A.units + 1 + 8 < cLine
  omega
theorem RelN.snoc {xs : List (NestedKey × Addr × V)} {ys : List (NestedKey × Addr × Value)} (r : RelN xs ys) {p : NestedKey × Addr × V} {q : NestedKey × Addr × Value} (h : p.1 = q.1 ∧ p.2.1 = q.2.1 ∧ RelV p.2.2 q.2.2) : RelN (xs ++ [p]) (ys ++ [q]) := by
  induction r with
  | nil => exact .cons h .nil
  | cons a _ ih => exact .cons a ih
theorem dn_write {a b : Addr} {xs : List (NestedKey × Addr × V)} {ys : List (NestedKey × Addr × Value)} {k : NestedKey} {v : V} {u : Value} {h' : Heap} {t' : Nat} (I : Inv X pins σ H s) (e : H a = some (DNx X.prog X.w a xs)) (r : RelN xs ys) (rv : RelV v u) (hz : xs.length < sizeLine) (hn : atKey ys k = none)
    (hs : (a == sysModules) = false) (hm : h'.DictOfH (nestedKind X.prog X.w) a (storedH ys k b u)) (sb : Heap.SameBut a s.heap h') : Inv X pins σ (upd H a (DNx X.prog X.w a (xs ++ [(k, b, v)]))) { s with heap := h', toks := t' } := by
  have est : storedH ys k b u = ys ++ [(k, b, u)] := by
    unfold storedH
    rw [if_neg]
    rw [hn]; exact Bool.false_ne_true
  rw [est] at hm
  obtain ⟨o, es, ep, ho, hc, hd, he, _, hnd⟩ := hm
  refine d_write I (by rw [e]; exact True.intro) sb ⟨o, ho⟩ ?_
  refine ⟨⟨hs, by rw [List.length_append]; exact hz, _, r.snoc (p := (k, b, v)) (q := (k, b, u)) ⟨rfl, rfl, rv⟩, o, es, ep, ho, hc, hd, he, hnd⟩, ⟨o, ho⟩, fun h1 h2 x kk => ?_⟩
  obtain ⟨g1, g2, zs, g3, o', es', ep', ho', g⟩ := x
  exact ⟨g1, g2, zs, g3, o', es', ep', kk _ ho', g⟩
theorem dn_empty (I : Inv X pins σ H s) : Inv X pins σ (upd H s.heap.objs.size (DNx X.prog X.w s.heap.objs.size [])) { s with heap := s.heap.push { cls := .type "dict", data := .dict #[] } } :=
  I.laid (t' := s.toks) (fun b q hq => Heap.get?_push_of_some _ hq) (Nat.le_refl _)
    ⟨⟨beq_eq_false_iff_ne.mpr (Ne.symm (Nat.ne_of_lt I.big)), Nat.zero_le _, [], .nil, _, #[], 0, Heap.get?_push_size _ rfl, ⟨rfl, rfl, rfl⟩, rfl, rfl, List.nodup_nil⟩, ⟨_, Heap.get?_push_size _ rfl⟩, fun h1 h2 x kk => by
      obtain ⟨g1, g2, zs, g3, o', es', ep', ho', g⟩ := x
      exact ⟨g1, g2, zs, g3, o', es', ep', kk _ ho', g⟩⟩
end
section
variable {X : Cx}
/-- {} -/
def tDNewN (X : Cx) : TE := fun _ H Q => ∀ p, H p = none → Q (.ref p) (upd H p (DNx X.prog X.w p []))
theorem pe_dnewN {pos : Pos} : PE X (.Dict [] [] pos) (tDNewN X) := ⟨fun pins s σ H Q I h =>
  wpAny_Dict_empty ⟨.ref s.heap.objs.size, _, dn_empty I, rfl, h _ (I.hok.fresh (Nat.le_refl _))⟩⟩
/-- k not in d -/
def rNotInN (X : Cx) : R2 := fun x y H Q => ∃ a b k xs, x = .ref b ∧ y = .ref a ∧ H a = some (DNx X.prog X.w a xs) ∧ KeysN H xs ∧ Dq H (.ref b) k.data ∧ k.depth ≤ 8 ∧ Q (.bl (!(lookN xs k).isSome)) H
theorem op_notinDN {k0 : Nat} (hr : Room k0 X.A) : OpR X (compareOp .NotIn) (rNotInN X) := by
  intro pins s σ H x y v u Q I rx ry h
  obtain ⟨a, b, k, xs, rfl, rfl, e, hk, d, dp, q⟩ := h
  cases rx
  cases ry
  obtain ⟨hs, hz, ys, r, hm⟩ := dn_of I e hk
  show wpAny (model X.prog X.w) X.A (do return Value.bool (!(← contains (Value.ref a) (Value.ref b)))) _ _ s
  refine wpAny_bind (wpAny_contains_heap (roomN hr.units) (key_is I d dp) hs hm (wpAny_pure ?_))
  exact ⟨.bl _, H, I.tok _, by rw [RelO.isSome_eq (r.look k), Option.isSome_map]; rfl, q⟩
/-- d[k] -/
def rIxN (X : Cx) : R2 := fun x y H Q => ∃ a b k xs v, x = .ref a ∧ y = .ref b ∧ H a = some (DNx X.prog X.w a xs) ∧ KeysN H xs ∧ Dq H (.ref b) k.data ∧ k.depth ≤ 8 ∧ lookN xs k = some v ∧ Q v H
/-- d[k] = v, k not there -/
def rSetN (X : Cx) : V → V → V → Hp → (Hp → Prop) → Prop := fun o i v H Q => ∃ a b k xs, o = .ref a ∧ i = .ref b ∧ H a = some (DNx X.prog X.w a xs) ∧ KeysN H xs ∧ Dq H (.ref b) k.data ∧ k.depth ≤ 8 ∧ lookN xs k = none ∧ xs.length < sizeLine ∧ Q (upd H a (DNx X.prog X.w a (xs ++ [(k, b, v)])))
theorem look_none {xs : List (NestedKey × Addr × V)} {ys : List (NestedKey × Addr × Value)} (r : RelN xs ys) {k : NestedKey} (h : lookN xs k = none) : atKey ys k = none := by
  have q := r.look k
  rw [h] at q
  cases e : atKey ys k with
  | none => rfl
  | some p => rw [e] at q; exact q.elim
theorem set_dn {k0 : Nat} (hr : Room k0 X.A) : PSet X (rSetN X) := by
  intro pins s σ H o i v ou iu vu Q I ro ri rv h
  obtain ⟨a, b, k, xs, rfl, rfl, e, hk, d, dp, hn, hz, q⟩ := h
  cases ro
  cases ri
  obtain ⟨hs, hz', ys, r, hm⟩ := dn_of I e hk
  have hl : xs.length = ys.length := Paired.length r
  exact wpAny_setItem_heap (hsz := by rw [← hl]; exact hz') (roomN hr.units) (key_is I d dp) hm fun h' hm' sb => ⟨_, dn_write I e r rv hz (look_none r hn) hs hm' sb, q⟩
/-- d.setdefault(k, x) -/
def tSetDefN (X : Cx) (to tk tx : TE) : TE := fun σ H Q => to σ H fun o H1 => ∃ a, o = .ref a ∧ (∃ xs, H1 a = some (DNx X.prog X.w a xs) ∧ KeysN H1 xs) ∧ tk σ H1 fun y H2 => tx σ H2 fun v H3 => ∃ b k xs, y = .ref b ∧ H3 a = some (DNx X.prog X.w a xs) ∧ KeysN H3 xs ∧ Dq H3 (.ref b) k.data ∧ k.depth ≤ 8 ∧ xs.length < sizeLine ∧
  (∀ z, lookN xs k = some z → Q z H3) ∧ (lookN xs k = none → Q v (upd H3 a (DNx X.prog X.w a (xs ++ [(k, b, v)]))))
theorem pe_setdefN {k0 : Nat} {o e f : Expr} {to tk tx : TE} {apos cpos : Pos} (hr : Room k0 X.A) (ho : PE X o to) (he : PE X e tk) (hf : PE X f tx) (m : M2 X o "setdefault" apos e f cpos) :
    PE X (.Call (.Attribute o "setdefault" apos) [e, f] [] cpos) (tSetDefN X to tk tx) := by
  refine ⟨fun pins s σ H Q I h => ?_⟩
  refine wpAny_Call_method m.base m.few m.line PySem.F.plainAttrs_dict PySem.F.slot_dict_setdefault PySem.F.type_dict_setdefault (thn (ho.run pins s σ H _ I h) fun u s1 ⟨x, H1, I1, rx, a, ex, ⟨xs0, e0, hk0⟩, q1⟩ => ?_)
  subst ex
  obtain rfl : u = Value.ref a := rx
  obtain ⟨hs0, _, ys0, _, hm0⟩ := dn_of I1 e0 hk0
  refine ⟨hm0.typeIs, fun b q => ?_, ?_⟩
  · cases q
    obtain ⟨ob, _, _, h1, h2, _⟩ := hm0
    exact ⟨ob, h1, h2.2.1⟩
  rw [m.trees]
  refine Calls.callWith_builtin rfl (Calls.evalArgs_plain (Calls.spliced_cons (thn (he.run pins s1 σ H1 _ I1 q1) fun iv s2 ⟨y, H2, I2, ry, q2⟩ =>
    Calls.spliced_cons (thn (hf.run pins s2 σ H2 _ I2 q2) fun fv s3 ⟨v, H3, I3, rv, b, k, xs, ey, e3, hk3, d3, dp, hz, qa, qb⟩ => Calls.spliced_nil ?_))))
  subst ey
  obtain rfl : iv = Value.ref b := ry
  obtain ⟨hs, hz', ys, r, hm⟩ := dn_of I3 e3 hk3
  have hl : xs.length = ys.length := Paired.length r
  refine call_setdefault_heap (hsz := by rw [← hl]; exact hz') (roomN hr.units) (key_is I3 d3 dp) hs hm (fun p hp => ?_) fun hn h' hm' sb => ?_
  · have q := r.look k
    rw [hp] at q
    cases e : lookN xs k with
    | none => rw [e] at q; exact q.elim
    | some z =>
      rw [e] at q
      exact ⟨z, H3, I3.tok _, q, qa z e⟩
  · refine ⟨v, _, dn_write I3 e3 r rv hz hn hs hm' sb, rv, qb ?_⟩
    have q := r.look k
    rw [hn] at q
    cases e : lookN xs k with
    | none => rfl
    | some z => rw [e] at q; exact q.elim
/-- len(d) -/
def rLenN (X : Cx) : List V → Hp → VK → Prop := fun xs H Q => ∃ a ys, xs = [.ref a] ∧ H a = some (DNx X.prog X.w a ys) ∧ KeysN H ys ∧ Q (.int (ys.length : Nat)) H
end
end Fb

/-! Rules of our own: more of dicts with nested keys; dicts whose keys are None and texts; setdefault in order. -/
namespace Fb
open PySem PySem.Spec PyProof.Rows L2 Evl
section
variable {X : Cx}
theorem dn_raw {s : Shared} {a : Addr} {xs : List (NestedKey × Addr × V)} (h : rawN X.prog X.w a xs s.heap) :
    (a == sysModules) = false ∧ ∃ es ep, s.heap.DictRaw a es ep ∧ es.size = xs.length ∧ ∀ i (hi : i < es.size), ∃ x, xs[i]? = some x ∧ RelV x.2.2 es[i].val := by
  obtain ⟨h1, h2, ys, r, o, es, ep, ho, hc, hd, he, hn⟩ := h
  have hl : xs.length = ys.length := Paired.length r
  have hsz : es.size = ys.length := by rw [← Array.length_toList, he, List.length_map]
  refine ⟨h1, es, ep, ⟨o, ho, hc, hd⟩, by omega, fun i hi => ?_⟩
  have hy : es.toList[i]? = some es[i] := by simp [hi]
  rw [he, List.getElem?_map] at hy
  cases e : ys[i]? with
  | none => rw [e] at hy; cases hy
  | some y =>
    rw [e] at hy
    have hy' : entryOfKey (nestedKind X.prog X.w) y = es[i] := Option.some.inj hy
    have : ∀ {xs : List (NestedKey × Addr × V)} {ys : List (NestedKey × Addr × Value)} (i : Nat) y, RelN xs ys → ys[i]? = some y → ∃ x, xs[i]? = some x ∧ RelV x.2.2 y.2.2 := by
      intro xs ys i y r
      induction r generalizing i with
      | nil => intro e; simp at e
      | @cons p q ps qs h t ih =>
        intro e
        cases i with
        | zero => simp at e; subst e; exact ⟨p, rfl, h.2.2⟩
        | succ i => exact ih i (by simpa using e)
    obtain ⟨x, hx, rx⟩ := this i y r e
    exact ⟨x, hx, by rw [← hy']; exact rx⟩
/-- d[k] -/
theorem ix_dn {k0 : Nat} (hr : Room k0 X.A) : IxR X (rIxN X) := by
  intro value slice pins s σ H x y v u Q I rx ry h hs
  obtain ⟨a, b, k, xs, v, rfl, rfl, e, hk, d, dp, hv, q⟩ := h
  cases rx
  cases ry
  obtain ⟨_, _, ys, r, hm⟩ := dn_of I e hk
  obtain ⟨p, hp, hp2⟩ : ∃ p, atKey ys k = some p ∧ RelV v p.2 := by
    have q := r.look k
    rw [hv] at q
    cases e2 : atKey ys k with
    | none => rw [e2] at q; exact q.elim
    | some p => rw [e2] at q; exact ⟨p, rfl, q⟩
  unfold subscriptTail
  refine wpAny_bind ?_
  rw [getitemInPython_of_ne hm.typeIs.not_modules]
  refine wpAny_bind (wpAny_specialOf hm.typeIs PySem.F.slot_dict_getitem.lookup ?_)
  have fin : wpAny (model X.prog X.w) X.A (subscripted slice false (.ref a) (.ref b)) (fun r s₃ => wpAny (model X.prog X.w) X.A (letTemporaryGo value (.ref a) r >>= fun _ => pure r) (EP X pins σ Q) X.xe s₃) X.xe s := by
    rw [hs]
    refine wpAny_operating (wpAny_getItem_heap (roomN hr.units) (key_is I d dp) hm hp ?_)
    exact wpAny_bind (wpAny_letTemporaryGo (wpAny_pure ⟨v, H, I.tok _, hp2, q⟩))
  first
    | exact wpAny_pure (wpAny_bind fin)
    | exact wpAny_bind (wpAny_pure (wpAny_bind fin))
    | exact wpAny_bind fin
/-- len(d) -/
def rLenX (X : Cx) : List V → Hp → VK → Prop := fun xs H Q => ∃ a ys, xs = [.ref a] ∧ H a = some (DNx X.prog X.w a ys) ∧ Q (.int (ys.length : Nat)) H
theorem lenRaw {prog : Program} {w : World} {A : Around} {E : Value → Shared → Prop} {s : Shared} {d : Addr} {es : Array DictEntry} {ep : Nat} {Q : Value → Shared → Prop} (hd : (d == sysModules) = false) (hm : s.heap.DictRaw d es ep) (hfit : (es.size : Int) < 2 ^ 63)
    (h : Q (.int es.size (s.toks + 1)) { s with toks := s.toks + 1 + 1 }) : wpAny (model prog w) A (call (.builtin "len") [.ref d]) Q E s := by
  refine Calls.call_function_entry kind_len plain_len entry_len (args_len1 _) ?_
  unfold Builtin.«len»
  refine wpAny_bind (m := oneArg "len" _) (wpAny_pure ?_)
  refine wpAny_bind (m := callSpecial? (.ref d) (Str.ofString "__len__")) (wpAny_callSpecial?_slot (name := Str.ofString "__len__") hm.typeIs F.slot_dict_len
    (call_meetsIn F.slot_dict_len hm.typeIs F.entry_dict_len (F.args_dict_len_1 _) (meets_dict_len_raw d hd) ⟨es, ep, hm, ?_⟩))
  show wpAny _ _ _ _ _ { s with toks := s.toks + 1 }
  refine wpAny_bind (wpAny_holding (wpAny_pure ?_))
  refine wpAny_bind (wpAny_letGo ?_)
  show wpAny _ _ (if ((es.size : Nat) : Int) < 0 then _ else _) _ _ _
  rw [if_neg (by omega)]
  show wpAny _ _ (if ((es.size : Nat) : Int) ≥ 2 ^ 63 then _ else _) _ _ _
  rw [if_neg (by omega)]
  exact wpAny_bind (wpAny_mkInt (wpAny_pure ⟨_, rfl, h⟩))
theorem call_lenN : CallR X (.builtin "len") (rLenX X) := by
  intro pins s σ H xs us Q I r h
  obtain ⟨a, ys, rfl, ha, q⟩ := h
  obtain ⟨u, rfl, ru⟩ := vals1 r
  cases ru
  have raw := (I.hok a _ ha).1
  have hz := raw.2.1
  obtain ⟨h1, es, ep, hm, hsz, _⟩ := dn_raw raw
  refine lenRaw h1 hm (by rw [hsz]; rw [sizeLine_eq] at hz; omega) ⟨.int (ys.length : Nat), H, I.tok _, ⟨_, by rw [hsz]⟩, q⟩

/-! ### for v in d.values() -/
def ItdN (X : Cx) (d : Addr) (o : Obj) (xs : List (NestedKey × Addr × V)) : It :=
  ⟨fun i H => H d = some (.frz o (DNx X.prog X.w d xs)) ∧ i < xs.length, fun i H x H' => H' = H ∧ ∃ y, xs[i]? = some y ∧ x = y.2.2, fun i H => H d = some (.frz o (DNx X.prog X.w d xs)) ∧ xs.length ≤ i⟩
theorem dn_frz {P : Program} {w : World} {X : Cx} {pins : List (Addr × Obj)} {σ : L2.St} {H : Hp} {s : Shared} {d : Addr} {o : Obj} {xs : List (NestedKey × Addr × V)} (hP : X.prog = P) (hw : X.w = w) (I : Inv X pins σ H s) (h : H d = some (.frz o (DNx P w d xs))) :
    s.heap.get? d = some o ∧ rawN P w d xs s.heap := by
  subst hP hw
  obtain ⟨h1, h2, _⟩ := I.hok d _ h
  exact ⟨h1, h2⟩
theorem turn_valsN {P : Program} {w : World} {K : PySem.W.Frag} {tg : Expr} {d : Addr} {o : Obj} {es : Array DictEntry} {ep : Nat} {xs : List (NestedKey × Addr × V)} {Y : Cx} (hYP : Y.prog = P) (hYw : Y.w = w) (it : Addr) (hod : o.data = .dict es ep) :
    Turn P w K tg (ItdN Y d o xs) [it] it (fun i h => h.IsValIter it d i xs.length ep) where
  mem := by simp
  obj := fun i h st b hb => by
    have e : b = it := by simpa using hb
    subst e
    obtain ⟨oi, e, c, dd⟩ := st
    exact ⟨oi, e, fun v z => by rw [dd] at z; cases z⟩
  keep := fun i h h' st k => st.at fun oi e => k it (by simp) oi e
  item := by
    intro X hP hw hK hc i pins s σ H E I hf st hg
    obtain ⟨hd, hi⟩ := hg
    obtain ⟨f0, f1, f2, f3, f4, f5⟩ := hf it (by simp)
    subst hYP hYw
    obtain ⟨hgd, raw⟩ := dn_frz hP hw I hd
    rw [← hP, ← hw] at raw
    obtain ⟨hs, es', ep', hm, hsz, hv⟩ := dn_raw raw
    obtain ⟨o', ho', hx', hdt⟩ := id hm
    rw [hgd] at ho'; cases ho'
    obtain ⟨rfl, rfl⟩ := dict_ep hod hdt
    have hi' : i < es'.size := by omega
    rw [← hsz] at st
    obtain ⟨y, hy, ry⟩ := hv i hi'
    rw [← hP, ← hw]
    refine wpAny_pyNext_values_item_raw st hm hi' fun h' st' sb => ?_
    have I1 : Inv X pins σ H { s with heap := h' } := I.turned (t' := s.toks) (fun b ob hb e => (sb.2 b hb).trans e) f0 f1 f3 f4 f5
    obtain ⟨oi, e, c, dd⟩ := id st'
    refine ⟨_, rfl, go_of (s := { s with heap := h' }) e c dd (by decide) ⟨y.2.2, H, I1, ry, ⟨rfl, y, hy, rfl⟩, ?_, fun b hb => (hf b hb).1⟩⟩
    show h'.IsValIter it d (i + 1) xs.length _
    rw [← hsz]
    exact st'
  done := by
    intro X hP hw hK hc i pins s σ H E I hf st hg
    obtain ⟨hd, hi⟩ := hg
    obtain ⟨f0, f1, f2, f3, f4, f5⟩ := hf it (by simp)
    subst hYP hYw
    obtain ⟨hgd, raw⟩ := dn_frz hP hw I hd
    rw [← hP, ← hw] at raw
    obtain ⟨hs, es', ep', hm, hsz, hv⟩ := dn_raw raw
    obtain ⟨o', ho', hx', hdt⟩ := id hm
    rw [hgd] at ho'; cases ho'
    obtain ⟨rfl, rfl⟩ := dict_ep hod hdt
    rw [← hsz] at st
    rw [← hP, ← hw]
    exact wpAny_pyNext_values_end_raw (I.ok.hd hc) st hm (by omega) fun h' eb => ⟨rfl, I.turned (t' := s.toks) (fun b ob hb e => eb b ob hb e) f0 f1 f3 f4 f5⟩
  self := fun A i s Q E st h => wpAny_pyIter_valiter st h
def iValsN (X : Cx) (td : TE) : TI := fun σ H R => td σ H fun x H1 => ∃ d o xs, x = .ref d ∧ H1 d = some (.frz o (DNx X.prog X.w d xs)) ∧ R (ItdN X d o xs) H1
theorem pi_valuesDN {tg e : Expr} {td : TE} {apos cpos : Pos} (he : PE X e td) (hbase : attributeBase e "values" X.env (eval e X.env) = eval e X.env := by rfl) (hline : (apos.endLine == cpos.line) = true := by rfl) : PI X tg (.Call (.Attribute e "values" apos) [] [] cpos) (iValsN X td) := by
  refine ⟨fun pins s σ H R I h => ?_⟩
  refine wpAny_Call_method (T := "dict") (id := "dict.values") hbase rfl hline F.plainAttrs_dict F.slot_dict_values F.type_dict_values (thn (he.run pins s σ H _ I h) fun u s1 ⟨x, H1, I1, rx, d, o, xs, ex, hd, q⟩ => ?_)
  subst ex
  obtain rfl : u = Value.ref d := rx
  obtain ⟨hgd, raw⟩ := dn_frz rfl rfl I1 hd
  obtain ⟨hs, es, ep, hm, hsz, hv⟩ := dn_raw raw
  obtain ⟨o', ho', hx', hdt⟩ := id hm
  rw [hgd] at ho'; cases ho'
  refine ⟨hm.typeIs, fun b q => ?_, ?_⟩
  · cases q
    exact ⟨o, hgd, hx'.2.1⟩
  have I2 : Inv X pins σ H1 { s1 with heap := s1.heap.push { cls := .type "dict_values", data := .fields #[.ref d] } } := I1.kept (t' := s1.toks) fun b ob q => Heap.get?_push_of_some _ q
  have fin : wpAny (model X.prog X.w) X.A (pyIter (.ref s1.heap.objs.size)) (PIE X pins σ tg R) X.xe { s1 with heap := s1.heap.push { cls := .type "dict_values", data := .fields #[.ref d] } } := by
    refine wpAny_pyIter_values_raw (d := d) ⟨_, Heap.get?_push_size _ rfl, rfl, rfl⟩ (hm.at fun o e => Heap.get?_push_of_some _ e) (pi_one (tk := s1.toks) I2 _ (turn_valsN (Y := X) rfl rfl _ hdt) ⟨_, Heap.get?_push_size _ rfl, rfl, ?_⟩ q)
    rw [hsz] <;> rfl
  show wpAny _ _ (callWith cpos (.builtin "dict.values") [.ref d] [] []) _ X.xe s1
  exact method_meetsIn F.slot_dict_values F.entry_dict_values rfl (PySem.evalArgs_none ⟨rfl, hm.typeIs, F.args_dict_values_1 _, _, meets_dict_values_raw d hs, ⟨es, ep, hm⟩, fin⟩)
end

/-! ### a dict whose keys are None and texts -/
def rawZ (P : Program) (w : World) (a : Addr) (kvs : List (Option Key × V)) (h : Heap) : Prop := (a == sysModules) = false ∧ kvs.length ≤ sizeLine ∧ ∃ vs, KV kvs vs ∧ h.DictOf (noneKind P w) a vs
def DZx (P : Program) (w : World) (a : Addr) (kvs : List (Option Key × V)) : HO := .ext (rawZ P w a kvs)
def kO : Option Key → V
  | none => .non
  | some k => kV k
section
variable {X : Cx}
theorem kO_is {k : Option Key} {u : Value} (r : RelV (kO k) u) : (noneKind X.prog X.w).is k u = true := by
  cases k with
  | none => cases r; rfl
  | some k => exact kV_is (P := X.prog) (w := X.w) r
theorem rawZ_st {P : Program} {w : World} {a : Addr} {kvs : List (Option Key × V)} (h1 h2 : Heap) (x : rawZ P w a kvs h1) (k : ∀ o, h1.get? a = some o → h2.get? a = some o) : rawZ P w a kvs h2 := by
  obtain ⟨g1, g2, vs, g3, o, es, ep, ho, r⟩ := x
  exact ⟨g1, g2, vs, g3, o, es, ep, k _ ho, r⟩
def rIxZ (X : Cx) : R2 := fun x y H Q => ∃ a k kvs v, x = .ref a ∧ y = kO k ∧ H a = some (DZx X.prog X.w a kvs) ∧ valV kvs k = some v ∧ Q v H
theorem ix_d0 : IxR X (rIxZ X) := by
  intro value slice pins s σ H x y v u Q I rx ry h hs
  obtain ⟨a, k, kvs, v, rfl, rfl, e, hv, q⟩ := h
  cases rx
  obtain ⟨⟨h1, h2, vs, rel, dd⟩, _⟩ := I.hok a _ e
  obtain ⟨w', hw, rw'⟩ := RelO.some_of (v := v) (o := valueAt vs k) (by rw [← hv]; exact rel.val k)
  unfold subscriptTail
  refine wpAny_bind ?_
  rw [getitemInPython_of_ne dd.typeIs.not_modules]
  refine wpAny_bind (wpAny_specialOf dd.typeIs PySem.F.slot_dict_getitem.lookup ?_)
  have fin : wpAny (model X.prog X.w) X.A (subscripted slice false (.ref a) u) (fun r s₃ => wpAny (model X.prog X.w) X.A (letTemporaryGo value (.ref a) r >>= fun _ => pure r) (EP X pins σ Q) X.xe s₃) X.xe s := by
    rw [hs]
    refine wpAny_operating (wpAny_getItem_of (kO_is ry) dd.mapOf hw ?_)
    exact wpAny_bind (wpAny_letTemporaryGo (wpAny_pure ⟨v, H, I.tok _, rw', q⟩))
  first
    | exact wpAny_pure (wpAny_bind fin)
    | exact wpAny_bind (wpAny_pure (wpAny_bind fin))
    | exact wpAny_bind fin
def rSetZ (X : Cx) : V → V → V → Hp → (Hp → Prop) → Prop := fun o i v H Q => ∃ a k kvs, o = .ref a ∧ i = kO k ∧ H a = some (DZx X.prog X.w a kvs) ∧ kvs.length < sizeLine ∧ Q (upd H a (DZx X.prog X.w a (putK kvs k v)))
theorem set_d0 : PSet X (rSetZ X) := by
  intro pins s σ H o i v ou iu vu Q I ro ri rv h
  obtain ⟨a, k, kvs, rfl, rfl, e, hz, q⟩ := h
  cases ro
  obtain ⟨⟨h1, h2, vs, rel, dd⟩, _⟩ := I.hok a _ e
  have hz' : vs.length ≤ sizeLine := by rw [← rel.length]; exact h2
  have hl : (putK kvs k v).length ≤ sizeLine := by have := length_putK kvs k v; omega
  refine wpAny_setItem_pairs (hsz := hz') (kO_is ri) dd fun h' dd' hs => ⟨_, ?_, q⟩
  have he : ∃ q, h'.get? a = some q := let ⟨q, _, _, hq, _⟩ := dd'; ⟨q, hq⟩
  exact d_write I (by rw [e]; exact True.intro) hs he ⟨⟨h1, hl, _, rel.put k rv, dd'⟩, he, rawZ_st⟩
/-- {None: v} -/
def tDispZ (X : Cx) (tv : TE) : TE := fun σ H Q => ∀ p, H p = none → tv σ (upd H p (DZx X.prog X.w p [])) fun v H2 => V.non = V.non ∧ H2 p = some (DZx X.prog X.w p []) ∧ Q (.ref p) (upd H2 p (DZx X.prog X.w p [(none, v)]))
theorem pe_dispZ {e : Expr} {tv : TE} {j : Nat} {kp pos : Pos} (h : PE X e tv) : PE X (.Dict [some (.Constant .none j kp)] [e] pos) (tDispZ X tv) := by
  refine ⟨fun pins s σ H Q I q => ?_⟩
  have hn := I.hok.fresh (Nat.le_refl s.heap.objs.size)
  have hb : (s.heap.objs.size == sysModules) = false := beq_eq_false_iff_ne.mpr (Ne.symm (Nat.ne_of_lt I.big))
  have I1 := I.laid (a := s.heap.objs.size) (o := DZx X.prog X.w s.heap.objs.size []) (h' := s.heap.push { cls := .type "dict", data := .dict #[] }) (t' := s.toks) (fun _ _ q => Heap.get?_push_of_some _ q) (Nat.le_refl _)
    ⟨⟨hb, Nat.zero_le _, [], .nil, _, #[], 0, Heap.get?_push_size _ rfl, ⟨rfl, rfl, rfl⟩, rfl, fun _ hx => (nomatch hx), .nil, List.nodup_nil⟩, ⟨_, Heap.get?_push_size _ rfl⟩, rawZ_st⟩
  have pps := pps_cons (pos := pos) (pe_non (X := X) (j := j) (pos := kp)) h pps_nil
  refine wpAny_Dict_walk (knd := noneKind X.prog X.w) rfl rfl (by simp) (by show 1 ≤ 15; decide) (thn (pps.run pins _ σ _ (fun ps H2 => match ps with | [(k, v)] => k = V.non ∧ H2 s.heap.objs.size = some (DZx X.prog X.w s.heap.objs.size []) ∧ Q (.ref s.heap.objs.size) (upd H2 s.heap.objs.size (DZx X.prog X.w s.heap.objs.size [(none, v)])) | _ => False) I1 (q _ hn)) fun ws s2 ⟨ps, H2, I2, rel, q2⟩ => ?_)
  match ps, q2 with
  | [(x, v)], q2 =>
    obtain ⟨ek, e2, q2⟩ := q2
    subst ek
    cases rel with
    | @cons _ b _ _ a t =>
      cases t
      obtain ⟨p1, p2⟩ := b
      obtain ⟨r1, r2⟩ := a
      obtain ⟨⟨g1, g2, vs0, r0, dd⟩, _⟩ := I2.hok _ _ e2
      cases r0
      refine ⟨[(none, p2)], ⟨?_, rfl, trivial⟩, dd, fun h' dd' hs => ⟨.ref s.heap.objs.size, _, ?_, rfl, q2⟩⟩
      · cases r1; rfl
      have he : ∃ q, h'.get? s.heap.objs.size = some q := let ⟨q, _, _, hq, _⟩ := dd'; ⟨q, hq⟩
      exact d_write I2 (by rw [e2]; exact True.intro) hs he ⟨⟨hb, by show 1 ≤ sizeLine; decide, [(none, p2)], .cons ⟨rfl, r2⟩ .nil, dd'⟩, he, rawZ_st⟩
end

/-! ### d.setdefault(k, x), d a dict with int and text keys -/
section
variable {prog : Program} {w : World} {K : Type} [DecidableEq K] {knd : KeyKind prog w K} {A : Around} {E : Value → Shared → Prop} {s : Shared}
theorem dictSetDefault_pairs {d : Addr} {kvs : List (K × Value)} {k : K} {key dflt : Value} {Q : Value → Shared → Prop} (hkey : knd.is k key = true) (hm : s.heap.DictOf knd d kvs)
    (h1 : ∀ v, valueAt kvs k = some v → Q v { s with toks := s.toks + 1 })
    (h2 : valueAt kvs k = none → ∀ h', h'.DictOf knd d (kvs ++ [(k, dflt)]) → Heap.SameBut d s.heap h' → Q dflt { s with heap := h', toks := s.toks + 1 })
    (hsz : kvs.length ≤ sizeLine) : wpAny (model prog w) A (dictSetDefault d key dflt) Q E s := by
  obtain ⟨o, es, ep, ho, hc, hd, hk, hp, hn⟩ := id hm
  have hes : es.size ≤ sizeLine := by
    have e1 := hp.length
    have e2 : es.toList.length = es.size := by simp
    omega
  unfold dictSetDefault
  try with_reducible refine wpAny_holding ?_
  refine wpAny_bind (knd.pyHash hkey ?_)
  refine wpAny_bind (wpAny_dictFind_of (s := { s with toks := s.toks + 1 }) hkey ho hd hk ?_)
  have hf : (findBy knd.is es k) = valueAt kvs k := by
    obtain ⟨o', es', ep', ho', _, hd', _, hf'⟩ := hm.mapOf
    rw [ho] at ho'; cases ho'
    rw [hd] at hd'; cases hd'
    exact hf' k
  have hidx : (es.findIdx? fun e => knd.is k e.key) = kvs.findIdx? fun kv => decide (kv.1 = k) := by
    rw [← hp.findIdx k]; obtain ⟨l⟩ := es; simp
  cases hi : es.findIdx? fun e => knd.is k e.key with
  | some i =>
    have hfk : valueAt kvs k = (es[i]?).map (·.val) := by rw [← hf, findBy_of_findIdx?, hi]
    refine wpAny_bind (wpAny_dictEntries (s := { s with toks := s.toks + 1 }) ho hd ?_)
    cases he : es[i]? with
    | none =>
      exfalso
      have := Array.findIdx?_eq_some_iff_findIdx_eq.mp hi
      have hlt : i < es.size := this.1
      rw [Array.getElem?_eq_getElem hlt] at he
      exact nomatch he
    | some e =>
      rw [he] at hfk
      exact wpAny_bind (wpAny_rule (wpAny_pure (h1 e.val hfk)))
  | none =>
    have hfk : valueAt kvs k = none := by rw [← hf, findBy_of_findIdx?, hi]
    have hnot : k ∉ kvs.map (·.1) := not_mem_of_findIdx_none (hidx ▸ hi)
    refine wpAny_bind (wpAny_rule (wpAny_bind (wpAny_updateDictKeys (hz := hes) (s := { s with toks := s.toks + 1 }) ho hd (wpAny_pure (h2 hfk _ ⟨_, _, ep + 1, Heap.get?_update_self _ ho (Obj.isFreed_of_dict (Obj.data_mapDictKeys hd _)),
      hc.mapDictKeys _, Obj.data_mapDictKeys hd _, hk.push hkey _, ?_, ?_⟩ (Heap.SameBut.update ..))))))
    · have := hp.append hkey (knd.hash k) dflt
      obtain ⟨l⟩ := es
      simpa using this
    · rw [List.map_append, List.nodup_append]
      refine ⟨hn, by simp, ?_⟩
      intro a ha b hb
      simp only [List.map_cons, List.map_nil, List.mem_singleton] at hb
      subst hb
      exact fun e => hnot (e ▸ ha)
theorem meets_setdefault_pairs {k : K} {key : Value} {d : Addr} (hkey : knd.is k key = true) (hd : (d == sysModules) = false) (dflt : Value) :
    MeetsIn prog w (Builtin.«dict.setdefault» ⟨[.ref d, key, dflt], []⟩) (fun _ R s => ∃ kvs, s.heap.DictOf knd d kvs ∧ kvs.length ≤ sizeLine ∧
      (∀ v, valueAt kvs k = some v → R (.ok (.ret v)) { s with toks := s.toks + 1 }) ∧
      (valueAt kvs k = none → ∀ h', h'.DictOf knd d (kvs ++ [(k, dflt)]) → Heap.SameBut d s.heap h' → R (.ok (.ret dflt)) { s with heap := h', toks := s.toks + 1 })) :=
  .of_wp fun A R s ⟨kvs, hm, hz, h1, h2⟩ => by
    unfold Builtin.«dict.setdefault»
    refine wpAny_bind ?_
    unfold Builtin.Dict.keyAndDefault
    refine wpAny_bind (wpAny_notOrdered_dict hm.typeIs ?_)
    show wpAny _ _ (pure (d, key, some dflt)) _ _ s
    refine wpAny_pure ?_
    show wpAny _ _ (if (d == sysModules) = true then _ else (dictSetDefault d key dflt >>= _)) _ _ s
    rw [if_neg (by rw [hd]; exact Bool.false_ne_true)]
    exact wpAny_bind (dictSetDefault_pairs hkey hm (fun v hv => wpAny_pure ⟨v, rfl, h1 v hv⟩) (fun hn h' hm' hs' => wpAny_pure ⟨dflt, rfl, h2 hn h' hm' hs'⟩) hz)
end
section
variable {X : Cx}
def tSetDefK (to tk tx : TE) : TE := fun σ H Q => to σ H fun o H1 => ∃ a, o = .ref a ∧ IsD H1 a ∧ tk σ H1 fun y H2 => tx σ H2 fun v H3 => ∃ k kvs, y = kV k ∧ H3 a = some (.dK kvs) ∧ kvs.length < sizeLine ∧
  (∀ z, valV kvs k = some z → Q z H3) ∧ (valV kvs k = none → Q v (upd H3 a (.dK (kvs ++ [(k, v)]))))
theorem pe_setdefK {o e f : Expr} {to tk tx : TE} {apos cpos : Pos} (ho : PE X o to) (he : PE X e tk) (hf : PE X f tx) (m : M2 X o "setdefault" apos e f cpos) :
    PE X (.Call (.Attribute o "setdefault" apos) [e, f] [] cpos) (tSetDefK to tk tx) := by
  refine ⟨fun pins s σ H Q I h => ?_⟩
  refine wpAny_Call_method m.base m.few m.line PySem.F.plainAttrs_dict PySem.F.slot_dict_setdefault PySem.F.type_dict_setdefault (thn (ho.run pins s σ H _ I h) fun u s1 ⟨x, H1, I1, rx, a, ex, d, q1⟩ => ?_)
  subst ex
  obtain rfl : u = Value.ref a := rx
  obtain ⟨t1, t2, _⟩ := isD_at I1 d
  refine ⟨t1, t2, ?_⟩
  rw [m.trees]
  refine Calls.callWith_builtin rfl (Calls.evalArgs_plain (Calls.spliced_cons (thn (he.run pins s1 σ H1 _ I1 q1) fun iv s2 ⟨y, H2, I2, ry, q2⟩ =>
    Calls.spliced_cons (thn (hf.run pins s2 σ H2 _ I2 q2) fun fv s3 ⟨v, H3, I3, rv, k, kvs, ey, e3, hz, qa, qb⟩ => Calls.spliced_nil ?_))))
  subst ey
  obtain ⟨z, hd, vs, rel, dd⟩ := dk_of I3.hok e3
  refine call_meetsIn PySem.F.slot_dict_setdefault dd.typeIs PySem.F.entry_dict_setdefault (PySem.F.args_dict_setdefault_3 _ _ _) (meets_setdefault_pairs (knd := mixKind X.prog X.w) (kV_is ry) hd fv) ⟨vs, dd, by rw [← rel.length]; exact z, fun u hu => ?_, fun hn h' dd' sb => ?_⟩
  · have q := rel.val k
    rw [hu] at q
    cases e : valV kvs k with
    | none => rw [e] at q; exact q.elim
    | some zv =>
      rw [e] at q
      exact ⟨zv, H3, I3.tok _, q, qa zv e⟩
  · have hv : valV kvs k = none := by
      have q := rel.val k
      rw [hn] at q
      cases e : valV kvs k with
      | none => rfl
      | some zv => rw [e] at q; exact q.elim
    refine ⟨v, _, ?_, rv, qb hv⟩
    have he : ∃ q, h'.get? a = some q := let ⟨q, _, _, hq, _⟩ := dd'; ⟨q, hq⟩
    have rel' : KV (kvs ++ [(k, v)]) (vs ++ [(k, fv)]) := by
      have : ∀ {a : List (Key × V)} {b : List (Key × Value)}, KV a b → KV (a ++ [(k, v)]) (b ++ [(k, fv)]) := by
        intro a b r
        unfold KV at r ⊢
        induction r with
        | nil => exact .cons ⟨rfl, rv⟩ .nil
        | cons x _ ih => exact .cons x ih
      exact this rel
    exact d_write I3 (by rw [e3]; exact True.intro) sb he (dk_new (by rw [List.length_append]; exact hz) hd rel' dd')
end
end Fb

set_option maxHeartbeats 2000000
/-! Rules of our own: zip of lists and tuples, two and three. -/
namespace Fb
open PySem PySem.Spec PyProof.Rows L2 Evl
/-- true: a list; false: a tuple -/
def hoK (k : Bool) (xs : List V) : HO := match k with | true => .lst xs | false => .tup xs
def IsK (k : Bool) (h : Heap) (a : Addr) (its : Array Value) : Prop := match k with | true => h.IsList a its | false => h.IsTuple a its
def ItK (k : Bool) (h : Heap) (it a : Addr) (i : Nat) : Prop := match k with | true => h.IsListIter it a i | false => h.IsTupleIter it a i
def itObj (k : Bool) (a : Addr) : Obj := match k with | true => { cls := .type "list_iterator", data := .fields #[.ref a, .int 0 0] } | false => { cls := .type "tuple_iterator", data := .fields #[.ref a, .int 0 0] }
theorem ItK.at {k : Bool} {h h' : Heap} {it a : Addr} {i : Nat} (x : ItK k h it a i) (e : ∀ o, h.get? it = some o → h'.get? it = some o) : ItK k h' it a i := by
  cases k with
  | true => exact Heap.IsListIter.at (show h.IsListIter it a i from x) e
  | false => exact Heap.IsTupleIter.at (show h.IsTupleIter it a i from x) e
theorem ItK.obj {k : Bool} {h : Heap} {it a : Addr} {i : Nat} (x : ItK k h it a i) : ∃ o, h.get? it = some o ∧ ∀ v, o.data ≠ .cell v := by
  cases k with
  | true => obtain ⟨o, e, _, d⟩ := x; exact ⟨o, e, fun v q => by rw [d] at q; cases q⟩
  | false => obtain ⟨o, e, _, d⟩ := x; exact ⟨o, e, fun v q => by rw [d] at q; cases q⟩
theorem drawsK (k : Bool) {prog : Program} {w : World} {A : Around} (hh : A.handled = none) (it l : Addr) (hne : l ≠ it) (items : Array Value) :
    Draws prog w A it [it, l] items.size (fun i v => items[i]? = some v) (fun i h => ItK k h it l i ∧ IsK k h l items) := by
  cases k with
  | true => exact Draws.list hh it l hne items
  | false => exact Draws.tuple hh it l hne items
section
variable {X : Cx} {pins : List (Addr × Obj)} {σ : L2.St} {H : Hp} {s : Shared}
theorem cont_of {k : Bool} {a : Addr} {xs : List V} (I : Inv X pins σ H s) (e : H a = some (hoK k xs)) : ∃ its : List Value, Vals xs its ∧ IsK k s.heap a its.toArray ∧ a < s.heap.objs.size := by
  cases k with
  | true =>
    obtain ⟨its, rv, p, _⟩ := I.list (SqL.of e)
    exact ⟨its, rv, p.isList, p.lt⟩
  | false =>
    obtain ⟨its, rv, p, _⟩ := I.tuple (SqT.of e)
    obtain ⟨o, ho, _⟩ := id p
    exact ⟨its, rv, p, Heap.lt_size ho⟩
end
theorem hoK_inj {k : Bool} {xs ys : List V} (h : hoK k xs = hoK k ys) : xs = ys := by
  cases k <;> (injection h)
/-- the lists at a and b as they stand at each turn (of one length), the items in new pairs -/
def Itz2 (k1 k2 : Bool) (a b : Addr) : It :=
  ⟨fun i H => ∃ (xs ys : List V) (x y : V), H a = some (hoK k1 xs) ∧ H b = some (hoK k2 ys) ∧ xs[i]? = some x ∧ ys[i]? = some y,
    fun i H v H' => ∃ T x y, v = .ref T ∧ H T = none ∧ H' = upd H T (.tup [x, y]) ∧ (∀ xs, H a = some (hoK k1 xs) → xs[i]? = some x) ∧ ∀ ys, H b = some (hoK k2 ys) → ys[i]? = some y,
    fun i H => ∃ xs ys : List V, H a = some (hoK k1 xs) ∧ H b = some (hoK k2 ys) ∧ xs.length = i ∧ ys.length = i⟩
theorem turn_zip2 {P : Program} {w : World} {K : PySem.W.Frag} {elts : List Expr} {kk : Nat} {tpos : Pos} {k1 k2 : Bool} {a b z TI TO i1 i2 : Addr} (D : ZipApart z TI TO i1 i2 a b) :
    Turn P w K (.Tuple elts kk tpos) (Itz2 k1 k2 a b) [z, TI, TO, i1, i2] z (fun i h => IsZip h z TI TO .none ∧ IsPair h TI (.ref i1) (.ref i2) ∧ (∃ x y, IsPair h TO x y) ∧ ItK k1 h i1 a i ∧ ItK k2 h i2 b i) where
  mem := by simp
  obj := fun i h st c hc => by
    obtain ⟨hz, hTI, ⟨x, y, hTO⟩, h1, h2⟩ := st
    have e' : c = z ∨ c = TI ∨ c = TO ∨ c = i1 ∨ c = i2 := by simpa using hc
    rcases e' with q | q | q | q | q
    · rw [q]; exact ⟨_, hz, fun v q => nomatch q⟩
    · rw [q]; exact ⟨_, hTI, fun v q => nomatch q⟩
    · rw [q]; exact ⟨_, hTO, fun v q => nomatch q⟩
    · rw [q]; exact h1.obj
    · rw [q]; exact h2.obj
  keep := fun i h h' st k => by
    obtain ⟨hz, hTI, ⟨x, y, hTO⟩, h1, h2⟩ := st
    exact ⟨k z (by simp) _ hz, k TI (by simp) _ hTI, ⟨x, y, k TO (by simp) _ hTO⟩, h1.at fun o q => k i1 (by simp) o q, h2.at fun o q => k i2 (by simp) o q⟩
  item := by
    intro X hP hw hK hc i pins s σ H E I hf st hg
    subst hP hw hK
    obtain ⟨hz, hTI, ⟨x0, y0, hTO⟩, h1, h2⟩ := st
    obtain ⟨xs, ys, x, y, hqx, hqy, hx, hy⟩ := hg
    obtain ⟨its, rv, p, la⟩ := cont_of I hqx
    obtain ⟨its2, rv2, p2, lb⟩ := cont_of I hqy
    obtain ⟨u, hu, ru⟩ := rv.get hx
    obtain ⟨u2, hu2, ru2⟩ := rv2.get hy
    have hzl : z < s.heap.objs.size := Heap.lt_size hz
    have ne : ∀ c ∈ [z, TI, TO, i1, i2], c ≠ a ∧ c ≠ b := fun c hcm => ⟨Ne.symm (ne_of_none hqx (hf c hcm).1), Ne.symm (ne_of_none hqy (hf c hcm).1)⟩
    have S : ZipSep2 z TI TO i1 i2 [i1, a] [i2, b] := by
      refine ⟨D.TIz, D.TOz, D.TITO, D.TIi1, by simp, ?_, ?_, D.TIi2, by simp, ?_, ?_, ?_, ?_⟩
      · simp [Ne.symm D.i1z, (ne z (by simp)).1]
      · simp [D.TOi1, (ne TO (by simp)).1]
      · simp [Ne.symm D.i2z, (ne z (by simp)).2]
      · simp [D.TOi2, (ne TO (by simp)).2]
      · simp [D.i12, (ne i1 (by simp)).2]
      · simp [Ne.symm D.i12, (ne i2 (by simp)).1]
    have D1 := drawsK k1 (prog := X.prog) (w := X.w) (A := X.A.in1) (I.ok.hd hc) i1 a (Ne.symm (ne i1 (by simp)).1) its.toArray
    have D2 := drawsK k2 (prog := X.prog) (w := X.w) (A := X.A.in1) (I.ok.hd hc) i2 b (Ne.symm (ne i2 (by simp)).2) its2.toArray
    refine wpAny_pyNext_zipD2_item S D1 D2 hz hTI hTO ⟨h1, p⟩ ⟨h2, p2⟩ ?_ ?_ fun x1 x2 h' tk q1 q2 z' TO' h1' h2' hT hsz hk => ?_
    · have := (List.getElem?_eq_some_iff.mp hu).1; simpa using this
    · have := (List.getElem?_eq_some_iff.mp hu2).1; simpa using this
    have e1 : x1 = u := by
      have : its.toArray[i]? = some u := by simpa using hu
      rw [this] at q1; cases q1; rfl
    have e2 : x2 = u2 := by
      have : its2.toArray[i]? = some u2 := by simpa using hu2
      rw [this] at q2; cases q2; rfl
    subst e1 e2
    refine ⟨_, rfl, wpAny_letOwnedTupleGo_zip (s := { s with heap := h', toks := tk }) z' fun h'' z'' sb => ?_⟩
    have hT2 : h''.get? s.heap.objs.size = some { cls := .type "tuple", data := .seq #[x1, x2] } := (sb.2 _ (Nat.ne_of_gt hzl)).trans hT
    have new : ObjOk X.prog X.w (upd H s.heap.objs.size (.tup [x, y])) h'' s.heap.objs.size (.tup [x, y]) :=
      ⟨by show 2 ≤ sizeLine; decide, [x1, x2], .cons ru (.cons ru2 .nil), ⟨_, hT2, rfl, _, rfl⟩⟩
    have I1 : Inv X pins σ (upd H s.heap.objs.size (.tup [x, y])) { s with heap := h'', toks := tk } :=
      I.turnedNew (t' := tk) (ch := [z, TI, TO, i1, i2]) (fun c o hb q => (sb.2 c (fun q' => hb (by simp [q']))).trans (hk c o (fun q' => hb (by simp [q'])) (fun q' => hb (by simp [q'])) (fun q' => hb (by simp [q'])) (fun q' => hb (by simp [q'])) q)) hf (Nat.le_refl _) new
    refine ⟨.ref s.heap.objs.size, _, I1, rfl, ⟨_, x, y, rfl, I.hok.fresh (Nat.le_refl _), rfl, fun l hl => ?_, fun l hl => ?_⟩, ⟨z'', ?_, ⟨x1, x2, ?_⟩, ?_, ?_⟩, fun c hcm => ?_⟩
    · rw [hqx] at hl; rw [← hoK_inj (Option.some.inj hl)]; exact hx
    · rw [hqy] at hl; rw [← hoK_inj (Option.some.inj hl)]; exact hy
    · exact (sb.2 _ D.TIz).trans (hk _ _ D.TIz D.TITO D.TIi1 D.TIi2 hTI)
    · exact (sb.2 _ D.TOz).trans TO'
    · exact h1'.1.at fun o q => (sb.2 _ D.i1z).trans q
    · exact h2'.1.at fun o q => (sb.2 _ D.i2z).trans q
    · have hlt : c < s.heap.objs.size := by
        have e' : c = z ∨ c = TI ∨ c = TO ∨ c = i1 ∨ c = i2 := by simpa using hcm
        rcases e' with q | q | q | q | q
        · rw [q]; exact hzl
        · rw [q]; exact Heap.lt_size hTI
        · rw [q]; exact Heap.lt_size hTO
        · rw [q]; obtain ⟨_, e1, _⟩ := h1.obj; exact Heap.lt_size e1
        · rw [q]; obtain ⟨_, e2, _⟩ := h2.obj; exact Heap.lt_size e2
      rw [upd_ne (Nat.ne_of_lt hlt)]
      exact (hf c hcm).1
  done := by
    intro X hP hw hK hc i pins s σ H E I hf st hg
    subst hP hw hK
    obtain ⟨hz, hTI, ⟨x0, y0, hTO⟩, h1, h2⟩ := st
    obtain ⟨xs, ys, hqx, hqy, l1, l2⟩ := hg
    obtain ⟨its, rv, p, la⟩ := cont_of I hqx
    obtain ⟨its2, rv2, p2, lb⟩ := cont_of I hqy
    have ne : ∀ c ∈ [z, TI, TO, i1, i2], c ≠ a ∧ c ≠ b := fun c hcm => ⟨Ne.symm (ne_of_none hqx (hf c hcm).1), Ne.symm (ne_of_none hqy (hf c hcm).1)⟩
    have S : ZipSep2 z TI TO i1 i2 [i1, a] [i2, b] := by
      refine ⟨D.TIz, D.TOz, D.TITO, D.TIi1, by simp, ?_, ?_, D.TIi2, by simp, ?_, ?_, ?_, ?_⟩
      · simp [Ne.symm D.i1z, (ne z (by simp)).1]
      · simp [D.TOi1, (ne TO (by simp)).1]
      · simp [Ne.symm D.i2z, (ne z (by simp)).2]
      · simp [D.TOi2, (ne TO (by simp)).2]
      · simp [D.i12, (ne i1 (by simp)).2]
      · simp [Ne.symm D.i12, (ne i2 (by simp)).1]
    have D1 := drawsK k1 (prog := X.prog) (w := X.w) (A := X.A.in1) (I.ok.hd hc) i1 a (Ne.symm (ne i1 (by simp)).1) its.toArray
    have D2 := drawsK k2 (prog := X.prog) (w := X.w) (A := X.A.in1) (I.ok.hd hc) i2 b (Ne.symm (ne i2 (by simp)).2) its2.toArray
    have m1 : its.length = i := by rw [← rv.length]; exact l1
    have m2 : its2.length = i := by rw [← rv2.length]; exact l2
    refine wpAny_pyNext_zipD2_end (i := i) S D1 D2 hz hTI hTO ⟨h1, p⟩ ⟨h2, p2⟩ (by simp [m1]) (by simp [m2]) (.inl (by simp [m1])) fun h' tk hk => ⟨rfl, I.turnedL (t' := tk) (ch := [z, TI, TO, i1, i2]) (fun c o hb q =>
      hk c o (fun q' => hb (by simp [q'])) (fun q' => hb (by simp [q'])) (fun q' => hb (by simp [q'])) (fun q' => hb (by simp [q'])) q) hf⟩
  self := fun A i s Q E st h => wpAny_pyIter_zip st.1 h

abbrev zk1 (k : Bool) (h : Heap) (l1 : Addr) : Heap := h.push (itObj k l1)
abbrev zk2 (k1 k2 : Bool) (h : Heap) (l1 l2 : Addr) : Heap := (zk1 k1 h l1).push (itObj k2 l2)
abbrev zk3 (k1 k2 : Bool) (h : Heap) (l1 l2 : Addr) : Heap := (zk2 k1 k2 h l1 l2).push { cls := .type "tuple", data := .seq #[.ref h.objs.size, .ref (zk1 k1 h l1).objs.size] }
abbrev zk4 (k1 k2 : Bool) (h : Heap) (l1 l2 : Addr) : Heap := (zk3 k1 k2 h l1 l2).push { cls := .type "tuple", data := .seq #[.none, .none] }
abbrev zk5 (k1 k2 : Bool) (h : Heap) (l1 l2 : Addr) : Heap := (zk4 k1 k2 h l1 l2).push { cls := .type "zip", data := .fields #[.none, .bool false, .bool false, .ref (zk2 k1 k2 h l1 l2).objs.size, .ref (zk3 k1 k2 h l1 l2).objs.size] }
theorem meets_zk (k1 k2 : Bool) (l1 l2 : Addr) (xs ys : Array Value) :
    Meets (Builtin.«zip.__new__» ⟨[.type "zip", .ref l1, .ref l2], []⟩) (fun _ R s => IsK k1 s.heap l1 xs ∧ IsK k2 s.heap l2 ys ∧
      R (.ok (.ret (.ref (zk4 k1 k2 s.heap l1 l2).objs.size))) { s with heap := zk5 k1 k2 s.heap l1 l2 }) :=
  .of_wp fun prog w A R s h => by
    obtain ⟨hp, g, d, tk, os⟩ := s; obtain ⟨hl1, hl2, h⟩ := h
    have hsub := sub_zip
    cases k1 <;> cases k2
    · have hL1 : Heap.IsTuple (Shared.heap ⟨hp, g, d, tk, os⟩) l1 xs := hl1
      have hL2 : Heap.IsTuple (Shared.heap ⟨hp.push { cls := .type "tuple_iterator", data := .fields #[.ref l1, .int 0 0] }, g, d, tk, os⟩) l2 ys := Heap.IsTuple.push hl2 _
      wp_walk using wpAny_pyIter_tuple hL1, wpAny_pyIter_tuple hL2
      exact ⟨_, rfl, h⟩
    · have hL1 : Heap.IsTuple (Shared.heap ⟨hp, g, d, tk, os⟩) l1 xs := hl1
      have hL2 : Heap.IsList (Shared.heap ⟨hp.push { cls := .type "tuple_iterator", data := .fields #[.ref l1, .int 0 0] }, g, d, tk, os⟩) l2 ys := Heap.IsList.push hl2 _
      wp_walk using wpAny_pyIter_tuple hL1, wpAny_pyIter_list hL2
      exact ⟨_, rfl, h⟩
    · have hL1 : Heap.IsList (Shared.heap ⟨hp, g, d, tk, os⟩) l1 xs := hl1
      have hL2 : Heap.IsTuple (Shared.heap ⟨hp.push { cls := .type "list_iterator", data := .fields #[.ref l1, .int 0 0] }, g, d, tk, os⟩) l2 ys := Heap.IsTuple.push hl2 _
      wp_walk using wpAny_pyIter_list hL1, wpAny_pyIter_tuple hL2
      exact ⟨_, rfl, h⟩
    · have hL1 : Heap.IsList (Shared.heap ⟨hp, g, d, tk, os⟩) l1 xs := hl1
      have hL2 : Heap.IsList (Shared.heap ⟨hp.push { cls := .type "list_iterator", data := .fields #[.ref l1, .int 0 0] }, g, d, tk, os⟩) l2 ys := Heap.IsList.push hl2 _
      wp_walk using wpAny_pyIter_list hL1, wpAny_pyIter_list hL2
      exact ⟨_, rfl, h⟩
theorem itObj_it {k : Bool} {h : Heap} {it a : Addr} (e : h.get? it = some (itObj k a)) : ItK k h it a 0 := by
  cases k with
  | true => exact ⟨_, e, rfl, rfl⟩
  | false => exact ⟨_, e, rfl, rfl⟩
theorem itObj_fr {k : Bool} {a : Addr} : (itObj k a).isFreed = false := by cases k <;> rfl
theorem call_zk {prog : Program} {w : World} {A : Around} {E : Value → Shared → Prop} {s : Shared} {k1 k2 : Bool} {l1 l2 : Addr} {xs ys : Array Value} {Q : Value → Shared → Prop} (hl1 : IsK k1 s.heap l1 xs) (hl2 : IsK k2 s.heap l2 ys)
    (h : ∀ h', IsZip h' (s.heap.objs.size + 4) (s.heap.objs.size + 2) (s.heap.objs.size + 3) .none → IsPair h' (s.heap.objs.size + 2) (.ref s.heap.objs.size) (.ref (s.heap.objs.size + 1)) →
      IsPair h' (s.heap.objs.size + 3) .none .none → ItK k1 h' s.heap.objs.size l1 0 → ItK k2 h' (s.heap.objs.size + 1) l2 0 → h'.objs.size = s.heap.objs.size + 5 →
      (∀ c o, s.heap.get? c = some o → h'.get? c = some o) → Q (.ref (s.heap.objs.size + 4)) { s with heap := h' }) :
    wpAny (model prog w) A (call (.type "zip") [.ref l1, .ref l2]) Q E s := by
  refine callType_new F.called_zip (by decide) (F.typeCall_zip_2 _ _) (F.newCall_zip_2 _ _) (fun obj => F.args_object_init_3 obj _ _) F.entry_zip_new
    (meets_zk k1 k2 l1 l2 xs ys) ⟨hl1, hl2, ?_⟩
  have z1 : (zk1 k1 s.heap l1).objs.size = s.heap.objs.size + 1 := Heap.size_push ..
  have z2 : (zk2 k1 k2 s.heap l1 l2).objs.size = s.heap.objs.size + 2 := by rw [Heap.size_push, z1]
  have z3 : (zk3 k1 k2 s.heap l1 l2).objs.size = s.heap.objs.size + 3 := by rw [Heap.size_push, z2]
  have z4 : (zk4 k1 k2 s.heap l1 l2).objs.size = s.heap.objs.size + 4 := by rw [Heap.size_push, z3]
  have z5 : (zk5 k1 k2 s.heap l1 l2).objs.size = s.heap.objs.size + 5 := by rw [Heap.size_push, z4]
  have g5 : (zk5 k1 k2 s.heap l1 l2).get? (zk4 k1 k2 s.heap l1 l2).objs.size = some _ := Heap.get?_push_size _ rfl
  have g4 : (zk5 k1 k2 s.heap l1 l2).get? (zk3 k1 k2 s.heap l1 l2).objs.size = some _ := Heap.get?_push_of_some _ (Heap.get?_push_size _ rfl)
  have g3 : (zk5 k1 k2 s.heap l1 l2).get? (zk2 k1 k2 s.heap l1 l2).objs.size = some _ := Heap.get?_push_of_some _ (Heap.get?_push_of_some _ (Heap.get?_push_size _ rfl))
  have g2 : (zk5 k1 k2 s.heap l1 l2).get? (zk1 k1 s.heap l1).objs.size = some (itObj k2 l2) := Heap.get?_push_of_some _ (Heap.get?_push_of_some _ (Heap.get?_push_of_some _ (Heap.get?_push_size _ itObj_fr)))
  have g1 : (zk5 k1 k2 s.heap l1 l2).get? s.heap.objs.size = some (itObj k1 l1) := Heap.get?_push_of_some _ (Heap.get?_push_of_some _ (Heap.get?_push_of_some _ (Heap.get?_push_of_some _ (Heap.get?_push_size _ itObj_fr))))
  show _ ∧ _
  rw [z2, z3, z4] at g5
  rw [z1, z2] at g3
  rw [z3] at g4
  rw [z1] at g2
  rw [z4]
  exact ⟨⟨_, g5, rfl⟩, h _ g5 g3 g4 (itObj_it g1) (itObj_it g2) z5 fun c o x =>
    Heap.get?_push_of_some _ (Heap.get?_push_of_some _ (Heap.get?_push_of_some _ (Heap.get?_push_of_some _ (Heap.get?_push_of_some _ x))))⟩
def iZip2 (k1 k2 : Bool) (ta : TA) : TI := fun σ H R => ta σ H fun vs H1 => ∃ a b xs ys, vs = [.ref a, .ref b] ∧ H1 a = some (hoK k1 xs) ∧ H1 b = some (hoK k2 ys) ∧ R (Itz2 k1 k2 a b) H1
theorem pi_zip2 {X : Cx} {e e2 : Expr} {ta : TA} {p pos tpos : Pos} {elts : List Expr} {kk : Nat} (k1 k2 : Bool) (hg : Gl X "zip") (hm : X.mg "zip" = none) (ha : PA X [e, e2] ta)
    (hs : starEach [e, e2] X.env = (false, eval e X.env) :: starEach [e2] X.env := by rfl) (hpl : (backTo pos (starEach [e2] X.env)).any (·.1) = false := by rfl) :
    PI X (.Tuple elts kk tpos) (.Call (.Name "zip" p) [e, e2] [] pos) (iZip2 k1 k2 ta) := by
  refine ⟨fun pins s σ H R I h => ?_⟩
  refine Call_ (ld_blt I hg hm PyProof.Rows.boot_zip (PyProof.Rows.callWith_type1 (thn (ha.run pos pins s σ H _ I h) fun us s1 ⟨vs, H1, I1, r1, q1⟩ => ?_) hs hpl))
  obtain ⟨a, b, xs, ys, ex, hqx, hqy, q⟩ := q1
  subst ex
  cases r1 with
  | cons r rr =>
    cases rr with
    | cons r' rr =>
      cases rr
      cases r
      cases r'
      have fresh5 : ∀ c, c ∈ [s1.heap.objs.size + 4, s1.heap.objs.size + 2, s1.heap.objs.size + 3, s1.heap.objs.size, s1.heap.objs.size + 1] → FpOk X pins H1 c := fun c hcm => by
        have e' : c = s1.heap.objs.size + 4 ∨ c = s1.heap.objs.size + 2 ∨ c = s1.heap.objs.size + 3 ∨ c = s1.heap.objs.size ∨ c = s1.heap.objs.size + 1 := by simpa using hcm
        have hle : s1.heap.objs.size ≤ c := by
          rcases e' with z | z | z | z | z
          · rw [z]; exact Nat.le_add_right _ _
          · rw [z]; exact Nat.le_add_right _ _
          · rw [z]; exact Nat.le_add_right _ _
          · rw [z]; exact Nat.le_refl _
          · rw [z]; exact Nat.le_add_right _ _
        exact I1.fpOk hle (I1.hok.fresh hle)
      obtain ⟨its, rv, p1, la⟩ := cont_of I1 hqx
      obtain ⟨its2, rv2, p2, lb⟩ := cont_of I1 hqy
      refine call_zk p1 p2 fun h' hz hTI hTO h1 h2 hsz hk => wpAny_pyIter_zip hz ?_
      have I2 : Inv X pins σ H1 { s1 with heap := h' } := I1.kept (t' := s1.toks) hk
      exact ⟨s1.heap.objs.size + 4, [s1.heap.objs.size + 4, s1.heap.objs.size + 2, s1.heap.objs.size + 3, s1.heap.objs.size, s1.heap.objs.size + 1], _, _, H1, rfl, I2, turn_zip2 (PySem.W.ktu_apart s1.heap.objs.size a b la lb), ⟨hz, hTI, ⟨_, _, hTO⟩, h1, h2⟩, fresh5, q⟩
end Fb

/-! Rules of our own: zip of three. -/
namespace Fb
open PySem PySem.Spec PyProof.Rows L2 Evl
structure Nd6 (z TI TO i1 i2 i3 : Addr) : Prop where
  a1 : TI ≠ z
  a2 : TO ≠ z
  a3 : i1 ≠ z
  a4 : i2 ≠ z
  a5 : i3 ≠ z
  b1 : TI ≠ TO
  b2 : TI ≠ i1
  b3 : TI ≠ i2
  b4 : TI ≠ i3
  c1 : TO ≠ i1
  c2 : TO ≠ i2
  c3 : TO ≠ i3
  d1 : i1 ≠ i2
  d2 : i1 ≠ i3
  d3 : i2 ≠ i3
theorem nd6 (n : Nat) : Nd6 (n + 5) (n + 3) (n + 4) n (n + 1) (n + 2) := by
  constructor <;> (show ¬ ((_ : Nat) = _); omega)
def Itz3 (k1 k2 k3 : Bool) (a b d : Addr) : It :=
  ⟨fun i H => ∃ (xs ys zs : List V) (x y v : V), H a = some (hoK k1 xs) ∧ H b = some (hoK k2 ys) ∧ H d = some (hoK k3 zs) ∧ xs[i]? = some x ∧ ys[i]? = some y ∧ zs[i]? = some v,
    fun i H v H' => ∃ T x y u, v = .ref T ∧ H T = none ∧ H' = upd H T (.tup [x, y, u]) ∧ (∀ xs, H a = some (hoK k1 xs) → xs[i]? = some x) ∧ (∀ ys, H b = some (hoK k2 ys) → ys[i]? = some y) ∧ ∀ zs, H d = some (hoK k3 zs) → zs[i]? = some u,
    fun i H => ∃ xs ys zs : List V, H a = some (hoK k1 xs) ∧ H b = some (hoK k2 ys) ∧ H d = some (hoK k3 zs) ∧ xs.length = i ∧ ys.length = i ∧ zs.length = i⟩
theorem turn_zip3 {P : Program} {w : World} {K : PySem.W.Frag} {elts : List Expr} {kk : Nat} {tpos : Pos} {k1 k2 k3 : Bool} {a b d z TI TO i1 i2 i3 : Addr} (D : Nd6 z TI TO i1 i2 i3) :
    Turn P w K (.Tuple elts kk tpos) (Itz3 k1 k2 k3 a b d) [z, TI, TO, i1, i2, i3] z (fun i h => IsZip h z TI TO .none ∧ IsTupOf3 h TI (.ref i1) (.ref i2) (.ref i3) ∧ (∃ x y v, IsTupOf3 h TO x y v) ∧ ItK k1 h i1 a i ∧ ItK k2 h i2 b i ∧ ItK k3 h i3 d i) where
  mem := by simp
  obj := fun i h st c hc => by
    obtain ⟨hz, hTI, ⟨x, y, v, hTO⟩, h1, h2, h3⟩ := st
    have e' : c = z ∨ c = TI ∨ c = TO ∨ c = i1 ∨ c = i2 ∨ c = i3 := by simpa using hc
    rcases e' with q | q | q | q | q | q
    · rw [q]; exact ⟨_, hz, fun v q => nomatch q⟩
    · rw [q]; exact ⟨_, hTI, fun v q => nomatch q⟩
    · rw [q]; exact ⟨_, hTO, fun v q => nomatch q⟩
    · rw [q]; exact h1.obj
    · rw [q]; exact h2.obj
    · rw [q]; exact h3.obj
  keep := fun i h h' st k => by
    obtain ⟨hz, hTI, ⟨x, y, v, hTO⟩, h1, h2, h3⟩ := st
    exact ⟨k z (by simp) _ hz, k TI (by simp) _ hTI, ⟨x, y, v, k TO (by simp) _ hTO⟩, h1.at fun o q => k i1 (by simp) o q, h2.at fun o q => k i2 (by simp) o q, h3.at fun o q => k i3 (by simp) o q⟩
  item := by
    intro X hP hw hK hc i pins s σ H E I hf st hg
    subst hP hw hK
    obtain ⟨hz, hTI, ⟨x0, y0, v0, hTO⟩, h1, h2, h3⟩ := st
    obtain ⟨xs, ys, zs, x, y, v, hqx, hqy, hqz, hx, hy, hv⟩ := hg
    obtain ⟨its, rv, p, la⟩ := cont_of I hqx
    obtain ⟨its2, rv2, p2, lb⟩ := cont_of I hqy
    obtain ⟨its3, rv3, p3, ld⟩ := cont_of I hqz
    obtain ⟨u, hu, ru⟩ := rv.get hx
    obtain ⟨u2, hu2, ru2⟩ := rv2.get hy
    obtain ⟨u3, hu3, ru3⟩ := rv3.get hv
    have hzl : z < s.heap.objs.size := Heap.lt_size hz
    have ne : ∀ c ∈ [z, TI, TO, i1, i2, i3], c ≠ a ∧ c ≠ b ∧ c ≠ d := fun c hcm => ⟨Ne.symm (ne_of_none hqx (hf c hcm).1), Ne.symm (ne_of_none hqy (hf c hcm).1), Ne.symm (ne_of_none hqz (hf c hcm).1)⟩
    have S : ZipSep3 z TI TO i1 i2 i3 [i1, a] [i2, b] [i3, d] := by
      refine ⟨D.a1, D.a2, D.b1, D.b2, by simp, ?_, ?_, D.b3, by simp, ?_, ?_, D.b4, by simp, ?_, ?_, ?_, ?_, ?_, ?_, ?_, ?_⟩
      · simp [Ne.symm D.a3, (ne z (by simp)).1]
      · simp [D.c1, (ne TO (by simp)).1]
      · simp [Ne.symm D.a4, (ne z (by simp)).2.1]
      · simp [D.c2, (ne TO (by simp)).2.1]
      · simp [Ne.symm D.a5, (ne z (by simp)).2.2]
      · simp [D.c3, (ne TO (by simp)).2.2]
      · simp [D.d1, (ne i1 (by simp)).2.1]
      · simp [D.d2, (ne i1 (by simp)).2.2]
      · simp [Ne.symm D.d1, (ne i2 (by simp)).1]
      · simp [D.d3, (ne i2 (by simp)).2.2]
      · simp [Ne.symm D.d2, (ne i3 (by simp)).1]
      · simp [Ne.symm D.d3, (ne i3 (by simp)).2.1]
    have D1 := drawsK k1 (prog := X.prog) (w := X.w) (A := X.A.in1) (I.ok.hd hc) i1 a (Ne.symm (ne i1 (by simp)).1) its.toArray
    have D2 := drawsK k2 (prog := X.prog) (w := X.w) (A := X.A.in1) (I.ok.hd hc) i2 b (Ne.symm (ne i2 (by simp)).2.1) its2.toArray
    have D3 := drawsK k3 (prog := X.prog) (w := X.w) (A := X.A.in1) (I.ok.hd hc) i3 d (Ne.symm (ne i3 (by simp)).2.2) its3.toArray
    refine wpAny_pyNext_zipD3_item S D1 D2 D3 hz hTI hTO ⟨h1, p⟩ ⟨h2, p2⟩ ⟨h3, p3⟩ ?_ ?_ ?_ fun x1 x2 x3 h' tk q1 q2 q3 z' TO' h1' h2' h3' hT hsz hk => ?_
    · have := (List.getElem?_eq_some_iff.mp hu).1; simpa using this
    · have := (List.getElem?_eq_some_iff.mp hu2).1; simpa using this
    · have := (List.getElem?_eq_some_iff.mp hu3).1; simpa using this
    have e1 : x1 = u := by
      have : its.toArray[i]? = some u := by simpa using hu
      rw [this] at q1; cases q1; rfl
    have e2 : x2 = u2 := by
      have : its2.toArray[i]? = some u2 := by simpa using hu2
      rw [this] at q2; cases q2; rfl
    have e3 : x3 = u3 := by
      have : its3.toArray[i]? = some u3 := by simpa using hu3
      rw [this] at q3; cases q3; rfl
    subst e1 e2 e3
    refine ⟨_, rfl, wpAny_letOwnedTupleGo_zip (s := { s with heap := h', toks := tk }) z' fun h'' z'' sb => ?_⟩
    have hT2 : h''.get? s.heap.objs.size = some { cls := .type "tuple", data := .seq #[x1, x2, x3] } := (sb.2 _ (Nat.ne_of_gt hzl)).trans hT
    have new : ObjOk X.prog X.w (upd H s.heap.objs.size (.tup [x, y, v])) h'' s.heap.objs.size (.tup [x, y, v]) :=
      ⟨by show 3 ≤ sizeLine; decide, [x1, x2, x3], .cons ru (.cons ru2 (.cons ru3 .nil)), ⟨_, hT2, rfl, _, rfl⟩⟩
    have I1 : Inv X pins σ (upd H s.heap.objs.size (.tup [x, y, v])) { s with heap := h'', toks := tk } :=
      I.turnedNew (t' := tk) (ch := [z, TI, TO, i1, i2, i3]) (fun c o hb q => (sb.2 c (fun q' => hb (by simp [q']))).trans (hk c o (fun q' => hb (by simp [q'])) (fun q' => hb (by simp [q'])) (fun q' => hb (by simp [q'])) (fun q' => hb (by simp [q'])) (fun q' => hb (by simp [q'])) q)) hf (Nat.le_refl _) new
    refine ⟨.ref s.heap.objs.size, _, I1, rfl, ⟨_, x, y, v, rfl, I.hok.fresh (Nat.le_refl _), rfl, fun l hl => ?_, fun l hl => ?_, fun l hl => ?_⟩, ⟨z'', ?_, ⟨x1, x2, x3, ?_⟩, ?_, ?_, ?_⟩, fun c hcm => ?_⟩
    · rw [hqx] at hl; rw [← hoK_inj (Option.some.inj hl)]; exact hx
    · rw [hqy] at hl; rw [← hoK_inj (Option.some.inj hl)]; exact hy
    · rw [hqz] at hl; rw [← hoK_inj (Option.some.inj hl)]; exact hv
    · exact (sb.2 _ D.a1).trans (hk _ _ D.a1 D.b1 D.b2 D.b3 D.b4 hTI)
    · exact (sb.2 _ D.a2).trans TO'
    · exact h1'.1.at fun o q => (sb.2 _ D.a3).trans q
    · exact h2'.1.at fun o q => (sb.2 _ D.a4).trans q
    · exact h3'.1.at fun o q => (sb.2 _ D.a5).trans q
    · have hlt : c < s.heap.objs.size := by
        have e' : c = z ∨ c = TI ∨ c = TO ∨ c = i1 ∨ c = i2 ∨ c = i3 := by simpa using hcm
        rcases e' with q | q | q | q | q | q
        · rw [q]; exact hzl
        · rw [q]; exact Heap.lt_size hTI
        · rw [q]; exact Heap.lt_size hTO
        · rw [q]; obtain ⟨_, e1, _⟩ := h1.obj; exact Heap.lt_size e1
        · rw [q]; obtain ⟨_, e2, _⟩ := h2.obj; exact Heap.lt_size e2
        · rw [q]; obtain ⟨_, e2, _⟩ := h3.obj; exact Heap.lt_size e2
      rw [upd_ne (Nat.ne_of_lt hlt)]
      exact (hf c hcm).1
  done := by
    intro X hP hw hK hc i pins s σ H E I hf st hg
    subst hP hw hK
    obtain ⟨hz, hTI, ⟨x0, y0, v0, hTO⟩, h1, h2, h3⟩ := st
    obtain ⟨xs, ys, zs, hqx, hqy, hqz, l1, l2, l3⟩ := hg
    obtain ⟨its, rv, p, la⟩ := cont_of I hqx
    obtain ⟨its2, rv2, p2, lb⟩ := cont_of I hqy
    obtain ⟨its3, rv3, p3, ld⟩ := cont_of I hqz
    have ne : ∀ c ∈ [z, TI, TO, i1, i2, i3], c ≠ a ∧ c ≠ b ∧ c ≠ d := fun c hcm => ⟨Ne.symm (ne_of_none hqx (hf c hcm).1), Ne.symm (ne_of_none hqy (hf c hcm).1), Ne.symm (ne_of_none hqz (hf c hcm).1)⟩
    have S : ZipSep3 z TI TO i1 i2 i3 [i1, a] [i2, b] [i3, d] := by
      refine ⟨D.a1, D.a2, D.b1, D.b2, by simp, ?_, ?_, D.b3, by simp, ?_, ?_, D.b4, by simp, ?_, ?_, ?_, ?_, ?_, ?_, ?_, ?_⟩
      · simp [Ne.symm D.a3, (ne z (by simp)).1]
      · simp [D.c1, (ne TO (by simp)).1]
      · simp [Ne.symm D.a4, (ne z (by simp)).2.1]
      · simp [D.c2, (ne TO (by simp)).2.1]
      · simp [Ne.symm D.a5, (ne z (by simp)).2.2]
      · simp [D.c3, (ne TO (by simp)).2.2]
      · simp [D.d1, (ne i1 (by simp)).2.1]
      · simp [D.d2, (ne i1 (by simp)).2.2]
      · simp [Ne.symm D.d1, (ne i2 (by simp)).1]
      · simp [D.d3, (ne i2 (by simp)).2.2]
      · simp [Ne.symm D.d2, (ne i3 (by simp)).1]
      · simp [Ne.symm D.d3, (ne i3 (by simp)).2.1]
    have D1 := drawsK k1 (prog := X.prog) (w := X.w) (A := X.A.in1) (I.ok.hd hc) i1 a (Ne.symm (ne i1 (by simp)).1) its.toArray
    have D2 := drawsK k2 (prog := X.prog) (w := X.w) (A := X.A.in1) (I.ok.hd hc) i2 b (Ne.symm (ne i2 (by simp)).2.1) its2.toArray
    have D3 := drawsK k3 (prog := X.prog) (w := X.w) (A := X.A.in1) (I.ok.hd hc) i3 d (Ne.symm (ne i3 (by simp)).2.2) its3.toArray
    have m1 : its.length = i := by rw [← rv.length]; exact l1
    have m2 : its2.length = i := by rw [← rv2.length]; exact l2
    have m3 : its3.length = i := by rw [← rv3.length]; exact l3
    refine wpAny_pyNext_zipD3_end (i := i) S D1 D2 D3 hz hTI hTO ⟨h1, p⟩ ⟨h2, p2⟩ ⟨h3, p3⟩ (by simp [m1]) (by simp [m2]) (by simp [m3]) (.inl (by simp [m1])) fun h' tk hk => ⟨rfl, I.turnedL (t' := tk) (ch := [z, TI, TO, i1, i2, i3]) (fun c o hb q =>
      hk c o (fun q' => hb (by simp [q'])) (fun q' => hb (by simp [q'])) (fun q' => hb (by simp [q'])) (fun q' => hb (by simp [q'])) (fun q' => hb (by simp [q'])) q) hf⟩
  self := fun A i s Q E st h => wpAny_pyIter_zip st.1 h
abbrev zt3 (k1 k2 k3 : Bool) (h : Heap) (l1 l2 l3 : Addr) : Heap := (zk2 k1 k2 h l1 l2).push (itObj k3 l3)
abbrev zt4 (k1 k2 k3 : Bool) (h : Heap) (l1 l2 l3 : Addr) : Heap := (zt3 k1 k2 k3 h l1 l2 l3).push { cls := .type "tuple", data := .seq #[.ref h.objs.size, .ref (zk1 k1 h l1).objs.size, .ref (zk2 k1 k2 h l1 l2).objs.size] }
abbrev zt5 (k1 k2 k3 : Bool) (h : Heap) (l1 l2 l3 : Addr) : Heap := (zt4 k1 k2 k3 h l1 l2 l3).push { cls := .type "tuple", data := .seq #[.none, .none, .none] }
abbrev zt6 (k1 k2 k3 : Bool) (h : Heap) (l1 l2 l3 : Addr) : Heap := (zt5 k1 k2 k3 h l1 l2 l3).push { cls := .type "zip", data := .fields #[.none, .bool false, .bool false, .ref (zt3 k1 k2 k3 h l1 l2 l3).objs.size, .ref (zt4 k1 k2 k3 h l1 l2 l3).objs.size] }
theorem meets_zt (l1 l2 l3 : Addr) (xs ys zs : Array Value) :
    Meets (Builtin.«zip.__new__» ⟨[.type "zip", .ref l1, .ref l2, .ref l3], []⟩) (fun _ R s => s.heap.IsList l1 xs ∧ s.heap.IsTuple l2 ys ∧ s.heap.IsTuple l3 zs ∧
      R (.ok (.ret (.ref (zt5 true false false s.heap l1 l2 l3).objs.size))) { s with heap := zt6 true false false s.heap l1 l2 l3 }) :=
  .of_wp fun prog w A R s h => by
    obtain ⟨hp, g, d, tk, os⟩ := s; obtain ⟨hl1, hl2, hl3, h⟩ := h
    have hsub := sub_zip
    have hL1 : Heap.IsList (Shared.heap ⟨hp, g, d, tk, os⟩) l1 xs := hl1
    have hL2 : Heap.IsTuple (Shared.heap ⟨hp.push { cls := .type "list_iterator", data := .fields #[.ref l1, .int 0 0] }, g, d, tk, os⟩) l2 ys := Heap.IsTuple.push hl2 _
    have hL3 : Heap.IsTuple (Shared.heap ⟨(hp.push { cls := .type "list_iterator", data := .fields #[.ref l1, .int 0 0] }).push { cls := .type "tuple_iterator", data := .fields #[.ref l2, .int 0 0] }, g, d, tk, os⟩) l3 zs := Heap.IsTuple.push (Heap.IsTuple.push hl3 _) _
    wp_walk using wpAny_pyIter_list hL1, wpAny_pyIter_tuple hL2, wpAny_pyIter_tuple hL3
    exact ⟨_, rfl, h⟩
theorem call_zt {prog : Program} {w : World} {A : Around} {E : Value → Shared → Prop} {s : Shared} {l1 l2 l3 : Addr} {xs ys zs : Array Value} {Q : Value → Shared → Prop} (hl1 : s.heap.IsList l1 xs) (hl2 : s.heap.IsTuple l2 ys) (hl3 : s.heap.IsTuple l3 zs)
    (h : ∀ h', IsZip h' (s.heap.objs.size + 5) (s.heap.objs.size + 3) (s.heap.objs.size + 4) .none → IsTupOf3 h' (s.heap.objs.size + 3) (.ref s.heap.objs.size) (.ref (s.heap.objs.size + 1)) (.ref (s.heap.objs.size + 2)) →
      IsTupOf3 h' (s.heap.objs.size + 4) .none .none .none → ItK true h' s.heap.objs.size l1 0 → ItK false h' (s.heap.objs.size + 1) l2 0 → ItK false h' (s.heap.objs.size + 2) l3 0 →
      (∀ c o, s.heap.get? c = some o → h'.get? c = some o) → Q (.ref (s.heap.objs.size + 5)) { s with heap := h' }) :
    wpAny (model prog w) A (call (.type "zip") [.ref l1, .ref l2, .ref l3]) Q E s := by
  refine callType_new F.called_zip (by decide) (F.typeCall_zip_3 _ _ _) (F.newCall_zip_3 _ _ _) (fun obj => F.args_object_init_4 obj _ _ _) F.entry_zip_new
    (meets_zt l1 l2 l3 xs ys zs) ⟨hl1, hl2, hl3, ?_⟩
  have z1 : (zk1 true s.heap l1).objs.size = s.heap.objs.size + 1 := Heap.size_push ..
  have z2 : (zk2 true false s.heap l1 l2).objs.size = s.heap.objs.size + 2 := by rw [Heap.size_push, z1]
  have z3 : (zt3 true false false s.heap l1 l2 l3).objs.size = s.heap.objs.size + 3 := by rw [Heap.size_push, z2]
  have z4 : (zt4 true false false s.heap l1 l2 l3).objs.size = s.heap.objs.size + 4 := by rw [Heap.size_push, z3]
  have z5 : (zt5 true false false s.heap l1 l2 l3).objs.size = s.heap.objs.size + 5 := by rw [Heap.size_push, z4]
  have g6 : (zt6 true false false s.heap l1 l2 l3).get? (zt5 true false false s.heap l1 l2 l3).objs.size = some _ := Heap.get?_push_size _ rfl
  have g5 : (zt6 true false false s.heap l1 l2 l3).get? (zt4 true false false s.heap l1 l2 l3).objs.size = some _ := Heap.get?_push_of_some _ (Heap.get?_push_size _ rfl)
  have g4 : (zt6 true false false s.heap l1 l2 l3).get? (zt3 true false false s.heap l1 l2 l3).objs.size = some _ := Heap.get?_push_of_some _ (Heap.get?_push_of_some _ (Heap.get?_push_size _ rfl))
  have g3 : (zt6 true false false s.heap l1 l2 l3).get? (zk2 true false s.heap l1 l2).objs.size = some (itObj false l3) := Heap.get?_push_of_some _ (Heap.get?_push_of_some _ (Heap.get?_push_of_some _ (Heap.get?_push_size _ itObj_fr)))
  have g2 : (zt6 true false false s.heap l1 l2 l3).get? (zk1 true s.heap l1).objs.size = some (itObj false l2) := Heap.get?_push_of_some _ (Heap.get?_push_of_some _ (Heap.get?_push_of_some _ (Heap.get?_push_of_some _ (Heap.get?_push_size _ itObj_fr))))
  have g1 : (zt6 true false false s.heap l1 l2 l3).get? s.heap.objs.size = some (itObj true l1) := Heap.get?_push_of_some _ (Heap.get?_push_of_some _ (Heap.get?_push_of_some _ (Heap.get?_push_of_some _ (Heap.get?_push_of_some _ (Heap.get?_push_size _ itObj_fr)))))
  show _ ∧ _
  rw [z3, z4, z5] at g6
  rw [z1, z2, z3] at g4
  rw [z4] at g5
  rw [z2] at g3
  rw [z1] at g2
  rw [z5]
  exact ⟨⟨_, g6, rfl⟩, h _ g6 g4 g5 (itObj_it g1) (itObj_it g2) (itObj_it g3) fun c o x =>
    Heap.get?_push_of_some _ (Heap.get?_push_of_some _ (Heap.get?_push_of_some _ (Heap.get?_push_of_some _ (Heap.get?_push_of_some _ (Heap.get?_push_of_some _ x)))))⟩
def iZip3 (ta : TA) : TI := fun σ H R => ta σ H fun vs H1 => ∃ a b d xs ys zs, vs = [.ref a, .ref b, .ref d] ∧ H1 a = some (.lst xs) ∧ H1 b = some (.tup ys) ∧ H1 d = some (.tup zs) ∧ R (Itz3 true false false a b d) H1
theorem pi_zip3 {X : Cx} {e e2 e3 : Expr} {ta : TA} {p pos tpos : Pos} {elts : List Expr} {kk : Nat} (hg : Gl X "zip") (hm : X.mg "zip" = none) (ha : PA X [e, e2, e3] ta)
    (hs : starEach [e, e2, e3] X.env = (false, eval e X.env) :: starEach [e2, e3] X.env := by rfl) (hpl : (backTo pos (starEach [e2, e3] X.env)).any (·.1) = false := by rfl) :
    PI X (.Tuple elts kk tpos) (.Call (.Name "zip" p) [e, e2, e3] [] pos) (iZip3 ta) := by
  refine ⟨fun pins s σ H R I h => ?_⟩
  refine Call_ (ld_blt I hg hm PyProof.Rows.boot_zip (PyProof.Rows.callWith_type1 (thn (ha.run pos pins s σ H _ I h) fun us s1 ⟨vs, H1, I1, r1, q1⟩ => ?_) hs hpl))
  obtain ⟨a, b, d, xs, ys, zs, ex, hqx, hqy, hqz, q⟩ := q1
  subst ex
  cases r1 with
  | cons r rr =>
    cases rr with
    | cons r' rr =>
      cases rr with
      | cons r'' rr =>
        cases rr
        cases r
        cases r'
        cases r''
        have fresh6 : ∀ c, c ∈ [s1.heap.objs.size + 5, s1.heap.objs.size + 3, s1.heap.objs.size + 4, s1.heap.objs.size, s1.heap.objs.size + 1, s1.heap.objs.size + 2] → FpOk X pins H1 c := fun c hcm => by
          have hle : s1.heap.objs.size ≤ c := by
            simp at hcm
            omega
          exact I1.fpOk hle (I1.hok.fresh hle)
        obtain ⟨its, rv, p1, la⟩ := cont_of (k := true) I1 hqx
        obtain ⟨its2, rv2, p2, lb⟩ := cont_of (k := false) I1 hqy
        obtain ⟨its3, rv3, p3, ld⟩ := cont_of (k := false) I1 hqz
        refine call_zt p1 p2 p3 fun h' hz hTI hTO h1 h2 h3 hk => wpAny_pyIter_zip hz ?_
        have I2 : Inv X pins σ H1 { s1 with heap := h' } := I1.kept (t' := s1.toks) hk
        exact ⟨s1.heap.objs.size + 5, [s1.heap.objs.size + 5, s1.heap.objs.size + 3, s1.heap.objs.size + 4, s1.heap.objs.size, s1.heap.objs.size + 1, s1.heap.objs.size + 2], _, _, H1, rfl, I2, turn_zip3 (nd6 _), ⟨hz, hTI, ⟨_, _, _, hTO⟩, h1, h2, h3⟩, fresh6, q⟩
end Fb

/-! Rules of our own: sorted(set of tuples of ints). -/
namespace Fb
open PySem PySem.Spec PyProof.Rows L2 Evl PySem.W
abbrev encT : Addr × List Int → PyData := fun q => .tuple (q.2.map .int)
theorem dataLe_tups : dataLe false encT = fun p q => decide (p.2 ≤ q.2) := by
  funext p q
  show (!dataLt (.tuple (q.2.map .int)) (.tuple (p.2.map .int))) = _
  rw [dataLt_tuple]
  show (!rowLt (q.2.map .int) (p.2.map .int)) = _
  rw [dataLt_ints]
  by_cases h : q.2 < p.2
  · have h' : ¬ p.2 ≤ q.2 := fun r => List.not_lt.mpr r h
    simp [h, h']
  · have h' : p.2 ≤ q.2 := List.not_lt.mp h
    simp [h, h']
theorem each_refs : ∀ (L : List (Addr × List Int)), EachIs (fun v (q : Addr × List Int) => v = Value.ref q.1) (L.map fun q => Value.ref q.1) L
  | [] => .nil
  | q :: L => .cons rfl (each_refs L)
theorem of_each : ∀ {out : List Value} {L : List (Addr × List Int)}, EachIs (fun v (q : Addr × List Int) => v = Value.ref q.1) out L → out = L.map fun q => Value.ref q.1
  | _, _, .nil => rfl
  | _, _, .cons e t => by rw [List.map_cons, e, of_each t]
theorem each_of_mem {α : Type} {R : Value → α → Prop} {f : α → Value} : ∀ {L : List α}, (∀ q ∈ L, R (f q) q) → EachIs R (L.map f) L
  | [], _ => .nil
  | q :: L, h => .cons (h q (by simp)) (each_of_mem fun x hx => h x (List.mem_cons_of_mem _ hx))
theorem reads_ints {h : Heap} : ∀ {k : List Int} {vs : List Value}, IntsAre vs k → ReadsAll h vs (k.map .int) []
  | _, _, .nil => .nil
  | _, _, .cons i t r => by
    have q := ReadsAll.cons (Reads.int (h := h) i t) (reads_ints (h := h) r)
    simpa using q
section
variable {P : Program} {w : World} {A : Around} {E : Value → Shared → Prop} {s : Shared}
theorem sorted_setD {a : Addr} {L : List (Addr × List Int)} {es : Array (Int × Value)} {ep : Nat} {t : SetTable} {Q : Value → Shared → Prop} (R : SetTR P w s.heap a L es ep t) (hh : A.handled = none) (hu : A.units + 64 < cLine)
    (hB : ∀ p ∈ L, p.2 ≠ [])
    (hQ : ∀ s' p (out : Array Value) (c : Nat) (L' : List (Addr × List Int)), (∀ b o, s.heap.get? b = some o → s'.heap.get? b = some o) → s'.gens = s.gens → s'.os = s.os → s.heap.objs.size ≤ p →
      s'.heap.get? p = some (seqObj "list" out c) → out.toList = L'.map (fun q => Value.ref q.1) → L'.Perm L → L'.Pairwise (fun q r => q.2 ≤ r.2) → Q (.ref p) s') :
    wpAny (model P w) A (call (.builtin "sorted") [.ref a]) Q E s := by
  obtain ⟨o, ho, hex, hd⟩ := R.ob
  have hsz := R.size
  have hfew := R.few
  refine Calls.call_function_entry kind_sorted plain_sorted entry_sorted (args_sorted1 _) ?_
  unfold Builtin.«sorted»
  refine wpAny_bind (m := checkCount "sorted" 1 1 _) (wpAny_pure ?_)
  refine wpAny_bind (collect_set (A := A.in1) hh ⟨o, ho, hex.1, hd⟩ R.fits (by unfold scanBound; omega) R.tab.ris R.led fun s1 vs k1 hz g1 o1 pm => ?_)
  have hes : es.toList.map (·.2) = L.map fun q => Value.ref q.1 := by
    rw [R.rows]
    unfold L2.rowsOf
    rw [List.map_map] <;> rfl
  rw [hes] at pm
  have ord : ∀ vs : List Value, (∀ v ∈ vs, ∃ q ∈ L, v = Value.ref q.1) → ∃ L1 : List (Addr × List Int), vs = L1.map (fun q => Value.ref q.1) ∧ ∀ q ∈ L1, q ∈ L := by
    intro vs
    induction vs with
    | nil => intro _; exact ⟨[], rfl, fun q hq => (by cases hq)⟩
    | cons v vs ih =>
      intro hv
      obtain ⟨q, hq, e⟩ := hv v List.mem_cons_self
      obtain ⟨L1, e1, hs⟩ := ih fun u hu => hv u (List.mem_cons_of_mem _ hu)
      refine ⟨q :: L1, by rw [List.map_cons, e, e1], fun r hr => ?_⟩
      rcases List.mem_cons.mp hr with z | z
      · rw [z]; exact hq
      · exact hs r z
  have one : ∀ q ∈ L, ∀ r ∈ L, q.1 = r.1 → q = r := fun q hq r hr e => by
    have a1 := R.tup q hq
    have a2 := R.tup r hr
    rw [e] at a1
    have e2 : q.2 = r.2 := a1.inj a2
    exact Prod.ext e e2
  have perm_of : ∀ L1 : List (Addr × List Int), (∀ q ∈ L1, q ∈ L) → (L1.map (fun q => Value.ref q.1)).Perm (L.map fun q => Value.ref q.1) → L1.Perm L := by
    intro L1 hs pm1
    have nL : L.Nodup := nodup_of_map R.nd
    have nref : (L.map fun q => Value.ref q.1).Nodup := by
      refine List.pairwise_map.mpr (List.Pairwise.imp_of_mem (fun {q r} hq hr hne e => ?_) nL)
      injection e with e
      exact hne (one q hq r hr e)
    have n1 : L1.Nodup := nodup_of_map (pm1.nodup_iff.mpr nref)
    refine (List.perm_ext_iff_of_nodup n1 nL).mpr fun q => ⟨hs q, fun hq => ?_⟩
    have hm : Value.ref q.1 ∈ L1.map (fun q => Value.ref q.1) := pm1.mem_iff.mpr (List.mem_map.mpr ⟨q, hq, rfl⟩)
    obtain ⟨r, hr, e⟩ := List.mem_map.mp hm
    injection e with e
    rw [← one r (hs r hr) q hq e]
    exact hr
  have hvl : vs.length < 64 := by rw [pm.length_eq, List.length_map]; exact hfew
  obtain ⟨L1, e1, hs1⟩ := ord vs fun v hv => by
    obtain ⟨q, hq, e⟩ := List.mem_map.mp (pm.mem_iff.mp hv)
    exact ⟨q, hq, e.symm⟩
  have pL : L1.Perm L := perm_of L1 hs1 (by rw [← e1]; exact pm)
  refine wpAny_bind (wpAny_newList ?_ (by rw [sizeLine_eq]; omega))
  have hoL : (s1.heap.push (seqObj "list" vs.toArray 0)).get? s1.heap.objs.size = some (seqObj "list" vs.toArray 0) := Heap.get?_push_size _ rfl
  have tk : ∀ q ∈ L, IsT P w (s1.heap.push (seqObj "list" vs.toArray 0)) q.2 q.1 := fun q hq => isT_keep (R.tup q hq) fun b u e => Heap.get?_push_of_some _ (k1 b u e)
  have ltA : ∀ q ∈ L, q.1 < s1.heap.objs.size := fun q hq => by
    obtain ⟨o, its, n, ho, _⟩ := R.tup q hq
    exact Heap.lt_size (k1 _ _ ho)
  have rd : EachIs (fun v (b : Addr × List Int) => ∃ as, Reads (s1.heap.push (seqObj "list" vs.toArray 0)) v (encT b) as ∧ s1.heap.objs.size ∉ as) vs L1 := by
    rw [e1]
    refine each_of_mem fun q hq => ?_
    obtain ⟨o, its, n, ho, hc, hd, hi⟩ := tk q (hs1 q hq)
    rw [← e1]
    refine ⟨_, Reads.tuple ho hc hd (reads_ints (ints_of_items hi)), ?_⟩
    simp
    try exact fun z => absurd (ltA q (hs1 q hq)) (by rw [← z]; exact Nat.lt_irrefl _)
  have al : AllAlike (L1.map encT) := AllAlike.of fun b b' => by
    show alike (.tuple (b.2.map .int)) (.tuple (b'.2.map .int)) = true
    simp only [alike]
    exact alike_ints _ _
  have srt : Sortable (L1.map encT) := .inl fun d hd => by
    obtain ⟨b, hb, rfl⟩ := List.mem_map.mp hd
    cases e : b.2 with
    | nil => exact absurd e (hB b (hs1 b hb))
    | cons x r => exact ⟨.int x, r.map .int, by show PyData.tuple (b.2.map .int) = _; rw [e]; rfl⟩
  refine wpAny_bind (wpAny_holding (list_sort_data (s := { s1 with heap := s1.heap.push (seqObj "list" vs.toArray 0) }) (bs := L1) (enc := encT) (R := fun v q => v = Value.ref q.1) hoL (by rw [e1]; exact each_refs L1) rd al srt (by rw [pL.length_eq, sizeLine_eq]; omega) (fun b hb => ?_) fun out hl ho2 => ?_))
  · have : (encT b).depth ≤ 1 := by
      show PyData.depth (.tuple (b.2.map .int)) ≤ 1
      simp only [PyData.depth]
      rw [depth_ints]; omega
    show A.units + 1 + 1 + _ < cLine
    omega
  obtain ⟨c, hc⟩ := sortedHeap_at (vs := vs) (out := out.toArray) hoL
  have e' := of_each ho2
  refine wpAny_pure ⟨_, rfl, hQ _ s1.heap.objs.size out.toArray c (L1.mergeSort (dataLe false encT)) (fun b u e => ?_) g1 o1 hz hc (by simpa using e') ((List.mergeSort_perm _ _).trans pL) ?_⟩
  · have q := k1 b u e
    have hlt := Heap.lt_size q
    show (sortedHeap (s1.heap.push (seqObj "list" vs.toArray 0)) s1.heap.objs.size vs out.toArray).get? b = some u
    rw [sortedHeap_old (Nat.ne_of_lt hlt) (by rw [size_push']; exact Nat.lt_succ_of_lt hlt)]
    exact Heap.get?_push_of_some _ q
  · rw [dataLe_tups]
    have := List.pairwise_mergeSort (le := fun (p q : Addr × List Int) => decide (p.2 ≤ q.2)) (fun a b c h1 h2 => by
      rw [decide_eq_true_eq] at h1 h2 ⊢
      exact List.le_trans h1 h2) (fun a b => by
      rw [Bool.or_eq_true, decide_eq_true_eq, decide_eq_true_eq]
      exact List.le_total _ _) L1
    exact this.imp fun h => of_decide_eq_true h
end
section
variable {X : Cx}
def rSortedD (X : Cx) : List V → Hp → VK → Prop := fun vs H Q => ∃ (a : Addr) (L : List (Addr × List Int)), vs = [V.ref a] ∧ H a = some (SetTO X.prog X.w a L) ∧ (∀ p ∈ L, H p.1 = some (.tup (p.2.map V.int)) ∧ p.2 ≠ []) ∧
  ∀ (L' : List (Addr × List Int)) (p : Addr), L'.Perm L → (L'.map (·.2)).Nodup → L'.length < 64 → L'.Pairwise (fun q r => q.2 ≤ r.2) → H p = none → Q (.ref p) (upd H p (.lst (L'.map fun q => V.ref q.1)))
theorem cr_sortedSetT {k : Nat} (hr : Room k X.A) (hc : X.calm = true) : CallR X (.builtin "sorted") (rSortedD X) := by
  intro pins s σ H vs us Q I r h
  obtain ⟨a, L, rfl, ha, hk, q⟩ := h
  have R0 : SetT0 X.prog X.w s.heap a L := (I.hok a _ ha).1
  obtain ⟨es, ep, t, R⟩ := R0.full fun p hp => I.isT (SqT.of (hk p hp).1)
  rw [Vals.ref1 r]
  refine sorted_setD R (I.ok.hd hc) hr.units (fun p hp => (hk p hp).2) fun s' p out c L' k g o hp hg hout pm pw => ?_
  have hfew : L'.length < 64 := by rw [pm.length_eq]; exact R.few
  have hlen : (L'.map fun q => V.ref q.1).length ≤ sizeLine := by rw [List.length_map, sizeLine_eq]; omega
  have hn : H p = none := I.hok.fresh hp
  have hv : Vals (L'.map fun q => V.ref q.1) out.toList := by rw [hout]; exact vals_of_refs L'
  have J : L2.Inv X pins σ (upd H p (.lst (L'.map fun q => V.ref q.1))) { s with heap := s'.heap, gens := s'.gens, drawn := s'.drawn, toks := s'.toks } :=
    I.call (ch := []) (Un.laid k hp hn) (I.hok.laid k hp ⟨hlen, out.toList, c, hv, hg⟩) (by rw [g]; exact I.bare) (fun _ z => nomatch z)
  have e : s' = { s with heap := s'.heap, gens := s'.gens, drawn := s'.drawn, toks := s'.toks } := by
    cases s'
    cases s
    cases o
    rfl
  rw [e]
  exact ⟨.ref p, _, J, rfl, q L' p pm ((pm.map (·.2)).nodup_iff.mpr R.nd) hfew pw hn⟩
end
end Fb

set_option maxHeartbeats 1000000
/-! Rules of our own: == and != by an own __eq__, either answer. -/
namespace Fb
open PySem PySem.Spec PyProof.Rows L2 Evl PySem.W
section
variable {prog : Program} {w : World} {A : Around} {E : Value → Shared → Prop} {s : Shared} {K : Frag} {x y C f L : Addr} {h₀ : Heap} {m : Str → Option Value} {ox : Obj} {od : Option Obj}
theorem ne_bind (self : Value) : bindSpecial (.builtin "object.__ne__") self = pure (.builtin "object.__ne__", [self]) :=
  (Slot.of (T := "object") (name := "__ne__") (owner := "object") (n := "__ne__") (by rw [typeLookup_type, builtinLookup_eq_fast]; kernel_rfl) (by decide +kernel) (by decide +kernel) (by decide +kernel)
    (.inl (by decide +kernel)) (by rw [isSubtype_type]; kernel_rfl)).bind self
theorem ne_plain : plainId "object.__ne__" = true := by decide +kernel
theorem cmpNe_K {Q : Value → Shared → Prop} (hu : A.units + 1 < cLine) (F : Fr h₀ L s.heap m) (X₀ : K.In h₀) (I : InstAt s.heap x ox C od) (hb : Looks (model prog w) s.heap (typeOf (.ref y)) (.ref C))
    (hn : findIn K (.ref C) "__ne__" = some (some (.builtin "object.__ne__"))) (ho : mroIn K C (.type "object") = some true)
    (hs : findIn K (.ref C) "__eq__" = some (some (.ref f))) (hf : isFn K (.ref f) = true)
    (h : wpAny (model prog w) A.in1 (call (.ref f) [.ref x, .ref y]) (fun v s' => ∃ b, v = .bool b ∧ Q (.bool (!b)) s') E s) : wpAny (model prog w) A (richCompare .NotEq (.ref x) (.ref y)) Q E s := by
  have X := X₀.keeps F.keep
  have sp : Looks (model prog w) s.heap (specialOf (.ref x) "__ne__") (some (.builtin "object.__ne__")) := I.type.andThen (looks_findIn X hn)
  have iv : Looks (model prog w) s.heap (isInstance (.ref x) (.type "object")) true := I.type.andThen (looks_mroIn X ho)
  have body : wpAny (model prog w) A.in1 (Builtin.«object.__ne__» ⟨[.ref x, .ref y], []⟩) (fun fin s' => GQ.FinOf prog w A (wants (fun v s' => ∃ b, v = .bool b ∧ Q (.bool b) s') E) fin s') (fun e s' => wants (fun v s' => ∃ b, v = .bool b ∧ Q (.bool b) s') E (.error e) s') s := by
    unfold Builtin.«object.__ne__»
    refine wpAny_bind (m := slotArgs "__ne__" 1 _) (wpAny_pure ?_)
    refine wpAny_bind (wpAny_cRoomFor hu ?_)
    refine wpAny_bind (ifBound_K (args := [.ref y]) X I hs hf (wpAny_mono h (fun v s' hv => ?_) fun _ _ e => e))
    obtain ⟨b, rfl, q⟩ := hv
    refine wpAny_bind (wpAny_truthy_bool ?_)
    exact wpAny_pure ⟨_, rfl, q⟩
  have callNe : wpAny (model prog w) A (call (.builtin "object.__ne__") [.ref x, .ref y]) (fun v s' => ∃ b, v = .bool b ∧ Q (.bool b) s') E s :=
    wpAny_call (codeAny_call_builtin ne_plain PySem.F.cmpEntry_ne (@check_slot (model prog w) _ _ _ "object.__ne__" "object" "__ne__" (.ref x) [.ref y] [] _ PySem.F.cmpKind_ne PySem.F.cmpSplit_ne iv (PySem.F.cmpArgs_ne _ _) body))
  have one : wpAny (model prog w) A (tryCompare (.ref x) "__ne__" (.ref y)) (fun r s' => ∃ b, r = some (.bool b) ∧ Q (.bool b) s') E s := by
    unfold tryCompare
    refine wpAny_bind (NtL.csib (args := [.ref y]) sp (ne_bind _) (wpAny_mono callNe (fun v s' hv => ?_) fun _ _ e => e))
    obtain ⟨b, rfl, q⟩ := hv
    exact wpAny_pure ⟨b, rfl, q⟩
  unfold richCompare
  simp only [oneThing_ref]
  refine wpAny_holding (wpAny_bind (wpAny_cRoomFor (Nat.lt_of_succ_lt hu) ?_))
  refine wpAny_bind (I.type.here (wpAny_bind (hb.here ?_)))
  rw [show (Value.ref C != Value.ref C) = false from by simp]
  simp only [Bool.false_eq_true, if_false]
  refine wpAny_bind (wpAny_pure ?_)
  simp only [Bool.false_eq_true, if_false]
  refine wpAny_bind (wpAny_mono one (fun r s' z => ?_) fun _ _ e => e)
  obtain ⟨b, rfl, q⟩ := z
  exact wpAny_pure q
end
section
variable {X : Cx} {n : Nat}
/-- what the own == promises: R a b r, r its answer -/
def spEqB (R : Addr → Addr → Bool → Hp → Prop) : Sp := fun vs H Q _ => ∃ a b r, vs = [.ref a, .ref b] ∧ R a b r H ∧ ∀ H', Ext H H' → Q (.bl r) H'
def DInB (C : Addr) (R : Addr → Addr → Bool → Hp → Prop) (x y : V) (r : Bool) (H : Hp) : Prop := ∃ a b dx dy fs gs, x = .ref a ∧ y = .ref b ∧ H a = some (.ins C dx fs) ∧ H b = some (.ins C dy gs) ∧ R a b r H
theorem run_eqB {f : Addr} {fd : FuncData} {ps : List Str} {R : Addr → Addr → Bool → Hp → Prop} (F : FnOk X.prog X.w X.K X.mg X.base C8.CX0 n f fd ps (spEqB R)) (hb : Binds X.K fd ps []) {A : Around} (sb : L2.Sub X n A)
    {pins : List (Addr × Obj)} {s : Shared} {σ : L2.St} {H : Hp} {a b : Addr} {r : Bool} (I : L2.Inv X pins σ H s) (hr : R a b r H) :
    wpAny (model X.prog X.w) A (call (.ref f) [.ref a, .ref b]) (fun v s' => v = .bool r ∧ ∃ H', L2.Inv X pins σ H' s' ∧ Ext H H') X.xe s := by
  have hsp : spEqB R [.ref a, .ref b] H (fun v H' => v = .bl r ∧ Ext H H') C8.E0 := ⟨a, b, r, rfl, hr, fun H' e => ⟨rfl, e⟩⟩
  have e0 : Env0 X.prog X.w X.K X.mg X.base A X.stack s H := by
    have e := I.env0
    exact ⟨by rw [sb.fr]; exact e.frames, e.mod, e.bs, e.bsz, e.funs, e.frf, e.hok, e.bare⟩
  have hl := F.len _ _ _ _ hsp
  have r2 : Vals [V.ref a, V.ref b] [Value.ref a, Value.ref b] := .cons rfl (.cons rfl .nil)
  refine wpAny_call (codeAny_mono (F.run A X.stack s H ⟨[.ref a, .ref b], []⟩ [.ref a, .ref b] [.ref a, .ref b] _ C8.E0 sb.room e0 (by
    have := hb s [.ref a, .ref b] I.kIn (by simpa using hl)
    simpa using this) r2 hsp) fun r s' hq => ?_)
  cases r with
  | error e => exact C8.pass0 (X := X) (E := C8.E0) pins σ H s e s' I hq
  | ok fl =>
    cases fl with
    | ret w =>
      obtain ⟨z, H', I', rz, ez, ex⟩ := I.after hq
      subst ez
      cases rz
      exact ⟨rfl, H', I', ex⟩
    | next => exact False.elim hq
    | brk => exact False.elim hq
    | cont => exact False.elim hq
theorem ins_at {C a dx : Addr} {fs : List (Str × V)} {pins : List (Addr × Obj)} {s : Shared} {σ : L2.St} {H : Hp} (I : L2.Inv X pins σ H s) (ha : H a = some (.ins C dx fs)) : ∃ ox od, InstAt s.heap a ox C od := by
  obtain ⟨mA, J, _⟩ := ins_get I.hok ha
  obtain ⟨od, J, _⟩ := J.look
  exact ⟨_, _, J⟩
/-- x == y, x != y of instances of the class at C, by its own __eq__ -/
def rEqB (C : Addr) (R : Addr → Addr → Bool → Hp → Prop) : R2 := fun x y H Q => ∃ r, DInB C R x y r H ∧ ∀ H', Ext H H' → Q (.bl r) H'
def rNeB (C : Addr) (R : Addr → Addr → Bool → Hp → Prop) : R2 := fun x y H Q => ∃ r, DInB C R x y r H ∧ ∀ H', Ext H H' → Q (.bl (!r)) H'
theorem op_eqB {C f : Addr} {fd : FuncData} {ps : List Str} {R : Addr → Addr → Bool → Hp → Prop} (F : FnOk X.prog X.w X.K X.mg X.base C8.CX0 n f fd ps (spEqB R)) (hb : Binds X.K fd ps [])
    (hs : PySem.W.findIn X.K (.ref C) "__eq__" = some (some (.ref f))) (hf : PySem.W.isFn X.K (.ref f) = true) (hr : Room n X.A) : OpR X (compareOp .Eq) (rEqB C R) := by
  intro pins s σ H x y v u Q I rx ry hq
  obtain ⟨r, ⟨a, b, dx, dy, fs, gs, rfl, rfl, ha, hb', hR⟩, q⟩ := hq
  cases rx
  cases ry
  obtain ⟨ox, od, J⟩ := ins_at I ha
  obtain ⟨oy, od', J'⟩ := ins_at I hb'
  obtain ⟨m, hF⟩ := I.fr
  show wpAny (model X.prog X.w) X.A (richCompare .Eq (.ref a) (.ref b)) (EP X pins σ Q) X.xe s
  refine PySem.W.cmp_K (op := .Eq) (tb := .ref C) hr.units0 hF I.ok.mod.kin J J'.type (by simp [PySem.W.notFirst]) hs hf (wpAny_mono (run_eqB F hb ⟨hr, rfl⟩ I hR) (fun v s' z => ?_) fun _ _ x => x)
  obtain ⟨rfl, H', I', e⟩ := z
  exact ⟨.bl r, H', I', rfl, q H' e⟩
theorem op_neB {C f : Addr} {fd : FuncData} {ps : List Str} {R : Addr → Addr → Bool → Hp → Prop} (F : FnOk X.prog X.w X.K X.mg X.base C8.CX0 n f fd ps (spEqB R)) (hb : Binds X.K fd ps [])
    (hs : PySem.W.findIn X.K (.ref C) "__eq__" = some (some (.ref f))) (hf : PySem.W.isFn X.K (.ref f) = true) (hn : PySem.W.findIn X.K (.ref C) "__ne__" = some (some (.builtin "object.__ne__"))) (ho : PySem.W.mroIn X.K C (.type "object") = some true)
    (hr : Room (n + 1) X.A) : OpR X (compareOp .NotEq) (rNeB C R) := by
  intro pins s σ H x y v u Q I rx ry hq
  obtain ⟨r, ⟨a, b, dx, dy, fs, gs, rfl, rfl, ha, hb', hR⟩, q⟩ := hq
  cases rx
  cases ry
  obtain ⟨ox, od, J⟩ := ins_at I ha
  obtain ⟨oy, od', J'⟩ := ins_at I hb'
  obtain ⟨m, hF⟩ := I.fr
  show wpAny (model X.prog X.w) X.A (richCompare .NotEq (.ref a) (.ref b)) (EP X pins σ Q) X.xe s
  have sb : L2.Sub X (n + 1) X.A := ⟨hr, rfl⟩
  refine cmpNe_K (by have := hr.units; omega) hF I.ok.mod.kin J J'.type hn ho hs hf (wpAny_mono (run_eqB F hb sb.in1 I hR) (fun v s' z => ?_) fun _ _ x => x)
  obtain ⟨rfl, H', I', e⟩ := z
  exact ⟨r, rfl, .bl _, H', I', rfl, q H' e⟩
end
end Fb

set_option maxHeartbeats 3200000
/-! Rules of our own: len(set(texts)), the texts all different. -/
namespace Fb
open PySem PySem.Spec PyProof.Rows L2 Evl
section
variable {prog : Program} {w : World} {A : Around} {R : Result → Shared → Prop} {I : Addr} {fp wr : List Addr} {G : Array GenState → Array GenState → Prop} {n : Nat} {P : Nat → Value → Prop} {St : Nat → Shared → Prop}
theorem take_any {xs : List Str} (nd : xs.Nodup) {i : Nat} (hi : i < xs.length) : ((xs.take i).any (· == xs.getD i Str.empty)) = false := by
  have e1 : xs.getD i Str.empty = xs[i] := by
    rw [List.getD_eq_getElem?_getD, List.getElem?_eq_getElem hi]; rfl
  rw [e1]
  cases hb : (xs.take i).any (· == xs[i]) with
  | false => rfl
  | true =>
    obtain ⟨y, hy, ey⟩ := List.any_eq_true.mp hb
    have ey2 : y = xs[i] := eq_of_beq ey
    rw [ey2] at hy
    obtain ⟨j, hj⟩ := List.mem_iff_getElem?.mp hy
    rw [List.getElem?_take] at hj
    by_cases hji : j < i
    · rw [if_pos hji] at hj
      obtain ⟨hjl, ej⟩ := List.getElem?_eq_some_iff.mp hj
      exact absurd ej (List.pairwise_iff_getElem.mp nd j i hjl hi hji)
    · rw [if_neg hji] at hj
      cases hj
theorem loopStrN (W : WalksS prog w A.in1 I fp wr G n P St) (S : Addr) (hSf : S ∉ fp) (xs : List Str) (hsz : xs.length = n) (nd : xs.Nodup) (hn1 : n < 1000)
    (hval : ∀ i v, P i v → ∃ t, v = .str (xs.getD i Str.empty) t) :
    ∀ (k i : Nat) (s : Shared), n - i = k → i ≤ n → St i s →
      s.heap.SetOf (PySem.strKind prog w) S (fun k' => (xs.take i).any (· == k')) i →
      (∀ s', Moved (S :: wr) G s s' → s'.heap.SetOf (PySem.strKind prog w) S (fun k' => (xs.take n).any (· == k')) n → R (.ok (.ret .none)) s') →
      codeAny (model prog w) A (.builtin "set.update.loop" ⟨[.ref S, .ref I], []⟩) R s := by
  have hSw : S ∉ wr := fun h => hSf (W.sub _ h)
  have hsub : ∀ b ∈ wr, b ∈ S :: wr := fun b hb => List.mem_cons_of_mem _ hb
  intro k
  induction k with
  | zero =>
    intro i s hk hi hst hS hR
    have hin : i = n := by omega
    subst hin
    refine codeAny_builtin PyProof.Rows.F.entry_set_update_loop ?_
    rw [Around.under_plainId PyProof.Rows.F.plain_set_update_loop _]
    show wpAny _ A.in1 (pyNext (.ref I) >>= _) _ _ s
    refine wpAny_bind (W.done s _ _ hst fun s' hm => ?_)
    show wpAny _ A.in1 (ret Value.none) _ _ s'
    exact wpAny_pure (hR s' (hm.mono hsub) (by
      obtain ⟨o, es, ep, t, ho, rest⟩ := hS
      exact ⟨o, es, ep, t, hm.heap S _ hSw ho, rest⟩))
  | succ k ih =>
    intro i s hk hi hst hS hR
    have hlt : i < n := by omega
    refine codeAny_builtin PyProof.Rows.F.entry_set_update_loop ?_
    rw [Around.under_plainId PyProof.Rows.F.plain_set_update_loop _]
    show wpAny _ A.in1 (pyNext (.ref I) >>= _) _ _ s
    refine wpAny_bind (W.item i s _ _ hlt hst fun v s' hP hst' hm => ?_)
    obtain ⟨t, rfl⟩ := hval i v hP
    have hS' : s'.heap.SetOf (PySem.strKind prog w) S (fun k' => (xs.take i).any (· == k')) i := by
      obtain ⟨o, es, ep, tb, ho, rest⟩ := hS
      exact ⟨o, es, ep, tb, hm.heap S _ hSw ho, rest⟩
    show wpAny _ A.in1 (holding [Value.str (xs.getD i Str.empty) t] (setAdd S (.str (xs.getD i Str.empty) t)) >>= _) _ _ s'
    refine wpAny_bind (wpAny_holding ?_)
    unfold setAdd
    refine wpAny_holding ?_
    refine wpAny_bind ((PySem.strKind prog w).pyHash (k := xs.getD i Str.empty) (strKind_is _ _ _ _) ?_)
    refine wpAny_setAddHashed_of (knd := PySem.strKind prog w) (s := { s' with toks := s'.toks + 1 }) (strKind_is _ _ _ _) rfl hS' (by unfold scanBound; omega) fun h' hsb hS2 => ?_
    have hSi : h'.SetOf (PySem.strKind prog w) S (fun k' => (xs.take (i + 1)).any (· == k')) (i + 1) := by
      have hil : i < xs.length := by omega
      have e2 : xs.take (i + 1) = xs.take i ++ [xs.getD i Str.empty] := by
        rw [List.take_add_one, List.getElem?_eq_getElem hil, List.getD_eq_getElem?_getD, List.getElem?_eq_getElem hil]; rfl
      have no := take_any nd hil
      refine SetOf_congr hS2 (fun k' => ?_) (by simp only [no]; rfl)
      show ((xs.take i).any (· == k') || decide (k' = xs.getD i Str.empty)) = (xs.take (i + 1)).any (· == k')
      rw [e2, List.any_append]
      by_cases e : k' = xs.getD i Str.empty
      · subst e; simp
      · have hb : (xs.getD i Str.empty == k') = false := by simpa [beq_iff_eq] using (fun h' : xs.getD i Str.empty = k' => e h'.symm)
        have hc2 : [xs.getD i Str.empty].any (· == k') = false := by
          show ((xs.getD i Str.empty == k') || false) = false
          rw [hb]; rfl
        rw [decide_eq_false e, hc2]
    refine wpAny_pure ⟨plainId_quiet PyProof.Rows.F.plain_set_update_loop _, ih (i + 1) _ (by omega) hlt (W.frame _ s' _ _ hst' (Nat.le_succ _) fun b hb o e => ?_) hSi fun s'' hm'' hS'' => ?_⟩
    · rw [hsb.2 b (fun h : b = S => hSf (by rw [← h]; exact hb))]; exact e
    · refine hR s'' (Moved.trans W.gtrans ((hm.mono hsub).then_heap (Nat.le_succ _) fun b o hb e => ?_) hm'') hS''
      rw [hsb.2 b (fun h : b = S => hb (by rw [h]; exact List.mem_cons_self))]; exact e
end
section
variable {prog : Program} {w : World} {A : Around} {E : Value → Shared → Prop} {s : Shared}
theorem set_listN {l : Addr} {items : Array Value} {xs : List Str} {Q : Value → Shared → Prop}
    (hh : A.handled = none) (hl : s.heap.IsList l items) (hi : PyProof.Rows.StrsAre items.toList xs) (nd : xs.Nodup) (hn1 : xs.length < 1000)
    (h : ∀ (h' : Heap) (tk : Nat), h'.SetOf (PySem.strKind prog w) s.heap.objs.size (fun k' => (xs.take items.size).any (· == k')) items.size →
      (∀ b o, b < s.heap.objs.size → s.heap.get? b = some o → h'.get? b = some o) → Q (.ref s.heap.objs.size) { s with heap := h', toks := tk }) :
    wpAny (model prog w) A (call (.type "set") [.ref l]) Q E s := by
  obtain ⟨c, tl, hmro⟩ := PySem.F.called_set.mro
  have hmade := PySem.F.called_set.made
  have hsub := PySem.F.called_set.sub
  refine wpAny_call (codeAny_of_tree ?_)
  show wpAny _ _ (callAny (.type "set") _) _ _ _
  refine wpAny_pure ⟨Code.quiet_builtin _ (by decide +kernel), codeAny_builtin PySem.F.entry_type_call ?_⟩
  rw [Around.under_plain (weight_type_call_type "set" [.ref l] []) rfl]
  have h1 := PySem.F.called_set.notType
  have h2 := PySem.F.called_set.canCreate
  have hct := PySem.F.typeCall_set_1 (.ref l)
  repeat (any_goals (first | assumption | wp_step))
  refine codeAny_mono (code_set_new_1 (.ref l) (E := E) (Q₁ := fun obj s₁ => ∃ led : Bool, obj = .ref s.heap.objs.size ∧ s₁ = { s with heap := s.heap.push { cls := .type "set", dict := none, data := .set #[] 0 (.fresh 0 0 led) } }) fun led => ⟨led, rfl, rfl⟩) fun r s₁ hr => ?_
  cases r with
  | error e => exact hr
  | ok fl =>
    cases fl with
    | ret obj =>
      obtain ⟨led, rfl, rfl⟩ := hr
      have hS : (s.heap.push { cls := .type "set", dict := none, data := .set #[] 0 (.fresh 0 0 led) }).get? s.heap.objs.size = some { cls := .type "set", dict := none, data := .set #[] 0 (.fresh 0 0 led) } := Heap.get?_push_size _ rfl
      have hT : Shared.TypeIs { s with heap := s.heap.push { cls := .type "set", dict := none, data := .set #[] 0 (.fresh 0 0 led) } } (.ref s.heap.objs.size) "set" := ⟨_, hS, rfl⟩
      have hli := PySem.F.called_set.init.lookup
      have hbi := PySem.F.called_set.init.bind (.ref s.heap.objs.size)
      repeat (any_goals (first | assumption | wp_step))
      refine codeAny_mono (codeAny_call_builtin (R := wants (fun r s₂ => r = .none ∧ ∃ h' tk, s₂ = { s with heap := h', toks := tk } ∧
          h'.SetOf (PySem.strKind prog w) s.heap.objs.size (fun k' => (xs.take items.size).any (· == k')) items.size ∧
          (∀ b o, b < s.heap.objs.size → s.heap.get? b = some o → h'.get? b = some o)) E) PySem.F.called_set.init.plain PySem.F.entry_set_init (check_set_init_1 hT ?_)) fun r₂ s₂ hr₂ => ?_
      · obtain ⟨ol, hol, hcl, nl, hdl⟩ := hl
        obtain ⟨ocls, odict, odata, oslots⟩ := ol
        simp only at hcl hdl
        subst hcl; subst hdl
        have hol' : (s.heap.push { cls := .type "set", dict := none, data := .set #[] 0 (.fresh 0 0 led) }).get? l = some { cls := .type "list", dict := odict, data := .seq items nl, slots := oslots } := Heap.get?_push_of_some _ hol
        have hsls := PySem.F.sub_list_set
        have hslf := PySem.F.sub_list_frozenset
        have hne : (Value.type "list" == Value.type "dict") = false := by decide
        have hl1 : (s.heap.push { cls := .type "set", dict := none, data := .set #[] 0 (.fresh 0 0 led) }).IsList l items := ⟨_, hol', rfl, nl, rfl⟩
        unfold Builtin.«set.__init__» noKeywords Builtin.Frozenset.updateFrom
        generalize hPI : pyIter = PI
        wp_walk
        subst hPI
        refine wpAny_pyIter_list hl1 ?_
        refine wpAny_bind (wpAny_runValue ?_)
        have hlS : l < s.heap.objs.size := Heap.lt_size hol
        have hh3 : A.in1.in1.in1.handled = none := by simp [hh]
        have hneI : l ≠ (s.heap.push { cls := .type "set", dict := none, data := .set #[] 0 (.fresh 0 0 led) }).objs.size := by
          rw [Heap.size_push]; exact Nat.ne_of_lt (Nat.lt_succ_of_lt hlS)
        have hSf : s.heap.objs.size ∉ [(s.heap.push { cls := .type "set", dict := none, data := .set #[] 0 (.fresh 0 0 led) }).objs.size, l] := by
          rw [Heap.size_push]; simp only [List.mem_cons, List.mem_singleton, List.not_mem_nil, or_false, not_or]
          exact ⟨Nat.ne_of_lt (Nat.lt_succ_self _), Nat.ne_of_gt hlS⟩
        have hsz : xs.length = items.size := by rw [← StrsAre.len_eq hi, Array.length_toList]
        have hval : ∀ (i : Nat) (v : Value), items[i]? = some v → ∃ t, v = .str (xs.getD i Str.empty) t := fun i v hv => SS.strs_at hi i v (by rw [Array.getElem?_toList]; exact hv)
        refine loopStrN ((Walks.list hh3 _ l hneI items).toS) s.heap.objs.size
          hSf xs hsz nd (by rw [← hsz]; exact hn1) hval (items.size - 0) 0 _ (by omega) (Nat.zero_le _)
          ⟨⟨_, Heap.get?_push_size _ rfl, rfl, rfl⟩, (hl1.push _)⟩ ?hS0 ?hR
        case hS0 =>
          have hget : ((s.heap.push { cls := .type "set", dict := none, data := .set #[] 0 (.fresh 0 0 led) }).push { cls := .type "list_iterator", data := .fields #[.ref l, .int 0 0] }).get? s.heap.objs.size
              = some { cls := .type "set", dict := none, data := .set #[] 0 (.fresh 0 0 led) } := Heap.get?_push_of_some _ hS
          exact PyProof.Rows.SetOf_congr ((PyProof.Rows.setObjOf_fresh (knd := PySem.strKind prog w) led).setOf hget (by unfold scanBound; omega)) (fun _ => rfl) rfl
        case hR =>
          intro s' hm hS'
          obtain ⟨h', g', d', tk', os'⟩ := s'
          have eg : g' = s.gens := hm.gens
          have ed : d' = s.drawn := hm.drawn
          have eo : os' = s.os := hm.os
          subst eg; subst ed; subst eo
          show wpAny _ _ _ _ _ _
          refine wpAny_pure ?_
          show wpAny _ _ (ret Value.none) _ _ _
          refine wpAny_pure ⟨rfl, h', tk', rfl, hS', fun b o hb e => ?_⟩
          have hb1 : b ≠ s.heap.objs.size := Nat.ne_of_lt hb
          have hb2 : b ≠ (s.heap.push { cls := .type "set", dict := none, data := .set #[] 0 (.fresh 0 0 led) }).objs.size := by
            rw [Heap.size_push]; exact Nat.ne_of_lt (Nat.lt_succ_of_lt hb)
          exact hm.heap b o (by simp only [List.mem_cons, List.mem_singleton, List.not_mem_nil, or_false, not_or]; exact ⟨hb1, hb2⟩) (Heap.get?_push_of_some _ (Heap.get?_push_of_some _ e))
      · cases r₂ with
        | error e => exact hr₂
        | ok fl₂ =>
          cases fl₂ with
          | ret r =>
            obtain ⟨rfl, h', tk, rfl, hS', hk'⟩ := hr₂
            repeat (any_goals (first | assumption | wp_step))
            exact h _ _ hS' hk'
          | _ => exact hr₂.elim
    | _ => exact hr.elim
end
section
variable {X : Cx}
def tLenSetN (K : PySem.W.Frag) (ta : TE) : TE := fun σ H Q => ta σ H fun x H1 => ∃ l, ∃ xs : List Str, x = .ref l ∧ SqL K H1 l (xs.map V.str) ∧ xs.Nodup ∧ xs.length < 1000 ∧ Q (.int xs.length) H1
theorem pe_lenSetN {a : Expr} {ta : TE} {p p2 q pos : Pos} (hc : X.calm = true) (hg : Gl X "len") (hm : X.mg "len" = none) (hg2 : Gl X "set") (hm2 : X.mg "set" = none) (ha : PE X a ta)
    (na : starEach [a] X.env = (false, eval a X.env) :: starEach [] X.env := by rfl) : PE X (.Call (.Name "len" p) [.Call (.Name "set" p2) [a] [] q] [] pos) (tLenSetN X.K ta) := by
  refine ⟨fun pins s σ H Q I h => ?_⟩
  refine Call_ (ld_blt I hg hm boot_len ?_)
  refine PyProof.Rows.callWith_builtin1 (PyProof.Rows.args_cons ?_ rfl) rfl rfl
  refine Call_ (ld_blt I hg2 hm2 boot_set ?_)
  refine PyProof.Rows.callWith_type1 (PyProof.Rows.args_cons (thn (ha.run pins s σ H _ I h) fun v s1 ⟨x, H1, I1, r1, q1⟩ => PyProof.Rows.args_nil ?_) na) na rfl
  obtain ⟨l, xs, rfl, hq, nd, h1, q1⟩ := q1
  cases r1
  obtain ⟨its, r, pl, hz⟩ := I1.list hq
  refine set_listN (I1.ok.hd hc) pl.isList (by simpa using strsAre_of r) nd h1 fun h' tk hS hk => ?_
  refine PyProof.Rows.args_nil ?_
  have hl : its.toArray.size = xs.length := by rw [List.size_toArray, ← r.length, List.length_map]
  rw [hl] at hS
  obtain ⟨o, es, ep, t, ho, hex, hd, _, _, _, hf, hn⟩ := hS
  have I2 : L2.Inv X pins σ H1 { s1 with heap := h', toks := tk } := I1.kept fun b o e => hk b o (Heap.lt_size e) e
  exact call_len_set ho hex hd hf (by rw [hn] <;> omega) ⟨.int xs.length, H1, I2.tok _, ⟨_, by rw [hn]⟩, q1⟩
end
end Fb

set_option maxHeartbeats 400000
/-! The rules of our own in the walk's logic: zips, repetition, sets, dicts. -/
namespace Fb
open PySem PySem.Spec L2 Evl
section
variable {K : PySem.W.Frag} {Γ Γ' : Gm} {L L1 L2' L3 L' : List Wd} {R Ra Rb Rc Y : Rp} {Rs Ss Ts Ys : List Rp} {te ta tb tc tl : TE} {tr : TA} {D0 : Hp} {i : Nat} {r r' : R2} {E : Ends}
/-! ### zip -/
def rK (k : Bool) (Rs : List Rp) : Rp := match k with | true => rLst Rs | false => rTup Rs
theorem rK_at {k : Bool} {D : Hp} {v : V} (h : (rK k Rs).r D v) : ∃ a vs, v = .ref a ∧ D a = some (hoK k vs) ∧ AllR D vs Rs := by
  cases k <;> exact h
theorem ig_zip2 {k1 k2 : Bool} (h : Ag tr Γ L [rK k1 Rs, rK k2 Ss] L') (hl : Rs.length = Ss.length) : Ig (iZip2 k1 k2 tr) Γ L Rs.length (fun i R => ∃ R1 R2, Rs[i]? = some R1 ∧ Ss[i]? = some R2 ∧ R = rTup [R1, R2]) L' gT := fun σ D H g hd R k => h σ D H g hd _ fun xs D1 H1 e1 h1 r1 => by
  cases r1 with
  | cons pa t =>
    cases t with
    | cons pb t =>
      cases t
      obtain ⟨a, vs, rfl, ha, al⟩ := rK_at pa
      obtain ⟨b, ws, rfl, hb, bl⟩ := rK_at pb
      refine ⟨a, b, vs, ws, rfl, h1.ex _ _ ha, h1.ex _ _ hb, k _ D1 H1 e1 h1 ⟨fun i D' H' Lx hi e _ hd' => ?_, fun D' H' Lx e _ hd' => ?_, fun i D' H' x H'' Lx hi e _ hd' y => ?_⟩⟩
      · have h2 : i < vs.length := by rw [al.len]; exact hi
        have h3 : i < ws.length := by rw [bl.len, ← hl]; exact hi
        exact ⟨vs, ws, vs[i], ws[i], hd'.ex _ _ (e _ _ ha), hd'.ex _ _ (e _ _ hb), by simp, by simp⟩
      · exact ⟨vs, ws, hd'.ex _ _ (e _ _ ha), hd'.ex _ _ (e _ _ hb), al.len, by rw [bl.len, hl]⟩
      · obtain ⟨T, x, z, rfl, hT, rfl, hx, hz⟩ := y
        obtain ⟨R1, q1, r1⟩ := al.nth (hx vs (hd'.ex _ _ (e _ _ ha)))
        obtain ⟨R2, q2, r2⟩ := bl.nth (hz ws (hd'.ex _ _ (e _ _ hb)))
        have e2 := hd'.exnew (o := .tup [x, z]) hT
        exact ⟨_, _, e2, hd'.alloc hT, ⟨R1, R2, q1, q2, rfl⟩, T, _, rfl, upd_same, .cons (R1.m (e.trans e2) r1) (.cons (R2.m (e.trans e2) r2) .nil)⟩
theorem ig_zip3 (h : Ag tr Γ L [rLst Rs, rTup Ss, rTup Ts] L') (hl : Rs.length = Ss.length) (hm : Rs.length = Ts.length) : Ig (iZip3 tr) Γ L Rs.length (fun i R => ∃ R1 R2 R3, Rs[i]? = some R1 ∧ Ss[i]? = some R2 ∧ Ts[i]? = some R3 ∧ R = rTup [R1, R2, R3]) L' gT := fun σ D H g hd R k => h σ D H g hd _ fun xs D1 H1 e1 h1 r1 => by
  cases r1 with
  | cons pa t =>
    cases t with
    | cons pb t =>
      cases t with
      | cons pc t =>
        cases t
        obtain ⟨a, vs, rfl, ha, al⟩ := pa
        obtain ⟨b, ws, rfl, hb, bl⟩ := pb
        obtain ⟨c, us, rfl, hc, cl⟩ := pc
        refine ⟨a, b, c, vs, ws, us, rfl, h1.ex _ _ ha, h1.ex _ _ hb, h1.ex _ _ hc, k _ D1 H1 e1 h1 ⟨fun i D' H' Lx hi e _ hd' => ?_, fun D' H' Lx e _ hd' => ?_, fun i D' H' x H'' Lx hi e _ hd' y => ?_⟩⟩
        · have h2 : i < vs.length := by rw [al.len]; exact hi
          have h3 : i < ws.length := by rw [bl.len, ← hl]; exact hi
          have h4 : i < us.length := by rw [cl.len, ← hm]; exact hi
          exact ⟨vs, ws, us, vs[i], ws[i], us[i], hd'.ex _ _ (e _ _ ha), hd'.ex _ _ (e _ _ hb), hd'.ex _ _ (e _ _ hc), by simp, by simp, by simp⟩
        · exact ⟨vs, ws, us, hd'.ex _ _ (e _ _ ha), hd'.ex _ _ (e _ _ hb), hd'.ex _ _ (e _ _ hc), al.len, by rw [bl.len, hl], by rw [cl.len, hm]⟩
        · obtain ⟨T, x, z, u, rfl, hT, rfl, hx, hz, hu⟩ := y
          obtain ⟨R1, q1, r1⟩ := al.nth (hx vs (hd'.ex _ _ (e _ _ ha)))
          obtain ⟨R2, q2, r2⟩ := bl.nth (hz ws (hd'.ex _ _ (e _ _ hb)))
          obtain ⟨R3, q3, r3⟩ := cl.nth (hu us (hd'.ex _ _ (e _ _ hc)))
          have e2 := hd'.exnew (o := .tup [x, z, u]) hT
          exact ⟨_, _, e2, hd'.alloc hT, ⟨R1, R2, R3, q1, q2, q3, rfl⟩, T, _, rfl, upd_same, .cons (R1.m (e.trans e2) r1) (.cons (R2.m (e.trans e2) r2) (.cons (R3.m (e.trans e2) r3) .nil))⟩
/-! ### repetition -/
theorem og_repT {ds : List PyData} {k : Int} (h0 : ds ≠ []) (h1 : 1 ≤ k) (h2 : k ≤ 1000) (h3 : ds.length ≤ 1000) : Og (rRepA K) (rD (.tuple ds)) (rD (.int k)) L (rD (.tuple (List.replicate k.toNat ds).flatten)) L := fun x y D H hd rx ry Q q => by
  obtain ⟨a, vs, rfl, hs, al⟩ := tup_rD rx
  refine ⟨a, k, vs, rfl, int_of ry, SqT.of (hd.ex _ _ hs), fun e => ?_, h1, h2, by rw [al.len, List.length_map]; exact h3, fun e => ?_, fun _ p hp => ?_⟩
  · subst e
    cases ds with
    | nil => exact h0 rfl
    | cons d ds => cases al
  · subst e
    exact q _ D H (Ex.refl D) hd (rD_tup ⟨a, vs, rfl, hs, by simpa using al⟩)
  · refine q _ _ _ (hd.exnew hp) (hd.alloc hp) (rD_tup ⟨p, _, rfl, upd_same, ?_⟩)
    have : ∀ n : Nat, AllR D (List.replicate n vs).flatten ((List.replicate n ds).flatten.map rD) := fun n => by
      induction n with
      | zero => exact .nil
      | succ n ih =>
        rw [List.replicate_succ, List.replicate_succ, List.flatten_cons, List.flatten_cons, List.map_append]
        exact al.app ih
    exact (this _).up (hd.exnew hp)
/-- [x] * n, a new list that may change -/
theorem go_newRep {k : Int} (h : Ag tr Γ L [R] L1) (hk : Eg tb Γ L1 (rD (.int k)) L') (h1 : 0 ≤ k) (h2 : k ≤ 100000) (kk : ∀ p, Go D0 (Γ.set i (some (rV (.ref p)))) (mL p (List.replicate k.toNat R) :: L') E.nx) : Go D0 Γ L (tAsg (tOp rRep (tLst tr) tb) (gName i) E) := fun σ D H e g hd =>
  h σ D H g hd _ fun vs D1 H1 e1 d1 r1 => ⟨sz_of (by rw [r1.len]; simp), fun l hl => by
    have d1' := d1.alloc (o := .lst vs) hl
    have x1 := d1.exnew (o := .lst vs) hl
    refine hk σ _ _ ((g.up e1).up x1) d1' _ fun y D2 H2 e2 d2 r2 => ?_
    have hl2 : H2 l = some (.lst vs) := d2.ex _ _ (e2 _ _ upd_same)
    cases r1 with
    | cons a t =>
      cases t
      rename_i v
      refine ⟨l, k, [v], rfl, int_of r2, hl2, by omega, by omega, by show 1 * k.toNat ≤ sizeLine; rw [Nat.one_mul]; exact sz_of (by omega), fun p hp => ?_⟩
      refine kk p _ D2 _ (((e.trans e1).trans x1).trans e2) ((((g.up e1).up x1).up e2).set rfl) (d2.new (Ex.new hp) (fun a ha => by rw [List.mem_singleton.mp ha]; exact hp) ⟨d2.dnone hp, _, upd_same, ?_⟩)
      have : ∀ n : Nat, AllR D2 (List.replicate n [v]).flatten (List.replicate n R) := fun n => by
        induction n with
        | zero => exact .nil
        | succ n ih => exact .cons (R.m (x1.trans e2) a) ih
      exact this _⟩
/-- list(range(n)), a new list that may change -/
theorem go_newRg {n : Int} (h : Eg te Γ L (rD (.int n)) L') (h1 : 0 ≤ n) (h2 : n ≤ 100000) (kk : ∀ p, Go D0 (Γ.set i (some (rV (.ref p)))) (mL p ((List.range n.toNat).map fun (j : Nat) => rD (.int (j : Int))) :: L') E.nx) : Go D0 Γ L (tAsg (tLstRg (tRg1 te)) (gName i) E) := fun σ D H e g hd =>
  h σ D H g hd _ fun y D1 H1 e1 d1 r1 => ⟨n, int_of r1, RgOk.of_le (by omega) (by omega) (by omega) h1, fun p hp => kk p _ D1 _ (e.trans e1) ((g.up e1).set rfl) (d1.new (Ex.new hp) (fun a ha => by rw [List.mem_singleton.mp ha]; exact hp) ⟨d1.dnone hp, _, upd_same, by
    have : ∀ m : Nat, AllR D1 ((List.range m).map fun i => V.int (0 + (i : Nat))) ((List.range m).map fun (j : Nat) => rD (.int (j : Int))) := fun m => by
      have go : ∀ l : List Nat, AllR D1 (l.map fun i => V.int (0 + (i : Nat))) (l.map fun (j : Nat) => rD (.int (j : Int))) := fun l => by
        induction l with
        | nil => exact .nil
        | cons a l ih => exact .cons (by show Dq D1 (V.int (0 + (a : Nat))) (.int (a : Int)); rw [Int.zero_add]; exact .int _) ih
      exact go _
    unfold rgV
    rw [Int.sub_zero]
    exact this _⟩)⟩
/-- xs[::-1] -/
theorem eg_revL {ds : List PyData} (h : Eg te Γ L (rD (.list ds)) L') : Eg (tRevL K te) Γ L (rD (.list ds.reverse)) L' := fun σ D H g hd Q q =>
  h σ D H g hd _ fun x D1 H1 e1 d1 r1 => by
    obtain ⟨a, vs, rfl, hs, al⟩ := lst_rD r1
    refine ⟨a, vs, rfl, SqL.of (d1.ex _ _ hs), fun p hp => q _ _ _ (e1.trans (d1.exnew hp)) (d1.alloc hp) (rD_lst ⟨p, _, rfl, upd_same, ?_⟩)⟩
    have : ∀ {vs : List V} {Rs : List Rp}, AllR D1 vs Rs → AllR D1 vs.reverse Rs.reverse := by
      intro vs Rs h
      induction h with
      | nil => exact .nil
      | cons a _ ih => rw [List.reverse_cons, List.reverse_cons]; exact ih.app (.cons a .nil)
    rw [List.map_reverse]
    exact (this al).up (d1.exnew hp)
/-! ### sets -/
theorem strs_vals {D : Hp} {zs : List Str} {vs : List V} (al : AllR D vs ((zs.map PyData.str).map rD)) : vs = zs.map V.str := Dp.strs (bs := zs) (by rw [List.map_map] at al; exact al)
theorem eg_lenSetN {zs : List Str} (h : Eg te Γ L (rD (.list (zs.map .str))) L') (nd : zs.Nodup) (hz : zs.length < 1000) : Eg (tLenSetN K te) Γ L (rD (.int (zs.length : Nat))) L' := fun σ D H g hd Q q =>
  h σ D H g hd _ fun x D1 H1 e1 d1 r1 => by
    obtain ⟨a, vs, rfl, hs, al⟩ := lst_rD r1
    exact ⟨a, zs, rfl, by rw [← strs_vals al]; exact SqL.of (d1.ex _ _ hs), nd, hz, q _ D1 H1 e1 d1 (.int _)⟩
theorem cg_sortedS {zs : List Str} (hz : zs.length < 64) : Cg (rSortedS K) [rD (.list (zs.map .str))] L (rX (fun ys : List Str => ys.Perm zs ∧ PyProof.Rows.sortedS ys = true) fun ys => rD (.list (ys.map .str))) L := fun xs D H hd r Q q => by
  cases r with
  | cons pa t =>
    cases t
    obtain ⟨a, vs, rfl, hs, al⟩ := lst_rD pa
    refine ⟨a, zs, rfl, by rw [← strs_vals al]; exact SqL.of (hd.ex _ _ hs), hz, fun ys p hp so hn => q _ _ _ (hd.exnew hn) (hd.alloc hn) ⟨ys, ⟨hp, so⟩, rD_lst ⟨p, _, rfl, upd_same, ?_⟩⟩⟩
    have : ∀ (D : Hp) (l : List Str), AllR D (l.map V.str) ((l.map PyData.str).map rD) := fun D l => by
      induction l with
      | nil => exact .nil
      | cons a l ih => exact .cons (.str a) ih
    exact this _ _
abbrev tupI (ns : List Int) : PyData := .tuple (ns.map .int)
abbrev rowsD (rs : List (List Int)) : PyData := .list (rs.map tupI)
theorem tups_at {D : Hp} : ∀ {rs : List (List Int)} {vs : List V}, AllR D vs ((rs.map tupI).map rD) → ∃ ks : List (Addr × List Int), vs = ks.map (fun p => V.ref p.1) ∧ ks.map (·.2) = rs ∧ ∀ p ∈ ks, D p.1 = some (.tup (p.2.map V.int))
  | [], _, h => by cases h; exact ⟨[], rfl, rfl, fun _ h => nomatch h⟩
  | r :: rs, _, h => by
    cases h with
    | cons a t =>
      obtain ⟨ks, h1, h2, h3⟩ := tups_at t
      obtain ⟨b, us, rfl, hb, bl⟩ := tup_rD a
      have e : us = r.map V.int := Dp.ints (bs := r) (by rw [List.map_map] at bl; exact bl)
      subst e
      refine ⟨(b, r) :: ks, by rw [h1]; rfl, by rw [List.map_cons, h2], fun p hp => ?_⟩
      rcases List.mem_cons.mp hp with rfl | hp
      · exact hb
      · exact h3 p hp
theorem ints_allR {D : Hp} : ∀ (l : List Int), AllR D (l.map V.int) ((l.map PyData.int).map rD)
  | [] => .nil
  | a :: l => .cons (.int a) (ints_allR l)
/-- sorted(set(xs)), xs a list of tuples of ints -/
theorem eg_sortSet {P : Program} {w : World} {X : Cx} {rs ts : List (List Int)} (hP : X.prog = P) (hw : X.w = w) (h : Eg te Γ L (rD (rowsD rs)) L') (hz : rs.length < 64) (hne : ∀ r ∈ rs, r ≠ [])
    (hu : ∀ us : List (List Int), us.Nodup → us.Pairwise (· ≤ ·) → (∀ x, x ∈ us ↔ x ∈ rs) → us = ts) :
    Eg (tCB (rSortedD X) (tCons (tCB (rSetOfT K P w) (tCons te tNil)) tNil)) Γ L (rD (rowsD ts)) L' := fun σ D H g hd Q q =>
  h σ D H g hd _ fun x D1 H1 e1 d1 r1 => by
    subst hP hw
    obtain ⟨a, vs, rfl, hs, al⟩ := lst_rD r1
    obtain ⟨ks, rfl, hk2, hk3⟩ := tups_at al
    refine ⟨a, ks, rfl, SqL.of (d1.ex _ _ hs), fun p hp => SqT.of (d1.ex _ _ (hk3 p hp)), by rw [← hk2, List.length_map] at hz; exact hz, fun b M hb hM hM2 => ?_⟩
    have d2 := d1.alloc (o := SetTO X.prog X.w b M) hb
    have x2 := d1.exnew (o := SetTO X.prog X.w b M) hb
    refine ⟨b, M, rfl, upd_same, fun p hp => ⟨?_, ?_⟩, fun M' p pm nd few pw hp => ?_⟩
    · rw [upd_ne (ne_of_none (d1.ex _ _ (hk3 p (hM p hp))) hb)]; exact d1.ex _ _ (hk3 p (hM p hp))
    · exact hne _ (by rw [← hk2]; exact List.mem_map.mpr ⟨p, hM p hp, rfl⟩)
    · have e3 := d2.exnew (o := .lst (M'.map fun q => V.ref q.1)) hp
      have et : M'.map (·.2) = ts := hu _ nd (List.pairwise_map.mpr pw) fun x => by
        constructor
        · intro hx
          obtain ⟨p, hp, rfl⟩ := List.mem_map.mp hx
          rw [← hk2]
          exact List.mem_map.mpr ⟨p, hM p (pm.mem_iff.mp hp), rfl⟩
        · intro hx
          rw [← hk2] at hx
          obtain ⟨p, hp, rfl⟩ := List.mem_map.mp hx
          obtain ⟨q, hq, e⟩ := List.mem_map.mp (hM2 p hp)
          exact List.mem_map.mpr ⟨q, pm.mem_iff.mpr hq, e⟩
      refine q _ _ _ ((e1.trans x2).trans e3) (d2.alloc hp) (rD_lst ⟨p, _, rfl, upd_same, ?_⟩)
      subst et
      have : ∀ (l : List (Addr × List Int)), (∀ q ∈ l, q ∈ M) → AllR (upd (upd D1 b (SetTO X.prog X.w b M)) p (.lst (M'.map fun q => V.ref q.1))) (l.map fun q => V.ref q.1) (((l.map (·.2)).map tupI).map rD) := fun l => by
        induction l with
        | nil => intro _; exact .nil
        | cons q l ih =>
          intro hl
          refine .cons (rD_tup ⟨q.1, q.2.map V.int, rfl, ?_, ints_allR _⟩) (ih fun x hx => hl x (List.mem_cons_of_mem _ hx))
          exact e3 _ _ (x2 _ _ (hk3 q (hM q (hl q (by simp)))))
      exact this M' fun q hq => pm.mem_iff.mp hq
/-! ### dicts with int and text keys -/
abbrev KRel (D : Hp) : List (Key × V) → List (Key × Rp) → Prop := Paired fun a b => a.1 = b.1 ∧ b.2.r D a.2
theorem KRel.up {D D' : Hp} (e : Ex D D') {ks : List (Key × V)} {kvs : List (Key × Rp)} (h : KRel D ks kvs) : KRel D' ks kvs := Paired.mapP h fun _ b q => ⟨q.1, b.2.m e q.2⟩
def rDK (kvs : List (Key × Rp)) : Rp := ⟨fun D v => ∃ p ks, v = .ref p ∧ D p = some (.dK ks) ∧ KRel D ks kvs, fun e ⟨p, ks, h1, h2, h3⟩ => ⟨p, ks, h1, e _ _ h2, h3.up e⟩⟩
def wDK (p : Addr) (kvs : List (Key × Rp)) : Wd where
  dom := [p]
  s := fun D H => D p = none ∧ ∃ ks, H p = some (.dK ks) ∧ KRel D ks kvs
  al := fun {D H a} h ha => by
    rw [List.mem_singleton] at ha; subst ha
    obtain ⟨h1, vs, h2, _⟩ := h
    exact ⟨⟨_, h2⟩, h1⟩
  st := fun {D H D' H'} h e k => by
    obtain ⟨h1, vs, h2, h3⟩ := h
    obtain ⟨k1, k2⟩ := k p (List.mem_singleton.mpr rfl)
    exact ⟨k2, vs, by rw [k1]; exact h2, h3.up e⟩
def IsDK (L : List Wd) (Ra : Rp) (kvs : List (Key × Rp)) : Prop := ∀ D H v, Hd D H L → Ra.r D v → ∃ p ks, v = .ref p ∧ H p = some (.dK ks) ∧ KRel D ks kvs
theorem isdk_f {kvs : List (Key × Rp)} : IsDK L (rDK kvs) kvs := fun D H v hd ⟨p, ks, h1, h2, h3⟩ => ⟨p, ks, h1, hd.ex _ _ h2, h3⟩
theorem isdk_w {kvs : List (Key × Rp)} {p : Addr} {j : Nat} (hj : L[j]? = some (wDK p kvs)) : IsDK L (rV (.ref p)) kvs := fun D H v hd e => by
  obtain ⟨_, ks, h2, h3⟩ := hd.s _ _ hj
  exact ⟨p, ks, e, h2, h3⟩
def valR (kvs : List (Key × Rp)) (k : Key) : Option Rp := (kvs.find? fun kv => decide (kv.1 = k)).map (·.2)
theorem KRel.val {D : Hp} {ks : List (Key × V)} {kvs : List (Key × Rp)} (h : KRel D ks kvs) (k : Key) : match valV ks k, valR kvs k with | some v, some R => R.r D v | none, none => True | _, _ => False := by
  unfold valV valR
  induction h with
  | nil => trivial
  | @cons a b as bs h t ih =>
    obtain ⟨h1, h2⟩ := h
    by_cases e : a.1 = k
    · have e' : b.1 = k := h1 ▸ e
      simp only [List.find?_cons, decide_eq_true e, decide_eq_true e', Option.map_some]
      exact h2
    · have e' : ¬ b.1 = k := fun z => e (h1.trans z)
      simp only [List.find?_cons, decide_eq_false e, decide_eq_false e']
      exact ih
theorem KRel.some {D : Hp} {ks : List (Key × V)} {kvs : List (Key × Rp)} (h : KRel D ks kvs) {k : Key} (hk : valR kvs k = some R) : ∃ v, valV ks k = some v ∧ R.r D v := by
  have q := h.val k
  rw [hk] at q
  cases e : valV ks k with
  | none => rw [e] at q; exact q.elim
  | some v => rw [e] at q; exact ⟨v, rfl, q⟩
theorem KRel.isSome {D : Hp} {ks : List (Key × V)} {kvs : List (Key × Rp)} (h : KRel D ks kvs) (k : Key) : (valV ks k).isSome = (valR kvs k).isSome := by
  have q := h.val k
  cases e : valV ks k with
  | none => cases e2 : valR kvs k with
    | none => rfl
    | some R => rw [e, e2] at q; exact q.elim
  | some v => cases e2 : valR kvs k with
    | none => rw [e, e2] at q; exact q.elim
    | some R => rfl
theorem KRel.len {D : Hp} {ks : List (Key × V)} {kvs : List (Key × Rp)} (h : KRel D ks kvs) : ks.length = kvs.length := Paired.length h
def keyD : Key → PyData
  | .inl i => .int i
  | .inr s => .str s
theorem kV_of {D : Hp} {v : V} : ∀ {k : Key}, (rD (keyD k)).r D v → v = kV k
  | .inl i, h => int_of h
  | .inr s, h => str_of h
theorem eg_dget {td ty : TE} {kvs : List (Key × Rp)} {k : Key} (ho : Eg td Γ L Ra L1) (hk : Eg ty Γ L1 (rD (keyD k)) L') (hs : IsDK L' Ra kvs) (hv : valR kvs k = some R) : Eg (tDGet td ty) Γ L R L' := fun σ D H g hd Q q =>
  ho σ D H g hd _ fun x D1 H1 e1 d1 r1 => hk σ D1 H1 (g.up e1) d1 _ fun y D2 H2 e2 d2 r2 => by
    obtain ⟨p, ks, rfl, hp, kr⟩ := hs D2 H2 x d2 (Ra.m e2 r1)
    obtain ⟨v, hv', rv⟩ := kr.some hv
    rw [kV_of r2]
    exact ⟨p, v, rfl, by rw [← hv']; exact DGet.k hp, q v D2 H2 (e1.trans e2) d2 rv⟩
theorem eg_din {td ty : TE} {kvs : List (Key × Rp)} {k : Key} (hk : Eg ty Γ L (rD (keyD k)) L1) (ho : Eg td Γ L1 Ra L') (hs : IsDK L' Ra kvs) : Eg (tDIn ty td) Γ L (rD (.bool (valR kvs k).isSome)) L' := fun σ D H g hd Q q =>
  hk σ D H g hd _ fun y D1 H1 e1 d1 r1 => ho σ D1 H1 (g.up e1) d1 _ fun x D2 H2 e2 d2 r2 => by
    obtain ⟨p, ks, rfl, hp, kr⟩ := hs D2 H2 x d2 r2
    rw [kV_of r1]
    exact ⟨p, valV ks k, rfl, DGet.k hp, q _ D2 H2 (e1.trans e2) d2 (by rw [kr.isSome]; exact .bl _)⟩
theorem eg_dnotin {td ty : TE} {kvs : List (Key × Rp)} {k : Key} (hk : Eg ty Γ L (rD (keyD k)) L1) (ho : Eg td Γ L1 Ra L') (hs : IsDK L' Ra kvs) : Eg (tDNotIn ty td) Γ L (rD (.bool (!(valR kvs k).isSome))) L' := fun σ D H g hd Q q =>
  hk σ D H g hd _ fun y D1 H1 e1 d1 r1 => ho σ D1 H1 (g.up e1) d1 _ fun x D2 H2 e2 d2 r2 => by
    obtain ⟨p, ks, rfl, hp, kr⟩ := hs D2 H2 x d2 r2
    rw [kV_of r1]
    exact ⟨p, valV ks k, rfl, DGet.k hp, q _ D2 H2 (e1.trans e2) d2 (by rw [kr.isSome]; exact .bl _)⟩
theorem KRel.snoc {D : Hp} {ks : List (Key × V)} {kvs : List (Key × Rp)} (h : KRel D ks kvs) {k : Key} {v : V} (r : R.r D v) : KRel D (ks ++ [(k, v)]) (kvs ++ [(k, R)]) := by
  induction h with
  | nil => exact .cons ⟨rfl, r⟩ .nil
  | cons a _ ih => exact .cons a ih
/-- d[k] = v, k not there yet -/
theorem go_dput {td ty tv : TE} {kvs : List (Key × Rp)} {k : Key} {p : Addr} {j : Nat} (hv : Eg tv Γ L R L1) (ho : Eg td Γ L1 (rV (.ref p)) L2') (hk : Eg ty Γ L2' (rD (keyD k)) L') (hj : L'[j]? = some (wDK p kvs)) (hn : valR kvs k = none) (hz : kvs.length < 100000)
    (kk : Go D0 Γ (L'.set j (wDK p (kvs ++ [(k, R)]))) E.nx) : Go D0 Γ L (sDPut td ty tv E) := fun σ D H e g hd =>
  hv σ D H g hd _ fun v D1 H1 e1 d1 r1 => ho σ D1 H1 (g.up e1) d1 _ fun x D2 H2 e2 d2 r2 => hk σ D2 H2 ((g.up e1).up e2) d2 _ fun y D3 H3 e3 d3 r3 => by
    obtain ⟨n1, ks, hp, kr⟩ := d3.s _ _ hj
    have hn' : valV ks k = none := by
      have := kr.isSome k
      rw [hn] at this
      cases e : valV ks k with
      | none => rfl
      | some v => rw [e] at this; cases this
    rw [kV_of r3, show x = .ref p from r2]
    refine ⟨p, _, rfl, DPut.k hp (sz_lt (by rw [kr.len]; exact hz)), kk σ D3 _ (((e.trans e1).trans e2).trans e3) (((g.up e1).up e2).up e3) (d3.set hj (fun a ha => upd_ne fun z => ha (List.mem_singleton.mpr z)) (fun a ha => ha) ⟨n1, _, upd_same, ?_⟩)⟩
    rw [putK_new _ hn']
    exact kr.snoc (R.m (e2.trans e3) r1)
/-- {} -/
theorem go_newDK (kk : ∀ p, Go D0 (Γ.set i (some (rV (.ref p)))) (wDK p [] :: L) E.nx) : Go D0 Γ L (tAsg tDNewK (gName i) E) := fun σ D H e g hd => fun p hp =>
  kk p _ D _ e (g.set rfl) (hd.new (Ex.new hp) (fun a ha => by rw [List.mem_singleton.mp ha]; exact hp) ⟨hd.dnone hp, [], upd_same, .nil⟩)
end
end Fb

/-! Objects of the program's own classes in the walk's logic. -/
namespace Fb
open PySem PySem.Spec L2 Evl
abbrev FRel (D : Hp) : List (Str × V) → List (Str × Rp) → Prop := Paired fun a b => a.1 = b.1 ∧ b.2.r D a.2
theorem FRel.up {D D' : Hp} (e : Ex D D') {gs : List (Str × V)} {fs : List (Str × Rp)} (h : FRel D gs fs) : FRel D' gs fs := Paired.mapP h fun _ b q => ⟨q.1, b.2.m e q.2⟩
theorem FRel.get {D : Hp} {gs : List (Str × V)} {fs : List (Str × Rp)} (h : FRel D gs fs) {f : Str} {R : Rp} (e : fs.lookup f = some R) : ∃ v, gs.lookup f = some v ∧ R.r D v := by
  induction h with
  | nil => cases e
  | @cons a b as bs h t ih =>
    obtain ⟨h1, h2⟩ := h
    obtain ⟨a1, a2⟩ := a
    obtain ⟨b1, b2⟩ := b
    have h1' : a1 = b1 := h1
    subst h1'
    by_cases q : f = a1
    · subst q
      rw [List.lookup_cons_self] at e
      cases e
      exact ⟨a2, List.lookup_cons_self, h2⟩
    · have q' : (f == a1) = false := beq_eq_false_iff_ne.mpr q
      simp only [List.lookup, q'] at e ⊢
      exact ih e
theorem FRel.miss {D : Hp} {gs : List (Str × V)} {fs : List (Str × Rp)} (h : FRel D gs fs) {f : Str} (e : fs.lookup f = none) : gs.lookup f = none := by
  induction h with
  | nil => rfl
  | @cons a b as bs h t ih =>
    obtain ⟨h1, h2⟩ := h
    obtain ⟨a1, a2⟩ := a
    obtain ⟨b1, b2⟩ := b
    have h1' : a1 = b1 := h1
    subst h1'
    by_cases q : f = a1
    · subst q
      rw [List.lookup_cons_self] at e
      cases e
    · have q' : (f == a1) = false := beq_eq_false_iff_ne.mpr q
      simp only [List.lookup, q'] at e ⊢
      exact ih e
theorem FRel.len {D : Hp} {gs : List (Str × V)} {fs : List (Str × Rp)} (h : FRel D gs fs) : gs.length = fs.length := Paired.length h
theorem FRel.put {D : Hp} {gs : List (Str × V)} {fs : List (Str × Rp)} (h : FRel D gs fs) {f : Str} {v : V} {R : Rp} (r : R.r D v) (e : fs.lookup f = none) : FRel D (putF f v gs) (fs ++ [(f, R)]) := by
  induction h with
  | nil => exact .cons ⟨rfl, r⟩ .nil
  | @cons a b as bs h t ih =>
    obtain ⟨h1, h2⟩ := h
    obtain ⟨a1, a2⟩ := a
    obtain ⟨b1, b2⟩ := b
    have h1' : a1 = b1 := h1
    subst h1'
    by_cases q : f = a1
    · subst q
      rw [List.lookup_cons_self] at e
      cases e
    · have q' : (f == a1) = false := beq_eq_false_iff_ne.mpr q
      simp only [List.lookup, q'] at e
      have : putF f v ((a1, a2) :: as) = (a1, a2) :: putF f v as := by
        show (if a1 = f then (a1, v) :: as else (a1, a2) :: putF f v as) = _
        rw [if_neg fun z => q z.symm]
      rw [this]
      exact .cons ⟨rfl, h2⟩ (ih e)
/-- an instance of C, its attributes known -/
def rObj (C : Addr) (fs : List (Str × Rp)) : Rp := ⟨fun D v => ∃ x dx gs, v = .ref x ∧ D x = some (.ins C dx gs) ∧ FRel D gs fs, fun e ⟨x, dx, gs, h1, h2, h3⟩ => ⟨x, dx, gs, h1, e _ _ h2, h3.up e⟩⟩
/-- an instance that is being made -/
def wIns (x C dx : Addr) (fs : List (Str × Rp)) : Wd where
  dom := [x]
  s := fun D H => D x = none ∧ ∃ gs, H x = some (.ins C dx gs) ∧ FRel D gs fs
  al := fun {D H a} h ha => by
    rw [List.mem_singleton] at ha; subst ha
    obtain ⟨h1, vs, h2, _⟩ := h
    exact ⟨⟨_, h2⟩, h1⟩
  st := fun {D H D' H'} h e k => by
    obtain ⟨h1, vs, h2, h3⟩ := h
    obtain ⟨k1, k2⟩ := k x (List.mem_singleton.mpr rfl)
    exact ⟨k2, vs, by rw [k1]; exact h2, h3.up e⟩
/-- what a word of one address holds, known from now on -/
theorem Hd.known {D H : Hp} {L : List Wd} {w : Wd} {p : Addr} {o : HO} (h : Hd D H (w :: L)) (hd : w.dom = [p]) (ho : H p = some o) : Ex D (upd D p o) ∧ Hd (upd D p o) H L := by
  have h0 := h.s 0 _ rfl
  have n : D p = none := (w.al h0 (by rw [hd]; simp)).2
  have e : Ex D (upd D p o) := Ex.new n
  refine ⟨e, ⟨fun a u q => ?_, fun i u hi => ?_, h.tail.dj⟩⟩
  · by_cases z : a = p
    · subst z; rw [upd_same] at q; cases q; exact ho
    · rw [upd_ne z] at q; exact h.ex a u q
  · have q := h.tail.s i u hi
    refine u.st q e fun a ha => ⟨rfl, ?_⟩
    have na : a ≠ p := fun z => h.dj 0 (i + 1) _ u (by omega) rfl hi p (by rw [hd]; simp) (z ▸ ha)
    rw [upd_ne na]
    exact (u.al q ha).2
theorem Hd.freezeIns {D H : Hp} {L : List Wd} {x C dx : Addr} {fs : List (Str × Rp)} (h : Hd D H (wIns x C dx fs :: L)) : ∃ D', Ex D D' ∧ Hd D' H L ∧ (rObj C fs).r D' (.ref x) := by
  obtain ⟨h1, gs, h2, h3⟩ := h.s 0 _ rfl
  obtain ⟨e, h'⟩ := h.known rfl h2
  exact ⟨_, e, h', x, dx, gs, rfl, upd_same, h3.up e⟩
theorem Hd.freezeDK {D H : Hp} {L : List Wd} {p : Addr} {kvs : List (Key × Rp)} (h : Hd D H (wDK p kvs :: L)) : ∃ D', Ex D D' ∧ Hd D' H L ∧ (rDK kvs).r D' (.ref p) := by
  obtain ⟨h1, ks, h2, h3⟩ := h.s 0 _ rfl
  obtain ⟨e, h'⟩ := h.known rfl h2
  exact ⟨_, e, h', p, ks, rfl, upd_same, h3.up e⟩
section
variable {K : PySem.W.Frag} {Γ Γ' : Gm} {L L1 L2' L3 L' : List Wd} {R Ra Rb Rc Y : Rp} {Rs Ss Ts Ys : List Rp} {te ta tb tc tl : TE} {tr : TA} {D0 : Hp} {i : Nat} {r r' : R2} {E : Ends} {C x dx : Addr} {f : Str} {fs : List (Str × Rp)}
/-- o.f -/
theorem eg_fldO (c : Cls K C) (n : NoAttr K C f) (ho : Eg ta Γ L (rObj C fs) L') (hf : fs.lookup f = some R) : Eg (tFld K ta f) Γ L R L' :=
  eg_fld c n ho fun D v ⟨x, dx, gs, h1, h2, h3⟩ => by
    obtain ⟨u, hu, ru⟩ := h3.get hf
    exact ⟨x, dx, gs, u, h1, h2, hu, ru⟩
/-- self.f in __init__ -/
theorem eg_fldI {j : Nat} (c : Cls K C) (n : NoAttr K C f) (ho : Eg ta Γ L (rV (.ref x)) L') (hj : L'[j]? = some (wIns x C dx fs)) (hf : fs.lookup f = some R) : Eg (tFld K ta f) Γ L R L' := fun σ D H g hd Q q =>
  ho σ D H g hd _ fun y D1 H1 e1 h1 r1 => by
    obtain ⟨_, gs, h2, h3⟩ := h1.s _ _ hj
    obtain ⟨u, hu, ru⟩ := h3.get hf
    exact ⟨x, C, dx, gs, u, r1, h2, c, n, hu, q u D1 H1 e1 h1 ru⟩
theorem ins_obj {m : Str} (h : fs.lookup m = none) : Ins C (rObj C fs) m := fun D v ⟨x, dx, gs, h1, h2, h3⟩ => ⟨x, dx, gs, h1, h2, h3.miss h⟩
/-- self.f = e, f new -/
theorem go_fldI {j : Nat} (c : Cls K C) (n : NoAttr K C f) (hv : Eg tb Γ L R L1) (ho : Eg ta Γ L1 (rV (.ref x)) L') (hj : L'[j]? = some (wIns x C dx fs)) (hf : fs.lookup f = none) (hz : fs.length < 1000) (k : Go D0 Γ (L'.set j (wIns x C dx (fs ++ [(f, R)]))) E.nx) :
    Go D0 Γ L (sFld K ta tb f E) := fun σ D H e g hd => hv σ D H g hd _ fun y D1 H1 e1 h1 r1 => ho σ D1 H1 (g.up e1) h1 _ fun z D2 H2 e2 h2 r2 => by
  obtain ⟨n1, gs, h3, h4⟩ := h2.s _ _ hj
  exact ⟨x, C, dx, gs, r2, h3, c, n, by rw [h4.len]; exact hz, k σ D2 _ ((e.trans e1).trans e2) ((g.up e1).up e2) (h2.set hj (fun a ha => upd_ne fun z => ha (List.mem_singleton.mpr z)) (fun a ha => ha) ⟨n1, _, upd_same, h4.put (R.m e2 r1) hf⟩)⟩
/-- self.f = {} -/
theorem go_fldI_dK {j : Nat} (c : Cls K C) (n : NoAttr K C f) (ho : ∀ p, Eg ta Γ (wDK p [] :: L) (rV (.ref x)) (wDK p [] :: L)) (hj : L[j]? = some (wIns x C dx fs)) (hf : fs.lookup f = none) (hz : fs.length < 1000) (k : ∀ p, Go D0 Γ (wDK p [] :: L.set j (wIns x C dx (fs ++ [(f, rV (.ref p))]))) E.nx) :
    Go D0 Γ L (sFld K ta tDNewK f E) := fun σ D H e g hd => fun p hp => by
  have hd' : Hd D (upd H p (.dK [])) (wDK p [] :: L) := hd.new (Ex.new hp) (fun a ha => by rw [List.mem_singleton.mp ha]; exact hp) ⟨hd.dnone hp, [], upd_same, .nil⟩
  refine ho p σ D _ g hd' _ fun z D2 H2 e2 h2 r2 => ?_
  have hj' : (wDK p [] :: L)[j + 1]? = some (wIns x C dx fs) := hj
  obtain ⟨n1, gs, h3, h4⟩ := h2.s _ _ hj'
  exact ⟨x, C, dx, gs, r2, h3, c, n, by rw [h4.len]; exact hz, k p σ D2 _ (e.trans e2) (g.up e2) (h2.set hj' (fun a ha => upd_ne fun z => ha (List.mem_singleton.mpr z)) (fun a ha => ha) ⟨n1, _, upd_same, h4.put (R := rV (.ref p)) rfl hf⟩)⟩
/-- self.f = [], a list that may change -/
theorem go_fldI_L {j : Nat} (c : Cls K C) (n : NoAttr K C f) (ho : ∀ p, Eg ta Γ (mL p [] :: L) (rV (.ref x)) (mL p [] :: L)) (hj : L[j]? = some (wIns x C dx fs)) (hf : fs.lookup f = none) (hz : fs.length < 1000) (k : ∀ p, Go D0 Γ (mL p [] :: L.set j (wIns x C dx (fs ++ [(f, rV (.ref p))]))) E.nx) :
    Go D0 Γ L (sFld K ta (tLst tNil) f E) := fun σ D H e g hd => ⟨Nat.zero_le _, fun p hp => by
  have hd' : Hd D (upd H p (.lst [])) (mL p [] :: L) := hd.new (Ex.new hp) (fun a ha => by rw [List.mem_singleton.mp ha]; exact hp) ⟨hd.dnone hp, [], upd_same, .nil⟩
  refine ho p σ D _ g hd' _ fun z D2 H2 e2 h2 r2 => ?_
  have hj' : (mL p [] :: L)[j + 1]? = some (wIns x C dx fs) := hj
  obtain ⟨n1, gs, h3, h4⟩ := h2.s _ _ hj'
  exact ⟨x, C, dx, gs, r2, h3, c, n, by rw [h4.len]; exact hz, k p σ D2 _ (e.trans e2) (g.up e2) (h2.set hj' (fun a ha => upd_ne fun z => ha (List.mem_singleton.mpr z)) (fun a ha => ha) ⟨n1, _, upd_same, h4.put (R := rV (.ref p)) rfl hf⟩)⟩⟩
/-- C(..), by its __init__; the promise's index is told by the two addresses -/
theorem eg_make {ι : Type} {κ : Type} {ok : Addr × Addr × ι → Prop} {A : Addr × Addr × ι → List Rp} {Li : Addr × Addr × ι → List Wd} {okp : Addr × Addr × ι → κ → Prop} {Ri : Addr × Addr × ι → κ → Rp} {Lp : Addr × Addr × ι → κ → List Wd} {EX : XK} {dvs : List V} {As Ds : List Rp} {F : List Wd} {flds : κ → List (Str × Rp)} {Lr : κ → List Wd}
    (i : ι) (ho : ∀ x dx, ok (x, dx, i)) (h : Ag tr Γ L As L1) (hd : ∀ D, AllR D dvs Ds) (hA : ∀ x dx, A (x, dx, i) = rV (.ref x) :: (As ++ Ds)) (hLi : ∀ x dx, Li (x, dx, i) ++ F = wIns x C dx [] :: L1) (hLp : ∀ x dx k, okp (x, dx, i) k → Lp (x, dx, i) k ++ F = wIns x C dx (flds k) :: Lr k)
    (hR : ∀ x dx k, Ri (x, dx, i) k = rD .none) :
    Xg (tMake C (spX ok A Li okp Ri Lp) dvs EX tr) Γ L fun v D H => ∃ k, (∃ x dx, okp (x, dx, i) k) ∧ Hd D H (Lr k) ∧ (rObj C (flds k)).r D v := fun σ D H g hD Q q =>
  h σ D H g hD _ fun vs D1 H1 e1 h1 r1 => fun x dx hx hdx ne => by
    have h2 := h1.alloc (o := .own x) hdx
    have x2 := h1.exnew (o := .own x) hdx
    have hx2 : (upd H1 dx (.own x)) x = none := by rw [upd_ne (fun z => ne z.symm)]; exact hx
    have h3 : Hd (upd D1 dx (.own x)) (upd (upd H1 dx (.own x)) x (.ins C dx [])) (wIns x C dx [] :: L1) := h2.new (Ex.new hx2) (fun a ha => by rw [List.mem_singleton.mp ha]; exact hx2) ⟨h2.dnone hx2, [], upd_same, .nil⟩
    refine ⟨(x, dx, i), F, _, ho x dx, by rw [hLi]; exact h3, ?_, fun v D' H' k e op h' r => ?_⟩
    · rw [hA]
      exact .cons rfl ((r1.up x2).app (hd _))
    · rw [hR] at r
      refine ⟨non_of r, ?_⟩
      rw [hLp x dx k op] at h'
      obtain ⟨D4, e4, h4, r4⟩ := h'.freezeIns
      exact q _ D4 H' (((e1.trans x2).trans e).trans e4) ⟨k, ⟨x, dx, op⟩, h4, r4⟩
end
end Fb

/-! The tree as an object. -/
namespace Fb
open PySem PySem.Spec L2 Evl
abbrev LET : Str := "abcdefghijklmnopqrstuvwxyz"
/-- a name as the tables want it -/
structure NameOk (z : Str) : Prop where
  lo : 1 ≤ z.length
  hi : z.length ≤ 8
  st : Txt.stripChars z LET = ""
  cp : PyData.canLay0 (.str z) = true
abbrev strL (zs : List Str) : PyData := .list (zs.map .str)
def optD : Option Str → PyData
  | none => .none
  | some s => .str s
def oversK (ps : Prs Str) : List (Key × Rp) := ps.map fun p => (Sum.inr p.1, rD (optD p.2))
theorem overs_val {ps : Prs Str} (nd : (ps.map (·.1)).Nodup) {c : Str} {o : Option Str} (h : (c, o) ∈ ps) : valR (oversK ps) (Sum.inr c) = some (rD (optD o)) := by
  unfold valR oversK
  induction ps with
  | nil => cases h
  | cons p r ih =>
    obtain ⟨a, b⟩ := p
    rw [List.map_cons, List.find?_cons]
    rw [List.map_cons, List.nodup_cons] at nd
    rcases List.mem_cons.mp h with e | h
    · cases e
      simp
    · have ne : a ≠ c := fun e => nd.1 (by rw [e]; exact List.mem_map.mpr ⟨_, h, rfl⟩)
      have : decide ((Sum.inr a : Key) = Sum.inr c) = false := decide_eq_false fun e => ne (Sum.inr.inj e)
      simp only [this]
      exact ih nd.2 h
theorem overs_some {ps : Prs Str} {c : Str} : (valR (oversK ps) (Sum.inr c)).isSome = decide (c ∈ ps.map (·.1)) := by
  unfold valR oversK
  induction ps with
  | nil => rfl
  | cons p r ih =>
    obtain ⟨a, b⟩ := p
    rw [List.map_cons, List.find?_cons]
    by_cases e : a = c
    · subst e; simp
    · have : decide ((Sum.inr a : Key) = Sum.inr c) = false := decide_eq_false fun q => e (Sum.inr.inj q)
      simp only [this]
      rw [ih]
      simp [Ne.symm e, e, eq_comm]
section
variable (P : Program) (w : World)
def rKids (ps : Prs Str) : Rp := ⟨fun D v => ∃ p kvs, v = .ref p ∧ D p = some (DZx P w p kvs) ∧ ∀ x : Option Str, (∀ c : Str, x = some c → c ∈ ps.map Prod.fst) → ∃ u, valV kvs (x.map Sum.inr) = some u ∧ Dq D u (strL (Kids ps x)),
  fun e ⟨p, kvs, h1, h2, h3⟩ => ⟨p, kvs, h1, e _ _ h2, fun x hx => let ⟨u, q1, q2⟩ := h3 x hx; ⟨u, q1, dq_up e _ _ q2⟩⟩⟩
def rTree (K : PySem.W.Frag) (ps : Prs Str) (F : Fo Str) : Rp := rObj (He.ga K "Tree") [("overs", rDK (oversK ps)), ("kids", rKids P w ps), ("order", rD (strL F.order))]
end
structure TreeOk (ps : Prs Str) (F : Fo Str) : Prop where
  sh : Shape ps F
  nd : (ps.map (·.1)).Nodup
  ok : ∀ c ∈ F.order, NameOk c
  few : F.order.length ≤ 8
theorem og_kids {X : Cx} {P : Program} {w : World} {ps : Prs Str} {x : Option Str} {L : List Wd} (hP : X.prog = P) (hw : X.w = w) (hx : ∀ c : Str, x = some c → c ∈ ps.map Prod.fst) : Og (rIxZ X) (rKids P w ps) (rD (optD x)) L (rD (strL (Kids ps x))) L := fun a b D H hd ⟨p, kvs, h1, h2, h3⟩ rb Q q => by
  subst hP hw
  obtain ⟨u, hu, ru⟩ := h3 x hx
  refine ⟨p, x.map Sum.inr, kvs, u, h1, ?_, hd.ex _ _ h2, hu, q u D H (Ex.refl D) hd ru⟩
  cases x with
  | none => exact non_of rb
  | some s => exact str_of rb
end Fb

namespace Fb
open PySem PySem.Spec L2 Evl
open C8 (Cal Met Mak)
section
variable {P : Program} {w : World} {K : PySem.W.Frag} {mg : Str → Option Value} {base : Heap}
theorem kt_ss : kitB "str" "str" = some true := by decide +kernel
theorem kt_ii : kitB "int" "int" = some true := by decide +kernel
theorem kt_ib : kitB "int" "bool" = some false := by decide +kernel
theorem kt_tt : kitB "tuple" "tuple" = some true := by decide +kernel
theorem kt_ll : kitB "list" "list" = some true := by decide +kernel
abbrev sp_is_name : Sp := spP NameOk (fun z => [rD (.str z)]) fun _ => rD (.bool true)
theorem c_is_name (W : Wo K mg base) : Cal P w K mg base 1 "is_name" sp_is_name [] :=
  cal_of (f_is_name W) (g_is_name W) b_is_name sc_is_name (fun _ _ => rfl) fun cdv A' outer s H E hr => ⟨_, (pss_one (ps_ret (pe_and (pe_callB (kCall K rIsi call_isi) (by rfl) (n_isinstance W) PyProof.Rows.boot_isinstance (pa_cons (pv 0) (pa_cons (pe_bltn (v := .ty "str") rfl (n_str W) PyProof.Rows.boot_str rfl) pa_nil))) (pe_and (pe_chain op_le op_le pe_int (pe_callB (kCall K rLenV call_len) (by rfl) (n_len W) PySem.boot_len (pa_cons (pv 0) pa_nil)) (pe_gI rfl (k_LONGEST_NAME W))) (pe_one (pe_cmpR op_eq (pe_bmK K PySem.F.plainAttrs_str PySem.F.slot_str_strip PySem.F.type_str_strip mt_stripChars (pv 0) (pa_cons (pe_gS rfl (k_LETTERS W)) pa_nil)) pe_str (nomark _))))))), fun z F D0 Q o q =>
    go_ret (eg_andV (eg_cb (ag_cons (eg_var rfl) (ag_cons eg_cv ag_nil)) (cg_isi (b := true) kt_ss)) fun _ => eg_andV (eg_chain eg_int (eg_cb (ag_cons (eg_var rfl) ag_nil) (cg_lenS (by have := o.hi; omega))) og_cmp eg_int og_cmp) fun _ =>
      eg_op (Rb := rD (.str "")) (eg_bm (Rs := [rD (.str LET)]) (R := rD (.str "")) (eg_var rfl) (fun x D H _ r => by rw [str_of r]; rfl) (ag_cons eg_str ag_nil) fun x xs D H hd rx rxs Q q => by
        cases rxs with
        | cons a t =>
          cases t
          rw [str_of rx, str_of a]
          exact ⟨z, LET, rfl, rfl, sz_of (by have := o.hi; omega), q _ D H (Ex.refl D) hd (by rw [o.st]; exact .str _)⟩) eg_str og_eqS)
      fun v D H e hd r => q v D H () e trivial hd (by
        have e1 : decide ((1 : Int) ≤ (z.length : Nat)) = true := decide_eq_true (by have := o.lo; omega)
        have e2 : decide (((z.length : Nat) : Int) ≤ 8) = true := decide_eq_true (by have := o.hi; omega)
        have e3 : decide ((("" : Str)) = ("" : Str)) = true := decide_eq_true rfl
        rw [e1, e2, e3] at r
        exact r)⟩
abbrev sp_is_value : Sp := spP (fun _ : Int => True) (fun i => [rD (.int i)]) fun _ => rD (.bool true)
theorem c_is_value (W : Wo K mg base) : Cal P w K mg base 1 "is_value" sp_is_value [] :=
  cal_of (f_is_value W) (g_is_value W) b_is_value sc_is_value (fun _ _ => rfl) fun cdv A' outer s H E hr => ⟨_, (pss_one (ps_ret (pe_and (pe_callB (kCall K rIsi call_isi) (by rfl) (n_isinstance W) PyProof.Rows.boot_isinstance (pa_cons (pv 0) (pa_cons (pe_bltn (v := .ty "int") rfl (n_int W) PyProof.Rows.boot_int rfl) pa_nil))) (pe_one (pe_not (pe_callB (kCall K rIsi call_isi) (by rfl) (n_isinstance W) PyProof.Rows.boot_isinstance (pa_cons (pv 0) (pa_cons (pe_bltn (v := .ty "bool") rfl (n_bool W) PyProof.Rows.boot_bool rfl) pa_nil)))))))), fun z F D0 Q o q =>
    go_ret (eg_andV (eg_cb (ag_cons (eg_var rfl) (ag_cons eg_cv ag_nil)) (cg_isi (b := true) kt_ii)) fun _ => eg_notV (eg_cb (ag_cons (eg_var rfl) (ag_cons eg_cv ag_nil)) (cg_isi (b := false) kt_ib)))
      fun v D H e hd r => q v D H () e trivial hd r⟩
abbrev sp_is_row : Sp := spP (fun ns : List Int => ns.length ≤ 100) (fun ns => [rD (tupI ns), rD (.int (ns.length : Nat))]) fun _ => rD (.bool true)
theorem c_is_row (W : Wo K mg base) : Cal P w K mg base 2 "is_row" sp_is_row [] := by
  have c_is_value := c_is_value (P := P) (w := w) W
  refine cal_of (f_is_row W) (g_is_row W) b_is_row sc_is_row (fun _ _ => rfl) fun cdv A' outer s H E hr => ⟨_, (pss_one (ps_ret (pe_and (pe_callB (kCall K rIsi call_isi) (by rfl) (n_isinstance W) PyProof.Rows.boot_isinstance (pa_cons (pv 0) (pa_cons (pe_bltn (v := .ty "tuple") rfl (n_tuple W) PyProof.Rows.boot_tuple rfl) pa_nil))) (pe_and (pe_cmpR op_eq (pe_callB (kCall K rLenV call_len) (by rfl) (n_len W) PySem.boot_len (pa_cons (pv 0) pa_nil)) (pv 1) (nomark _)) (pe_one (pe_callB (kCall K rAll (cr_all rfl)) (by rfl) (n_all W) PyProof.Rows.boot_all (pa_cons (pe_lc (own := [("one", 2)]) (g := (gName 2)) rfl sc_is_row.nd (pi_tupK K (pv 0)) (blkOk_by (own := [("one", 2)]) (N := N_is_row) (sc := defScope s_is_row) (by decide +kernel)) (fun _ _ _ _ _ => (pg_name (i := 2) sc_is_row.nd rfl (by first | exact Or.inl rfl | exact Or.inr rfl))) (fun _ _ _ _ _ => pts_nil) (fun _ _ _ _ _ => (C8.pe_c c_is_value hr (by first | decide | omega) rfl (pa_cons (pv 2) pa_nil)))) pa_nil))))))), fun ns F D0 Q o q => ?_⟩
  refine go_ret (eg_andV (eg_cb (ag_cons (eg_var rfl) (ag_cons eg_cv ag_nil)) (cg_isi (b := true) kt_tt)) fun _ => eg_andV (eg_op (eg_cb (ag_cons (eg_var rfl) ag_nil) cg_lenDT) (eg_var rfl) og_eqI) fun _ =>
      eg_cb (ag_cons (Eg.imp (eg_lc (ig_tupD (eg_var rfl)) (by rw [List.length_map]; omega) (fun _ => true) (fun _ => rD (.bool true)) (fun _ => trivial) fun i R hi ⟨d, hd, hR⟩ => ?_) ?_) ag_nil) (cg_all (bs := ns.map fun _ => true))) fun v D H e hd r => q v D H () e trivial hd ?_
  · subst hR
    obtain ⟨k, hk⟩ : ∃ k : Int, d = .int k := by
      rw [List.getElem?_map] at hd
      cases e : ns[i]? with
      | none => rw [e] at hd; cases hd
      | some k => rw [e] at hd; cases hd; exact ⟨k, rfl⟩
    subst hk
    exact ⟨_, _, tgt_name, by simp, fun F => tg_yes, fun _ F => eg_callP k trivial (ag_cons (eg_var rfl) ag_nil) rfl⟩
  · intro D v h
    have e : (List.map (fun _ => rD (PyData.bool true)) (List.filter (fun _ => true) (List.range (List.map PyData.int ns).length))) = (ns.map fun _ => true).map fun b => rD (.bool b) := by
      rw [List.filter_eq_self.mpr (fun _ _ => rfl)]
      apply List.ext_getElem?
      intro j
      simp [List.getElem?_map, List.getElem?_range]
      by_cases hj : j < ns.length
      · simp [hj]
      · simp [hj]
    rw [e] at h
    exact h
  · have e1 : decide ((((List.map PyData.int ns).length : Nat) : Int) = (ns.length : Nat)) = true := decide_eq_true (by rw [List.length_map])
    have e2 : (ns.map fun _ => true).all id = true := by simp
    rw [e1, e2] at r
    exact r
end
end Fb

namespace Fb
open PySem PySem.Spec L2 Evl
open C8 (Cal Met Mak)
section
variable {P : Program} {w : World} {K : PySem.W.Frag} {mg : Str → Option Value} {base : Heap}
abbrev sp_want_row : Sp := spP (fun x : List Int × Int => x.1.length ≤ 100) (fun x => [rD (tupI x.1), rD (.int (x.1.length : Nat)), rD (.int x.2)]) fun _ => rD .none
theorem b_want_row {K : PySem.W.Frag} {a : Addr} (fd : FuncData) (F : FunD K "want_row" "want_row" (defArgs s_want_row) (defBody s_want_row) (defScope s_want_row) [.int 0] [] a fd) : ∃ ds, Vals [] ds ∧ Binds K fd P_want_row ds :=
  F.binds1 3 1 (by simp) rfl fun T kV doc pm an cdv ct us its hu hi => match us, hu, its, hi with | [_, _, _], _, [_], _ => ⟨_, rfl, rfl⟩
theorem c_want_row (W : Wo K mg base) : Cal P w K mg base 3 "want_row" sp_want_row [] := by
  have c_is_row := c_is_row (P := P) (w := w) W
  exact cal_of (f_want_row W) (g_want_row W) b_want_row sc_want_row (fun _ _ => rfl) fun cdv A' outer s H E hr => ⟨_, (pss_one (ps_if (pt_not (pt_val (C8.pe_c c_is_row hr (by first | decide | omega) rfl (pa_cons (pv 0) (pa_cons (pv 1) pa_nil))))) (pss_one ps_never) pss_nil)), fun x F D0 Q o q =>
    go_if_f (tg_not (a := true) (tg_B (eg_callP x.1 o (ag_cons (eg_var rfl) (ag_cons (eg_var rfl) ag_nil)) rfl))) (go_end fun D H e hd => q .non D H () e trivial hd .non)⟩
theorem allTrue {α : Type} {xs : List α} {n : Nat} (hn : n = xs.length) {D : Hp} {v : V} (h : (rLst (((List.range n).filter fun _ => true).map fun _ => rD (.bool true))).r D v) : (rLst ((xs.map fun _ => true).map fun b => rD (.bool b))).r D v := by
  have e : (((List.range n).filter fun _ => true).map fun _ => rD (.bool true)) = (xs.map fun _ => true).map fun b => rD (.bool b) := by
    rw [List.filter_eq_self.mpr (fun _ _ => rfl), hn]
    apply List.ext_getElem?
    intro j
    simp [List.getElem?_map, List.getElem?_range]
    by_cases hj : j < xs.length
    · simp [hj]
    · simp [hj]
  rw [e] at h
  exact h
/-- columns as the tables want them -/
structure ColsOk (zs : List Str) : Prop where
  len : zs.length ≤ 8
  ok : ∀ z ∈ zs, NameOk z
  nd : zs.Nodup
abbrev sp_are_columns : Sp := spP ColsOk (fun zs => [rD (strL zs)]) fun _ => rD (.bool true)
theorem c_are_columns (W : Wo K mg base) : Cal P w K mg base 2 "are_columns" sp_are_columns [] := by
  have c_is_name := c_is_name (P := P) (w := w) W
  refine cal_of (f_are_columns W) (g_are_columns W) b_are_columns sc_are_columns (fun _ _ => rfl) fun cdv A' outer s H E hr => ⟨_, (pss_cons (ps_if (PW.pt (pw_or (pt_not (pt_val (pe_callB (kCall K rIsi call_isi) (by rfl) (n_isinstance W) PyProof.Rows.boot_isinstance (pa_cons (pv 0) (pa_cons (pe_bltn (v := .ty "list") rfl (n_list W) PyProof.Rows.boot_list rfl) pa_nil))))) (pw_or (pt_cmpR op_gt (pe_callB (kCall K rLenV call_len) (by rfl) (n_len W) PySem.boot_len (pa_cons (pv 0) pa_nil)) (pe_gI rfl (k_MOST_COLUMNS W)) (nomark _)) (pw_or1 (pt_not (pt_val (pe_callB (kCall K rAll (cr_all rfl)) (by rfl) (n_all W) PyProof.Rows.boot_all (pa_cons (pe_lc (own := [("one", 1)]) (g := (gName 1)) rfl sc_are_columns.nd (pi_listK K (pv 0)) (blkOk_by (own := [("one", 1)]) (N := N_are_columns) (sc := defScope s_are_columns) (by decide +kernel)) (fun _ _ _ _ _ => (pg_name (i := 1) sc_are_columns.nd rfl (by first | exact Or.inl rfl | exact Or.inr rfl))) (fun _ _ _ _ _ => pts_nil) (fun _ _ _ _ _ => (C8.pe_c c_is_name hr (by first | decide | omega) rfl (pa_cons (pv 1) pa_nil)))) pa_nil)))))))) (pss_one (ps_ret pe_bl)) pss_nil)
    (pss_one (ps_ret (pe_cmpR op_eq (pe_lenSetN rfl rfl (n_len W) rfl (n_set W) (pv 0)) (pe_callB (kCall K rLenV call_len) (by rfl) (n_len W) PySem.boot_len (pa_cons (pv 0) pa_nil)) (nomark _))))), fun zs F D0 Q o q => ?_⟩
  have e1 : decide ((8 : Int) < ((zs.map PyData.str).length : Nat)) = false := decide_eq_false (by rw [List.length_map]; have := o.len; omega)
  have e2 : (zs.map fun _ => true).all id = true := by simp
  refine go_seq (go_if_f (Tg.to (tg_or (tg_not (tg_B (eg_cb (ag_cons (eg_var rfl) (ag_cons eg_cv ag_nil)) (cg_isi (b := true) kt_ll)))) fun _ => tg_or (tg_test (eg_op (eg_cb (ag_cons (eg_var rfl) ag_nil) cg_lenD) eg_int og_cmp)) fun _ =>
    tg_not (tg_B (eg_cb (ag_cons (Eg.imp (eg_lc (ig_listD (eg_var rfl)) (by rw [List.length_map]; have := o.len; omega) (fun _ => true) (fun _ => rD (.bool true)) (fun _ => trivial) fun i R hi ⟨d, hd, hR⟩ => ?_) (fun D v => allTrue (xs := zs) (by rw [List.length_map]))) ag_nil) cg_all))) ?_) ?_)
  · subst hR
    rw [List.getElem?_map] at hd
    cases e : zs[i]? with
    | none => rw [e] at hd; cases hd
    | some z =>
      rw [e] at hd; cases hd
      exact ⟨_, _, tgt_name, by simp, fun F => tg_yes, fun _ F => eg_callP z (o.ok z (List.mem_of_getElem? e)) (ag_cons (eg_var rfl) ag_nil) rfl⟩
  · rw [e1, e2]; rfl
  · refine go_ret (eg_op (eg_lenSetN (eg_var rfl) o.nd (by have := o.len; omega)) (eg_cb (ag_cons (eg_var rfl) ag_nil) cg_lenD) og_eqI) fun v D H e hd r => q v D H () e trivial hd ?_
    rw [decide_eq_true (by rw [List.length_map])] at r
    exact r
end
end Fb

/-! Comprehensions and loops over data, told by lists. -/
namespace Fb
open PySem PySem.Spec L2 Evl
section
variable {α : Type} {xs : List α}
theorem yd_map {f : α → PyData} {i : Nat} {R : Rp} (h : YD (xs.map f) i R) : ∃ x, xs[i]? = some x ∧ R = rD (f x) := by
  obtain ⟨d, hd, rfl⟩ := h
  rw [List.getElem?_map] at hd
  cases e : xs[i]? with
  | none => rw [e] at hd; cases hd
  | some x => rw [e] at hd; cases hd; exact ⟨x, rfl, rfl⟩
def reOf (xs : List α) (g : α → PyData) (i : Nat) : Rp := match xs[i]? with | some x => rD (g x) | none => rD .none
def fOf (xs : List α) (p : α → Bool) (i : Nat) : Bool := match xs[i]? with | some x => p x | none => false
theorem range_filter (p : α → Bool) (g : α → PyData) : ∀ (xs : List α), ((List.range xs.length).filter (fOf xs p)).map (reOf xs g) = ((xs.filter p).map g).map rD := by
  intro xs
  induction xs with
  | nil => rfl
  | cons x xs ih =>
    rw [List.length_cons, List.range_succ_eq_map, List.filter_cons]
    have h0 : fOf (x :: xs) p 0 = p x := rfl
    have hm : (((List.range xs.length).map Nat.succ).filter (fOf (x :: xs) p)).map (reOf (x :: xs) g) = ((xs.filter p).map g).map rD := by
      rw [← ih, List.filter_map, List.map_map]
      have e1 : (fOf (x :: xs) p ∘ Nat.succ) = fOf xs p := by funext j; simp [fOf]
      have e2 : (reOf (x :: xs) g ∘ Nat.succ) = reOf xs g := by funext j; simp [reOf]
      rw [e1, e2]
    rw [h0]
    by_cases hp : p x = true
    · rw [if_pos hp, List.filter_cons, if_pos hp, List.map_cons, hm]
      rfl
    · rw [if_neg hp, List.filter_cons, if_neg hp, hm]
section
variable {Γ : Gm} {L L1 : List Wd} {te : TE}
theorem eg_lcD {wi : TI} {g : TG} {tt : TT} {vs : List Nat} {Yr : Nat → Rp → Prop} {G : List Wd → Prop} (xs : List α) (hi : Ig wi Γ L xs.length Yr L1 G) (hz : xs.length ≤ 100000) (hG : ∀ F, G (L1 ++ F)) (p : α → Bool) (f : α → PyData)
    (hb : ∀ i x, xs[i]? = some x → ∀ R, Yr i R → ∃ Γt S, Tgt g R (wipeG Γ vs) Γt S ∧ (∀ s ∈ S, s ∈ vs) ∧ (∀ F, Tg tt Γt (L1 ++ F) (p x) (L1 ++ F)) ∧ (p x = true → ∀ F, Eg te Γt (L1 ++ F) (rD (f x)) (L1 ++ F))) :
    Eg (tLc wi g tt te vs) Γ L (rD (.list ((xs.filter p).map f))) L1 := by
  refine Eg.lst ?_
  rw [← range_filter]
  refine eg_lc hi hz _ _ hG fun i R hlt y => ?_
  have hx : xs[i]? = some xs[i] := List.getElem?_eq_getElem hlt
  obtain ⟨Γt, S, h1, h2, h3, h4⟩ := hb i _ hx R y
  have ef : fOf xs p i = p xs[i] := by unfold fOf; rw [hx]
  have er : reOf xs f i = rD (f xs[i]) := by unfold reOf; rw [hx]
  exact ⟨Γt, S, h1, h2, by rw [ef]; exact h3, by rw [ef, er]; exact h4⟩
/-- without a test -/
theorem eg_lcA {wi : TI} {g : TG} {vs : List Nat} {Yr : Nat → Rp → Prop} {G : List Wd → Prop} (xs : List α) (hi : Ig wi Γ L xs.length Yr L1 G) (hz : xs.length ≤ 100000) (hG : ∀ F, G (L1 ++ F)) (f : α → PyData)
    (hb : ∀ i x, xs[i]? = some x → ∀ R, Yr i R → ∃ Γt S, Tgt g R (wipeG Γ vs) Γt S ∧ (∀ s ∈ S, s ∈ vs) ∧ (∀ F, Eg te Γt (L1 ++ F) (rD (f x)) (L1 ++ F))) :
    Eg (tLc wi g tYes te vs) Γ L (rD (.list (xs.map f))) L1 := by
  have h := eg_lcD (te := te) xs hi hz hG (fun _ => true) f fun i x hx R y => by
    obtain ⟨Γt, S, h1, h2, h3⟩ := hb i x hx R y
    exact ⟨Γt, S, h1, h2, fun F => tg_yes, fun _ => h3⟩
  rw [List.filter_eq_self.mpr (fun _ _ => rfl)] at h
  exact h
theorem ig_listX {tl : TE} {f : α → PyData} {K : PySem.W.Frag} {L' : List Wd} (h : Eg tl Γ L (rD (.list (xs.map f))) L') : Ig (iList K tl) Γ L xs.length (fun i R => ∃ x, xs[i]? = some x ∧ R = rD (f x)) L' gT :=
  (ig_listD h).to (by rw [List.length_map]) fun i R _ y => ⟨R, yd_map y, fun _ _ q => q⟩
theorem ig_tupX {tl : TE} {f : α → PyData} {K : PySem.W.Frag} {L' : List Wd} (h : Eg tl Γ L (rD (.tuple (xs.map f))) L') : Ig (iTup K tl) Γ L xs.length (fun i R => ∃ x, xs[i]? = some x ∧ R = rD (f x)) L' gT :=
  (ig_tupD h).to (by rw [List.length_map]) fun i R _ y => ⟨R, yd_map y, fun _ _ q => q⟩
theorem ig_enumX {tr : TA} {f : α → PyData} {K : PySem.W.Frag} {L' : List Wd} (h : Ag tr Γ L [rD (.list (xs.map f))] L') : Ig (iEnum K tr) Γ L xs.length (fun i R => ∃ x, xs[i]? = some x ∧ R = rTup [rD (.int (i : Int)), rD (f x)]) L' gT :=
  (ig_enumD h).to (by rw [List.length_map]) fun i R _ ⟨R1, y, e⟩ => by
    obtain ⟨x, h1, rfl⟩ := yd_map y
    exact ⟨R, ⟨x, h1, e⟩, fun _ _ q => q⟩
theorem ig_revX {tr : TA} {f : α → PyData} {K : PySem.W.Frag} {L' : List Wd} (h : Ag tr Γ L [rD (.list (xs.map f))] L') : Ig (iRev K tr) Γ L xs.length (fun i R => ∃ x, xs.reverse[i]? = some x ∧ R = rD (f x)) L' gT :=
  (ig_revD h).to (by rw [List.length_map]) fun i R _ y => ⟨R, yd_map (by rw [← List.map_reverse] at y; exact y), fun _ _ q => q⟩
/-- a loop over data, the words and slots told by what is done so far -/
theorem go_forL {wi : TI} {g : TG} {tb : TS} {Yr : Nat → Rp → Prop} {G : List Wd → Prop} {D0 : Hp} {E : Ends} {β : Type} (xs : List β) (src : β → Rp) (hi : Ig wi Γ L xs.length Yr L1 G) (hY : ∀ i R, Yr i R → ∃ x, xs[i]? = some x ∧ R = src x)
    (Γi : List β → Gm) (Li : List β → List Wd) (h0 : Less (Γi []) Γ) (h1 : L1 = Li []) (hG : ∀ a, G (Li a))
    (hb : ∀ a x b D1 (N : L2.St → Hp → Prop), xs = a ++ x :: b → Ex D0 D1 → Go D1 (Γi (a ++ [x])) (Li (a ++ [x])) N → ∃ Γt S, Tgt g (src x) (Γi a) Γt S ∧ Go D1 Γt (Li a) (tb { E with nx := N, ct := N, bk := E.nx }))
    (hd : Go D0 (Γi xs) (Li xs) E.nx) : Go D0 Γ L (tFor wi g tb E) := by
  refine go_for (ι := Unit) hi (fun _ _ => True) (fun i _ => Γi (xs.take i)) (fun i _ => Li (xs.take i)) ⟨(), trivial, h0, h1⟩ (fun i _ _ _ => hG _) (fun i x R D1 N hlt e _ y k => ?_) (fun _ _ => by rw [List.take_length]; exact hd)
  obtain ⟨x, hx, rfl⟩ := hY i R y
  have e1 : xs.take (i + 1) = xs.take i ++ [x] := by rw [List.take_add_one, hx]; rfl
  have e2 : xs = xs.take i ++ x :: xs.drop (i + 1) := by
    have h := (List.take_append_drop i xs).symm
    rw [List.drop_eq_getElem_cons hlt] at h
    have : xs[i] = x := by rw [List.getElem?_eq_getElem hlt] at hx; exact Option.some.inj hx
    rw [this] at h
    exact h
  exact hb (xs.take i) x (xs.drop (i + 1)) D1 N e2 e (by rw [← e1]; exact k () trivial)
end
end
/-- xs.extend(e) -/
theorem eg_extend {K : PySem.W.Frag} {Γ : Gm} {L L1 L' : List Wd} {Rs : List Rp} {te ta : TE} {ds : List PyData} {p : Addr} {j : Nat} (ho : Eg ta Γ L (rV (.ref p)) L1) (hy : ∃ (j0 : Nat) (Rs0 : List Rp), L1[j0]? = some (mL p Rs0)) (h : Eg te Γ L1 (rD (.list ds)) L') (hj : L'[j]? = some (mL p Rs)) (hz : Rs.length + ds.length < 100000) :
    Eg (tBM K "list" rExtend ta (tCons te tNil)) Γ L (rV .non) (L'.set j (mL p (Rs ++ ds.map rD))) := fun σ D H g hd Q q =>
  ho σ D H g hd _ fun x D1 H1 e1 h1 r1 => by
    have r1' : x = .ref p := r1
    subst r1'
    obtain ⟨j0, Rs0, k0⟩ := hy
    obtain ⟨_, vs0, hs0, _⟩ := h1.s _ _ k0
    refine ⟨Or.inl ⟨rfl, vs0, SqL.of hs0⟩, h σ D1 H1 (g.up e1) h1 _ fun v D2 H2 e2 h2 r2 => ?_⟩
    obtain ⟨b, ws, rfl, hb, bl⟩ := lst_rD r2
    obtain ⟨n1, vs, hs, ha⟩ := h2.s _ _ hj
    refine ⟨p, b, vs, ws, rfl, rfl, hs, h2.ex _ _ hb, sz_of (by rw [ha.len, bl.len, List.length_map]; omega), q _ D2 _ (e1.trans e2) (h2.set hj (fun a ha' => ?_) (fun a ha' => ha') ⟨n1, _, upd_same, ha.app bl⟩) rfl⟩
    exact upd_ne fun z => ha' (List.mem_singleton.mpr z)
end Fb

namespace Fb
open PySem PySem.Spec L2 Evl
open C8 (Cal Met Mak)
section
variable {P : Program} {w : World} {K : PySem.W.Frag} {mg : Str → Option Value} {base : Heap}
theorem TreeOk.mem {ps : Prs Str} {F : Fo Str} (t : TreeOk ps F) {c : Str} (h : c ∈ F.order) : c ∈ ps.map Prod.fst := (t.sh.mem c).mp h
theorem TreeOk.pair {ps : Prs Str} {F : Fo Str} (t : TreeOk ps F) {c : Str} (h : c ∈ F.order) : ∃ o, (c, o) ∈ ps := by
  obtain ⟨⟨a, o⟩, h1, h2⟩ := List.mem_map.mp (t.mem h)
  cases h2
  exact ⟨o, h1⟩
abbrev spM (P : Program) (w : World) (K : PySem.W.Frag) {ι : Type} (ok : Prs Str × Fo Str × ι → Prop) (A : Prs Str × Fo Str × ι → List Rp) (R : Prs Str × Fo Str × ι → Rp) : Sp :=
  spP (fun i => TreeOk i.1 i.2.1 ∧ ok i) (fun i => rTree P w K i.1 i.2.1 :: A i) R
abbrev cTr (K : PySem.W.Frag) : Addr := He.ga K "Tree"
abbrev sp_Tree_want (P : Program) (w : World) (K : PySem.W.Frag) : Sp := spM P w K (fun i => i.2.2 ∈ i.2.1.order) (fun i : Prs Str × Fo Str × Str => [rD (.str i.2.2)]) fun _ => rD .none
theorem c_Tree_want (W : Wo K mg base) : Met P w K mg base 2 (cTr K) "want" (sp_Tree_want P w K) [] := by
  have c_is_name := c_is_name (P := P) (w := w) W
  exact met_of (f_Tree_want W) (cl_Tree W) (me_Tree_want W) b_Tree_want sc_Tree_want (fun _ _ => rfl) fun cdv A' outer s H E hr => ⟨_, (pss_one (ps_if (PW.pt (pw_or (pt_not (pt_val (C8.pe_c c_is_name hr (by first | decide | omega) rfl (pa_cons (pv 1) pa_nil)))) (pw_or1 (pt_cmp (pc_dnotin (hu_of hr) (pv 1) (pe_fldK K (pv 0))))))) (pss_one ps_never) pss_nil)), fun i F D0 Q o q =>
    go_if_f (Tg.to (tg_or (tg_not (tg_B (eg_callP i.2.2 (o.1.ok _ o.2) (ag_cons (eg_var rfl) ag_nil) rfl))) fun _ => tg_B (eg_dnotin (k := Sum.inr i.2.2) (eg_var rfl) (eg_fldO (cl_Tree W) (no_Tree_overs W) (eg_var rfl) rfl) isdk_f)) (by rw [overs_some, decide_eq_true (o.1.mem o.2)]; rfl))
      (go_end fun D H e hd => q .non D H () e trivial hd .non)⟩
abbrev sp_Tree_columns (P : Program) (w : World) (K : PySem.W.Frag) : Sp := spM P w K (fun _ => True) (fun _ : Prs Str × Fo Str × Unit => []) fun i => rD (strL i.2.1.order)
theorem c_Tree_columns (W : Wo K mg base) : Met P w K mg base 1 (cTr K) "columns" (sp_Tree_columns P w K) [] :=
  met_of (f_Tree_columns W) (cl_Tree W) (me_Tree_columns W) b_Tree_columns sc_Tree_columns (fun _ _ => rfl) fun cdv A' outer s H E hr => ⟨_, (pss_one (ps_ret (pe_callTy (kCall K rListOf call_list_of) (by rfl) (n_list W) PyProof.Rows.boot_list (pa_cons (pe_fldK K (pv 0)) pa_nil)))), fun i F D0 Q o q =>
    go_ret (eg_cb (ag_cons (eg_fldO (cl_Tree W) (no_Tree_order W) (eg_var rfl) rfl) ag_nil) cg_listD) fun v D H e hd r => q v D H () e trivial hd r⟩
abbrev pairD (p : Str × Option Str) : PyData := .tuple [.str p.1, optD p.2]
theorem pairs_eq {ps : Prs Str} {F : Fo Str} (t : TreeOk ps F) {f : Str → PyData} (h : ∀ c o, (c, o) ∈ ps → f c = pairD (c, o)) : F.order.map f = (F.pairs none).map pairD := by
  rw [← Fo.pairs_fst F none, List.map_map]
  exact List.map_congr_left fun p hp => h p.1 p.2 (pairs_mem t.sh p hp)
abbrev sp_Tree_pairs (P : Program) (w : World) (K : PySem.W.Frag) : Sp := spM P w K (fun _ => True) (fun _ : Prs Str × Fo Str × Unit => []) fun i => rD (.list ((i.2.1.pairs none).map pairD))
def ovOf (ps : Prs Str) (c : Str) : Option Str := ((ps.find? fun p => decide (p.1 = c)).map (·.2)).getD none
theorem ov_of {ps : Prs Str} (nd : (ps.map (·.1)).Nodup) {c : Str} {o : Option Str} (h : (c, o) ∈ ps) : ovOf ps c = o := by
  unfold ovOf
  cases e : ps.find? fun p => decide (p.1 = c) with
  | none =>
    have := List.find?_eq_none.mp e (c, o) h
    simp at this
  | some p =>
    have h1 := List.mem_of_find?_eq_some e
    have h2 : p.1 = c := by have := List.find?_some e; simpa using this
    obtain ⟨a, b⟩ := p
    have h2' : a = c := h2
    subst h2'
    exact fst_inj nd h1 h
theorem c_Tree_pairs (W : Wo K mg base) : Met P w K mg base 1 (cTr K) "pairs" (sp_Tree_pairs P w K) [] :=
  met_of (f_Tree_pairs W) (cl_Tree W) (me_Tree_pairs W) b_Tree_pairs sc_Tree_pairs (fun _ _ => rfl) fun cdv A' outer s H E hr => ⟨_, (pss_one (ps_ret (pe_lc (own := [("column", 1)]) (g := (gName 1)) rfl sc_Tree_pairs.nd (pi_listK K (pe_fldK K (pv 0))) (blkOk_by (own := [("column", 1)]) (N := N_Tree_pairs) (sc := defScope s_Tree_pairs) (by decide +kernel)) (fun _ _ _ _ _ => (pg_name (i := 1) sc_Tree_pairs.nd rfl (by first | exact Or.inl rfl | exact Or.inr rfl))) (fun _ _ _ _ _ => pts_nil) (fun _ _ _ _ _ => (pe_tup (pa_cons (pv 1) (pa_cons (pe_dget (hu_of hr) (pe_fldK K (pv 0)) (pv 1) fun _ _ => rfl) pa_nil))))))), fun i F D0 Q o q =>
    go_ret (Eg.to (eg_lcA i.2.1.order (ig_listX (eg_fldO (cl_Tree W) (no_Tree_order W) (eg_var rfl) rfl)) (by have := o.1.few; omega) (fun _ => trivial) (fun c => pairD (c, ovOf i.1 c)) fun j c hc R ⟨x, hx, hR⟩ => by
      subst hR
      rw [hc] at hx; cases hx
      have hm := List.mem_of_getElem? hc
      obtain ⟨ov, hp⟩ := o.1.pair hm
      refine ⟨_, _, tgt_name, by simp, fun Fr => ?_⟩
      rw [ov_of o.1.nd hp]
      exact Eg.tup (eg_tup (ag_cons (eg_var rfl) (ag_cons (eg_dget (k := Sum.inr c) (eg_fldO (cl_Tree W) (no_Tree_overs W) (eg_var rfl) rfl) (eg_var rfl) isdk_f (overs_val o.1.nd hp)) ag_nil)) (by simp))) (by rw [pairs_eq o.1 fun c ov hp => by rw [ov_of o.1.nd hp]]))
      fun v D H e hd r => q v D H () e trivial hd r⟩
abbrev sp_Tree_over (P : Program) (w : World) (K : PySem.W.Frag) : Sp := spM P w K (fun i => (i.2.2.1, i.2.2.2) ∈ i.1 ∧ i.2.2.1 ∈ i.2.1.order) (fun i : Prs Str × Fo Str × Str × Option Str => [rD (.str i.2.2.1)]) fun i => rD (optD i.2.2.2)
theorem c_Tree_over (W : Wo K mg base) : Met P w K mg base 3 (cTr K) "over" (sp_Tree_over P w K) [] := by
  have c_Tree_want := c_Tree_want (P := P) (w := w) W
  exact met_of (f_Tree_over W) (cl_Tree W) (me_Tree_over W) b_Tree_over sc_Tree_over (fun _ _ => rfl) fun cdv A' outer s H E hr => ⟨_, (pss_cons (ps_expr (C8.pe_mt c_Tree_want hr (by first | decide | omega) (pv 0) (pa_cons (pv 1) pa_nil)))
    (pss_one (ps_ret (pe_dget (hu_of hr) (pe_fldK K (pv 0)) (pv 1) fun _ _ => rfl)))), fun i F D0 Q o q =>
    go_seq (go_drop (eg_methP (i.1, i.2.1, i.2.2.1) ⟨o.1, o.2.2⟩ (eg_var rfl) (ins_obj rfl) (ag_cons (eg_var rfl) ag_nil) (fun _ => .nil) rfl)
      (go_ret (eg_dget (k := Sum.inr i.2.2.1) (eg_fldO (cl_Tree W) (no_Tree_overs W) (eg_var rfl) rfl) (eg_var rfl) isdk_f (overs_val o.1.nd o.2.1)) fun v D H e hd r => q v D H () e trivial hd r))⟩
/-! order_from, by the depth -/
abbrev sp_order_from (P : Program) (w : World) (d : Nat) : Sp := spP (fun i : Prs Str × Fo Str × Str × Fo Str => TreeOk i.1 i.2.1 ∧ Sub i.2.1 i.2.2.1 i.2.2.2 ∧ i.2.2.2.depth < d) (fun i => [rKids P w i.1, rD (.str i.2.2.1)]) fun i => rD (strL (i.2.2.1 :: i.2.2.2.order))
end
end Fb

/-! Statements ahead of others. -/
namespace Fb
open PySem PySem.Spec L2 Evl
section
variable {K : PySem.W.Frag} {Γ Γ' : Gm} {L L1 L2' L3 L' : List Wd} {R Ra Rb Rc Y : Rp} {Rs Ss Ts Ys : List Rp} {te ta tb tc tl : TE} {tr : TA} {D0 : Hp} {i : Nat} {r r' : R2} {E : Ends} {u t : TS} {tt : TT}
theorem sq_asg (h : Eg te Γ L R L') (k : Go D0 (Γ.set i (some R)) L' (u E)) : Go D0 Γ L (tSeq (tAsg te (gName i)) u E) := go_asg (E := { E with nx := u E }) h k
theorem sq_asgT {g : TG} {S : List Nat} (h : Eg te Γ L R L') (ht : Tgt g R Γ Γ' S) (k : Go D0 Γ' L' (u E)) : Go D0 Γ L (tSeq (tAsg te g) u E) := go_asgT (E := { E with nx := u E }) h ht k
theorem sq_asgX {ι : Type} {ok : ι → Prop} {Rx : ι → Rp} {Lx : ι → List Wd} (h : Xg te Γ L fun v D H => ∃ x, ok x ∧ Hd D H (Lx x) ∧ (Rx x).r D v) (k : ∀ x, ok x → Go D0 (Γ.set i (some (Rx x))) (Lx x) (u E)) : Go D0 Γ L (tSeq (tAsg te (gName i)) u E) := go_asgX (E := { E with nx := u E }) h k
theorem sq_new (h : Ag tr Γ L Rs L') (hz : Rs.length ≤ 100000) (k : ∀ p, Go D0 (Γ.set i (some (rV (.ref p)))) (mL p Rs :: L') (u E)) : Go D0 Γ L (tSeq (tAsg (tLst tr) (gName i)) u E) := go_new (E := { E with nx := u E }) h hz k
theorem sq_newRep {k : Int} (h : Ag tr Γ L [R] L1) (hk : Eg tb Γ L1 (rD (.int k)) L') (h1 : 0 ≤ k) (h2 : k ≤ 100000) (kk : ∀ p, Go D0 (Γ.set i (some (rV (.ref p)))) (mL p (List.replicate k.toNat R) :: L') (u E)) : Go D0 Γ L (tSeq (tAsg (tOp rRep (tLst tr) tb) (gName i)) u E) := go_newRep (E := { E with nx := u E }) h hk h1 h2 kk
theorem sq_newRg {n : Int} (h : Eg te Γ L (rD (.int n)) L') (h1 : 0 ≤ n) (h2 : n ≤ 100000) (kk : ∀ p, Go D0 (Γ.set i (some (rV (.ref p)))) (mL p ((List.range n.toNat).map fun (j : Nat) => rD (.int (j : Int))) :: L') (u E)) : Go D0 Γ L (tSeq (tAsg (tLstRg (tRg1 te)) (gName i)) u E) := go_newRg (E := { E with nx := u E }) h h1 h2 kk
theorem sq_newDK (kk : ∀ p, Go D0 (Γ.set i (some (rV (.ref p)))) (wDK p [] :: L) (u E)) : Go D0 Γ L (tSeq (tAsg tDNewK (gName i)) u E) := go_newDK (E := { E with nx := u E }) kk
theorem sq_drop (h : Eg te Γ L R L') (k : Go D0 Γ L' (u E)) : Go D0 Γ L (tSeq (tDrop te) u E) := go_drop (E := { E with nx := u E }) h k
theorem sq_dropX {ι : Type} {ok : ι → Prop} {Lx : ι → List Wd} (h : Xg te Γ L fun v D H => ∃ x, ok x ∧ Hd D H (Lx x)) (k : ∀ x, ok x → Go D0 Γ (Lx x) (u E)) : Go D0 Γ L (tSeq (tDrop te) u E) := go_dropX (E := { E with nx := u E }) h k
theorem sq_if {t1 t2 : TS} {b : Bool} (h : Tg tt Γ L b L') (h1 : b = true → Go D0 Γ L' (t1 { E with nx := u E })) (h2 : b = false → Go D0 Γ L' (t2 { E with nx := u E })) : Go D0 Γ L (tSeq (tIfS tt t1 t2) u E) := go_if (E := { E with nx := u E }) h h1 h2
/-- the test fails, no else -/
theorem sq_no (h : Tg tt Γ L false L') (k : Go D0 Γ L' (u E)) : Go D0 Γ L (tSeq (tIfS tt t tNext) u E) := go_if_f (E := { E with nx := u E }) h k
theorem go_no (h : Tg tt Γ L false L') (k : Go D0 Γ L' E.nx) : Go D0 Γ L (tIfS tt t tNext E) := go_if_f h k
theorem sq_setL {p : Addr} {j : Nat} {k : Nat} (h : Eg te Γ L R L1) (ho : Eg ta Γ L1 (rV (.ref p)) L2') (hi : Eg tb Γ L2' (rD (.int (k : Int))) L3) (hj : L3[j]? = some (mL p Rs)) (hk : k < Rs.length) (kk : Go D0 Γ (L3.set j (mL p (Rs.set k R))) (u E)) : Go D0 Γ L (tSeq (tAsg te (gSub ta tb rSetL)) u E) :=
  go_setL (E := { E with nx := u E }) h ho hi hj hk kk
theorem sq_aug {f : Int → Int → Int} {a b : Int} (hx : Γ[i]? = some (some (rD (.int a)))) (h : Eg te Γ L (rD (.int b)) L') (k : Go D0 (Γ.set i (some (rD (.int (f a b))))) L' (u E)) : Go D0 Γ L (tSeq (tAug i te (ipI f)) u E) := go_aug (E := { E with nx := u E }) hx h k
theorem sq_par {j : Nat} {R1 R2 : Rp} (h : Ag tr Γ L [R1, R2] L') (k : Go D0 ((Γ.set i (some R1)).set j (some R2)) L' (u E)) : Go D0 Γ L (tSeq (tPar i j tr) u E) := go_par (E := { E with nx := u E }) h k
theorem sq_while {tb : TS} {ι : Type} (ok : Nat → ι → Prop) (Γi : ι → Gm) (Li : ι → List Wd) (h0 : ∃ m x, ok m x ∧ Less (Γi x) Γ ∧ L = Li x)
    (hs : ∀ m x D1, Ex D0 D1 → ok m x → ∃ b, Tg tt (Γi x) (Li x) b (Li x) ∧ (b = true → ∀ N : L2.St → Hp → Prop, (∀ m' x', m' < m → ok m' x' → Go D1 (Γi x') (Li x') N) → Go D1 (Γi x) (Li x) (tb { E with nx := N, ct := N, bk := u E })) ∧ (b = false → Go D1 (Γi x) (Li x) (u E))) :
    Go D0 Γ L (tSeq (tWhile tt tb) u E) := go_while (E := { E with nx := u E }) ok Γi Li h0 hs
theorem sq_for {wi : TI} {g : TG} {tb : TS} {n : Nat} {Yr : Nat → Rp → Prop} {G : List Wd → Prop} {ι : Type} (hi : Ig wi Γ L n Yr L1 G) (ok : Nat → ι → Prop) (Γi : Nat → ι → Gm) (Li : Nat → ι → List Wd)
    (h0 : ∃ x, ok 0 x ∧ Less (Γi 0 x) Γ ∧ L1 = Li 0 x) (hG : ∀ i x, i ≤ n → ok i x → G (Li i x))
    (hb : ∀ i x R D1 (N : L2.St → Hp → Prop), i < n → Ex D0 D1 → ok i x → Yr i R → (∀ x', ok (i + 1) x' → Go D1 (Γi (i + 1) x') (Li (i + 1) x') N) → ∃ Γt S, Tgt g R (Γi i x) Γt S ∧ Go D1 Γt (Li i x) (tb { E with nx := N, ct := N, bk := u E }))
    (hd : ∀ x, ok n x → Go D0 (Γi n x) (Li n x) (u E)) : Go D0 Γ L (tSeq (tFor wi g tb) u E) := go_for (E := { E with nx := u E }) hi ok Γi Li h0 hG hb hd
theorem sq_forL {wi : TI} {g : TG} {tb : TS} {Yr : Nat → Rp → Prop} {G : List Wd → Prop} {β : Type} (xs : List β) (src : β → Rp) (hi : Ig wi Γ L xs.length Yr L1 G) (hY : ∀ i R, Yr i R → ∃ x, xs[i]? = some x ∧ R = src x)
    (Γi : List β → Gm) (Li : List β → List Wd) (h0 : Less (Γi []) Γ) (h1 : L1 = Li []) (hG : ∀ a, G (Li a))
    (hb : ∀ a x b D1 (N : L2.St → Hp → Prop), xs = a ++ x :: b → Ex D0 D1 → Go D1 (Γi (a ++ [x])) (Li (a ++ [x])) N → ∃ Γt S, Tgt g (src x) (Γi a) Γt S ∧ Go D1 Γt (Li a) (tb { E with nx := N, ct := N, bk := u E }))
    (hd : Go D0 (Γi xs) (Li xs) (u E)) : Go D0 Γ L (tSeq (tFor wi g tb) u E) := go_forL (E := { E with nx := u E }) xs src hi hY Γi Li h0 h1 hG hb hd
theorem sq_dput {td ty tv : TE} {kvs : List (L2.Key × Rp)} {k : L2.Key} {p : Addr} {j : Nat} (hv : Eg tv Γ L R L1) (ho : Eg td Γ L1 (rV (.ref p)) L2') (hk : Eg ty Γ L2' (rD (keyD k)) L') (hj : L'[j]? = some (wDK p kvs)) (hn : valR kvs k = none) (hz : kvs.length < 100000)
    (kk : Go D0 Γ (L'.set j (wDK p (kvs ++ [(k, R)]))) (u E)) : Go D0 Γ L (tSeq (sDPut td ty tv) u E) := go_dput (E := { E with nx := u E }) hv ho hk hj hn hz kk
section
variable {C x dx : Addr} {f : Str} {fs : List (Str × Rp)}
theorem sq_fldI {j : Nat} (c : Cls K C) (n : NoAttr K C f) (hv : Eg tb Γ L R L1) (ho : Eg ta Γ L1 (rV (.ref x)) L') (hj : L'[j]? = some (wIns x C dx fs)) (hf : fs.lookup f = none) (hz : fs.length < 1000) (k : Go D0 Γ (L'.set j (wIns x C dx (fs ++ [(f, R)]))) (u E)) :
    Go D0 Γ L (tSeq (sFld K ta tb f) u E) := go_fldI (E := { E with nx := u E }) c n hv ho hj hf hz k
theorem sq_fldI_dK {j : Nat} (c : Cls K C) (n : NoAttr K C f) (ho : ∀ p, Eg ta Γ (wDK p [] :: L) (rV (.ref x)) (wDK p [] :: L)) (hj : L[j]? = some (wIns x C dx fs)) (hf : fs.lookup f = none) (hz : fs.length < 1000) (k : ∀ p, Go D0 Γ (wDK p [] :: L.set j (wIns x C dx (fs ++ [(f, rV (.ref p))]))) (u E)) :
    Go D0 Γ L (tSeq (sFld K ta tDNewK f) u E) := go_fldI_dK (E := { E with nx := u E }) c n ho hj hf hz k
theorem sq_fldI_L {j : Nat} (c : Cls K C) (n : NoAttr K C f) (ho : ∀ p, Eg ta Γ (mL p [] :: L) (rV (.ref x)) (mL p [] :: L)) (hj : L[j]? = some (wIns x C dx fs)) (hf : fs.lookup f = none) (hz : fs.length < 1000) (k : ∀ p, Go D0 Γ (mL p [] :: L.set j (wIns x C dx (fs ++ [(f, rV (.ref p))]))) (u E)) :
    Go D0 Γ L (tSeq (sFld K ta (tLst tNil) f) u E) := go_fldI_L (E := { E with nx := u E }) c n ho hj hf hz k
end
/-- Γ' asks what Γ tells, slot by slot -/
theorem less_of {Γ Γ' : Gm} (hl : Γ'.length = Γ.length) (h : ∀ i, i < Γ'.length → Γ'[i]? = some none ∨ Γ'[i]? = Γ[i]?) : Less Γ' Γ := ⟨hl, fun i R e => by
  have hi := (List.getElem?_eq_some_iff.mp e).1
  rcases h i hi with q | q
  · rw [q] at e; cases e
  · rw [← q]; exact e⟩
end
end Fb

namespace Fb
open PySem PySem.Spec L2 Evl
open C8 (Cal Met Mak)
theorem trees_tops {N : Type} : ∀ F : Fo N, F.tops = F.trees.map (·.1)
  | .nil => rfl
  | .cons c k r => by simp [Fo.tops, Fo.trees, trees_tops r]
theorem trees_order {N : Type} : ∀ F : Fo N, F.order = F.trees.flatMap fun t => t.1 :: t.2.order
  | .nil => rfl
  | .cons c k r => by simp [Fo.order, Fo.trees, trees_order r]
theorem Sub.few {N : Type} : ∀ {F : Fo N} {c : N} {k : Fo N}, Sub F c k → k.order.length < F.order.length
  | .cons a k r, c, k', h => by
    simp only [Fo.order, List.length_append, List.length_cons]
    rcases h with ⟨rfl, rfl⟩ | h | h
    · omega
    · have := Sub.few h; omega
    · have := Sub.few h; omega
section
variable {P : Program} {w : World} {K : PySem.W.Frag} {mg : Str → Option Value} {base : Heap}
theorem c_order_from (W : Wo K mg base) : ∀ d, Cal P w K mg base (d + 1) "order_from" (sp_order_from P w d) []
  | 0 => cal_of (f_order_from W) (g_order_from W) b_order_from sc_order_from (fun _ _ => rfl) fun cdv A' outer s H E hr => ⟨_, pss_never, fun i F D0 Q o q => absurd o.2.2 (Nat.not_lt_zero _)⟩
  | d + 1 => by
    have c_order_from := c_order_from W d
    refine cal_of (f_order_from W) (g_order_from W) b_order_from sc_order_from (fun _ _ => rfl) fun cdv A' outer s H E hr => ⟨_, (pss_cons (ps_set (i := 2) sc_order_from.nd rfl (by first | exact Or.inl rfl | exact Or.inr rfl) (pe_lst (pa_cons (pv 1) pa_nil)))
    (pss_cons (ps_for PassesOwn.never rfl (pi_listK K (pe_ix ix_d0 (pv 0) (pv 1) fun _ _ => rfl)) (pg_name (i := 3) sc_order_from.nd rfl (by first | exact Or.inl rfl | exact Or.inr rfl)) (pss_one (ps_expr (pe_bmK K PySem.F.plainAttrs_list PySem.F.slot_list_extend PySem.F.type_list_extend mt_extend (pv 2) (pa_cons (C8.pe_c c_order_from hr (by first | decide | omega) rfl (pa_cons (pv 0) (pa_cons (pv 3) pa_nil))) pa_nil)))))
    (pss_one (ps_ret (pv 2))))), ?_⟩
    rintro ⟨ps, T, c, k⟩ F D0 Q ⟨ok, hs, hd⟩ q
    simp only at ok hs hd
    have few := ok.few
    have hk := hs.mem
    have hf := hs.few
    have ek : k.tops = Kids ps (some c) := ok.sh.kids c k hs
    refine sq_new (ag_cons (eg_var rfl) ag_nil) (by simp) fun p => ?_
    refine sq_forL (G := gT) k.trees (fun t => rD (.str t.1)) ?_ (fun i R y => y)
      (fun _ => [some (rKids P w ps), some (rD (.str c)), some (rV (.ref p)), none]) (fun a => mL p ((c :: a.flatMap fun t => t.1 :: t.2.order).map fun z => rD (.str z)) :: F) (Less.refl _) rfl (fun _ => trivial) (fun a t b D1 N e he kN => ?_) ?_
    · refine Ig.to (ig_listD (eg_op (Rb := rD (optD (some c))) (eg_var rfl) (eg_var rfl) (og_kids (x := some c) rfl rfl fun c' e => by rw [← Option.some.inj e]; exact ok.mem hk))) (by rw [List.length_map, ← ek, trees_tops, List.length_map]) fun i R _ y => ?_
      rw [← ek, trees_tops, List.map_map] at y
      obtain ⟨t, ht, rfl⟩ := yd_map y
      exact ⟨_, ⟨t, ht, rfl⟩, fun _ _ h => h⟩
    · have ht : t ∈ k.trees := by rw [e]; simp
      have hts := Fo.trees_sub (c := t.1) (k := t.2) ht
      refine ⟨_, _, tgt_name, go_drop (eg_extend (j := 0) (eg_var rfl) ⟨0, _, rfl⟩ (eg_callP (ps, T, t.1, t.2) ⟨ok, hs.trans hts, by have := hts.depth; show t.2.depth < d; omega⟩ (ag_cons (eg_var rfl) (ag_cons (eg_var rfl) ag_nil)) rfl) rfl ?_) ?_⟩
      · have h1 : (a.flatMap fun t => t.1 :: t.2.order).length ≤ k.order.length := by
          rw [trees_order k, e, List.flatMap_append, List.length_append]; omega
        have h2 := (hs.trans hts).few
        simp only [List.length_map, List.length_cons]
        omega
      · refine Go.less (Γ' := [some (rKids P w ps), some (rD (.str c)), some (rV (.ref p)), none]) ?_ ⟨rfl, fun i R h => by
          match i, h with
          | 0, h => exact h
          | 1, h => exact h
          | 2, h => exact h
          | 3, h => cases h⟩
        have el : (c :: (a ++ [t]).flatMap fun t => t.1 :: t.2.order).map (fun z => rD (.str z)) = ((c :: a.flatMap fun t => t.1 :: t.2.order).map fun z => rD (.str z)) ++ ((t.1 :: t.2.order).map PyData.str).map rD := by
          simp [List.flatMap_append, Function.comp_def]
        rw [el] at kN
        exact kN
    · refine go_ret (Eg.imp (eg_frz rfl) fun D v h => ?_) fun v D H e hd r => q v D H () e trivial hd r
      refine rD_lst ?_
      rw [trees_order k]
      simpa [Function.comp_def] using h
end
end Fb

namespace Fb
open PySem PySem.Spec L2 Evl
open C8 (Cal Met Mak)
section
variable {P : Program} {w : World} {K : PySem.W.Frag} {mg : Str → Option Value} {base : Heap}
theorem TreeOk.dep {ps : Prs Str} {F : Fo Str} (t : TreeOk ps F) : F.depth ≤ 8 := by
  have h1 := Fo.depth_le F
  have h2 := Fo.order_length F
  have h3 := t.few
  omega
theorem optD_non {D : Hp} {v : V} {x : Option Str} (h : (rD (optD x)).r D v) : decide (v = .non) = x.isNone := by
  cases x with
  | none => rw [non_of h]; rfl
  | some s => rw [str_of h]; rfl
/-- beneath -/
abbrev sp_Tree_beneath (P : Program) (w : World) (K : PySem.W.Frag) : Sp := spM P w K (fun i => Sub i.2.1 i.2.2.1 i.2.2.2) (fun i : Prs Str × Fo Str × Str × Fo Str => [rD (.str i.2.2.1)]) fun i => rD (strL (i.2.2.1 :: i.2.2.2.order))
theorem c_Tree_beneath (W : Wo K mg base) : Met P w K mg base 11 (cTr K) "beneath" (sp_Tree_beneath P w K) [] := by
  have c_Tree_want := c_Tree_want (P := P) (w := w) W
  have c_order_from := c_order_from (P := P) (w := w) W 8
  exact met_of (f_Tree_beneath W) (cl_Tree W) (me_Tree_beneath W) b_Tree_beneath sc_Tree_beneath (fun _ _ => rfl) fun cdv A' outer s H E hr => ⟨_, (pss_cons (ps_expr (C8.pe_mt c_Tree_want hr (by first | decide | omega) (pv 0) (pa_cons (pv 1) pa_nil)))
    (pss_one (ps_ret (C8.pe_c c_order_from hr (by first | decide | omega) rfl (pa_cons (pe_fldK K (pv 0)) (pa_cons (pv 1) pa_nil)))))), fun i F D0 Q o q =>
    sq_drop (eg_methP (i.1, i.2.1, i.2.2.1) ⟨o.1, o.2.mem⟩ (eg_var rfl) (ins_obj rfl) (ag_cons (eg_var rfl) ag_nil) (fun _ => .nil) rfl)
      (go_ret (eg_callP (i.1, i.2.1, i.2.2.1, i.2.2.2) ⟨o.1, o.2, by have := o.2.depth; have := o.1.dep; show i.2.2.2.depth < 8; omega⟩ (ag_cons (eg_fldO (cl_Tree W) (no_Tree_kids W) (eg_var rfl) rfl) (ag_cons (eg_var rfl) ag_nil)) rfl) fun v D H e hd r => q v D H () e trivial hd r)⟩
/-- children -/
theorem b_Tree_children {K : PySem.W.Frag} {a : Addr} (fd : FuncData) (F : FunD K "children" "Tree.children" (defArgs s_Tree_children) (defBody s_Tree_children) (defScope s_Tree_children) [.non] [] a fd) : ∃ ds, Vals [] ds ∧ Binds K fd P_Tree_children ds :=
  F.binds1 2 1 (by simp) rfl fun T kV doc pm an cdv ct us its hu hi => match us, hu, its, hi with | [_, _], _, [_], _ => ⟨_, rfl, rfl⟩
theorem b_Tree_children0 {K : PySem.W.Frag} {a : Addr} (fd : FuncData) (F : FunD K "children" "Tree.children" (defArgs s_Tree_children) (defBody s_Tree_children) (defScope s_Tree_children) [.non] [] a fd) : ∃ ds, Vals [.non] ds ∧ Binds K fd P_Tree_children ds :=
  F.binds1 1 0 (by simp) rfl fun T kV doc pm an cdv ct us its hu hi => match us, hu, its, hi with | [_], _, [_], _ => ⟨_, rfl, rfl⟩
abbrev sp_Tree_children (P : Program) (w : World) (K : PySem.W.Frag) : Sp := spM P w K (fun i => ∀ c, i.2.2 = some c → c ∈ i.2.1.order) (fun i : Prs Str × Fo Str × Option Str => [rD (optD i.2.2)]) fun i => rD (strL (Kids i.1 i.2.2))
theorem any_children (W : Wo K mg base) {dvs : List V} (hb : ∀ fd, FunD K "children" "Tree.children" (defArgs s_Tree_children) (defBody s_Tree_children) (defScope s_Tree_children) [.non] [] (He.ma K (He.ga K "Tree") "children") fd → ∃ ds, Vals dvs ds ∧ Binds K fd P_Tree_children ds) : Met P w K mg base 3 (cTr K) "children" (sp_Tree_children P w K) dvs := by
  have c_Tree_want := c_Tree_want (P := P) (w := w) W
  exact met_of (f_Tree_children W) (cl_Tree W) (me_Tree_children W) hb sc_Tree_children (fun _ _ => rfl) fun cdv A' outer s H E hr => ⟨_, (pss_cons (ps_if (pt_cmp (pc_notN (pv 1))) (pss_one (ps_expr (C8.pe_mt c_Tree_want hr (by first | decide | omega) (pv 0) (pa_cons (pv 1) pa_nil)))) pss_nil)
    (pss_one (ps_ret (pe_callTy (kCall K rListOf call_list_of) (by rfl) (n_list W) PyProof.Rows.boot_list (pa_cons (pe_ix ix_d0 (pe_fldK K (pv 0)) (pv 1) fun _ _ => rfl) pa_nil))))), fun ⟨ps, T, x⟩ F D0 Q o q => by
    have last : Go D0 (gam N_Tree_children [rTree P w K ps T, rD (optD x)]) ([] ++ F) (tRet (tCB (rListOf K) (tCons (tOp (rIxZ (cxOf C8.CX0 P w K mg base N_Tree_children "Tree.children" (defScope s_Tree_children) (He.ma K (He.ga K "Tree") "children") cdv A' outer s H E).nox) (tFld K (tVar 0) "kids") (tVar 1)) tNil)) { nx := fun _ H' => Q .non H', rt := Q }) :=
      go_ret (eg_cb (ag_cons (eg_op (Rb := rD (optD x)) (eg_fldO (cl_Tree W) (no_Tree_kids W) (eg_var rfl) rfl) (eg_var rfl) (og_kids rfl rfl fun c' e => o.1.mem (o.2 c' e))) ag_nil) cg_listD) fun v D H e hd r => q v D H () e trivial hd r
    refine sq_if (tg_test (eg_notN (eg_var rfl) fun D v => optD_non)) (fun e => ?_) fun _ => go_next last
    cases x with
    | none => cases e
    | some c => exact go_drop (eg_methP (ps, T, c) ⟨o.1, o.2 c rfl⟩ (eg_var rfl) (ins_obj rfl) (ag_cons (eg_var rfl) ag_nil) (fun _ => .nil) rfl) last⟩
theorem c_Tree_children (W : Wo K mg base) : Met P w K mg base 3 (cTr K) "children" (sp_Tree_children P w K) [] := any_children W b_Tree_children
theorem c_Tree_children0 (W : Wo K mg base) : Met P w K mg base 3 (cTr K) "children" (sp_Tree_children P w K) [.non] := any_children W b_Tree_children0
end
end Fb

namespace Fb
open PySem PySem.Spec L2 Evl
open C8 (Cal Met Mak)
section
variable {P : Program} {w : World} {K : PySem.W.Frag} {mg : Str → Option Value} {base : Heap}
theorem TreeOk.ovr {ps : Prs Str} {F : Fo Str} (t : TreeOk ps F) {as : List Str} {c : Str} {k : Fo Str} (h : Node F as c k) : (c, as.getLast?) ∈ ps := by
  have := Node.over (F := F) (o := none) h fun p q => q
  have := pairs_mem t.sh _ this
  cases q : as.getLast? <;> rw [q] at this <;> exact this
abbrev sp_Tree_above (P : Program) (w : World) (K : PySem.W.Frag) : Sp := spM P w K (fun i => ∃ k, Node i.2.1 i.2.2.1 i.2.2.2 k) (fun i : Prs Str × Fo Str × List Str × Str => [rD (.str i.2.2.2)]) fun i => rD (strL i.2.2.1)
theorem c_Tree_above (W : Wo K mg base) : Met P w K mg base 4 (cTr K) "above" (sp_Tree_above P w K) [] := by
  have c_Tree_over := c_Tree_over (P := P) (w := w) W
  refine met_of (f_Tree_above W) (cl_Tree W) (me_Tree_above W) b_Tree_above sc_Tree_above (fun _ _ => rfl) fun cdv A' outer s H E hr => ⟨_, (pss_cons (ps_set (i := 2) sc_Tree_above.nd rfl (by first | exact Or.inl rfl | exact Or.inr rfl) (pe_lst pa_nil))
    (pss_cons (ps_set (i := 3) sc_Tree_above.nd rfl (by first | exact Or.inl rfl | exact Or.inr rfl) (C8.pe_mt c_Tree_over hr (by first | decide | omega) (pv 0) (pa_cons (pv 1) pa_nil)))
    (pss_cons (ps_while PassesOwn.never (pt_cmp (pc_notN (pv 3))) (pss_cons (ps_expr (pe_bmK K PySem.F.plainAttrs_list PySem.F.slot_list_append PySem.F.type_list_append mt_append (pv 2) (pa_cons (pv 3) pa_nil)))
    (pss_one (ps_set (i := 3) sc_Tree_above.nd rfl (by first | exact Or.inl rfl | exact Or.inr rfl) (pe_dget (hu_of hr) (pe_fldK K (pv 0)) (pv 3) fun _ _ => rfl)))))
    (pss_one (ps_ret (pe_revL (pv 2))))))), ?_⟩
  rintro ⟨ps, T, as, c⟩ F D0 Q ⟨ok, k, hn⟩ q
  simp only at ok hn
  have la : as.length ≤ 8 := by have := hn.len; have := ok.dep; omega
  refine sq_new ag_nil (by simp) fun p => ?_
  refine sq_asg (eg_methP (ps, T, c, as.getLast?) ⟨ok, ok.ovr hn, hn.sub.mem⟩ (eg_var rfl) (ins_obj rfl) (ag_cons (eg_var rfl) ag_nil) (fun _ => .nil) rfl) ?_
  refine sq_while (ι := List Str × List Str) (fun m x => m = x.1.length ∧ as = x.1 ++ x.2 ∧ ∃ c k, Node T x.1 c k)
    (fun x => [some (rTree P w K ps T), some (rD (.str c)), some (rV (.ref p)), some (rD (optD x.1.getLast?))])
    (fun x => mL p (x.2.reverse.map fun z => rD (.str z)) :: F) ⟨as.length, (as, []), ⟨rfl, by simp, c, k, hn⟩, Less.refl _, rfl⟩ ?_
  rintro m ⟨xs, ys⟩ D1 e1 ⟨hm, e, c', k', hn'⟩
  simp only at hm e hn'
  refine ⟨!xs.getLast?.isNone, tg_test (eg_notN (eg_var rfl) fun D v => optD_non), fun hb N kN => ?_, fun hb => ?_⟩
  · obtain ⟨x, hx⟩ : ∃ x, xs.getLast? = some x := by
      cases h : xs.getLast? with
      | none => rw [h] at hb; cases hb
      | some x => exact ⟨x, rfl⟩
    obtain ⟨r, rfl⟩ := List.getLast?_eq_some_iff.mp hx
    obtain ⟨j, hj⟩ := Node.up hn'
    refine sq_drop (eg_append (j := 0) (R := rD (.str x)) (eg_var rfl) ⟨0, _, rfl⟩ (eg_var (by show some (some (rD (optD (r ++ [x]).getLast?))) = _; rw [hx]; rfl)) rfl ?_) ?_
    · rw [List.length_map, List.length_reverse]
      have : as.length = (r ++ [x]).length + ys.length := by rw [e, List.length_append]
      show ys.length < 100000
      omega
    · refine go_asg (R := rD (optD r.getLast?)) (eg_dget (k := Sum.inr x) (eg_fldO (cl_Tree W) (no_Tree_overs W) (eg_var rfl) rfl) (eg_var (by show some (some (rD (optD (r ++ [x]).getLast?))) = _; rw [hx]; rfl)) isdk_f (overs_val ok.nd (ok.ovr hj))) ?_
      have := kN r.length (r, x :: ys) (by rw [hm]; simp) ⟨rfl, by rw [e]; simp, x, j, hj⟩
      have el : ((x :: ys).reverse.map fun z => rD (.str z)) = (ys.reverse.map fun z => rD (.str z)) ++ [rD (.str x)] := by simp
      rw [el] at this
      exact this
  · have : xs = [] := by
      cases h : xs.getLast? with
      | none => exact List.getLast?_eq_none_iff.mp h
      | some x => rw [h] at hb; cases hb
    subst this
    refine go_ret (eg_revL (ds := ys.reverse.map .str) (Eg.imp (eg_frz rfl) fun D v h => rD_lst (by simpa [Function.comp_def] using h))) fun v D H e' hd r => q v D H () (e1.trans e') trivial hd ?_
    show (rD (.list (as.map .str))).r D v
    rw [e]
    simpa using r
end
end Fb

/-! A dict with the lists that stand in it, all of it changing. -/
namespace Fb
open PySem PySem.Spec L2 Evl
theorem Hd.put {D H H' : Hp} {L : List Wd} {j : Nat} {w w' : Wd} (h : Hd D H L) (hj : L[j]? = some w) (k : ∀ a, a ∉ w.dom → a ∉ w'.dom → H' a = H a) (hd : ∀ a ∈ w'.dom, a ∈ w.dom ∨ ∀ (i : Nat) u, i ≠ j → L[i]? = some u → a ∉ u.dom) (hs : w'.s D H') : Hd D H' (L.set j w') := by
  have lj : j < L.length := (List.getElem?_eq_some_iff.mp hj).1
  have out : ∀ (i : Nat) u, i ≠ j → L[i]? = some u → ∀ a ∈ u.dom, a ∉ w'.dom := fun i u ne hi a ha hw => by
    rcases hd a hw with q | q
    · exact h.dj i j u w ne hi hj a ha q
    · exact q i u ne hi ha
  refine ⟨fun a o q => ?_, fun i u hi => ?_, fun i i' u u' ne hi hi' a ha hb => ?_⟩
  · rw [k a (fun ha => by rw [(w.al (h.s j w hj) ha).2] at q; cases q) (fun ha => by rw [(w'.al hs ha).2] at q; cases q)]
    exact h.ex a o q
  · rw [List.getElem?_set] at hi
    by_cases e : j = i
    · rw [if_pos e, if_pos lj] at hi
      cases hi
      exact hs
    · rw [if_neg e] at hi
      have e' : i ≠ j := fun z => e z.symm
      exact u.st (h.s i u hi) (Ex.refl D) fun a ha => ⟨k a (h.dj i j u w e' hi hj a ha) (out i u e' hi a ha), (u.al (h.s i u hi) ha).2⟩
  · rw [List.getElem?_set] at hi hi'
    by_cases e : j = i
    · rw [if_pos e, if_pos lj] at hi
      cases hi
      rw [if_neg (fun z => ne (e.symm.trans z))] at hi'
      exact out i' u' (fun z => ne (e.symm.trans z.symm)) hi' a hb ha
    · rw [if_neg e] at hi
      by_cases e' : j = i'
      · rw [if_pos e', if_pos lj] at hi'
        cases hi'
        exact out i u (fun z => e z.symm) hi a ha hb
      · rw [if_neg e'] at hi'
        exact h.dj i i' u u' ne hi hi' a ha hb
/-- what of w is known from now on -/
def kn (D H : Hp) (dom dom' : List Addr) : Hp := fun a => if a ∈ dom ∧ a ∉ dom' then H a else D a
theorem Hd.give {D H : Hp} {L : List Wd} {j : Nat} {w w' : Wd} (h : Hd D H L) (hj : L[j]? = some w) (hd : ∀ a ∈ w'.dom, a ∈ w.dom) : Ex D (kn D H w.dom w'.dom) ∧ (w'.s (kn D H w.dom w'.dom) H → Hd (kn D H w.dom w'.dom) H (L.set j w')) := by
  have lj : j < L.length := (List.getElem?_eq_some_iff.mp hj).1
  have e0 : Ex D (kn D H w.dom w'.dom) := fun a o q => by
    unfold kn
    by_cases z : a ∈ w.dom ∧ a ∉ w'.dom
    · rw [if_pos z]; exact h.ex a o q
    · rw [if_neg z]; exact q
  refine ⟨e0, fun hs => ⟨fun a o q => ?_, fun i u hi => ?_, fun i i' u u' ne hi hi' a ha hb => ?_⟩⟩
  · unfold kn at q
    by_cases z : a ∈ w.dom ∧ a ∉ w'.dom
    · rw [if_pos z] at q; exact q
    · rw [if_neg z] at q; exact h.ex a o q
  · rw [List.getElem?_set] at hi
    by_cases e : j = i
    · rw [if_pos e, if_pos lj] at hi
      cases hi
      exact hs
    · rw [if_neg e] at hi
      refine u.st (h.s i u hi) e0 fun a ha => ⟨rfl, ?_⟩
      unfold kn
      rw [if_neg fun z => h.dj i j u w (fun z => e z.symm) hi hj a ha z.1]
      exact (u.al (h.s i u hi) ha).2
  · rw [List.getElem?_set] at hi hi'
    by_cases e : j = i
    · rw [if_pos e, if_pos lj] at hi
      cases hi
      rw [if_neg (fun z => ne (e.symm.trans z))] at hi'
      exact h.dj j i' w u' (fun z => ne (e.symm.trans z)) hj hi' a (hd a ha) hb
    · rw [if_neg e] at hi
      by_cases e' : j = i'
      · rw [if_pos e', if_pos lj] at hi'
        cases hi'
        exact h.dj i j u w (fun z => e z.symm) hi hj a ha (hd a hb)
      · rw [if_neg e'] at hi'
        exact h.dj i i' u u' ne hi hi' a ha hb
structure Oh where
  r : Hp → HO → Prop
  m : ∀ {D D' : Hp} {o : HO}, Ex D D' → r D o → r D' o
def wTab (O : Oh) (p : Addr) (qs : List (Addr × List Rp)) : Wd where
  dom := p :: qs.map (·.1)
  s := fun D H => (p :: qs.map (·.1)).Nodup ∧ (D p = none ∧ ∃ o, H p = some o ∧ O.r D o) ∧ ∀ e ∈ qs, D e.1 = none ∧ ∃ vs, H e.1 = some (.lst vs) ∧ AllR D vs e.2
  al := fun {D H a} h ha => by
    obtain ⟨_, ⟨h1, o, h2, _⟩, h3⟩ := h
    rcases List.mem_cons.mp ha with e | ha
    · subst e; exact ⟨⟨o, h2⟩, h1⟩
    · obtain ⟨e, he, rfl⟩ := List.mem_map.mp ha
      obtain ⟨k1, vs, k2, _⟩ := h3 e he
      exact ⟨⟨_, k2⟩, k1⟩
  st := fun {D H D' H'} h e k => by
    obtain ⟨h0, ⟨h1, o, h2, h4⟩, h3⟩ := h
    obtain ⟨k1, k2⟩ := k p (List.mem_cons_self ..)
    refine ⟨h0, ⟨k2, o, by rw [k1]; exact h2, O.m e h4⟩, fun x hx => ?_⟩
    obtain ⟨g1, vs, g2, g3⟩ := h3 x hx
    obtain ⟨k3, k4⟩ := k x.1 (List.mem_cons_of_mem _ (List.mem_map.mpr ⟨x, hx, rfl⟩))
    exact ⟨k4, vs, by rw [k3]; exact g2, g3.up e⟩
section
variable {D H : Hp} {L : List Wd} {O O' : Oh} {p q : Addr} {qs : List (Addr × List Rp)} {j n : Nat} {o o' : HO} {Rs Rs' : List Rp}
theorem Hd.tabNew (h : Hd D H L) (hp : H p = none) (r : O.r D o) : Hd D (upd H p o) (wTab O p [] :: L) :=
  h.new (Ex.new hp) (fun a ha => by rw [List.mem_singleton.mp ha]; exact hp) ⟨by simp, ⟨h.dnone hp, o, upd_same, r⟩, fun e he => nomatch he⟩
theorem Hd.tabAt (h : Hd D H L) (hj : L[j]? = some (wTab O p qs)) : D p = none ∧ ∃ o, H p = some o ∧ O.r D o := (h.s _ _ hj).2.1
theorem Hd.tabUpd (h : Hd D H L) (hj : L[j]? = some (wTab O p qs)) (r : O'.r D o') : Hd D (upd H p o') (L.set j (wTab O' p qs)) := by
  obtain ⟨h0, ⟨h1, o, h2, h4⟩, h3⟩ := h.s _ _ hj
  refine h.set hj (fun a ha => upd_ne fun z => ha (by rw [z]; exact List.mem_cons_self ..)) (fun a ha => ha) ⟨h0, ⟨h1, o', upd_same, r⟩, fun e he => ?_⟩
  obtain ⟨g1, vs, g2, g3⟩ := h3 e he
  exact ⟨g1, vs, by rw [upd_ne fun z => (List.nodup_cons.mp h0).1 (by rw [← (show e.1 = p from z)]; exact List.mem_map.mpr ⟨e, he, rfl⟩)]; exact g2, g3⟩
theorem Hd.tabMerge (h : Hd D H (mL q Rs :: L)) (hj : L[j]? = some (wTab O p qs)) (r : O'.r D o') : Hd D (upd H p o') (L.set j (wTab O' p (qs ++ [(q, Rs)]))) := by
  obtain ⟨h0, ⟨h1, o, h2, h4⟩, h3⟩ := h.tail.s _ _ hj
  obtain ⟨q1, vs, q2, q3⟩ := h.s 0 _ rfl
  have nq : q ∉ p :: qs.map (·.1) := h.dj 0 (j + 1) _ _ (by omega) rfl hj q (List.mem_singleton.mpr rfl)
  refine h.tail.put hj (fun a ha _ => upd_ne fun z => ha (by rw [z]; exact List.mem_cons_self ..)) (fun a ha => ?_) ⟨?_, ⟨h1, o', upd_same, r⟩, fun e he => ?_⟩
  · have ha' : a ∈ p :: (qs ++ [(q, Rs)]).map (·.1) := ha
    rw [List.map_append, ← List.cons_append] at ha'
    rcases List.mem_append.mp ha' with z | z
    · exact .inl z
    · have : a = q := by simpa using z
      subst this
      exact .inr fun i u ne hi => h.dj 0 (i + 1) _ _ (by omega) rfl hi a (List.mem_singleton.mpr rfl)
  · rw [List.map_append, ← List.cons_append]
    refine List.nodup_append.mpr ⟨h0, by simp, fun a ha b hb => ?_⟩
    have : b = q := by simpa using hb
    subst this
    exact fun z => nq (z ▸ ha)
  · rcases List.mem_append.mp he with he | he
    · obtain ⟨g1, ws, g2, g3⟩ := h3 e he
      exact ⟨g1, ws, by rw [upd_ne fun z => (List.nodup_cons.mp h0).1 (by rw [← (show e.1 = p from z)]; exact List.mem_map.mpr ⟨e, he, rfl⟩)]; exact g2, g3⟩
    · have : e = (q, Rs) := by simpa using he
      subst this
      exact ⟨q1, vs, by rw [upd_ne fun z => nq (by rw [show q = p from z]; exact List.mem_cons_self ..)]; exact q2, q3⟩
theorem Hd.tabList (h : Hd D H L) (hj : L[j]? = some (wTab O p qs)) (hn : qs[n]? = some (q, Rs)) : D q = none ∧ ∃ vs, H q = some (.lst vs) ∧ AllR D vs Rs := (h.s _ _ hj).2.2 (q, Rs) (List.mem_of_getElem? hn)
theorem Hd.tabSet {vs : List V} (h : Hd D H L) (hj : L[j]? = some (wTab O p qs)) (hn : qs[n]? = some (q, Rs)) (r : AllR D vs Rs') : Hd D (upd H q (.lst vs)) (L.set j (wTab O p (qs.set n (q, Rs')))) := by
  obtain ⟨h0, ⟨h1, o, h2, h4⟩, h3⟩ := h.s _ _ hj
  have hq : q ∈ qs.map (·.1) := List.mem_map.mpr ⟨_, List.mem_of_getElem? hn, rfl⟩
  have em : (qs.set n (q, Rs')).map (·.1) = qs.map (·.1) := by
    rw [List.map_set]
    apply List.ext_getElem?
    intro i
    rw [List.getElem?_set]
    by_cases e : n = i
    · subst e
      rw [if_pos rfl, List.getElem?_map, hn]
      have := (List.getElem?_eq_some_iff.mp hn).1
      simp [this]
    · rw [if_neg e]
  have pq : p ≠ q := fun z => (List.nodup_cons.mp h0).1 (z ▸ hq)
  refine h.set hj (fun a ha => upd_ne fun z => ha (by rw [z]; exact List.mem_cons_of_mem _ hq)) (fun a ha => by
    have ha' : a ∈ p :: (qs.set n (q, Rs')).map (·.1) := ha
    rw [em] at ha'; exact ha') ⟨by rw [em]; exact h0, ⟨h1, o, by rw [upd_ne pq]; exact h2, h4⟩, fun e he => ?_⟩
  obtain ⟨i, hi⟩ := List.mem_iff_getElem?.mp he
  rw [List.getElem?_set] at hi
  by_cases z : n = i
  · rw [if_pos z] at hi
    by_cases l : n < qs.length
    · rw [if_pos l] at hi
      cases hi
      exact ⟨(h3 _ (List.mem_of_getElem? hn)).1, vs, upd_same, r⟩
    · rw [if_neg l] at hi; cases hi
  · rw [if_neg z] at hi
    obtain ⟨g1, ws, g2, g3⟩ := h3 e (List.mem_of_getElem? hi)
    refine ⟨g1, ws, ?_, g3⟩
    rw [upd_ne fun w => ?_]
    · exact g2
    · have nd := (List.nodup_cons.mp h0).2
      have a1 : (qs.map (·.1))[n]? = some q := by rw [List.getElem?_map, hn]; rfl
      have a2 : (qs.map (·.1))[i]? = some q := by rw [List.getElem?_map, hi]; exact congrArg some w
      have l1 := (List.getElem?_eq_some_iff.mp a1).1
      exact z ((List.getElem?_inj l1 nd).mp (a1.trans a2.symm))
/-- the lists are known from now on -/
theorem Hd.tabLists (h : Hd D H L) (hj : L[j]? = some (wTab O p qs)) : ∃ D', Ex D D' ∧ Hd D' H (L.set j (wTab O p [])) ∧ ∀ e ∈ qs, (rLst e.2).r D' (.ref e.1) := by
  obtain ⟨h0, ⟨h1, o, h2, h4⟩, h3⟩ := h.s _ _ hj
  obtain ⟨e0, g⟩ := h.give (w' := wTab O p []) hj (fun a ha => by rw [List.mem_singleton.mp ha]; exact List.mem_cons_self ..)
  refine ⟨_, e0, g ⟨by simp, ⟨?_, o, h2, O.m e0 h4⟩, fun e he => nomatch he⟩, fun e he => ?_⟩
  · unfold kn
    rw [if_neg fun z => z.2 (List.mem_cons_self ..)]
    exact h1
  · obtain ⟨g1, vs, g2, g3⟩ := h3 e he
    refine ⟨e.1, vs, rfl, ?_, g3.up e0⟩
    unfold kn
    rw [if_pos ⟨List.mem_cons_of_mem _ (List.mem_map.mpr ⟨e, he, rfl⟩), fun z => (List.nodup_cons.mp h0).1 (by rw [← (List.mem_singleton.mp z : e.1 = p)]; exact List.mem_map.mpr ⟨e, he, rfl⟩)⟩]
    exact g2
/-- the dict is known from now on -/
theorem Hd.tabKnow (h : Hd D H (wTab O p [] :: L)) : ∃ D' o, Ex D D' ∧ Hd D' H L ∧ D' p = some o ∧ O.r D' o := by
  obtain ⟨h1, o, h2, h4⟩ := h.tabAt (j := 0) rfl
  obtain ⟨e, h'⟩ := h.known rfl h2
  exact ⟨_, o, e, h', upd_same, O.m e h4⟩
theorem Hd.tabFreeze (h : Hd D H (wTab O p qs :: L)) : ∃ D' o, Ex D D' ∧ Hd D' H L ∧ (D' p = some o ∧ O.r D' o) ∧ ∀ e ∈ qs, (rLst e.2).r D' (.ref e.1) := by
  obtain ⟨D1, e1, h1, l1⟩ := h.tabLists (j := 0) rfl
  obtain ⟨D2, o, e2, h2, h3, h4⟩ := Hd.tabKnow (L := L) h1
  exact ⟨D2, o, e1.trans e2, h2, ⟨h3, h4⟩, fun e he => (rLst e.2).m e2 (l1 e he)⟩
end
end Fb

namespace Fb
open PySem PySem.Spec L2 Evl
section
variable {K : PySem.W.Frag} {Γ Γ' : Gm} {L L1 L2' L3 L' : List Wd} {R Ra Rb Rc Y : Rp} {te ta tb tc tl tk td tv : TE} {tr : TA} {D0 : Hp} {i : Nat} {E : Ends} {u t : TS} {tt : TT}
theorem og_neI {a b : Int} : Og rNe (rD (.int a)) (rD (.int b)) L (rD (.bool (!decide (a = b)))) L := fun x y D H hd rx ry Q q => by
  rw [int_of rx, int_of ry]
  exact ⟨rfl, q _ D H (Ex.refl D) hd (by rw [show decide (V.int a = V.int b) = decide (a = b) from by simp]; exact .bl _)⟩
/-- self.f = e, what e makes told by x -/
theorem sq_fldX {ι : Type} {okx : ι → Prop} {Rx : ι → Rp} {Lx : ι → List Wd} {C x dx : Addr} {f : Str} {fs : List (Str × Rp)} {j : Nat} (c : Cls K C) (n : NoAttr K C f) (hv : Xg tb Γ L fun v D H => ∃ z, okx z ∧ Hd D H (Lx z) ∧ (Rx z).r D v) (ho : ∀ z, okx z → Eg ta Γ (Lx z) (rV (.ref x)) (Lx z))
    (hj : ∀ z, okx z → (Lx z)[j]? = some (wIns x C dx fs)) (hf : fs.lookup f = none) (hz : fs.length < 1000) (k : ∀ z, okx z → Go D0 Γ ((Lx z).set j (wIns x C dx (fs ++ [(f, Rx z)]))) (u E)) :
    Go D0 Γ L (tSeq (sFld K ta tb f) u E) := fun σ D H e g hd => hv σ D H g hd _ fun y D1 H1 e1 ⟨z, oz, h1, r1⟩ => ho z oz σ D1 H1 (g.up e1) h1 _ fun x' D2 H2 e2 h2 r2 => by
  obtain ⟨n1, gs, h3, h4⟩ := h2.s _ _ (hj z oz)
  exact ⟨x, C, dx, gs, r2, h3, c, n, by rw [h4.len]; exact hz, k z oz σ D2 _ ((e.trans e1).trans e2) ((g.up e1).up e2) (h2.set (hj z oz) (fun a ha => upd_ne fun z => ha (List.mem_singleton.mpr z)) (fun a ha => ha) ⟨n1, _, upd_same, h4.put ((Rx z).m e2 r1) hf⟩)⟩
/-- the words may be told otherwise -/
theorem Go.pre {P : L2.St → Hp → Prop} (h : ∀ D H, Hd D H L → ∃ D', Ex D D' ∧ Hd D' H L') (k : Go D0 Γ L' P) : Go D0 Γ L P := fun σ D H e g hd => by
  obtain ⟨D', e', h'⟩ := h D H hd
  exact k σ D' H (e.trans e') (g.up e') h'
end
/-! ### {None: [..], name: [..]} -/
section
variable (P : Program) (w : World)
abbrev KEnt := Option Str × Addr × List Str
def ohZ (p : Addr) (es : List KEnt) : Oh := ⟨fun _ o => o = DZx P w p (es.map fun e => (e.1.map Sum.inr, .ref e.2.1)), fun _ h => h⟩
def wKids (p : Addr) (es : List KEnt) : Wd := wTab (ohZ P w p es) p (es.map fun e => (e.2.1, e.2.2.map fun z => rD (.str z)))
end
section
variable {P : Program} {w : World} {X : Cx} {K : PySem.W.Frag} {Γ Γ' : Gm} {L L1 L2' L3 L' : List Wd} {R Ra Rb Rc Y : Rp} {te ta tb tc tl tk td tv : TE} {D0 : Hp} {i j n : Nat} {E : Ends} {u t : TS} {p q : Addr} {es : List KEnt} {x : Option Str} {cs : List Str} {c : Str}
theorem inr_inj {a b : Option Str} (h : a.map (Sum.inr : Str → Key) = b.map Sum.inr) : a = b := by
  cases a <;> cases b <;> simp_all
theorem val_ents (es : List KEnt) (nd : (es.map (·.1)).Nodup) (h : es[n]? = some (x, q, cs)) : valV (es.map fun e => (e.1.map (Sum.inr : Str → Key), V.ref e.2.1)) (x.map Sum.inr) = some (.ref q) := by
  induction es generalizing n with
  | nil => simp at h
  | cons e r ih =>
    rw [List.map_cons, List.nodup_cons] at nd
    rw [List.map_cons]
    cases n with
    | zero =>
      simp at h
      subst h
      exact valV_pos rfl
    | succ n =>
      have h' : r[n]? = some (x, q, cs) := by simpa using h
      rw [valV_neg fun z => nd.1 (by rw [inr_inj z]; exact List.mem_map.mpr ⟨_, List.mem_of_getElem? h', rfl⟩)]
      exact ih nd.2 h'
theorem val_ents_none (es : List KEnt) (h : ∀ e ∈ es, e.1 ≠ x) : valV (es.map fun e => (e.1.map (Sum.inr : Str → Key), V.ref e.2.1)) (x.map Sum.inr) = none := by
  induction es with
  | nil => rfl
  | cons e r ih =>
    rw [List.map_cons, valV_neg fun z => h e (List.mem_cons_self ..) (inr_inj z)]
    exact ih fun e he => h e (List.mem_cons_of_mem _ he)
theorem kO_opt {D : Hp} {v : V} (h : (rD (optD x)).r D v) : v = kO (x.map Sum.inr) := by
  cases x with
  | none => exact non_of h
  | some s => exact str_of h
/-- {None: []} -/
theorem xg_disp (hP : X.prog = P) (hw : X.w = w) : Xg (tDispZ X (tLst tNil)) Γ L fun v D H => ∃ z : Addr × Addr, True ∧ Hd D H (wKids P w z.1 [(none, z.2, [])] :: L) ∧ (rV (.ref z.1)).r D v := fun σ D H g hd Q q => by
  subst hP hw
  intro p hp
  refine ⟨Nat.zero_le _, fun r hr => ⟨rfl, ?_, ?_⟩⟩
  · have ne : p ≠ r := fun z => by rw [z, upd_same] at hr; cases hr
    rw [upd_ne ne]; exact upd_same
  · have d1 := hd.tabNew (O := ohZ X.prog X.w p []) hp rfl
    have d2 := d1.new (w := mL r []) (Ex.new hr) (fun a ha => by rw [List.mem_singleton.mp ha]; exact hr) ⟨d1.dnone hr, [], upd_same, .nil⟩
    have d3 := d2.tabMerge (j := 0) (O' := ohZ X.prog X.w p [(none, r, [])]) rfl rfl
    exact q _ D _ (Ex.refl D) ⟨(p, r), trivial, d3, rfl⟩
/-- kids[x] = [], x new -/
theorem sq_kput (hP : X.prog = P) (hw : X.w = w) (ho : ∀ q, Eg td Γ (mL q [] :: L) (rV (.ref p)) (mL q [] :: L)) (hk : ∀ q, Eg tk Γ (mL q [] :: L) (rD (optD x)) (mL q [] :: L)) (hj : L[j]? = some (wKids P w p es)) (hn : ∀ e ∈ es, e.1 ≠ x) (hz : es.length < 1000)
    (k : ∀ q, Go D0 Γ (L.set j (wKids P w p (es ++ [(x, q, [])]))) (u E)) : Go D0 Γ L (tSeq (tAsg (tLst tNil) (gSub td tk (rSetZ X))) u E) := fun σ D H e g hd => by
  subst hP hw
  refine ⟨Nat.zero_le _, fun r hr => ?_⟩
  have d1 := hd.new (w := mL r []) (Ex.new hr) (fun a ha => by rw [List.mem_singleton.mp ha]; exact hr) ⟨hd.dnone hr, [], upd_same, .nil⟩
  refine ho r σ D _ g d1 _ fun o D2 H2 e2 d2 r2 => hk r σ D2 H2 (g.up e2) d2 _ fun y D3 H3 e3 d3 r3 => ?_
  obtain ⟨_, o', ho', rfl⟩ := d3.tail.tabAt hj
  refine ⟨p, x.map Sum.inr, _, r2, kO_opt r3, ho', by rw [List.length_map]; exact sz_lt (by omega), ?_⟩
  rw [putK_new _ (val_ents_none es hn)]
  have d4 := d3.tabMerge (q := r) (Rs := []) (O' := ohZ X.prog X.w p (es ++ [(x, r, [])])) hj (o' := DZx X.prog X.w p (es.map (fun e => (e.1.map Sum.inr, V.ref e.2.1)) ++ [(x.map Sum.inr, .ref r)])) (by show _ = _; simp)
  have d5 : Hd D3 (upd H3 p (DZx X.prog X.w p (es.map (fun e => (e.1.map Sum.inr, V.ref e.2.1)) ++ [(x.map Sum.inr, .ref r)]))) (L.set j (wKids X.prog X.w p (es ++ [(x, r, [])]))) := by
    unfold wKids
    rw [List.map_append]
    exact d4
  exact k r σ D3 _ ((e.trans e2).trans e3) ((g.up e2).up e3) d5
/-- kids[x].append(c) -/
theorem eg_kapp (hP : X.prog = P) (hw : X.w = w) (ho : Eg td Γ L (rV (.ref p)) L) (hk : Eg tk Γ L (rD (optD x)) L) (hv : Eg tv Γ L (rD (.str c)) L) (hj : L[j]? = some (wKids P w p es)) (nd : (es.map (·.1)).Nodup) (hn : es[n]? = some (x, q, cs)) (hz : cs.length < 100000) :
    Eg (tBM K "list" rAppend (tOp (rIxZ X) td tk) (tCons tv tNil)) Γ L (rV .non) (L.set j (wKids P w p (es.set n (x, q, cs ++ [c])))) := fun σ D H g hd Q k => by
  subst hP hw
  refine ho σ D H g hd _ fun o D2 H2 e2 d2 r2 => hk σ D2 H2 (g.up e2) d2 _ fun y D3 H3 e3 d3 r3 => ?_
  obtain ⟨_, o', ho', rfl⟩ := d3.tabAt hj
  have hq : (es.map fun e => (e.2.1, e.2.2.map fun z => rD (.str z)))[n]? = some (q, cs.map fun z => rD (.str z)) := by rw [List.getElem?_map, hn]; rfl
  refine ⟨p, x.map Sum.inr, _, .ref q, r2, kO_opt r3, ho', val_ents es nd hn, ?_⟩
  obtain ⟨_, vs0, h0, _⟩ := d3.tabList hj hq
  refine ⟨Or.inl ⟨rfl, vs0, SqL.of h0⟩, hv σ D3 H3 ((g.up e2).up e3) d3 _ fun v D4 H4 e4 d4 r4 => ?_⟩
  obtain ⟨_, vs, h4, a4⟩ := d4.tabList hj hq
  refine ⟨q, vs, v, rfl, rfl, h4, sz_lt (by rw [a4.len, List.length_map]; exact hz), k _ D4 _ ((e2.trans e3).trans e4) ?_ rfl⟩
  have d5 := d4.tabSet (vs := vs ++ [v]) (Rs' := (cs ++ [c]).map fun z => rD (.str z)) hj hq (by rw [List.map_append]; exact a4.app (.cons r4 .nil))
  have eo : ohZ X.prog X.w p (es.set n (x, q, cs ++ [c])) = ohZ X.prog X.w p es := by
    have el : (es.set n (x, q, cs ++ [c])).map (fun e => (e.1.map (Sum.inr : Str → Key), V.ref e.2.1)) = es.map (fun e => (e.1.map (Sum.inr : Str → Key), V.ref e.2.1)) := by
      rw [List.map_set]
      apply List.ext_getElem?
      intro i
      rw [List.getElem?_set]
      by_cases e : n = i
      · subst e
        rw [if_pos rfl, List.getElem?_map, hn]
        have := (List.getElem?_eq_some_iff.mp hn).1
        simp [this]
      · rw [if_neg e]
    unfold ohZ
    simp only [el]
  unfold wKids
  rw [eo, List.map_set]
  exact d5
theorem Hd.kids {D H : Hp} (h : Hd D H (wKids P w p es :: L)) (nd : (es.map (·.1)).Nodup) {ps : Prs Str} (hps : ∀ x : Option Str, (∀ c : Str, x = some c → c ∈ ps.map Prod.fst) → ∃ q, (x, q, Kids ps x) ∈ es) : ∃ D', Ex D D' ∧ Hd D' H L ∧ (rKids P w ps).r D' (.ref p) := by
  obtain ⟨D', o, e, h', ⟨h1, rfl⟩, h3⟩ := h.tabFreeze
  refine ⟨D', e, h', p, _, rfl, h1, fun x hx => ?_⟩
  obtain ⟨q, hq⟩ := hps x hx
  obtain ⟨n, hn⟩ := List.mem_iff_getElem?.mp hq
  refine ⟨.ref q, val_ents es nd hn, rD_lst ?_⟩
  have := h3 (q, (Kids ps x).map fun z => rD (.str z)) (List.mem_map.mpr ⟨_, hq, rfl⟩)
  simpa [Function.comp_def] using this
end
end Fb

namespace Fb
open PySem PySem.Spec L2 Evl
open C8 (Cal Met Mak)
section
variable {P : Program} {w : World} {K : PySem.W.Frag} {mg : Str → Option Value} {base : Heap}
theorem overs_none {ps : Prs Str} {c : Str} (h : c ∉ ps.map (·.1)) : valR (oversK ps) (Sum.inr c) = none := by
  have := overs_some (ps := ps) (c := c)
  rw [decide_eq_false h] at this
  cases e : valR (oversK ps) (Sum.inr c) with
  | none => rfl
  | some R => rw [e] at this; cases this
abbrev PairOk (ps : Prs Str) (c : Str) (o : Option Str) : Prop := NameOk c ∧ c ∉ ps.map (·.1) ∧ ∀ x, o = some x → NameOk x ∧ x ∈ ps.map (·.1)
abbrev sp_is_pair : Sp := spX (κ := Unit) (fun i : Addr × Prs Str × Str × Option Str => PairOk i.2.1 i.2.2.1 i.2.2.2) (fun i => [rD (pairD i.2.2), rV (.ref i.1)]) (fun i => [wDK i.1 (oversK i.2.1)]) (fun _ _ => True) (fun _ _ => rD (.bool true)) (fun i _ => [wDK i.1 (oversK i.2.1)])
theorem c_is_pair (W : Wo K mg base) : Cal P w K mg base 2 "is_pair" sp_is_pair [] := by
  have c_is_name := c_is_name (P := P) (w := w) W
  refine cal_of (f_is_pair W) (g_is_pair W) b_is_pair sc_is_pair (fun _ _ => rfl) fun cdv A' outer s H E hr => ⟨_, (pss_cons (ps_if (PW.pt (pw_or (pt_not (pt_val (pe_callB (kCall K rIsi call_isi) (by rfl) (n_isinstance W) PyProof.Rows.boot_isinstance (pa_cons (pv 0) (pa_cons (pe_bltn (v := .ty "tuple") rfl (n_tuple W) PyProof.Rows.boot_tuple rfl) pa_nil))))) (pw_or (pt_cmpR op_ne (pe_callB (kCall K rLenV call_len) (by rfl) (n_len W) PySem.boot_len (pa_cons (pv 0) pa_nil)) pe_int (nomark _)) (pw_or (pt_not (pt_val (C8.pe_c c_is_name hr (by first | decide | omega) rfl (pa_cons (pe_ix (kIx K rIxT ix_tup) (pv 0) pe_int fun _ _ => rfl) pa_nil)))) (pw_or1 (pt_cmp (pc_din (hu_of hr) (pe_ix (kIx K rIxT ix_tup) (pv 0) pe_int fun _ _ => rfl) (pv 1)))))))) (pss_one (ps_ret pe_bl)) pss_nil)
    (pss_one (ps_ret (pe_or (pe_cmp (pc_isN (pe_ix (kIx K rIxT ix_tup) (pv 0) pe_int fun _ _ => rfl))) (pe_one (pe_and (C8.pe_c c_is_name hr (by first | decide | omega) rfl (pa_cons (pe_ix (kIx K rIxT ix_tup) (pv 0) pe_int fun _ _ => rfl) pa_nil)) (pe_one (pe_cmp (pc_din (hu_of hr) (pe_ix (kIx K rIxT ix_tup) (pv 0) pe_int fun _ _ => rfl) (pv 1)))))))))), ?_⟩
  rintro ⟨p, ps, c, o⟩ F D0 Q ⟨h1, h2, h3⟩ q
  simp only at h1 h2 h3
  refine sq_no (Tg.to (tg_or (tg_not (tg_B (eg_cb (ag_cons (eg_var rfl) (ag_cons eg_cv ag_nil)) (cg_isi (b := true) kt_tt)))) fun _ => tg_or (tg_B (eg_op (eg_cb (ag_cons (eg_var rfl) ag_nil) cg_lenDT) eg_int og_neI)) fun _ => tg_or (tg_not (tg_B (eg_callP c h1 (ag_cons (eg_op (eg_var rfl) eg_int (og_ixDT (ds := [.str c, optD o]) (i := 0) (d := .str c) rfl)) ag_nil) rfl))) fun _ => tg_B (eg_din (k := Sum.inr c) (eg_op (eg_var rfl) eg_int (og_ixDT (ds := [.str c, optD o]) (i := 0) (d := .str c) rfl)) (eg_var rfl) (isdk_w (j := 0) rfl))) (by rw [overs_some, decide_eq_false h2]; rfl)) ?_
  refine go_ret (Eg.to (eg_orV (b := true) (eg_isN (b := o.isNone) (eg_op (eg_var rfl) eg_int (og_ixDT (ds := [.str c, optD o]) (i := 1) (d := optD o) rfl)) fun D v => optD_non) fun e => ?_) (by rw [Bool.or_true])) fun v D H e hd r => q v D H () e trivial hd r
  cases o with
  | none => cases e
  | some x => exact Eg.to (eg_andV (eg_callP x (h3 x rfl).1 (ag_cons (eg_op (eg_var rfl) eg_int (og_ixDT (ds := [.str c, .str x]) (i := 1) (d := .str x) rfl)) ag_nil) rfl) fun _ => eg_din (k := Sum.inr x) (eg_op (eg_var rfl) eg_int (og_ixDT (ds := [.str c, .str x]) (i := 1) (d := .str x) rfl)) (eg_var rfl) (isdk_w (j := 0) rfl)) (by rw [overs_some, decide_eq_true (h3 x rfl).2]; rfl)
/-! Tree(pairs) -/
abbrev treeF (P : Program) (w : World) (ps : Prs Str) (F : Fo Str) : List (Str × Rp) := [("overs", rDK (oversK ps)), ("kids", rKids P w ps), ("order", rD (strL F.order))]
/-- the pairs as they are told -/
structure PsOk (ps : Prs Str) : Prop where
  ok : PairsOk ps.reverse
  nm : ∀ c ∈ ps.map (·.1), NameOk c
  few : ps.length ≤ 8
theorem PsOk.tree {ps : Prs Str} (h : PsOk ps) : TreeOk ps (build ps.reverse) := by
  have sh := build_shape h.ok
  rw [List.reverse_reverse] at sh
  have nd : (ps.map (·.1)).Nodup := by
    have : ∀ {q : Prs Str}, PairsOk q → (q.map (·.1)).Nodup := fun {q} hq => by
      induction q with
      | nil => exact List.nodup_nil
      | cons p r ih => exact List.nodup_cons.mpr ⟨hq.2.1, ih hq.1⟩
    have := this h.ok
    rw [List.map_reverse] at this
    exact (List.reverse_perm _).nodup_iff.mp this
  refine ⟨sh, nd, fun c hc => h.nm c ((sh.mem c).mp hc), ?_⟩
  have := (List.perm_ext_iff_of_nodup sh.nd nd).mpr sh.mem
  rw [this.length_eq, List.length_map]
  exact h.few
theorem PairsOk.app {N : Type} {a b : Prs N} (h : PairsOk (a ++ b)) : PairsOk b := by
  induction a with
  | nil => exact h
  | cons p r ih => exact ih h.1
theorem PsOk.pre {a b : Prs Str} (h : PsOk (a ++ b)) : PsOk a := ⟨by have := h.ok; rw [List.reverse_append] at this; exact this.app, fun c hc => h.nm c (by rw [List.map_append]; exact List.mem_append_left _ hc), by have := h.few; rw [List.length_append] at this; omega⟩
theorem PsOk.pair {a b : Prs Str} {p : Str × Option Str} (h : PsOk (a ++ p :: b)) : PairOk a p.1 p.2 := by
  have h1 : PsOk (a ++ [p]) := PsOk.pre (b := b) (by rw [List.append_assoc]; exact h)
  have h2 := h1.ok
  rw [List.reverse_append] at h2
  obtain ⟨_, h3, h4⟩ := (show PairsOk (p :: a.reverse) from h2)
  rw [List.map_reverse, List.mem_reverse] at h3
  refine ⟨h1.nm p.1 (by simp), h3, fun x hx => ?_⟩
  have := h4 x hx
  rw [List.map_reverse, List.mem_reverse] at this
  exact ⟨h1.nm x (by rw [List.map_append]; exact List.mem_append_left _ this), this⟩
end
end Fb

namespace Fb
open PySem PySem.Spec L2 Evl
open C8 (Cal Met Mak)
section
variable {P : Program} {w : World} {K : PySem.W.Frag} {mg : Str → Option Value} {base : Heap}
theorem Hd.insTo {D H : Hp} {L : List Wd} {x C dx : Addr} {fs fs' : List (Str × Rp)} {j : Nat} (h : Hd D H L) (hj : L[j]? = some (wIns x C dx fs)) (r : ∀ gs, FRel D gs fs → FRel D gs fs') : Hd D H (L.set j (wIns x C dx fs')) := by
  obtain ⟨h1, gs, h2, h3⟩ := h.s _ _ hj
  exact h.set hj (fun a ha => rfl) (fun a ha => ha) ⟨h1, gs, h2, r gs h3⟩
theorem frel_3 {D : Hp} {gs : List (Str × V)} {a b c : Str} {R1 R2 R3 S1 S2 S3 : Rp} (h : FRel D gs [(a, R1), (b, R2), (c, R3)]) (h1 : ∀ v, R1.r D v → S1.r D v) (h2 : ∀ v, R2.r D v → S2.r D v) (h3 : ∀ v, R3.r D v → S3.r D v) : FRel D gs [(a, S1), (b, S2), (c, S3)] := by
  cases h with
  | cons p t => cases t with
    | cons q t => cases t with
      | cons r t => exact .cons ⟨p.1, h1 _ p.2⟩ (.cons ⟨q.1, h2 _ q.2⟩ (.cons ⟨r.1, h3 _ r.2⟩ t))
theorem frel_2 {D : Hp} {gs : List (Str × V)} {a b : Str} {R1 R2 S1 S2 : Rp} (h : FRel D gs [(a, R1), (b, R2)]) (h1 : ∀ v, R1.r D v → S1.r D v) (h2 : ∀ v, R2.r D v → S2.r D v) : FRel D gs [(a, S1), (b, S2)] := by
  cases h with
  | cons p t => cases t with
    | cons q t => exact .cons ⟨p.1, h1 _ p.2⟩ (.cons ⟨q.1, h2 _ q.2⟩ t)
theorem PsOk.nd {ps : Prs Str} (h : PsOk ps) : (ps.map (·.1)).Nodup := h.tree.nd
theorem es_new {a : Prs Str} {c : Str} {o : Option Str} {es : List KEnt} (hp : PsOk (a ++ [(c, o)])) (he : es.map (·.1) = none :: a.map fun p => some p.1) : ∀ e ∈ es, e.1 ≠ some c := fun e h z => by
  have : some c ∈ es.map (·.1) := z ▸ List.mem_map.mpr ⟨e, h, rfl⟩
  rw [he] at this
  have h2 : c ∈ a.map (·.1) := by
    rcases List.mem_cons.mp this with q | q
    · cases q
    · obtain ⟨p, h1, h2⟩ := List.mem_map.mp q
      exact List.mem_map.mpr ⟨p, h1, Option.some.inj h2⟩
  exact (PsOk.pair (b := []) (p := (c, o)) hp).2.1 h2
theorem some_nd {a : Prs Str} (nd : (a.map (·.1)).Nodup) : (none :: a.map fun p => some p.1 : List (Option Str)).Nodup := by
  refine List.nodup_cons.mpr ⟨fun h => ?_, ?_⟩
  · obtain ⟨p, _, e⟩ := List.mem_map.mp h; cases e
  · have : (a.map fun p => some p.1) = (a.map (·.1)).map some := by simp
    rw [this]
    exact List.Pairwise.map _ (fun a b h e => h (Option.some.inj e)) nd
theorem es_step {a : Prs Str} {c : Str} {o : Option Str} {es : List KEnt} (q : Addr) (hp : PsOk (a ++ [(c, o)])) (he : es.map (·.1) = none :: a.map fun p => some p.1) (hk : ∀ e ∈ es, e.2.2 = Kids a e.1) :
    ∃ n qo, ((es ++ [((some c, q, []) : KEnt)]).map (·.1)).Nodup ∧ (es ++ [((some c, q, []) : KEnt)])[n]? = some (o, qo, Kids a o) ∧ ((es ++ [((some c, q, []) : KEnt)]).set n (o, qo, Kids a o ++ [c])).map (·.1) = none :: (a ++ [(c, o)]).map (fun p => some p.1) ∧
      ∀ e ∈ (es ++ [((some c, q, []) : KEnt)]).set n (o, qo, Kids a o ++ [c]), e.2.2 = Kids (a ++ [(c, o)]) e.1 := by
  have hpo := PsOk.pair (b := []) (p := (c, o)) hp
  have keys : (es ++ [((some c, q, []) : KEnt)]).map (·.1) = none :: (a ++ [(c, o)]).map (fun p => some p.1) := by
    rw [List.map_append, he]; simp
  have nd : ((es ++ [((some c, q, []) : KEnt)]).map (·.1)).Nodup := by rw [keys]; exact some_nd hp.nd
  obtain ⟨e, he1, he2⟩ : ∃ e ∈ es, e.1 = o := by
    have : o ∈ es.map (·.1) := by
      rw [he]
      cases o with
      | none => exact List.mem_cons_self ..
      | some x =>
        obtain ⟨p, h1, h2⟩ := List.mem_map.mp (hpo.2.2 x rfl).2
        exact List.mem_cons_of_mem _ (List.mem_map.mpr ⟨p, h1, by rw [h2]⟩)
    obtain ⟨e, h1, h2⟩ := List.mem_map.mp this
    exact ⟨e, h1, h2⟩
  obtain ⟨n, hn⟩ := List.mem_iff_getElem?.mp he1
  obtain ⟨e1, e2, e3⟩ := e
  have h3 := hk _ he1
  simp only at he2 h3
  subst he2 h3
  have hn' : (es ++ [((some c, q, []) : KEnt)])[n]? = some (e1, e2, Kids a e1) := by
    rw [List.getElem?_append_left (List.getElem?_eq_some_iff.mp hn).1]; exact hn
  refine ⟨n, e2, nd, hn', ?_, fun e h => ?_⟩
  · rw [← keys, List.map_set]
    apply List.ext_getElem?
    intro i
    rw [List.getElem?_set]
    by_cases z : n = i
    · subst z
      rw [if_pos rfl, List.getElem?_map, hn']
      have := (List.getElem?_eq_some_iff.mp hn').1
      simp only [List.length_map, this, if_true]
      rfl
    · rw [if_neg z]
  · obtain ⟨i, hi⟩ := List.mem_iff_getElem?.mp h
    have kd : ∀ y, Kids (a ++ [(c, e1)]) y = Kids a y ++ if e1 = y then [c] else [] := fun y => by rw [Kids_append, Kids_cons]; simp [Kids]
    rw [List.getElem?_set] at hi
    by_cases z : n = i
    · rw [if_pos z] at hi
      by_cases l : n < (es ++ [((some c, q, []) : KEnt)]).length
      · rw [if_pos l] at hi
        cases hi
        rw [kd, if_pos rfl]
      · rw [if_neg l] at hi; cases hi
    · rw [if_neg z] at hi
      have ne : e1 ≠ e.1 := fun w => by
        have a1 : ((es ++ [((some c, q, []) : KEnt)]).map (·.1))[n]? = some e1 := by rw [List.getElem?_map, hn']; rfl
        have a2 : ((es ++ [((some c, q, []) : KEnt)]).map (·.1))[i]? = some e1 := by rw [List.getElem?_map, hi, w]; rfl
        exact z ((List.getElem?_inj (List.getElem?_eq_some_iff.mp a1).1 nd).mp (a1.trans a2.symm))
      rw [kd, if_neg ne, List.append_nil]
      rcases List.mem_append.mp (List.mem_of_getElem? hi) with k | k
      · exact hk e k
      · rw [List.mem_singleton.mp k]
        have := Kids_out (PsOk.pre hp).ok (c := c) (by rw [List.map_reverse, List.mem_reverse]; exact hpo.2.1)
        rw [PairsOk.rev_kids] at this
        exact (List.reverse_eq_nil_iff.mp this).symm
abbrev sp_Tree_init (P : Program) (w : World) (K : PySem.W.Frag) : Sp := spX (κ := Unit) (fun i : Addr × Addr × Prs Str => PsOk i.2.2) (fun i => [rV (.ref i.1), rD (.list (i.2.2.map pairD))]) (fun i => [wIns i.1 (cTr K) i.2.1 []]) (fun _ _ => True) (fun _ _ => rD .none) (fun i _ => [wIns i.1 (cTr K) i.2.1 (treeF P w i.2.2 (build i.2.2.reverse))])
theorem c_Tree (W : Wo K mg base) : Mak P w K mg base 10 "Tree" (cTr K) (sp_Tree_init P w K) [] := by
  have c_is_pair := c_is_pair (P := P) (w := w) W
  have c_order_from := c_order_from (P := P) (w := w) W 8
  refine mak_of (f_Tree_init W) (g_Tree W) (mk_Tree W) b_Tree_init sc_Tree_init (fun _ _ => rfl) fun cdv A' outer s H E hr => ⟨_, (pss_cons (ps_if (pt_not (pt_val (pe_callB (kCall K rIsi call_isi) (by rfl) (n_isinstance W) PyProof.Rows.boot_isinstance (pa_cons (pv 1) (pa_cons (pe_bltn (v := .ty "list") rfl (n_list W) PyProof.Rows.boot_list rfl) pa_nil))))) (pss_one ps_never) pss_nil)
    (pss_cons (ps_fldK K (pv 0) pe_dnewK)
    (pss_cons (ps_fldK K (pv 0) (pe_dispZ (pe_lst pa_nil)))
    (pss_cons (ps_for PassesOwn.never rfl (pi_enumK K rfl (n_enumerate W) (pa_cons (pv 1) pa_nil)) (pg_tupK K rfl (pgs_cons (pg_name (i := 3) sc_Tree_init.nd rfl (by first | exact Or.inl rfl | exact Or.inr rfl)) (pgs_cons (pg_name (i := 4) sc_Tree_init.nd rfl (by first | exact Or.inl rfl | exact Or.inr rfl)) pgs_nil))) (pss_cons (ps_if (PW.pt (pw_or (pt_cmpR op_eq (pv 3) (pe_gI rfl (k_MOST_COLUMNS W)) (nomark _)) (pw_or1 (pt_not (pt_val (C8.pe_c c_is_pair hr (by first | decide | omega) rfl (pa_cons (pv 4) (pa_cons (pe_fldK K (pv 0)) pa_nil)))))))) (pss_one ps_never) pss_nil)
    (pss_cons (ps_asg (pv 4) (pg_tupK K rfl (pgs_cons (pg_name (i := 2) sc_Tree_init.nd rfl (by first | exact Or.inl rfl | exact Or.inr rfl)) (pgs_cons (pg_name (i := 5) sc_Tree_init.nd rfl (by first | exact Or.inl rfl | exact Or.inr rfl)) pgs_nil))))
    (pss_cons (ps_dput (hu_of hr) (pe_fldK K (pv 0)) (pv 2) (pv 5) rfl)
    (pss_cons (ps_asg (pe_lst pa_nil) (pg_sub (pe_fldK K (pv 0)) (pv 2) set_d0))
    (pss_one (ps_expr (pe_bmK K PySem.F.plainAttrs_list PySem.F.slot_list_append PySem.F.type_list_append mt_append (pe_ix ix_d0 (pe_fldK K (pv 0)) (pv 5) fun _ _ => rfl) (pa_cons (pv 2) pa_nil)))))))))
    (pss_cons (ps_fldK K (pv 0) (pe_lst pa_nil))
    (pss_one (ps_for PassesOwn.never rfl (pi_listK K (pe_ix ix_d0 (pe_fldK K (pv 0)) pe_non fun _ _ => rfl)) (pg_name (i := 2) sc_Tree_init.nd rfl (by first | exact Or.inl rfl | exact Or.inr rfl)) (pss_one (ps_expr (pe_bmK K PySem.F.plainAttrs_list PySem.F.slot_list_extend PySem.F.type_list_extend mt_extend (pe_fldK K (pv 0)) (pa_cons (C8.pe_c c_order_from hr (by first | decide | omega) rfl (pa_cons (pe_fldK K (pv 0)) (pa_cons (pv 2) pa_nil))) pa_nil))))))))))), ?_⟩
  rintro ⟨x, dx, ps⟩ F D0 Q ok q
  simp only at ok
  have cl := cl_Tree W
  refine sq_no (Tg.to (tg_not (tg_B (eg_cb (ag_cons (eg_var rfl) (ag_cons eg_cv ag_nil)) (cg_isi (b := true) kt_ll)))) rfl) ?_
  refine sq_fldI_dK (j := 0) cl (no_Tree_overs W) (fun p => eg_var rfl) rfl rfl (by simp) fun po => ?_
  refine sq_fldX (j := 2) cl (no_Tree_kids W) (xg_disp rfl rfl) (fun z _ => eg_var rfl) (fun z _ => rfl) rfl (by simp) fun ⟨p, q0⟩ _ => ?_
  refine go_swap ?_
  have few := ok.few
  refine sq_for (ι := List KEnt) (ig_enumX (xs := ps) (ag_cons (eg_var rfl) ag_nil)) (fun i es => es.map (·.1) = none :: (ps.take i).map (fun c => some c.1) ∧ ∀ e ∈ es, e.2.2 = Kids (ps.take i) e.1)
    (fun _ _ => [some (rV (.ref x)), some (rD (.list (ps.map pairD))), none, none, none, none])
    (fun i es => wDK po (oversK (ps.take i)) :: wKids P w p es :: wIns x (cTr K) dx [("overs", rV (.ref po)), ("kids", rV (.ref p))] :: F)
    ⟨[(none, q0, [])], ⟨rfl, fun e he => by rw [List.mem_singleton.mp he]; rfl⟩, Less.refl _, rfl⟩ (fun _ _ _ _ => trivial) ?_ ?_
  · rintro i es R D1 N hi e1 ⟨he, hk⟩ ⟨⟨c, o⟩, hx, rfl⟩ kN
    obtain ⟨a, b, hab, ha⟩ : ∃ a b, ps = a ++ (c, o) :: b ∧ a = ps.take i := ⟨ps.take i, ps.drop (i + 1), by
      rw [← List.getElem?_eq_some_iff.mp hx |>.2]; simp, rfl⟩
    have po' : PairOk (ps.take i) c o := by rw [← ha]; exact PsOk.pair (b := b) (p := (c, o)) (hab ▸ ok)
    have ok1 : PsOk (ps.take i ++ [(c, o)]) := by
      rw [← ha]
      exact PsOk.pre (b := b) (by rw [List.append_assoc]; exact hab ▸ ok)
    have et : ps.take (i + 1) = ps.take i ++ [(c, o)] := by rw [List.take_succ, hx]; rfl
    have lt : (ps.take i).length ≤ 8 := by rw [List.length_take]; omega
    refine ⟨_, _, tgt_tup (tgs_cons tgt_name (tgs_cons tgt_name tgs_nil)) rfl, ?_⟩
    refine sq_no (Tg.to (tg_or (tg_test (eg_op (eg_var rfl) eg_int og_eqI)) fun _ => tg_not (tg_B ((xg_call (po, ps.take i, c, o) po' (ag_cons (eg_var rfl) (ag_cons (eg_fldI (j := 2) cl (no_Tree_overs W) (eg_var rfl) rfl rfl) ag_nil)) (fun _ => .nil) rfl).eg (rD (.bool true)) _ fun _ _ => ⟨fun _ _ r => r, rfl⟩))) ?_) ?_
    · have : ¬ (i : Int) = 8 := by omega
      rw [decide_eq_false this]; rfl
    refine sq_asgT (eg_var rfl) (tgt_tupD (ds := [.str c, optD o]) (tgs_cons tgt_name (tgs_cons tgt_name tgs_nil)) rfl) ?_
    refine sq_dput (k := Sum.inr c) (j := 0) (R := rD (optD o)) (eg_var rfl) (eg_fldI (j := 2) cl (no_Tree_overs W) (eg_var rfl) rfl rfl) (eg_var rfl) rfl (overs_none po'.2.1) (by unfold oversK; rw [List.length_map]; omega) ?_
    refine sq_kput (x := some c) (j := 1) rfl rfl (fun q => eg_fldI (j := 3) cl (no_Tree_kids W) (eg_var rfl) rfl rfl) (fun q => eg_var rfl) rfl (es_new ok1 he) ?_ fun q1 => ?_
    · have := congrArg List.length he
      rw [List.length_map, List.length_cons, List.length_map] at this
      omega
    obtain ⟨n, qo, nd, hn, k1, k2⟩ := es_step q1 ok1 he hk
    refine go_drop (eg_kapp (x := o) (c := c) (j := 1) rfl rfl (eg_fldI (j := 2) cl (no_Tree_kids W) (eg_var rfl) rfl rfl) (eg_var rfl) (eg_var rfl) rfl nd hn ?_) ?_
    · have : (Kids (ps.take i) o).length ≤ (ps.take i).length := by unfold Kids; rw [List.length_map]; exact List.length_filter_le _ _
      omega
    have eov : oversK (ps.take (i + 1)) = oversK (ps.take i) ++ [(Sum.inr c, rD (optD o))] := by rw [et]; unfold oversK; rw [List.map_append]; rfl
    have := kN _ ⟨by rw [et]; exact k1, fun e h => by rw [et]; exact k2 e h⟩
    rw [eov] at this
    refine this.less (less_of rfl fun i h => ?_)
    match i with
    | 0 => exact .inr rfl
    | 1 => exact .inr rfl
    | 2 => exact .inl rfl
    | 3 => exact .inl rfl
    | 4 => exact .inl rfl
    | 5 => exact .inl rfl
    | i + 6 => exact absurd h (by show ¬ i + 6 < 6; omega)
  · rintro es ⟨he, hk⟩
    rw [List.take_length] at he hk ⊢
    have tr := ok.tree
    refine Go.pre (L' := wIns x (cTr K) dx [("overs", rDK (oversK ps)), ("kids", rKids P w ps)] :: F) (fun D H h => ?_) ?_
    · obtain ⟨D1, e1, h1, r1⟩ := h.freezeDK
      obtain ⟨D2, e2, h2, r2⟩ := h1.kids (by rw [he]; exact some_nd ok.nd) (ps := ps) fun x hx => by
        have : x ∈ es.map (·.1) := by
          rw [he]
          cases x with
          | none => exact List.mem_cons_self ..
          | some c =>
            obtain ⟨p, h1, h2⟩ := List.mem_map.mp (hx c rfl)
            exact List.mem_cons_of_mem _ (List.mem_map.mpr ⟨p, h1, by rw [← h2]⟩)
        obtain ⟨⟨a, q, cs⟩, h1, h2⟩ := List.mem_map.mp this
        simp only at h2
        subst h2
        have := hk _ h1
        simp only at this
        exact ⟨q, by rw [← this]; exact h1⟩
      exact ⟨D2, e1.trans e2, h2.insTo (j := 0) rfl fun gs hg => frel_2 hg (fun v e => by rw [show v = _ from e]; exact (rDK (oversK ps)).m e2 r1) fun v e => by rw [show v = _ from e]; exact r2⟩
    refine sq_fldI_L (j := 0) cl (no_Tree_order W) (fun p => eg_var rfl) rfl rfl (by simp) fun po2 => ?_
    refine go_forL (G := gT) (build ps.reverse).trees (fun t => rD (.str t.1)) ?_ (fun i R y => y)
      (fun _ => [some (rV (.ref x)), some (rD (.list (ps.map pairD))), none, none, none, none])
      (fun a => mL po2 ((a.flatMap fun t => t.1 :: t.2.order).map fun z => rD (.str z)) :: wIns x (cTr K) dx [("overs", rDK (oversK ps)), ("kids", rKids P w ps), ("order", rV (.ref po2))] :: F) (Less.refl _) rfl (fun _ => trivial) (fun a t b D1 N e he kN => ?_) ?_
    · have ek : (build ps.reverse).tops = Kids ps none := tr.sh.tops
      refine Ig.to (ig_listD (eg_op (Rb := rD (optD none)) (eg_fldI (j := 1) cl (no_Tree_kids W) (eg_var rfl) rfl rfl) eg_non (og_kids (x := none) rfl rfl fun c' e => nomatch e))) (by rw [List.length_map, ← ek, trees_tops, List.length_map]) fun i R _ y => ?_
      rw [← ek, trees_tops, List.map_map] at y
      obtain ⟨t, ht, rfl⟩ := yd_map y
      exact ⟨_, ⟨t, ht, rfl⟩, fun _ _ h => h⟩
    · have ht : t ∈ (build ps.reverse).trees := by rw [e]; simp
      have hts := Fo.trees_sub (c := t.1) (k := t.2) ht
      refine ⟨_, _, tgt_name, go_drop (eg_extend (j := 0) (eg_fldI (j := 1) cl (no_Tree_order W) (eg_var rfl) rfl rfl) ⟨0, _, rfl⟩ (eg_callP (ps, build ps.reverse, t.1, t.2) ⟨tr, hts, by have := hts.depth; have := tr.dep; show t.2.depth < 8; omega⟩ (ag_cons (eg_fldI (j := 1) cl (no_Tree_kids W) (eg_var rfl) rfl rfl) (ag_cons (eg_var rfl) ag_nil)) rfl) rfl ?_) ?_⟩
      · have h1 : (a.flatMap fun t => t.1 :: t.2.order).length ≤ (build ps.reverse).order.length := by
          rw [trees_order (build ps.reverse), e, List.flatMap_append, List.length_append]; omega
        have h2 := hts.few
        have h3 := tr.few
        simp only [List.length_map, List.length_cons]
        omega
      · refine Go.less (Γ' := [some (rV (.ref x)), some (rD (.list (ps.map pairD))), none, none, none, none]) ?_ ?_
        · have el : ((a ++ [t]).flatMap fun t => t.1 :: t.2.order).map (fun z => rD (.str z)) = ((a.flatMap fun t => t.1 :: t.2.order).map fun z => rD (.str z)) ++ ((t.1 :: t.2.order).map PyData.str).map rD := by
            simp [List.flatMap_append, Function.comp_def]
          rw [el] at kN
          exact kN
        · refine less_of rfl fun i h => ?_
          match i with
          | 0 => exact .inr rfl
          | 1 => exact .inr rfl
          | 2 => exact .inl rfl
          | 3 => exact .inl rfl
          | 4 => exact .inl rfl
          | 5 => exact .inl rfl
          | i + 6 => exact absurd h (by show ¬ i + 6 < 6; omega)
    · refine Go.pre (L' := wIns x (cTr K) dx (treeF P w ps (build ps.reverse)) :: F) (fun D H h => ?_) (go_end fun D H e hd => q .non D H () e trivial hd .non)
      obtain ⟨D1, e1, h1, r1⟩ := h.freeze
      refine ⟨D1, e1, h1.insTo (j := 0) rfl fun gs hg => frel_3 hg (fun v e => e) (fun v e => e) fun v e => ?_⟩
      rw [show v = _ from e]
      refine rD_lst ?_
      rw [trees_order (build ps.reverse)]
      simpa [Function.comp_def] using r1
end
end Fb

/-! == of own objects. -/
namespace Fb
open PySem PySem.Spec L2 Evl
open C8 (Cal Met Mak)
def REq {ι : Type} (ok : ι → Prop) (A : ι → List Rp) (res : ι → Bool) : Addr → Addr → Bool → Hp → Prop := fun a b r H => ∃ i, ok i ∧ AllR H [.ref a, .ref b] (A i) ∧ r = res i
abbrev spE {ι : Type} (ok : ι → Prop) (A : ι → List Rp) (res : ι → Bool) : Sp := spP ok A fun i => rD (.bool (res i))
theorem spE_imp {ι : Type} {ok : ι → Prop} {A : ι → List Rp} {res : ι → Bool} (vs : List V) (H : Hp) (Q : VK) (E : XK) (h : spEqB (REq ok A res) vs H Q E) : spE ok A res vs H Q E := by
  obtain ⟨a, b, r, rfl, ⟨i, o, al, rfl⟩, q⟩ := h
  refine ⟨i, [], H, o, ⟨fun _ _ h => h, (fun i w h => nomatch h), fun i j w w' _ h => nomatch h⟩, al, fun v D' H' x e _ hd r => ?_⟩
  rw [bl_of r]
  exact q H' fun a o h => hd.ex a o (e a o h)
section
variable {X : Cx} {K : PySem.W.Frag} {C : Addr} {n : Nat} {ι : Type} {ok : ι → Prop} {A : ι → List Rp} {res : ι → Bool} {L : List Wd}
theorem met_find {f : Addr} (m : Meth K C "__eq__" f) : PySem.W.findIn K (.ref C) "__eq__" = some (some (.ref f)) ∧ PySem.W.isFn K (.ref f) = true := ⟨m.at_, m.fn⟩
theorem opE (M : Met X.prog X.w X.K X.mg X.base n C "__eq__" (spE ok A res) []) (hr : Room n X.A) : OpR X (compareOp .Eq) (rEqB C (REq ok A res)) := by
  obtain ⟨f, fd, ps, ds, c, m, F, b, v⟩ := M.ex
  cases v
  exact op_eqB (F.imp spE_imp) b (met_find m).1 (met_find m).2 hr
theorem opNE (M : Met X.prog X.w X.K X.mg X.base n C "__eq__" (spE ok A res) []) (ic : C8.InsC X.K C) (ne : PySem.W.findIn X.K (.ref C) "__ne__" = some (some (.builtin "object.__ne__"))) (hr : Room (n + 1) X.A) : OpR X (compareOp .NotEq) (rNeB C (REq ok A res)) := by
  obtain ⟨f, fd, ps, ds, c, m, F, b, v⟩ := M.ex
  cases v
  exact op_neB (F.imp spE_imp) b (met_find m).1 (met_find m).2 ne ic.hm hr
def IsIns (C : Addr) (R : Rp) : Prop := ∀ D v, R.r D v → ∃ a dx fs, v = .ref a ∧ D a = some (.ins C dx fs)
theorem isins_obj {fs : List (Str × Rp)} : IsIns C (rObj C fs) := fun D v ⟨x, dx, gs, h1, h2, h3⟩ => ⟨x, dx, gs, h1, h2⟩
theorem og_own {Ra Rb : Rp} (i : ι) (o : ok i) (hA : A i = [Ra, Rb]) (h1 : IsIns C Ra) (h2 : IsIns C Rb) : Og (rEqB C (REq ok A res)) Ra Rb L (rD (.bool (res i))) L := fun x y D H hd rx ry Q q => by
  obtain ⟨a, dx, fs, rfl, ha⟩ := h1 D x rx
  obtain ⟨b, dy, gs, rfl, hb⟩ := h2 D y ry
  exact ⟨res i, ⟨a, b, dx, dy, fs, gs, rfl, rfl, hd.ex _ _ ha, hd.ex _ _ hb, i, o, by rw [hA]; exact .cons (Ra.m hd.ex rx) (.cons (Rb.m hd.ex ry) .nil), rfl⟩, fun H' e => q _ D H' (Ex.refl D) (hd.grow (Ex.refl D) (fun a o h => e a o (hd.ex a o h)) e fun a o h hn => hn) (.bl _)⟩
theorem og_ownN {Ra Rb : Rp} (i : ι) (o : ok i) (hA : A i = [Ra, Rb]) (h1 : IsIns C Ra) (h2 : IsIns C Rb) : Og (rNeB C (REq ok A res)) Ra Rb L (rD (.bool (!res i))) L := fun x y D H hd rx ry Q q => by
  obtain ⟨a, dx, fs, rfl, ha⟩ := h1 D x rx
  obtain ⟨b, dy, gs, rfl, hb⟩ := h2 D y ry
  exact ⟨res i, ⟨a, b, dx, dy, fs, gs, rfl, rfl, hd.ex _ _ ha, hd.ex _ _ hb, i, o, by rw [hA]; exact .cons (Ra.m hd.ex rx) (.cons (Rb.m hd.ex ry) .nil), rfl⟩, fun H' e => q _ D H' (Ex.refl D) (hd.grow (Ex.refl D) (fun a o h => e a o (hd.ex a o h)) e fun a o h hn => hn) (.bl _)⟩
/-- isinstance(x, C) -/
theorem cg_isC {Ra : Rp} (c : C8.InsC K C) (h : IsIns C Ra) : Cg (rIsi K) [Ra, rV (.ref C)] L (rD (.bool true)) L := fun xs D H hd r Q q => by
  cases r with
  | cons a t =>
    cases t with
    | cons c' t =>
      cases t
      have e := c'
      subst e
      obtain ⟨a', dx, fs, rfl, ha⟩ := h D _ a
      exact ⟨_, _, .ref C, .ref C, true, rfl, .own C, .base (TyOf.ins (hd.ex _ _ ha) c.cl c.ha c.hn c.htk c.hm), c.me, q _ D H (Ex.refl _) hd (.bl _)⟩
end
/-! plain data: == is sameness -/
mutual
def plD : PyData → Bool
  | .none => true
  | .int _ => true
  | .str _ => true
  | .list xs => plA xs
  | .tuple xs => plA xs
  | _ => false
def plA : List PyData → Bool
  | [] => true
  | x :: xs => plD x && plA xs
end
mutual
theorem eqv_pl : ∀ (d e : PyData), plD d = true → plD e = true → (PyData.eqv d e = true ↔ d = e)
  | .none, e, _, h => by cases e <;> simp_all [PyData.eqv, plD]
  | .int i, e, _, h => by cases e <;> simp_all [PyData.eqv, plD]
  | .str i, e, _, h => by cases e <;> simp_all [PyData.eqv, plD]
  | .list xs, e, g, h => by
    cases e with
    | list ys => have := eqv_plA xs ys g h; simp [PyData.eqv, this]
    | _ => simp_all [PyData.eqv, plD]
  | .tuple xs, e, g, h => by
    cases e with
    | tuple ys => have := eqv_plA xs ys g h; simp [PyData.eqv, this]
    | _ => simp_all [PyData.eqv, plD]
  | .bool b, _, g, _ => by simp [plD] at g
  | .dict b, _, g, _ => by simp [plD] at g
theorem eqv_plA : ∀ (d e : List PyData), plA d = true → plA e = true → (PyData.eqvAll d e = true ↔ d = e)
  | [], [], _, _ => by simp [PyData.eqvAll]
  | [], _ :: _, _, _ => by simp [PyData.eqvAll]
  | _ :: _, [], _, _ => by simp [PyData.eqvAll]
  | x :: xs, y :: ys, g, h => by
    simp only [plA, Bool.and_eq_true] at g h
    have h1 := eqv_pl x y g.1 h.1
    have h2 := eqv_plA xs ys g.2 h.2
    simp [PyData.eqvAll, h1, h2]
end
/-- plain data of a depth -/
structure Pl (n : Nat) (d : PyData) : Prop where
  p : plD d = true
  c : d.canLay0 = true
  h : d.depth ≤ n
theorem Pl.int {n : Nat} {i : Int} : Pl n (.int i) := ⟨rfl, rfl, by simp [PyData.depth]⟩
theorem Pl.none {n : Nat} : Pl n .none := ⟨rfl, rfl, by simp [PyData.depth]⟩
theorem Pl.str {n : Nat} {z : Str} (h : PyData.canLay0 (.str z) = true) : Pl n (.str z) := ⟨rfl, h, by simp [PyData.depth]⟩
theorem Pl.all {n : Nat} : ∀ {ds : List PyData}, (∀ d ∈ ds, Pl n d) → plA ds = true ∧ PyData.canLayAll0 ds = true ∧ PyData.depthAll ds ≤ n
  | [], _ => ⟨rfl, rfl, by simp [PyData.depthAll]⟩
  | d :: ds, h => by
    obtain ⟨h1, h2, h3⟩ := h d (List.mem_cons_self ..)
    obtain ⟨g1, g2, g3⟩ := Pl.all (n := n) (ds := ds) fun e he => h e (List.mem_cons_of_mem _ he)
    refine ⟨by simp [plA, h1, g1], by simp [PyData.canLayAll0, h2, g2], ?_⟩
    simp only [PyData.depthAll]
    omega
theorem Pl.list {n : Nat} {ds : List PyData} (h : ∀ d ∈ ds, Pl n d) : Pl (n + 1) (.list ds) := by
  obtain ⟨h1, h2, h3⟩ := Pl.all h
  exact ⟨by simp [plD, h1], by simp [PyData.canLay0, h2], by simp only [PyData.depth]; omega⟩
theorem Pl.tuple {n : Nat} {ds : List PyData} (h : ∀ d ∈ ds, Pl n d) : Pl (n + 1) (.tuple ds) := by
  obtain ⟨h1, h2, h3⟩ := Pl.all h
  exact ⟨by simp [plD, h1], by simp [PyData.canLay0, h2], by simp only [PyData.depth]; omega⟩
theorem Pl.mono {n m : Nat} {d : PyData} (h : Pl n d) (l : n ≤ m) : Pl m d := ⟨h.p, h.c, Nat.le_trans h.h l⟩
theorem Pl.sh {n : Nat} {d : PyData} (h : Pl n d) (l : n ≤ 64) : SeqAt.shaped d = true := by
  unfold SeqAt.shaped
  rw [h.c, decide_eq_true (Nat.le_trans h.h l)]
  rfl
theorem Pl.iff {n m : Nat} {d e : PyData} (h : Pl n d) (h' : Pl m e) : PyData.eqv d e = true ↔ d = e := eqv_pl d e h.p h'.p
theorem Pl.eq {n m : Nat} {d e : PyData} (h : Pl n d) (h' : Pl m e) {b : Bool} (k : b = true ↔ d = e) : PyData.eqv d e = b := by
  have := h.iff h'
  cases b <;> cases q : PyData.eqv d e <;> simp_all
theorem og_eqP {K : PySem.W.Frag} {L : List Wd} {n m : Nat} {d e : PyData} {b : Bool} (h : Pl n d) (h' : Pl m e) (l : n ≤ 64) (l' : m ≤ 64) (k : b = true ↔ d = e) : Og (rEqD K) (rD d) (rD e) L (rD (.bool b)) L := by
  have := og_eqD (K := K) (L := L) (h.sh l) (h'.sh l')
  rw [h.eq h' k] at this
  exact this
theorem og_neP {K : PySem.W.Frag} {L : List Wd} {n m : Nat} {d e : PyData} {b : Bool} (h : Pl n d) (h' : Pl m e) (l : n ≤ 64) (l' : m ≤ 64) (k : b = true ↔ d = e) : Og (rNeD K) (rD d) (rD e) L (rD (.bool (!b))) L := by
  have := og_neD (K := K) (L := L) (h.sh l) (h'.sh l')
  rw [h.eq h' k] at this
  exact this
theorem NameOk.pl {n : Nat} {z : Str} (h : NameOk z) : Pl n (.str z) := .str h.cp
theorem pl_strL {n : Nat} {zs : List Str} (h : ∀ z ∈ zs, NameOk z) : Pl (n + 1) (strL zs) := .list fun d hd => by
  obtain ⟨z, hz, rfl⟩ := List.mem_map.mp hd
  exact (h z hz).pl
theorem eqv_same {d : PyData} (h : plD d = true) : PyData.eqv d d = true := (eqv_pl d d h h).mpr rfl
end Fb

namespace Fb
open PySem PySem.Spec L2 Evl
open C8 (Cal Met Mak)
section
variable {P : Program} {w : World} {K : PySem.W.Frag} {mg : Str → Option Value} {base : Heap}
theorem KRel.mem {D : Hp} {ks : List (Key × V)} {kvs : List (Key × Rp)} (h : KRel D ks kvs) : ∀ p ∈ ks, ∃ q ∈ kvs, p.1 = q.1 ∧ q.2.r D p.2 := by
  induction h with
  | nil => intro p h; cases h
  | @cons a b as bs h t ih =>
    intro p hp
    rcases List.mem_cons.mp hp with e | hp
    · subst e; exact ⟨b, List.mem_cons_self .., h⟩
    · obtain ⟨q, h1, h2⟩ := ih p hp; exact ⟨q, List.mem_cons_of_mem _ h1, h2⟩
/-- overs == overs -/
theorem og_overs {K : PySem.W.Frag} {L : List Wd} {ps : Prs Str} (nd : (ps.map (·.1)).Nodup) : Og (rEqV K) (rDK (oversK ps)) (rDK (oversK ps)) L (rD (.bool true)) L := fun x y D H hd ⟨p, ks, h1, h2, h3⟩ ⟨p', ls, g1, g2, g3⟩ Q q => by
  refine ⟨1, by omega, .inr ⟨p, p', ks, ls, h1, g1, hd.ex _ _ h2, hd.ex _ _ g2, by rw [h3.len, g3.len], fun e he => ?_⟩, q _ D H (Ex.refl D) hd (.bl _)⟩
  obtain ⟨kr, hkr, e1, r1⟩ := h3.mem e he
  obtain ⟨⟨c, o⟩, hp, rfl⟩ := List.mem_map.mp hkr
  obtain ⟨v, hv, rv⟩ := g3.some (overs_val nd hp)
  have e1' : e.1 = Sum.inr c := e1
  have r1' : (rD (optD o)).r D e.2 := r1
  refine ⟨v, by rw [e1']; exact hv, .inl ?_⟩
  cases o with
  | none => rw [non_of r1', non_of rv]; exact ⟨rfl, rfl⟩
  | some s => rw [str_of r1', str_of rv]; exact ⟨rfl, rfl⟩
abbrev sp_Tree_eq (P : Program) (w : World) (K : PySem.W.Frag) : Sp := spE (fun i : Prs Str × Fo Str => TreeOk i.1 i.2) (fun i => [rTree P w K i.1 i.2, rTree P w K i.1 i.2]) fun _ => true
theorem c_Tree_eq (W : Wo K mg base) : Met P w K mg base 1 (cTr K) "__eq__" (sp_Tree_eq P w K) [] :=
  met_of (f_Tree_eq W) (cl_Tree W) (me_Tree_eq W) b_Tree_eq sc_Tree_eq (fun _ _ => rfl) fun cdv A' outer s H E hr => ⟨_, (pss_one (ps_ret (pe_and (pe_callB (kCall K rIsi call_isi) (by rfl) (n_isinstance W) PyProof.Rows.boot_isinstance (pa_cons (pv 1) (pa_cons (pe_glob (v := .ref (He.ga K "Tree")) rfl (g_Tree W) rfl) pa_nil))) (pe_and (pe_cmpR (kOp K rEqD (op_eqD hr.units)) (pe_fldK K (pv 0)) (pe_fldK K (pv 1)) (nomark _)) (pe_one (pe_cmpR (op_eqV hr.units) (pe_fldK K (pv 0)) (pe_fldK K (pv 1)) (nomark _))))))), fun i F D0 Q o q =>
    go_ret (eg_andV (eg_cb (ag_cons (eg_var rfl) (ag_cons eg_cv ag_nil)) (cg_isC (ic_Tree W) isins_obj)) fun _ => eg_andV (eg_op (eg_fldO (cl_Tree W) (no_Tree_order W) (eg_var rfl) rfl) (eg_fldO (cl_Tree W) (no_Tree_order W) (eg_var rfl) rfl) (og_eqP (b := true) (pl_strL (n := 0) o.ok) (pl_strL (n := 0) o.ok) (by omega) (by omega) (by simp))) fun _ => eg_op (eg_fldO (cl_Tree W) (no_Tree_overs W) (eg_var rfl) rfl) (eg_fldO (cl_Tree W) (no_Tree_overs W) (eg_var rfl) rfl) (og_overs o.nd))
      fun v D H e hd r => q v D H () e trivial hd r⟩
end
end Fb

namespace Fb
open PySem PySem.Spec L2 Evl
section
variable {K : PySem.W.Frag} {L : List Wd}
theorem eqV_s {a b : Str} : eqV (.str a) (.str b) = decide (a = b) := by
  by_cases h : a = b <;> simp [eqV, h]
theorem eqV_i {a b : Int} : eqV (.int a) (.int b) = decide (a = b) := by
  by_cases h : a = b <;> simp [eqV, h]
theorem mg_index {ds : List PyData} {d z : PyData} {j : Nat} (fd : flatD d = true) (fs : ds.all flatD = true) (hj : ds[j]? = some z) (h1 : eqV (toV z) (toV d) = true) (h2 : ∀ (m : Nat) z', m < j → ds[m]? = some z' → eqV (toV z') (toV d) = false) : Mg (rIndex K) (rD (.list ds)) [rD d] L (rD (.int (j : Int))) L := fun x xs D H hd rx rxs Q q => by
  obtain ⟨a, vs, rfl, hs, al⟩ := lst_rD rx
  cases rxs with
  | cons r t =>
    cases t
    rw [toV_of fd r]
    have e := toVs_of fs al
    subst e
    refine ⟨a, _, _, j, toV z, rfl, rfl, SqL.of (hd.ex _ _ hs), flat_toV fd, flat_toVs fs, by rw [List.getElem?_map, hj]; rfl, h1, fun m z' hm hz => ?_, q _ D H (Ex.refl D) hd (.int _)⟩
    rw [List.getElem?_map] at hz
    cases e : ds[m]? with
    | none => rw [e] at hz; cases hz
    | some y => rw [e] at hz; cases hz; exact h2 m y hm e
theorem mg_indexS {xs : List Str} {x : Str} {j : Nat} (nd : xs.Nodup) (hj : xs[j]? = some x) : Mg (rIndex K) (rD (strL xs)) [rD (.str x)] L (rD (.int (j : Int))) L :=
  mg_index (z := .str x) rfl (by rw [List.all_eq_true]; intro v hv; obtain ⟨d, _, rfl⟩ := List.mem_map.mp hv; rfl) (by rw [List.getElem?_map, hj]; rfl) (by simp [toV, eqV]) fun m z' hm hz => by
    rw [List.getElem?_map] at hz
    cases e : xs[m]? with
    | none => rw [e] at hz; cases hz
    | some y =>
      rw [e] at hz; cases hz
      show eqV (.str y) (.str x) = false
      rw [eqV_s]
      refine decide_eq_false fun q => ?_
      subst q
      have := (List.getElem?_inj (List.getElem?_eq_some_iff.mp e).1 nd).mp (e.trans hj.symm)
      omega
theorem mg_indexI {xs : List Int} {x : Int} {j : Nat} (nd : xs.Nodup) (hj : xs[j]? = some x) : Mg (rIndex K) (rD (.list (xs.map .int))) [rD (.int x)] L (rD (.int (j : Int))) L :=
  mg_index (z := .int x) rfl (by rw [List.all_eq_true]; intro v hv; obtain ⟨d, _, rfl⟩ := List.mem_map.mp hv; rfl) (by rw [List.getElem?_map, hj]; rfl) (by simp [toV, eqV]) fun m z' hm hz => by
    rw [List.getElem?_map] at hz
    cases e : xs[m]? with
    | none => rw [e] at hz; cases hz
    | some y =>
      rw [e] at hz; cases hz
      show eqV (.int y) (.int x) = false
      rw [eqV_i]
      refine decide_eq_false fun q => ?_
      subst q
      have := (List.getElem?_inj (List.getElem?_eq_some_iff.mp e).1 nd).mp (e.trans hj.symm)
      omega
/-- a list's own methods -/
theorem ty_list {D H : Hp} {v : V} {ds : List PyData} (e : Ex D H) (h : (rD (.list ds)).r D v) : tyV K "list" v H := by
  obtain ⟨a, vs, rfl, hs, _⟩ := lst_rD h
  exact Or.inl ⟨rfl, vs, SqL.of (e _ _ hs)⟩
end
end Fb

namespace Fb
open PySem PySem.Spec L2 Evl
open C8 (Cal Met Mak)
section
variable {P : Program} {w : World} {K : PySem.W.Frag} {mg : Str → Option Value} {base : Heap}
abbrev cTb (K : PySem.W.Frag) : Addr := He.ga K "Table"
abbrev tabF (cs : List Str) (ts : List Row) : List (Str × Rp) := [("named", rD (strL cs)), ("held", rD (rowsD ts))]
abbrev rTable (K : PySem.W.Frag) (cs : List Str) (ts : List Row) : Rp := rObj (cTb K) (tabF cs ts)
structure TblOk (cs : List Str) (rs ts : List Row) : Prop where
  co : ColsOk cs
  ne : cs ≠ []
  len : ∀ r ∈ rs, r.length = cs.length
  few : rs.length < 64
  so : SortedR ts
  mem : ∀ x, x ∈ ts ↔ x ∈ rs
theorem sorted_le {us : List Row} (nd : us.Nodup) (h : us.Pairwise (· ≤ ·)) : SortedR us := by
  refine (List.Pairwise.and h nd).imp fun {a b} ⟨h1, h2⟩ => ?_
  rcases List.le_iff_lt_or_eq.mp h1 with q | q
  · exact q
  · exact absurd q h2
abbrev sp_Table_init (K : PySem.W.Frag) : Sp := spX (κ := Unit) (fun i : Addr × Addr × List Str × List Row × List Row => TblOk i.2.2.1 i.2.2.2.1 i.2.2.2.2) (fun i => [rV (.ref i.1), rD (strL i.2.2.1), rD (rowsD i.2.2.2.1)]) (fun i => [wIns i.1 (cTb K) i.2.1 []]) (fun _ _ => True) (fun _ _ => rD .none) (fun i _ => [wIns i.1 (cTb K) i.2.1 (tabF i.2.2.1 i.2.2.2.2)])
theorem b_Table_init {K : PySem.W.Frag} {a : Addr} (fd : FuncData) (F : FunD K "__init__" "Table.__init__" (defArgs s_Table_init) (defBody s_Table_init) (defScope s_Table_init) [.non] [] a fd) : ∃ ds, Vals [] ds ∧ Binds K fd P_Table_init ds :=
  F.binds1 3 1 (by simp) rfl fun T kV doc pm an cdv ct us its hu hi => match us, hu, its, hi with | [_, _, _], _, [_], _ => ⟨_, rfl, rfl⟩
theorem c_Table (W : Wo K mg base) : Mak P w K mg base 5 "Table" (cTb K) (sp_Table_init K) [] := by
  have c_are_columns := c_are_columns (P := P) (w := w) W
  have c_want_row := c_want_row (P := P) (w := w) W
  refine mak_of (f_Table_init W) (g_Table W) (mk_Table W) b_Table_init sc_Table_init (fun _ _ => rfl) fun cdv A' outer s H E hr => ⟨_, (pss_cons (ps_if (pt_not (pt_val (C8.pe_c c_are_columns hr (by first | decide | omega) rfl (pa_cons (pv 1) pa_nil)))) (pss_one ps_never) pss_nil)
    (pss_cons (ps_if (pt_cmp (pc_isN (pv 2))) (pss_one (ps_set (i := 2) sc_Table_init.nd rfl (by first | exact Or.inl rfl | exact Or.inr rfl) (pe_lst pa_nil))) pss_nil)
    (pss_cons (ps_if (pt_not (pt_val (pe_callB (kCall K rIsi call_isi) (by rfl) (n_isinstance W) PyProof.Rows.boot_isinstance (pa_cons (pv 2) (pa_cons (pe_bltn (v := .ty "list") rfl (n_list W) PyProof.Rows.boot_list rfl) pa_nil))))) (pss_one ps_never) pss_nil)
    (pss_cons (ps_for PassesOwn.never rfl (pi_enumK K rfl (n_enumerate W) (pa_cons (pv 2) pa_nil)) (pg_tupK K rfl (pgs_cons (pg_name (i := 3) sc_Table_init.nd rfl (by first | exact Or.inl rfl | exact Or.inr rfl)) (pgs_cons (pg_name (i := 4) sc_Table_init.nd rfl (by first | exact Or.inl rfl | exact Or.inr rfl)) pgs_nil))) (pss_one (ps_expr (C8.pe_c c_want_row hr (by first | decide | omega) rfl (pa_cons (pv 4) (pa_cons (pe_callB (kCall K rLenV call_len) (by rfl) (n_len W) PySem.boot_len (pa_cons (pv 1) pa_nil)) (pa_cons (pv 3) pa_nil)))))))
    (pss_cons (ps_fldK K (pv 0) (pe_callTy (kCall K rListOf call_list_of) (by rfl) (n_list W) PyProof.Rows.boot_list (pa_cons (pv 1) pa_nil)))
    (pss_one (ps_fldK K (pv 0) (pe_callB (cr_sortedSetT hr rfl) (by rfl) (n_sorted W) PyProof.Rows.boot_sorted (pa_cons (pe_callTy (cr_setOfT rfl hr.units) (by rfl) (n_set W) PyProof.Rows.boot_set (pa_cons (pv 2) pa_nil)) pa_nil))))))))), ?_⟩
  rintro ⟨x, dx, cs, rs, ts⟩ F D0 Q ok q
  simp only at ok
  have cl := cl_Table W
  refine sq_no (Tg.to (tg_not (tg_B (eg_callP cs ok.co (ag_cons (eg_var rfl) ag_nil) rfl))) rfl) ?_
  refine sq_no (Tg.to (tg_test (eg_isN (b := false) (eg_var rfl) fun D v h => by obtain ⟨a, vs, rfl, _⟩ := lst_rD h; rfl)) rfl) ?_
  refine sq_no (Tg.to (tg_not (tg_B (eg_cb (ag_cons (eg_var rfl) (ag_cons eg_cv ag_nil)) (cg_isi (b := true) kt_ll)))) rfl) ?_
  have few := ok.few
  refine sq_for (ι := Unit) (ig_enumX (xs := rs) (ag_cons (eg_var rfl) ag_nil)) (fun _ _ => True) (fun _ _ => [some (rV (.ref x)), some (rD (strL cs)), some (rD (rowsD rs)), none, none]) (fun _ _ => wIns x (cTb K) dx [] :: F)
    ⟨(), trivial, Less.refl _, rfl⟩ (fun _ _ _ _ => trivial) ?_ ?_
  · rintro i _ R D1 N hi e1 _ ⟨r, hx, rfl⟩ kN
    have hl := ok.len r (List.mem_of_getElem? hx)
    refine ⟨_, _, tgt_tup (tgs_cons tgt_name (tgs_cons tgt_name tgs_nil)) rfl, ?_⟩
    refine go_drop (eg_callP (r, (i : Int)) (by show r.length ≤ 100; have := ok.co.len; omega) (ag_cons (eg_var rfl) (ag_cons (Eg.to (eg_cb (ag_cons (eg_var rfl) ag_nil) cg_lenD) (by rw [List.length_map, ← hl])) (ag_cons (eg_var rfl) ag_nil))) rfl) ?_
    refine (kN () trivial).less (less_of rfl fun i h => ?_)
    match i with
    | 0 => exact .inr rfl
    | 1 => exact .inr rfl
    | 2 => exact .inr rfl
    | 3 => exact .inl rfl
    | 4 => exact .inl rfl
    | i + 5 => exact absurd h (by show ¬ i + 5 < 5; omega)
  · rintro _ _
    refine sq_fldI (j := 0) cl (no_Table_named W) (eg_cb (ag_cons (eg_var rfl) ag_nil) cg_listD) (eg_var rfl) rfl rfl (by simp) ?_
    refine go_fldI (j := 0) cl (no_Table_held W) (eg_sortSet (ts := ts) rfl rfl (eg_var rfl) few (fun r hr e => ?_) fun us u1 u2 u3 => sorted_one (sorted_le u1 u2) ok.so fun x => (u3 x).trans (ok.mem x).symm) (eg_var rfl) rfl rfl (by simp) (go_end fun D H e hd => q .non D H () e trivial hd .non)
    have := ok.len r hr
    rw [e] at this
    exact ok.ne (List.eq_nil_of_length_eq_zero this.symm)
abbrev sp_Table_get (K : PySem.W.Frag) (d : List Str × List Row → PyData) : Sp := spP (fun _ : List Str × List Row => True) (fun i => [rTable K i.1 i.2]) fun i => rD (d i)
theorem c_Table_columns (W : Wo K mg base) : Met P w K mg base 1 (cTb K) "columns" (sp_Table_get K fun i => strL i.1) [] :=
  met_of (f_Table_columns W) (cl_Table W) (me_Table_columns W) b_Table_columns sc_Table_columns (fun _ _ => rfl) fun cdv A' outer s H E hr => ⟨_, (pss_one (ps_ret (pe_callTy (kCall K rListOf call_list_of) (by rfl) (n_list W) PyProof.Rows.boot_list (pa_cons (pe_fldK K (pv 0)) pa_nil)))), fun i F D0 Q o q =>
    go_ret (eg_cb (ag_cons (eg_fldO (cl_Table W) (no_Table_named W) (eg_var rfl) rfl) ag_nil) cg_listD) fun v D H e hd r => q v D H () e trivial hd r⟩
theorem c_Table_rows (W : Wo K mg base) : Met P w K mg base 1 (cTb K) "rows" (sp_Table_get K fun i => rowsD i.2) [] :=
  met_of (f_Table_rows W) (cl_Table W) (me_Table_rows W) b_Table_rows sc_Table_rows (fun _ _ => rfl) fun cdv A' outer s H E hr => ⟨_, (pss_one (ps_ret (pe_callTy (kCall K rListOf call_list_of) (by rfl) (n_list W) PyProof.Rows.boot_list (pa_cons (pe_fldK K (pv 0)) pa_nil)))), fun i F D0 Q o q =>
    go_ret (eg_cb (ag_cons (eg_fldO (cl_Table W) (no_Table_held W) (eg_var rfl) rfl) ag_nil) cg_listD) fun v D H e hd r => q v D H () e trivial hd r⟩
end
end Fb

namespace Fb
open PySem PySem.Spec L2 Evl
open C8 (Cal Met Mak)
section
variable {P : Program} {w : World} {K : PySem.W.Frag} {mg : Str → Option Value} {base : Heap}
theorem atI_nat {α : Type} {xs : List α} {i : Nat} {x : α} (h : xs[i]? = some x) : atI xs (i : Int) = some x := by
  have hl := (List.getElem?_eq_some_iff.mp h).1
  unfold atI ixN
  rw [if_pos (by omega), if_pos (by omega)]
  exact h
theorem map_range {α β : Type} (xs : List α) (f : α → β) (g : Nat → β) (h : ∀ i x, xs[i]? = some x → g i = f x) : (List.range xs.length).map g = xs.map f := by
  apply List.ext_getElem?
  intro i
  rw [List.getElem?_map, List.getElem?_map]
  by_cases hi : i < xs.length
  · rw [List.getElem?_range hi]
    have := h i xs[i] (List.getElem?_eq_getElem hi)
    rw [List.getElem?_eq_getElem hi]
    simp [this]
  · rw [List.getElem?_eq_none (by rw [List.length_range]; omega), List.getElem?_eq_none (by omega)]
    rfl
/-- Table.of, of the same columns -/
abbrev sp_Table_of (K : PySem.W.Frag) : Sp := spP (fun i : List Str × List Row => TblOk i.1 i.2 i.2) (fun i => [rTable K i.1 i.2, rD (strL i.1)]) fun i => rTable K i.1 i.2
theorem c_Table_of (W : Wo K mg base) : Met P w K mg base 7 (cTb K) "of" (sp_Table_of K) [] := by
  have c_are_columns := c_are_columns (P := P) (w := w) W
  have c_Table := c_Table (P := P) (w := w) W
  refine met_of (f_Table_of W) (cl_Table W) (me_Table_of W) b_Table_of sc_Table_of (fun _ _ => rfl) fun cdv A' outer s H E hr => ⟨_, (pss_cons (ps_if (pt_not (pt_val (C8.pe_c c_are_columns hr (by first | decide | omega) rfl (pa_cons (pv 1) pa_nil)))) (pss_one ps_never) pss_nil)
    (pss_cons (ps_for PassesOwn.never rfl (pi_listK K (pv 1)) (pg_name (i := 2) sc_Table_of.nd rfl (by first | exact Or.inl rfl | exact Or.inr rfl)) (pss_one (ps_if (pt_cmpR (kOp K (fun K => rIn K true) op_notIn_seq) (pv 2) (pe_fldK K (pv 0)) (by rfl)) (pss_one ps_never) pss_nil)))
    (pss_cons (ps_set (i := 3) sc_Table_of.nd rfl (by first | exact Or.inl rfl | exact Or.inr rfl) (pe_lc (own := [("name", 2)]) (g := (gName 2)) rfl sc_Table_of.nd (pi_listK K (pv 1)) (blkOk_by (own := [("name", 2)]) (N := N_Table_of) (sc := defScope s_Table_of) (by decide +kernel)) (fun _ _ _ _ _ => (pg_name (i := 2) sc_Table_of.nd rfl (by first | exact Or.inl rfl | exact Or.inr rfl))) (fun _ _ _ _ _ => pts_nil) (fun _ _ _ _ _ => (pe_bmK K PySem.F.plainAttrs_list PySem.F.slot_list_index PySem.F.type_list_index (kMt K rIndex mt_index) (pe_fldK K (pv 0)) (pa_cons (pv 2) pa_nil)))))
    (pss_one (ps_ret (C8.pe_mk c_Table hr (by decide) rfl (pa_cons (pv 1) (pa_cons (pe_lc (own := [("row", 4)]) (g := (gName 4)) rfl sc_Table_of.nd (pi_listK K (pe_fldK K (pv 0))) (blkOk_by (own := [("row", 4)]) (N := N_Table_of) (sc := defScope s_Table_of) (by decide +kernel)) (fun _ _ _ _ _ => (pg_name (i := 4) sc_Table_of.nd rfl (by first | exact Or.inl rfl | exact Or.inr rfl))) (fun _ _ _ _ _ => pts_nil) (fun _ _ _ _ _ => (pe_callTy (kCall K rTupOf call_tuple_of) (by rfl) (n_tuple W) PyProof.Rows.boot_tuple (pa_cons (pe_lc (own := [("at", 5)]) (g := (gName 5)) rfl sc_Table_of.nd (pi_listK K (pv 3)) (blkOk_by (own := [("at", 5)]) (N := N_Table_of) (by kernel_rfl)) (fun _ _ _ _ _ => (pg_name (i := 5) sc_Table_of.nd rfl (by first | exact Or.inl rfl | exact Or.inr rfl))) (fun _ _ _ _ _ => pts_nil) (fun _ _ _ _ _ => (pe_ix (kIx K rIxT ix_tup) (pv 4) (pv 5) fun _ _ => rfl))) pa_nil)))) pa_nil)))))))), ?_⟩
  rintro ⟨cs, ts⟩ F D0 Q ok q
  simp only at ok
  have cl := cl_Table W
  have l8 := ok.co.len
  have few := ok.few
  refine sq_no (Tg.to (tg_not (tg_B (eg_callP cs ok.co (ag_cons (eg_var rfl) ag_nil) rfl))) rfl) ?_
  refine sq_forL (G := gT) cs (fun z => rD (.str z)) (ig_listX (f := .str) (eg_var rfl)) (fun i R y => y) (fun _ => [some (rTable K cs ts), some (rD (strL cs)), none, none, none, none]) (fun _ => F) (Less.refl _) rfl (fun _ => trivial) (fun a z b D1 N e he kN => ?_) ?_
  · refine ⟨_, _, tgt_name, go_no (Tg.to (tg_test (eg_op (eg_var rfl) (eg_fldO cl (no_Table_named W) (eg_var rfl) rfl) (og_in (d := .str z) (ds := cs.map .str) rfl (by rw [List.all_eq_true]; intro v hv; obtain ⟨d, _, rfl⟩ := List.mem_map.mp hv; rfl)))) ?_) (kN.less (less_of rfl fun i h => ?_))⟩
    · rw [if_pos rfl, List.map_map]
      have := inV_str (a := z) (xs := cs)
      rw [show (toV (.str z)) = V.str z from rfl, show (toV ∘ PyData.str) = V.str from rfl, this, decide_eq_true (by rw [e]; simp)]
      rfl
    · match i with
      | 0 => exact .inr rfl
      | 1 => exact .inr rfl
      | 2 => exact .inl rfl
      | 3 => exact .inr rfl
      | 4 => exact .inr rfl
      | 5 => exact .inr rfl
      | i + 6 => exact absurd h (by show ¬ i + 6 < 6; omega)
  · refine sq_asg (eg_lcA (L1 := F) cs (ig_listX (f := .str) (eg_var rfl)) (by omega) (fun _ => trivial) (fun z => .int ((ix cs z : Nat) : Int)) fun i z hz R ⟨y, hy, hR⟩ => ?_) ?_
    · subst hR
      rw [hz] at hy; cases hy
      refine ⟨_, _, tgt_name, by simp, fun Fr => eg_bm (eg_fldO cl (no_Table_named W) (eg_var rfl) rfl) (fun x D H hd r => ty_list hd.ex r) (ag_cons (eg_var rfl) ag_nil) (mg_indexS ok.co.nd ?_)⟩
      exact ix_get (List.mem_of_getElem? hz)
    · have e1 : (cs.map fun z => PyData.int ((ix cs z : Nat) : Int)) = (List.range cs.length).map fun (j : Nat) => PyData.int (j : Int) := by
        refine (map_range cs _ _ fun i x hx => ?_).symm
        have : ix cs x = i := ix_of_get ok.co.nd hx
        rw [this]
      rw [e1]
      refine go_retX (eg_make (F := F) (As := [rD (strL cs), rD (rowsD ts)]) (Ds := []) (flds := fun _ => tabF cs ts) (Lr := fun _ => F) (cs, ts, ts) (fun x dx => ok) (ag_cons (eg_var rfl) (ag_cons (eg_lcA (L1 := F) ts (ig_listX (f := tupI) (eg_fldO cl (no_Table_held W) (eg_var rfl) rfl)) (by omega) (fun _ => trivial) tupI fun i r hr' R ⟨y, hy, hR⟩ => ?_) ag_nil)) (fun _ => .nil) (fun _ _ => rfl) (fun _ _ => rfl) (fun _ _ _ _ => rfl) fun _ _ _ => rfl) fun v D H e ⟨_, _, hd, r⟩ => q v D H () e trivial hd r
      subst hR
      rw [hr'] at hy; cases hy
      have hl := ok.len r (List.mem_of_getElem? hr')
      refine ⟨_, _, tgt_name, by simp, fun Fr => eg_cb (ag_cons (Eg.to (eg_lcA (L1 := F ++ Fr) (List.range cs.length) (ig_listX (f := fun (j : Nat) => .int (j : Int)) (eg_var rfl)) (by rw [List.length_range]; omega) (fun _ => trivial) (fun j => .int (r.getD j 0)) fun i j hj R ⟨y, hy, hR⟩ => ?_) ?_) ag_nil) cg_tupD⟩
      · subst hR
        rw [hj] at hy; cases hy
        have hj' : j < r.length := by
          have := List.mem_of_getElem? hj
          rw [List.mem_range] at this
          omega
        refine ⟨_, _, tgt_name, by simp, fun Fr2 => eg_op (eg_var rfl) (eg_var rfl) (og_ixDT (ds := r.map .int) (atI_nat ?_))⟩
        rw [List.getElem?_map, List.getElem?_eq_getElem hj']
        simp [hj']
      · rw [← hl]
        exact congrArg PyData.list (map_range r _ _ fun i x hx => by rw [List.getD_eq_getElem?_getD, hx]; rfl)
/-! the fold -/
abbrev cFo (K : PySem.W.Frag) : Addr := He.ga K "Fold"
abbrev prtD (ns : List Nat) : PyData := .tuple (ns.map fun (n : Nat) => PyData.int (n : Int))
abbrev entD (e : Ent) : PyData := .tuple [.int e.1, prtD e.2]
abbrev bunD (b : Bun Str) : PyData := .tuple [.str b.1, .list (b.2.map entD)]
abbrev bunsD (bs : List (Bun Str)) : PyData := .list (bs.map bunD)
def topD : Option (List Nat) → PyData
  | none => .none
  | some ns => prtD ns
abbrev folF (P : Program) (w : World) (K : PySem.W.Frag) (ps : Prs Str) (F : Fo Str) (bs : List (Bun Str)) (ts : Option (List Nat)) : List (Str × Rp) := [("shape", rTree P w K ps F), ("held", rD (bunsD bs)), ("roots", rD (topD ts))]
abbrev rFold (P : Program) (w : World) (K : PySem.W.Frag) (ps : Prs Str) (F : Fo Str) (bs : List (Bun Str)) (ts : Option (List Nat)) : Rp := rObj (cFo K) (folF P w K ps F bs ts)
theorem prtD_inj {a b : List Nat} (h : prtD a = prtD b) : a = b := by
  have h' : a.map (fun (n : Nat) => PyData.int (n : Int)) = b.map fun (n : Nat) => PyData.int (n : Int) := PyData.tuple.inj h
  exact (List.map_inj_right fun x y e => by have := PyData.int.inj e; omega).mp h'
theorem entD_inj {a b : Ent} (h : entD a = entD b) : a = b := by
  have h1 := PyData.tuple.inj h
  simp only [List.cons.injEq, PyData.int.injEq, and_true] at h1
  exact Prod.ext h1.1 (prtD_inj h1.2)
theorem bunD_inj {a b : Bun Str} (h : bunD a = bunD b) : a = b := by
  have h1 := PyData.tuple.inj h
  simp only [List.cons.injEq, PyData.str.injEq, PyData.list.injEq, and_true] at h1
  exact Prod.ext h1.1 ((List.map_inj_right fun x y e => entD_inj e).mp h1.2)
theorem bunsD_inj {a b : List (Bun Str)} (h : bunsD a = bunsD b) : a = b := (List.map_inj_right fun x y e => bunD_inj e).mp (PyData.list.inj h)
theorem topD_inj {a b : Option (List Nat)} (h : topD a = topD b) : a = b := by
  cases a <;> cases b
  · rfl
  · cases h
  · cases h
  · rw [prtD_inj h]
theorem pl_prt {n : Nat} {ns : List Nat} : Pl (n + 1) (prtD ns) := .tuple fun d hd => by
  obtain ⟨z, _, rfl⟩ := List.mem_map.mp hd
  exact .int
theorem pl_ent {n : Nat} {e : Ent} : Pl (n + 2) (entD e) := .tuple fun d hd => by
  rcases List.mem_cons.mp hd with rfl | hd
  · exact .int
  · rw [List.mem_singleton.mp hd]; exact pl_prt
theorem pl_bun {n : Nat} {b : Bun Str} (h : NameOk b.1) : Pl (n + 4) (bunD b) := .tuple fun d hd => by
  rcases List.mem_cons.mp hd with rfl | hd
  · exact h.pl
  · rw [List.mem_singleton.mp hd]
    exact .list fun d hd => by
      obtain ⟨z, _, rfl⟩ := List.mem_map.mp hd
      exact pl_ent
theorem pl_buns {bs : List (Bun Str)} (h : ∀ b ∈ bs, NameOk b.1) : Pl 5 (bunsD bs) := .list fun d hd => by
  obtain ⟨z, hz, rfl⟩ := List.mem_map.mp hd
  exact pl_bun (n := 0) (h z hz)
theorem pl_top {n : Nat} {ts : Option (List Nat)} : Pl (n + 1) (topD ts) := by
  cases ts with
  | none => exact .none
  | some ns => exact pl_prt
abbrev sp_Fold_init (P : Program) (w : World) (K : PySem.W.Frag) : Sp := spX (κ := Unit) (fun _ : Addr × Addr × Prs Str × Fo Str × List (Bun Str) × Option (List Nat) => True) (fun i => [rV (.ref i.1), rTree P w K i.2.2.1 i.2.2.2.1, rD (bunsD i.2.2.2.2.1), rD (topD i.2.2.2.2.2)]) (fun i => [wIns i.1 (cFo K) i.2.1 []]) (fun _ _ => True) (fun _ _ => rD .none) (fun i _ => [wIns i.1 (cFo K) i.2.1 (folF P w K i.2.2.1 i.2.2.2.1 i.2.2.2.2.1 i.2.2.2.2.2)])
theorem c_Fold (W : Wo K mg base) : Mak P w K mg base 1 "Fold" (cFo K) (sp_Fold_init P w K) [] :=
  mak_of (f_Fold_init W) (g_Fold W) (mk_Fold W) b_Fold_init sc_Fold_init (fun _ _ => rfl) fun cdv A' outer s H E hr => ⟨_, (pss_cons (ps_fldK K (pv 0) (pv 1))
    (pss_cons (ps_fldK K (pv 0) (pv 2))
    (pss_one (ps_fldK K (pv 0) (pv 3))))), fun i F D0 Q o q =>
    sq_fldI (j := 0) (cl_Fold W) (no_Fold_shape W) (eg_var rfl) (eg_var rfl) rfl rfl (by simp) (sq_fldI (j := 0) (cl_Fold W) (no_Fold_held W) (eg_var rfl) (eg_var rfl) rfl rfl (by simp) (go_fldI (j := 0) (cl_Fold W) (no_Fold_roots W) (eg_var rfl) (eg_var rfl) rfl rfl (by simp)
      (go_end fun D H e hd => q .non D H () e trivial hd .non)))⟩
abbrev FolI : Type := Prs Str × Fo Str × List (Bun Str) × Option (List Nat)
abbrev sp_Fold_get (P : Program) (w : World) (K : PySem.W.Frag) (ok : FolI → Prop) (d : FolI → PyData) : Sp := spP (fun i : FolI => ok i) (fun i => [rFold P w K i.1 i.2.1 i.2.2.1 i.2.2.2]) fun i => rD (d i)
theorem c_Fold_tops (W : Wo K mg base) : Met P w K mg base 1 (cFo K) "tops" (sp_Fold_get P w K (fun _ => True) fun i => topD i.2.2.2) [] :=
  met_of (f_Fold_tops W) (cl_Fold W) (me_Fold_tops W) b_Fold_tops sc_Fold_tops (fun _ _ => rfl) fun cdv A' outer s H E hr => ⟨_, (pss_one (ps_ret (pe_fldK K (pv 0)))), fun i F D0 Q o q =>
    go_ret (eg_fldO (cl_Fold W) (no_Fold_roots W) (eg_var rfl) rfl) fun v D H e hd r => q v D H () e trivial hd r⟩
theorem c_Fold_bunches (W : Wo K mg base) : Met P w K mg base 1 (cFo K) "bunches" (sp_Fold_get P w K (fun i => i.2.2.1.length ≤ 100000) fun i => bunsD i.2.2.1) [] := by
  refine met_of (f_Fold_bunches W) (cl_Fold W) (me_Fold_bunches W) b_Fold_bunches sc_Fold_bunches (fun _ _ => rfl) fun cdv A' outer s H E hr => ⟨_, (pss_one (ps_ret (pe_lc (own := [("column", 1), ("entries", 2)]) (g := (gTup K 2 (gCons (gName 1) (gCons (gName 2) gNil)))) rfl sc_Fold_bunches.nd (pi_listK K (pe_fldK K (pv 0))) (blkOk_by (own := [("column", 1), ("entries", 2)]) (N := N_Fold_bunches) (sc := defScope s_Fold_bunches) (by decide +kernel)) (fun _ _ _ _ _ => (pg_tupK K rfl (pgs_cons (pg_name (i := 1) sc_Fold_bunches.nd rfl (by first | exact Or.inl rfl | exact Or.inr rfl)) (pgs_cons (pg_name (i := 2) sc_Fold_bunches.nd rfl (by first | exact Or.inl rfl | exact Or.inr rfl)) pgs_nil)))) (fun _ _ _ _ _ => pts_nil) (fun _ _ _ _ _ => (pe_tup (pa_cons (pv 1) (pa_cons (pe_callTy (kCall K rListOf call_list_of) (by rfl) (n_list W) PyProof.Rows.boot_list (pa_cons (pv 2) pa_nil)) pa_nil))))))), ?_⟩
  rintro ⟨ps, T, bs, ts⟩ F D0 Q o q
  refine go_ret (eg_lcA (L1 := F) bs (ig_listX (f := bunD) (eg_fldO (cl_Fold W) (no_Fold_held W) (eg_var rfl) rfl)) o (fun _ => trivial) bunD fun i b hb R ⟨y, hy, hR⟩ => ?_) fun v D H e hd r => q v D H () e trivial hd r
  subst hR
  rw [hb] at hy; cases hy
  exact ⟨_, _, tgt_tupD (ds := [.str b.1, .list (b.2.map entD)]) (tgs_cons tgt_name (tgs_cons tgt_name tgs_nil)) rfl, by simp, fun Fr => Eg.tup (eg_tup (ag_cons (eg_var rfl) (ag_cons (eg_cb (ag_cons (eg_var rfl) ag_nil) cg_listD) ag_nil)) (by simp))⟩
/-- two folds along one tree -/
abbrev FolE : Type := Prs Str × Fo Str × (List (Bun Str) × Option (List Nat)) × (List (Bun Str) × Option (List Nat))
abbrev okE (i : FolE) : Prop := TreeOk i.1 i.2.1 ∧ (∀ b ∈ i.2.2.1.1, NameOk b.1) ∧ ∀ b ∈ i.2.2.2.1, NameOk b.1
abbrev sp_Fold_eq (P : Program) (w : World) (K : PySem.W.Frag) : Sp := spE okE (fun i : FolE => [rFold P w K i.1 i.2.1 i.2.2.1.1 i.2.2.1.2, rFold P w K i.1 i.2.1 i.2.2.2.1 i.2.2.2.2]) fun i => decide (i.2.2.1 = i.2.2.2)
theorem c_Fold_eq (W : Wo K mg base) : Met P w K mg base 2 (cFo K) "__eq__" (sp_Fold_eq P w K) [] := by
  have c_Tree_eq := c_Tree_eq (P := P) (w := w) W
  refine met_of (f_Fold_eq W) (cl_Fold W) (me_Fold_eq W) b_Fold_eq sc_Fold_eq (fun _ _ => rfl) fun cdv A' outer s H E hr => ⟨_, (pss_cons (ps_if (pt_not (pt_val (pe_callB (kCall K rIsi call_isi) (by rfl) (n_isinstance W) PyProof.Rows.boot_isinstance (pa_cons (pv 1) (pa_cons (pe_glob (v := .ref (He.ga K "Fold")) rfl (g_Fold W) rfl) pa_nil))))) (pss_one (ps_ret pe_bl)) pss_nil)
    (pss_one (ps_ret (pe_and (pe_cmpR (opE c_Tree_eq (hr.mono (by decide))) (pe_fldK K (pv 0)) (pe_fldK K (pv 1)) (nomark _)) (pe_and (pe_cmpR (kOp K rEqD (op_eqD hr.units)) (pe_fldK K (pv 0)) (pe_fldK K (pv 1)) (nomark _)) (pe_one (pe_cmpR (kOp K rEqD (op_eqD hr.units)) (pe_fldK K (pv 0)) (pe_fldK K (pv 1)) (nomark _)))))))), ?_⟩
  rintro ⟨ps, T, ⟨bs, ts⟩, bs', ts'⟩ F D0 Q ⟨o1, o2, o3⟩ q
  simp only at o1 o2 o3
  refine sq_no (Tg.to (tg_not (tg_B (eg_cb (ag_cons (eg_var rfl) (ag_cons eg_cv ag_nil)) (cg_isC (ic_Fold W) isins_obj)))) rfl) ?_
  refine go_ret (Eg.to (eg_andV (eg_op (eg_fldO (cl_Fold W) (no_Fold_shape W) (eg_var rfl) rfl) (eg_fldO (cl_Fold W) (no_Fold_shape W) (eg_var rfl) rfl) (og_own (ps, T) o1 rfl isins_obj isins_obj)) fun _ => eg_andV (eg_op (eg_fldO (cl_Fold W) (no_Fold_held W) (eg_var rfl) rfl) (eg_fldO (cl_Fold W) (no_Fold_held W) (eg_var rfl) rfl) (og_eqP (b := decide (bs = bs')) (pl_buns o2) (pl_buns o3) (by omega) (by omega) (by rw [decide_eq_true_eq]; exact ⟨fun e => by rw [e], bunsD_inj⟩)))
      fun _ => eg_op (eg_fldO (cl_Fold W) (no_Fold_roots W) (eg_var rfl) rfl) (eg_fldO (cl_Fold W) (no_Fold_roots W) (eg_var rfl) rfl) (og_eqP (b := decide (ts = ts')) (pl_top (n := 0)) (pl_top (n := 0)) (by omega) (by omega) (by rw [decide_eq_true_eq]; exact ⟨fun e => by rw [e], topD_inj⟩)))
      (by show _ = PyData.bool (decide ((bs, ts) = (bs', ts'))); rw [show decide ((bs, ts) = (bs', ts')) = (decide (bs = bs') && decide (ts = ts')) from by rw [Bool.eq_iff_iff]; simp]; rfl)) fun v D H e hd r => q v D H () e trivial hd r
end
end Fb

/-! Dicts with keys that are tuples, in the walk's logic. -/
namespace Fb
open PySem PySem.Spec L2 Evl
abbrev NRel (D : Hp) : List (NestedKey × Addr × V) → List (NestedKey × Rp) → Prop := Paired fun x k => x.1 = k.1 ∧ k.2.r D x.2.2
theorem NRel.up {D D' : Hp} (e : Ex D D') {xs : List (NestedKey × Addr × V)} {ks : List (NestedKey × Rp)} (h : NRel D xs ks) : NRel D' xs ks := Paired.mapP h fun _ b q => ⟨q.1, b.2.m e q.2⟩
theorem KeysN.up {D D' : Hp} (e : Ex D D') {xs : List (NestedKey × Addr × V)} (h : KeysN D xs) : KeysN D' xs := fun x hx => ⟨dq_up e _ _ (h x hx).1, (h x hx).2⟩
def lookR (ks : List (NestedKey × Rp)) (k : NestedKey) : Option Rp := (ks.find? fun x => decide (x.1 = k)).map (·.2)
theorem NRel.val {D : Hp} {xs : List (NestedKey × Addr × V)} {ks : List (NestedKey × Rp)} (h : NRel D xs ks) (k : NestedKey) : match lookN xs k, lookR ks k with | some v, some R => R.r D v | none, none => True | _, _ => False := by
  unfold lookN lookR
  induction h with
  | nil => trivial
  | @cons a b as bs h t ih =>
    obtain ⟨h1, h2⟩ := h
    by_cases e : a.1 = k
    · have e' : b.1 = k := h1 ▸ e
      simp only [List.find?_cons, decide_eq_true e, decide_eq_true e', Option.map_some]
      exact h2
    · have e' : ¬ b.1 = k := fun z => e (h1.trans z)
      simp only [List.find?_cons, decide_eq_false e, decide_eq_false e']
      exact ih
theorem NRel.some {D : Hp} {xs : List (NestedKey × Addr × V)} {ks : List (NestedKey × Rp)} (h : NRel D xs ks) {k : NestedKey} {R : Rp} (hk : lookR ks k = some R) : ∃ v, lookN xs k = some v ∧ R.r D v := by
  have q := h.val k
  rw [hk] at q
  cases e : lookN xs k with
  | none => rw [e] at q; exact q.elim
  | some v => rw [e] at q; exact ⟨v, rfl, q⟩
theorem NRel.none {D : Hp} {xs : List (NestedKey × Addr × V)} {ks : List (NestedKey × Rp)} (h : NRel D xs ks) {k : NestedKey} (hk : lookR ks k = none) : lookN xs k = none := by
  have q := h.val k
  rw [hk] at q
  cases e : lookN xs k with
  | none => rfl
  | some v => rw [e] at q; exact q.elim
theorem NRel.isSome {D : Hp} {xs : List (NestedKey × Addr × V)} {ks : List (NestedKey × Rp)} (h : NRel D xs ks) (k : NestedKey) : (lookN xs k).isSome = (lookR ks k).isSome := by
  cases e : lookR ks k with
  | none => rw [h.none e]; rfl
  | some R => obtain ⟨v, hv, _⟩ := h.some e; rw [hv]; rfl
theorem NRel.len {D : Hp} {xs : List (NestedKey × Addr × V)} {ks : List (NestedKey × Rp)} (h : NRel D xs ks) : xs.length = ks.length := Paired.length h
theorem NRel.snoc {D : Hp} {xs : List (NestedKey × Addr × V)} {ks : List (NestedKey × Rp)} (h : NRel D xs ks) {k : NestedKey} {b : Addr} {v : V} {R : Rp} (r : R.r D v) : NRel D (xs ++ [(k, b, v)]) (ks ++ [(k, R)]) := by
  induction h with
  | nil => exact .cons ⟨rfl, r⟩ .nil
  | cons a _ ih => exact .cons a ih
section
variable (P : Program) (w : World)
def ohN (p : Addr) (ks : List (NestedKey × Rp)) : Oh := ⟨fun D o => ∃ xs, o = DNx P w p xs ∧ KeysN D xs ∧ NRel D xs ks, fun e ⟨xs, h1, h2, h3⟩ => ⟨xs, h1, KeysN.up e h2, h3.up e⟩⟩
abbrev wDN (p : Addr) (ks : List (NestedKey × Rp)) (qs : List (Addr × List Rp)) : Wd := wTab (ohN P w p ks) p qs
end
section
variable {P : Program} {w : World} {X : Cx} {K : PySem.W.Frag} {Γ Γ' : Gm} {L L1 L2' L3 L' : List Wd} {R Ra Rb Rc Y : Rp} {te ta tb tc tl tk td tv : TE} {D0 : Hp} {i j n : Nat} {E : Ends} {u t : TS} {p q : Addr} {ks : List (NestedKey × Rp)} {qs : List (Addr × List Rp)} {k : NestedKey}
/-- a key that is a tuple -/
def isTup : NestedKey → Bool
  | .tup _ => true
  | _ => false
theorem key_ref {D : Hp} {v : V} (ht : isTup k = true) (h : (rD k.data).r D v) : ∃ b, v = .ref b := by
  cases k with
  | tup ks => obtain ⟨a, vs, rfl, _⟩ := tup_rD h; exact ⟨a, rfl⟩
  | _ => cases ht
theorem xg_newN (hP : X.prog = P) (hw : X.w = w) : Xg (tDNewN X) Γ L fun v D H => ∃ p : Addr, True ∧ Hd D H (wDN P w p [] [] :: L) ∧ (rV (.ref p)).r D v := fun σ D H g hd Q q => by
  subst hP hw
  intro p hp
  exact q _ D _ (Ex.refl D) ⟨p, trivial, hd.tabNew hp ⟨[], rfl, (fun x hx => nomatch hx), Paired.nil⟩, rfl⟩
theorem sq_newN (hP : X.prog = P) (hw : X.w = w) (kk : ∀ p, Go D0 (Γ.set i (some (rV (.ref p)))) (wDN P w p [] [] :: L) (u E)) : Go D0 Γ L (tSeq (tAsg (tDNewN X) (gName i)) u E) :=
  sq_asgX (xg_newN hP hw) fun p _ => kk p
theorem og_notinN (hP : X.prog = P) (hw : X.w = w) (hj : L[j]? = some (wDN P w p ks qs)) (ht : isTup k = true) (hd8 : k.depth ≤ 8) : Og (rNotInN X) (rD k.data) (rV (.ref p)) L (rD (.bool (!(lookR ks k).isSome))) L := fun x y D H hd rx ry Q q => by
  subst hP hw
  obtain ⟨b, rfl⟩ := key_ref ht rx
  obtain ⟨_, o, ho, xs, rfl, hk, hr⟩ := hd.tabAt hj
  exact ⟨p, b, k, xs, rfl, ry, ho, KeysN.up hd.ex hk, dq_up hd.ex _ _ rx, hd8, q _ D H (Ex.refl D) hd (by rw [hr.isSome]; exact .bl _)⟩
theorem og_ixN (hP : X.prog = P) (hw : X.w = w) (hj : L[j]? = some (wDN P w p ks qs)) (ht : isTup k = true) (hd8 : k.depth ≤ 8) (hv : lookR ks k = some R) : Og (rIxN X) (rV (.ref p)) (rD k.data) L R L := fun x y D H hd rx ry Q q => by
  subst hP hw
  obtain ⟨b, rfl⟩ := key_ref ht ry
  obtain ⟨_, o, ho, xs, rfl, hk, hr⟩ := hd.tabAt hj
  obtain ⟨v, hv', rv⟩ := hr.some hv
  exact ⟨p, b, k, xs, v, rx, rfl, ho, KeysN.up hd.ex hk, dq_up hd.ex _ _ ry, hd8, hv', q _ D H (Ex.refl D) hd rv⟩
theorem cg_lenN (hP : X.prog = P) (hw : X.w = w) (hj : L[j]? = some (wDN P w p ks qs)) : Cg (rLenX X) [rV (.ref p)] L (rD (.int (ks.length : Nat))) L := fun xs D H hd r Q q => by
  subst hP hw
  cases r with
  | cons a t =>
    cases t
    obtain ⟨_, o, ho, ys, rfl, hk, hr⟩ := hd.tabAt hj
    exact ⟨p, ys, by rw [show _ = V.ref p from a], ho, q _ D H (Ex.refl D) hd (by rw [hr.len]; exact .int _)⟩
/-- d[k] = v, k new -/
theorem sq_setN (hP : X.prog = P) (hw : X.w = w) (hv : Eg tv Γ L R L1) (ho : Eg td Γ L1 (rV (.ref p)) L2') (hk : Eg tk Γ L2' (rD k.data) L') (hj : L'[j]? = some (wDN P w p ks qs)) (ht : isTup k = true) (hd8 : k.depth ≤ 8) (hn : lookR ks k = none) (hz : ks.length < 100000)
    (kk : Go D0 Γ (L'.set j (wDN P w p (ks ++ [(k, R)]) qs)) (u E)) : Go D0 Γ L (tSeq (tAsg tv (gSub td tk (rSetN X))) u E) := fun σ D H e g hd =>
  hv σ D H g hd _ fun v D1 H1 e1 d1 r1 => ho σ D1 H1 (g.up e1) d1 _ fun x D2 H2 e2 d2 r2 => hk σ D2 H2 ((g.up e1).up e2) d2 _ fun y D3 H3 e3 d3 r3 => by
    subst hP hw
    obtain ⟨b, rfl⟩ := key_ref ht r3
    obtain ⟨_, o, ho, xs, rfl, hks, hr⟩ := d3.tabAt hj
    refine ⟨p, b, k, xs, r2, rfl, ho, KeysN.up d3.ex hks, dq_up d3.ex _ _ r3, hd8, hr.none hn, by rw [hr.len]; exact sz_lt (by omega), kk σ D3 _ (((e.trans e1).trans e2).trans e3) (((g.up e1).up e2).up e3) ?_⟩
    refine d3.tabUpd hj ⟨_, rfl, fun z hz => ?_, hr.snoc (R.m (e2.trans e3) r1)⟩
    rcases List.mem_append.mp hz with hz | hz
    · exact hks z hz
    · rw [List.mem_singleton.mp hz]; exact ⟨r3, hd8⟩
def putR (ks : List (NestedKey × Rp)) (k : NestedKey) (R : Rp) : List (NestedKey × Rp) := if (lookR ks k).isSome then ks else ks ++ [(k, R)]
/-- d.setdefault(k, v), the answer not asked for -/
theorem sq_sdefN (hP : X.prog = P) (hw : X.w = w) (ho : Eg td Γ L (rV (.ref p)) L) (hj : L[j]? = some (wDN P w p ks qs)) (hk : Eg tk Γ L (rD k.data) L) (hv : Eg tv Γ L R L) (ht : isTup k = true) (hd8 : k.depth ≤ 8) (hz : ks.length < 100000)
    (kk : Go D0 Γ (L.set j (wDN P w p (putR ks k R) qs)) (u E)) : Go D0 Γ L (tSeq (tDrop (tSetDefN X td tk tv)) u E) := fun σ D H e g hd =>
  ho σ D H g hd _ fun x D1 H1 e1 d1 r1 => by
    subst hP hw
    refine ⟨p, r1, ?_, hk σ D1 H1 (g.up e1) d1 _ fun y D2 H2 e2 d2 r2 => hv σ D2 H2 ((g.up e1).up e2) d2 _ fun v D3 H3 e3 d3 r3 => ?_⟩
    · obtain ⟨_, o, ho, xs, rfl, hks, hr⟩ := d1.tabAt hj
      exact ⟨xs, ho, KeysN.up d1.ex hks⟩
    · obtain ⟨b, rfl⟩ := key_ref ht r2
      obtain ⟨_, o, ho, xs, rfl, hks, hr⟩ := d3.tabAt hj
      have fin : ∀ H', Hd D3 H' (L.set j (wDN X.prog X.w p (putR ks k R) qs)) → u E σ H' := fun H' h => kk σ D3 H' (((e.trans e1).trans e2).trans e3) (((g.up e1).up e2).up e3) h
      refine ⟨b, k, xs, rfl, ho, KeysN.up d3.ex hks, dq_up (e3.trans d3.ex) _ _ r2, hd8, by rw [hr.len]; exact sz_lt (by omega), fun z hz => fin _ ?_, fun hn => fin _ ?_⟩
      · have : (lookR ks k).isSome = true := by rw [← hr.isSome, hz]; rfl
        rw [show putR ks k R = ks from if_pos this]
        have : L.set j (wDN X.prog X.w p ks qs) = L := by
          apply List.ext_getElem?
          intro m
          rw [List.getElem?_set]
          by_cases e : j = m
          · subst e; rw [if_pos rfl, if_pos (List.getElem?_eq_some_iff.mp hj).1, hj]
          · rw [if_neg e]
        rw [this]
        exact d3
      · have : ¬ (lookR ks k).isSome = true := by rw [← hr.isSome, hn]; simp
        rw [show putR ks k R = ks ++ [(k, R)] from if_neg this]
        refine d3.tabUpd hj ⟨_, rfl, fun z hz => ?_, hr.snoc r3⟩
        rcases List.mem_append.mp hz with hz | hz
        · exact hks z hz
        · rw [List.mem_singleton.mp hz]; exact ⟨dq_up e3 _ _ r2, hd8⟩
end
end Fb

namespace Fb
open PySem PySem.Spec L2 Evl
open C8 (Cal Met Mak)
theorem ix_cons_ne {α : Type} [DecidableEq α] {a b : α} {l : List α} (e : a ≠ b) : ix (a :: l) b = ix l b + 1 := by
  unfold ix
  have b1 : (a == b) = false := beq_eq_false_iff_ne.mpr e
  rw [List.idxOf_cons, b1]
  rfl
theorem ix_cons_eq {α : Type} [DecidableEq α] {a : α} {l : List α} : ix (a :: l) a = 0 := by
  unfold ix
  simp
def optN : Option Nat → PyData
  | none => .none
  | some n => .int (n : Int)
abbrev entOD (e : EntO) : PyData := .tuple [.int e.1, .tuple (e.2.map optN)]
def nkE (e : Ent) : NestedKey := .tup [.num e.1, .tup (e.2.map fun (n : Nat) => .num (n : Int))]
def nkB (b : Bun Str) : NestedKey := .tup [.text b.1, .tup (b.2.map nkE)]
theorem datas_map : ∀ ks : List NestedKey, NestedKey.datas ks = ks.map NestedKey.data
  | [] => rfl
  | k :: ks => by rw [NestedKey.datas, datas_map ks]; rfl
theorem nkE_data (e : Ent) : (nkE e).data = entD e := by
  unfold nkE
  simp only [NestedKey.data, datas_map, List.map_cons, List.map_nil, List.map_map]
  rfl
theorem nkB_data (b : Bun Str) : (nkB b).data = .tuple [.str b.1, .tuple (b.2.map entD)] := by
  unfold nkB
  simp only [NestedKey.data, datas_map, List.map_cons, List.map_nil, List.map_map]
  have : (NestedKey.data ∘ nkE) = entD := funext nkE_data
  rw [this]
theorem nkB_inj {a b : Bun Str} (h : nkB a = nkB b) : a = b := by
  have h1 : (nkB a).data = (nkB b).data := by rw [h]
  rw [nkB_data, nkB_data] at h1
  have h2 := PyData.tuple.inj h1
  simp only [List.cons.injEq, PyData.str.injEq, PyData.tuple.injEq, and_true] at h2
  exact Prod.ext h2.1 ((List.map_inj_right fun x y e => entD_inj e).mp h2.2)
theorem depthAll_le {n : Nat} : ∀ {ks : List NestedKey}, (∀ k ∈ ks, k.depth ≤ n) → NestedKey.depthAll ks ≤ n
  | [], _ => Nat.zero_le _
  | k :: ks, h => by
    rw [NestedKey.depthAll]
    have h1 := h k (List.mem_cons_self ..)
    have h2 := depthAll_le (n := n) (ks := ks) fun x hx => h x (List.mem_cons_of_mem _ hx)
    omega
theorem depth_tup {n : Nat} {ks : List NestedKey} (h : ∀ k ∈ ks, k.depth ≤ n) : (NestedKey.tup ks).depth ≤ n + 1 := by
  rw [NestedKey.depth]
  have := depthAll_le h
  omega
theorem depth_nums {ns : List Nat} : (NestedKey.tup (ns.map fun (n : Nat) => .num (n : Int))).depth ≤ 1 := depth_tup (n := 0) fun k hk => by
  obtain ⟨z, _, rfl⟩ := List.mem_map.mp hk
  exact Nat.le_refl _
theorem depth_nkE (e : Ent) : (nkE e).depth ≤ 2 := depth_tup (n := 1) fun k hk => by
  rcases List.mem_cons.mp hk with rfl | hk
  · exact Nat.zero_le _
  · rw [List.mem_singleton.mp hk]; exact depth_nums
theorem depth_nkB (b : Bun Str) : (nkB b).depth ≤ 8 := Nat.le_trans (depth_tup (n := 3) fun k hk => by
  rcases List.mem_cons.mp hk with rfl | hk
  · exact Nat.zero_le _
  · rw [List.mem_singleton.mp hk]
    exact depth_tup (n := 2) fun k hk => by
      obtain ⟨z, _, rfl⟩ := List.mem_map.mp hk
      exact depth_nkE z) (by omega)
/-- the pool's numbers -/
def numF : Nat → List (Bun Str) → List (NestedKey × Rp)
  | _, [] => []
  | n, b :: r => (nkB b, rD (.int (n : Int))) :: numF (n + 1) r
abbrev numK (h : List (Bun Str)) : List (NestedKey × Rp) := numF 0 h
theorem numF_len : ∀ (h : List (Bun Str)) (n : Nat), (numF n h).length = h.length
  | [], _ => rfl
  | b :: r, n => by simp [numF, numF_len r]
theorem numF_app : ∀ (h : List (Bun Str)) (n : Nat) (b : Bun Str), numF n (h ++ [b]) = numF n h ++ [(nkB b, rD (.int ((n + h.length : Nat) : Int)))]
  | [], n, b => rfl
  | a :: r, n, b => by
    rw [List.cons_append, numF, numF, numF_app r, List.length_cons]
    rw [show n + 1 + r.length = n + (r.length + 1) from by omega]
    rfl
theorem numF_look : ∀ (h : List (Bun Str)) (n : Nat) (b : Bun Str), b ∈ h → lookR (numF n h) (nkB b) = some (rD (.int ((n + ix h b : Nat) : Int)))
  | [], _, _, h => by cases h
  | a :: r, n, b, h => by
    unfold lookR
    rw [numF, List.find?_cons]
    by_cases e : a = b
    · subst e
      simp [ix_cons_eq]
    · have : decide (nkB a = nkB b) = false := decide_eq_false fun q => e (nkB_inj q)
      simp only [this]
      have hb : b ∈ r := by
        rcases List.mem_cons.mp h with q | q
        · exact absurd q.symm e
        · exact q
      have ih := numF_look r (n + 1) b hb
      unfold lookR at ih
      rw [ih]
      rw [ix_cons_ne e, show n + 1 + ix r b = n + (ix r b + 1) from by omega]
theorem numF_none : ∀ (h : List (Bun Str)) (n : Nat) (b : Bun Str), b ∉ h → lookR (numF n h) (nkB b) = none
  | [], _, _, _ => rfl
  | a :: r, n, b, h => by
    unfold lookR
    rw [numF, List.find?_cons]
    have e : a ≠ b := fun q => h (q ▸ List.mem_cons_self ..)
    have : decide (nkB a = nkB b) = false := decide_eq_false fun q => e (nkB_inj q)
    simp only [this]
    exact numF_none r (n + 1) b fun q => h (List.mem_cons_of_mem _ q)
section
variable {P : Program} {w : World} {K : PySem.W.Frag} {mg : Str → Option Value} {base : Heap}
abbrev cPo (K : PySem.W.Frag) : Addr := He.ga K "Pool"
abbrev polF (P : Program) (w : World) (K : PySem.W.Frag) (ps : Prs Str) (F : Fo Str) (pn ph : Addr) : List (Str × Rp) := [("shape", rTree P w K ps F), ("numbers", rV (.ref pn)), ("held", rV (.ref ph))]
abbrev rPool (P : Program) (w : World) (K : PySem.W.Frag) (ps : Prs Str) (F : Fo Str) (pn ph : Addr) : Rp := rObj (cPo K) (polF P w K ps F pn ph)
abbrev wNum (P : Program) (w : World) (pn : Addr) (h : List (Bun Str)) : Wd := wDN P w pn (numK h) []
abbrev wHeld (ph : Addr) (h : List (Bun Str)) : Wd := mL ph (h.map fun b => rD (bunD b))
abbrev sp_Pool_init (P : Program) (w : World) (K : PySem.W.Frag) : Sp := spX (κ := Addr × Addr) (fun _ : Addr × Addr × Prs Str × Fo Str => True) (fun i => [rV (.ref i.1), rTree P w K i.2.2.1 i.2.2.2]) (fun i => [wIns i.1 (cPo K) i.2.1 []]) (fun _ _ => True) (fun _ _ => rD .none) (fun i k => [wIns i.1 (cPo K) i.2.1 (polF P w K i.2.2.1 i.2.2.2 k.1 k.2), wNum P w k.1 [], wHeld k.2 []])
theorem c_Pool (W : Wo K mg base) : Mak P w K mg base 1 "Pool" (cPo K) (sp_Pool_init P w K) [] :=
  mak_of (f_Pool_init W) (g_Pool W) (mk_Pool W) b_Pool_init sc_Pool_init (fun _ _ => rfl) fun cdv A' outer s H E hr => ⟨_, (pss_cons (ps_fldK K (pv 0) (pv 1))
    (pss_cons (ps_fldK K (pv 0) pe_dnewN)
    (pss_one (ps_fldK K (pv 0) (pe_lst pa_nil))))), fun i F D0 Q o q =>
    sq_fldI (j := 0) (cl_Pool W) (no_Pool_shape W) (eg_var rfl) (eg_var rfl) rfl rfl (by simp) (sq_fldX (j := 1) (cl_Pool W) (no_Pool_numbers W) (xg_newN rfl rfl) (fun z _ => eg_var rfl) (fun z _ => rfl) rfl (by simp) fun pn _ =>
      go_fldI_L (j := 1) (cl_Pool W) (no_Pool_held W) (fun p => eg_var rfl) rfl rfl (by simp) fun ph => go_end fun D H e hd => q .non D H (pn, ph) e trivial (hd.pick (fun i => match i with | 0 => 2 | 1 => 1 | 2 => 0 | i + 3 => i + 3) (fun i x e => by
        match i, e with
        | 0, e => exact e
        | 1, e => exact e
        | 2, e => exact e
        | i + 3, e => exact e) fun i j _ _ e => by
        match i, j, e with
        | 0, 0, _ => rfl
        | 1, 1, _ => rfl
        | 2, 2, _ => rfl
        | i + 3, j + 3, e => exact e
        | 0, 1, e => cases e
        | 0, 2, e => cases e
        | 1, 0, e => cases e
        | 1, 2, e => cases e
        | 2, 0, e => cases e
        | 2, 1, e => cases e
        | 0, j + 3, e => simp at e
        | 1, j + 3, e => simp at e
        | 2, j + 3, e => simp at e
        | i + 3, 0, e => simp at e
        | i + 3, 1, e => simp at e
        | i + 3, 2, e => simp at e) .non)⟩
end
end Fb

namespace Fb
open PySem PySem.Spec L2 Evl
open C8 (Cal Met Mak)
section
variable {P : Program} {w : World} {K : PySem.W.Frag} {mg : Str → Option Value} {base : Heap}
def live (e : EntO) : Bool := decide (none ∉ e.2)
theorem optN_some {ns : List (Option Nat)} (h : none ∉ ns) : ns.map optN = (ns.map fun p => p.getD 0).map fun (n : Nat) => .int (n : Int) := by
  rw [List.map_map]
  apply List.map_congr_left
  intro x hx
  cases x with
  | none => exact absurd hx h
  | some n => rfl
theorem alive_map (E : List EntO) : (E.filter live).map entOD = (alive E).map entD := by
  unfold alive
  induction E with
  | nil => rfl
  | cons e r ih =>
    rw [List.filter_cons, List.filterMap_cons]
    by_cases h : none ∈ e.2
    · have : live e = false := by unfold live; simp [h]
      rw [this]
      simp only [Bool.false_eq_true, if_false, if_pos h]
      exact ih
    · have : live e = true := by unfold live; simp [h]
      rw [this]
      simp only [if_true, if_neg h, List.map_cons, ih]
      congr 1
      show PyData.tuple _ = PyData.tuple _
      rw [optN_some h]
theorem flat_optN {ns : List (Option Nat)} : (ns.map optN).all flatD = true := by
  rw [List.all_eq_true]
  intro v hv
  obtain ⟨d, _, rfl⟩ := List.mem_map.mp hv
  cases d <;> rfl
theorem inV_optN {ns : List (Option Nat)} : inV V.non ((ns.map optN).map toV) = decide (none ∈ ns) := by
  unfold inV
  induction ns with
  | nil => rfl
  | cons x r ih =>
    rw [List.map_cons, List.map_cons, List.any_cons, ih]
    cases x with
    | none => simp [optN, toV, eqV]
    | some n => simp [optN, toV, eqV]
theorem og_noneIn {ns : List (Option Nat)} {neg : Bool} {L : List Wd} : Og (rIn K neg) (rD .none) (rD (.tuple (ns.map optN))) L (rD (.bool (if neg then !decide (none ∈ ns) else decide (none ∈ ns)))) L := by
  have := og_inT (K := K) (L := L) (neg := neg) (d := .none) (ds := ns.map optN) rfl flat_optN
  rw [show toV PyData.none = V.non from rfl, inV_optN] at this
  exact this
theorem pl_ents {es : List Ent} : Pl 3 (.list (es.map entD)) := .list fun d hd => by
  obtain ⟨z, _, rfl⟩ := List.mem_map.mp hd
  exact pl_ent
abbrev PutI : Type := Prs Str × Fo Str × Addr × Addr × List (Bun Str) × Str × List EntO
abbrev sp_Pool_put (P : Program) (w : World) (K : PySem.W.Frag) : Sp := spX (κ := Unit) (fun i : PutI => i.2.2.2.2.1.length < 100000 ∧ i.2.2.2.2.2.2.length < 100000) (fun i => [rPool P w K i.1 i.2.1 i.2.2.1 i.2.2.2.1, rD (.str i.2.2.2.2.2.1), rD (.list (i.2.2.2.2.2.2.map entOD))])
  (fun i => [wNum P w i.2.2.1 i.2.2.2.2.1, wHeld i.2.2.2.1 i.2.2.2.2.1]) (fun _ _ => True) (fun i _ => rD (optN (putP i.2.2.2.2.1 i.2.2.2.2.2.1 i.2.2.2.2.2.2).1)) fun i _ => [wNum P w i.2.2.1 (putP i.2.2.2.2.1 i.2.2.2.2.2.1 i.2.2.2.2.2.2).2, wHeld i.2.2.2.1 (putP i.2.2.2.2.1 i.2.2.2.2.2.1 i.2.2.2.2.2.2).2]
theorem c_Pool_put (W : Wo K mg base) : Met P w K mg base 1 (cPo K) "put" (sp_Pool_put P w K) [] := by
  refine met_of (f_Pool_put W) (cl_Pool W) (me_Pool_put W) b_Pool_put sc_Pool_put (fun _ _ => rfl) fun cdv A' outer s H E hr => ⟨_, (pss_cons ((ps_setLc (i := 3) (own := [("value", 5), ("parts", 6)]) (g := (gTup K 2 (gCons (gName 5) (gCons (gName 6) gNil)))) rfl sc_Pool_put.nd rfl rfl (sw_true rfl rfl rfl (by decide +kernel)) (pi_listK K (pv 2)) (blkOk_by (own := [("value", 5), ("parts", 6)]) (N := N_Pool_put) (sc := defScope s_Pool_put) (by decide +kernel)) (fun _ _ _ _ _ => (pg_tupK K rfl (pgs_cons (pg_name (i := 5) sc_Pool_put.nd rfl (by first | exact Or.inl rfl | exact Or.inr rfl)) (pgs_cons (pg_name (i := 6) sc_Pool_put.nd rfl (by first | exact Or.inl rfl | exact Or.inr rfl)) pgs_nil)))) (fun _ _ _ _ _ => (pts_one (pt_cmpR (kOp K (fun K => rIn K true) op_notIn_seq) pe_non (pv 6) (by rfl)))) (fun _ _ _ _ _ => (pe_tup (pa_cons (pv 5) (pa_cons (pv 6) pa_nil))))))
    (pss_cons (ps_if (pt_cmpR (kOp K rEqD (op_eqD hr.units)) (pv 3) (pe_lst pa_nil) (nomark _)) (pss_one (ps_ret pe_non)) pss_nil)
    (pss_cons (ps_set (i := 4) sc_Pool_put.nd rfl (by first | exact Or.inl rfl | exact Or.inr rfl) (pe_tup (pa_cons (pv 1) (pa_cons (pe_callTy (kCall K rTupOf call_tuple_of) (by rfl) (n_tuple W) PyProof.Rows.boot_tuple (pa_cons (pv 3) pa_nil)) pa_nil))))
    (pss_cons (ps_if (pt_cmpR (op_notinDN hr) (pv 4) (pe_fldK K (pv 0)) (by rfl)) (pss_cons (ps_asg (pe_callB (kCall K rLenV call_len) (by rfl) (n_len W) PySem.boot_len (pa_cons (pe_fldK K (pv 0)) pa_nil)) (pg_sub (pe_fldK K (pv 0)) (pv 4) (set_dn hr)))
    (pss_one (ps_expr (pe_bmK K PySem.F.plainAttrs_list PySem.F.slot_list_append PySem.F.type_list_append mt_append (pe_fldK K (pv 0)) (pa_cons (pe_tup (pa_cons (pv 1) (pa_cons (pv 3) pa_nil))) pa_nil))))) pss_nil)
    (pss_one (ps_ret (pe_ix (ix_dn hr) (pe_fldK K (pv 0)) (pv 4) fun _ _ => rfl))))))), ?_⟩
  rintro ⟨ps, T, pn, ph, h, c, es⟩ F D0 Q ⟨hz, ez⟩ q
  simp only at hz ez q
  have cl := cl_Pool W
  refine sq_asg (Eg.to (eg_lcD (L1 := wNum P w pn h :: wHeld ph h :: F) es (ig_listX (f := entOD) (eg_var rfl)) (by omega) (fun _ => trivial) live entOD fun i e he R ⟨y, hy, hR⟩ => ?_) (by rw [alive_map])) ?_
  · subst hR
    rw [he] at hy; cases hy
    refine ⟨_, _, tgt_tupD (ds := [.int e.1, .tuple (e.2.map optN)]) (tgs_cons tgt_name (tgs_cons tgt_name tgs_nil)) rfl, by simp, fun Fr => Tg.to (tg_test (eg_op eg_non (eg_var rfl) og_noneIn)) (by unfold live; simp), fun _ Fr => Eg.tup (eg_tup (ag_cons (eg_var rfl) (ag_cons (eg_var rfl) ag_nil)) (by simp))⟩
  · by_cases h0 : alive es = []
    · have e0 : putP h c es = (none, h) := if_pos h0
      rw [e0] at q
      refine sq_if (tg_test (eg_op (eg_var rfl) (Eg.lst (ds := []) (eg_lst ag_nil (by simp))) (og_eqP (b := true) pl_ents (Pl.list (n := 0) (fun d hd => nomatch hd)) (by omega) (by omega) (by simp [h0])))) (fun _ => ?_) (fun z => nomatch z)
      exact go_ret eg_non fun v D H e hd r => q v D H () e trivial hd r
    · refine sq_if (tg_test (eg_op (eg_var rfl) (Eg.lst (ds := []) (eg_lst ag_nil (by simp))) (og_eqP (b := false) pl_ents (Pl.list (n := 0) (fun d hd => nomatch hd)) (by omega) (by omega) (by simp [h0])))) (fun z => nomatch z) fun _ => ?_
      refine sq_asg (R := rD (nkB (c, alive es)).data) (Eg.to (Eg.tup (ds := [.str c, .tuple ((alive es).map entD)]) (eg_tup (ag_cons (eg_var rfl) (ag_cons (eg_cb (ag_cons (eg_var rfl) ag_nil) cg_tupD) ag_nil)) (by simp))) (nkB_data (c, alive es)).symm) ?_
      by_cases h1 : (c, alive es) ∈ h
      · have e1 : putP h c es = (some (ix h (c, alive es)), h) := by unfold putP; rw [if_neg h0, if_pos h1]
        rw [e1] at q
        have lk := numF_look h 0 _ h1
        refine sq_no (Tg.to (tg_test (eg_op (eg_var rfl) (eg_fldO cl (no_Pool_numbers W) (eg_var rfl) rfl) (og_notinN (j := 0) (k := nkB (c, alive es)) rfl rfl rfl rfl (depth_nkB _)))) (by rw [lk]; rfl)) ?_
        refine go_ret (eg_op (eg_fldO cl (no_Pool_numbers W) (eg_var rfl) rfl) (eg_var rfl) (og_ixN (j := 0) (k := nkB (c, alive es)) rfl rfl rfl rfl (depth_nkB _) lk)) fun v D H e hd r => q v D H () e trivial hd ?_
        rw [Nat.zero_add] at r
        exact r
      · have e1 : putP h c es = (some h.length, h ++ [(c, alive es)]) := by unfold putP; rw [if_neg h0, if_neg h1]
        rw [e1] at q
        have lk := numF_none h 0 _ h1
        have ap : numK (h ++ [(c, alive es)]) = numK h ++ [(nkB (c, alive es), rD (.int (h.length : Nat)))] := by
          rw [numK, numF_app, Nat.zero_add]
        have lk2 := numF_look (h ++ [(c, alive es)]) 0 (c, alive es) (by simp)
        refine sq_if (b := true) (Tg.to (tg_test (eg_op (eg_var rfl) (eg_fldO cl (no_Pool_numbers W) (eg_var rfl) rfl) (og_notinN (j := 0) (k := nkB (c, alive es)) rfl rfl rfl rfl (depth_nkB _)))) (by rw [lk]; rfl)) (fun _ => ?_) (fun z => nomatch z)
        refine sq_setN (j := 0) (k := nkB (c, alive es)) (R := rD (.int (h.length : Nat))) rfl rfl (Eg.to (eg_cb (ag_cons (eg_fldO cl (no_Pool_held W) (eg_var rfl) rfl) ag_nil) (cg_lenW (j := 1) rfl)) (by rw [List.length_map])) (eg_fldO cl (no_Pool_numbers W) (eg_var rfl) rfl) (eg_var rfl) rfl rfl (depth_nkB _) lk (by rw [numF_len]; exact hz) ?_
        refine go_drop (eg_append (j := 1) (R := rD (bunD (c, alive es))) (eg_fldO cl (no_Pool_held W) (eg_var rfl) rfl) ⟨1, _, rfl⟩ (Eg.tup (ds := [.str c, .list ((alive es).map entD)]) (eg_tup (ag_cons (eg_var rfl) (ag_cons (eg_var rfl) ag_nil)) (by simp))) rfl (by rw [List.length_map]; exact hz)) ?_
        refine go_ret (eg_op (eg_fldO cl (no_Pool_numbers W) (eg_var rfl) rfl) (eg_var rfl) (og_ixN (j := 0) (k := nkB (c, alive es)) rfl rfl rfl rfl (depth_nkB _) (by rw [← ap]; exact lk2))) fun v D H e hd r => q v D H () e trivial ?_ ?_
        · have : wHeld ph (h ++ [(c, alive es)]) = mL ph ((h.map fun b => rD (bunD b)) ++ [rD (bunD (c, alive es))]) := by unfold wHeld; rw [List.map_append]; rfl
          show Hd D H (wNum P w pn (h ++ [(c, alive es)]) :: wHeld ph (h ++ [(c, alive es)]) :: F)
          rw [this]
          unfold wNum
          rw [ap]
          exact hd
        · rw [Nat.zero_add, ix_new h1] at r
          exact r
end
end Fb

namespace Fb
open PySem PySem.Spec L2 Evl
open C8 (Cal Met Mak)
/-- an order of places in h -/
structure OrdOk (h : List (Bun Str)) (o : List Nat) : Prop where
  nd : o.Nodup
  lt : ∀ x ∈ o, x < h.length
theorem OrdOk.len {h : List (Bun Str)} {o : List Nat} (k : OrdOk h o) : o.length ≤ h.length := by
  have := List.Nodup.length_le_of_subset k.nd (l₂ := List.range h.length) fun x hx => List.mem_range.mpr (k.lt x hx)
  simpa using this
theorem OrdOk.snoc {h : List (Bun Str)} {o : List Nat} {p : Nat} (k : OrdOk h o) (hp : p < h.length) (hn : p ∉ o) : OrdOk h (o ++ [p]) := ⟨by
  refine List.nodup_append.mpr ⟨k.nd, by simp, fun a ha b hb => ?_⟩
  rw [List.mem_singleton.mp hb]
  exact fun e => hn (e ▸ ha), fun x hx => by
  rcases List.mem_append.mp hx with q | q
  · exact k.lt x q
  · rw [List.mem_singleton.mp q]; exact hp⟩
theorem foldl_keep {α β : Type} {P : β → Prop} {f : β → α → β} : ∀ {l : List α} {b : β}, P b → (∀ a ∈ l, ∀ b, P b → P (f b a)) → P (l.foldl f b)
  | [], _, h, _ => h
  | a :: l, b, h, hs => foldl_keep (l := l) (hs a (List.mem_cons_self ..) b h) fun x hx => hs x (List.mem_cons_of_mem _ hx)
theorem visP_ok {h : List (Bun Str)} : ∀ {n p : Nat} {o : List Nat}, Dep h n p → OrdOk h o → OrdOk h (visP h n p o)
  | 0, _, _, d, _ => d.elim
  | n + 1, p, o, d, k => by
    unfold visP
    by_cases hp : p ∈ o
    · rw [if_pos hp]; exact k
    · rw [if_neg hp]
      obtain ⟨⟨b, hb⟩, hs⟩ := d
      exact foldl_keep (P := OrdOk h) (k.snoc (List.getElem?_eq_some_iff.mp hb).1 hp) fun e he o k => foldl_keep (P := OrdOk h) k fun q hq o k => visP_ok (hs e he q hq) k
/-- places -/
def plcF : Nat → List Nat → List (Key × Rp)
  | _, [] => []
  | n, p :: r => (Sum.inl (p : Int), rD (.int (n : Int))) :: plcF (n + 1) r
abbrev plcK (o : List Nat) : List (Key × Rp) := plcF 0 o
theorem plcF_len : ∀ (o : List Nat) (n : Nat), (plcF n o).length = o.length
  | [], _ => rfl
  | b :: r, n => by simp [plcF, plcF_len r]
theorem plcF_app : ∀ (h : List Nat) (n b : Nat), plcF n (h ++ [b]) = plcF n h ++ [(Sum.inl (b : Int), rD (.int ((n + h.length : Nat) : Int)))]
  | [], n, b => rfl
  | a :: r, n, b => by
    rw [List.cons_append, plcF, plcF, plcF_app r, List.length_cons]
    rw [show n + 1 + r.length = n + (r.length + 1) from by omega]
    rfl
theorem plc_ne {a b : Nat} (e : a ≠ b) : decide ((Sum.inl (a : Int) : Key) = Sum.inl (b : Int)) = false := decide_eq_false fun q => e (by have := Sum.inl.inj q; omega)
theorem plcF_look : ∀ (h : List Nat) (n b : Nat), b ∈ h → valR (plcF n h) (Sum.inl (b : Int)) = some (rD (.int ((n + ix h b : Nat) : Int)))
  | [], _, _, h => by cases h
  | a :: r, n, b, h => by
    unfold valR
    rw [plcF, List.find?_cons]
    by_cases e : a = b
    · subst e
      simp [ix_cons_eq]
    · simp only [plc_ne e]
      have hb : b ∈ r := by
        rcases List.mem_cons.mp h with q | q
        · exact absurd q.symm e
        · exact q
      have ih := plcF_look r (n + 1) b hb
      unfold valR at ih
      rw [ih, ix_cons_ne e, show n + 1 + ix r b = n + (ix r b + 1) from by omega]
theorem plcF_none : ∀ (h : List Nat) (n b : Nat), b ∉ h → valR (plcF n h) (Sum.inl (b : Int)) = none
  | [], _, _, _ => rfl
  | a :: r, n, b, h => by
    unfold valR
    rw [plcF, List.find?_cons]
    have e : a ≠ b := fun q => h (q ▸ List.mem_cons_self ..)
    simp only [plc_ne e]
    exact plcF_none r (n + 1) b fun q => h (List.mem_cons_of_mem _ q)
theorem plc_in {o : List Nat} {p : Nat} : (valR (plcK o) (Sum.inl (p : Int))).isSome = decide (p ∈ o) := by
  by_cases h : p ∈ o
  · rw [plcF_look o 0 p h, decide_eq_true h]; rfl
  · rw [plcF_none o 0 p h, decide_eq_false h]; rfl
abbrev stE (h : List (Bun Str)) (n : Nat) (o : List Nat) (e : Ent) : List Nat := e.2.foldl (fun o p => visP h n p o) o
abbrev intR (o : List Nat) : List Rp := o.map fun (p : Nat) => rD (.int (p : Int))
section
variable {P : Program} {w : World} {K : PySem.W.Frag} {mg : Str → Option Value} {base : Heap}
abbrev VisI : Type := List (Bun Str) × Nat × List Nat × Addr × Addr
abbrev sp_visit (n : Nat) : Sp := spX (κ := Unit) (fun i : VisI => Dep i.1 n i.2.1 ∧ OrdOk i.1 i.2.2.1 ∧ i.1.length < 100000) (fun i => [rD (bunsD i.1), rD (.int (i.2.1 : Int)), rV (.ref i.2.2.2.1), rV (.ref i.2.2.2.2)])
  (fun i => [wDK i.2.2.2.1 (plcK i.2.2.1), mL i.2.2.2.2 (intR i.2.2.1)]) (fun _ _ => True) (fun _ _ => rD .none) fun i _ => [wDK i.2.2.2.1 (plcK (visP i.1 n i.2.1 i.2.2.1)), mL i.2.2.2.2 (intR (visP i.1 n i.2.1 i.2.2.1))]
theorem c_visit (W : Wo K mg base) : ∀ n, Cal P w K mg base (n + 1) "visit" (sp_visit n) []
  | 0 => by
    refine cal_of (f_visit W) (g_visit W) b_visit sc_visit (fun _ _ => rfl) fun cdv A' outer s H E hr => ⟨_, pss_never, fun i F D0 Q o q => absurd o.1 id⟩
  | n + 1 => by
    have c_visit := c_visit W n
    refine cal_of (f_visit W) (g_visit W) b_visit sc_visit (fun _ _ => rfl) fun cdv A' outer s H E hr => ⟨_, (pss_cons (ps_if (pt_cmp (pc_din (hu_of hr) (pv 1) (pv 2))) (pss_one ps_retN) pss_nil)
    (pss_cons (ps_dput (hu_of hr) (pv 2) (pv 1) (pe_callB (kCall K rLenV call_len) (by rfl) (n_len W) PySem.boot_len (pa_cons (pv 3) pa_nil)) rfl)
    (pss_cons (ps_expr (pe_bmK K PySem.F.plainAttrs_list PySem.F.slot_list_append PySem.F.type_list_append mt_append (pv 3) (pa_cons (pv 1) pa_nil)))
    (pss_one (ps_for PassesOwn.never rfl (pi_listK K (pe_ix (kIx K rIxT ix_tup) (pe_ix (kIx K rIxL ix_list) (pv 0) (pv 1) fun _ _ => rfl) pe_int fun _ _ => rfl)) (pg_tupK K rfl (pgs_cons (pg_name (i := 4) sc_visit.nd rfl (by first | exact Or.inl rfl | exact Or.inr rfl)) (pgs_cons (pg_name (i := 5) sc_visit.nd rfl (by first | exact Or.inl rfl | exact Or.inr rfl)) pgs_nil))) (pss_one (ps_for PassesOwn.never rfl (pi_tupK K (pv 5)) (pg_name (i := 6) sc_visit.nd rfl (by first | exact Or.inl rfl | exact Or.inr rfl)) (pss_one (ps_expr (C8.pe_c c_visit hr (by first | decide | omega) rfl (pa_cons (pv 0) (pa_cons (pv 6) (pa_cons (pv 2) (pa_cons (pv 3) pa_nil)))))))))))))), ?_⟩
    rintro ⟨h, p, o, pp, po⟩ F D0 Q ⟨dp, ok, hz⟩ q
    simp only at dp ok hz q
    obtain ⟨⟨b, hb⟩, hs⟩ := dp
    have hes : ents h p = b.2 := by simp [ents, hb]
    have ol := ok.len
    refine sq_if (b := decide (p ∈ o)) (Tg.to (tg_test (eg_din (k := Sum.inl (p : Int)) (eg_var rfl) (eg_var rfl) (isdk_w (j := 0) rfl))) plc_in) (fun e => ?_) fun e => ?_
    · have hp := of_decide_eq_true e
      have ev : visP h (n + 1) p o = o := by unfold visP; rw [if_pos hp]
      rw [ev] at q
      exact go_retN fun D H e hd => q .non D H () e trivial hd .non
    · have hp := of_decide_eq_false e
      have ev : visP h (n + 1) p o = b.2.foldl (stE h n) (o ++ [p]) := by rw [visP, if_neg hp, hes]
      rw [ev] at q
      have ok1 := ok.snoc (List.getElem?_eq_some_iff.mp hb).1 hp
      refine sq_dput (k := Sum.inl (p : Int)) (j := 0) (R := rD (.int (o.length : Nat))) (Eg.to (eg_cb (ag_cons (eg_var rfl) ag_nil) (cg_lenW (j := 1) rfl)) (by rw [List.length_map])) (eg_var rfl) (eg_var rfl) rfl (plcF_none o 0 p hp) (by rw [plcF_len]; show o.length < 100000; omega) ?_
      refine sq_drop (eg_append (j := 1) (R := rD (.int (p : Int))) (eg_var rfl) ⟨1, _, rfl⟩ (eg_var rfl) rfl (by rw [List.length_map]; show o.length < 100000; omega)) ?_
      have e1 : plcK o ++ [(Sum.inl (p : Int), rD (.int (o.length : Nat)))] = plcK (o ++ [p]) := by unfold plcK; rw [plcF_app, Nat.zero_add]
      have e2 : (intR o ++ [rD (.int (p : Int))]) = intR (o ++ [p]) := by simp [intR]
      show Go D0 _ (wDK pp (plcK o ++ [(Sum.inl (p : Int), rD (.int (o.length : Nat)))]) :: mL po (intR o ++ [rD (.int (p : Int))]) :: F) _
      rw [e1, e2]
      refine go_forL (G := gT) b.2 (fun e => rD (entD e)) (ig_listX (f := entD) (eg_op (eg_op (eg_var rfl) (eg_var rfl) (og_ixD (ds := h.map bunD) (d := bunD b) (atI_nat (by rw [List.getElem?_map, hb]; rfl)))) eg_int (og_ixDT (ds := [.str b.1, .list (b.2.map entD)]) (i := 1) rfl))) (fun i R y => y)
        (fun _ => [some (rD (bunsD h)), some (rD (.int (p : Int))), some (rV (.ref pp)), some (rV (.ref po)), none, none, none])
        (fun a => wDK pp (plcK (a.foldl (stE h n) (o ++ [p]))) :: mL po (intR (a.foldl (stE h n) (o ++ [p]))) :: F) (Less.refl _) rfl (fun _ => trivial) (fun a e c D1 N he e1 kN => ?_) (go_end fun D H e hd => q .non D H () e trivial hd .non)
      have me : ∀ x ∈ a ++ [e], x ∈ ents h p := fun x hx => by rw [hes, he]; simp at hx ⊢; rcases hx with q | q; exact .inl q; exact .inr (.inl q)
      have oka : OrdOk h (a.foldl (stE h n) (o ++ [p])) := foldl_keep (P := OrdOk h) ok1 fun e he o k => foldl_keep (P := OrdOk h) k fun q hq o k => visP_ok (hs e (me e (by simp [he])) q hq) k
      rw [List.foldl_append] at kN
      simp only [List.foldl_cons, List.foldl_nil] at kN
      generalize a.foldl (stE h n) (o ++ [p]) = oa at oka kN ⊢
      refine ⟨_, _, tgt_tupD (ds := [.int e.1, prtD e.2]) (tgs_cons tgt_name (tgs_cons tgt_name tgs_nil)) rfl, ?_⟩
      refine go_forL (G := gT) e.2 (fun (x : Nat) => rD (.int (x : Int))) (ig_tupX (f := fun (x : Nat) => .int (x : Int)) (eg_var rfl)) (fun i R y => y)
        (fun _ => [some (rD (bunsD h)), some (rD (.int (p : Int))), some (rV (.ref pp)), some (rV (.ref po)), some (rD (.int e.1)), some (rD (prtD e.2)), none])
        (fun a => wDK pp (plcK (a.foldl (fun o p => visP h n p o) oa)) :: mL po (intR (a.foldl (fun o p => visP h n p o) oa)) :: F) (Less.refl _) rfl (fun _ => trivial) (fun a2 x c2 D2 N2 he2 e2' kN2 => ?_) (kN.less (less_of rfl fun i h => ?_))
      · have mx : ∀ y ∈ a2 ++ [x], y ∈ e.2 := fun y hy => by rw [he2]; simp at hy ⊢; rcases hy with q | q; exact .inl q; exact .inr (.inl q)
        have okb : OrdOk h (a2.foldl (fun o p => visP h n p o) oa) := foldl_keep (P := OrdOk h) oka fun q hq o k => visP_ok (hs e (me e (by simp)) q (mx q (by simp [hq]))) k
        rw [List.foldl_append] at kN2
        simp only [List.foldl_cons, List.foldl_nil] at kN2
        generalize a2.foldl (fun o p => visP h n p o) oa = ob at okb kN2 ⊢
        refine ⟨_, _, tgt_name, go_drop ((xg_call (h, x, ob, pp, po) ⟨hs e (me e (by simp)) x (mx x (by simp)), okb, hz⟩ (ag_cons (eg_var rfl) (ag_cons (eg_var rfl) (ag_cons (eg_var rfl) (ag_cons (eg_var rfl) ag_nil)))) (fun _ => .nil) rfl).eg (rD .none) _ fun _ _ => ⟨fun _ _ r => r, rfl⟩) (kN2.less (less_of rfl fun i h => ?_))⟩
        match i with
        | 0 => exact .inr rfl
        | 1 => exact .inr rfl
        | 2 => exact .inr rfl
        | 3 => exact .inr rfl
        | 4 => exact .inr rfl
        | 5 => exact .inr rfl
        | 6 => exact .inl rfl
        | i + 7 => exact absurd h (by show ¬ i + 7 < 7; omega)
      · match i with
        | 0 => exact .inr rfl
        | 1 => exact .inr rfl
        | 2 => exact .inr rfl
        | 3 => exact .inr rfl
        | 4 => exact .inl rfl
        | 5 => exact .inl rfl
        | 6 => exact .inl rfl
        | i + 7 => exact absurd h (by show ¬ i + 7 < 7; omega)
/-- moved -/
abbrev sp_moved : Sp := spP (fun i : List Nat × List Nat => (∀ p ∈ i.1, p ∈ i.2) ∧ i.1.length ≤ 100000) (fun i => [rD (prtD i.1), rDK (plcK i.2)]) fun i => rD (prtD (i.1.map (ix i.2)))
theorem c_moved (W : Wo K mg base) : Cal P w K mg base 1 "moved" sp_moved [] :=
  cal_of (f_moved W) (g_moved W) b_moved sc_moved (fun _ _ => rfl) fun cdv A' outer s H E hr => ⟨_, (pss_one (ps_ret (pe_callTy (kCall K rTupOf call_tuple_of) (by rfl) (n_tuple W) PyProof.Rows.boot_tuple (pa_cons (pe_lc (own := [("part", 2)]) (g := (gName 2)) rfl sc_moved.nd (pi_tupK K (pv 0)) (blkOk_by (own := [("part", 2)]) (N := N_moved) (sc := defScope s_moved) (by decide +kernel)) (fun _ _ _ _ _ => (pg_name (i := 2) sc_moved.nd rfl (by first | exact Or.inl rfl | exact Or.inr rfl))) (fun _ _ _ _ _ => pts_nil) (fun _ _ _ _ _ => (pe_dget (hu_of hr) (pv 1) (pv 2) fun _ _ => rfl))) pa_nil)))), fun ⟨ps, o⟩ F D0 Q ⟨hp, hz⟩ q => by
    refine go_ret (Eg.to (eg_cb (ag_cons (eg_lcA (L1 := F) ps (ig_tupX (f := fun (x : Nat) => .int (x : Int)) (eg_var rfl)) hz (fun _ => trivial) (fun x => .int ((ix o x : Nat) : Int)) fun i x hx R ⟨y, hy, hR⟩ => ?_) ag_nil) cg_tupD) (by show _ = prtD (ps.map (ix o)); unfold prtD; rw [List.map_map]; rfl)) fun v D H e hd r => q v D H () e trivial hd r
    subst hR
    rw [hx] at hy; cases hy
    have := plcF_look o 0 x (hp x (List.mem_of_getElem? hx))
    rw [Nat.zero_add] at this
    exact ⟨_, _, tgt_name, by simp, fun Fr => eg_dget (k := Sum.inl (x : Int)) (eg_var rfl) (eg_var rfl) isdk_f this⟩⟩
end
end Fb

namespace Fb
open PySem PySem.Spec L2 Evl
open C8 (Cal Met Mak)
theorem Go.fz {D0 : Hp} {Γ Γ' : Gm} {L L' : List Wd} {P : L2.St → Hp → Prop} (h : ∀ D H σ, Gv D σ Γ → Hd D H L → ∃ D', Ex D D' ∧ Hd D' H L' ∧ Gv D' σ Γ') (k : Go D0 Γ' L' P) : Go D0 Γ L P := fun σ D H e g hd => by
  obtain ⟨D', e', h', g'⟩ := h D H σ g hd
  exact k σ D' H (e.trans e') g' h'
/-- a slot told better -/
theorem Gv.to {D D' : Hp} {σ : L2.St} {Γ : Gm} {i : Nat} {R R' : Rp} (g : Gv D σ Γ) (e : Ex D D') (h : Γ[i]? = some (some R)) (r : ∀ v, R.r D v → R'.r D' v) : Gv D' σ (Γ.set i (some R')) := by
  obtain ⟨v, h1, h2⟩ := g.at' i _ h
  have q := (g.up e).set (i := i) (r v h2)
  have z : σ.set i (some v) = σ := by
    apply List.ext_getElem?
    intro j
    rw [List.getElem?_set]
    by_cases e : i = j
    · subst e
      rw [if_pos rfl, h1]
      rw [if_pos (List.getElem?_eq_some_iff.mp h1).1]
    · rw [if_neg e]
  rw [z] at q
  exact q
/-! the order is closed under parts -/
def Cl (h : List (Bun Str)) (o o' : List Nat) : Prop := (∀ x ∈ o, x ∈ o') ∧ ∀ x ∈ o', x ∈ o ∨ ∀ e ∈ ents h x, ∀ p ∈ e.2, p ∈ o'
theorem Cl.refl {h : List (Bun Str)} (o : List Nat) : Cl h o o := ⟨fun _ h => h, fun _ h => .inl h⟩
theorem Cl.trans {h : List (Bun Str)} {a b c : List Nat} (h1 : Cl h a b) (h2 : Cl h b c) : Cl h a c := ⟨fun x hx => h2.1 x (h1.1 x hx), fun x hx => by
  rcases h2.2 x hx with q | q
  · rcases h1.2 x q with r | r
    · exact .inl r
    · exact .inr fun e he p hp => h2.1 p (r e he p hp)
  · exact .inr q⟩
theorem foldl_cl {h : List (Bun Str)} {α : Type} {f : List Nat → α → List Nat} : ∀ {l : List α} {o : List Nat}, (∀ a ∈ l, ∀ o, Cl h o (f o a)) → Cl h o (l.foldl f o)
  | [], o, _ => .refl o
  | a :: l, o, hs => (hs a (List.mem_cons_self ..) o).trans (foldl_cl (l := l) fun x hx => hs x (List.mem_cons_of_mem _ hx))
theorem foldl_has {h : List (Bun Str)} {α : Type} {f : List Nat → α → List Nat} {Q : α → Nat → Prop} : ∀ {l : List α} {o : List Nat}, (∀ a ∈ l, ∀ o, Cl h o (f o a) ∧ ∀ p, Q a p → p ∈ f o a) → ∀ a ∈ l, ∀ p, Q a p → p ∈ l.foldl f o
  | a :: l, o, hs, b, hb, p, hp => by
    rcases List.mem_cons.mp hb with rfl | hb
    · exact (foldl_cl (l := l) fun x hx => fun o => (hs x (List.mem_cons_of_mem _ hx) o).1).1 p ((hs b (List.mem_cons_self ..) o).2 p hp)
    · exact foldl_has (l := l) (fun x hx => hs x (List.mem_cons_of_mem _ hx)) b hb p hp
theorem visP_cl {h : List (Bun Str)} : ∀ {n p : Nat} (o : List Nat), Dep h n p → Cl h o (visP h n p o) ∧ p ∈ visP h n p o
  | 0, _, _, d => d.elim
  | n + 1, p, o, d => by
    unfold visP
    by_cases hp : p ∈ o
    · rw [if_pos hp]; exact ⟨.refl o, hp⟩
    · rw [if_neg hp]
      obtain ⟨_, hs⟩ := d
      have inner : ∀ e ∈ ents h p, ∀ o, Cl h o (stE h n o e) ∧ ∀ q, q ∈ e.2 → q ∈ stE h n o e := fun e he o =>
        ⟨foldl_cl fun q hq o => (visP_cl o (hs e he q hq)).1, fun q hq => foldl_has (h := h) (Q := fun a p => p = a) (fun a ha o => ⟨(visP_cl o (hs e he a ha)).1, fun p hp => hp ▸ (visP_cl o (hs e he a ha)).2⟩) q hq q rfl⟩
      have c1 : Cl h (o ++ [p]) ((ents h p).foldl (stE h n) (o ++ [p])) := foldl_cl fun e he o => (inner e he o).1
      refine ⟨⟨fun x hx => c1.1 x (by simp [hx]), fun x hx => ?_⟩, c1.1 p (by simp)⟩
      rcases c1.2 x hx with q | q
      · rcases List.mem_append.mp q with q | q
        · exact .inl q
        · rw [List.mem_singleton.mp q]
          exact .inr fun e he r hr => foldl_has (h := h) (Q := fun (e : Ent) p => p ∈ e.2) inner e he r hr
      · exact .inr q
theorem visPL_cl {h : List (Bun Str)} {n : Nat} {ts : List Nat} (d : ∀ t ∈ ts, Dep h n t) : (∀ t ∈ ts, t ∈ visPL h n ts []) ∧ ∀ x ∈ visPL h n ts [], ∀ e ∈ ents h x, ∀ p ∈ e.2, p ∈ visPL h n ts [] := by
  have c : Cl h [] (visPL h n ts []) := foldl_cl fun t ht o => (visP_cl o (d t ht)).1
  refine ⟨fun t ht => foldl_has (h := h) (Q := fun a p => p = a) (fun a ha o => ⟨(visP_cl o (d a ha)).1, fun p hp => hp ▸ (visP_cl o (d a ha)).2⟩) t ht t rfl, fun x hx => ?_⟩
  rcases c.2 x hx with q | q
  · cases q
  · exact q
theorem visPL_ok {h : List (Bun Str)} {n : Nat} {ts o : List Nat} (d : ∀ t ∈ ts, Dep h n t) (k : OrdOk h o) : OrdOk h (visPL h n ts o) := foldl_keep (P := OrdOk h) k fun t ht o k => visP_ok (d t ht) k
def renA (h : List (Bun Str)) (o a : List Nat) : List (Bun Str) := a.filterMap fun i => (h[i]?).map fun b => (b.1, b.2.map fun e => (e.1, e.2.map (ix o)))
theorem renA_len {h : List (Bun Str)} {o : List Nat} : ∀ (a : List Nat), (renA h o a).length ≤ a.length := fun a => List.length_filterMap_le _ _
def finO (h : List (Bun Str)) : Option (List (Option Nat)) → List (Bun Str) × Option (List Nat)
  | none => ([], none)
  | some T => finish 8 h T
abbrev prL (o : List Nat) : PyData := .list (o.map fun (n : Nat) => .int (n : Int))
def topO : Option (List (Option Nat)) → PyData
  | none => .none
  | some T => .tuple (T.map optN)
structure FldOk (h : List (Bun Str)) (ts : Option (List (Option Nat))) : Prop where
  dep : ∀ T, ts = some T → none ∈ T ∨ ∀ t ∈ T, Dep h 8 (t.getD 0)
  few : ∀ T, ts = some T → T.length ≤ 1000
  len : h.length < 100000
  small : ∀ b ∈ h, b.2.length ≤ 1000 ∧ ∀ e ∈ b.2, e.2.length ≤ 1000
section
variable {P : Program} {w : World} {K : PySem.W.Frag} {mg : Str → Option Value} {base : Heap}
abbrev PfI : Type := Prs Str × Fo Str × Addr × Addr × List (Bun Str) × Option (List (Option Nat))
abbrev sp_Pool_fold (P : Program) (w : World) (K : PySem.W.Frag) : Sp := spX (κ := Unit) (fun i : PfI => FldOk i.2.2.2.2.1 i.2.2.2.2.2) (fun i => [rPool P w K i.1 i.2.1 i.2.2.1 i.2.2.2.1, rD (topO i.2.2.2.2.2)]) (fun i => [wHeld i.2.2.2.1 i.2.2.2.2.1]) (fun _ _ => True)
  (fun i _ => rFold P w K i.1 i.2.1 (finO i.2.2.2.2.1 i.2.2.2.2.2).1 (finO i.2.2.2.2.1 i.2.2.2.2.2).2) fun _ _ => []
theorem c_Pool_fold (W : Wo K mg base) : Met P w K mg base 10 (cPo K) "fold" (sp_Pool_fold P w K) [] := by
  have c_Fold := c_Fold (P := P) (w := w) W
  have c_visit := c_visit (P := P) (w := w) W 8
  have c_moved := c_moved (P := P) (w := w) W
  refine met_of (f_Pool_fold W) (cl_Pool W) (me_Pool_fold W) b_Pool_fold sc_Pool_fold (fun _ _ => rfl) fun cdv A' outer s H E hr => ⟨_, (pss_cons (ps_if (PW.pt (pw_or (pt_cmp (pc_isN (pv 1))) (pw_or1 (pt_cmpR (kOp K (fun K => rIn K false) op_in_seq) pe_non (pv 1) (by rfl))))) (pss_one (ps_ret (C8.pe_mk c_Fold hr (by decide) rfl (pa_cons (pe_fldK K (pv 0)) (pa_cons (pe_lst pa_nil) (pa_cons pe_non pa_nil)))))) pss_nil)
    (pss_cons (ps_set (i := 2) sc_Pool_fold.nd rfl (by first | exact Or.inl rfl | exact Or.inr rfl) pe_dnewK)
    (pss_cons (ps_set (i := 3) sc_Pool_fold.nd rfl (by first | exact Or.inl rfl | exact Or.inr rfl) (pe_lst pa_nil))
    (pss_cons (ps_for PassesOwn.never rfl (pi_tupK K (pv 1)) (pg_name (i := 4) sc_Pool_fold.nd rfl (by first | exact Or.inl rfl | exact Or.inr rfl)) (pss_one (ps_expr (C8.pe_c c_visit hr (by first | decide | omega) rfl (pa_cons (pe_fldK K (pv 0)) (pa_cons (pv 4) (pa_cons (pv 2) (pa_cons (pv 3) pa_nil))))))))
    (pss_cons (ps_set (i := 5) sc_Pool_fold.nd rfl (by first | exact Or.inl rfl | exact Or.inr rfl) (pe_lst pa_nil))
    (pss_cons (ps_for PassesOwn.never rfl (pi_listK K (pv 3)) (pg_name (i := 6) sc_Pool_fold.nd rfl (by first | exact Or.inl rfl | exact Or.inr rfl)) (pss_cons (ps_asg (pe_ix (kIx K rIxL ix_list) (pe_fldK K (pv 0)) (pv 6) fun _ _ => rfl) (pg_tupK K rfl (pgs_cons (pg_name (i := 7) sc_Pool_fold.nd rfl (by first | exact Or.inl rfl | exact Or.inr rfl)) (pgs_cons (pg_name (i := 8) sc_Pool_fold.nd rfl (by first | exact Or.inl rfl | exact Or.inr rfl)) pgs_nil))))
    (pss_one (ps_expr (pe_bmK K PySem.F.plainAttrs_list PySem.F.slot_list_append PySem.F.type_list_append mt_append (pv 5) (pa_cons (pe_tup (pa_cons (pv 7) (pa_cons (pe_lc (own := [("value", 9), ("parts", 10)]) (g := (gTup K 2 (gCons (gName 9) (gCons (gName 10) gNil)))) rfl sc_Pool_fold.nd (pi_listK K (pv 8)) (blkOk_by (own := [("value", 9), ("parts", 10)]) (N := N_Pool_fold) (sc := defScope s_Pool_fold) (by decide +kernel)) (fun _ _ _ _ _ => (pg_tupK K rfl (pgs_cons (pg_name (i := 9) sc_Pool_fold.nd rfl (by first | exact Or.inl rfl | exact Or.inr rfl)) (pgs_cons (pg_name (i := 10) sc_Pool_fold.nd rfl (by first | exact Or.inl rfl | exact Or.inr rfl)) pgs_nil)))) (fun _ _ _ _ _ => pts_nil) (fun _ _ _ _ _ => (pe_tup (pa_cons (pv 9) (pa_cons (C8.pe_c c_moved hr (by first | decide | omega) rfl (pa_cons (pv 10) (pa_cons (pv 2) pa_nil))) pa_nil))))) pa_nil))) pa_nil))))))
    (pss_one (ps_ret (C8.pe_mk c_Fold hr (by decide) rfl (pa_cons (pe_fldK K (pv 0)) (pa_cons (pv 5) (pa_cons (C8.pe_c c_moved hr (by first | decide | omega) rfl (pa_cons (pv 1) (pa_cons (pv 2) pa_nil))) pa_nil)))))))))))), ?_⟩
  rintro ⟨ps, T, pn, ph, h, ts⟩ F D0 Q ok q
  simp only at ok q
  have cl := cl_Pool W
  have stop : finO h ts = ([], none) → Go D0 (gam N_Pool_fold [rPool P w K ps T pn ph, rD (topO ts)]) (wHeld ph h :: F) (tRet (tMake (cFo K) (sp_Fold_init P w K) [] C8.E0 (tCons (tFld K (tVar 0) "shape") (tCons (tLst tNil) (tCons (tC .non) tNil)))) { nx := fun _ H' => Q .non H', rt := Q }) := fun ef => by
    rw [ef] at q
    refine go_retX (eg_make (F := wHeld ph h :: F) (As := [rTree P w K ps T, rD (bunsD []), rD (topD none)]) (Ds := []) (flds := fun _ => folF P w K ps T [] none) (Lr := fun _ => wHeld ph h :: F) (ps, T, [], none) (fun x dx => trivial) (ag_cons (eg_fldO cl (no_Pool_shape W) (eg_var rfl) rfl) (ag_cons (Eg.lst (ds := []) (eg_lst ag_nil (by simp))) (ag_cons eg_non ag_nil))) (fun _ => .nil) (fun _ _ => rfl) (fun _ _ => rfl) (fun _ _ _ _ => rfl) fun _ _ _ => rfl) fun v D H e ⟨_, _, hd, r⟩ => q v D H () e trivial hd.tail r
  cases ts with
  | none =>
    exact sq_if (b := true) (Tg.to (tg_or (b := false) (tg_test (eg_isN (b := true) (eg_var rfl) fun D v hv => by rw [non_of hv]; rfl)) fun z => nomatch z) rfl) (fun _ => stop rfl) fun z => nomatch z
  | some ts =>
    have t1 : Tg _ (gam N_Pool_fold [rPool P w K ps T pn ph, rD (topO (some ts))]) (wHeld ph h :: F) (false || decide (none ∈ ts)) (wHeld ph h :: F) := tg_or (tg_test (eg_isN (b := false) (eg_var (i := 1) rfl) fun D v hv => by obtain ⟨a, vs, rfl, _⟩ := tup_rD hv; rfl)) fun _ => tg_test (eg_op eg_non (eg_var (i := 1) rfl) (og_noneIn (K := K) (neg := false)))
    refine sq_if t1 (fun e => stop ?_) fun e => ?_
    · have : none ∈ ts := by simpa using e
      exact if_pos this
    · have hn : none ∉ ts := by simpa using e
      have ef : finO h (some ts) = (renB h (visPL h 8 (ts.map fun t => t.getD 0) []), some ((ts.map fun t => t.getD 0).map (ix (visPL h 8 (ts.map fun t => t.getD 0) [])))) := if_neg hn
      rw [ef] at q
      have dep : ∀ t ∈ ts.map fun t => t.getD 0, Dep h 8 t := fun t ht => by
        obtain ⟨x, hx, rfl⟩ := List.mem_map.mp ht
        exact (ok.dep ts rfl).resolve_left hn x hx
      have tl : (ts.map fun t => t.getD 0).length ≤ 1000 := by rw [List.length_map]; exact ok.few ts rfl
      have tD : topO (some ts) = prtD (ts.map fun t => t.getD 0) := congrArg PyData.tuple (optN_some hn)
      rw [tD]
      generalize ts.map (fun t => t.getD 0) = us at dep tl q ⊢
      have hz := ok.len
      have ook : OrdOk h (visPL h 8 us []) := visPL_ok dep ⟨List.nodup_nil, fun _ h => nomatch h⟩
      have ol := ook.len
      obtain ⟨uin, ucl⟩ := visPL_cl dep
      refine Go.fz (Γ' := [some (rObj (cPo K) [("shape", rTree P w K ps T), ("numbers", rV (.ref pn)), ("held", rD (bunsD h))]), some (rD (prtD us)), none, none, none, none, none, none, none, none, none]) (L' := F) (fun D H σ g hd => ?_) ?_
      · obtain ⟨D1, e1, h1, r1⟩ := hd.freeze
        refine ⟨D1, e1, h1, g.to (i := 0) (R' := rObj (cPo K) [("shape", rTree P w K ps T), ("numbers", rV (.ref pn)), ("held", rD (bunsD h))]) e1 rfl fun v rv => ?_⟩
        obtain ⟨x, dx, gs, rfl, hx, fr⟩ := (rPool P w K ps T pn ph).m e1 rv
        exact ⟨x, dx, gs, rfl, hx, frel_3 fr (fun v e => e) (fun v e => e) fun v e => by rw [show v = _ from e]; exact rD_lst (by rw [List.map_map]; exact r1)⟩
      · refine sq_newDK fun pp => sq_new ag_nil (by simp) fun po => go_swap ?_
        refine sq_forL (G := gT) us (fun (x : Nat) => rD (.int (x : Int))) (ig_tupX (f := fun (x : Nat) => .int (x : Int)) (eg_var rfl)) (fun i R y => y)
          (fun _ => [some (rObj (cPo K) [("shape", rTree P w K ps T), ("numbers", rV (.ref pn)), ("held", rD (bunsD h))]), some (rD (prtD us)), some (rV (.ref pp)), some (rV (.ref po)), none, none, none, none, none, none, none])
          (fun a => wDK pp (plcK (visPL h 8 a [])) :: mL po (intR (visPL h 8 a [])) :: F) (Less.refl _) rfl (fun _ => trivial) (fun a x b D1 N he e1 kN => ?_) ?_
        · have ma : ∀ y ∈ a ++ [x], Dep h 8 y := fun y hy => dep y (by rw [he]; simp at hy ⊢; rcases hy with q | q; exact .inl q; exact .inr (.inl q))
          have oka : OrdOk h (visPL h 8 a []) := visPL_ok (fun t ht => ma t (by simp [ht])) ⟨List.nodup_nil, fun _ h => nomatch h⟩
          have ev : visPL h 8 (a ++ [x]) [] = visP h 8 x (visPL h 8 a []) := by unfold visPL; rw [List.foldl_append]; rfl
          rw [ev] at kN
          refine ⟨_, _, tgt_name, go_drop ((xg_call (h, x, visPL h 8 a [], pp, po) ⟨ma x (by simp), oka, hz⟩ (ag_cons (eg_fldO cl (no_Pool_held W) (eg_var rfl) rfl) (ag_cons (eg_var rfl) (ag_cons (eg_var rfl) (ag_cons (eg_var rfl) ag_nil)))) (fun _ => .nil) rfl).eg (rD .none) _ fun _ _ => ⟨fun _ _ r => r, rfl⟩) (kN.less (less_of rfl fun i h => ?_))⟩
          match i with
          | 0 => exact .inr rfl
          | 1 => exact .inr rfl
          | 2 => exact .inr rfl
          | 3 => exact .inr rfl
          | 4 => exact .inl rfl
          | 5 => exact .inl rfl
          | 6 => exact .inl rfl
          | 7 => exact .inl rfl
          | 8 => exact .inl rfl
          | 9 => exact .inl rfl
          | 10 => exact .inl rfl
          | i + 11 => exact absurd h (by show ¬ i + 11 < 11; omega)
        · generalize visPL h 8 us [] = o at ook ol uin ucl q ⊢
          refine Go.fz (Γ' := [some (rObj (cPo K) [("shape", rTree P w K ps T), ("numbers", rV (.ref pn)), ("held", rD (bunsD h))]), some (rD (prtD us)), some (rDK (plcK o)), some (rD (prL o)), none, none, none, none, none, none, none]) (L' := F) (fun D H σ g hd => ?_) ?_
          · obtain ⟨D1, e1, h1, r1⟩ := hd.freezeDK
            obtain ⟨D2, e2, h2, r2⟩ := h1.freeze
            have g1 := g.to (i := 2) (R' := rDK (plcK o)) (e1.trans e2) rfl fun v rv => by rw [show v = _ from rv]; exact (rDK (plcK o)).m e2 r1
            have g2 := g1.to (i := 3) (R' := rD (prL o)) (Ex.refl _) rfl fun v rv => by rw [show v = _ from rv]; exact rD_lst (by unfold intR at r2; rw [List.map_map]; exact r2)
            exact ⟨D2, e1.trans e2, h2, g2⟩
          · refine sq_new ag_nil (by simp) fun pb => ?_
            refine sq_forL (G := gT) o (fun (x : Nat) => rD (.int (x : Int))) (ig_listX (f := fun (x : Nat) => .int (x : Int)) (eg_var rfl)) (fun i R y => y)
              (fun _ => [some (rObj (cPo K) [("shape", rTree P w K ps T), ("numbers", rV (.ref pn)), ("held", rD (bunsD h))]), some (rD (prtD us)), some (rDK (plcK o)), some (rD (prL o)), none, some (rV (.ref pb)), none, none, none, none, none])
              (fun a => wHeld pb (renA h o a) :: F) ⟨rfl, fun i R h => ?_⟩ rfl (fun _ => trivial) (fun a x c D1 N he e1 kN => ?_) ?_
            · match i, h with
              | 0, h => exact h
              | 1, h => exact h
              | 2, h => exact h
              | 3, h => exact h
              | 4, h => cases h
              | 5, h => exact h
              | 6, h => cases h
              | 7, h => cases h
              | 8, h => cases h
              | 9, h => cases h
              | 10, h => cases h
            · have mx : x ∈ o := by rw [he]; simp
              have hx := ook.lt x mx
              have hb : h[x]? = some h[x] := List.getElem?_eq_getElem hx
              generalize h[x] = b at hb
              have sm := ok.small b (List.mem_of_getElem? hb)
              have eb : ents h x = b.2 := by simp [ents, hb]
              have er : renA h o (a ++ [x]) = renA h o a ++ [(b.1, b.2.map fun e => (e.1, e.2.map (ix o)))] := by unfold renA; rw [List.filterMap_append]; simp [hb]
              have al : a.length ≤ o.length := by rw [he, List.length_append]; omega
              have rl := renA_len (h := h) (o := o) a
              refine ⟨_, _, tgt_name, ?_⟩
              refine sq_asgT (eg_op (eg_fldO cl (no_Pool_held W) (eg_var rfl) rfl) (eg_var rfl) (og_ixD (ds := h.map bunD) (d := bunD b) (atI_nat (by rw [List.getElem?_map, hb]; rfl)))) (tgt_tupD (ds := [.str b.1, .list (b.2.map entD)]) (tgs_cons tgt_name (tgs_cons tgt_name tgs_nil)) rfl) ?_
              refine go_drop (eg_append (j := 0) (R := rD (bunD (b.1, b.2.map fun e => (e.1, e.2.map (ix o))))) (eg_var rfl) ⟨0, _, rfl⟩ (Eg.tup (ds := [.str b.1, .list ((b.2.map fun e => (e.1, e.2.map (ix o))).map entD)]) (eg_tup (ag_cons (eg_var rfl) (ag_cons (Eg.to (eg_lcA (L1 := wHeld pb (renA h o a) :: F) b.2 (ig_listX (f := entD) (eg_var rfl)) (by omega) (fun _ => trivial) (fun e => entD (e.1, e.2.map (ix o))) fun i e he' R ⟨y, hy, hR⟩ => ?_) (by rw [List.map_map]; rfl)) ag_nil)) (by simp))) rfl (by rw [List.length_map]; omega)) ?_
              · subst hR
                rw [he'] at hy; cases hy
                have me := List.mem_of_getElem? he'
                refine ⟨_, _, tgt_tupD (ds := [.int e.1, prtD e.2]) (tgs_cons tgt_name (tgs_cons tgt_name tgs_nil)) rfl, by simp, fun Fr => Eg.tup (ds := [.int e.1, prtD (e.2.map (ix o))]) (eg_tup (ag_cons (eg_var rfl) (ag_cons (eg_callP (e.2, o) ⟨fun p hp => ucl x mx e (eb ▸ me) p hp, by have := sm.2 e me; show e.2.length ≤ 100000; omega⟩ (ag_cons (eg_var rfl) (ag_cons (eg_var rfl) ag_nil)) rfl) ag_nil)) (by simp))⟩
              · rw [er] at kN
                have ew : wHeld pb (renA h o a ++ [(b.1, b.2.map fun e => (e.1, e.2.map (ix o)))]) = mL pb (((renA h o a).map fun b => rD (bunD b)) ++ [rD (bunD (b.1, b.2.map fun e => (e.1, e.2.map (ix o))))]) := by unfold wHeld; rw [List.map_append]; rfl
                rw [ew] at kN
                refine kN.less (less_of rfl fun i h => ?_)
                match i with
                | 0 => exact .inr rfl
                | 1 => exact .inr rfl
                | 2 => exact .inr rfl
                | 3 => exact .inr rfl
                | 4 => exact .inl rfl
                | 5 => exact .inr rfl
                | 6 => exact .inl rfl
                | 7 => exact .inl rfl
                | 8 => exact .inl rfl
                | 9 => exact .inl rfl
                | 10 => exact .inl rfl
                | i + 11 => exact absurd h (by show ¬ i + 11 < 11; omega)
            · have ea : renA h o o = renB h o := rfl
              rw [ea]
              refine go_retX (eg_make (F := F) (As := [rTree P w K ps T, rD (bunsD (renB h o)), rD (topD (some (us.map (ix o))))]) (Ds := []) (flds := fun _ => folF P w K ps T (renB h o) (some (us.map (ix o)))) (Lr := fun _ => F) (ps, T, renB h o, some (us.map (ix o))) (fun x dx => trivial) (ag_cons (eg_fldO cl (no_Pool_shape W) (eg_var rfl) rfl) (ag_cons (Eg.imp (eg_frz rfl) fun D v hv => rD_lst (by rw [List.map_map]; exact hv)) (ag_cons (eg_callP (us, o) ⟨uin, by show us.length ≤ 100000; omega⟩ (ag_cons (eg_var rfl) (ag_cons (eg_var rfl) ag_nil)) rfl) ag_nil))) (fun _ => .nil) (fun _ _ => rfl) (fun _ _ => rfl) (fun _ _ _ _ => rfl) fun _ _ _ => rfl) fun v D H e ⟨_, _, hd, r⟩ => q v D H () e trivial hd r
end
end Fb

namespace Fb
open PySem PySem.Spec L2 Evl
open C8 (Cal Met Mak)
section
variable {P : Program} {w : World} {K : PySem.W.Frag} {mg : Str → Option Value} {base : Heap}
theorem og_neS {L : List Wd} {a b : Str} : Og rNe (rD (.str a)) (rD (.str b)) L (rD (.bool (!decide (a = b)))) L := fun x y D H hd rx ry Q q => by
  rw [str_of rx, str_of ry]
  exact ⟨rfl, q _ D H (Ex.refl D) hd (by rw [show decide (V.str a = V.str b) = decide (a = b) from by simp]; exact .bl _)⟩
abbrev wFnd (pf : Addr) (f : List (Option Nat)) : Wd := mL pf (f.map fun x => rD (optN x))
abbrev sp_at_places : Sp := spX (κ := Unit) (fun i : Addr × List (Option Nat) × List Nat => (∀ p ∈ i.2.2, p < i.2.1.length) ∧ i.2.2.length ≤ 1000) (fun i => [rV (.ref i.1), rD (prtD i.2.2)]) (fun i => [wFnd i.1 i.2.1]) (fun _ _ => True) (fun i _ => rD (.tuple ((i.2.2.map (fnd i.2.1)).map optN))) (fun i _ => [wFnd i.1 i.2.1])
theorem c_at_places (W : Wo K mg base) : Cal P w K mg base 1 "at_places" sp_at_places [] :=
  cal_of (f_at_places W) (g_at_places W) b_at_places sc_at_places (fun _ _ => rfl) fun cdv A' outer s H E hr => ⟨_, (pss_one (ps_ret (pe_callTy (kCall K rTupOf call_tuple_of) (by rfl) (n_tuple W) PyProof.Rows.boot_tuple (pa_cons (pe_lc (own := [("part", 2)]) (g := (gName 2)) rfl sc_at_places.nd (pi_tupK K (pv 1)) (blkOk_by (own := [("part", 2)]) (N := N_at_places) (sc := defScope s_at_places) (by decide +kernel)) (fun _ _ _ _ _ => (pg_name (i := 2) sc_at_places.nd rfl (by first | exact Or.inl rfl | exact Or.inr rfl))) (fun _ _ _ _ _ => pts_nil) (fun _ _ _ _ _ => (pe_ix (kIx K rIxL ix_list) (pv 0) (pv 2) fun _ _ => rfl))) pa_nil)))), fun ⟨pf, f, ps⟩ F D0 Q ⟨hp, hz⟩ q => by
    simp only at hp hz
    refine go_ret (Eg.to (eg_cb (ag_cons (eg_lcA (L1 := wFnd pf f :: F) ps (ig_tupX (f := fun (x : Nat) => .int (x : Int)) (eg_var rfl)) (by omega) (fun _ => trivial) (fun x => optN (fnd f x)) fun i x hx R ⟨y, hy, hR⟩ => ?_) ag_nil) cg_tupD) (by rw [List.map_map]; rfl)) fun v D H e hd r => q v D H () e trivial hd r
    subst hR
    rw [hx] at hy; cases hy
    have lt := hp x (List.mem_of_getElem? hx)
    have hf : f[x]? = some f[x] := List.getElem?_eq_getElem lt
    have ef : fnd f x = f[x] := by unfold fnd; rw [hf]; rfl
    rw [ef]
    exact ⟨_, _, tgt_name, by simp, fun Fr => eg_op (eg_var rfl) (eg_var rfl) (og_ixW (k := 0) rfl (atI_nat (by rw [List.getElem?_map, hf]; rfl)))⟩⟩
/-- is_part -/
structure PrtOk (ps : List Nat) (cs : List Str) (bs : List (Bun Str)) : Prop where
  len : ps.length = cs.length
  at' : ∀ (j p : Nat) (c : Str), ps[j]? = some p → cs[j]? = some c → ∃ es, bs[p]? = some (c, es)
abbrev sp_is_part : Sp := spP (fun i : List Nat × List Str × List (Bun Str) => PrtOk i.1 i.2.1 i.2.2) (fun i => [rD (prtD i.1), rD (strL i.2.1), rD (.int (i.2.1.length : Nat)), rD (bunsD i.2.2)]) fun _ => rD (.bool true)
theorem c_is_part (W : Wo K mg base) : Cal P w K mg base 2 "is_part" sp_is_part [] := by
  have c_is_value := c_is_value (P := P) (w := w) W
  refine cal_of (f_is_part W) (g_is_part W) b_is_part sc_is_part (fun _ _ => rfl) fun cdv A' outer s H E hr => ⟨_, (pss_cons (ps_if (PW.pt (pw_or (pt_not (pt_val (pe_callB (kCall K rIsi call_isi) (by rfl) (n_isinstance W) PyProof.Rows.boot_isinstance (pa_cons (pv 0) (pa_cons (pe_bltn (v := .ty "tuple") rfl (n_tuple W) PyProof.Rows.boot_tuple rfl) pa_nil))))) (pw_or1 (pt_cmpR op_ne (pe_callB (kCall K rLenV call_len) (by rfl) (n_len W) PySem.boot_len (pa_cons (pv 0) pa_nil)) (pv 2) (nomark _))))) (pss_one (ps_ret pe_bl)) pss_nil)
    (pss_cons (ps_for PassesOwn.never rfl (pi_zip2 false true rfl (n_zip W) (pa_cons (pv 0) (pa_cons (pv 1) pa_nil))) (pg_tupK K rfl (pgs_cons (pg_name (i := 4) sc_is_part.nd rfl (by first | exact Or.inl rfl | exact Or.inr rfl)) (pgs_cons (pg_name (i := 5) sc_is_part.nd rfl (by first | exact Or.inl rfl | exact Or.inr rfl)) pgs_nil))) (pss_cons (ps_if (PW.pt (pw_or (pt_not (pt_val (C8.pe_c c_is_value hr (by first | decide | omega) rfl (pa_cons (pv 4) pa_nil)))) (pw_or1 (pt_not (pt_chain op_le op_lt pe_int (pv 4) (pe_callB (kCall K rLenV call_len) (by rfl) (n_len W) PySem.boot_len (pa_cons (pv 3) pa_nil))))))) (pss_one (ps_ret pe_bl)) pss_nil)
    (pss_cons (ps_set (i := 6) sc_is_part.nd rfl (by first | exact Or.inl rfl | exact Or.inr rfl) (pe_ix (kIx K rIxL ix_list) (pv 3) (pv 4) fun _ _ => rfl))
    (pss_one (ps_if (PW.pt (pw_or (pt_not (pt_val (pe_callB (kCall K rIsi call_isi) (by rfl) (n_isinstance W) PyProof.Rows.boot_isinstance (pa_cons (pv 6) (pa_cons (pe_bltn (v := .ty "tuple") rfl (n_tuple W) PyProof.Rows.boot_tuple rfl) pa_nil))))) (pw_or (pt_cmpR op_ne (pe_callB (kCall K rLenV call_len) (by rfl) (n_len W) PySem.boot_len (pa_cons (pv 6) pa_nil)) pe_int (nomark _)) (pw_or1 (pt_cmpR op_ne (pe_ix (kIx K rIxT ix_tup) (pv 6) pe_int fun _ _ => rfl) (pv 5) (nomark _)))))) (pss_one (ps_ret pe_bl)) pss_nil)))))
    (pss_one (ps_ret pe_bl)))), ?_⟩
  rintro ⟨ps, cs, bs⟩ F D0 Q ok q
  simp only at ok
  have ol := ok.len
  refine sq_no (Tg.to (tg_or (tg_not (tg_B (eg_cb (ag_cons (eg_var rfl) (ag_cons eg_cv ag_nil)) (cg_isi (b := true) kt_tt)))) fun _ => tg_test (eg_op (eg_cb (ag_cons (eg_var rfl) ag_nil) cg_lenDT) (eg_var rfl) og_neI)) (by rw [List.length_map, ol]; simp)) ?_
  refine sq_for (ι := Unit) (ig_zip2 (k1 := false) (k2 := true) (Rs := (ps.map fun (n : Nat) => PyData.int (n : Int)).map rD) (Ss := (cs.map PyData.str).map rD) (ag_cons (Eg.imp (eg_var rfl) fun D v => tup_rD) (ag_cons (Eg.imp (eg_var rfl) fun D v => lst_rD) ag_nil)) (by simp [ol])) (fun _ _ => True)
    (fun _ _ => [some (rD (prtD ps)), some (rD (strL cs)), some (rD (.int (cs.length : Nat))), some (rD (bunsD bs)), none, none, none]) (fun _ _ => F) ⟨(), trivial, Less.refl _, rfl⟩ (fun _ _ _ _ => trivial) ?_ fun _ _ => go_ret eg_bl fun v D H e hd r => q v D H () e trivial hd r
  rintro i _ R D1 N hi e1 _ ⟨R1, R2, h1, h2, rfl⟩ kN
  rw [List.map_map, List.getElem?_map] at h1 h2
  obtain ⟨p, hp, rfl⟩ : ∃ p, ps[i]? = some p ∧ R1 = rD (.int (p : Int)) := by
    cases e : ps[i]? with
    | none => rw [e] at h1; cases h1
    | some p => rw [e] at h1; cases h1; exact ⟨p, rfl, rfl⟩
  obtain ⟨c, hc, rfl⟩ : ∃ c, cs[i]? = some c ∧ R2 = rD (.str c) := by
    cases e : cs[i]? with
    | none => rw [e] at h2; cases h2
    | some c => rw [e] at h2; cases h2; exact ⟨c, rfl, rfl⟩
  obtain ⟨es, hb⟩ := ok.at' i p c hp hc
  have lt := (List.getElem?_eq_some_iff.mp hb).1
  refine ⟨_, _, tgt_tup (tgs_cons tgt_name (tgs_cons tgt_name tgs_nil)) rfl, ?_⟩
  refine sq_no (Tg.to (tg_or (tg_not (tg_B (eg_callP (p : Int) trivial (ag_cons (eg_var rfl) ag_nil) rfl))) fun _ => tg_not (tg_test (eg_chain eg_int (eg_var rfl) og_cmp (eg_cb (ag_cons (eg_var rfl) ag_nil) cg_lenD) og_cmp))) ?_) ?_
  · rw [List.length_map, decide_eq_true (show (0 : Int) ≤ (p : Int) by omega), decide_eq_true (show (p : Int) < ((bs.length : Nat) : Int) by omega)]
    rfl
  refine sq_asg (eg_op (eg_var rfl) (eg_var rfl) (og_ixD (ds := bs.map bunD) (d := bunD (c, es)) (atI_nat (by rw [List.getElem?_map, hb]; rfl)))) ?_
  refine go_no (Tg.to (tg_or (tg_not (tg_B (eg_cb (ag_cons (eg_var rfl) (ag_cons eg_cv ag_nil)) (cg_isi (b := true) kt_tt)))) fun _ => tg_or (tg_test (eg_op (eg_cb (ag_cons (eg_var rfl) ag_nil) cg_lenDT) eg_int og_neI)) fun _ => tg_test (eg_op (eg_op (eg_var rfl) eg_int (og_ixDT (ds := [.str c, .list (es.map entD)]) (i := 0) (d := .str c) rfl)) (eg_var rfl) og_neS)) (by simp)) ((kN () trivial).less (less_of rfl fun i h => ?_))
  match i with
  | 0 => exact .inr rfl
  | 1 => exact .inr rfl
  | 2 => exact .inr rfl
  | 3 => exact .inr rfl
  | 4 => exact .inl rfl
  | 5 => exact .inl rfl
  | 6 => exact .inl rfl
  | i + 7 => exact absurd h (by show ¬ i + 7 < 7; omega)
end
end Fb

namespace Fb
open PySem PySem.Spec L2 Evl
open C8 (Cal Met Mak)
section
variable {P : Program} {w : World} {K : PySem.W.Frag} {mg : Str → Option Value} {base : Heap}
structure BunOk (ps : Prs Str) (F : Fo Str) (b : Bun Str) (bs : List (Bun Str)) : Prop where
  nm : b.1 ∈ F.order
  up : Rising b.2
  at' : ∀ e ∈ b.2, PrtOk e.2 (Kids ps (some b.1)) bs
def lastD (a : List Ent) : PyData := match a.getLast? with
  | none => .none
  | some e => .int e.1
abbrev sp_is_bunch (P : Program) (w : World) (K : PySem.W.Frag) : Sp := spP (fun i : Prs Str × Fo Str × Bun Str × List (Bun Str) => TreeOk i.1 i.2.1 ∧ BunOk i.1 i.2.1 i.2.2.1 i.2.2.2) (fun i => [rTree P w K i.1 i.2.1, rD (bunD i.2.2.1), rD (bunsD i.2.2.2)]) fun _ => rD (.bool true)
theorem c_is_bunch (W : Wo K mg base) : Cal P w K mg base 4 "is_bunch" (sp_is_bunch P w K) [] := by
  have c_is_name := c_is_name (P := P) (w := w) W
  have c_is_value := c_is_value (P := P) (w := w) W
  have c_is_part := c_is_part (P := P) (w := w) W
  have c_Tree_columns := c_Tree_columns (P := P) (w := w) W
  have c_Tree_children := c_Tree_children (P := P) (w := w) W
  refine cal_of (f_is_bunch W) (g_is_bunch W) b_is_bunch sc_is_bunch (fun _ _ => rfl) fun cdv A' outer s H E hr => ⟨_, (pss_cons (ps_if (PW.pt (pw_or (pt_not (pt_val (pe_callB (kCall K rIsi call_isi) (by rfl) (n_isinstance W) PyProof.Rows.boot_isinstance (pa_cons (pv 1) (pa_cons (pe_bltn (v := .ty "tuple") rfl (n_tuple W) PyProof.Rows.boot_tuple rfl) pa_nil))))) (pw_or (pt_cmpR op_ne (pe_callB (kCall K rLenV call_len) (by rfl) (n_len W) PySem.boot_len (pa_cons (pv 1) pa_nil)) pe_int (nomark _)) (pw_or (pt_not (pt_val (C8.pe_c c_is_name hr (by first | decide | omega) rfl (pa_cons (pe_ix (kIx K rIxT ix_tup) (pv 1) pe_int fun _ _ => rfl) pa_nil)))) (pw_or1 (pt_cmpR (kOp K (fun K => rIn K true) op_notIn_seq) (pe_ix (kIx K rIxT ix_tup) (pv 1) pe_int fun _ _ => rfl) (C8.pe_mt0 c_Tree_columns hr (by decide) (pv 0)) (by rfl))))))) (pss_one (ps_ret pe_bl)) pss_nil)
    (pss_cons (ps_if (pt_not (pt_val (pe_callB (kCall K rIsi call_isi) (by rfl) (n_isinstance W) PyProof.Rows.boot_isinstance (pa_cons (pe_ix (kIx K rIxT ix_tup) (pv 1) pe_int fun _ _ => rfl) (pa_cons (pe_bltn (v := .ty "list") rfl (n_list W) PyProof.Rows.boot_list rfl) pa_nil))))) (pss_one (ps_ret pe_bl)) pss_nil)
    (pss_cons (ps_set (i := 3) sc_is_bunch.nd rfl (by first | exact Or.inl rfl | exact Or.inr rfl) (C8.pe_mt c_Tree_children hr (by first | decide | omega) (pv 0) (pa_cons (pe_ix (kIx K rIxT ix_tup) (pv 1) pe_int fun _ _ => rfl) pa_nil)))
    (pss_cons (ps_set (i := 4) sc_is_bunch.nd rfl (by first | exact Or.inl rfl | exact Or.inr rfl) pe_non)
    (pss_cons (ps_for PassesOwn.never rfl (pi_listK K (pe_ix (kIx K rIxT ix_tup) (pv 1) pe_int fun _ _ => rfl)) (pg_name (i := 5) sc_is_bunch.nd rfl (by first | exact Or.inl rfl | exact Or.inr rfl)) (pss_cons (ps_if (PW.pt (pw_or (pt_not (pt_val (pe_callB (kCall K rIsi call_isi) (by rfl) (n_isinstance W) PyProof.Rows.boot_isinstance (pa_cons (pv 5) (pa_cons (pe_bltn (v := .ty "tuple") rfl (n_tuple W) PyProof.Rows.boot_tuple rfl) pa_nil))))) (pw_or (pt_cmpR op_ne (pe_callB (kCall K rLenV call_len) (by rfl) (n_len W) PySem.boot_len (pa_cons (pv 5) pa_nil)) pe_int (nomark _)) (pw_or1 (pt_not (pt_val (C8.pe_c c_is_value hr (by first | decide | omega) rfl (pa_cons (pe_ix (kIx K rIxT ix_tup) (pv 5) pe_int fun _ _ => rfl) pa_nil)))))))) (pss_one (ps_ret pe_bl)) pss_nil)
    (pss_cons (ps_if (PW.pt (pw_or (PW.pt (pw_and (pt_cmp (pc_notN (pv 4))) (pw_and1 (pt_cmpR op_le (pe_ix (kIx K rIxT ix_tup) (pv 5) pe_int fun _ _ => rfl) (pv 4) (nomark _))))) (pw_or1 (pt_not (pt_val (C8.pe_c c_is_part hr (by first | decide | omega) rfl (pa_cons (pe_ix (kIx K rIxT ix_tup) (pv 5) pe_int fun _ _ => rfl) (pa_cons (pv 3) (pa_cons (pe_callB (kCall K rLenV call_len) (by rfl) (n_len W) PySem.boot_len (pa_cons (pv 3) pa_nil)) (pa_cons (pv 2) pa_nil)))))))))) (pss_one (ps_ret pe_bl)) pss_nil)
    (pss_one (ps_set (i := 4) sc_is_bunch.nd rfl (by first | exact Or.inl rfl | exact Or.inr rfl) (pe_ix (kIx K rIxT ix_tup) (pv 5) pe_int fun _ _ => rfl))))))
    (pss_one (ps_ret pe_bl))))))), ?_⟩
  rintro ⟨ps, T, ⟨c, es⟩, bs⟩ F D0 Q ⟨ok, bo⟩ q
  simp only at ok bo
  have nmc := ok.ok c bo.nm
  have hc : ∀ {G : Gm} {L : List Wd}, Eg (tOp (rIxT K) (tVar 1) (tC (.int 0))) (some (rTree P w K ps T) :: some (rD (bunD (c, es))) :: G) L (rD (.str c)) L := eg_op (eg_var rfl) eg_int (og_ixDT (ds := [.str c, .list (es.map entD)]) (i := 0) (d := .str c) rfl)
  have he : ∀ {G : Gm} {L : List Wd}, Eg (tOp (rIxT K) (tVar 1) (tC (.int 1))) (some (rTree P w K ps T) :: some (rD (bunD (c, es))) :: G) L (rD (.list (es.map entD))) L := eg_op (eg_var rfl) eg_int (og_ixDT (ds := [.str c, .list (es.map entD)]) (i := 1) (d := .list (es.map entD)) rfl)
  refine sq_no (Tg.to (tg_or (tg_not (tg_B (eg_cb (ag_cons (eg_var rfl) (ag_cons eg_cv ag_nil)) (cg_isi (b := true) kt_tt)))) fun _ => tg_or (tg_test (eg_op (eg_cb (ag_cons (eg_var rfl) ag_nil) cg_lenDT) eg_int og_neI)) fun _ => tg_or (tg_not (tg_B (eg_callP c nmc (ag_cons hc ag_nil) rfl))) fun _ => tg_test (eg_op hc (eg_methP (ps, T, ()) ⟨ok, trivial⟩ (eg_var rfl) (ins_obj rfl) ag_nil (fun _ => .nil) rfl) (og_in (K := K) (neg := true) (d := .str c) (ds := T.order.map .str) rfl (by rw [List.all_eq_true]; intro v hv; obtain ⟨d, _, rfl⟩ := List.mem_map.mp hv; rfl)))) ?_) ?_
  · rw [if_pos rfl, List.map_map, show (toV (.str c)) = V.str c from rfl, show (toV ∘ PyData.str) = V.str from rfl, inV_str, decide_eq_true bo.nm]
    simp
  refine sq_no (Tg.to (tg_not (tg_B (eg_cb (ag_cons he (ag_cons eg_cv ag_nil)) (cg_isi (b := true) kt_ll)))) rfl) ?_
  refine sq_asg (eg_methP (ps, T, some c) ⟨ok, fun c' e => by rw [← Option.some.inj e]; exact bo.nm⟩ (eg_var rfl) (ins_obj rfl) (ag_cons hc ag_nil) (fun _ => .nil) rfl) ?_
  refine sq_asg eg_non ?_
  refine sq_forL (G := gT) es (fun e => rD (entD e)) (ig_listX (f := entD) he) (fun i R y => y)
    (fun a => [some (rTree P w K ps T), some (rD (bunD (c, es))), some (rD (bunsD bs)), some (rD (strL (Kids ps (some c)))), some (rD (lastD a)), none]) (fun _ => F) (Less.refl _) rfl (fun _ => trivial) (fun a e b D1 N ee e1 kN => ?_) (go_ret eg_bl fun v D H e hd r => q v D H () e trivial hd r)
  have po := bo.at' e (by show e ∈ es; rw [ee]; simp)
  have h0 : ∀ {A B C D' E' : Option Rp} {L : List Wd}, Eg (tOp (rIxT K) (tVar 5) (tC (.int 0))) [A, B, C, D', E', some (rD (entD e))] L (rD (.int e.1)) L := eg_op (eg_var rfl) eg_int (og_ixDT (ds := [.int e.1, prtD e.2]) (i := 0) (d := .int e.1) rfl)
  have h1 : ∀ {A B C D' E' : Option Rp} {L : List Wd}, Eg (tOp (rIxT K) (tVar 5) (tC (.int 1))) [A, B, C, D', E', some (rD (entD e))] L (rD (prtD e.2)) L := eg_op (eg_var rfl) eg_int (og_ixDT (ds := [.int e.1, prtD e.2]) (i := 1) (d := prtD e.2) rfl)
  refine ⟨_, _, tgt_name, ?_⟩
  refine sq_no (Tg.to (tg_or (tg_not (tg_B (eg_cb (ag_cons (eg_var rfl) (ag_cons eg_cv ag_nil)) (cg_isi (b := true) kt_tt)))) fun _ => tg_or (tg_test (eg_op (eg_cb (ag_cons (eg_var rfl) ag_nil) cg_lenDT) eg_int og_neI)) fun _ => tg_not (tg_B (eg_callP e.1 trivial (ag_cons h0 ag_nil) rfl))) (by simp)) ?_
  have tl : Tg (tAnd (tTest (tNotN (tVar 4))) (tTest (tOp (rI0 fun i j => .bl (decide (i ≤ j))) (tOp (rIxT K) (tVar 5) (tC (.int 0))) (tVar 4)))) [some (rTree P w K ps T), some (rD (bunD (c, es))), some (rD (bunsD bs)), some (rD (strL (Kids ps (some c)))), some (rD (lastD a)), some (rD (entD e))] F false F := by
    cases hl : a.getLast? with
    | none =>
      have : lastD a = .none := by unfold lastD; rw [hl]
      rw [this]
      exact tg_and (b := true) (tg_test (eg_notN (b := true) (eg_var rfl) fun D v hv => by rw [non_of hv]; rfl)) fun z => nomatch z
    | some x =>
      have : lastD a = .int x.1 := by unfold lastD; rw [hl]
      rw [this]
      have lt : x.1 < e.1 := by
        obtain ⟨r, rfl⟩ := List.getLast?_eq_some_iff.mp hl
        have := bo.up
        rw [show (c, es).2 = es from rfl, ee] at this
        have h2 := (List.pairwise_append.mp this).2.2 x (by simp) e (by simp)
        exact h2
      refine Tg.to (tg_and (tg_test (eg_notN (b := false) (eg_var rfl) fun D v hv => by rw [int_of hv]; rfl)) fun _ => tg_test (eg_op h0 (eg_var rfl) og_cmp)) ?_
      rw [decide_eq_false (by omega)]
      rfl
  refine sq_no (Tg.to (tg_or tl fun _ => tg_not (tg_B (eg_callP (e.2, Kids ps (some c), bs) po (ag_cons h1 (ag_cons (eg_var rfl) (ag_cons (Eg.to (eg_cb (ag_cons (eg_var rfl) ag_nil) cg_lenD) (by rw [List.length_map])) (ag_cons (eg_var rfl) ag_nil)))) rfl))) rfl) ?_
  refine go_asg h0 (kN.less ⟨rfl, fun i R h => ?_⟩)
  have el : lastD (a ++ [e]) = .int e.1 := by unfold lastD; simp
  rw [el] at h
  match i, h with
  | 0, h => exact h
  | 1, h => exact h
  | 2, h => exact h
  | 3, h => exact h
  | 4, h => exact h
  | 5, h => cases h
end
end Fb

namespace Fb
open PySem PySem.Spec L2 Evl
open C8 (Cal Met Mak)
theorem Eg.words {te : TE} {Γ : Gm} {L L' L2 L3 : List Wd} {R : Rp} (h : Eg te Γ L' R L2) (f : ∀ D H, Hd D H L → Hd D H L') (g : ∀ D H, Hd D H L2 → Hd D H L3) : Eg te Γ L R L3 := fun σ D H gv hd Q q => h σ D H gv (f D H hd) Q fun v D2 H2 e h2 r => q v D2 H2 e (g D2 H2 h2) r
theorem Hd.rot3 {D H : Hp} {a b c : Wd} {F : List Wd} (h : Hd D H (a :: b :: c :: F)) : Hd D H (c :: a :: b :: F) :=
  h.pick (fun i => match i with | 0 => 2 | 1 => 0 | 2 => 1 | i + 3 => i + 3) (fun i x e => by
    match i, e with
    | 0, e => exact e
    | 1, e => exact e
    | 2, e => exact e
    | i + 3, e => exact e) fun i j _ _ e => by
    match i, j, e with
    | 0, 0, _ => rfl
    | 1, 1, _ => rfl
    | 2, 2, _ => rfl
    | i + 3, j + 3, e => exact e
    | 0, 1, e => cases e
    | 0, 2, e => cases e
    | 1, 0, e => cases e
    | 1, 2, e => cases e
    | 2, 0, e => cases e
    | 2, 1, e => cases e
    | 0, j + 3, e => simp at e
    | 1, j + 3, e => simp at e
    | 2, j + 3, e => simp at e
    | i + 3, 0, e => simp at e
    | i + 3, 1, e => simp at e
    | i + 3, 2, e => simp at e
/-! how big a pool grows -/
structure Big (bs : List (Bun Str)) (st : PSt Str) (m : Nat) : Prop where
  f : st.1.length = bs.length
  h : st.2.length ≤ m
  small : ∀ b ∈ st.2, b.2.length ≤ 1000 ∧ ∀ e ∈ b.2, e.2.length ≤ 1000
theorem alive_small {E : List EntO} (h1 : E.length ≤ 1000) (h2 : ∀ e ∈ E, e.2.length ≤ 1000) : (alive E).length ≤ 1000 ∧ ∀ e ∈ alive E, e.2.length ≤ 1000 := by
  unfold alive
  refine ⟨Nat.le_trans (List.length_filterMap_le _ _) h1, fun e he => ?_⟩
  obtain ⟨x, hx, e1⟩ := List.mem_filterMap.mp he
  by_cases q : none ∈ x.2
  · rw [if_pos q] at e1; cases e1
  · rw [if_neg q] at e1; cases e1
    rw [List.length_map]; exact h2 x hx
theorem putP_big {h : List (Bun Str)} {c : Str} {E : List EntO} (h1 : E.length ≤ 1000) (h2 : ∀ e ∈ E, e.2.length ≤ 1000) (hs : ∀ b ∈ h, b.2.length ≤ 1000 ∧ ∀ e ∈ b.2, e.2.length ≤ 1000) : (putP h c E).2.length ≤ h.length + 1 ∧ ∀ b ∈ (putP h c E).2, b.2.length ≤ 1000 ∧ ∀ e ∈ b.2, e.2.length ≤ 1000 := by
  unfold putP
  by_cases q1 : alive E = []
  · rw [if_pos q1]; exact ⟨Nat.le_succ _, hs⟩
  · rw [if_neg q1]
    by_cases q2 : (c, alive E) ∈ h
    · rw [if_pos q2]; exact ⟨Nat.le_succ _, hs⟩
    · rw [if_neg q2]
      refine ⟨by simp, fun b hb => ?_⟩
      rcases List.mem_append.mp hb with hb | hb
      · exact hs b hb
      · rw [List.mem_singleton.mp hb]; exact alive_small h1 h2
abbrev Small (bs : List (Bun Str)) : Prop := ∀ b ∈ bs, b.2.length ≤ 1000 ∧ ∀ e ∈ b.2, e.2.length ≤ 1000
theorem stepAt_big {bs : List (Bun Str)} {c : Str} {st : PSt Str} {x : Bun Str × Nat} {m : Nat} (k : Big bs st m) (hx : x.1.2.length ≤ 1000 ∧ ∀ e ∈ x.1.2, e.2.length ≤ 1000) : Big bs (stepAt c st x) (m + 1) := by
  unfold stepAt
  by_cases q : x.1.1 = c
  · rw [if_pos q]
    have := putP_big (h := st.2) (c := c) (E := x.1.2.map fun e => (e.1, e.2.map (fnd st.1))) (by rw [List.length_map]; exact hx.1) (fun e he => by obtain ⟨y, hy, rfl⟩ := List.mem_map.mp he; rw [List.length_map]; exact hx.2 y hy) k.small
    exact ⟨by rw [List.length_set]; exact k.f, Nat.le_trans this.1 (by have := k.h; omega), this.2⟩
  · rw [if_neg q]; exact ⟨k.f, by have := k.h; omega, k.small⟩
theorem steps_big {bs : List (Bun Str)} {c : Str} : ∀ {xs : List (Bun Str × Nat)} {st : PSt Str} {m : Nat}, Big bs st m → (∀ x ∈ xs, x.1.2.length ≤ 1000 ∧ ∀ e ∈ x.1.2, e.2.length ≤ 1000) → Big bs (xs.foldl (stepAt c) st) (m + xs.length)
  | [], _, _, k, _ => k
  | x :: xs, st, m, k, h => by
    have := steps_big (c := c) (xs := xs) (stepAt_big (c := c) k (h x (List.mem_cons_self ..))) fun y hy => h y (List.mem_cons_of_mem _ hy)
    rw [show m + (x :: xs).length = m + 1 + xs.length from by simp; omega]
    exact this
theorem mem_zip {bs : List (Bun Str)} {x : Bun Str × Nat} (h : x ∈ bs.zipIdx) : x.1 ∈ bs := by
  obtain ⟨i, hi⟩ := List.mem_iff_getElem?.mp h
  rw [List.getElem?_zipIdx] at hi
  cases e : bs[i]? with
  | none => rw [e] at hi; cases hi
  | some b => rw [e] at hi; cases hi; exact List.mem_of_getElem? e
theorem cols_big {bs : List (Bun Str)} (hs : Small bs) : ∀ {cs : List Str} {st : PSt Str} {m : Nat}, Big bs st m → Big bs (cs.foldl (colStep bs) st) (m + cs.length * bs.length)
  | [], _, _, k => by simpa using k
  | c :: cs, st, m, k => by
    have k1 := steps_big (c := c) (xs := bs.zipIdx) k fun x hx => hs x.1 (mem_zip hx)
    rw [List.length_zipIdx] at k1
    have := cols_big hs (cs := cs) (st := colStep bs st c) k1
    rw [show m + (c :: cs).length * bs.length = m + bs.length + cs.length * bs.length from by rw [List.length_cons, Nat.add_mul]; omega]
    exact this
theorem start_big (bs : List (Bun Str)) : Big bs (List.replicate bs.length none, []) 0 := ⟨by simp, by simp, fun b h => nomatch h⟩
/-- parts, by the forest and by the columns -/
theorem PartOk.prt {bs : List (Bun Str)} : ∀ {k : Fo Str} {ps : List Nat}, PartOk bs k ps → PrtOk ps k.tops bs
  | .nil, ps, h => by
    have : ps = [] := h
    subst this
    exact ⟨rfl, fun j p c h => by cases h⟩
  | .cons c k r, ps, ⟨p, q, es, e, h1, _, _, h2⟩ => by
    subst e
    have ih := PartOk.prt h2
    refine ⟨by simp [Fo.tops, ih.len], fun j p' c' hp hc => ?_⟩
    cases j with
    | zero => simp [Fo.tops] at hp hc; subst hp hc; exact ⟨es, h1⟩
    | succ j => simp [Fo.tops] at hp hc; exact ih.at' j p' c' hp hc
theorem PrtOk.lt {ps : List Nat} {cs : List Str} {bs : List (Bun Str)} (h : PrtOk ps cs bs) : ∀ p ∈ ps, p < bs.length := fun p hp => by
  obtain ⟨j, hj⟩ := List.mem_iff_getElem?.mp hp
  have hl := (List.getElem?_eq_some_iff.mp hj).1
  rw [h.len] at hl
  obtain ⟨es, hb⟩ := h.at' j p cs[j] hj (List.getElem?_eq_getElem hl)
  exact (List.getElem?_eq_some_iff.mp hb).1
structure FofOk (ps : Prs Str) (F : Fo Str) (bs : List (Bun Str)) (rs : List Nat) : Prop where
  tr : TreeOk ps F
  wf : WF F bs
  pt : PartOk bs F rs
  len : bs.length ≤ 1000
  small : Small bs
theorem FofOk.bun {ps : Prs Str} {F : Fo Str} {bs : List (Bun Str)} {rs : List Nat} (k : FofOk ps F bs rs) {b : Bun Str} (h : b ∈ bs) : BunOk ps F b bs := by
  obtain ⟨j, h1, h2, h3⟩ := k.wf b h
  exact ⟨h1.mem, h2, fun e he => by rw [← k.tr.sh.kids _ _ h1]; exact (h3 e he).prt⟩
theorem FofOk.top {ps : Prs Str} {F : Fo Str} {bs : List (Bun Str)} {rs : List Nat} (k : FofOk ps F bs rs) : PrtOk rs (Kids ps none) bs := by
  rw [← k.tr.sh.tops]; exact k.pt.prt
theorem tops_le {N : Type} : ∀ F : Fo N, F.tops.length ≤ F.order.length
  | .nil => Nat.le_refl _
  | .cons c k r => by have := tops_le r; simp [Fo.tops, Fo.order]; omega
theorem FofOk.fld {ps : Prs Str} {F : Fo Str} {bs : List (Bun Str)} {rs : List Nat} (k : FofOk ps F bs rs) : FldOk (foldPool F.order bs).2 (some (rs.map (fnd (foldPool F.order bs).1))) := by
  have sem := foldOf_sem (n := 8) k.tr.sh.nd k.wf k.pt k.tr.dep
  have big := cols_big k.small (cs := F.order.reverse) (start_big bs)
  have few := k.tr.few
  have len := k.len
  refine ⟨fun T e => ?_, fun T e => ?_, ?_, big.small⟩
  · cases e
    by_cases h : none ∈ rs.map (fnd (foldPool F.order bs).1)
    · exact .inl h
    · exact .inr fun t ht => (sem.2 t ht).resolve_left h
  · cases e
    rw [List.length_map, k.top.len, ← k.tr.sh.tops]
    have := tops_le F
    omega
  · have h1 := big.h
    rw [List.length_reverse] at h1
    have h2 : F.order.length * bs.length ≤ 8 * 1000 := Nat.mul_le_mul few len
    show (F.order.reverse.foldl (colStep bs) (List.replicate bs.length none, [])).2.length < 100000
    omega
section
variable {P : Program} {w : World} {K : PySem.W.Frag} {mg : Str → Option Value} {base : Heap}
abbrev FofI : Type := Prs Str × Fo Str × List (Bun Str) × List Nat
abbrev sp_fold_of (P : Program) (w : World) (K : PySem.W.Frag) : Sp := spP (fun i : FofI => FofOk i.1 i.2.1 i.2.2.1 i.2.2.2) (fun i => [rTree P w K i.1 i.2.1, rD (bunsD i.2.2.1), rD (prtD i.2.2.2)]) fun i => rFold P w K i.1 i.2.1 (foldOfP 8 i.2.1 i.2.2.1 i.2.2.2).1 (foldOfP 8 i.2.1 i.2.2.1 i.2.2.2).2
theorem c_fold_of (W : Wo K mg base) : Cal P w K mg base 11 "fold_of" (sp_fold_of P w K) [] := by
  have c_is_bunch := c_is_bunch (P := P) (w := w) W
  have c_is_part := c_is_part (P := P) (w := w) W
  have c_at_places := c_at_places (P := P) (w := w) W
  have c_Tree_columns := c_Tree_columns (P := P) (w := w) W
  have c_Tree_children0 := c_Tree_children0 (P := P) (w := w) W
  have c_Pool := c_Pool (P := P) (w := w) W
  have c_Pool_put := c_Pool_put (P := P) (w := w) W
  have c_Pool_fold := c_Pool_fold (P := P) (w := w) W
  refine cal_of (f_fold_of W) (g_fold_of W) b_fold_of sc_fold_of (fun _ _ => rfl) fun cdv A' outer s H E hr => ⟨_, (pss_cons (ps_if (pt_not (pt_val (pe_callB (kCall K rIsi call_isi) (by rfl) (n_isinstance W) PyProof.Rows.boot_isinstance (pa_cons (pv 1) (pa_cons (pe_bltn (v := .ty "list") rfl (n_list W) PyProof.Rows.boot_list rfl) pa_nil))))) (pss_one ps_never) pss_nil)
    (pss_cons (ps_for PassesOwn.never rfl (pi_enumK K rfl (n_enumerate W) (pa_cons (pv 1) pa_nil)) (pg_tupK K rfl (pgs_cons (pg_name (i := 7) sc_fold_of.nd rfl (by first | exact Or.inl rfl | exact Or.inr rfl)) (pgs_cons (pg_name (i := 8) sc_fold_of.nd rfl (by first | exact Or.inl rfl | exact Or.inr rfl)) pgs_nil))) (pss_one (ps_if (pt_not (pt_val (C8.pe_c c_is_bunch hr (by first | decide | omega) rfl (pa_cons (pv 0) (pa_cons (pv 8) (pa_cons (pv 1) pa_nil)))))) (pss_one ps_never) pss_nil)))
    (pss_cons (ps_set (i := 3) sc_fold_of.nd rfl (by first | exact Or.inl rfl | exact Or.inr rfl) (C8.pe_mt0 c_Tree_children0 hr (by decide) (pv 0)))
    (pss_cons (ps_if (PW.pt (pw_and (pt_cmp (pc_notN (pv 2))) (pw_and1 (pt_not (pt_val (C8.pe_c c_is_part hr (by first | decide | omega) rfl (pa_cons (pv 2) (pa_cons (pv 3) (pa_cons (pe_callB (kCall K rLenV call_len) (by rfl) (n_len W) PySem.boot_len (pa_cons (pv 3) pa_nil)) (pa_cons (pv 1) pa_nil)))))))))) (pss_one ps_never) pss_nil)
    (pss_cons (ps_set (i := 4) sc_fold_of.nd rfl (by first | exact Or.inl rfl | exact Or.inr rfl) (C8.pe_mk c_Pool hr (by decide) rfl (pa_cons (pv 0) pa_nil)))
    (pss_cons (ps_set (i := 5) sc_fold_of.nd rfl (by first | exact Or.inl rfl | exact Or.inr rfl) (pe_op op_rep (pe_lst (pa_cons pe_non pa_nil)) (pe_callB (kCall K rLenV call_len) (by rfl) (n_len W) PySem.boot_len (pa_cons (pv 1) pa_nil))))
    (pss_cons (ps_for PassesOwn.never rfl (pi_reversedK K rfl (n_reversed W) (pa_cons (C8.pe_mt0 c_Tree_columns hr (by decide) (pv 0)) pa_nil)) (pg_name (i := 6) sc_fold_of.nd rfl (by first | exact Or.inl rfl | exact Or.inr rfl)) (pss_one (ps_for PassesOwn.never rfl (pi_enumK K rfl (n_enumerate W) (pa_cons (pv 1) pa_nil)) (pg_tupK K rfl (pgs_cons (pg_name (i := 7) sc_fold_of.nd rfl (by first | exact Or.inl rfl | exact Or.inr rfl)) (pgs_cons (pg_tupK K rfl (pgs_cons (pg_name (i := 9) sc_fold_of.nd rfl (by first | exact Or.inl rfl | exact Or.inr rfl)) (pgs_cons (pg_name (i := 10) sc_fold_of.nd rfl (by first | exact Or.inl rfl | exact Or.inr rfl)) pgs_nil))) pgs_nil))) (pss_one (ps_if (pt_cmpR op_eq (pv 9) (pv 6) (nomark _)) (pss_one (ps_asg (C8.pe_mt c_Pool_put hr (by first | decide | omega) (pv 4) (pa_cons (pv 6) (pa_cons (pe_lc (own := [("value", 11), ("parts", 12)]) (g := (gTup K 2 (gCons (gName 11) (gCons (gName 12) gNil)))) rfl sc_fold_of.nd (pi_listK K (pv 10)) (blkOk_by (own := [("value", 11), ("parts", 12)]) (N := N_fold_of) (sc := defScope s_fold_of) (by decide +kernel)) (fun _ _ _ _ _ => (pg_tupK K rfl (pgs_cons (pg_name (i := 11) sc_fold_of.nd rfl (by first | exact Or.inl rfl | exact Or.inr rfl)) (pgs_cons (pg_name (i := 12) sc_fold_of.nd rfl (by first | exact Or.inl rfl | exact Or.inr rfl)) pgs_nil)))) (fun _ _ _ _ _ => pts_nil) (fun _ _ _ _ _ => (pe_tup (pa_cons (pv 11) (pa_cons (C8.pe_c c_at_places hr (by first | decide | omega) rfl (pa_cons (pv 5) (pa_cons (pv 12) pa_nil))) pa_nil))))) pa_nil))) (pg_sub (pv 5) (pv 7) set_list))) pss_nil)))))
    (pss_cons (ps_if (pt_cmp (pc_isN (pv 2))) (pss_one (ps_ret (C8.pe_mt c_Pool_fold hr (by first | decide | omega) (pv 4) (pa_cons pe_non pa_nil)))) pss_nil)
    (pss_one (ps_ret (C8.pe_mt c_Pool_fold hr (by first | decide | omega) (pv 4) (pa_cons (C8.pe_c c_at_places hr (by first | decide | omega) rfl (pa_cons (pv 5) (pa_cons (pv 2) pa_nil))) pa_nil)))))))))))), ?_⟩
  rintro ⟨ps, T, bs, rs⟩ F D0 Q ok q
  simp only at ok q
  have tr := ok.tr
  have hz := ok.len
  have few := tr.few
  have fld := ok.fld
  let G0 : Gm := [some (rTree P w K ps T), some (rD (bunsD bs)), some (rD (prtD rs))]
  refine sq_no (Tg.to (tg_not (tg_B (eg_cb (ag_cons (eg_var rfl) (ag_cons eg_cv ag_nil)) (cg_isi (b := true) kt_ll)))) rfl) ?_
  refine sq_for (ι := Unit) (ig_enumX (xs := bs) (ag_cons (eg_var rfl) ag_nil)) (fun _ _ => True) (fun _ _ => [some (rTree P w K ps T), some (rD (bunsD bs)), some (rD (prtD rs)), none, none, none, none, none, none, none, none, none, none]) (fun _ _ => F) ⟨(), trivial, Less.refl _, rfl⟩ (fun _ _ _ _ => trivial) ?_ ?_
  · rintro i _ R D1 N hi e1 _ ⟨b, hx, rfl⟩ kN
    refine ⟨_, _, tgt_tup (tgs_cons tgt_name (tgs_cons tgt_name tgs_nil)) rfl, ?_⟩
    refine go_no (Tg.to (tg_not (tg_B (eg_callP (ps, T, b, bs) ⟨tr, ok.bun (List.mem_of_getElem? hx)⟩ (ag_cons (eg_var rfl) (ag_cons (eg_var rfl) (ag_cons (eg_var rfl) ag_nil))) rfl))) rfl) ((kN () trivial).less (less_of rfl fun i h => ?_))
    match i with
    | 0 => exact .inr rfl
    | 1 => exact .inr rfl
    | 2 => exact .inr rfl
    | 3 => exact .inl rfl
    | 4 => exact .inl rfl
    | 5 => exact .inl rfl
    | 6 => exact .inl rfl
    | 7 => exact .inl rfl
    | 8 => exact .inl rfl
    | 9 => exact .inl rfl
    | 10 => exact .inl rfl
    | 11 => exact .inl rfl
    | 12 => exact .inl rfl
    | i + 13 => exact absurd h (by show ¬ i + 13 < 13; omega)
  · intro _ _
    refine sq_asg (eg_methP (ps, T, none) ⟨tr, fun c' e => nomatch e⟩ (eg_var rfl) (ins_obj rfl) ag_nil (Ds := [rD .none]) (fun _ => .cons .non .nil) rfl) ?_
    refine sq_no (Tg.to (tg_and (tg_test (eg_notN (b := false) (eg_var rfl) fun D v hv => by obtain ⟨a, vs, rfl, _⟩ := tup_rD hv; rfl)) fun _ => tg_not (tg_B (eg_callP (rs, Kids ps none, bs) ok.top (ag_cons (eg_var rfl) (ag_cons (eg_var rfl) (ag_cons (Eg.to (eg_cb (ag_cons (eg_var rfl) ag_nil) cg_lenD) (by rw [List.length_map])) (ag_cons (eg_var rfl) ag_nil)))) rfl))) rfl) ?_
    refine sq_asgX (eg_make (F := F) (As := [rTree P w K ps T]) (Ds := []) (flds := fun (k : Addr × Addr) => polF P w K ps T k.1 k.2) (Lr := fun k => wNum P w k.1 [] :: wHeld k.2 [] :: F) (ps, T) (fun x dx => trivial) (ag_cons (eg_var rfl) ag_nil) (fun _ => .nil) (fun _ _ => rfl) (fun _ _ => rfl) (fun _ _ _ _ => rfl) fun _ _ _ => rfl) fun ⟨pn, ph⟩ _ => ?_
    refine sq_newRep (ag_cons eg_non ag_nil) (eg_cb (ag_cons (eg_var rfl) ag_nil) cg_lenD) (by omega) (by rw [List.length_map]; omega) fun pf => ?_
    have ef : (List.replicate ((bs.map bunD).length : Int).toNat (rD .none)) = (List.replicate bs.length (none : Option Nat)).map fun x => rD (optN x) := by rw [List.map_replicate]; simp [optN]
    rw [ef]
    refine Go.pre (L' := wNum P w pn [] :: wHeld ph [] :: wFnd pf (List.replicate bs.length none) :: F) (fun D H h => ⟨D, Ex.refl D, h.rot3.rot3⟩) ?_
    refine sq_forL (G := gT) T.order.reverse (fun z => rD (.str z)) ((ig_revX (f := .str) (ag_cons (eg_methP (ps, T, ()) ⟨tr, trivial⟩ (eg_var rfl) (ins_obj rfl) ag_nil (fun _ => .nil) rfl) ag_nil)).to (by rw [List.length_reverse]) fun i R _ y => ⟨R, y, fun _ _ h => h⟩) (fun i R y => y)
      (fun _ => [some (rTree P w K ps T), some (rD (bunsD bs)), some (rD (prtD rs)), some (rD (strL (Kids ps none))), some (rPool P w K ps T pn ph), some (rV (.ref pf)), none, none, none, none, none, none, none])
      (fun a => wNum P w pn (a.foldl (colStep bs) (List.replicate bs.length none, [])).2 :: wHeld ph (a.foldl (colStep bs) (List.replicate bs.length none, [])).2 :: wFnd pf (a.foldl (colStep bs) (List.replicate bs.length none, [])).1 :: F) (Less.refl _) rfl (fun _ => trivial) (fun a c b D1 N he e1 kN => ?_) ?_
    · have ba := cols_big ok.small (cs := a) (start_big bs)
      have al : a.length * bs.length ≤ 8 * 1000 := Nat.mul_le_mul (by
        have := congrArg List.length he
        rw [List.length_reverse, List.length_append] at this
        omega) hz
      rw [List.foldl_append] at kN
      simp only [List.foldl_cons, List.foldl_nil] at kN
      generalize a.foldl (colStep bs) (List.replicate bs.length none, []) = st at ba kN ⊢
      refine ⟨_, _, tgt_name, ?_⟩
      refine go_forL (G := gT) bs.zipIdx (fun x => rTup [rD (.int (x.2 : Int)), rD (bunD x.1)]) ((ig_enumX (xs := bs) (ag_cons (eg_var rfl) ag_nil)).to (by rw [List.length_zipIdx]) fun i R _ ⟨x, hx, hR⟩ => ⟨R, ⟨(x, i), by rw [List.getElem?_zipIdx, hx]; simp, hR⟩, fun _ _ h => h⟩) (fun i R y => y)
        (fun _ => [some (rTree P w K ps T), some (rD (bunsD bs)), some (rD (prtD rs)), some (rD (strL (Kids ps none))), some (rPool P w K ps T pn ph), some (rV (.ref pf)), some (rD (.str c)), none, none, none, none, none, none])
        (fun a => wNum P w pn (a.foldl (stepAt c) st).2 :: wHeld ph (a.foldl (stepAt c) st).2 :: wFnd pf (a.foldl (stepAt c) st).1 :: F) (Less.refl _) rfl (fun _ => trivial) (fun a2 x b2 D2 N2 he2 e2 kN2 => ?_) (kN.less (less_of rfl fun i h => ?_))
      · have mx : x ∈ bs.zipIdx := by rw [he2]; simp
        have m2 : ∀ y ∈ a2, y ∈ bs.zipIdx := fun y hy => by rw [he2]; simp [hy]
        have bb := steps_big (c := c) (xs := a2) ba fun y hy => ok.small y.1 (mem_zip (m2 y hy))
        have l2 : a2.length ≤ bs.length := by
          have := congrArg List.length he2
          rw [List.length_zipIdx, List.length_append] at this
          omega
        rw [List.foldl_append] at kN2
        simp only [List.foldl_cons, List.foldl_nil] at kN2
        generalize a2.foldl (stepAt c) st = st' at bb kN2 ⊢
        have hx1 : bs[x.2]? = some x.1 := by
          obtain ⟨j, hj⟩ := List.mem_iff_getElem?.mp mx
          rw [List.getElem?_zipIdx] at hj
          cases e : bs[j]? with
          | none => rw [e] at hj; cases hj
          | some b => rw [e] at hj; cases hj; simpa using e
        obtain ⟨⟨nm, es⟩, i⟩ := x
        simp only at hx1
        have hb := List.mem_of_getElem? hx1
        have sm := ok.small _ hb
        have bo := ok.bun hb
        have sl : es.length ≤ 1000 := sm.1
        refine ⟨_, _, tgt_tup (tgs_cons tgt_name (tgs_cons (tgt_tupD (ds := [.str nm, .list (es.map entD)]) (tgs_cons tgt_name (tgs_cons tgt_name tgs_nil)) rfl) tgs_nil)) rfl, ?_⟩
        refine go_if (b := decide (nm = c)) (tg_test (eg_op (eg_var rfl) (eg_var rfl) og_eqS)) (fun e => ?_) (fun e => ?_)
        · have e' : nm = c := of_decide_eq_true e
          subst e'
          have es1 : stepAt nm st' ((nm, es), i) = (st'.1.set i (putP st'.2 nm (es.map fun e => (e.1, e.2.map (fnd st'.1)))).1, (putP st'.2 nm (es.map fun e => (e.1, e.2.map (fnd st'.1)))).2) := if_pos rfl
          rw [es1] at kN2
          refine go_setL (R := rD (optN (putP st'.2 nm (es.map fun e => (e.1, e.2.map (fnd st'.1)))).1)) (k := i) (j := 2) ((xg_meth (F := wFnd pf st'.1 :: F) (ps, T, pn, ph, st'.2, nm, es.map fun e => (e.1, e.2.map (fnd st'.1))) ⟨by have := bb.h; show st'.2.length < 100000; omega, by show (es.map _).length < 100000; rw [List.length_map]; omega⟩ (eg_var rfl) (ins_obj rfl) (ag_cons (eg_var rfl) (ag_cons (Eg.to (eg_lcA (L1 := wNum P w pn st'.2 :: wHeld ph st'.2 :: wFnd pf st'.1 :: F) es (ig_listX (f := entD) (eg_var rfl)) (by omega) (fun _ => trivial) (fun e => entOD (e.1, e.2.map (fnd st'.1))) fun j e he R ⟨y, hy, hR⟩ => ?_) (by rw [List.map_map]; rfl)) ag_nil)) (fun _ => .nil) rfl).eg _ _ fun _ _ => ⟨fun _ _ r => r, rfl⟩) (eg_var rfl) (eg_var rfl) rfl ?_ ?_
          · subst hR
            rw [he] at hy; cases hy
            have me := List.mem_of_getElem? he
            refine ⟨_, _, tgt_tupD (ds := [.int e.1, prtD e.2]) (tgs_cons tgt_name (tgs_cons tgt_name tgs_nil)) rfl, by simp, fun Fr => Eg.tup (ds := [.int e.1, .tuple ((e.2.map (fnd st'.1)).map optN)]) (eg_tup (ag_cons (eg_var rfl) (ag_cons (Eg.words (L' := wFnd pf st'.1 :: wNum P w pn st'.2 :: wHeld ph st'.2 :: (F ++ Fr)) ((xg_call (pf, st'.1, e.2) ⟨fun p hp => by show p < st'.1.length; rw [bb.f]; exact (bo.at' e me).lt p hp, sm.2 e me⟩ (ag_cons (eg_var rfl) (ag_cons (eg_var rfl) ag_nil)) (fun _ => .nil) rfl).eg _ _ fun _ _ => ⟨fun _ _ r => r, rfl⟩) (fun D H h => h.rot3) (fun D H h => h.rot3.rot3)) ag_nil)) (by simp))⟩
          · rw [List.length_map, bb.f]; exact (List.getElem?_eq_some_iff.mp hx1).1
          · have ew : mL pf ((st'.1.map fun x => rD (optN x)).set i (rD (optN (putP st'.2 nm (es.map fun e => (e.1, e.2.map (fnd st'.1)))).1))) = wFnd pf (st'.1.set i (putP st'.2 nm (es.map fun e => (e.1, e.2.map (fnd st'.1)))).1) := by unfold wFnd; rw [List.map_set]
            show Go _ _ (wNum P w pn _ :: wHeld ph _ :: mL pf ((st'.1.map fun x => rD (optN x)).set i (rD (optN (putP st'.2 nm (es.map fun e => (e.1, e.2.map (fnd st'.1)))).1))) :: F) _
            rw [ew]
            refine kN2.less (less_of rfl fun i h => ?_)
            match i with
            | 0 => exact .inr rfl
            | 1 => exact .inr rfl
            | 2 => exact .inr rfl
            | 3 => exact .inr rfl
            | 4 => exact .inr rfl
            | 5 => exact .inr rfl
            | 6 => exact .inr rfl
            | 7 => exact .inl rfl
            | 8 => exact .inl rfl
            | 9 => exact .inl rfl
            | 10 => exact .inl rfl
            | 11 => exact .inl rfl
            | 12 => exact .inl rfl
            | i + 13 => exact absurd h (by show ¬ i + 13 < 13; omega)
        · have ne : ¬ nm = c := of_decide_eq_false e
          have es1 : stepAt c st' ((nm, es), i) = st' := if_neg ne
          rw [es1] at kN2
          refine go_next (kN2.less (less_of rfl fun i h => ?_))
          match i with
          | 0 => exact .inr rfl
          | 1 => exact .inr rfl
          | 2 => exact .inr rfl
          | 3 => exact .inr rfl
          | 4 => exact .inr rfl
          | 5 => exact .inr rfl
          | 6 => exact .inr rfl
          | 7 => exact .inl rfl
          | 8 => exact .inl rfl
          | 9 => exact .inl rfl
          | 10 => exact .inl rfl
          | 11 => exact .inl rfl
          | 12 => exact .inl rfl
          | i + 13 => exact absurd h (by show ¬ i + 13 < 13; omega)
      · match i with
        | 0 => exact .inr rfl
        | 1 => exact .inr rfl
        | 2 => exact .inr rfl
        | 3 => exact .inr rfl
        | 4 => exact .inr rfl
        | 5 => exact .inr rfl
        | 6 => exact .inl rfl
        | 7 => exact .inl rfl
        | 8 => exact .inl rfl
        | 9 => exact .inl rfl
        | 10 => exact .inl rfl
        | 11 => exact .inl rfl
        | 12 => exact .inl rfl
        | i + 13 => exact absurd h (by show ¬ i + 13 < 13; omega)
    · have big := cols_big ok.small (cs := T.order.reverse) (start_big bs)
      show Go D0 _ (wNum P w pn (foldPool T.order bs).2 :: wHeld ph (foldPool T.order bs).2 :: wFnd pf (foldPool T.order bs).1 :: F) _
      have bf : (foldPool T.order bs).1.length = bs.length := big.f
      have few2 : rs.length ≤ 1000 := by
        rw [ok.top.len, ← tr.sh.tops]
        have := tops_le T
        omega
      unfold foldOfP at q
      generalize foldPool T.order bs = st at fld bf q ⊢
      refine sq_no (tg_test (eg_isN (b := false) (eg_var rfl) fun D v hv => by obtain ⟨a, vs, rfl, _⟩ := tup_rD hv; rfl)) ?_
      refine go_ret ((xg_meth (F := wFnd pf st.1 :: wNum P w pn st.2 :: F) (ps, T, pn, ph, st.2, some (rs.map (fnd st.1))) fld (eg_var rfl) (ins_obj rfl) (ag_cons (Eg.words (L' := wFnd pf st.1 :: wNum P w pn st.2 :: wHeld ph st.2 :: F) ((xg_call (pf, st.1, rs) ⟨fun p hp => by show p < st.1.length; rw [bf]; exact ok.top.lt p hp, few2⟩ (ag_cons (eg_var rfl) (ag_cons (eg_var rfl) ag_nil)) (fun _ => .nil) rfl).eg _ _ fun _ _ => ⟨fun _ _ r => r, rfl⟩) (fun D H h => h.rot3) (fun D H h => h.rot3)) ag_nil) (fun _ => .nil) rfl).eg _ _ fun _ _ => ⟨fun _ _ r => r, rfl⟩) fun v D H e hd r => q v D H () e trivial hd.tail.tail r
end
end Fb

namespace Fb
open PySem PySem.Spec L2 Evl
open C8 (Cal Met Mak)
section
variable {P : Program} {w : World} {K : PySem.W.Frag} {mg : Str → Option Value} {base : Heap}
theorem flat_strs {zs : List Str} : (zs.map PyData.str).all flatD = true := by
  rw [List.all_eq_true]
  intro v hv
  obtain ⟨d, _, rfl⟩ := List.mem_map.mp hv
  rfl
/-- a name in a list of names -/
theorem og_inS {L : List Wd} {z : Str} {zs : List Str} : Og (rIn K false) (rD (.str z)) (rD (strL zs)) L (rD (.bool (decide (z ∈ zs)))) L := by
  have := og_in (K := K) (L := L) (neg := false) (d := .str z) (ds := zs.map .str) rfl flat_strs
  rw [List.map_map, show (toV (.str z)) = V.str z from rfl, show (toV ∘ PyData.str) = V.str from rfl, inV_str] at this
  exact this
abbrev VinI : Type := List Str × List Str × Row
abbrev sp_values_in : Sp := spP (fun i : VinI => i.1.length = i.2.2.length ∧ i.1.length ≤ 100) (fun i => [rD (strL i.1), rD (strL i.2.1), rD (tupI i.2.2)]) fun i => rD (tupI (valuesIn i.1 i.2.1 i.2.2))
theorem c_values_in (W : Wo K mg base) : Cal P w K mg base 1 "values_in" sp_values_in [] := by
  refine cal_of (f_values_in W) (g_values_in W) b_values_in sc_values_in (fun _ _ => rfl) fun cdv A' outer s H E hr => ⟨_, (pss_one (ps_ret (pe_callTy (kCall K rTupOf call_tuple_of) (by rfl) (n_tuple W) PyProof.Rows.boot_tuple (pa_cons (pe_lc (own := [("name", 3), ("value", 4)]) (g := (gTup K 2 (gCons (gName 3) (gCons (gName 4) gNil)))) rfl sc_values_in.nd (pi_zip2 true false rfl (n_zip W) (pa_cons (pv 0) (pa_cons (pv 2) pa_nil))) (blkOk_by (own := [("name", 3), ("value", 4)]) (N := N_values_in) (sc := defScope s_values_in) (by decide +kernel)) (fun _ _ _ _ _ => (pg_tupK K rfl (pgs_cons (pg_name (i := 3) sc_values_in.nd rfl (by first | exact Or.inl rfl | exact Or.inr rfl)) (pgs_cons (pg_name (i := 4) sc_values_in.nd rfl (by first | exact Or.inl rfl | exact Or.inr rfl)) pgs_nil)))) (fun _ _ _ _ _ => (pts_one (pt_cmpR (kOp K (fun K => rIn K false) op_in_seq) (pv 3) (pv 1) (by rfl)))) (fun _ _ _ _ _ => (pv 4))) pa_nil)))), ?_⟩
  rintro ⟨cs, ns, r⟩ F D0 Q ⟨hl, hz⟩ q
  simp only at hl hz
  have hzl : (cs.zip r).length = cs.length := by rw [List.length_zip]; omega
  refine go_ret (Eg.to (eg_cb (ag_cons (eg_lcD (L1 := F) (cs.zip r) ((ig_zip2 (k1 := true) (k2 := false) (Rs := (cs.map PyData.str).map rD) (Ss := (r.map PyData.int).map rD) (ag_cons (Eg.imp (eg_var rfl) fun D v => lst_rD) (ag_cons (Eg.imp (eg_var rfl) fun D v => tup_rD) ag_nil)) (by simp [hl])).to (by simp [hzl]) fun i R _ y => ⟨R, y, fun _ _ h => h⟩) (by omega) (fun _ => trivial) (fun p => decide (p.1 ∈ ns)) (fun p => .int p.2) fun i p hp R ⟨R1, R2, h1, h2, hR⟩ => ?_) ag_nil) cg_tupD) (by unfold valuesIn tupI; rw [List.map_map]; rfl)) fun v D H e hd r => q v D H () e trivial hd r
  subst hR
  obtain ⟨c, v⟩ := p
  have hc := List.getElem?_zip_eq_some.mp hp
  rw [List.getElem?_map, List.getElem?_map, hc.1] at h1
  rw [List.getElem?_map, List.getElem?_map, hc.2] at h2
  cases h1; cases h2
  exact ⟨_, _, tgt_tup (tgs_cons tgt_name (tgs_cons tgt_name tgs_nil)) rfl, by simp, fun Fr => tg_test (eg_op (eg_var rfl) (eg_var rfl) og_inS), fun _ Fr => eg_var rfl⟩
def optI : Option Int → PyData
  | none => .none
  | some n => .int n
theorem cg_int1 {L : List Wd} {b : Bool} : Cg (fun (xs : List V) (H : Hp) (Q : VK) => (∃ i, xs = [.int i] ∧ Q (.int i) H) ∨ ∃ k, xs = [.bl k] ∧ Q (.int (if k then 1 else 0)) H) [rD (.bool b)] L (rD (.int (if b then 1 else 0))) L := fun xs D H hd r Q q => by
  cases r with
  | cons a t =>
    cases t
    rw [bl_of a]
    exact .inr ⟨b, rfl, q _ D H (Ex.refl D) hd (.int _)⟩
abbrev nonesD (n : Nat) : PyData := .tuple (List.replicate n .none)
abbrev sp_mixed : Sp := spP (fun i : VinI => i.1.length = i.2.2.length ∧ i.1.length ≤ 100) (fun i => [rD (strL i.1), rD (strL i.2.1), rD (tupI i.2.2), rD (nonesD i.2.2.length)]) fun i => rD (.tuple ((outOf i.1 i.2.1 i.2.2).map optI))
theorem c_mixed (W : Wo K mg base) : Cal P w K mg base 1 "mixed" sp_mixed [] := by
  refine cal_of (f_mixed W) (g_mixed W) b_mixed sc_mixed (fun _ _ => rfl) fun cdv A' outer s H E hr => ⟨_, (pss_one (ps_ret (pe_callTy (kCall K rTupOf call_tuple_of) (by rfl) (n_tuple W) PyProof.Rows.boot_tuple (pa_cons (pe_lc (own := [("name", 4), ("mine", 5), ("its", 6)]) (g := (gTup K 3 (gCons (gName 4) (gCons (gName 5) (gCons (gName 6) gNil))))) rfl sc_mixed.nd (pi_zip3 rfl (n_zip W) (pa_cons (pv 0) (pa_cons (pv 2) (pa_cons (pv 3) pa_nil)))) (blkOk_by (own := [("name", 4), ("mine", 5), ("its", 6)]) (N := N_mixed) (sc := defScope s_mixed) (by decide +kernel)) (fun _ _ _ _ _ => (pg_tupK K rfl (pgs_cons (pg_name (i := 4) sc_mixed.nd rfl (by first | exact Or.inl rfl | exact Or.inr rfl)) (pgs_cons (pg_name (i := 5) sc_mixed.nd rfl (by first | exact Or.inl rfl | exact Or.inr rfl)) (pgs_cons (pg_name (i := 6) sc_mixed.nd rfl (by first | exact Or.inl rfl | exact Or.inr rfl)) pgs_nil))))) (fun _ _ _ _ _ => pts_nil) (fun _ _ _ _ _ => (pe_ix (kIx K rIxL ix_list) (pe_lst (pa_cons (pv 5) (pa_cons (pv 6) pa_nil))) (pe_callTy call_int1 (by rfl) (n_int W) PyProof.Rows.boot_int (pa_cons (pe_cmpR (kOp K (fun K => rIn K false) op_in_seq) (pv 4) (pv 1) (by rfl)) pa_nil)) fun _ _ => rfl))) pa_nil)))), ?_⟩
  rintro ⟨cs, ns, r⟩ F D0 Q ⟨hl, hz⟩ q
  simp only at hl hz
  have hzl : (cs.zip r).length = cs.length := by rw [List.length_zip]; omega
  refine go_ret (Eg.to (eg_cb (ag_cons (eg_lcA (L1 := F) (cs.zip r) ((ig_zip3 (Rs := (cs.map PyData.str).map rD) (Ss := (r.map PyData.int).map rD) (Ts := (List.replicate r.length PyData.none).map rD) (ag_cons (Eg.imp (eg_var rfl) fun D v => lst_rD) (ag_cons (Eg.imp (eg_var rfl) fun D v => tup_rD) (ag_cons (Eg.imp (eg_var rfl) fun D v => tup_rD) ag_nil))) (by simp [hl]) (by simp [hl])).to (by simp [hzl]) fun i R _ y => ⟨R, y, fun _ _ h => h⟩) (by omega) (fun _ => trivial) (fun p => optI (if p.1 ∈ ns then none else some p.2)) fun i p hp R ⟨R1, R2, R3, h1, h2, h3, hR⟩ => ?_) ag_nil) cg_tupD) (by unfold outOf; rw [List.map_map]; rfl)) fun v D H e hd r => q v D H () e trivial hd r
  subst hR
  obtain ⟨c, v⟩ := p
  have hc := List.getElem?_zip_eq_some.mp hp
  have hi := (List.getElem?_eq_some_iff.mp hc.2).1
  rw [List.getElem?_map, List.getElem?_map, hc.1] at h1
  rw [List.getElem?_map, List.getElem?_map, hc.2] at h2
  rw [List.getElem?_map, List.getElem?_replicate, if_pos hi] at h3
  cases h1; cases h2; cases h3
  refine ⟨_, _, tgt_tup (tgs_cons tgt_name (tgs_cons tgt_name (tgs_cons tgt_name tgs_nil))) rfl, by simp, fun Fr => eg_op (eg_lst (Rs := [rD (.int v), rD .none]) (ag_cons (eg_var rfl) (ag_cons (eg_var rfl) ag_nil)) (by simp)) (eg_cb (ag_cons (eg_op (eg_var rfl) (eg_var rfl) og_inS) ag_nil) cg_int1) (og_ixL ?_)⟩
  by_cases h : c ∈ ns
  · simp only [decide_eq_true h, if_pos h]
    rfl
  · simp only [decide_eq_false h, if_neg h]
    rfl
end
end Fb

namespace Fb
open PySem PySem.Spec L2 Evl
open C8 (Cal Met Mak)
theorem dd_map_inj {α β : Type} [DecidableEq α] [DecidableEq β] {f : α → β} (h : ∀ a b, f a = f b → a = b) : ∀ l : List α, dd (l.map f) = (dd l).map f
  | [] => rfl
  | a :: l => by
    rw [List.map_cons, dd, dd, dd_map_inj h l, List.map_cons, List.filter_map]
    congr 2
    apply List.filter_congr
    intro b _
    by_cases e : b = a
    · subst e; simp
    · have : f b ≠ f a := fun q => e (h b a q)
      simp [e, this]
theorem dd_snoc {α : Type} [DecidableEq α] (l : List α) (a : α) : dd (l ++ [a]) = if a ∈ l then dd l else dd l ++ [a] := by
  rw [dd_append]
  by_cases h : a ∈ l
  · simp [dd, h]
  · simp [dd, h]
theorem look_mem {ks : List (NestedKey × Rp)} {k : NestedKey} : (lookR ks k).isSome = decide (k ∈ ks.map (·.1)) := by
  unfold lookR
  induction ks with
  | nil => rfl
  | cons a r ih =>
    rw [List.find?_cons]
    by_cases e : a.1 = k
    · subst e; simp
    · simp only [decide_eq_false e]
      rw [ih]
      simp [e, Ne.symm e, eq_comm]
theorem go_sdefN {P : Program} {w : World} {X : Cx} {Γ : Gm} {L : List Wd} {R : Rp} {tk td tv : TE} {D0 : Hp} {j : Nat} {E : Ends} {p : Addr} {ks : List (NestedKey × Rp)} {qs : List (Addr × List Rp)} {k : NestedKey} (hP : X.prog = P) (hw : X.w = w) (ho : Eg td Γ L (rV (.ref p)) L) (hj : L[j]? = some (wDN P w p ks qs)) (hk : Eg tk Γ L (rD k.data) L) (hv : Eg tv Γ L R L) (ht : isTup k = true) (hd8 : k.depth ≤ 8) (hz : ks.length < 100000)
    (kk : Go D0 Γ (L.set j (wDN P w p (putR ks k R) qs)) E.nx) : Go D0 Γ L (tDrop (tSetDefN X td tk tv) E) := sq_sdefN (u := fun E => E.nx) hP hw ho hj hk hv ht hd8 hz kk
/-- what setdefault leaves -/
def sdefs {α : Type} (key : α → NestedKey) (val : α → Rp) (l : List α) : List (NestedKey × Rp) := l.foldl (fun ks x => putR ks (key x) (val x)) []
theorem sdefs_snoc {α : Type} {key : α → NestedKey} {val : α → Rp} {l : List α} {x : α} : sdefs key val (l ++ [x]) = putR (sdefs key val l) (key x) (val x) := by
  unfold sdefs; rw [List.foldl_append]; rfl
theorem sdefs_keys {α : Type} {key : α → NestedKey} {val : α → Rp} : ∀ (n : Nat) (l : List α), l.length = n → (sdefs key val l).map (·.1) = dd (l.map key)
  | 0, l, h => by rw [List.eq_nil_of_length_eq_zero h]; rfl
  | n + 1, l, h => by
    obtain ⟨r, x, rfl⟩ : ∃ r x, l = r ++ [x] := ⟨l.dropLast, l.getLast (fun e => by rw [e] at h; cases h), (List.dropLast_concat_getLast _).symm⟩
    have ih := sdefs_keys (key := key) (val := val) n r (by simpa using h)
    rw [sdefs_snoc, List.map_append, List.map_cons, List.map_nil, dd_snoc]
    unfold putR
    rw [look_mem, ih]
    by_cases m : key x ∈ r.map key
    · rw [if_pos m, if_pos (decide_eq_true (mem_dd.mpr m))]
      exact ih
    · rw [if_neg m, if_neg (by rw [decide_eq_true_eq]; exact fun q => m (mem_dd.mp q)), List.map_append, ih]
      rfl
theorem sdefs_len {α : Type} {key : α → NestedKey} {val : α → Rp} (l : List α) : (sdefs key val l).length = (dd (l.map key)).length := by
  rw [← sdefs_keys (val := val) l.length l rfl, List.length_map]
/-- keys of rows -/
def nkI (r : Row) : NestedKey := .tup (r.map .num)
def nkOne : Option Int → NestedKey
  | none => .none
  | some i => .num i
def nkO (l : List (Option Int)) : NestedKey := .tup (l.map nkOne)
theorem nkI_data (r : Row) : (nkI r).data = tupI r := by
  unfold nkI
  simp only [NestedKey.data, datas_map, List.map_map]
  rfl
theorem nkO_data (l : List (Option Int)) : (nkO l).data = .tuple (l.map optI) := by
  unfold nkO
  simp only [NestedKey.data, datas_map, List.map_map]
  congr 1
  apply List.map_congr_left
  intro x _
  cases x <;> rfl
theorem nkI_inj (a b : Row) (h : nkI a = nkI b) : a = b := (List.map_inj_right fun x y e => NestedKey.num.inj e).mp (NestedKey.tup.inj h)
theorem nkO_inj (a b : List (Option Int)) (h : nkO a = nkO b) : a = b := (List.map_inj_right fun x y e => by
  cases x <;> cases y
  · rfl
  · cases e
  · cases e
  · rw [NestedKey.num.inj e]).mp (NestedKey.tup.inj h)
theorem depth_nkI (r : Row) : (nkI r).depth ≤ 8 := Nat.le_trans (depth_tup (n := 0) fun k hk => by
  obtain ⟨z, _, rfl⟩ := List.mem_map.mp hk
  exact Nat.le_refl _) (by omega)
theorem depth_nkO (r : List (Option Int)) : (nkO r).depth ≤ 8 := Nat.le_trans (depth_tup (n := 0) fun k hk => by
  obtain ⟨z, _, rfl⟩ := List.mem_map.mp hk
  cases z <;> exact Nat.le_refl _) (by omega)
section
variable {P : Program} {w : World} {K : PySem.W.Frag} {mg : Str → Option Value} {base : Heap}
structure MisOk (cs ns : List Str) (R : List Row) : Prop where
  few : cs.length ≤ 100
  ne : cs ≠ []
  len : ∀ r ∈ R, cs.length = r.length
  rows : R.length ≤ 1000
  cnt : (dd (R.map (outOf cs ns))).length * (dd (R.map (valuesIn cs ns))).length = R.length
abbrev MisI : Type := List Str × List Str × List Row
abbrev sp_first_missing : Sp := spP (fun i : MisI => MisOk i.1 i.2.1 i.2.2) (fun i => [rD (strL i.1), rD (strL i.2.1), rD (rowsD i.2.2)]) fun _ => rD .none
theorem c_first_missing (W : Wo K mg base) : Cal P w K mg base 2 "first_missing" sp_first_missing [] := by
  have c_mixed := c_mixed (P := P) (w := w) W
  have c_values_in := c_values_in (P := P) (w := w) W
  refine cal_of (f_first_missing W) (g_first_missing W) b_first_missing sc_first_missing (fun _ _ => rfl) fun cdv A' outer s H E hr => ⟨_, (pss_cons (ps_set (i := 3) sc_first_missing.nd rfl (by first | exact Or.inl rfl | exact Or.inr rfl) pe_dnewN)
    (pss_cons (ps_set (i := 4) sc_first_missing.nd rfl (by first | exact Or.inl rfl | exact Or.inr rfl) pe_dnewN)
    (pss_cons (ps_for PassesOwn.never rfl (pi_listK K (pv 2)) (pg_name (i := 5) sc_first_missing.nd rfl (by first | exact Or.inl rfl | exact Or.inr rfl)) (pss_cons (ps_expr (pe_setdefN hr (pv 3) (C8.pe_c c_mixed hr (by first | decide | omega) rfl (pa_cons (pv 0) (pa_cons (pv 1) (pa_cons (pv 5) (pa_cons (pe_op (kOp K rRepA op_repA) (pe_tup (pa_cons pe_non pa_nil)) (pe_callB (kCall K rLenV call_len) (by rfl) (n_len W) PySem.boot_len (pa_cons (pv 5) pa_nil))) pa_nil))))) (pv 5) ⟨rfl, rfl, rfl, rfl⟩))
    (pss_one (ps_expr (pe_setdefN hr (pv 4) (C8.pe_c c_values_in hr (by first | decide | omega) rfl (pa_cons (pv 0) (pa_cons (pv 1) (pa_cons (pv 5) pa_nil)))) (pv 5) ⟨rfl, rfl, rfl, rfl⟩)))))
    (pss_cons (ps_if (pt_cmpR op_eq (pe_op op_mul (pe_callB call_lenN (by rfl) (n_len W) PySem.boot_len (pa_cons (pv 3) pa_nil)) (pe_callB call_lenN (by rfl) (n_len W) PySem.boot_len (pa_cons (pv 4) pa_nil))) (pe_callB (kCall K rLenV call_len) (by rfl) (n_len W) PySem.boot_len (pa_cons (pv 2) pa_nil)) (nomark _)) (pss_one (ps_ret pe_non)) pss_nil) pss_never)))), ?_⟩
  rintro ⟨cs, ns, R⟩ F D0 Q ok q
  simp only at ok
  have hz := ok.rows
  have few := ok.few
  refine sq_newN rfl rfl fun po => sq_newN rfl rfl fun pi => ?_
  refine sq_forL (G := gT) R (fun r => rD (tupI r)) (ig_listX (f := tupI) (eg_var rfl)) (fun i R y => y)
    (fun _ => [some (rD (strL cs)), some (rD (strL ns)), some (rD (rowsD R)), some (rV (.ref po)), some (rV (.ref pi)), none, none, none, none])
    (fun a => wDN P w pi (sdefs (fun r => nkI (valuesIn cs ns r)) (fun r => rD (tupI r)) a) [] :: wDN P w po (sdefs (fun r => nkO (outOf cs ns r)) (fun r => rD (tupI r)) a) [] :: F) (Less.refl _) rfl (fun _ => trivial) (fun a r b D1 N he e1 kN => ?_) ?_
  · have hr' : cs.length = r.length := ok.len r (by rw [he]; simp)
    have al : a.length ≤ R.length := by rw [he, List.length_append]; omega
    rw [sdefs_snoc, sdefs_snoc] at kN
    have lo := Nat.le_trans (Nat.le_of_eq (sdefs_len (key := fun r => nkO (outOf cs ns r)) (val := fun r => rD (tupI r)) a)) (dd_length_le _)
    have li := Nat.le_trans (Nat.le_of_eq (sdefs_len (key := fun r => nkI (valuesIn cs ns r)) (val := fun r => rD (tupI r)) a)) (dd_length_le _)
    rw [List.length_map] at lo li
    have r0 : 1 ≤ r.length := by
      rw [← hr']
      cases h : cs with
      | nil => exact absurd h ok.ne
      | cons _ _ => simp
    have rep : (List.replicate ((r.map PyData.int).length : Int).toNat [PyData.none]).flatten = List.replicate r.length PyData.none := by
      rw [List.length_map, Int.toNat_natCast]
      induction r.length with
      | zero => rfl
      | succ n ih => rw [List.replicate_succ, List.flatten_cons, ih]; rfl
    refine ⟨_, _, tgt_name, ?_⟩
    refine sq_sdefN (j := 1) (k := nkO (outOf cs ns r)) rfl rfl (eg_var rfl) rfl (Eg.to (eg_callP (cs, ns, r) ⟨hr', few⟩ (ag_cons (eg_var rfl) (ag_cons (eg_var rfl) (ag_cons (eg_var rfl) (ag_cons (Eg.to (eg_op (Eg.tup (ds := [.none]) (eg_tup (ag_cons eg_non ag_nil) (by simp))) (eg_cb (ag_cons (eg_var rfl) ag_nil) cg_lenDT) (og_repT (by simp) (by rw [List.length_map]; omega) (by rw [List.length_map]; omega) (by simp))) (by rw [rep])) ag_nil)))) rfl) (nkO_data _).symm) (eg_var rfl) rfl (depth_nkO _) (by omega) ?_
    refine go_sdefN (j := 0) (k := nkI (valuesIn cs ns r)) rfl rfl (eg_var rfl) rfl (Eg.to (eg_callP (cs, ns, r) ⟨hr', few⟩ (ag_cons (eg_var rfl) (ag_cons (eg_var rfl) (ag_cons (eg_var rfl) ag_nil))) rfl) (nkI_data _).symm) (eg_var rfl) rfl (depth_nkI _) (by omega) ?_
    refine kN.less (less_of rfl fun i h => ?_)
    match i with
    | 0 => exact .inr rfl
    | 1 => exact .inr rfl
    | 2 => exact .inr rfl
    | 3 => exact .inr rfl
    | 4 => exact .inr rfl
    | 5 => exact .inl rfl
    | 6 => exact .inl rfl
    | 7 => exact .inl rfl
    | 8 => exact .inl rfl
    | i + 9 => exact absurd h (by show ¬ i + 9 < 9; omega)
  · have l1 : (sdefs (fun r => nkO (outOf cs ns r)) (fun r => rD (tupI r)) R).length = (dd (R.map (outOf cs ns))).length := by
      rw [sdefs_len, show (R.map fun r => nkO (outOf cs ns r)) = (R.map (outOf cs ns)).map nkO from by rw [List.map_map]; rfl, dd_map_inj nkO_inj, List.length_map]
    have l2 : (sdefs (fun r => nkI (valuesIn cs ns r)) (fun r => rD (tupI r)) R).length = (dd (R.map (valuesIn cs ns))).length := by
      rw [sdefs_len, show (R.map fun r => nkI (valuesIn cs ns r)) = (R.map (valuesIn cs ns)).map nkI from by rw [List.map_map]; rfl, dd_map_inj nkI_inj, List.length_map]
    have b1 := Nat.le_trans (dd_length_le (R.map (outOf cs ns))) (Nat.le_of_eq (List.length_map _))
    refine sq_if (b := true) (Tg.to (tg_test (eg_op (eg_op (eg_cb (ag_cons (eg_var rfl) ag_nil) (cg_lenN (j := 1) rfl rfl rfl)) (eg_cb (ag_cons (eg_var rfl) ag_nil) (cg_lenN (j := 0) rfl rfl rfl)) (og_mul (.inl ⟨by omega, by rw [l1]; omega⟩))) (eg_cb (ag_cons (eg_var rfl) ag_nil) cg_lenD) og_eqI)) ?_) (fun _ => go_ret eg_non fun v D H e hd r => q v D H () e trivial hd.tail.tail r) (fun z => nomatch z)
    rw [List.length_map, l1, l2, decide_eq_true_eq, ← ok.cnt]
    exact (Int.natCast_mul _ _).symm
end
end Fb

/-! A dict that is locked while it is walked; d.setdefault(k, []).append(x). -/
namespace Fb
open PySem PySem.Spec L2 Evl
def ohV (od : Obj) (u : HO) (O : Oh) (qs : List (Addr × List Rp)) : Oh := ⟨fun D o => o = .frz od u ∧ O.r D u ∧ ∀ e ∈ qs, (rLst e.2).r D (.ref e.1), fun e ⟨h1, h2, h3⟩ => ⟨h1, O.m e h2, fun x hx => (rLst x.2).m e (h3 x hx)⟩⟩
abbrev wLk (od : Obj) (u : HO) (O : Oh) (p : Addr) (qs : List (Addr × List Rp)) : Wd := wTab (ohV od u O qs) p []
theorem set_same {α : Type} {L : List α} {j : Nat} {w : α} (h : L[j]? = some w) (v : α) : (L.set j v)[j]? = some v := by
  rw [List.getElem?_set, if_pos rfl, if_pos (List.getElem?_eq_some_iff.mp h).1]
section
variable {P : Program} {w : World} {X : Cx} {K : PySem.W.Frag} {Γ Γ' : Gm} {L L1 L2' L3 L' : List Wd} {R : Rp} {te tk td tv : TE} {D0 : Hp} {i j n : Nat} {E : Ends} {p q : Addr} {O : Oh} {qs : List (Addr × List Rp)}
theorem Hd.lock {D H : Hp} (hd : Hd D H L) (hm : ∀ D o, O.r D o → Mut (some o)) (hj : L[j]? = some (wTab O p qs)) : ∃ D1 u, Ex D D1 ∧ H p = some u ∧ Mut (some u) ∧ O.r D1 u ∧ ∀ od, Hd D1 (upd H p (.frz od u)) (L.set j (wLk od u O p qs)) := by
  obtain ⟨D1, e1, h1, ls⟩ := hd.tabLists hj
  have hj1 := set_same hj (wTab O p [])
  obtain ⟨_, o, ho, ro⟩ := h1.tabAt hj1
  refine ⟨D1, o, e1, ho, hm _ _ ro, ro, fun od => ?_⟩
  have := h1.tabUpd hj1 (O' := ohV od o O qs) (o' := .frz od o) ⟨rfl, ro, ls⟩
  rw [List.set_set] at this
  exact this
theorem Hd.unlock {D H : Hp} {od : Obj} {u : HO} (hd : Hd D H L) (hj : L[j]? = some (wLk od u O p qs)) : H p = some (.frz od u) ∧ Hd D (upd H p u) (L.set j (wTab O p [])) := by
  obtain ⟨_, o, ho, rfl, ro, ls⟩ := hd.tabAt hj
  exact ⟨ho, hd.tabUpd hj ro⟩
/-- a statement that walks the dict -/
theorem go_lock {t : TS} (hm : ∀ D o, O.r D o → Mut (some o)) (hj : L[j]? = some (wTab O p qs))
    (kk : ∀ od u (E' : Ends), (∀ D2 Γ' L2, L2[j]? = some (wLk od u O p qs) → Go D2 Γ' (L2.set j (wTab O p [])) E.nx → Go D2 Γ' L2 E'.nx) → Go D0 Γ (L.set j (wLk od u O p qs)) (t E')) : Go D0 Γ L (tLock t E) := fun σ D H e g hd => by
  obtain ⟨D1, u, e1, hu, mu, ro, h2⟩ := hd.lock hm hj
  refine ⟨p, u, hu, mu, fun od => kk od u _ (fun D2 Γ' L2 hj2 kG σ' D' H' e' g' hd' => ?_) σ D1 _ (e.trans e1) (g.up e1) (h2 od)⟩
  obtain ⟨h3, h4⟩ := hd'.unlock hj2
  exact ⟨h3, kG σ' D' _ e' g' h4⟩
/-- a reading that walks the dict -/
theorem xg_lock {t : TE} {ι : Type} {okz : ι → Prop} {Rz : ι → Rp} {Lz : Obj → HO → ι → List Wd} {Lo : ι → List Wd} (hm : ∀ D o, O.r D o → Mut (some o)) (hj : L[j]? = some (wTab O p qs))
    (hz : ∀ od u z, (Lz od u z)[j]? = some (wLk od u O p qs) ∧ (Lz od u z).set j (wTab O p []) = Lo z)
    (kk : ∀ od u, Xg t Γ (L.set j (wLk od u O p qs)) fun v D H => ∃ z, okz z ∧ Hd D H (Lz od u z) ∧ (Rz z).r D v) : Xg (tLockE t) Γ L fun v D H => ∃ z, okz z ∧ Hd D H (Lo z) ∧ (Rz z).r D v := fun σ D H g hd Q q => by
  obtain ⟨D1, u, e1, hu, mu, ro, h2⟩ := hd.lock hm hj
  refine ⟨p, u, hu, mu, fun od => kk od u σ D1 _ (g.up e1) (h2 od) _ fun v D2 H2 e2 ⟨z, oz, hz2, rz⟩ => ?_⟩
  obtain ⟨h3, h4⟩ := hz2.unlock (hz od u z).1
  rw [(hz od u z).2] at h4
  exact ⟨h3, q v D2 _ (e1.trans e2) ⟨z, oz, h4, rz⟩⟩
theorem mut_ohN {ks : List (NestedKey × Rp)} (D : Hp) (o : HO) (h : (ohN P w p ks).r D o) : Mut (some o) := by
  obtain ⟨xs, rfl, _⟩ := h
  exact True.intro
/-- the entries: key, where its list stands, the list -/
abbrev GEnt := NestedKey × Addr × List Rp
abbrev gKs (es : List GEnt) : List (NestedKey × Rp) := es.map fun e => (e.1, rV (.ref e.2.1))
abbrev gQs (es : List GEnt) : List (Addr × List Rp) := es.map fun e => (e.2.1, e.2.2)
abbrev wGr (P : Program) (w : World) (p : Addr) (es : List GEnt) : Wd := wDN P w p (gKs es) (gQs es)
theorem nrel_nth {D : Hp} {xs : List (NestedKey × Addr × V)} {ks : List (NestedKey × Rp)} (h : NRel D xs ks) {i : Nat} {x : NestedKey × Addr × V} (e : xs[i]? = some x) : ∃ k, ks[i]? = some k ∧ k.2.r D x.2.2 := by
  induction h generalizing i with
  | nil => simp at e
  | @cons a b as bs h t ih =>
    cases i with
    | zero => simp at e; subst e; exact ⟨b, rfl, h.2⟩
    | succ i => simp at e; obtain ⟨k, h1, h2⟩ := ih e; exact ⟨k, by simpa using h1, h2⟩
/-- for x in d.values(), each a list -/
theorem ig_valsN {od : Obj} {u : HO} {es : List GEnt} (hP : X.prog = P) (hw : X.w = w) (h : Eg td Γ L (rV (.ref p)) L') (hj : L'[j]? = some (wLk od u (ohN P w p (gKs es)) p (gQs es))) :
    Ig (iValsN X td) Γ L es.length (fun i R => ∃ e, es[i]? = some e ∧ R = rLst e.2.2) L' (gW (wLk od u (ohN P w p (gKs es)) p (gQs es))) := fun σ D H g hd R k => h σ D H g hd _ fun x D1 H1 e1 h1 ex => by
  subst hP hw
  obtain ⟨_, o, ho, rfl, ⟨xs, rfl, hk, hr⟩, ls⟩ := h1.tabAt hj
  have len : xs.length = es.length := by rw [hr.len, List.length_map]
  refine ⟨p, od, xs, ex, ho, k _ D1 H1 e1 h1 ?_⟩
  refine ⟨fun i D' H' Lx hi e g' hd' => ?_, fun D' H' Lx e g' hd' => ?_, fun i D' H' x H'' Lx hi e g' hd' y => ?_⟩
  · obtain ⟨j', hj'⟩ := g'
    obtain ⟨_, o, ho', rfl, _⟩ := hd'.tabAt hj'
    exact ⟨ho', by omega⟩
  · obtain ⟨j', hj'⟩ := g'
    obtain ⟨_, o, ho', rfl, _⟩ := hd'.tabAt hj'
    exact ⟨ho', by omega⟩
  · obtain ⟨y1, z, hz, y2⟩ := y
    subst y1 y2
    obtain ⟨kR, h1, h2⟩ := nrel_nth hr hz
    rw [List.getElem?_map] at h1
    cases q : es[i]? with
    | none => rw [q] at h1; cases h1
    | some en =>
      rw [q] at h1; cases h1
      have ez : z.2.2 = .ref en.2.1 := h2
      refine ⟨D', rLst en.2.2, Ex.refl _, hd', ⟨en, rfl, rfl⟩, ?_⟩
      rw [ez]
      exact (rLst en.2.2).m e (ls (en.2.1, en.2.2) (List.mem_map.mpr ⟨en, List.mem_of_getElem? q, rfl⟩))
end
end Fb

namespace Fb
open PySem PySem.Spec L2 Evl
theorem look_mem' {ks : List (NestedKey × Rp)} {k : NestedKey} : (lookR ks k).isSome = decide (k ∈ ks.map (·.1)) := by
  unfold lookR
  induction ks with
  | nil => rfl
  | cons a r ih =>
    rw [List.find?_cons]
    by_cases e : a.1 = k
    · subst e; simp
    · simp only [decide_eq_false e]
      rw [ih]
      simp [e, Ne.symm e, eq_comm]
/-- one more in the group k -/
def GStep (es : List GEnt) (k : NestedKey) (R : Rp) (es' : List GEnt) : Prop := (∃ (n : Nat) (q : Addr) (Rs : List Rp), es[n]? = some (k, q, Rs) ∧ es' = es.set n (k, q, Rs ++ [R])) ∨ (k ∉ es.map (·.1) ∧ ∃ q, es' = es ++ [(k, q, [R])])
theorem lookR_at {es : List GEnt} {k : NestedKey} {R : Rp} (h : lookR (gKs es) k = some R) : ∃ (n : Nat) (q : Addr) (Rs : List Rp), es[n]? = some (k, q, Rs) ∧ R = rV (.ref q) := by
  unfold lookR at h
  cases e : (gKs es).find? fun x => decide (x.1 = k) with
  | none => rw [e] at h; cases h
  | some x =>
    rw [e] at h
    cases h
    have h1 := List.find?_some e
    have h2 := List.mem_of_find?_eq_some e
    obtain ⟨en, hen, rfl⟩ := List.mem_map.mp h2
    obtain ⟨n, hn⟩ := List.mem_iff_getElem?.mp hen
    obtain ⟨a, b, c⟩ := en
    have h3 : a = k := of_decide_eq_true h1
    subst h3
    exact ⟨n, b, c, hn, rfl⟩
theorem set_map_same {α β : Type} {l : List α} {n : Nat} {a b : α} {f : α → β} (h : l[n]? = some a) (e : f b = f a) : (l.set n b).map f = l.map f := by
  apply List.ext_getElem?
  intro i
  rw [List.getElem?_map, List.getElem?_map, List.getElem?_set]
  by_cases q : n = i
  · subst q
    rw [if_pos rfl, if_pos (List.getElem?_eq_some_iff.mp h).1, h]
    exact congrArg some e
  · rw [if_neg q]
section
variable {P : Program} {w : World} {X : Cx} {K : PySem.W.Frag} {Γ Γ' : Gm} {L L1 L2' L3 L' : List Wd} {R : Rp} {te tk td tv : TE} {D0 : Hp} {i j n : Nat} {E : Ends} {p q : Addr} {es : List GEnt} {k : NestedKey}
/-- d.setdefault(k, []).append(v) -/
theorem go_gapp (hP : X.prog = P) (hw : X.w = w) (ho : Eg td Γ L (rV (.ref p)) L) (hk : Eg tk Γ L (rD k.data) L) (hv : ∀ L2, Eg tv Γ L2 R L2) (hj : L[j]? = some (wGr P w p es)) (ht : isTup k = true) (hd8 : k.depth ≤ 8) (hz : es.length < 100000) (hl : ∀ e ∈ es, e.2.2.length < 100000)
    (kk : ∀ es', GStep es k R es' → Go D0 Γ (L.set j (wGr P w p es')) E.nx) : Go D0 Γ L (tDrop (tBM K "list" rAppend (tSetDefN X td tk (tLst tNil)) (tCons tv tNil)) E) := fun σ D H e g hd => by
  subst hP hw
  refine ho σ D H g hd _ fun x D1 H1 e1 d1 r1 => ⟨p, r1, ?_, hk σ D1 H1 (g.up e1) d1 _ fun y D2 H2 e2 d2 r2 => ⟨Nat.zero_le _, fun q hq => ?_⟩⟩
  · obtain ⟨_, o, ho, xs, rfl, hks, hr⟩ := d1.tabAt hj
    exact ⟨xs, ho, KeysN.up d1.ex hks⟩
  have d3 : Hd D2 (upd H2 q (.lst [])) (mL q [] :: L) := d2.new (Ex.new hq) (fun a ha => by rw [List.mem_singleton.mp ha]; exact hq) ⟨d2.dnone hq, [], upd_same, .nil⟩
  generalize upd H2 q (.lst []) = H3 at d3
  obtain ⟨b, rfl⟩ := key_ref ht r2
  obtain ⟨_, o, ho', xs, rfl, hks, hr⟩ := d3.tail.tabAt hj
  have lj := (List.getElem?_eq_some_iff.mp hj).1
  refine ⟨b, k, xs, rfl, ho', KeysN.up d3.ex hks, dq_up d3.ex _ _ r2, hd8, by rw [hr.len, List.length_map]; exact sz_lt hz, fun z hz' => ?_, fun hn => ?_⟩
  · obtain ⟨R', hR'⟩ : ∃ R', lookR (gKs es) k = some R' := by
      have := hr.isSome k
      rw [hz'] at this
      cases e : lookR (gKs es) k with
      | none => rw [e] at this; cases this
      | some R' => exact ⟨R', rfl⟩
    obtain ⟨v, hv1, hv2⟩ := NRel.some hr hR'
    rw [hz'] at hv1
    cases hv1
    obtain ⟨n, q', Rs, hn, rfl⟩ := lookR_at hR'
    have ez : z = .ref q' := hv2
    subst ez
    have hq' : (gQs es)[n]? = some (q', Rs) := by rw [List.getElem?_map, hn]; rfl
    obtain ⟨_, vs0, h0, _⟩ := d3.tail.tabList hj hq'
    refine ⟨Or.inl ⟨rfl, vs0, SqL.of h0⟩, hv L σ D2 H3 ((g.up e1).up e2) d3.tail _ fun v D4 H4 e4 d4 r4 => ?_⟩
    obtain ⟨_, vs, h4, a4⟩ := d4.tabList hj hq'
    refine ⟨q', vs, v, rfl, rfl, h4, sz_lt (by rw [a4.len]; exact hl _ (List.mem_of_getElem? hn)), ?_⟩
    have d5 := d4.tabSet (vs := vs ++ [v]) (Rs' := Rs ++ [R]) hj hq' (a4.app (.cons r4 .nil))
    have e1' : gKs (es.set n (k, q', Rs ++ [R])) = gKs es := set_map_same hn rfl
    have e2' : gQs (es.set n (k, q', Rs ++ [R])) = (gQs es).set n (q', Rs ++ [R]) := by unfold gQs; rw [List.map_set]
    refine kk (es.set n (k, q', Rs ++ [R])) (.inl ⟨n, q', Rs, hn, rfl⟩) σ D4 _ (((e.trans e1).trans e2).trans e4) (((g.up e1).up e2).up e4) ?_
    unfold wGr
    rw [e1', e2']
    exact d5
  · have nk : k ∉ es.map (·.1) := fun hm => by
      have h1 : (lookR (gKs es) k).isSome = true := by
        rw [look_mem', List.map_map]
        exact decide_eq_true hm
      rw [← hr.isSome, hn] at h1
      cases h1
    have d5 := d3.tabMerge (q := q) (Rs := []) (O' := ohN X.prog X.w p (gKs es ++ [(k, rV (.ref q))])) hj (o' := DNx X.prog X.w p (xs ++ [(k, b, .ref q)])) ⟨xs ++ [(k, b, .ref q)], rfl, fun z hz => by
      rcases List.mem_append.mp hz with hz | hz
      · exact hks z hz
      · rw [List.mem_singleton.mp hz]; exact ⟨r2, hd8⟩, hr.snoc (R := rV (.ref q)) (v := .ref q) (show V.ref q = V.ref q from rfl)⟩
    have hj5 := set_same hj (wTab (ohN X.prog X.w p (gKs es ++ [(k, rV (.ref q))])) p (gQs es ++ [(q, [])]))
    have hq' : (gQs es ++ [(q, [])])[es.length]? = some (q, []) := by
      rw [List.getElem?_append_right (by rw [List.length_map]; exact Nat.le_refl _), List.length_map, Nat.sub_self]; rfl
    obtain ⟨_, vs0, h0, _⟩ := d5.tabList hj5 hq'
    refine ⟨Or.inl ⟨rfl, vs0, SqL.of h0⟩, hv _ σ D2 _ ((g.up e1).up e2) d5 _ fun v D4 H4 e4 d4 r4 => ?_⟩
    obtain ⟨_, vs, h4, a4⟩ := d4.tabList hj5 hq'
    refine ⟨q, vs, v, rfl, rfl, h4, sz_lt (by rw [a4.len]; exact Nat.zero_lt_succ _), ?_⟩
    have d6 := d4.tabSet (vs := vs ++ [v]) (Rs' := [R]) hj5 hq' (a4.app (.cons r4 .nil))
    rw [List.set_set] at d6
    have e1' : gKs (es ++ [(k, q, [R])]) = gKs es ++ [(k, rV (.ref q))] := by unfold gKs; rw [List.map_append]; rfl
    have e2' : gQs (es ++ [(k, q, [R])]) = (gQs es ++ [(q, [])]).set es.length (q, [R]) := by
      unfold gQs
      rw [List.map_append, List.set_append_right _ _ (by rw [List.length_map]; exact Nat.le_refl _), List.length_map, Nat.sub_self]
      rfl
    refine kk (es ++ [(k, q, [R])]) (.inr ⟨nk, q, rfl⟩) σ D4 _ (((e.trans e1).trans e2).trans e4) (((g.up e1).up e2).up e4) ?_
    unfold wGr
    rw [e1', e2']
    exact d6
end
end Fb

namespace Fb
open PySem PySem.Spec L2 Evl
open C8 (Cal Met Mak)
abbrev rowR (r : Row) : Rp := rD (tupI r)
/-- the rows in groups, by a key -/
structure GInv (key : Row → Row) (val : Row → Rp) (a : List Row) (es : List GEnt) : Prop where
  nd : (es.map (·.1)).Nodup
  at' : ∀ e ∈ es, ∃ κ, e.1 = nkI κ ∧ e.2.2 = (a.filter fun x => decide (key x = κ)).map val
  all : ∀ r ∈ a, nkI (key r) ∈ es.map (·.1)
  len : es.length ≤ a.length
theorem GInv.nil (key : Row → Row) (val : Row → Rp) : GInv key val [] [] := ⟨List.nodup_nil, (fun e h => nomatch h), (fun e h => nomatch h), Nat.le_refl _⟩
theorem GInv.step {key : Row → Row} {val : Row → Rp} {a : List Row} {es es' : List GEnt} {r : Row} (g : GInv key val a es) (h : GStep es (nkI (key r)) (val r) es') : GInv key val (a ++ [r]) es' := by
  have fl : ∀ κ, (a ++ [r]).filter (fun x => decide (key x = κ)) = a.filter (fun x => decide (key x = κ)) ++ if key r = κ then [r] else [] := fun κ => by
    rw [List.filter_append]
    by_cases e : key r = κ <;> simp [e]
  rcases h with ⟨n, q, Rs, hn, rfl⟩ | ⟨hk, q, rfl⟩
  · have hm : (es.set n (nkI (key r), q, Rs ++ [val r])).map (·.1) = es.map (·.1) := set_map_same hn rfl
    refine ⟨by rw [hm]; exact g.nd, fun e he => ?_, fun x hx => ?_, by rw [List.length_set, List.length_append]; have := g.len; omega⟩
    · obtain ⟨i, hi⟩ := List.mem_iff_getElem?.mp he
      rw [List.getElem?_set] at hi
      by_cases z : n = i
      · rw [if_pos z] at hi
        by_cases l : n < es.length
        · rw [if_pos l] at hi
          cases hi
          obtain ⟨κ, h1, h2⟩ := g.at' _ (List.mem_of_getElem? hn)
          have h1' : nkI (key r) = nkI κ := h1
          have ek := nkI_inj _ _ h1'
          have h2' : Rs = (a.filter fun x => decide (key x = κ)).map val := h2
          refine ⟨κ, h1, ?_⟩
          rw [fl, if_pos ek, List.map_append, ← h2']
          rfl
        · rw [if_neg l] at hi; cases hi
      · rw [if_neg z] at hi
        obtain ⟨κ, h1, h2⟩ := g.at' e (List.mem_of_getElem? hi)
        refine ⟨κ, h1, ?_⟩
        rw [fl, if_neg, List.append_nil]
        · exact h2
        · intro w
          have a1 : (es.map (·.1))[n]? = some (nkI (key r)) := by rw [List.getElem?_map, hn]; rfl
          have a2 : (es.map (·.1))[i]? = some (nkI (key r)) := by rw [List.getElem?_map, hi, w, ← h1]; rfl
          exact z ((List.getElem?_inj (List.getElem?_eq_some_iff.mp a1).1 g.nd).mp (a1.trans a2.symm))
    · rw [hm]
      rcases List.mem_append.mp hx with hx | hx
      · exact g.all x hx
      · rw [List.mem_singleton.mp hx]; exact List.mem_map.mpr ⟨_, List.mem_of_getElem? hn, rfl⟩
  · refine ⟨?_, fun e he => ?_, fun x hx => ?_, by rw [List.length_append, List.length_append]; have := g.len; simp; omega⟩
    · rw [List.map_append]
      refine List.nodup_append.mpr ⟨g.nd, by simp, fun x hx y hy => ?_⟩
      have : y = nkI (key r) := by simpa using hy
      rw [this]
      exact fun e => hk (e ▸ hx)
    · rcases List.mem_append.mp he with he | he
      · obtain ⟨κ, h1, h2⟩ := g.at' e he
        refine ⟨κ, h1, ?_⟩
        rw [fl, if_neg, List.append_nil]
        · exact h2
        · intro w
          exact hk (List.mem_map.mpr ⟨e, he, by rw [w]; exact h1⟩)
      · rw [List.mem_singleton.mp he]
        refine ⟨key r, rfl, ?_⟩
        rw [fl, if_pos rfl]
        have : a.filter (fun x => decide (key x = key r)) = [] := by
          rw [List.filter_eq_nil_iff]
          intro x hx
          simp only [decide_eq_true_eq]
          exact fun w => hk (by rw [← w]; exact g.all x hx)
        rw [this]
        rfl
    · rw [List.map_append]
      rcases List.mem_append.mp hx with hx | hx
      · exact List.mem_append_left _ (g.all x hx)
      · rw [List.mem_singleton.mp hx]; exact List.mem_append_right _ (by simp)
theorem GInv.small {key : Row → Row} {val : Row → Rp} {a : List Row} {es : List GEnt} (g : GInv key val a es) : ∀ e ∈ es, e.2.2.length ≤ a.length := fun e he => by
  obtain ⟨κ, _, h⟩ := g.at' e he
  rw [h, List.length_map]
  exact List.length_filter_le _ _
section
variable {P : Program} {w : World} {K : PySem.W.Frag} {mg : Str → Option Value} {base : Heap}
structure MixOk (ps : Prs Str) (F : Fo Str) (S : List Row) : Prop where
  tr : TreeOk ps F
  ne : F.order ≠ []
  good : S = [] ∨ Good F S
  few : S.length ≤ 1000
theorem MixOk.len {ps : Prs Str} {F : Fo Str} {S : List Row} (k : MixOk ps F S) : ∀ r ∈ S, F.order.length = r.length := fun r hr => by
  rcases k.good with h | h
  · rw [h] at hr; cases hr
  · rw [h.width r hr, Fo.order_length]
abbrev MixI : Type := Prs Str × Fo Str × List Row
abbrev sp_first_mixed (P : Program) (w : World) (K : PySem.W.Frag) : Sp := spP (fun i : MixI => MixOk i.1 i.2.1 i.2.2) (fun i => [rTree P w K i.1 i.2.1, rD (rowsD i.2.2)]) fun _ => rD .none
theorem c_first_mixed (W : Wo K mg base) : Cal P w K mg base 12 "first_mixed" (sp_first_mixed P w K) [] := by
  have c_values_in := c_values_in (P := P) (w := w) W
  have c_first_missing := c_first_missing (P := P) (w := w) W
  have c_Tree_columns := c_Tree_columns (P := P) (w := w) W
  have c_Tree_above := c_Tree_above (P := P) (w := w) W
  have c_Tree_beneath := c_Tree_beneath (P := P) (w := w) W
  refine cal_of (f_first_mixed W) (g_first_mixed W) b_first_mixed sc_first_mixed (fun _ _ => rfl) fun cdv A' outer s H E hr => ⟨_, (pss_cons (ps_set (i := 2) sc_first_mixed.nd rfl (by first | exact Or.inl rfl | exact Or.inr rfl) (C8.pe_mt0 c_Tree_columns hr (by decide) (pv 0)))
    (pss_cons (ps_for PassesOwn.never rfl (pi_listK K (pv 2)) (pg_name (i := 3) sc_first_mixed.nd rfl (by first | exact Or.inl rfl | exact Or.inr rfl)) (pss_cons (ps_set (i := 4) sc_first_mixed.nd rfl (by first | exact Or.inl rfl | exact Or.inr rfl) (C8.pe_mt c_Tree_above hr (by first | decide | omega) (pv 0) (pa_cons (pv 3) pa_nil)))
    (pss_cons (ps_set (i := 5) sc_first_mixed.nd rfl (by first | exact Or.inl rfl | exact Or.inr rfl) pe_dnewN)
    (pss_cons (ps_for PassesOwn.never rfl (pi_listK K (pv 1)) (pg_name (i := 6) sc_first_mixed.nd rfl (by first | exact Or.inl rfl | exact Or.inr rfl)) (pss_one (ps_expr (pe_bmK K PySem.F.plainAttrs_list PySem.F.slot_list_append PySem.F.type_list_append mt_append (pe_setdefN hr (pv 5) (C8.pe_c c_values_in hr (by first | decide | omega) rfl (pa_cons (pv 2) (pa_cons (pv 4) (pa_cons (pv 6) pa_nil)))) (pe_lst pa_nil) ⟨rfl, rfl, rfl, rfl⟩) (pa_cons (pv 6) pa_nil)))))
    (pss_one (ps_lock (ps_for PassesOwn.never rfl (pi_valuesDN (pv 5)) (pg_name (i := 7) sc_first_mixed.nd rfl (by first | exact Or.inl rfl | exact Or.inr rfl)) (pss_cons (ps_set (i := 8) sc_first_mixed.nd rfl (by first | exact Or.inl rfl | exact Or.inr rfl) (C8.pe_c c_first_missing hr (by first | decide | omega) rfl (pa_cons (pv 2) (pa_cons (C8.pe_mt c_Tree_beneath hr (by first | decide | omega) (pv 0) (pa_cons (pv 3) pa_nil)) (pa_cons (pv 7) pa_nil)))))
    (pss_one (ps_if (pt_cmp (pc_notN (pv 8))) (pss_one ps_never) pss_nil))))))))))
    (pss_one (ps_ret pe_non)))), ?_⟩
  rintro ⟨ps, T, S⟩ F D0 Q ok q
  simp only at ok
  have tr := ok.tr
  have few := ok.few
  have tf := tr.few
  refine sq_asg (eg_methP (ps, T, ()) ⟨tr, trivial⟩ (eg_var rfl) (ins_obj rfl) ag_nil (fun _ => .nil) rfl) ?_
  refine sq_for (ι := Unit) (ig_listX (xs := T.order) (f := .str) (eg_var rfl)) (fun _ _ => True) (fun _ _ => [some (rTree P w K ps T), some (rD (rowsD S)), some (rD (strL T.order)), none, none, none, none, none, none]) (fun _ _ => F) ⟨(), trivial, Less.refl _, rfl⟩ (fun _ _ _ _ => trivial) ?_ fun _ _ => go_ret eg_non fun v D H e hd r => q v D H () e trivial hd r
  rintro i _ R D1 N hi e1 _ ⟨c, hc, rfl⟩ kN
  have mc := List.mem_of_getElem? hc
  obtain ⟨k, hk⟩ := Sub.of_mem mc
  obtain ⟨as, hN⟩ := Node.of_sub hk
  refine ⟨_, _, tgt_name, ?_⟩
  refine sq_asg (eg_methP (ps, T, as, c) ⟨tr, k, hN⟩ (eg_var rfl) (ins_obj rfl) (ag_cons (eg_var rfl) ag_nil) (fun _ => .nil) rfl) ?_
  refine sq_newN rfl rfl fun pg => ?_
  refine sq_for (ι := List GEnt) (ig_listX (xs := S) (f := tupI) (eg_var rfl)) (fun i es => GInv (valuesIn T.order as) rowR (S.take i) es) (fun _ _ => [some (rTree P w K ps T), some (rD (rowsD S)), some (rD (strL T.order)), some (rD (.str c)), some (rD (strL as)), some (rV (.ref pg)), none, none, none]) (fun _ es => wGr P w pg es :: F)
    ⟨[], GInv.nil _ _, Less.refl _, rfl⟩ (fun _ _ _ _ => trivial) ?_ ?_
  · rintro i es R D2 N2 hi e2 g ⟨r, hr', rfl⟩ kN2
    have et : S.take (i + 1) = S.take i ++ [r] := by rw [List.take_succ, hr']; rfl
    have lt : (S.take i).length ≤ 1000 := by rw [List.length_take]; omega
    have gl := g.len
    refine ⟨_, _, tgt_name, go_gapp (j := 0) (k := nkI (valuesIn T.order as r)) rfl rfl (eg_var rfl) (Eg.to (eg_callP (T.order, as, r) ⟨ok.len r (List.mem_of_getElem? hr'), by show T.order.length ≤ 100; omega⟩ (ag_cons (eg_var rfl) (ag_cons (eg_var rfl) (ag_cons (eg_var rfl) ag_nil))) rfl) (nkI_data _).symm) (fun L2 => eg_var rfl) rfl rfl (depth_nkI _) (by omega) (fun e he => by have := g.small e he; omega) fun es' st => ?_⟩
    refine (kN2 es' (by rw [et]; exact g.step st)).less (less_of rfl fun i h => ?_)
    match i with
    | 0 => exact .inr rfl
    | 1 => exact .inr rfl
    | 2 => exact .inr rfl
    | 3 => exact .inr rfl
    | 4 => exact .inr rfl
    | 5 => exact .inr rfl
    | 6 => exact .inl rfl
    | 7 => exact .inr rfl
    | 8 => exact .inr rfl
    | i + 9 => exact absurd h (by show ¬ i + 9 < 9; omega)
  · intro es g
    rw [List.take_length] at g
    refine go_lock (j := 0) mut_ohN rfl fun od u E' hE => ?_
    refine go_for (ι := Unit) (ig_valsN (P := P) (w := w) (es := es) (j := 0) rfl rfl (eg_var rfl) rfl) (fun _ _ => True) (fun _ _ => [some (rTree P w K ps T), some (rD (rowsD S)), some (rD (strL T.order)), some (rD (.str c)), some (rD (strL as)), some (rV (.ref pg)), none, none, none]) (fun _ _ => wLk od u (ohN P w pg (gKs es)) pg (gQs es) :: F) ⟨(), trivial, Less.refl _, rfl⟩ (fun _ _ _ _ => ⟨0, rfl⟩) ?_ ?_
    · rintro i _ R D3 N3 hi e3 _ ⟨e, he, rfl⟩ kN3
      obtain ⟨κ, _, hκ⟩ := g.at' e (List.mem_of_getElem? he)
      rw [hκ]
      refine ⟨_, _, tgt_name, ?_⟩
      refine sq_asg (eg_callP (T.order, c :: k.order, S.filter fun x => decide (valuesIn T.order as x = κ)) ⟨by show T.order.length ≤ 100; omega, ok.ne, fun r hr => ok.len r (List.mem_filter.mp hr).1, Nat.le_trans (List.length_filter_le _ _) few, no_mix tr.sh.nd ok.good hN κ⟩ (ag_cons (eg_var rfl) (ag_cons (eg_methP (ps, T, c, k) ⟨tr, hk⟩ (eg_var rfl) (ins_obj rfl) (ag_cons (eg_var rfl) ag_nil) (fun _ => .nil) rfl) (ag_cons (Eg.imp (eg_var rfl) fun D v hv => rD_lst (by rw [List.map_map]; exact hv)) ag_nil))) rfl) ?_
      refine go_no (Tg.to (tg_test (eg_notN (b := true) (eg_var rfl) fun D v hv => by rw [non_of hv]; rfl)) rfl) ((kN3 () trivial).less (less_of rfl fun i h => ?_))
      match i with
      | 0 => exact .inr rfl
      | 1 => exact .inr rfl
      | 2 => exact .inr rfl
      | 3 => exact .inr rfl
      | 4 => exact .inr rfl
      | 5 => exact .inr rfl
      | 6 => exact .inr rfl
      | 7 => exact .inl rfl
      | 8 => exact .inl rfl
      | i + 9 => exact absurd h (by show ¬ i + 9 < 9; omega)
    · intro _ _
      refine hE D1 _ _ rfl (Go.pre (L' := F) (fun D H h => ⟨D, Ex.refl D, h.tail⟩) ((kN () trivial).less (less_of rfl fun i h => ?_)))
      match i with
      | 0 => exact .inr rfl
      | 1 => exact .inr rfl
      | 2 => exact .inr rfl
      | 3 => exact .inl rfl
      | 4 => exact .inl rfl
      | 5 => exact .inl rfl
      | 6 => exact .inl rfl
      | 7 => exact .inl rfl
      | 8 => exact .inl rfl
      | i + 9 => exact absurd h (by show ¬ i + 9 < 9; omega)
end
end Fb

namespace Fb
open PySem PySem.Spec L2 Evl
open C8 (Cal Met Mak)
abbrev leS (a b : Str) : Prop := a.cps.toList ≤ b.cps.toList
theorem rising_pw : ∀ (l : List Str) (p : Str), PyProof.Rows.risingS p l = true → (p :: l).Pairwise leS
  | [], p, _ => List.pairwise_singleton _ _
  | x :: r, p, h => by
    rw [PyProof.Rows.risingS, Bool.and_eq_true] at h
    have h1 : leS p x := by
      have := h.1
      rw [PyProof.Rows.ltCps_eq] at this
      have q : ¬ x.cps.toList < p.cps.toList := by simpa using this
      exact List.not_lt.mp q
    have ih := rising_pw r x h.2
    refine List.pairwise_cons.mpr ⟨fun y hy => ?_, ih⟩
    rcases List.mem_cons.mp hy with rfl | hy
    · exact h1
    · exact List.le_trans h1 ((List.pairwise_cons.mp ih).1 y hy)
theorem sorted_pw : ∀ {l : List Str}, PyProof.Rows.sortedS l = true → l.Pairwise leS
  | [], _ => List.Pairwise.nil
  | x :: r, h => rising_pw r x h
theorem sorted_uniq {a b l : List Str} (pa : a.Perm l) (pb : b.Perm l) (sa : PyProof.Rows.sortedS a = true) (sb : PyProof.Rows.sortedS b = true) : a = b :=
  List.Perm.eq_of_pairwise (le := leS) (fun x y _ _ h1 h2 => by
    have := List.le_antisymm h1 h2
    cases x; cases y
    simp only at this
    rw [Array.toList_inj.mp this]) (sorted_pw sa) (sorted_pw sb) (pa.trans pb.symm)
section
variable {P : Program} {w : World} {K : PySem.W.Frag} {mg : Str → Option Value} {base : Heap}
abbrev sp_want_columns (P : Program) (w : World) (K : PySem.W.Frag) : Sp := spP (fun i : MixI => TreeOk i.1 i.2.1) (fun i => [rTable K i.2.1.order i.2.2, rTree P w K i.1 i.2.1]) fun _ => rD .none
theorem c_want_columns (W : Wo K mg base) : Cal P w K mg base 2 "want_columns" (sp_want_columns P w K) [] := by
  have c_Table_columns := c_Table_columns (P := P) (w := w) W
  have c_Tree_columns := c_Tree_columns (P := P) (w := w) W
  refine cal_of (f_want_columns W) (g_want_columns W) b_want_columns sc_want_columns (fun _ _ => rfl) fun cdv A' outer s H E hr => ⟨_, (pss_one (ps_if (pt_cmpR (kOp K rNeD (op_neD hr.units)) (pe_callB (kCall K rSortedS cr_sortedS) (by rfl) (n_sorted W) PyProof.Rows.boot_sorted (pa_cons (C8.pe_mt0 c_Table_columns hr (by decide) (pv 0)) pa_nil)) (pe_callB (kCall K rSortedS cr_sortedS) (by rfl) (n_sorted W) PyProof.Rows.boot_sorted (pa_cons (C8.pe_mt0 c_Tree_columns hr (by decide) (pv 1)) pa_nil)) (nomark _)) (pss_one ps_never) pss_nil)), ?_⟩
  rintro ⟨ps, T, ts⟩ F D0 Q tr q
  simp only at tr
  have few := tr.few
  have nm : ∀ ys : List Str, ys.Perm T.order → Pl 1 (strL ys) := fun ys h => pl_strL (n := 0) fun z hz => tr.ok z (h.mem_iff.mp hz)
  have og : ∀ L : List Wd, Og (rNeD K) (rX (fun ys : List Str => ys.Perm T.order ∧ PyProof.Rows.sortedS ys = true) fun ys => rD (.list (ys.map .str))) (rX (fun ys : List Str => ys.Perm T.order ∧ PyProof.Rows.sortedS ys = true) fun ys => rD (.list (ys.map .str))) L (rD (.bool false)) L := fun L x y D H hd ⟨y1, p1, r1⟩ ⟨y2, p2, r2⟩ Q q => by
    have e := sorted_uniq p1.1 p2.1 p1.2 p2.2
    subst e
    exact og_neP (b := true) (nm y1 p1.1) (nm y1 p1.1) (by omega) (by omega) (by simp) x y D H hd r1 r2 Q q
  exact go_if_f (tg_test (eg_op (eg_cb (ag_cons (eg_methP (T.order, ts) trivial (eg_var rfl) (ins_obj rfl) ag_nil (fun _ => .nil) rfl) ag_nil) (cg_sortedS (by show T.order.length < 64; omega))) (eg_cb (ag_cons (eg_methP (ps, T, ()) ⟨tr, trivial⟩ (eg_var rfl) (ins_obj rfl) ag_nil (fun _ => .nil) rfl) ag_nil) (cg_sortedS (by show T.order.length < 64; omega))) (og _)))
    (go_end fun D H e hd => q .non D H () e trivial hd .non)
end
end Fb

/-! Groups with int keys. -/
namespace Fb
open PySem PySem.Spec L2 Evl
def ohK (kvs : List (Key × Rp)) : Oh := ⟨fun D o => ∃ ks, o = .dK ks ∧ KRel D ks kvs, fun e ⟨ks, h1, h2⟩ => ⟨ks, h1, h2.up e⟩⟩
abbrev HEnt := Int × Addr × List Rp
abbrev hKs (es : List HEnt) : List (Key × Rp) := es.map fun e => (Sum.inl e.1, rV (.ref e.2.1))
abbrev hQs (es : List HEnt) : List (Addr × List Rp) := es.map fun e => (e.2.1, e.2.2)
abbrev wHr (p : Addr) (es : List HEnt) : Wd := wTab (ohK (hKs es)) p (hQs es)
theorem mut_ohK {kvs : List (Key × Rp)} (D : Hp) (o : HO) (h : (ohK kvs).r D o) : Mut (some o) := by
  obtain ⟨xs, rfl, _⟩ := h
  exact True.intro
def HStep (es : List HEnt) (k : Int) (R : Rp) (es' : List HEnt) : Prop := (∃ (n : Nat) (q : Addr) (Rs : List Rp), es[n]? = some (k, q, Rs) ∧ es' = es.set n (k, q, Rs ++ [R])) ∨ (k ∉ es.map (·.1) ∧ ∃ q, es' = es ++ [(k, q, [R])])
theorem valR_at {es : List HEnt} {k : Int} {R : Rp} (h : valR (hKs es) (Sum.inl k) = some R) : ∃ (n : Nat) (q : Addr) (Rs : List Rp), es[n]? = some (k, q, Rs) ∧ R = rV (.ref q) := by
  unfold valR at h
  cases e : (hKs es).find? fun kv => decide (kv.1 = Sum.inl k) with
  | none => rw [e] at h; cases h
  | some x =>
    rw [e] at h
    cases h
    have h1 := List.find?_some e
    have h2 := List.mem_of_find?_eq_some e
    obtain ⟨en, hen, rfl⟩ := List.mem_map.mp h2
    obtain ⟨n, hn⟩ := List.mem_iff_getElem?.mp hen
    obtain ⟨a, b, c⟩ := en
    have h3 : (Sum.inl a : Key) = Sum.inl k := of_decide_eq_true h1
    cases h3
    exact ⟨n, b, c, hn, rfl⟩
theorem valR_mem {es : List HEnt} {k : Int} : (valR (hKs es) (Sum.inl k)).isSome = decide (k ∈ es.map (·.1)) := by
  unfold valR
  induction es with
  | nil => rfl
  | cons a r ih =>
    rw [List.map_cons, show hKs (a :: r) = (Sum.inl a.1, rV (.ref a.2.1)) :: hKs r from rfl, List.find?_cons]
    by_cases e : a.1 = k
    · subst e; simp
    · have : decide ((Sum.inl a.1 : Key) = Sum.inl k) = false := decide_eq_false fun q => e (Sum.inl.inj q)
      simp only [this]
      rw [ih, Bool.eq_iff_iff, decide_eq_true_eq, decide_eq_true_eq, List.mem_cons]
      exact ⟨fun h => .inr h, fun h => h.resolve_left fun q => e q.symm⟩
section
variable {P : Program} {w : World} {X : Cx} {K : PySem.W.Frag} {Γ Γ' : Gm} {L L1 L2' L3 L' : List Wd} {R : Rp} {te tk td tv : TE} {D0 : Hp} {i j n : Nat} {E : Ends} {u : TS} {p q : Addr} {es : List HEnt} {k : Int}
theorem sq_newHr (kk : ∀ p, Go D0 (Γ.set i (some (rV (.ref p)))) (wHr p [] :: L) (u E)) : Go D0 Γ L (tSeq (tAsg tDNewK (gName i)) u E) := fun σ D H e g hd => fun p hp =>
  kk p _ D _ e (g.set rfl) (hd.tabNew hp ⟨[], rfl, .nil⟩)
theorem go_happ (ho : Eg td Γ L (rV (.ref p)) L) (hk : Eg tk Γ L (rD (.int k)) L) (hv : ∀ L2, Eg tv Γ L2 R L2) (hj : L[j]? = some (wHr p es)) (hz : es.length < 100000) (hl : ∀ e ∈ es, e.2.2.length < 100000)
    (kk : ∀ es', HStep es k R es' → Go D0 Γ (L.set j (wHr p es')) E.nx) : Go D0 Γ L (tDrop (tBM K "list" rAppend (tSetDefK td tk (tLst tNil)) (tCons tv tNil)) E) := fun σ D H e g hd => by
  refine ho σ D H g hd _ fun x D1 H1 e1 d1 r1 => ⟨p, r1, ?_, hk σ D1 H1 (g.up e1) d1 _ fun y D2 H2 e2 d2 r2 => ⟨Nat.zero_le _, fun q hq => ?_⟩⟩
  · obtain ⟨_, o, ho, xs, rfl, hr⟩ := d1.tabAt hj
    exact Or.inl ⟨xs, Or.inl ho⟩
  have d3 : Hd D2 (upd H2 q (.lst [])) (mL q [] :: L) := d2.new (Ex.new hq) (fun a ha => by rw [List.mem_singleton.mp ha]; exact hq) ⟨d2.dnone hq, [], upd_same, .nil⟩
  generalize upd H2 q (.lst []) = H3 at d3
  obtain ⟨_, o, ho', xs, rfl, hr⟩ := d3.tail.tabAt hj
  have lj := (List.getElem?_eq_some_iff.mp hj).1
  refine ⟨Sum.inl k, xs, int_of r2, ho', by rw [hr.len, List.length_map]; exact sz_lt hz, fun z hz' => ?_, fun hn => ?_⟩
  · obtain ⟨R', hR'⟩ : ∃ R', valR (hKs es) (Sum.inl k) = some R' := by
      have := hr.isSome (Sum.inl k)
      rw [hz'] at this
      cases e : valR (hKs es) (Sum.inl k) with
      | none => rw [e] at this; cases this
      | some R' => exact ⟨R', rfl⟩
    obtain ⟨v, hv1, hv2⟩ := KRel.some hr hR'
    rw [hz'] at hv1
    cases hv1
    obtain ⟨n, q', Rs, hn, rfl⟩ := valR_at hR'
    have ez : z = .ref q' := hv2
    subst ez
    have hq' : (hQs es)[n]? = some (q', Rs) := by rw [List.getElem?_map, hn]; rfl
    obtain ⟨_, vs0, h0, _⟩ := d3.tail.tabList hj hq'
    refine ⟨Or.inl ⟨rfl, vs0, SqL.of h0⟩, hv L σ D2 H3 ((g.up e1).up e2) d3.tail _ fun v D4 H4 e4 d4 r4 => ?_⟩
    obtain ⟨_, vs, h4, a4⟩ := d4.tabList hj hq'
    refine ⟨q', vs, v, rfl, rfl, h4, sz_lt (by rw [a4.len]; exact hl _ (List.mem_of_getElem? hn)), ?_⟩
    have d5 := d4.tabSet (vs := vs ++ [v]) (Rs' := Rs ++ [R]) hj hq' (a4.app (.cons r4 .nil))
    have e1' : hKs (es.set n (k, q', Rs ++ [R])) = hKs es := set_map_same hn rfl
    have e2' : hQs (es.set n (k, q', Rs ++ [R])) = (hQs es).set n (q', Rs ++ [R]) := by unfold hQs; rw [List.map_set]
    refine kk (es.set n (k, q', Rs ++ [R])) (.inl ⟨n, q', Rs, hn, rfl⟩) σ D4 _ (((e.trans e1).trans e2).trans e4) (((g.up e1).up e2).up e4) ?_
    unfold wHr
    rw [e1', e2']
    exact d5
  · have nk : k ∉ es.map (·.1) := fun hm => by
      have h1 : (valR (hKs es) (Sum.inl k)).isSome = true := by rw [valR_mem]; exact decide_eq_true hm
      rw [← hr.isSome, hn] at h1
      cases h1
    have d5 := d3.tabMerge (q := q) (Rs := []) (O' := ohK (hKs es ++ [(Sum.inl k, rV (.ref q))])) hj (o' := .dK (xs ++ [(Sum.inl k, .ref q)])) ⟨xs ++ [(Sum.inl k, .ref q)], rfl, hr.snoc (R := rV (.ref q)) (v := .ref q) (show V.ref q = V.ref q from rfl)⟩
    have hj5 := set_same hj (wTab (ohK (hKs es ++ [(Sum.inl k, rV (.ref q))])) p (hQs es ++ [(q, [])]))
    have hq' : (hQs es ++ [(q, [])])[es.length]? = some (q, []) := by
      rw [List.getElem?_append_right (by rw [List.length_map]; exact Nat.le_refl _), List.length_map, Nat.sub_self]; rfl
    obtain ⟨_, vs0, h0, _⟩ := d5.tabList hj5 hq'
    refine ⟨Or.inl ⟨rfl, vs0, SqL.of h0⟩, hv _ σ D2 _ ((g.up e1).up e2) d5 _ fun v D4 H4 e4 d4 r4 => ?_⟩
    obtain ⟨_, vs, h4, a4⟩ := d4.tabList hj5 hq'
    refine ⟨q, vs, v, rfl, rfl, h4, sz_lt (by rw [a4.len]; exact Nat.zero_lt_succ _), ?_⟩
    have d6 := d4.tabSet (vs := vs ++ [v]) (Rs' := [R]) hj5 hq' (a4.app (.cons r4 .nil))
    rw [List.set_set] at d6
    have e1' : hKs (es ++ [(k, q, [R])]) = hKs es ++ [(Sum.inl k, rV (.ref q))] := by unfold hKs; rw [List.map_append]; rfl
    have e2' : hQs (es ++ [(k, q, [R])]) = (hQs es ++ [(q, [])]).set es.length (q, [R]) := by
      unfold hQs
      rw [List.map_append, List.set_append_right _ _ (by rw [List.length_map]; exact Nat.le_refl _), List.length_map, Nat.sub_self]
      rfl
    refine kk (es ++ [(k, q, [R])]) (.inr ⟨nk, q, rfl⟩) σ D4 _ (((e.trans e1).trans e2).trans e4) (((g.up e1).up e2).up e4) ?_
    unfold wHr
    rw [e1', e2']
    exact d6
end
end Fb

namespace Fb
open PySem PySem.Spec L2 Evl
theorem krel_nth {D : Hp} {xs : List (Key × V)} {ks : List (Key × Rp)} (h : KRel D xs ks) {i : Nat} {x : Key × V} (e : xs[i]? = some x) : ∃ k, ks[i]? = some k ∧ x.1 = k.1 ∧ k.2.r D x.2 := by
  induction h generalizing i with
  | nil => simp at e
  | @cons a b as bs h t ih =>
    cases i with
    | zero => simp at e; subst e; exact ⟨b, rfl, h⟩
    | succ i => simp at e; obtain ⟨k, h1, h2⟩ := ih e; exact ⟨k, by simpa using h1, h2⟩
section
variable {Γ : Gm} {L L' : List Wd} {td : TE} {j : Nat} {p : Addr}
/-- for k, x in d.items(), each x a list -/
theorem ig_itemsH {od : Obj} {u : HO} {es : List HEnt} (h : Eg td Γ L (rV (.ref p)) L') (hj : L'[j]? = some (wLk od u (ohK (hKs es)) p (hQs es))) :
    Ig (iItems td) Γ L es.length (fun i R => ∃ e, es[i]? = some e ∧ R = rTup [rD (.int e.1), rLst e.2.2]) L' (gW (wLk od u (ohK (hKs es)) p (hQs es))) := fun σ D H g hd R k => h σ D H g hd _ fun x D1 H1 e1 h1 ex => by
  obtain ⟨_, o, ho, rfl, ⟨xs, rfl, hr⟩, ls⟩ := h1.tabAt hj
  have len : xs.length = es.length := by rw [hr.len, List.length_map]
  refine ⟨p, od, xs, ex, ho, k _ D1 H1 e1 h1 ?_⟩
  refine ⟨fun i D' H' Lx hi e g' hd' => ?_, fun D' H' Lx e g' hd' => ?_, fun i D' H' x H'' Lx hi e g' hd' y => ?_⟩
  · obtain ⟨j', hj'⟩ := g'
    obtain ⟨_, o, ho', rfl, _⟩ := hd'.tabAt hj'
    exact ⟨ho', by omega⟩
  · obtain ⟨j', hj'⟩ := g'
    obtain ⟨_, o, ho', rfl, _⟩ := hd'.tabAt hj'
    exact ⟨ho', by omega⟩
  · obtain ⟨T, kk, v, hz, rfl, hT, rfl⟩ := y
    obtain ⟨kR, h1, h2, h3⟩ := krel_nth hr hz
    rw [List.getElem?_map] at h1
    cases q : es[i]? with
    | none => rw [q] at h1; cases h1
    | some en =>
      rw [q] at h1; cases h1
      have ek : kk = Sum.inl en.1 := h2
      have ez : v = .ref en.2.1 := h3
      subst ek ez
      have ex' := hd'.exnew (o := .tup [kV (Sum.inl en.1), .ref en.2.1]) hT
      refine ⟨upd D' T (.tup [kV (Sum.inl en.1), .ref en.2.1]), rTup [rD (.int en.1), rLst en.2.2], ex', hd'.alloc hT, ⟨en, rfl, rfl⟩, T, _, rfl, upd_same, .cons (.int _) (.cons ?_ .nil)⟩
      exact (rLst en.2.2).m (e.trans ex') (ls (en.2.1, en.2.2) (List.mem_map.mpr ⟨en, List.mem_of_getElem? q, rfl⟩))
end
end Fb

namespace Fb
open PySem PySem.Spec L2 Evl
open C8 (Cal Met Mak)
theorem sIx_nat {n d : Nat} {a : Nat} : HT.sIx n d (some (a : Int)) = min a n := by
  unfold HT.sIx
  simp
  omega
theorem cut_nat {α : Type} (xs : List α) (a w : Nat) : cutR xs (some (a : Int)) (some ((a : Int) + (w : Int))) = (xs.drop a).take w := by
  have e : ((a : Int) + (w : Int)) = ((a + w : Nat) : Int) := by omega
  unfold cutR
  rw [e, sIx_nat, sIx_nat]
  apply List.ext_getElem?
  intro i
  simp only [List.getElem?_take, List.getElem?_drop]
  by_cases h : a ≤ xs.length
  · rw [Nat.min_eq_left h]
    by_cases q : i < w
    · rw [if_pos q]
      by_cases r : i < min (a + w) xs.length - a
      · rw [if_pos r]
      · rw [if_neg r, List.getElem?_eq_none (by omega)]
    · rw [if_neg q, if_neg (by omega)]
  · rw [List.getElem?_eq_none (by omega), List.getElem?_eq_none (by omega)]
    simp
theorem cut_tail {α : Type} (xs : List α) : cutR xs (some 1) none = xs.drop 1 := by
  unfold cutR
  rw [show (1 : Int) = ((1 : Nat) : Int) from rfl, sIx_nat]
  show (xs.drop (min 1 xs.length)).take (xs.length - min 1 xs.length) = xs.drop 1
  cases xs with
  | nil => rfl
  | cons x r => simp
section
variable {P : Program} {w : World} {K : PySem.W.Frag} {mg : Str → Option Value} {base : Heap}
abbrev SplI : Type := Prs Str × Fo Str × Addr × Addr × List (Bun Str) × Fo Str × List Row
structure SplOk (d : Nat) (ps : Prs Str) (T : Fo Str) (h : List (Bun Str)) (G : Fo Str) (S : List Row) : Prop where
  tr : TreeOk ps T
  sub : ∀ t ∈ G.trees, Sub T t.1 t.2
  good : Good G S
  dep : G.depth ≤ d
  few : S.length < 64
  w8 : G.trees.length ≤ 8
  room : h.length + S.length * G.width < 90000
abbrev sp_split_rows (P : Program) (w : World) (K : PySem.W.Frag) (d : Nat) : Sp := spX (κ := Unit) (fun i : SplI => SplOk d i.1 i.2.1 i.2.2.2.2.1 i.2.2.2.2.2.1 i.2.2.2.2.2.2) (fun i => [rPool P w K i.1 i.2.1 i.2.2.1 i.2.2.2.1, rD (strL i.2.2.2.2.2.1.tops), rD (rowsD i.2.2.2.2.2.2)])
  (fun i => [wNum P w i.2.2.1 i.2.2.2.2.1, wHeld i.2.2.2.1 i.2.2.2.2.1]) (fun _ _ => True) (fun i _ => rD (.tuple ((splitP i.2.2.2.2.2.1 i.2.2.2.2.1 i.2.2.2.2.2.2).1.map optN))) fun i _ => [wNum P w i.2.2.1 (splitP i.2.2.2.2.2.1 i.2.2.2.2.1 i.2.2.2.2.2.2).2, wHeld i.2.2.2.1 (splitP i.2.2.2.2.2.1 i.2.2.2.2.1 i.2.2.2.2.2.2).2]
abbrev BunI : Type := Prs Str × Fo Str × Addr × Addr × List (Bun Str) × (Str × Fo Str) × List Row
structure BnOk (d : Nat) (ps : Prs Str) (T : Fo Str) (h : List (Bun Str)) (t : Str × Fo Str) (R : List Row) : Prop where
  tr : TreeOk ps T
  sub : Sub T t.1 t.2
  good : GoodT t.2 R
  dep : t.2.depth < d
  few : R.length < 64
  room : h.length + R.length * (t.2.width + 1) < 90000
abbrev sp_bunch_of (P : Program) (w : World) (K : PySem.W.Frag) (d : Nat) : Sp := spX (κ := Unit) (fun i : BunI => BnOk d i.1 i.2.1 i.2.2.2.2.1 i.2.2.2.2.2.1 i.2.2.2.2.2.2) (fun i => [rPool P w K i.1 i.2.1 i.2.2.1 i.2.2.2.1, rD (.str i.2.2.2.2.2.1.1), rD (rowsD i.2.2.2.2.2.2)])
  (fun i => [wNum P w i.2.2.1 i.2.2.2.2.1, wHeld i.2.2.2.1 i.2.2.2.2.1]) (fun _ _ => True) (fun i _ => rD (optN (bunchP i.2.2.2.2.2.1.1 i.2.2.2.2.2.1.2 i.2.2.2.2.1 i.2.2.2.2.2.2).1)) fun i _ => [wNum P w i.2.2.1 (bunchP i.2.2.2.2.2.1.1 i.2.2.2.2.2.1.2 i.2.2.2.2.1 i.2.2.2.2.2.2).2, wHeld i.2.2.2.1 (bunchP i.2.2.2.2.2.1.1 i.2.2.2.2.2.1.2 i.2.2.2.2.1 i.2.2.2.2.2.2).2]
theorem split_of (W : Wo K mg base) (d : Nat) (c_bunch_of : Cal P w K mg base (12 + 2 * d) "bunch_of" (sp_bunch_of P w K d) []) : Cal P w K mg base (13 + 2 * d) "split_rows" (sp_split_rows P w K d) [] := by
  have c_Tree_beneath := c_Tree_beneath (P := P) (w := w) W
  have e13 : 13 + 2 * d = (12 + 2 * d) + 1 := by omega
  rw [e13]
  refine cal_of (f_split_rows W) (g_split_rows W) b_split_rows sc_split_rows (fun _ _ => rfl) fun cdv A' outer s H E hr => ⟨_, (pss_cons (ps_set (i := 3) sc_split_rows.nd rfl (by first | exact Or.inl rfl | exact Or.inr rfl) (pe_lst pa_nil))
    (pss_cons (ps_set (i := 4) sc_split_rows.nd rfl (by first | exact Or.inl rfl | exact Or.inr rfl) pe_int)
    (pss_cons (ps_for PassesOwn.never rfl (pi_listK K (pv 1)) (pg_name (i := 5) sc_split_rows.nd rfl (by first | exact Or.inl rfl | exact Or.inr rfl)) (pss_cons (ps_set (i := 6) sc_split_rows.nd rfl (by first | exact Or.inl rfl | exact Or.inr rfl) (pe_callB (kCall K rLenV call_len) (by rfl) (n_len W) PySem.boot_len (pa_cons (C8.pe_mt c_Tree_beneath hr (by first | decide | omega) (pe_fldK K (pv 0)) (pa_cons (pv 5) pa_nil)) pa_nil)))
    (pss_cons (ps_expr (pe_bmK K PySem.F.plainAttrs_list PySem.F.slot_list_append PySem.F.type_list_append mt_append (pv 3) (pa_cons (C8.pe_c c_bunch_of hr (by first | decide | omega) rfl (pa_cons (pv 0) (pa_cons (pv 5) (pa_cons (pe_callB (cr_sortedSetT hr rfl) (by rfl) (n_sorted W) PyProof.Rows.boot_sorted (pa_cons (pe_callTy (cr_setOfT rfl hr.units) (by rfl) (n_set W) PyProof.Rows.boot_set (pa_cons (pe_lc (own := [("row", 7)]) (g := (gName 7)) rfl sc_split_rows.nd (pi_listK K (pv 2)) (blkOk_by (own := [("row", 7)]) (N := N_split_rows) (sc := defScope s_split_rows) (by decide +kernel)) (fun _ _ _ _ _ => (pg_name (i := 7) sc_split_rows.nd rfl (by first | exact Or.inl rfl | exact Or.inr rfl))) (fun _ _ _ _ _ => pts_nil) (fun _ _ _ _ _ => (pe_slice (kSl K rSlA sl_tupA) (pv 7) (po_some (pv 4)) (po_some (pe_op op_add (pv 4) (pv 6)))))) pa_nil)) pa_nil)) pa_nil)))) pa_nil)))
    (pss_one (ps_aug (i := 4) sc_split_rows.nd rfl (by first | exact Or.inl rfl | exact Or.inr rfl) (pv 6) ip_add)))))
    (pss_one (ps_ret (pe_callTy (kCall K rTupOf call_tuple_of) (by rfl) (n_tuple W) PyProof.Rows.boot_tuple (pa_cons (pv 3) pa_nil))))))), ?_⟩
  rintro ⟨ps, T, pn, ph, h, G, S⟩ F D0 Q ok q
  simp only at ok q
  have cl := cl_Pool W
  have few := ok.few
  have tl8 := ok.w8
  have all := stT_all S G [] h 0
  have at0 : (S.map fun x => x.drop 0) = S := by simp
  rw [at0, List.nil_append] at all
  have stp := stT_at S G [] h 0 (by rw [at0]; exact ok.good.rep)
  refine sq_new ag_nil (by simp) fun pf => sq_asg eg_int ?_
  refine sq_forL (G := gT) G.trees (fun t => rD (.str t.1)) ((ig_listX (xs := G.tops) (f := .str) (eg_var rfl)).to (by rw [trees_tops, List.length_map]) fun i R _ ⟨x, hx, hR⟩ => by
      rw [trees_tops, List.getElem?_map] at hx
      cases e : G.trees[i]? with
      | none => rw [e] at hx; cases hx
      | some t => rw [e] at hx; cases hx; exact ⟨R, ⟨t, rfl, hR⟩, fun _ _ h => h⟩) (fun i R y => y)
    (fun a => [some (rPool P w K ps T pn ph), some (rD (strL G.tops)), some (rD (rowsD S)), some (rV (.ref pf)), some (rD (.int ((a.foldl (stT S) (([], h), 0)).2 : Nat))), none, none, none])
    (fun a => wFnd pf (a.foldl (stT S) (([], h), 0)).1.1 :: wNum P w pn (a.foldl (stT S) (([], h), 0)).1.2 :: wHeld ph (a.foldl (stT S) (([], h), 0)).1.2 :: F) (Less.refl _) rfl (fun _ => trivial) (fun a t b D1 N he e1 kN => ?_) ?_
  · have ht : t ∈ G.trees := by rw [he]; simp
    have sub := ok.sub t ht
    have td := Fo.trees_depth (c := t.1) (k := t.2) ht
    have dd' := ok.dep
    have rm := ok.room
    have w8 := ok.w8
    have al : a.length ≤ 8 := by
      have := congrArg List.length he
      rw [List.length_append] at this
      omega
    obtain ⟨g1, g2, g3⟩ := stp a b t he
    rw [List.foldl_append] at kN
    simp only [List.foldl_cons, List.foldl_nil] at kN
    generalize a.foldl (stT S) (([], h), 0) = st at kN g1 g2 g3 ⊢
    obtain ⟨⟨fs, hh⟩, n⟩ := st
    simp only at g1 g2 g3
    have sg := segs_length (t.2.width + 1) (S.map fun x => x.drop n)
    rw [List.length_map] at sg
    have sm := Nat.mul_le_mul_right (t.2.width + 1) sg
    refine ⟨_, _, tgt_name, ?_⟩
    refine sq_asg (R := rD (.int ((t.2.width + 1 : Nat) : Int))) (Eg.to (eg_cb (ag_cons (eg_methP (ps, T, t.1, t.2) ⟨ok.tr, sub⟩ (eg_fldO cl (no_Pool_shape W) (eg_var rfl) rfl) (ins_obj rfl) (ag_cons (eg_var rfl) ag_nil) (fun _ => .nil) rfl) ag_nil) cg_lenD) (by rw [List.length_map, List.length_cons, Fo.order_length])) ?_
    have rsm : ∀ x, x ∈ segs (t.2.width + 1) (S.map fun x => x.drop n) ↔ x ∈ S.map fun r => (r.drop n).take (t.2.width + 1) := fun x => by
      unfold segs
      rw [mem_dd, List.map_map]
      rfl
    refine sq_drop (eg_append (j := 0) (R := rD (optN (bunchP t.1 t.2 hh (segs (t.2.width + 1) (S.map fun x => x.drop n))).1)) (eg_var rfl) ⟨0, _, rfl⟩ (Eg.words (L' := wNum P w pn hh :: wHeld ph hh :: wFnd pf fs :: F) ((xg_call (F := wFnd pf fs :: F) (ps, T, pn, ph, hh, t, segs (t.2.width + 1) (S.map fun x => x.drop n)) ⟨ok.tr, sub, g1, by show t.2.depth < d; omega, by show (segs _ _).length < 64; omega, by show hh.length + (segs (t.2.width + 1) (S.map fun x => x.drop n)).length * (t.2.width + 1) < 90000; omega⟩
      (ag_cons (eg_var rfl) (ag_cons (eg_var rfl) (ag_cons (eg_sortSet (rs := S.map fun r => (r.drop n).take (t.2.width + 1)) (ts := segs (t.2.width + 1) (S.map fun x => x.drop n)) rfl rfl (Eg.to (eg_lcA (L1 := wNum P w pn hh :: wHeld ph hh :: wFnd pf fs :: F) S (ig_listX (f := tupI) (eg_var rfl)) (by omega) (fun _ => trivial) (fun r => tupI ((r.drop n).take (t.2.width + 1))) fun i r hr' R ⟨y, hy, hR⟩ => ?_) (by unfold rowsD; rw [List.map_map]; rfl)) (by rw [List.length_map]; exact few) (fun r hr' e => ?_) fun us u1 u2 u3 => sorted_one (sorted_le u1 u2) g1.sorted fun x => (u3 x).trans (rsm x).symm) ag_nil))) (fun _ => .nil) rfl).eg _ _ fun _ _ => ⟨fun _ _ r => r, rfl⟩) (fun D H h => h.rot3.rot3) (fun D H h => h.rot3)) rfl (by rw [List.length_map, g3]; simp; omega)) ?_
    · subst hR
      rw [hr'] at hy; cases hy
      refine ⟨_, _, tgt_name, by simp, fun Fr => Eg.to (eg_slT (ds := r.map .int) (eg_var rfl) (tog_some (eg_var rfl)) (tog_some (eg_op (eg_var rfl) (eg_var rfl) og_add))) ?_⟩
      rw [cut_nat, ← List.map_drop, ← List.map_take]
    · have := g1.width r ((rsm r).mpr hr')
      rw [e] at this
      simp at this
    · refine go_aug (f := fun a b => a + b) rfl (eg_var rfl) ?_
      have ew : wFnd pf (fs ++ [(bunchP t.1 t.2 hh (segs (t.2.width + 1) (S.map fun x => x.drop n))).1]) = mL pf ((fs.map fun x => rD (optN x)) ++ [rD (optN (bunchP t.1 t.2 hh (segs (t.2.width + 1) (S.map fun x => x.drop n))).1)]) := by unfold wFnd; rw [List.map_append]; rfl
      unfold stT at kN
      simp only at kN
      rw [ew] at kN
      have ei : ((n + (t.2.width + 1) : Nat) : Int) = (n : Int) + ((t.2.width + 1 : Nat) : Int) := by omega
      rw [ei] at kN
      refine kN.less (less_of rfl fun i h => ?_)
      match i with
      | 0 => exact .inr rfl
      | 1 => exact .inr rfl
      | 2 => exact .inr rfl
      | 3 => exact .inr rfl
      | 4 => exact .inr rfl
      | 5 => exact .inl rfl
      | 6 => exact .inl rfl
      | 7 => exact .inr rfl
      | i + 8 => exact absurd h (by show ¬ i + 8 < 8; omega)
  · rw [all]
    refine go_ret (Eg.tup (ds := (splitP G h S).1.map optN) (eg_cb (ag_cons (Eg.imp (eg_frz rfl) fun D v hv => hv) ag_nil) (Cg.imp cg_tupL fun D v hv => by rw [List.map_map]; exact hv))) fun v D H e hd r => q v D H () e trivial hd r
end
end Fb

namespace Fb
open PySem PySem.Spec L2 Evl
open C8 (Cal Met Mak)
/-- rows in groups by their first value -/
structure HInv (a : List Row) (es : List HEnt) : Prop where
  keys : es.map (·.1) = dd (a.map fun x => x.headD 0)
  at' : ∀ e ∈ es, e.2.2 = (restOf e.1 a).map rowR
theorem HInv.nil : HInv [] [] := ⟨rfl, fun e h => nomatch h⟩
theorem HInv.nd {a : List Row} {es : List HEnt} (g : HInv a es) : (es.map (·.1)).Nodup := by rw [g.keys]; exact nodup_dd _
theorem HInv.len {a : List Row} {es : List HEnt} (g : HInv a es) : es.length ≤ a.length := by
  have := congrArg List.length g.keys
  rw [List.length_map] at this
  have h2 := dd_length_le (a.map fun x => x.headD 0)
  rw [List.length_map] at h2
  omega
theorem HInv.small {a : List Row} {es : List HEnt} (g : HInv a es) : ∀ e ∈ es, e.2.2.length ≤ a.length := fun e he => by
  rw [g.at' e he, List.length_map]
  exact rest_length _ _
theorem HInv.step {a : List Row} {es es' : List HEnt} {r : Row} (g : HInv a es) (h : HStep es (r.headD 0) (rowR r.tail) es') : HInv (a ++ [r]) es' := by
  have fl : ∀ v, restOf v (a ++ [r]) = restOf v a ++ if r.headD 0 = v then [r.tail] else [] := fun v => by
    unfold restOf
    rw [List.filter_append, List.map_append]
    congr 1
    by_cases e : r.headD 0 = v
    · rw [if_pos e, List.filter_cons, if_pos (decide_eq_true e)]; rfl
    · rw [if_neg e, List.filter_cons, if_neg (by rw [decide_eq_false e]; decide)]; rfl
  have kk : dd ((a ++ [r]).map fun x => x.headD 0) = if r.headD 0 ∈ es.map (·.1) then es.map (·.1) else es.map (·.1) ++ [r.headD 0] := by
    rw [List.map_append, List.map_cons, List.map_nil, dd_snoc, ← g.keys]
    have : r.headD 0 ∈ (a.map fun x => x.headD 0) ↔ r.headD 0 ∈ es.map (·.1) := by rw [g.keys, mem_dd]
    by_cases q : r.headD 0 ∈ es.map (·.1)
    · rw [if_pos q, if_pos (this.mpr q)]
    · rw [if_neg q, if_neg fun z => q (this.mp z)]
  rcases h with ⟨n, q, Rs, hn, rfl⟩ | ⟨hk, q, rfl⟩
  · have hm : (es.set n (r.headD 0, q, Rs ++ [rowR r.tail])).map (·.1) = es.map (·.1) := set_map_same hn rfl
    have mm : r.headD 0 ∈ es.map (·.1) := List.mem_map.mpr ⟨_, List.mem_of_getElem? hn, rfl⟩
    refine ⟨by rw [hm, kk, if_pos mm], fun e he => ?_⟩
    obtain ⟨i, hi⟩ := List.mem_iff_getElem?.mp he
    rw [List.getElem?_set] at hi
    by_cases z : n = i
    · rw [if_pos z] at hi
      by_cases l : n < es.length
      · rw [if_pos l] at hi
        cases hi
        have h2 : Rs = (restOf (r.headD 0) a).map rowR := g.at' _ (List.mem_of_getElem? hn)
        rw [fl, if_pos rfl, List.map_append, ← h2]
        rfl
      · rw [if_neg l] at hi; cases hi
    · rw [if_neg z] at hi
      rw [fl, if_neg, List.append_nil]
      · exact g.at' e (List.mem_of_getElem? hi)
      · intro w
        have a1 : (es.map (·.1))[n]? = some (r.headD 0) := by rw [List.getElem?_map, hn]; rfl
        have a2 : (es.map (·.1))[i]? = some (r.headD 0) := by rw [List.getElem?_map, hi, w]; rfl
        exact z ((List.getElem?_inj (List.getElem?_eq_some_iff.mp a1).1 g.nd).mp (a1.trans a2.symm))
  · refine ⟨by rw [kk, if_neg hk, List.map_append]; rfl, fun e he => ?_⟩
    rcases List.mem_append.mp he with he | he
    · rw [fl, if_neg, List.append_nil]
      · exact g.at' e he
      · exact fun w => hk (w ▸ List.mem_map.mpr ⟨e, he, rfl⟩)
    · rw [List.mem_singleton.mp he]
      show [rowR r.tail] = _
      rw [fl, if_pos rfl]
      have : restOf (r.headD 0) a = [] := by
        unfold restOf
        rw [List.map_eq_nil_iff, List.filter_eq_nil_iff]
        intro x hx
        simp only [decide_eq_true_eq]
        exact fun w => hk (by rw [g.keys, mem_dd, ← w]; exact List.mem_map.mpr ⟨x, hx, rfl⟩)
      rw [this]
      rfl
/-- what the first heads have made -/
def stN (k : Fo Str) (R : List Row) (h : List (Bun Str)) (x : Nat) : SpSt Str := ((heads R).take x).foldl (spStep k R) ([], h)
section
variable {P : Program} {w : World} {K : PySem.W.Frag} {mg : Str → Option Value} {base : Heap}
theorem tops_len {N : Type} (F : Fo N) : F.trees.length ≤ F.order.length := by
  have h1 := tops_le F
  rw [trees_tops, List.length_map] at h1
  exact h1
theorem bunch_of_of (W : Wo K mg base) (d : Nat) (c_split_rows : Cal P w K mg base (13 + 2 * d) "split_rows" (sp_split_rows P w K d) []) : Cal P w K mg base (12 + 2 * (d + 1)) "bunch_of" (sp_bunch_of P w K (d + 1)) [] := by
  have c_Tree_children := c_Tree_children (P := P) (w := w) W
  have c_Pool_put := c_Pool_put (P := P) (w := w) W
  have e13 : 12 + 2 * (d + 1) = (13 + 2 * d) + 1 := by omega
  rw [e13]
  refine cal_of (f_bunch_of W) (g_bunch_of W) b_bunch_of sc_bunch_of (fun _ _ => rfl) fun cdv A' outer s H E hr => ⟨_, (pss_cons (ps_set (i := 3) sc_bunch_of.nd rfl (by first | exact Or.inl rfl | exact Or.inr rfl) pe_dnewK)
    (pss_cons (ps_for PassesOwn.never rfl (pi_listK K (pv 2)) (pg_name (i := 4) sc_bunch_of.nd rfl (by first | exact Or.inl rfl | exact Or.inr rfl)) (pss_one (ps_expr (pe_bmK K PySem.F.plainAttrs_list PySem.F.slot_list_append PySem.F.type_list_append mt_append (pe_setdefK (pv 3) (pe_ix (kIx K rIxT ix_tup) (pv 4) pe_int fun _ _ => rfl) (pe_lst pa_nil) ⟨rfl, rfl, rfl, rfl⟩) (pa_cons (pe_slice (kSl K rSlA sl_tupA) (pv 4) (po_some pe_int) po_none) pa_nil)))))
    (pss_cons (ps_set (i := 5) sc_bunch_of.nd rfl (by first | exact Or.inl rfl | exact Or.inr rfl) (C8.pe_mt c_Tree_children hr (by first | decide | omega) (pe_fldK K (pv 0)) (pa_cons (pv 1) pa_nil)))
    (pss_one (ps_ret (C8.pe_mt c_Pool_put hr (by first | decide | omega) (pv 0) (pa_cons (pv 1) (pa_cons (pe_lock (pe_lc (own := [("value", 6), ("some", 7)]) (g := (gTup K 2 (gCons (gName 6) (gCons (gName 7) gNil)))) rfl sc_bunch_of.nd (pi_items (pv 3)) (blkOk_by (own := [("value", 6), ("some", 7)]) (N := N_bunch_of) (sc := defScope s_bunch_of) (by decide +kernel)) (fun _ _ _ _ _ => (pg_tupK K rfl (pgs_cons (pg_name (i := 6) sc_bunch_of.nd rfl (by first | exact Or.inl rfl | exact Or.inr rfl)) (pgs_cons (pg_name (i := 7) sc_bunch_of.nd rfl (by first | exact Or.inl rfl | exact Or.inr rfl)) pgs_nil)))) (fun _ _ _ _ _ => pts_nil) (fun _ _ _ _ _ => (pe_tup (pa_cons (pv 6) (pa_cons (C8.pe_c c_split_rows hr (by first | decide | omega) rfl (pa_cons (pv 0) (pa_cons (pv 5) (pa_cons (pv 7) pa_nil)))) pa_nil)))))) pa_nil)))))))), ?_⟩
  rintro ⟨ps, T, pn, ph, h, ⟨c, k⟩, R⟩ F D0 Q ok q
  simp only at ok q
  have cl := cl_Pool W
  have few := ok.few
  have rm := ok.room
  simp only at rm
  have tr := ok.tr
  have sb := ok.sub
  have gd := ok.good
  have dp := ok.dep
  simp only at sb gd dp
  have wd := gd.width
  have ko : k.order.length ≤ 8 := by
    have nd := (List.nodup_cons.mp (Sub.nodup tr.sh.nd sb)).2
    exact Nat.le_trans (List.Nodup.length_le_of_subset nd fun x hx => Sub.order sb x hx) tr.few
  have kt : k.trees.length ≤ 8 := Nat.le_trans (tops_len k) ko
  refine sq_newHr fun p => ?_
  refine sq_for (ι := List HEnt) (ig_listX (xs := R) (f := tupI) (eg_var rfl)) (fun i es => HInv (R.take i) es) (fun _ _ => [some (rPool P w K ps T pn ph), some (rD (.str c)), some (rD (rowsD R)), some (rV (.ref p)), none, none, none, none]) (fun _ es => wHr p es :: wNum P w pn h :: wHeld ph h :: F)
    ⟨[], HInv.nil, Less.refl _, rfl⟩ (fun _ _ _ _ => trivial) ?_ ?_
  · rintro i es R' D1 N hi e1 g ⟨r, hx, rfl⟩ kN
    have mr : r ∈ R := List.mem_of_getElem? hx
    have wr := wd r mr
    have g1 := g.len
    have g2 := g.small
    have tl : (R.take i).length ≤ R.length := by rw [List.length_take]; omega
    cases r with
    | nil => simp at wr
    | cons v tl' =>
      refine ⟨_, _, tgt_name, ?_⟩
      refine go_happ (j := 0) (k := v) (R := rowR tl') (eg_var rfl) (eg_op (eg_var rfl) eg_int (og_ixDT (ds := (v :: tl').map .int) (i := 0) (atI_nat (i := 0) rfl))) (fun L2 => Eg.to (eg_slT (ds := (v :: tl').map .int) (eg_var rfl) (tog_some eg_int) tog_none) (by rw [cut_tail]; rfl)) rfl (by omega) (fun e he => by have := g2 e he; omega) fun es' hs => ?_
      have g3 := g.step (r := v :: tl') hs
      have et : R.take (i + 1) = R.take i ++ [v :: tl'] := by rw [List.take_add_one, hx]; rfl
      rw [← et] at g3
      refine (kN es' g3).less (less_of rfl fun i h => ?_)
      match i with
      | 0 => exact .inr rfl
      | 1 => exact .inr rfl
      | 2 => exact .inr rfl
      | 3 => exact .inr rfl
      | 4 => exact .inl rfl
      | 5 => exact .inr rfl
      | 6 => exact .inr rfl
      | 7 => exact .inr rfl
      | i + 8 => exact absurd h (by show ¬ i + 8 < 8; omega)
  · intro es g
    rw [List.take_length] at g
    have gk : es.map (·.1) = heads R := g.keys
    have gl : es.length = (heads R).length := by rw [← gk, List.length_map]
    have hl := heads_length R
    have nh : (heads R).Nodup := nodup_dd _
    have rs := rest_sum R nh
    have sl := spFold_length k R (split_length k) (heads R) ([], h)
    have sl : ((heads R).foldl (spStep k R) ([], h)).2.length ≤ h.length + ((heads R).map fun v => (restOf v R).length).sum * k.width := sl
    have rw' := Nat.mul_le_mul_right k.width rs
    rw [Nat.mul_add] at rm
    have st1 := spStep_len (k := k) (R := R) (heads R) ([], h)
    have st1 : ((heads R).foldl (spStep k R) ([], h)).1.length = 0 + (heads R).length := st1
    have l2 : ((heads R).foldl (spStep k R) ([], h)).2.length < 100000 := by omega
    have l1 : ((heads R).foldl (spStep k R) ([], h)).1.length < 100000 := by omega
    refine sq_asg (R := rD (strL k.tops)) (Eg.to (eg_methP (ps, T, some c) ⟨tr, fun c' e => by cases e; exact sb.mem⟩ (eg_fldO cl (no_Pool_shape W) (eg_var rfl) rfl) (ins_obj rfl) (ag_cons (eg_var rfl) ag_nil) (fun _ => .nil) rfl) (by rw [tr.sh.kids c k sb])) ?_
    refine go_ret (Eg.words ((xg_meth (F := wTab (ohK (hKs es)) p [] :: F) (ps, T, pn, ph, ((heads R).foldl (spStep k R) ([], h)).2, c, ((heads R).foldl (spStep k R) ([], h)).1) ⟨l2, l1⟩ (eg_var rfl) (ins_obj rfl) (ag_cons (eg_var rfl) (ag_cons (Eg.words (L' := wHr p es :: wNum P w pn h :: wHeld ph h :: F) (L2 := wTab (ohK (hKs es)) p [] :: wNum P w pn ((heads R).foldl (spStep k R) ([], h)).2 :: wHeld ph ((heads R).foldl (spStep k R) ([], h)).2 :: F)
      (Xg.eg (xg_lock (ι := Unit) (okz := fun _ => True) (j := 0) (qs := hQs es) (O := ohK (hKs es)) mut_ohK rfl (Lz := fun od u (_ : Unit) => wLk od u (ohK (hKs es)) p (hQs es) :: wNum P w pn ((heads R).foldl (spStep k R) ([], h)).2 :: wHeld ph ((heads R).foldl (spStep k R) ([], h)).2 :: F) (Rz := fun _ => rD (.list (((heads R).foldl (spStep k R) ([], h)).1.map entOD))) (Lo := fun _ => wTab (ohK (hKs es)) p [] :: wNum P w pn ((heads R).foldl (spStep k R) ([], h)).2 :: wHeld ph ((heads R).foldl (spStep k R) ([], h)).2 :: F) (fun od u z => ⟨rfl, rfl⟩)
        fun od u => ?_) _ _ fun _ _ => ⟨fun _ _ r => r, rfl⟩) (fun D H h => h) (fun D H h => h.rot3.rot3)) ag_nil)) (fun _ => .nil) rfl).eg _ _ fun _ _ => ⟨fun _ _ r => r, rfl⟩) (fun D H h => h) (fun D H h => h)) fun v D H e hd r => q v D H () e trivial (hd.rot3.tail) r
    intro σ D H gv hd Q' q'
    refine xg_lc (L1 := wLk od u (ohK (hKs es)) p (hQs es) :: wNum P w pn h :: wHeld ph h :: F) (ig_itemsH (j := 0) (es := es) (od := od) (u := u) (eg_var rfl) rfl) (by omega) (ι := Nat) (fun i x => x = i)
      (fun _ x => wLk od u (ohK (hKs es)) p (hQs es) :: wNum P w pn (stN k R h x).2 :: wHeld ph (stN k R h x).2 :: F) (fun x => (stN k R h x).1.map fun e => rD (entOD e)) ⟨0, rfl, rfl, rfl⟩ (fun i x e => ?_) (fun i x F' _ _ => ⟨0, rfl⟩) (fun i x R' hi ex ⟨e, he, hR⟩ => ?_) σ D H gv hd Q' fun v D2 H2 e2 ⟨x, hx, h2, r2⟩ => ?_
    · subst e
      have := spStep_len (k := k) (R := R) ((heads R).take x) ([], h)
      rw [List.length_map]
      unfold stN
      rw [this, List.length_take]
      show 0 + _ ≤ _
      omega
    · subst ex hR
      have hk : (heads R)[x]? = some e.1 := by rw [← gk, List.getElem?_map, he]; rfl
      have hv : e.1 ∈ heads R := List.mem_of_getElem? hk
      have hr' := g.at' e (List.mem_of_getElem? he)
      have hs : stN k R h (x + 1) = spStep k R (stN k R h x) e.1 := by unfold stN; rw [List.take_add_one, hk, List.foldl_append]; rfl
      have hx := (List.getElem?_eq_some_iff.mp hk).1
      have sp : heads R = (heads R).take x ++ e.1 :: (heads R).drop (x + 1) := by
        have h := (List.take_append_drop x (heads R)).symm
        rw [List.drop_eq_getElem_cons hx] at h
        have : (heads R)[x] = e.1 := by rw [List.getElem?_eq_getElem hx] at hk; exact Option.some.inj hk
        rw [this] at h
        exact h
      have br : (stN k R h x).2.length + (restOf e.1 R).length * k.width ≤ h.length + R.length * k.width := bunch_room k h R sp
      have gr := gd.rest e.1 hv
      have rl := rest_length e.1 R
      refine ⟨_, _, tgt_tup (tgs_cons tgt_name (tgs_cons tgt_name tgs_nil)) rfl, by simp, true, fun Fr => tg_yes, fun _ Fr => ?_, fun z => nomatch z⟩
      generalize stN k R h x = st at br hs ⊢
      intro σ D H gv hd Q q
      refine (Eg.tup (ds := [.int e.1, .tuple ((splitP k st.2 (restOf e.1 R)).1.map optN)]) (eg_tup (ag_cons (eg_var rfl) (ag_cons (Eg.words (L' := wNum P w pn st.2 :: wHeld ph st.2 :: wLk od u (ohK (hKs es)) p (hQs es) :: (F ++ Fr)) ((xg_call (F := wLk od u (ohK (hKs es)) p (hQs es) :: (F ++ Fr)) (ps, T, pn, ph, st.2, k, restOf e.1 R) ⟨tr, fun t ht => sb.trans (Fo.trees_sub ht), gr, by show k.depth ≤ d; omega, by show (restOf e.1 R).length < 64; omega, kt, by show st.2.length + (restOf e.1 R).length * k.width < 90000; omega⟩ (ag_cons (eg_var rfl) (ag_cons (eg_var rfl) (ag_cons (Eg.imp (eg_var rfl) fun D v hv => rD_lst (by rw [List.map_map]; rw [hr'] at hv; exact hv)) ag_nil))) (fun _ => .nil) rfl).eg _ _ fun _ _ => ⟨fun _ _ r => r, rfl⟩) (fun D H h => h.rot3.rot3) (fun D H h => h.rot3)) ag_nil)) (by simp))) σ D H gv hd Q fun v D2 H2 e2 h2 r2 => q v D2 H2 e2 ⟨x + 1, rD (entOD (e.1, (splitP k st.2 (restOf e.1 R)).1)), rfl, ?_, ?_, r2⟩
      · rw [hs]; exact h2
      · rw [hs]
        show (st.1 ++ [(e.1, (splitP k st.2 (restOf e.1 R)).1)]).map _ = _
        rw [List.map_append]
        rfl
    · subst hx
      have e3 : stN k R h es.length = (heads R).foldl (spStep k R) ([], h) := by unfold stN; rw [gl, List.take_length]
      rw [e3] at h2 r2
      exact q' v D2 H2 e2 ⟨(), trivial, h2, rD_lst (by rw [List.map_map]; exact r2)⟩
end
end Fb

namespace Fb
open PySem PySem.Spec L2 Evl
open C8 (Cal Met Mak)
theorem split_small : ∀ (F : Fo Str) (h : List (Bun Str)) (S : List Row), S.length ≤ 1000 → F.order.length ≤ 1000 → Small h → Small (splitP F h S).2 ∧ (splitP F h S).1.length = F.trees.length
  | .nil, h, S, _, _, hs => ⟨hs, rfl⟩
  | .cons c k r, h, S, h1, h2, hs => by
    rw [splitP_cons]
    have lk : k.order.length ≤ 1000 ∧ r.order.length ≤ 1000 := by simp [Fo.order] at h2; omega
    have sg := segs_length (k.width + 1) S
    have go : ∀ (R : List Row), R.length ≤ 1000 → ∀ (vs : List Int) (st : SpSt Str), Small st.2 → (∀ e ∈ st.1, e.2.length ≤ 1000) → Small (vs.foldl (spStep k R) st).2 ∧ ∀ e ∈ (vs.foldl (spStep k R) st).1, e.2.length ≤ 1000 := fun R hR vs => by
      induction vs with
      | nil => exact fun st a b => ⟨a, b⟩
      | cons v vs ih =>
        intro st a b
        have rl := rest_length v R
        obtain ⟨g1, g2⟩ := split_small k st.2 (restOf v R) (by omega) lk.1 a
        rw [List.foldl_cons]
        refine ih (spStep k R st v) g1 fun e he => ?_
        rcases List.mem_append.mp he with he | he
        · exact b e he
        · rw [List.mem_singleton.mp he]
          show (splitP k st.2 (restOf v R)).1.length ≤ 1000
          rw [g2]
          have := tops_len k
          omega
    have hl := heads_length (segs (k.width + 1) S)
    have sl := spStep_len (k := k) (R := segs (k.width + 1) S) (heads (segs (k.width + 1) S)) ([], h)
    obtain ⟨b1, b2⟩ := go (segs (k.width + 1) S) (by omega) (heads (segs (k.width + 1) S)) ([], h) hs fun e he => nomatch he
    have b3 := (putP_big (c := c) (by rw [sl]; simp; omega) b2 b1).2
    obtain ⟨r1, r2⟩ := split_small r (bunchP c k h (segs (k.width + 1) S)).2 (S.map fun x => x.drop (k.width + 1)) (by rw [List.length_map]; exact h1) lk.2 b3
    exact ⟨r1, by simp [Fo.trees, r2]⟩
section
variable {P : Program} {w : World} {K : PySem.W.Frag} {mg : Str → Option Value} {base : Heap}
theorem c_bunch0 (W : Wo K mg base) : Cal P w K mg base (12 + 2 * 0) "bunch_of" (sp_bunch_of P w K 0) [] := by
  show Cal P w K mg base (11 + 1) "bunch_of" (sp_bunch_of P w K 0) []
  refine cal_of (f_bunch_of W) (g_bunch_of W) b_bunch_of sc_bunch_of (fun _ _ => rfl) fun cdv A' outer s H E hr => ⟨_, pss_never, fun i F D0 Q o q => absurd o.dep (Nat.not_lt_zero _)⟩
theorem c_split_rows (W : Wo K mg base) : ∀ d, Cal P w K mg base (13 + 2 * d) "split_rows" (sp_split_rows P w K d) []
  | 0 => split_of W 0 (c_bunch0 W)
  | d + 1 => split_of W (d + 1) (bunch_of_of W d (c_split_rows W d))
structure FdOk (ps : Prs Str) (T : Fo Str) (S : List Row) : Prop where
  mx : MixOk ps T S
  tb : TblOk T.order S S
  few : S.length < 64
theorem FdOk.fld {ps : Prs Str} {T : Fo Str} {S : List Row} (k : FdOk ps T S) (g : Good T S) : FldOk (splitP T [] S).2 (some (splitP T [] S).1) := by
  have few := k.few
  have tr := k.mx.tr
  have t8 := tr.few
  have sem := folded_sem (n := 8) tr.sh.nd g tr.dep
  obtain ⟨s1, s2⟩ := split_small T [] S (by omega) (by omega) fun b h => nomatch h
  have tl := tops_len T
  refine ⟨fun X e => ?_, fun X e => ?_, ?_, s1⟩
  · cases e; exact .inr sem.2.2
  · cases e; rw [s2]; omega
  · have := split_length T [] S
    have h2 : S.length * T.width ≤ 63 * 8 := Nat.mul_le_mul (by omega) (by rw [← Fo.order_length]; exact t8)
    simp only [List.length_nil] at this
    omega
abbrev sp_folded (P : Program) (w : World) (K : PySem.W.Frag) : Sp := spP (fun i : MixI => FdOk i.1 i.2.1 i.2.2) (fun i => [rTable K i.2.1.order i.2.2, rTree P w K i.1 i.2.1]) fun i => rTup [rD (.str "fold"), rFold P w K i.1 i.2.1 (foldedP 8 i.2.1 i.2.2).1 (foldedP 8 i.2.1 i.2.2).2]
theorem c_folded (W : Wo K mg base) : Cal P w K mg base 30 "folded" (sp_folded P w K) [] := by
  have c_want_columns := c_want_columns (P := P) (w := w) W
  have c_Tree_columns := c_Tree_columns (P := P) (w := w) W
  have c_Table_of := c_Table_of (P := P) (w := w) W
  have c_Table_rows := c_Table_rows (P := P) (w := w) W
  have c_first_mixed := c_first_mixed (P := P) (w := w) W
  have c_Pool := c_Pool (P := P) (w := w) W
  have c_Pool_fold := c_Pool_fold (P := P) (w := w) W
  have c_split_rows := c_split_rows (P := P) (w := w) W 8
  have c_Tree_children0 := c_Tree_children0 (P := P) (w := w) W
  refine cal_of (f_folded W) (g_folded W) b_folded sc_folded (fun _ _ => rfl) fun cdv A' outer s H E hr => ⟨_, (pss_cons (ps_expr (C8.pe_c c_want_columns hr (by first | decide | omega) rfl (pa_cons (pv 0) (pa_cons (pv 1) pa_nil))))
    (pss_cons (ps_set (i := 2) sc_folded.nd rfl (by first | exact Or.inl rfl | exact Or.inr rfl) (C8.pe_mt0 c_Table_rows hr (by decide) (C8.pe_mt c_Table_of hr (by first | decide | omega) (pv 0) (pa_cons (C8.pe_mt0 c_Tree_columns hr (by decide) (pv 1)) pa_nil))))
    (pss_cons (ps_set (i := 3) sc_folded.nd rfl (by first | exact Or.inl rfl | exact Or.inr rfl) (C8.pe_c c_first_mixed hr (by first | decide | omega) rfl (pa_cons (pv 1) (pa_cons (pv 2) pa_nil))))
    (pss_cons (ps_if (pt_cmp (pc_notN (pv 3))) (pss_one (ps_ret (pv 3))) pss_nil)
    (pss_cons (ps_set (i := 4) sc_folded.nd rfl (by first | exact Or.inl rfl | exact Or.inr rfl) (C8.pe_mk c_Pool hr (by decide) rfl (pa_cons (pv 1) pa_nil)))
    (pss_cons (ps_if (pt_cmpR (kOp K rEqD (op_eqD hr.units)) (pv 2) (pe_lst pa_nil) (nomark _)) (pss_one (ps_ret (pe_tup (pa_cons pe_str (pa_cons (C8.pe_mt c_Pool_fold hr (by first | decide | omega) (pv 4) (pa_cons pe_non pa_nil)) pa_nil))))) pss_nil)
    (pss_one (ps_ret (pe_tup (pa_cons pe_str (pa_cons (C8.pe_mt c_Pool_fold hr (by first | decide | omega) (pv 4) (pa_cons (C8.pe_c c_split_rows hr (by first | decide | omega) rfl (pa_cons (pv 4) (pa_cons (C8.pe_mt0 c_Tree_children0 hr (by decide) (pv 1)) (pa_cons (pv 2) pa_nil)))) pa_nil)) pa_nil))))))))))), ?_⟩
  rintro ⟨ps, T, S⟩ F D0 Q ok q
  simp only at ok q
  have tr := ok.mx.tr
  have few := ok.few
  refine sq_drop (eg_callP (ps, T, S) tr (ag_cons (eg_var rfl) (ag_cons (eg_var rfl) ag_nil)) rfl) ?_
  refine sq_asg (R := rD (rowsD S)) (eg_methP (T.order, S) trivial (eg_methP (T.order, S) ok.tb (eg_var rfl) (ins_obj rfl) (ag_cons (eg_methP (ps, T, ()) ⟨tr, trivial⟩ (eg_var rfl) (ins_obj rfl) ag_nil (fun _ => .nil) rfl) ag_nil) (fun _ => .nil) rfl) (ins_obj rfl) ag_nil (fun _ => .nil) rfl) ?_
  refine sq_asg (eg_callP (ps, T, S) ok.mx (ag_cons (eg_var rfl) (ag_cons (eg_var rfl) ag_nil)) rfl) ?_
  refine sq_no (Tg.to (tg_test (eg_notN (b := true) (eg_var rfl) fun D v hv => by rw [non_of hv]; rfl)) rfl) ?_
  refine sq_asgX (eg_make (F := F) (As := [rTree P w K ps T]) (Ds := []) (flds := fun (k : Addr × Addr) => polF P w K ps T k.1 k.2) (Lr := fun k => wNum P w k.1 [] :: wHeld k.2 [] :: F) (ps, T) (fun x dx => trivial) (ag_cons (eg_var rfl) ag_nil) (fun _ => .nil) (fun _ _ => rfl) (fun _ _ => rfl) (fun _ _ _ _ => rfl) fun _ _ _ => rfl) fun ⟨pn, ph⟩ _ => ?_
  have pS : Pl 2 (rowsD S) := .list fun d hd => by
    obtain ⟨z, _, rfl⟩ := List.mem_map.mp hd
    exact Pl.tuple (n := 0) fun d hd => by
      obtain ⟨z, _, rfl⟩ := List.mem_map.mp hd
      exact .int
  refine sq_if (b := decide (S = [])) (tg_test (eg_op (eg_var rfl) (Eg.lst (ds := []) (eg_lst ag_nil (by simp))) (og_eqP pS (Pl.list (n := 0) (fun d hd => nomatch hd)) (by omega) (by omega) (by simp)))) (fun e => ?_) (fun e => ?_)
  · have e' : S = [] := of_decide_eq_true e
    have ef : foldedP 8 T S = finO [] none := if_pos e'
    rw [ef] at q
    refine go_ret (eg_tup (ag_cons eg_str (ag_cons (Eg.words (L' := wHeld ph [] :: wNum P w pn [] :: F) ((xg_meth (F := wNum P w pn [] :: F) (ps, T, pn, ph, [], none) ⟨fun X e => (nomatch e), fun X e => (nomatch e), by simp, fun b h => nomatch h⟩ (eg_var rfl) (ins_obj rfl) (ag_cons eg_non ag_nil) (fun _ => .nil) rfl).eg _ _ fun _ _ => ⟨fun _ _ r => r, rfl⟩) (fun D H h => h.swap) (fun D H h => h)) ag_nil)) (by simp)) fun v D H e hd r => q v D H () e trivial hd.tail r
  · have e' : S ≠ [] := of_decide_eq_false e
    have ef : foldedP 8 T S = finO (splitP T [] S).2 (some (splitP T [] S).1) := if_neg e'
    rw [ef] at q
    have g := ok.mx.good.resolve_left e'
    have fld := ok.fld g
    have t8 := tr.few
    have tl := tops_len T
    have h2 : S.length * T.width ≤ 63 * 8 := Nat.mul_le_mul (by omega) (by rw [← Fo.order_length]; exact t8)
    refine go_ret (eg_tup (ag_cons eg_str (ag_cons (Eg.words (L' := wNum P w pn [] :: wHeld ph [] :: F) (xg_meth (F := wNum P w pn (splitP T [] S).2 :: F) (ps, T, pn, ph, (splitP T [] S).2, some (splitP T [] S).1) fld (eg_var rfl) (ins_obj rfl) (ag_cons (Eg.words (L' := wNum P w pn [] :: wHeld ph [] :: F) ((xg_call (F := F) (ps, T, pn, ph, [], T, S) ⟨tr, fun t ht => Fo.trees_sub ht, g, tr.dep, few, by show T.trees.length ≤ 8; omega, by show 0 + S.length * T.width < 90000; omega⟩ (ag_cons (eg_var rfl) (ag_cons (Eg.to (eg_methP (ps, T, none) ⟨tr, fun c' e => nomatch e⟩ (eg_var rfl) (ins_obj rfl) ag_nil (Ds := [rD .none]) (fun _ => .cons .non .nil) rfl) (by rw [tr.sh.tops])) (ag_cons (eg_var rfl) ag_nil))) (fun _ => .nil) rfl).eg (rD (topO (some (splitP T [] S).1))) (wNum P w pn (splitP T [] S).2 :: wHeld ph (splitP T [] S).2 :: F) fun _ _ => ⟨fun _ _ r => r, rfl⟩) (fun D H h => h) (fun D H h => h.swap)) ag_nil) (fun _ => .nil) rfl |>.eg _ _ fun _ _ => ⟨fun _ _ r => r, rfl⟩) (fun D H h => h) (fun D H h => h)) ag_nil)) (by simp)) fun v D H e hd r => q v D H () e trivial hd.tail r
end
end Fb

/-! The law's own draws: a well that changes, ints between bounds. -/
namespace Fb
open PySem PySem.Spec L2 Evl
/-- a well -/
def wWl (p : Addr) (m : Nat) : Wd where
  dom := [p]
  s := fun D H => D p = none ∧ ∃ a b c : Int, (0 ≤ b ∧ b < 2147483648 ∧ 0 ≤ c ∧ c ≤ (m : Int)) ∧ H p = some (.lst [.int a, .int b, .int c])
  al := fun {D H a} h ha => by
    rw [List.mem_singleton] at ha; subst ha
    obtain ⟨h1, _, _, _, _, h2⟩ := h
    exact ⟨⟨_, h2⟩, h1⟩
  st := fun {D H D' H'} h e k => by
    obtain ⟨h1, a, b, c, h2, h3⟩ := h
    obtain ⟨k1, k2⟩ := k p (List.mem_singleton.mpr rfl)
    exact ⟨k2, a, b, c, h2, by rw [k1]; exact h3⟩
abbrev wlR (a b c : Int) : List Rp := [rD (.int a), rD (.int b), rD (.int c)]
section
variable {D H : Hp} {L : List Wd} {p : Addr} {m m' : Nat}
theorem Hd.wlOpen (h : Hd D H (wWl p m :: L)) : ∃ a b c : Int, (0 ≤ b ∧ b < 2147483648 ∧ 0 ≤ c ∧ c ≤ (m : Int)) ∧ Hd D H (mL p (wlR a b c) :: L) := by
  obtain ⟨h1, a, b, c, h2, h3⟩ := h.s 0 _ rfl
  exact ⟨a, b, c, h2, h.set (j := 0) (w' := mL p (wlR a b c)) rfl (fun _ _ => rfl) (fun _ h => h) ⟨h1, _, h3, .cons (.int a) (.cons (.int b) (.cons (.int c) .nil))⟩⟩
theorem Hd.wlClose {a b c : Int} (h : Hd D H (mL p (wlR a b c) :: L)) (k : 0 ≤ b ∧ b < 2147483648 ∧ 0 ≤ c ∧ c ≤ (m : Int)) : Hd D H (wWl p m :: L) := by
  obtain ⟨h1, vs, h2, h3⟩ := h.s 0 _ rfl
  refine h.set (j := 0) (w' := wWl p m) rfl (fun _ _ => rfl) (fun _ h => h) ⟨h1, a, b, c, k, ?_⟩
  cases h3 with
  | cons r1 t => cases t with
    | cons r2 t => cases t with
      | cons r3 t =>
        cases t
        rw [int_of r1, int_of r2, int_of r3] at h2
        exact h2
theorem Hd.wlMono (h : Hd D H (wWl p m :: L)) (k : m ≤ m') : Hd D H (wWl p m' :: L) := by
  obtain ⟨h1, a, b, c, h2, h3⟩ := h.s 0 _ rfl
  exact h.set (j := 0) (w' := wWl p m') rfl (fun _ _ => rfl) (fun _ h => h) ⟨h1, a, b, c, ⟨h2.1, h2.2.1, h2.2.2.1, by omega⟩, h3⟩
end
section
variable {K : PySem.W.Frag} {Γ Γ' : Gm} {L L1 L2' L3 L' : List Wd} {R Ra Rb Rc R' : Rp} {Rs : List Rp} {te ta tb tc tl : TE} {tr : TA} {D0 : Hp} {i : Nat} {r : R2} {E : Ends} {P : L2.St → Hp → Prop} {p : Addr} {m m' : Nat}
theorem go_wl (k : ∀ a b c : Int, 0 ≤ b ∧ b < 2147483648 ∧ 0 ≤ c ∧ c ≤ (m : Int) → Go D0 Γ (mL p (wlR a b c) :: L) P) : Go D0 Γ (wWl p m :: L) P := fun σ D H e g hd => by
  obtain ⟨a, b, c, h1, h2⟩ := hd.wlOpen
  exact k a b c h1 σ D H e g h2
/-- an int from 0 on, below n -/
abbrev rBtw (n : Int) : Rp := rX (fun r : Int => 0 ≤ r ∧ r < n) fun r => rD (.int r)
/-- any int -/
abbrev rAny : Rp := rX (fun _ : Int => True) fun r => rD (.int r)
theorem fmod_btw {a b : Int} (h : 0 < b) : 0 ≤ a.fmod b ∧ a.fmod b < b := by
  rw [Int.fmod_eq_emod_of_nonneg a (Int.le_of_lt h)]
  exact ⟨Int.emod_nonneg a (by omega), Int.emod_lt_of_pos a h⟩
theorem og_btw {i j : Int} (h : 0 < j) : Og (rI (fun _ j => j ≠ 0) fun i j => .int (i.fmod j)) (rD (.int i)) (rD (.int j)) L (rBtw j) L := fun x y D H hd rx ry Q q =>
  ⟨i, j, int_of rx, int_of ry, by omega, q _ D H (Ex.refl D) hd ⟨_, fmod_btw h, .int _⟩⟩
theorem og_mod {i j : Int} (h : j ≠ 0) : Og (rI (fun _ j => j ≠ 0) fun i j => .int (i.fmod j)) (rD (.int i)) (rD (.int j)) L (rD (.int (i.fmod j))) L := og_I h fun _ => .int _
theorem og_div {i j : Int} (h : j ≠ 0 ∧ j.natAbs < 1073741824) : Og (rI CDivN fun i j => .int (i.fdiv j)) (rD (.int i)) (rD (.int j)) L (rD (.int (i.fdiv j))) L := og_I h fun _ => .int _
theorem og_pow {i j : Int} (h : CPow i j) : Og (rI CPow fun i j => .int (i ^ j.toNat)) (rD (.int i)) (rD (.int j)) L (rD (.int (i ^ j.toNat))) L := og_I h fun _ => .int _
theorem at_get {α : Type} {xs : List α} {i : Int} (h0 : 0 ≤ i) (h1 : i < (xs.length : Int)) : ∃ x, xs[i.toNat]? = some x ∧ atI xs i = some x := by
  have hl : i.toNat < xs.length := by omega
  refine ⟨xs[i.toNat], List.getElem?_eq_getElem hl, ?_⟩
  have := L2.atI_nat (j := i.toNat) (List.getElem?_eq_getElem hl)
  rwa [Int.toNat_of_nonneg h0] at this
theorem at_ints {qs : List Int} {i : Int} (h0 : 0 ≤ i) (h1 : i < (qs.length : Int)) : ∃ q ∈ qs, atI (qs.map .int) i = some (PyData.int q) := by
  obtain ⟨x, h2, h3⟩ := at_get (xs := qs.map PyData.int) h0 (by rw [List.length_map]; exact h1)
  rw [List.getElem?_map] at h2
  cases e : qs[i.toNat]? with
  | none => rw [e] at h2; cases h2
  | some q => rw [e] at h2; cases h2; exact ⟨q, List.mem_of_getElem? e, h3⟩
/-- one of some ints -/
abbrev rOne (qs : List Int) : Rp := rX (fun q : Int => q ∈ qs) fun q => rD (.int q)
theorem og_pick {qs : List Int} {n : Int} (h : n ≤ (qs.length : Int)) : Og (rIxL K) (rD (.list (qs.map .int))) (rBtw n) L (rOne qs) L := og_Xr fun i hi => by
  obtain ⟨q, m, hq⟩ := at_ints (qs := qs) hi.1 (by omega)
  exact (og_ixD hq).imp fun D v h => ⟨q, m, h⟩
/-- an argument told by x, opened -/
theorem Eg.pre (h : Eg te Γ L' R L1) (f : ∀ D H, Hd D H L → Hd D H L') : Eg te Γ L R L1 := fun σ D H gv hd Q q => h σ D H gv (f D H hd) Q q
end
end Fb

namespace Fb
open PySem PySem.Spec L2 Evl
open C8 (Cal Met Mak)
section
variable {P : Program} {w : World} {K : PySem.W.Frag} {mg : Str → Option Value} {base : Heap}
abbrev sp_Ldraw : Sp := spX (κ := Unit) (fun i : Addr × Nat × Int => 1 ≤ i.2.2 ∧ i.2.2 < 1073741824 ∧ i.2.1 < 1000000) (fun i => [rV (.ref i.1), rD (.int i.2.2)]) (fun i => [wWl i.1 i.2.1]) (fun _ _ => True) (fun i _ => rBtw i.2.2) (fun i _ => [wWl i.1 (i.2.1 + 1)])
theorem c_Ldraw (W : Wo K mg base) : Cal P w K mg base 1 "_law_draw" sp_Ldraw [] := by
  refine cal_of (f_Ldraw W) (g__law_draw W) b_Ldraw sc_Ldraw (fun _ _ => rfl) fun cdv A' outer s H E hr => ⟨_, (pss_cons (ps_if (pt_cmpR op_gt (pe_ix (kIx K rIxL ix_list) (pv 0) pe_int fun _ _ => rfl) pe_int (nomark _)) (pss_cons (ps_set (i := 4) sc_Ldraw.nd rfl (by first | exact Or.inl rfl | exact Or.inr rfl) (pe_op op_modN (pe_ix (kIx K rIxL ix_list) (pv 0) pe_int fun _ _ => rfl) (pv 1)))
    (pss_cons (ps_asg (pe_op op_fdivN (pe_ix (kIx K rIxL ix_list) (pv 0) pe_int fun _ _ => rfl) (pv 1)) (pg_sub (pv 0) pe_int set_list))
    (pss_one (ps_ret (pv 4))))) pss_nil)
    (pss_cons (ps_asg (pe_op op_add (pe_ix (kIx K rIxL ix_list) (pv 0) pe_int fun _ _ => rfl) pe_int) (pg_sub (pv 0) pe_int set_list))
    (pss_cons (ps_set (i := 2) sc_Ldraw.nd rfl (by first | exact Or.inl rfl | exact Or.inr rfl) (pe_ix (kIx K rIxL ix_list) (pe_lst (pa_cons pe_int (pa_cons pe_int (pa_cons pe_int (pa_cons pe_int (pa_cons pe_int pa_nil)))))) (pe_op op_modN (pe_ix (kIx K rIxL ix_list) (pv 0) pe_int fun _ _ => rfl) pe_int) fun _ _ => rfl))
    (pss_cons (ps_set (i := 3) sc_Ldraw.nd rfl (by first | exact Or.inl rfl | exact Or.inr rfl) (pe_op op_modN (pe_op op_pow (pe_op op_add (pe_op op_add (pe_ix (kIx K rIxL ix_list) (pv 0) pe_int fun _ _ => rfl) (pe_op op_mul pe_int (pe_ix (kIx K rIxL ix_list) (pv 0) pe_int fun _ _ => rfl))) pe_int) pe_int) (pv 2)))
    (pss_cons (ps_set (i := 3) sc_Ldraw.nd rfl (by first | exact Or.inl rfl | exact Or.inr rfl) (pe_op op_modN (pe_op op_mul (pe_op op_add (pv 3) (pe_ix (kIx K rIxL ix_list) (pv 0) pe_int fun _ _ => rfl)) (pe_op op_add (pe_op op_fdivN (pv 3) pe_int) pe_int)) (pv 2)))
    (pss_one (ps_ret (pe_op op_modN (pe_op op_fdivN (pv 3) pe_int) (pv 1))))))))), ?_⟩
  rintro ⟨p, m, t⟩ F D0 Q ⟨h1, h2, h3⟩ q
  simp only at h1 h2 h3 q
  show Go D0 (gam N_Ldraw [rV (.ref p), rD (.int t)]) (wWl p m :: F) _
  refine go_wl fun a b c hb => ?_
  refine sq_if (b := decide (0 < a)) (tg_test (eg_op (eg_op (eg_var rfl) eg_int (og_ixW (k := 0) (R := rD (.int a)) rfl rfl)) eg_int og_cmp)) (fun e => ?_) (fun e => ?_)
  · refine sq_asg (eg_op (eg_op (eg_var rfl) eg_int (og_ixW (k := 0) (R := rD (.int a)) rfl rfl)) (eg_var rfl) (og_btw (by omega))) ?_
    refine sq_setL (j := 0) (k := 0) (R := rD (.int (a.fdiv t))) (eg_op (eg_op (eg_var rfl) eg_int (og_ixW (k := 0) (R := rD (.int a)) rfl rfl)) (eg_var rfl) (og_div ⟨by omega, by omega⟩)) (eg_var rfl) eg_int rfl (by simp) ?_
    exact go_ret (eg_var rfl) fun v D H e hd r => q v D H () e trivial (Hd.wlClose (a := a.fdiv t) (b := b) (c := c) hd ⟨hb.1, hb.2.1, hb.2.2.1, by omega⟩) r
  · refine sq_setL (j := 0) (k := 2) (R := rD (.int (c + 1))) (eg_op (eg_op (eg_var rfl) eg_int (og_ixW (k := 0) (R := rD (.int c)) rfl rfl)) eg_int og_add) (eg_var rfl) eg_int rfl (by simp) ?_
    show Go D0 _ (mL p (wlR a b (c + 1)) :: F) _
    have hc : 0 ≤ c + 1 ∧ c + 1 ≤ 1000000 := by omega
    have hm : c + 1 ≤ ((m + 1 : Nat) : Int) := by omega
    obtain ⟨hb1, hb2, _, _⟩ := hb
    generalize c + 1 = c at hc hm ⊢
    obtain ⟨pr, mp, hp⟩ := at_ints (qs := [2147483629, 2147483587, 2147483579, 2147483563, 2147483549]) (i := c.fmod 5) (fmod_btw (by decide)).1 (fmod_btw (by decide)).2
    have hp2 : 2147483549 ≤ pr ∧ pr ≤ 2147483629 := by
      simp only [List.mem_cons, List.not_mem_nil, or_false] at mp
      omega
    refine sq_asg (R := rD (.int pr)) (eg_op (Eg.lst (ds := [2147483629, 2147483587, 2147483579, 2147483563, 2147483549].map .int) (eg_lst (ag_cons eg_int (ag_cons eg_int (ag_cons eg_int (ag_cons eg_int (ag_cons eg_int ag_nil))))) (by simp))) (eg_op (eg_op (eg_var rfl) eg_int (og_ixW (k := 0) (R := rD (.int c)) rfl rfl)) eg_int (og_mod (by decide))) (og_ixD hp)) ?_
    have m1 : CMul 6701 c := .inl ⟨by decide, by decide⟩
    refine sq_asg (eg_op (eg_op (eg_op (eg_op (eg_op (eg_var rfl) eg_int (og_ixW (k := 0) (R := rD (.int b)) rfl rfl)) (eg_op eg_int (eg_op (eg_var rfl) eg_int (og_ixW (k := 0) (R := rD (.int c)) rfl rfl)) (og_mul m1)) og_add) eg_int og_add) eg_int (og_pow ⟨by decide, by decide, by omega⟩)) (eg_var rfl) (og_btw (by omega))) ?_
    refine go_X (i := 3) rfl fun t1 ht1 => ?_
    have m2 : CMul (t1 + c) (t1.fdiv 1013 + 40693) := .inl ⟨by omega, by omega⟩
    refine sq_asg (eg_op (eg_op (eg_op (eg_var rfl) (eg_op (eg_var rfl) eg_int (og_ixW (k := 0) (R := rD (.int c)) rfl rfl)) og_add) (eg_op (eg_op (eg_var rfl) eg_int (og_div ⟨by decide, by decide⟩)) eg_int og_add) (og_mul m2)) (eg_var rfl) (og_btw (by omega))) ?_
    refine go_X (i := 3) rfl fun t2 ht2 => ?_
    exact go_ret (eg_op (eg_op (eg_var rfl) eg_int (og_div ⟨by decide, by decide⟩)) (eg_var rfl) (og_btw (by omega))) fun v D H e hd r => q v D H () e trivial (Hd.wlClose hd ⟨hb1, hb2, hc.1, hm⟩) r
theorem eg_draw {E : XK} {tr : TA} {Γ : Gm} {L F : List Wd} {p : Addr} {m : Nat} {t : Int} (h : 1 ≤ t ∧ t < 1073741824 ∧ m < 1000000) (ha : Ag tr Γ L [rV (.ref p), rD (.int t)] (wWl p m :: F)) : Eg (tCall sp_Ldraw [] E tr) Γ L (rBtw t) (wWl p (m + 1) :: F) :=
  (xg_call (F := F) (p, m, t) h ha (fun _ => .nil) rfl).eg _ _ fun _ _ => ⟨fun _ _ r => r, rfl⟩
end
end Fb

/-! Texts of small letters. -/
namespace Fb
open PySem PySem.Spec L2 Evl
def mkS (l : List Nat) : Str := ⟨l.toArray⟩
def Lets (l : List Nat) : Prop := ∀ c ∈ l, 97 ≤ c ∧ c ≤ 122
theorem mkS_length (l : List Nat) : (mkS l).length = l.length := by simp [mkS, Str.length]
theorem mkS_inj {a b : List Nat} (h : mkS a = mkS b) : a = b := by
  have : a.toArray = b.toArray := congrArg Str.cps h
  simpa using this
theorem LET_list : (LET : Str).cps.toList = (List.range 26).map (97 + ·) := by decide +kernel
theorem LET_length : (LET : Str).length = 26 := by decide +kernel
theorem LET_has {c : Nat} (h : 97 ≤ c ∧ c ≤ 122) : (LET : Str).cps.contains c = true := by
  rw [Array.contains_eq_any_beq, ← Array.any_toList, LET_list, List.any_eq_true]
  exact ⟨c, List.mem_map.mpr ⟨c - 97, List.mem_range.mpr (by omega), by omega⟩, by simp⟩
theorem take_all {α : Type} {p : α → Bool} : ∀ {l : List α}, (∀ c ∈ l, p c = true) → l.takeWhile p = l
  | [], _ => rfl
  | c :: l, h => by rw [List.takeWhile_cons, if_pos (h c (List.mem_cons_self ..)), take_all fun x hx => h x (List.mem_cons_of_mem _ hx)]
theorem name_mk {l : List Nat} (h0 : l ≠ []) (h8 : l.length ≤ 8) (hl : Lets l) : NameOk (mkS l) := by
  refine ⟨by rw [mkS_length]; cases l with | nil => exact absurd rfl h0 | cons a r => simp, by rw [mkS_length]; exact h8, ?_, ?_⟩
  · unfold Txt.stripChars
    rw [PyProof.Rows.stripBy_eq]
    have lo : stripLo (LET : Str).cps.contains true (mkS l) = l.length := by
      show (((mkS l).cps.toList).takeWhile _).length = _
      rw [show (mkS l).cps.toList = l from rfl]
      rw [take_all fun c hc => LET_has (hl c hc)]
    rw [lo]
    have hi : stripHi (LET : Str).cps.contains true (mkS l) l.length = l.length := by
      show (mkS l).length - (((mkS l).cps.toList.drop l.length).reverse.takeWhile _).length = _
      rw [show (mkS l).cps.toList = l from rfl, mkS_length, List.drop_length]
      rfl
    rw [hi]
    show Str.mk (l.toArray.extract l.length l.length) = _
    simp
    rfl
  · show (mkS l).cps.all (· < 0x110000) = true
    rw [← Array.all_toList, List.all_eq_true]
    intro c hc
    have := hl c hc
    exact decide_eq_true (by omega)
theorem mkS_app (a b : List Nat) : mkS a ++ mkS b = mkS (a ++ b) := by
  show Str.mk (a.toArray ++ b.toArray) = Str.mk (a ++ b).toArray
  simp
theorem join_mk (cs : List Nat) : Txt.join (Str.ofString "") (cs.map fun c => mkS [c]) = mkS cs := by
  have fo : ∀ (cs : List Nat) (acc : Array Nat), (cs.map fun c => mkS [c]).foldl (fun acc p => acc ++ (Str.ofString "").cps ++ p.cps) acc = acc ++ cs.toArray := by
    intro cs
    induction cs with
    | nil => intro acc; simp
    | cons c cs ih =>
      intro acc
      rw [List.map_cons, List.foldl_cons, ih]
      have : (Str.ofString "").cps = #[] := by decide +kernel
      rw [this]
      show acc ++ #[] ++ #[c] ++ cs.toArray = acc ++ (c :: cs).toArray
      simp [Array.append_assoc]
  unfold Txt.join PySem.Builtin.Str.glued
  cases cs with
  | nil => rfl
  | cons c cs =>
    rw [List.map_cons, List.drop_one, List.tail_cons, fo]
    show Str.mk (#[c] ++ cs.toArray) = Str.mk (c :: cs).toArray
    simp
section
variable {K : PySem.W.Frag} {Γ : Gm} {L L1 L' : List Wd} {R Ra : Rp} {te ta tb : TE} {tlo thi : TO} {lo hi : Option Int} {l a b : List Nat}
theorem og_letter {i : Int} (h0 : 0 ≤ i) (h1 : i < 26) : Og rIxS (rD (.str LET)) (rD (.int i)) L (rD (.str (mkS [97 + i.toNat]))) L := fun x y D H hd rx ry Q q => by
  refine ⟨LET, i, 97 + i.toNat, str_of rx, int_of ry, sz_of (by rw [LET_length]; omega), ?_, q _ D H (Ex.refl D) hd (.str _)⟩
  have := L2.atI_nat (xs := (LET : Str).cps.toList) (j := i.toNat) (v := 97 + i.toNat) (by rw [LET_list, List.getElem?_map, List.getElem?_range (by omega)]; rfl)
  rwa [Int.toNat_of_nonneg h0] at this
theorem eg_slS (h : Eg te Γ L (rD (.str (mkS l))) L) (hz : l.length ≤ 1000) (h1 : Tog tlo Γ L lo L) (h2 : Tog thi Γ L hi L) : Eg (tSl rSlS te tlo thi) Γ L (rD (.str (mkS (cutR l lo hi)))) L := fun σ D H g hd Q q =>
  h σ D H g hd _ fun x D1 H1 e1 d1 r1 => h1 σ D1 H1 (g.up e1) d1 _ fun D2 H2 e2 d2 => h2 σ D2 H2 ((g.up e1).up e2) d2 _ fun D3 H3 e3 d3 => by
    refine ⟨mkS l, str_of r1, sz_of (by rw [mkS_length]; omega), q _ D3 H3 ((e1.trans e2).trans e3) d3 ?_⟩
    have : cutS (mkS l) lo hi = mkS (cutR l lo hi) := by
      unfold cutS cutR
      rw [mkS_length]
      rfl
    rw [this]
    exact .str _
theorem og_addS (hz : a.length + b.length ≤ 1000) : Og (fun x y H Q => ∃ i j, x = .str i ∧ y = .str j ∧ i.length + j.length ≤ sizeLine ∧ Q (.str (i ++ j)) H) (rD (.str (mkS a))) (rD (.str (mkS b))) L (rD (.str (mkS (a ++ b)))) L := fun x y D H hd rx ry Q q =>
  ⟨mkS a, mkS b, str_of rx, str_of ry, sz_of (by rw [mkS_length, mkS_length]; omega), q _ D H (Ex.refl D) hd (by rw [mkS_app]; exact .str _)⟩
abbrev rJoinV (K : PySem.W.Frag) : V → List V → Hp → VK → Prop := fun x xs H Q => ∃ a p, ∃ ys : List Str, x = .str a ∧ xs = [.ref p] ∧ (SqL K H p (ys.map V.str) ∨ SqT K H p (ys.map V.str)) ∧ (ys.map (·.length)).sum + ys.length * a.length ≤ 16777216 ∧ Q (.str (Txt.join a ys)) H
theorem eg_joinE {ok : List Nat → Prop} (ho : Eg ta Γ L (rD (.str (Str.ofString ""))) L1) (h : Eg te Γ L1 (rX ok fun cs => rD (.list (cs.map fun c => .str (mkS [c])))) L') (hz : ∀ cs, ok cs → cs.length ≤ 1000) : Eg (tM1 (rJoinV K) ta te) Γ L (rX ok fun cs => rD (.str (mkS cs))) L' := fun σ D H g hd Q q =>
  ho σ D H g hd _ fun x D1 H1 e1 d1 r1 => ⟨⟨_, str_of r1⟩, h σ D1 H1 (g.up e1) d1 _ fun y D2 H2 e2 d2 ⟨cs, oc, r2⟩ => by
    obtain ⟨p, vs, rfl, hs, al⟩ := lst_rD r2
    have ev : vs = (cs.map fun c => mkS [c]).map V.str := Dp.strs (bs := cs.map fun c => mkS [c]) (by rw [List.map_map] at al ⊢; exact al)
    subst ev
    refine ⟨Str.ofString "", p, cs.map fun c => mkS [c], str_of r1, rfl, .inl (SqL.of (d2.ex _ _ hs)), ?_, q _ D2 H2 (e1.trans e2) d2 ⟨cs, oc, by rw [join_mk]; exact .str _⟩⟩
    have e0 : (Str.ofString "").length = 0 := by decide +kernel
    have e1 : ((cs.map fun c => mkS [c]).map (·.length)).sum = cs.length := by
      rw [List.map_map]
      clear oc hs al r2 h
      induction cs with
      | nil => rfl
      | cons c cs ih => rw [List.map_cons, List.sum_cons, ih]; simp [mkS_length]; omega
    rw [e0, e1]
    have := hz cs oc
    omega⟩
end
end Fb

namespace Fb
open PySem PySem.Spec L2 Evl
open C8 (Cal Met Mak)
/-- the k-th name -/
def nmL (bs : List Nat) (bg ap sp mo : Int) (k : Nat) : List Nat := cutR bs none (some sp) ++ [97 + ((bg + ap * (k : Int)).fmod 26).toNat] ++ cutR bs (some sp) (some (sp + mo))
theorem cut_to {α : Type} (xs : List α) (a : Nat) : cutR xs none (some (a : Int)) = xs.take a := by
  unfold cutR
  rw [sIx_nat]
  show (xs.drop 0).take (min a xs.length - 0) = _
  rw [List.drop_zero, Nat.sub_zero]
  apply List.ext_getElem?
  intro i
  simp only [List.getElem?_take]
  by_cases q : i < a
  · by_cases r : i < xs.length
    · rw [if_pos (by omega), if_pos q]
    · rw [List.getElem?_eq_none (by omega)]; simp
  · rw [if_neg q, if_neg (by omega)]
theorem nmL_eq {bs : List Nat} {bg ap sp mo : Int} (h1 : 0 ≤ sp) (h2 : 0 ≤ mo) (k : Nat) : nmL bs bg ap sp mo k = bs.take sp.toNat ++ [97 + ((bg + ap * (k : Int)).fmod 26).toNat] ++ (bs.drop sp.toNat).take mo.toNat := by
  unfold nmL
  have e1 : sp = ((sp.toNat : Nat) : Int) := by omega
  have e2 : mo = ((mo.toNat : Nat) : Int) := by omega
  have c1 := cut_to bs sp.toNat
  have c2 := cut_nat bs sp.toNat mo.toNat
  rw [← e1] at c1
  rw [← e1, ← e2] at c2
  rw [c1, c2]
structure NmIn (bs : List Nat) (bg ap sp mo : Int) : Prop where
  len : bs.length = 7
  lets : Lets bs
  hbg : 0 ≤ bg ∧ bg < 26
  hap : ap ∈ ([1, 3, 5, 7, 9, 11, 15, 17] : List Int)
  hsp : 0 ≤ sp ∧ sp < 8
  hmo : 0 ≤ mo ∧ mo < 8 - sp
theorem NmIn.name {bs : List Nat} {bg ap sp mo : Int} (h : NmIn bs bg ap sp mo) (k : Nat) : NameOk (mkS (nmL bs bg ap sp mo k)) := by
  rw [nmL_eq h.hsp.1 h.hmo.1]
  have h1 := h.hsp
  have h2 := h.hmo
  have h3 := h.len
  refine name_mk (by simp) ?_ ?_
  · simp only [List.length_append, List.length_take, List.length_drop, List.length_cons, List.length_nil]
    omega
  · intro c hc
    have f := fmod_btw (a := bg + ap * (k : Int)) (b := 26) (by decide)
    rcases List.mem_append.mp hc with hc | hc
    · rcases List.mem_append.mp hc with hc | hc
      · exact h.lets c (List.mem_of_mem_take hc)
      · rw [List.mem_singleton.mp hc]; omega
    · exact h.lets c (List.mem_of_mem_drop (List.mem_of_mem_take hc))
theorem NmIn.inj {bs : List Nat} {bg ap sp mo : Int} (h : NmIn bs bg ap sp mo) {j k : Nat} (hj : j < 5) (hk : k < 5) (e : mkS (nmL bs bg ap sp mo j) = mkS (nmL bs bg ap sp mo k)) : j = k := by
  have e := mkS_inj e
  rw [nmL_eq h.hsp.1 h.hmo.1, nmL_eq h.hsp.1 h.hmo.1] at e
  have e2 := List.append_cancel_left (List.append_cancel_right e)
  have e3 : ((bg + ap * (j : Int)).fmod 26).toNat = ((bg + ap * (k : Int)).fmod 26).toNat := by
    have := List.cons.inj e2
    omega
  have f1 := fmod_btw (a := bg + ap * (j : Int)) (b := 26) (by decide)
  have f2 := fmod_btw (a := bg + ap * (k : Int)) (b := 26) (by decide)
  have e4 : (bg + ap * (j : Int)).fmod 26 = (bg + ap * (k : Int)).fmod 26 := by omega
  rw [Int.fmod_eq_emod_of_nonneg _ (by decide), Int.fmod_eq_emod_of_nonneg _ (by decide)] at e4
  have m := h.hap
  simp only [List.mem_cons, List.not_mem_nil, or_false] at m
  rcases m with rfl | rfl | rfl | rfl | rfl | rfl | rfl | rfl <;> omega
def nms (bs : List Nat) (bg ap sp mo : Int) (n : Nat) : List Str := (List.range n).map fun k => mkS (nmL bs bg ap sp mo k)
structure NamesOk (zs : List Str) : Prop where
  lo : 1 ≤ zs.length
  hi : zs.length ≤ 5
  ok : ∀ z ∈ zs, NameOk z
  nd : zs.Nodup
theorem NmIn.names {bs : List Nat} {bg ap sp mo : Int} (h : NmIn bs bg ap sp mo) {n : Nat} (h1 : 1 ≤ n) (h5 : n ≤ 5) : NamesOk (nms bs bg ap sp mo n) := by
  refine ⟨by unfold nms; rw [List.length_map, List.length_range]; exact h1, by unfold nms; rw [List.length_map, List.length_range]; exact h5, fun z hz => ?_, ?_⟩
  · obtain ⟨k, _, rfl⟩ := List.mem_map.mp hz
    exact h.name k
  · unfold nms
    refine (List.pairwise_map.mpr ?_)
    refine List.Pairwise.imp_of_mem (R := fun a b => a ≠ b) (fun {a b} ha hb ne e => ne (h.inj (by have := List.mem_range.mp ha; omega) (by have := List.mem_range.mp hb; omega) e)) List.nodup_range
section
variable {P : Program} {w : World} {K : PySem.W.Frag} {mg : Str → Option Value} {base : Heap}
abbrev rCnt : Rp := rX (fun c : Int => 1 ≤ c ∧ c ≤ 5) fun c => rD (.int c)
abbrev sp_Lnames : Sp := spX (κ := List Str) (fun i : Addr × Nat => i.2 < 900000) (fun i => [rV (.ref i.1), rCnt]) (fun i => [wWl i.1 i.2]) (fun _ zs => NamesOk zs) (fun _ zs => rD (strL zs)) (fun i _ => [wWl i.1 (i.2 + 11)])
theorem c_Lnames (W : Wo K mg base) : Cal P w K mg base 2 "_law_names" sp_Lnames [] := by
  have c_Ldraw := c_Ldraw (P := P) (w := w) W
  refine cal_of (f_Lnames W) (g__law_names W) b_Lnames sc_Lnames (fun _ _ => rfl) fun cdv A' outer s H E hr => ⟨_, (pss_cons (ps_set (i := 2) sc_Lnames.nd rfl (by first | exact Or.inl rfl | exact Or.inr rfl) pe_str)
    (pss_cons (ps_set (i := 3) sc_Lnames.nd rfl (by first | exact Or.inl rfl | exact Or.inr rfl) (C8.pe_c c_Ldraw hr (by first | decide | omega) rfl (pa_cons (pv 0) (pa_cons pe_int pa_nil))))
    (pss_cons (ps_set (i := 4) sc_Lnames.nd rfl (by first | exact Or.inl rfl | exact Or.inr rfl) (pe_ix (kIx K rIxL ix_list) (pe_lst (pa_cons pe_int (pa_cons pe_int (pa_cons pe_int (pa_cons pe_int (pa_cons pe_int (pa_cons pe_int (pa_cons pe_int (pa_cons pe_int pa_nil))))))))) (C8.pe_c c_Ldraw hr (by first | decide | omega) rfl (pa_cons (pv 0) (pa_cons pe_int pa_nil))) fun _ _ => rfl))
    (pss_cons (ps_set (i := 5) sc_Lnames.nd rfl (by first | exact Or.inl rfl | exact Or.inr rfl) (pe_join pe_str (pe_lc (own := [("_law_k", 9)]) (g := (gName 9)) rfl sc_Lnames.nd (pi_range1 rfl (n_range W) (pa_cons pe_int pa_nil)) (blkOk_by (own := [("_law_k", 9)]) (N := N_Lnames) (sc := defScope s_Lnames) (by decide +kernel)) (fun _ _ _ _ _ => (pg_name (i := 9) sc_Lnames.nd rfl (by first | exact Or.inl rfl | exact Or.inr rfl))) (fun _ _ _ _ _ => pts_nil) (fun _ _ _ _ _ => (pe_ix ix_str (pv 2) (C8.pe_c c_Ldraw hr (by first | decide | omega) rfl (pa_cons (pv 0) (pa_cons pe_int pa_nil))) fun _ _ => rfl)))))
    (pss_cons (ps_set (i := 6) sc_Lnames.nd rfl (by first | exact Or.inl rfl | exact Or.inr rfl) (C8.pe_c c_Ldraw hr (by first | decide | omega) rfl (pa_cons (pv 0) (pa_cons pe_int pa_nil))))
    (pss_cons (ps_set (i := 7) sc_Lnames.nd rfl (by first | exact Or.inl rfl | exact Or.inr rfl) (C8.pe_c c_Ldraw hr (by first | decide | omega) rfl (pa_cons (pv 0) (pa_cons (pe_op op_sub pe_int (pv 6)) pa_nil))))
    (pss_cons (ps_set (i := 8) sc_Lnames.nd rfl (by first | exact Or.inl rfl | exact Or.inr rfl) (pe_lst pa_nil))
    (pss_cons (ps_for PassesOwn.never rfl (pi_range1 rfl (n_range W) (pa_cons (pv 1) pa_nil)) (pg_name (i := 9) sc_Lnames.nd rfl (by first | exact Or.inl rfl | exact Or.inr rfl)) (pss_cons (ps_set (i := 10) sc_Lnames.nd rfl (by first | exact Or.inl rfl | exact Or.inr rfl) (pe_ix ix_str (pv 2) (pe_op op_modN (pe_op op_add (pv 3) (pe_op op_mul (pv 4) (pv 9))) pe_int) fun _ _ => rfl))
    (pss_one (ps_expr (pe_bmK K PySem.F.plainAttrs_list PySem.F.slot_list_append PySem.F.type_list_append mt_append (pv 8) (pa_cons (pe_op op_add_str (pe_op op_add_str (pe_slice sl_str (pv 5) po_none (po_some (pv 6))) (pv 10)) (pe_slice sl_str (pv 5) (po_some (pv 6)) (po_some (pe_op op_add (pv 6) (pv 7))))) pa_nil))))))
    (pss_one (ps_ret (pv 8))))))))))), ?_⟩
  rintro ⟨p, m⟩ F D0 Q hm q
  simp only at hm q
  show Go D0 (gam N_Lnames [rV (.ref p), rCnt]) (wWl p m :: F) _
  refine go_X (i := 1) rfl fun ct hct => ?_
  refine sq_asg (R := rD (.str LET)) eg_str ?_
  refine sq_asg (eg_draw ⟨by decide, by decide, by omega⟩ (ag_cons (eg_var rfl) (ag_cons eg_int ag_nil))) ?_
  refine go_X (i := 3) rfl fun bg hbg => ?_
  refine sq_asg (eg_op (Eg.lst (ds := [1, 3, 5, 7, 9, 11, 15, 17].map .int) (eg_lst (ag_cons eg_int (ag_cons eg_int (ag_cons eg_int (ag_cons eg_int (ag_cons eg_int (ag_cons eg_int (ag_cons eg_int (ag_cons eg_int ag_nil)))))))) (by simp))) (eg_draw ⟨by decide, by decide, by omega⟩ (ag_cons (eg_var rfl) (ag_cons eg_int ag_nil))) (og_pick (by decide))) ?_
  refine go_X (i := 4) rfl fun ap hap => ?_
  refine sq_asg (R := rX (fun cs : List Nat => cs.length = 7 ∧ Lets cs) fun cs => rD (.str (mkS cs))) (L' := wWl p (m + 9) :: F) (eg_joinE eg_str (Xg.eg (x := fun cs : List Nat => cs.length = 7 ∧ Lets cs) (Rx := fun cs => rLst (cs.map fun c => rD (.str (mkS [c])))) (Lx := fun _ => wWl p (m + 9) :: F)
    (xg_lc (ig_rng1 (ag_cons eg_int ag_nil) (by decide) (by decide)) (by decide) (ι := List Nat) (fun i cs => cs.length = i ∧ Lets cs) (fun i _ => wWl p (m + 2 + i) :: F) (fun cs => cs.map fun c => rD (.str (mkS [c]))) ⟨[], ⟨rfl, fun c h => nomatch h⟩, rfl, rfl⟩ (fun i cs h => by rw [List.length_map, h.1]; exact Nat.le_refl _) (fun _ _ _ _ _ => trivial)
      fun i cs R hi ⟨hl, hL⟩ hR => ?_) _ _ fun cs hcs => ⟨fun D v r => ⟨cs, hcs, rD_lst (by rw [List.map_map]; exact r)⟩, rfl⟩) fun cs h => by omega) ?_
  · subst hR
    refine ⟨_, _, tgt_name, by simp, true, fun Fr => tg_yes, fun _ Fr => ?_, fun z => nomatch z⟩
    intro σ D H g hd Q q
    refine (eg_op (R := rX (fun c : Nat => 97 ≤ c ∧ c ≤ 122) fun c => rD (.str (mkS [c]))) (L' := wWl p (m + 2 + i + 1) :: (F ++ Fr)) (eg_var rfl) (eg_draw (t := 26) ⟨by decide, by decide, by have : i < 7 := hi; omega⟩ (ag_cons (eg_var rfl) (ag_cons eg_int ag_nil))) (og_Xr fun j hj => (og_letter hj.1 hj.2).imp fun D v h => ⟨97 + j.toNat, by omega, h⟩)) σ D H g hd Q fun v D2 H2 e2 h2 ⟨c, hc, r2⟩ => q v D2 H2 e2 ⟨cs ++ [c], rD (.str (mkS [c])), ⟨by simp [hl], fun x hx => ?_⟩, h2, by simp, r2⟩
    rcases List.mem_append.mp hx with hx | hx
    · exact hL x hx
    · rw [List.mem_singleton.mp hx]; exact hc
  · refine go_X (i := 5) rfl fun bs hbs => ?_
    show Go D0 [some (rV (.ref p)), some (rD (.int ct)), some (rD (.str LET)), some (rD (.int bg)), some (rD (.int ap)), some (rD (.str (mkS bs))), none, none, none, none, none] (wWl p (m + 9) :: F) _
    refine sq_asg (eg_draw ⟨by decide, by decide, by omega⟩ (ag_cons (eg_var rfl) (ag_cons eg_int ag_nil))) ?_
    refine go_X (i := 6) rfl fun sp hsp => ?_
    refine sq_asg (eg_draw (t := 8 - sp) ⟨by omega, by omega, by omega⟩ (ag_cons (eg_var rfl) (ag_cons (eg_op eg_int (eg_var rfl) og_sub) ag_nil))) ?_
    refine go_X (i := 7) rfl fun mo hmo => ?_
    have nm : NmIn bs bg ap sp mo := ⟨hbs.1, hbs.2, hbg, hap, hsp, hmo⟩
    have apb : 1 ≤ ap ∧ ap ≤ 17 := by
      simp only [List.mem_cons, List.not_mem_nil, or_false] at hap
      omega
    refine sq_new ag_nil (by simp) fun pf => ?_
    refine sq_for (ι := Unit) (ig_rng1 (ag_cons (eg_var rfl) ag_nil) (by omega) (by omega)) (fun _ _ => True) (fun _ _ => [some (rV (.ref p)), some (rD (.int ct)), some (rD (.str LET)), some (rD (.int bg)), some (rD (.int ap)), some (rD (.str (mkS bs))), some (rD (.int sp)), some (rD (.int mo)), some (rV (.ref pf)), none, none]) (fun i _ => mL pf ((nms bs bg ap sp mo i).map fun z => rD (.str z)) :: wWl p (m + 11) :: F) ⟨(), trivial, Less.refl _, rfl⟩ (fun _ _ _ _ => trivial) ?_ ?_
    · rintro i _ R D1 N hi e1 _ rfl kN
      have f := fmod_btw (a := bg + ap * (i : Int)) (b := 26) (by decide)
      refine ⟨_, _, tgt_name, ?_⟩
      refine sq_asg (eg_op (eg_var rfl) (eg_op (eg_op (eg_var rfl) (eg_op (eg_var rfl) (eg_var rfl) (og_mul (.inl ⟨by omega, by omega⟩))) og_add) eg_int (og_mod (by decide))) (og_letter f.1 f.2)) ?_
      have len : ∀ lo hi, (cutR bs lo hi).length ≤ 7 := fun lo hi => by
        unfold cutR
        rw [List.length_take, List.length_drop, hbs.1]
        omega
      refine go_drop (eg_append (j := 0) (R := rD (.str (mkS (cutR bs none (some sp) ++ [97 + ((bg + ap * (i : Int)).fmod 26).toNat] ++ cutR bs (some sp) (some (sp + mo)))))) (eg_var rfl) ⟨0, _, rfl⟩ (eg_op (eg_op (eg_slS (eg_var rfl) (by omega) tog_none (tog_some (eg_var rfl))) (eg_var rfl) (og_addS (by have := len none (some sp); simp; omega))) (eg_slS (eg_var rfl) (by omega) (tog_some (eg_var rfl)) (tog_some (eg_op (eg_var rfl) (eg_var rfl) og_add))) (og_addS (by have := len none (some sp); have := len (some sp) (some (sp + mo)); simp; omega))) rfl (by unfold nms; rw [List.length_map, List.length_map, List.length_range]; omega)) ?_
      have en : (nms bs bg ap sp mo i).map (fun z => rD (.str z)) ++ [rD (.str (mkS (cutR bs none (some sp) ++ [97 + ((bg + ap * (i : Int)).fmod 26).toNat] ++ cutR bs (some sp) (some (sp + mo)))))] = (nms bs bg ap sp mo (i + 1)).map fun z => rD (.str z) := by unfold nms; rw [List.range_succ, List.map_append, List.map_append]; rfl
      have kN' := kN () trivial
      rw [← en] at kN'
      exact kN'.less (less_of rfl fun i h => match i with | 0 => .inr rfl | 1 => .inr rfl | 2 => .inr rfl | 3 => .inr rfl | 4 => .inr rfl | 5 => .inr rfl | 6 => .inr rfl | 7 => .inr rfl | 8 => .inr rfl | 9 => .inl rfl | 10 => .inl rfl | i + 11 => absurd h (by show ¬ i + 11 < 11; omega))
    · intro _ _
      refine go_ret (Eg.imp (eg_frz rfl) fun D v h => rD_lst (by rw [List.map_map]; exact h)) fun v D H e hd r => q v D H (nms bs bg ap sp mo ct.toNat) e (nm.names (by omega) (by omega)) hd r
end
end Fb

namespace Fb
open PySem PySem.Spec L2 Evl
section
variable {K : PySem.W.Frag} {Γ Γ' : Gm} {L L1 L2' L3 L' : List Wd} {R Ra Rb Rc R' : Rp} {Rs : List Rp} {te ta tb tc tl : TE} {tr : TA} {D0 : Hp} {i : Nat} {r : R2} {E : Ends} {P : L2.St → Hp → Prop} {p : Addr} {m m' : Nat}
theorem ug_neg {i : Int} : Ug (rU fun i => .int (-i)) (rD (.int i)) L (rD (.int (-i))) L := fun x D H hd rx Q q => ⟨i, int_of rx, q _ D H (Ex.refl D) hd (.int _)⟩
theorem og_mulB {n j : Int} (h : -(2 ^ 64) < n ∧ n < 2 ^ 64) : Og (rI CMul fun i j => .int (i * j)) (rBtw n) (rD (.int j)) L rAny L := og_Xl fun x hx => (og_mul (.inl ⟨by omega, by omega⟩)).imp fun D v h => ⟨_, trivial, h⟩
theorem og_addA {ok ok' : Int → Prop} : Og (rI0 fun i j => .int (i + j)) (rX ok fun r => rD (.int r)) (rX ok' fun r => rD (.int r)) L rAny L := og_Xl fun x hx => og_Xr fun y hy => og_add.imp fun D v h => ⟨_, trivial, h⟩
theorem og_eqO {a b : Option Str} : Og rEq (rD (optD a)) (rD (optD b)) L (rD (.bool (decide (a = b)))) L := fun x y D H hd rx ry Q q => by
  cases a with
  | none =>
    cases b with
    | none => rw [non_of rx, non_of ry]; exact ⟨rfl, q _ D H (Ex.refl D) hd (by simp; exact .bl _)⟩
    | some b => rw [non_of rx, str_of ry]; exact ⟨rfl, q _ D H (Ex.refl D) hd (by simp; exact .bl _)⟩
  | some a =>
    cases b with
    | none => rw [str_of rx, non_of ry]; exact ⟨rfl, q _ D H (Ex.refl D) hd (by simp; exact .bl _)⟩
    | some b =>
      rw [str_of rx, str_of ry]
      refine ⟨rfl, q _ D H (Ex.refl D) hd ?_⟩
      have : decide (V.str a = V.str b) = decide (some a = some b) := by simp
      rw [this]
      exact .bl _
/-- what is known of the words, opened -/
theorem go_open {ι : Type} {ok : ι → Prop} {Lx : ι → List Wd} (h : ∀ D H, Hd D H L → ∃ x, ok x ∧ Hd D H (Lx x)) (k : ∀ x, ok x → Go D0 Γ (Lx x) P) : Go D0 Γ L P := fun σ D H e g hd => by
  obtain ⟨x, o, h'⟩ := h D H hd
  exact k x o σ D H e g h'
theorem allR_snocX {ι : Type} {ok : ι → Prop} {Rx : ι → Rp} {D : Hp} : ∀ {Rs : List Rp} {vs : List V}, AllR D vs (Rs ++ [rX ok Rx]) → ∃ x, ok x ∧ AllR D vs (Rs ++ [Rx x])
  | [], _, h => by
    cases h with
    | cons a t =>
      cases t
      obtain ⟨x, o, r⟩ := a
      exact ⟨x, o, .cons r .nil⟩
  | R :: Rs, _, h => by
    cases h with
    | cons a t =>
      obtain ⟨x, o, r⟩ := allR_snocX t
      exact ⟨x, o, .cons a r⟩
theorem Hd.mLX {ι : Type} {ok : ι → Prop} {Rx : ι → Rp} {D H : Hp} (h : Hd D H (mL p (Rs ++ [rX ok Rx]) :: L)) : ∃ x, ok x ∧ Hd D H (mL p (Rs ++ [Rx x]) :: L) := by
  obtain ⟨h1, vs, h2, h3⟩ := h.s 0 _ rfl
  obtain ⟨x, o, r⟩ := allR_snocX h3
  exact ⟨x, o, h.set (j := 0) (w' := mL p (Rs ++ [Rx x])) rfl (fun _ _ => rfl) (fun _ h => h) ⟨h1, vs, h2, r⟩⟩
theorem rtup_X2 {ι : Type} {ok : ι → Prop} {Rx : ι → Rp} {D : Hp} {v : V} (h : (rTup [Ra, rX ok Rx]).r D v) : (rX ok fun x => rTup [Ra, Rx x]).r D v := by
  obtain ⟨a, vs, e, h1, h2⟩ := h
  cases h2 with
  | cons r1 t => cases t with
    | cons r2 t =>
      cases t
      obtain ⟨x, o, r⟩ := r2
      exact ⟨x, o, a, _, e, h1, .cons r1 (.cons r .nil)⟩
end
end Fb

namespace Fb
open PySem PySem.Spec L2 Evl
open C8 (Cal Met Mak)
theorem opt_at {zs : List Str} {i : Nat} {j : Int} (hi : i < zs.length) (h0 : 0 ≤ j) (h1 : j < (i : Int) + 1) : ∃ o : Option Str, (∀ c, o = some c → c ∈ zs.take i) ∧ atI ([PyData.none] ++ zs.map .str) j = some (optD o) := by
  have e : j = ((j.toNat : Nat) : Int) := by omega
  rw [e]
  cases hj : j.toNat with
  | zero => exact ⟨none, (fun c h => nomatch h), atI_nat (xs := [PyData.none] ++ zs.map .str) (i := 0) (x := .none) rfl⟩
  | succ k =>
    have hk : k < zs.length := by omega
    refine ⟨some zs[k], fun c h => ?_, atI_nat (by rw [List.singleton_append, List.getElem?_cons_succ, List.getElem?_map, List.getElem?_eq_getElem hk]; rfl)⟩
    cases h
    exact List.mem_of_getElem? (i := k) (by rw [List.getElem?_take, if_pos (by omega), List.getElem?_eq_getElem hk])
section
variable {P : Program} {w : World} {K : PySem.W.Frag} {mg : Str → Option Value} {base : Heap}
abbrev sp_Lbase : Sp := spX (κ := Unit) (fun i : Addr × Nat => i.2 < 900000) (fun i => [rV (.ref i.1)]) (fun i => [wWl i.1 i.2]) (fun _ _ => True) (fun _ _ => rAny) (fun i _ => [wWl i.1 (i.2 + 4)])
theorem c_Lbase (W : Wo K mg base) : Cal P w K mg base 2 "_law_base" sp_Lbase [] := by
  have c_Ldraw := c_Ldraw (P := P) (w := w) W
  refine cal_of (f_Lbase W) (g__law_base W) b_Lbase sc_Lbase (fun _ _ => rfl) fun cdv A' outer s H E hr => ⟨_, (pss_cons (ps_set (i := 1) sc_Lbase.nd rfl (by first | exact Or.inl rfl | exact Or.inr rfl) (pe_op op_add (pe_op op_add (pe_op op_mul (C8.pe_c c_Ldraw hr (by first | decide | omega) rfl (pa_cons (pv 0) (pa_cons (pe_op op_pow pe_int pe_int) pa_nil))) (pe_op op_pow pe_int pe_int)) (pe_op op_mul (C8.pe_c c_Ldraw hr (by first | decide | omega) rfl (pa_cons (pv 0) (pa_cons (pe_op op_pow pe_int pe_int) pa_nil))) (pe_op op_pow pe_int pe_int))) (C8.pe_c c_Ldraw hr (by first | decide | omega) rfl (pa_cons (pv 0) (pa_cons (pe_op op_pow pe_int pe_int) pa_nil)))))
    (pss_one (ps_ret (pe_ix (kIx K rIxL ix_list) (pe_lst (pa_cons pe_int (pa_cons (pe_un un_neg pe_int) (pa_cons (pv 1) (pa_cons (pe_op op_sub pe_int (pv 1)) pa_nil))))) (C8.pe_c c_Ldraw hr (by first | decide | omega) rfl (pa_cons (pv 0) (pa_cons pe_int pa_nil))) fun _ _ => rfl)))), ?_⟩
  rintro ⟨p, m⟩ F D0 Q hm q
  simp only at hm q
  show Go D0 (gam N_Lbase [rV (.ref p)]) (wWl p m :: F) _
  have e8 : ∀ (L : List Wd), Eg _ _ L (rD (.int 100000000)) L := fun L => Eg.to (eg_op (L := L) (Γ := gam N_Lbase [rV (.ref p)]) (ta := tC (.int 10)) (tb := tC (.int 8)) eg_int eg_int (og_pow ⟨by decide, by decide, by decide⟩)) (congrArg PyData.int (by decide))
  refine sq_asg (R := rAny) (L' := wWl p (m + 3) :: F) (eg_op (eg_op (eg_op (eg_draw ⟨by decide, by decide, by omega⟩ (ag_cons (eg_var rfl) (ag_cons (e8 _) ag_nil))) (eg_op eg_int eg_int (og_pow ⟨by decide, by decide, by decide⟩)) (og_mulB (by omega))) (eg_op (eg_draw ⟨by decide, by decide, by omega⟩ (ag_cons (eg_var rfl) (ag_cons (e8 _) ag_nil))) (eg_op eg_int eg_int (og_pow ⟨by decide, by decide, by decide⟩)) (og_mulB (by omega))) og_addA) (eg_draw ⟨by decide, by decide, by omega⟩ (ag_cons (eg_var rfl) (ag_cons (e8 _) ag_nil))) og_addA) ?_
  refine go_X (i := 1) rfl fun g _ => ?_
  exact go_ret (Eg.imp (R' := rAny) (eg_op (Eg.lst (ds := [0, -1, g, 0 - g].map .int) (eg_lst (ag_cons eg_int (ag_cons (eg_un eg_int ug_neg) (ag_cons (eg_var rfl) (ag_cons (eg_op eg_int (eg_var rfl) og_sub) ag_nil)))) (by simp))) (eg_draw ⟨by decide, by decide, by omega⟩ (ag_cons (eg_var rfl) (ag_cons eg_int ag_nil))) (og_pick (by show (4 : Int) ≤ 4; decide))) fun D v ⟨x, _, h⟩ => ⟨x, trivial, h⟩) fun v D H e hd r => q v D H () e trivial hd r
abbrev sp_Lpairs : Sp := spX (κ := Prs Str) (fun i : Addr × Nat × List Str => i.2.1 < 900000 ∧ NamesOk i.2.2) (fun i => [rV (.ref i.1), rD (strL i.2.2)]) (fun i => [wWl i.1 i.2.1]) (fun i ps => ps.map (·.1) = i.2.2 ∧ PairsOk ps.reverse) (fun _ ps => rD (.list (ps.map pairD))) (fun i _ => [wWl i.1 (i.2.1 + 5)])
theorem c_Lpairs (W : Wo K mg base) : Cal P w K mg base 2 "_law_pairs" sp_Lpairs [] := by
  have c_Ldraw := c_Ldraw (P := P) (w := w) W
  refine cal_of (f_Lpairs W) (g__law_pairs W) b_Lpairs sc_Lpairs (fun _ _ => rfl) fun cdv A' outer s H E hr => ⟨_, (pss_cons (ps_set (i := 2) sc_Lpairs.nd rfl (by first | exact Or.inl rfl | exact Or.inr rfl) (pe_lst pa_nil))
    (pss_cons (ps_for PassesOwn.never rfl (pi_enumK K rfl (n_enumerate W) (pa_cons (pv 1) pa_nil)) (pg_tupK K rfl (pgs_cons (pg_name (i := 3) sc_Lpairs.nd rfl (by first | exact Or.inl rfl | exact Or.inr rfl)) (pgs_cons (pg_name (i := 4) sc_Lpairs.nd rfl (by first | exact Or.inl rfl | exact Or.inr rfl)) pgs_nil))) (pss_one (ps_expr (pe_bmK K PySem.F.plainAttrs_list PySem.F.slot_list_append PySem.F.type_list_append mt_append (pv 2) (pa_cons (pe_tup (pa_cons (pv 4) (pa_cons (pe_ix (kIx K rIxL ix_list) (pe_op op_cat (pe_lst (pa_cons pe_non pa_nil)) (pv 1)) (C8.pe_c c_Ldraw hr (by first | decide | omega) rfl (pa_cons (pv 0) (pa_cons (pe_op op_add (pv 3) pe_int) pa_nil))) fun _ _ => rfl) pa_nil))) pa_nil)))))
    (pss_one (ps_ret (pv 2))))), ?_⟩
  rintro ⟨p, m, zs⟩ F D0 Q ⟨hm, nk⟩ q
  simp only at hm nk q
  have hi5 := nk.hi
  show Go D0 (gam N_Lpairs [rV (.ref p), rD (strL zs)]) (wWl p m :: F) _
  refine sq_new ag_nil (by simp) fun pf => ?_
  refine sq_for (ι := Prs Str) (ig_enumX (xs := zs) (f := .str) (ag_cons (eg_var rfl) ag_nil)) (fun i ps => ps.map (·.1) = zs.take i ∧ PairsOk ps.reverse) (fun _ _ => [some (rV (.ref p)), some (rD (strL zs)), some (rV (.ref pf)), none, none]) (fun i ps => mL pf (ps.map fun x => rD (pairD x)) :: wWl p (m + i) :: F) ⟨[], ⟨rfl, trivial⟩, Less.refl _, rfl⟩ (fun _ _ _ _ => trivial) ?_ ?_
  · rintro i ps R D1 N hi e1 ⟨h1, h2⟩ ⟨z, hz, rfl⟩ kN
    have pl : ps.length ≤ 5 := by
      have := congrArg List.length h1
      rw [List.length_map, List.length_take] at this
      omega
    refine ⟨_, _, tgt_tup (tgs_cons tgt_name (tgs_cons tgt_name tgs_nil)) rfl, ?_⟩
    refine go_drop (L' := mL pf ((ps.map fun x => rD (pairD x)) ++ [rX (fun o : Option Str => ∀ c, o = some c → c ∈ zs.take i) fun o => rD (pairD (z, o))]) :: wWl p (m + i + 1) :: F) (eg_append (j := 0) (eg_var rfl) ⟨0, _, rfl⟩ (Eg.imp (eg_tup (ag_cons (eg_var rfl) (ag_cons (eg_op (R := rX (fun o : Option Str => ∀ c, o = some c → c ∈ zs.take i) fun o => rD (optD o)) (L' := mL pf (ps.map fun x => rD (pairD x)) :: wWl p (m + i + 1) :: F) (eg_op (Eg.lst (ds := [.none]) (eg_lst (ag_cons eg_non ag_nil) (by simp))) (eg_var rfl) (og_cat (by simp; omega))) (Eg.words (L' := wWl p (m + i) :: mL pf (ps.map fun x => rD (pairD x)) :: F) (eg_draw (t := (i : Int) + 1) ⟨by omega, by omega, by omega⟩ (ag_cons (eg_var rfl) (ag_cons (eg_op (eg_var rfl) eg_int og_add) ag_nil))) (fun D H h => h.swap) (fun D H h => h.swap)) (og_Xr fun j hj => ?_)) ag_nil)) (by simp)) fun D v h => ?_) rfl (by rw [List.length_map]; omega)) ?_
    · obtain ⟨o, ho, ha⟩ := opt_at (zs := zs) hi hj.1 hj.2
      exact (og_ixD ha).imp fun D v h => ⟨o, ho, h⟩
    · obtain ⟨o, ho, h⟩ := rtup_X2 h
      exact ⟨o, ho, rD_tup h⟩
    · refine go_open (fun D H h => h.mLX) fun o ho => ?_
      have kN' := kN (ps ++ [(z, o)]) ⟨by rw [List.map_append, h1, List.take_add_one, hz]; rfl, by
        rw [List.reverse_append]
        show PairsOk ((z, o) :: ps.reverse)
        refine ⟨h2, fun hm => ?_, fun c hc => ?_⟩
        · rw [List.map_reverse, List.mem_reverse, h1] at hm
          obtain ⟨k, hk⟩ := List.mem_iff_getElem?.mp hm
          rw [List.getElem?_take] at hk
          split at hk
          · have := (List.getElem?_inj (List.getElem?_eq_some_iff.mp hk).1 nk.nd).mp (hk.trans hz.symm)
            omega
          · cases hk
        · rw [List.map_reverse, List.mem_reverse, h1]
          exact ho c hc⟩
      rw [List.map_append] at kN'
      exact kN'.less (less_of rfl fun i h => match i with | 0 => .inr rfl | 1 => .inr rfl | 2 => .inr rfl | 3 => .inl rfl | 4 => .inl rfl | i + 5 => absurd h (by show ¬ i + 5 < 5; omega))
  · rintro ps ⟨h1, h2⟩
    rw [List.take_length] at h1
    refine go_ret (Eg.imp (eg_frz rfl) fun D v h => rD_lst (by rw [List.map_map]; exact h)) fun v D H e hd r => q v D H ps e ⟨h1, h2⟩ (hd.wlMono (by omega)) r
end
end Fb

/-! Words anywhere in their list; a loop whose length is told by x. -/
namespace Fb
open PySem PySem.Spec L2 Evl
section
variable {D H : Hp} {L L' : List Wd} {w w' : Wd} {j : Nat}
theorem erase_at {α : Type} (L : List α) (j i : Nat) : (L.eraseIdx j)[i]? = if i < j then L[i]? else L[i + 1]? := List.getElem?_eraseIdx ..
theorem Hd.front (h : Hd D H L) (hj : L[j]? = some w) : Hd D H (w :: L.eraseIdx j) :=
  h.pick (fun i => match i with | 0 => j | i + 1 => if i < j then i else i + 1) (fun i u e => by
    match i, e with
    | 0, e => cases e; exact hj
    | i + 1, e =>
      rw [List.getElem?_cons_succ, erase_at] at e
      show L[if i < j then i else i + 1]? = some u
      by_cases q : i < j
      · rw [if_pos q] at e ⊢; exact e
      · rw [if_neg q] at e ⊢; exact e) fun a b _ _ e => by
    match a, b, e with
    | 0, 0, _ => rfl
    | 0, b + 1, e =>
      have e' : j = if b < j then b else b + 1 := e
      split at e' <;> omega
    | a + 1, 0, e =>
      have e' : (if a < j then a else a + 1) = j := e
      split at e' <;> omega
    | a + 1, b + 1, e =>
      have e' : (if a < j then a else a + 1) = if b < j then b else b + 1 := e
      split at e' <;> split at e' <;> omega
theorem Hd.back (h : Hd D H (w' :: L.eraseIdx j)) (hj : j < L.length) : Hd D H (L.set j w') :=
  h.pick (fun i => if i = j then 0 else if i < j then i + 1 else i) (fun i u e => by
    rw [List.getElem?_set] at e
    by_cases q : j = i
    · rw [if_pos q, if_pos hj] at e
      cases e
      rw [if_pos q.symm]; rfl
    · rw [if_neg q] at e
      rw [if_neg (fun z => q z.symm)]
      by_cases q2 : i < j
      · rw [if_pos q2, List.getElem?_cons_succ, erase_at, if_pos q2]; exact e
      · rw [if_neg q2]
        cases i with
        | zero => omega
        | succ i => rw [List.getElem?_cons_succ, erase_at, if_neg (by omega)]; exact e) fun a b _ _ e => by
    have e' : (if a = j then 0 else if a < j then a + 1 else a) = if b = j then 0 else if b < j then b + 1 else b := e
    split at e' <;> split at e' <;> (try split at e') <;> (try split at e') <;> omega
theorem Hd.monoAt {p : Addr} {m m' : Nat} (h : Hd D H L) (hj : L[j]? = some (wWl p m)) (k : m ≤ m') : Hd D H (L.set j (wWl p m')) :=
  ((h.front hj).wlMono k).back (List.getElem?_eq_some_iff.mp hj).1
theorem Hd.mLXat {ι : Type} {ok : ι → Prop} {Rx : ι → Rp} {Rs : List Rp} {p : Addr} (h : Hd D H L) (hj : L[j]? = some (mL p (Rs ++ [rX ok Rx]))) : ∃ x, ok x ∧ Hd D H (L.set j (mL p (Rs ++ [Rx x]))) := by
  obtain ⟨x, o, h'⟩ := (h.front hj).mLX
  exact ⟨x, o, h'.back (List.getElem?_eq_some_iff.mp hj).1⟩
end
section
variable {K : PySem.W.Frag} {Γ Γ' : Gm} {L L1 L2' L3 L' : List Wd} {R Ra Rb Rc R' : Rp} {Rs : List Rp} {te ta tb tc tl : TE} {tr : TA} {D0 : Hp} {i j : Nat} {r : R2} {E : Ends} {P : L2.St → Hp → Prop} {p : Addr} {m m' : Nat} {u : TS}
/-- a call that changes one word, wherever it stands -/
theorem Eg.atW {w w' : Wd} (h : Eg te Γ (w :: L.eraseIdx j) R (w' :: L.eraseIdx j)) (hj : L[j]? = some w) : Eg te Γ L R (L.set j w') :=
  fun σ D H g hd Q q => h σ D H g (hd.front hj) Q fun v D2 H2 e2 h2 r2 => q v D2 H2 e2 (h2.back (List.getElem?_eq_some_iff.mp hj).1) r2
/-- the arguments of a loop over range(n) -/
def tInt1 (n : Int) : TA := fun σ H Q => Q [.int n] H
theorem ag_int1 {n : Int} : Ag (tInt1 n) Γ L [rD (.int n)] L := fun σ D H g hd Q q => q _ D H (Ex.refl D) hd (.cons (.int n) .nil)
theorem go_forRng {ok : Int → Prop} {g : TG} {tb : TS} (h : Ag tr Γ L [rX ok fun n => rD (.int n)] L1) (k : ∀ n, ok n → Go D0 Γ L1 (tFor (iRng1 (tInt1 n)) g tb E)) : Go D0 Γ L (tFor (iRng1 tr) g tb E) := fun σ D H e gv hd => h σ D H gv hd _ fun vs D1 H1 e1 h1 r1 => by
  cases r1 with
  | cons a t =>
    cases t
    obtain ⟨n, o, r⟩ := a
    rw [int_of r]
    exact k n o σ D1 H1 (e.trans e1) (gv.up e1) h1
theorem sq_forRng {ok : Int → Prop} {g : TG} {tb : TS} (h : Ag tr Γ L [rX ok fun n => rD (.int n)] L1) (k : ∀ n, ok n → Go D0 Γ L1 (tSeq (tFor (iRng1 (tInt1 n)) g tb) u E)) : Go D0 Γ L (tSeq (tFor (iRng1 tr) g tb) u E) := go_forRng (E := { E with nx := u E }) h k
/-- enumerate of a list of bunches that may change -/
theorem ig_enumWX {α : Type} {xs : List α} {f : α → PyData} (h : Ag tr Γ L [rV (.ref p)] L') (hj : L'[j]? = some (mL p (xs.map fun x => rD (f x)))) : Ig (iEnum K tr) Γ L xs.length (fun i R => ∃ x, xs[i]? = some x ∧ R = rTup [rD (.int (i : Int)), rD (f x)]) L' (gW (mL p (xs.map fun x => rD (f x)))) :=
  (ig_enumW h ⟨j, hj⟩).to (by rw [List.length_map]) fun i R _ ⟨R1, y, e⟩ => by
    have y' : (xs.map fun x => rD (f x))[i]? = some R1 := y
    rw [List.getElem?_map] at y'
    cases q : xs[i]? with
    | none => rw [q] at y'; cases y'
    | some x => rw [q] at y'; cases y'; exact ⟨R, ⟨x, rfl, e⟩, fun _ _ h => h⟩
end
/-- where the bunches of a column stand -/
def idxs (bs : List (Bun Str)) (c : Str) : List Nat := (bs.zipIdx.filter fun x => decide (x.1.1 = c)).map (·.2)
theorem idxs_at {bs : List (Bun Str)} {c : Str} {n : Nat} (h : n ∈ idxs bs c) : ∃ es, bs[n]? = some (c, es) := by
  obtain ⟨⟨b, k⟩, h1, h2⟩ := List.mem_map.mp h
  obtain ⟨h3, h4⟩ := List.mem_filter.mp h1
  simp only at h2
  subst h2
  have e : b.1 = c := of_decide_eq_true h4
  obtain ⟨i, hi⟩ := List.mem_iff_getElem?.mp h3
  rw [List.getElem?_zipIdx] at hi
  cases q : bs[i]? with
  | none => rw [q] at hi; cases hi
  | some x =>
    rw [q] at hi
    simp at hi
    obtain ⟨e1, e2⟩ := hi
    subst e1 e2
    exact ⟨x.2, by rw [q, ← e]⟩
theorem idxs_some {bs : List (Bun Str)} {c : Str} {es : List Ent} (h : (c, es) ∈ bs) : 0 < (idxs bs c).length := by
  obtain ⟨i, hi⟩ := List.mem_iff_getElem?.mp h
  unfold idxs
  rw [List.length_map]
  refine List.length_pos_of_mem (a := ((c, es), i)) (List.mem_filter.mpr ⟨?_, by simp⟩)
  exact List.mem_of_getElem? (i := i) (by rw [List.getElem?_zipIdx, hi]; simp)
theorem idxs_len (bs : List (Bun Str)) (c : Str) : (idxs bs c).length ≤ bs.length := by
  unfold idxs
  rw [List.length_map]
  exact Nat.le_trans (List.length_filter_le _ _) (by rw [List.length_zipIdx]; exact Nat.le_refl _)
end Fb

namespace Fb
open PySem PySem.Spec L2 Evl
open C8 (Cal Met Mak)
/-- all beneath a top column -/
def subO (F : Fo Str) (c : Str) : List Str := match F.trees.find? (fun t => decide (t.1 = c)) with
  | some t => t.2.order
  | none => []
theorem subO_at {F : Fo Str} (nd : F.order.Nodup) {c : Str} {k : Fo Str} (h : (c, k) ∈ F.trees) : subO F c = k.order := by
  unfold subO
  cases e : F.trees.find? (fun t => decide (t.1 = c)) with
  | none =>
    rw [List.find?_eq_none] at e
    exact absurd (decide_eq_true rfl) (e (c, k) h)
  | some t =>
    have h1 : t.1 = c := by simpa using List.find?_some e
    have h2 := List.mem_of_find?_eq_some e
    obtain ⟨a, b⟩ := t
    simp only at h1
    subst h1
    rw [Sub.one nd (Fo.trees_sub h2) (Fo.trees_sub h)]
def accO (F : Fo Str) (over : Option Str) (a : Prs Str) : List Str := (Kids a over).flatMap fun c => c :: subO F c
theorem accO_all {F : Fo Str} {over : Option Str} {qs : Prs Str} (nd : F.order.Nodup) (h : F.tops = Kids qs over) : accO F over qs = F.order := by
  unfold accO
  rw [← h, trees_tops, trees_order, List.flatMap_map]
  exact flatMap_same fun t ht => by rw [subO_at nd (c := t.1) (k := t.2) ht]
theorem accO_app (F : Fo Str) (over : Option Str) (a b : Prs Str) : accO F over (a ++ b) = accO F over a ++ accO F over b := by
  unfold accO; rw [Kids_append, List.flatMap_append]
theorem accO_one (F : Fo Str) (over : Option Str) (x : Str × Option Str) : accO F over [x] = if x.2 = over then x.1 :: subO F x.1 else [] := by
  unfold accO
  rw [Kids_cons]
  by_cases e : x.2 = over
  · rw [if_pos e, if_pos e]; simp [Kids]
  · rw [if_neg e, if_neg e]; simp [Kids]
structure LoOk (d : Nat) (T : Fo Str) (over : Option Str) (F : Fo Str) : Prop where
  nd : T.order.Nodup
  few : T.order.length ≤ 8
  at' : (over = none ∧ F = T) ∨ ∃ c, over = some c ∧ Sub T c F
  dep : F.depth < d
theorem LoOk.kids {d : Nat} {T : Fo Str} {over : Option Str} {F : Fo Str} (h : LoOk d T over F) : F.tops = Kids (T.pairs none) over := by
  have sh := pairs_shape h.nd
  rcases h.at' with ⟨rfl, rfl⟩ | ⟨c, rfl, hs⟩
  · exact sh.tops
  · exact sh.kids c F hs
theorem LoOk.ndF {d : Nat} {T : Fo Str} {over : Option Str} {F : Fo Str} (h : LoOk d T over F) : F.order.Nodup ∧ F.order.length ≤ 8 := by
  rcases h.at' with ⟨rfl, rfl⟩ | ⟨c, rfl, hs⟩
  · exact ⟨h.nd, h.few⟩
  · have := hs.few
    have := h.few
    exact ⟨(List.nodup_cons.mp (Sub.nodup h.nd hs)).2, by omega⟩
theorem LoOk.down {d : Nat} {T : Fo Str} {over : Option Str} {F : Fo Str} (h : LoOk (d + 1) T over F) {c : Str} {k : Fo Str} (hk : (c, k) ∈ F.trees) : LoOk d T (some c) k := by
  have := Fo.trees_depth hk
  have := h.dep
  refine ⟨h.nd, h.few, .inr ⟨c, rfl, ?_⟩, by omega⟩
  rcases h.at' with ⟨rfl, rfl⟩ | ⟨c', rfl, hs⟩
  · exact Fo.trees_sub hk
  · exact hs.trans (Fo.trees_sub hk)
section
variable {P : Program} {w : World} {K : PySem.W.Frag} {mg : Str → Option Value} {base : Heap}
abbrev LoI : Type := Fo Str × Option Str × Fo Str
abbrev sp_Lorder (d : Nat) : Sp := spP (fun i : LoI => LoOk d i.1 i.2.1 i.2.2) (fun i => [rD (.list ((i.1.pairs none).map pairD)), rD (optD i.2.1)]) fun i => rD (strL i.2.2.order)
theorem c_Lorder (W : Wo K mg base) : ∀ d, Cal P w K mg base (d + 1) "_law_order" (sp_Lorder d) []
  | 0 => cal_of (f_Lorder W) (g__law_order W) b_Lorder sc_Lorder (fun _ _ => rfl) fun cdv A' outer s H E hr => ⟨_, pss_never, fun i F D0 Q o q => absurd o.dep (Nat.not_lt_zero _)⟩
  | d + 1 => by
    have c_Lorder := c_Lorder W d
    refine cal_of (f_Lorder W) (g__law_order W) b_Lorder sc_Lorder (fun _ _ => rfl) fun cdv A' outer s H E hr => ⟨_, (pss_cons (ps_set (i := 2) sc_Lorder.nd rfl (by first | exact Or.inl rfl | exact Or.inr rfl) (pe_lst pa_nil))
    (pss_cons (ps_for PassesOwn.never rfl (pi_listK K (pv 0)) (pg_tupK K rfl (pgs_cons (pg_name (i := 3) sc_Lorder.nd rfl (by first | exact Or.inl rfl | exact Or.inr rfl)) (pgs_cons (pg_name (i := 4) sc_Lorder.nd rfl (by first | exact Or.inl rfl | exact Or.inr rfl)) pgs_nil))) (pss_one (ps_if (pt_cmpR op_eq (pv 4) (pv 1) (nomark _)) (pss_one (ps_set (i := 2) sc_Lorder.nd rfl (by first | exact Or.inl rfl | exact Or.inr rfl) (pe_op op_cat (pe_op op_cat (pv 2) (pe_lst (pa_cons (pv 3) pa_nil))) (C8.pe_c c_Lorder hr (by first | decide | omega) rfl (pa_cons (pv 0) (pa_cons (pv 3) pa_nil)))))) pss_nil)))
    (pss_one (ps_ret (pv 2))))), ?_⟩
    rintro ⟨T, over, G⟩ F D0 Q ok q
    simp only at ok q
    obtain ⟨nd, g8⟩ := ok.ndF
    have all := accO_all nd ok.kids
    have kk := ok.kids
    show Go D0 (gam N_Lorder [rD (.list ((T.pairs none).map pairD)), rD (optD over)]) F _
    refine sq_asg (R := rD (strL [])) (Eg.lst (ds := []) (eg_lst ag_nil (by simp))) ?_
    refine sq_forL (G := gT) (T.pairs none) (fun x => rD (pairD x)) (ig_listX (f := pairD) (eg_var rfl)) (fun i R y => y)
      (fun a => [some (rD (.list ((T.pairs none).map pairD))), some (rD (optD over)), some (rD (strL (accO G over a))), none, none]) (fun _ => F) (Less.refl _) rfl (fun _ => trivial) (fun a x b D1 N he e1 kN => ?_) ?_
    · have mx : x ∈ T.pairs none := by rw [he]; simp
      have al : (accO G over a).length + (accO G over [x]).length ≤ 8 := by
        have : a ++ x :: b = (a ++ [x]) ++ b := by simp
        rw [he, this, accO_app, accO_app] at all
        have := congrArg List.length all
        rw [List.length_append, List.length_append] at this
        omega
      rw [accO_app] at kN
      refine ⟨_, _, tgt_tupD (ds := [.str x.1, optD x.2]) (tgs_cons tgt_name (tgs_cons tgt_name tgs_nil)) rfl, ?_⟩
      refine go_if (b := decide (x.2 = over)) (tg_test (eg_op (eg_var rfl) (eg_var rfl) og_eqO)) (fun e => ?_) (fun e => ?_)
      · have e' : x.2 = over := of_decide_eq_true e
        rw [accO_one, if_pos e'] at kN al
        have hx : x.1 ∈ G.tops := by rw [kk, mem_Kids, ← e']; exact mx
        rw [trees_tops] at hx
        obtain ⟨t, ht, e2⟩ := List.mem_map.mp hx
        have ht' : (x.1, t.2) ∈ G.trees := by rw [← e2]; exact ht
        have es := subO_at nd ht'
        rw [es] at kN al
        simp only [List.length_cons] at al
        refine go_asg (R := rD (strL (accO G over a ++ x.1 :: t.2.order))) (Eg.to (eg_op (eg_op (eg_var rfl) (Eg.lst (ds := [.str x.1]) (eg_lst (ag_cons (eg_var rfl) ag_nil) (by simp))) (og_cat (by rw [List.length_map]; simp; omega))) (eg_callP (T, some x.1, t.2) (ok.down ht') (ag_cons (eg_var rfl) (ag_cons (eg_var rfl) ag_nil)) rfl) (og_cat (by simp; omega))) (by simp)) (kN.less (less_of rfl fun i h => match i with | 0 => .inr rfl | 1 => .inr rfl | 2 => .inr rfl | 3 => .inl rfl | 4 => .inl rfl | i + 5 => absurd h (by show ¬ i + 5 < 5; omega)))
      · have e' : ¬ x.2 = over := of_decide_eq_false e
        rw [accO_one, if_neg e', List.append_nil] at kN
        exact go_next (kN.less (less_of rfl fun i h => match i with | 0 => .inr rfl | 1 => .inr rfl | 2 => .inr rfl | 3 => .inl rfl | 4 => .inl rfl | i + 5 => absurd h (by show ¬ i + 5 < 5; omega)))
    · rw [all]
      exact go_ret (eg_var rfl) fun v D H e hd r => q v D H () e trivial hd r
end
end Fb

namespace Fb
open PySem PySem.Spec L2 Evl
open C8 (Cal Met Mak)
theorem PrtOk.snoc {ns : List Nat} {cs : List Str} {bs : List (Bun Str)} {n : Nat} {c : Str} {es : List Ent} (h : PrtOk ns cs bs) (hb : bs[n]? = some (c, es)) : PrtOk (ns ++ [n]) (cs ++ [c]) bs := by
  have hl := h.len
  refine ⟨by simp [hl], fun j p c' hp hc => ?_⟩
  rw [List.getElem?_append] at hp hc
  by_cases q : j < ns.length
  · rw [if_pos q] at hp
    rw [if_pos (by omega)] at hc
    exact h.at' j p c' hp hc
  · rw [if_neg q] at hp
    rw [if_neg (by omega)] at hc
    rw [List.getElem?_singleton] at hp hc
    split at hp
    · rw [if_pos (by omega)] at hc
      cases hp; cases hc
      exact ⟨es, hb⟩
    · cases hp
/-- entries so far: below base + st -/
structure EsOk (cs : List Str) (bs : List (Bun Str)) (ba : Int) (st : Int) (es : List Ent) : Prop where
  up : Rising es
  lt : ∀ e ∈ es, e.1 ≤ ba + st
  pt : ∀ e ∈ es, PrtOk e.2 cs bs
theorem EsOk.snoc {cs : List Str} {bs : List (Bun Str)} {ba st st' : Int} {es : List Ent} {ns : List Nat} (h : EsOk cs bs ba st es) (h1 : st < st') (h2 : PrtOk ns cs bs) : EsOk cs bs ba st' (es ++ [(ba + st', ns)]) := by
  refine ⟨?_, fun e he => ?_, fun e he => ?_⟩
  · refine List.pairwise_append.mpr ⟨h.up, List.pairwise_singleton _ _, fun a ha b hb => ?_⟩
    rw [List.mem_singleton.mp hb]
    have := h.lt a ha
    show a.1 < ba + st'
    omega
  · rcases List.mem_append.mp he with he | he
    · have := h.lt e he; omega
    · rw [List.mem_singleton.mp he]; exact Int.le_refl _
  · rcases List.mem_append.mp he with he | he
    · exact h.pt e he
    · rw [List.mem_singleton.mp he]; exact h2
section
variable {P : Program} {w : World} {K : PySem.W.Frag} {mg : Str → Option Value} {base : Heap}
structure LbOk (m : Nat) (T : Fo Str) (bs : List (Bun Str)) (c : Str) (k : Fo Str) : Prop where
  m : m < 800000
  nd : T.order.Nodup
  few : T.order.length ≤ 8
  sub : Sub T c k
  has : ∀ x ∈ k.tops, ∃ es, (x, es) ∈ bs
  len : bs.length ≤ 1000
abbrev LbI : Type := Addr × Nat × Fo Str × Addr × List (Bun Str) × Str × Fo Str × Int
abbrev sp_Lbunch : Sp := spX (κ := List Ent) (fun i : LbI => LbOk i.2.1 i.2.2.1 i.2.2.2.2.1 i.2.2.2.2.2.1 i.2.2.2.2.2.2.1) (fun i => [rV (.ref i.1), rD (.list ((i.2.2.1.pairs none).map pairD)), rV (.ref i.2.2.2.1), rD (.str i.2.2.2.2.2.1), rD (.int i.2.2.2.2.2.2.2)])
  (fun i => [wWl i.1 i.2.1, wHeld i.2.2.2.1 i.2.2.2.2.1]) (fun i es => Rising es ∧ es.length ≤ 3 ∧ ∀ e ∈ es, PrtOk e.2 i.2.2.2.2.2.2.1.tops i.2.2.2.2.1) (fun i es => rD (bunD (i.2.2.2.2.2.1, es))) (fun i _ => [wWl i.1 (i.2.1 + 28), wHeld i.2.2.2.1 i.2.2.2.2.1])
theorem c_Lbunch (W : Wo K mg base) : Cal P w K mg base 2 "_law_bunch" sp_Lbunch [] := by
  have c_Ldraw := c_Ldraw (P := P) (w := w) W
  refine cal_of (f_Lbunch W) (g__law_bunch W) b_Lbunch sc_Lbunch (fun _ _ => rfl) fun cdv A' outer s H E hr => ⟨_, (pss_cons ((ps_setLc (i := 5) (own := [("_law_other", 12), ("_law_over", 13)]) (g := (gTup K 2 (gCons (gName 12) (gCons (gName 13) gNil)))) rfl sc_Lbunch.nd rfl rfl (sw_true rfl rfl rfl (by decide +kernel)) (pi_listK K (pv 1)) (blkOk_by (own := [("_law_other", 12), ("_law_over", 13)]) (N := N_Lbunch) (sc := defScope s_Lbunch) (by decide +kernel)) (fun _ _ _ _ _ => (pg_tupK K rfl (pgs_cons (pg_name (i := 12) sc_Lbunch.nd rfl (by first | exact Or.inl rfl | exact Or.inr rfl)) (pgs_cons (pg_name (i := 13) sc_Lbunch.nd rfl (by first | exact Or.inl rfl | exact Or.inr rfl)) pgs_nil)))) (fun _ _ _ _ _ => (pts_one (pt_cmpR op_eq (pv 13) (pv 3) (nomark _)))) (fun _ _ _ _ _ => (pv 12))))
    (pss_cons (ps_set (i := 6) sc_Lbunch.nd rfl (by first | exact Or.inl rfl | exact Or.inr rfl) (pe_lst pa_nil))
    (pss_cons (ps_set (i := 7) sc_Lbunch.nd rfl (by first | exact Or.inl rfl | exact Or.inr rfl) pe_int)
    (pss_cons (ps_for PassesOwn.never rfl (pi_range1 rfl (n_range W) (pa_cons (pe_ix (kIx K rIxL ix_list) (pe_lst (pa_cons pe_int (pa_cons pe_int (pa_cons pe_int (pa_cons pe_int (pa_cons pe_int (pa_cons pe_int pa_nil))))))) (C8.pe_c c_Ldraw hr (by first | decide | omega) rfl (pa_cons (pv 0) (pa_cons pe_int pa_nil))) fun _ _ => rfl) pa_nil)) (pg_name (i := 8) sc_Lbunch.nd rfl (by first | exact Or.inl rfl | exact Or.inr rfl)) (pss_cons (ps_set (i := 7) sc_Lbunch.nd rfl (by first | exact Or.inl rfl | exact Or.inr rfl) (pe_op op_add (pe_op op_add (pv 7) pe_int) (C8.pe_c c_Ldraw hr (by first | decide | omega) rfl (pa_cons (pv 0) (pa_cons pe_int pa_nil)))))
    (pss_cons (ps_set (i := 9) sc_Lbunch.nd rfl (by first | exact Or.inl rfl | exact Or.inr rfl) (pe_lst pa_nil))
    (pss_cons (ps_for PassesOwn.never rfl (pi_listK K (pv 5)) (pg_name (i := 10) sc_Lbunch.nd rfl (by first | exact Or.inl rfl | exact Or.inr rfl)) (pss_cons ((ps_setLc (i := 11) (own := [("_law_at", 14), ("_law_bunch_here", 15)]) (g := (gTup K 2 (gCons (gName 14) (gCons (gName 15) gNil)))) rfl sc_Lbunch.nd rfl rfl (sw_true rfl rfl rfl (by decide +kernel)) (pi_enumK K rfl (n_enumerate W) (pa_cons (pv 2) pa_nil)) (blkOk_by (own := [("_law_at", 14), ("_law_bunch_here", 15)]) (N := N_Lbunch) (sc := defScope s_Lbunch) (by decide +kernel)) (fun _ _ _ _ _ => (pg_tupK K rfl (pgs_cons (pg_name (i := 14) sc_Lbunch.nd rfl (by first | exact Or.inl rfl | exact Or.inr rfl)) (pgs_cons (pg_name (i := 15) sc_Lbunch.nd rfl (by first | exact Or.inl rfl | exact Or.inr rfl)) pgs_nil)))) (fun _ _ _ _ _ => (pts_one (pt_cmpR op_eq (pe_ix (kIx K rIxT ix_tup) (pv 15) pe_int fun _ _ => rfl) (pv 10) (nomark _)))) (fun _ _ _ _ _ => (pv 14))))
    (pss_one (ps_expr (pe_bmK K PySem.F.plainAttrs_list PySem.F.slot_list_append PySem.F.type_list_append mt_append (pv 9) (pa_cons (pe_ix (kIx K rIxL ix_list) (pv 11) (C8.pe_c c_Ldraw hr (by first | decide | omega) rfl (pa_cons (pv 0) (pa_cons (pe_callB (kCall K rLenV call_len) (by rfl) (n_len W) PySem.boot_len (pa_cons (pv 11) pa_nil)) pa_nil))) fun _ _ => rfl) pa_nil))))))
    (pss_one (ps_expr (pe_bmK K PySem.F.plainAttrs_list PySem.F.slot_list_append PySem.F.type_list_append mt_append (pv 6) (pa_cons (pe_tup (pa_cons (pe_op op_add (pv 4) (pv 7)) (pa_cons (pe_callTy (kCall K rTupOf call_tuple_of) (by rfl) (n_tuple W) PyProof.Rows.boot_tuple (pa_cons (pv 9) pa_nil)) pa_nil))) pa_nil))))))))
    (pss_one (ps_ret (pe_tup (pa_cons (pv 3) (pa_cons (pv 6) pa_nil))))))))), ?_⟩
  rintro ⟨p, m, T, pm, bs, c, k, ba⟩ F D0 Q ok q
  simp only at ok q
  have sh := pairs_shape ok.nd
  have kk := sh.kids c k ok.sub
  have hm := ok.m
  have few := ok.few
  have hbs := ok.len
  have kf : k.tops.length ≤ 8 := by
    have h1 := tops_le k
    have h2 := ok.sub.few
    omega
  show Go D0 (gam N_Lbunch [rV (.ref p), rD (.list ((T.pairs none).map pairD)), rV (.ref pm), rD (.str c), rD (.int ba)]) (wWl p m :: wHeld pm bs :: F) _
  have ql : (T.pairs none).length ≤ 8 := by
    have := congrArg List.length (Fo.pairs_fst T none)
    rw [List.length_map] at this
    omega
  refine sq_asg (R := rD (strL k.tops)) (Eg.to (eg_lcD (L1 := wWl p m :: wHeld pm bs :: F) (T.pairs none) (ig_listX (f := pairD) (eg_var rfl)) (by omega) (fun _ => trivial) (fun x => decide (x.2 = some c)) (fun x => .str x.1) fun i x hx R ⟨y, hy, hR⟩ => ?_) (by rw [kk]; unfold strL Kids; rw [List.map_map]; rfl)) ?_
  · subst hR
    rw [hx] at hy; cases hy
    exact ⟨_, _, tgt_tupD (ds := [.str x.1, optD x.2]) (tgs_cons tgt_name (tgs_cons tgt_name tgs_nil)) rfl, by simp, fun Fr => tg_test (eg_op (eg_var rfl) (eg_var rfl) (og_eqO (b := some c))), fun _ Fr => eg_var rfl⟩
  · refine sq_new ag_nil (by simp) fun pe => ?_
    refine sq_asg eg_int ?_
    refine sq_forRng (L1 := mL pe [] :: wWl p (m + 1) :: wHeld pm bs :: F) (ok := fun n => n ∈ ([2, 1, 3, 2, 0, 1] : List Int)) (ag_cons (eg_op (Eg.lst (ds := [2, 1, 3, 2, 0, 1].map .int) (eg_lst (ag_cons eg_int (ag_cons eg_int (ag_cons eg_int (ag_cons eg_int (ag_cons eg_int (ag_cons eg_int ag_nil)))))) (by simp))) (Eg.atW (j := 1) (w := wWl p m) (eg_draw (t := 6) ⟨by decide, by decide, by omega⟩ (ag_cons (eg_var rfl) (ag_cons eg_int ag_nil))) rfl) (og_pick (by decide))) ag_nil) fun n hn => ?_
    have hn3 : 0 ≤ n ∧ n ≤ 3 := by
      simp only [List.mem_cons, List.not_mem_nil, or_false] at hn
      omega
    show Go D0 [some (rV (.ref p)), some (rD (.list ((T.pairs none).map pairD))), some (rV (.ref pm)), some (rD (.str c)), some (rD (.int ba)), some (rD (strL k.tops)), some (rV (.ref pe)), some (rD (.int 0)), none, none, none, none, none, none, none, none] (mL pe [] :: wWl p (m + 1) :: wHeld pm bs :: F) _
    refine sq_for (ι := List Ent × Int) (ig_rng1 ag_int1 (by omega) (by omega)) (fun i x => x.1.length = i ∧ EsOk k.tops bs ba x.2 x.1) (fun _ x => [some (rV (.ref p)), some (rD (.list ((T.pairs none).map pairD))), some (rV (.ref pm)), some (rD (.str c)), some (rD (.int ba)), some (rD (strL k.tops)), some (rV (.ref pe)), some (rD (.int x.2)), none, none, none, none, none, none, none, none])
      (fun i x => mL pe (x.1.map fun e => rD (entD e)) :: wWl p (m + 1 + i * 9) :: wHeld pm bs :: F) ⟨([], 0), ⟨rfl, .nil, (fun e h => nomatch h), fun e h => nomatch h⟩, Less.refl _, rfl⟩ (fun _ _ _ _ => trivial) ?_ ?_
    · rintro i ⟨es, st⟩ R D1 N hi e1 ⟨hl, eo⟩ rfl kN
      simp only at hl eo
      have i3 : i < 3 := by omega
      refine ⟨_, _, tgt_name, ?_⟩
      refine sq_asg (R := rX (fun s : Int => st < s) fun s => rD (.int s)) (L' := mL pe (es.map fun e => rD (entD e)) :: wWl p (m + 1 + i * 9 + 1) :: wHeld pm bs :: F) (eg_op (eg_op (eg_var rfl) eg_int og_add) (Eg.atW (j := 1) (w := wWl p (m + 1 + i * 9)) (eg_draw (t := 2) ⟨by decide, by decide, by omega⟩ (ag_cons (eg_var rfl) (ag_cons eg_int ag_nil))) rfl) (og_Xr fun j hj => og_add.imp fun D v h => ⟨_, by omega, h⟩)) ?_
      refine go_X (i := 7) rfl fun st' hst => ?_
      refine sq_new ag_nil (by simp) fun pp => ?_
      show Go D1 [some (rV (.ref p)), some (rD (.list ((T.pairs none).map pairD))), some (rV (.ref pm)), some (rD (.str c)), some (rD (.int ba)), some (rD (strL k.tops)), some (rV (.ref pe)), some (rD (.int st')), some (rD (.int i)), some (rV (.ref pp)), none, none, none, none, none, none] (mL pp [] :: mL pe (es.map fun e => rD (entD e)) :: wWl p (m + 1 + i * 9 + 1) :: wHeld pm bs :: F) _
      refine sq_for (ι := List Nat) (ig_listX (xs := k.tops) (f := .str) (eg_var rfl)) (fun i ns => PrtOk ns (k.tops.take i) bs) (fun _ _ => [some (rV (.ref p)), some (rD (.list ((T.pairs none).map pairD))), some (rV (.ref pm)), some (rD (.str c)), some (rD (.int ba)), some (rD (strL k.tops)), some (rV (.ref pe)), some (rD (.int st')), some (rD (.int i)), some (rV (.ref pp)), none, none, none, none, none, none])
        (fun i2 ns => mL pp (ns.map fun (n : Nat) => rD (.int (n : Int))) :: mL pe (es.map fun e => rD (entD e)) :: wWl p (m + 1 + i * 9 + 1 + i2) :: wHeld pm bs :: F) ⟨[], ⟨rfl, fun j p c h => by simp at h⟩, Less.refl _, rfl⟩ (fun _ _ _ _ => trivial) ?_ ?_
      · rintro i2 ns R D2 N2 hi2 e2 po ⟨x, hx, rfl⟩ kN2
        obtain ⟨xes, hxes⟩ := ok.has x (List.mem_of_getElem? hx)
        have ip := idxs_some hxes
        have il := idxs_len bs x
        have nl : ns.length ≤ 8 := by
          have := po.len
          rw [List.length_take] at this
          omega
        refine ⟨_, _, tgt_name, ?_⟩
        refine sq_asg (R := rD (.list ((idxs bs x).map fun (n : Nat) => .int (n : Int)))) (Eg.to (eg_lcD (L1 := mL pp (ns.map fun (n : Nat) => rD (.int (n : Int))) :: mL pe (es.map fun e => rD (entD e)) :: wWl p (m + 1 + i * 9 + 1 + i2) :: wHeld pm bs :: F) bs.zipIdx ((ig_enumWX (j := 3) (ag_cons (eg_var rfl) ag_nil) rfl).to (by rw [List.length_zipIdx]) fun i R _ y => ⟨R, y, fun _ _ h => h⟩) (by rw [List.length_zipIdx]; omega) (fun F' => gW.app ⟨3, rfl⟩) (fun y => decide (y.1.1 = x)) (fun y => .int (y.2 : Int)) fun i3 y hy R ⟨b, hb, hR⟩ => ?_) (by unfold idxs; rw [List.map_map]; rfl)) ?_
        · subst hR
          rw [List.getElem?_zipIdx, hb] at hy
          have ey : y = (b, i3) := by simpa using hy.symm
          subst ey
          exact ⟨_, _, tgt_tup (tgs_cons tgt_name (tgs_cons tgt_name tgs_nil)) rfl, by simp, fun Fr => tg_test (eg_op (eg_op (eg_var rfl) eg_int (og_ixDT (ds := [.str b.1, .list (b.2.map entD)]) (i := 0) rfl)) (eg_var rfl) og_eqS), fun _ Fr => eg_var rfl⟩
        · refine go_drop (L' := mL pp ((ns.map fun (n : Nat) => rD (.int (n : Int))) ++ [rX (fun n : Nat => n ∈ idxs bs x) fun n => rD (.int (n : Int))]) :: mL pe (es.map fun e => rD (entD e)) :: wWl p (m + 1 + i * 9 + 1 + i2 + 1) :: wHeld pm bs :: F) (eg_append (j := 0) (Rs := ns.map fun (n : Nat) => rD (.int (n : Int))) (eg_var rfl) ⟨0, _, rfl⟩ (eg_op (R := rX (fun n : Nat => n ∈ idxs bs x) fun n => rD (.int (n : Int))) (L' := mL pp (ns.map fun (n : Nat) => rD (.int (n : Int))) :: mL pe (es.map fun e => rD (entD e)) :: wWl p (m + 1 + i * 9 + 1 + i2 + 1) :: wHeld pm bs :: F) (eg_var rfl) (Eg.atW (j := 2) (w := wWl p (m + 1 + i * 9 + 1 + i2)) (eg_draw (t := ((idxs bs x).length : Int)) ⟨by omega, by omega, by omega⟩ (ag_cons (eg_var rfl) (ag_cons (Eg.to (eg_cb (ag_cons (eg_var rfl) ag_nil) (cg_lenD (ds := (idxs bs x).map fun (n : Nat) => .int (n : Int)))) (by rw [List.length_map])) ag_nil))) rfl) (og_Xr fun j hj => ?_)) rfl (by rw [List.length_map]; omega)) ?_
          · obtain ⟨y, h1, h2⟩ := at_get (xs := (idxs bs x).map fun (n : Nat) => PyData.int (n : Int)) hj.1 (by rw [List.length_map]; exact hj.2)
            rw [List.getElem?_map] at h1
            cases e : (idxs bs x)[j.toNat]? with
            | none => rw [e] at h1; cases h1
            | some n => rw [e] at h1; cases h1; exact (og_ixD h2).imp fun D v h => ⟨n, List.mem_of_getElem? e, h⟩
          · refine go_open (fun D H h => h.mLX) fun n hn => ?_
            obtain ⟨nes, hnb⟩ := idxs_at hn
            have kN2' := kN2 (ns ++ [n]) (by rw [List.take_add_one, hx]; exact po.snoc hnb)
            rw [List.map_append] at kN2'
            exact kN2'.less (less_of rfl fun i h => match i with | 0 => .inr rfl | 1 => .inr rfl | 2 => .inr rfl | 3 => .inr rfl | 4 => .inr rfl | 5 => .inr rfl | 6 => .inr rfl | 7 => .inr rfl | 8 => .inr rfl | 9 => .inr rfl | 10 => .inl rfl | 11 => .inl rfl | 12 => .inl rfl | 13 => .inl rfl | 14 => .inl rfl | 15 => .inl rfl | i + 16 => absurd h (by show ¬ i + 16 < 16; omega))
      · intro ns po
        rw [List.take_length] at po
        refine go_drop (L' := mL pe ((es ++ [(ba + st', ns)]).map fun e => rD (entD e)) :: wWl p (m + 1 + i * 9 + 1 + k.tops.length) :: wHeld pm bs :: F) (Eg.words (L2 := mL pe ((es.map fun e => rD (entD e)) ++ [rD (entD (ba + st', ns))]) :: wWl p (m + 1 + i * 9 + 1 + k.tops.length) :: wHeld pm bs :: F) (L' := mL pp (ns.map fun (n : Nat) => rD (.int (n : Int))) :: mL pe (es.map fun e => rD (entD e)) :: wWl p (m + 1 + i * 9 + 1 + k.tops.length) :: wHeld pm bs :: F) (eg_append (j := 0) (R := rD (entD (ba + st', ns))) (eg_var rfl) ⟨1, _, rfl⟩ (Eg.tup (ds := [.int (ba + st'), prtD ns]) (eg_tup (ag_cons (eg_op (eg_var rfl) (eg_var rfl) og_add) (ag_cons (Eg.tup (ds := ns.map fun (n : Nat) => .int (n : Int)) (eg_cb (ag_cons (eg_frz rfl) ag_nil) (Cg.imp cg_tupL fun D v hv => by rw [List.map_map]; exact hv))) ag_nil)) (by simp))) rfl (by rw [List.length_map]; omega)) (fun D H h => h) (fun D H h => by rw [List.map_append]; exact h)) ?_
        refine Go.pre (L' := mL pe ((es ++ [(ba + st', ns)]).map fun e => rD (entD e)) :: wWl p (m + 1 + (i + 1) * 9) :: wHeld pm bs :: F) (fun D H h => ⟨D, Ex.refl D, h.monoAt (j := 1) rfl (by omega)⟩) ?_
        exact (kN (es ++ [(ba + st', ns)], st') ⟨by simp [hl], eo.snoc hst po⟩).less (less_of rfl fun i h => match i with | 0 => .inr rfl | 1 => .inr rfl | 2 => .inr rfl | 3 => .inr rfl | 4 => .inr rfl | 5 => .inr rfl | 6 => .inr rfl | 7 => .inr rfl | 8 => .inl rfl | 9 => .inl rfl | 10 => .inl rfl | 11 => .inl rfl | 12 => .inl rfl | 13 => .inl rfl | 14 => .inl rfl | 15 => .inl rfl | i + 16 => absurd h (by show ¬ i + 16 < 16; omega))
    · rintro ⟨es, st⟩ ⟨hl, eo⟩
      simp only at hl eo
      refine go_ret (L' := wWl p (m + 1 + n.toNat * 9) :: wHeld pm bs :: F) (R := rD (bunD (c, es))) (Eg.tup (ds := [.str c, .list (es.map entD)]) (eg_tup (ag_cons (eg_var rfl) (ag_cons (Eg.imp (eg_frz rfl) fun D v h => rD_lst (by rw [List.map_map]; exact h)) ag_nil)) (by simp))) fun v D H e hd r => q v D H es e ⟨eo.up, by omega, eo.pt⟩ (hd.wlMono (by omega)) r
end
end Fb

/-! A list or a tuple walked; xs.pop(i); a list known from now on, wherever its word stands. -/
namespace Fb
open PySem PySem.Spec L2 Evl
def iLT (K : PySem.W.Frag) (tl : TE) : TI := fun σ H R => iList K tl σ H R ∨ iTup K tl σ H R
theorem pi_lt {X : Cx} {tg l : Expr} {tl : TE} (hl : PE X l tl) : PI X tg l (iLT X.K tl) := ⟨fun pins s σ H R I h => h.elim (fun h => (pi_list hl).run pins s σ H R I h) fun h => (pi_tup hl).run pins s σ H R I h⟩
theorem pi_ltK {X : Cx} (K : PySem.W.Frag) {tg l : Expr} {tl : TE} (hl : PE X l tl) (hK : X.K = K := by rfl) : PI X tg l (iLT K tl) := kPI K (fun K => iLT K tl) (pi_lt hl) hK
theorem map_erase {α β : Type} (f : α → β) : ∀ (l : List α) (k : Nat), (l.eraseIdx k).map f = (l.map f).eraseIdx k
  | [], _ => by simp
  | a :: l, 0 => by simp
  | a :: l, k + 1 => by simp [map_erase f l k]
theorem AllR.erase {D : Hp} : ∀ {vs : List V} {Rs : List Rp} (k : Nat), AllR D vs Rs → AllR D (vs.eraseIdx k) (Rs.eraseIdx k)
  | _, _, _, .nil => by simp; exact .nil
  | _, _, 0, .cons _ t => t
  | _, _, k + 1, .cons r t => .cons r (AllR.erase k t)
theorem perm_erase {α : Type} : ∀ {l : List α} {k : Nat} {a : α}, l[k]? = some a → (a :: l.eraseIdx k).Perm l
  | [], _, _, h => by simp at h
  | x :: l, 0, a, h => by simp at h; subst h; exact .refl _
  | x :: l, k + 1, a, h => by
    have ih := perm_erase (l := l) (k := k) (a := a) (by simpa using h)
    rw [List.eraseIdx_cons_succ]
    exact (List.Perm.swap x a _).trans (ih.cons x)
abbrev natR (ns : List Nat) : List Rp := ns.map fun (n : Nat) => rD (.int (n : Int))
section
variable {K : PySem.W.Frag} {Γ Γ' : Gm} {L L1 L2' L3 L' : List Wd} {R Ra Rb Rc R' : Rp} {Rs : List Rp} {te ta tb tc tl : TE} {tr : TA} {D0 : Hp} {i j : Nat} {r : R2} {E : Ends} {P : L2.St → Hp → Prop} {p : Addr} {ns : List Nat}
theorem ig_lt {k : Bool} (h : Eg tl Γ L (rK k Rs) L') : Ig (iLT K tl) Γ L Rs.length (fun i R => Rs[i]? = some R) L' gT := fun σ D H g hd R kk => by
  cases k with
  | true => exact .inl (ig_list (K := K) h σ D H g hd R kk)
  | false => exact .inr (ig_tup (K := K) h σ D H g hd R kk)
theorem ig_ltN {k : Bool} (h : Eg tl Γ L (rK k (natR ns)) L') : Ig (iLT K tl) Γ L ns.length (fun i R => ∃ x, ns[i]? = some x ∧ R = rD (.int (x : Nat))) L' gT :=
  (ig_lt h).to (by rw [List.length_map]) fun i R _ y => by
    rw [List.getElem?_map] at y
    cases q : ns[i]? with
    | none => rw [q] at y; cases y
    | some x => rw [q] at y; cases y; exact ⟨_, ⟨x, rfl, rfl⟩, fun _ _ h => h⟩
theorem eg_frzAt (h : Γ[i]? = some (some (rV (.ref p)))) (hj : L[j]? = some (mL p Rs)) : Eg (tVar i) Γ L (rLst Rs) (L.eraseIdx j) := fun σ D H g hd Q q =>
  eg_frz (L := L.eraseIdx j) (Rs := Rs) h σ D H g (hd.front hj) Q q
theorem xg_pop {j0 : Nat} (ho : Eg ta Γ L (rV (.ref p)) L) (hy : L[j0]? = some (mL p (natR ns))) (h : Eg te Γ L (rBtw (ns.length : Int)) L') (hj : L'[j]? = some (mL p (natR ns))) (hz : ns.length ≤ 100000) :
    Xg (tBM K "list" rPopAt ta (tCons te tNil)) Γ L fun v D H => ∃ x : Nat × Nat, ns[x.1]? = some x.2 ∧ Hd D H (L'.set j (mL p (natR (ns.eraseIdx x.1)))) ∧ (rD (.int (x.2 : Int))).r D v := fun σ D H g hd Q q =>
  ho σ D H g hd _ fun x D1 H1 e1 h1 r1 => by
    have r1' : x = .ref p := r1
    subst r1'
    obtain ⟨_, vs0, hs0, _⟩ := h1.s _ _ hy
    refine ⟨Or.inl ⟨rfl, vs0, SqL.of hs0⟩, h σ D1 H1 (g.up e1) h1 _ fun v D2 H2 e2 h2 r2 => ?_⟩
    obtain ⟨t, ht, r3⟩ := r2
    obtain ⟨n1, vs, hs, ha⟩ := h2.s _ _ hj
    have len : vs.length = ns.length := by rw [ha.len, List.length_map]
    have hk : t.toNat < ns.length := by omega
    obtain ⟨y, hy1, hy2⟩ := ha.get (i := t.toNat) (R := rD (.int (ns[t.toNat] : Int))) (by rw [List.getElem?_map, List.getElem?_eq_getElem hk]; rfl)
    have a1 : atI vs t = some y := by
      have := atI_nat (xs := vs) hy1
      rwa [Int.toNat_of_nonneg ht.1] at this
    obtain ⟨k, k1, k2, k3, k4, k5⟩ := atI_get a1
    have kt : k = t.toNat := by
      have := PySem.StrLaws.seqIndex_nonneg (i := t) (n := vs.length) ht.1 (by omega)
      rw [this] at k1
      exact (Option.some.inj k1).symm
    subst kt
    refine ⟨p, vs, t, t.toNat, y, rfl, by rw [int_of r3], hs, by omega, by omega, k1, k2, q y D2 _ (e1.trans e2) ⟨(t.toNat, ns[t.toNat]), List.getElem?_eq_getElem hk, ?_, hy2⟩⟩
    refine h2.set hj (fun a ha' => upd_ne fun z => ha' (List.mem_singleton.mpr z)) (fun a ha' => ha') ⟨n1, _, upd_same, ?_⟩
    have := ha.erase t.toNat
    unfold natR
    rw [map_erase]
    exact this
end
end Fb

namespace Fb
open PySem PySem.Spec L2 Evl
open C8 (Cal Met Mak)
theorem mg_indexN {K : PySem.W.Frag} {L : List Wd} {o : List Nat} {n : Nat} (nd : o.Nodup) (hn : n ∈ o) : Mg (rIndex K) (rD (prL o)) [rD (.int (n : Int))] L (rD (.int ((ix o n : Nat) : Int))) L := by
  have nd' : (o.map fun (n : Nat) => (n : Int)).Nodup := List.pairwise_map.mpr (List.Pairwise.imp (fun {a b} (h : a ≠ b) e => h (Int.ofNat_inj.mp e)) nd)
  have := mg_indexI (K := K) (L := L) (j := ix o n) (x := (n : Int)) nd' (by rw [List.getElem?_map, ix_get hn]; rfl)
  rw [List.map_map] at this
  exact this
theorem perm_of {o : List Nat} {n : Nat} (h : o.Perm (List.range n)) : PermOf o n := ⟨h.nodup_iff.mpr List.nodup_range, fun i => by rw [h.mem_iff, List.mem_range]⟩
structure ShOk (m : Nat) (bs : List (Bun Str)) (ns : List Nat) : Prop where
  m : m < 900000
  len : bs.length ≤ 1000
  small : Small bs
  pt : ∀ b ∈ bs, ∀ e ∈ b.2, ∀ p ∈ e.2, p < bs.length
  rt : ∀ r ∈ ns, r < bs.length
  nl : ns.length ≤ 1000
section
variable {P : Program} {w : World} {K : PySem.W.Frag} {mg : Str → Option Value} {base : Heap}
abbrev ShI : Type := Addr × Nat × Bool × List (Bun Str) × List Nat
abbrev rBsNs (bs : List (Bun Str)) (ns : List Nat) : Rp := rTup [rD (bunsD bs), rD (prtD ns)]
abbrev sp_Lshuffled : Sp := spX (κ := List Nat) (fun i : ShI => ShOk i.2.1 i.2.2.2.1 i.2.2.2.2) (fun i => [rV (.ref i.1), rD (bunsD i.2.2.2.1), rK i.2.2.1 (natR i.2.2.2.2)]) (fun i => [wWl i.1 i.2.1]) (fun i o => PermOf o i.2.2.2.1.length) (fun i o => rBsNs (renB i.2.2.2.1 o) (i.2.2.2.2.map (ix o))) (fun i _ => [wWl i.1 (i.2.1 + 1000)])
theorem c_Lshuffled (W : Wo K mg base) : Cal P w K mg base 2 "_law_shuffled" sp_Lshuffled [] := by
  have c_Ldraw := c_Ldraw (P := P) (w := w) W
  refine cal_of (f_Lshuffled W) (g__law_shuffled W) b_Lshuffled sc_Lshuffled (fun _ _ => rfl) fun cdv A' outer s H E hr => ⟨_, (pss_cons (ps_set (i := 3) sc_Lshuffled.nd rfl (by first | exact Or.inl rfl | exact Or.inr rfl) (pe_listRg rfl rfl (n_list W) (prg_1 rfl (n_range W) (pe_callB (kCall K rLenV call_len) (by rfl) (n_len W) PySem.boot_len (pa_cons (pv 1) pa_nil)))))
    (pss_cons (ps_set (i := 4) sc_Lshuffled.nd rfl (by first | exact Or.inl rfl | exact Or.inr rfl) (pe_lc (own := [("_law_k", 7)]) (g := (gName 7)) rfl sc_Lshuffled.nd (pi_range1 rfl (n_range W) (pa_cons (pe_callB (kCall K rLenV call_len) (by rfl) (n_len W) PySem.boot_len (pa_cons (pv 1) pa_nil)) pa_nil)) (blkOk_by (own := [("_law_k", 7)]) (N := N_Lshuffled) (sc := defScope s_Lshuffled) (by decide +kernel)) (fun _ _ _ _ _ => (pg_name (i := 7) sc_Lshuffled.nd rfl (by first | exact Or.inl rfl | exact Or.inr rfl))) (fun _ _ _ _ _ => pts_nil) (fun _ _ _ _ _ => (pe_bmK K PySem.F.plainAttrs_list PySem.F.slot_list_pop PySem.F.type_list_pop mt_popAt (pv 3) (pa_cons (C8.pe_c c_Ldraw hr (by first | decide | omega) rfl (pa_cons (pv 0) (pa_cons (pe_callB (kCall K rLenV call_len) (by rfl) (n_len W) PySem.boot_len (pa_cons (pv 3) pa_nil)) pa_nil))) pa_nil)))))
    (pss_cons (ps_set (i := 5) sc_Lshuffled.nd rfl (by first | exact Or.inl rfl | exact Or.inr rfl) (pe_lst pa_nil))
    (pss_cons (ps_for PassesOwn.never rfl (pi_listK K (pv 4)) (pg_name (i := 6) sc_Lshuffled.nd rfl (by first | exact Or.inl rfl | exact Or.inr rfl)) (pss_cons (ps_asg (pe_ix (kIx K rIxL ix_list) (pv 1) (pv 6) fun _ _ => rfl) (pg_tupK K rfl (pgs_cons (pg_name (i := 8) sc_Lshuffled.nd rfl (by first | exact Or.inl rfl | exact Or.inr rfl)) (pgs_cons (pg_name (i := 9) sc_Lshuffled.nd rfl (by first | exact Or.inl rfl | exact Or.inr rfl)) pgs_nil))))
    (pss_one (ps_expr (pe_bmK K PySem.F.plainAttrs_list PySem.F.slot_list_append PySem.F.type_list_append mt_append (pv 5) (pa_cons (pe_tup (pa_cons (pv 8) (pa_cons (pe_lc (own := [("_law_value", 11), ("_law_parts", 12)]) (g := (gTup K 2 (gCons (gName 11) (gCons (gName 12) gNil)))) rfl sc_Lshuffled.nd (pi_listK K (pv 9)) (blkOk_by (own := [("_law_value", 11), ("_law_parts", 12)]) (N := N_Lshuffled) (sc := defScope s_Lshuffled) (by decide +kernel)) (fun _ _ _ _ _ => (pg_tupK K rfl (pgs_cons (pg_name (i := 11) sc_Lshuffled.nd rfl (by first | exact Or.inl rfl | exact Or.inr rfl)) (pgs_cons (pg_name (i := 12) sc_Lshuffled.nd rfl (by first | exact Or.inl rfl | exact Or.inr rfl)) pgs_nil)))) (fun _ _ _ _ _ => pts_nil) (fun _ _ _ _ _ => (pe_tup (pa_cons (pv 11) (pa_cons (pe_callTy (kCall K rTupOf call_tuple_of) (by rfl) (n_tuple W) PyProof.Rows.boot_tuple (pa_cons (pe_lc (own := [("_law_part", 13)]) (g := (gName 13)) rfl sc_Lshuffled.nd (pi_tupK K (pv 12)) (blkOk_by (own := [("_law_part", 13)]) (N := N_Lshuffled) (by kernel_rfl)) (fun _ _ _ _ _ => (pg_name (i := 13) sc_Lshuffled.nd rfl (by first | exact Or.inl rfl | exact Or.inr rfl))) (fun _ _ _ _ _ => pts_nil) (fun _ _ _ _ _ => (pe_bmK K PySem.F.plainAttrs_list PySem.F.slot_list_index PySem.F.type_list_index (kMt K rIndex mt_index) (pv 4) (pa_cons (pv 13) pa_nil)))) pa_nil)) pa_nil))))) pa_nil))) pa_nil))))))
    (pss_one (ps_ret (pe_tup (pa_cons (pv 5) (pa_cons (pe_callTy (kCall K rTupOf call_tuple_of) (by rfl) (n_tuple W) PyProof.Rows.boot_tuple (pa_cons (pe_lc (own := [("_law_root", 10)]) (g := (gName 10)) rfl sc_Lshuffled.nd (pi_ltK K (pv 2)) (blkOk_by (own := [("_law_root", 10)]) (N := N_Lshuffled) (sc := defScope s_Lshuffled) (by decide +kernel)) (fun _ _ _ _ _ => (pg_name (i := 10) sc_Lshuffled.nd rfl (by first | exact Or.inl rfl | exact Or.inr rfl))) (fun _ _ _ _ _ => pts_nil) (fun _ _ _ _ _ => (pe_bmK K PySem.F.plainAttrs_list PySem.F.slot_list_index PySem.F.type_list_index (kMt K rIndex mt_index) (pv 4) (pa_cons (pv 10) pa_nil)))) pa_nil)) pa_nil))))))))), ?_⟩
  rintro ⟨p, m, k, bs, ns⟩ F D0 Q ok q
  simp only at ok q
  have hm := ok.m
  have hl := ok.len
  have hnl := ok.nl
  show Go D0 (gam N_Lshuffled [rV (.ref p), rD (bunsD bs), rK k (natR ns)]) (wWl p m :: F) _
  refine sq_newRg (n := (bs.length : Int)) (Eg.to (eg_cb (ag_cons (eg_var rfl) ag_nil) (cg_lenD (ds := bs.map bunD))) (by rw [List.length_map])) (by omega) (by omega) fun pl => ?_
  show Go D0 _ (mL pl (natR (List.range bs.length)) :: wWl p m :: F) _
  refine sq_asg (R := rX (fun o : List Nat => PermOf o bs.length) fun o => rD (prL o)) (L' := mL pl (natR []) :: wWl p (m + bs.length) :: F) (Xg.eg (x := fun x : List Nat × List Nat => x.1.length = bs.length ∧ (x.1 ++ x.2).Perm (List.range bs.length)) (Rx := fun x => rLst (natR x.1)) (Lx := fun x => mL pl (natR x.2) :: wWl p (m + bs.length) :: F)
    (xg_lc (L1 := mL pl (natR (List.range bs.length)) :: wWl p m :: F) (ig_rng1 (n := (bs.length : Int)) (ag_cons (Eg.to (eg_cb (ag_cons (eg_var rfl) ag_nil) (cg_lenD (ds := bs.map bunD))) (by rw [List.length_map])) ag_nil) (by omega) (by omega)) (by show bs.length ≤ 100000; omega) (ι := List Nat × List Nat) (fun i x => x.1.length = i ∧ (x.1 ++ x.2).Perm (List.range bs.length)) (fun i x => mL pl (natR x.2) :: wWl p (m + i) :: F) (fun x => natR x.1) ⟨([], List.range bs.length), ⟨rfl, .refl _⟩, rfl, rfl⟩ (fun i x h => by rw [List.length_map, h.1]; exact Nat.le_refl _) (fun _ _ _ _ _ => trivial)
      fun i ⟨os, ls⟩ R hi ⟨h1, h2⟩ hR => ?_) _ _ fun ⟨os, ls⟩ ⟨h1, h2⟩ => ?_) ?_
  · subst hR
    simp only at h1 h2
    have hi' : i < bs.length := hi
    have ll : os.length + ls.length = bs.length := by
      have := h2.length_eq
      rwa [List.length_append, List.length_range] at this
    refine ⟨_, _, tgt_name, by simp, true, fun Fr => tg_yes, fun _ Fr => ?_, fun z => nomatch z⟩
    intro σ D H g hd Q q
    refine xg_pop (j0 := 0) (j := 0) (ns := ls) (p := pl) (L' := mL pl (natR ls) :: wWl p (m + i + 1) :: (F ++ Fr)) (eg_var rfl) rfl (Eg.atW (j := 1) (w := wWl p (m + i)) (eg_draw (t := (ls.length : Int)) ⟨by omega, by omega, by omega⟩ (ag_cons (eg_var rfl) (ag_cons (Eg.to (eg_cb (ag_cons (eg_var rfl) ag_nil) (cg_lenW (j := 1) (Rs := natR ls) rfl)) (by rw [List.length_map])) ag_nil))) rfl) rfl (by omega) σ D H g hd Q fun v D2 H2 e2 ⟨x, hx, h3, r3⟩ => q v D2 H2 e2 ⟨(os ++ [x.2], ls.eraseIdx x.1), rD (.int (x.2 : Int)), ⟨by simp [h1], ?_⟩, h3, by simp, r3⟩
    show ((os ++ [x.2]) ++ ls.eraseIdx x.1).Perm _
    rw [List.append_assoc]
    exact ((perm_erase hx).append_left os).trans h2
  · simp only at h1 h2
    have ll : os.length + ls.length = bs.length := by
      have := h2.length_eq
      rwa [List.length_append, List.length_range] at this
    have e0 : ls = [] := List.eq_nil_of_length_eq_zero (by omega)
    subst e0
    rw [List.append_nil] at h2
    exact ⟨fun D v r => ⟨os, perm_of h2, rD_lst (by rw [List.map_map]; exact r)⟩, rfl⟩
  · refine go_X (i := 4) rfl fun o po => ?_
    have ol : o.length ≤ bs.length := by
      have := List.Nodup.length_le_of_subset po.nd (l₂ := List.range bs.length) fun x hx => List.mem_range.mpr ((po.mem x).mp hx)
      simpa using this
    refine sq_new ag_nil (by simp) fun pf => ?_
    show Go D0 [some (rV (.ref p)), some (rD (bunsD bs)), some (rK k (natR ns)), some (rV (.ref pl)), some (rD (prL o)), some (rV (.ref pf)), none, none, none, none, none, none, none, none] (mL pf [] :: mL pl (natR []) :: wWl p (m + bs.length) :: F) _
    refine sq_forL (G := gT) o (fun (x : Nat) => rD (.int (x : Int))) (ig_listX (f := fun (x : Nat) => .int (x : Int)) (eg_var rfl)) (fun i R y => y)
      (fun _ => [some (rV (.ref p)), some (rD (bunsD bs)), some (rK k (natR ns)), some (rV (.ref pl)), some (rD (prL o)), some (rV (.ref pf)), none, none, none, none, none, none, none, none])
      (fun a => wHeld pf (renA bs o a) :: mL pl (natR []) :: wWl p (m + bs.length) :: F) (Less.refl _) rfl (fun _ => trivial) (fun a x c D1 N he e1 kN => ?_) ?_
    · have mx : x ∈ o := by rw [he]; simp
      have hx := (po.mem x).mp mx
      have hb : bs[x]? = some bs[x] := List.getElem?_eq_getElem hx
      generalize bs[x] = b at hb
      have mb := List.mem_of_getElem? hb
      have sm := ok.small b mb
      have er : renA bs o (a ++ [x]) = renA bs o a ++ [(b.1, b.2.map fun e => (e.1, e.2.map (ix o)))] := by unfold renA; rw [List.filterMap_append]; simp [hb]
      have al : a.length ≤ o.length := by rw [he, List.length_append]; omega
      have rl := renA_len (h := bs) (o := o) a
      refine ⟨_, _, tgt_name, ?_⟩
      refine sq_asgT (eg_op (eg_var rfl) (eg_var rfl) (og_ixD (ds := bs.map bunD) (d := bunD b) (atI_nat (by rw [List.getElem?_map, hb]; rfl)))) (tgt_tupD (ds := [.str b.1, .list (b.2.map entD)]) (tgs_cons tgt_name (tgs_cons tgt_name tgs_nil)) rfl) ?_
      refine go_drop (eg_append (j := 0) (R := rD (bunD (b.1, b.2.map fun e => (e.1, e.2.map (ix o))))) (eg_var rfl) ⟨0, _, rfl⟩ (Eg.tup (ds := [.str b.1, .list ((b.2.map fun e => (e.1, e.2.map (ix o))).map entD)]) (eg_tup (ag_cons (eg_var rfl) (ag_cons (Eg.to (eg_lcA (L1 := wHeld pf (renA bs o a) :: mL pl (natR []) :: wWl p (m + bs.length) :: F) b.2 (ig_listX (f := entD) (eg_var rfl)) (by omega) (fun _ => trivial) (fun e => entD (e.1, e.2.map (ix o))) fun i e he' R ⟨y, hy, hR⟩ => ?_) (by rw [List.map_map]; rfl)) ag_nil)) (by simp))) rfl (by rw [List.length_map]; omega)) ?_
      · subst hR
        rw [he'] at hy; cases hy
        have me := List.mem_of_getElem? he'
        have s2 := sm.2 e me
        refine ⟨_, _, tgt_tupD (ds := [.int e.1, prtD e.2]) (tgs_cons tgt_name (tgs_cons tgt_name tgs_nil)) rfl, by simp, fun Fr => Eg.tup (ds := [.int e.1, prtD (e.2.map (ix o))]) (eg_tup (ag_cons (eg_var rfl) (ag_cons (Eg.to (eg_cb (ag_cons (eg_lcA (L1 := wHeld pf (renA bs o a) :: mL pl (natR []) :: wWl p (m + bs.length) :: (F ++ Fr)) e.2 (ig_tupX (f := fun (x : Nat) => .int (x : Int)) (eg_var rfl)) (by omega) (fun _ => trivial) (fun x => .int ((ix o x : Nat) : Int)) fun i2 n hn R ⟨y, hy, hR⟩ => ?_) ag_nil) cg_tupD) (by show _ = prtD (e.2.map (ix o)); unfold prtD; rw [List.map_map]; rfl)) ag_nil)) (by simp))⟩
        subst hR
        rw [hn] at hy; cases hy
        exact ⟨_, _, tgt_name, by simp, fun Fr' => eg_bm (eg_var rfl) (fun x D H hd r => ty_list hd.ex r) (ag_cons (eg_var rfl) ag_nil) (mg_indexN po.nd ((po.mem n).mpr (ok.pt b mb e me n (List.mem_of_getElem? hn))))⟩
      · rw [er] at kN
        have ew : wHeld pf (renA bs o a ++ [(b.1, b.2.map fun e => (e.1, e.2.map (ix o)))]) = mL pf (((renA bs o a).map fun b => rD (bunD b)) ++ [rD (bunD (b.1, b.2.map fun e => (e.1, e.2.map (ix o))))]) := by unfold wHeld; rw [List.map_append]; rfl
        rw [ew] at kN
        exact kN.less (less_of rfl fun i h => match i with | 0 => .inr rfl | 1 => .inr rfl | 2 => .inr rfl | 3 => .inr rfl | 4 => .inr rfl | 5 => .inr rfl | 6 => .inl rfl | 7 => .inl rfl | 8 => .inl rfl | 9 => .inl rfl | 10 => .inl rfl | 11 => .inl rfl | 12 => .inl rfl | 13 => .inl rfl | i + 14 => absurd h (by show ¬ i + 14 < 14; omega))
    · have ea : renA bs o o = renB bs o := rfl
      rw [ea]
      refine go_ret (L' := mL pl (natR []) :: wWl p (m + bs.length) :: F) (eg_tup (ag_cons (Eg.imp (eg_frz rfl) fun D v hv => rD_lst (by rw [List.map_map]; exact hv)) (ag_cons (Eg.to (eg_cb (ag_cons (eg_lcA (L1 := mL pl (natR []) :: wWl p (m + bs.length) :: F) ns (ig_ltN (eg_var rfl)) (by omega) (fun _ => trivial) (fun x => .int ((ix o x : Nat) : Int)) fun i2 n hn R ⟨y, hy, hR⟩ => ?_) ag_nil) cg_tupD) (by show _ = prtD (ns.map (ix o)); unfold prtD; rw [List.map_map]; rfl)) ag_nil)) (by simp)) fun v D H e hd r => q v D H o e po (hd.tail.wlMono (by omega)) r
      subst hR
      rw [hn] at hy; cases hy
      exact ⟨_, _, tgt_name, by simp, fun Fr' => eg_bm (eg_var rfl) (fun x D H hd r => ty_list hd.ex r) (ag_cons (eg_var rfl) ag_nil) (mg_indexN po.nd ((po.mem n).mpr (ok.rt n (List.mem_of_getElem? hn))))⟩
end
end Fb

namespace Fb
open PySem PySem.Spec L2 Evl
open C8 (Cal Met Mak)
theorem prt_part {T : Fo Str} {bs : List (Bun Str)} (nd : T.order.Nodup) (wf : WF T bs) : ∀ {G : Fo Str} {ps : List Nat}, (∀ c k, (c, k) ∈ G.trees → Sub T c k) → PrtOk ps G.tops bs → PartOk bs G ps
  | .nil, ps, _, h => by
    have := h.len
    exact List.eq_nil_of_length_eq_zero (by simpa [Fo.tops] using this)
  | .cons c k r, [], _, h => by have := h.len; simp [Fo.tops] at this
  | .cons c k r, p :: q, hs, h => by
    obtain ⟨es, hb⟩ := h.at' 0 p c rfl rfl
    obtain ⟨k', h1, h2, h3⟩ := wf _ (List.mem_of_getElem? hb)
    have : k' = k := Sub.one nd h1 (hs c k (by simp [Fo.trees]))
    subst this
    refine ⟨p, q, es, rfl, hb, h2, h3, prt_part nd wf (fun c' k2 h' => hs c' k2 (by simp [Fo.trees, h'])) ⟨by have := h.len; simp [Fo.tops] at this; exact this, fun j p' c' hp hc => h.at' (j + 1) p' c' (by simpa using hp) (by simpa [Fo.tops] using hc)⟩⟩
/-- a folded thing along T -/
structure FtOk (T : Fo Str) (bs : List (Bun Str)) (ns : List Nat) : Prop where
  wf : WF T bs
  pt : PartOk bs T ns
  h3 : ∀ b ∈ bs, b.2.length ≤ 3
  len : bs.length ≤ 200
theorem sub_tops {T : Fo Str} {c : Str} {k : Fo Str} (h : Sub T c k) : k.tops.length ≤ T.order.length := by
  have h1 := tops_le k
  have h2 := h.few
  omega
theorem WF.parts {T : Fo Str} {bs : List (Bun Str)} (wf : WF T bs) (few : T.order.length ≤ 8) : ∀ b ∈ bs, ∀ e ∈ b.2, e.2.length ≤ 8 ∧ ∀ p ∈ e.2, p < bs.length := fun b hb e he => by
  obtain ⟨k, h1, h2, h3⟩ := wf b hb
  have h4 := h3 e he
  have h5 := sub_tops h1
  exact ⟨by rw [h4.length]; omega, h4.prt.lt⟩
theorem FtOk.sh {T : Fo Str} {bs : List (Bun Str)} {ns : List Nat} (h : FtOk T bs ns) (few : T.order.length ≤ 8) {m : Nat} (hm : m < 900000) : ShOk m bs ns := by
  have hl := h.len
  have pp := h.wf.parts few
  refine ⟨hm, by omega, fun b hb => ⟨by have := h.h3 b hb; omega, fun e he => by have := (pp b hb e he).1; omega⟩, fun b hb e he => (pp b hb e he).2, h.pt.prt.lt, ?_⟩
  have h1 := h.pt.length
  have h2 := tops_le T
  omega
theorem FtOk.ren {T : Fo Str} {bs : List (Bun Str)} {ns : List Nat} {o : List Nat} (h : FtOk T bs ns) (po : PermOf o bs.length) : FtOk T (renB bs o) (ns.map (ix o)) := by
  refine ⟨ren_wf po h.wf, (ren_part po h.pt).1, fun b hb => ?_, by rw [renB_length po]; exact h.len⟩
  rw [renB_eq] at hb
  obtain ⟨i, _, hi⟩ := List.mem_filterMap.mp hb
  cases e : bs[i]? with
  | none => rw [e] at hi; cases hi
  | some b' =>
    rw [e] at hi; cases hi
    show (renE o b'.2).length ≤ 3
    unfold renE
    rw [List.length_map]
    exact h.h3 b' (List.mem_of_getElem? e)
structure RawInv (T : Fo Str) (a : List Str) (bs : List (Bun Str)) : Prop where
  ok : NewOk T bs bs
  has : ∀ x ∈ a, ∃ es, (x, es) ∈ bs
theorem RawInv.step {T : Fo Str} {a : List Str} {bs : List (Bun Str)} {c : Str} {k : Fo Str} {es : List Ent} (nd : T.order.Nodup) (h : RawInv T a bs) (hs : Sub T c k) (h1 : Rising es) (h2 : es.length ≤ 3) (h3 : ∀ e ∈ es, PrtOk e.2 k.tops bs) : RawInv T a (bs ++ [(c, es)]) ∧ ∃ es', (c, es') ∈ bs ++ [(c, es)] := by
  refine ⟨⟨h.ok.grow.append fun b hb => ?_, fun x hx => ?_⟩, es, by simp⟩
  · rw [List.mem_singleton.mp hb]
    refine ⟨⟨k, hs, h1, fun e he => (grow_part (prt_part nd (newOk_wf h.ok) (fun c' k' h' => hs.trans (Fo.trees_sub h')) (h3 e he))).1⟩, h2⟩
  · obtain ⟨e, he⟩ := h.has x hx
    exact ⟨e, List.mem_append_left _ he⟩
section
variable {P : Program} {w : World} {K : PySem.W.Frag} {mg : Str → Option Value} {base : Heap}
structure LrOk (m : Nat) (T : Fo Str) : Prop where
  m : m < 700000
  nd : T.order.Nodup
  few : T.order.length ≤ 8
abbrev LrI : Type := Addr × Nat × Fo Str × Int
abbrev sp_Lraw : Sp := spX (κ := List (Bun Str) × List Nat) (fun i : LrI => LrOk i.2.1 i.2.2.1) (fun i => [rV (.ref i.1), rD (.list ((i.2.2.1.pairs none).map pairD)), rD (.int i.2.2.2)]) (fun i => [wWl i.1 i.2.1]) (fun i x => FtOk i.2.2.1 x.1 x.2) (fun i x => rBsNs x.1 x.2) (fun i _ => [wWl i.1 (i.2.1 + 2000)])
theorem c_Lraw (W : Wo K mg base) : Cal P w K mg base 11 "_law_raw" sp_Lraw [] := by
  have c_Ldraw := c_Ldraw (P := P) (w := w) W
  have c_Lorder := c_Lorder (P := P) (w := w) W 9
  have c_Lbunch := c_Lbunch (P := P) (w := w) W
  have c_Lshuffled := c_Lshuffled (P := P) (w := w) W
  refine cal_of (f_Lraw W) (g__law_raw W) b_Lraw sc_Lraw (fun _ _ => rfl) fun cdv A' outer s H E hr => ⟨_, (pss_cons (ps_set (i := 3) sc_Lraw.nd rfl (by first | exact Or.inl rfl | exact Or.inr rfl) (pe_lst pa_nil))
    (pss_cons (ps_for PassesOwn.never rfl (pi_listK K (pe_revL (C8.pe_c c_Lorder hr (by first | decide | omega) rfl (pa_cons (pv 1) (pa_cons pe_non pa_nil))))) (pg_name (i := 4) sc_Lraw.nd rfl (by first | exact Or.inl rfl | exact Or.inr rfl)) (pss_one (ps_for PassesOwn.never rfl (pi_range1 rfl (n_range W) (pa_cons (pe_op op_add pe_int (C8.pe_c c_Ldraw hr (by first | decide | omega) rfl (pa_cons (pv 0) (pa_cons pe_int pa_nil)))) pa_nil)) (pg_name (i := 6) sc_Lraw.nd rfl (by first | exact Or.inl rfl | exact Or.inr rfl)) (pss_one (ps_expr (pe_bmK K PySem.F.plainAttrs_list PySem.F.slot_list_append PySem.F.type_list_append mt_append (pv 3) (pa_cons (C8.pe_c c_Lbunch hr (by first | decide | omega) rfl (pa_cons (pv 0) (pa_cons (pv 1) (pa_cons (pv 3) (pa_cons (pv 4) (pa_cons (pv 2) pa_nil)))))) pa_nil)))))))
    (pss_cons (ps_set (i := 5) sc_Lraw.nd rfl (by first | exact Or.inl rfl | exact Or.inr rfl) (pe_lst pa_nil))
    (pss_cons (ps_for PassesOwn.never rfl (pi_listK K (pe_lc (own := [("_law_name", 4), ("_law_over", 8)]) (g := (gTup K 2 (gCons (gName 4) (gCons (gName 8) gNil)))) rfl sc_Lraw.nd (pi_listK K (pv 1)) (blkOk_by (own := [("_law_name", 4), ("_law_over", 8)]) (N := N_Lraw) (sc := defScope s_Lraw) (by decide +kernel)) (fun _ _ _ _ _ => (pg_tupK K rfl (pgs_cons (pg_name (i := 4) sc_Lraw.nd rfl (by first | exact Or.inl rfl | exact Or.inr rfl)) (pgs_cons (pg_name (i := 8) sc_Lraw.nd rfl (by first | exact Or.inl rfl | exact Or.inr rfl)) pgs_nil)))) (fun _ _ _ _ _ => (pts_one (pt_cmp (pc_isN (pv 8))))) (fun _ _ _ _ _ => (pv 4)))) (pg_name (i := 4) sc_Lraw.nd rfl (by first | exact Or.inl rfl | exact Or.inr rfl)) (pss_cons ((ps_setLc (i := 7) (own := [("_law_at", 9), ("_law_bunch_here", 10)]) (g := (gTup K 2 (gCons (gName 9) (gCons (gName 10) gNil)))) rfl sc_Lraw.nd rfl rfl (sw_true rfl rfl rfl (by decide +kernel)) (pi_enumK K rfl (n_enumerate W) (pa_cons (pv 3) pa_nil)) (blkOk_by (own := [("_law_at", 9), ("_law_bunch_here", 10)]) (N := N_Lraw) (sc := defScope s_Lraw) (by decide +kernel)) (fun _ _ _ _ _ => (pg_tupK K rfl (pgs_cons (pg_name (i := 9) sc_Lraw.nd rfl (by first | exact Or.inl rfl | exact Or.inr rfl)) (pgs_cons (pg_name (i := 10) sc_Lraw.nd rfl (by first | exact Or.inl rfl | exact Or.inr rfl)) pgs_nil)))) (fun _ _ _ _ _ => (pts_one (pt_cmpR op_eq (pe_ix (kIx K rIxT ix_tup) (pv 10) pe_int fun _ _ => rfl) (pv 4) (nomark _)))) (fun _ _ _ _ _ => (pv 9))))
    (pss_one (ps_expr (pe_bmK K PySem.F.plainAttrs_list PySem.F.slot_list_append PySem.F.type_list_append mt_append (pv 5) (pa_cons (pe_ix (kIx K rIxL ix_list) (pv 7) (C8.pe_c c_Ldraw hr (by first | decide | omega) rfl (pa_cons (pv 0) (pa_cons (pe_callB (kCall K rLenV call_len) (by rfl) (n_len W) PySem.boot_len (pa_cons (pv 7) pa_nil)) pa_nil))) fun _ _ => rfl) pa_nil))))))
    (pss_one (ps_ret (C8.pe_c c_Lshuffled hr (by first | decide | omega) rfl (pa_cons (pv 0) (pa_cons (pv 3) (pa_cons (pv 5) pa_nil)))))))))), ?_⟩
  rintro ⟨p, m, T, ba⟩ F D0 Q ok q
  simp only at ok q
  have hm := ok.m
  have nd := ok.nd
  have few := ok.few
  have sh := pairs_shape nd
  have td : T.depth < 9 := by
    have h1 := Fo.depth_le T
    have h2 := Fo.order_length T
    omega
  have ql : (T.pairs none).length ≤ 8 := by
    have := congrArg List.length (Fo.pairs_fst T none)
    rw [List.length_map] at this
    omega
  show Go D0 (gam N_Lraw [rV (.ref p), rD (.list ((T.pairs none).map pairD)), rD (.int ba)]) (wWl p m :: F) _
  refine sq_new ag_nil (by simp) fun pm => go_swap ?_
  show Go D0 [some (rV (.ref p)), some (rD (.list ((T.pairs none).map pairD))), some (rD (.int ba)), some (rV (.ref pm)), none, none, none, none, none, none, none] (wWl p m :: mL pm [] :: F) _
  refine sq_for (ι := List (Bun Str)) (ig_listX (xs := T.order.reverse) (f := .str) (Eg.to (eg_revL (eg_callP (T, none, T) ⟨nd, few, .inl ⟨rfl, rfl⟩, td⟩ (ag_cons (eg_var rfl) (ag_cons eg_non ag_nil)) rfl)) (by rw [List.map_reverse]))) (fun i bs => RawInv T (T.order.reverse.take i) bs ∧ bs.length ≤ 3 * i) (fun _ _ => [some (rV (.ref p)), some (rD (.list ((T.pairs none).map pairD))), some (rD (.int ba)), some (rV (.ref pm)), none, none, none, none, none, none, none])
    (fun i bs => wWl p (m + i * 90) :: wHeld pm bs :: F) ⟨[], ⟨⟨(fun b h => nomatch h), fun x h => (by simp at h)⟩, Nat.le_refl _⟩, Less.refl _, rfl⟩ (fun _ _ _ _ => trivial) ?_ ?_
  · rintro i bs R D1 N hi e1 ⟨ri, bl⟩ ⟨c, hc, rfl⟩ kN
    have i8 : i < 8 := by rw [List.length_reverse] at hi; omega
    have mc : c ∈ T.order := List.mem_reverse.mp (List.mem_of_getElem? hc)
    obtain ⟨k, hk⟩ := Sub.of_mem mc
    have hi2 := (List.getElem?_eq_some_iff.mp hc).1
    have sp : T.order.reverse = T.order.reverse.take i ++ c :: T.order.reverse.drop (i + 1) := by
      have h := (List.take_append_drop i T.order.reverse).symm
      rw [List.drop_eq_getElem_cons hi2] at h
      have : T.order.reverse[i] = c := by rw [List.getElem?_eq_getElem hi2] at hc; exact Option.some.inj hc
      rw [this] at h
      exact h
    have so : T.order = (T.order.reverse.drop (i + 1)).reverse ++ c :: (T.order.reverse.take i).reverse := by
      have := congrArg List.reverse sp
      rw [List.reverse_reverse, List.reverse_append, List.reverse_cons, List.append_assoc] at this
      exact this
    have hb := order_behind nd so hk
    have tk : ∀ x ∈ k.tops, x ∈ T.order.reverse.take i := fun x hx => List.mem_reverse.mp (hb x (Fo.tops_order hx))
    refine ⟨_, _, tgt_name, ?_⟩
    refine go_forRng (L1 := wWl p (m + i * 90 + 1) :: wHeld pm bs :: F) (ok := fun n => 1 ≤ n ∧ n ≤ 3) (ag_cons (eg_op eg_int (eg_draw (t := 3) ⟨by decide, by decide, by omega⟩ (ag_cons (eg_var rfl) (ag_cons eg_int ag_nil))) (og_Xr fun j hj => og_add.imp fun D v h => ⟨_, by omega, h⟩)) ag_nil) fun n hn => ?_
    show Go D1 [some (rV (.ref p)), some (rD (.list ((T.pairs none).map pairD))), some (rD (.int ba)), some (rV (.ref pm)), some (rD (.str c)), none, none, none, none, none, none] (wWl p (m + i * 90 + 1) :: wHeld pm bs :: F) _
    refine go_for (ι := List (Bun Str)) (ig_rng1 ag_int1 (by omega) (by omega)) (fun j bs' => RawInv T (T.order.reverse.take i) bs' ∧ bs'.length ≤ 3 * i + j ∧ (0 < j → ∃ es, (c, es) ∈ bs')) (fun _ _ => [some (rV (.ref p)), some (rD (.list ((T.pairs none).map pairD))), some (rD (.int ba)), some (rV (.ref pm)), some (rD (.str c)), none, none, none, none, none, none])
      (fun j bs' => wWl p (m + i * 90 + 1 + j * 28) :: wHeld pm bs' :: F) ⟨bs, ⟨ri, by omega, fun h => absurd h (Nat.lt_irrefl _)⟩, Less.refl _, rfl⟩ (fun _ _ _ _ => trivial) ?_ ?_
    · rintro j bs' R D2 N2 hj e2 ⟨rj, blj, _⟩ rfl kN2
      have j3 : j < 3 := by omega
      refine ⟨_, _, tgt_name, ?_⟩
      refine go_drop (L' := wWl p (m + i * 90 + 1 + (j + 1) * 28) :: mL pm ((bs'.map fun b => rD (bunD b)) ++ [rX (fun es : List Ent => Rising es ∧ es.length ≤ 3 ∧ ∀ e ∈ es, PrtOk e.2 k.tops bs') fun es => rD (bunD (c, es))]) :: F) (eg_append (j := 1) (Rs := bs'.map fun b => rD (bunD b)) (L' := wWl p (m + i * 90 + 1 + (j + 1) * 28) :: wHeld pm bs' :: F) (eg_var rfl) ⟨1, _, rfl⟩ (Eg.words (L' := wWl p (m + i * 90 + 1 + j * 28) :: wHeld pm bs' :: F) (L2 := wWl p (m + i * 90 + 1 + j * 28 + 28) :: wHeld pm bs' :: F) ((xg_call (F := F) (p, m + i * 90 + 1 + j * 28, T, pm, bs', c, k, ba) ⟨by show m + i * 90 + 1 + j * 28 < 800000; omega, nd, few, hk, fun x hx => rj.has x (tk x hx), by show bs'.length ≤ 1000; omega⟩ (ag_cons (eg_var rfl) (ag_cons (eg_var rfl) (ag_cons (eg_var rfl) (ag_cons (eg_var rfl) (ag_cons (eg_var rfl) ag_nil))))) (fun _ => .nil) rfl).eg _ _ fun es hes => ⟨fun D v r => ⟨es, hes, r⟩, rfl⟩) (fun D H h => h) (fun D H h => h.wlMono (by omega))) rfl (by rw [List.length_map]; omega)) ?_
      refine go_open (fun D H h => h.mLXat (j := 1) rfl) fun es ⟨h1, h2, h3⟩ => ?_
      obtain ⟨s1, s2⟩ := rj.step nd hk h1 h2 h3
      have kN2' := kN2 (bs' ++ [(c, es)]) ⟨s1, by rw [List.length_append]; show _ + 1 ≤ _; omega, fun _ => s2⟩
      have ew : wHeld pm (bs' ++ [(c, es)]) = mL pm ((bs'.map fun b => rD (bunD b)) ++ [rD (bunD (c, es))]) := by unfold wHeld; rw [List.map_append]; rfl
      rw [ew] at kN2'
      exact kN2'.less (less_of rfl fun i h => match i with | 0 => .inr rfl | 1 => .inr rfl | 2 => .inr rfl | 3 => .inr rfl | 4 => .inr rfl | 5 => .inl rfl | 6 => .inl rfl | 7 => .inl rfl | 8 => .inl rfl | 9 => .inl rfl | 10 => .inl rfl | i + 11 => absurd h (by show ¬ i + 11 < 11; omega))
    · rintro bs' ⟨rj, blj, hc'⟩
      have hn0 : 0 < n.toNat := by omega
      refine Go.pre (L' := wWl p (m + (i + 1) * 90) :: wHeld pm bs' :: F) (fun D H h => ⟨D, Ex.refl D, h.wlMono (by omega)⟩) ?_
      refine (kN bs' ⟨⟨rj.ok, fun x hx => ?_⟩, by omega⟩).less (less_of rfl fun i h => match i with | 0 => .inr rfl | 1 => .inr rfl | 2 => .inr rfl | 3 => .inr rfl | 4 => .inl rfl | 5 => .inl rfl | 6 => .inl rfl | 7 => .inl rfl | 8 => .inl rfl | 9 => .inl rfl | 10 => .inl rfl | i + 11 => absurd h (by show ¬ i + 11 < 11; omega))
      rw [List.take_add_one, hc] at hx
      rcases List.mem_append.mp hx with hx | hx
      · exact rj.has x hx
      · rw [List.mem_singleton.mp hx]; exact hc' hn0
  · rintro bs ⟨ri, bl⟩
    rw [List.take_length] at ri
    rw [List.length_reverse] at bl ⊢
    have bl' : bs.length ≤ 24 := by omega
    generalize hmm : m + T.order.length * 90 = mm
    have hmm2 : mm < 700720 := by omega
    refine sq_new ag_nil (by simp) fun pr => ?_
    show Go D0 [some (rV (.ref p)), some (rD (.list ((T.pairs none).map pairD))), some (rD (.int ba)), some (rV (.ref pm)), none, some (rV (.ref pr)), none, none, none, none, none] (mL pr [] :: wWl p mm :: wHeld pm bs :: F) _
    refine sq_for (ι := List Nat) (ig_listX (xs := T.tops) (f := .str) (Eg.to (eg_lcD (L1 := mL pr [] :: wWl p mm :: wHeld pm bs :: F) (T.pairs none) (ig_listX (f := pairD) (eg_var rfl)) (by omega) (fun _ => trivial) (fun x => decide (x.2 = none)) (fun x => .str x.1) fun i x hx R ⟨y, hy, hR⟩ => ?_) (by rw [sh.tops]; unfold Kids; rw [List.map_map]; rfl))) (fun i ns => PrtOk ns (T.tops.take i) bs) (fun _ _ => [some (rV (.ref p)), some (rD (.list ((T.pairs none).map pairD))), some (rD (.int ba)), some (rV (.ref pm)), none, some (rV (.ref pr)), none, none, none, none, none])
      (fun i ns => mL pr (natR ns) :: wWl p (mm + i) :: wHeld pm bs :: F) ⟨[], ⟨rfl, fun j p c h => by simp at h⟩, Less.refl _, rfl⟩ (fun _ _ _ _ => trivial) ?_ ?_
    · subst hR
      rw [hx] at hy; cases hy
      exact ⟨_, _, tgt_tupD (ds := [.str x.1, optD x.2]) (tgs_cons tgt_name (tgs_cons tgt_name tgs_nil)) rfl, by simp, fun Fr => tg_test (eg_isN (eg_var rfl) fun D v hv => by
        cases e : x.2 with
        | none => rw [e] at hv; rw [non_of hv]; rfl
        | some z => rw [e] at hv; rw [str_of hv]; rfl), fun _ Fr => eg_var rfl⟩
    · rintro i2 ns R D2 N2 hi2 e2 po ⟨x, hx, rfl⟩ kN2
      obtain ⟨xes, hxes⟩ := ri.has x (List.mem_reverse.mpr (Fo.tops_order (List.mem_of_getElem? hx)))
      have ip := idxs_some hxes
      have il := idxs_len bs x
      have tl := tops_le T
      have nl : ns.length ≤ 8 := by
        have := po.len
        rw [List.length_take] at this
        omega
      refine ⟨_, _, tgt_name, ?_⟩
      refine sq_asg (R := rD (.list ((idxs bs x).map fun (n : Nat) => .int (n : Int)))) (Eg.to (eg_lcD (L1 := mL pr (natR ns) :: wWl p (mm + i2) :: wHeld pm bs :: F) bs.zipIdx ((ig_enumWX (j := 2) (ag_cons (eg_var rfl) ag_nil) rfl).to (by rw [List.length_zipIdx]) fun i R _ y => ⟨R, y, fun _ _ h => h⟩) (by rw [List.length_zipIdx]; omega) (fun F' => gW.app ⟨2, rfl⟩) (fun y => decide (y.1.1 = x)) (fun y => .int (y.2 : Int)) fun i3 y hy R ⟨b, hb, hR⟩ => ?_) (by unfold idxs; rw [List.map_map]; rfl)) ?_
      · subst hR
        rw [List.getElem?_zipIdx, hb] at hy
        have ey : y = (b, i3) := by simpa using hy.symm
        subst ey
        exact ⟨_, _, tgt_tup (tgs_cons tgt_name (tgs_cons tgt_name tgs_nil)) rfl, by simp, fun Fr => tg_test (eg_op (eg_op (eg_var rfl) eg_int (og_ixDT (ds := [.str b.1, .list (b.2.map entD)]) (i := 0) rfl)) (eg_var rfl) og_eqS), fun _ Fr => eg_var rfl⟩
      · refine go_drop (L' := mL pr (natR ns ++ [rX (fun n : Nat => n ∈ idxs bs x) fun n => rD (.int (n : Int))]) :: wWl p (mm + i2 + 1) :: wHeld pm bs :: F) (eg_append (j := 0) (Rs := natR ns) (eg_var rfl) ⟨0, _, rfl⟩ (eg_op (R := rX (fun n : Nat => n ∈ idxs bs x) fun n => rD (.int (n : Int))) (L' := mL pr (natR ns) :: wWl p (mm + i2 + 1) :: wHeld pm bs :: F) (eg_var rfl) (Eg.atW (j := 1) (w := wWl p (mm + i2)) (eg_draw (t := ((idxs bs x).length : Int)) ⟨by omega, by omega, by omega⟩ (ag_cons (eg_var rfl) (ag_cons (Eg.to (eg_cb (ag_cons (eg_var rfl) ag_nil) (cg_lenD (ds := (idxs bs x).map fun (n : Nat) => .int (n : Int)))) (by rw [List.length_map])) ag_nil))) rfl) (og_Xr fun j hj => ?_)) rfl (by rw [List.length_map]; omega)) ?_
        · obtain ⟨y, h1, h2⟩ := at_get (xs := (idxs bs x).map fun (n : Nat) => PyData.int (n : Int)) hj.1 (by rw [List.length_map]; exact hj.2)
          rw [List.getElem?_map] at h1
          cases e : (idxs bs x)[j.toNat]? with
          | none => rw [e] at h1; cases h1
          | some n => rw [e] at h1; cases h1; exact (og_ixD h2).imp fun D v h => ⟨n, List.mem_of_getElem? e, h⟩
        · refine go_open (fun D H h => h.mLX) fun n hn => ?_
          obtain ⟨nes, hnb⟩ := idxs_at hn
          have kN2' := kN2 (ns ++ [n]) (by rw [List.take_add_one, hx]; exact po.snoc hnb)
          unfold natR at kN2'
          rw [List.map_append] at kN2'
          exact kN2'.less (less_of rfl fun i h => match i with | 0 => .inr rfl | 1 => .inr rfl | 2 => .inr rfl | 3 => .inr rfl | 4 => .inl rfl | 5 => .inr rfl | 6 => .inl rfl | 7 => .inl rfl | 8 => .inl rfl | 9 => .inl rfl | 10 => .inl rfl | i + 11 => absurd h (by show ¬ i + 11 < 11; omega))
    · intro ns po
      rw [List.take_length] at po
      have tl := tops_le T
      have ft : FtOk T bs ns := ⟨newOk_wf ri.ok, prt_part nd (newOk_wf ri.ok) (fun c k h => Fo.trees_sub h) po, fun b hb => (ri.ok b hb).2, by omega⟩
      refine go_retX (xg_call (F := F) (p, mm + T.tops.length, true, bs, ns) (ft.sh few (by show mm + T.tops.length < 900000; omega)) (ag_cons (eg_var rfl) (ag_cons (Eg.imp (eg_frzAt (j := 2) rfl rfl) fun D v hv => rD_lst (by rw [List.map_map]; exact hv)) (ag_cons (eg_frz rfl) ag_nil))) (fun _ => .nil) rfl) fun v D H e ⟨o, po, hd, r⟩ => q v D H (renB bs o, ns.map (ix o)) e (ft.ren po) (hd.wlMono (by show mm + T.tops.length + 1000 ≤ m + 2000; omega)) r
end
end Fb

namespace Fb
open PySem PySem.Spec L2 Evl
open C8 (Cal Met Mak)
structure RoOk (d : Nat) (bs : List (Bun Str)) (F : Fo Str) (ps : List Nat) : Prop where
  pt : PartOk bs F ps
  h3 : ∀ b ∈ bs, b.2.length ≤ 3
  dep : F.depth < d
  w5 : F.width ≤ 5
/-- the rows of the first entries -/
def entR (bs : List (Bun Str)) (k : Fo Str) (a : List Ent) : List Row := a.flatMap fun e => (rowsF bs k e.2).map (e.1 :: ·)
theorem entR_app (bs : List (Bun Str)) (k : Fo Str) (a b : List Ent) : entR bs k (a ++ b) = entR bs k a ++ entR bs k b := by unfold entR; rw [List.flatMap_append]
theorem pow_le5 {n : Nat} (h : n ≤ 5) : 3 ^ n ≤ 243 := by
  have : 3 ^ n ≤ 3 ^ 5 := Nat.pow_le_pow_right (by decide) h
  omega
theorem zip_tops {F : Fo Str} {ps : List Nat} (h : ps.length = F.tops.length) : (F.trees.zip ps).length = ps.length := by
  rw [List.length_zip, h, trees_tops, List.length_map, Nat.min_self]
section
variable {P : Program} {w : World} {K : PySem.W.Frag} {mg : Str → Option Value} {base : Heap}
abbrev RoI : Type := List (Bun Str) × Fo Str × List Nat
abbrev sp_Lrows_of (d : Nat) : Sp := spP (fun i : RoI => RoOk d i.1 i.2.1 i.2.2) (fun i => [rD (bunsD i.1), rD (prtD i.2.2)]) fun i => rD (rowsD (rowsF i.1 i.2.1 i.2.2))
theorem c_Lrows_of (W : Wo K mg base) : ∀ d, Cal P w K mg base (d + 1) "_law_rows_of" (sp_Lrows_of d) []
  | 0 => cal_of (f_Lrows_of W) (g__law_rows_of W) b_Lrows_of sc_Lrows_of (fun _ _ => rfl) fun cdv A' outer s H E hr => ⟨_, pss_never, fun i F D0 Q o q => absurd o.dep (Nat.not_lt_zero _)⟩
  | d + 1 => by
    have c_Lrows_of := c_Lrows_of W d
    refine cal_of (f_Lrows_of W) (g__law_rows_of W) b_Lrows_of sc_Lrows_of (fun _ _ => rfl) fun cdv A' outer s H E hr => ⟨_, (pss_cons (ps_set (i := 2) sc_Lrows_of.nd rfl (by first | exact Or.inl rfl | exact Or.inr rfl) (pe_lst (pa_cons (pe_tup pa_nil) pa_nil)))
    (pss_cons (ps_for PassesOwn.never rfl (pi_tupK K (pv 1)) (pg_name (i := 3) sc_Lrows_of.nd rfl (by first | exact Or.inl rfl | exact Or.inr rfl)) (pss_cons (ps_set (i := 4) sc_Lrows_of.nd rfl (by first | exact Or.inl rfl | exact Or.inr rfl) (pe_lst pa_nil))
    (pss_cons (ps_for PassesOwn.never rfl (pi_listK K (pe_ix (kIx K rIxT ix_tup) (pe_ix (kIx K rIxL ix_list) (pv 0) (pv 3) fun _ _ => rfl) pe_int fun _ _ => rfl)) (pg_tupK K rfl (pgs_cons (pg_name (i := 7) sc_Lrows_of.nd rfl (by first | exact Or.inl rfl | exact Or.inr rfl)) (pgs_cons (pg_name (i := 8) sc_Lrows_of.nd rfl (by first | exact Or.inl rfl | exact Or.inr rfl)) pgs_nil))) (pss_one (ps_set (i := 4) sc_Lrows_of.nd rfl (by first | exact Or.inl rfl | exact Or.inr rfl) (pe_op op_cat (pv 4) (pe_lc (own := [("_law_rest", 9)]) (g := (gName 9)) rfl sc_Lrows_of.nd (pi_listK K (C8.pe_c c_Lrows_of hr (by first | decide | omega) rfl (pa_cons (pv 0) (pa_cons (pv 8) pa_nil)))) (blkOk_by (own := [("_law_rest", 9)]) (N := N_Lrows_of) (sc := defScope s_Lrows_of) (by decide +kernel)) (fun _ _ _ _ _ => (pg_name (i := 9) sc_Lrows_of.nd rfl (by first | exact Or.inl rfl | exact Or.inr rfl))) (fun _ _ _ _ _ => pts_nil) (fun _ _ _ _ _ => (pe_op (kOp K rCatA op_catA) (pe_tup (pa_cons (pv 7) pa_nil)) (pv 9))))))))
    (pss_cons (ps_set (i := 5) sc_Lrows_of.nd rfl (by first | exact Or.inl rfl | exact Or.inr rfl) (pe_lst pa_nil))
    (pss_cons (ps_for PassesOwn.never rfl (pi_listK K (pv 2)) (pg_name (i := 6) sc_Lrows_of.nd rfl (by first | exact Or.inl rfl | exact Or.inr rfl)) (pss_one (ps_set (i := 5) sc_Lrows_of.nd rfl (by first | exact Or.inl rfl | exact Or.inr rfl) (pe_op op_cat (pv 5) (pe_lc (own := [("_law_rest", 9)]) (g := (gName 9)) rfl sc_Lrows_of.nd (pi_listK K (pv 4)) (blkOk_by (own := [("_law_rest", 9)]) (N := N_Lrows_of) (sc := defScope s_Lrows_of) (by decide +kernel)) (fun _ _ _ _ _ => (pg_name (i := 9) sc_Lrows_of.nd rfl (by first | exact Or.inl rfl | exact Or.inr rfl))) (fun _ _ _ _ _ => pts_nil) (fun _ _ _ _ _ => (pe_op (kOp K rCatA op_catA) (pv 6) (pv 9))))))))
    (pss_one (ps_set (i := 2) sc_Lrows_of.nd rfl (by first | exact Or.inl rfl | exact Or.inr rfl) (pv 5))))))))
    (pss_one (ps_ret (pv 2))))), ?_⟩
    rintro ⟨bs, T, ps⟩ F D0 Q ok q
    simp only at ok q
    have h3 := ok.h3
    have w5 := ok.w5
    have pl := ok.pt.length
    have zl := zip_tops pl
    have za := zip_at ok.pt
    have lz := lenB_zip pl
    have rk : ∀ x ∈ T.trees.zip ps, (rowsT bs x.1.2 x.2).length ≤ 3 ^ (x.1.2.width + 1) ∧ ∀ r ∈ rowsT bs x.1.2 x.2, r.length = x.1.2.width + 1 := fun x hx => by
      obtain ⟨_, es, h1, h2, h3'⟩ := za x hx
      exact ⟨rowsT_bound h3 x.1.1 x.1.2 x.2, rowsT_width h1 h2 h3'⟩
    show Go D0 (gam N_Lrows_of [rD (bunsD bs), rD (prtD ps)]) F _
    refine sq_asg (R := rD (rowsD [[]])) (Eg.lst (ds := [tupI []]) (eg_lst (ag_cons (Eg.tup (ds := []) (eg_tup ag_nil (by simp))) ag_nil) (by simp))) ?_
    refine sq_forL (G := gT) (T.trees.zip ps) (fun x => rD (.int (x.2 : Int))) ((ig_tupX (f := fun (x : Nat) => .int (x : Int)) (eg_var rfl)).to zl.symm fun i R hi ⟨x, hx, hR⟩ => by
        have hi' : i < (T.trees.zip ps).length := by rw [zl]; exact hi
        have hz := List.getElem?_eq_getElem hi'
        generalize (T.trees.zip ps)[i] = z at hz
        have hz2 := List.getElem?_zip_eq_some.mp hz
        rw [hx] at hz2
        have e := Option.some.inj hz2.2
        exact ⟨rD (.int (z.2 : Int)), ⟨z, hz, rfl⟩, fun D v r => by rw [hR, e] at r; exact r⟩) (fun i R y => y)
      (fun a => [some (rD (bunsD bs)), some (rD (prtD ps)), some (rD (rowsD (accR bs a))), none, none, none, none, none, none, none]) (fun _ => F) (Less.refl _) rfl (fun _ => trivial) (fun a x b D1 N he e1 kN => ?_) ?_
    · have mx : x ∈ T.trees.zip ps := by rw [he]; simp
      have ma : ∀ y ∈ a, y ∈ T.trees.zip ps := fun y hy => by rw [he]; simp [hy]
      obtain ⟨a1, a2⟩ := acc_ok (fun y hy => rk y (ma y hy))
      obtain ⟨b1, b2⟩ := rk x mx
      obtain ⟨htr, es, g1, g2, g3⟩ := za x mx
      have hl : lenB a + (x.1.2.width + 1) ≤ 5 := by
        rw [he, lenB_app] at lz
        have : lenB (x :: b) = x.1.2.width + 1 + lenB b := by unfold lenB; rw [List.map_cons, List.sum_cons]
        omega
      have pb : (accR bs a).length * (rowsT bs x.1.2 x.2).length ≤ 243 := by
        have h1 := Nat.mul_le_mul a1 b1
        rw [← Nat.pow_add] at h1
        exact Nat.le_trans h1 (pow_le5 hl)
      have b243 : (rowsT bs x.1.2 x.2).length ≤ 243 := Nat.le_trans b1 (pow_le5 (by omega))
      have a243 : (accR bs a).length ≤ 243 := Nat.le_trans a1 (pow_le5 (by omega))
      have er : rowsT bs x.1.2 x.2 = entR bs x.1.2 es := by unfold rowsT entR; rw [ents_at g1]
      have kd : x.1.2.depth < d := by
        have := Fo.trees_depth (c := x.1.1) (k := x.1.2) htr
        have := ok.dep
        omega
      have h3e : es.length ≤ 3 := h3 _ (List.mem_of_getElem? g1)
      rw [accR_snoc] at kN
      refine ⟨_, _, tgt_name, ?_⟩
      refine sq_asg (R := rD (rowsD [])) (Eg.lst (ds := []) (eg_lst ag_nil (by simp))) ?_
      refine sq_forL (G := gT) es (fun e => rD (entD e)) (ig_listX (f := entD) (eg_op (eg_op (eg_var rfl) (eg_var rfl) (og_ixD (ds := bs.map bunD) (d := bunD (x.1.1, es)) (atI_nat (by rw [List.getElem?_map, g1]; rfl)))) eg_int (og_ixDT (ds := [.str x.1.1, .list (es.map entD)]) (i := 1) rfl))) (fun i R y => y)
        (fun a2 => [some (rD (bunsD bs)), some (rD (prtD ps)), some (rD (rowsD (accR bs a))), some (rD (.int (x.2 : Int))), some (rD (rowsD (entR bs x.1.2 a2))), none, none, none, none, none]) (fun _ => F) (Less.refl _) rfl (fun _ => trivial) (fun a2 e b2 D2 N2 he2 e2 kN2 => ?_) ?_
      · have me : e ∈ es := by rw [he2]; simp
        have ge := g3 e me
        have el : (entR bs x.1.2 a2).length + (rowsF bs x.1.2 e.2).length ≤ 243 := by
          have : a2 ++ e :: b2 = (a2 ++ [e]) ++ b2 := by simp
          rw [er, he2, this, entR_app, entR_app, List.length_append, List.length_append] at b243
          have : (entR bs x.1.2 [e]).length = (rowsF bs x.1.2 e.2).length := by simp [entR]
          omega
        have fw := rowsF_width ge
        rw [entR_app] at kN2
        refine ⟨_, _, tgt_tupD (ds := [.int e.1, prtD e.2]) (tgs_cons tgt_name (tgs_cons tgt_name tgs_nil)) rfl, ?_⟩
        refine go_asg (R := rD (rowsD (entR bs x.1.2 a2 ++ entR bs x.1.2 [e]))) (Eg.to (eg_op (eg_var rfl) (eg_lcA (L1 := F) (rowsF bs x.1.2 e.2) (ig_listX (f := tupI) (eg_callP (bs, x.1.2, e.2) ⟨ge, h3, kd, by show x.1.2.width ≤ 5; omega⟩ (ag_cons (eg_var rfl) (ag_cons (eg_var rfl) ag_nil)) rfl)) (by omega) (fun _ => trivial) (fun r => tupI (e.1 :: r)) fun i r hr R ⟨y, hy, hR⟩ => ?_) (og_cat (by rw [List.length_map, List.length_map]; omega))) (by unfold rowsD; rw [List.map_append]; simp [entR, Function.comp_def])) (kN2.less (less_of rfl fun i h => match i with | 0 => .inr rfl | 1 => .inr rfl | 2 => .inr rfl | 3 => .inr rfl | 4 => .inr rfl | 5 => .inl rfl | 6 => .inl rfl | 7 => .inl rfl | 8 => .inl rfl | 9 => .inl rfl | i + 10 => absurd h (by show ¬ i + 10 < 10; omega)))
        subst hR
        rw [hr] at hy; cases hy
        have rw5 := fw r (List.mem_of_getElem? hr)
        exact ⟨_, _, tgt_name, by simp, fun Fr => Eg.to (eg_op (Eg.tup (ds := [.int e.1]) (eg_tup (ag_cons (eg_var rfl) ag_nil) (by simp))) (eg_var rfl) (og_catT (by rw [List.length_map, rw5]; simp; omega))) rfl⟩
      · rw [← er]
        refine sq_asg (R := rD (rowsD [])) (Eg.lst (ds := []) (eg_lst ag_nil (by simp))) ?_
        show Go D1 [some (rD (bunsD bs)), some (rD (prtD ps)), some (rD (rowsD (accR bs a))), some (rD (.int (x.2 : Int))), some (rD (rowsD (rowsT bs x.1.2 x.2))), some (rD (rowsD [])), none, none, none, none] F _
        generalize rowsT bs x.1.2 x.2 = B at pb b243 b2 kN ⊢
        generalize accR bs a = A at pb a243 a2 kN ⊢
        refine sq_forL (G := gT) A (fun r => rD (tupI r)) (ig_listX (f := tupI) (eg_var rfl)) (fun i R y => y)
          (fun a3 => [some (rD (bunsD bs)), some (rD (prtD ps)), some (rD (rowsD A)), some (rD (.int (x.2 : Int))), some (rD (rowsD B)), some (rD (rowsD (prod a3 B))), none, none, none, none]) (fun _ => F) (Less.refl _) rfl (fun _ => trivial) (fun a3 r b3 D2 N2 he2 e2 kN2 => ?_) ?_
        · have mr : r ∈ A := by rw [he2]; simp
          have al := a2 r mr
          have l3 : (prod a3 B).length + B.length ≤ 243 := by
            have h1 : (a3.length + 1) * B.length ≤ A.length * B.length := Nat.mul_le_mul_right _ (by rw [he2, List.length_append, List.length_cons]; omega)
            rw [length_prod]
            rw [Nat.add_mul] at h1
            omega
          have ep : prod (a3 ++ [r]) B = prod a3 B ++ B.map (r ++ ·) := by rw [prod_append, prod_cons, prod_nil_left, List.append_nil]
          rw [ep] at kN2
          refine ⟨_, _, tgt_name, ?_⟩
          refine go_asg (R := rD (rowsD (prod a3 B ++ B.map (r ++ ·)))) (Eg.to (eg_op (eg_var rfl) (eg_lcA (L1 := F) B (ig_listX (f := tupI) (eg_var rfl)) (by omega) (fun _ => trivial) (fun s => tupI (r ++ s)) fun i s hs R ⟨y, hy, hR⟩ => ?_) (og_cat (by rw [List.length_map, List.length_map]; omega))) (by unfold rowsD; rw [List.map_append, List.map_map]; rfl)) (kN2.less (less_of rfl fun i h => match i with | 0 => .inr rfl | 1 => .inr rfl | 2 => .inr rfl | 3 => .inr rfl | 4 => .inr rfl | 5 => .inr rfl | 6 => .inl rfl | 7 => .inl rfl | 8 => .inl rfl | 9 => .inl rfl | i + 10 => absurd h (by show ¬ i + 10 < 10; omega)))
          subst hR
          rw [hs] at hy; cases hy
          have sw := b2 s (List.mem_of_getElem? hs)
          exact ⟨_, _, tgt_name, by simp, fun Fr => Eg.to (eg_op (eg_var rfl) (eg_var rfl) (og_catT (by rw [List.length_map, List.length_map, al, sw]; omega))) (by unfold tupI; rw [List.map_append])⟩
        · exact go_asg (eg_var rfl) (kN.less (less_of rfl fun i h => match i with | 0 => .inr rfl | 1 => .inr rfl | 2 => .inr rfl | 3 => .inl rfl | 4 => .inl rfl | 5 => .inl rfl | 6 => .inl rfl | 7 => .inl rfl | 8 => .inl rfl | 9 => .inl rfl | i + 10 => absurd h (by show ¬ i + 10 < 10; omega)))
    · rw [accR_all bs pl]
      exact go_ret (eg_var rfl) fun v D H e hd r => q v D H () e trivial hd r
end
end Fb

namespace Fb
open PySem PySem.Spec L2 Evl
open C8 (Cal Met Mak)
/-- what a bunch written out leaves -/
abbrev sprY (bs : List (Bun Str)) (k : Fo Str) (p : Nat) (made : List (Bun Str)) : SprSt Str := (ents bs p).foldl (sprStep bs k) ([], made)
structure LsOk (d : Nat) (bs : List (Bun Str)) (c : Str) (k : Fo Str) (p : Nat) (made : List (Bun Str)) : Prop where
  pt : PartOk bs (.cons c k .nil) [p]
  h3 : ∀ b ∈ bs, b.2.length ≤ 3
  dep : k.depth < d
  few : k.order.length ≤ 8
  room : made.length + (3 * k.most + 1) ≤ 1000
section
variable {P : Program} {w : World} {K : PySem.W.Frag} {mg : Str → Option Value} {base : Heap}
abbrev LsI : Type := List (Bun Str) × Str × Fo Str × Nat × Addr × List (Bun Str)
abbrev sp_Lspread (d : Nat) : Sp := spX (κ := Unit) (fun i : LsI => LsOk d i.1 i.2.1 i.2.2.1 i.2.2.2.1 i.2.2.2.2.2) (fun i => [rD (bunsD i.1), rD (.int (i.2.2.2.1 : Int)), rV (.ref i.2.2.2.2.1)]) (fun i => [wHeld i.2.2.2.2.1 i.2.2.2.2.2]) (fun _ _ => True) (fun i _ => rD (.int ((sprY i.1 i.2.2.1 i.2.2.2.1 i.2.2.2.2.2).2.length : Nat)))
  (fun i _ => [wHeld i.2.2.2.2.1 ((sprY i.1 i.2.2.1 i.2.2.2.1 i.2.2.2.2.2).2 ++ [(i.2.1, (sprY i.1 i.2.2.1 i.2.2.2.1 i.2.2.2.2.2).1)])])
theorem c_Lspread (W : Wo K mg base) : ∀ d, Cal P w K mg base (d + 1) "_law_spread" (sp_Lspread d) []
  | 0 => cal_of (f_Lspread W) (g__law_spread W) b_Lspread sc_Lspread (fun _ _ => rfl) fun cdv A' outer s H E hr => ⟨_, pss_never, fun i F D0 Q o q => absurd o.dep (Nat.not_lt_zero _)⟩
  | d + 1 => by
    have c_Lspread := c_Lspread W d
    refine cal_of (f_Lspread W) (g__law_spread W) b_Lspread sc_Lspread (fun _ _ => rfl) fun cdv A' outer s H E hr => ⟨_, (pss_cons (ps_asg (pe_ix (kIx K rIxL ix_list) (pv 0) (pv 1) fun _ _ => rfl) (pg_tupK K rfl (pgs_cons (pg_name (i := 4) sc_Lspread.nd rfl (by first | exact Or.inl rfl | exact Or.inr rfl)) (pgs_cons (pg_name (i := 5) sc_Lspread.nd rfl (by first | exact Or.inl rfl | exact Or.inr rfl)) pgs_nil))))
    (pss_cons ((ps_setLc (i := 3) (own := [("_law_value", 6), ("_law_parts", 7)]) (g := (gTup K 2 (gCons (gName 6) (gCons (gName 7) gNil)))) rfl sc_Lspread.nd rfl rfl (sw_true rfl rfl rfl (by decide +kernel)) (pi_listK K (pv 5)) (blkOk_by (own := [("_law_value", 6), ("_law_parts", 7)]) (N := N_Lspread) (sc := defScope s_Lspread) (by decide +kernel)) (fun _ _ _ _ _ => (pg_tupK K rfl (pgs_cons (pg_name (i := 6) sc_Lspread.nd rfl (by first | exact Or.inl rfl | exact Or.inr rfl)) (pgs_cons (pg_name (i := 7) sc_Lspread.nd rfl (by first | exact Or.inl rfl | exact Or.inr rfl)) pgs_nil)))) (fun _ _ _ _ _ => pts_nil) (fun _ _ _ _ _ => (pe_tup (pa_cons (pv 6) (pa_cons (pe_callTy (kCall K rTupOf call_tuple_of) (by rfl) (n_tuple W) PyProof.Rows.boot_tuple (pa_cons (pe_lc (own := [("_law_more", 8)]) (g := (gName 8)) rfl sc_Lspread.nd (pi_tupK K (pv 7)) (blkOk_by (own := [("_law_more", 8)]) (N := N_Lspread) (by kernel_rfl)) (fun _ _ _ _ _ => (pg_name (i := 8) sc_Lspread.nd rfl (by first | exact Or.inl rfl | exact Or.inr rfl))) (fun _ _ _ _ _ => pts_nil) (fun _ _ _ _ _ => (C8.pe_c c_Lspread hr (by first | decide | omega) rfl (pa_cons (pv 0) (pa_cons (pv 8) (pa_cons (pv 2) pa_nil)))))) pa_nil)) pa_nil))))))
    (pss_cons (ps_expr (pe_bmK K PySem.F.plainAttrs_list PySem.F.slot_list_append PySem.F.type_list_append mt_append (pv 2) (pa_cons (pe_tup (pa_cons (pv 4) (pa_cons (pv 3) pa_nil))) pa_nil)))
    (pss_one (ps_ret (pe_op op_sub (pe_callB (kCall K rLenV call_len) (by rfl) (n_len W) PySem.boot_len (pa_cons (pv 2) pa_nil)) pe_int)))))), ?_⟩
    rintro ⟨bs, c, k, p, pm, made⟩ F D0 Q ok q
    simp only at ok q
    have h3 := ok.h3
    have room := ok.room
    have few := ok.few
    obtain ⟨p', _, es, e0, hb, up, pe, _⟩ := ok.pt
    cases e0
    have he : ents bs p = es := ents_at hb
    have e3 : es.length ≤ 3 := h3 _ (List.mem_of_getElem? hb)
    obtain ⟨y1, y2⟩ := step_len h3 (k := k) es ([], made) pe
    simp only at y1 y2
    have my : es.length * k.most ≤ 3 * k.most := Nat.mul_le_mul_right _ e3
    unfold sprY at q
    rw [he] at q
    show Go D0 (gam N_Lspread [rD (bunsD bs), rD (.int (p : Int)), rV (.ref pm)]) (wHeld pm made :: F) _
    refine sq_asgT (eg_op (eg_var rfl) (eg_var rfl) (og_ixD (ds := bs.map bunD) (d := bunD (c, es)) (atI_nat (by rw [List.getElem?_map, hb]; rfl)))) (tgt_tupD (ds := [.str c, .list (es.map entD)]) (tgs_cons tgt_name (tgs_cons tgt_name tgs_nil)) rfl) ?_
    refine sq_asg (R := rD (.list ((es.foldl (sprStep bs k) ([], made)).1.map entD))) (L' := wHeld pm (es.foldl (sprStep bs k) ([], made)).2 :: F) (Xg.eg (x := fun x : Nat => x = es.length) (Rx := fun x => rLst (((es.take x).foldl (sprStep bs k) ([], made)).1.map fun e => rD (entD e))) (Lx := fun x => wHeld pm ((es.take x).foldl (sprStep bs k) ([], made)).2 :: F)
      (xg_lc (ig_listX (xs := es) (f := entD) (eg_var rfl)) (by omega) (ι := Nat) (fun i x => x = i) (fun _ x => wHeld pm ((es.take x).foldl (sprStep bs k) ([], made)).2 :: F) (fun x => ((es.take x).foldl (sprStep bs k) ([], made)).1.map fun e => rD (entD e)) ⟨0, rfl, rfl, rfl⟩ (fun i x e => ?_) (fun _ _ _ _ _ => trivial) fun i x R hi ex ⟨e, hx, hR⟩ => ?_) _ _ fun x hx => ?_) ?_
    · subst e
      have := (step_len h3 (k := k) (es.take x) ([], made) fun e he => pe e (List.mem_of_mem_take he)).2
      rw [List.length_map, this, List.length_take]
      show 0 + _ ≤ _
      omega
    · subst ex hR
      have me := List.mem_of_getElem? hx
      have ge := pe e me
      have gl := ge.length
      have hs : (es.take (x + 1)).foldl (sprStep bs k) ([], made) = sprStep bs k ((es.take x).foldl (sprStep bs k) ([], made)) e := by rw [List.take_add_one, hx, List.foldl_append]; rfl
      have sl := (step_len h3 (k := k) (es.take x) ([], made) fun e he => pe e (List.mem_of_mem_take he)).1
      have tk : (es.take x).length + 1 ≤ 3 := by rw [List.length_take]; omega
      have tm : ((es.take x).length + 1) * k.most ≤ 3 * k.most := Nat.mul_le_mul_right _ tk
      rw [Nat.add_mul] at tm
      simp only at sl
      have sx : ((es.take x).foldl (sprStep bs k) ([], made)).2.length + k.most ≤ 999 := by omega
      refine ⟨_, _, tgt_tupD (ds := [.int e.1, prtD e.2]) (tgs_cons tgt_name (tgs_cons tgt_name tgs_nil)) rfl, by simp, true, fun Fr => tg_yes, fun _ Fr => ?_, fun z => nomatch z⟩
      generalize (es.take x).foldl (sprStep bs k) ([], made) = st at hs sx ⊢
      have fr := spr_from bs k e.2 [] st.2 gl
      rw [List.nil_append] at fr
      have zl := zip_tops gl
      have zp := zip_part ge
      have mz := mostP_zip gl
      have kt := tops_le k
      intro σ D H gv hd Q' q'
      refine (Eg.tup (ds := [.int e.1, prtD (spreadF bs k st.2 e.2).1]) (eg_tup (L' := wHeld pm (spreadF bs k st.2 e.2).2 :: (F ++ Fr)) (ag_cons (eg_var rfl) (ag_cons (Eg.tup (ds := (spreadF bs k st.2 e.2).1.map fun (n : Nat) => .int (n : Int)) (eg_cb (ag_cons (Xg.eg (x := fun y : Nat => y = (k.trees.zip e.2).length) (Rx := fun y => rLst (natR (((k.trees.zip e.2).take y).foldl (sprOne bs) ([], st.2)).1)) (Lx := fun y => wHeld pm (((k.trees.zip e.2).take y).foldl (sprOne bs) ([], st.2)).2 :: (F ++ Fr))
        (xg_lc (n := (k.trees.zip e.2).length) (Ig.to (Yr' := fun i R => ∃ z : TP Str, (k.trees.zip e.2)[i]? = some z ∧ R = rD (.int (z.2 : Int))) (ig_tupX (xs := e.2) (f := fun (x : Nat) => .int (x : Int)) (eg_var rfl)) zl.symm fun i R hi ⟨x, hx, hR⟩ => by
          have hi' : i < (k.trees.zip e.2).length := by rw [zl]; exact hi
          have hz := List.getElem?_eq_getElem hi'
          generalize (k.trees.zip e.2)[i] = z at hz
          have hz2 := List.getElem?_zip_eq_some.mp hz
          rw [hx] at hz2
          have e' := Option.some.inj hz2.2
          exact ⟨rD (.int (z.2 : Int)), ⟨z, hz, rfl⟩, fun D v r => by rw [hR, e'] at r; exact r⟩) (by rw [zl, gl]; omega) (ι := Nat) (fun i y => y = i) (fun _ y => wHeld pm (((k.trees.zip e.2).take y).foldl (sprOne bs) ([], st.2)).2 :: (F ++ Fr)) (fun y => natR (((k.trees.zip e.2).take y).foldl (sprOne bs) ([], st.2)).1) ⟨0, rfl, rfl, rfl⟩ (fun i y ey => ?_) (fun _ _ _ _ _ => trivial) fun i y R hi ey hR => ?_) (rLst ((spreadF bs k st.2 e.2).1.map fun (n : Nat) => rD (.int (n : Int)))) (wHeld pm (spreadF bs k st.2 e.2).2 :: (F ++ Fr)) fun y hy => ?_) ag_nil) (Cg.imp cg_tupL fun D v hv => by rw [List.map_map]; exact hv))) ag_nil)) (by simp))) σ D H gv hd Q' fun v D2 H2 e2 h2 r2 => q' v D2 H2 e2 ⟨x + 1, rD (entD (e.1, (spreadF bs k st.2 e.2).1)), rfl, by rw [hs]; exact h2, by rw [hs]; show (st.1 ++ [(e.1, (spreadF bs k st.2 e.2).1)]).map _ = _; rw [List.map_append]; rfl, r2⟩
      · subst ey
        rw [List.length_map, spr_len1, List.length_take]
        show 0 + _ ≤ _
        omega
      · obtain ⟨z, hz, rfl⟩ := hR
        subst ey
        have mz2 := List.mem_of_getElem? hz
        have hz2 : ((k.trees.zip e.2).take (y + 1)).foldl (sprOne bs) ([], st.2) = sprOne bs (((k.trees.zip e.2).take y).foldl (sprOne bs) ([], st.2)) z := by rw [List.take_add_one, hz, List.foldl_append]; rfl
        have sl2 := spr_len h3 ((k.trees.zip e.2).take y) ([], st.2) fun x hx => zp x (List.mem_of_mem_take hx)
        simp only at sl2
        have m1 : mostP ((k.trees.zip e.2).take (y + 1)) = mostP ((k.trees.zip e.2).take y) + (3 * z.1.2.most + 1) := by
          rw [List.take_add_one, hz, mostP_app]
          rfl
        have m2 : mostP ((k.trees.zip e.2).take (y + 1)) ≤ k.most := by
          rw [← mz]
          conv => rhs; rw [← List.take_append_drop (y + 1) (k.trees.zip e.2), mostP_app]
          omega
        obtain ⟨ht, _⟩ := zip_at ge z mz2
        have kd : z.1.2.depth < d := by
          have := Fo.trees_depth (c := z.1.1) (k := z.1.2) ht
          have := ok.dep
          omega
        have kf : z.1.2.order.length ≤ 8 := by
          have := (Fo.trees_sub (c := z.1.1) (k := z.1.2) ht).few
          omega
        refine ⟨_, _, tgt_name, by simp, true, fun Fr => tg_yes, fun _ Fr' => ?_, fun z => nomatch z⟩
        generalize ((k.trees.zip e.2).take y).foldl (sprOne bs) ([], st.2) = st2 at hz2 sl2 ⊢
        intro σ D H gv hd Q' q'
        refine xg_call (F := F ++ Fr ++ Fr') (bs, z.1.1, z.1.2, z.2, pm, st2.2) ⟨zp z mz2, h3, kd, kf, by show st2.2.length + (3 * z.1.2.most + 1) ≤ 1000; omega⟩ (ag_cons (eg_var rfl) (ag_cons (eg_var rfl) (ag_cons (eg_var rfl) ag_nil))) (fun _ => .nil) rfl σ D H gv hd Q' fun v D2 H2 e2 ⟨_, _, h2, r2⟩ => q' v D2 H2 e2 ⟨y + 1, rD (.int ((sprY bs z.1.2 z.2 st2.2).2.length : Nat)), rfl, by rw [hz2]; exact h2, by rw [hz2]; show natR (st2.1 ++ [(sprY bs z.1.2 z.2 st2.2).2.length]) = _; unfold natR; rw [List.map_append]; rfl, r2⟩
      · subst hy
        rw [List.take_length, fr]
        exact ⟨fun D v r => r, rfl⟩
    · subst hx
      rw [List.take_length]
      exact ⟨fun D v r => rD_lst (by rw [List.map_map]; exact r), rfl⟩
    · generalize es.foldl (sprStep bs k) ([], made) = Y at y1 y2 q ⊢
      refine sq_drop (eg_append (j := 0) (R := rD (bunD (c, Y.1))) (eg_var rfl) ⟨0, _, rfl⟩ (Eg.tup (ds := [.str c, .list (Y.1.map entD)]) (eg_tup (ag_cons (eg_var rfl) (ag_cons (eg_var rfl) ag_nil)) (by simp))) rfl (by rw [List.length_map]; omega)) ?_
      have ew : wHeld pm (Y.2 ++ [(c, Y.1)]) = mL pm ((Y.2.map fun b => rD (bunD b)) ++ [rD (bunD (c, Y.1))]) := by unfold wHeld; rw [List.map_append]; rfl
      rw [ew] at q
      refine go_ret (Eg.to (eg_op (eg_cb (ag_cons (eg_var rfl) ag_nil) (cg_lenW (j := 0) (Rs := (Y.2.map fun b => rD (bunD b)) ++ [rD (bunD (c, Y.1))]) rfl)) eg_int og_sub) (d' := .int (Y.2.length : Nat)) (by
        rw [List.length_append, List.length_map]
        show PyData.int (((Y.2.length + 1 : Nat) : Int) - 1) = _
        congr 1
        omega)) fun v D H e hd r => q v D H () e trivial hd r
end
end Fb

namespace Fb
open PySem PySem.Spec L2 Evl
open C8 (Cal Met Mak)
theorem at_last {α : Type} (xs : List α) (x : α) : atI (xs ++ [x]) (-1) = some x := by
  unfold atI ixN
  rw [if_neg (by omega), if_pos (by simp; omega)]
  have : ((-1 : Int) + ((xs ++ [x]).length : Nat)).toNat = xs.length := by simp; omega
  rw [this]
  simp
theorem cut_init {α : Type} (xs : List α) (x : α) : cutR (xs ++ [x]) none (some (-1)) = xs := by
  unfold cutR
  have e1 : HT.sIx (xs ++ [x]).length 0 none = 0 := rfl
  have e2 : HT.sIx (xs ++ [x]).length (xs ++ [x]).length (some (-1)) = xs.length := by
    show (if (-1 : Int) < 0 then ((-1 : Int) + ((xs ++ [x]).length : Nat)).toNat else min (-1 : Int).toNat (xs ++ [x]).length) = _
    rw [if_pos (by decide)]
    simp
    omega
  rw [e1, e2, List.drop_zero, Nat.sub_zero, List.take_append_of_le_length (Nat.le_refl _), List.take_length]
theorem sq_ifJ {ι : Type} {ok : ι → Prop} {Γj : Gm} {Lj : ι → List Wd} {D0 : Hp} {Γ : Gm} {L L' : List Wd} {tt : TT} {t1 t2 u : TS} {E : Ends} {b : Bool} (h : Tg tt Γ L b L') (h1 : b = true → ∀ N : L2.St → Hp → Prop, (∀ x, ok x → Go D0 Γj (Lj x) N) → Go D0 Γ L' (t1 { E with nx := N }))
    (h2 : b = false → ∀ N : L2.St → Hp → Prop, (∀ x, ok x → Go D0 Γj (Lj x) N) → Go D0 Γ L' (t2 { E with nx := N })) (k : ∀ x, ok x → Go D0 Γj (Lj x) (u E)) : Go D0 Γ L (tSeq (tIfS tt t1 t2) u E) := sq_if h (fun e => h1 e _ k) fun e => h2 e _ k
theorem FtOk.bump {T : Fo Str} {bs : List (Bun Str)} {ns : List Nat} (h : FtOk T bs ns) {i : Nat} {c : Str} {es : List Ent} {d : Int} (hd : 0 < d) (hi : bs[i]? = some (c, es)) : FtOk T (bs.set i (c, Fb.bump es d)) ns := by
  refine ⟨bump_wf hd hi h.wf, bump_part hd hi h.pt, fun b hb => ?_, by rw [List.length_set]; exact h.len⟩
  rcases List.mem_or_eq_of_mem_set hb with q | q
  · exact h.h3 b q
  · rw [q]
    obtain ⟨k, _, up, _⟩ := h.wf _ (List.mem_of_getElem? hi)
    rw [(bump_ok hd up).2.2]
    exact h.h3 _ (List.mem_of_getElem? hi)
structure LtOk (ps : Prs Str) (T : Fo Str) : Prop where
  tr : TreeOk ps T
  w5 : T.order.length ≤ 5
  ne : T.order ≠ []
theorem spread_ft {T : Fo Str} {bs : List (Bun Str)} {ns : List Nat} (h : FtOk T bs ns) (w5 : T.order.length ≤ 5) : FtOk T (spreadF bs T [] ns).2 (spreadF bs T [] ns).1 ∧ rowsF (spreadF bs T [] ns).2 T (spreadF bs T [] ns).1 = rowsF bs T ns := by
  obtain ⟨new, e, l, n1, p1, r1⟩ := spread_ok (F := T) (G := T) h.h3 (made := []) h.pt fun c k h => Fo.trees_sub h
  rw [List.nil_append] at e n1 p1 r1
  rw [e]
  have ml := Fo.most_le T
  have : 3 ^ T.width ≤ 243 := pow_le5 (by rw [← Fo.order_length]; exact w5)
  exact ⟨⟨newOk_wf n1, p1, fun b hb => (n1 b hb).2, by omega⟩, r1⟩
section
variable {P : Program} {w : World} {K : PySem.W.Frag} {mg : Str → Option Value} {base : Heap}
structure L2Ok (m : Nat) (ps : Prs Str) (T : Fo Str) (bs : List (Bun Str)) (ns : List Nat) : Prop where
  m : m < 600000
  lt : LtOk ps T
  ft : FtOk T bs ns
abbrev L2I : Type := Addr × Nat × Prs Str × Fo Str × List (Bun Str) × List Nat × Int
abbrev sp_Lsecond (P : Program) (w : World) (K : PySem.W.Frag) : Sp := spX (κ := List (Bun Str) × List Nat) (fun i : L2I => L2Ok i.2.1 i.2.2.1 i.2.2.2.1 i.2.2.2.2.1 i.2.2.2.2.2.1) (fun i => [rV (.ref i.1), rTree P w K i.2.2.1 i.2.2.2.1, rD (bunsD i.2.2.2.2.1), rD (prtD i.2.2.2.2.2.1), rD (.int i.2.2.2.2.2.2)]) (fun i => [wWl i.1 i.2.1])
  (fun i x => FtOk i.2.2.2.1 x.1 x.2) (fun i x => rBsNs x.1 x.2) (fun i _ => [wWl i.1 (i.2.1 + 4000)])
theorem c_Lsecond (W : Wo K mg base) : Cal P w K mg base 12 "_law_second" (sp_Lsecond P w K) [] := by
  have c_Ldraw := c_Ldraw (P := P) (w := w) W
  have c_Lraw := c_Lraw (P := P) (w := w) W
  have c_Lspread := c_Lspread (P := P) (w := w) W 9
  have c_Lshuffled := c_Lshuffled (P := P) (w := w) W
  have c_Tree_pairs := c_Tree_pairs (P := P) (w := w) W
  refine cal_of (f_Lsecond W) (g__law_second W) b_Lsecond sc_Lsecond (fun _ _ => rfl) fun cdv A' outer s H E hr => ⟨_, (pss_cons (ps_set (i := 5) sc_Lsecond.nd rfl (by first | exact Or.inl rfl | exact Or.inr rfl) (C8.pe_c c_Ldraw hr (by first | decide | omega) rfl (pa_cons (pv 0) (pa_cons pe_int pa_nil))))
    (pss_cons (ps_set (i := 6) sc_Lsecond.nd rfl (by first | exact Or.inl rfl | exact Or.inr rfl) (pe_op op_add pe_int (C8.pe_c c_Ldraw hr (by first | decide | omega) rfl (pa_cons (pv 0) (pa_cons pe_int pa_nil)))))
    (pss_cons (ps_if (pt_cmpR op_eq (pv 5) pe_int (nomark _)) (pss_one (ps_ret (C8.pe_c c_Lraw hr (by first | decide | omega) rfl (pa_cons (pv 0) (pa_cons (C8.pe_mt0 c_Tree_pairs hr (by decide) (pv 1)) (pa_cons (pv 4) pa_nil)))))) pss_nil)
    (pss_cons (ps_set (i := 7) sc_Lsecond.nd rfl (by first | exact Or.inl rfl | exact Or.inr rfl) (pe_lst pa_nil))
    (pss_cons (ps_set (i := 8) sc_Lsecond.nd rfl (by first | exact Or.inl rfl | exact Or.inr rfl) (pe_callTy (kCall K rTupOf call_tuple_of) (by rfl) (n_tuple W) PyProof.Rows.boot_tuple (pa_cons (pe_lc (own := [("_law_root", 14)]) (g := (gName 14)) rfl sc_Lsecond.nd (pi_tupK K (pv 3)) (blkOk_by (own := [("_law_root", 14)]) (N := N_Lsecond) (sc := defScope s_Lsecond) (by decide +kernel)) (fun _ _ _ _ _ => (pg_name (i := 14) sc_Lsecond.nd rfl (by first | exact Or.inl rfl | exact Or.inr rfl))) (fun _ _ _ _ _ => pts_nil) (fun _ _ _ _ _ => (C8.pe_c c_Lspread hr (by first | decide | omega) rfl (pa_cons (pv 2) (pa_cons (pv 14) (pa_cons (pv 7) pa_nil)))))) pa_nil)))
    (pss_cons (ps_if (pt_cmpR op_eq (pv 5) pe_int (nomark _)) (pss_one (ps_ret (pe_tup (pa_cons (pv 7) (pa_cons (pv 8) pa_nil))))) pss_nil)
    (pss_cons (ps_set (i := 9) sc_Lsecond.nd rfl (by first | exact Or.inl rfl | exact Or.inr rfl) (C8.pe_c c_Ldraw hr (by first | decide | omega) rfl (pa_cons (pv 0) (pa_cons (pe_callB (kCall K rLenV call_len) (by rfl) (n_len W) PySem.boot_len (pa_cons (pv 7) pa_nil)) pa_nil))))
    (pss_cons (ps_asg (pe_ix (kIx K rIxL ix_list) (pv 7) (pv 9) fun _ _ => rfl) (pg_tupK K rfl (pgs_cons (pg_name (i := 10) sc_Lsecond.nd rfl (by first | exact Or.inl rfl | exact Or.inr rfl)) (pgs_cons (pg_name (i := 11) sc_Lsecond.nd rfl (by first | exact Or.inl rfl | exact Or.inr rfl)) pgs_nil))))
    (pss_cons (ps_if (pt_cmpR (kOp K rNeD (op_neD hr.units)) (pv 11) (pe_lst pa_nil) (nomark _)) (pss_cons (ps_asg (pe_ix (kIx K rIxL ix_list) (pv 11) (pe_un un_neg pe_int) fun _ _ => rfl) (pg_tupK K rfl (pgs_cons (pg_name (i := 12) sc_Lsecond.nd rfl (by first | exact Or.inl rfl | exact Or.inr rfl)) (pgs_cons (pg_name (i := 13) sc_Lsecond.nd rfl (by first | exact Or.inl rfl | exact Or.inr rfl)) pgs_nil))))
    (pss_one (ps_asg (pe_tup (pa_cons (pv 10) (pa_cons (pe_op op_cat (pe_slice (kSl K rSlL sl_list) (pv 11) po_none (po_some (pe_un un_neg pe_int))) (pe_lst (pa_cons (pe_tup (pa_cons (pe_op op_add (pv 12) (pv 6)) (pa_cons (pv 13) pa_nil))) pa_nil))) pa_nil))) (pg_sub (pv 7) (pv 9) set_list)))) pss_nil)
    (pss_one (ps_ret (C8.pe_c c_Lshuffled hr (by first | decide | omega) rfl (pa_cons (pv 0) (pa_cons (pv 7) (pa_cons (pv 8) pa_nil))))))))))))))), ?_⟩
  rintro ⟨p, m, ps, T, bs, ns, ba⟩ F D0 Q ok q
  simp only at ok q
  have hm := ok.m
  have tr := ok.lt.tr
  have w5 := ok.lt.w5
  have ft := ok.ft
  have few := tr.few
  obtain ⟨sf, _⟩ := spread_ft ft w5
  have gl := ft.pt.length
  have h3 := ft.h3
  have fr := spr_from bs T ns [] [] gl
  rw [List.nil_append] at fr
  have zl := zip_tops gl
  have zp := zip_part ft.pt
  have mz := mostP_zip gl
  have kt := tops_le T
  have td : T.depth ≤ 5 := by
    have h1 := Fo.depth_le T
    have h2 := Fo.order_length T
    omega
  have tm : 2 * T.most + 1 ≤ 243 := Nat.le_trans (Fo.most_le T) (pow_le5 (by rw [← Fo.order_length]; exact w5))
  show Go D0 (gam N_Lsecond [rV (.ref p), rTree P w K ps T, rD (bunsD bs), rD (prtD ns), rD (.int ba)]) (wWl p m :: F) _
  refine sq_asg (eg_draw (t := 4) ⟨by decide, by decide, by omega⟩ (ag_cons (eg_var rfl) (ag_cons eg_int ag_nil))) ?_
  refine go_X (i := 5) rfl fun wy hwy => ?_
  refine sq_asg (R := rX (fun x : Int => 0 < x) fun x => rD (.int x)) (eg_op eg_int (eg_draw (t := 3) ⟨by decide, by decide, by omega⟩ (ag_cons (eg_var rfl) (ag_cons eg_int ag_nil))) (og_Xr fun j hj => og_add.imp fun D v h => ⟨_, by omega, h⟩)) ?_
  refine go_X (i := 6) rfl fun od hod => ?_
  show Go D0 [some (rV (.ref p)), some (rTree P w K ps T), some (rD (bunsD bs)), some (rD (prtD ns)), some (rD (.int ba)), some (rD (.int wy)), some (rD (.int od)), none, none, none, none, none, none, none, none] (wWl p (m + 2) :: F) _
  refine sq_if (b := decide (wy = 0)) (tg_test (eg_op (eg_var rfl) eg_int og_eqI)) (fun _ => ?_) (fun _ => ?_)
  · refine go_retX (xg_call (F := F) (p, m + 2, T, ba) ⟨by show m + 2 < 700000; omega, tr.sh.nd, few⟩ (ag_cons (eg_var rfl) (ag_cons (eg_methP (ps, T, ()) ⟨tr, trivial⟩ (eg_var rfl) (ins_obj rfl) ag_nil (fun _ => .nil) rfl) (ag_cons (eg_var rfl) ag_nil))) (fun _ => .nil) rfl) fun v D H e ⟨x, hx, hd, r⟩ => q v D H x e hx (hd.wlMono (by show m + 2 + 2000 ≤ m + 4000; omega)) r
  · refine sq_new ag_nil (by simp) fun pm => ?_
    refine sq_asg (R := rD (prtD (spreadF bs T [] ns).1)) (L' := wHeld pm (spreadF bs T [] ns).2 :: wWl p (m + 2) :: F) (Eg.tup (ds := (spreadF bs T [] ns).1.map fun (n : Nat) => .int (n : Int)) (eg_cb (ag_cons (Xg.eg (x := fun y : Nat => y = (T.trees.zip ns).length) (Rx := fun y => rLst (natR (((T.trees.zip ns).take y).foldl (sprOne bs) ([], [])).1)) (Lx := fun y => wHeld pm (((T.trees.zip ns).take y).foldl (sprOne bs) ([], [])).2 :: wWl p (m + 2) :: F)
        (xg_lc (n := (T.trees.zip ns).length) (Ig.to (Yr' := fun i R => ∃ z : TP Str, (T.trees.zip ns)[i]? = some z ∧ R = rD (.int (z.2 : Int))) (ig_tupX (xs := ns) (f := fun (x : Nat) => .int (x : Int)) (eg_var rfl)) zl.symm fun i R hi ⟨x, hx, hR⟩ => by
          have hi' : i < (T.trees.zip ns).length := by rw [zl]; exact hi
          have hz := List.getElem?_eq_getElem hi'
          generalize (T.trees.zip ns)[i] = z at hz
          have hz2 := List.getElem?_zip_eq_some.mp hz
          rw [hx] at hz2
          have e' := Option.some.inj hz2.2
          exact ⟨rD (.int (z.2 : Int)), ⟨z, hz, rfl⟩, fun D v r => by rw [hR, e'] at r; exact r⟩) (by rw [zl, gl]; omega) (ι := Nat) (fun i y => y = i) (fun _ y => wHeld pm (((T.trees.zip ns).take y).foldl (sprOne bs) ([], [])).2 :: wWl p (m + 2) :: F) (fun y => natR (((T.trees.zip ns).take y).foldl (sprOne bs) ([], [])).1) ⟨0, rfl, rfl, rfl⟩ (fun i y ey => ?_) (fun _ _ _ _ _ => trivial) fun i y R hi ey hR => ?_) (rLst ((spreadF bs T [] ns).1.map fun (n : Nat) => rD (.int (n : Int)))) (wHeld pm (spreadF bs T [] ns).2 :: wWl p (m + 2) :: F) fun y hy => ?_) ag_nil) (Cg.imp cg_tupL fun D v hv => by rw [List.map_map]; exact hv))) ?_
    · subst ey
      rw [List.length_map, spr_len1, List.length_take]
      show 0 + _ ≤ _
      omega
    · obtain ⟨z, hz, rfl⟩ := hR
      subst ey
      have mz2 := List.mem_of_getElem? hz
      have hz2 : ((T.trees.zip ns).take (y + 1)).foldl (sprOne bs) ([], []) = sprOne bs (((T.trees.zip ns).take y).foldl (sprOne bs) ([], [])) z := by rw [List.take_add_one, hz, List.foldl_append]; rfl
      have sl2 := spr_len h3 ((T.trees.zip ns).take y) ([], []) fun x hx => zp x (List.mem_of_mem_take hx)
      simp only [List.length_nil] at sl2
      have m1 : mostP ((T.trees.zip ns).take (y + 1)) = mostP ((T.trees.zip ns).take y) + (3 * z.1.2.most + 1) := by
        rw [List.take_add_one, hz, mostP_app]
        rfl
      have m2 : mostP ((T.trees.zip ns).take (y + 1)) ≤ T.most := by
        rw [← mz]
        conv => rhs; rw [← List.take_append_drop (y + 1) (T.trees.zip ns), mostP_app]
        omega
      obtain ⟨ht, _⟩ := zip_at ft.pt z mz2
      have kd : z.1.2.depth < 9 := by
        have := Fo.trees_depth (c := z.1.1) (k := z.1.2) ht
        omega
      have kf : z.1.2.order.length ≤ 8 := by
        have := (Fo.trees_sub (c := z.1.1) (k := z.1.2) ht).few
        omega
      refine ⟨_, _, tgt_name, by simp, true, fun Fr => tg_yes, fun _ Fr' => ?_, fun z => nomatch z⟩
      generalize ((T.trees.zip ns).take y).foldl (sprOne bs) ([], []) = st2 at hz2 sl2 ⊢
      intro σ D H gv hd Q' q'
      refine xg_call (F := wWl p (m + 2) :: (F ++ Fr')) (bs, z.1.1, z.1.2, z.2, pm, st2.2) ⟨zp z mz2, h3, kd, kf, by show st2.2.length + (3 * z.1.2.most + 1) ≤ 1000; omega⟩ (ag_cons (eg_var rfl) (ag_cons (eg_var rfl) (ag_cons (eg_var rfl) ag_nil))) (fun _ => .nil) rfl σ D H gv hd Q' fun v D2 H2 e2 ⟨_, _, h2, r2⟩ => q' v D2 H2 e2 ⟨y + 1, rD (.int ((sprY bs z.1.2 z.2 st2.2).2.length : Nat)), rfl, by rw [hz2]; exact h2, by rw [hz2]; show natR (st2.1 ++ [(sprY bs z.1.2 z.2 st2.2).2.length]) = _; unfold natR; rw [List.map_append]; rfl, r2⟩
    · subst hy
      rw [List.take_length, fr]
      exact ⟨fun D v r => r, rfl⟩
    · generalize (spreadF bs T [] ns).2 = mk at sf ⊢
      generalize (spreadF bs T [] ns).1 = tp at sf ⊢
      have mkl := sf.len
      show Go D0 [some (rV (.ref p)), some (rTree P w K ps T), some (rD (bunsD bs)), some (rD (prtD ns)), some (rD (.int ba)), some (rD (.int wy)), some (rD (.int od)), some (rV (.ref pm)), some (rD (prtD tp)), none, none, none, none, none, none] (wHeld pm mk :: wWl p (m + 2) :: F) _
      refine sq_if (b := decide (wy = 1)) (tg_test (eg_op (eg_var rfl) eg_int og_eqI)) (fun _ => ?_) (fun _ => ?_)
      · exact go_ret (eg_tup (ag_cons (Eg.imp (eg_frz rfl) fun D v hv => rD_lst (by rw [List.map_map]; exact hv)) (ag_cons (eg_var rfl) ag_nil)) (by simp)) fun v D H e hd r => q v D H (mk, tp) e sf (hd.wlMono (by omega)) r
      · have mk0 : 0 < mk.length := by
          have pl := sf.pt.length
          have tn : T.tops.length ≠ 0 := fun h => by
            cases T with
            | nil => exact ok.lt.ne rfl
            | cons c k r => simp [Fo.tops] at h
          obtain ⟨x, hx⟩ := List.exists_mem_of_length_pos (l := tp) (by omega)
          have := sf.pt.prt.lt x hx
          omega
        refine sq_asg (L' := wHeld pm mk :: wWl p (m + 3) :: F) (Eg.atW (L := wHeld pm mk :: wWl p (m + 2) :: F) (j := 1) (w := wWl p (m + 2)) (eg_draw (t := (mk.length : Int)) ⟨by omega, by omega, by omega⟩ (ag_cons (eg_var rfl) (ag_cons (Eg.to (eg_cb (ag_cons (eg_var rfl) ag_nil) (cg_lenW (j := 1) (Rs := mk.map fun b => rD (bunD b)) rfl)) (by rw [List.length_map])) ag_nil))) rfl) ?_
        refine go_X (i := 9) rfl fun at' hat => ?_
        obtain ⟨i, rfl⟩ : ∃ i : Nat, at' = (i : Int) := ⟨at'.toNat, by omega⟩
        have hi : i < mk.length := by omega
        obtain ⟨⟨c, es⟩, hb⟩ : ∃ b, mk[i]? = some b := ⟨_, List.getElem?_eq_getElem hi⟩
        refine sq_asgT (eg_op (eg_var rfl) (eg_var rfl) (og_ixW (k := 0) (Rs := mk.map fun b => rD (bunD b)) (R := rD (bunD (c, es))) rfl (atI_nat (by rw [List.getElem?_map, hb]; rfl)))) (tgt_tupD (ds := [.str c, .list (es.map entD)]) (tgs_cons tgt_name (tgs_cons tgt_name tgs_nil)) rfl) ?_
        show Go D0 [some (rV (.ref p)), some (rTree P w K ps T), some (rD (bunsD bs)), some (rD (prtD ns)), some (rD (.int ba)), some (rD (.int wy)), some (rD (.int od)), some (rV (.ref pm)), some (rD (prtD tp)), some (rD (.int (i : Int))), some (rD (.str c)), some (rD (.list (es.map entD))), none, none, none] (wHeld pm mk :: wWl p (m + 3) :: F) _
        refine sq_ifJ (ι := List (Bun Str)) (ok := fun mk' => FtOk T mk' tp) (Γj := [some (rV (.ref p)), some (rTree P w K ps T), some (rD (bunsD bs)), some (rD (prtD ns)), some (rD (.int ba)), some (rD (.int wy)), some (rD (.int od)), some (rV (.ref pm)), some (rD (prtD tp)), some (rD (.int (i : Int))), some (rD (.str c)), some (rD (.list (es.map entD))), none, none, none]) (Lj := fun mk' => wHeld pm mk' :: wWl p (m + 3) :: F) (b := !decide (es = [])) (tg_test (eg_op (eg_var rfl) (Eg.lst (ds := []) (eg_lst ag_nil (by simp))) (og_neP (b := decide (es = [])) pl_ents (Pl.list (n := 0) (fun d hd => nomatch hd)) (by omega) (by omega) (by simp)))) (fun e N kN => ?_) (fun e N kN => ?_) ?_
        · have e' : es ≠ [] := by simpa using e
          obtain ⟨pre, x, rfl⟩ : ∃ pre x, es = pre ++ [x] := ⟨es.dropLast, es.getLast e', (List.dropLast_concat_getLast e').symm⟩
          have b3 : (pre ++ [x]).length ≤ 3 := sf.h3 _ (List.mem_of_getElem? hb)
          have p2 : pre.length ≤ 2 := by simp at b3; omega
          refine sq_asgT (eg_op (eg_var rfl) (eg_un eg_int ug_neg) (og_ixD (ds := (pre ++ [x]).map entD) (d := entD x) (by rw [List.map_append]; exact at_last _ _))) (tgt_tupD (ds := [.int x.1, prtD x.2]) (tgs_cons tgt_name (tgs_cons tgt_name tgs_nil)) rfl) ?_
          have kN' := kN (mk.set i (c, bump (pre ++ [x]) od)) (sf.bump hod hb)
          rw [bump_snoc] at kN'
          have ew : wHeld pm (mk.set i (c, pre ++ [(x.1 + od, x.2)])) = mL pm ((mk.map fun b => rD (bunD b)).set i (rD (bunD (c, pre ++ [(x.1 + od, x.2)])))) := by unfold wHeld; rw [List.map_set]
          rw [ew] at kN'
          refine go_setL (j := 0) (k := i) (R := rD (bunD (c, pre ++ [(x.1 + od, x.2)]))) (Eg.tup (ds := [.str c, .list ((pre ++ [(x.1 + od, x.2)]).map entD)]) (eg_tup (ag_cons (eg_var rfl) (ag_cons (Eg.to (eg_op (eg_slL (ds := (pre ++ [x]).map entD) (eg_var rfl) tog_none (tog_some (eg_un eg_int ug_neg))) (Eg.lst (ds := [entD (x.1 + od, x.2)]) (eg_lst (ag_cons (Eg.tup (ds := [.int (x.1 + od), prtD x.2]) (eg_tup (ag_cons (eg_op (eg_var rfl) (eg_var rfl) og_add) (ag_cons (eg_var rfl) ag_nil)) (by simp))) ag_nil) (by simp))) (og_cat (by rw [List.map_append, List.map_singleton, cut_init, List.length_map]; simp; omega))) (by rw [List.map_append, List.map_singleton, cut_init, List.map_append]; rfl)) ag_nil)) (by simp))) (eg_var rfl) (eg_var rfl) rfl (by rw [List.length_map]; exact hi) (kN'.less (less_of rfl fun i h => match i with | 0 => .inr rfl | 1 => .inr rfl | 2 => .inr rfl | 3 => .inr rfl | 4 => .inr rfl | 5 => .inr rfl | 6 => .inr rfl | 7 => .inr rfl | 8 => .inr rfl | 9 => .inr rfl | 10 => .inr rfl | 11 => .inr rfl | 12 => .inl rfl | 13 => .inl rfl | 14 => .inl rfl | i + 15 => absurd h (by show ¬ i + 15 < 15; omega)))
        · exact go_next ((kN mk sf).less (less_of rfl fun i h => match i with | 0 => .inr rfl | 1 => .inr rfl | 2 => .inr rfl | 3 => .inr rfl | 4 => .inr rfl | 5 => .inr rfl | 6 => .inr rfl | 7 => .inr rfl | 8 => .inr rfl | 9 => .inr rfl | 10 => .inr rfl | 11 => .inr rfl | 12 => .inr rfl | 13 => .inr rfl | 14 => .inr rfl | i + 15 => absurd h (by show ¬ i + 15 < 15; omega)))
        · intro mk' sf'
          refine go_retX (xg_call (F := F) (p, m + 3, false, mk', tp) (sf'.sh few (by show m + 3 < 900000; omega)) (ag_cons (eg_var rfl) (ag_cons (Eg.imp (eg_frz rfl) fun D v hv => rD_lst (by rw [List.map_map]; exact hv)) (ag_cons (Eg.imp (eg_var rfl) fun D v hv => by have := tup_rD hv; rw [List.map_map] at this; exact this) ag_nil))) (fun _ => .nil) rfl) fun v D H e ⟨o, po, hd, r⟩ => q v D H (renB mk' o, tp.map (ix o)) e (sf'.ren po) (hd.wlMono (by show m + 3 + 1000 ≤ m + 4000; omega)) r
end
end Fb

namespace Fb
open PySem PySem.Spec L2 Evl
open C8 (Cal Met Mak)
theorem sum_int (ns : List Nat) : (ns.map fun (n : Nat) => (n : Int)).sum = ((ns.sum : Nat) : Int) := by
  induction ns with
  | nil => rfl
  | cons n ns ih => rw [List.map_cons, List.sum_cons, List.sum_cons, ih]; omega
theorem og_lt {a b : Int} {L : List Wd} : Og (rI0 fun i j => .bl (decide (i < j))) (rD (.int a)) (rD (.int b)) L (rD (.bool (decide (a < b)))) L := og_I0 fun _ => .bl _
section
variable {P : Program} {w : World} {K : PySem.W.Frag} {mg : Str → Option Value} {base : Heap}
abbrev cntD (bs : List (Bun Str)) (c : Str) : PyData := .tuple [.int (cntB bs c : Nat), .int (cntE bs c : Nat)]
abbrev sp_Lcounts : Sp := spP (fun i : List (Bun Str) × Str => i.1.length ≤ 100000) (fun i => [rD (bunsD i.1), rD (.str i.2)]) fun i => rD (cntD i.1 i.2)
theorem c_Lcounts (W : Wo K mg base) : Cal P w K mg base 1 "_law_counts" sp_Lcounts [] := by
  refine cal_of (f_Lcounts W) (g__law_counts W) b_Lcounts sc_Lcounts (fun _ _ => rfl) fun cdv A' outer s H E hr => ⟨_, (pss_cons ((ps_setLc (i := 2) (own := [("_law_head", 3), ("_law_entries", 4)]) (g := (gTup K 2 (gCons (gName 3) (gCons (gName 4) gNil)))) rfl sc_Lcounts.nd rfl rfl (sw_true rfl rfl rfl (by decide +kernel)) (pi_listK K (pv 0)) (blkOk_by (own := [("_law_head", 3), ("_law_entries", 4)]) (N := N_Lcounts) (sc := defScope s_Lcounts) (by decide +kernel)) (fun _ _ _ _ _ => (pg_tupK K rfl (pgs_cons (pg_name (i := 3) sc_Lcounts.nd rfl (by first | exact Or.inl rfl | exact Or.inr rfl)) (pgs_cons (pg_name (i := 4) sc_Lcounts.nd rfl (by first | exact Or.inl rfl | exact Or.inr rfl)) pgs_nil)))) (fun _ _ _ _ _ => (pts_one (pt_cmpR op_eq (pv 3) (pv 1) (nomark _)))) (fun _ _ _ _ _ => (pv 4))))
    (pss_one (ps_ret (pe_tup (pa_cons (pe_callB (kCall K rLenV call_len) (by rfl) (n_len W) PySem.boot_len (pa_cons (pv 2) pa_nil)) (pa_cons (pe_callB (kCall K rSum (cr_sum rfl)) (by rfl) (n_sum W) PyProof.Rows.boot_sum (pa_cons (pe_lc (own := [("_law_entries", 4)]) (g := (gName 4)) rfl sc_Lcounts.nd (pi_listK K (pv 2)) (blkOk_by (own := [("_law_entries", 4)]) (N := N_Lcounts) (sc := defScope s_Lcounts) (by decide +kernel)) (fun _ _ _ _ _ => (pg_name (i := 4) sc_Lcounts.nd rfl (by first | exact Or.inl rfl | exact Or.inr rfl))) (fun _ _ _ _ _ => pts_nil) (fun _ _ _ _ _ => (pe_callB (kCall K rLenV call_len) (by rfl) (n_len W) PySem.boot_len (pa_cons (pv 4) pa_nil)))) pa_nil)) pa_nil)))))), ?_⟩
  rintro ⟨bs, c⟩ F D0 Q ok q
  simp only at ok q
  have fl : (ofCol c bs).length ≤ bs.length := List.length_filter_le _ _
  refine sq_asg (R := rD (.list ((ofCol c bs).map fun b => .list (b.2.map entD)))) (eg_lcD (L1 := F) bs (ig_listX (f := bunD) (eg_var rfl)) ok (fun _ => trivial) (fun b => decide (b.1 = c)) (fun b => .list (b.2.map entD)) fun i b hb R ⟨y, hy, hR⟩ => ?_) ?_
  · subst hR
    rw [hb] at hy; cases hy
    exact ⟨_, _, tgt_tupD (ds := [.str b.1, .list (b.2.map entD)]) (tgs_cons tgt_name (tgs_cons tgt_name tgs_nil)) rfl, by simp, fun Fr => tg_test (eg_op (eg_var rfl) (eg_var rfl) og_eqS), fun _ Fr => eg_var rfl⟩
  · refine go_ret (Eg.tup (ds := [.int (cntB bs c : Nat), .int (cntE bs c : Nat)]) (eg_tup (ag_cons (Eg.to (eg_cb (ag_cons (eg_var rfl) ag_nil) (cg_lenD (ds := (ofCol c bs).map fun b => .list (b.2.map entD)))) (by rw [List.length_map]; rfl)) (ag_cons (Eg.to (eg_cb (ag_cons (Eg.imp (eg_lcA (L1 := F) (ofCol c bs) (ig_listX (f := fun b : Bun Str => .list (b.2.map entD)) (eg_var rfl)) (by omega) (fun _ => trivial) (fun b => .int (b.2.length : Nat)) fun i b hb R ⟨y, hy, hR⟩ => ?_) fun D v h => ?_) ag_nil) (cg_sum (ns := (ofCol c bs).map fun b => ((b.2.length : Nat) : Int)))) (by
        have := sum_int ((ofCol c bs).map fun b => b.2.length)
        rw [List.map_map] at this
        unfold cntE
        rw [← this]
        rfl)) ag_nil)) (by simp))) fun v D H e hd r => q v D H () e trivial hd r
    · subst hR
      rw [hb] at hy; cases hy
      exact ⟨_, _, tgt_name, by simp, fun Fr => Eg.to (eg_cb (ag_cons (eg_var rfl) ag_nil) (cg_lenD (ds := b.2.map entD))) (by rw [List.length_map])⟩
    · have := lst_rD h
      rw [List.map_map] at this ⊢
      exact this
abbrev NfI : Type := Prs Str × Fo Str × List Str × List (Bun Str) × List (Bun Str) × Option (List Nat)
structure NfOk (zs : List Str) (bs cs : List (Bun Str)) : Prop where
  le : ∀ c ∈ zs, cntB cs c ≤ cntB bs c ∧ cntE cs c ≤ cntE bs c
  l1 : bs.length ≤ 100000
  l2 : cs.length ≤ 100000
  lz : zs.length ≤ 100000
abbrev sp_Lno_fewer (P : Program) (w : World) (K : PySem.W.Frag) : Sp := spP (fun i : NfI => NfOk i.2.2.1 i.2.2.2.1 i.2.2.2.2.1) (fun i => [rD (strL i.2.2.1), rD (bunsD i.2.2.2.1), rFold P w K i.1 i.2.1 i.2.2.2.2.1 i.2.2.2.2.2]) fun _ => rD (.bool true)
theorem c_Lno_fewer (W : Wo K mg base) : Cal P w K mg base 2 "_law_no_fewer" (sp_Lno_fewer P w K) [] := by
  have c_Lcounts := c_Lcounts (P := P) (w := w) W
  have c_Fold_bunches := c_Fold_bunches (P := P) (w := w) W
  refine cal_of (f_Lno_fewer W) (g__law_no_fewer W) b_Lno_fewer sc_Lno_fewer (fun _ _ => rfl) fun cdv A' outer s H E hr => ⟨_, (pss_cons (ps_set (i := 3) sc_Lno_fewer.nd rfl (by first | exact Or.inl rfl | exact Or.inr rfl) (C8.pe_mt0 c_Fold_bunches hr (by decide) (pv 2)))
    (pss_cons (ps_for PassesOwn.never rfl (pi_listK K (pv 0)) (pg_name (i := 4) sc_Lno_fewer.nd rfl (by first | exact Or.inl rfl | exact Or.inr rfl)) (pss_cons (ps_par (i := 5) (j := 6) rfl sc_Lno_fewer.nd rfl rfl (by decide) rfl rfl (pa_cons (C8.pe_c c_Lcounts hr (by first | decide | omega) rfl (pa_cons (pv 1) (pa_cons (pv 4) pa_nil))) (pa_cons (C8.pe_c c_Lcounts hr (by first | decide | omega) rfl (pa_cons (pv 3) (pa_cons (pv 4) pa_nil))) pa_nil)) rfl)
    (pss_one (ps_if (PW.pt (pw_or (pt_cmpR op_lt (pe_ix (kIx K rIxT ix_tup) (pv 5) pe_int fun _ _ => rfl) (pe_ix (kIx K rIxT ix_tup) (pv 6) pe_int fun _ _ => rfl) (nomark _)) (pw_or1 (pt_cmpR op_lt (pe_ix (kIx K rIxT ix_tup) (pv 5) pe_int fun _ _ => rfl) (pe_ix (kIx K rIxT ix_tup) (pv 6) pe_int fun _ _ => rfl) (nomark _))))) (pss_one (ps_ret pe_bl)) pss_nil))))
    (pss_one (ps_ret pe_bl)))), ?_⟩
  rintro ⟨ps, T, zs, bs, cs, ts⟩ F D0 Q ok q
  simp only at ok q
  have hl1 := ok.l1
  have hl2 := ok.l2
  show Go D0 (gam N_Lno_fewer [rD (strL zs), rD (bunsD bs), rFold P w K ps T cs ts]) F _
  refine sq_asg (eg_methP (ps, T, cs, ts) hl2 (eg_var rfl) (ins_obj rfl) ag_nil (fun _ => .nil) rfl) ?_
  refine sq_forL (G := gT) zs (fun z => rD (.str z)) (ig_listX (f := .str) (eg_var rfl)) (fun i R y => y)
    (fun _ => [some (rD (strL zs)), some (rD (bunsD bs)), some (rFold P w K ps T cs ts), some (rD (bunsD cs)), none, none, none]) (fun _ => F) (Less.refl _) rfl (fun _ => trivial) (fun a z b D1 N he e1 kN => ?_) (go_ret eg_bl fun v D H e hd r => q v D H () e trivial hd r)
  obtain ⟨g1, g2⟩ := ok.le z (by rw [he]; simp)
  refine ⟨_, _, tgt_name, ?_⟩
  refine sq_par (ag_cons (eg_callP (bs, z) hl1 (ag_cons (eg_var rfl) (ag_cons (eg_var rfl) ag_nil)) rfl) (ag_cons (eg_callP (cs, z) hl2 (ag_cons (eg_var rfl) (ag_cons (eg_var rfl) ag_nil)) rfl) ag_nil)) ?_
  refine go_no (Tg.to (tg_or (tg_test (eg_op (eg_op (eg_var rfl) eg_int (og_ixDT (ds := [.int (cntB bs z : Nat), .int (cntE bs z : Nat)]) (i := 0) rfl)) (eg_op (eg_var rfl) eg_int (og_ixDT (ds := [.int (cntB cs z : Nat), .int (cntE cs z : Nat)]) (i := 0) rfl)) og_lt)) fun _ => tg_test (eg_op (eg_op (eg_var rfl) eg_int (og_ixDT (ds := [.int (cntB bs z : Nat), .int (cntE bs z : Nat)]) (i := 1) rfl)) (eg_op (eg_var rfl) eg_int (og_ixDT (ds := [.int (cntB cs z : Nat), .int (cntE cs z : Nat)]) (i := 1) rfl)) og_lt)) (by
    rw [decide_eq_false (by omega), decide_eq_false (by omega)]; rfl)) (kN.less (less_of rfl fun i h => match i with | 0 => .inr rfl | 1 => .inr rfl | 2 => .inr rfl | 3 => .inr rfl | 4 => .inl rfl | 5 => .inl rfl | 6 => .inl rfl | i + 7 => absurd h (by show ¬ i + 7 < 7; omega)))
end
end Fb

/-! == of tuples with own objects in them; calls whose arguments are told by x. -/
namespace Fb
open PySem PySem.Spec L2 Evl
open C8 (Cal Met Mak)
def RTru {ι : Type} (ok : ι → Prop) (A : ι → List Rp) (res : ι → Bool) : Addr → Addr → Hp → Prop := fun a b H => ∃ i, ok i ∧ AllR H [.ref a, .ref b] (A i) ∧ res i = true
theorem spE_tru {ι : Type} {ok : ι → Prop} {A : ι → List Rp} {res : ι → Bool} (vs : List V) (H : Hp) (Q : VK) (E : XK) (h : spEq (RTru ok A res) vs H Q E) : spE ok A res vs H Q E := by
  obtain ⟨a, b, rfl, ⟨i, o, al, e⟩, q⟩ := h
  refine spE_imp _ H Q E ⟨a, b, true, rfl, ⟨i, o, al, e.symm⟩, fun H' x => q H' x⟩
section
variable {X : Cx} {K : PySem.W.Frag} {C : Addr} {n : Nat} {ι : Type} {ok : ι → Prop} {A : ι → List Rp} {res : ι → Bool} {L : List Wd}
abbrev DMix (C : Addr) (ok : ι → Prop) (A : ι → List Rp) (res : ι → Bool) : Eqv := fun x y H => DFlat x y H ∨ DIns C (RTru ok A res) x y H
theorem mon_mix : Mon (DMix C ok A res) := mon_flat.or (mon_ins fun a b H H' e ⟨i, o, al, r⟩ => ⟨i, o, AllR.up e al, r⟩)
theorem opETup (M : Met X.prog X.w X.K X.mg X.base n C "__eq__" (spE ok A res) []) (hr : Room (n + 1) X.A) : OpR X (compareOp .Eq) (rEqG (DTup X.K (DMix C ok A res))) := by
  obtain ⟨f, fd, ps, ds, c, m, F, b, v⟩ := M.ex
  cases v
  have e1 : EqG X n (DIns C (RTru ok A res)) := eqG_ins (E := C8.E0) (F.imp spE_tru) (met_find m).1 (met_find m).2 b C8.pass0
  have e0 : EqG X n DFlat := eqG_flat.mono (Nat.zero_le _)
  exact op_eqG (rcG_tup mon_mix (e0.or e1)) hr
theorem og_eqTup {Ra Rb : Rp} {z : Str} (i : ι) (o : ok i) (hA : A i = [Ra, Rb]) (h1 : IsIns C Ra) (h2 : IsIns C Rb) (hr : res i = true) : Og (rEqG (DTup K (DMix C ok A res))) (rTup [rD (.str z), Ra]) (rTup [rD (.str z), Rb]) L (rD (.bool true)) L := fun x y D H hd ⟨a, vs, ex, hs, al⟩ ⟨b, ws, ey, ht, bl⟩ Q q => by
  cases al with
  | cons a1 t => cases t with
    | cons a2 t =>
      cases t
      cases bl with
      | cons b1 t => cases t with
        | cons b2 t =>
          cases t
          rw [str_of a1] at hs
          rw [str_of b1] at ht
          obtain ⟨p, dx, fs, rfl, ha⟩ := h1 D _ a2
          obtain ⟨p', dy, gs, rfl, hb⟩ := h2 D _ b2
          refine ⟨⟨a, b, _, _, ex, ey, SqT.of (hd.ex _ _ hs), SqT.of (hd.ex _ _ ht), .cons (.inl ⟨rfl, rfl, by simp [eqV]⟩) (.cons (.inr ⟨p, p', dx, dy, fs, gs, rfl, rfl, hd.ex _ _ ha, hd.ex _ _ hb, i, o, by rw [hA]; exact .cons (Ra.m hd.ex a2) (.cons (Rb.m hd.ex b2) .nil), hr⟩) .nil)⟩, fun H' e => q _ D H' (Ex.refl D) (hd.grow (Ex.refl D) (fun a o h => e a o (hd.ex a o h)) e fun a o h hn => hn) (.bl _)⟩
end
/-! ### arguments told by x -/
section
variable {Γ : Gm} {L L1 : List Wd} {te : TE} {tr : TA} {ξ : Type} {okx : ξ → Prop} {As : ξ → List Rp} {Lx : ξ → List Wd}
def AgX (ta : TA) (Γ : Gm) (L : List Wd) {ξ : Type} (okx : ξ → Prop) (As : ξ → List Rp) (Lx : ξ → List Wd) : Prop := ∀ σ D H, Gv D σ Γ → Hd D H L → ∀ Q : List V → Hp → Prop, (∀ vs D2 H2 x, okx x → Ex D D2 → Hd D2 H2 (Lx x) → AllR D2 vs (As x) → Q vs H2) → ta σ H Q
theorem agx_of {As0 : List Rp} (h : Ag tr Γ L As0 L1) (k : ∀ D vs, AllR D vs As0 → ∃ x, okx x ∧ AllR D vs (As x)) : AgX tr Γ L okx As fun _ => L1 := fun σ D H g hd Q q => h σ D H g hd Q fun vs D2 H2 e2 h2 r2 => by
  obtain ⟨x, o, r⟩ := k D2 vs r2
  exact q vs D2 H2 x o e2 h2 r
theorem agx_one {Rx : ξ → Rp} (h : Xg te Γ L fun v D H => ∃ x, okx x ∧ Hd D H (Lx x) ∧ (Rx x).r D v) : AgX (tCons te tNil) Γ L okx (fun x => [Rx x]) Lx := fun σ D H g hd Q q => h σ D H g hd _ fun v D2 H2 e2 ⟨x, o, h2, r⟩ => q [v] D2 H2 x o e2 h2 (.cons r .nil)
theorem xg_callX {ι κ : Type} {ok : ι → Prop} {A : ι → List Rp} {Li : ι → List Wd} {okp : ι → κ → Prop} {Ri : ι → κ → Rp} {Lp : ι → κ → List Wd} {E : XK} {F : List Wd} (h : AgX tr Γ L okx As Lx) (i : ξ → ι) (o : ∀ x, okx x → ok (i x)) (hL : ∀ x, okx x → Lx x = Li (i x) ++ F) (hA : ∀ x, A (i x) = As x) :
    Xg (tCall (spX ok A Li okp Ri Lp) [] E tr) Γ L fun v D H => ∃ y : ξ × κ, (okx y.1 ∧ okp (i y.1) y.2) ∧ Hd D H (Lp (i y.1) y.2 ++ F) ∧ (Ri (i y.1) y.2).r D v := fun σ D H g hD Q q =>
  h σ D H g hD _ fun vs D1 H1 x ox e1 h1 r1 => ⟨i x, F, D1, o x ox, by rw [← hL x ox]; exact h1, by rw [hA, List.append_nil]; exact r1, fun v D' H' y e op h' r => q v D' H' (e1.trans e) ⟨(x, y), ⟨ox, op⟩, h', r⟩⟩
theorem eg_makeX {C : Addr} {ι : Type} {κ : Type} {ok : Addr × Addr × ι → Prop} {A : Addr × Addr × ι → List Rp} {Li : Addr × Addr × ι → List Wd} {okp : Addr × Addr × ι → κ → Prop} {Ri : Addr × Addr × ι → κ → Rp} {Lp : Addr × Addr × ι → κ → List Wd} {EX : XK} {F : List Wd} {flds : ξ → κ → List (Str × Rp)} {Lr : κ → List Wd}
    (i : ξ → ι) (ho : ∀ z x dx, okx z → ok (x, dx, i z)) (h : AgX tr Γ L okx As fun _ => L1) (hA : ∀ z x dx, A (x, dx, i z) = rV (.ref x) :: As z) (hLi : ∀ z x dx, Li (x, dx, i z) ++ F = wIns x C dx [] :: L1) (hLp : ∀ z x dx k, okp (x, dx, i z) k → Lp (x, dx, i z) k ++ F = wIns x C dx (flds z k) :: Lr k)
    (hR : ∀ z x dx k, Ri (x, dx, i z) k = rD .none) :
    Xg (tMake C (spX ok A Li okp Ri Lp) [] EX tr) Γ L fun v D H => ∃ k : ξ × κ, okx k.1 ∧ Hd D H (Lr k.2) ∧ (rObj C (flds k.1 k.2)).r D v := fun σ D H g hD Q q =>
  h σ D H g hD _ fun vs D1 H1 z oz e1 h1 r1 => fun x dx hx hdx ne => by
    have h2 := h1.alloc (o := .own x) hdx
    have x2 := h1.exnew (o := .own x) hdx
    have hx2 : (upd H1 dx (.own x)) x = none := by rw [upd_ne (fun z => ne z.symm)]; exact hx
    have h3 : Hd (upd D1 dx (.own x)) (upd (upd H1 dx (.own x)) x (.ins C dx [])) (wIns x C dx [] :: L1) := h2.new (Ex.new hx2) (fun a ha => by rw [List.mem_singleton.mp ha]; exact hx2) ⟨h2.dnone hx2, [], upd_same, .nil⟩
    refine ⟨(x, dx, i z), F, _, ho z x dx oz, by rw [hLi]; exact h3, ?_, fun v D' H' k e op h' r => ?_⟩
    · rw [hA, List.append_nil]
      exact .cons rfl (r1.up x2)
    · rw [hR] at r
      refine ⟨non_of r, ?_⟩
      rw [hLp z x dx k op] at h'
      obtain ⟨D4, e4, h4, r4⟩ := h'.freezeIns
      exact q _ D4 H' (((e1.trans x2).trans e).trans e4) ⟨(z, k), oz, h4, r4⟩
variable {D0 : Hp} {E : Ends} {u : TS}
/-- a, b = e, what e makes told by x -/
theorem sq_asgXT {ι : Type} {ok : ι → Prop} {Rx : ι → Rp} {Lx : ι → List Wd} {g : TG} {S : ι → List Nat} {Γ' : ι → Gm} (h : Xg te Γ L fun v D H => ∃ x, ok x ∧ Hd D H (Lx x) ∧ (Rx x).r D v) (ht : ∀ x, Tgt g (Rx x) Γ (Γ' x) (S x)) (k : ∀ x, ok x → Go D0 (Γ' x) (Lx x) (u E)) : Go D0 Γ L (tSeq (tAsg te g) u E) := fun σ D H e gv hd =>
  h σ D H gv hd _ fun v D1 H1 e1 ⟨x, o, h1, r1⟩ => ht x v σ D1 H1 _ h1.ex r1 (gv.up e1) fun σ' g' _ => k x o σ' D1 H1 (e.trans e1) g' h1
/-- return [..]: a list that may still change -/
theorem go_retNew {Rs : List Rp} (h : Ag tr Γ L Rs L1) (hz : Rs.length ≤ 100000) (k : ∀ p D H, Ex D0 D → Hd D H (mL p Rs :: L1) → E.rt (.ref p) H) : Go D0 Γ L (tRet (tLst tr) E) := fun σ D H e g hd =>
  h σ D H g hd _ fun vs D1 H1 e1 h1 r1 => ⟨sz_of (by rw [r1.len]; exact hz), fun p hp => k p D1 _ (e.trans e1) (h1.new (Ex.new hp) (fun a ha => by rw [List.mem_singleton.mp ha]; exact hp) ⟨h1.dnone hp, vs, upd_same, r1⟩)⟩
end
end Fb

namespace Fb
open PySem PySem.Spec L2 Evl
open C8 (Cal Met Mak)
theorem ind_sum {a : Str} : ∀ {cs : List Str}, cs.Nodup → (cs.map fun c => if a = c then 1 else 0).sum = if a ∈ cs then 1 else 0
  | [], _ => rfl
  | c :: cs, h => by
    obtain ⟨h1, h2⟩ := List.nodup_cons.mp h
    rw [List.map_cons, List.sum_cons, ind_sum h2]
    by_cases e : a = c
    · subst e; simp [h1]
    · simp [e]
theorem cnt_cons (b : Bun Str) (bs : List (Bun Str)) (c : Str) : cntB (b :: bs) c = (if b.1 = c then 1 else 0) + cntB bs c := by
  unfold cntB ofCol
  rw [List.filter_cons]
  by_cases e : b.1 = c
  · rw [if_pos (decide_eq_true e), if_pos e, List.length_cons]; omega
  · rw [if_neg (by rw [decide_eq_false e]; decide), if_neg e]; omega
theorem sum_add {α : Type} (f g : α → Nat) : ∀ l : List α, (l.map fun x => f x + g x).sum = (l.map f).sum + (l.map g).sum
  | [] => rfl
  | x :: l => by simp only [List.map_cons, List.sum_cons, sum_add f g l]; omega
theorem cnt_sum {cs : List Str} (nd : cs.Nodup) : ∀ bs : List (Bun Str), (cs.map fun c => cntB bs c).sum ≤ bs.length ∧ ((∀ b ∈ bs, b.1 ∈ cs) → bs.length ≤ (cs.map fun c => cntB bs c).sum)
  | [] => by
    have : (cs.map fun c => cntB ([] : List (Bun Str)) c).sum = 0 := by
      clear nd
      induction cs with
      | nil => rfl
      | cons c cs ih => rw [List.map_cons, List.sum_cons, ih]; rfl
    rw [this]; simp
  | b :: bs => by
    obtain ⟨i1, i2⟩ := cnt_sum nd bs
    have e : (cs.map fun c => cntB (b :: bs) c).sum = (if b.1 ∈ cs then 1 else 0) + (cs.map fun c => cntB bs c).sum := by
      rw [← ind_sum nd, ← sum_add]
      congr 1
      exact List.map_congr_left fun c _ => cnt_cons b bs c
    rw [e, List.length_cons]
    refine ⟨by split <;> omega, fun h => ?_⟩
    rw [if_pos (h b (List.mem_cons_self ..))]
    have := i2 fun x hx => h x (List.mem_cons_of_mem _ hx)
    omega
theorem sum_le {α : Type} {f g : α → Nat} : ∀ {l : List α}, (∀ x ∈ l, f x ≤ g x) → (l.map f).sum ≤ (l.map g).sum
  | [], _ => Nat.le_refl _
  | x :: l, h => by
    have h1 := h x (List.mem_cons_self ..)
    have h2 := sum_le (l := l) fun y hy => h y (List.mem_cons_of_mem _ hy)
    simp only [List.map_cons, List.sum_cons]
    omega
/-- what is to be known of the Fold of a folded thing's rows -/
structure CanOk (T : Fo Str) (S : List Row) (c : List (Bun Str) × Option (List Nat)) : Prop where
  nm : ∀ b ∈ c.1, b.1 ∈ T.order
  len : c.1.length ≤ 200
  ft : ∀ ts, c.2 = some ts → FtOk T c.1 ts ∧ rowsF c.1 T ts = S
theorem canon_ok {T : Fo Str} {bs : List (Bun Str)} {ns : List Nat} (nd : T.order.Nodup) (hn : T.depth ≤ 8) (h : FtOk T bs ns) : CanOk T (rowsF bs T ns) (canon 8 T (rowsF bs T ns)) := by
  have lst := least nd h.pt hn
  rcases rows_good bs h.pt with z | g
  · have e : canon 8 T (rowsF bs T ns) = ([], none) := if_pos z
    rw [e]
    exact ⟨(fun b hb => nomatch hb), Nat.zero_le _, fun ts hts => nomatch hts⟩
  · have e := canon_good (n := 8) g
    have wf := canon_wf g hn
    obtain ⟨Wh, hm⟩ := ord_whole g hn
    obtain ⟨p1, p2⟩ := canon_part Wh g hm
    have of := ord_of (n := 8) h.pt g.ne
    rw [e] at lst ⊢
    have nm : ∀ b ∈ bunsOf (ordOf 8 T (rowsF bs T ns)), b.1 ∈ T.order := fun b hb => by
      obtain ⟨k, hk, _⟩ := wf b hb
      exact hk.mem
    have ln : (bunsOf (ordOf 8 T (rowsF bs T ns))).length ≤ 200 := by
      have h1 := (cnt_sum nd (bunsOf (ordOf 8 T (rowsF bs T ns)))).2 nm
      have h2 := (cnt_sum nd bs).1
      have h3 : (T.order.map fun c => cntB (bunsOf (ordOf 8 T (rowsF bs T ns))) c).sum ≤ (T.order.map fun c => cntB bs c).sum := sum_le fun c _ => (lst c).1
      have := h.len
      omega
    refine ⟨nm, ln, fun ts hts => ?_⟩
    cases hts
    refine ⟨⟨wf, p1, fun b hb => ?_, ln⟩, p2⟩
    obtain ⟨K, hK, rfl⟩ := List.mem_map.mp hb
    obtain ⟨i, es, h1, h2, h3, h4, _⟩ := of K hK
    have l1 := of_length h1 h2 h3 h4
    have l2 := h.h3 _ (List.mem_of_getElem? h1)
    show ((ent K).map _).length ≤ 3
    rw [List.length_map]
    simp only at l2
    omega
theorem FtOk.fof {ps : Prs Str} {T : Fo Str} {bs : List (Bun Str)} {ns : List Nat} (tr : TreeOk ps T) (h : FtOk T bs ns) : FofOk ps T bs ns := by
  have s := h.sh tr.few (m := 0) (by decide)
  exact ⟨tr, h.wf, h.pt, s.len, s.small⟩
section
variable {P : Program} {w : World} {K : PySem.W.Frag} {mg : Str → Option Value} {base : Heap}
abbrev sp_Lwell : Sp := spX (κ := Addr) (fun _ : Int × Int => True) (fun i => [rD (.int i.1), rD (.int i.2)]) (fun _ => []) (fun _ _ => True) (fun _ p => rV (.ref p)) (fun _ p => [wWl p 0])
theorem c_Lwell (W : Wo K mg base) : Cal P w K mg base 1 "_law_well" sp_Lwell [] := by
  refine cal_of (f_Lwell W) (g__law_well W) b_Lwell sc_Lwell (fun _ _ => rfl) fun cdv A' outer s H E hr => ⟨_, (pss_one (ps_ret (pe_lst (pa_cons (pe_op op_mul (pv 0) (pe_callTy call_int1 (by rfl) (n_int W) PyProof.Rows.boot_int (pa_cons (pe_cmpR op_ge (pv 0) (pe_op op_pow pe_int pe_int) (nomark _)) pa_nil))) (pa_cons (pe_op op_modN (pe_op op_add (pe_op op_modN (pv 0) pe_int) (pe_op op_mul pe_int (pv 1))) pe_int) (pa_cons pe_int pa_nil)))))), ?_⟩
  rintro ⟨x, k⟩ F D0 Q ok q
  show Go D0 (gam N_Lwell [rD (.int x), rD (.int k)]) F _
  have f := fmod_btw (a := x.fmod 2147483647 + 104729 * k) (b := 2147483647) (by decide)
  refine go_retNew (Rs := wlR (x * (if decide (10 ^ (18 : Int).toNat ≤ x) then 1 else 0)) ((x.fmod 2147483647 + 104729 * k).fmod 2147483647) 0) (ag_cons (eg_op (eg_var rfl) (eg_cb (ag_cons (eg_op (eg_var rfl) (eg_op eg_int eg_int (og_pow ⟨by decide, by decide, by decide⟩)) (og_I0 (R := rD (.bool (decide (10 ^ (18 : Int).toNat ≤ x)))) fun _ => .bl _)) ag_nil) cg_int1) (og_mul (.inr (by split <;> decide)))) (ag_cons (eg_op (eg_op (eg_op (eg_var rfl) eg_int (og_mod (by decide))) (eg_op eg_int (eg_var rfl) (og_mul (.inl ⟨by decide, by decide⟩))) og_add) eg_int (og_mod (by decide))) (ag_cons eg_int ag_nil))) (by simp) fun p D H e hd => q (.ref p) D H p e trivial (Hd.wlClose hd ⟨by omega, by omega, by omega, by omega⟩) rfl
end
end Fb

set_option maxHeartbeats 1000000
namespace Fb
open PySem PySem.Spec L2 Evl
open C8 (Cal Met Mak)
section
variable {P : Program} {w : World} {K : PySem.W.Frag} {mg : Str → Option Value} {base : Heap}
theorem pl_rows (S : List Row) : Pl 2 (rowsD S) := .list fun d hd => by
  obtain ⟨z, _, rfl⟩ := List.mem_map.mp hd
  exact Pl.tuple (n := 0) fun d hd => by
    obtain ⟨z, _, rfl⟩ := List.mem_map.mp hd
    exact .int
theorem tupI_inj {a b : Row} (h : tupI a = tupI b) : a = b := by
  have h' : a.map PyData.int = b.map PyData.int := PyData.tuple.inj h
  exact (List.map_inj_right fun x y e => PyData.int.inj e).mp h'
theorem rowsD_eq (S S' : List Row) : decide (S = S') = true ↔ rowsD S = rowsD S' := by
  rw [decide_eq_true_eq]
  constructor
  · rintro rfl; rfl
  · intro h
    have h' : S.map tupI = S'.map tupI := PyData.list.inj h
    exact (List.map_inj_right fun x y e => tupI_inj e).mp h'
abbrev sp_Lright : Sp := spX (κ := Unit) (fun _ : Addr => True) (fun p => [rV (.ref p)]) (fun p => [wWl p 0]) (fun _ _ => True) (fun _ _ => rD (.bool true)) (fun _ _ => [])
theorem c_Lright (W : Wo K mg base) : Cal P w K mg base 31 "_law_right" sp_Lright [] := by
  have c_Ldraw := c_Ldraw (P := P) (w := w) W
  have c_Lnames := c_Lnames (P := P) (w := w) W
  have c_Lpairs := c_Lpairs (P := P) (w := w) W
  have c_Tree := c_Tree (P := P) (w := w) W
  have c_Tree_columns := c_Tree_columns (P := P) (w := w) W
  have c_Tree_pairs := c_Tree_pairs (P := P) (w := w) W
  have c_Lbase := c_Lbase (P := P) (w := w) W
  have c_Lraw := c_Lraw (P := P) (w := w) W
  have c_Lsecond := c_Lsecond (P := P) (w := w) W
  have c_Lrows_of := c_Lrows_of (P := P) (w := w) W 9
  have c_fold_of := c_fold_of (P := P) (w := w) W
  have c_Fold_eq := c_Fold_eq (P := P) (w := w) W
  have c_Lno_fewer := c_Lno_fewer (P := P) (w := w) W
  have c_Fold_tops := c_Fold_tops (P := P) (w := w) W
  have c_Fold_bunches := c_Fold_bunches (P := P) (w := w) W
  have c_Lshuffled := c_Lshuffled (P := P) (w := w) W
  have c_Table := c_Table (P := P) (w := w) W
  have c_folded := c_folded (P := P) (w := w) W
  refine cal_of (f_Lright W) (g__law_right W) b_Lright sc_Lright (fun _ _ => rfl) fun cdv A' outer s H E hr => ⟨_, (pss_cons (ps_set (i := 1) sc_Lright.nd rfl (by first | exact Or.inl rfl | exact Or.inr rfl) (C8.pe_c c_Lnames hr (by first | decide | omega) rfl (pa_cons (pv 0) (pa_cons (pe_op op_add pe_int (C8.pe_c c_Ldraw hr (by first | decide | omega) rfl (pa_cons (pv 0) (pa_cons pe_int pa_nil)))) pa_nil))))
    (pss_cons (ps_set (i := 2) sc_Lright.nd rfl (by first | exact Or.inl rfl | exact Or.inr rfl) (C8.pe_mk c_Tree hr (by decide) rfl (pa_cons (C8.pe_c c_Lpairs hr (by first | decide | omega) rfl (pa_cons (pv 0) (pa_cons (pv 1) pa_nil))) pa_nil)))
    (pss_cons (ps_set (i := 3) sc_Lright.nd rfl (by first | exact Or.inl rfl | exact Or.inr rfl) (C8.pe_mt0 c_Tree_columns hr (by decide) (pv 2)))
    (pss_cons (ps_set (i := 4) sc_Lright.nd rfl (by first | exact Or.inl rfl | exact Or.inr rfl) (C8.pe_c c_Lbase hr (by first | decide | omega) rfl (pa_cons (pv 0) pa_nil)))
    (pss_cons (ps_asg (C8.pe_c c_Lraw hr (by first | decide | omega) rfl (pa_cons (pv 0) (pa_cons (C8.pe_mt0 c_Tree_pairs hr (by decide) (pv 2)) (pa_cons (pv 4) pa_nil)))) (pg_tupK K rfl (pgs_cons (pg_name (i := 7) sc_Lright.nd rfl (by first | exact Or.inl rfl | exact Or.inr rfl)) (pgs_cons (pg_name (i := 8) sc_Lright.nd rfl (by first | exact Or.inl rfl | exact Or.inr rfl)) pgs_nil))))
    (pss_cons (ps_asg (C8.pe_c c_Lsecond hr (by first | decide | omega) rfl (pa_cons (pv 0) (pa_cons (pv 2) (pa_cons (pv 7) (pa_cons (pv 8) (pa_cons (pv 4) pa_nil)))))) (pg_tupK K rfl (pgs_cons (pg_name (i := 9) sc_Lright.nd rfl (by first | exact Or.inl rfl | exact Or.inr rfl)) (pgs_cons (pg_name (i := 10) sc_Lright.nd rfl (by first | exact Or.inl rfl | exact Or.inr rfl)) pgs_nil))))
    (pss_cons (ps_set (i := 5) sc_Lright.nd rfl (by first | exact Or.inl rfl | exact Or.inr rfl) (C8.pe_c c_Lrows_of hr (by first | decide | omega) rfl (pa_cons (pv 7) (pa_cons (pv 8) pa_nil))))
    (pss_cons (ps_set (i := 6) sc_Lright.nd rfl (by first | exact Or.inl rfl | exact Or.inr rfl) (C8.pe_c c_Lrows_of hr (by first | decide | omega) rfl (pa_cons (pv 9) (pa_cons (pv 10) pa_nil))))
    (pss_cons (ps_par (i := 11) (j := 12) rfl sc_Lright.nd rfl rfl (by decide) rfl rfl (pa_cons (C8.pe_c c_fold_of hr (by first | decide | omega) rfl (pa_cons (pv 2) (pa_cons (pv 7) (pa_cons (pv 8) pa_nil)))) (pa_cons (C8.pe_c c_fold_of hr (by first | decide | omega) rfl (pa_cons (pv 2) (pa_cons (pv 9) (pa_cons (pv 10) pa_nil)))) pa_nil)) rfl)
    (pss_cons (ps_if (PW.pt (pw_or (pt_cmpR op_ne (pe_cmpR (opE c_Fold_eq (hr.mono (by decide))) (pv 11) (pv 12) (nomark _)) (pe_cmpR (kOp K rEqD (op_eqD hr.units)) (pv 5) (pv 6) (nomark _)) (nomark _)) (pw_or1 (pt_cmpR op_eq (pe_cmpR (opNE c_Fold_eq (ic_Fold W) (ne_Fold W) (hr.mono (by decide))) (pv 11) (pv 12) (nomark _)) (pe_cmpR (kOp K rEqD (op_eqD hr.units)) (pv 5) (pv 6) (nomark _)) (nomark _))))) (pss_one (ps_ret pe_bl)) pss_nil)
    (pss_cons (ps_if (PW.pt (pw_or (pt_not (pt_val (C8.pe_c c_Lno_fewer hr (by first | decide | omega) rfl (pa_cons (pv 3) (pa_cons (pv 7) (pa_cons (pv 11) pa_nil)))))) (pw_or1 (pt_not (pt_val (C8.pe_c c_Lno_fewer hr (by first | decide | omega) rfl (pa_cons (pv 3) (pa_cons (pv 9) (pa_cons (pv 12) pa_nil))))))))) (pss_one (ps_ret pe_bl)) pss_nil)
    (pss_cons (ps_if (pt_cmp (pc_notN (C8.pe_mt0 c_Fold_tops hr (by decide) (pv 11)))) (pss_cons (ps_asg (C8.pe_c c_Lshuffled hr (by first | decide | omega) rfl (pa_cons (pv 0) (pa_cons (C8.pe_mt0 c_Fold_bunches hr (by decide) (pv 11)) (pa_cons (C8.pe_mt0 c_Fold_tops hr (by decide) (pv 11)) pa_nil)))) (pg_tupK K rfl (pgs_cons (pg_name (i := 13) sc_Lright.nd rfl (by first | exact Or.inl rfl | exact Or.inr rfl)) (pgs_cons (pg_name (i := 14) sc_Lright.nd rfl (by first | exact Or.inl rfl | exact Or.inr rfl)) pgs_nil))))
    (pss_one (ps_if (pt_cmpR (opNE c_Fold_eq (ic_Fold W) (ne_Fold W) (hr.mono (by decide))) (C8.pe_c c_fold_of hr (by first | decide | omega) rfl (pa_cons (pv 2) (pa_cons (pv 13) (pa_cons (pv 14) pa_nil)))) (pv 11) (nomark _)) (pss_one (ps_ret pe_bl)) pss_nil))) pss_nil)
    (pss_cons (ps_if (pt_cmpR op_gt (pe_callB (kCall K rLenV call_len) (by rfl) (n_len W) PySem.boot_len (pa_cons (pv 5) pa_nil)) pe_int (nomark _)) (pss_one (ps_ret pe_bl)) pss_nil)
    (pss_one (ps_ret (pe_cmpR (opETup c_Fold_eq (hr.mono (by decide))) (C8.pe_c c_folded hr (by first | decide | omega) rfl (pa_cons (C8.pe_mk c_Table hr (by decide) rfl (pa_cons (pv 3) (pa_cons (pe_revL (pv 5)) pa_nil))) (pa_cons (pv 2) pa_nil))) (pe_tup (pa_cons pe_str (pa_cons (pv 11) pa_nil))) (nomark _))))))))))))))))), ?_⟩
  intro p F D0 Q _ q
  show Go D0 (gam N_Lright [rV (.ref p)]) (wWl p 0 :: F) _
  refine sq_asgX (xg_call (F := F) (p, 1) (by show 1 < 900000; decide) (ag_cons (eg_var rfl) (ag_cons (eg_op (R := rCnt) eg_int (eg_draw (t := 5) ⟨by decide, by decide, by decide⟩ (ag_cons (eg_var rfl) (ag_cons eg_int ag_nil))) (og_Xr fun j hj => og_add.imp fun D v h => ⟨_, by omega, h⟩)) ag_nil)) (fun _ => .nil) rfl) fun zs hzs => ?_
  have pk : ∀ ps : Prs Str, ps.map (·.1) = zs ∧ PairsOk ps.reverse → PsOk ps := fun ps h => ⟨h.2, fun c hc => hzs.ok c (h.1 ▸ hc), by
    have h1 := congrArg List.length h.1
    rw [List.length_map] at h1
    have := hzs.hi
    omega⟩
  refine sq_asgX (eg_makeX (ξ := Prs Str) (okx := fun ps => ps.map (·.1) = zs ∧ PairsOk ps.reverse) (As := fun ps => [rD (.list (ps.map pairD))]) (L1 := wWl p 17 :: F) (F := wWl p 17 :: F) (flds := fun ps _ => treeF P w ps (build ps.reverse)) (Lr := fun _ => wWl p 17 :: F) (fun ps => ps) (fun ps x dx h => pk ps h) (agx_one (xg_call (F := F) (p, 12, zs) ⟨by show 12 < 900000; decide, hzs⟩ (ag_cons (eg_var rfl) (ag_cons (eg_var rfl) ag_nil)) (fun _ => .nil) rfl)) (fun _ _ _ => rfl) (fun _ _ _ => rfl) (fun _ _ _ _ _ => rfl) (fun _ _ _ _ => rfl)) fun ⟨ps, _⟩ hps => ?_
  simp only at hps
  have pso := pk ps hps
  have tr := pso.tree
  have ol : (build ps.reverse).order.length = zs.length := by
    have := (List.perm_ext_iff_of_nodup tr.sh.nd tr.nd).mpr tr.sh.mem
    rw [this.length_eq, hps.1]
  have w5 : (build ps.reverse).order.length ≤ 5 := by have := hzs.hi; omega
  have ne : (build ps.reverse).order ≠ [] := fun e => by
    rw [e] at ol
    have := hzs.lo
    simp at ol
    omega
  show Go D0 [some (rV (.ref p)), some (rD (strL zs)), some (rTree P w K ps (build ps.reverse)), none, none, none, none, none, none, none, none, none, none, none, none] (wWl p 17 :: F) _
  generalize build ps.reverse = T at tr w5 ne ⊢
  have few := tr.few
  have td : T.depth ≤ 5 := by
    have h1 := Fo.depth_le T
    have h2 := Fo.order_length T
    omega
  have tw : T.width ≤ 5 := by rw [← Fo.order_length]; exact w5
  have lt : LtOk ps T := ⟨tr, w5, ne⟩
  refine sq_asg (eg_methP (ps, T, ()) ⟨tr, trivial⟩ (eg_var rfl) (ins_obj rfl) ag_nil (fun _ => .nil) rfl) ?_
  refine sq_asg (R := rAny) (L' := wWl p 21 :: F) ((xg_call (F := F) (p, 17) (by show 17 < 900000; decide) (ag_cons (eg_var rfl) ag_nil) (fun _ => .nil) rfl).eg _ _ fun _ _ => ⟨fun _ _ r => r, rfl⟩) ?_
  refine go_X (i := 4) rfl fun ba _ => ?_
  refine sq_asgXT (xg_call (F := F) (p, 21, T, ba) ⟨by show 21 < 700000; decide, tr.sh.nd, few⟩ (ag_cons (eg_var rfl) (ag_cons (eg_methP (ps, T, ()) ⟨tr, trivial⟩ (eg_var rfl) (ins_obj rfl) ag_nil (fun _ => .nil) rfl) (ag_cons (eg_var rfl) ag_nil))) (fun _ => .nil) rfl) (fun x => tgt_tup (tgs_cons tgt_name (tgs_cons tgt_name tgs_nil)) rfl) fun ⟨bs, ns⟩ ft => ?_
  simp only at ft
  show Go D0 [some (rV (.ref p)), some (rD (strL zs)), some (rTree P w K ps T), some (rD (strL T.order)), some (rD (.int ba)), none, none, some (rD (bunsD bs)), some (rD (prtD ns)), none, none, none, none, none, none] (wWl p 2021 :: F) _
  refine sq_asgXT (xg_call (F := F) (p, 2021, ps, T, bs, ns, ba) ⟨by show 2021 < 600000; decide, lt, ft⟩ (ag_cons (eg_var rfl) (ag_cons (eg_var rfl) (ag_cons (eg_var rfl) (ag_cons (eg_var rfl) (ag_cons (eg_var rfl) ag_nil))))) (fun _ => .nil) rfl) (fun x => tgt_tup (tgs_cons tgt_name (tgs_cons tgt_name tgs_nil)) rfl) fun ⟨bs', ns'⟩ ft' => ?_
  simp only at ft'
  refine sq_asg (eg_callP (bs, T, ns) ⟨ft.pt, ft.h3, by show T.depth < 9; omega, tw⟩ (ag_cons (eg_var rfl) (ag_cons (eg_var rfl) ag_nil)) rfl) ?_
  refine sq_asg (eg_callP (bs', T, ns') ⟨ft'.pt, ft'.h3, by show T.depth < 9; omega, tw⟩ (ag_cons (eg_var rfl) (ag_cons (eg_var rfl) ag_nil)) rfl) ?_
  have e1 := (foldOf_sem (n := 8) tr.sh.nd ft.wf ft.pt tr.dep).1
  have e2 := (foldOf_sem (n := 8) tr.sh.nd ft'.wf ft'.pt tr.dep).1
  refine sq_par (R1 := rFold P w K ps T (canon 8 T (rowsF bs T ns)).1 (canon 8 T (rowsF bs T ns)).2) (R2 := rFold P w K ps T (canon 8 T (rowsF bs' T ns')).1 (canon 8 T (rowsF bs' T ns')).2) (ag_cons (Eg.imp (eg_callP (ps, T, bs, ns) (ft.fof tr) (ag_cons (eg_var rfl) (ag_cons (eg_var rfl) (ag_cons (eg_var rfl) ag_nil))) rfl) fun D v h => by rw [← e1]; exact h) (ag_cons (Eg.imp (eg_callP (ps, T, bs', ns') (ft'.fof tr) (ag_cons (eg_var rfl) (ag_cons (eg_var rfl) (ag_cons (eg_var rfl) ag_nil))) rfl) fun D v h => by rw [← e2]; exact h) ag_nil)) ?_
  have g1 := rows_good bs ft.pt
  have g2 := rows_good bs' ft'.pt
  have k1 := canon_ok tr.sh.nd tr.dep ft
  have k2 := canon_ok tr.sh.nd tr.dep ft'
  have l1 := least tr.sh.nd ft.pt tr.dep
  have l2 := least tr.sh.nd ft'.pt tr.dep
  have n1 := rowsF_length ft.h3 T ns
  have n1' : (rowsF bs T ns).length ≤ 243 := Nat.le_trans n1 (pow_le5 tw)
  have w1 := rowsF_width ft.pt
  have fs : ∀ S, Good T S → foldedP 8 T S = canon 8 T S := fun S g => (folded_sem (n := 8) tr.sh.nd g tr.dep).1
  have ci : canon 8 T (rowsF bs T ns) = canon 8 T (rowsF bs' T ns') → rowsF bs T ns = rowsF bs' T ns' := canon_inj g1 g2 tr.dep
  show Go D0 [some (rV (.ref p)), some (rD (strL zs)), some (rTree P w K ps T), some (rD (strL T.order)), some (rD (.int ba)), some (rD (rowsD (rowsF bs T ns))), some (rD (rowsD (rowsF bs' T ns'))), some (rD (bunsD bs)), some (rD (prtD ns)), some (rD (bunsD bs')), some (rD (prtD ns')), some (rFold P w K ps T (canon 8 T (rowsF bs T ns)).1 (canon 8 T (rowsF bs T ns)).2), some (rFold P w K ps T (canon 8 T (rowsF bs' T ns')).1 (canon 8 T (rowsF bs' T ns')).2), none, none] (wWl p 6021 :: F) _
  clear e1 e2 n1
  generalize rowsF bs T ns = S at g1 k1 l1 n1' w1 ci ⊢
  generalize rowsF bs' T ns' = S' at g2 k2 l2 ci ⊢
  have okc : ∀ (x y : List (Bun Str) × Option (List Nat)), (∀ b ∈ x.1, b.1 ∈ T.order) → (∀ b ∈ y.1, b.1 ∈ T.order) → okE (ps, T, x, y) := fun x y h1 h2 => ⟨tr, fun b hb => tr.ok _ (h1 b hb), fun b hb => tr.ok _ (h2 b hb)⟩
  have ec : decide (canon 8 T S = canon 8 T S') = decide (S = S') := by
    by_cases e : S = S'
    · rw [e]; simp
    · rw [decide_eq_false e, decide_eq_false fun h => e (ci h)]
  refine sq_no (Tg.to (tg_or (tg_test (eg_op (eg_op (eg_var rfl) (eg_var rfl) (og_own (ps, T, canon 8 T S, canon 8 T S') (okc _ _ k1.nm k2.nm) rfl isins_obj isins_obj)) (eg_op (eg_var rfl) (eg_var rfl) (og_eqP (b := decide (S = S')) (pl_rows S) (pl_rows S') (by omega) (by omega) (rowsD_eq S S'))) og_neB)) fun _ => tg_test (eg_op (eg_op (eg_var rfl) (eg_var rfl) (og_ownN (ps, T, canon 8 T S, canon 8 T S') (okc _ _ k1.nm k2.nm) rfl isins_obj isins_obj)) (eg_op (eg_var rfl) (eg_var rfl) (og_eqP (b := decide (S = S')) (pl_rows S) (pl_rows S') (by omega) (by omega) (rowsD_eq S S'))) og_eqB)) (by
      simp only [ec]
      cases decide (S = S') <;> rfl)) ?_
  refine sq_no (Tg.to (tg_or (tg_not (tg_B (eg_callP (ps, T, T.order, bs, (canon 8 T S).1, (canon 8 T S).2) ⟨fun c _ => l1 c, by have := ft.len; show bs.length ≤ 100000; omega, by have := k1.len; show (canon 8 T S).1.length ≤ 100000; omega, by show T.order.length ≤ 100000; omega⟩ (ag_cons (eg_var rfl) (ag_cons (eg_var rfl) (ag_cons (eg_var rfl) ag_nil))) rfl))) fun _ => tg_not (tg_B (eg_callP (ps, T, T.order, bs', (canon 8 T S').1, (canon 8 T S').2) ⟨fun c _ => l2 c, by have := ft'.len; show bs'.length ≤ 100000; omega, by have := k2.len; show (canon 8 T S').1.length ≤ 100000; omega, by show T.order.length ≤ 100000; omega⟩ (ag_cons (eg_var rfl) (ag_cons (eg_var rfl) (ag_cons (eg_var rfl) ag_nil))) rfl))) rfl) ?_
  have hf : S ≠ [] → foldedP 8 T S = canon 8 T S := fun h => fs S (g1.resolve_left h)
  have hf0 : foldedP 8 T S = canon 8 T S := by
    by_cases h : S = []
    · rw [h]; rfl
    · exact hf h
  generalize hcc : canon 8 T S = c at k1 okc hf0 ⊢
  refine sq_ifJ (ι := Unit) (ok := fun _ => True) (b := !decide (c.2 = none)) (Γj := [some (rV (.ref p)), some (rD (strL zs)), some (rTree P w K ps T), some (rD (strL T.order)), some (rD (.int ba)), some (rD (rowsD S)), none, none, none, none, none, some (rFold P w K ps T c.1 c.2), none, none, none]) (Lj := fun _ => wWl p 7021 :: F)
    (tg_test (eg_notN (eg_methP (ps, T, c.1, c.2) trivial (eg_var rfl) (ins_obj rfl) ag_nil (fun _ => .nil) rfl) fun D v hv => ?_)) (fun e N kN => ?_) (fun e N kN => ?_) fun _ _ => ?_
  · cases hc : c.2 with
    | none =>
      have hv' : (rD (topD c.2)).r D v := hv
      rw [hc] at hv'
      rw [non_of hv']; rfl
    | some ts =>
      have hv' : (rD (topD c.2)).r D v := hv
      rw [hc] at hv'
      obtain ⟨a, vs, rfl, _⟩ := tup_rD hv'
      rfl
  · obtain ⟨ts, hc⟩ : ∃ ts, c.2 = some ts := by
      cases hc : c.2 with
      | none => rw [hc] at e; simp at e
      | some ts => exact ⟨ts, rfl⟩
    obtain ⟨fc, rc⟩ := k1.ft ts hc
    refine sq_asgXT (xg_call (F := F) (p, 6021, false, c.1, ts) (fc.sh few (by show 6021 < 900000; decide)) (ag_cons (eg_var rfl) (ag_cons (eg_methP (ps, T, c.1, c.2) (by have := k1.len; show c.1.length ≤ 100000; omega) (eg_var rfl) (ins_obj rfl) ag_nil (fun _ => .nil) rfl) (ag_cons (Eg.imp (eg_methP (ps, T, c.1, c.2) trivial (eg_var rfl) (ins_obj rfl) ag_nil (fun _ => .nil) rfl) fun D v hv => by
      have hv' : (rD (topD c.2)).r D v := hv
      rw [hc] at hv'
      have := tup_rD hv'
      rw [List.map_map] at this
      exact this) ag_nil))) (fun _ => .nil) rfl) (fun x => tgt_tup (tgs_cons tgt_name (tgs_cons tgt_name tgs_nil)) rfl) fun o po => ?_
    have fr := fc.ren po
    have e3 := (foldOf_sem (n := 8) tr.sh.nd fr.wf fr.pt tr.dep).1
    rw [(ren_part po fc.pt).2, rc, hcc] at e3
    show Go D0 [some (rV (.ref p)), some (rD (strL zs)), some (rTree P w K ps T), some (rD (strL T.order)), some (rD (.int ba)), some (rD (rowsD S)), some (rD (rowsD S')), some (rD (bunsD bs)), some (rD (prtD ns)), some (rD (bunsD bs')), some (rD (prtD ns')), some (rFold P w K ps T c.1 c.2), some (rFold P w K ps T (canon 8 T S').1 (canon 8 T S').2), some (rD (bunsD (renB c.1 o))), some (rD (prtD (ts.map (ix o))))] (wWl p 7021 :: F) _
    refine go_no (Tg.to (tg_test (eg_op (Eg.imp (R' := rFold P w K ps T c.1 c.2) (eg_callP (ps, T, renB c.1 o, ts.map (ix o)) (fr.fof tr) (ag_cons (eg_var rfl) (ag_cons (eg_var rfl) (ag_cons (eg_var rfl) ag_nil))) rfl) fun D v h => by rw [← e3]; exact h) (eg_var rfl) (og_ownN (ps, T, c, c) (okc _ _ k1.nm k1.nm) rfl isins_obj isins_obj))) (by simp)) ((kN () trivial).less (less_of rfl fun i h => match i with | 0 => .inr rfl | 1 => .inr rfl | 2 => .inr rfl | 3 => .inr rfl | 4 => .inr rfl | 5 => .inr rfl | 6 => .inl rfl | 7 => .inl rfl | 8 => .inl rfl | 9 => .inl rfl | 10 => .inl rfl | 11 => .inr rfl | 12 => .inl rfl | 13 => .inl rfl | 14 => .inl rfl | i + 15 => absurd h (by show ¬ i + 15 < 15; omega)))
  · exact go_next (Go.pre (L' := wWl p 7021 :: F) (fun D H h => ⟨D, Ex.refl D, h.wlMono (by decide)⟩) ((kN () trivial).less (less_of rfl fun i h => match i with | 0 => .inr rfl | 1 => .inr rfl | 2 => .inr rfl | 3 => .inr rfl | 4 => .inr rfl | 5 => .inr rfl | 6 => .inl rfl | 7 => .inl rfl | 8 => .inl rfl | 9 => .inl rfl | 10 => .inl rfl | 11 => .inr rfl | 12 => .inl rfl | 13 => .inl rfl | 14 => .inl rfl | i + 15 => absurd h (by show ¬ i + 15 < 15; omega))))
  · refine sq_if (b := decide (40 < S.length)) (Tg.to (tg_test (eg_op (eg_cb (ag_cons (eg_var rfl) ag_nil) cg_lenD) eg_int og_cmp)) (by rw [List.length_map]; exact decide_eq_decide.mpr (by omega))) (fun _ => go_ret eg_bl fun v D H e hd r => q v D H () e trivial hd.tail r) (fun e => ?_)
    have e40 : ¬ 40 < S.length := of_decide_eq_false e
    have co : ColsOk T.order := ⟨few, tr.ok, tr.sh.nd⟩
    have sl : ∀ r ∈ S, r.length = T.order.length := fun r hr => by rw [w1 r hr, Fo.order_length]
    have so : SortedR S := by
      rcases g1 with z | g
      · rw [z]; exact .nil
      · exact g.sorted
    have mx : MixOk ps T S := ⟨tr, ne, g1, by omega⟩
    have fd : FdOk ps T S := ⟨mx, ⟨co, ne, sl, by omega, so, fun x => Iff.rfl⟩, by omega⟩
    have tb : TblOk T.order S.reverse S := ⟨co, ne, fun r hr => sl r (List.mem_reverse.mp hr), by rw [List.length_reverse]; omega, so, fun x => List.mem_reverse.symm⟩
    refine go_ret (eg_op (Eg.imp (R' := rTup [rD (.str "fold"), rFold P w K ps T c.1 c.2]) (eg_callP (ps, T, S) fd (ag_cons ((eg_make (F := wWl p 7021 :: F) (As := [rD (strL T.order), rD (rowsD S.reverse)]) (Ds := []) (flds := fun _ => tabF T.order S) (Lr := fun _ => wWl p 7021 :: F) (T.order, S.reverse, S) (fun x dx => tb) (ag_cons (eg_var rfl) (ag_cons (Eg.to (eg_revL (eg_var rfl)) (by rw [← List.map_reverse])) ag_nil)) (fun _ => .nil) (fun _ _ => rfl) (fun _ _ => rfl) (fun _ _ _ _ => rfl) fun _ _ _ => rfl).eg (rTable K T.order S) (wWl p 7021 :: F) fun _ _ => ⟨fun _ _ r => r, rfl⟩) (ag_cons (eg_var rfl) ag_nil)) rfl) fun D v h => by rw [← hf0]; exact h) (eg_tup (ag_cons eg_str (ag_cons (eg_var rfl) ag_nil)) (by simp)) (og_eqTup (ps, T, c, c) (okc _ _ k1.nm k1.nm) rfl isins_obj isins_obj (by simp))) fun v D H e hd r => q v D H () e trivial hd.tail r
end
end Fb

set_option maxHeartbeats 400000
namespace Fb
open PySem PySem.Spec L2 Evl
open C8 (Cal Met Mak)
theorem SqL.grow {K : PySem.W.Frag} {D D' : Hp} {a : Addr} {xs : List V} (e : Ex D D') (h : SqL K D a xs) : SqL K D' a xs := by
  rcases h with (h | ⟨o, h⟩) | h
  · exact .inl (.inl (e _ _ h))
  · exact .inl (.inr ⟨o, e _ _ h⟩)
  · exact .inr h
/-- the script: a list that the caller holds -/
def rScr (K : PySem.W.Frag) (ns : List Int) : Rp := ⟨fun D v => ∃ a, v = .ref a ∧ SqL K D a (ns.map V.int), fun e ⟨a, h1, h2⟩ => ⟨a, h1, SqL.grow e h2⟩⟩
section
variable {K : PySem.W.Frag} {Γ : Gm} {L : List Wd} {te : TE} {tlo thi : TO} {lo hi : Option Int} {ns : List Int}
theorem eg_slScr (h : Eg te Γ L (rScr K ns) L) (h1 : Tog tlo Γ L lo L) (h2 : Tog thi Γ L hi L) : Eg (tSl (rSlL K) te tlo thi) Γ L (rD (.list ((cutR ns lo hi).map .int))) L := fun σ D H g hd Q q =>
  h σ D H g hd _ fun x D1 H1 e1 d1 r1 => h1 σ D1 H1 (g.up e1) d1 _ fun D2 H2 e2 d2 => h2 σ D2 H2 ((g.up e1).up e2) d2 _ fun D3 H3 e3 d3 => by
    obtain ⟨a, rfl, hs⟩ := (rScr K ns).m (e2.trans e3) r1
    have hc : cutV (ns.map V.int) lo hi = (cutR ns lo hi).map V.int := by
      rw [cutR_map]; rfl
    exact ⟨a, _, rfl, SqL.grow d3.ex hs, fun p hp => q _ _ _ ((((e1.trans e2).trans e3)).trans (d3.exnew hp)) (d3.alloc hp) (rD_lst ⟨p, _, rfl, upd_same, by rw [hc]; exact ints_allR _⟩)⟩
end
section
variable {P : Program} {w : World} {K : PySem.W.Frag} {mg : Str → Option Value} {base : Heap}
abbrev sp_law (K : PySem.W.Frag) : Sp := spP (fun ns : List Int => ns.length ≤ 63) (fun ns => [rScr K ns]) fun _ => rD (.bool true)
theorem ok_law (W : Wo K mg base) {fd : FuncData} (F0 : FunD K "law" "law" (defArgs s_law) (defBody s_law) (defScope s_law) [] [] (He.ga K "law") fd) : FnOk P w K mg base C8.CX0 32 (He.ga K "law") fd P_law (sp_law K) := by
  have c_Lright := c_Lright (P := P) (w := w) W
  have c_Lwell := c_Lwell (P := P) (w := w) W
  refine fn_X F0 sc_law (fun _ _ => rfl) fun cdv A' outer s H E hr => ⟨_, (pss_cons (ps_for PassesOwn.never rfl (pi_enumK K rfl (n_enumerate W) (pa_cons (pe_op op_cat (pe_lst (pa_cons pe_int pa_nil)) (pe_slice (kSl K rSlL sl_list) (pv 0) po_none (po_some pe_int))) pa_nil)) (pg_tupK K rfl (pgs_cons (pg_name (i := 1) sc_law.nd rfl (by first | exact Or.inl rfl | exact Or.inr rfl)) (pgs_cons (pg_name (i := 2) sc_law.nd rfl (by first | exact Or.inl rfl | exact Or.inr rfl)) pgs_nil))) (pss_one (ps_if (pt_not (pt_val (C8.pe_c c_Lright hr (by first | decide | omega) rfl (pa_cons (C8.pe_c c_Lwell hr (by first | decide | omega) rfl (pa_cons (pv 2) (pa_cons (pv 1) pa_nil))) pa_nil)))) (pss_one (ps_ret pe_bl)) pss_nil)))
    (pss_one (ps_ret pe_bl))), ?_⟩
  intro ns F D0 Q hl q
  show Go D0 (gam N_law [rScr K ns]) F _
  refine sq_for (ι := Unit) (ig_enumX (xs := 0 :: cutR ns none (some 3)) (f := .int) (ag_cons (Eg.to (eg_op (Eg.lst (ds := [.int 0]) (eg_lst (ag_cons eg_int ag_nil) (by simp))) (eg_slScr (eg_var rfl) tog_none (tog_some eg_int)) (og_cat (by
    rw [List.length_map]
    unfold cutR
    rw [List.length_take, List.length_drop]
    simp
    omega))) rfl) ag_nil)) (fun _ _ => True) (fun _ _ => [some (rScr K ns), none, none]) (fun _ _ => F) ⟨(), trivial, Less.refl _, rfl⟩ (fun _ _ _ _ => trivial) ?_ ?_
  · rintro i _ R D1 N hi e1 _ ⟨x, hx, rfl⟩ kN
    refine ⟨_, _, tgt_tup (tgs_cons tgt_name (tgs_cons tgt_name tgs_nil)) rfl, ?_⟩
    refine go_no (Tg.to (tg_not (tg_B (Xg.eg (xg_callX (ξ := Addr) (okx := fun _ => True) (As := fun q => [rV (.ref q)]) (Lx := fun q => wWl q 0 :: F) (F := F) (agx_one (xg_call (F := F) (x, (i : Int)) trivial (ag_cons (eg_var rfl) (ag_cons (eg_var rfl) ag_nil)) (fun _ => .nil) rfl)) (fun q => q) (fun _ _ => trivial) (fun _ _ => rfl) fun _ => rfl) (rD (.bool true)) F fun _ _ => ⟨fun _ _ r => r, rfl⟩))) rfl) ((kN () trivial).less (less_of rfl fun i h => match i with | 0 => .inr rfl | 1 => .inl rfl | 2 => .inl rfl | i + 3 => absurd h (by show ¬ i + 3 < 3; omega)))
  · intro _ _
    exact go_ret eg_bl fun v D H e hd r => q v D H () e trivial hd r
end
end Fb

set_option maxHeartbeats 0
/-! The head's run, the facts by names, the law. -/
namespace Fb
section
open PySem PySem.Spec PyProof.Rows L2
theorem facts {P : Program} {w : World} {K : PySem.W.Frag} {h : Heap} {mg : Str → Option Value} {f : Addr} (X : K.In h) (G : h.Ns mainGlobals mg) (hfa : mg ("law" : Str) = some (.ref f)) (c : He.SaysD fa fn K) (x : extra K = true) :
    ∃ fd : FuncData, (∀ (s : Shared) (v : Value), BindsTo s fd ⟨[v], []⟩ [("_law_script", v)]) ∧ ∀ base : Heap, K.In base → base.Ns mainGlobals mg → FnOk P w K mg base C8.CX0 32 f fd ["_law_script"] (sp_law K) := by
  obtain ⟨fd, F⟩ := c.def_ 56 (d := d_law) rfl
  have e := hfa.symm.trans (He.glo_ok X G (c.fact 36 (f := .glo "law") rfl))
  cases e
  have b := FunD.bindsA (ps := ["_law_script"]) F fun _ _ _ _ _ _ us hl => match us, hl with | [_], _ => rfl
  exact ⟨fd, fun s v => b s [v] rfl, fun base X' G' => ok_law ⟨c, X', G', x⟩ F⟩
end
end Fb
open PySem PySem.W PySem.Calls PyProof.Rows
theorem PySem.Challenge.cw_foldbough_k25_whole_least_of_all_holds : PySem.Challenge.rw_foldbough_k25_whole_least_of_all.Holds := by
  w_on; o_law
  refine HandSHeadRun.head_any (r := OpenLaw.row PySem.Challenge.rw_foldbough_k25_whole_least_of_all) (q := view (OpenLaw.row PySem.Challenge.rw_foldbough_k25_whole_least_of_all).prog [62]) (H := Fb.hk) (ob := Fb.ob) (M := 6000) (loose := Fb.names) (d := HandSHeadRun.topDef (OpenLaw.row PySem.Challenge.rw_foldbough_k25_whole_least_of_all).prog 62) (kwd := []) Fb.ob_eq
    (by kernel_rfl) (fun s => by kernel_rfl) Fb.run (by kernel_rfl) (by kernel_rfl) (by kernel_rfl) (by rfl) (by first | assumption | decide +kernel) (by decide +kernel) ⟨rfl, rfl, rfl, rfl, rfl, by decide +kernel⟩ ?hw ?hc
  case hw => w_witness2
  case hc =>
    refine L2.walk_ofE (l := PySem.Challenge.rw_foldbough_k25_whole_least_of_all) (n := 63) (k := 32) (x := "_law_script") (CX := C8.CX0) rfl (by decide) (by kernel_rfl) ⟨rfl, by decide, by decide⟩ ?F (fun _ _ _ _ z => z)
    intro w mg fa h Y G hmg0
    obtain ⟨K, KX, c, x⟩ := Y
    have hmg : mg ("law" : PySem.Str) = some (.ref fa) := by
      have e : (HandSHeadRun.topDef (OpenLaw.row PySem.Challenge.rw_foldbough_k25_whole_least_of_all).prog 62).name = ("law" : PySem.Str) := by kernel_rfl
      rw [← e]
      exact hmg0
    obtain ⟨fd, hb, hF⟩ := Fb.facts (P := (PySem.Challenge.rw_foldbough_k25_whole_least_of_all).prog) (w := w) KX G hmg c x
    refine ⟨K, fd, Fb.sp_law K, KX, hb, fun H a ns hl _ hS => ?_, hF⟩
    refine ⟨ns, [], H, hl, ⟨fun _ _ h => h, (fun i w h => nomatch h), fun i j w w' _ h => nomatch h⟩, .cons ⟨a, rfl, hS⟩ .nil, fun v D' H' x e _ hd r => ?_⟩
    exact Fb.bl_of r

