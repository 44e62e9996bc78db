import PyProof.Rows.All
import Wide.All
import OpenK.AllK
import Wide.FinOn
import KE.KStateDown
import Lean
import HandS.ForMost
import HandS.Walk
import HandS.IsInst
import HandS.Flow
import HandS.TupAny
import HandS.Replace
import HandS.Zip
import HandS.Codes
import HandS.SetFor
import HandS.Style
import HandS.Conv
import HandS.Text
import HandS.TupLe
import HandS.WordsExc
import HandS.Defaults
import HandS.Head0
import HandS.Head1
import HandS.Head2
import HandS.HeadEnd
import HandS.HeadHook1
import HandS.HeadHook2
import HandS.Deep
import HandS.RevTup
import HandS.Rev
import HandS.DictComp
import HandS.Strs
import HandS.SetKeys
import HandS.SetBool
import HandS.TryOnly
import HandS.TryMany
import HandS.ExcOwn
import HandS.ExcInit
import HandS.ExcBuiltin
import HandS.MakeKw
import HandS.MakeKwOnly
import HandS.RaiseOp
import HandS.SortKw
import HandS.Iter
import HandS.Exc
import HandS.ReCall
import KE.GoesZip
import KE.GoesMore
import KE.GoesEnumKw
import KE.SortData
import KE.SortKeyHeap
import KE.DataCmp
import KE.DataFind
import KE.DataMinMax
import KE.DatumOrd
import KE.KUnpackStar
import PySem.Challenge.RW_whatindex_k15_heaps
set_option Elab.async false
set_option linter.all false
set_option maxRecDepth 100000
set_option maxHeartbeats 4000000
namespace He
open PySem PySem.Spec PyProof.Rows L2
/-- the default of a keyword-only parameter, if it is an object -/
def kwAt (f : Str × Option Str) (x : Str) (K : PySem.W.Frag) : Addr := match K.lookup (fAd K f) with
  | some ⟨_, _, .func fd, _⟩ => (match fd.kwdefaults with
    | .ref D => (match PySem.W.nsIn K D x with
      | some (some (.ref a)) => a
      | _ => 0)
    | _ => 0)
  | _ => 0
/-- a tuple of these stands at a -/
def tupAtB (K : PySem.W.Frag) (a : Addr) (vs : List Dv) : Bool := match K.lookup a with
  | some ⟨.type c, _, .seq its _, _⟩ => decide (c = "tuple") && (decide (its.size ≤ sizeLine) && relAll (vs.map (Dv.v K)) its.toList)
  | _ => false
theorem tupAtB_ok {K : PySem.W.Frag} {a : Addr} {vs : List Dv} (h : tupAtB K a vs = true) (H : Hp) : SqT K H a (vs.map (Dv.v K)) := by
  unfold tupAtB at h
  cases q : K.lookup a with
  | none => rw [q] at h; cases h
  | some o =>
    obtain ⟨oc, od, dt, osl⟩ := o
    rw [q] at h
    cases oc with
    | type c =>
      cases dt with
      | seq its n =>
        obtain ⟨h1, h2⟩ := ba (show (decide (c = "tuple") && (decide (its.size ≤ sizeLine) && relAll (vs.map (Dv.v K)) its.toList)) = true from h)
        obtain ⟨h3, h4⟩ := ba h2
        exact .inr ⟨_, its, n, q, congrArg Value.type (of_decide_eq_true h1), rfl, of_decide_eq_true h3, relAll_ok h4⟩
      | _ => cases h
    | _ => cases dt <;> cases h
abbrev AlB : Type := AlD × Bool
def obsB (fa : List Fa) (fn : List DefD) (ex : PySem.W.Frag → Bool) (K : PySem.W.Frag) : AlB := (obsD fa fn K, ex K)
def obsBG (n : Nat) (fa : List Fa) (fn : List DefD) (ex : PySem.W.Frag → Bool) (g : Addr → Option Obj) : AlB := obsB fa fn ex (frG g (asD g n))
structure SaysB (fa : List Fa) (fn : List DefD) (ex : PySem.W.Frag → Bool) (K : PySem.W.Frag) : Prop where
  d : SaysD fa fn K
  more : ex K = true
def hookB (n : Nat) (fa : List Fa) (fn : List DefD) (ex : PySem.W.Frag → Bool) : PySem.W.Hook where
  α := AlB
  obs := fun s => obsBG n fa fn ex s.heap.get?
  val := fun _ => (valD fn, true)
  says := fun _ h => ∃ K : PySem.W.Frag, K.In h ∧ SaysB fa fn ex K
  of := fun _ _ e => ⟨_, frG_in, congrArg (fun z : AlB => z.1) e, congrArg (fun z : AlB => z.2) e⟩
  keeps := fun _ _ _ ⟨K, hK, c⟩ k => ⟨K, PySem.W.Frag.In.keeps hK k, c⟩
theorem obsBG_eq {n : Nat} {fa : List Fa} {fn : List DefD} {ex : PySem.W.Frag → Bool} {g : Addr → Option Obj} {s : Shared} (h : ∀ a, g a = s.heap.get? a) : obsBG n fa fn ex g = (hookB n fa fn ex).obs s := by
  have e : g = s.heap.get? := funext h
  rw [e] <;> rfl
end He

namespace Wk
open PySem PySem.Spec PyProof.Rows L2
def top (i : Nat) : Stmt := PySem.Challenge.pw_whatindex_k15_heaps.main.body.getD i (.Pass ⟨0, 0, 0, 0⟩)
abbrev s_u_wall : Stmt := top 0
abbrev s_is_whole : Stmt := top 12
abbrev s_is_word : Stmt := top 13
abbrev s_is_one_of : Stmt := top 14
abbrev s_is_tuple_of : Stmt := top 15
abbrev s_is_value : Stmt := top 16
abbrev s_is_column : Stmt := top 17
abbrev s_is_form : Stmt := top 18
abbrev s_is_row : Stmt := top 19
abbrev s_names_of : Stmt := top 20
abbrev s_are_columns : Stmt := top 21
abbrev s_number_of : Stmt := top 22
abbrev s_mark : Stmt := top 23
abbrev s_value_of : Stmt := top 24
abbrev s_values_of : Stmt := top 25
abbrev s_Buckets_init : Stmt := inClass (top 27) 0
abbrev s_Buckets_bucket_of : Stmt := inClass (top 27) 1
abbrev s_Buckets_put : Stmt := inClass (top 27) 2
abbrev s_Buckets_drop : Stmt := inClass (top 27) 3
abbrev s_Buckets_pages : Stmt := inClass (top 27) 4
abbrev s_Buckets_copied : Stmt := inClass (top 27) 5
abbrev s_Buckets_found : Stmt := inClass (top 27) 6
abbrev s_NoShape_init : Stmt := inClass (top 29) 0
abbrev s_NoStore_init : Stmt := inClass (top 30) 0
abbrev s_NoNumber_init : Stmt := inClass (top 32) 0
abbrev s_groups : Stmt := top 35
abbrev s_levels_of : Stmt := top 36
abbrev s_pages_of : Stmt := top 37
abbrev s_Run_init : Stmt := inClass (top 38) 0
abbrev s_Run_levels : Stmt := inClass (top 38) 1
abbrev s_Run_pages : Stmt := inClass (top 38) 2
abbrev s_Run_leaves : Stmt := inClass (top 38) 3
abbrev s_Run_copied : Stmt := inClass (top 38) 4
abbrev s_Run_place_of : Stmt := inClass (top 38) 5
abbrev s_Run_put : Stmt := inClass (top 38) 6
abbrev s_Run_drop : Stmt := inClass (top 38) 7
abbrev s_Run_parts : Stmt := inClass (top 38) 8
abbrev s_look_store : Stmt := top 43
abbrev s_Heap_init : Stmt := inClass (top 44) 0
abbrev s_Heap_put : Stmt := inClass (top 44) 1
abbrev s_Heap_drop : Stmt := inClass (top 44) 2
abbrev s_Heap_copied : Stmt := inClass (top 44) 3
abbrev s_Store_init : Stmt := inClass (top 45) 0
abbrev s_Store_copied : Stmt := inClass (top 45) 1
abbrev s_Store_put_thing : Stmt := inClass (top 45) 2
abbrev s_Store_drop_thing : Stmt := inClass (top 45) 3
abbrev s_Store_thing_of : Stmt := inClass (top 45) 4
abbrev s_Store_row : Stmt := inClass (top 45) 5
abbrev s_Store_put : Stmt := inClass (top 45) 6
abbrev s_Store_put_row : Stmt := inClass (top 45) 7
abbrev s_Store_drop : Stmt := inClass (top 45) 8
abbrev s_Store_change : Stmt := inClass (top 45) 9
abbrev s_Store_pages : Stmt := inClass (top 45) 10
abbrev s_Store_all_rows : Stmt := inClass (top 45) 11
abbrev s_Shape_init : Stmt := inClass (top 55) 0
abbrev s_Shape_five : Stmt := inClass (top 55) 1
abbrev s_Shape_eq : Stmt := inClass (top 55) 2
abbrev s_Shape_repr : Stmt := inClass (top 55) 3
abbrev s_l_bag : Stmt := top 57
abbrev s_l_take : Stmt := top 58
abbrev s_l_names : Stmt := top 59
abbrev s_l_word : Stmt := top 60
abbrev s_l_value : Stmt := top 61
abbrev s_l_form : Stmt := top 62
abbrev s_l_columns : Stmt := top 63
abbrev s_l_row : Stmt := top 64
abbrev s_l_heap_put : Stmt := top 65
abbrev s_l_heap_drop : Stmt := top 66
abbrev s_l_same : Stmt := top 67
abbrev s_l_edit : Stmt := top 68
abbrev s_l_changed : Stmt := top 69
abbrev s_l_like : Stmt := top 70
abbrev s_law : Stmt := top 71

/-! ### the head -/
def fn : List He.DefD := [⟨("_wall", none), "_wall", "_wall", defArgs s_u_wall, defBody s_u_wall, defScope s_u_wall, [], []⟩,
  ⟨("is_whole", none), "is_whole", "is_whole", defArgs s_is_whole, defBody s_is_whole, defScope s_is_whole, [(.int (-999)), (.int (999))], []⟩,
  ⟨("is_word", none), "is_word", "is_word", defArgs s_is_word, defBody s_is_word, defScope s_is_word, [], []⟩,
  ⟨("is_one_of", none), "is_one_of", "is_one_of", defArgs s_is_one_of, defBody s_is_one_of, defScope s_is_one_of, [], []⟩,
  ⟨("is_tuple_of", none), "is_tuple_of", "is_tuple_of", defArgs s_is_tuple_of, defBody s_is_tuple_of, defScope s_is_tuple_of, [], []⟩,
  ⟨("is_value", none), "is_value", "is_value", defArgs s_is_value, defBody s_is_value, defScope s_is_value, [], []⟩,
  ⟨("is_column", none), "is_column", "is_column", defArgs s_is_column, defBody s_is_column, defScope s_is_column, [], []⟩,
  ⟨("is_form", none), "is_form", "is_form", defArgs s_is_form, defBody s_is_form, defScope s_is_form, [], []⟩,
  ⟨("is_row", none), "is_row", "is_row", defArgs s_is_row, defBody s_is_row, defScope s_is_row, [], []⟩,
  ⟨("names_of", none), "names_of", "names_of", defArgs s_names_of, defBody s_names_of, defScope s_names_of, [], []⟩,
  ⟨("are_columns", none), "are_columns", "are_columns", defArgs s_are_columns, defBody s_are_columns, defScope s_are_columns, [], []⟩,
  ⟨("number_of", none), "number_of", "number_of", defArgs s_number_of, defBody s_number_of, defScope s_number_of, [], []⟩,
  ⟨("mark", none), "mark", "mark", defArgs s_mark, defBody s_mark, defScope s_mark, [], []⟩,
  ⟨("value_of", none), "value_of", "value_of", defArgs s_value_of, defBody s_value_of, defScope s_value_of, [], []⟩,
  ⟨("values_of", none), "values_of", "values_of", defArgs s_values_of, defBody s_values_of, defScope s_values_of, [], []⟩,
  ⟨("Buckets", some "__init__"), "__init__", "Buckets.__init__", defArgs s_Buckets_init, defBody s_Buckets_init, defScope s_Buckets_init, [], []⟩,
  ⟨("Buckets", some "bucket_of"), "bucket_of", "Buckets.bucket_of", defArgs s_Buckets_bucket_of, defBody s_Buckets_bucket_of, defScope s_Buckets_bucket_of, [], []⟩,
  ⟨("Buckets", some "put"), "put", "Buckets.put", defArgs s_Buckets_put, defBody s_Buckets_put, defScope s_Buckets_put, [], []⟩,
  ⟨("Buckets", some "drop"), "drop", "Buckets.drop", defArgs s_Buckets_drop, defBody s_Buckets_drop, defScope s_Buckets_drop, [], []⟩,
  ⟨("Buckets", some "pages"), "pages", "Buckets.pages", defArgs s_Buckets_pages, defBody s_Buckets_pages, defScope s_Buckets_pages, [], []⟩,
  ⟨("Buckets", some "copied"), "copied", "Buckets.copied", defArgs s_Buckets_copied, defBody s_Buckets_copied, defScope s_Buckets_copied, [], []⟩,
  ⟨("Buckets", some "found"), "found", "Buckets.found", defArgs s_Buckets_found, defBody s_Buckets_found, defScope s_Buckets_found, [], []⟩,
  ⟨("NoShape", some "__init__"), "__init__", "NoShape.__init__", defArgs s_NoShape_init, defBody s_NoShape_init, defScope s_NoShape_init, [], []⟩,
  ⟨("NoStore", some "__init__"), "__init__", "NoStore.__init__", defArgs s_NoStore_init, defBody s_NoStore_init, defScope s_NoStore_init, [], []⟩,
  ⟨("NoNumber", some "__init__"), "__init__", "NoNumber.__init__", defArgs s_NoNumber_init, defBody s_NoNumber_init, defScope s_NoNumber_init, [], []⟩,
  ⟨("groups", none), "groups", "groups", defArgs s_groups, defBody s_groups, defScope s_groups, [], []⟩,
  ⟨("levels_of", none), "levels_of", "levels_of", defArgs s_levels_of, defBody s_levels_of, defScope s_levels_of, [], []⟩,
  ⟨("pages_of", none), "pages_of", "pages_of", defArgs s_pages_of, defBody s_pages_of, defScope s_pages_of, [], []⟩,
  ⟨("Run", some "__init__"), "__init__", "Run.__init__", defArgs s_Run_init, defBody s_Run_init, defScope s_Run_init, [], [("things", (.adr (He.kwAt ("Run", some "__init__") "things")))]⟩,
  ⟨("Run", some "levels"), "levels", "Run.levels", defArgs s_Run_levels, defBody s_Run_levels, defScope s_Run_levels, [], []⟩,
  ⟨("Run", some "pages"), "pages", "Run.pages", defArgs s_Run_pages, defBody s_Run_pages, defScope s_Run_pages, [], []⟩,
  ⟨("Run", some "leaves"), "leaves", "Run.leaves", defArgs s_Run_leaves, defBody s_Run_leaves, defScope s_Run_leaves, [], []⟩,
  ⟨("Run", some "copied"), "copied", "Run.copied", defArgs s_Run_copied, defBody s_Run_copied, defScope s_Run_copied, [], []⟩,
  ⟨("Run", some "place_of"), "place_of", "Run.place_of", defArgs s_Run_place_of, defBody s_Run_place_of, defScope s_Run_place_of, [], []⟩,
  ⟨("Run", some "put"), "put", "Run.put", defArgs s_Run_put, defBody s_Run_put, defScope s_Run_put, [], []⟩,
  ⟨("Run", some "drop"), "drop", "Run.drop", defArgs s_Run_drop, defBody s_Run_drop, defScope s_Run_drop, [], []⟩,
  ⟨("Run", some "parts"), "parts", "Run.parts", defArgs s_Run_parts, defBody s_Run_parts, defScope s_Run_parts, [(.adr (He.dflAt ("Run", some "parts") 0))], [("low", .non), ("high", .non)]⟩,
  ⟨("look_store", none), "look_store", "look_store", defArgs s_look_store, defBody s_look_store, defScope s_look_store, [], []⟩,
  ⟨("Heap", some "__init__"), "__init__", "Heap.__init__", defArgs s_Heap_init, defBody s_Heap_init, defScope s_Heap_init, [], []⟩,
  ⟨("Heap", some "put"), "put", "Heap.put", defArgs s_Heap_put, defBody s_Heap_put, defScope s_Heap_put, [], []⟩,
  ⟨("Heap", some "drop"), "drop", "Heap.drop", defArgs s_Heap_drop, defBody s_Heap_drop, defScope s_Heap_drop, [], []⟩,
  ⟨("Heap", some "copied"), "copied", "Heap.copied", defArgs s_Heap_copied, defBody s_Heap_copied, defScope s_Heap_copied, [], []⟩,
  ⟨("Store", some "__init__"), "__init__", "Store.__init__", defArgs s_Store_init, defBody s_Store_init, defScope s_Store_init, [(.str "heap")], [("key", (.adr (He.kwAt ("Store", some "__init__") "key")))]⟩,
  ⟨("Store", some "copied"), "copied", "Store.copied", defArgs s_Store_copied, defBody s_Store_copied, defScope s_Store_copied, [], []⟩,
  ⟨("Store", some "put_thing"), "put_thing", "Store.put_thing", defArgs s_Store_put_thing, defBody s_Store_put_thing, defScope s_Store_put_thing, [], []⟩,
  ⟨("Store", some "drop_thing"), "drop_thing", "Store.drop_thing", defArgs s_Store_drop_thing, defBody s_Store_drop_thing, defScope s_Store_drop_thing, [], []⟩,
  ⟨("Store", some "thing_of"), "thing_of", "Store.thing_of", defArgs s_Store_thing_of, defBody s_Store_thing_of, defScope s_Store_thing_of, [], []⟩,
  ⟨("Store", some "row"), "row", "Store.row", defArgs s_Store_row, defBody s_Store_row, defScope s_Store_row, [], []⟩,
  ⟨("Store", some "put"), "put", "Store.put", defArgs s_Store_put, defBody s_Store_put, defScope s_Store_put, [], []⟩,
  ⟨("Store", some "put_row"), "put_row", "Store.put_row", defArgs s_Store_put_row, defBody s_Store_put_row, defScope s_Store_put_row, [], []⟩,
  ⟨("Store", some "drop"), "drop", "Store.drop", defArgs s_Store_drop, defBody s_Store_drop, defScope s_Store_drop, [], []⟩,
  ⟨("Store", some "change"), "change", "Store.change", defArgs s_Store_change, defBody s_Store_change, defScope s_Store_change, [], []⟩,
  ⟨("Store", some "pages"), "pages", "Store.pages", defArgs s_Store_pages, defBody s_Store_pages, defScope s_Store_pages, [], []⟩,
  ⟨("Store", some "all_rows"), "all_rows", "Store.all_rows", defArgs s_Store_all_rows, defBody s_Store_all_rows, defScope s_Store_all_rows, [], []⟩,
  ⟨("Shape", some "__init__"), "__init__", "Shape.__init__", defArgs s_Shape_init, defBody s_Shape_init, defScope s_Shape_init, [], [("rows", (.int (4))), ("entries", (.int (4))), ("fan", (.int (3))), ("buckets", (.int (4))), ("bits", (.int (16)))]⟩,
  ⟨("Shape", some "five"), "five", "Shape.five", defArgs s_Shape_five, defBody s_Shape_five, defScope s_Shape_five, [], []⟩,
  ⟨("Shape", some "__eq__"), "__eq__", "Shape.__eq__", defArgs s_Shape_eq, defBody s_Shape_eq, defScope s_Shape_eq, [], []⟩,
  ⟨("Shape", some "__repr__"), "__repr__", "Shape.__repr__", defArgs s_Shape_repr, defBody s_Shape_repr, defScope s_Shape_repr, [], []⟩,
  ⟨("_law_bag", none), "_law_bag", "_law_bag", defArgs s_l_bag, defBody s_l_bag, defScope s_l_bag, [], []⟩,
  ⟨("_law_take", none), "_law_take", "_law_take", defArgs s_l_take, defBody s_l_take, defScope s_l_take, [], []⟩,
  ⟨("_law_names", none), "_law_names", "_law_names", defArgs s_l_names, defBody s_l_names, defScope s_l_names, [], []⟩,
  ⟨("_law_word", none), "_law_word", "_law_word", defArgs s_l_word, defBody s_l_word, defScope s_l_word, [], []⟩,
  ⟨("_law_value", none), "_law_value", "_law_value", defArgs s_l_value, defBody s_l_value, defScope s_l_value, [], []⟩,
  ⟨("_law_form", none), "_law_form", "_law_form", defArgs s_l_form, defBody s_l_form, defScope s_l_form, [], []⟩,
  ⟨("_law_columns", none), "_law_columns", "_law_columns", defArgs s_l_columns, defBody s_l_columns, defScope s_l_columns, [], []⟩,
  ⟨("_law_row", none), "_law_row", "_law_row", defArgs s_l_row, defBody s_l_row, defScope s_l_row, [], []⟩,
  ⟨("_law_heap_put", none), "_law_heap_put", "_law_heap_put", defArgs s_l_heap_put, defBody s_l_heap_put, defScope s_l_heap_put, [], []⟩,
  ⟨("_law_heap_drop", none), "_law_heap_drop", "_law_heap_drop", defArgs s_l_heap_drop, defBody s_l_heap_drop, defScope s_l_heap_drop, [], []⟩,
  ⟨("_law_same", none), "_law_same", "_law_same", defArgs s_l_same, defBody s_l_same, defScope s_l_same, [], []⟩,
  ⟨("_law_edit", none), "_law_edit", "_law_edit", defArgs s_l_edit, defBody s_l_edit, defScope s_l_edit, [], []⟩,
  ⟨("_law_changed", none), "_law_changed", "_law_changed", defArgs s_l_changed, defBody s_l_changed, defScope s_l_changed, [], []⟩,
  ⟨("_law_like", none), "_law_like", "_law_like", defArgs s_l_like, defBody s_l_like, defScope s_l_like, [], []⟩,
  ⟨("law", none), "law", "law", defArgs s_law, defBody s_law, defScope s_law, [], []⟩]
def fa : List He.Fa := [.glo "_wall", .glo "is_whole", .glo "is_word", .glo "is_one_of", .glo "is_tuple_of", .glo "is_value", .glo "is_column", .glo "is_form", .glo "is_row", .glo "names_of", .glo "are_columns", .glo "number_of", .glo "mark", .glo "value_of", .glo "values_of", .glo "groups", .glo "levels_of", .glo "pages_of", .glo "look_store", .glo "_law_bag", .glo "_law_take", .glo "_law_names", .glo "_law_word", .glo "_law_value", .glo "_law_form", .glo "_law_columns", .glo "_law_row", .glo "_law_heap_put", .glo "_law_heap_drop", .glo "_law_same", .glo "_law_edit", .glo "_law_changed", .glo "_law_like", .glo "law", .glo "Buckets", .cls "Buckets", .noat "Buckets" "bins", .noat "Buckets" "many", .noat "Buckets" "most", .mkr "Buckets", .meth "Buckets" "bucket_of", .meth "Buckets" "put", .meth "Buckets" "drop", .meth "Buckets" "pages", .meth "Buckets" "copied", .meth "Buckets" "found", .glo "NoShape", .glo "NoStore", .glo "NoRow", .glo "NoNumber", .glo "TooMany", .glo "Run", .cls "Run", .noat "Run" "fan", .noat "Run" "most", .noat "Run" "rising", .mkr "Run", .meth "Run" "levels", .meth "Run" "pages", .meth "Run" "leaves", .meth "Run" "copied", .meth "Run" "place_of", .meth "Run" "put", .meth "Run" "drop", .meth "Run" "parts", .glo "Heap", .cls "Heap", .noat "Heap" "most", .noat "Heap" "sheets", .mkr "Heap", .meth "Heap" "put", .meth "Heap" "drop", .meth "Heap" "copied", .glo "Store", .cls "Store", .noat "Store" "form", .noat "Store" "heap", .noat "Store" "held", .noat "Store" "key", .noat "Store" "kind", .noat "Store" "known", .noat "Store" "last", .noat "Store" "shape", .mkr "Store", .meth "Store" "copied", .meth "Store" "put_thing", .meth "Store" "drop_thing", .meth "Store" "thing_of", .meth "Store" "row", .meth "Store" "put", .meth "Store" "put_row", .meth "Store" "drop", .meth "Store" "change", .meth "Store" "pages", .meth "Store" "all_rows", .glo "Shape", .cls "Shape", .noat "Shape" "bits", .noat "Shape" "buckets", .noat "Shape" "entries", .noat "Shape" "fan", .noat "Shape" "rows", .mkr "Shape", .meth "Shape" "five", .meth "Shape" "__eq__", .meth "Shape" "__repr__", .int "LEAST_NUMBER" (-999), .int "MOST_NUMBER" 999, .int "MOST_LETTERS" 8, .int "MOST_COLUMNS" 6, .str "LETTERS" "abcdefghijklmnopqrstuvwxyz", .int "MARKS" 1009, .int "FIRST_MARK" 7, .int "STEP" 31, .int "BASE" 27, .int "MOST_ROWS" 60, .int "MOST_KEY" 3, .int "LEAST_PAGE" 2, .int "MOST_PAGE" 8, .int "ROWS" 4, .int "ENTRIES" 4, .int "FAN" 3, .int "BUCKETS" 4, .int "BITS" 16, .int "MOST_BITS" 64, .glo "KINDS", .glo "STORES", .free "KeyError", .free "ValueError", .free "abs", .free "all", .free "bool", .free "enumerate", .free "int", .free "isinstance", .free "len", .free "list", .free "max", .free "min", .free "range", .free "set", .free "sorted", .free "str", .free "tuple", .free "zip"]
def fex (K : PySem.W.Frag) : Bool := [He.tupAtB K (He.kwAt ("Run", some "__init__") "things" K) [], He.tupAtB K (He.dflAt ("Run", some "parts") 0 K) [], He.tupAtB K (He.kwAt ("Store", some "__init__") "key" K) [], He.tupAtB K (He.ga K "KINDS") [(.str "number"), (.str "word")], He.tupAtB K (He.ga K "STORES") [(.str "heap"), (.str "sorted"), (.str "hashed")]].all id

abbrev R : PySem.W.OpenRow := PySem.W.OpenLaw.row PySem.Challenge.rw_whatindex_k15_heaps
abbrev hk : PySem.W.Hook := He.hookB 7 fa fn fex
def ob (s : PySem.W.SharedT) : He.AlB := He.obsBG 7 fa fn fex (HandSHeadRun.getT s)
theorem ob_eq (s : PySem.W.SharedT) : ob s = hk.obs s.abs := He.obsBG_eq (HandSHeadRun.getT_eq s)
theorem run (w : World) : HandSHeadRun.RunEq R (PySem.W.view R.prog [71]) hk ob 8000 [("_wall" : PySem.Str), ("LEAST_NUMBER" : PySem.Str), ("MOST_NUMBER" : PySem.Str), ("MOST_LETTERS" : PySem.Str), ("MOST_COLUMNS" : PySem.Str), ("LETTERS" : PySem.Str), ("KINDS" : PySem.Str), ("MARKS" : PySem.Str), ("FIRST_MARK" : PySem.Str), ("STEP" : PySem.Str), ("BASE" : PySem.Str), ("is_whole" : PySem.Str), ("is_word" : PySem.Str), ("is_one_of" : PySem.Str), ("is_tuple_of" : PySem.Str), ("is_value" : PySem.Str), ("is_column" : PySem.Str), ("is_form" : PySem.Str), ("is_row" : PySem.Str), ("names_of" : PySem.Str), ("are_columns" : PySem.Str), ("number_of" : PySem.Str), ("mark" : PySem.Str), ("value_of" : PySem.Str), ("values_of" : PySem.Str), ("Buckets" : PySem.Str), ("NoShape" : PySem.Str), ("NoStore" : PySem.Str), ("NoRow" : PySem.Str), ("NoNumber" : PySem.Str), ("TooMany" : PySem.Str), ("groups" : PySem.Str), ("levels_of" : PySem.Str), ("pages_of" : PySem.Str), ("Run" : PySem.Str), ("STORES" : PySem.Str), ("MOST_ROWS" : PySem.Str), ("MOST_KEY" : PySem.Str), ("look_store" : PySem.Str), ("Heap" : PySem.Str), ("Store" : PySem.Str), ("LEAST_PAGE" : PySem.Str), ("MOST_PAGE" : PySem.Str), ("ROWS" : PySem.Str), ("ENTRIES" : PySem.Str), ("FAN" : PySem.Str), ("BUCKETS" : PySem.Str), ("BITS" : PySem.Str), ("MOST_BITS" : PySem.Str), ("Shape" : PySem.Str), ("_law_bag" : PySem.Str), ("_law_take" : PySem.Str), ("_law_names" : PySem.Str), ("_law_word" : PySem.Str), ("_law_value" : PySem.Str), ("_law_form" : PySem.Str), ("_law_columns" : PySem.Str), ("_law_row" : PySem.Str), ("_law_heap_put" : PySem.Str), ("_law_heap_drop" : PySem.Str), ("_law_same" : PySem.Str), ("_law_edit" : PySem.Str), ("_law_changed" : PySem.Str), ("_law_like" : PySem.Str)] w := by
  intro os
  kernel_rfl

end Wk
/-! ### data, stores, results -/
namespace Iv
open PySem

inductive D where
  | non | bl (b : Bool) | int (i : Int) | str (x : Str)
  | tup (xs : List D)
  /-- a list that nobody changes any more -/
  | lst (xs : List D)
  /-- a list that is only read (the script) -/
  | scr (xs : List D)
  /-- a box of the store -/
  | ref (n : Nat)
  /-- an instance that nobody changes any more -/
  | ins (c : Nat) (fs : List (Nat × D))
  /-- a built-in class -/
  | ty (n : String)
  /-- a tuple that tuple(..) made: nothing hangs on it -/
  | ntp (xs : List D)
  deriving Inhabited

inductive Cell where
  | lst (xs : List D)
  | ins (c : Nat) (fs : List (Nat × D))
  | dct (kvs : List (L2.Key × D))
  /-- a dict that is walked -/
  | dlk (kvs : List (L2.Key × D))
  deriving Inhabited

abbrev Sto := List (Option Cell)
abbrev Env := List (Option D)

structure Exc where
  c : Nat
  fs : List (Nat × D)

inductive R (α : Type) where
  | ok (a : α) (S : Sto)
  | exc (x : Exc) (S : Sto)
  | err

def R.bind {α β : Type} (r : R α) (f : α → Sto → R β) : R β := match r with
  | .ok a S => f a S
  | .exc x S => .exc x S
  | .err => .err
@[simp] theorem R.bind_ok {α β : Type} (a : α) (S : Sto) (f : α → Sto → R β) : (R.ok a S).bind f = f a S := rfl
@[simp] theorem R.bind_err {α β : Type} (f : α → Sto → R β) : (R.err : R α).bind f = .err := rfl
@[simp] theorem R.bind_exc {α β : Type} (x : Exc) (S : Sto) (f : α → Sto → R β) : (R.exc x S : R α).bind f = .exc x S := rfl

/-- what must hold, else nothing is told -/
def ck {α : Type} (c : Prop) [Decidable c] (r : R α) : R α := if c then r else .err
theorem ck_of {α : Type} {c : Prop} [Decidable c] {r : R α} (h : c) : ck c r = r := if_pos h

/-! ### frozen data as the library's data -/
mutual
def D.py : D → PyData
  | .non => .none
  | .bl b => .bool b
  | .int i => .int i
  | .str x => .str x
  | .tup xs => .tuple (D.pys xs)
  | .lst xs => .list (D.pys xs)
  | .scr xs => .list (D.pys xs)
  | _ => .none
def D.pys : List D → List PyData
  | [] => []
  | x :: xs => x.py :: D.pys xs
end
mutual
/-- frozen through and through -/
def D.fz : D → Bool
  | .non => true
  | .bl _ => true
  | .int _ => true
  | .str _ => true
  | .tup xs => D.fzs xs
  | .lst xs => D.fzs xs
  | .scr xs => D.fzs xs
  | _ => false
def D.fzs : List D → Bool
  | [] => true
  | x :: xs => x.fz && D.fzs xs
end
mutual
/-- == of frozen data -/
def D.eqv : D → D → Bool
  | .non, .non => true
  | .bl a, .bl b => a == b
  | .bl a, .int j => (if a then 1 else 0) == j
  | .int i, .bl b => i == (if b then 1 else 0)
  | .int i, .int j => i == j
  | .str x, .str y => x == y
  | .tup xs, .tup ys => D.eqvs xs ys
  | .lst xs, .lst ys => D.eqvs xs ys
  | .lst xs, .scr ys => D.eqvs xs ys
  | .scr xs, .lst ys => D.eqvs xs ys
  | .scr xs, .scr ys => D.eqvs xs ys
  | _, _ => false
def D.eqvs : List D → List D → Bool
  | [], [] => true
  | x :: xs, y :: ys => x.eqv y && D.eqvs xs ys
  | _, _ => false
end
mutual
/-- how deep -/
def D.dp : D → Nat
  | .tup xs => D.dps xs + 1
  | .lst xs => D.dps xs + 1
  | .scr xs => D.dps xs + 1
  | _ => 0
def D.dps : List D → Nat
  | [] => 0
  | x :: xs => max x.dp (D.dps xs)
end

/-! ### boxes -/
def cellAt (S : Sto) (n : Nat) : Option Cell := (S[n]?).join
/-- a list, or a tuple, as it stands -/
def seqOf (S : Sto) : D → Option (List D)
  | .tup xs => some xs
  | .lst xs => some xs
  | .scr xs => some xs
  | .ref n => match cellAt S n with
    | some (.lst xs) => some xs
    | _ => none
  | _ => none
/-- a box read as a frozen list -/
def unbox (S : Sto) : D → D
  | .ref n => match cellAt S n with
    | some (.lst xs) => .lst xs
    | _ => .ref n
  | d => d
/-- the same through and through -/
def deep : Nat → Sto → D → D
  | 0, _, d => d
  | k + 1, S, d => match d with
    | .tup xs => .tup (xs.map (deep k S))
    | .lst xs => .lst (xs.map (deep k S))
    | .ref n => match cellAt S n with
      | some (.lst xs) => .lst (xs.map (deep k S))
      | _ => .ref n
    | d => d
/-- a new list: a box, or frozen -/
def mkL (box : Bool) (xs : List D) (S : Sto) : R D := match box with
  | true => .ok (.ref S.length) (S ++ [some (.lst xs)])
  | false => .ok (.lst xs) S
def setAt (S : Sto) (n : Nat) (c : Cell) : Sto := S.set n (some c)

/-! ### what operators tell -/
def mulOk (i j : Int) : Prop := (-(2 ^ 64) < i ∧ i < 2 ^ 64) ∨ (-(2 ^ 64) < j ∧ j < 2 ^ 64)
instance (i j : Int) : Decidable (mulOk i j) := by unfold mulOk; infer_instance
inductive Bop where
  | add | sub | mul | div | mod | pow
def addR (box : Bool) (x y : D) (S : Sto) : R D := match x, y with
  | .int i, .int j => .ok (.int (i + j)) S
  | .str a, .str b => ck (a.length + b.length ≤ sizeLine) (.ok (.str (a ++ b)) S)
  | .tup a, .tup b => ck (a.length + b.length ≤ sizeLine) (.ok (.tup (a ++ b)) S)
  | _, _ => match unbox S x, unbox S y with
    | .lst a, .lst b => ck (a.length + b.length ≤ sizeLine) (mkL box (a ++ b) S)
    | _, _ => .err
def binR (box : Bool) (op : Bop) (x y : D) (S : Sto) : R D := match op with
  | .add => addR box x y S
  | .sub => match x, y with
    | .int i, .int j => .ok (.int (i - j)) S
    | _, _ => .err
  | .mul => match x, y with
    | .int i, .int j => ck (mulOk i j) (.ok (.int (i * j)) S)
    | .str z, .int j => ck (z.length ≤ 1000 ∧ 1 ≤ j ∧ j ≤ 1000) (.ok (.str (Txt.mul z j)) S)
    | _, _ => .err
  | .div => match x, y with
    | .int i, .int j => ck (0 < j ∧ j < 1073741824) (.ok (.int (i / j)) S)
    | _, _ => .err
  | .mod => match x, y with
    | .int i, .int j => ck (0 < j) (.ok (.int (i % j)) S)
    | _, _ => .err
  | .pow => match x, y with
    | .int i, .int j => ck (0 ≤ j ∧ j ≤ 1000000 ∧ i.natAbs < 2 ^ 64) (.ok (.int (i ^ j.toNat)) S)
    | _, _ => .err
/-- the truth of a value -/
def truR (S : Sto) : D → Option Bool
  | .non => some false
  | .bl b => some b
  | .int i => some (i != 0)
  | .str z => some ((z.length : Int) != 0)
  | d => (seqOf S d).map fun xs => !xs.isEmpty
def tru (d : D) (S : Sto) : R Bool := match truR S d with
  | some b => .ok b S
  | none => .err
inductive Cop where
  | eq | ne | lt | le | gt | ge | isN | notN | isIn | notIn
  /-- == and != of boxes that hold boxes -/
  | eqd | ned
def eqD (x y : D) (S : Sto) (k : Bool → R D) : R D := ck ((unbox S x).fz = true ∧ (unbox S y).fz = true ∧ (unbox S x).dp ≤ 64 ∧ (unbox S y).dp ≤ 64) (k ((unbox S x).eqv (unbox S y)))
def eqX (x y : D) (S : Sto) (k : Bool → R D) : R D := ck ((deep 8 S x).fz = true ∧ (deep 8 S y).fz = true ∧ (deep 8 S x).dp ≤ 64 ∧ (deep 8 S y).dp ≤ 64) (k ((deep 8 S x).eqv (deep 8 S y)))
def notNon : D → Bool
  | .non => false
  | _ => true
/-- x < y of alike data -/
def ltD (x y : D) : Bool := PySem.W.dataLt x.py y.py
def ordX (x y : D) (r : R D) : R D := ck (x.fz = true ∧ y.fz = true ∧ x.dp ≤ 60 ∧ y.dp ≤ 60 ∧ PySem.W.alike x.py y.py = true ∧ notNon x = true) r
def cmpR (op : Cop) (x y : D) (S : Sto) : R D := match op with
  | .eq => eqD x y S fun b => .ok (.bl b) S
  | .ne => eqD x y S fun b => .ok (.bl (!b)) S
  | .eqd => eqX x y S fun b => .ok (.bl b) S
  | .ned => eqX x y S fun b => .ok (.bl (!b)) S
  | .lt => match x, y with
    | .int i, .int j => .ok (.bl (decide (i < j))) S
    | _, _ => ordX x y (.ok (.bl (ltD x y)) S)
  | .le => match x, y with
    | .int i, .int j => .ok (.bl (decide (i ≤ j))) S
    | _, _ => ordX x y (.ok (.bl (!ltD y x)) S)
  | .gt => match x, y with
    | .int i, .int j => .ok (.bl (decide (j < i))) S
    | _, _ => .err
  | .ge => match x, y with
    | .int i, .int j => .ok (.bl (decide (j ≤ i))) S
    | _, _ => .err
  | .isN => match y with
    | .non => .ok (.bl (match x with | .non => true | _ => false)) S
    | .bl b => match x with
      | .bl a => .ok (.bl (decide (a = b))) S
      | _ => .err
    | _ => .err
  | .notN => match y with
    | .non => .ok (.bl (match x with | .non => false | _ => true)) S
    | .bl b => match x with
      | .bl a => .ok (.bl (!decide (a = b))) S
      | _ => .err
    | _ => .err
  | .isIn => inR x y S fun b => .ok (.bl b) S
  | .notIn => inR x y S fun b => .ok (.bl (!b)) S
where
  inR (x y : D) (S : Sto) (k : Bool → R D) : R D := match x, y with
    | .str a, .str b => match a.cps.toList with
      | [c] => k (decide (c ∈ b.cps.toList))
      | _ => .err
    | _, _ => match seqOf S y with
      | some ys => ck (x.fz = true ∧ x.dp ≤ 63 ∧ D.fzs ys = true ∧ D.dps ys ≤ 63) (k (ys.any fun z => z.eqv x))
      | none => .err
/-- an item by its place -/
def atD {α : Type} (xs : List α) (i : Int) : Option α := if 0 ≤ i then xs[i.toNat]? else if -(xs.length : Int) ≤ i then xs[(i + xs.length).toNat]? else none
def idxR (x y : D) (S : Sto) : R D := match y with
  | .int i => match x with
    | .str z => match atD z.cps.toList i with
      | some c => .ok (.str ⟨#[c]⟩) S
      | none => .err
    | _ => match seqOf S x with
      | some xs => match atD xs i with
        | some d => .ok d S
        | none => .err
      | none => .err
  | _ => .err
/-- the bounds of a slice -/
def cutD {α : Type} (xs : List α) (lo hi : Option Int) : List α := (xs.drop (HT.sIx xs.length 0 lo)).take (HT.sIx xs.length xs.length hi - HT.sIx xs.length 0 lo)
def slcR (box : Bool) (x : D) (lo hi : Option Int) (S : Sto) : R D := match x with
  | .tup xs => .ok (.tup (cutD xs lo hi)) S
  | .str z => .ok (.str (L2.cutS z lo hi)) S
  | _ => match seqOf S x with
    | some xs => mkL box (cutD xs lo hi) S
    | none => .err
end Iv

/-! ### programs over data -/
namespace Iv
open PySem L2

/-- where a parameter's value comes from: an argument, a default -/
inductive Ar where
  | a (j : Nat) | d (d : D)
inductive Bi where
  | len | abs | min2 | max2 | minL | maxL | sumL | sumS | all | any | int1 | list1 (box : Bool) | tuple1 | sorted1 (box : Bool) | isi | isc (c : Nat) | maxD | sumLL | str1 | sortedR (box : Bool)
inductive Bm where
  | append | insert | index | count | join | upper | clear | remove | pop1 | sindex

mutual
inductive E where
  | var (i : Nat)
  | con (d : D)
  | bin (box : Bool) (op : Bop) (a b : E)
  | neg (a : E) | not (a : E)
  | cmp (op : Cop) (a b : E)
  | chain (op op' : Cop) (a b c : E)
  | and (a b : E) | or (a b : E)
  | ife (c a b : E)
  | tup (es : List E)
  | lst (box : Bool) (es : List E)
  | idx (a i : E)
  | slc (box : Bool) (a : E) (lo hi : Option E)
  | rev (box : Bool) (a : E)
  | lc (box : Bool) (own : List Nat) (tg : Tg) (it : It) (ifs : List E) (elt : E)
  | lc2 (box : Bool) (own own1 : List Nat) (tg : Tg) (it : It) (ifs : List E) (tg1 : Tg) (it1 : It) (ifs1 : List E) (elt : E)
  | call (f : Nat) (arr : List Ar) (es : List E)
  | meth (o : E) (ms : List (Nat × Nat × List Ar)) (es : List E)
  | make (fr : Bool) (c f : Nat) (arr : List Ar) (es : List E)
  | attr (o : E) (f : Nat)
  | bi (b : Bi) (es : List E)
  | bm (m : Bm) (o : E) (es : List E)
  | frz (a : E)
  | trng (a b : E)
  /-- isinstance(a, (t, ..)) -/
  | isit (a : E) (ts : List String)
  | lrng (box : Bool) (a b : E)
  /-- dicts: {}, d[k], k in d, d.get(k, x), d.pop(k), sorted(d), {k: v for ..} -/
  | dnew
  | didx (o k : E)
  | din (neg : Bool) (k o : E)
  | dget2 (o k x : E)
  | dpop (o k : E)
  | dsort (box : Bool) (o : E)
  | dcomp (own : List Nat) (tg : Tg) (it : It) (ifs : List E) (k v : E)
  /-- len({..}), sorted({..}) of ints -/
  | lenSC (own : List Nat) (tg : Tg) (it : It) (ifs : List E) (elt : E)
  | sortSC (own : List Nat) (tg : Tg) (it : It) (ifs : List E) (elt : E)
  /-- len(set(a)), sorted(set(a)) -/
  | lenS (a : E)
  | sortS (a : E)
  /-- tuple(a) of a list, told as made; told as any tuple; t.index(x) of a made one, texts -/
  | ntup (a : E) | untup (a : E)
  | tidx (o x : E)
  /-- {k: e, ..} -/
  | ddisp (ks : List L2.Key) (es : List E)
  /-- e, while the dict d is locked: it is walked within -/
  | lock (d e : E)
inductive It where
  | e (a : E)
  | rng1 (a : E) | rng2 (a b : E)
  | rng3 (a b c : E)
  | enum (s : Option E) (a : E)
  /-- enumerate(a, start=s) -/
  | enumS (a s : E)
  | zip (strict : Bool) (a b : E)
  /-- boxes may be walked -/
  | zipb (a b : E)
  /-- d.items(), a walk of d: the dict is locked -/
  | items (o : E) | keys (o : E)
inductive Tg where
  | var (i : Nat)
  | tup (ts : List Tg)
  | idx (o i : E)
  | attr (o : E) (f : Nat) (cs : List Nat)
  /-- a, b, *rest -/
  | tups (ts : List Tg)
  /-- xs[a:b] -/
  | slc (o lo hi : E)
  /-- d[k] -/
  | didx (o k : E)
end
inductive St where
  | expr (e : E)
  | asg (t : Tg) (e : E)
  | aug (i : Nat) (op : Bop) (e : E)
  | ite (c : E) (a b : List St)
  | for (t : Tg) (it : It) (body : List St)
  | while (c : E) (body : List St)
  | ret (e : E) | retN | brk | cont | pass
  | lock (d : E) (st : St)
  /-- a try's body that raises nothing -/
  | blk (b : List St)
  /-- nothing is told of what raises -/
  | raise
  /-- o.f op= e -/
  | faug (o : E) (f : Nat) (op : Bop) (e : E)

abbrev CE := Nat → List D → Sto → R D

def pick (ds : List D) : List Ar → Option (List D)
  | [] => some []
  | .a j :: r => match ds[j]? with
    | some d => (pick ds r).map (d :: ·)
    | none => none
  | .d d :: r => (pick ds r).map (d :: ·)
def callR (F : CE) (f : Nat) (arr : List Ar) (ds : List D) (S : Sto) : R D := match pick ds arr with
  | some ps => F f ps S
  | none => .err

/-! ### built-in functions -/
def intsD : List D → Option (List Int)
  | [] => some []
  | .int i :: r => (intsD r).map (i :: ·)
  | _ => none
def blsD : List D → Option (List Bool)
  | [] => some []
  | .bl i :: r => (blsD r).map (i :: ·)
  | _ => none
def strsD : List D → Option (List Str)
  | [] => some []
  | .str i :: r => (strsD r).map (i :: ·)
  | _ => none
def lenR (S : Sto) : D → Option Nat
  | .str z => some z.length
  | d => (seqOf S d).map (·.length)
def minI : List Int → Option Int
  | [] => none
  | i :: r => some (r.foldl (fun m x => if x < m then x else m) i)
def maxI : List Int → Option Int
  | [] => none
  | i :: r => some (r.foldl (fun m x => if m < x then x else m) i)
def leD (a b : D) : Bool := PySem.W.dataLe false D.py a b
def sortD (xs : List D) : List D := xs.mergeSort leD
def leR (a b : D) : Bool := PySem.W.dataLe true D.py a b
def sortRD (xs : List D) : List D := xs.mergeSort leR
def sortable (ds : List PyData) : Prop := (∀ d ∈ ds, ∀ d' ∈ ds, PySem.W.alike d d' = true) ∧ ((∀ d, d ∈ ds → ∃ x r, d = .tuple (x :: r)) ∨ ∀ d, d ∈ ds → d ≠ .none ∧ ∀ xs, d ≠ .tuple xs)
noncomputable instance (ds : List PyData) : Decidable (sortable ds) := Classical.propDecidable _
/-- the built-in class of a value -/
def tyOf (S : Sto) : D → Option String
  | .non => some "NoneType"
  | .bl _ => some "bool"
  | .int _ => some "int"
  | .str _ => some "str"
  | .tup _ => some "tuple"
  | .lst _ => some "list"
  | .scr _ => some "list"
  | .ref n => match cellAt S n with
    | some (.lst _) => some "list"
    | _ => none
  | _ => none
def clsOf (S : Sto) : D → Option Nat
  | .ins c _ => some c
  | .ref n => match cellAt S n with
    | some (.ins c _) => some c
    | _ => none
  | _ => none
def biLen (S : Sto) : List D → R D
  | [x] => match lenR S x with
    | some n => .ok (.int n) S
    | none => .err
  | _ => .err
def biAbs (S : Sto) : List D → R D
  | [.int i] => .ok (.int (if i < 0 then -i else i)) S
  | _ => .err
def biMin2 (S : Sto) : List D → R D
  | [.int i, .int j] => .ok (.int (if j < i then j else i)) S
  | _ => .err
def biMax2 (S : Sto) : List D → R D
  | [.int i, .int j] => .ok (.int (if j > i then j else i)) S
  | _ => .err
/-- a list, not a tuple -/
def lstOf (S : Sto) : D → Option (List D)
  | .tup _ => none
  | d => seqOf S d
def intsOf (S : Sto) (x : D) : Option (List Int) := (lstOf S x).bind intsD
def biMinL (S : Sto) : List D → R D
  | [x] => match (intsOf S x).bind minI with
    | some i => .ok (.int i) S
    | none => .err
  | _ => .err
def biMaxL (S : Sto) : List D → R D
  | [x] => match (intsOf S x).bind maxI with
    | some i => .ok (.int i) S
    | none => .err
  | _ => .err
def biSumL (S : Sto) : List D → R D
  | [x] => match intsOf S x with
    | some ns => .ok (.int ns.sum) S
    | none => .err
  | _ => .err
def biSumS (S : Sto) : List D → R D
  | [x, .int i] => match intsOf S x with
    | some ns => .ok (.int (i + ns.sum)) S
    | none => .err
  | _ => .err
def biAll (S : Sto) : List D → R D
  | [x] => match (lstOf S x).bind blsD with
    | some bs => .ok (.bl (bs.all id)) S
    | none => .err
  | _ => .err
def biAny (S : Sto) : List D → R D
  | [x] => match (lstOf S x).bind blsD with
    | some bs => .ok (.bl (bs.any id)) S
    | none => .err
  | _ => .err
def biInt (S : Sto) : List D → R D
  | [.int i] => .ok (.int i) S
  | [.bl k] => .ok (.int (if k then 1 else 0)) S
  | _ => .err
def biList (box : Bool) (S : Sto) : List D → R D
  | [x] => match seqOf S x with
    | some xs => mkL box xs S
    | none => .err
  | _ => .err
def biTuple (S : Sto) : List D → R D
  | [x] => match seqOf S x with
    | some xs => .ok (.tup xs) S
    | none => .err
  | _ => .err
noncomputable def biSorted (box : Bool) (S : Sto) : List D → R D
  | [x] => match lstOf S x with
    | some xs => ck (D.fzs xs = true ∧ D.dps xs ≤ 60 ∧ sortable (D.pys xs)) (mkL box (sortD xs) S)
    | none => .err
  | _ => .err
noncomputable def biSortedR (box : Bool) (S : Sto) : List D → R D
  | [x, .bl true] => match lstOf S x with
    | some xs => ck (D.fzs xs = true ∧ D.dps xs ≤ 60 ∧ sortable (D.pys xs)) (mkL box (sortRD xs) S)
    | none => .err
  | _ => .err
def biMaxD (S : Sto) : List D → R D
  | [x, .int d] => match intsOf S x with
    | some ns => .ok (.int (match maxI ns with | some i => i | none => d)) S
    | none => .err
  | _ => .err
def lstsD (S : Sto) : List D → Option (List (List D))
  | [] => some []
  | x :: r => match unbox S x with
    | .lst ys => (lstsD S r).map (ys :: ·)
    | _ => none
def biSumLL (S : Sto) : List D → R D
  | [x, .lst []] => match (lstOf S x).bind (lstsD S) with
    | some ys => ck (ys.flatten.length ≤ 1000) (.ok (.lst ys.flatten) S)
    | none => .err
  | _ => .err
def biIsi (S : Sto) : List D → R D
  | [x, .ty n] => match (tyOf S x).bind fun a => kitB a n with
    | some b => .ok (.bl b) S
    | none => .err
  | _ => .err
/-- str() of a list or a tuple -/
def isSeqD : D → Bool
  | .tup _ => true
  | .lst _ => true
  | .scr _ => true
  | .ref _ => true
  | _ => false
/-- str() of what is no sequence -/
def strA : D → Option Str
  | .non => some "None"
  | .bl b => some (if b then "True" else "False")
  | .int i => if i.natAbs.log2 < 1920 then some (toString i) else none
  | .str z => some z
  | _ => none
def biStrA (S : Sto) (z : Str) : R D := ck (z.length ≤ sizeLine ∧ ∀ c ∈ z.cps.toList, c < 1114112) (.ok (.str z) S)
def biStr (S : Sto) : List D → R D
  | [x] => match strA x with
    | some z => biStrA S z
    | none => ck (isSeqD x = true ∧ (deep 8 S x).fz = true ∧ (deep 8 S x).dp ≤ 60 ∧ (deep 8 S x).py.showable = true ∧ (deep 8 S x).py.shown.length ≤ sizeLine ∧ ∀ c ∈ (deep 8 S x).py.shown.cps.toList, c < 1114112) (.ok (.str (deep 8 S x).py.shown) S)
  | _ => .err
noncomputable def biR (b : Bi) (ds : List D) (S : Sto) : R D := match b with
  | .len => biLen S ds
  | .abs => biAbs S ds
  | .min2 => biMin2 S ds
  | .max2 => biMax2 S ds
  | .minL => biMinL S ds
  | .maxL => biMaxL S ds
  | .sumL => biSumL S ds
  | .sumS => biSumS S ds
  | .all => biAll S ds
  | .any => biAny S ds
  | .int1 => biInt S ds
  | .list1 box => biList box S ds
  | .tuple1 => biTuple S ds
  | .sorted1 box => biSorted box S ds
  | .isi => biIsi S ds
  | .isc _ => .err
  | .maxD => biMaxD S ds
  | .sumLL => biSumLL S ds
  | .str1 => biStr S ds
  | .sortedR box => biSortedR box S ds
/-- is it a receiver for that method -/
def bmOk (m : Bm) (o : D) (S : Sto) : Bool := match m, o with
  | .append, .ref n => match cellAt S n with
    | some (.lst _) => true
    | _ => false
  | .insert, .ref n => match cellAt S n with
    | some (.lst _) => true
    | _ => false
  | .join, .str _ => true
  | .sindex, .str _ => true
  | .remove, .ref n => match cellAt S n with
    | some (.lst _) => true
    | _ => false
  | .pop1, .ref n => match cellAt S n with
    | some (.lst _) => true
    | _ => false
  | .index, d => (lstOf S d).isSome
  | .count, d => (lstOf S d).isSome
  | .clear, .ref n => match cellAt S n with
    | some (.lst _) => true
    | _ => false
  | _, _ => false
def insertAt (xs : List D) (i : Int) (y : D) : List D := xs.take i.toNat ++ [y] ++ xs.drop i.toNat
def bmAppend (S : Sto) (o : D) : List D → R D
  | [y] => match o with
    | .ref n => match cellAt S n with
      | some (.lst xs) => ck (xs.length < sizeLine) (.ok .non (setAt S n (.lst (xs ++ [y]))))
      | _ => .err
    | _ => .err
  | _ => .err
def bmInsert (S : Sto) (o : D) : List D → R D
  | [.int i, y] => match o with
    | .ref n => match cellAt S n with
      | some (.lst xs) => ck (xs.length < sizeLine ∧ 0 ≤ i ∧ i < 2 ^ 63) (.ok .non (setAt S n (.lst (insertAt xs i y))))
      | _ => .err
    | _ => .err
  | _ => .err
def bmJoin (S : Sto) (o : D) : List D → R D
  | [x] => match o with
    | .str a => match (seqOf S x).bind strsD with
      | some ys => ck ((ys.map (·.length)).sum + ys.length * a.length ≤ 16777216) (.ok (.str (Txt.join a ys)) S)
      | none => .err
    | _ => .err
  | _ => .err
def bmRemove (S : Sto) (o : D) : List D → R D
  | [y] => match o with
    | .ref n => match cellAt S n with
      | some (.lst xs) => match xs.findIdx? (fun z => z.eqv y) with
        | some j => ck (D.fzs xs = true ∧ y.fz = true ∧ D.dps xs ≤ 60 ∧ y.dp ≤ 60 ∧ xs.length ≤ sizeLine) (.ok .non (setAt S n (.lst (xs.eraseIdx j))))
        | none => .err
      | _ => .err
    | _ => .err
  | _ => .err
def bmPop (S : Sto) (o : D) : List D → R D
  | [.int i] => match o with
    | .ref n => match cellAt S n with
      | some (.lst xs) => match xs[i.toNat]? with
        | some d => ck (0 ≤ i ∧ i < 1000000) (.ok d (setAt S n (.lst (xs.eraseIdx i.toNat))))
        | none => .err
      | _ => .err
    | _ => .err
  | _ => .err
def bmIndex (S : Sto) (o : D) : List D → R D
  | [y] => match lstOf S o with
    | some xs => match xs.findIdx? (fun z => z.eqv y) with
      | some j => ck (D.fzs xs = true ∧ y.fz = true ∧ D.dps xs ≤ 60 ∧ y.dp ≤ 60) (.ok (.int (j : Nat)) S)
      | none => .err
    | none => .err
  | _ => .err
def isNtp : D → Bool
  | .ntp _ => true
  | _ => false
def tidxR (o x : D) (S : Sto) : R D := match o, x with
  | .ntp xs, .str z => match strsD xs with
    | some ys => match ys.findIdx? (fun y => y == z) with
      | some j => .ok (.int (j : Nat)) S
      | none => .err
    | none => .err
  | _, _ => .err
def bmCount (S : Sto) (o : D) : List D → R D
  | [y] => match lstOf S o with
    | some xs => ck (D.fzs xs = true ∧ y.fz = true ∧ D.dps xs ≤ 60 ∧ y.dp ≤ 60) (.ok (.int (xs.countP fun z => z.eqv y : Nat)) S)
    | none => .err
  | _ => .err
def bmSIndex (S : Sto) (o : D) : List D → R D
  | [.str b] => match o with
    | .str a => match Builtin.Str.occurrences a b 0 a.length 1 with
      | i :: _ => .ok (.int (i : Nat)) S
      | [] => .err
    | _ => .err
  | _ => .err
def bmClear (S : Sto) (o : D) : List D → R D
  | [] => match o with
    | .ref n => match cellAt S n with
      | some (.lst _) => .ok .non (setAt S n (.lst []))
      | _ => .err
    | _ => .err
  | _ => .err
def bmR (m : Bm) (o : D) (ds : List D) (S : Sto) : R D := match m with
  | .append => bmAppend S o ds
  | .insert => bmInsert S o ds
  | .join => bmJoin S o ds
  | .clear => bmClear S o ds
  | .remove => bmRemove S o ds
  | .pop1 => bmPop S o ds
  | .index => bmIndex S o ds
  | .count => bmCount S o ds
  | .sindex => bmSIndex S o ds
  | _ => .err

/-! ### dicts -/
def keyD : D → Option L2.Key
  | .int i => some (.inl i)
  | .str x => some (.inr x)
  | _ => none
def keyV : L2.Key → D
  | .inl i => .int i
  | .inr x => .str x
def dGet (kvs : List (L2.Key × D)) (k : L2.Key) : Option D := (kvs.find? fun kv => decide (kv.1 = k)).map (·.2)
def dPut (kvs : List (L2.Key × D)) (k : L2.Key) (v : D) : List (L2.Key × D) := if (kvs.any fun kv => decide (kv.1 = k)) = true then kvs.map (fun kv => if kv.1 = k then (kv.1, v) else kv) else kvs ++ [(k, v)]
def dDrop (kvs : List (L2.Key × D)) (k : L2.Key) : List (L2.Key × D) := kvs.filter fun kv => decide (kv.1 ≠ k)
def dctOf (S : Sto) : D → Option (Nat × List (L2.Key × D))
  | .ref n => match cellAt S n with
    | some (.dct kvs) => some (n, kvs)
    | _ => none
  | _ => none
/-- a dict to be read: perhaps a walked one -/
def drdOf (S : Sto) : D → Option (List (L2.Key × D))
  | .ref n => match cellAt S n with
    | some (.dct kvs) => some kvs
    | some (.dlk kvs) => some kvs
    | _ => none
  | _ => none
def dlkOf (S : Sto) : D → Option (Nat × List (L2.Key × D))
  | .ref n => match cellAt S n with
    | some (.dlk kvs) => some (n, kvs)
    | _ => none
  | _ => none
def didxR (x y : D) (S : Sto) : R D := match drdOf S x, keyD y with
  | some p, some k => match dGet p k with
    | some d => .ok d S
    | none => .err
  | _, _ => .err
def dinR (neg : Bool) (y x : D) (S : Sto) : R D := match drdOf S x, keyD y with
  | some p, some k => .ok (.bl (if neg then !(dGet p k).isSome else (dGet p k).isSome)) S
  | _, _ => .err
def dget2R (x y z : D) (S : Sto) : R D := match drdOf S x, keyD y with
  | some p, some k => .ok ((dGet p k).getD z) S
  | _, _ => .err
def dpopR (x y : D) (S : Sto) : R D := match dctOf S x, keyD y with
  | some p, some k => match dGet p.2 k with
    | some d => .ok d (setAt S p.1 (.dct (dDrop p.2 k)))
    | none => .err
  | _, _ => .err
def dputR (x y d : D) (S : Sto) : R Unit := match dctOf S x, keyD y with
  | some p, some k => ck (p.2.length < sizeLine) (.ok () (setAt S p.1 (.dct (dPut p.2 k d))))
  | _, _ => .err
def intKs : List (L2.Key × D) → Option (List Int)
  | [] => some []
  | (.inl i, _) :: r => (intKs r).map (i :: ·)
  | _ => none
def strKs : List (L2.Key × D) → Option (List Str)
  | [] => some []
  | (.inr i, _) :: r => (strKs r).map (i :: ·)
  | _ => none
/-- ints, texts in order -/
def srtI (ns : List Int) : List Int := ns.mergeSort fun a b => decide (a ≤ b)
def srtS (ns : List Str) : List Str := ns.mergeSort fun a b => !decide (b.cps.toList < a.cps.toList)
def dsortR (box : Bool) (x : D) (S : Sto) : R D := match dctOf S x with
  | some p => match intKs p.2, strKs p.2 with
    | some ns, _ => ck (ns.length < 64) (mkL box ((srtI ns).map .int) S)
    | none, some ns => ck (ns.length < 64) (mkL box ((srtS ns).map .str) S)
    | none, none => .err
  | none => .err
/-- the pairs that a dict comprehension made -/
def pairsD : List D → Option (List (L2.Key × D))
  | [] => some []
  | .tup [k, v] :: r => match keyD k with
    | some k => (pairsD r).map ((k, v) :: ·)
    | none => none
  | _ => none
def mergeD (es : List (L2.Key × D)) : List (L2.Key × D) := es.foldl (fun acc kv => dPut acc kv.1 kv.2) []
def mkDct (ys : List D) (S : Sto) : R D := match pairsD ys with
  | some es => ck (ys.length < sizeLine) (.ok (.ref S.length) (S ++ [some (.dct (mergeD es))]))
  | none => .err
def keysD : List D → Option (List L2.Key)
  | [] => some []
  | d :: r => match keyD d with
    | some k => (keysD r).map (k :: ·)
    | none => none
/-- how many unlike ones -/
def manyK {κ : Type} [DecidableEq κ] (ks : List κ) : Nat := ks.eraseDups.length
def lenSCR (ys : List D) (S : Sto) : R D := match keysD ys with
  | some ks => ck (ys.length < 1000) (.ok (.int (manyK ks)) S)
  | none => .err
def nubK {κ : Type} [DecidableEq κ] (ks : List κ) : List κ := ks.eraseDups
def lenSR (o : Option (List D)) (S : Sto) : R D := match o with
  | some ys => lenSCR ys S
  | none => .err
def sortSR (o : Option (List D)) (S : Sto) : R D := match o with
  | some ys => match intsD ys, strsD ys with
    | some ns, _ => ck (ns.length < 64) (.ok (.lst ((srtI (nubK ns)).map .int)) S)
    | none, some zs => ck (zs.length < 64) (.ok (.lst ((srtS (nubK zs)).map .str)) S)
    | none, none => .err
  | none => .err
def sortSCR (ys : List D) (S : Sto) : R D := match intsD ys with
  | some ns => ck (ys.length < 64) (.ok (.lst ((srtI ns.eraseDups).map .int)) S)
  | none => .err

/-! ### walks -/
def isRef : D → Bool
  | .ref _ => true
  | _ => false
/-- a list's walk, or a tuple's -/
def kOf : D → Bool
  | .tup _ => false
  | _ => true
inductive Src where
  | fix | box (n : Nat) (xs : List D)
  | dlk (n : Nat) (kvs : List (L2.Key × D))
  | two (a b : Src)
def Src.there (s : Src) (S : Sto) : Prop := match s with
  | .fix => True
  | .box n xs => cellAt S n = some (.lst xs)
  | .dlk n kvs => cellAt S n = some (.dlk kvs)
  | .two a b => a.there S ∧ b.there S
noncomputable instance (s : Src) (S : Sto) : Decidable (s.there S) := Classical.propDecidable _
def walkOf (S : Sto) : D → Option (Src × List D)
  | .tup xs => some (.fix, xs)
  | .lst xs => some (.fix, xs)
  | .scr xs => some (.fix, xs)
  | .str z => some (.fix, z.cps.toList.map fun c => .str ⟨#[c]⟩)
  | .ref n => match cellAt S n with
    | some (.lst xs) => some (.box n xs, xs)
    | _ => none
  | _ => none
/-- a list's walk, no tuple's -/
def walkL (S : Sto) : D → Option (Src × List D)
  | .tup _ => none
  | .str _ => none
  | d => walkOf S d
/-- a walk of a list or a tuple -/
def walkZ (S : Sto) : D → Option (Src × List D)
  | .str _ => none
  | d => walkOf S d
def rngS (lo c : Int) (n : Nat) : List D := (List.range n).map fun (i : Nat) => D.int (lo + (i : Int) * c)
def rngN (i j k : Int) : Nat := ((j - i + k - 1) / k).toNat
def isiT (S : Sto) (x : D) : List String → Option Bool
  | [] => some false
  | t :: ts => match (tyOf S x).bind fun a => kitB a t with
    | some true => some true
    | some false => isiT S x ts
    | none => none
def rngD (lo : Int) (n : Nat) : List D := (List.range n).map fun (i : Nat) => D.int (lo + i)
def enumD (s : Int) (xs : List D) : List D := xs.mapIdx fun i x => .tup [.int (s + i), x]
def zipD (xs ys : List D) : List D := (xs.zip ys).map fun p => .tup [p.1, p.2]
noncomputable def lcLoop (src : Src) (step : D → Sto → R (List D)) : List D → Sto → R (List D)
  | [], S => ck (src.there S) (.ok [] S)
  | d :: ds, S => ck (src.there S) (match step d S with
    | .ok xs S1 => match lcLoop src step ds S1 with
      | .ok ys S2 => .ok (xs ++ ys) S2
      | _ => .err
    | _ => .err)
def wipeE (ρ : Env) : List Nat → Env
  | [] => ρ
  | v :: vs => (wipeE ρ vs).set v none
def smallI (i : Int) : Prop := -(2 ^ 62) ≤ i ∧ i < 2 ^ 62
instance (i : Int) : Decidable (smallI i) := by unfold smallI; infer_instance
def attrR (o : D) (f : Nat) (S : Sto) : R D := match o with
  | .ins _ fs => match fs.lookup f with
    | some d => .ok d S
    | none => .err
  | .ref n => match cellAt S n with
    | some (.ins _ fs) => match fs.lookup f with
      | some d => .ok d S
      | none => .err
    | _ => .err
  | _ => .err
def putFd (f : Nat) (d : D) : List (Nat × D) → List (Nat × D)
  | [] => [(f, d)]
  | (g, e) :: r => if g = f then (g, d) :: r else (g, e) :: putFd f d r
def sattrR (o : D) (f : Nat) (cs : List Nat) (d : D) (S : Sto) : R Unit := match o with
  | .ref n => match cellAt S n with
    | some (.ins c fs) => ck (c ∈ cs ∧ fs.length < 900) (.ok () (setAt S n (.ins c (putFd f d fs))))
    | _ => .err
  | _ => .err
def sidxR (o i d : D) (S : Sto) : R Unit := match o, i with
  | .ref n, .int k => match cellAt S n with
    | some (.lst xs) => ck (0 ≤ k ∧ k < xs.length) (.ok () (setAt S n (.lst (xs.set k.toNat d))))
    | _ => .err
  | _, _ => .err
def sslcR (o l h d : D) (S : Sto) : R Unit := match o, l, h, d with
  | .ref n, .int i, .int j, .lst ys => match cellAt S n with
    | some (.lst xs) => ck (0 ≤ i ∧ i ≤ j ∧ j ≤ xs.length ∧ xs.length + ys.length ≤ sizeLine) (.ok () (setAt S n (.lst (xs.take i.toNat ++ ys ++ xs.drop j.toNat))))
    | _ => .err
  | _, _, _, _ => .err
def frzR (d : D) (S : Sto) : R D := match d with
  | .ref n => match cellAt S n with
    | some (.lst xs) => .ok (.lst xs) (S.set n none)
    | some (.ins c fs) => .ok (.ins c fs) (S.set n none)
    | _ => .err
  | _ => .err
/-- an instance is made: its box, what __init__ does, perhaps frozen -/
def makeR (F : CE) (fr : Bool) (c f : Nat) (arr : List Ar) (ds : List D) (S : Sto) : R D :=
  (callR F f arr (.ref S.length :: ds) (S ++ [some (.ins c [])])).bind fun r S1 => match r with
    | .non => if fr then frzR (.ref S.length) S1 else .ok (.ref S.length) S1
    | _ => .err

/-- a walked dict may be changed again -/
def unlockR {α : Type} (n : Nat) : R α → R α
  | .ok a S => match cellAt S n with
    | some (.dlk kvs) => .ok a (setAt S n (.dct kvs))
    | _ => .err
  | _ => .err
/-- while the dict is locked -/
def lockR {α : Type} (x : R D) (S : Sto) (k : Sto → R α) : R α := match x with
  | .ok (.ref n) _ => match cellAt S n with
    | some (.dct kvs) => unlockR n (k (setAt S n (.dlk kvs)))
    | _ => .err
  | _ => .err
def insOf (S : Sto) : D → Option (Nat × Nat × List (Nat × D))
  | .ref n => match cellAt S n with
    | some (.ins c fs) => some (n, c, fs)
    | _ => none
  | _ => none
def faugPut (n c f : Nat) (z : D) (S : Sto) : R Unit := match cellAt S n with
  | some (.ins c' fs) => ck (c' = c ∧ fs.length < 900) (.ok () (setAt S n (.ins c (putFd f z fs))))
  | _ => .err

def dispR (ks : List L2.Key) : R (List D) → R D
  | .ok ds S => ck (ks.length = ds.length ∧ ks.length ≤ 15) (.ok (.ref S.length) (S ++ [some (.dct (mergeD (ks.zip ds)))]))
  | _ => .err
mutual
noncomputable def ev (F : CE) : E → Env → Sto → R D
  | .var i, ρ, S => match ρ[i]? with
    | some (some d) => .ok d S
    | _ => .err
  | .con d, _, S => .ok d S
  | .bin box op a b, ρ, S => (ev F a ρ S).bind fun x S => (ev F b ρ S).bind fun y S => binR box op x y S
  | .neg a, ρ, S => (ev F a ρ S).bind fun x S => match x with
    | .int i => .ok (.int (-i)) S
    | _ => .err
  | .not a, ρ, S => (ev F a ρ S).bind fun x S => (tru x S).bind fun b S => .ok (.bl (!b)) S
  | .cmp op a b, ρ, S => (ev F a ρ S).bind fun x S => (ev F b ρ S).bind fun y S => cmpR op x y S
  | .chain op op' a b c, ρ, S => (ev F a ρ S).bind fun x S => (ev F b ρ S).bind fun y S => (cmpR op x y S).bind fun z S => (tru z S).bind fun k S =>
      if k = true then (ev F c ρ S).bind fun w S => cmpR op' y w S else .ok (.bl false) S
  | .and a b, ρ, S => (ev F a ρ S).bind fun x S => (tru x S).bind fun k S => if k = true then ev F b ρ S else .ok x S
  | .or a b, ρ, S => (ev F a ρ S).bind fun x S => (tru x S).bind fun k S => if k = true then .ok x S else ev F b ρ S
  | .ife c a b, ρ, S => (ev F c ρ S).bind fun x S => (tru x S).bind fun k S => if k = true then ev F a ρ S else ev F b ρ S
  | .tup es, ρ, S => (evs F es ρ S).bind fun xs S => ck (xs.length ≤ sizeLine) (.ok (.tup xs) S)
  | .lst box es, ρ, S => (evs F es ρ S).bind fun xs S => ck (xs.length ≤ sizeLine) (mkL box xs S)
  | .idx a i, ρ, S => (ev F a ρ S).bind fun x S => (ev F i ρ S).bind fun y S => idxR x y S
  | .slc box a lo hi, ρ, S => (ev F a ρ S).bind fun x S => (evp F lo ρ S).bind fun l S => (evp F hi ρ S).bind fun h S => slcR box x l h S
  | .rev box a, ρ, S => (ev F a ρ S).bind fun x S => match x with
    | .tup xs => .ok (.tup xs.reverse) S
    | _ => match seqOf S x with
      | some xs => mkL box xs.reverse S
      | none => .err
  | .lc box own tg it ifs elt, ρ, S => (evIt F it ρ S).bind fun w S =>
      (lcLoop w.1 (fun d S => (asg F tg d (wipeE ρ own) S).bind fun ρ1 S => (evIfs F ifs ρ1 S).bind fun k S => if k = true then (ev F elt ρ1 S).bind fun y S => .ok [y] S else .ok [] S) w.2 S).bind fun ys S => ck (ys.length ≤ sizeLine) (mkL box ys S)
  | .lc2 box own own1 tg it ifs tg1 it1 ifs1 elt, ρ, S => (evIt F it ρ S).bind fun w S =>
      (lcLoop w.1 (fun d S => (asg F tg d (wipeE ρ own) S).bind fun ρ1 S => (evIfs F ifs ρ1 S).bind fun k S => if k = true then
        (evIt F it1 ρ1 S).bind fun w1 S => lcLoop w1.1 (fun d1 S => (asg F tg1 d1 (wipeE ρ1 own1) S).bind fun ρ2 S => (evIfs F ifs1 ρ2 S).bind fun k S => if k = true then (ev F elt ρ2 S).bind fun y S => .ok [y] S else .ok [] S) w1.2 S
        else .ok [] S) w.2 S).bind fun ys S => ck (ys.length ≤ sizeLine) (mkL box ys S)
  | .call f arr es, ρ, S => (evs F es ρ S).bind fun xs S => callR F f arr xs S
  | .meth o ms es, ρ, S => (ev F o ρ S).bind fun x S => match (clsOf S x).bind fun c => ms.lookup c with
    | some (f, arr) => (evs F es ρ S).bind fun xs S => callR F f arr (x :: xs) S
    | none => .err
  | .make fr c f arr es, ρ, S => (evs F es ρ S).bind fun xs S => makeR F fr c f arr xs S
  | .attr o f, ρ, S => (ev F o ρ S).bind fun x S => attrR x f S
  | .bi b es, ρ, S => (evs F es ρ S).bind fun xs S => biR b xs S
  | .bm m o es, ρ, S => (ev F o ρ S).bind fun x S => ck (bmOk m x S = true) ((evs F es ρ S).bind fun xs S => bmR m x xs S)
  | .frz a, ρ, S => (ev F a ρ S).bind fun x S => frzR x S
  | .trng a b, ρ, S => (ev F a ρ S).bind fun x S => (ev F b ρ S).bind fun y S => match x, y with
    | .int i, .int j => ck (smallI i ∧ smallI j ∧ (j - i).toNat ≤ 2 ^ 24) (.ok (.tup (rngD i (j - i).toNat)) S)
    | _, _ => .err
  | .isit a ts, ρ, S => (ev F a ρ S).bind fun x S => match isiT S x ts with
    | some b => ck (ts.length ≤ 100) (.ok (.bl b) S)
    | none => .err
  | .lrng box a b, ρ, S => (ev F a ρ S).bind fun x S => (ev F b ρ S).bind fun y S => match x, y with
    | .int i, .int j => ck (smallI i ∧ smallI j ∧ (j - i).toNat ≤ 2 ^ 24) (mkL box (rngD i (j - i).toNat) S)
    | _, _ => .err
  | .dnew, _, S => .ok (.ref S.length) (S ++ [some (.dct [])])
  | .didx o k, ρ, S => (ev F o ρ S).bind fun x S => (ev F k ρ S).bind fun y S => didxR x y S
  | .din neg k o, ρ, S => (ev F k ρ S).bind fun y S => (ev F o ρ S).bind fun x S => dinR neg y x S
  | .dget2 o k z, ρ, S => (ev F o ρ S).bind fun x S => ck ((drdOf S x).isSome = true) ((ev F k ρ S).bind fun y S => (ev F z ρ S).bind fun v S => dget2R x y v S)
  | .dpop o k, ρ, S => (ev F o ρ S).bind fun x S => ck ((dctOf S x).isSome = true) ((ev F k ρ S).bind fun y S => dpopR x y S)
  | .dsort box o, ρ, S => (ev F o ρ S).bind fun x S => dsortR box x S
  | .dcomp own tg it ifs k v, ρ, S => (evIt F it ρ S).bind fun w S =>
      (lcLoop w.1 (fun d S => (asg F tg d (wipeE ρ own) S).bind fun ρ1 S => (evIfs F ifs ρ1 S).bind fun b S => if b = true then (ev F k ρ1 S).bind fun y S => (ev F v ρ1 S).bind fun z S => .ok [.tup [y, z]] S else .ok [] S) w.2 S).bind fun ys S => mkDct ys S
  | .lenSC own tg it ifs elt, ρ, S => (evIt F it ρ S).bind fun w S =>
      (lcLoop w.1 (fun d S => (asg F tg d (wipeE ρ own) S).bind fun ρ1 S => (evIfs F ifs ρ1 S).bind fun b S => if b = true then (ev F elt ρ1 S).bind fun y S => .ok [y] S else .ok [] S) w.2 S).bind fun ys S => lenSCR ys S
  | .sortSC own tg it ifs elt, ρ, S => (evIt F it ρ S).bind fun w S =>
      (lcLoop w.1 (fun d S => (asg F tg d (wipeE ρ own) S).bind fun ρ1 S => (evIfs F ifs ρ1 S).bind fun b S => if b = true then (ev F elt ρ1 S).bind fun y S => .ok [y] S else .ok [] S) w.2 S).bind fun ys S => sortSCR ys S
  | .lenS a, ρ, S => (ev F a ρ S).bind fun x S => lenSR (seqOf S x) S
  | .sortS a, ρ, S => (ev F a ρ S).bind fun x S => sortSR (seqOf S x) S
  | .tidx o x, ρ, S => (ev F o ρ S).bind fun a S => ck (isNtp a = true) ((ev F x ρ S).bind fun b S => tidxR a b S)
  | .ntup a, ρ, S => (ev F a ρ S).bind fun x S => match lstOf S x with
    | some xs => .ok (.ntp xs) S
    | none => .err
  | .untup a, ρ, S => (ev F a ρ S).bind fun x S => match x with
    | .ntp xs => .ok (.tup xs) S
    | _ => .err
  | .ddisp ks es, ρ, S => dispR ks (evs F es ρ S)
  | .lock d e, ρ, S => lockR (ev F d ρ S) S fun S => ev F e ρ S
noncomputable def evs (F : CE) : List E → Env → Sto → R (List D)
  | [], _, S => .ok [] S
  | e :: es, ρ, S => (ev F e ρ S).bind fun x S => (evs F es ρ S).bind fun xs S => .ok (x :: xs) S
noncomputable def evp (F : CE) : Option E → Env → Sto → R (Option Int)
  | none, _, S => .ok none S
  | some e, ρ, S => (ev F e ρ S).bind fun x S => match x with
    | .int i => .ok (some i) S
    | _ => .err
noncomputable def evIfs (F : CE) : List E → Env → Sto → R Bool
  | [], _, S => .ok true S
  | e :: es, ρ, S => (ev F e ρ S).bind fun x S => (tru x S).bind fun k S => if k = true then evIfs F es ρ S else .ok false S
noncomputable def evIt (F : CE) : It → Env → Sto → R (Src × List D)
  | .e a, ρ, S => (ev F a ρ S).bind fun x S => match walkOf S x with
    | some w => .ok w S
    | none => .err
  | .rng1 a, ρ, S => (ev F a ρ S).bind fun x S => match x with
    | .int j => ck (smallI j) (.ok (.fix, rngD 0 j.toNat) S)
    | _ => .err
  | .rng2 a b, ρ, S => (ev F a ρ S).bind fun x S => (ev F b ρ S).bind fun y S => match x, y with
    | .int i, .int j => ck (smallI i ∧ smallI j) (.ok (.fix, rngD i (j - i).toNat) S)
    | _, _ => .err
  | .rng3 a b c, ρ, S => (ev F a ρ S).bind fun x S => (ev F b ρ S).bind fun y S => (ev F c ρ S).bind fun z S => match x, y, z with
    | .int i, .int j, .int k => ck (smallI i ∧ smallI j ∧ i ≤ j ∧ 0 < k ∧ k < 1073741824) (.ok (.fix, rngS i k (rngN i j k)) S)
    | _, _, _ => .err
  | .zipb a b, ρ, S => (ev F a ρ S).bind fun x S => (ev F b ρ S).bind fun y S => match walkZ S x, walkZ S y with
    | some v, some w => ck (kOf x = kOf y) (.ok (.two v.1 w.1, zipD v.2 w.2) S)
    | _, _ => .err
  | .items o, ρ, S => (ev F o ρ S).bind fun x S => match dlkOf S x with
    | some p => .ok (.dlk p.1 p.2, p.2.map fun kv => .tup [keyV kv.1, kv.2]) S
    | none => .err
  | .keys o, ρ, S => (ev F o ρ S).bind fun x S => match dlkOf S x with
    | some p => .ok (.dlk p.1 p.2, p.2.map fun kv => keyV kv.1) S
    | none => .err
  | .enum s a, ρ, S => (ev F a ρ S).bind fun x S => (evp F s ρ S).bind fun i S => match walkL S x with
    | some w => ck (i = none) (.ok (w.1, enumD 0 w.2) S)
    | none => .err
  | .enumS a s, ρ, S => (ev F a ρ S).bind fun x S => (ev F s ρ S).bind fun y S => match walkL S x, y with
    | some w, .int i => ck (smallI i) (.ok (w.1, enumD i w.2) S)
    | _, _ => .err
  | .zip strict a b, ρ, S => (ev F a ρ S).bind fun x S => (ev F b ρ S).bind fun y S => match seqOf S x, seqOf S y with
    | some xs, some ys => ck ((strict = true → xs.length = ys.length) ∧ isRef x = false ∧ isRef y = false ∧ (strict = true ∨ kOf x = kOf y)) (.ok (.fix, zipD xs ys) S)
    | _, _ => .err
noncomputable def asg (F : CE) : Tg → D → Env → Sto → R Env
  | .var i, d, ρ, S => .ok (ρ.set i (some d)) S
  | .tup ts, d, ρ, S => match seqOf S d with
    | some xs => ck (xs.length = ts.length) (asgs F ts xs ρ S)
    | none => .err
  | .tups ts, d, ρ, S => match seqOf S d with
    | some xs => ck (1 ≤ ts.length ∧ ts.length ≤ xs.length + 1 ∧ xs.length ≤ 16384) (asgs F ts (xs.take (ts.length - 1) ++ [.lst (xs.drop (ts.length - 1))]) ρ S)
    | none => .err
  | .slc o lo hi, d, ρ, S => (ev F o ρ S).bind fun x S => (ev F lo ρ S).bind fun l S => (ev F hi ρ S).bind fun h S => (sslcR x l h d S).bind fun _ S => .ok ρ S
  | .idx o i, d, ρ, S => (ev F o ρ S).bind fun x S => (ev F i ρ S).bind fun y S => (sidxR x y d S).bind fun _ S => .ok ρ S
  | .attr o f cs, d, ρ, S => (ev F o ρ S).bind fun x S => (sattrR x f cs d S).bind fun _ S => .ok ρ S
  | .didx o k, d, ρ, S => (ev F o ρ S).bind fun x S => (ev F k ρ S).bind fun y S => (dputR x y d S).bind fun _ S => .ok ρ S
noncomputable def asgs (F : CE) : List Tg → List D → Env → Sto → R Env
  | [], _, ρ, S => .ok ρ S
  | t :: ts, d :: ds, ρ, S => (asg F t d ρ S).bind fun ρ S => asgs F ts ds ρ S
  | _ :: _, [], _, _ => .err
end

/-! ### statements -/
inductive Fl where
  | next (ρ : Env) | ret (d : D) | brk (ρ : Env) | cont (ρ : Env) | raised (x : Exc) (ρ : Env)
/-- an expression's result within a statement: what is raised leaves it -/
def R.go {α : Type} (r : R α) (ρ : Env) (f : α → Sto → R Fl) : R Fl := match r with
  | .ok a S => f a S
  | .exc x S => .ok (.raised x ρ) S
  | .err => .err
@[simp] theorem R.go_ok {α : Type} (a : α) (S : Sto) (ρ : Env) (f : α → Sto → R Fl) : (R.ok a S).go ρ f = f a S := rfl
@[simp] theorem R.go_err {α : Type} (ρ : Env) (f : α → Sto → R Fl) : (R.err : R α).go ρ f = .err := rfl
@[simp] theorem R.go_exc {α : Type} (x : Exc) (S : Sto) (ρ : Env) (f : α → Sto → R Fl) : (R.exc x S : R α).go ρ f = .ok (.raised x ρ) S := rfl
/-- nothing is raised here -/
def R.st {α β : Type} (r : R α) (f : α → Sto → R β) : R β := match r with
  | .ok a S => f a S
  | _ => .err
@[simp] theorem R.st_ok {α β : Type} (a : α) (S : Sto) (f : α → Sto → R β) : (R.ok a S).st f = f a S := rfl
@[simp] theorem R.st_err {α β : Type} (f : α → Sto → R β) : (R.err : R α).st f = .err := rfl
/-- behind a statement -/
def R.fl (r : R Fl) (f : Env → Sto → R Fl) : R Fl := match r with
  | .ok (.next ρ) S => f ρ S
  | .ok w S => .ok w S
  | _ => .err
@[simp] theorem R.fl_next (ρ : Env) (S : Sto) (f : Env → Sto → R Fl) : (R.ok (.next ρ) S : R Fl).fl f = f ρ S := rfl
@[simp] theorem R.fl_ret (d : D) (S : Sto) (f : Env → Sto → R Fl) : (R.ok (.ret d) S : R Fl).fl f = .ok (.ret d) S := rfl
@[simp] theorem R.fl_brk (ρ : Env) (S : Sto) (f : Env → Sto → R Fl) : (R.ok (.brk ρ) S : R Fl).fl f = .ok (.brk ρ) S := rfl
@[simp] theorem R.fl_cont (ρ : Env) (S : Sto) (f : Env → Sto → R Fl) : (R.ok (.cont ρ) S : R Fl).fl f = .ok (.cont ρ) S := rfl
@[simp] theorem R.fl_raised (x : Exc) (ρ : Env) (S : Sto) (f : Env → Sto → R Fl) : (R.ok (.raised x ρ) S : R Fl).fl f = .ok (.raised x ρ) S := rfl
@[simp] theorem R.fl_err (f : Env → Sto → R Fl) : (R.err : R Fl).fl f = .err := rfl
/-- behind a turn of a loop -/
def R.turn (r : R Fl) (f : Env → Sto → R Fl) : R Fl := match r with
  | .ok (.next ρ) S => f ρ S
  | .ok (.cont ρ) S => f ρ S
  | .ok (.brk ρ) S => .ok (.next ρ) S
  | .ok w S => .ok w S
  | _ => .err
@[simp] theorem R.turn_next (ρ : Env) (S : Sto) (f : Env → Sto → R Fl) : (R.ok (.next ρ) S : R Fl).turn f = f ρ S := rfl
@[simp] theorem R.turn_cont (ρ : Env) (S : Sto) (f : Env → Sto → R Fl) : (R.ok (.cont ρ) S : R Fl).turn f = f ρ S := rfl
@[simp] theorem R.turn_brk (ρ : Env) (S : Sto) (f : Env → Sto → R Fl) : (R.ok (.brk ρ) S : R Fl).turn f = .ok (.next ρ) S := rfl
@[simp] theorem R.turn_ret (d : D) (S : Sto) (f : Env → Sto → R Fl) : (R.ok (.ret d) S : R Fl).turn f = .ok (.ret d) S := rfl
@[simp] theorem R.turn_raised (x : Exc) (ρ : Env) (S : Sto) (f : Env → Sto → R Fl) : (R.ok (.raised x ρ) S : R Fl).turn f = .ok (.raised x ρ) S := rfl
noncomputable def forLoop (src : Src) (step : D → Env → Sto → R Fl) : List D → Env → Sto → R Fl
  | [], ρ, S => ck (src.there S) (.ok (.next ρ) S)
  | d :: ds, ρ, S => ck (src.there S) ((step d ρ S).turn fun ρ1 S1 => forLoop src step ds ρ1 S1)
def whileLoop (test : Env → Sto → R Bool) (body : Env → Sto → R Fl) : Nat → Env → Sto → R Fl
  | 0, _, _ => .err
  | n + 1, ρ, S => (test ρ S).go ρ fun k S => if k = true then (body ρ S).turn fun ρ1 S1 => whileLoop test body n ρ1 S1 else .ok (.next ρ) S
def augR (op : Bop) (x y : D) (S : Sto) : R D := match op, x, y with
  | .add, .int i, .int j => .ok (.int (i + j)) S
  | .add, .str a, .str b => ck (a.length + b.length ≤ sizeLine) (.ok (.str (a ++ b)) S)
  | .add, .ref n, y => match cellAt S n, unbox S y with
    | some (.lst xs), .lst ys => ck (xs.length + ys.length ≤ sizeLine ∧ isRef y = false) (.ok (.ref n) (setAt S n (.lst (xs ++ ys))))
    | _, _ => .err
  | .sub, .int i, .int j => .ok (.int (i - j)) S
  | .mul, .int i, .int j => ck (mulOk i j) (.ok (.int (i * j)) S)
  | _, _, _ => .err
/-- what is raised is not told -/
def noRaise (r : R Fl) : R Fl := match r with
  | .ok (.raised _ _) _ => .err
  | r => r
mutual
noncomputable def ex (F : CE) : St → Env → Sto → R Fl
  | .expr e, ρ, S => (ev F e ρ S).go ρ fun _ S => .ok (.next ρ) S
  | .asg t e, ρ, S => (ev F e ρ S).go ρ fun d S => (asg F t d ρ S).st fun ρ S => .ok (.next ρ) S
  | .aug i op e, ρ, S => match ρ[i]? with
    | some (some x) => ((ev F e ρ S).bind fun y S => augR op x y S).go ρ fun z S => .ok (.next (ρ.set i (some z))) S
    | _ => .err
  | .ite c a b, ρ, S => ((ev F c ρ S).bind fun x S => tru x S).go ρ fun k S => if k = true then exs F a ρ S else exs F b ρ S
  | .for t it body, ρ, S => (evIt F it ρ S).go ρ fun w S => forLoop w.1 (fun d ρ S => (asg F t d ρ S).st fun ρ S => exs F body ρ S) w.2 ρ S
  | .while c body, ρ, S => whileLoop (fun ρ S => (ev F c ρ S).bind fun x S => tru x S) (fun ρ S => exs F body ρ S) 1000000 ρ S
  | .ret e, ρ, S => (ev F e ρ S).go ρ fun d S => .ok (.ret d) S
  | .retN, _, S => .ok (.ret .non) S
  | .brk, ρ, S => .ok (.brk ρ) S
  | .cont, ρ, S => .ok (.cont ρ) S
  | .pass, ρ, S => .ok (.next ρ) S
  | .lock d st, ρ, S => lockR (ev F d ρ S) S fun S => noRaise (ex F st ρ S)
  | .blk b, ρ, S => exs F b ρ S
  | .raise, _, _ => .err
  | .faug o f op e, ρ, S => ((ev F o ρ S).bind fun x S => match insOf S x with
    | some p => match p.2.2.lookup f with
      | some old => (ev F e ρ S).bind fun y S => (augR op old y S).bind fun z S => faugPut p.1 p.2.1 f z S
      | none => .err
    | none => .err).go ρ fun _ S => .ok (.next ρ) S
noncomputable def exs (F : CE) : List St → Env → Sto → R Fl
  | [], ρ, S => .ok (.next ρ) S
  | st :: sts, ρ, S => (ex F st ρ S).fl fun ρ S => exs F sts ρ S
end
/-- a def's body on its parameters; n: how many slots -/
noncomputable def run (F : CE) (n : Nat) (body : List St) (ds : List D) (S : Sto) : R D :=
  match exs F body (ds.map some ++ List.replicate (n - ds.length) none) S with
    | .ok (.ret d) S => .ok d S
    | .ok (.next _) S => .ok .non S
    | .ok (.raised x _) S => .exc x S
    | _ => .err
structure Fn where
  np : Nat
  n : Nat
  body : List St
noncomputable def callN (T : List Fn) : Nat → CE
  | 0, _, _, _ => .err
  | k + 1, f, ds, S => match T[f]? with
    | some d => ck (ds.length = d.np) (run (callN T k) d.n d.body ds S)
    | none => .err
end Iv

/-! ### what stands for what -/
namespace Iv
open PySem PySem.Spec PyProof.Rows L2

/-- where the boxes stand; what nobody may look at meanwhile (the list that a comprehension makes) -/
structure Mp where
  box : Nat → Option Addr
  hid : Addr → Prop
instance : CoeFun Mp (fun _ => Nat → Option Addr) := ⟨Mp.box⟩
structure Gs where
  K : PySem.W.Frag
  ca : Nat → Addr
  fn : Nat → Str
  /-- the names of attributes that the program has -/
  fok : Nat → Prop
  finj : ∀ f f', fok f → fok f' → fn f = fn f' → f = f'
  xr : Mp → Nat → Hp → Exc → Value → Option Addr → Prop

/-- a text that the library's rules take -/
def okS (x : Str) : Prop := x.length ≤ sizeLine ∧ ∀ c ∈ x.cps.toList, c < 1114112
def Off (m : Mp) (a : Addr) : Prop := (∀ i, m i ≠ some a) ∧ ¬ m.hid a
/-- a tuple that nothing hangs on -/
def NtpAt (m : Mp) (H : Hp) (a : Addr) (vs : List V) : Prop := ∃ o : Obj, H a = some (.frz o (.tup vs)) ∧ o.cls = .type "tuple" ∧ o.dict = none ∧ Off m a
def TupAt (g : Gs) (m : Mp) (H : Hp) (a : Addr) (vs : List V) : Prop := (H a = some (.tup vs) ∧ Off m a) ∨ (∀ H', SqT g.K H' a vs) ∨ NtpAt m H a vs
def ScrAt (g : Gs) (m : Mp) (H : Hp) (a : Addr) (vs : List V) : Prop := (∃ o, H a = some (.frz o (.lst vs)) ∧ Off m a) ∨ ∀ H', SqL g.K H' a vs
def insOk (g : Gs) (c : Nat) (fs : List (Nat × D)) : Prop := Cls g.K (g.ca c) ∧ fs.length ≤ 900 ∧ ∀ f, f ∈ fs.map (·.1) → g.fok f ∧ NoAttr g.K (g.ca c) (g.fn f)
mutual
def Rel (g : Gs) (m : Mp) (n : Nat) (H : Hp) : D → V → Prop
  | .non, v => v = .non
  | .bl b, v => v = .bl b
  | .int i, v => v = .int i
  | .str x, v => v = .str x ∧ okS x
  | .tup xs, v => ∃ a vs, v = .ref a ∧ TupAt g m H a vs ∧ Rels g m n H xs vs
  | .lst xs, v => ∃ a vs, v = .ref a ∧ (H a = some (.lst vs) ∧ Off m a) ∧ Rels g m n H xs vs
  | .scr xs, v => ∃ a vs, v = .ref a ∧ ScrAt g m H a vs ∧ Rels g m n H xs vs
  | .ref i, v => i < n ∧ ∃ a, v = .ref a ∧ ∀ b, m i = some b → b = a
  | .ins c fs, v => ∃ a dx gs, v = .ref a ∧ (H a = some (.ins (g.ca c) dx gs) ∧ Off m a) ∧ insOk g c fs ∧ RelFs g m n H fs gs
  | .ty t, v => v = .ty t
  | .ntp xs, v => ∃ a vs, v = .ref a ∧ NtpAt m H a vs ∧ Rels g m n H xs vs
def Rels (g : Gs) (m : Mp) (n : Nat) (H : Hp) : List D → List V → Prop
  | [], vs => vs = []
  | x :: xs, vs => ∃ w ws, vs = w :: ws ∧ Rel g m n H x w ∧ Rels g m n H xs ws
def RelFs (g : Gs) (m : Mp) (n : Nat) (H : Hp) : List (Nat × D) → List (Str × V) → Prop
  | [], gs => gs = []
  | (f, d) :: r, gs => ∃ v gr, gs = (g.fn f, v) :: gr ∧ Rel g m n H d v ∧ RelFs g m n H r gr
end
/-- what is locked stays -/
def Fz (H H' : Hp) : Prop := ∀ a o u, H a = some (.frz o u) → H' a = some (.frz o u)
def NoFz (o : Option HO) : Prop := ∀ ob u, o ≠ some (.frz ob u)
theorem NoFz.of {o : Option HO} {u : HO} (h : o = some u) (d : ∀ ob v, u ≠ .frz ob v) : NoFz o := fun ob v z => d ob v (Option.some.inj (h.symm.trans z))
/-- more of the heap, other boxes -/
structure Ext (m : Mp) (n : Nat) (H : Hp) (m' : Mp) (n' : Nat) (H' : Hp) : Prop where
  le : n ≤ n'
  old : ∀ i a, i < n → m' i = some a → m i = some a
  keep : ∀ a o, H a = some o → Off m a → H' a = some o ∧ Off m' a
  hid : ∀ a, m.hid a → m'.hid a ∧ H' a = H a
  fz : Fz H H'
/-- the same, whatever is hidden -/
structure ExtW (m : Mp) (n : Nat) (H : Hp) (m' : Mp) (n' : Nat) (H' : Hp) : Prop where
  le : n ≤ n'
  old : ∀ i a, i < n → m' i = some a → m i = some a
  keep : ∀ a o, H a = some o → Off m a → H' a = some o ∧ Off m' a
section
variable {g : Gs} {m m1 m2 m3 : Mp} {n n1 n2 n3 : Nat} {H H1 H2 H3 : Hp} {a b : Addr}
theorem Ext.w (x : Ext m1 n1 H1 m2 n2 H2) : ExtW m1 n1 H1 m2 n2 H2 := ⟨x.le, x.old, x.keep⟩
theorem Ext.refl : Ext m n H m n H := ⟨Nat.le_refl _, fun _ _ _ e => e, fun _ _ e o => ⟨e, o⟩, fun _ h => ⟨h, rfl⟩, fun _ _ _ e => e⟩
theorem Fz.upd {o : HO} (h : NoFz (H a)) : Fz H (upd H a o) := fun b ob u e => by
  have ne : b ≠ a := fun z => by subst z; exact h ob u e
  rw [upd_ne ne]; exact e
theorem NoFz.none (h : H a = none) : NoFz (H a) := fun ob u z => by rw [h] at z; cases z
theorem Ext.trans (x : Ext m1 n1 H1 m2 n2 H2) (y : Ext m2 n2 H2 m3 n3 H3) : Ext m1 n1 H1 m3 n3 H3 :=
  ⟨Nat.le_trans x.le y.le, fun i a h e => x.old i a h (y.old i a (Nat.lt_of_lt_of_le h x.le) e), fun a o e f => let ⟨e1, f1⟩ := x.keep a o e f; y.keep a o e1 f1,
    fun a h => let ⟨h1, e1⟩ := x.hid a h; let ⟨h2, e2⟩ := y.hid a h1; ⟨h2, e2.trans e1⟩, fun a o u e => y.fz a o u (x.fz a o u e)⟩
theorem NtpAt.monoW {vs : List V} (x : ExtW m1 n1 H1 m2 n2 H2) (h : NtpAt m1 H1 a vs) : NtpAt m2 H2 a vs := by
  obtain ⟨o, e, c, d, f⟩ := h
  obtain ⟨e', f'⟩ := x.keep _ _ e f
  exact ⟨o, e', c, d, f'⟩
theorem TupAt.monoW {vs : List V} (x : ExtW m1 n1 H1 m2 n2 H2) (h : TupAt g m1 H1 a vs) : TupAt g m2 H2 a vs := by
  rcases h with ⟨e, o⟩ | h | h
  · exact .inl (x.keep _ _ e o)
  · exact .inr (.inl h)
  · exact .inr (.inr (h.monoW x))
theorem ScrAt.monoW {vs : List V} (x : ExtW m1 n1 H1 m2 n2 H2) (h : ScrAt g m1 H1 a vs) : ScrAt g m2 H2 a vs := by
  rcases h with ⟨ob, e, o⟩ | h
  · exact .inl ⟨ob, x.keep _ _ e o⟩
  · exact .inr h
theorem NtpAt.sq {vs : List V} (h : NtpAt m H a vs) : SqT g.K H a vs := by
  obtain ⟨o, e, _⟩ := h
  exact .inl (.inr ⟨o, e⟩)
theorem TupAt.sq {vs : List V} (h : TupAt g m H a vs) : SqT g.K H a vs := by
  rcases h with ⟨e, _⟩ | h | h
  · exact .inl (.inl e)
  · exact h H
  · exact h.sq
theorem ScrAt.sq {vs : List V} (h : ScrAt g m H a vs) : SqL g.K H a vs := by
  rcases h with ⟨o, e, _⟩ | h
  · exact .inl (.inr ⟨o, e⟩)
  · exact h H
mutual
theorem Rel.monoW (x : ExtW m1 n1 H1 m2 n2 H2) : ∀ (d : D) (v : V), Rel g m1 n1 H1 d v → Rel g m2 n2 H2 d v
  | .non, _, h => by unfold Rel at h ⊢; exact h
  | .bl _, _, h => by unfold Rel at h ⊢; exact h
  | .int _, _, h => by unfold Rel at h ⊢; exact h
  | .str _, _, h => by unfold Rel at h ⊢; exact h
  | .ty _, _, h => by unfold Rel at h ⊢; exact h
  | .tup xs, _, h => by
    unfold Rel at h ⊢
    obtain ⟨a, vs, e, t, r⟩ := h
    exact ⟨a, vs, e, t.monoW x, Rels.monoW x xs vs r⟩
  | .lst xs, _, h => by
    unfold Rel at h ⊢
    obtain ⟨a, vs, e, ⟨t, o⟩, r⟩ := h
    exact ⟨a, vs, e, x.keep _ _ t o, Rels.monoW x xs vs r⟩
  | .scr xs, _, h => by
    unfold Rel at h ⊢
    obtain ⟨a, vs, e, t, r⟩ := h
    exact ⟨a, vs, e, t.monoW x, Rels.monoW x xs vs r⟩
  | .ntp xs, _, h => by
    unfold Rel at h ⊢
    obtain ⟨a, vs, e, t, r⟩ := h
    exact ⟨a, vs, e, t.monoW x, Rels.monoW x xs vs r⟩
  | .ref i, _, h => by
    unfold Rel at h ⊢
    obtain ⟨l, a, e, q⟩ := h
    exact ⟨Nat.lt_of_lt_of_le l x.le, a, e, fun b hb => q b (x.old i b l hb)⟩
  | .ins c fs, _, h => by
    unfold Rel at h ⊢
    obtain ⟨a, dx, gs, e, ⟨t, o⟩, k, r⟩ := h
    exact ⟨a, dx, gs, e, x.keep _ _ t o, k, RelFs.monoW x fs gs r⟩
theorem Rels.monoW (x : ExtW m1 n1 H1 m2 n2 H2) : ∀ (ds : List D) (vs : List V), Rels g m1 n1 H1 ds vs → Rels g m2 n2 H2 ds vs
  | [], _, h => by unfold Rels at h ⊢; exact h
  | d :: ds, _, h => by
    unfold Rels at h ⊢
    obtain ⟨w, ws, e, r, q⟩ := h
    exact ⟨w, ws, e, Rel.monoW x d w r, Rels.monoW x ds ws q⟩
theorem RelFs.monoW (x : ExtW m1 n1 H1 m2 n2 H2) : ∀ (ds : List (Nat × D)) (vs : List (Str × V)), RelFs g m1 n1 H1 ds vs → RelFs g m2 n2 H2 ds vs
  | [], _, h => by unfold RelFs at h ⊢; exact h
  | (f, d) :: ds, _, h => by
    unfold RelFs at h ⊢
    obtain ⟨w, ws, e, r, q⟩ := h
    exact ⟨w, ws, e, Rel.monoW x d w r, RelFs.monoW x ds ws q⟩
end

theorem TupAt.mono {vs : List V} (x : Ext m1 n1 H1 m2 n2 H2) (h : TupAt g m1 H1 a vs) : TupAt g m2 H2 a vs := h.monoW x.w
theorem ScrAt.mono {vs : List V} (x : Ext m1 n1 H1 m2 n2 H2) (h : ScrAt g m1 H1 a vs) : ScrAt g m2 H2 a vs := h.monoW x.w
theorem Rel.mono (x : Ext m1 n1 H1 m2 n2 H2) (d : D) (v : V) (h : Rel g m1 n1 H1 d v) : Rel g m2 n2 H2 d v := Rel.monoW x.w d v h
theorem Rels.mono (x : Ext m1 n1 H1 m2 n2 H2) (ds : List D) (vs : List V) (h : Rels g m1 n1 H1 ds vs) : Rels g m2 n2 H2 ds vs := Rels.monoW x.w ds vs h
theorem RelFs.mono (x : Ext m1 n1 H1 m2 n2 H2) (ds : List (Nat × D)) (vs : List (Str × V)) (h : RelFs g m1 n1 H1 ds vs) : RelFs g m2 n2 H2 ds vs := RelFs.monoW x.w ds vs h

/-! lists of related things -/
theorem Rels.length : ∀ {ds : List D} {vs : List V}, Rels g m n H ds vs → ds.length = vs.length
  | [], _, h => by unfold Rels at h; rw [h]; rfl
  | d :: ds, _, h => by
    unfold Rels at h
    obtain ⟨w, ws, rfl, _, q⟩ := h
    rw [List.length_cons, List.length_cons, Rels.length q]
theorem Rels.get : ∀ {ds : List D} {vs : List V} {i : Nat} {d : D}, Rels g m n H ds vs → ds[i]? = some d → ∃ v, vs[i]? = some v ∧ Rel g m n H d v
  | [], _, _, _, _, e => by simp at e
  | x :: xs, _, 0, d, h, e => by
    unfold Rels at h
    obtain ⟨w, ws, rfl, r, _⟩ := h
    simp at e
    subst e
    exact ⟨w, rfl, r⟩
  | x :: xs, _, i + 1, d, h, e => by
    unfold Rels at h
    obtain ⟨w, ws, rfl, _, q⟩ := h
    simpa using Rels.get (i := i) q (by simpa using e)
theorem Rels.nil : Rels g m n H [] [] := by unfold Rels; rfl
theorem Rels.cons {d : D} {v : V} {ds : List D} {vs : List V} (h : Rel g m n H d v) (r : Rels g m n H ds vs) : Rels g m n H (d :: ds) (v :: vs) := by
  unfold Rels
  exact ⟨v, vs, rfl, h, r⟩
theorem Rels.one {d : D} {vs : List V} (h : Rels g m n H [d] vs) : ∃ v, vs = [v] ∧ Rel g m n H d v := by
  unfold Rels at h
  obtain ⟨w, ws, rfl, r, q⟩ := h
  unfold Rels at q
  exact ⟨w, by rw [q], r⟩
theorem Rels.two {d e : D} {vs : List V} (h : Rels g m n H [d, e] vs) : ∃ v w, vs = [v, w] ∧ Rel g m n H d v ∧ Rel g m n H e w := by
  unfold Rels at h
  obtain ⟨w, ws, rfl, r, q⟩ := h
  obtain ⟨z, rfl, s⟩ := q.one
  exact ⟨w, z, rfl, r, s⟩
theorem Rels.append : ∀ {ds es : List D} {vs ws : List V}, Rels g m n H ds vs → Rels g m n H es ws → Rels g m n H (ds ++ es) (vs ++ ws)
  | [], _, _, _, h, r => by
    unfold Rels at h
    rw [h]
    exact r
  | d :: ds, _, _, _, h, r => by
    unfold Rels at h
    obtain ⟨w, ws, rfl, a, q⟩ := h
    exact Rels.cons a (Rels.append q r)
theorem Rels.take : ∀ {ds : List D} {vs : List V} (k : Nat), Rels g m n H ds vs → Rels g m n H (ds.take k) (vs.take k)
  | _, _, 0, _ => by rw [List.take_zero, List.take_zero]; exact Rels.nil
  | [], _, k + 1, h => by
    unfold Rels at h
    rw [h]
    exact Rels.nil
  | d :: ds, _, k + 1, h => by
    unfold Rels at h
    obtain ⟨w, ws, rfl, a, q⟩ := h
    exact Rels.cons a (Rels.take k q)
theorem Rels.drop : ∀ {ds : List D} {vs : List V} (k : Nat), Rels g m n H ds vs → Rels g m n H (ds.drop k) (vs.drop k)
  | _, _, 0, h => h
  | [], _, k + 1, h => by
    unfold Rels at h
    rw [h]
    exact Rels.nil
  | d :: ds, _, k + 1, h => by
    unfold Rels at h
    obtain ⟨w, ws, rfl, a, q⟩ := h
    exact Rels.drop k q
theorem Rels.reverse : ∀ {ds : List D} {vs : List V}, Rels g m n H ds vs → Rels g m n H ds.reverse vs.reverse
  | [], _, h => by
    unfold Rels at h
    rw [h]
    exact Rels.nil
  | d :: ds, _, h => by
    unfold Rels at h
    obtain ⟨w, ws, rfl, a, q⟩ := h
    rw [List.reverse_cons, List.reverse_cons]
    exact Rels.append (Rels.reverse q) (Rels.cons a Rels.nil)
theorem Rels.set : ∀ {ds : List D} {vs : List V} {d : D} {v : V} (k : Nat), Rels g m n H ds vs → Rel g m n H d v → Rels g m n H (ds.set k d) (vs.set k v)
  | [], _, _, _, k, h, _ => by
    unfold Rels at h
    rw [h]
    exact Rels.nil
  | x :: xs, _, _, _, 0, h, r => by
    unfold Rels at h
    obtain ⟨w, ws, rfl, a, q⟩ := h
    exact Rels.cons r q
  | x :: xs, _, _, _, k + 1, h, r => by
    unfold Rels at h
    obtain ⟨w, ws, rfl, a, q⟩ := h
    exact Rels.cons a (Rels.set k q r)
theorem Rels.of : ∀ {ds : List D} {vs : List V}, ds.length = vs.length → (∀ (i : Nat) (d : D) (v : V), ds[i]? = some d → vs[i]? = some v → Rel g m n H d v) → Rels g m n H ds vs
  | [], [], _, _ => Rels.nil
  | d :: ds, v :: vs, l, h => Rels.cons (h 0 d v rfl rfl) (Rels.of (Nat.succ.inj l) fun i d v a b => h (i + 1) d v (by simpa using a) (by simpa using b))
  | [], _ :: _, l, _ => by cases l
  | _ :: _, [], l, _ => by cases l

/-! the store and the heap -/
/-- a text key is one that the library's rules take -/
def okKey : L2.Key → Prop
  | .inl _ => True
  | .inr x => okS x
def RelKs (g : Gs) (m : Mp) (n : Nat) (H : Hp) : List (L2.Key × D) → List (L2.Key × V) → Prop
  | [], gs => gs = []
  | (k, d) :: r, gs => ∃ v gr, gs = (k, v) :: gr ∧ okKey k ∧ Rel g m n H d v ∧ RelKs g m n H r gr
theorem RelKs.monoW (x : ExtW m1 n1 H1 m2 n2 H2) : ∀ {ds : List (L2.Key × D)} {vs : List (L2.Key × V)}, RelKs g m1 n1 H1 ds vs → RelKs g m2 n2 H2 ds vs
  | [], _, h => h
  | (k, d) :: r, _, h => let ⟨v, gr, e, ok, q, q2⟩ := h; ⟨v, gr, e, ok, Rel.monoW x _ _ q, RelKs.monoW x q2⟩
def CellR (g : Gs) (m : Mp) (n : Nat) (H : Hp) (a : Addr) : Cell → Prop
  | .lst xs => ∃ vs, H a = some (.lst vs) ∧ Rels g m n H xs vs
  | .ins c fs => ∃ dx gs, H a = some (.ins (g.ca c) dx gs) ∧ insOk g c fs ∧ RelFs g m n H fs gs
  | .dct kvs => ∃ kws, H a = some (.dK kws) ∧ RelKs g m n H kvs kws
  | .dlk kvs => ∃ o kws, H a = some (.frz o (.dK kws)) ∧ RelKs g m n H kvs kws
structure RS (g : Gs) (m : Mp) (S : Sto) (H : Hp) : Prop where
  dom : ∀ i a, m i = some a → ∃ c, cellAt S i = some c ∧ CellR g m S.length H a c
  all : ∀ i c, cellAt S i = some c → ∃ a, m i = some a
  inj : ∀ i j a, m i = some a → m j = some a → i = j
  hidS : ∀ a, m.hid a → (∃ o, H a = some o) ∧ ∀ i, m i ≠ some a
theorem CellR.monoW {c : Cell} (x : ExtW m1 n1 H1 m2 n2 H2) (e : H2 a = H1 a) (h : CellR g m1 n1 H1 a c) : CellR g m2 n2 H2 a c := by
  cases c with
  | lst xs =>
    obtain ⟨vs, k, r⟩ := h
    exact ⟨vs, e.trans k, Rels.monoW x _ _ r⟩
  | ins c fs =>
    obtain ⟨dx, gs, k, q, r⟩ := h
    exact ⟨dx, gs, e.trans k, q, RelFs.monoW x _ _ r⟩
  | dct kvs =>
    obtain ⟨kws, k, r⟩ := h
    exact ⟨kws, e.trans k, RelKs.monoW x r⟩
  | dlk kvs =>
    obtain ⟨o, kws, k, r⟩ := h
    exact ⟨o, kws, e.trans k, RelKs.monoW x r⟩
theorem CellR.mono {c : Cell} (x : Ext m1 n1 H1 m2 n2 H2) (e : H2 a = H1 a) (h : CellR g m1 n1 H1 a c) : CellR g m2 n2 H2 a c := h.monoW x.w e
theorem CellR.some {c : Cell} (h : CellR g m n H a c) : ∃ o, H a = some o := by
  cases c with
  | lst xs => obtain ⟨vs, k, _⟩ := h; exact ⟨_, k⟩
  | ins c fs => obtain ⟨dx, gs, k, _⟩ := h; exact ⟨_, k⟩
  | dct kvs => obtain ⟨kws, k, _⟩ := h; exact ⟨_, k⟩
  | dlk kvs => obtain ⟨o, kws, k, _⟩ := h; exact ⟨_, k⟩
variable {S S1 S2 : Sto} {i j : Nat}
theorem RS.lt (r : RS g m S H) (e : m i = some a) : i < S.length := by
  obtain ⟨c, k, _⟩ := r.dom i a e
  unfold cellAt at k
  cases q : S[i]? with
  | none => rw [q] at k; cases k
  | some o => exact (List.getElem?_eq_some_iff.mp q).1
theorem RS.at (r : RS g m S H) {c : Cell} (e : cellAt S i = some c) : ∃ a, m i = some a ∧ CellR g m S.length H a c := by
  obtain ⟨a, h⟩ := r.all i c e
  obtain ⟨c', e', k⟩ := r.dom i a h
  rw [e] at e'
  cases e'
  exact ⟨a, h, k⟩
theorem Rel.box (r : RS g m S H) {c : Cell} {v : V} (h : Rel g m S.length H (.ref i) v) (e : cellAt S i = some c) : ∃ a, v = .ref a ∧ m i = some a ∧ CellR g m S.length H a c := by
  obtain ⟨a, k, q⟩ := r.at e
  unfold Rel at h
  obtain ⟨_, b, rfl, hb⟩ := h
  rw [← hb a k]
  exact ⟨a, rfl, k, q⟩
/-- nobody's box stands at a free place -/
theorem Off.free (r : RS g m S H) (e : H a = none) : Off m a := by
  refine ⟨fun i k => ?_, fun h => ?_⟩
  · obtain ⟨c, _, q⟩ := r.dom i a k
    obtain ⟨o', e'⟩ := q.some
    rw [e] at e'
    cases e'
  · obtain ⟨⟨o, q⟩, _⟩ := r.hidS a h
    rw [e] at q
    cases q
/-- a thing is laid that no box holds -/
theorem Ext.laid {o : HO} (r : RS g m S H) (e : H a = none) : Ext m n H m n (upd H a o) :=
  ⟨Nat.le_refl _, fun _ _ _ e => e, fun b ob k f => ⟨by rw [upd_ne (ne_of_none k e)]; exact k, f⟩, fun b h => ⟨h, upd_ne fun z => (Off.free r e).2 (by rw [← z]; exact h)⟩, Fz.upd (NoFz.none e)⟩
theorem RS.laid {o : HO} (r : RS g m S H) (e : H a = none) : RS g m S (upd H a o) :=
  ⟨fun i b k => let ⟨c, h, q⟩ := r.dom i b k; ⟨c, h, q.mono (Ext.laid r e) (upd_ne fun z => (Off.free r e).1 i (by rw [← z]; exact k))⟩, r.all, r.inj,
    fun b h => let ⟨⟨ob, k⟩, f⟩ := r.hidS b h; ⟨⟨ob, by rw [upd_ne (ne_of_none k e)]; exact k⟩, f⟩⟩
/-- a new box -/
def mNew (m : Mp) (n : Nat) (a : Addr) : Mp := ⟨fun i => if i = n then some a else m i, m.hid⟩
theorem mNew_same : mNew m n a n = some a := if_pos rfl
theorem mNew_ne (h : i ≠ n) : mNew m n a i = m i := if_neg h
theorem Ext.new {o : HO} (r : RS g m S H) (e : H a = none) : Ext m S.length H (mNew m S.length a) (S.length + 1) (upd H a o) := by
  refine ⟨Nat.le_succ _, fun i b l k => ?_, fun b ob k f => ⟨by rw [upd_ne (ne_of_none k e)]; exact k, fun i q => ?_, f.2⟩, fun b h => ⟨h, upd_ne fun z => (Off.free r e).2 (by rw [← z]; exact h)⟩, Fz.upd (NoFz.none e)⟩
  · rw [mNew_ne (Nat.ne_of_lt l)] at k
    exact k
  · by_cases hi : i = S.length
    · rw [hi, mNew_same] at q
      cases q
      rw [e] at k
      cases k
    · rw [mNew_ne hi] at q
      exact f.1 i q
theorem cellAt_push_lt {c : Option Cell} (h : i < S.length) : cellAt (S ++ [c]) i = cellAt S i := by
  unfold cellAt
  rw [List.getElem?_append_left h]
theorem cellAt_push {c : Option Cell} : cellAt (S ++ [c]) S.length = c := by
  unfold cellAt
  rw [List.getElem?_append_right (Nat.le_refl _), Nat.sub_self]
  cases c <;> rfl
theorem cellAt_lt {c : Cell} (h : cellAt S i = some c) : i < S.length := by
  unfold cellAt at h
  cases q : S[i]? with
  | none => rw [q] at h; cases h
  | some o => exact (List.getElem?_eq_some_iff.mp q).1
theorem RS.new {o : HO} {c : Cell} (r : RS g m S H) (e : H a = none) (hc : CellR g (mNew m S.length a) (S.length + 1) (upd H a o) a c) : RS g (mNew m S.length a) (S ++ [some c]) (upd H a o) := by
  have x := Ext.new (o := o) r e
  refine ⟨fun i b k => ?_, fun i c' k => ?_, fun i j b h1 h2 => ?_, fun b h => ?_⟩
  · rw [List.length_append, List.length_singleton]
    by_cases hi : i = S.length
    · subst hi
      rw [mNew_same] at k
      cases k
      exact ⟨c, cellAt_push, hc⟩
    · rw [mNew_ne hi] at k
      obtain ⟨c', h, q⟩ := r.dom i b k
      exact ⟨c', by rw [cellAt_push_lt (r.lt k)]; exact h, q.mono x (upd_ne fun z => (Off.free r e).1 i (by rw [← z]; exact k))⟩
  · by_cases hi : i = S.length
    · exact ⟨a, by rw [hi, mNew_same]⟩
    · have hl := cellAt_lt k
      rw [List.length_append, List.length_singleton] at hl
      have hl' : i < S.length := by omega
      rw [cellAt_push_lt hl'] at k
      rw [mNew_ne hi]
      exact r.all i c' k
  · by_cases hi : i = S.length
    · by_cases hj : j = S.length
      · rw [hi, hj]
      · rw [hi, mNew_same] at h1
        cases h1
        rw [mNew_ne hj] at h2
        exact absurd h2 ((Off.free r e).1 j)
    · rw [mNew_ne hi] at h1
      by_cases hj : j = S.length
      · rw [hj, mNew_same] at h2
        cases h2
        exact absurd h1 ((Off.free r e).1 i)
      · rw [mNew_ne hj] at h2
        exact r.inj i j b h1 h2
  · obtain ⟨⟨ob, k⟩, f⟩ := r.hidS b h
    refine ⟨⟨ob, by rw [upd_ne (ne_of_none k e)]; exact k⟩, fun i q => ?_⟩
    by_cases hi : i = S.length
    · rw [hi, mNew_same] at q
      cases q
      rw [e] at k
      cases k
    · rw [mNew_ne hi] at q
      exact f i q
/-- a box is changed -/
theorem Ext.set {o : HO} (r : RS g m S H) (k : m i = some a) (nf : NoFz (H a) := by first | exact NoFz.of (u := .lst _) (by assumption) (fun _ _ z => nomatch z) | exact NoFz.of (u := .ins _ _ _) (by assumption) (fun _ _ z => nomatch z) | exact NoFz.of (u := .dK _) (by assumption) (fun _ _ z => nomatch z)) : Ext m n H m n (upd H a o) :=
  ⟨Nat.le_refl _, fun _ _ _ e => e, fun b ob e f => ⟨by rw [upd_ne fun z => f.1 i (by rw [z]; exact k)]; exact e, f⟩, fun b h => ⟨h, upd_ne fun z => (r.hidS b h).2 i (by rw [z]; exact k)⟩, Fz.upd nf⟩
theorem cellAt_set_same {c : Option Cell} (h : i < S.length) : cellAt (S.set i c) i = c := by
  unfold cellAt
  rw [List.getElem?_set_self h]
  cases c <;> rfl
theorem cellAt_set_ne {c : Option Cell} (h : j ≠ i) : cellAt (S.set i c) j = cellAt S j := by
  unfold cellAt
  rw [List.getElem?_set_ne (Ne.symm h)]
theorem ExtW.set {o : HO} (r : RS g m S H) (k : m i = some a) : ExtW m n H m n (upd H a o) :=
  ⟨Nat.le_refl _, fun _ _ _ e => e, fun b ob e f => ⟨by rw [upd_ne fun z => f.1 i (by rw [z]; exact k)]; exact e, f⟩⟩
theorem RS.set {o : HO} {c : Cell} (r : RS g m S H) (k : m i = some a) (hc : CellR g m S.length (upd H a o) a c) : RS g m (setAt S i c) (upd H a o) := by
  have x := ExtW.set (n := S.length) (o := o) r k
  unfold setAt
  refine ⟨fun j b h => ?_, fun j c' h => ?_, r.inj, fun b h => let ⟨⟨ob, q⟩, f⟩ := r.hidS b h; ⟨⟨ob, by rw [upd_ne fun z => f i (by rw [z]; exact k)]; exact q⟩, f⟩⟩
  · rw [List.length_set]
    by_cases hj : j = i
    · subst hj
      rw [k] at h
      cases h
      exact ⟨c, cellAt_set_same (r.lt k), hc⟩
    · obtain ⟨c', q, w⟩ := r.dom j b h
      exact ⟨c', by rw [cellAt_set_ne hj]; exact q, w.monoW x (upd_ne fun z => hj (r.inj j i a (by rw [← z]; exact h) k))⟩
  · by_cases hj : j = i
    · exact ⟨a, by rw [hj]; exact k⟩
    · rw [cellAt_set_ne hj] at h
      exact r.all j c' h
/-- a box is given up: its thing stays as it is -/
def mDel (m : Mp) (i : Nat) : Mp := ⟨fun j => if j = i then none else m j, m.hid⟩
theorem mDel_same : mDel m i i = none := if_pos rfl
theorem mDel_ne (h : j ≠ i) : mDel m i j = m j := if_neg h
theorem Ext.del : Ext m n H (mDel m i) n H := by
  refine ⟨Nat.le_refl _, fun j b _ k => ?_, fun b o e f => ⟨e, fun j k => ?_, f.2⟩, fun b h => ⟨h, rfl⟩, fun _ _ _ e => e⟩
  · by_cases hj : j = i
    · rw [hj, mDel_same] at k
      cases k
    · rw [mDel_ne hj] at k
      exact k
  · by_cases hj : j = i
    · rw [hj, mDel_same] at k
      cases k
    · rw [mDel_ne hj] at k
      exact f.1 j k
theorem RS.del (r : RS g m S H) (k : m i = some a) : RS g (mDel m i) (S.set i none) H ∧ Off (mDel m i) a := by
  refine ⟨⟨fun j b h => ?_, fun j c' h => ?_, fun j l b h1 h2 => ?_, fun b h => ⟨(r.hidS b h).1, fun j q => ?_⟩⟩, fun j h => ?_, fun h => (r.hidS a h).2 i k⟩
  · rw [List.length_set]
    by_cases hj : j = i
    · rw [hj, mDel_same] at h
      cases h
    · rw [mDel_ne hj] at h
      obtain ⟨c, q, w⟩ := r.dom j b h
      exact ⟨c, by rw [cellAt_set_ne hj]; exact q, w.mono Ext.del rfl⟩
  · by_cases hj : j = i
    · rw [hj, cellAt_set_same (r.lt k)] at h
      cases h
    · rw [cellAt_set_ne hj] at h
      rw [mDel_ne hj]
      exact r.all j c' h
  · by_cases hj : j = i
    · rw [hj, mDel_same] at h1
      cases h1
    · by_cases hl : l = i
      · rw [hl, mDel_same] at h2
        cases h2
      · rw [mDel_ne hj] at h1
        rw [mDel_ne hl] at h2
        exact r.inj j l b h1 h2
  · by_cases hj : j = i
    · rw [hj, mDel_same] at q
      cases q
    · rw [mDel_ne hj] at q
      exact (r.hidS b h).2 j q
  · by_cases hj : j = i
    · rw [hj, mDel_same] at h
      cases h
    · rw [mDel_ne hj] at h
      exact hj (r.inj j i a h k)
end
end Iv

/-! ### results and their wishes; operators -/
namespace Iv
open PySem PySem.Spec PyProof.Rows L2

def WP {α β : Type} (g : Gs) (W : Value → Option Addr → Hp → Prop) (Rr : Mp → Nat → Hp → α → β → Prop) (m : Mp) (n : Nat) (H : Hp) (r : R α) (Q : β → Hp → Prop) : Prop := match r with
  | .ok a S' => ∀ m' H' b, Ext m n H m' S'.length H' → RS g m' S' H' → Rr m' S'.length H' a b → Q b H'
  | .exc x S' => ∀ m' H' c d, Ext m n H m' S'.length H' → RS g m' S' H' → g.xr m' S'.length H' x c d → W c d H'
  | .err => False
section
variable {α β γ δ : Type} {g : Gs} {W : Value → Option Addr → Hp → Prop} {Ra : Mp → Nat → Hp → α → β → Prop} {Rb : Mp → Nat → Hp → γ → δ → Prop} {m m1 : Mp} {n n1 : Nat} {H H1 : Hp} {S : Sto}
theorem WP.from {r : R α} {Q : β → Hp → Prop} (x : Ext m n H m1 n1 H1) (h : WP g W Ra m n H r Q) : WP g W Ra m1 n1 H1 r Q := by
  cases r with
  | ok a S' => exact fun m' H' b y => h m' H' b (x.trans y)
  | exc e S' => exact fun m' H' c d y => h m' H' c d (x.trans y)
  | err => exact h
theorem WP.bind {r : R α} {f : α → Sto → R γ} {Q : δ → Hp → Prop} (h : WP g W Rb m n H (r.bind f) Q) :
    WP g W Ra m n H r (fun b H1 => ∃ m1 S1 a, Ext m n H m1 S1.length H1 ∧ RS g m1 S1 H1 ∧ Ra m1 S1.length H1 a b ∧ WP g W Rb m1 S1.length H1 (f a S1) Q) := by
  cases r with
  | ok a S' => exact fun m' H' b x rs ra => ⟨m', S', a, x, rs, ra, WP.from x h⟩
  | exc e S' => exact h
  | err => exact h
theorem WP.now {a : α} {b : β} {Q : β → Hp → Prop} (h : WP g W Ra m S.length H (.ok a S) Q) (rs : RS g m S H) (ra : Ra m S.length H a b) : Q b H := h m H b Ext.refl rs ra
theorem WP.ck {c : Prop} [Decidable c] {r : R α} {Q : β → Hp → Prop} (h : WP g W Ra m n H (ck c r) Q) : c ∧ WP g W Ra m n H r Q := by
  unfold Iv.ck at h
  by_cases hc : c
  · rw [if_pos hc] at h
    exact ⟨hc, h⟩
  · rw [if_neg hc] at h
    exact h.elim
theorem WP.imp {r : R α} {Q Q' : β → Hp → Prop} (h : WP g W Ra m n H r Q) (k : ∀ b H', Q b H' → Q' b H') : WP g W Ra m n H r Q' := by
  cases r with
  | ok a S' => exact fun m' H' b x rs ra => k _ _ (h m' H' b x rs ra)
  | exc e S' => exact h
  | err => exact h
theorem WP.err {Q : β → Hp → Prop} {P : Prop} (h : WP g W Ra m n H .err Q) : P := False.elim h
end
section
variable {g : Gs} {m : Mp} {n : Nat} {H : Hp} {v : V}
theorem rel_non : Rel g m n H .non v = (v = .non) := by unfold Rel; rfl
theorem rel_bl {b : Bool} : Rel g m n H (.bl b) v = (v = .bl b) := by unfold Rel; rfl
theorem rel_int {i : Int} : Rel g m n H (.int i) v = (v = .int i) := by unfold Rel; rfl
theorem rel_str {x : Str} : Rel g m n H (.str x) v = (v = .str x ∧ okS x) := by unfold Rel; rfl
theorem rel_ty {x : String} : Rel g m n H (.ty x) v = (v = .ty x) := by unfold Rel; rfl
theorem rel_tup {xs : List D} : Rel g m n H (.tup xs) v = ∃ a vs, v = .ref a ∧ TupAt g m H a vs ∧ Rels g m n H xs vs := by rw [Rel]
theorem rel_lst {xs : List D} : Rel g m n H (.lst xs) v = ∃ a vs, v = .ref a ∧ (H a = some (.lst vs) ∧ Off m a) ∧ Rels g m n H xs vs := by rw [Rel]
theorem rel_scr {xs : List D} : Rel g m n H (.scr xs) v = ∃ a vs, v = .ref a ∧ ScrAt g m H a vs ∧ Rels g m n H xs vs := by rw [Rel]
theorem rel_ntp {xs : List D} : Rel g m n H (.ntp xs) v = ∃ a vs, v = .ref a ∧ NtpAt m H a vs ∧ Rels g m n H xs vs := by rw [Rel]
theorem rel_ref {i : Nat} : Rel g m n H (.ref i) v = (i < n ∧ ∃ a, v = .ref a ∧ ∀ b, m i = some b → b = a) := by rw [Rel]
theorem rel_ins {c : Nat} {fs : List (Nat × D)} : Rel g m n H (.ins c fs) v = ∃ a dx gs, v = .ref a ∧ (H a = some (.ins (g.ca c) dx gs) ∧ Off m a) ∧ insOk g c fs ∧ RelFs g m n H fs gs := by rw [Rel]
end
theorem okS.ok {x : Str} (h : okS x) : PyData.strOk x = true := by
  unfold PyData.strOk
  rw [Array.all_eq_true']
  intro c hc
  exact decide_eq_true (h.2 c (Array.mem_toList_iff.mpr hc))
theorem OpR.imp {X : Cx} {f : Value → Value → Sem Value} {r r' : R2} (h : OpR X f r) (k : ∀ x y H Q, r' x y H Q → r x y H Q) : OpR X f r' :=
  fun pins s σ H x y v u Q I rx ry q => h pins s σ H x y v u Q I rx ry (k _ _ _ _ q)
theorem CallR.imp {X : Cx} {f : Value} {r r' : List V → Hp → VK → Prop} (h : CallR X f r) (k : ∀ xs H Q, r' xs H Q → r xs H Q) : CallR X f r' :=
  fun pins s σ H xs us Q I rx q => h pins s σ H xs us Q I rx (k _ _ _ q)
theorem MtR.imp {X : Cx} {id : String} {r r' : V → List V → Hp → VK → Prop} (h : MtR X id r) (k : ∀ x xs H Q, r' x xs H Q → r x xs H Q) : MtR X id r' :=
  fun pins s σ H x xs v us Q I rx rs q => h pins s σ H x xs v us Q I rx rs (k _ _ _ _ q)
theorem IxR.imp {X : Cx} {r r' : R2} (h : IxR X r) (k : ∀ x y H Q, r' x y H Q → r x y H Q) : IxR X r' :=
  fun value slice pins s σ H x y v u Q I rx ry q => h value slice pins s σ H x y v u Q I rx ry (k _ _ _ _ q)

section
variable {g : Gs} {W : Value → Option Addr → Hp → Prop} {m : Mp} {n : Nat} {H : Hp} {S : Sto} {Q : VK} {d e : D} {v x y : V} {xs ys : List D} {vs : List V}
theorem unbox_ref {i : Nat} : unbox S (.ref i) = match cellAt S i with
    | some (.lst xs) => .lst xs
    | _ => .ref i := rfl
theorem seqOf_ref {i : Nat} : seqOf S (.ref i) = match cellAt S i with
    | some (.lst xs) => some xs
    | _ => none := rfl
/-- a box or a frozen list, read -/
theorem unbox_rel (rs : RS g m S H) (h : Rel g m S.length H d v) (e : unbox S d = .lst xs) : ∃ a vs, v = .ref a ∧ H a = some (.lst vs) ∧ Rels g m S.length H xs vs := by
  cases d with
  | lst zs =>
    have e' : D.lst zs = D.lst xs := e
    cases e'
    rw [rel_lst] at h
    obtain ⟨a, vs, rfl, ⟨k, _⟩, r⟩ := h
    exact ⟨a, vs, rfl, k, r⟩
  | ref i =>
    rw [unbox_ref] at e
    split at e
    · rename_i zs hz
      cases e
      obtain ⟨a, rfl, _, vs, k, r⟩ := h.box rs hz
      exact ⟨a, vs, rfl, k, r⟩
    · cases e
  | _ => exact absurd e (by unfold unbox; intro z; cases z)
theorem seqOf_rel (rs : RS g m S H) (h : Rel g m S.length H d v) (e : seqOf S d = some xs) : ∃ a vs, v = .ref a ∧ Rels g m S.length H xs vs ∧
    ((SqL g.K H a vs ∧ ∀ zs, d ≠ .tup zs) ∨ (TupAt g m H a vs ∧ d = .tup xs)) := by
  cases d with
  | tup zs =>
    have e' : some zs = some xs := e
    cases e'
    rw [rel_tup] at h
    obtain ⟨a, vs, rfl, k, r⟩ := h
    exact ⟨a, vs, rfl, r, .inr ⟨k, rfl⟩⟩
  | lst zs =>
    have e' : some zs = some xs := e
    cases e'
    rw [rel_lst] at h
    obtain ⟨a, vs, rfl, ⟨k, _⟩, r⟩ := h
    exact ⟨a, vs, rfl, r, .inl ⟨SqL.of k, fun _ z => by cases z⟩⟩
  | scr zs =>
    have e' : some zs = some xs := e
    cases e'
    rw [rel_scr] at h
    obtain ⟨a, vs, rfl, k, r⟩ := h
    exact ⟨a, vs, rfl, r, .inl ⟨k.sq, fun _ z => by cases z⟩⟩
  | ref i =>
    rw [seqOf_ref] at e
    split at e
    · rename_i zs hz
      cases e
      obtain ⟨a, rfl, _, vs, k, r⟩ := h.box rs hz
      exact ⟨a, vs, rfl, r, .inl ⟨SqL.of k, fun _ z => by cases z⟩⟩
    · cases e
  | _ => exact absurd e (by unfold seqOf; intro z; cases z)
theorem seqOf_sq (rs : RS g m S H) (h : Rel g m S.length H d v) (e : seqOf S d = some xs) : ∃ a vs, v = .ref a ∧ Rels g m S.length H xs vs ∧ (SqL g.K H a vs ∨ SqT g.K H a vs) := by
  obtain ⟨a, vs, rfl, r, k⟩ := seqOf_rel rs h e
  refine ⟨a, vs, rfl, r, ?_⟩
  rcases k with ⟨k, _⟩ | ⟨k, _⟩
  · exact .inl k
  · exact .inr k.sq
/-- a new list, a new tuple -/
theorem mkL_ok {box : Bool} (rs : RS g m S H) (r : Rels g m S.length H xs vs) (w : WP g W (Rel g) m S.length H (mkL box xs S) Q) {p : Addr} (hp : H p = none) : Q (.ref p) (upd H p (.lst vs)) := by
  cases box with
  | false =>
    refine w m _ (.ref p) (Ext.laid rs hp) (rs.laid hp) ?_
    rw [rel_lst]
    exact ⟨p, vs, rfl, ⟨upd_same, Off.free rs hp⟩, Rels.mono (Ext.laid rs hp) _ _ r⟩
  | true =>
    have x := Ext.new (o := HO.lst vs) rs hp
    have l : (S ++ [some (Cell.lst xs)]).length = S.length + 1 := by rw [List.length_append, List.length_singleton]
    refine w (mNew m S.length p) _ (.ref p) (by rw [l]; exact x) (rs.new hp ⟨vs, upd_same, Rels.mono x _ _ r⟩) ?_
    rw [rel_ref, l]
    exact ⟨Nat.lt_succ_self _, p, rfl, fun b hb => by rw [mNew_same] at hb; cases hb; rfl⟩
theorem mkT_ok (rs : RS g m S H) (r : Rels g m S.length H xs vs) (w : WP g W (Rel g) m S.length H (.ok (.tup xs) S) Q) {p : Addr} (hp : H p = none) : Q (.ref p) (upd H p (.tup vs)) := by
  refine w m _ (.ref p) (Ext.laid rs hp) (rs.laid hp) ?_
  rw [rel_tup]
  exact ⟨p, vs, rfl, .inl ⟨upd_same, Off.free rs hp⟩, Rels.mono (Ext.laid rs hp) _ _ r⟩
theorem okS.append {a b : Str} (ha : okS a) (hb : okS b) (l : a.length + b.length ≤ sizeLine) : okS (a ++ b) := by
  refine ⟨by rw [PySem.Str.length_append]; exact l, fun c hc => ?_⟩
  have hc' : c ∈ (a.cps ++ b.cps).toList := hc
  rw [Array.toList_append] at hc'
  rcases List.mem_append.mp hc' with h | h
  · exact ha.2 c h
  · exact hb.2 c h
/-- two related things and what an operator tells of them -/
def r2 (g : Gs) (f : D → D → Sto → R D) : R2 := fun x y H Q => ∃ m S d e W, RS g m S H ∧ Rel g m S.length H d x ∧ Rel g m S.length H e y ∧ WP g W (Rel g) m S.length H (f d e S) Q
variable {X : Cx}
theorem op_addI (hK : X.K = g.K) {box : Bool} : OpR X (binaryOp .Add) (r2 g (addR box)) := by
  refine OpR.imp (op_add.or (op_add_str.or (op_catA.or op_cat))) fun x y H Q ⟨m, S, d, e, W, rs, rd, re, w⟩ => ?_
  unfold addR at w
  split at w
  · rw [rel_int] at rd re
    subst rd re
    exact .inl ⟨_, _, rfl, rfl, w.now rs (by rw [rel_int])⟩
  · rw [rel_str] at rd re
    obtain ⟨rfl, o1⟩ := rd
    obtain ⟨rfl, o2⟩ := re
    obtain ⟨c, w⟩ := w.ck
    exact .inr (.inl ⟨_, _, rfl, rfl, c, w.now rs (by rw [rel_str]; exact ⟨rfl, o1.append o2 c⟩)⟩)
  · rename_i as bs
    rw [rel_tup] at rd re
    obtain ⟨a, vs, rfl, ta, ra⟩ := rd
    obtain ⟨b, ws, rfl, tb, rb⟩ := re
    obtain ⟨c, w⟩ := w.ck
    rw [ra.length, rb.length] at c
    refine .inr (.inr (.inl ⟨a, b, vs, ws, rfl, rfl, by rw [hK]; exact ta.sq, by rw [hK]; exact tb.sq, c, fun z => ?_, fun _ z => ?_, fun _ _ p hp => mkT_ok rs (ra.append rb) w hp⟩))
    · subst z
      have : as = [] := List.length_eq_zero_iff.mp ra.length
      subst this
      exact w.now rs (by rw [rel_tup]; exact ⟨b, ws, rfl, tb, rb⟩)
    · subst z
      have : bs = [] := List.length_eq_zero_iff.mp rb.length
      subst this
      rw [List.append_nil] at w
      exact w.now rs (by rw [rel_tup]; exact ⟨a, vs, rfl, ta, ra⟩)
  · split at w
    · rename_i ha hb
      obtain ⟨a, vs, rfl, ka, ra⟩ := unbox_rel rs rd ha
      obtain ⟨b, ws, rfl, kb, rb⟩ := unbox_rel rs re hb
      obtain ⟨c, w⟩ := w.ck
      rw [ra.length, rb.length] at c
      exact .inr (.inr (.inr ⟨a, b, vs, ws, rfl, rfl, ka, kb, c, fun p hp => mkL_ok rs (ra.append rb) w hp⟩))
    · exact w.err
theorem op_I {f : Value → Value → Sem Value} {C : Int → Int → Prop} {k : Int → Int → Int} [∀ i j, Decidable (C i j)] {F : D → D → Sto → R D} (h : OpR X f (rI C fun i j => .int (k i j)))
    (hF : ∀ d e S, (∃ i j, d = .int i ∧ e = .int j ∧ F d e S = ck (C i j) (.ok (.int (k i j)) S)) ∨ F d e S = .err) : OpR X f (r2 g F) := by
  refine OpR.imp h fun x y H Q ⟨m, S, d, e, W, rs, rd, re, w⟩ => ?_
  rcases hF d e S with ⟨i, j, rfl, rfl, q⟩ | q
  · rw [q] at w
    rw [rel_int] at rd re
    obtain ⟨c, w⟩ := w.ck
    exact ⟨i, j, rd, re, c, w.now rs (by rw [rel_int])⟩
  · rw [q] at w
    exact w.err
theorem mulOk_small {z : Str} {j : Int} (h1 : z.length ≤ 1000) (h2 : 0 ≤ j) (h3 : j ≤ 1000) : PySem.MulOk z j := by
  refine ⟨by rw [decide_eq_false (by omega), decide_eq_false (by omega)]; rfl, fun a _ => ?_, fun a _ => ?_⟩
  · have : (9223372036854775 : Int) ≤ (2 ^ 63 - 1) / j := by
      refine (Int.le_ediv_iff_mul_le (by omega)).mpr ?_
      omega
    omega
  · unfold Builtin.Str.tooLong
    refine decide_eq_false (Nat.not_lt.mpr ?_)
    refine Nat.le_trans (Nat.mul_le_mul h1 (show j.toNat ≤ 1000 by omega)) (by decide)
theorem op_mulStr {X : Cx} : OpR X (binaryOp .Mult) (fun x y H Q => ∃ z j, x = .str z ∧ y = .int j ∧ PySem.MulOk z j ∧ Q (.str (Txt.mul z j)) H) := by
  intro pins s σ H x y v u Q I rx ry h
  obtain ⟨z, j, rfl, rfl, hz, q⟩ := h
  obtain ⟨t, rfl⟩ := rx
  obtain ⟨t', rfl⟩ := ry
  exact PySem.SB.mul hz (fun t' tk => ⟨.str (Txt.mul z j), H, I.tok _, ⟨_, rfl⟩, q⟩)
theorem mem_rep {c : Nat} {x : Array Nat} : ∀ (n : Nat) (acc : Array Nat), c ∈ ((List.replicate n x).foldl (· ++ ·) acc).toList → c ∈ acc.toList ∨ c ∈ x.toList
  | 0, acc, h => .inl h
  | n + 1, acc, h => by
    rw [List.replicate_succ, List.foldl_cons] at h
    rcases mem_rep n _ h with h | h
    · rw [Array.toList_append] at h
      exact List.mem_append.mp h
    · exact .inr h
theorem okS_mul {z : Str} {j : Int} (o : okS z) (h1 : z.length ≤ 1000) (h3 : j ≤ 1000) : okS (Txt.mul z j) := by
  refine ⟨Nat.le_trans (PyProof.Rows.len_mul_leN (L := 1000) (N := 1000) h1 h3) (by decide), fun c hc => ?_⟩
  unfold Txt.mul at hc
  split at hc
  · cases hc
  · split at hc
    · exact o.2 c hc
    · rcases mem_rep _ _ hc with h | h
      · cases h
      · exact o.2 c h
def opOf : Bop → Operator
  | .add => .Add
  | .sub => .Sub
  | .mul => .Mult
  | .div => .FloorDiv
  | .mod => .Mod
  | .pow => .Pow
theorem op_binI (hK : X.K = g.K) {box : Bool} (op : Bop) : OpR X (binaryOp (opOf op)) (r2 g (binR box op)) := by
  cases op with
  | add => exact op_addI hK
  | sub =>
    refine OpR.imp op_sub fun x y H Q ⟨m, S, d, e, W, rs, rd, re, w⟩ => ?_
    unfold binR at w
    simp only at w
    split at w
    · rw [rel_int] at rd re
      exact ⟨_, _, rd, re, w.now rs (by rw [rel_int])⟩
    · exact w.err
  | mul =>
    refine OpR.imp (op_mul.or op_mulStr) fun x y H Q ⟨m, S, d, e, W, rs, rd, re, w⟩ => ?_
    unfold binR at w
    simp only at w
    split at w
    · rw [rel_int] at rd re
      obtain ⟨c, w⟩ := w.ck
      exact .inl ⟨_, _, rd, re, c, w.now rs (by rw [rel_int])⟩
    · rw [rel_str] at rd
      rw [rel_int] at re
      obtain ⟨c, w⟩ := w.ck
      exact .inr ⟨_, _, rd.1, re, mulOk_small c.1 (by omega) c.2.2, w.now rs (by rw [rel_str]; exact ⟨rfl, okS_mul rd.2 c.1 c.2.2⟩)⟩
    · exact w.err
  | div =>
    refine op_I (C := fun i j => 0 < j ∧ j < 1073741824) op_fdiv fun d e S => ?_
    unfold binR
    simp only
    split
    · exact .inl ⟨_, _, rfl, rfl, rfl⟩
    · exact .inr rfl
  | mod =>
    refine op_I (C := fun i j => 0 < j) op_mod fun d e S => ?_
    unfold binR
    simp only
    split
    · exact .inl ⟨_, _, rfl, rfl, rfl⟩
    · exact .inr rfl
  | pow =>
    refine op_I (C := fun i j => 0 ≤ j ∧ j ≤ 1000000 ∧ i.natAbs < 2 ^ 64) op_pow fun d e S => ?_
    unfold binR
    simp only
    split
    · exact .inl ⟨_, _, rfl, rfl, rfl⟩
    · exact .inr rfl

/-! truth -/
def RelB : Mp → Nat → Hp → Bool → Bool → Prop := fun _ _ _ a b => b = a
theorem tru_seq {b : Bool} (rs : RS g m S H) (h : Rel g m S.length H d v) (e : (seqOf S d).map (fun xs => !xs.isEmpty) = some b) : TruV g.K v H b := by
  obtain ⟨xs, hx, rfl⟩ := Option.map_eq_some_iff.mp e
  obtain ⟨a, vs, rfl, r, k⟩ := seqOf_sq rs h hx
  have e : (!xs.isEmpty) = !vs.isEmpty := by
    have := r.length
    cases xs <;> cases vs <;> first | rfl | (simp at this)
  rcases k with k | k
  · exact .inl ⟨vs, k, e⟩
  · exact .inr (.inl ⟨vs, k, e⟩)
theorem tru_rel {R : Bool → Hp → Prop} (rs : RS g m S H) (h : Rel g m S.length H d v) (w : WP g W RelB m S.length H (tru d S) R) : ∃ k, TruV g.K v H k ∧ R k H := by
  unfold tru at w
  split at w
  · rename_i b hb
    refine ⟨b, ?_, w.now rs rfl⟩
    cases d with
    | non => cases hb; rw [rel_non] at h; subst h; rfl
    | bl k => cases hb; rw [rel_bl] at h; subst h; rfl
    | int i => cases hb; rw [rel_int] at h; subst h; rfl
    | str z => cases hb; rw [rel_str] at h; obtain ⟨rfl, o⟩ := h; exact ⟨o.1, rfl⟩
    | tup z => exact tru_seq rs h hb
    | lst z => exact tru_seq rs h hb
    | scr z => exact tru_seq rs h hb
    | ref z => exact tru_seq rs h hb
    | ins a b => exact tru_seq rs h hb
    | ty z => exact tru_seq rs h hb
    | ntp z => exact tru_seq rs h hb
  · exact w.err

/-! frozen data -/
mutual
theorem py_eqv : ∀ a b : D, a.fz = true → b.fz = true → PyData.eqv a.py b.py = a.eqv b
  | .non, b, _, hb => by cases b <;> first | (simp [D.fz] at hb; done) | (simp [D.py, D.eqv, PyData.eqv]; done)
  | .bl _, b, _, hb => by cases b <;> first | (simp [D.fz] at hb; done) | (simp [D.py, D.eqv, PyData.eqv]; done)
  | .int _, b, _, hb => by cases b <;> first | (simp [D.fz] at hb; done) | (simp [D.py, D.eqv, PyData.eqv]; done)
  | .str _, b, _, hb => by cases b <;> first | (simp [D.fz] at hb; done) | (simp [D.py, D.eqv, PyData.eqv]; done)
  | .tup xs, b, ha, hb => by
    cases b with
    | tup ys =>
      simp only [D.py, D.eqv, PyData.eqv]
      exact pys_eqv xs ys (by simpa [D.fz] using ha) (by simpa [D.fz] using hb)
    | _ => first | (simp [D.fz] at hb; done) | (simp [D.py, D.eqv, PyData.eqv]; done)
  | .lst xs, b, ha, hb => by
    cases b with
    | lst ys =>
      simp only [D.py, D.eqv, PyData.eqv]
      exact pys_eqv xs ys (by simpa [D.fz] using ha) (by simpa [D.fz] using hb)
    | scr ys =>
      simp only [D.py, D.eqv, PyData.eqv]
      exact pys_eqv xs ys (by simpa [D.fz] using ha) (by simpa [D.fz] using hb)
    | _ => first | (simp [D.fz] at hb; done) | (simp [D.py, D.eqv, PyData.eqv]; done)
  | .scr xs, b, ha, hb => by
    cases b with
    | lst ys =>
      simp only [D.py, D.eqv, PyData.eqv]
      exact pys_eqv xs ys (by simpa [D.fz] using ha) (by simpa [D.fz] using hb)
    | scr ys =>
      simp only [D.py, D.eqv, PyData.eqv]
      exact pys_eqv xs ys (by simpa [D.fz] using ha) (by simpa [D.fz] using hb)
    | _ => first | (simp [D.fz] at hb; done) | (simp [D.py, D.eqv, PyData.eqv]; done)
  | .ref _, _, ha, _ => by simp [D.fz] at ha
  | .ins _ _, _, ha, _ => by simp [D.fz] at ha
  | .ty _, _, ha, _ => by simp [D.fz] at ha
theorem pys_eqv : ∀ a b : List D, D.fzs a = true → D.fzs b = true → PyData.eqvAll (D.pys a) (D.pys b) = D.eqvs a b
  | [], b, _, _ => by cases b <;> simp [D.pys, D.eqvs, PyData.eqvAll]
  | x :: xs, [], _, _ => by simp [D.pys, D.eqvs, PyData.eqvAll]
  | x :: xs, y :: ys, ha, hb => by
    simp only [D.fzs, Bool.and_eq_true] at ha hb
    simp only [D.pys, D.eqvs, PyData.eqvAll]
    rw [py_eqv x y ha.1 hb.1, pys_eqv xs ys ha.2 hb.2]
end
mutual
theorem py_lay : ∀ (a : D) (v : V), a.fz = true → Rel g m n H a v → a.py.canLay0 = true ∧ Dp g.K H v a.py
  | .non, v, _, h => by rw [rel_non] at h; subst h; exact ⟨by simp [D.py, PyData.canLay0], .non⟩
  | .bl _, v, _, h => by rw [rel_bl] at h; subst h; exact ⟨by simp [D.py, PyData.canLay0], .bl _⟩
  | .int _, v, _, h => by rw [rel_int] at h; subst h; exact ⟨by simp [D.py, PyData.canLay0], .int _⟩
  | .str _, v, _, h => by rw [rel_str] at h; obtain ⟨rfl, o⟩ := h; exact ⟨by simp [D.py, PyData.canLay0, o.ok], .str _⟩
  | .tup xs, v, k, h => by
    rw [rel_tup] at h
    obtain ⟨a, vs, rfl, t, r⟩ := h
    obtain ⟨q1, q2⟩ := pys_lay xs vs (by simpa [D.fz] using k) r
    exact ⟨by simpa [D.py, PyData.canLay0] using q1, by rw [D.py]; exact .tup t.sq q2⟩
  | .lst xs, v, k, h => by
    rw [rel_lst] at h
    obtain ⟨a, vs, rfl, ⟨t, _⟩, r⟩ := h
    obtain ⟨q1, q2⟩ := pys_lay xs vs (by simpa [D.fz] using k) r
    exact ⟨by simpa [D.py, PyData.canLay0] using q1, by rw [D.py]; exact .lst (SqL.of t) q2⟩
  | .scr xs, v, k, h => by
    rw [rel_scr] at h
    obtain ⟨a, vs, rfl, t, r⟩ := h
    obtain ⟨q1, q2⟩ := pys_lay xs vs (by simpa [D.fz] using k) r
    exact ⟨by simpa [D.py, PyData.canLay0] using q1, by rw [D.py]; exact .lst t.sq q2⟩
  | .ref _, _, k, _ => by simp [D.fz] at k
  | .ins _ _, _, k, _ => by simp [D.fz] at k
  | .ty _, _, k, _ => by simp [D.fz] at k
theorem pys_lay : ∀ (a : List D) (vs : List V), D.fzs a = true → Rels g m n H a vs → PyData.canLayAll0 (D.pys a) = true ∧ DpAll g.K H vs (D.pys a)
  | [], vs, _, h => by unfold Rels at h; subst h; exact ⟨by simp [D.pys, PyData.canLayAll0], by rw [D.pys]; exact .nil⟩
  | x :: xs, vs, k, h => by
    unfold Rels at h
    obtain ⟨w, ws, rfl, r, q⟩ := h
    simp only [D.fzs, Bool.and_eq_true] at k
    obtain ⟨a1, a2⟩ := py_lay x w k.1 r
    obtain ⟨b1, b2⟩ := pys_lay xs ws k.2 q
    exact ⟨by simp [D.pys, PyData.canLayAll0, a1, b1], by rw [D.pys]; exact .cons a2 b2⟩
end
mutual
theorem py_depth : ∀ a : D, a.fz = true → a.py.depth = a.dp
  | .non, _ => by simp [D.py, D.dp, PyData.depth]
  | .bl _, _ => by simp [D.py, D.dp, PyData.depth]
  | .int _, _ => by simp [D.py, D.dp, PyData.depth]
  | .str _, _ => by simp [D.py, D.dp, PyData.depth]
  | .tup xs, k => by rw [D.py, D.dp, PyData.depth, pys_depth xs (by simpa [D.fz] using k)]
  | .lst xs, k => by rw [D.py, D.dp, PyData.depth, pys_depth xs (by simpa [D.fz] using k)]
  | .scr xs, k => by rw [D.py, D.dp, PyData.depth, pys_depth xs (by simpa [D.fz] using k)]
  | .ref _, k => by simp [D.fz] at k
  | .ins _ _, k => by simp [D.fz] at k
  | .ty _, k => by simp [D.fz] at k
theorem pys_depth : ∀ a : List D, D.fzs a = true → PyData.depthAll (D.pys a) = D.dps a
  | [], _ => by simp [D.pys, D.dps, PyData.depthAll]
  | x :: xs, k => by
    simp only [D.fzs, Bool.and_eq_true] at k
    rw [D.pys, D.dps, PyData.depthAll, py_depth x k.1, pys_depth xs k.2]
end
theorem py_shaped (k : d.fz = true) (h : Rel g m n H d v) (l : d.dp ≤ 64) : SeqAt.shaped d.py = true := by
  unfold SeqAt.shaped
  rw [(py_lay d v k h).1, py_depth d k, Bool.true_and]
  exact decide_eq_true l
theorem unbox_fz (rs : RS g m S H) (h : Rel g m S.length H d v) : Rel g m S.length H (unbox S d) v ∨ (unbox S d).fz = true → (unbox S d).fz = true → Dp g.K H v (unbox S d).py ∧ (unbox S d).py.canLay0 = true := by
  intro _ k
  cases e : unbox S d with
  | lst xs =>
    rw [e] at k
    obtain ⟨a, vs, rfl, t, r⟩ := unbox_rel rs h e
    obtain ⟨q1, q2⟩ := pys_lay xs vs (by simpa [D.fz] using k) r
    exact ⟨by rw [D.py]; exact .lst (SqL.of t) q2, by simpa [D.py, PyData.canLay0] using q1⟩
  | _ =>
    rw [e] at k
    have hd : unbox S d = d := by
      unfold unbox at e ⊢
      split at e
      · split at e
        · cases e
        · simp only [*]
      · rfl
    rw [hd] at e
    subst e
    obtain ⟨q1, q2⟩ := py_lay _ v k h
    exact ⟨q2, q1⟩
theorem deeps_lay {k : Nat} (ih : ∀ (d : D) (v : V), Rel g m S.length H d v → (deep k S d).fz = true → Dp g.K H v (deep k S d).py ∧ (deep k S d).py.canLay0 = true) : ∀ (xs : List D) (vs : List V), Rels g m S.length H xs vs → D.fzs (xs.map (deep k S)) = true → DpAll g.K H vs (D.pys (xs.map (deep k S))) ∧ PyData.canLayAll0 (D.pys (xs.map (deep k S))) = true
  | [], vs, h, _ => by unfold Rels at h; subst h; exact ⟨by rw [List.map_nil, D.pys]; exact .nil, by simp [D.pys, PyData.canLayAll0]⟩
  | x :: xs, vs, h, q => by
    unfold Rels at h
    obtain ⟨w, ws, rfl, r, rr⟩ := h
    rw [List.map_cons] at q ⊢
    simp only [D.fzs, Bool.and_eq_true] at q
    obtain ⟨a1, a2⟩ := ih x w r q.1
    obtain ⟨b1, b2⟩ := deeps_lay ih xs ws rr q.2
    exact ⟨by rw [D.pys]; exact .cons a1 b1, by simp [D.pys, PyData.canLayAll0, a2, b2]⟩
theorem deep_lay (rs : RS g m S H) : ∀ (k : Nat) (d : D) (v : V), Rel g m S.length H d v → (deep k S d).fz = true → Dp g.K H v (deep k S d).py ∧ (deep k S d).py.canLay0 = true
  | 0, d, v, h, q => let ⟨a, b⟩ := py_lay d v q h; ⟨b, a⟩
  | k + 1, d, v, h, q => by
    cases d with
    | tup xs =>
      rw [rel_tup] at h
      obtain ⟨a, vs, rfl, t, r⟩ := h
      rw [deep] at q ⊢
      obtain ⟨q1, q2⟩ := deeps_lay (fun d v => deep_lay rs k d v) xs vs r (by simpa [D.fz] using q)
      exact ⟨by rw [D.py]; exact .tup t.sq q1, by simpa [D.py, PyData.canLay0] using q2⟩
    | lst xs =>
      rw [rel_lst] at h
      obtain ⟨a, vs, rfl, ⟨t, _⟩, r⟩ := h
      rw [deep] at q ⊢
      obtain ⟨q1, q2⟩ := deeps_lay (fun d v => deep_lay rs k d v) xs vs r (by simpa [D.fz] using q)
      exact ⟨by rw [D.py]; exact .lst (SqL.of t) q1, by simpa [D.py, PyData.canLay0] using q2⟩
    | ref i =>
      have e : deep (k + 1) S (.ref i) = match cellAt S i with
        | some (.lst xs) => .lst (xs.map (deep k S))
        | _ => .ref i := rfl
      rw [e] at q ⊢
      split at q
      · rename_i xs hz
        obtain ⟨a, rfl, _, vs, t, r⟩ := h.box rs hz
        obtain ⟨q1, q2⟩ := deeps_lay (fun d v => deep_lay rs k d v) xs vs r (by simpa [D.fz] using q)
        exact ⟨by rw [D.py]; exact .lst (SqL.of t) q1, by simpa [D.py, PyData.canLay0] using q2⟩
      · cases q
    | _ =>
      obtain ⟨a, b⟩ := py_lay _ v (by simpa only [deep] using q) h
      exact ⟨by simpa only [deep] using b, by simpa only [deep] using a⟩
theorem op_eqX (hK : X.K = g.K) {k : Nat} (hr : Room k X.A) : OpR X (compareOp .Eq) (r2 g (cmpR .eqd)) := by
  refine OpR.imp (op_eqD (by have := hr.un; omega)) fun x y H Q ⟨m, S, d, e, W, rs, rd, re, w⟩ => ?_
  obtain ⟨⟨k1, k2, l1, l2⟩, w⟩ := (show WP g W (Rel g) m S.length H (ck _ _) Q from w).ck
  obtain ⟨p1, c1⟩ := deep_lay rs 8 _ _ rd k1
  obtain ⟨p2, c2⟩ := deep_lay rs 8 _ _ re k2
  refine ⟨_, _, by rw [hK]; exact p1, by rw [hK]; exact p2, ?_, ?_, ?_⟩
  · unfold SeqAt.shaped; rw [c1, py_depth _ k1, Bool.true_and]; exact decide_eq_true l1
  · unfold SeqAt.shaped; rw [c2, py_depth _ k2, Bool.true_and]; exact decide_eq_true l2
  · rw [py_eqv _ _ k1 k2]
    exact w.now rs (by rw [rel_bl])
theorem op_neX (hK : X.K = g.K) {k : Nat} (hr : Room k X.A) : OpR X (compareOp .NotEq) (r2 g (cmpR .ned)) := by
  refine OpR.imp (op_neD (by have := hr.un; omega)) fun x y H Q ⟨m, S, d, e, W, rs, rd, re, w⟩ => ?_
  obtain ⟨⟨k1, k2, l1, l2⟩, w⟩ := (show WP g W (Rel g) m S.length H (ck _ _) Q from w).ck
  obtain ⟨p1, c1⟩ := deep_lay rs 8 _ _ rd k1
  obtain ⟨p2, c2⟩ := deep_lay rs 8 _ _ re k2
  refine ⟨_, _, by rw [hK]; exact p1, by rw [hK]; exact p2, ?_, ?_, ?_⟩
  · unfold SeqAt.shaped; rw [c1, py_depth _ k1, Bool.true_and]; exact decide_eq_true l1
  · unfold SeqAt.shaped; rw [c2, py_depth _ k2, Bool.true_and]; exact decide_eq_true l2
  · rw [py_eqv _ _ k1 k2]
    exact w.now rs (by rw [rel_bl])
theorem op_eqI (hK : X.K = g.K) {k : Nat} (hr : Room k X.A) : OpR X (compareOp .Eq) (r2 g (cmpR .eq)) := by
  refine OpR.imp (op_eqD (by have := hr.un; omega)) fun x y H Q ⟨m, S, d, e, W, rs, rd, re, w⟩ => ?_
  obtain ⟨⟨k1, k2, l1, l2⟩, w⟩ := (show WP g W (Rel g) m S.length H (ck _ _) Q from w).ck
  obtain ⟨p1, c1⟩ := unbox_fz rs rd (.inr k1) k1
  obtain ⟨p2, c2⟩ := unbox_fz rs re (.inr k2) k2
  refine ⟨_, _, by rw [hK]; exact p1, by rw [hK]; exact p2, ?_, ?_, ?_⟩
  · unfold SeqAt.shaped; rw [c1, py_depth _ k1, Bool.true_and]; exact decide_eq_true l1
  · unfold SeqAt.shaped; rw [c2, py_depth _ k2, Bool.true_and]; exact decide_eq_true l2
  · rw [py_eqv _ _ k1 k2]
    exact w.now rs (by rw [rel_bl])
theorem op_neI (hK : X.K = g.K) {k : Nat} (hr : Room k X.A) : OpR X (compareOp .NotEq) (r2 g (cmpR .ne)) := by
  refine OpR.imp (op_neD (by have := hr.un; omega)) fun x y H Q ⟨m, S, d, e, W, rs, rd, re, w⟩ => ?_
  obtain ⟨⟨k1, k2, l1, l2⟩, w⟩ := (show WP g W (Rel g) m S.length H (ck _ _) Q from w).ck
  obtain ⟨p1, c1⟩ := unbox_fz rs rd (.inr k1) k1
  obtain ⟨p2, c2⟩ := unbox_fz rs re (.inr k2) k2
  refine ⟨_, _, by rw [hK]; exact p1, by rw [hK]; exact p2, ?_, ?_, ?_⟩
  · unfold SeqAt.shaped; rw [c1, py_depth _ k1, Bool.true_and]; exact decide_eq_true l1
  · unfold SeqAt.shaped; rw [c2, py_depth _ k2, Bool.true_and]; exact decide_eq_true l2
  · rw [py_eqv _ _ k1 k2]
    exact w.now rs (by rw [rel_bl])
end
end Iv

/-! ### operators, items, slices, built-in functions and methods -/
namespace Iv
open PySem PySem.Spec PyProof.Rows L2
section
variable {g : Gs} {W : Value → Option Addr → Hp → Prop} {m : Mp} {n : Nat} {H : Hp} {S : Sto} {Q : VK} {d e : D} {v x y : V} {xs ys : List D} {vs : List V} {X : Cx}
theorem okS.sign {c : Nat} {z : Str} (h : okS z) (hc : c ∈ z.cps.toList) : okS ⟨#[c]⟩ := ⟨by show 1 ≤ sizeLine; rw [sizeLine_eq]; omega, fun k hk => by
  have : k = c := by simpa using hk
  rw [this]
  exact h.2 c hc⟩
theorem rel_none (h : Rel g m n H d v) : decide (v = .non) = (match d with | .non => true | _ => false) := by
  cases d with
  | non => rw [rel_non] at h; subst h; rfl
  | bl _ => rw [rel_bl] at h; subst h; rfl
  | int _ => rw [rel_int] at h; subst h; rfl
  | str _ => rw [rel_str] at h; obtain ⟨rfl, _⟩ := h; rfl
  | ty _ => rw [rel_ty] at h; subst h; rfl
  | ntp _ => rw [rel_ntp] at h; obtain ⟨a, vs, rfl, _⟩ := h; rfl
  | tup _ => rw [rel_tup] at h; obtain ⟨a, vs, rfl, _⟩ := h; rfl
  | lst _ => rw [rel_lst] at h; obtain ⟨a, vs, rfl, _⟩ := h; rfl
  | scr _ => rw [rel_scr] at h; obtain ⟨a, vs, rfl, _⟩ := h; rfl
  | ref _ => rw [rel_ref] at h; obtain ⟨_, a, rfl, _⟩ := h; rfl
  | ins _ _ => rw [rel_ins] at h; obtain ⟨a, _, _, rfl, _⟩ := h; rfl
theorem py_any (z : D) (kz : z.fz = true) : ∀ xs : List D, D.fzs xs = true → ((D.pys xs).any fun p => PyData.eqv p z.py) = xs.any fun p => p.eqv z
  | [], _ => rfl
  | a :: r, k => by
    simp only [D.fzs, Bool.and_eq_true] at k
    rw [D.pys, List.any_cons, List.any_cons, py_eqv a z k.1 kz, py_any z kz r k.2]
def rInT (K : PySem.W.Frag) (neg : Bool) : R2 := fun x y H Q => ∃ d ds, Dp K H x d ∧ (Dp K H y (.list ds) ∨ Dp K H y (.tuple ds)) ∧ SeqAt.shaped d = true ∧ SeqAt.shaped (.list ds) = true ∧ Q (.bl (if neg then !(ds.any fun z => PyData.eqv z d) else ds.any fun z => PyData.eqv z d)) H
theorem op_inT (hu : X.A.units + 65 < cLine) : OpR X (compareOp .In) (rInT X.K false) := by
  intro pins s σ H x y v u Q I rx ry h
  obtain ⟨d, ds, hd, he, sd, se, q⟩ := h
  obtain ⟨as, r1⟩ := Dp.reads I d x v hd rx
  rcases he with he | he
  · obtain ⟨bs, r2⟩ := Dp.reads I (.list ds) y u he ry
    exact SeqAt.in_list_reads r2 r1 (SeqAt.canLay_of_shaped se) (SeqAt.canLay_of_shaped sd) (room_in_shaped sd hu) ⟨.bl _, H, I, rfl, q⟩
  · obtain ⟨bs, r2⟩ := Dp.reads I (.tuple ds) y u he ry
    exact SeqAt.in_tuple_reads r2 r1 (SeqAt.canLay_of_shaped se) (SeqAt.canLay_of_shaped sd) (room_in_shaped sd hu) ⟨.bl _, H, I, rfl, q⟩
theorem op_notInT (hu : X.A.units + 65 < cLine) : OpR X (compareOp .NotIn) (rInT X.K true) := by
  intro pins s σ H x y v u Q I rx ry h
  obtain ⟨d, ds, hd, he, sd, se, q⟩ := h
  obtain ⟨as, r1⟩ := Dp.reads I d x v hd rx
  rcases he with he | he
  · obtain ⟨bs, r2⟩ := Dp.reads I (.list ds) y u he ry
    exact SeqAt.notIn_list_reads r2 r1 (SeqAt.canLay_of_shaped se) (SeqAt.canLay_of_shaped sd) (room_in_shaped sd hu) ⟨.bl _, H, I, rfl, q⟩
  · obtain ⟨bs, r2⟩ := Dp.reads I (.tuple ds) y u he ry
    exact SeqAt.notIn_tuple_reads r2 r1 (SeqAt.canLay_of_shaped se) (SeqAt.canLay_of_shaped sd) (room_in_shaped sd hu) ⟨.bl _, H, I, rfl, q⟩
theorem seq_dp (rs : RS g m S H) (h : Rel g m S.length H d v) (e : seqOf S d = some xs) (k : D.fzs xs = true) (l : D.dps xs ≤ 63) : (Dp g.K H v (.list (D.pys xs)) ∨ Dp g.K H v (.tuple (D.pys xs))) ∧ SeqAt.shaped (.list (D.pys xs)) = true := by
  obtain ⟨a, vs, rfl, r, q⟩ := seqOf_sq rs h e
  obtain ⟨q1, q2⟩ := pys_lay xs vs k r
  refine ⟨?_, ?_⟩
  · rcases q with q | q
    · exact .inl (.lst q q2)
    · exact .inr (.tup q q2)
  · unfold SeqAt.shaped
    rw [PyData.canLay0, q1, PyData.depth, pys_depth xs k, Bool.true_and]
    exact decide_eq_true (by omega)
theorem in_ok {k : Bool → R D} {neg : Bool} (rs : RS g m S H) (rd : Rel g m S.length H d x) (re : Rel g m S.length H e y) (w : WP g W (Rel g) m S.length H (cmpR.inR d e S k) Q)
    (hk : ∀ b, k b = .ok (.bl (if neg then !b else b)) S) : (∃ (c : Nat) (z : Str), x = .str ⟨#[c]⟩ ∧ y = .str z ∧ Q (.bl (if neg then !decide (c ∈ z.cps.toList) else decide (c ∈ z.cps.toList))) H) ∨ rInT g.K neg x y H Q := by
  unfold cmpR.inR at w
  split at w
  · rename_i a b
    rw [rel_str] at rd re
    split at w
    · rename_i c hc
      rw [hk] at w
      refine .inl ⟨c, b, ?_, re.1, w.now rs (by rw [rel_bl])⟩
      rw [rd.1]
      have : a.cps = #[c] := by
        apply Array.ext'
        simpa using hc
      cases a with
      | mk z =>
        have this : z = #[c] := this
        rw [this]
    · exact w.err
  · split at w
    · rename_i ys hy
      obtain ⟨⟨k1, l1, k2, l2⟩, w⟩ := w.ck
      rw [hk] at w
      obtain ⟨q1, q2⟩ := seq_dp rs re hy k2 l2
      refine .inr ⟨d.py, D.pys ys, (py_lay d x k1 rd).2, q1, py_shaped k1 rd (by omega), q2, ?_⟩
      rw [py_any d k1 ys k2]
      exact w.now rs (by rw [rel_bl])
    · exact w.err
def copOf : Cop → CmpOp
  | .eq => .Eq
  | .ne => .NotEq
  | .eqd => .Eq
  | .ned => .NotEq
  | .lt => .Lt
  | .le => .LtE
  | .gt => .Gt
  | .ge => .GtE
  | .isN => .Is
  | .notN => .IsNot
  | .isIn => .In
  | .notIn => .NotIn
def rLtX (K : PySem.W.Frag) : R2 := fun x y H Q => ∃ d e, Dp K H x d ∧ Dp K H y e ∧ PySem.W.alike d e = true ∧ d ≠ .none ∧ d.depth ≤ 60 ∧ Q (.bl (PySem.W.dataLt d e)) H
def rLeX (K : PySem.W.Frag) : R2 := fun x y H Q => ∃ d e, Dp K H x d ∧ Dp K H y e ∧ PySem.W.alike d e = true ∧ d ≠ .none ∧ d.depth ≤ 60 ∧ Q (.bl (!PySem.W.dataLt e d)) H
theorem op_ltX {k : Nat} (hr : Room k X.A) : OpR X (compareOp .Lt) (rLtX X.K) := by
  intro pins s σ H x y v u Q I rx ry h
  obtain ⟨d, e, hd, he, al, nn, dp, q⟩ := h
  obtain ⟨as, r1⟩ := Dp.reads I d x v hd rx
  obtain ⟨bs, r2⟩ := Dp.reads I e y u he ry
  exact PySem.W.lt_data r1 r2 al nn (by have := hr.un; have := Nat.min_le_left d.depth e.depth; omega) ⟨.bl _, H, I, rfl, q⟩
theorem op_leX {k : Nat} (hr : Room k X.A) : OpR X (compareOp .LtE) (rLeX X.K) := by
  intro pins s σ H x y v u Q I rx ry h
  obtain ⟨d, e, hd, he, al, nn, dp, q⟩ := h
  obtain ⟨as, r1⟩ := Dp.reads I d x v hd rx
  obtain ⟨bs, r2⟩ := Dp.reads I e y u he ry
  exact PySem.W.le_data r1 r2 al nn (by have := hr.un; have := Nat.min_le_left d.depth e.depth; omega) ⟨.bl _, H, I, rfl, q⟩
theorem notNon_py {d : D} (h : notNon d = true) (f : d.fz = true) : d.py ≠ .none := by
  cases d <;> first | (exact absurd h Bool.false_ne_true) | (exact absurd f Bool.false_ne_true) | (intro z; simp [D.py] at z)
theorem op_cmpI (hK : X.K = g.K) {k : Nat} (hr : Room k X.A) (op : Cop) : OpR X (compareOp (copOf op)) (r2 g (cmpR op)) := by
  cases op with
  | eq => exact op_eqI hK hr
  | ne => exact op_neI hK hr
  | eqd => exact op_eqX hK hr
  | ned => exact op_neX hK hr
  | lt =>
    refine OpR.imp (op_lt.or (op_ltX hr)) fun x y H Q ⟨m, S, d, e, W, rs, rd, re, w⟩ => ?_
    unfold cmpR at w
    simp only at w
    split at w
    · rw [rel_int] at rd re
      exact .inl ⟨_, _, rd, re, w.now rs (by rw [rel_bl])⟩
    · obtain ⟨⟨c1, c2, c3, c4, c5, c6⟩, w⟩ := w.ck
      exact .inr ⟨d.py, e.py, by rw [hK]; exact (py_lay d x c1 rd).2, by rw [hK]; exact (py_lay e y c2 re).2, c5, notNon_py c6 c1, by rw [py_depth d c1]; exact c3, w.now rs (by rw [rel_bl]; rfl)⟩
  | le =>
    refine OpR.imp (op_le.or (op_leX hr)) fun x y H Q ⟨m, S, d, e, W, rs, rd, re, w⟩ => ?_
    unfold cmpR at w
    simp only at w
    split at w
    · rw [rel_int] at rd re
      exact .inl ⟨_, _, rd, re, w.now rs (by rw [rel_bl])⟩
    · obtain ⟨⟨c1, c2, c3, c4, c5, c6⟩, w⟩ := w.ck
      exact .inr ⟨d.py, e.py, by rw [hK]; exact (py_lay d x c1 rd).2, by rw [hK]; exact (py_lay e y c2 re).2, c5, notNon_py c6 c1, by rw [py_depth d c1]; exact c3, w.now rs (by rw [rel_bl]; rfl)⟩
  | gt =>
    refine OpR.imp op_gt fun x y H Q ⟨m, S, d, e, W, rs, rd, re, w⟩ => ?_
    unfold cmpR at w
    simp only at w
    split at w
    · rw [rel_int] at rd re
      exact ⟨_, _, rd, re, w.now rs (by rw [rel_bl])⟩
    · exact w.err
  | ge =>
    refine OpR.imp op_ge fun x y H Q ⟨m, S, d, e, W, rs, rd, re, w⟩ => ?_
    unfold cmpR at w
    simp only at w
    split at w
    · rw [rel_int] at rd re
      exact ⟨_, _, rd, re, w.now rs (by rw [rel_bl])⟩
    · exact w.err
  | isN =>
    refine OpR.imp (op_isN.or op_isBl) fun x y H Q ⟨m, S, d, e, W, rs, rd, re, w⟩ => ?_
    unfold cmpR at w
    simp only at w
    split at w
    · rw [rel_non] at re
      refine .inl ⟨re, w.now rs ?_⟩
      rw [rel_bl, rel_none rd]
      cases d <;> rfl
    · split at w
      · rw [rel_bl] at rd re
        exact .inr ⟨_, _, rd, re, w.now rs (by rw [rel_bl])⟩
      · exact w.err
    · exact w.err
  | notN =>
    refine OpR.imp (op_notN.or op_notBl) fun x y H Q ⟨m, S, d, e, W, rs, rd, re, w⟩ => ?_
    unfold cmpR at w
    simp only at w
    split at w
    · rw [rel_non] at re
      refine .inl ⟨re, w.now rs ?_⟩
      rw [rel_bl, rel_none rd]
      cases d <;> rfl
    · split at w
      · rw [rel_bl] at rd re
        exact .inr ⟨_, _, rd, re, w.now rs (by rw [rel_bl])⟩
      · exact w.err
    · exact w.err
  | isIn =>
    refine OpR.imp (op_in_sign.or (op_inT (by have := hr.un; omega))) fun x y H Q ⟨m, S, d, e, W, rs, rd, re, w⟩ => ?_
    rw [hK]
    exact in_ok (neg := false) rs rd re w fun b => rfl
  | notIn =>
    refine OpR.imp (op_notIn_sign.or (op_notInT (by have := hr.un; omega))) fun x y H Q ⟨m, S, d, e, W, rs, rd, re, w⟩ => ?_
    rw [hK]
    exact in_ok (neg := true) rs rd re w fun b => rfl
theorem atD_atI {α : Type} {xs : List α} {i : Int} {a : α} (h : atD xs i = some a) : ∃ j, ixN xs.length i = some j ∧ xs[j]? = some a := by
  unfold atD at h
  unfold ixN
  split at h
  · rename_i h0
    have hl := (List.getElem?_eq_some_iff.mp h).1
    exact ⟨i.toNat, by rw [if_pos h0, if_pos (by omega)], h⟩
  · rename_i h0
    split at h
    · rename_i h1
      exact ⟨_, by rw [if_neg h0, if_pos h1], h⟩
    · cases h
theorem ix_I (hK : X.K = g.K) : IxR X (r2 g idxR) := by
  refine IxR.imp ix_seq fun x y H Q ⟨m, S, d, e, W, rs, rd, re, w⟩ => ?_
  unfold idxR at w
  split at w
  · rename_i i
    rw [rel_int] at re
    split at w
    · rename_i z
      split at w
      · rename_i c hc
        rw [rel_str] at rd
        obtain ⟨j, h1, h2⟩ := atD_atI hc
        refine .inr (.inr ⟨z, i, c, rd.1, re, rd.2.1, ?_, w.now rs (by rw [rel_str]; exact ⟨rfl, rd.2.sign (List.mem_of_getElem? h2)⟩)⟩)
        unfold atI
        rw [h1]
        exact h2
      · exact w.err
    · split at w
      · rename_i xs hx
        split at w
        · rename_i d' hd
          obtain ⟨j, h1, h2⟩ := atD_atI hd
          obtain ⟨a, vs, rfl, r, q⟩ := seqOf_sq rs rd hx
          obtain ⟨v, hv, rv⟩ := r.get h2
          have hat : atI vs i = some v := by
            unfold atI
            rw [← r.length, h1]
            exact hv
          rw [hK]
          rcases q with q | q
          · exact .inl ⟨a, vs, i, v, rfl, re, q, hat, w.now rs rv⟩
          · exact .inr (.inl ⟨a, vs, i, v, rfl, re, q, hat, w.now rs rv⟩)
        · exact w.err
      · exact w.err
  · exact w.err
/-- slices: what is told of a thing and two bounds -/
def r3 (g : Gs) (box : Bool) : V → Option Int → Option Int → Hp → VK → Prop := fun x lo hi H Q => ∃ m S d W, RS g m S H ∧ Rel g m S.length H d x ∧ WP g W (Rel g) m S.length H (slcR box d lo hi S) Q
theorem SlR.imp {r r' : V → Option Int → Option Int → Hp → VK → Prop} (h : SlR X r) (k : ∀ x lo hi H Q, r' x lo hi H Q → r x lo hi H Q) : SlR X r' :=
  fun pins s σ H x v vl vu lo hi sl Q I rx hs pl pu q => h pins s σ H x v vl vu lo hi sl Q I rx hs pl pu (k _ _ _ _ _ q)
end
end Iv

/-! ### expressions -/
namespace Iv
open PySem PySem.Spec PyProof.Rows L2

def EnvR (g : Gs) (m : Mp) (n : Nat) (H : Hp) (ρ : Env) (σ : L2.St) : Prop := ρ.length = σ.length ∧ ∀ (i : Nat) (d : D), ρ[i]? = some (some d) → ∃ v, σ[i]? = some (some v) ∧ Rel g m n H d v
/-- a reading by what is told of the data -/
def TI {α β : Type} (g : Gs) (W : L2.WX) (Ra : Mp → Nat → Hp → α → β → Prop) (f : Env → Sto → R α) : L2.St → Hp → (β → Hp → Prop) → Prop := fun σ H Q =>
  ∃ m ρ S, RS g m S H ∧ EnvR g m S.length H ρ σ ∧ WP g (fun c d H' => W c d σ H') Ra m S.length H (f ρ S) Q
section
variable {α β γ δ : Type} {g : Gs} {W : L2.WX} {Ra : Mp → Nat → Hp → α → β → Prop} {Rb : Mp → Nat → Hp → γ → δ → Prop} {m m1 : Mp} {n n1 : Nat} {H H1 : Hp} {S : Sto} {ρ : Env} {σ : L2.St}
theorem EnvR.mono (x : Ext m n H m1 n1 H1) (h : EnvR g m n H ρ σ) : EnvR g m1 n1 H1 ρ σ := ⟨h.1, fun i d e => let ⟨v, e1, r⟩ := h.2 i d e; ⟨v, e1, Rel.mono x d v r⟩⟩
theorem EnvR.set {d : D} {v : V} {i : Nat} (h : EnvR g m n H ρ σ) (r : Rel g m n H d v) : EnvR g m n H (ρ.set i (some d)) (σ.set i (some v)) := by
  refine ⟨by rw [List.length_set, List.length_set]; exact h.1, fun j d' e => ?_⟩
  by_cases hj : j = i
  · subst hj
    have hl : j < (ρ.set j (some d)).length := (List.getElem?_eq_some_iff.mp e).1
    rw [List.length_set] at hl
    rw [List.getElem?_set_self hl] at e
    cases e
    exact ⟨v, List.getElem?_set_self (by rw [← h.1]; exact hl), r⟩
  · rw [List.getElem?_set_ne (Ne.symm hj)] at e
    obtain ⟨w, e1, r1⟩ := h.2 j d' e
    exact ⟨w, by rw [List.getElem?_set_ne (Ne.symm hj)]; exact e1, r1⟩
theorem EnvR.wiped (h : EnvR g m n H ρ σ) : ∀ vs : List Nat, EnvR g m n H (wipeE ρ vs) (wipe σ vs)
  | [] => h
  | v :: vs => by
    have ih := EnvR.wiped h vs
    refine ⟨by unfold wipeE L2.wipe; rw [List.length_set, List.length_set]; exact ih.1, fun j d e => ?_⟩
    unfold wipeE at e
    unfold L2.wipe
    by_cases hj : j = v
    · subst hj
      have hl : j < ((wipeE ρ vs).set j none).length := (List.getElem?_eq_some_iff.mp e).1
      rw [List.length_set] at hl
      rw [List.getElem?_set_self hl] at e
      cases e
    · rw [List.getElem?_set_ne (Ne.symm hj)] at e
      obtain ⟨w, e1, r1⟩ := ih.2 j d e
      exact ⟨w, by rw [List.getElem?_set_ne (Ne.symm hj)]; exact e1, r1⟩
theorem TI.step {f : Env → Sto → R α} {k : α → Sto → R γ} {Q : δ → Hp → Prop} (rs : RS g m S H) (er : EnvR g m S.length H ρ σ) (w : WP g (fun c d H' => W c d σ H') Rb m S.length H ((f ρ S).bind k) Q) {Q' : β → Hp → Prop}
    (h : ∀ b H1 m1 S1 a, Ext m S.length H m1 S1.length H1 → RS g m1 S1 H1 → EnvR g m1 S1.length H1 ρ σ → Ra m1 S1.length H1 a b → WP g (fun c d H' => W c d σ H') Rb m1 S1.length H1 (k a S1) Q → Q' b H1) : TI g W Ra f σ H Q' :=
  ⟨m, ρ, S, rs, er, (WP.bind (Ra := Ra) w).imp fun b H1 ⟨m1, S1, a, x, rs1, ra, w1⟩ => h b H1 m1 S1 a x rs1 (er.mono x) ra w1⟩
theorem WP.bindE {r : R α} {f : α → Sto → R γ} {Q : δ → Hp → Prop} {W : Value → Option Addr → Hp → Prop} (h : WP g W Rb m n H (r.bind f) Q) :
    WP g W Ra m n H r (fun b H1 => ∃ m1 S1 a, r = .ok a S1 ∧ Ext m n H m1 S1.length H1 ∧ RS g m1 S1 H1 ∧ Ra m1 S1.length H1 a b ∧ WP g W Rb m1 S1.length H1 (f a S1) Q) := by
  cases r with
  | ok a S' => exact fun m' H' b x rs ra => ⟨m', S', a, rfl, x, rs, ra, WP.from x h⟩
  | exc e S' => exact h
  | err => exact h
theorem TI.stepE {f : Env → Sto → R α} {k : α → Sto → R γ} {Q : δ → Hp → Prop} (rs : RS g m S H) (er : EnvR g m S.length H ρ σ) (w : WP g (fun c d H' => W c d σ H') Rb m S.length H ((f ρ S).bind k) Q) {Q' : β → Hp → Prop}
    (h : ∀ b H1 m1 S1 a, f ρ S = .ok a S1 → Ext m S.length H m1 S1.length H1 → RS g m1 S1 H1 → EnvR g m1 S1.length H1 ρ σ → Ra m1 S1.length H1 a b → WP g (fun c d H' => W c d σ H') Rb m1 S1.length H1 (k a S1) Q → Q' b H1) : TI g W Ra f σ H Q' :=
  ⟨m, ρ, S, rs, er, (WP.bindE (Ra := Ra) w).imp fun b H1 ⟨m1, S1, a, e, x, rs1, ra, w1⟩ => h b H1 m1 S1 a e x rs1 (er.mono x) ra w1⟩
theorem TI.last {f : Env → Sto → R α} {Q : β → Hp → Prop} (rs : RS g m S H) (er : EnvR g m S.length H ρ σ) (w : WP g (fun c d H' => W c d σ H') Ra m S.length H (f ρ S) Q) : TI g W Ra f σ H Q := ⟨m, ρ, S, rs, er, w⟩
theorem TI.imp {f : Env → Sto → R α} {Q Q' : β → Hp → Prop} (h : TI g W Ra f σ H Q) (k : ∀ b H', Q b H' → Q' b H') : TI g W Ra f σ H Q' :=
  let ⟨m, ρ, S, rs, er, w⟩ := h
  ⟨m, ρ, S, rs, er, w.imp k⟩
end
abbrev tE (g : Gs) (W : L2.WX) (f : Env → Sto → R D) : TE := TI g W (Rel g) f
abbrev tEs (g : Gs) (W : L2.WX) (f : Env → Sto → R (List D)) : TA := TI g W (Rels g) f
abbrev tT (g : Gs) (W : L2.WX) (f : Env → Sto → R Bool) : TT := TI g W RelB f
theorem PE.imp {X : Cx} {e : Expr} {t t' : TE} (h : PE X e t) (k : ∀ σ H Q, t' σ H Q → t σ H Q) : PE X e t' := ⟨fun pins s σ H Q I q => h.run pins s σ H Q I (k σ H Q q)⟩
theorem PT.imp {X : Cx} {e : Expr} {t t' : TT} (h : PT X e t) (k : ∀ σ H Q, t' σ H Q → t σ H Q) : PT X e t' := ⟨fun pins s σ H Q I q => h.run pins s σ H Q I (k σ H Q q)⟩
theorem PW.imp {X : Cx} {e : Expr} {t t' : TT} (h : PW X e t) (k : ∀ σ H Q, t' σ H Q → t σ H Q) : PW X e t' := ⟨fun wh pins s σ H Q I q => h.run wh pins s σ H Q I (k σ H Q q)⟩
theorem PA.imp {X : Cx} {e : List Expr} {t t' : TA} (h : PA X e t) (k : ∀ σ H Q, t' σ H Q → t σ H Q) : PA X e t' := ⟨fun pos pins s σ H Q I q => h.run pos pins s σ H Q I (k σ H Q q)⟩

/-! forms of expressions -/
def okE : Expr → Bool
  | .Starred _ _ => false
  | .Slice _ _ _ _ => false
  | .Set _ _ _ => false
  | .Call (.Name id _) [] [] _ => id != "super"
  | _ => true
def plainT : Expr → Bool
  | .UnaryOp .Not _ _ => false
  | .BoolOp _ _ _ => false
  | .IfExp _ _ _ _ => false
  | .Compare _ _ _ _ => false
  | _ => true
theorem starEach_ok {e : Expr} {es : List Expr} {env : PySem.Env} (h : okE e = true) : starEach (e :: es) env = (false, eval e env) :: starEach es env := by
  cases e <;> first | rfl | (exact absurd h Bool.false_ne_true)
theorem plainIx_ok {e : Expr} (h : okE e = true) : PlainIx e := by
  intro o i
  cases e <;> first | rfl | (exact absurd h Bool.false_ne_true)
theorem mark_ok {e : Expr} {op : CmpOp} (h : okE e = true) : behindInMarks op e = false := by
  cases e <;> first | rfl | (exact absurd h Bool.false_ne_true)
theorem isTrue_ok {e : Expr} (h : plainT e = true) {env : PySem.Env} (whole : Sem Value) : isTrue e env whole = (do let v ← whole; standAt e.pos; holding [v] (truthy v)) := by
  cases e with
  | UnaryOp op a p => cases op <;> first | rfl | (exact absurd h Bool.false_ne_true)
  | _ => first | rfl | (exact absurd h Bool.false_ne_true)
theorem attrBase_ok {o : Expr} {f : Str} {env : PySem.Env} (h : okE o = true) : attributeBase o f env (eval o env) = eval o env := by
  cases o with
  | Call fn as ks p =>
    cases fn with
    | Name id q =>
      cases as with
      | nil =>
        cases ks with
        | nil =>
          have h' : (id != "super") = true := h
          unfold attributeBase
          simp only [h', Bool.true_or, if_true]
        | cons _ _ => rfl
      | cons _ _ => rfl
    | _ => rfl
  | _ => rfl
theorem lastMarks_ok {b c : Expr} {op op' : CmpOp} (hc : okE c = true) : lastMarks [op, op'] [b, c] = false := by
  show lastMarks [op'] [c] = false
  show behindInMarks op' c = false
  exact mark_ok hc
theorem folded_ok {e : Expr} {env : PySem.Env} (h : okE e = true) (x : Value) : foldedSetIterable e env x = pure x := by
  cases e <;> first | rfl | (exact absurd h Bool.false_ne_true)

section
variable {g : Gs} {W : L2.WX} {X : Cx} {F : CE} {a b c : Expr} {ia ib ic : E} {pos : Pos}
theorem i_var {i : Nat} {x : Str} (hN : X.N[i]? = some x) (hv : Vis X.env.scope x) (hd : (x == ("__debug__" : Str)) = false) (hcd : (x == ("__classdict__" : Str)) = false) : PE X (.Name x pos) (tE g W (ev F (.var i))) := by
  refine PE.imp (pe_var hN hv hd hcd) fun σ H Q ⟨m, ρ, S, rs, er, w⟩ => ?_
  rw [ev] at w
  split at w
  · rename_i d hd
    obtain ⟨v, e, r⟩ := er.2 i d hd
    exact ⟨v, e, w.now rs r⟩
  · exact w.err
theorem i_con {e : Expr} {d : D} {v : V} (h : PE X e (tC v)) (r : ∀ m n H, Rel g m n H d v) : PE X e (tE g W (ev F (.con d))) := by
  refine PE.imp h fun σ H Q ⟨m, ρ, S, rs, er, w⟩ => ?_
  rw [ev] at w
  exact w.now rs (r _ _ _)
theorem i_bin (hK : X.K = g.K) {box : Bool} {op : Bop} (ha : PE X a (tE g W (ev F ia))) (hb : PE X b (tE g W (ev F ib))) : PE X (.BinOp a (opOf op) b pos) (tE g W (ev F (.bin box op ia ib))) := by
  refine PE.imp (pe_op (op_binI (box := box) hK op) ha hb) fun σ H Q ⟨m, ρ, S, rs, er, w⟩ => ?_
  rw [ev] at w
  refine TI.step rs er w fun x H1 m1 S1 d x1 rs1 er1 r1 w => ?_
  refine TI.step rs1 er1 w fun y H2 m2 S2 e x2 rs2 er2 r2 w => ?_
  exact ⟨m2, S2, d, e, _, rs2, Rel.mono x2 _ _ r1, r2, w⟩
theorem i_cmp (hK : X.K = g.K) {k : Nat} (hr : Room k X.A) {op : Cop} (ok : okE b = true) (ha : PE X a (tE g W (ev F ia))) (hb : PE X b (tE g W (ev F ib))) : PE X (.Compare a [copOf op] [b] pos) (tE g W (ev F (.cmp op ia ib))) := by
  refine PE.imp (pe_cmpR (op_cmpI hK hr op) ha hb (mark_ok ok)) fun σ H Q ⟨m, ρ, S, rs, er, w⟩ => ?_
  rw [ev] at w
  refine TI.step rs er w fun x H1 m1 S1 d x1 rs1 er1 r1 w => ?_
  refine TI.step rs1 er1 w fun y H2 m2 S2 e x2 rs2 er2 r2 w => ?_
  exact ⟨m2, S2, d, e, _, rs2, Rel.mono x2 _ _ r1, r2, w⟩
theorem eqD_form {x y : D} {S : Sto} {k : Bool → R D} : (∃ b, eqD x y S k = k b) ∨ eqD x y S k = .err := by
  unfold eqD ck
  split
  · exact .inl ⟨_, rfl⟩
  · exact .inr rfl
theorem eqX_form {x y : D} {S : Sto} {k : Bool → R D} : (∃ b, eqX x y S k = k b) ∨ eqX x y S k = .err := by
  unfold eqX ck
  split
  · exact .inl ⟨_, rfl⟩
  · exact .inr rfl
theorem inR_form {x y : D} {S : Sto} {k : Bool → R D} : (∃ b, cmpR.inR x y S k = k b) ∨ cmpR.inR x y S k = .err := by
  unfold cmpR.inR ck
  split
  · split
    · exact .inl ⟨_, rfl⟩
    · exact .inr rfl
  · split
    · split
      · exact .inl ⟨_, rfl⟩
      · exact .inr rfl
    · exact .inr rfl
theorem cmpR_form (op : Cop) (x y : D) (S : Sto) : (∃ b, cmpR op x y S = .ok (.bl b) S) ∨ cmpR op x y S = .err := by
  cases op with
  | eq =>
    rcases eqD_form (x := x) (y := y) (S := S) (k := fun b => .ok (.bl b) S) with ⟨b, h⟩ | h
    · exact .inl ⟨b, h⟩
    · exact .inr h
  | ne =>
    rcases eqD_form (x := x) (y := y) (S := S) (k := fun b => .ok (.bl (!b)) S) with ⟨b, h⟩ | h
    · exact .inl ⟨!b, h⟩
    · exact .inr h
  | eqd =>
    rcases eqX_form (x := x) (y := y) (S := S) (k := fun b => .ok (.bl b) S) with ⟨b, h⟩ | h
    · exact .inl ⟨b, h⟩
    · exact .inr h
  | ned =>
    rcases eqX_form (x := x) (y := y) (S := S) (k := fun b => .ok (.bl (!b)) S) with ⟨b, h⟩ | h
    · exact .inl ⟨!b, h⟩
    · exact .inr h
  | isIn =>
    rcases inR_form (x := x) (y := y) (S := S) (k := fun b => .ok (.bl b) S) with ⟨b, h⟩ | h
    · exact .inl ⟨b, h⟩
    · exact .inr h
  | notIn =>
    rcases inR_form (x := x) (y := y) (S := S) (k := fun b => .ok (.bl (!b)) S) with ⟨b, h⟩ | h
    · exact .inl ⟨!b, h⟩
    · exact .inr h
  | _ =>
    unfold cmpR
    simp only
    split <;> first | exact .inl ⟨_, rfl⟩ | exact .inr rfl | (split <;> first | exact .inl ⟨_, rfl⟩ | exact .inr rfl) | (unfold ordX ck; split <;> first | exact .inl ⟨_, rfl⟩ | exact .inr rfl)
theorem wp_bl {W' : Value → Option Addr → Hp → Prop} {m : Mp} {n : Nat} {H : Hp} {r : R D} {Q : Bool → Hp → Prop} (f : (∃ b S, r = .ok (.bl b) S) ∨ r = .err) (w : WP g W' RelB m n H (r.bind fun z S => tru z S) Q) : WP g W' (Rel g) m n H r fun x H' => ∃ k, x = .bl k ∧ Q k H' := by
  rcases f with ⟨b, S, rfl⟩ | rfl
  · intro m' H' v x rs r
    rw [rel_bl] at r
    exact ⟨b, r, w m' H' b x rs rfl⟩
  · exact w
theorem t_cmp (hK : X.K = g.K) {k : Nat} (hr : Room k X.A) {op : Cop} (ok : okE b = true) (ha : PE X a (tE g W (ev F ia))) (hb : PE X b (tE g W (ev F ib))) : PT X (.Compare a [copOf op] [b] pos) (tT g W fun ρ S => (ev F (.cmp op ia ib) ρ S).bind fun z S => tru z S) := by
  refine PT.imp (pt_cmpR (op_cmpI hK hr op) ha hb (mark_ok ok)) fun σ H Q ⟨m, ρ, S, rs, er, w⟩ => ?_
  dsimp only at w
  rw [ev] at w
  unfold tTest
  have bind3 : ∀ {α β γ : Type} (r : R α) (f : α → Sto → R β) (h : β → Sto → R γ), (r.bind f).bind h = r.bind fun x S => (f x S).bind h := fun r f h => by cases r <;> rfl
  rw [bind3] at w
  refine TI.step rs er w fun x H1 m1 S1 d x1 rs1 er1 r1 w => ?_
  rw [bind3] at w
  refine TI.step rs1 er1 w fun y H2 m2 S2 e x2 rs2 er2 r2 w => ?_
  refine ⟨m2, S2, d, e, _, rs2, Rel.mono x2 _ _ r1, r2, wp_bl ?_ w⟩
  rcases cmpR_form op d e S2 with ⟨b, h⟩ | h
  · exact .inl ⟨b, S2, h⟩
  · exact .inr h
theorem R.bind_bind {α β γ : Type} (r : R α) (f : α → Sto → R β) (h : β → Sto → R γ) : (r.bind f).bind h = r.bind fun x S => (f x S).bind h := by cases r <;> rfl
theorem tru_bl {b : Bool} {S : Sto} : tru (.bl b) S = .ok b S := rfl
theorem chain_body (hK : X.K = g.K) {op op' : Cop} {σ : L2.St} {H : Hp} {Q : VK} {m : Mp} {ρ : Env} {S : Sto} (rs : RS g m S H) (er : EnvR g m S.length H ρ σ) (w : WP g (fun c d H' => W c d σ H') (Rel g) m S.length H (ev F (.chain op op' ia ib ic) ρ S) Q) :
    tChain (r2 g (cmpR op)) (r2 g (cmpR op')) (tE g W (ev F ia)) (tE g W (ev F ib)) (tE g W (ev F ic)) σ H Q := by
  rw [ev] at w
  refine TI.step rs er w fun x H1 m1 S1 d x1 rs1 er1 r1 w => ?_
  refine TI.step rs1 er1 w fun y H2 m2 S2 e x2 rs2 er2 r2 w => ?_
  refine ⟨m2, S2, d, e, (fun c d H' => W c d σ H'), rs2, Rel.mono x2 _ _ r1, r2, ?_⟩
  rcases cmpR_form op d e S2 with ⟨b, h⟩ | h
  · rw [h] at w ⊢
    intro m3 H3 v x3 rs3 r3
    rw [rel_bl] at r3
    refine ⟨b, r3, ?_⟩
    simp only [R.bind_ok, tru_bl] at w
    have w := w.from x3
    cases b with
    | false =>
      rw [if_neg Bool.false_ne_true] at w ⊢
      exact w.now rs3 (by rw [rel_bl])
    | true =>
      rw [if_pos rfl] at w ⊢
      refine TI.step rs3 (er2.mono x3) w fun z H4 m4 S4 f x4 rs4 er4 r4 w => ?_
      exact ⟨m4, S4, e, f, _, rs4, Rel.mono (x3.trans x4) _ _ r2, r4, w⟩
  · rw [h] at w
    exact w.err
theorem i_chain (hK : X.K = g.K) {k : Nat} (hr : Room k X.A) {op op' : Cop} (ok : okE c = true) (ha : PE X a (tE g W (ev F ia))) (hb : PE X b (tE g W (ev F ib))) (hc : PE X c (tE g W (ev F ic))) :
    PE X (.Compare a [copOf op, copOf op'] [b, c] pos) (tE g W (ev F (.chain op op' ia ib ic))) :=
  PE.imp (pe_chain (op_cmpI hK hr op) (op_cmpI hK hr op') ha hb hc (lastMarks_ok ok)) fun σ H Q ⟨m, ρ, S, rs, er, w⟩ => chain_body hK rs er w
theorem chain_form {op op' : Cop} {ρ : Env} {S : Sto} : (∃ b S', ev F (.chain op op' ia ib ic) ρ S = .ok (.bl b) S') ∨ ev F (.chain op op' ia ib ic) ρ S = .err ∨ ∃ x S', ev F (.chain op op' ia ib ic) ρ S = .exc x S' := by
  rw [ev]
  cases ev F ia ρ S with
  | exc x S' => exact .inr (.inr ⟨_, _, rfl⟩)
  | err => exact .inr (.inl rfl)
  | ok x S1 =>
    simp only [R.bind_ok]
    cases ev F ib ρ S1 with
    | exc x S' => exact .inr (.inr ⟨_, _, rfl⟩)
    | err => exact .inr (.inl rfl)
    | ok y S2 =>
      simp only [R.bind_ok]
      rcases cmpR_form op x y S2 with ⟨b, h⟩ | h
      · rw [h]
        simp only [R.bind_ok, tru_bl]
        cases b with
        | false => exact .inl ⟨false, S2, rfl⟩
        | true =>
          rw [if_pos rfl]
          cases ev F ic ρ S2 with
          | exc x S' => exact .inr (.inr ⟨_, _, rfl⟩)
          | err => exact .inr (.inl rfl)
          | ok z S3 =>
            simp only [R.bind_ok]
            rcases cmpR_form op' y z S3 with ⟨b, h⟩ | h
            · exact .inl ⟨b, S3, h⟩
            · exact .inr (.inl h)
      · rw [h]
        exact .inr (.inl rfl)
theorem t_chain (hK : X.K = g.K) {k : Nat} (hr : Room k X.A) {op op' : Cop} (ok : okE c = true) (ha : PE X a (tE g W (ev F ia))) (hb : PE X b (tE g W (ev F ib))) (hc : PE X c (tE g W (ev F ic))) :
    PT X (.Compare a [copOf op, copOf op'] [b, c] pos) (tT g W fun ρ S => (ev F (.chain op op' ia ib ic) ρ S).bind fun z S => tru z S) := by
  refine PT.imp (pt_chain (op_cmpI hK hr op) (op_cmpI hK hr op') ha hb hc (lastMarks_ok ok)) fun σ H Q ⟨m, ρ, S, rs, er, w⟩ => ?_
  refine chain_body hK rs er ?_
  rcases chain_form (F := F) (ia := ia) (ib := ib) (ic := ic) (op := op) (op' := op') (ρ := ρ) (S := S) with ⟨b, S', h⟩ | h | ⟨x, S', h⟩
  · exact wp_bl (.inl ⟨b, S', h⟩) w
  · exact wp_bl (.inr h) w
  · dsimp only at w
    rw [h] at w ⊢
    exact w
/-! and, or, not, tests -/
theorem i_and (hK : X.K = g.K) {rest : List Expr} (ha : PE X a (tE g W (ev F ia))) (hb : PE X (.BoolOp .And (b :: rest) pos) (tE g W (ev F ib))) : PE X (.BoolOp .And (a :: b :: rest) pos) (tE g W (ev F (.and ia ib))) := by
  refine PE.imp (pe_andT ha hb) fun σ H Q ⟨m, ρ, S, rs, er, w⟩ => ?_
  rw [ev] at w
  refine TI.step rs er w fun x H1 m1 S1 d x1 rs1 er1 r1 w => ?_
  rw [hK]
  have w2 := WP.bind (Ra := RelB) w
  obtain ⟨k, tk, m2, S2, k', x2, rs2, rb, w3⟩ := tru_rel rs1 r1 w2
  cases rb
  refine ⟨k, tk, ?_⟩
  cases k with
  | true =>
    rw [if_pos rfl] at w3 ⊢
    exact TI.last rs2 (er1.mono x2) w3
  | false =>
    rw [if_neg Bool.false_ne_true] at w3 ⊢
    exact w3.now rs2 (Rel.mono x2 _ _ r1)
theorem i_not (hK : X.K = g.K) (ha : PE X a (tE g W (ev F ia))) : PE X (.UnaryOp .Not a pos) (tE g W (ev F (.not ia))) := by
  refine PE.imp (pe_notT ha) fun σ H Q ⟨m, ρ, S, rs, er, w⟩ => ?_
  rw [ev] at w
  refine TI.step rs er w fun x H1 m1 S1 d x1 rs1 er1 r1 w => ?_
  rw [hK]
  have w2 := WP.bind (Ra := RelB) w
  obtain ⟨k, tk, m2, S2, k', x2, rs2, rb, w3⟩ := tru_rel rs1 r1 w2
  cases rb
  exact ⟨k, tk, w3.now rs2 (by rw [rel_bl])⟩
noncomputable abbrev evT (F : CE) (e : E) : Env → Sto → R Bool := fun ρ S => (ev F e ρ S).bind fun z S => tru z S
theorem t_val (hK : X.K = g.K) (pl : plainT a = true) (ha : PE X a (tE g W (ev F ia))) : PT X a (tT g W (evT F ia)) := by
  refine PT.imp (pt_truth ha fun wh => isTrue_ok pl wh) fun σ H Q ⟨m, ρ, S, rs, er, w⟩ => ?_
  refine TI.step rs er w fun x H1 m1 S1 d x1 rs1 er1 r1 w => ?_
  rw [hK]
  exact tru_rel rs1 r1 w
theorem t_not (ha : PT X a (tT g W (evT F ia))) : PT X (.UnaryOp .Not a pos) (tT g W (evT F (.not ia))) := by
  refine PT.imp (pt_not ha) fun σ H Q ⟨m, ρ, S, rs, er, w⟩ => ?_
  unfold evT at w
  rw [ev, R.bind_bind] at w
  have e : ((ev F ia ρ S).bind fun x S => ((tru x S).bind fun b S => R.ok (D.bl (!b)) S).bind fun z S => tru z S) = ((ev F ia ρ S).bind fun x S => tru x S).bind fun b S => R.ok (!b) S := by
    rw [R.bind_bind]
    congr 1
    funext x S
    rw [R.bind_bind]
    rfl
  rw [e] at w
  refine TI.step (Ra := RelB) (f := evT F ia) rs er w fun k H1 m1 S1 d x1 rs1 er1 r1 w => ?_
  cases r1
  exact w.now rs1 rfl
theorem w_and (ha : PT X a (tT g W (evT F ia))) {rest : List Expr} (hb : PW X (.BoolOp .And (b :: rest) pos) (tT g W (evT F ib))) : PW X (.BoolOp .And (a :: b :: rest) pos) (tT g W (evT F (.and ia ib))) := by
  refine PW.imp (pw_and ha hb) fun σ H Q ⟨m, ρ, S, rs, er, w⟩ => ?_
  have e : evT F (.and ia ib) ρ S = (evT F ia ρ S).bind fun k S => if k = true then evT F ib ρ S else .ok false S := by
    unfold evT
    rw [ev, R.bind_bind, R.bind_bind]
    congr 1
    funext x S
    rw [R.bind_bind]
    unfold tru
    cases h : truR S x with
    | none => rfl
    | some k =>
      simp only [R.bind_ok]
      cases k with
      | true => rfl
      | false =>
        rw [if_neg Bool.false_ne_true, if_neg Bool.false_ne_true, R.bind_ok, h]
  rw [e] at w
  refine TI.step (Ra := RelB) (f := evT F ia) rs er w fun k H1 m1 S1 d x1 rs1 er1 r1 w => ?_
  cases r1
  cases k with
  | true =>
    rw [if_pos rfl] at w ⊢
    exact TI.last rs1 er1 w
  | false =>
    rw [if_neg Bool.false_ne_true] at w ⊢
    exact w.now rs1 rfl
theorem w_or (ha : PT X a (tT g W (evT F ia))) {rest : List Expr} (hb : PW X (.BoolOp .Or (b :: rest) pos) (tT g W (evT F ib))) : PW X (.BoolOp .Or (a :: b :: rest) pos) (tT g W (evT F (.or ia ib))) := by
  refine PW.imp (pw_or ha hb) fun σ H Q ⟨m, ρ, S, rs, er, w⟩ => ?_
  have e : evT F (.or ia ib) ρ S = (evT F ia ρ S).bind fun k S => if k = true then .ok true S else evT F ib ρ S := by
    unfold evT
    rw [ev, R.bind_bind, R.bind_bind]
    congr 1
    funext x S
    rw [R.bind_bind]
    unfold tru
    cases h : truR S x with
    | none => rfl
    | some k =>
      simp only [R.bind_ok]
      cases k with
      | true => rw [if_pos rfl, if_pos rfl, R.bind_ok, h]
      | false => rfl
  rw [e] at w
  refine TI.step (Ra := RelB) (f := evT F ia) rs er w fun k H1 m1 S1 d x1 rs1 er1 r1 w => ?_
  cases r1
  cases k with
  | true =>
    rw [if_pos rfl] at w ⊢
    exact w.now rs1 rfl
  | false =>
    rw [if_neg Bool.false_ne_true] at w ⊢
    exact TI.last rs1 er1 w
theorem i_ife (hc : PT X c (tT g W (evT F ic))) (ha : PE X a (tE g W (ev F ia))) (hb : PE X b (tE g W (ev F ib))) : PE X (.IfExp c a b pos) (tE g W (ev F (.ife ic ia ib))) := by
  refine PE.imp (pe_ifExp hc ha hb) fun σ H Q ⟨m, ρ, S, rs, er, w⟩ => ?_
  rw [ev, ← R.bind_bind] at w
  refine TI.step (Ra := RelB) (f := evT F ic) rs er w fun k H1 m1 S1 d x1 rs1 er1 r1 w => ?_
  cases r1
  cases k with
  | true =>
    rw [if_pos rfl] at w ⊢
    exact TI.last rs1 er1 w
  | false =>
    rw [if_neg Bool.false_ne_true] at w ⊢
    exact TI.last rs1 er1 w
/-! argument lists, displays, items, slices -/
theorem a_nil : PA X [] (tEs g W (evs F [])) := by
  refine PA.imp pa_nil fun σ H Q ⟨m, ρ, S, rs, er, w⟩ => ?_
  rw [evs] at w
  exact w.now rs Rels.nil
theorem a_cons {es : List Expr} {ies : List E} (ok : okE a = true) (ha : PE X a (tE g W (ev F ia))) (hr : PA X es (tEs g W (evs F ies))) : PA X (a :: es) (tEs g W (evs F (ia :: ies))) := by
  refine PA.imp (pa_cons ha hr (starEach_ok ok)) fun σ H Q ⟨m, ρ, S, rs, er, w⟩ => ?_
  rw [evs] at w
  refine TI.step rs er w fun x H1 m1 S1 d x1 rs1 er1 r1 w => ?_
  refine TI.step (Ra := Rels g) rs1 er1 w fun ys H2 m2 S2 ds x2 rs2 er2 r2 w => ?_
  exact w.now rs2 (Rels.cons (Rel.mono x2 _ _ r1) r2)
theorem i_tup {es : List Expr} {ies : List E} {k : Nat} (h : PA X es (tEs g W (evs F ies))) : PE X (.Tuple es k pos) (tE g W (ev F (.tup ies))) := by
  refine PE.imp (pe_tup h) fun σ H Q ⟨m, ρ, S, rs, er, w⟩ => ?_
  rw [ev] at w
  refine TI.step (Ra := Rels g) rs er w fun xs H1 m1 S1 ds x1 rs1 er1 r1 w => ?_
  obtain ⟨c, w⟩ := w.ck
  exact ⟨by rw [← r1.length]; exact c, fun p hp => mkT_ok rs1 r1 w hp⟩
theorem i_lst {es : List Expr} {ies : List E} {box : Bool} (h : PA X es (tEs g W (evs F ies))) : PE X (.List es pos) (tE g W (ev F (.lst box ies))) := by
  refine PE.imp (pe_lst h) fun σ H Q ⟨m, ρ, S, rs, er, w⟩ => ?_
  rw [ev] at w
  refine TI.step (Ra := Rels g) rs er w fun xs H1 m1 S1 ds x1 rs1 er1 r1 w => ?_
  obtain ⟨c, w⟩ := w.ck
  exact ⟨by rw [← r1.length]; exact c, fun p hp => mkL_ok rs1 r1 w hp⟩
theorem i_idx (hK : X.K = g.K) (ok : okE b = true) (ha : PE X a (tE g W (ev F ia))) (hb : PE X b (tE g W (ev F ib))) : PE X (.Subscript a b pos) (tE g W (ev F (.idx ia ib))) := by
  refine PE.imp (pe_ix (ix_I hK) ha hb (plainIx_ok ok)) fun σ H Q ⟨m, ρ, S, rs, er, w⟩ => ?_
  rw [ev] at w
  refine TI.step rs er w fun x H1 m1 S1 d x1 rs1 er1 r1 w => ?_
  refine TI.step rs1 er1 w fun y H2 m2 S2 e x2 rs2 er2 r2 w => ?_
  exact ⟨m2, S2, d, e, _, rs2, Rel.mono x2 _ _ r1, r2, w⟩
end
end Iv

/-! ### built-in functions, methods, calls -/
namespace Iv
open PySem PySem.Spec PyProof.Rows L2

/-- what a built-in function tells -/
def rb (g : Gs) (b : Bi) : List V → Hp → VK → Prop := fun xs H Q => ∃ m S ds W, RS g m S H ∧ Rels g m S.length H ds xs ∧ WP g W (Rel g) m S.length H (biR b ds S) Q
def biVal : Bi → Value
  | .len => .builtin "len"
  | .abs => .builtin "abs"
  | .min2 => .builtin "min"
  | .max2 => .builtin "max"
  | .minL => .builtin "min"
  | .maxL => .builtin "max"
  | .sumL => .builtin "sum"
  | .sumS => .builtin "sum"
  | .all => .builtin "all"
  | .any => .builtin "any"
  | .int1 => .type "int"
  | .list1 _ => .type "list"
  | .tuple1 => .type "tuple"
  | .sorted1 _ => .builtin "sorted"
  | .isi => .builtin "isinstance"
  | .isc _ => .builtin "isinstance"
  | .maxD => .builtin "max"
  | .sumLL => .builtin "sum"
  | .str1 => .type "str"
  | .sortedR _ => .builtin "sorted"
section
variable {g : Gs} {W : Value → Option Addr → Hp → Prop} {m : Mp} {n : Nat} {H : Hp} {S : Sto} {Q : VK} {d e : D} {v x y : V} {xs ys : List D} {vs : List V} {X : Cx}
theorem ints_rel : ∀ {xs : List D} {vs : List V} {ns : List Int}, Rels g m n H xs vs → intsD xs = some ns → vs = ns.map V.int
  | [], _, _, r, e => by unfold Rels at r; subst r; cases e; rfl
  | x :: xs, _, ns, r, e => by
    unfold Rels at r
    obtain ⟨w, ws, rfl, r1, r2⟩ := r
    cases x with
    | int i =>
      obtain ⟨ns', h1, rfl⟩ := Option.map_eq_some_iff.mp (show (intsD xs).map (i :: ·) = some ns from e)
      rw [rel_int] at r1
      rw [r1, ints_rel r2 h1]
      rfl
    | _ => cases e
theorem bls_rel : ∀ {xs : List D} {vs : List V} {ns : List Bool}, Rels g m n H xs vs → blsD xs = some ns → vs = ns.map V.bl
  | [], _, _, r, e => by unfold Rels at r; subst r; cases e; rfl
  | x :: xs, _, ns, r, e => by
    unfold Rels at r
    obtain ⟨w, ws, rfl, r1, r2⟩ := r
    cases x with
    | bl i =>
      obtain ⟨ns', h1, rfl⟩ := Option.map_eq_some_iff.mp (show (blsD xs).map (i :: ·) = some ns from e)
      rw [rel_bl] at r1
      rw [r1, bls_rel r2 h1]
      rfl
    | _ => cases e
theorem strs_rel : ∀ {xs : List D} {vs : List V} {ns : List Str}, Rels g m n H xs vs → strsD xs = some ns → vs = ns.map V.str ∧ ∀ z ∈ ns, okS z
  | [], _, _, r, e => by unfold Rels at r; subst r; cases e; exact ⟨rfl, fun _ h => by cases h⟩
  | x :: xs, _, ns, r, e => by
    unfold Rels at r
    obtain ⟨w, ws, rfl, r1, r2⟩ := r
    cases x with
    | str i =>
      obtain ⟨ns', h1, rfl⟩ := Option.map_eq_some_iff.mp (show (strsD xs).map (i :: ·) = some ns from e)
      rw [rel_str] at r1
      obtain ⟨h2, h3⟩ := strs_rel r2 h1
      refine ⟨by rw [r1.1, h2]; rfl, fun z hz => ?_⟩
      rcases List.mem_cons.mp hz with rfl | hz
      · exact r1.2
      · exact h3 z hz
    | _ => cases e
theorem lst_sq (rs : RS g m S H) (h : Rel g m S.length H d v) (e : lstOf S d = some xs) : ∃ a vs, v = .ref a ∧ Rels g m S.length H xs vs ∧ SqL g.K H a vs := by
  have e' : seqOf S d = some xs ∧ ∀ zs, d ≠ .tup zs := by
    cases d with
    | tup zs => cases e
    | _ => exact ⟨e, fun _ z => by cases z⟩
  obtain ⟨a, vs, rfl, r, q⟩ := seqOf_rel rs h e'.1
  rcases q with ⟨q, _⟩ | ⟨_, q⟩
  · exact ⟨a, vs, rfl, r, q⟩
  · exact absurd q (e'.2 _)
theorem ints_sq (rs : RS g m S H) (h : Rel g m S.length H d v) {ns : List Int} (e : intsOf S d = some ns) : ∃ a, v = .ref a ∧ SqL g.K H a (ns.map V.int) := by
  obtain ⟨xs, h1, h2⟩ := Option.bind_eq_some_iff.mp e
  obtain ⟨a, vs, rfl, r, q⟩ := lst_sq rs h h1
  rw [ints_rel r h2] at q
  exact ⟨a, rfl, q⟩
theorem bls_sq (rs : RS g m S H) (h : Rel g m S.length H d v) {ns : List Bool} (e : (lstOf S d).bind blsD = some ns) : ∃ a, v = .ref a ∧ SqL g.K H a (ns.map V.bl) := by
  obtain ⟨xs, h1, h2⟩ := Option.bind_eq_some_iff.mp e
  obtain ⟨a, vs, rfl, r, q⟩ := lst_sq rs h h1
  rw [bls_rel r h2] at q
  exact ⟨a, rfl, q⟩
theorem min_spec : ∀ {ns : List Int} {i : Int}, minI ns = some i → i ∈ ns ∧ ∀ y ∈ ns, i ≤ y := by
  have go : ∀ (r : List Int) (a : Int), (r.foldl (fun m x => if x < m then x else m) a = a ∨ r.foldl (fun m x => if x < m then x else m) a ∈ r) ∧ r.foldl (fun m x => if x < m then x else m) a ≤ a ∧ ∀ y ∈ r, r.foldl (fun m x => if x < m then x else m) a ≤ y := by
    intro r
    induction r with
    | nil => intro a; exact ⟨.inl rfl, Int.le_refl _, fun _ h => by cases h⟩
    | cons b r ih =>
      intro a
      rw [List.foldl_cons]
      obtain ⟨h1, h2, h3⟩ := ih (if b < a then b else a)
      refine ⟨?_, ?_, fun y hy => ?_⟩
      · rcases h1 with h1 | h1
        · rw [h1]
          split
          · exact .inr (List.mem_cons_self ..)
          · exact .inl rfl
        · exact .inr (List.mem_cons_of_mem _ h1)
      · refine Int.le_trans h2 ?_
        split <;> omega
      · rcases List.mem_cons.mp hy with rfl | hy
        · refine Int.le_trans h2 ?_
          split <;> omega
        · exact h3 y hy
  intro ns i h
  cases ns with
  | nil => cases h
  | cons a r =>
    cases h
    obtain ⟨h1, h2, h3⟩ := go r a
    refine ⟨?_, fun y hy => ?_⟩
    · rcases h1 with h1 | h1
      · rw [h1]; exact List.mem_cons_self ..
      · exact List.mem_cons_of_mem _ h1
    · rcases List.mem_cons.mp hy with rfl | hy
      · exact h2
      · exact h3 y hy
theorem max_spec : ∀ {ns : List Int} {i : Int}, maxI ns = some i → i ∈ ns ∧ ∀ y ∈ ns, y ≤ i := by
  have go : ∀ (r : List Int) (a : Int), (r.foldl (fun m x => if m < x then x else m) a = a ∨ r.foldl (fun m x => if m < x then x else m) a ∈ r) ∧ a ≤ r.foldl (fun m x => if m < x then x else m) a ∧ ∀ y ∈ r, y ≤ r.foldl (fun m x => if m < x then x else m) a := by
    intro r
    induction r with
    | nil => intro a; exact ⟨.inl rfl, Int.le_refl _, fun _ h => by cases h⟩
    | cons b r ih =>
      intro a
      rw [List.foldl_cons]
      obtain ⟨h1, h2, h3⟩ := ih (if a < b then b else a)
      refine ⟨?_, ?_, fun y hy => ?_⟩
      · rcases h1 with h1 | h1
        · rw [h1]
          split
          · exact .inr (List.mem_cons_self ..)
          · exact .inl rfl
        · exact .inr (List.mem_cons_of_mem _ h1)
      · refine Int.le_trans ?_ h2
        split <;> omega
      · rcases List.mem_cons.mp hy with rfl | hy
        · refine Int.le_trans ?_ h2
          split <;> omega
        · exact h3 y hy
  intro ns i h
  cases ns with
  | nil => cases h
  | cons a r =>
    cases h
    obtain ⟨h1, h2, h3⟩ := go r a
    refine ⟨?_, fun y hy => ?_⟩
    · rcases h1 with h1 | h1
      · rw [h1]; exact List.mem_cons_self ..
      · exact List.mem_cons_of_mem _ h1
    · rcases List.mem_cons.mp hy with rfl | hy
      · exact h2
      · exact h3 y hy
theorem ty_rel (rs : RS g m S H) (h : Rel g m S.length H d v) {a : String} (e : tyOf S d = some a) : TyX g.K H v (.type a) := by
  cases d with
  | non => cases e; rw [rel_non] at h; subst h; exact .base .non
  | bl _ => cases e; rw [rel_bl] at h; subst h; exact .base (.bl _)
  | int _ => cases e; rw [rel_int] at h; subst h; exact .base (.int _)
  | str _ => cases e; rw [rel_str] at h; obtain ⟨rfl, _⟩ := h; exact .base (.str _)
  | tup _ =>
    cases e
    rw [rel_tup] at h
    obtain ⟨a, vs, rfl, t | t | t, _⟩ := h
    · exact .base (.tup t.1)
    · rcases t (fun _ => none) with (z | ⟨_, z⟩) | ⟨o, _, _, k, c, _⟩
      · cases z
      · cases z
      · exact .kTuple k c
    · obtain ⟨o, e, _⟩ := t
      exact .fTuple e
  | lst _ => cases e; rw [rel_lst] at h; obtain ⟨a, vs, rfl, ⟨t, _⟩, _⟩ := h; exact .base (.lst t)
  | scr _ =>
    cases e
    rw [rel_scr] at h
    obtain ⟨a, vs, rfl, t | t, _⟩ := h
    · obtain ⟨o, t, _⟩ := t
      exact .base (.frz t)
    · rcases t (fun _ => none) with (z | ⟨_, z⟩) | ⟨o, _, _, k, c, _⟩
      · cases z
      · cases z
      · exact .kList k c
  | ref i =>
    have e' : (match cellAt S i with | some (.lst _) => some "list" | _ => none) = some a := e
    split at e'
    · rename_i hz
      cases e'
      obtain ⟨a, rfl, _, vs, k, r⟩ := h.box rs hz
      exact .base (.lst k)
    · cases e'
  | ins _ _ => cases e
  | ty _ => cases e
  | ntp _ => cases e
theorem len_rel (rs : RS g m S H) (h : Rel g m S.length H d v) {k : Nat} (e : lenR S d = some k) : LenV g.K v H k := by
  have seq : (seqOf S d).map (·.length) = some k → LenV g.K v H k := fun e => by
    obtain ⟨xs, hx, rfl⟩ := Option.map_eq_some_iff.mp e
    obtain ⟨a, vs, rfl, r, q⟩ := seqOf_sq rs h hx
    rcases q with q | q
    · exact .inl ⟨vs, q, r.length⟩
    · exact .inr ⟨vs, q, r.length⟩
  cases d with
  | str z => cases e; rw [rel_str] at h; obtain ⟨rfl, o⟩ := h; exact ⟨o.1, rfl⟩
  | non => exact seq e
  | bl _ => exact seq e
  | int _ => exact seq e
  | tup _ => exact seq e
  | lst _ => exact seq e
  | scr _ => exact seq e
  | ref _ => exact seq e
  | ins _ _ => exact seq e
  | ty _ => exact seq e
  | ntp _ => exact seq e
theorem Rels.pairs : ∀ {ps : List (D × V)}, (∀ p ∈ ps, Rel g m n H p.1 p.2) → Rels g m n H (ps.map Prod.fst) (ps.map Prod.snd)
  | [], _ => Rels.nil
  | p :: ps, h => Rels.cons (h p (List.mem_cons_self ..)) (Rels.pairs fun q hq => h q (List.mem_cons_of_mem _ hq))
theorem Rels.zip : ∀ {xs : List D} {vs : List V}, Rels g m n H xs vs → ∀ p ∈ xs.zip vs, Rel g m n H p.1 p.2
  | [], _, _, p, hp => by cases hp
  | x :: xs, _, r, p, hp => by
    unfold Rels at r
    obtain ⟨w, ws, rfl, r1, r2⟩ := r
    rcases List.mem_cons.mp hp with rfl | hp
    · exact r1
    · exact Rels.zip r2 p hp
theorem map_fst_zip {α β : Type} : ∀ {xs : List α} {ys : List β}, xs.length = ys.length → (xs.zip ys).map Prod.fst = xs ∧ (xs.zip ys).map Prod.snd = ys
  | [], [], _ => ⟨rfl, rfl⟩
  | x :: xs, y :: ys, l => by
    obtain ⟨h1, h2⟩ := map_fst_zip (xs := xs) (ys := ys) (Nat.succ.inj l)
    exact ⟨by rw [List.zip_cons_cons, List.map_cons, h1], by rw [List.zip_cons_cons, List.map_cons, h2]⟩
  | [], _ :: _, l => by cases l
  | _ :: _, [], l => by cases l
theorem vals_each : ∀ {xs : List D} {vs : List V} {us : List Value}, xs.length = vs.length → Vals vs us → PySem.W.EachIs (fun (u : Value) (b : D × V) => RelV b.2 u) us (xs.zip vs)
  | [], [], _, _, r => by cases r; exact .nil
  | x :: xs, v :: vs, _, l, r => by
    cases r with
    | cons h t => exact .cons h (vals_each (Nat.succ.inj l) t)
  | [], _ :: _, _, l, _ => by cases l
  | _ :: _, [], _, l, _ => by cases l
theorem each_vals : ∀ {ps : List (D × V)} {us : List Value}, PySem.W.EachIs (fun (u : Value) (b : D × V) => RelV b.2 u) us ps → Vals (ps.map Prod.snd) us
  | [], _, .nil => .nil
  | p :: ps, _, .cons h t => .cons h (each_vals t)
theorem each_imp {α β : Type} {R R' : α → β → Prop} : ∀ {as : List α} {bs : List β}, PySem.W.EachIs R as bs → (∀ a b, b ∈ bs → R a b → R' a b) → PySem.W.EachIs R' as bs
  | _, _, .nil, _ => .nil
  | _, _, .cons h t, k => .cons (k _ _ (List.mem_cons_self ..) h) (each_imp t fun a b hb => k a b (List.mem_cons_of_mem _ hb))
theorem pys_map : ∀ xs : List D, D.pys xs = xs.map D.py
  | [] => rfl
  | x :: xs => by rw [D.pys, List.map_cons, pys_map xs]
theorem dps_mem : ∀ {xs : List D} {x : D}, x ∈ xs → x.dp ≤ D.dps xs
  | y :: ys, x, h => by
    rw [D.dps]
    rcases List.mem_cons.mp h with rfl | h
    · exact Nat.le_max_left _ _
    · exact Nat.le_trans (dps_mem h) (Nat.le_max_right _ _)
theorem fzs_mem : ∀ {xs : List D} {x : D}, D.fzs xs = true → x ∈ xs → x.fz = true
  | y :: ys, x, k, h => by
    simp only [D.fzs, Bool.and_eq_true] at k
    rcases List.mem_cons.mp h with rfl | h
    · exact k.1
    · exact fzs_mem k.2 h
/-- sorted of a list of data -/
def rSrtD (K : PySem.W.Frag) : List V → Hp → VK → Prop := fun zs H Q => ∃ (a : Addr) (vs : List V) (xs : List D), zs = [.ref a] ∧ SqL K H a vs ∧ xs.length = vs.length ∧ (∀ p ∈ xs.zip vs, Dp K H p.2 p.1.py) ∧ sortable (D.pys xs) ∧
  (∀ x ∈ xs, x.py.depth ≤ 60) ∧ ∀ p, H p = none → Q (.ref p) (upd H p (.lst (((xs.zip vs).mergeSort fun a b => leD a.1 b.1).map Prod.snd)))
theorem cr_srtD {k : Nat} (hr : Room k X.A) : CallR X (.builtin "sorted") (rSrtD X.K) := by
  intro pins s σ H zs us Q I r h
  obtain ⟨a, vs, xs, rfl, hs, hl, hd, so, dp, q⟩ := h
  obtain ⟨its, rv, hpl, hz⟩ := I.list hs
  rw [Vals.ref1 r]
  have e := vals_each hl rv
  have hmap : (xs.zip vs).map (fun b => b.1.py) = D.pys xs := by
    rw [pys_map]
    have := (map_fst_zip (xs := xs) (ys := vs) hl).1
    have h2 : (xs.zip vs).map (fun b => b.1.py) = ((xs.zip vs).map Prod.fst).map D.py := by rw [List.map_map]; rfl
    rw [h2, this]
  have un : X.A.units + 2 + 60 < cLine := by have := hr.un; omega
  refine PySem.W.sorted_data (bs := xs.zip vs) (enc := fun b => b.1.py) (R := fun u b => RelV b.2 u) hpl.isList e (each_imp e fun u b hb rb => ?_) (by rw [hmap]; exact so.1) (by rw [hmap]; exact so.2) (by rw [← e.length, ← rv.length]; exact hz) (fun b hb => ?_) fun out ho eo => ?_
  · exact Dp.reads I _ b.2 u (hd b hb) rb
  · have := dp b.1 (List.of_mem_zip hb).1
    omega
  · obtain ⟨ep, he'⟩ := PyProof.Rows.sortedAll_at s.heap its out.toArray
    have rv2 := each_vals eo
    have hlen : (((xs.zip vs).mergeSort fun a b => leD a.1 b.1).map Prod.snd).length ≤ sizeLine := by
      rw [List.length_map, List.length_mergeSort, List.length_zip, hl, Nat.min_self]
      exact hz
    exact ⟨.ref _, upd H (s.heap.objs.size + 1) (.lst (((xs.zip vs).mergeSort fun a b => leD a.1 b.1).map Prod.snd)), I.laid (t' := s.toks) (fun _ _ => PyProof.Rows.sortedAll_old) (Nat.le_succ _) ⟨hlen, out, ep, rv2, he'⟩, rfl, q _ (I.hok.fresh (Nat.le_succ _))⟩
theorem sort_fst : ∀ (ps : List (D × V)), (ps.mergeSort fun a b => leD a.1 b.1).map Prod.fst = sortD (ps.map Prod.fst) := fun ps => by
  unfold sortD
  exact List.map_mergeSort fun a _ b _ => rfl
def biOk : Bi → Bool
  | .sumS => false
  | .maxD => false
  | .sumLL => false
  | .str1 => false
  | .sortedR _ => false
  | .isc _ => false
  | _ => true
theorem cr_bi (hK : X.K = g.K) {k : Nat} (hr : Room k X.A) (hc : X.calm = true) (b : Bi) (ok : biOk b = true) : CallR X (biVal b) (rb g b) := by
  cases b with
  | len =>
    refine CallR.imp call_len fun zs H Q ⟨m, S, ds, W, rs, r, w⟩ => ?_
    replace w : WP g W (Rel g) m S.length H (biLen S ds) Q := w
    unfold biLen at w
    split at w
    · split at w
      · rename_i k hk
        obtain ⟨v, rfl, r1⟩ := r.one
        exact ⟨v, k, rfl, by rw [hK]; exact len_rel rs r1 hk, w.now rs (by rw [rel_int])⟩
      · exact w.err
    · exact w.err
  | abs =>
    refine CallR.imp call_abs fun zs H Q ⟨m, S, ds, W, rs, r, w⟩ => ?_
    replace w : WP g W (Rel g) m S.length H (biAbs S ds) Q := w
    unfold biAbs at w
    split at w
    · obtain ⟨v, rfl, r1⟩ := r.one
      rw [rel_int] at r1
      exact ⟨_, by rw [r1], w.now rs (by rw [rel_int])⟩
    · exact w.err
  | min2 =>
    refine CallR.imp (call_min2 hc) fun zs H Q ⟨m, S, ds, W, rs, r, w⟩ => ?_
    replace w : WP g W (Rel g) m S.length H (biMin2 S ds) Q := w
    unfold biMin2 at w
    split at w
    · obtain ⟨v, u, rfl, r1, r2⟩ := r.two
      rw [rel_int] at r1 r2
      exact ⟨_, _, by rw [r1, r2], w.now rs (by rw [rel_int])⟩
    · exact w.err
  | max2 =>
    refine CallR.imp (call_max2 hc) fun zs H Q ⟨m, S, ds, W, rs, r, w⟩ => ?_
    replace w : WP g W (Rel g) m S.length H (biMax2 S ds) Q := w
    unfold biMax2 at w
    split at w
    · obtain ⟨v, u, rfl, r1, r2⟩ := r.two
      rw [rel_int] at r1 r2
      exact ⟨_, _, by rw [r1, r2], w.now rs (by rw [rel_int])⟩
    · exact w.err
  | minL =>
    refine CallR.imp (cr_min hc) fun zs H Q ⟨m, S, ds, W, rs, r, w⟩ => ?_
    replace w : WP g W (Rel g) m S.length H (biMinL S ds) Q := w
    unfold biMinL at w
    split at w
    · split at w
      · rename_i i hi
        obtain ⟨ns, h1, h2⟩ := Option.bind_eq_some_iff.mp hi
        obtain ⟨v, rfl, r1⟩ := r.one
        obtain ⟨a, rfl, q⟩ := ints_sq rs r1 h1
        obtain ⟨m1, m2⟩ := min_spec h2
        refine ⟨a, ns, rfl, by rw [hK]; exact q, List.length_pos_of_mem m1, fun j j1 j2 => w.now rs ?_⟩
        rw [rel_int, Int.le_antisymm (j2 _ m1) (m2 _ j1)]
      · exact w.err
    · exact w.err
  | maxL =>
    refine CallR.imp (cr_max hc) fun zs H Q ⟨m, S, ds, W, rs, r, w⟩ => ?_
    replace w : WP g W (Rel g) m S.length H (biMaxL S ds) Q := w
    unfold biMaxL at w
    split at w
    · split at w
      · rename_i i hi
        obtain ⟨ns, h1, h2⟩ := Option.bind_eq_some_iff.mp hi
        obtain ⟨v, rfl, r1⟩ := r.one
        obtain ⟨a, rfl, q⟩ := ints_sq rs r1 h1
        obtain ⟨m1, m2⟩ := max_spec h2
        refine ⟨a, ns, rfl, by rw [hK]; exact q, List.length_pos_of_mem m1, fun j j1 j2 => w.now rs ?_⟩
        rw [rel_int, Int.le_antisymm (m2 _ j1) (j2 _ m1)]
      · exact w.err
    · exact w.err
  | sumL =>
    refine CallR.imp (cr_sum hc) fun zs H Q ⟨m, S, ds, W, rs, r, w⟩ => ?_
    replace w : WP g W (Rel g) m S.length H (biSumL S ds) Q := w
    unfold biSumL at w
    split at w
    · split at w
      · rename_i ns hi
        obtain ⟨v, rfl, r1⟩ := r.one
        obtain ⟨a, rfl, q⟩ := ints_sq rs r1 hi
        exact ⟨a, ns, rfl, by rw [hK]; exact q, w.now rs (by rw [rel_int])⟩
      · exact w.err
    · exact w.err
  | sumS => cases ok
  | all =>
    refine CallR.imp (cr_all hc) fun zs H Q ⟨m, S, ds, W, rs, r, w⟩ => ?_
    replace w : WP g W (Rel g) m S.length H (biAll S ds) Q := w
    unfold biAll at w
    split at w
    · split at w
      · rename_i ns hi
        obtain ⟨v, rfl, r1⟩ := r.one
        obtain ⟨a, rfl, q⟩ := bls_sq rs r1 hi
        exact ⟨a, ns, rfl, by rw [hK]; exact q, w.now rs (by rw [rel_bl])⟩
      · exact w.err
    · exact w.err
  | any =>
    refine CallR.imp (cr_any hc) fun zs H Q ⟨m, S, ds, W, rs, r, w⟩ => ?_
    replace w : WP g W (Rel g) m S.length H (biAny S ds) Q := w
    unfold biAny at w
    split at w
    · split at w
      · rename_i ns hi
        obtain ⟨v, rfl, r1⟩ := r.one
        obtain ⟨a, rfl, q⟩ := bls_sq rs r1 hi
        exact ⟨a, ns, rfl, by rw [hK]; exact q, w.now rs (by rw [rel_bl])⟩
      · exact w.err
    · exact w.err
  | int1 =>
    refine CallR.imp call_int1 fun zs H Q ⟨m, S, ds, W, rs, r, w⟩ => ?_
    replace w : WP g W (Rel g) m S.length H (biInt S ds) Q := w
    unfold biInt at w
    split at w
    · obtain ⟨v, rfl, r1⟩ := r.one
      rw [rel_int] at r1
      exact .inl ⟨_, by rw [r1], w.now rs (by rw [rel_int])⟩
    · obtain ⟨v, rfl, r1⟩ := r.one
      rw [rel_bl] at r1
      exact .inr ⟨_, by rw [r1], w.now rs (by rw [rel_int])⟩
    · exact w.err
  | list1 box =>
    refine CallR.imp call_list_of fun zs H Q ⟨m, S, ds, W, rs, r, w⟩ => ?_
    replace w : WP g W (Rel g) m S.length H (biList box S ds) Q := w
    unfold biList at w
    split at w
    · split at w
      · rename_i xs hx
        obtain ⟨v, rfl, r1⟩ := r.one
        obtain ⟨a, vs, rfl, r2, q⟩ := seqOf_sq rs r1 hx
        exact ⟨a, vs, rfl, by rw [hK]; exact q, fun p hp => mkL_ok rs r2 w hp⟩
      · exact w.err
    · exact w.err
  | tuple1 =>
    refine CallR.imp call_tuple_of fun zs H Q ⟨m, S, ds, W, rs, r, w⟩ => ?_
    replace w : WP g W (Rel g) m S.length H (biTuple S ds) Q := w
    unfold biTuple at w
    split at w
    · split at w
      · rename_i xs hx
        obtain ⟨v, rfl, r1⟩ := r.one
        obtain ⟨a, vs, rfl, r2, q⟩ := seqOf_rel rs r1 hx
        refine ⟨a, vs, rfl, ?_⟩
        rcases q with ⟨q, _⟩ | ⟨q, rfl⟩
        · exact .inl ⟨by rw [hK]; exact q, fun p hp => mkT_ok rs r2 w hp⟩
        · exact .inr ⟨by rw [hK]; exact q.sq, w.now rs r1⟩
      · exact w.err
    · exact w.err
  | sorted1 box =>
    refine CallR.imp (cr_srtD hr) fun zs H Q ⟨m, S, ds, W, rs, r, w⟩ => ?_
    replace w : WP g W (Rel g) m S.length H (biSorted box S ds) Q := w
    unfold biSorted at w
    split at w
    · split at w
      · rename_i xs hx
        obtain ⟨v, rfl, r1⟩ := r.one
        obtain ⟨a, vs, rfl, r2, q⟩ := lst_sq rs r1 hx
        obtain ⟨⟨c1, c2, c3⟩, w⟩ := w.ck
        have r3 : ∀ p ∈ xs.zip vs, Rel g m S.length H p.1 p.2 := r2.zip
        refine ⟨a, vs, xs, rfl, by rw [hK]; exact q, r2.length, fun p hp => ?_, c3, fun x hx => ?_, fun p hp => ?_⟩
        · rw [hK]
          exact (py_lay p.1 p.2 (fzs_mem c1 (List.of_mem_zip hp).1) (r3 p hp)).2
        · rw [py_depth x (fzs_mem c1 hx)]
          exact Nat.le_trans (dps_mem hx) c2
        · refine mkL_ok (box := box) rs ?_ w hp
          have e : sortD xs = ((xs.zip vs).mergeSort fun a b => leD a.1 b.1).map Prod.fst := by
            rw [sort_fst, (map_fst_zip r2.length).1]
          rw [e]
          exact Rels.pairs fun p hp => r3 p ((List.mergeSort_perm _ _).mem_iff.mp hp)
      · exact w.err
    · exact w.err
  | isi =>
    refine CallR.imp call_isi fun zs H Q ⟨m, S, ds, W, rs, r, w⟩ => ?_
    replace w : WP g W (Rel g) m S.length H (biIsi S ds) Q := w
    unfold biIsi at w
    split at w
    · split at w
      · rename_i b hb
        obtain ⟨v, u, rfl, r1, r2⟩ := r.two
        rw [rel_ty] at r2
        subst r2
        obtain ⟨a, h1, h2⟩ := Option.bind_eq_some_iff.mp hb
        exact ⟨v, _, _, _, b, rfl, .ty _, by rw [hK]; exact ty_rel rs r1 h1, kit_ty h2, w.now rs (by rw [rel_bl])⟩
      · exact w.err
    · exact w.err
  | isc c => cases ok
  | maxD => cases ok
  | sumLL => cases ok
  | str1 => cases ok
  | sortedR _ => cases ok
end
end Iv

/-! ### calls -/
namespace Iv
open PySem PySem.Spec PyProof.Rows L2
def okEs (es : List Expr) : Bool := es.all okE
theorem star_all : ∀ {es : List Expr} {env : PySem.Env} {pos : Pos}, okEs es = true → (backTo pos (starEach es env)).all (fun x => !x.1) = true ∧ (backTo pos (starEach es env)).any (·.1) = false
  | [], _, _, _ => ⟨rfl, rfl⟩
  | e :: es, env, pos, h => by
    unfold okEs at h
    rw [List.all_cons, Bool.and_eq_true] at h
    obtain ⟨h1, h2⟩ := star_all (env := env) (pos := pos) h.2
    rw [starEach_ok h.1]
    exact ⟨by show (!false && (backTo pos (starEach es env)).all (fun x => !x.1)) = true; rw [h1]; rfl, by show (false || (backTo pos (starEach es env)).any (·.1)) = false; rw [h2]; rfl⟩
def kwsNames : List Keyword → Option (List Str)
  | [] => some []
  | k :: ks => match k.arg with
    | some x => (kwsNames ks).map (x :: ·)
    | none => none
theorem kws_all : ∀ {kws : List Keyword} {ks : List Str} {env : PySem.Env} {pos : Pos}, kwsNames kws = some ks → (backToKw pos (keywordEach kws env)).all (·.1.isSome) = true ∧ (backToKw pos (keywordEach kws env)).filterMap (·.1) = ks ∧ (backToKw pos (keywordEach kws env)).any (·.1.isNone) = false
  | [], _, _, _, h => by cases h; exact ⟨rfl, rfl, rfl⟩
  | ⟨a, v, p⟩ :: kws, ks, env, pos, h => by
    cases a with
    | none => cases h
    | some x =>
      obtain ⟨ks', h1, rfl⟩ := Option.map_eq_some_iff.mp (show (kwsNames kws).map (x :: ·) = some ks from h)
      obtain ⟨a1, a2, a3⟩ := kws_all (env := env) (pos := pos) h1
      refine ⟨?_, ?_, ?_⟩
      · show (true && (backToKw pos (keywordEach kws env)).all (·.1.isSome)) = true
        rw [a1]
        rfl
      · show x :: (backToKw pos (keywordEach kws env)).filterMap (·.1) = x :: ks'
        rw [a2]
      · show (false || (backToKw pos (keywordEach kws env)).any (·.1.isNone)) = false
        rw [a3]
        rfl
theorem meth_eval {o : Expr} {name : Str} {apos pos : Pos} {args : List Expr} {kws : List Keyword} {ks : List Str} {env : PySem.Env} (ho : okE o = true) (ha : okEs args = true) (hk : kwsNames kws = some ks) (hn : args.length + kws.length < 28) (hl : (apos.endLine == pos.line) = true) :
    eval (.Call (.Attribute o name apos) args kws pos) env = (do
      let ov ← eval o env
      standAt apos.atName
      let (f, first) ← holding [ov] (getMethod ov name (do return (← importBound o env).getD true))
      callWith pos f first (backTo pos (starEach args env)) (backToKw pos (keywordEach kws env))) := by
  show (do
    let ov ← attributeBase o name env (eval o env)
    standAt apos.atName
    methodCall o name apos pos env ov (args.length + kws.length) (backTo pos (starEach args env)) (backToKw pos (keywordEach kws env))) = _
  rw [attrBase_ok ho]
  have hf : methodCallForm (args.length + kws.length) (backTo pos (starEach args env)) (backToKw pos (keywordEach kws env)) = true := by
    unfold methodCallForm
    rw [(star_all ha).1, (kws_all hk).1, Bool.true_and, Bool.true_and]
    refine decide_eq_true ?_
    split <;> omega
  unfold methodCall
  rw [hf]
  have hp : methodCallPos true o env apos pos = pure pos := by
    unfold methodCallPos
    rw [hl]
    rfl
  simp only [hp, pure_bind]
  rfl

section
variable {g : Gs} {W : L2.WX} {X : Cx} {F : CE} {e o : Expr} {es : List Expr} {ie io : E} {ies iks : List E} {kws : List Keyword} {ks : List Str} {p pos apos : Pos} {x name : Str} {m : Mp} {n : Nat} {H : Hp} {S : Sto} {σ : L2.St}
theorem k_nil : PK X [] (tEs g W (evs F [])) := by
  refine ⟨fun pos pins s σ H Q I ⟨m, ρ, S, rs, er, w⟩ => pk_nil.run pos pins s σ H Q I ?_⟩
  rw [evs] at w
  exact w.now rs Rels.nil
theorem k_cons {nm : Option Str} {kp : Pos} (ha : PE X e (tE g W (ev F ie))) (hr : PK X kws (tEs g W (evs F iks))) : PK X (⟨nm, e, kp⟩ :: kws) (tEs g W (evs F (ie :: iks))) := by
  refine ⟨fun pos pins s σ H Q I ⟨m, ρ, S, rs, er, w⟩ => (pk_cons ha hr).run pos pins s σ H Q I ?_⟩
  rw [evs] at w
  refine TI.step rs er w fun x H1 m1 S1 d x1 rs1 er1 r1 w => ?_
  refine TI.step (Ra := Rels g) rs1 er1 w fun ys H2 m2 S2 ds x2 rs2 er2 r2 w => ?_
  exact w.now rs2 (Rels.cons (Rel.mono x2 _ _ r1) r2)
theorem evs_append {ρ : Env} : ∀ {as bs : List E} {S : Sto}, evs F (as ++ bs) ρ S = (evs F as ρ S).bind fun xs S => (evs F bs ρ S).bind fun ys S => .ok (xs ++ ys) S
  | [], bs, S => by
    rw [List.nil_append, evs]
    simp only [R.bind_ok, List.nil_append]
    cases evs F bs ρ S <;> rfl
  | a :: as, bs, S => by
    rw [List.cons_append, evs, evs]
    cases ev F a ρ S with
    | ok x S1 =>
      simp only [R.bind_ok]
      rw [evs_append (as := as), R.bind_bind, R.bind_bind]
      cases evs F as ρ S1 with
      | ok xs S2 =>
        simp only [R.bind_ok]
        rw [R.bind_bind]
        cases evs F bs ρ S2 <;> rfl
      | _ => rfl
    | _ => rfl
theorem evs_length {ρ : Env} : ∀ {as : List E} {S : Sto} {ds : List D} {S' : Sto}, evs F as ρ S = .ok ds S' → ds.length = as.length
  | [], S, ds, S', h => by rw [evs] at h; cases h; rfl
  | a :: as, S, ds, S', h => by
    rw [evs] at h
    cases h1 : ev F a ρ S with
    | ok x S1 =>
      rw [h1] at h
      simp only [R.bind_ok] at h
      cases h2 : evs F as ρ S1 with
      | ok xs S2 =>
        rw [h2] at h
        simp only [R.bind_ok] at h
        cases h
        rw [List.length_cons, List.length_cons, evs_length h2]
      | exc _ _ => rw [h2] at h; cases h
      | err => rw [h2] at h; cases h
    | exc _ _ => rw [h1] at h; cases h
    | err => rw [h1] at h; cases h
/-! built-in functions -/
def biName : Bi → Str
  | .len => "len"
  | .abs => "abs"
  | .min2 => "min"
  | .max2 => "max"
  | .minL => "min"
  | .maxL => "max"
  | .sumL => "sum"
  | .sumS => "sum"
  | .all => "all"
  | .any => "any"
  | .int1 => "int"
  | .list1 _ => "list"
  | .tuple1 => "tuple"
  | .sorted1 _ => "sorted"
  | .isi => "isinstance"
  | .isc _ => "isinstance"
  | .maxD => "max"
  | .sumLL => "sum"
  | .str1 => "str"
  | .sortedR _ => "sorted"
theorem bi_boot (b : Bi) : bootBuiltins (biName b) = some (biVal b) := by
  cases b with
  | list1 _ => exact (by decide +kernel : bootBuiltins "list" = some (.type "list"))
  | sortedR _ => exact (by decide +kernel : bootBuiltins "sorted" = some (.builtin "sorted"))
  | sorted1 _ => exact (by decide +kernel : bootBuiltins "sorted" = some (.builtin "sorted"))
  | isc _ => exact (by decide +kernel : bootBuiltins "isinstance" = some (.builtin "isinstance"))
  | _ => decide +kernel
theorem bi_names (b : Bi) : biName b ≠ "__name__" ∧ (biName b == ("__debug__" : Str)) = false := by
  cases b with
  | list1 _ => exact (by decide +kernel : ("list" : Str) ≠ "__name__" ∧ (("list" : Str) == ("__debug__" : Str)) = false)
  | sortedR _ => exact (by decide +kernel : ("sorted" : Str) ≠ "__name__" ∧ (("sorted" : Str) == ("__debug__" : Str)) = false)
  | sorted1 _ => exact (by decide +kernel : ("sorted" : Str) ≠ "__name__" ∧ (("sorted" : Str) == ("__debug__" : Str)) = false)
  | isc _ => exact (by decide +kernel : ("isinstance" : Str) ≠ "__name__" ∧ (("isinstance" : Str) == ("__debug__" : Str)) = false)
  | _ => decide +kernel
theorem i_bi (hK : X.K = g.K) {k : Nat} (hr : Room k X.A) (hc : X.calm = true) (b : Bi) (ok : biOk b = true) (hg : Gl X (biName b)) (hm : X.mg (biName b) = none) (oks : okEs (e :: es) = true) (ha : PA X (e :: es) (tEs g W (evs F ies))) :
    PE X (.Call (.Name (biName b) p) (e :: es) [] pos) (tE g W (ev F (.bi b ies))) := by
  have oke : okE e = true ∧ okEs es = true := by unfold okEs at oks ⊢; rwa [List.all_cons, Bool.and_eq_true] at oks
  have key : ∀ σ H Q, tE g W (ev F (.bi b ies)) σ H Q → tCB (rb g b) (tEs g W (evs F ies)) σ H Q := fun σ H Q ⟨m, ρ, S, rs, er, w⟩ => by
    rw [ev] at w
    refine TI.step (Ra := Rels g) rs er w fun zs H1 m1 S1 ds x1 rs1 er1 r1 w => ?_
    exact ⟨m1, S1, ds, _, rs1, r1, w⟩
  have cr := cr_bi hK hr hc b ok
  have bo := bi_boot b
  obtain ⟨n1, n2⟩ := bi_names b
  refine PE.imp ?_ key
  have fin : (∃ id, biVal b = .builtin id) ∨ ∃ T, biVal b = .type T := by cases b <;> first | exact .inl ⟨_, rfl⟩ | exact .inr ⟨_, rfl⟩
  rcases fin with ⟨id, h⟩ | ⟨T, h⟩
  · rw [h] at cr bo
    exact pe_callB cr hg hm bo ha n1 n2 (starEach_ok oke.1) (star_all oke.2).2
  · rw [h] at cr bo
    exact pe_callTy cr hg hm bo ha n1 n2 (starEach_ok oke.1) (star_all oke.2).2
/-! methods of built-in classes -/
def rm (g : Gs) (mt : Bm) : V → List V → Hp → VK → Prop := fun v xs H Q => ∃ m S d ds W, RS g m S H ∧ Rel g m S.length H d v ∧ Rels g m S.length H ds xs ∧ WP g W (Rel g) m S.length H (bmR mt d ds S) Q
def bmTy : Bm → String
  | .append => "list"
  | .insert => "list"
  | .index => "list"
  | .count => "list"
  | .join => "str"
  | .sindex => "str"
  | .upper => "str"
  | .clear => "list"
  | .remove => "list"
  | .pop1 => "list"
theorem box_set {c : Cell} {a : Addr} {o' : HO} {i : Nat} {W : Value → Option Addr → Hp → Prop} {Q : VK} (rs : RS g m S H) (k : m i = some a) (w : WP g W (Rel g) m S.length H (.ok .non (setAt S i c)) Q) (hc : CellR g m S.length (upd H a o') a c) (nf : NoFz (H a) := by first | exact NoFz.of (u := .lst _) (by assumption) (fun _ _ z => nomatch z) | exact NoFz.of (u := .ins _ _ _) (by assumption) (fun _ _ z => nomatch z) | exact NoFz.of (u := .dK _) (by assumption) (fun _ _ z => nomatch z)) : Q .non (upd H a o') := by
  have l : (setAt S i c).length = S.length := by unfold setAt; rw [List.length_set]
  refine w m _ .non (by rw [l]; exact Ext.set rs k nf) (rs.set k hc) ?_
  rw [rel_non]
theorem mt_append' : MtR X "list.append" (rm g .append) := by
  refine MtR.imp mt_append fun v xs H Q ⟨m, S, d, ds, W, rs, r, rx, w⟩ => ?_
  replace w : WP g W (Rel g) m S.length H (bmAppend S d ds) Q := w
  unfold bmAppend at w
  split at w
  · split at w
    · split at w
      · rename_i hz
        obtain ⟨c, w⟩ := w.ck
        obtain ⟨y, rfl, ry⟩ := rx.one
        obtain ⟨a, rfl, k, vs, hv, rv⟩ := r.box rs hz
        refine ⟨a, vs, y, rfl, rfl, hv, by rw [← rv.length]; exact c, box_set rs k w ?_⟩
        have x := Ext.set (n := S.length) (o := .lst (vs ++ [y])) rs k
        exact ⟨_, upd_same, Rels.mono x _ _ (rv.append (Rels.cons ry Rels.nil))⟩
      · exact w.err
    · exact w.err
  · exact w.err
theorem okS.list {l : List Nat} (h1 : l.length ≤ sizeLine) (h2 : ∀ c ∈ l, c < 1114112) : okS ⟨l.toArray⟩ := ⟨by show l.toArray.size ≤ _; rw [List.size_toArray]; exact h1, h2⟩
theorem bm_head {mt : Bm} {d : D} {v : V} (hK : X.K = g.K) (rs : RS g m S H) (r : Rel g m S.length H d v) (h : bmOk mt d S = true) : tyV X.K (bmTy mt) v H := by
  cases mt with
  | append =>
    cases d with
    | ref i =>
      have h' : (match cellAt S i with | some (.lst _) => true | _ => false) = true := h
      split at h'
      · rename_i hz
        obtain ⟨a, rfl, k, vs, hv, rv⟩ := r.box rs hz
        exact .inl ⟨rfl, vs, SqL.of hv⟩
      · cases h'
    | _ => cases h
  | insert =>
    cases d with
    | ref i =>
      have h' : (match cellAt S i with | some (.lst _) => true | _ => false) = true := h
      split at h'
      · rename_i hz
        obtain ⟨a, rfl, k, vs, hv, rv⟩ := r.box rs hz
        exact .inl ⟨rfl, vs, SqL.of hv⟩
      · cases h'
    | _ => cases h
  | remove =>
    cases d with
    | ref i =>
      have h' : (match cellAt S i with | some (.lst _) => true | _ => false) = true := h
      split at h'
      · rename_i hz
        obtain ⟨a, rfl, k, vs, hv, rv⟩ := r.box rs hz
        exact .inl ⟨rfl, vs, SqL.of hv⟩
      · cases h'
    | _ => cases h
  | pop1 =>
    cases d with
    | ref i =>
      have h' : (match cellAt S i with | some (.lst _) => true | _ => false) = true := h
      split at h'
      · rename_i hz
        obtain ⟨a, rfl, k, vs, hv, rv⟩ := r.box rs hz
        exact .inl ⟨rfl, vs, SqL.of hv⟩
      · cases h'
    | _ => cases h
  | index =>
    have h' : (lstOf S d).isSome = true := h
    obtain ⟨xs, hx⟩ := Option.isSome_iff_exists.mp h'
    obtain ⟨a, vs, rfl, rv, q⟩ := lst_sq rs r hx
    rw [hK]
    exact .inl ⟨rfl, vs, q⟩
  | count =>
    have h' : (lstOf S d).isSome = true := h
    obtain ⟨xs, hx⟩ := Option.isSome_iff_exists.mp h'
    obtain ⟨a, vs, rfl, rv, q⟩ := lst_sq rs r hx
    rw [hK]
    exact .inl ⟨rfl, vs, q⟩
  | clear =>
    cases d with
    | ref i =>
      have h' : (match cellAt S i with | some (.lst _) => true | _ => false) = true := h
      split at h'
      · rename_i hz
        obtain ⟨a, rfl, k, vs, hv, rv⟩ := r.box rs hz
        exact .inl ⟨rfl, vs, SqL.of hv⟩
      · cases h'
    | _ => cases h
  | join =>
    cases d with
    | str z => rw [rel_str] at r; obtain ⟨rfl, _⟩ := r; rfl
    | _ => cases h
  | sindex =>
    cases d with
    | str z => rw [rel_str] at r; obtain ⟨rfl, _⟩ := r; rfl
    | _ => cases h
  | _ => cases d <;> cases h
theorem i_bm {mt : Bm} (hK : X.K = g.K) {id : String} (pa : PlainAttrs (bmTy mt)) (slot : Slot (bmTy mt) name id) (hty : typeOf (.builtin id) = pure (.type "method_descriptor")) (hm : MtR X id (rm g mt)) (oko : okE o = true) (oks : okEs (e :: es) = true)
    (hl : (apos.endLine == pos.line) = true) (hn : (e :: es).length < 28) (ho : PE X o (tE g W (ev F io))) (ha : PA X (e :: es) (tEs g W (evs F ies))) : PE X (.Call (.Attribute o name apos) (e :: es) [] pos) (tE g W (ev F (.bm mt io ies))) := by
  have oke : okE e = true ∧ okEs es = true := by unfold okEs at oks ⊢; rwa [List.all_cons, Bool.and_eq_true] at oks
  refine PE.imp (pe_bm pa slot hty hm ho ha (attrBase_ok oko) ?_ hl (starEach_ok oke.1) (star_all oke.2).2) fun σ H Q ⟨m, ρ, S, rs, er, w⟩ => ?_
  · rw [(star_all oks).1]
    show (true && true && decide ((e :: es).length + 0 + 0 < 30)) = true
    rw [Bool.true_and, Bool.true_and]
    exact decide_eq_true (by omega)
  · rw [ev] at w
    refine TI.step rs er w fun v H1 m1 S1 d x1 rs1 er1 r1 w => ?_
    obtain ⟨c, w⟩ := w.ck
    refine ⟨bm_head hK rs1 r1 c, ?_⟩
    refine TI.step (Ra := Rels g) rs1 er1 w fun zs H2 m2 S2 ds x2 rs2 er2 r2 w => ?_
    exact ⟨m2, S2, d, ds, _, rs2, Rel.mono x2 _ _ r1, r2, w⟩
/-! freezing -/
theorem RelFs.lookup (hi : ∀ f, f ∈ (fs : List (Nat × D)).map (·.1) → g.fok f) : ∀ {fs' : List (Nat × D)} {gs : List (Str × V)} {f : Nat} {d : D}, (∀ f, f ∈ fs'.map (·.1) → g.fok f) → g.fok f → RelFs g m n H fs' gs → fs'.lookup f = some d → ∃ v, gs.lookup (g.fn f) = some v ∧ Rel g m n H d v
  | [], _, _, _, _, _, _, h => by cases h
  | (f', d') :: r, gs, f, d, ho, hf, rr, h => by
    unfold RelFs at rr
    obtain ⟨v, gr, rfl, r1, r2⟩ := rr
    rw [List.lookup_cons] at h
    rw [List.lookup_cons]
    by_cases hff : f = f'
    · subst hff
      rw [show (f == f) = true from beq_self_eq_true f] at h
      cases h
      rw [show (g.fn f == g.fn f) = true from beq_self_eq_true _]
      exact ⟨v, rfl, r1⟩
    · rw [show (f == f') = false from beq_eq_false_iff_ne.mpr hff] at h
      have hne : g.fn f ≠ g.fn f' := fun z => hff (g.finj _ _ hf (ho f' (List.mem_cons_self ..)) z)
      rw [show (g.fn f == g.fn f') = false from beq_eq_false_iff_ne.mpr hne]
      exact RelFs.lookup hi (fun f h => ho f (List.mem_cons_of_mem _ h)) hf r2 h
theorem frz_ok {d : D} {v : V} {W : Value → Option Addr → Hp → Prop} {Q : VK} (rs : RS g m S H) (r : Rel g m S.length H d v) (w : WP g W (Rel g) m S.length H (frzR d S) Q) : Q v H := by
  cases d with
  | ref i =>
    replace w : WP g W (Rel g) m S.length H (match cellAt S i with | some (.lst xs) => R.ok (D.lst xs) (S.set i none) | some (.ins c fs) => .ok (.ins c fs) (S.set i none) | _ => .err) Q := w
    split at w
    · rename_i xs hz
      obtain ⟨a, rfl, k, vs, hv, rv⟩ := r.box rs hz
      obtain ⟨rs', of⟩ := rs.del k
      refine w (mDel m i) H _ (by rw [List.length_set]; exact Ext.del) rs' ?_
      rw [List.length_set, rel_lst]
      exact ⟨a, vs, rfl, ⟨hv, of⟩, Rels.mono Ext.del _ _ rv⟩
    · rename_i c fs hz
      obtain ⟨a, rfl, k, dx, gs, hv, ok, rv⟩ := r.box rs hz
      obtain ⟨rs', of⟩ := rs.del k
      refine w (mDel m i) H _ (by rw [List.length_set]; exact Ext.del) rs' ?_
      rw [List.length_set, rel_ins]
      exact ⟨a, dx, gs, rfl, ⟨hv, of⟩, ok, RelFs.mono Ext.del _ _ rv⟩
    · exact w.err
  | _ => exact w.err
theorem i_frz (ha : PE X e (tE g W (ev F ie))) : PE X e (tE g W (ev F (.frz ie))) := by
  refine PE.imp ha fun σ H Q ⟨m, ρ, S, rs, er, w⟩ => ?_
  rw [ev] at w
  exact TI.step rs er w fun v H1 m1 S1 d x1 rs1 er1 r1 w => frz_ok rs1 r1 w
/-! attributes -/
theorem attr_ok {d : D} {v : V} {W : Value → Option Addr → Hp → Prop} {Q : VK} {f : Nat} (hK : X.K = g.K) (hf : g.fok f) (rs : RS g m S H) (r : Rel g m S.length H d v) (w : WP g W (Rel g) m S.length H (attrR d f S) Q) :
    ∃ a C dx fs y, v = .ref a ∧ H a = some (.ins C dx fs) ∧ Cls X.K C ∧ NoAttr X.K C (g.fn f) ∧ fs.lookup (g.fn f) = some y ∧ Q y H := by
  have go : ∀ {c : Nat} {fs : List (Nat × D)} {a dx : Addr} {gs : List (Str × V)}, v = .ref a → H a = some (.ins (g.ca c) dx gs) → insOk g c fs → RelFs g m S.length H fs gs → WP g W (Rel g) m S.length H (match fs.lookup f with | some d => .ok d S | none => .err) Q →
      ∃ a C dx fs y, v = .ref a ∧ H a = some (.ins C dx fs) ∧ Cls X.K C ∧ NoAttr X.K C (g.fn f) ∧ fs.lookup (g.fn f) = some y ∧ Q y H := by
    intro c fs a dx gs e hv ok rv w
    split at w
    · rename_i d' hd
      obtain ⟨y, hy, ry⟩ := RelFs.lookup (fs := fs) (fun f h => (ok.2.2 f h).1) (fun f h => (ok.2.2 f h).1) hf rv hd
      have hm : f ∈ fs.map (·.1) := by
        obtain ⟨l1, l2, e1, _⟩ := List.lookup_eq_some_iff.mp hd
        rw [e1]
        simp
      exact ⟨a, _, dx, gs, y, e, hv, by rw [hK]; exact ok.1, by rw [hK]; exact (ok.2.2 f hm).2, hy, w.now rs ry⟩
    · exact w.err
  cases d with
  | ins c fs =>
    rw [rel_ins] at r
    obtain ⟨a, dx, gs, e, ⟨hv, _⟩, ok, rv⟩ := r
    exact go e hv ok rv w
  | ref i =>
    replace w : WP g W (Rel g) m S.length H (match cellAt S i with | some (.ins _ fs) => (match fs.lookup f with | some d => R.ok d S | none => .err) | _ => .err) Q := w
    split at w
    · rename_i c fs hz
      obtain ⟨a, e, k, dx, gs, hv, ok, rv⟩ := r.box rs hz
      exact go e hv ok rv w
    · exact w.err
  | _ => exact w.err
theorem i_attr {f : Nat} (hK : X.K = g.K) (hf : g.fok f) (ok : okE e = true) (ha : PE X e (tE g W (ev F ie))) : PE X (.Attribute e (g.fn f) pos) (tE g W (ev F (.attr ie f))) := by
  refine PE.imp (pe_fld ha (attrBase_ok ok)) fun σ H Q ⟨m, ρ, S, rs, er, w⟩ => ?_
  rw [ev] at w
  refine TI.step rs er w fun v H1 m1 S1 d x1 rs1 er1 r1 w => ?_
  exact attr_ok hK hf rs1 r1 w
/-! own functions -/
def spF (g : Gs) (F : CE) (f np : Nat) : Sp := fun vs H Q E => vs.length = np ∧ ∃ m S ds, RS g m S H ∧ Rels g m S.length H ds vs ∧ WP g E (Rel g) m S.length H (F f ds S) Q
/-- how a call's values come to the parameters -/
structure Sig (g : Gs) (fd : FuncData) (ps : List Str) (n : Nat) (ks : List Str) (arr : List Ar) : Prop where
  ex : ∃ (gg : List Value → List Value → List Value) (gV : List V → List V → List V), KBn g.K fd ps n ks gg gV ∧ ∀ m N H ds vs zs ps', Rels g m N H ds (vs ++ zs) → vs.length = n → zs.length = ks.length → pick ds arr = some ps' → Rels g m N H ps' (gV vs zs) ∧ (gV vs zs).length = ps.length
theorem run_own {pins : List (Addr × Obj)} {s : Shared} {Q : VK} {us ws : List Value} {vs zs : List V} {k : Nat} {fa : Addr} {fd : FuncData} {ps : List Str} {sp : Sp} {gg : List Value → List Value → List Value} {gV : List V → List V → List V}
    (FO : FnOk X.prog X.w X.K X.mg X.base (L2.CX X.prog X.w) k fa fd ps sp) (hr : Room k X.A) (hb : KBn X.K fd ps n ks gg gV) (tk : Takes X W)
    (I : L2.Inv X pins σ H s) (r : Vals vs us) (rz : Vals zs ws) (l1 : vs.length = n) (l2 : zs.length = ks.length) (h : sp (gV vs zs) H Q (WE W σ)) : wpAny (model X.prog X.w) X.A (call (.ref fa) us (ks.zip ws)) (EP X pins σ Q) X.xe s := by
  have r2 := hb.rel r rz
  refine wpAny_call (codeAny_mono (FO.run X.A X.stack s H ⟨us, ks.zip ws⟩ (gg us ws) (gV vs zs) Q (WE W σ) hr I.env0 (hb.to s us ws I.kIn (r.length.symm.trans l1) (rz.length.symm.trans l2)) r2 h) fun r s' hq => ?_)
  cases r with
  | error e => exact passAt tk σ pins H s e s' I hq
  | ok fl =>
    cases fl with
    | ret u => exact I.after hq
    | next => exact False.elim hq
    | brk => exact False.elim hq
    | cont => exact False.elim hq
theorem own_args {fv : Value} {first : List Value} {K2 : List D → Sto → R D} {pins : List (Addr × Obj)} {s : Shared} {Q : VK} {ρ : Env} (hkp : PySem.W.keepIn X.K fv = true) (oks : okEs es = true) (hks : kwsNames kws = some ks) (hkl : iks.length = ks.length) (hel : es.length = ies.length)
    (ha : PA X es (tEs g W (evs F ies))) (hkw : PK X kws (tEs g W (evs F iks))) (I : L2.Inv X pins σ H s) (rs : RS g m S H) (er : EnvR g m S.length H ρ σ) (w : WP g (fun c d H' => W c d σ H') (Rel g) m S.length H ((evs F (ies ++ iks) ρ S).bind K2) Q)
    (fin : ∀ {s2 : Shared} {H2 : Hp} {m2 : Mp} {S2 : Sto} {as bs : List D} {vs zs : List V} {us ws : List Value}, L2.Inv X pins σ H2 s2 → Vals vs us → Vals zs ws → vs.length = ies.length → zs.length = ks.length → Ext m S.length H m2 S2.length H2 → RS g m2 S2 H2 → EnvR g m2 S2.length H2 ρ σ →
      Rels g m2 S2.length H2 (as ++ bs) (vs ++ zs) → WP g (fun c d H' => W c d σ H') (Rel g) m2 S2.length H2 (K2 (as ++ bs) S2) Q →
      wpAny (model X.prog X.w) X.A (call fv (first ++ us) (ks.zip ws)) (EP X pins σ Q) X.xe s2) :
    wpAny (model X.prog X.w) X.A (callWith pos fv first (backTo pos (starEach es X.env)) (backToKw pos (keywordEach kws X.env))) (EP X pins σ Q) X.xe s := by
  rw [evs_append, R.bind_bind] at w
  obtain ⟨k1, k2, k3⟩ := kws_all (env := X.env) (pos := pos) hks
  cases es with
  | nil =>
    refine PySem.W.callWith_KW0 (h₀ := X.base) I.ok.mod.kin hkp k1 ?_ (by rw [k3]; rfl)
    have e0 : ies = [] := List.length_eq_zero_iff.mp hel.symm
    subst e0
    rw [evs] at w
    simp only [R.bind_ok] at w
    rw [R.bind_bind] at w
    refine thn (hkw.run pos pins s σ H (fun zs H2 => ∃ m2 S2 bs, bs.length = iks.length ∧ Ext m S.length H m2 S2.length H2 ∧ RS g m2 S2 H2 ∧ EnvR g m2 S2.length H2 ρ σ ∧ Rels g m2 S2.length H2 bs zs ∧ WP g (fun c d H' => W c d σ H') (Rel g) m2 S2.length H2 (K2 ([] ++ bs) S2) Q) I ?_) fun ws s2 ⟨zs, H2, I2, rz, m2, S2, bs, lb, x2, rs2, er2, rb, w2⟩ => ⟨I2.kIn, ?_⟩
    · exact TI.stepE (Ra := Rels g) rs er w fun zs H2 m2 S2 bs e x2 rs2 er2 r2 w => ⟨m2, S2, bs, evs_length e, x2, rs2, er2, r2, w⟩
    · rw [k2]
      exact fin (us := []) (vs := []) (as := []) I2 .nil rz rfl ((rb.length.symm.trans lb).trans hkl) x2 rs2 er2 rb w2
  | cons e es =>
    have oke : okE e = true ∧ okEs es = true := by unfold okEs at oks ⊢; rwa [List.all_cons, Bool.and_eq_true] at oks
    refine PySem.W.callWith_KW (h₀ := X.base) I.ok.mod.kin hkp k1 ?_ (by rw [(star_all oks).2, k3]; rfl) (starEach_ok oke.1)
    refine thn (ha.run pos pins s σ H (fun vs H1 => ∃ m1 S1 as, as.length = ies.length ∧ Ext m S.length H m1 S1.length H1 ∧ RS g m1 S1 H1 ∧ EnvR g m1 S1.length H1 ρ σ ∧ Rels g m1 S1.length H1 as vs ∧ WP g (fun c d H' => W c d σ H') (Rel g) m1 S1.length H1 ((evs F iks ρ S1).bind fun ys S => K2 (as ++ ys) S) Q) I ?_) fun us s1 ⟨vs, H1, I1, rv, m1, S1, as, la, x1, rs1, er1, ra, w1⟩ => ?_
    · refine TI.stepE (Ra := Rels g) rs er w fun vs H1 m1 S1 as e x1 rs1 er1 r1 w => ⟨m1, S1, as, evs_length e, x1, rs1, er1, r1, ?_⟩
      rw [R.bind_bind] at w
      exact w
    · refine thn (hkw.run pos pins s1 σ H1 (fun zs H2 => ∃ m2 S2 bs, bs.length = iks.length ∧ Ext m1 S1.length H1 m2 S2.length H2 ∧ RS g m2 S2 H2 ∧ EnvR g m2 S2.length H2 ρ σ ∧ Rels g m2 S2.length H2 bs zs ∧ WP g (fun c d H' => W c d σ H') (Rel g) m2 S2.length H2 (K2 (as ++ bs) S2) Q) I1 ?_) fun ws s2 ⟨zs, H2, I2, rz, m2, S2, bs, lb, x2, rs2, er2, rb, w2⟩ => ⟨I2.kIn, ?_⟩
      · exact TI.stepE (Ra := Rels g) rs1 er1 w1 fun zs H2 m2 S2 bs e x2 rs2 er2 r2 w => ⟨m2, S2, bs, evs_length e, x2, rs2, er2, r2, w⟩
      · rw [k2]
        exact fin I2 rv rz (ra.length.symm.trans la) ((rb.length.symm.trans lb).trans hkl) (x1.trans x2) rs2 er2 ((Rels.mono x2 _ _ ra).append rb) w2
theorem i_call {k : Nat} {fa : Addr} {fd : FuncData} {ps : List Str} {f : Nat} {arr : List Ar} (hK : X.K = g.K) (FO : FnOk X.prog X.w X.K X.mg X.base (L2.CX X.prog X.w) k fa fd ps (spF g F f ps.length)) (hr : Room k X.A) (hg : Gl X x) (hm : X.mg x = some (.ref fa))
    (hkp : PySem.W.keepIn X.K (.ref fa) = true) (sg : Sig g fd ps ies.length ks arr) (tk : Takes X W) (hdb : (x == ("__debug__" : Str)) = false) (oks : okEs es = true) (hks : kwsNames kws = some ks) (hkl : iks.length = ks.length) (hel : es.length = ies.length)
    (ha : PA X es (tEs g W (evs F ies))) (hkw : PK X kws (tEs g W (evs F iks))) : PE X (.Call (.Name x p) es kws pos) (tE g W (ev F (.call f arr (ies ++ iks)))) := by
  obtain ⟨gg, gV, hb, hp⟩ := sg.ex
  rw [← hK] at hb
  refine ⟨fun pins s σ H Q I ⟨m, ρ, S, rs, er, w⟩ => ?_⟩
  rw [ev] at w
  refine wpAny_Call_Name_kw (ld_glob I hg hm ?_ hdb)
  refine own_args (first := []) hkp oks hks hkl hel ha hkw I rs er w fun I2 ru rz l1 l2 x2 rs2 er2 ra w => ?_
  unfold callR at w
  split at w
  · rename_i ps' hps
    obtain ⟨q1, q2⟩ := hp _ _ _ _ _ _ _ ra l1 l2 hps
    exact run_own FO hr hb tk I2 ru rz l1 l2 ⟨q2, _, _, ps', rs2, q1, w⟩
  · exact w.err
theorem noName {c : Nat} {fs : List (Nat × D)} {gs : List (Str × V)} {fa : Addr} (ok : insOk g c fs) (M : Meth g.K (g.ca c) name fa) : ∀ {fs' : List (Nat × D)}, (∀ f, f ∈ fs'.map (·.1) → f ∈ fs.map (·.1)) → ∀ {gs : List (Str × V)}, RelFs g m n H fs' gs → gs.lookup name = none
  | [], _, _, r => by unfold RelFs at r; rw [r]; rfl
  | (f, d) :: fs', h, _, r => by
    unfold RelFs at r
    obtain ⟨v, gr, rfl, _, r2⟩ := r
    rw [List.lookup_cons]
    have hne : name ≠ g.fn f := fun z => by
      have := (ok.2.2 f (h f (List.mem_cons_self ..))).2
      unfold NoAttr at this
      rw [← z, M.at_] at this
      cases this
    rw [show (name == g.fn f) = false from beq_eq_false_iff_ne.mpr hne]
    exact noName (gs := gs) ok M (fun f hf => h f (List.mem_cons_of_mem _ hf)) r2
/-- what the text says of a method of a class -/
structure MOk (g : Gs) (X : Cx) (F : CE) (name : Str) (c f n : Nat) (ks : List Str) (arr : List Ar) : Prop where
  ex : ∃ (k : Nat) (fa : Addr) (fd : FuncData) (ps : List Str), Meth g.K (g.ca c) name fa ∧ FnOk X.prog X.w X.K X.mg X.base (L2.CX X.prog X.w) k fa fd ps (spF g F f ps.length) ∧ Room k X.A ∧ Sig g fd ps (n + 1) ks arr
theorem cls_ok {d : D} {v : V} {c : Nat} (rs : RS g m S H) (r : Rel g m S.length H d v) (h : clsOf S d = some c) : ∃ a dx fs gs, v = .ref a ∧ H a = some (.ins (g.ca c) dx gs) ∧ insOk g c fs ∧ RelFs g m S.length H fs gs := by
  cases d with
  | ins c' fs =>
    cases h
    rw [rel_ins] at r
    obtain ⟨a, dx, gs, e, ⟨hv, _⟩, ok, rv⟩ := r
    exact ⟨a, dx, fs, gs, e, hv, ok, rv⟩
  | ref i =>
    replace h : (match cellAt S i with | some (.ins c _) => some c | _ => none) = some c := h
    split at h
    · rename_i c' fs hz
      cases h
      obtain ⟨a, e, k, dx, gs, hv, ok, rv⟩ := r.box rs hz
      exact ⟨a, dx, fs, gs, e, hv, ok, rv⟩
    · cases h
  | _ => cases h
theorem i_meth {ms : List (Nat × Nat × List Ar)} (hK : X.K = g.K) (hms : ∀ c f arr, ms.lookup c = some (f, arr) → MOk g X F name c f ies.length ks arr) (tk : Takes X W) (oko : okE o = true) (oks : okEs es = true) (hks : kwsNames kws = some ks) (hkl : iks.length = ks.length) (hel : es.length = ies.length)
    (hn : es.length + kws.length < 28) (hl : (apos.endLine == pos.line) = true) (ho : PE X o (tE g W (ev F io))) (ha : PA X es (tEs g W (evs F ies))) (hkw : PK X kws (tEs g W (evs F iks))) : PE X (.Call (.Attribute o name apos) es kws pos) (tE g W (ev F (.meth io ms (ies ++ iks)))) := by
  refine ⟨fun pins s σ H Q I ⟨m, ρ, S, rs, er, w⟩ => ?_⟩
  rw [ev] at w
  generalize hk3 : (fun x S => match (clsOf S x).bind fun c => ms.lookup c with
    | some (f, arr) => (evs F (ies ++ iks) ρ S).bind fun xs S => callR F f arr (x :: xs) S
    | none => .err : D → Sto → R D) = K3 at w
  refine PySem.W.methodCall_KW (thn (ho.run pins s σ H (fun v H1 => ∃ m1 S1 d, RS g m1 S1 H1 ∧ EnvR g m1 S1.length H1 ρ σ ∧ Rel g m1 S1.length H1 d v ∧ WP g (fun c d H' => W c d σ H') (Rel g) m1 S1.length H1 (K3 d S1) Q) I (TI.step rs er w fun v H1 m1 S1 d x1 rs1 er1 r1 w => ⟨m1, S1, d, rs1, er1, r1, w⟩)) fun u s1 ⟨v, H1, I1, rv, m1, S1, d, rs1, er1, r1, w⟩ => ?_) (meth_eval oko oks hks hn hl)
  subst hk3
  dsimp only at w
  split at w
  · rename_i f arr hc
    obtain ⟨c, h1, h2⟩ := Option.bind_eq_some_iff.mp hc
    obtain ⟨k, fa, fd, ps, M, FO, hr, sg⟩ := (hms c f arr h2).ex
    obtain ⟨a, dx, fs, gs, rfl, hv, ok, rfs⟩ := cls_ok rs1 r1 h1
    obtain rfl : u = Value.ref a := rv
    obtain ⟨gg, gV, hb, hp⟩ := sg.ex
    have M' := M
    rw [← hK] at hb M'
    refine getmeth_ok I1 hv (by rw [hK]; exact ok.1) M' (noName (gs := gs) ok M (fun _ h => h) rfs) ?_
    refine own_args (first := [.ref a]) M'.kp oks hks hkl hel ha hkw I1 rs1 er1 w fun I2 ru rz l1 l2 x2 rs2 er2 ra w => ?_
    unfold callR at w
    split at w
    · rename_i ps' hps
      obtain ⟨q1, q2⟩ := hp _ _ _ _ (.ref a :: _) _ _ (Rels.cons (Rel.mono x2 _ _ r1) ra) (by rw [List.length_cons, l1]) l2 hps
      exact run_own (us := .ref a :: _) (vs := .ref a :: _) FO hr hb tk I2 (.cons rfl ru) rz (by rw [List.length_cons, l1]) l2 ⟨q2, _, _, ps', rs2, q1, w⟩
    · exact w.err
  · exact w.err
theorem run_mk {pins : List (Addr × Obj)} {s : Shared} {Q : VK} {us ws : List Value} {vs zs : List V} {k : Nat} {C fa : Addr} {fd : FuncData} {ps : List Str} {sp : Sp} {gg : List Value → List Value → List Value} {gV : List V → List V → List V} (M : Mk X.K C fa)
    (FO : FnOk X.prog X.w X.K X.mg X.base (L2.CX X.prog X.w) k fa fd ps sp) (hr : Room (k + 1) X.A) (hb : KBn X.K fd ps (n + 1) ks gg gV) (tk : Takes X W) (I : L2.Inv X pins σ H s) (r : Vals vs us) (rz : Vals zs ws) (l1 : vs.length = n) (l2 : zs.length = ks.length)
    (h : ∀ x dx, H x = none → H dx = none → dx ≠ x → sp (gV (.ref x :: vs) zs) (upd (upd H dx (.own x)) x (.ins C dx [])) (fun v H2 => v = .non ∧ Q (.ref x) H2) (WE W σ)) :
    wpAny (model X.prog X.w) X.A (call (.ref C) us (ks.zip ws)) (EP X pins σ Q) X.xe s := by
  have hq := h (s.heap.objs.size + 1) s.heap.objs.size (I.hok.fresh (Nat.le_succ _)) (I.hok.fresh (Nat.le_refl _)) (Nat.ne_of_lt (Nat.lt_succ_self _))
  have I2 := Inv.made (C := C) I
  have r1 : Vals (V.ref (s.heap.objs.size + 1) :: vs) (Value.ref (s.heap.objs.size + 1) :: us) := .cons rfl r
  have e1 : (Value.ref (s.heap.objs.size + 1) :: us).length = n + 1 := r1.length.symm.trans (congrArg Nat.succ l1)
  refine wpAny_call (make_map (f := fa) I.kIn M.makes M.init (beq_iff_eq.mp M.fn) (codeAny_mono (FO.run _ X.stack _ _ ⟨Value.ref (s.heap.objs.size + 1) :: us, ks.zip ws⟩ (gg (Value.ref (s.heap.objs.size + 1) :: us) ws) _ _ (WE W σ) (hr.make C us (ks.zip ws))
    (I2.env0.make C us (ks.zip ws)) (hb.to _ (Value.ref (s.heap.objs.size + 1) :: us) ws I2.kIn e1 (rz.length.symm.trans l2)) (hb.rel r1 rz) hq) fun r s' hq' => ?_))
  cases r with
  | error e => exact passAt tk σ pins _ _ e s' I2 hq'
  | ok fl =>
    cases fl with
    | ret u =>
      obtain ⟨v, H', I3, rv, ev, q3⟩ := I2.after hq'
      subst ev
      exact ⟨rv, ⟨V.ref (s.heap.objs.size + 1), H', I3, rfl, q3⟩⟩
    | next => exact False.elim hq'
    | brk => exact False.elim hq'
    | cont => exact False.elim hq'
theorem i_make {k : Nat} {fa : Addr} {fd : FuncData} {ps : List Str} {c f : Nat} {fr : Bool} {arr : List Ar} (hK : X.K = g.K) (M : Mk g.K (g.ca c) fa) (cl : Cls g.K (g.ca c)) (FO : FnOk X.prog X.w X.K X.mg X.base (L2.CX X.prog X.w) k fa fd ps (spF g F f ps.length)) (hr : Room (k + 1) X.A) (hg : Gl X x) (hm : X.mg x = some (.ref (g.ca c)))
    (sg : Sig g fd ps (ies.length + 1) ks arr) (tk : Takes X W) (hdb : (x == ("__debug__" : Str)) = false) (oks : okEs es = true) (hks : kwsNames kws = some ks) (hkl : iks.length = ks.length) (hel : es.length = ies.length)
    (ha : PA X es (tEs g W (evs F ies))) (hkw : PK X kws (tEs g W (evs F iks))) : PE X (.Call (.Name x p) es kws pos) (tE g W (ev F (.make fr c f arr (ies ++ iks)))) := by
  obtain ⟨gg, gV, hb, hp⟩ := sg.ex
  have M' := M
  rw [← hK] at hb M'
  refine ⟨fun pins s σ H Q I ⟨m, ρ, S, rs, er, w⟩ => ?_⟩
  rw [ev] at w
  refine wpAny_Call_Name_kw (ld_glob I hg hm ?_ hdb)
  refine own_args (first := []) M'.kp oks hks hkl hel ha hkw I rs er w fun {s2 H2 m2 S2 as bs vs zs us ws} I2 ru rz l1 l2 x2 rs2 er2 ra w => ?_
  refine run_mk M' FO hr hb tk I2 ru rz l1 l2 fun y dx hy hd hne => ?_
  have hy1 : upd H2 dx (.own y) y = none := by rw [upd_ne (Ne.symm hne)]; exact hy
  have rs3 := rs2.laid (o := .own y) hd
  have x3 : Ext m2 S2.length H2 (mNew m2 S2.length y) (S2.length + 1) (upd (upd H2 dx (.own y)) y (.ins (g.ca c) dx [])) := (Ext.laid rs2 hd).trans (Ext.new rs3 hy1)
  have rs4 : RS g (mNew m2 S2.length y) (S2 ++ [some (.ins c [])]) (upd (upd H2 dx (.own y)) y (.ins (g.ca c) dx [])) := rs3.new hy1 ⟨dx, [], upd_same, ⟨cl, Nat.zero_le _, fun f hf => by cases hf⟩, by unfold RelFs; rfl⟩
  have ln : (S2 ++ [some (Cell.ins c [])]).length = S2.length + 1 := by rw [List.length_append, List.length_singleton]
  unfold makeR callR at w
  have rself : Rel g (mNew m2 S2.length y) (S2.length + 1) (upd (upd H2 dx (.own y)) y (.ins (g.ca c) dx [])) (.ref S2.length) (.ref y) := by
    rw [rel_ref]
    exact ⟨Nat.lt_succ_self _, y, rfl, fun b hb => by rw [mNew_same] at hb; cases hb; rfl⟩
  split at w
  · rename_i ps' hps
    obtain ⟨q1, q2⟩ := hp (mNew m2 S2.length y) (S2.length + 1) _ (.ref S2.length :: (as ++ bs)) (.ref y :: vs) zs ps' (Rels.cons rself (Rels.mono x3 _ _ ra)) (by rw [List.length_cons, l1]) l2 hps
    refine ⟨q2, _, _, ps', rs4, by rw [ln]; exact q1, ?_⟩
    rw [ln]
    have w1 := WP.bind (Ra := Rel g) (w.from x3)
    refine w1.imp fun v H4 ⟨m4, S4, r, x4, rs4, rr, w4⟩ => ?_
    split at w4
    · rw [rel_non] at rr
      refine ⟨rr, ?_⟩
      have rs5 : Rel g m4 S4.length H4 (.ref S2.length) (.ref y) := Rel.mono x4 _ _ rself
      cases fr with
      | true =>
        rw [if_pos rfl] at w4
        exact frz_ok rs4 rs5 w4
      | false =>
        rw [if_neg Bool.false_ne_true] at w4
        exact w4.now rs4 rs5
    · exact w4.err
  · exact WP.err (show WP g _ (Rel g) m2 S2.length H2 .err Q from w)
end
end Iv

/-! ### targets, walks, statements -/
namespace Iv
open PySem PySem.Spec PyProof.Rows L2
theorem WP.wish {α β : Type} {g : Gs} {W W' : Value → Option Addr → Hp → Prop} {Ra : Mp → Nat → Hp → α → β → Prop} {m : Mp} {n : Nat} {H : Hp} {r : R α} {Q : β → Hp → Prop} (h : WP g W Ra m n H r Q) (k : ∀ c d H, W c d H → W' c d H) : WP g W' Ra m n H r Q := by
  cases r with
  | ok a S' => exact h
  | exc x S' => exact fun m' H' c d y rs q => k c d H' (h m' H' c d y rs q)
  | err => exact h
theorem WP.ra {α β : Type} {g : Gs} {W : Value → Option Addr → Hp → Prop} {Ra Ra' : Mp → Nat → Hp → α → β → Prop} {m : Mp} {n : Nat} {H : Hp} {r : R α} {Q : β → Hp → Prop} (h : WP g W Ra m n H r Q) (k : ∀ m n H a b, Ra' m n H a b → Ra m n H a b) : WP g W Ra' m n H r Q := by
  cases r with
  | ok a S' => exact fun m' H' b x rs ra => h m' H' b x rs (k _ _ _ _ _ ra)
  | exc x S' => exact h
  | err => exact h
abbrev noW : Value → Option Addr → Hp → Prop := fun _ _ _ => False
/-- the other names' values stay -/
def Kept (vs : List Nat) (σ σ' : L2.St) : Prop := σ'.length = σ.length ∧ ∀ i, i ∉ vs → σ'[i]? = σ[i]?
theorem Kept.refl {vs : List Nat} {σ : L2.St} : Kept vs σ σ := ⟨rfl, fun _ _ => rfl⟩
theorem Kept.trans {vs : List Nat} {σ σ1 σ2 : L2.St} (h : Kept vs σ σ1) (k : Kept vs σ1 σ2) : Kept vs σ σ2 := ⟨k.1.trans h.1, fun i hi => (k.2 i hi).trans (h.2 i hi)⟩
theorem Kept.set {vs : List Nat} {σ : L2.St} {i : Nat} {v : Option V} (h : i ∈ vs) : Kept vs σ (σ.set i v) := ⟨List.length_set, fun j hj => List.getElem?_set_ne fun z => hj (by rw [← z]; exact h)⟩
theorem wipe_len (σ : L2.St) : ∀ vs : List Nat, (wipe σ vs).length = σ.length
  | [] => rfl
  | v :: vs => by
    unfold L2.wipe
    rw [List.length_set]
    exact wipe_len σ vs
theorem wipe_get (σ : L2.St) : ∀ (vs : List Nat) (i : Nat), i < σ.length → (wipe σ vs)[i]? = if i ∈ vs then some none else σ[i]?
  | [], i, _ => by rw [if_neg List.not_mem_nil]; rfl
  | v :: vs, i, h => by
    unfold L2.wipe
    by_cases e : i = v
    · rw [e, List.getElem?_set_self (by rw [wipe_len]; rw [← e]; exact h), if_pos (List.mem_cons_self ..)]
    · rw [List.getElem?_set_ne (Ne.symm e), wipe_get σ vs i h]
      simp [List.mem_cons, e]
theorem Kept.wiped {vs : List Nat} {σ σ' : L2.St} (h : Kept vs (wipe σ vs) σ') : wipe σ' vs = wipe σ vs := by
  have hl : σ'.length = σ.length := by rw [h.1, wipe_len]
  apply List.ext_getElem?
  intro i
  rcases Nat.lt_or_ge i σ.length with l | l
  · rw [wipe_get _ _ _ (by rw [hl]; exact l), wipe_get _ _ _ l]
    split
    · rfl
    · rename_i hi
      rw [h.2 i hi, wipe_get _ _ _ l, if_neg hi]
  · rw [List.getElem?_eq_none (by rw [wipe_len, hl]; exact l), List.getElem?_eq_none (by rw [wipe_len]; exact l)]
def EnvK (g : Gs) (vs : List Nat) (σ : L2.St) : Mp → Nat → Hp → Env → L2.St → Prop := fun m n H ρ' σ' => EnvR g m n H ρ' σ' ∧ Kept vs σ σ'
def TGv (g : Gs) (vs : List Nat) (f : D → Env → Sto → R Env) : TG := fun v σ H Q => ∃ m ρ S d, RS g m S H ∧ EnvR g m S.length H ρ σ ∧ Rel g m S.length H d v ∧ WP g noW (EnvK g vs σ) m S.length H (f d ρ S) Q
def TGvs (g : Gs) (vs : List Nat) (n : Nat) (f : List D → Env → Sto → R Env) : TGs := fun us σ H Q => ∃ m ρ S ds, RS g m S H ∧ EnvR g m S.length H ρ σ ∧ Rels g m S.length H ds us ∧ ds.length = n ∧ WP g noW (EnvK g vs σ) m S.length H (f ds ρ S) Q
def TGd (g : Gs) (f : D → Env → Sto → R Env) : TG := fun v σ H Q => ∃ m ρ S d, RS g m S H ∧ EnvR g m S.length H ρ σ ∧ Rel g m S.length H d v ∧ WP g noW (EnvR g) m S.length H (f d ρ S) Q
theorem PG.imp {X : Cx} {t : Expr} {u u' : TG} (h : PG X t u) (k : ∀ v σ H Q, u' v σ H Q → u v σ H Q) : PG X t u' := ⟨fun pins s σ H v w Q I r q => h.run pins s σ H v w Q I r (k v σ H Q q)⟩
theorem PGs.imp {X : Cx} {t : List Expr} {u u' : TGs} (h : PGs X t u) (k : ∀ v σ H Q, u' v σ H Q → u v σ H Q) : PGs X t u' := ⟨fun pins s σ H v w Q I r q => h.run pins s σ H v w Q I r (k v σ H Q q)⟩
theorem PG.or {X : Cx} {t : Expr} {u u' : TG} (h : PG X t u) (h' : PG X t u') : PG X t (fun v σ H Q => u v σ H Q ∨ u' v σ H Q) := ⟨fun pins s σ H v w Q I r q => q.elim (h.run pins s σ H v w Q I r) (h'.run pins s σ H v w Q I r)⟩
def noStar : Expr → Bool
  | .Starred _ _ => false
  | _ => true
theorem assignEach_ok {e : Expr} {es : List Expr} {env : PySem.Env} (h : noStar e = true) : assignEach (e :: es) env = (false, assign e env) :: assignEach es env := by
  cases e <;> first | rfl | (exact absurd h Bool.false_ne_true)
theorem assignEach_all : ∀ {es : List Expr} {env : PySem.Env}, es.all noStar = true → (assignEach es env).length = es.length ∧ (assignEach es env).findIdx? (·.1) = none
  | [], _, _ => ⟨rfl, rfl⟩
  | e :: es, env, h => by
    rw [List.all_cons, Bool.and_eq_true] at h
    obtain ⟨h1, h2⟩ := assignEach_all (env := env) h.2
    rw [assignEach_ok h.1]
    refine ⟨by rw [List.length_cons, List.length_cons, h1], ?_⟩
    rw [List.findIdx?_cons, h2]
    rfl
section
variable {g : Gs} {W : L2.WX} {X : Cx} {F : CE} {m : Mp} {n : Nat} {H : Hp} {S : Sto} {σ : L2.St} {ρ : Env} {pos : Pos}
theorem g_var {vs : List Nat} {i : Nat} {x : Str} (hv : i ∈ vs) (hN : X.N.Nodup) (hi : X.N[i]? = some x) (hx : Loc X.env.scope x) (hf : X.fn x = true ∨ X.env.scope.names.lookup x = some .local) : PG X (.Name x pos) (TGv g vs (asg F (.var i))) := by
  refine PG.imp (pg_name hN hi hx hf) fun v σ H Q ⟨m, ρ, S, d, rs, er, r, w⟩ => ?_
  rw [asg] at w
  exact w.now rs ⟨er.set r, Kept.set hv⟩
theorem gs_nil {vs : List Nat} : PGs X [] (TGvs g vs 0 (asgs F [])) := by
  refine PGs.imp pgs_nil fun us σ H Q ⟨m, ρ, S, ds, rs, er, r, l, w⟩ => ?_
  have : ds = [] := List.length_eq_zero_iff.mp l
  subst this
  unfold Rels at r
  rw [asgs] at w
  exact ⟨r, w.now rs ⟨er, Kept.refl⟩⟩
theorem gs_cons {vs : List Nat} {e : Expr} {es : List Expr} {t : Tg} {ts : List Tg} (ok : noStar e = true) (h1 : PG X e (TGv g vs (asg F t))) (h2 : PGs X es (TGvs g vs ts.length (asgs F ts))) : PGs X (e :: es) (TGvs g vs (t :: ts).length (asgs F (t :: ts))) := by
  refine PGs.imp (pgs_cons h1 h2 (by rw [assignEach_ok ok]; rfl)) fun us σ H Q ⟨m, ρ, S, ds, rs, er, r, l, w⟩ => ?_
  cases ds with
  | nil => cases l
  | cons d ds =>
    unfold Rels at r
    obtain ⟨v, vr, rfl, r1, r2⟩ := r
    rw [asgs] at w
    refine ⟨v, vr, rfl, m, ρ, S, d, rs, er, r1, (WP.bind (Ra := EnvK g vs σ) w).imp fun σ1 H1 ⟨m1, S1, ρ1, x1, rs1, ⟨er1, k1⟩, w1⟩ => ?_⟩
    exact ⟨m1, ρ1, S1, ds, rs1, er1, Rels.mono x1 _ _ r2, Nat.succ.inj l, w1.ra fun _ _ _ _ _ z => ⟨z.1, k1.trans z.2⟩⟩
theorem g_tup {vs : List Nat} {es : List Expr} {ts : List Tg} {k : Nat} (hK : X.K = g.K) (hc : X.calm = true) (ok : es.all noStar = true) (hl : es.length = ts.length) (h : PGs X es (TGvs g vs ts.length (asgs F ts))) : PG X (.Tuple es k pos) (TGv g vs (asg F (.tup ts))) := by
  obtain ⟨l1, l2⟩ := assignEach_all (env := X.env) ok
  refine PG.imp (PG.or (pg_tup hc h l1 l2) (pg_lst hc h l1 l2)) fun v σ H Q ⟨m, ρ, S, d, rs, er, r, w⟩ => ?_
  rw [asg] at w
  split at w
  · rename_i xs hx
    obtain ⟨c, w⟩ := w.ck
    obtain ⟨a, vs, rfl, rr, q⟩ := seqOf_sq rs r hx
    have lv : vs.length = es.length := by rw [← rr.length, c, hl]
    rw [hK]
    rcases q with q | q
    · exact .inr ⟨a, vs, rfl, q, lv, m, ρ, S, xs, rs, er, rr, c, w⟩
    · exact .inl ⟨a, vs, rfl, q, lv, m, ρ, S, xs, rs, er, rr, c, w⟩
  · exact w.err
theorem assign_sub_ok {o i : Expr} {env : PySem.Env} (h : okE i = true) : ∀ v, assign (.Subscript o i pos) env v = (do
      let ov ← holding [v] (eval o env)
      let iv ← holding [v, ov] (eval i env)
      standAt pos
      holding [v, ov, iv] (setItem ov iv v)
      release [v, ov, iv] []) := by
  intro v
  cases i <;> first | rfl | (exact absurd h Bool.false_ne_true)
theorem g_idx {vs : List Nat} {o i : Expr} {io ii : E} (ok : okE i = true) (ho : PE X o (tE g W (ev F io))) (hi : PE X i (tE g W (ev F ii))) : PG X (.Subscript o i pos) (TGv g vs (asg F (.idx io ii))) := by
  refine PG.imp (pg_sub ho hi set_list (assign_sub_ok ok)) fun v σ H Q ⟨m, ρ, S, d, rs, er, r, w⟩ => ?_
  rw [asg] at w
  refine ⟨m, ρ, S, rs, er, ((WP.bind (Ra := Rel g) w).wish fun _ _ _ z => z.elim).imp fun x H1 ⟨m1, S1, dx, x1, rs1, r1, w1⟩ => ?_⟩
  refine ⟨m1, ρ, S1, rs1, er.mono x1, ((WP.bind (Ra := Rel g) w1).wish fun _ _ _ z => z.elim).imp fun y H2 ⟨m2, S2, dy, x2, rs2, r2, w2⟩ => ?_⟩
  cases dx with
  | ref nn =>
    cases dy with
    | int kk =>
      replace w2 : WP g noW (EnvK g vs σ) m2 S2.length H2 ((match cellAt S2 nn with | some (.lst xs) => ck (0 ≤ kk ∧ kk < xs.length) (.ok () (setAt S2 nn (.lst (xs.set kk.toNat d)))) | _ => (.err : R Unit)).bind fun _ S => .ok ρ S) Q := w2
      split at w2
      · rename_i xs hz
        obtain ⟨a, rfl, k, vs, hv, rv⟩ := (Rel.mono x2 _ _ r1).box rs2 hz
        rw [rel_int] at r2
        unfold ck at w2
        split at w2
        · rename_i c
          simp only [R.bind_ok] at w2
          have hl := rv.length
          refine ⟨a, vs, kk, kk.toNat, rfl, r2, hv, ?_, ?_⟩
          · unfold ixN
            rw [if_pos c.1, if_pos (by omega)]
          · have xs' := Ext.set (n := S2.length) (o := .lst (vs.set kk.toNat v)) rs2 k
            have ln : (setAt S2 nn (.lst (xs.set kk.toNat d))).length = S2.length := by unfold setAt; rw [List.length_set]
            refine w2 m2 _ σ (by rw [ln]; exact xs') (rs2.set k ⟨_, upd_same, Rels.mono xs' _ _ (rv.set _ (Rel.mono (x1.trans x2) _ _ r))⟩) ?_
            rw [ln]
            exact ⟨er.mono ((x1.trans x2).trans xs'), Kept.refl⟩
        · exact w2.elim
      · exact w2.elim
    | _ => exact w2.elim
  | _ => cases dy <;> exact w2.elim
theorem putFd_mem {f f' : Nat} {d : D} : ∀ {fs : List (Nat × D)}, f' ∈ (putFd f d fs).map (·.1) → f' = f ∨ f' ∈ fs.map (·.1)
  | [], h => by
    rw [putFd] at h
    exact .inl (by simpa using h)
  | (g, e) :: r, h => by
    rw [putFd] at h
    split at h
    · exact .inr h
    · rw [List.map_cons] at h
      rcases List.mem_cons.mp h with h | h
      · exact .inr (by rw [h]; exact List.mem_cons_self ..)
      · rcases putFd_mem h with h | h
        · exact .inl h
        · exact .inr (List.mem_cons_of_mem _ h)
theorem putFd_length {f : Nat} {d : D} : ∀ {fs : List (Nat × D)}, (putFd f d fs).length ≤ fs.length + 1
  | [] => by rw [putFd]; exact Nat.le_refl _
  | (g, e) :: r => by
    rw [putFd]
    split
    · exact Nat.le_succ _
    · rw [List.length_cons, List.length_cons]
      exact Nat.succ_le_succ putFd_length
theorem RelFs.put {f : Nat} {d : D} {v : V} (hf : g.fok f) (r : Rel g m n H d v) : ∀ {fs : List (Nat × D)} {gs : List (Str × V)}, (∀ f, f ∈ fs.map (·.1) → g.fok f) → RelFs g m n H fs gs → RelFs g m n H (putFd f d fs) (putF (g.fn f) v gs)
  | [], _, _, rr => by
    unfold RelFs at rr
    rw [rr, putFd]
    show RelFs g m n H [(f, d)] [(g.fn f, v)]
    unfold RelFs
    exact ⟨v, [], rfl, r, by unfold RelFs; rfl⟩
  | (f', e) :: fs, _, ho, rr => by
    unfold RelFs at rr
    obtain ⟨w, gr, rfl, r1, r2⟩ := rr
    rw [putFd]
    unfold putF
    by_cases h : f' = f
    · subst h
      rw [if_pos rfl, if_pos rfl]
      unfold RelFs
      exact ⟨v, gr, rfl, r, r2⟩
    · rw [if_neg h, if_neg fun z => h (g.finj _ _ (ho f' (List.mem_cons_self ..)) hf z)]
      unfold RelFs
      exact ⟨w, _, rfl, r1, RelFs.put hf r (fun f h => ho f (List.mem_cons_of_mem _ h)) r2⟩
theorem pg_attr {o : Expr} {to : TE} {f : Str} (ho : PE X o to) : PG X (.Attribute o f pos) (fun v σ H Q => to σ H fun x H1 => ∃ a C dx fs, x = .ref a ∧ H1 a = some (.ins C dx fs) ∧ Cls X.K C ∧ NoAttr X.K C f ∧ fs.length < 1000 ∧ Q σ (upd H1 a (.ins C dx (putF f v fs)))) := by
  refine ⟨fun pins s σ H v u Q I r h => ?_⟩
  show wpAny _ _ (do
    let ov ← holding [u] (eval o X.env)
    standAt pos.atName
    holding [u, ov] (setAttr ov f u)
    release [u, ov] []) _ _ s
  refine wpAny_bind (wpAny_holding (thn (ho.run pins s σ H _ I h) fun ov s1 ⟨x, H1, I1, r1, a, C, dx, fs, ex, ea, c, na, l, q⟩ => ?_))
  subst ex
  obtain rfl : ov = Value.ref a := r1
  refine wpAny_bind (wpAny_standAt (wpAny_bind (wpAny_holding (setattr_ok I1 ea c na l r fun s2 I2 => ?_))))
  exact wpAny_release ⟨σ, _, I2, q⟩
theorem g_attr {vs : List Nat} {o : Expr} {io : E} {f : Nat} {cs : List Nat} (hK : X.K = g.K) (hf : g.fok f) (hcs : ∀ c ∈ cs, NoAttr g.K (g.ca c) (g.fn f)) (ho : PE X o (tE g W (ev F io))) : PG X (.Attribute o (g.fn f) pos) (TGv g vs (asg F (.attr io f cs))) := by
  refine PG.imp (pg_attr ho) fun v σ H Q ⟨m, ρ, S, d, rs, er, r, w⟩ => ?_
  rw [asg] at w
  refine ⟨m, ρ, S, rs, er, ((WP.bind (Ra := Rel g) w).wish fun _ _ _ z => z.elim).imp fun x H1 ⟨m1, S1, dx, x1, rs1, r1, w1⟩ => ?_⟩
  unfold sattrR at w1
  split at w1
  · split at w1
    · rename_i nn _ c fs hz
      obtain ⟨a, rfl, k, dx, gs, hv, ok, rv⟩ := r1.box rs1 hz
      unfold ck at w1
      split at w1
      · rename_i cc
        simp only [R.bind_ok] at w1
        have hgl : fs.length = gs.length := by
          clear w1 hv ok cc hz
          induction fs generalizing gs with
          | nil => unfold RelFs at rv; rw [rv]; rfl
          | cons p r ih =>
            obtain ⟨f1, d1⟩ := p
            unfold RelFs at rv
            obtain ⟨w, gr, rfl, _, r2⟩ := rv
            rw [List.length_cons, List.length_cons, ih gr r2]
        refine ⟨a, _, dx, gs, rfl, hv, by rw [hK]; exact ok.1, by rw [hK]; exact hcs c cc.1, by omega, ?_⟩
        have xs' := Ext.set (n := S1.length) (o := .ins (g.ca c) dx (putF (g.fn f) v gs)) rs1 k
        have ln : (setAt S1 nn (.ins c (putFd f d fs))).length = S1.length := by unfold setAt; rw [List.length_set]
        refine w1 m1 _ σ (by rw [ln]; exact xs') (rs1.set k ⟨dx, _, upd_same, ⟨ok.1, ?_, fun f' hf' => ?_⟩, RelFs.mono xs' _ _ (RelFs.put hf (Rel.mono x1 _ _ r) (fun f h => (ok.2.2 f h).1) rv)⟩) ?_
        · have := putFd_length (f := f) (d := d) (fs := fs)
          omega
        · rcases putFd_mem hf' with rfl | h
          · exact ⟨hf, hcs c cc.1⟩
          · exact ok.2.2 f' h
        · rw [ln]
          exact ⟨er.mono (x1.trans xs'), Kept.refl⟩
      · exact w1.elim
    · exact w1.elim
  · exact w1.elim

theorem g_any {vs : List Nat} {e : Expr} {f : D → Env → Sto → R Env} (h : PG X e (TGv g vs f)) : PG X e (TGd g f) := PG.imp h fun _ _ _ _ ⟨m, ρ, S, d, rs, er, r, w⟩ => ⟨m, ρ, S, d, rs, er, r, w.ra fun _ _ _ _ _ z => z.1⟩

/-! statements -/
def WS (g : Gs) (W : L2.WX) (m : Mp) (n : Nat) (H : Hp) (r : R Fl) (D : Ends) : Prop := match r with
  | .ok (.next ρ) S' => ∀ m' H' σ', Ext m n H m' S'.length H' → RS g m' S' H' → EnvR g m' S'.length H' ρ σ' → D.nx σ' H'
  | .ok (.brk ρ) S' => ∀ m' H' σ', Ext m n H m' S'.length H' → RS g m' S' H' → EnvR g m' S'.length H' ρ σ' → D.bk σ' H'
  | .ok (.cont ρ) S' => ∀ m' H' σ', Ext m n H m' S'.length H' → RS g m' S' H' → EnvR g m' S'.length H' ρ σ' → D.ct σ' H'
  | .ok (.ret d) S' => ∀ m' H' v, Ext m n H m' S'.length H' → RS g m' S' H' → Rel g m' S'.length H' d v → D.rt v H'
  | .ok (.raised x ρ) S' => ∀ m' H' σ' c d, Ext m n H m' S'.length H' → RS g m' S' H' → EnvR g m' S'.length H' ρ σ' → g.xr m' S'.length H' x c d → W c d σ' H'
  | _ => False
def TSd (g : Gs) (W : L2.WX) (f : Env → Sto → R Fl) : TS := fun D σ H => ∃ m ρ S, RS g m S H ∧ EnvR g m S.length H ρ σ ∧ WS g W m S.length H (f ρ S) D
variable {α β : Type} {Ra : Mp → Nat → Hp → α → β → Prop} {m1 : Mp} {n1 : Nat} {H1 : Hp} {D D' : Ends}
theorem WS.from {r : R Fl} (x : Ext m n H m1 n1 H1) (h : WS g W m n H r D) : WS g W m1 n1 H1 r D := by
  cases r with
  | ok f S' =>
    cases f with
    | next ρ => exact fun m' H' σ' y => h m' H' σ' (x.trans y)
    | brk ρ => exact fun m' H' σ' y => h m' H' σ' (x.trans y)
    | cont ρ => exact fun m' H' σ' y => h m' H' σ' (x.trans y)
    | ret d => exact fun m' H' v y => h m' H' v (x.trans y)
    | raised e ρ => exact fun m' H' σ' c d y => h m' H' σ' c d (x.trans y)
  | exc e S' => exact h
  | err => exact h
theorem WS.imp {r : R Fl} (h : WS g W m n H r D) (h1 : ∀ σ H, D.nx σ H → D'.nx σ H) (h2 : ∀ v H, D.rt v H → D'.rt v H) (h3 : ∀ σ H, D.bk σ H → D'.bk σ H) (h4 : ∀ σ H, D.ct σ H → D'.ct σ H) : WS g W m n H r D' := by
  cases r with
  | ok f S' =>
    cases f with
    | next ρ => exact fun m' H' σ' y a b => h1 _ _ (h m' H' σ' y a b)
    | brk ρ => exact fun m' H' σ' y a b => h3 _ _ (h m' H' σ' y a b)
    | cont ρ => exact fun m' H' σ' y a b => h4 _ _ (h m' H' σ' y a b)
    | ret d => exact fun m' H' v y a b => h2 _ _ (h m' H' v y a b)
    | raised e ρ => exact h
  | exc e S' => exact h
  | err => exact h
theorem WS.err {P : Prop} (h : WS g W m n H .err D) : P := False.elim h
theorem WS.next {ρ' : Env} {σ' : L2.St} (h : WS g W m S.length H (.ok (.next ρ') S) D) (rs : RS g m S H) (er : EnvR g m S.length H ρ' σ') : D.nx σ' H := h m H σ' Ext.refl rs er
theorem WS.go {r : R α} {f : α → Sto → R Fl} (rs : RS g m S H) (er : EnvR g m S.length H ρ σ) (h : WS g W m S.length H (r.go ρ f) D) :
    WP g (fun c d H' => W c d σ H') Ra m S.length H r (fun b H1 => ∃ m1 S1 a, Ext m S.length H m1 S1.length H1 ∧ RS g m1 S1 H1 ∧ EnvR g m1 S1.length H1 ρ σ ∧ Ra m1 S1.length H1 a b ∧ WS g W m1 S1.length H1 (f a S1) D) := by
  cases r with
  | ok a S' => exact fun m' H' b x rs ra => ⟨m', S', a, x, rs, er.mono x, ra, WS.from x h⟩
  | exc e S' => exact fun m' H' c d x rs q => h m' H' σ c d x rs (er.mono x) q
  | err => exact h
theorem WS.fl {r : R Fl} {f : Env → Sto → R Fl} (h : WS g W m n H (r.fl f) D) : WS g W m n H r { D with nx := fun σ' H' => ∃ m' ρ' S', RS g m' S' H' ∧ EnvR g m' S'.length H' ρ' σ' ∧ WS g W m' S'.length H' (f ρ' S') D } := by
  cases r with
  | ok w S' =>
    cases w with
    | next ρ => exact fun m' H' σ' x rs er => ⟨m', ρ, S', rs, er, WS.from x h⟩
    | brk ρ => exact h
    | cont ρ => exact h
    | ret d => exact h
    | raised e ρ => exact h
  | exc e S' => exact h.elim
  | err => exact h.elim
theorem WS.turn {r : R Fl} {f : Env → Sto → R Fl} {N : L2.St → Hp → Prop} (h : WS g W m n H (r.turn f) D) (hN : ∀ m' ρ' S' σ' H', Ext m n H m' S'.length H' → RS g m' S' H' → EnvR g m' S'.length H' ρ' σ' → WS g W m' S'.length H' (f ρ' S') D → N σ' H') :
    WS g W m n H r { D with nx := N, ct := N, bk := D.nx } := by
  cases r with
  | ok w S' =>
    cases w with
    | next ρ => exact fun m' H' σ' x rs er => hN m' ρ S' σ' H' x rs er (WS.from x h)
    | brk ρ => exact h
    | cont ρ => exact fun m' H' σ' x rs er => hN m' ρ S' σ' H' x rs er (WS.from x h)
    | ret d => exact h
    | raised e ρ => exact h
  | exc e S' => exact h.elim
  | err => exact h.elim
theorem WS.ck {c : Prop} [Decidable c] {r : R Fl} (h : WS g W m n H (ck c r) D) : c ∧ WS g W m n H r D := by
  unfold Iv.ck at h
  by_cases hc : c
  · rw [if_pos hc] at h
    exact ⟨hc, h⟩
  · rw [if_neg hc] at h
    exact h.elim
theorem PS.imp {X : Cx} {st : Stmt} {t t' : TS} (h : PS X st t) (k : ∀ D σ H, t' D σ H → t D σ H) : PS X st t' := ⟨fun pins s σ H D I q => h.run pins s σ H D I (k D σ H q)⟩
theorem PSs.imp {X : Cx} {st : List Stmt} {t t' : TS} (h : PSs X st t) (k : ∀ D σ H, t' D σ H → t D σ H) : PSs X st t' := ⟨fun pins s σ H D I q => h.run pins s σ H D I (k D σ H q)⟩
abbrev tS (g : Gs) (W : L2.WX) (f : Env → Sto → R Fl) : TS := TSd g W f
theorem s_nil : PSs X [] (tS g W (exs F [])) := by
  refine PSs.imp pss_nil fun D σ H ⟨m, ρ, S, rs, er, w⟩ => ?_
  rw [exs] at w
  exact w.next rs er
theorem s_cons {st : Stmt} {sts : List Stmt} {i : St} {is : List St} (h1 : PS X st (tS g W (ex F i))) (h2 : PSs X sts (tS g W (exs F is))) : PSs X (st :: sts) (tS g W (exs F (i :: is))) := by
  refine PSs.imp (pss_cons h1 h2) fun D σ H ⟨m, ρ, S, rs, er, w⟩ => ?_
  rw [exs] at w
  exact ⟨m, ρ, S, rs, er, w.fl⟩
def notComp : Expr → Bool
  | .ListComp _ _ _ _ => false
  | .SetComp _ _ _ _ => false
  | .DictComp _ _ _ _ _ => false
  | _ => true
theorem swaps_ok {e : Expr} {t : Option Expr} {l : Nat} {env : PySem.Env} (h : notComp e = true) : swapsWith e t l env = pure false := by
  cases e <;> first | rfl | (exact absurd h Bool.false_ne_true)
theorem s_expr {e : Expr} {ie : E} (ok : notComp e = true) (he : PE X e (tE g W (ev F ie))) : PS X (.Expr e pos) (tS g W (ex F (.expr ie))) := by
  refine PS.imp (ps_expr he (swaps_ok ok)) fun D σ H ⟨m, ρ, S, rs, er, w⟩ => ?_
  rw [ex] at w
  refine ⟨m, ρ, S, rs, er, (WS.go (Ra := Rel g) rs er w).imp fun v H1 ⟨m1, S1, d, x1, rs1, er1, r1, w1⟩ => w1.next rs1 er1⟩
theorem s_ret {e : Expr} {ie : E} (he : PE X e (tE g W (ev F ie))) : PS X (.Return (some e) pos) (tS g W (ex F (.ret ie))) := by
  refine PS.imp (ps_ret he) fun D σ H ⟨m, ρ, S, rs, er, w⟩ => ?_
  rw [ex] at w
  refine ⟨m, ρ, S, rs, er, (WS.go (Ra := Rel g) rs er w).imp fun v H1 ⟨m1, S1, d, x1, rs1, er1, r1, w1⟩ => w1 m1 H1 v Ext.refl rs1 r1⟩
theorem s_ite {c : Expr} {a b : List Stmt} {ic : E} {ia ib : List St} (hc : PT X c (tT g W (evT F ic))) (ha : PSs X a (tS g W (exs F ia))) (hb : PSs X b (tS g W (exs F ib))) : PS X (.If c a b pos) (tS g W (ex F (.ite ic ia ib))) := by
  refine PS.imp (ps_if hc ha hb) fun D σ H ⟨m, ρ, S, rs, er, w⟩ => ?_
  rw [ex] at w
  refine ⟨m, ρ, S, rs, er, (WS.go (Ra := RelB) rs er w).imp fun k H1 ⟨m1, S1, d, x1, rs1, er1, r1, w1⟩ => ?_⟩
  cases r1
  cases k with
  | true =>
    rw [if_pos rfl] at w1 ⊢
    exact ⟨m1, ρ, S1, rs1, er1, w1⟩
  | false =>
    rw [if_neg Bool.false_ne_true] at w1 ⊢
    exact ⟨m1, ρ, S1, rs1, er1, w1⟩
theorem asg_end {t : Tg} {d : Iv.D} {v : V} {Q : L2.St → Hp → Prop} (rs : RS g m S H) (er : EnvR g m S.length H ρ σ) (r : Rel g m S.length H d v) (w : WS g W m S.length H ((asg F t d ρ S).st fun ρ S => .ok (.next ρ) S) D) (hQ : ∀ σ H, D.nx σ H → Q σ H) : TGd g (asg F t) v σ H Q := by
  refine ⟨m, ρ, S, d, rs, er, r, ?_⟩
  cases h : asg F t d ρ S with
  | ok ρ1 S1 =>
    rw [h] at w
    exact fun m' H' σ' x rs' er' => hQ _ _ (w m' H' σ' x rs' er')
  | exc e S1 => rw [h] at w; exact w.elim
  | err => rw [h] at w; exact w.elim
theorem s_asg {tg e : Expr} {t : Tg} {ie : E} (he : PE X e (tE g W (ev F ie))) (hg : PG X tg (TGd g (asg F t))) (ok : noStar tg = true) (hs : swapsWithSole [tg] e pos.line X.env = pure false) (hw : swappedStores [tg] e X.env = pure none) : PS X (.Assign [tg] e pos) (tS g W (ex F (.asg t ie))) := by
  refine PS.imp (ps_asg he hg hs hw (by rw [assignEach_ok ok]; rfl)) fun D σ H ⟨m, ρ, S, rs, er, w⟩ => ?_
  rw [ex] at w
  refine ⟨m, ρ, S, rs, er, (WS.go (Ra := Rel g) rs er w).imp fun v H1 ⟨m1, S1, d, x1, rs1, er1, r1, w1⟩ => asg_end rs1 er1 r1 w1 fun _ _ z => z⟩
theorem op_augI {op : Bop} (hop : op = .add ∨ op = .sub ∨ op = .mul) : PIp X (opOf op) (r2 g (augR op)) := by
  rcases hop with rfl | rfl | rfl
  · refine OpR.imp (f := inplaceOp .Add) (iop_add.or (iop_add_str.or iop_ext)) fun x y H Q ⟨m, S, d, e, W, rs, rd, re, w⟩ => ?_
    cases d with
    | int i =>
      cases e with
      | int j =>
        rw [rel_int] at rd re
        exact .inl ⟨i, j, rd, re, w.now rs (by rw [rel_int])⟩
      | _ => exact w.elim
    | str a =>
      cases e with
      | str b =>
        obtain ⟨c, w⟩ := (show WP g W (Rel g) m S.length H (ck (a.length + b.length ≤ sizeLine) (.ok (.str (a ++ b)) S)) Q from w).ck
        rw [rel_str] at rd re
        exact .inr (.inl ⟨a, b, rd.1, re.1, c, w.now rs (by rw [rel_str]; exact ⟨rfl, rd.2.append re.2 c⟩)⟩)
      | _ => exact w.elim
    | ref i =>
      replace w : WP g W (Rel g) m S.length H (match cellAt S i, unbox S e with | some (.lst xs), .lst ys => ck (xs.length + ys.length ≤ sizeLine ∧ isRef e = false) (.ok (.ref i) (setAt S i (.lst (xs ++ ys)))) | _, _ => .err) Q := by
        cases e <;> exact w
      split at w
      · rename_i xs ys hz hy
        obtain ⟨⟨c1, c2⟩, w⟩ := w.ck
        obtain ⟨a, rfl, k, vs, hv, rv⟩ := rd.box rs hz
        obtain ⟨b, ws, rfl, kb, rb⟩ := unbox_rel rs re hy
        rw [rv.length, rb.length] at c1
        refine .inr (.inr ⟨a, b, vs, ws, rfl, rfl, hv, kb, c1, ?_⟩)
        have x := Ext.set (n := S.length) (o := .lst (vs ++ ws)) rs k
        have ln : (setAt S i (.lst (xs ++ ys))).length = S.length := by unfold setAt; rw [List.length_set]
        refine w m _ _ (by rw [ln]; exact x) (rs.set k ⟨_, upd_same, Rels.mono x _ _ (rv.append rb)⟩) ?_
        rw [ln]
        exact Rel.mono x _ _ rd
      · exact w.err
    | _ => exact w.elim
  · refine OpR.imp (f := inplaceOp .Sub) iop_sub fun x y H Q ⟨m, S, d, e, W, rs, rd, re, w⟩ => ?_
    cases d with
    | int i =>
      cases e with
      | int j =>
        rw [rel_int] at rd re
        exact ⟨i, j, rd, re, w.now rs (by rw [rel_int])⟩
      | _ => exact w.elim
    | _ => cases e <;> exact w.elim
  · refine OpR.imp (f := inplaceOp .Mult) iop_mul fun x y H Q ⟨m, S, d, e, W, rs, rd, re, w⟩ => ?_
    cases d with
    | int i =>
      cases e with
      | int j =>
        obtain ⟨c, w⟩ := (show WP g W (Rel g) m S.length H (ck (mulOk i j) (.ok (.int (i * j)) S)) Q from w).ck
        rw [rel_int] at rd re
        exact ⟨i, j, rd, re, c, w.now rs (by rw [rel_int])⟩
      | _ => exact w.elim
    | _ => cases e <;> exact w.elim
theorem s_aug {i : Nat} {x : Str} {e : Expr} {ie : E} {op : Bop} {p2 : Pos} (hN : X.N.Nodup) (hi : X.N[i]? = some x) (hx : Loc X.env.scope x) (hf : X.fn x = true ∨ X.env.scope.names.lookup x = some .local) (hop : op = .add ∨ op = .sub ∨ op = .mul) (he : PE X e (tE g W (ev F ie))) : PS X (.AugAssign (.Name x p2) (opOf op) e pos) (tS g W (ex F (.aug i op ie))) := by
  refine PS.imp (ps_aug hN hi hx he (op_augI (g := g) hop) hf) fun D σ H ⟨m, ρ, S, rs, er, w⟩ => ?_
  rw [ex] at w
  split at w
  · rename_i d hd
    obtain ⟨v, hv, rv⟩ := er.2 i d hd
    have w1 := WS.go (Ra := Rel g) rs er w
    refine ⟨v, hv, m, ρ, S, rs, er, (WP.bind (Ra := Rel g) w1).imp fun y H1 ⟨m1, S1, dy, x1, rs1, r1, w2⟩ => ?_⟩
    exact ⟨m1, S1, d, dy, _, rs1, Rel.mono x1 _ _ rv, r1, w2.imp fun z H2 ⟨m2, S2, dz, x2, rs2, er2, r2, w3⟩ => w3.next rs2 (er2.set r2)⟩
  · exact w.err
/-! loops -/
def ItR (g : Gs) (m : Mp) (n : Nat) (H : Hp) (w : Src × List Iv.D) (J : L2.It) : Prop :=
  ∀ m' S' H', ExtW m n H m' (List.length S') H' → Fz H H' → RS g m' S' H' → w.1.there S' →
    (∀ (i : Nat) (d : Iv.D), w.2[i]? = some d → J.go i H' ∧ ∀ x H'', J.yld i H' x H'' → RS g m' S' H'' ∧ Ext m' S'.length H' m' S'.length H'' ∧ Rel g m' S'.length H'' d x) ∧ J.stop w.2.length H'
abbrev tI (g : Gs) (W : L2.WX) (f : Env → Sto → R (Src × List Iv.D)) : L2.TI := TI g W (ItR g) f
theorem s_for {tg iter : Expr} {body : List Stmt} {t : Tg} {it : Iv.It} {ib : List St} (hp : PassesOwn (model X.prog X.w) X.A X.env X.xe) (hc : X.calm = true) (oki : okE iter = true) (hi : PI X tg iter (tI g W (evIt F it))) (hg : PG X tg (TGd g (asg F t))) (hb : PSs X body (tS g W (exs F ib))) :
    PS X (.For tg iter body [] pos) (tS g W (ex F (.for t it ib))) := by
  refine PS.imp (ps_for hp hc hi hg hb (folded_ok oki)) fun D σ H ⟨m, ρ, S, rs, er, w⟩ => ?_
  rw [ex] at w
  refine ⟨m, ρ, S, rs, er, (WS.go (Ra := ItR g) rs er w).imp fun J H1 ⟨m1, S1, ⟨src, items⟩, x1, rs1, er1, r1, w1⟩ => ?_⟩
  generalize hstep : (fun d ρ S => (asg F t d ρ S).st fun ρ S => exs F ib ρ S : Iv.D → Env → Sto → R Fl) = step at w1
  refine ⟨fun i μ σ' H' => μ = items.length - i ∧ i ≤ items.length ∧ ∃ m' ρ' S', Ext m1 S1.length H1 m' S'.length H' ∧ RS g m' S' H' ∧ EnvR g m' S'.length H' ρ' σ' ∧ WS g W m' S'.length H' (forLoop src step (items.drop i) ρ' S') D, ⟨_, rfl, Nat.zero_le _, m1, ρ, S1, Ext.refl, rs1, er1, by rw [List.drop_zero]; exact w1⟩, ?_⟩
  rintro i μ σ' H' ⟨rfl, hi, m', ρ', S', x', rs', er', w'⟩
  cases hd : items.drop i with
  | nil =>
    have e : i = items.length := by
      have := List.drop_eq_nil_iff.mp hd
      omega
    rw [hd, forLoop] at w'
    obtain ⟨c, w'⟩ := w'.ck
    obtain ⟨_, st⟩ := r1 m' S' H' x'.w x'.fz rs' c
    refine .inl ⟨by rw [e]; exact st, w'.next rs' er'⟩
  | cons d ds =>
    rw [hd, forLoop] at w'
    obtain ⟨c, w'⟩ := w'.ck
    obtain ⟨go, _⟩ := r1 m' S' H' x'.w x'.fz rs' c
    have hlt : i < items.length := by
      rcases Nat.lt_or_ge i items.length with h | h
      · exact h
      · rw [List.drop_eq_nil_iff.mpr h] at hd
        cases hd
    rw [List.drop_eq_getElem_cons hlt] at hd
    injection hd with hd1 hd2
    obtain ⟨g1, g2⟩ := go i d (by rw [List.getElem?_eq_getElem hlt, hd1])
    refine .inr ⟨g1, _, fun σ2 H2 h2 => ⟨items.length - (i + 1), by omega, h2⟩, fun x H'' y => ?_⟩
    obtain ⟨rs'', x'', rx⟩ := g2 x H'' y
    have w'' := w'.from x''
    refine ⟨m', ρ', S', d, rs'', er'.mono x'', rx, ?_⟩
    rw [← hstep] at w''
    dsimp only at w''
    cases ha : asg F t d ρ' S' with
    | ok ρ2 S2 =>
      rw [ha] at w''
      simp only [R.st_ok] at w''
      intro m3 H3 σ3 x3 rs3 er3
      refine ⟨m3, ρ2, S2, rs3, er3, (w''.from x3).turn fun m4 ρ4 S4 σ4 H4 x4 rs4 er4 w4 => ?_⟩
      exact ⟨rfl, hlt, m4, ρ4, S4, ((x'.trans x'').trans x3).trans x4, rs4, er4, by rw [hd2, ← hstep]; exact w4⟩
    | exc e S2 => rw [ha] at w''; exact w''.elim
    | err => rw [ha] at w''; exact w''.elim
end
end Iv

/-! ### walks -/
namespace Iv
open PySem PySem.Spec PyProof.Rows L2
section
variable {g : Gs} {W : L2.WX} {X : Cx} {F : CE} {m : Mp} {n : Nat} {H : Hp} {S : Sto} {σ : L2.St} {ρ : Env} {pos : Pos} {a : Addr} {xs : List Iv.D} {src : Src}
theorem walk_seq {d : Iv.D} (e : walkOf S d = some (src, xs)) : (∃ z, d = .str z) ∨ src.there S ∧ ∀ S', src.there S' → seqOf S' d = some xs := by
  cases d with
  | str z => exact .inl ⟨z, rfl⟩
  | tup zs => cases e; exact .inr ⟨trivial, fun _ _ => rfl⟩
  | lst zs => cases e; exact .inr ⟨trivial, fun _ _ => rfl⟩
  | scr zs => cases e; exact .inr ⟨trivial, fun _ _ => rfl⟩
  | ref i =>
    replace e : (match cellAt S i with | some (.lst xs) => some (Src.box i xs, xs) | _ => none) = some (src, xs) := e
    split at e
    · rename_i zs hz
      cases e
      refine .inr ⟨hz, fun S' h => ?_⟩
      replace h : cellAt S' i = some (.lst xs) := h
      rw [seqOf_ref, h]
    · cases e
  | _ => cases e
theorem Ext.same : Ext m n H m n H := Ext.refl
/-- a walk that makes nothing -/
theorem itr_still {J : L2.It} (h : ∀ m' S' H', ExtW m n H m' (List.length S') H' → RS g m' S' H' → src.there S' → ∃ vs, Rels g m' S'.length H' xs vs ∧ (∀ (i : Nat) (v : V), vs[i]? = some v → J.go i H' ∧ ∀ x H'', J.yld i H' x H'' → H'' = H' ∧ x = v) ∧ J.stop vs.length H') : ItR g m n H (src, xs) J := by
  intro m' S' H' x _ rs c
  obtain ⟨vs, r, k, st⟩ := h m' S' H' x rs c
  refine ⟨fun i d e => ?_, by rw [r.length]; exact st⟩
  obtain ⟨v, hv, rv⟩ := r.get e
  obtain ⟨k1, k2⟩ := k i v hv
  refine ⟨k1, fun y H'' q => ?_⟩
  obtain ⟨rfl, rfl⟩ := k2 y H'' q
  exact ⟨rs, Ext.refl, rv⟩
theorem itr_list (h : ∀ m' S' H', ExtW m n H m' (List.length S') H' → RS g m' S' H' → src.there S' → ∃ vs, SqL g.K H' a vs ∧ Rels g m' S'.length H' xs vs) : ItR g m n H (src, xs) (Itl g.K a) := by
  refine itr_still fun m' S' H' x rs c => ?_
  obtain ⟨vs, q, r⟩ := h m' S' H' x rs c
  refine ⟨vs, r, fun i v e => ⟨⟨vs, v, q, e⟩, fun y H'' z => ⟨z.1, ?_⟩⟩, ⟨vs, q, Nat.le_refl _⟩⟩
  have := z.2 vs q
  rw [e] at this
  cases this
  rfl
theorem itr_tup (h : ∀ m' S' H', ExtW m n H m' (List.length S') H' → RS g m' S' H' → src.there S' → ∃ vs, SqT g.K H' a vs ∧ Rels g m' S'.length H' xs vs) : ItR g m n H (src, xs) (Itt g.K a) := by
  refine itr_still fun m' S' H' x rs c => ?_
  obtain ⟨vs, q, r⟩ := h m' S' H' x rs c
  refine ⟨vs, r, fun i v e => ⟨⟨vs, v, q, e⟩, fun y H'' z => ⟨z.1, ?_⟩⟩, ⟨vs, q, Nat.le_refl _⟩⟩
  have := z.2 vs q
  rw [e] at this
  cases this
  rfl
theorem itr_str {z : Str} (ok : okS z) : ItR g m n H (.fix, z.cps.toList.map fun c => .str ⟨#[c]⟩) (Its z) := by
  intro m' S' H' x _ rs _
  refine ⟨fun i d e => ?_, by show z.cps.size ≤ _; rw [List.length_map, Array.length_toList]; exact Nat.le_refl _⟩
  rw [List.getElem?_map] at e
  obtain ⟨c, hc, rfl⟩ := Option.map_eq_some_iff.mp e
  have hi : i < z.cps.size := by
    have := (List.getElem?_eq_some_iff.mp hc).1
    rwa [Array.length_toList] at this
  refine ⟨hi, fun y H'' ⟨q1, c', q2, q3⟩ => ?_⟩
  subst q1
  rw [← Array.getElem?_toList, hc] at q2
  cases q2
  refine ⟨rs, Ext.refl, ?_⟩
  rw [rel_str]
  refine ⟨q3, by show 1 ≤ sizeLine; decide, fun u hu => ?_⟩
  have : u = c := by simpa using hu
  subst this
  exact ok.2 u (List.mem_of_getElem? hc)
theorem itr_rng {lo : Int} {k : Nat} : ItR g m n H (.fix, rngD lo k) (Itr lo k) := by
  intro m' S' H' x _ rs _
  refine ⟨fun i d e => ?_, by show k ≤ _; rw [rngD, List.length_map, List.length_range]; exact Nat.le_refl _⟩
  rw [rngD, List.getElem?_map] at e
  obtain ⟨j, hj, rfl⟩ := Option.map_eq_some_iff.mp e
  obtain ⟨hl, e2⟩ := List.getElem?_eq_some_iff.mp hj
  rw [List.getElem_range] at e2
  subst e2
  rw [List.length_range] at hl
  refine ⟨hl, fun y H'' ⟨q1, q2⟩ => ?_⟩
  subst q1
  exact ⟨rs, Ext.refl, by rw [rel_int]; exact q2⟩
theorem seq_list {d : Iv.D} {v : V} {H1 : Hp} {S1 : Sto} (rs : RS g m S H) (r : Rel g m S.length H d v) (hd : ∀ zs, d ≠ .tup zs) (e : seqOf S d = some xs) : ∃ a vs, v = .ref a ∧ Rels g m S.length H xs vs ∧ SqL g.K H a vs := by
  obtain ⟨a, vs, h, rr, k⟩ := seqOf_rel rs r e
  rcases k with ⟨k, _⟩ | ⟨_, k⟩
  · exact ⟨a, vs, h, rr, k⟩
  · exact absurd k (hd _)
theorem seq_tup {v : V} (rs : RS g m S H) (r : Rel g m S.length H (.tup xs) v) : ∃ a vs, v = .ref a ∧ Rels g m S.length H xs vs ∧ SqT g.K H a vs := by
  rw [rel_tup] at r
  obtain ⟨a, vs, h, k, rr⟩ := r
  exact ⟨a, vs, h, rr, k.sq⟩
theorem evs1 {ie : E} : evs F [ie] ρ S = (ev F ie ρ S).bind fun x S => .ok [x] S := by
  rw [evs]
  rfl
theorem evs2 {ie ie2 : E} : evs F [ie, ie2] ρ S = (ev F ie ρ S).bind fun x S => (ev F ie2 ρ S).bind fun y S => .ok [x, y] S := by
  rw [evs]
  congr 1
  funext x S
  rw [evs1, R.bind_bind]
  rfl
theorem PI.imp {tg iter : Expr} {t t' : L2.TI} (h : PI X tg iter t) (k : ∀ σ H R, t' σ H R → t σ H R) : PI X tg iter t' := ⟨fun pins s σ H R I q => h.run pins s σ H R I (k σ H R q)⟩
theorem there_now {d : Iv.D} (e : walkOf S d = some (src, xs)) (hs : ∀ z, d ≠ .str z) : seqOf S d = some xs ∧ ∀ S', src.there S' → seqOf S' d = some xs := by
  rcases walk_seq e with ⟨z, h⟩ | ⟨h, k⟩
  · exact absurd h (hs z)
  · exact ⟨k S h, k⟩
theorem itr_of_list {d : Iv.D} (rs : RS g m S H) (r : Rel g m S.length H d (.ref a)) (hd : ∀ zs, d ≠ .tup zs) (k : ∀ S', src.there S' → seqOf S' d = some xs) :
    ∀ m' S' H', ExtW m S.length H m' (List.length S') H' → RS g m' S' H' → src.there S' → ∃ vs, SqL g.K H' a vs ∧ Rels g m' S'.length H' xs vs := by
  intro m' S' H' x rs' c
  obtain ⟨a', vs, e, rr, q⟩ := seq_list (H1 := H) (S1 := S) rs' (Rel.monoW x _ _ r) hd (k S' c)
  cases e
  exact ⟨vs, q, rr⟩
theorem w_e {tg e : Expr} {ie : E} (hK : X.K = g.K) (he : PE X e (tE g W (ev F ie))) : PI X tg e (tI g W (evIt F (.e ie))) := by
  refine ⟨fun pins s σ H R I ⟨m, ρ, S, rs, er, w⟩ => ?_⟩
  rw [evIt] at w
  refine thn (he.run pins s σ H (fun v H1 => ∃ m1 S1 d, RS g m1 S1 H1 ∧ Rel g m1 S1.length H1 d v ∧ WP g (fun c d H' => W c d σ H') (ItR g) m1 S1.length H1 (match walkOf S1 d with | some w => .ok w S1 | none => .err) R) I (TI.step rs er w fun v H1 m1 S1 d x1 rs1 er1 r1 w => ⟨m1, S1, d, rs1, r1, w⟩)) fun u s1 ⟨v, H1, I1, rv, m1, S1, d, rs1, r1, w⟩ => ?_
  cases hw : walkOf S1 d with
  | none => rw [hw] at w; exact w.err
  | some p =>
    obtain ⟨src, xs⟩ := p
    rw [hw] at w
    by_cases hs : ∃ z, d = .str z
    · obtain ⟨z, rfl⟩ := hs
      cases hw
      rw [rel_str] at r1
      obtain ⟨rfl, ok⟩ := r1
      obtain ⟨t, rfl⟩ := rv
      have q := w.now rs1 (itr_str ok)
      by_cases ha : z.cps.all (· < 128) = true
      · exact wpAny_pyIter_ascii ha (pi_one (tk := s1.toks) I1 _ (turn_str _ z t _ (.inl rfl)) ⟨_, Heap.get?_push_size _ rfl, rfl, rfl⟩ q)
      · have ha : z.cps.all (· < 128) = false := by simpa using ha
        exact wpAny_pyIter_wide ha (pi_one (tk := s1.toks) I1 _ (turn_str _ z t _ (.inr rfl)) ⟨_, Heap.get?_push_size _ rfl, rfl, rfl⟩ q)
    · have hs' : ∀ z, d ≠ .str z := fun z h => hs ⟨z, h⟩
      obtain ⟨e0, k⟩ := there_now hw hs'
      by_cases ht : ∃ zs, d = .tup zs
      · obtain ⟨zs, rfl⟩ := ht
        cases hw
        obtain ⟨a, vs, rfl, rr, q⟩ := seq_tup rs1 r1
        obtain rfl : u = Value.ref a := rv
        rw [← hK] at q
        obtain ⟨its, _, p, _⟩ := I1.tuple q
        have qq := w.now rs1 (itr_tup (a := a) fun m' S' H' x rs' _ => by
          obtain ⟨a', vs', e, rr', q'⟩ := seq_tup rs' (Rel.monoW x _ _ r1)
          cases e
          exact ⟨vs', q', rr'⟩)
        rw [← hK] at qq
        exact wpAny_pyIter_tuple (show s1.heap.IsTuple a its.toArray from p) (pi_one (tk := s1.toks) I1 _ (turn_tuple a _) ⟨_, Heap.get?_push_size _ rfl, rfl, rfl⟩ qq)
      · have hd : ∀ zs, d ≠ .tup zs := fun z h => ht ⟨z, h⟩
        obtain ⟨a, vs, rfl, rr, q⟩ := seq_list (H1 := H) (S1 := S) rs1 r1 hd e0
        obtain rfl : u = Value.ref a := rv
        rw [← hK] at q
        obtain ⟨its, _, p, _⟩ := I1.list q
        have qq := w.now rs1 (itr_list (itr_of_list rs1 r1 hd k))
        rw [← hK] at qq
        exact wpAny_pyIter_list p.isList (pi_one (tk := s1.toks) I1 _ (turn_list a _) ⟨_, Heap.get?_push_size _ rfl, rfl, rfl⟩ qq)
theorem w_rng1 {tg e : Expr} {ie : E} {p : Pos} (hg : Gl X "range") (hm : X.mg "range" = none) (ok : okE e = true) (ha : PA X [e] (tEs g W (evs F [ie]))) : PI X tg (.Call (.Name "range" p) [e] [] pos) (tI g W (evIt F (.rng1 ie))) := by
  refine PI.imp (pi_range1 hg hm ha (by rw [starEach_ok ok]; rfl)) fun σ H R ⟨m, ρ, S, rs, er, w⟩ => ?_
  rw [evIt] at w
  refine ⟨m, ρ, S, rs, er, ?_⟩
  show WP g _ (Rels g) m S.length H (evs F [ie] ρ S) _
  rw [evs1]
  cases hh : ev F ie ρ S with
  | ok d S1 =>
    rw [hh] at w
    simp only [Iv.R.bind_ok] at w ⊢
    intro m' H' vs x rs' r
    obtain ⟨v, rfl, rv⟩ := Rels.one r
    have w := w.from x
    split at w
    · obtain ⟨c, w⟩ := w.ck
      rw [rel_int] at rv
      exact ⟨_, by rw [rv], c.1, c.2, w.now rs' itr_rng⟩
    · exact w.err
  | exc x S1 => rw [hh] at w; exact w
  | err => rw [hh] at w; exact w
end
end Iv

/-! ### comprehensions -/
namespace Iv
open PySem PySem.Spec PyProof.Rows L2
abbrev noX : L2.WX := fun _ _ _ _ => False
section
variable {g : Gs} {W : L2.WX} {X : Cx} {F : CE} {m m' : Mp} {n : Nat} {H H' : Hp} {S S' : Sto} {σ : L2.St} {ρ : Env} {pos : Pos}
theorem RS.turn (rs : RS g m S H) (x : ExtW m S.length H m' S.length H') (hb : m'.box = m.box) (hc : ∀ i a, m i = some a → H' a = H a) (hh : ∀ a, m'.hid a → (∃ o, H' a = some o) ∧ ∀ i, m' i ≠ some a) : RS g m' S H' := by
  refine ⟨fun i a k => ?_, fun i c k => ?_, fun i j a h k => ?_, hh⟩
  · rw [hb] at k
    obtain ⟨c, e, q⟩ := rs.dom i a k
    exact ⟨c, e, q.monoW x (hc i a k)⟩
  · rw [hb]
    exact rs.all i c k
  · rw [hb] at h k
    exact rs.inj i j a h k
/-- a new list that only its owner sees -/
def mHide (m : Mp) (a : Addr) : Mp := ⟨m.box, fun b => m.hid b ∨ b = a⟩
theorem Ext.hide {D : Addr} {o : HO} (rs : RS g m S H) (e : H D = none) : Ext m S.length H (mHide m D) S.length (upd H D o) :=
  ⟨Nat.le_refl _, fun _ _ _ e => e, fun b ob k f => ⟨by rw [upd_ne (ne_of_none k e)]; exact k, f.1, fun h => h.elim f.2 fun z => by rw [z, e] at k; cases k⟩, fun b h => ⟨.inl h, upd_ne fun z => (Off.free rs e).2 (by rw [← z]; exact h)⟩, Fz.upd (NoFz.none e)⟩
theorem RS.hide {D : Addr} {o : HO} (rs : RS g m S H) (e : H D = none) : RS g (mHide m D) S (upd H D o) := by
  refine RS.turn rs (Ext.hide rs e).w rfl (fun i a k => upd_ne fun z => (Off.free rs e).1 i (by rw [← z]; exact k)) fun a h => ?_
  by_cases z : a = D
  · rw [z, upd_same]
    exact ⟨⟨_, rfl⟩, (Off.free rs e).1⟩
  · rw [upd_ne z]
    exact rs.hidS a (h.elim id fun q => absurd q z)
/-- the owner writes -/
theorem Ext.own {m1 : Mp} {H1 : Hp} {D : Addr} {o : HO} (x : Ext m1 n H1 m S.length H) (e : H1 D = none) (rs1 : ¬ m1.hid D) : Ext m1 n H1 m S.length (upd H D o) :=
  ⟨x.le, x.old, fun b ob k f => let ⟨k', f'⟩ := x.keep b ob k f; ⟨by rw [upd_ne (ne_of_none k e)]; exact k', f'⟩, fun b h => let ⟨h', k'⟩ := x.hid b h; ⟨h', by rw [upd_ne fun z => rs1 (by rw [← z]; exact h)]; exact k'⟩, fun b ob u k => by rw [upd_ne fun z => by rw [z, e] at k; cases k]; exact x.fz b ob u k⟩
theorem ExtW.own {D : Addr} {o : HO} (hd : m.hid D) : ExtW m n H m n (upd H D o) :=
  ⟨Nat.le_refl _, fun _ _ _ e => e, fun b ob k f => ⟨by rw [upd_ne fun z => f.2 (by rw [z]; exact hd)]; exact k, f⟩⟩
theorem RS.own {D : Addr} {o : HO} (rs : RS g m S H) (hd : m.hid D) : RS g m S (upd H D o) := by
  refine RS.turn rs (ExtW.own hd) rfl (fun i a k => upd_ne fun z => (rs.hidS D hd).2 i (by rw [← z]; exact k)) fun a h => ?_
  by_cases z : a = D
  · rw [z, upd_same]
    exact ⟨⟨_, rfl⟩, (rs.hidS D hd).2⟩
  · rw [upd_ne z]
    exact rs.hidS a h
theorem lc_end {box : Bool} {m1 : Mp} {H1 : Hp} {S1 : Sto} {D : Addr} {vs : List V} {ys : List Iv.D} {Q : VK} {W' : Value → Option Addr → Hp → Prop} (rs1 : RS g m1 S1 H1) (hD : H1 D = none) (x : Ext m1 S1.length H1 m' S'.length H') (hd : m'.hid D) (rs' : RS g m' S' H') (e : H' D = some (.lst vs)) (r : Rels g m' S'.length H' ys vs)
    (w : WP g W' (Rel g) m1 S1.length H1 (mkL box ys S') Q) : Q (.ref D) H' := by
  have n1 : ¬ m1.hid D := (Off.free rs1 hD).2
  cases box with
  | false =>
    have xw : ExtW m' S'.length H' ⟨m'.box, m1.hid⟩ S'.length H' := ⟨Nat.le_refl _, fun _ _ _ e => e, fun a o e f => ⟨e, f.1, fun h => f.2 (x.hid a h).1⟩⟩
    refine w ⟨m'.box, m1.hid⟩ H' (.ref D) ⟨x.le, x.old, fun a o e f => let ⟨e', f'⟩ := x.keep a o e f; ⟨e', f'.1, f.2⟩, fun a h => ⟨h, (x.hid a h).2⟩, x.fz⟩ (rs'.turn xw rfl (fun _ _ _ => rfl) fun a h => rs'.hidS a (x.hid a h).1) ?_
    rw [rel_lst]
    exact ⟨D, vs, rfl, ⟨e, (rs'.hidS D hd).2, n1⟩, Rels.monoW xw _ _ r⟩
  | true =>
    have ln : (S' ++ [some (Cell.lst ys)]).length = S'.length + 1 := by rw [List.length_append, List.length_singleton]
    have xw : ExtW m' S'.length H' (mNew ⟨m'.box, m1.hid⟩ S'.length D) (S'.length + 1) H' := by
      refine ⟨Nat.le_succ _, fun i b l k => ?_, fun a o e f => ⟨e, fun i k => ?_, fun h => f.2 (x.hid a h).1⟩⟩
      · rw [mNew_ne (Nat.ne_of_lt l)] at k
        exact k
      · by_cases hi : i = S'.length
        · rw [hi, mNew_same] at k
          cases k
          exact f.2 hd
        · rw [mNew_ne hi] at k
          exact f.1 i k
    refine w (mNew ⟨m'.box, m1.hid⟩ S'.length D) H' (.ref D) ?_ ?_ ?_
    · rw [ln]
      refine ⟨Nat.le_succ_of_le x.le, fun i b l k => ?_, fun a o k f => ?_, fun a h => ⟨h, (x.hid a h).2⟩, x.fz⟩
      · rw [mNew_ne (Nat.ne_of_lt (Nat.lt_of_lt_of_le l x.le))] at k
        exact x.old i b l k
      · obtain ⟨k', f'⟩ := x.keep a o k f
        refine ⟨k', fun i q => ?_, f.2⟩
        by_cases hi : i = S'.length
        · rw [hi, mNew_same] at q
          cases q
          rw [hD] at k
          cases k
        · rw [mNew_ne hi] at q
          exact f'.1 i q
    · refine ⟨fun i b k => ?_, fun i c k => ?_, fun i j b h1 h2 => ?_, fun b h => ?_⟩
      · rw [ln]
        by_cases hi : i = S'.length
        · subst hi
          rw [mNew_same] at k
          cases k
          exact ⟨_, cellAt_push, vs, e, Rels.monoW xw _ _ r⟩
        · rw [mNew_ne hi] at k
          obtain ⟨c, h, q⟩ := rs'.dom i b k
          exact ⟨c, by rw [cellAt_push_lt (rs'.lt k)]; exact h, q.monoW xw rfl⟩
      · by_cases hi : i = S'.length
        · exact ⟨D, by rw [hi, mNew_same]⟩
        · have hl := cellAt_lt k
          rw [ln] at hl
          have hl' : i < S'.length := by omega
          rw [cellAt_push_lt hl'] at k
          rw [mNew_ne hi]
          exact rs'.all i c k
      · by_cases hi : i = S'.length
        · by_cases hj : j = S'.length
          · rw [hi, hj]
          · rw [hi, mNew_same] at h1
            rw [mNew_ne hj] at h2
            cases h1
            exact absurd h2 ((rs'.hidS D hd).2 j)
        · by_cases hj : j = S'.length
          · rw [hj, mNew_same] at h2
            rw [mNew_ne hi] at h1
            cases h2
            exact absurd h1 ((rs'.hidS D hd).2 i)
          · rw [mNew_ne hi] at h1
            rw [mNew_ne hj] at h2
            exact rs'.inj i j b h1 h2
      · obtain ⟨q1, q2⟩ := rs'.hidS b (x.hid b h).1
        refine ⟨q1, fun i k => ?_⟩
        by_cases hi : i = S'.length
        · rw [hi, mNew_same] at k
          cases k
          exact n1 h
        · rw [mNew_ne hi] at k
          exact q2 i k
    · rw [rel_ref, ln]
      exact ⟨Nat.lt_succ_self _, D, rfl, fun b hb => by rw [mNew_same] at hb; cases hb; rfl⟩
theorem lcLoop_form {src : Src} {step : Iv.D → Sto → R (List Iv.D)} : ∀ {items : List Iv.D} {S : Sto}, (∃ ys S', lcLoop src step items S = .ok ys S') ∨ lcLoop src step items S = .err
  | [], S => by
    rw [lcLoop]
    unfold ck
    split
    · exact .inl ⟨_, _, rfl⟩
    · exact .inr rfl
  | d :: ds, S => by
    rw [lcLoop]
    unfold ck
    split
    · cases step d S with
      | ok xs S1 =>
        dsimp only
        rcases lcLoop_form (src := src) (step := step) (items := ds) (S := S1) with ⟨ys, S2, h⟩ | h
        · rw [h]; exact .inl ⟨_, _, rfl⟩
        · rw [h]; exact .inr rfl
      | exc _ _ => exact .inr rfl
      | err => exact .inr rfl
    · exact .inr rfl
theorem lcLoop_nil {src : Src} {step : Iv.D → Sto → R (List Iv.D)} {rest : List Iv.D} {Sf : Sto} (h : lcLoop src step [] S = .ok rest Sf) : src.there S ∧ rest = [] ∧ Sf = S := by
  rw [lcLoop] at h
  unfold ck at h
  split at h
  · rename_i c
    injection h with h1 h2
    exact ⟨c, h1.symm, h2.symm⟩
  · cases h
theorem lcLoop_cons {src : Src} {step : Iv.D → Sto → R (List Iv.D)} {d : Iv.D} {ds rest : List Iv.D} {Sf : Sto} (h : lcLoop src step (d :: ds) S = .ok rest Sf) : src.there S ∧ ∃ xs S1 r2, step d S = .ok xs S1 ∧ lcLoop src step ds S1 = .ok r2 Sf ∧ rest = xs ++ r2 := by
  rw [lcLoop] at h
  unfold ck at h
  split at h
  · rename_i c
    refine ⟨c, ?_⟩
    cases hs : step d S with
    | ok xs S1 =>
      rw [hs] at h
      dsimp only at h
      cases hl : lcLoop src step ds S1 with
      | ok r2 S2 =>
        rw [hl] at h
        dsimp only at h
        injection h with h1 h2
        subst h2
        exact ⟨xs, S1, r2, rfl, hl, h1.symm⟩
      | exc _ _ => rw [hl] at h; cases h
      | err => rw [hl] at h; cases h
    | exc _ _ => rw [hs] at h; cases h
    | err => rw [hs] at h; cases h
  · cases h
theorem bind_ok {α β : Type} {r : R α} {f : α → Sto → R β} {b : β} (h : r.bind f = .ok b S') : ∃ a S1, r = .ok a S1 ∧ f a S1 = .ok b S' := by
  cases r with
  | ok a S1 => exact ⟨a, S1, rfl, h⟩
  | exc _ _ => cases h
  | err => cases h
variable {own : List Nat} {t : Tg} {it : Iv.It} {iifs : List E} {ie : E} {box : Bool}
noncomputable abbrev lcStep (F : CE) (own : List Nat) (t : Tg) (iifs : List E) (ie : E) (ρ : Env) : Iv.D → Sto → R (List Iv.D) := fun d S => (asg F t d (wipeE ρ own) S).bind fun ρ1 S => (evIfs F iifs ρ1 S).bind fun k S => if k = true then (ev F ie ρ1 S).bind fun y S => .ok [y] S else .ok [] S
theorem drop_cons {α : Type} {l ds : List α} {d : α} {i : Nat} (h : l.drop i = d :: ds) : i < l.length ∧ l[i]? = some d ∧ l.drop (i + 1) = ds := by
  have hlt : i < l.length := by
    rcases Nat.lt_or_ge i l.length with q | q
    · exact q
    · rw [List.drop_eq_nil_iff.mpr q] at h
      cases h
  rw [List.drop_eq_getElem_cons hlt] at h
  injection h with h1 h2
  exact ⟨hlt, by rw [List.getElem?_eq_getElem hlt, h1], h2⟩
theorem lc_body {Q : VK} (rs : RS g m S H) (er : EnvR g m S.length H ρ σ) (w : WP g (fun c d H' => W c d σ H') (Rel g) m S.length H (ev F (.lc box own t it iifs ie) ρ S) Q) :
    tLc (tI g W (evIt F it)) (TGv g own (asg F t)) (tT g noX (evIfs F iifs)) (tE g noX (ev F ie)) own σ H Q := by
  rw [ev] at w
  refine TI.step (Ra := ItR g) rs er w fun J H1 m1 S1 ⟨src, items⟩ x1 rs1 er1 it1 w => ?_
  intro D hD
  dsimp only at w
  rcases lcLoop_form (src := src) (step := lcStep F own t iifs ie ρ) (items := items) (S := S1) with ⟨ys, Sf, hL⟩ | hL
  · rw [hL] at w
    obtain ⟨hy, w⟩ := (show WP g _ (Rel g) m1 S1.length H1 (ck (ys.length ≤ sizeLine) (mkL box ys Sf)) Q from w).ck
    have n1 : ¬ m1.hid D := (Off.free rs1 hD).2
    refine ⟨fun i μ H' => μ = items.length - i ∧ i ≤ items.length ∧ ∃ m' S' acc vs rest, Ext m1 S1.length H1 m' (List.length S') H' ∧ m'.hid D ∧ RS g m' S' H' ∧ H' D = some (.lst vs) ∧ Rels g m' S'.length H' acc vs ∧ lcLoop src (lcStep F own t iifs ie ρ) (items.drop i) S' = .ok rest Sf ∧ acc ++ rest = ys,
      ⟨_, rfl, Nat.zero_le _, mHide m1 D, S1, [], [], ys, Ext.hide rs1 hD, .inr rfl, rs1.hide hD, upd_same, Rels.nil, by rw [List.drop_zero]; exact hL, rfl⟩, ?_⟩
    rintro i μ H' ⟨rfl, hi, m', S', acc, vs, rest, x', hd', rs', e', ra, hl, hs⟩
    cases hdr : items.drop i with
    | nil =>
      have e : i = items.length := by
        have := List.drop_eq_nil_iff.mp hdr
        omega
      rw [hdr] at hl
      obtain ⟨c, rfl, rfl⟩ := lcLoop_nil hl
      rw [List.append_nil] at hs
      subst hs
      obtain ⟨_, st⟩ := it1 m' _ H' x'.w x'.fz rs' c
      exact .inl ⟨by rw [e]; exact st, lc_end rs1 hD x' hd' rs' e' ra w⟩
    | cons d ds =>
      rw [hdr] at hl
      obtain ⟨c, xs, S2, r2, hstep, hl2, rfl⟩ := lcLoop_cons hl
      obtain ⟨hlt, hget, hds⟩ := drop_cons hdr
      obtain ⟨g1, g2⟩ := (it1 m' S' H' x'.w x'.fz rs' c).1 i d hget
      refine .inr ⟨g1, _, fun H2 h2 => ⟨items.length - (i + 1), by omega, h2⟩, fun v H'' yv => ?_⟩
      obtain ⟨rs'', x'', rx⟩ := g2 v H'' yv
      have x3 := x'.trans x''
      have e3 : H'' D = some (.lst vs) := (x''.hid D hd').2.trans e'
      have ra3 := Rels.mono x'' _ _ ra
      refine ⟨m', wipeE ρ own, S', d, rs'', (er1.mono x3).wiped own, rx, ?_⟩
      obtain ⟨ρ1, Sa, ha, hstep⟩ := bind_ok hstep
      rw [ha]
      intro m4 H4 σ4 x4 rs4 ⟨er4, k4⟩
      refine ⟨k4.wiped, m4, ρ1, Sa, rs4, er4, ?_⟩
      obtain ⟨k, Sb, hk, hstep⟩ := bind_ok hstep
      rw [hk]
      intro m5 H5 b x5 rs5 rb
      cases rb
      have x5' := (x3.trans x4).trans x5
      have e5 : H5 D = some (.lst vs) := (((x4.trans x5).hid D (x''.hid D hd').1).2).trans e3
      have hd5 : m5.hid D := ((x4.trans x5).hid D (x''.hid D hd').1).1
      have ra5 := Rels.mono (x4.trans x5) _ _ ra3
      cases k with
      | false =>
        rw [if_neg Bool.false_ne_true] at hstep ⊢
        injection hstep with q1 q2
        subst q1 q2
        exact ⟨rfl, hlt, m5, Sb, acc, vs, r2, x5', hd5, rs5, e5, ra5, by rw [hds]; exact hl2, by rw [← hs]; rfl⟩
      | true =>
        rw [if_pos rfl] at hstep ⊢
        refine ⟨m5, ρ1, Sb, rs5, er4.mono x5, ?_⟩
        obtain ⟨y, Sc, hyv, hstep⟩ := bind_ok hstep
        injection hstep with q1 q2
        subst q1 q2
        rw [hyv]
        intro m6 H6 yv x6 rs6 r6
        have e6 : H6 D = some (.lst vs) := (x6.hid D hd5).2.trans e5
        have hd6 : m6.hid D := (x6.hid D hd5).1
        have hlen : vs.length < sizeLine := by
          rw [← ra.length]
          have : (acc ++ ([y] ++ r2)).length ≤ sizeLine := by rw [hs]; exact hy
          simp only [List.length_append, List.length_cons, List.length_nil] at this
          omega
        refine ⟨vs, e6, hlen, rfl, hlt, m6, Sc, acc ++ [y], vs ++ [yv], r2, (x5'.trans x6).own hD n1, hd6, rs6.own hd6, upd_same, Rels.append (Rels.monoW (ExtW.own hd6) _ _ (Rels.mono x6 _ _ ra5)) (Rels.cons (Rel.monoW (ExtW.own hd6) _ _ r6) Rels.nil), by rw [hds]; exact hl2, by rw [← hs, List.append_assoc]⟩
  · rw [hL] at w
    exact w.err
theorem ifs_nil : PTs X [] (tT g W (evIfs F [])) := by
  refine ⟨fun pins s σ H Q I ⟨m, ρ, S, rs, er, w⟩ => pts_nil.run pins s σ H Q I ?_⟩
  rw [evIfs] at w
  exact w.now rs rfl
theorem i_lc {elt tg iter : Expr} {ifs : List Expr} {scope : Scope} {own : List (Str × Nat)} (hc : X.calm = true) (hN : X.N.Nodup) (oki : okE iter = true) (hi : PI X tg iter (tI g W (evIt F it))) (ok : BlkOk X.N X.env.scope scope own)
    (hg : ∀ (s : Shared) (H : Hp) (C : Addr) (cl : List (Str × Addr)) (fp : List Addr), PG (X.blk s H scope (compEnvC scope cl C X.env) fp) tg (TGv g (own.map (·.2)) (asg F t)))
    (ht : ∀ (s : Shared) (H : Hp) (C : Addr) (cl : List (Str × Addr)) (fp : List Addr), PTs (X.blk s H scope (compEnvC scope cl C X.env) fp) ifs (tT g noX (evIfs F iifs)))
    (he : ∀ (s : Shared) (H : Hp) (C : Addr) (cl : List (Str × Addr)) (fp : List Addr), PE (X.blk s H scope (compEnvC scope cl C X.env) fp) elt (tE g noX (ev F ie))) :
    PE X (.ListComp elt [⟨tg, iter, ifs, 0⟩] scope pos) (tE g W (ev F (.lc box (own.map (·.2)) t it iifs ie))) :=
  PE.imp (pe_lc hc hN hi ok hg ht he (folded_ok oki)) fun σ H Q ⟨m, ρ, S, rs, er, w⟩ => lc_body rs er w
theorem s_setLc {i : Nat} {y : Str} {py spos : Pos} {elt tg iter : Expr} {ifs : List Expr} {scope : Scope} {own : List (Str × Nat)} (hc : X.calm = true) (hN : X.N.Nodup) (hy : X.N[i]? = some y) (hyl : X.env.scope.names.lookup y = some .local)
    (hsw : swapsWith (.ListComp elt [⟨tg, iter, ifs, 0⟩] scope pos) (some (.Name y py)) spos.line X.env = pure true) (oki : okE iter = true) (hi : PI X tg iter (tI g W (evIt F it))) (ok : BlkOk X.N X.env.scope scope own)
    (hg : ∀ (s : Shared) (H : Hp) (C : Addr) (cl : List (Str × Addr)) (fp : List Addr), PG (X.blk s H scope (compEnvC scope cl C X.env) fp) tg (TGv g (own.map (·.2)) (asg F t)))
    (ht : ∀ (s : Shared) (H : Hp) (C : Addr) (cl : List (Str × Addr)) (fp : List Addr), PTs (X.blk s H scope (compEnvC scope cl C X.env) fp) ifs (tT g noX (evIfs F iifs)))
    (he : ∀ (s : Shared) (H : Hp) (C : Addr) (cl : List (Str × Addr)) (fp : List Addr), PE (X.blk s H scope (compEnvC scope cl C X.env) fp) elt (tE g noX (ev F ie))) :
    PS X (.Assign [.Name y py] (.ListComp elt [⟨tg, iter, ifs, 0⟩] scope pos) spos) (tS g W (ex F (.asg (.var i) (.lc box (own.map (·.2)) t it iifs ie)))) := by
  refine PS.imp (ps_setLc hc hN hy hyl hsw hi ok hg ht he (folded_ok oki)) fun D σ H ⟨m, ρ, S, rs, er, w⟩ => ?_
  rw [ex] at w
  have q := WS.go (Ra := Rel g) rs er w
  refine lc_body (ρ := ρ) rs er (q.imp fun v H1 ⟨m1, S1, d, x1, rs1, er1, r1, w1⟩ => ?_)
  rw [asg] at w1
  exact w1.next rs1 (er1.set r1)
end
end Iv

/-! ### sum from a start, ranges as tuples, two names at once -/
namespace Iv
open PySem PySem.Spec PyProof.Rows L2
section
variable {prog : Program} {w : World} {A : Around} {E : Value → Shared → Prop} {s : Shared}
end
section
variable {g : Gs} {W : L2.WX} {X : Cx} {F : CE} {p pos : Pos} {a b e : Expr} {ia ib ie : E}
theorem seqOf_tup {S : Sto} {xs : List Iv.D} : seqOf S (.tup xs) = some xs := rfl
theorem s_par2 {i j : Nat} {x y : Str} {px py pt : Pos} {kt k2 : Nat} {pt2 : Pos} (hN : X.N.Nodup) (ha : PA X [a, b] (tEs g W (evs F [ia, ib]))) (hi : X.N[i]? = some x := by rfl) (hj : X.N[j]? = some y := by rfl) (hij : i ≠ j := by decide)
    (hx : X.env.scope.names.lookup x = some .local := by rfl) (hy : X.env.scope.names.lookup y = some .local := by rfl) (hw : swappedStores [.Tuple [.Name x px, .Name y py] kt pt] (.Tuple [a, b] k2 pt2) X.env = pure (some [x, y]) := by rfl) (hc : X.calm = true := by rfl) :
    PS X (.Assign [.Tuple [.Name x px, .Name y py] kt pt] (.Tuple [a, b] k2 pt2) pos) (tS g W (ex F (.asg (.tup [.var i, .var j]) (.tup [ia, ib])))) := by
  refine PS.imp (ps_par hc hN hi hj hij hx hy ha hw) fun D σ H ⟨m, ρ, S, rs, er, w⟩ => ?_
  rw [ex, ev] at w
  cases hh : evs F [ia, ib] ρ S with
  | ok xs S1 =>
    have hl := evs_length hh
    match xs, hl with
    | [d, e], _ =>
      refine ⟨m, ρ, S, rs, er, ?_⟩
      rw [hh] at w ⊢
      intro m1 H1 vs x1 rs1 r1
      obtain ⟨v, v2, rfl, rv, rv2⟩ := Rels.two r1
      refine ⟨v, v2, rfl, ?_⟩
      have w : WS g W m S.length H ((ck (2 ≤ sizeLine) (R.ok (Iv.D.tup [d, e]) S1)).go ρ fun d S => (asg F (.tup [.var i, .var j]) d ρ S).st fun ρ S => .ok (.next ρ) S) D := w
      rw [ck_of (by decide), R.go_ok, asg, seqOf_tup] at w
      have w : WS g W m S.length H ((ck (2 = 2) (asgs F [.var i, .var j] [d, e] ρ S1)).st fun ρ S => .ok (.next ρ) S) D := w
      rw [ck_of rfl, asgs, asg, R.bind_ok, asgs, asg, R.bind_ok, asgs] at w
      exact w m1 H1 _ x1 rs1 (((er.mono x1).set rv).set rv2)
  | exc x S1 =>
    refine ⟨m, ρ, S, rs, er, ?_⟩
    rw [hh] at w ⊢
    exact fun m' H' c d x rs' q => w m' H' σ c d x rs' (er.mono x) q
  | err => rw [hh] at w; exact w.elim
end
end Iv

/-! ### zip(.., strict=True) -/
namespace Wz
open PySem
open PySem.Sem (wp)
open Builtin.SmallTypes (nextOrEnd nextOf)
/-- a zip that is strict, as it stands -/
abbrev ZS (h : Heap) (z ti tu : Addr) (v0 : Value) : Prop := h.get? z = some { cls := .type "zip", dict := none, data := .fields #[v0, .bool false, .bool true, .ref ti, .ref tu], slots := #[] }
section
variable {prog : Program} {w : World} {A : Around} {E : Value → Shared → Prop} {s : Shared} {z ti tu j1 j2 : Addr} {fa fb : List Addr} {m1 m2 i : Nat} {Pa Pb : Nat → Value → Prop} {Sa Sb : Nat → Heap → Prop} {u1 u2 : Value}
theorem noe_item {n : Nat} {P : Nat → Value → Prop} {St : Nat → Heap → Prop} {it : Addr} {fp : List Addr} {Q : Option Value → Shared → Prop} (D : Draws prog w A it fp n P St) (st : St i s.heap) (hi : i < n)
    (q : ∀ v h' tk, P i v → St (i + 1) h' → Heap.SameBut it s.heap h' → Q (some v) { s with heap := h', toks := tk }) : wpAny (model prog w) A (nextOrEnd (.ref it)) Q E s := by
  unfold nextOrEnd
  exact wpAny_bind (wpAny_attempt (D.item i s _ _ hi st fun v h' tk p sn hs => wpAny_pure (q v h' tk p sn hs)))
theorem noe_end {n : Nat} {P : Nat → Value → Prop} {St : Nat → Heap → Prop} {it : Addr} {fp : List Addr} {Q : Option Value → Shared → Prop} (D : Draws prog w A it fp n P St) (st : St n s.heap)
    (q : ∀ h', Heap.ExtBut it s.heap h' → Q none { s with heap := h' }) : wpAny (model prog w) A (nextOrEnd (.ref it)) Q E s := by
  unfold nextOrEnd
  refine wpAny_bind (wpAny_attempt (D.done s _ _ st fun h' e hs he => ?_))
  obtain ⟨o, ho, hc⟩ := he
  exact wpAny_bind (wpAny_isInstance (T := "StopIteration") (b := true) ⟨o, ho, hc⟩ isSubtype_stop (wpAny_pure (q h' hs)))
theorem zs_item {Q : Value → Shared → Prop} (S : ZipSep2 z ti tu j1 j2 fa fb) (Da : Draws prog w A j1 fa m1 Pa Sa) (Db : Draws prog w A j2 fb m2 Pb Sb)
    (hz : ZS s.heap z ti tu .none) (ht : IsTupOf2 s.heap ti (.ref j1) (.ref j2)) (hu : IsTupOf2 s.heap tu u1 u2) (sa : Sa i s.heap) (sb : Sb i s.heap) (la : i < m1) (lb : i < m2)
    (q : ∀ x y h' tk, Pa i x → Pb i y → ZS h' z ti tu (rawInt s.heap.objs.size) → IsTupOf2 h' tu x y → Sa (i + 1) h' → Sb (i + 1) h' → IsTupOf2 h' s.heap.objs.size x y → h'.objs.size = s.heap.objs.size + 1 →
      (∀ c o, c ≠ z → c ≠ tu → c ≠ j1 → c ≠ j2 → s.heap.get? c = some o → h'.get? c = some o) → Q (.ref s.heap.objs.size) { s with heap := h', toks := tk }) :
    wpAny (model prog w) A (Builtin.«zip.__next__» ⟨[.ref z], []⟩) (fun fin s' => ∃ v, fin = .done (.ret v) ∧ Q v s') E s := by
  obtain ⟨hp, g, d, t0, os⟩ := s
  show wpAny _ _ (field (.ref z) 2 >>= _) _ _ _
  refine wpAny_bind (wpAny_field hz rfl (x := .bool true) rfl ?_)
  show wpAny _ _ (field (.ref z) 3 >>= _) _ _ _
  refine wpAny_bind (wpAny_field hz rfl (x := .ref ti) rfl ?_)
  refine wpAny_bind (wpAny_seqItems ht rfl ?_)
  show wpAny _ _ (Builtin.SmallTypes.ownedTupleIsFree (.ref z) >>= _) _ _ _
  refine wpAny_bind ?_
  unfold Builtin.SmallTypes.ownedTupleIsFree
  refine wpAny_bind (wpAny_field hz rfl (x := .none) rfl (wpAny_pure ?_))
  simp only [if_true]
  refine wpAny_bind (wpAny_rule ?_)
  refine wpAny_bind (wpAny_field hz rfl (x := .ref tu) rfl ?_)
  refine wpAny_bind (wpAny_setField_rec hz (by simp) fun g0 hz0 hs0 => ?_)
  replace hz0 : ZS g0 z ti tu .ellipsis := hz0
  replace hs0 : Heap.SameBut z hp g0 := hs0
  refine wpAny_bind ?_
  simp only [List.zipIdx_cons, List.zipIdx_nil, List.forIn_cons, List.forIn_nil]
  refine wpAny_bind (wpAny_bind (wpAny_onRaise ?_))
  show wpAny _ _ (nextOrEnd (.ref j1)) _ _ ⟨g0, g, d, t0, os⟩
  refine noe_item Da (Da.over sa hs0 S.zf1) la fun x1 p1 k1 hx1 sn1 hp1 => ?_
  replace hp1 : Heap.SameBut j1 g0 p1 := hp1
  have hv1 : IsTupOf2 p1 tu u1 u2 := hp1.extBut _ _ S.Ti1 (hs0.extBut _ _ S.TOz hu)
  refine wpAny_bind (wpAny_seqItems (s := ⟨p1, g, d, k1, os⟩) hv1 rfl ?_)
  refine wpAny_bind (updateSeq_IsTupOf2 (s := ⟨p1, g, d, k1, os⟩) hv1 fun g1 ha1 hs1 => ?_)
  replace ha1 : IsTupOf2 g1 tu x1 u2 := ha1
  replace hs1 : Heap.SameBut tu p1 g1 := hs1
  refine wpAny_bind (wpAny_letGo (wpAny_pure ?_))
  refine wpAny_bind (wpAny_bind (wpAny_onRaise ?_))
  show wpAny _ _ (nextOrEnd (.ref j2)) _ _ ⟨g1, g, d, k1, os⟩
  refine noe_item Db (Db.over (Db.over (Db.over sb hs0 S.zf2) hp1 S.sep1_2) hs1 S.Tf2) lb fun x2 p2 k2 hx2 sn2 hp2 => ?_
  replace hp2 : Heap.SameBut j2 g1 p2 := hp2
  have hv2 : IsTupOf2 p2 tu x1 u2 := hp2.extBut _ _ S.Ti2 ha1
  refine wpAny_bind (wpAny_seqItems (s := ⟨p2, g, d, k2, os⟩) hv2 rfl ?_)
  refine wpAny_bind (updateSeq_IsTupOf2 (s := ⟨p2, g, d, k2, os⟩) hv2 fun g2 ha2 hs2 => ?_)
  replace ha2 : IsTupOf2 g2 tu x1 x2 := ha2
  replace hs2 : Heap.SameBut tu p2 g2 := hs2
  refine wpAny_bind (wpAny_letGo (wpAny_pure (wpAny_pure ?_)))
  refine wpAny_bind (wpAny_seqItems (s := ⟨g2, g, d, k2, os⟩) ha2 rfl ?_)
  refine wpAny_bind (wpAny_newTuple ?_)
  have ez : g2.objs.size = hp.objs.size := by rw [hs2.1, hp2.1, hs1.1, hp1.1, hs0.1]
  have zz : ZS g2 z ti tu .ellipsis := (hs2.extBut _ _ S.TOz.symm (hp2.extBut _ _ S.zi2 (hs1.extBut _ _ S.TOz.symm (hp1.extBut _ _ S.zi1 hz0))))
  have kk : ∀ c o, c ≠ z → c ≠ tu → c ≠ j1 → c ≠ j2 → hp.get? c = some o → g2.get? c = some o := fun c o cz cT c1 c2 e =>
    (hs2.extBut _ _ cT (hp2.extBut _ _ c2 (hs1.extBut _ _ cT (hp1.extBut _ _ c1 (hs0.extBut _ _ cz e)))))
  have r1 : Sa (i + 1) g2 := (Da.over (Da.over (Da.over sn1 hs1 S.Tf1) hp2 S.sep2_1) hs2 S.Tf1)
  have r2 : Sb (i + 1) g2 := (Db.over sn2 hs2 S.Tf2)
  have zl : z < g2.objs.size := Heap.lt_size zz
  show wpAny _ _ (Builtin.SmallTypes.ownedTupleHandOut (.ref z) (.ref g2.objs.size) >>= _) _ _ ⟨g2.push { cls := .type "tuple", data := .seq #[x1, x2] }, g, d, k2, os⟩
  refine wpAny_bind ?_
  unfold Builtin.SmallTypes.ownedTupleHandOut
  have z6 : ZS (g2.push { cls := .type "tuple", data := .seq #[x1, x2] }) z ti tu .ellipsis := Heap.get?_push_of_some _ zz
  refine wpAny_bind (wpAny_setField_rec z6 (by simp) fun h7 z7 s7 => ?_)
  replace z7 : ZS h7 z ti tu (rawInt g2.objs.size) := z7
  refine wpAny_setField_rec z7 (by simp) fun h8 z8 s8 => ?_
  replace z8 : ZS h8 z ti tu (rawInt g2.objs.size) := z8
  replace s7 : Heap.SameBut z (g2.push { cls := .type "tuple", data := .seq #[x1, x2] }) h7 := s7
  replace s8 : Heap.SameBut z h7 h8 := s8
  have up : ∀ c o, c ≠ z → g2.get? c = some o → h8.get? c = some o := fun c o c1 e => s8.extBut _ _ c1 (s7.extBut _ _ c1 (Heap.get?_push_of_some _ e))
  have t8 : IsTupOf2 h8 g2.objs.size x1 x2 := s8.extBut _ _ (Nat.ne_of_gt zl) (s7.extBut _ _ (Nat.ne_of_gt zl) (Heap.get?_push_size _ rfl))
  have l8 : h8.objs.size = g2.objs.size + 1 := by rw [s8.1, s7.1, Heap.size_push]
  rw [ez] at z8 t8 l8
  refine wpAny_pure ⟨_, rfl, ?_⟩
  show Q (.ref g2.objs.size) ⟨h8, g, d, k2, os⟩
  rw [ez]
  exact q x1 x2 h8 k2 hx1 hx2 z8 (up _ _ S.TOz ha2) (Da.frame _ _ _ r1 fun b hb o e => up b o (fun q => S.zf1 (q ▸ hb)) e) (Db.frame _ _ _ r2 fun b hb o e => up b o (fun q => S.zf2 (q ▸ hb)) e) t8 l8 fun c o cz cT c1 c2 e => up c o cz (kk c o cz cT c1 c2 e)
/-- both end together -/
theorem zs_end {Q : Fin → Shared → Prop} (hh : A.handled = none) (S : ZipSep2 z ti tu j1 j2 fa fb) (Da : Draws prog w A j1 fa i Pa Sa) (Db : Draws prog w A j2 fb i Pb Sb)
    (hz : ZS s.heap z ti tu .none) (ht : IsTupOf2 s.heap ti (.ref j1) (.ref j2)) (hu : IsTupOf2 s.heap tu u1 u2) (sa : Sa i s.heap) (sb : Sb i s.heap)
    (q : ∀ h' tk e, (∀ c o, c ≠ z → c ≠ tu → c ≠ j1 → c ≠ j2 → s.heap.get? c = some o → h'.get? c = some o) → (∃ o, h'.get? e = some o ∧ o.cls = .type "StopIteration") → E (.ref e) { s with heap := h', toks := tk }) :
    wpAny (model prog w) A (Builtin.«zip.__next__» ⟨[.ref z], []⟩) Q E s := by
  obtain ⟨hp, g, d, t0, os⟩ := s
  show wpAny _ _ (field (.ref z) 2 >>= _) _ _ _
  refine wpAny_bind (wpAny_field hz rfl (x := .bool true) rfl ?_)
  show wpAny _ _ (field (.ref z) 3 >>= _) _ _ _
  refine wpAny_bind (wpAny_field hz rfl (x := .ref ti) rfl ?_)
  refine wpAny_bind (wpAny_seqItems ht rfl ?_)
  show wpAny _ _ (Builtin.SmallTypes.ownedTupleIsFree (.ref z) >>= _) _ _ _
  refine wpAny_bind ?_
  unfold Builtin.SmallTypes.ownedTupleIsFree
  refine wpAny_bind (wpAny_field hz rfl (x := .none) rfl (wpAny_pure ?_))
  simp only [if_true]
  refine wpAny_bind (wpAny_rule ?_)
  refine wpAny_bind (wpAny_field hz rfl (x := .ref tu) rfl ?_)
  refine wpAny_bind (wpAny_setField_rec hz (by simp) fun g0 hz0 hs0 => ?_)
  replace hz0 : ZS g0 z ti tu .ellipsis := hz0
  replace hs0 : Heap.SameBut z hp g0 := hs0
  refine wpAny_bind ?_
  simp only [List.zipIdx_cons, List.zipIdx_nil, List.forIn_cons, List.forIn_nil]
  refine wpAny_bind (wpAny_bind (wpAny_onRaise ?_))
  show wpAny _ _ (nextOrEnd (.ref j1)) _ _ ⟨g0, g, d, t0, os⟩
  refine noe_end Da (Da.over sa hs0 S.zf1) fun p1 hp1 => ?_
  replace hp1 : Heap.ExtBut j1 g0 p1 := hp1
  have hz1 : ZS p1 z ti tu .ellipsis := hp1 _ _ S.zi1 hz0
  refine wpAny_bind (wpAny_setField_rec (s := ⟨p1, g, d, t0, os⟩) hz1 (by simp) fun g1 hz2 hs1 => ?_)
  replace hs1 : Heap.SameBut z p1 g1 := hs1
  refine wpAny_bind ?_
  show wpAny _ _ (_ >>= _) _ _ _
  refine wpAny_bind ?_
  simp only [List.drop_succ_cons, List.drop_zero, List.zipIdx_cons, List.zipIdx_nil, List.forIn_cons, List.forIn_nil]
  refine wpAny_bind (wpAny_bind (noe_end Db (Db.over (Db.frame _ _ _ (Db.over sb hs0 S.zf2) fun b hb o e => hp1 b o (fun x => S.sep1_2 (x ▸ hb)) e) hs1 S.zf2) fun p2 hp2 => ?_))
  replace hp2 : Heap.ExtBut j2 g1 p2 := hp2
  simp only [Option.isSome_none, Bool.false_eq_true, if_false]
  refine wpAny_pure (wpAny_pure ?_)
  refine wpAny_bind (wpAny_rule ?_)
  show wpAny _ _ (newExc (.type "StopIteration") [] >>= _) _ _ ⟨p2, g, d, t0, os⟩
  refine wpAny_bind ?_
  simp only [newExc, newTuple]
  refine wpAny_bind (wpAny_newObj_type ?_ (by size_fits))
  refine wpAny_bind (m := firstArgMember _ _) (wpAny_of_eq (a := Value.none) (by first | rfl | (simp only [firstArgMember]; rfl)) ?_)
  refine wpAny_newObj_type ?_ (by size_fits)
  simp only [raiseNew]
  refine wpAny_bind (wpAny_handled ?_)
  first | rw [show A.in1.handled = none from hh] | rw [hh]
  refine wpAny_bind (wpAny_pure (wpAny_throw ?_))
  refine q _ _ _ (fun c o cz cT c1 c2 e => ?_) ⟨_, Heap.get?_push_size _ rfl, rfl⟩
  exact Heap.get?_push_of_some _ (Heap.get?_push_of_some _ (hp2 _ _ c2 (hs1.extBut _ _ cz (hp1 _ _ c1 (hs0.extBut _ _ cz e)))))
theorem zs_next_item {Q : Option Value → Shared → Prop} (S : ZipSep2 z ti tu j1 j2 fa fb) (Da : Draws prog w A.in1 j1 fa m1 Pa Sa) (Db : Draws prog w A.in1 j2 fb m2 Pb Sb)
    (hz : ZS s.heap z ti tu .none) (ht : IsTupOf2 s.heap ti (.ref j1) (.ref j2)) (hu : IsTupOf2 s.heap tu u1 u2) (sa : Sa i s.heap) (sb : Sb i s.heap) (la : i < m1) (lb : i < m2)
    (q : ∀ x y h' tk, Pa i x → Pb i y → ZS h' z ti tu (rawInt s.heap.objs.size) → IsTupOf2 h' tu x y → Sa (i + 1) h' → Sb (i + 1) h' → IsTupOf2 h' s.heap.objs.size x y → h'.objs.size = s.heap.objs.size + 1 →
      (∀ c o, c ≠ z → c ≠ tu → c ≠ j1 → c ≠ j2 → s.heap.get? c = some o → h'.get? c = some o) → Q (some (.ref s.heap.objs.size)) { s with heap := h', toks := tk }) :
    wpAny (model prog w) A (pyNext (.ref z)) Q E s := by
  have it : s.TypeIs (.ref z) "zip" := ⟨_, hz, rfl⟩
  unfold pyNext
  exact wpAny_bind (wpAny_attempt (wpAny_callSpecial?_slot (name := Str.ofString "__next__") it F.slot_zip_next (wpAny_call_entry F.slot_zip_next it F.entry_zip_next
    (zs_item S Da Db hz ht hu sa sb la lb fun x y h' tk y1 y2 b1 b2 d1 d2 b5 b6 b7 => wpAny_pure (q x y h' tk y1 y2 b1 b2 d1 d2 b5 b6 b7)) (F.args_zip_next_1 _))))
theorem zs_next_end {Q : Option Value → Shared → Prop} (hh : A.handled = none) (S : ZipSep2 z ti tu j1 j2 fa fb) (Da : Draws prog w A.in1 j1 fa i Pa Sa) (Db : Draws prog w A.in1 j2 fb i Pb Sb)
    (hz : ZS s.heap z ti tu .none) (ht : IsTupOf2 s.heap ti (.ref j1) (.ref j2)) (hu : IsTupOf2 s.heap tu u1 u2) (sa : Sa i s.heap) (sb : Sb i s.heap)
    (q : ∀ h' tk, (∀ c o, c ≠ z → c ≠ tu → c ≠ j1 → c ≠ j2 → s.heap.get? c = some o → h'.get? c = some o) → Q none { s with heap := h', toks := tk }) : wpAny (model prog w) A (pyNext (.ref z)) Q E s := by
  have it : s.TypeIs (.ref z) "zip" := ⟨_, hz, rfl⟩
  unfold pyNext
  refine wpAny_bind (wpAny_attempt (wpAny_callSpecial?_slot (name := Str.ofString "__next__") it F.slot_zip_next (wpAny_call_entry F.slot_zip_next it F.entry_zip_next
    (zs_end hh S Da Db hz ht hu sa sb fun h' tk e hk he => ?_) (F.args_zip_next_1 _))))
  obtain ⟨o, ho, hc⟩ := he
  exact wpAny_bind (wpAny_isInstance (T := "StopIteration") (b := true) ⟨o, ho, hc⟩ isSubtype_stop (wpAny_pure (q _ _ hk)))
end
end Wz
namespace Wz
open PySem
open PySem.Sem (wp)
open Builtin.SmallTypes (nextOrEnd nextOf)
theorem tc_zip (a b c : Value) : checkTypeCall "zip" ⟨[a, b], [(Str.ofString "strict", c)]⟩ = pure () := by kernel_rfl
theorem nc_zip (a b c : Value) : checkBuiltinCall "zip.__new__" ⟨[.type "zip", a, b], [(Str.ofString "strict", c)]⟩ = pure () := by kernel_rfl
theorem oi_zip (o a b c : Value) : argsOk "object.__init__" ⟨[o, a, b], [(Str.ofString "strict", c)]⟩ := by unfold argsOk; kernel_rfl
abbrev hT (h : Heap) (o1 o2 : Obj) : Heap := ((h.push o1).push o2).push { cls := .type "tuple", data := .seq #[.ref h.objs.size, .ref (h.push o1).objs.size] }
abbrev hU (h : Heap) (o1 o2 : Obj) : Heap := (hT h o1 o2).push { cls := .type "tuple", data := .seq #[.none, .none] }
abbrev hZ (h : Heap) (o1 o2 : Obj) : Heap := (hU h o1 o2).push { cls := .type "zip", data := .fields #[.none, .bool false, .bool true, .ref ((h.push o1).push o2).objs.size, .ref (hT h o1 o2).objs.size] }
theorem meets_zipStrict {v1 v2 : Value} {o1 o2 : Obj} {H1 H2 : Heap → Prop} (B1 : Begins v1 o1 H1) (B2 : Begins v2 o2 H2) :
    Meets (Builtin.«zip.__new__» ⟨[.type "zip", v1, v2], [(Str.ofString "strict", .bool true)]⟩) (fun _ R s => (H1 s.heap ∧ H2 s.heap) ∧ R (.ok (.ret (.ref (hU s.heap o1 o2).objs.size))) { s with heap := hZ s.heap o1 o2 }) :=
  .of_wp fun prog w A R s h => by
    obtain ⟨hp, g, d, tk, os⟩ := s; obtain ⟨⟨h1, h2⟩, h⟩ := h
    have isub := sub_zip
    have w1 : ∀ {A' : Around} {E : Value → Shared → Prop} {Q : Value → Shared → Prop}, Q (.ref hp.objs.size) ⟨hp.push o1, g, d, tk, os⟩ → wpAny (model prog w) A' (pyIter v1) Q E ⟨hp, g, d, tk, os⟩ :=
      fun q => B1.iter prog w _ _ ⟨hp, g, d, tk, os⟩ _ h1 q
    have w2 : ∀ {A' : Around} {E : Value → Shared → Prop} {Q : Value → Shared → Prop}, Q (.ref (hp.push o1).objs.size) ⟨(hp.push o1).push o2, g, d, tk, os⟩ → wpAny (model prog w) A' (pyIter v2) Q E ⟨hp.push o1, g, d, tk, os⟩ :=
      fun q => B2.iter prog w _ _ ⟨hp.push o1, g, d, tk, os⟩ _ (B2.keeps _ _ h2 fun b o' e => Heap.get?_push_of_some _ e) q
    have e1 : (Str.ofString "strict" != ("strict" : Str)) = false := by decide +kernel
    have e2 : (Str.ofString "strict" == ("strict" : Str)) = true := by decide +kernel
    wp_walk using w1, w2
    exact ⟨_, rfl, h⟩
section
variable {prog : Program} {w : World} {A : Around} {E : Value → Shared → Prop} {s : Shared}
theorem zs_begins {v1 v2 : Value} {o1 o2 : Obj} {H1 H2 : Heap → Prop} {Q : Value → Shared → Prop} (B1 : Begins v1 o1 H1) (B2 : Begins v2 o2 H2) (h1 : H1 s.heap) (h2 : H2 s.heap)
    (q : ∀ h', ZS h' (s.heap.objs.size + 4) (s.heap.objs.size + 2) (s.heap.objs.size + 3) .none → IsTupOf2 h' (s.heap.objs.size + 2) (.ref s.heap.objs.size) (.ref (s.heap.objs.size + 1)) →
      IsTupOf2 h' (s.heap.objs.size + 3) .none .none → h'.get? s.heap.objs.size = some o1 → h'.get? (s.heap.objs.size + 1) = some o2 → (∀ c o, s.heap.get? c = some o → h'.get? c = some o) → Q (.ref (s.heap.objs.size + 4)) { s with heap := h' }) :
    wpAny (model prog w) A (call (.type "zip") [v1, v2] [(Str.ofString "strict", .bool true)]) Q E s := by
  refine callType_newKw F.called_zip (by decide) (tc_zip _ _ _) (nc_zip _ _ _) (fun o => oi_zip o _ _ _) F.entry_zip_new (meets_zipStrict B1 B2) ⟨⟨h1, h2⟩, ?_⟩
  have y1 : (s.heap.push o1).objs.size = s.heap.objs.size + 1 := by rw [Heap.size_push]
  have y2 : ((s.heap.push o1).push o2).objs.size = s.heap.objs.size + 2 := by rw [Heap.size_push, y1]
  have yT : (hT s.heap o1 o2).objs.size = s.heap.objs.size + 3 := by rw [Heap.size_push, y2]
  have yU : (hU s.heap o1 o2).objs.size = s.heap.objs.size + 4 := by rw [Heap.size_push, yT]
  have aZ : (hZ s.heap o1 o2).get? (hU s.heap o1 o2).objs.size = some _ := Heap.get?_push_size _ rfl
  have aU : (hZ s.heap o1 o2).get? (hT s.heap o1 o2).objs.size = some _ := Heap.get?_push_of_some _ (Heap.get?_push_size _ rfl)
  have aT : (hZ s.heap o1 o2).get? ((s.heap.push o1).push o2).objs.size = some _ := Heap.get?_push_of_some _ (Heap.get?_push_of_some _ (Heap.get?_push_size _ rfl))
  have a1 : (hZ s.heap o1 o2).get? s.heap.objs.size = some o1 := Heap.get?_push_of_some _ (Heap.get?_push_of_some _ (Heap.get?_push_of_some _ (Heap.get?_push_of_some _ (Heap.get?_push_size _ B1.free))))
  have a2 : (hZ s.heap o1 o2).get? (s.heap.push o1).objs.size = some o2 := Heap.get?_push_of_some _ (Heap.get?_push_of_some _ (Heap.get?_push_of_some _ (Heap.get?_push_size _ B2.free)))
  rw [yU, yT, y2] at aZ
  rw [yT] at aU
  rw [y2, y1] at aT
  rw [y1] at a2
  show _ ∧ _
  rw [yU]
  exact ⟨⟨_, aZ, rfl⟩, q _ aZ aT aU a1 a2 fun c o e => Heap.get?_push_of_some _ (Heap.get?_push_of_some _ (Heap.get?_push_of_some _ (Heap.get?_push_of_some _ (Heap.get?_push_of_some _ e))))⟩
end
end Wz
/-! ### the same for lists (true) and tuples (false) in any mix, in the hand layer -/
namespace Wz
open PySem PySem.Spec PyProof.Rows L2
def AtI (k : Bool) (h : Heap) (it l : Addr) (i : Nat) : Prop := match k with
  | true => h.IsListIter it l i
  | false => h.IsTupleIter it l i
def OfI (k : Bool) (h : Heap) (l : Addr) (xs : Array Value) : Prop := match k with
  | true => h.IsList l xs
  | false => h.IsTuple l xs
def Sq (k : Bool) (K : PySem.W.Frag) (H : Hp) (a : Addr) (xs : List V) : Prop := match k with
  | true => SqL K H a xs
  | false => SqT K H a xs
def objI (k : Bool) (l : Addr) : Obj := match k with
  | true => { cls := .type "list_iterator", data := .fields #[.ref l, .int 0 0] }
  | false => { cls := .type "tuple_iterator", data := .fields #[.ref l, .int 0 0] }
theorem AtI.obj {k : Bool} {h : Heap} {it l : Addr} {i : Nat} (x : AtI k h it l i) : ∃ o, h.get? it = some o ∧ ∀ v, o.data ≠ .cell v := by
  cases k with
  | true => obtain ⟨o, e, _, d⟩ := x; exact ⟨o, e, fun v q => by rw [d] at q; cases q⟩
  | false => obtain ⟨o, e, _, d⟩ := x; exact ⟨o, e, fun v q => by rw [d] at q; cases q⟩
theorem AtI.to {k : Bool} {h h' : Heap} {it l : Addr} {i : Nat} (x : AtI k h it l i) (f : ∀ o, h.get? it = some o → h'.get? it = some o) : AtI k h' it l i := by
  cases k with
  | true => exact Heap.IsListIter.at x f
  | false => exact Heap.IsTupleIter.at x f
theorem AtI.lt {k : Bool} {h : Heap} {it l : Addr} {i : Nat} (x : AtI k h it l i) : it < h.objs.size := by
  obtain ⟨o, e, _⟩ := x.obj
  exact Heap.lt_size e
theorem draws {k : Bool} {prog : Program} {w : World} {A : Around} (hh : A.handled = none) (it l : Addr) (ne : l ≠ it) (xs : Array Value) :
    Draws prog w A it [it, l] xs.size (fun i v => xs[i]? = some v) (fun i h => AtI k h it l i ∧ OfI k h l xs) := by
  cases k with
  | true => exact Draws.list hh it l ne xs
  | false => exact Draws.tuple hh it l ne xs
theorem begins (k : Bool) (l : Addr) (xs : Array Value) : Begins (.ref l) (objI k l) fun h => OfI k h l xs := by
  cases k with
  | true => exact begins_list l xs
  | false => exact begins_tuple l xs
theorem AtI.fresh {k : Bool} {h : Heap} {it l : Addr} (e : h.get? it = some (objI k l)) : AtI k h it l 0 := by
  cases k with
  | true => exact ⟨_, e, rfl, rfl⟩
  | false => exact ⟨_, e, rfl, rfl⟩
section
variable {X : Cx} {pins : List (Addr × Obj)} {σ : L2.St} {H : Hp} {s : Shared}
theorem sq_of (I : Inv X pins σ H s) {k : Bool} {a : Addr} {xs : List V} (h : Sq k X.K H a xs) : ∃ its : List Value, Vals xs its ∧ OfI k s.heap a its.toArray := by
  cases k with
  | true => obtain ⟨its, r, p, _⟩ := I.list h; exact ⟨its, r, p.isList⟩
  | false => obtain ⟨its, r, p, _⟩ := I.tuple h; exact ⟨its, r, p⟩
theorem sq_inj (I : Inv X pins σ H s) {k : Bool} {a : Addr} {xs ys : List V} (h : Sq k X.K H a xs) (h' : Sq k X.K H a ys) : xs = ys := by
  cases k with
  | true => exact I.list_inj h h'
  | false => exact I.tuple_inj h h'
theorem OfI.lt {k : Bool} {h : Heap} {a : Addr} {xs : Array Value} (x : OfI k h a xs) : a < h.objs.size := by
  cases k with
  | true => obtain ⟨o, e, _⟩ := x; exact Heap.lt_size e
  | false => obtain ⟨o, e, _⟩ := x; exact Heap.lt_size e
end
/-- the two walk together and end together, the items in new pairs -/
def ItS (K : PySem.W.Frag) (k1 k2 : Bool) (a b : Addr) : It where
  go := fun i H => ∃ xs ys x y, Sq k1 K H a xs ∧ Sq k2 K H b ys ∧ xs[i]? = some x ∧ ys[i]? = some y
  yld := fun i H v H' => ∃ T x y, v = .ref T ∧ H T = none ∧ H' = upd H T (.tup [x, y]) ∧ (∀ xs, Sq k1 K H a xs → xs[i]? = some x) ∧ ∀ ys, Sq k2 K H b ys → ys[i]? = some y
  stop := fun i H => ∃ xs ys : List V, Sq k1 K H a xs ∧ Sq k2 K H b ys ∧ xs.length = i ∧ ys.length = i
structure Lie (z ti tu j1 j2 a b : Addr) : Prop where
  sep : ZipSep2 z ti tu j1 j2 [j1, a] [j2, b]
  aj : a ≠ j1
  bj : b ≠ j2
theorem nn {a b : Nat} (h : ¬ a = b) : ¬ @Eq Addr a b := h
theorem no {a b c : Nat} (h : ¬ a = b) (h' : ¬ a = c) : ¬ (@Eq Addr a b ∨ @Eq Addr a c) := fun q => q.elim h h'
theorem lie (n a b : Nat) (h1 : a < n) (h2 : b < n) : Lie (n + 4) (n + 2) (n + 3) n (n + 1) a b := by
  refine ⟨⟨?_, ?_, ?_, ?_, ?_, ?_, ?_, ?_, ?_, ?_, ?_, ?_, ?_⟩, ?_, ?_⟩ <;> (simp only [List.mem_cons, List.not_mem_nil, or_false, true_or, ne_eq]; try (first | exact nn (by omega) | exact no (by omega) (by omega)))
end Wz
namespace Wz
open PySem PySem.Spec PyProof.Rows L2
section
variable {prog : Program} {w : World} {A : Around} {E : Value → Shared → Prop} {s : Shared}
theorem zs_go {elts : List Expr} {kk : Nat} {pos : Pos} {z ti tu T : Addr} {Q : Unit → Shared → Prop} (hz : ZS s.heap z ti tu (rawInt T))
    (q : ∀ h', ZS h' z ti tu .none → Heap.SameBut z s.heap h' → Q () { s with heap := h' }) : wpAny (model prog w) A (letOwnedTupleGo (.Tuple elts kk pos) (.ref z) (.ref T)) Q E s := by
  unfold letOwnedTupleGo
  refine wpAny_bind (wpAny_load hz ?_)
  show wpAny _ _ (if ((_ : List String).contains "zip" && (#[rawInt T, .bool false, .bool true, .ref ti, .ref tu] : Array Value)[0]? == some (rawInt T)) = true then _ else _) Q E s
  rw [if_pos (by simp)]
  refine wpAny_bind (wpAny_rule ?_)
  exact wpAny_setField_rec hz (by simp) fun h' a b => q h' a b
theorem zs_self {z ti tu : Addr} {v0 : Value} {Q : Value → Shared → Prop} (hz : ZS s.heap z ti tu v0) (q : Q (.ref z) s) : wpAny (model prog w) A (pyIter (.ref z)) Q E s := by
  have it : s.TypeIs (.ref z) "zip" := ⟨_, hz, rfl⟩
  refine wpAny_pyIter_slot it F.slot_zip_iter (wpAny_call_entry F.slot_zip_iter it F.entry_zip_iter ?_ (F.args_zip_iter_1 _))
  exact wpAny_pure ⟨_, rfl, "zip", _, it, F.slot_zip_next.lookup, q⟩
end
theorem turnS {P : Program} {w : World} {K : PySem.W.Frag} {elts : List Expr} {kk : Nat} {tpos : Pos} {k1 k2 : Bool} {a b z ti tu j1 j2 : Addr} (D : Lie z ti tu j1 j2 a b) :
    Turn P w K (.Tuple elts kk tpos) (ItS K k1 k2 a b) [z, ti, tu, j1, j2] z (fun i h => ZS h z ti tu .none ∧ IsTupOf2 h ti (.ref j1) (.ref j2) ∧ (∃ x y, IsTupOf2 h tu x y) ∧ AtI k1 h j1 a i ∧ AtI k2 h j2 b i) := by
  have five : ∀ {R : Addr → Prop}, R z → R ti → R tu → R j1 → R j2 → ∀ c ∈ [z, ti, tu, j1, j2], R c := fun r1 r2 r3 r4 r5 c hc => by
    simp only [List.mem_cons, List.not_mem_nil, or_false] at hc
    rcases hc with rfl | rfl | rfl | rfl | rfl <;> assumption
  have out : ∀ {c : Addr}, c ∉ [z, ti, tu, j1, j2] → c ≠ z ∧ c ≠ tu ∧ c ≠ j1 ∧ c ≠ j2 := fun hc => by
    simp only [List.mem_cons, List.not_mem_nil, or_false, not_or] at hc
    exact ⟨hc.1, hc.2.2.1, hc.2.2.2.1, hc.2.2.2.2⟩
  refine ⟨List.mem_cons_self .., fun i h st => ?_, fun i h h' st f => ?_, ?_, ?_, fun A i s Q E st q => zs_self st.1 q⟩
  · obtain ⟨hz, ht, ⟨x, y, hu⟩, h1, h2⟩ := st
    exact five ⟨_, hz, fun v q => nomatch q⟩ ⟨_, ht, fun v q => nomatch q⟩ ⟨_, hu, fun v q => nomatch q⟩ h1.obj h2.obj
  · obtain ⟨hz, ht, ⟨x, y, hu⟩, h1, h2⟩ := st
    exact ⟨f z (by simp) _ hz, f ti (by simp) _ ht, ⟨x, y, f tu (by simp) _ hu⟩, h1.to fun o => f j1 (by simp) o, h2.to fun o => f j2 (by simp) o⟩
  · rintro X rfl rfl rfl hc i pins s σ H E I hf ⟨hz, ht, ⟨x0, y0, hu⟩, h1, h2⟩ ⟨xs, ys, x, y, qx, qy, hx, hy⟩
    obtain ⟨us, r1, o1⟩ := sq_of I qx
    obtain ⟨ws, r2, o2⟩ := sq_of I qy
    obtain ⟨u, eu, ru⟩ := r1.get hx
    obtain ⟨v, ev, rv⟩ := r2.get hy
    have hh : X.A.in1.handled = none := I.ok.hd hc
    have zl : z < s.heap.objs.size := Heap.lt_size hz
    have lu : i < us.toArray.size := by simpa using (List.getElem?_eq_some_iff.mp eu).1
    have lv : i < ws.toArray.size := by simpa using (List.getElem?_eq_some_iff.mp ev).1
    refine zs_next_item D.sep (draws hh j1 a D.aj us.toArray) (draws hh j2 b D.bj ws.toArray) hz ht hu ⟨h1, o1⟩ ⟨h2, o2⟩ lu lv fun x1 y1 h' tk ex ey z' u' a' b' t' sz f => ?_
    have ex' : x1 = u := by
      have e : us[i]? = some x1 := by simpa using ex
      exact Option.some.inj (e.symm.trans eu)
    have ey' : y1 = v := by
      have e : ws[i]? = some y1 := by simpa using ey
      exact Option.some.inj (e.symm.trans ev)
    subst ex' ey'
    refine ⟨_, rfl, zs_go (s := { s with heap := h', toks := tk }) z' fun h2' z2 sb => ?_⟩
    have t2 : h2'.get? s.heap.objs.size = some { cls := .type "tuple", data := .seq #[x1, y1] } := (sb.2 _ (Nat.ne_of_gt zl)).trans t'
    have new : ObjOk X.prog X.w (upd H s.heap.objs.size (.tup [x, y])) h2' s.heap.objs.size (.tup [x, y]) := ⟨by show 2 ≤ sizeLine; decide, [x1, y1], .cons ru (.cons rv .nil), ⟨_, t2, rfl, _, rfl⟩⟩
    have I2 : Inv X pins σ (upd H s.heap.objs.size (.tup [x, y])) { s with heap := h2', toks := tk } :=
      I.turnedNew (t' := tk) (ch := [z, ti, tu, j1, j2]) (fun c o hb q => (sb.2 c (out hb).1).trans (f c o (out hb).1 (out hb).2.1 (out hb).2.2.1 (out hb).2.2.2 q)) hf (Nat.le_refl _) new
    refine ⟨.ref s.heap.objs.size, _, I2, rfl, ⟨_, x, y, rfl, I.hok.fresh (Nat.le_refl _), rfl, fun l hl => by rw [sq_inj I hl qx]; exact hx, fun l hl => by rw [sq_inj I hl qy]; exact hy⟩, ⟨z2, (sb.2 _ D.sep.TIz).trans (f _ _ D.sep.TIz D.sep.TITO D.sep.TIi1 D.sep.TIi2 ht), ⟨x1, y1, (sb.2 _ D.sep.TOz).trans u'⟩, ?_, ?_⟩, ?_⟩
    · exact a'.1.to fun o q => (sb.2 _ D.sep.zi1.symm).trans q
    · exact b'.1.to fun o q => (sb.2 _ D.sep.zi2.symm).trans q
    · have lt := five (R := fun c => c < s.heap.objs.size) zl (Heap.lt_size ht) (Heap.lt_size hu) h1.lt h2.lt
      intro c hcm
      rw [upd_ne (Nat.ne_of_lt (lt c hcm))]
      exact (hf c hcm).1
  · rintro X rfl rfl rfl hc i pins s σ H E I hf ⟨hz, ht, ⟨x0, y0, hu⟩, h1, h2⟩ ⟨xs, ys, qx, qy, lx, ly⟩
    obtain ⟨us, r1, o1⟩ := sq_of I qx
    obtain ⟨ws, r2, o2⟩ := sq_of I qy
    have hh : X.A.in1.handled = none := I.ok.hd hc
    have e1 : us.toArray.size = i := by rw [List.size_toArray, ← r1.length, lx]
    have e2 : ws.toArray.size = i := by rw [List.size_toArray, ← r2.length, ly]
    refine zs_next_end (I.ok.hd hc) D.sep (e1 ▸ draws hh j1 a D.aj us.toArray) (e2 ▸ draws hh j2 b D.bj ws.toArray) hz ht hu ⟨h1, o1⟩ ⟨h2, o2⟩ fun h' tk f => ⟨rfl, ?_⟩
    exact I.turnedL (t' := tk) (ch := [z, ti, tu, j1, j2]) (fun c o hb q => f c o (out hb).1 (out hb).2.1 (out hb).2.2.1 (out hb).2.2.2 q) hf
end Wz
namespace Wz
open PySem PySem.Spec PyProof.Rows L2
theorem callWith_tyKw {M : Model} {A : Around} {E : Value → Shared → Prop} {s : Shared} {pos : Pos} {n : String} {args : List (Bool × Sem Value)} {kws : List (Option Str × Sem Value)} {Q : Value → Shared → Prop} (hp : (args.any (·.1) || kws.any (·.1.isNone)) = false)
    (q : wpAny M A (evalArgs (.type n) true args kws) (fun g s1 => wpAny M A (call (.type n) g.pos g.kw) Q E s1) E s) : wpAny M A (callWith pos (.type n) [] args kws) Q E s := by
  unfold callWith
  refine wpAny_bind (wpAny_holding (wpAny_mono q (fun g s1 q1 => wpAny_bind (wpAny_standAt ?_)) fun _ _ e => e))
  simp only [hp]
  refine wpAny_bind (wpAny_pure ?_)
  exact wpAny_bind (wpAny_mono q1 (fun r s2 hr => wpAny_bind (wpAny_holding (wpAny_point (wpAny_pure hr)))) fun _ _ e => e)
def kSt (K : PySem.W.Frag) (R : It → Hp → Prop) (a b : V) (H : Hp) : Prop := ∃ k1 k2 p q xs ys, a = .ref p ∧ b = .ref q ∧ Sq k1 K H p xs ∧ Sq k2 K H q ys ∧ xs.length = ys.length ∧ R (ItS K k1 k2 p q) H
/-- zip(a, b, strict=True): one length -/
def iZipS (K : PySem.W.Frag) (ta tk : TA) : TI := fun σ H R => ta σ H fun vs H1 => tk σ H1 fun zs H2 => ∃ a b, vs = [a, b] ∧ zs = [.bl true] ∧ kSt K R a b H2
theorem k_zipS {X : Cx} {K : PySem.W.Frag} {e e2 : Expr} {kws : List Keyword} {ta tk : TA} {p pos tpos : Pos} {elts : List Expr} {kk : Nat} (h : X.K = K) (hg : Gl X "zip") (hm : X.mg "zip" = none) (ha : PA X [e, e2] ta) (hk : PK X kws tk)
    (hall : (backToKw pos (keywordEach kws X.env)).all (·.1.isSome) = true := by rfl) (hks : (backToKw pos (keywordEach kws X.env)).filterMap (·.1) = [Str.ofString "strict"] := by rfl)
    (he : starEach [e, e2] X.env = (false, eval e X.env) :: starEach [e2] X.env := by rfl) (hpl : ((backTo pos (starEach [e, e2] X.env)).any (·.1) || (backToKw pos (keywordEach kws X.env)).any (·.1.isNone)) = false := by rfl) :
    PI X (.Tuple elts kk tpos) (.Call (.Name "zip" p) [e, e2] kws pos) (iZipS K ta tk) := by
  subst h
  refine ⟨fun pins s σ H R I h => ?_⟩
  refine wpAny_Call_Name_kw (ld_blt I hg hm PyProof.Rows.boot_zip (callWith_tyKw hpl (PyProof.Rows.evalArgs_kw2 hall (thn (ha.run pos pins s σ H _ I h) fun us s1 ⟨vs, H1, I1, r1, q1⟩ => ?_) he)))
  refine thn (hk.run pos pins s1 σ H1 _ I1 q1) fun ws s2 ⟨zs, H2, I2, r2, q2⟩ => ?_
  rw [hks]
  obtain ⟨_, _, rfl, rfl, k1, k2, p, q, xs, ys, rfl, rfl, sx, sy, len, fin⟩ := q2
  cases r1 with
  | cons ra r1 =>
    cases r1 with
    | cons rb r1 =>
      cases r1
      cases ra
      cases rb
      cases r2 with
      | cons rk r2 =>
        cases r2
        cases rk
        obtain ⟨us, v1, o1⟩ := sq_of I2 sx
        obtain ⟨ws, v2, o2⟩ := sq_of I2 sy
        have old : ∀ c, c ∈ [s2.heap.objs.size + 4, s2.heap.objs.size + 2, s2.heap.objs.size + 3, s2.heap.objs.size, s2.heap.objs.size + 1] → FpOk X pins H2 c := fun c hc => by
          have le : s2.heap.objs.size ≤ c := by
            simp only [List.mem_cons, List.not_mem_nil, or_false] at hc
            rcases hc with rfl | rfl | rfl | rfl | rfl
            · exact Nat.le_add_right _ _
            · exact Nat.le_add_right _ _
            · exact Nat.le_add_right _ _
            · exact Nat.le_refl _
            · exact Nat.le_add_right _ _
          exact I2.fpOk le (I2.hok.fresh le)
        refine zs_begins (begins k1 p us.toArray) (begins k2 q ws.toArray) o1 o2 fun h' hz ht hu h1 h2 f => zs_self hz ?_
        have I3 : Inv X pins σ H2 { s2 with heap := h' } := I2.kept (t' := s2.toks) f
        exact ⟨_, _, _, _, H2, rfl, I3, turnS (lie s2.heap.objs.size p q o1.lt o2.lt), ⟨hz, ht, ⟨_, _, hu⟩, AtI.fresh h1, AtI.fresh h2⟩, old, fin⟩
/-! as it computes -/
end Wz

/-! ### zip -/
namespace Iv
open PySem PySem.Spec PyProof.Rows L2
section
variable {g : Gs} {W : L2.WX} {X : Cx} {F : CE} {m : Mp} {n : Nat} {H : Hp} {S : Sto} {pos : Pos} {xs ys : List Iv.D}
theorem seq_k {d : Iv.D} {v : V} (rs : RS g m S H) (r : Rel g m S.length H d v) (e : seqOf S d = some xs) : ∃ a vs, v = .ref a ∧ Rels g m S.length H xs vs ∧ Wz.Sq (kOf d) g.K H a vs := by
  by_cases hd : ∃ zs, d = .tup zs
  · obtain ⟨zs, rfl⟩ := hd
    cases e
    obtain ⟨a, vs, h, rr, q⟩ := seq_tup rs r
    exact ⟨a, vs, h, rr, q⟩
  · obtain ⟨a, vs, h, rr, q⟩ := seq_list (H1 := H) (S1 := S) rs r (fun zs z => hd ⟨zs, z⟩) e
    have hk : kOf d = true := by cases d <;> first | rfl | exact absurd ⟨_, rfl⟩ hd
    rw [hk]
    exact ⟨a, vs, h, rr, q⟩
theorem fix_seq {d : Iv.D} (h : isRef d = false) {S' : Sto} : seqOf S' d = seqOf S d := by
  cases d <;> first | rfl | cases h
theorem itr_two {J : L2.It} (h : ∀ m' S' H', ExtW m n H m' (List.length S') H' → RS g m' S' H' → ∃ vs ws, Rels g m' S'.length H' xs vs ∧ Rels g m' S'.length H' ys ws ∧
    (∀ (i : Nat) (v w : V), vs[i]? = some v → ws[i]? = some w → J.go i H' ∧ ∀ x H'', J.yld i H' x H'' → ∃ T, x = .ref T ∧ H' T = none ∧ H'' = upd H' T (.tup [v, w])) ∧ J.stop (min vs.length ws.length) H') : ItR g m n H (.fix, zipD xs ys) J := by
  intro m' S' H' x _ rs _
  obtain ⟨vs, ws, r1, r2, k, st⟩ := h m' S' H' x rs
  refine ⟨fun i d e => ?_, ?_⟩
  · rw [zipD, List.getElem?_map] at e
    obtain ⟨p, hp, rfl⟩ := Option.map_eq_some_iff.mp e
    obtain ⟨p1, p2⟩ := p
    rw [List.getElem?_zip_eq_some] at hp
    obtain ⟨v, hv, rv⟩ := r1.get hp.1
    obtain ⟨w, hw, rw'⟩ := r2.get hp.2
    obtain ⟨k1, k2⟩ := k i v w hv hw
    refine ⟨k1, fun y H'' q => ?_⟩
    obtain ⟨T, q1, q2, q3⟩ := k2 y H'' q
    subst q1 q3
    refine ⟨rs.laid q2, Ext.laid rs q2, ?_⟩
    rw [rel_tup]
    exact ⟨T, _, rfl, .inl ⟨upd_same, Off.free rs q2⟩, Rels.cons (Rel.mono (Ext.laid rs q2) _ _ rv) (Rels.cons (Rel.mono (Ext.laid rs q2) _ _ rw') Rels.nil)⟩
  · have e : (zipD xs ys).length = min vs.length ws.length := by rw [zipD, List.length_map, List.length_zip, r1.length, r2.length]
    show J.stop (zipD xs ys).length H'
    rw [e]
    exact st
theorem w_zipS {e e2 : Expr} {ie ie2 : E} {kws : List Keyword} {elts : List Expr} {kk : Nat} {tpos p : Pos} (hg : Gl X "zip") (hm : X.mg "zip" = none) (ok : okE e = true) (ok2 : okE e2 = true) (ha : PA X [e, e2] (tEs g W (evs F [ie, ie2]))) (hk : PK X kws (tEs g W (evs F [.con (.bl true)])))
    (hks : kwsNames kws = some [Str.ofString "strict"] := by rfl) (hK : X.K = g.K := by rfl) : PI X (.Tuple elts kk tpos) (.Call (.Name "zip" p) [e, e2] kws pos) (tI g W (evIt F (.zip true ie ie2))) := by
  obtain ⟨q1, q2, q3⟩ := kws_all (env := X.env) (pos := pos) hks
  refine PI.imp (Wz.k_zipS rfl hg hm ha hk q1 q2 (starEach_ok ok) (by rw [q3, starEach_ok ok, starEach_ok ok2]; rfl)) fun σ H R ⟨m, ρ, S, rs, er, w⟩ => ?_
  rw [evIt] at w
  refine ⟨m, ρ, S, rs, er, ?_⟩
  show WP g _ (Rels g) m S.length H (evs F [ie, ie2] ρ S) _
  rw [evs2]
  cases hh : ev F ie ρ S with
  | ok d S1 =>
    rw [hh] at w
    simp only [Iv.R.bind_ok] at w ⊢
    cases hh2 : ev F ie2 ρ S1 with
    | ok d2 S2 =>
      rw [hh2] at w
      simp only [Iv.R.bind_ok] at w ⊢
      intro m1 H1 vs x1 rs1 r1
      obtain ⟨v, v2, rfl, rv, rv2⟩ := Rels.two r1
      refine ⟨m1, ρ, S2, rs1, er.mono x1, ?_⟩
      show WP g _ (Rels g) m1 S2.length H1 (evs F [.con (.bl true)] ρ S2) _
      rw [evs1, ev]
      simp only [Iv.R.bind_ok]
      intro m2 H2 zs x2 rs2 r2
      obtain ⟨z, rfl, rz⟩ := Rels.one r2
      rw [rel_bl] at rz
      have w := (w.from x1).from x2
      have rv := Rel.mono x2 _ _ rv
      have rv2 := Rel.mono x2 _ _ rv2
      cases h1 : seqOf S2 d with
      | none => rw [h1] at w; exact w.err
      | some xs =>
        cases h2 : seqOf S2 d2 with
        | none => rw [h1, h2] at w; exact w.err
        | some ys =>
          rw [h1, h2] at w
          obtain ⟨⟨c1, c2, c3, _⟩, w⟩ := w.ck
          obtain ⟨a, us, rfl, ra, sa⟩ := seq_k rs2 rv h1
          obtain ⟨b, ws, rfl, rb, sb⟩ := seq_k rs2 rv2 h2
          have hl : us.length = ws.length := by rw [← ra.length, ← rb.length]; exact c1 trivial
          refine ⟨_, _, rfl, by rw [rz], kOf d, kOf d2, a, b, us, ws, rfl, rfl, by rw [hK]; exact sa, by rw [hK]; exact sb, hl, w.now rs2 (itr_two fun m' S' H' x rs' => ?_)⟩
          obtain ⟨a', us', e1, ra', sa'⟩ := seq_k rs' (Rel.monoW x _ _ rv) ((fix_seq (S := S2) c2).trans h1)
          cases e1
          obtain ⟨b', ws', e2, rb', sb'⟩ := seq_k rs' (Rel.monoW x _ _ rv2) ((fix_seq (S := S2) c3).trans h2)
          cases e2
          rw [hK]
          have hl' : us'.length = ws'.length := by rw [← ra'.length, ← rb'.length]; exact c1 trivial
          refine ⟨us', ws', ra', rb', fun i v w hv hw => ⟨⟨us', ws', v, w, sa', sb', hv, hw⟩, fun y H'' ⟨T, y1, y2, f1, f2, f3, f4, f5⟩ => ?_⟩, ⟨us', ws', sa', sb', by rw [hl', Nat.min_self], by rw [hl', Nat.min_self]⟩⟩
          have g1 := f4 us' sa'
          have g2 := f5 ws' sb'
          rw [hv] at g1
          rw [hw] at g2
          cases g1
          cases g2
          exact ⟨T, f1, f2, f3⟩
    | exc x S1 => rw [hh2] at w; exact w
    | err => rw [hh2] at w; exact w
  | exc x S1 => rw [hh] at w; exact w
  | err => rw [hh] at w; exact w
theorem w_zip {e e2 : Expr} {ie ie2 : E} {elts : List Expr} {kk : Nat} {tpos p : Pos} (hg : Gl X "zip") (hm : X.mg "zip" = none) (ok : okE e = true) (ok2 : okE e2 = true) (ha : PA X [e, e2] (tEs g W (evs F [ie, ie2]))) (hK : X.K = g.K := by rfl) :
    PI X (.Tuple elts kk tpos) (.Call (.Name "zip" p) [e, e2] [] pos) (tI g W (evIt F (.zip false ie ie2))) := by
  refine PI.imp (RZ.pi_zipA hg hm ha (starEach_ok ok) (by rw [starEach_ok ok2]; rfl)) fun σ H R ⟨m, ρ, S, rs, er, w⟩ => ?_
  rw [evIt] at w
  refine ⟨m, ρ, S, rs, er, ?_⟩
  show WP g _ (Rels g) m S.length H (evs F [ie, ie2] ρ S) _
  rw [evs2]
  cases hh : ev F ie ρ S with
  | ok d S1 =>
    rw [hh] at w
    simp only [Iv.R.bind_ok] at w ⊢
    cases hh2 : ev F ie2 ρ S1 with
    | ok d2 S2 =>
      rw [hh2] at w
      simp only [Iv.R.bind_ok] at w ⊢
      intro m2 H2 vs x2 rs2 r2
      obtain ⟨v, v2, rfl, rv, rv2⟩ := Rels.two r2
      have w := w.from x2
      cases h1 : seqOf S2 d with
      | none => rw [h1] at w; exact w.err
      | some xs =>
        cases h2 : seqOf S2 d2 with
        | none => rw [h1, h2] at w; exact w.err
        | some ys =>
          rw [h1, h2] at w
          obtain ⟨⟨_, c2, c3, c4⟩, w⟩ := w.ck
          have c4 : kOf d = kOf d2 := c4.elim (fun z => by cases z) id
          obtain ⟨a, us, rfl, ra, sa⟩ := seq_k rs2 rv h1
          obtain ⟨b, ws, rfl, rb, sb⟩ := seq_k rs2 rv2 h2
          have go : ∀ m' S' H', ExtW m2 S2.length H2 m' (List.length S') H' → RS g m' S' H' → ∃ us' ws', Rels g m' S'.length H' xs us' ∧ Rels g m' S'.length H' ys ws' ∧ Wz.Sq (kOf d) g.K H' a us' ∧ Wz.Sq (kOf d) g.K H' b ws' := by
            intro m' S' H' x rs'
            obtain ⟨a', us', e1, ra', sa'⟩ := seq_k rs' (Rel.monoW x _ _ rv) ((fix_seq (S := S2) c2).trans h1)
            cases e1
            obtain ⟨b', ws', e2, rb', sb'⟩ := seq_k rs' (Rel.monoW x _ _ rv2) ((fix_seq (S := S2) c3).trans h2)
            cases e2
            rw [← c4] at sb'
            exact ⟨us', ws', ra', rb', sa', sb'⟩
          rw [hK]
          rw [← c4] at sb
          refine ⟨a, b, us, ws, rfl, ?_⟩
          cases hk : kOf d with
          | true =>
            rw [hk] at sa sb go
            refine .inl ⟨sa, sb, w.now rs2 (itr_two fun m' S' H' x rs' => ?_)⟩
            obtain ⟨us', ws', ra', rb', sa', sb'⟩ := go m' S' H' x rs'
            refine ⟨us', ws', ra', rb', fun i v w hv hw => ⟨⟨us', ws', v, w, sa', sb', hv, hw⟩, fun y H'' ⟨T, y1, y2, f1, f2, f3, f4, f5⟩ => ?_⟩, ⟨us', ws', sa', sb', by omega⟩⟩
            have g1 := f4 us' sa'
            have g2 := f5 ws' sb'
            rw [hv] at g1
            rw [hw] at g2
            cases g1
            cases g2
            exact ⟨T, f1, f2, f3⟩
          | false =>
            rw [hk] at sa sb go
            refine .inr ⟨sa, sb, w.now rs2 (itr_two fun m' S' H' x rs' => ?_)⟩
            obtain ⟨us', ws', ra', rb', sa', sb'⟩ := go m' S' H' x rs'
            refine ⟨us', ws', ra', rb', fun i v w hv hw => ⟨⟨us', ws', v, w, sa', sb', hv, hw⟩, fun y H'' ⟨T, y1, y2, f1, f2, f3, f4, f5⟩ => ?_⟩, ⟨us', ws', sa', sb', by omega⟩⟩
            have g1 := f4 us' sa'
            have g2 := f5 ws' sb'
            rw [hv] at g1
            rw [hw] at g2
            cases g1
            cases g2
            exact ⟨T, f1, f2, f3⟩
    | exc x S1 => rw [hh2] at w; exact w
    | err => rw [hh2] at w; exact w
  | exc x S1 => rw [hh] at w; exact w
  | err => rw [hh] at w; exact w
end
end Iv

/-! ### t[::-1] of a tuple -/
namespace Wr
open PySem PySem.Spec PyProof.Rows L2 HT
section
variable {prog : Program} {w : World} {A : Around} {E : Value → Shared → Prop} {s : Shared}
end
end Wr
namespace Iv
open PySem PySem.Spec PyProof.Rows L2
section
variable {g : Gs} {W : L2.WX} {X : Cx} {F : CE} {a : Expr} {ia : E} {pos : Pos}
theorem PE.or {X : Cx} {e : Expr} {t t' : TE} (h : PE X e t) (h' : PE X e t') : PE X e (fun σ H Q => t σ H Q ∨ t' σ H Q) := ⟨fun pins s σ H Q I q => q.elim (h.run pins s σ H Q I) (h'.run pins s σ H Q I)⟩
end
end Iv

/-! ### defs, calls -/
namespace Iv
open PySem PySem.Spec PyProof.Rows L2
section
variable {P : Program} {w : World} {K : PySem.W.Frag} {mg : Str → Option Value} {base : Heap} {g : Gs} {T : List Fn}
theorem fn_zero {fa : Addr} {fd : FuncData} {ps : List Str} {j f : Nat} {x qual : Str} {st : Stmt} {dv0 : List V} {kws : List (Str × V)} {N : List Str} (F : FunD K x qual (defArgs st) (defBody st) (defScope st) dv0 kws fa fd) (S : FnScope N ps (defScope st)) : FnOk P w K mg base (L2.CX P w) (j + 1) fa fd ps (spF g (callN T 0) f ps.length) :=
  F.ok S (fun _ _ _ _ h => h.1) fun _ _ _ _ _ _ _ _ _ ⟨_, _, _, _, _, _, w⟩ => False.elim w
theorem start_env {m : Mp} {n : Nat} {H : Hp} {ds : List Iv.D} {vs : List V} {N : List Str} (r : Rels g m n H ds vs) : EnvR g m n H (ds.map some ++ List.replicate (N.length - ds.length) none) (L2.start N vs) := by
  have l := r.length
  refine ⟨?_, fun i d e => ?_⟩
  · unfold L2.start
    simp only [List.length_append, List.length_map, List.length_replicate, l]
  · rcases Nat.lt_or_ge i ds.length with h | h
    · rw [List.getElem?_append_left (by rw [List.length_map]; exact h), List.getElem?_map] at e
      obtain ⟨d', hd, q⟩ := Option.map_eq_some_iff.mp e
      cases q
      obtain ⟨v, hv, rv⟩ := r.get hd
      refine ⟨v, ?_, rv⟩
      unfold L2.start
      rw [List.getElem?_append_left (by rw [List.length_map, ← l]; exact h), List.getElem?_map, hv]
      rfl
    · rw [List.getElem?_append_right (by rw [List.length_map]; exact h), List.getElem?_replicate] at e
      split at e <;> cases e
theorem fn_step {fa : Addr} {fd : FuncData} {N ps : List Str} {j k f : Nat} {x qual : Str} {st : Stmt} {dv0 : List V} {kws : List (Str × V)} {body : List Iv.St} (hT : T[f]? = some ⟨ps.length, N.length, body⟩)
    (F : FunD K x qual (defArgs st) (defBody st) (defScope st) dv0 kws fa fd) (S : FnScope N ps (defScope st))
    (hb : ∀ (cdv : Value) (A : Around) (outer : List PySem.Env) (s : Shared) (H : Hp) (E : XK), Room j (A.deeper (envOfC qual (defScope st) s.heap.objs.size fa cdv)) →
      PSs (cxOf (L2.CX P w) P w K mg base N qual (defScope st) fa cdv A outer s H E) (defBody st) (tS g (fun c d _ H => E c d H) (exs (callN T k) body))) :
    FnOk P w K mg base (L2.CX P w) (j + 1) fa fd ps (spF g (callN T (k + 1)) f ps.length) := by
  refine F.ok S (fun _ _ _ _ h => h.1) fun cdv A outer s H vs Q E hr ⟨hl, m, S0, ds, rs, r, wp⟩ => ⟨_, hb cdv A outer s H E hr, ?_⟩
  unfold callN at wp
  rw [hT] at wp
  obtain ⟨_, wp⟩ := (show WP g E (Rel g) m S0.length H (ck (ds.length = ps.length) (run (callN T k) N.length body ds S0)) Q from wp).ck
  refine ⟨m, _, S0, rs, start_env (N := N) r, ?_⟩
  unfold run at wp
  cases hx : exs (callN T k) body (ds.map some ++ List.replicate (N.length - ds.length) none) S0 with
  | ok fl S' =>
    rw [hx] at wp
    cases fl with
    | next ρ => exact fun m' H' σ' x rs' er => wp m' H' .non x rs' (by rw [rel_non])
    | brk ρ => exact wp.elim
    | cont ρ => exact wp.elim
    | ret d => exact fun m' H' v x rs' rv => wp m' H' v x rs' rv
    | raised e ρ => exact fun m' H' σ' c d x rs' er xr => wp m' H' c d x rs' xr
  | exc e S' => rw [hx] at wp; exact wp.elim
  | err => rw [hx] at wp; exact wp.elim

/-! how arguments come to parameters -/
def gat {α : Type} (js : List Nat) (l : List α) : List α := js.filterMap (l[·]?)
theorem gat_vals {us : List Value} {vs : List V} (r : Vals vs us) : ∀ js : List Nat, Vals (gat js vs) (gat js us)
  | [] => .nil
  | j :: js => by
    have ih := gat_vals r js
    unfold gat at ih ⊢
    have l := r.length
    cases h : vs[j]? with
    | none =>
      have h2 : us[j]? = none := by
        rw [List.getElem?_eq_none_iff] at h ⊢
        rw [← l]
        exact h
      rw [List.filterMap_cons_none h, List.filterMap_cons_none h2]
      exact ih
    | some v =>
      obtain ⟨u, hu, ru⟩ := r.get h
      rw [List.filterMap_cons_some h, List.filterMap_cons_some hu]
      exact .cons ru ih
theorem gat_rels {m : Mp} {n : Nat} {H : Hp} {ds : List Iv.D} {vs : List V} (r : Rels g m n H ds vs) : ∀ {js : List Nat} {ps' : List Iv.D}, pick ds (js.map .a) = some ps' → Rels g m n H ps' (gat js vs) ∧ (gat js vs).length = js.length
  | [], ps', h => by
    cases h
    exact ⟨Rels.nil, rfl⟩
  | j :: js, ps', h => by
    rw [List.map_cons, pick] at h
    split at h
    · rename_i d hd
      obtain ⟨qs, hq, rfl⟩ := Option.map_eq_some_iff.mp h
      obtain ⟨v, hv, rv⟩ := r.get hd
      obtain ⟨i1, i2⟩ := gat_rels r hq
      unfold gat at i1 i2 ⊢
      rw [List.filterMap_cons_some hv]
      exact ⟨Rels.cons rv i1, by rw [List.length_cons, List.length_cons, i2]⟩
    · cases h
theorem sig_all {fa : Addr} {fd : FuncData} {ps ks : List Str} {n : Nat} {js : List Nat} {x qual : Str} {params : Arguments} {body : List Stmt} {scope : Scope} {kws : List (Str × V)} (F : FunD g.K x qual params body scope [] kws fa fd) (hl : js.length = ps.length)
    (h : ∀ (kV doc pm : Value) (an : Option Addr) (cdv ct : Value) (us ws : List Value), us.length = n → ws.length = ks.length → bindArgs (PySem.W.fnOf x qual params body scope .none kV doc pm an cdv ct) ⟨us, ks.zip ws⟩ = pure (ps.zip (gat js (us ++ ws)))) : Sig g fd ps n ks (js.map .a) := by
  obtain ⟨oc, od, dV, kV, doc, pm, an, cdv, ct, osl, rfl, lk, hcd, hD, hK⟩ := F.ex
  rcases hD with ⟨_, rfl⟩ | ⟨e, _⟩
  · refine ⟨fun us ws => gat js (us ++ ws), fun vs zs => gat js (vs ++ zs), ⟨fun s us ws X l1 l2 => .of_eq (h kV doc pm an cdv ct us ws l1 l2), fun r1 r2 => gat_vals (r1.append r2) js⟩, fun m N H ds vs zs ps' r l1 l2 hp => ?_⟩
    obtain ⟨q1, q2⟩ := gat_rels r hp
    exact ⟨q1, q2.trans hl⟩
  · exact absurd rfl e
/-- a def as it is called -/
structure Fo (g : Gs) (P : Program) (w : World) (K : PySem.W.Frag) (mg : Str → Option Value) (base : Heap) (F : CE) (j : Nat) (fa : Addr) (f : Nat) (sigs : List (Nat × List Str × List Ar)) : Prop where
  ex : ∃ (fd : FuncData) (ps : List Str), FnOk P w K mg base (L2.CX P w) j fa fd ps (spF g F f ps.length) ∧ (∀ s ∈ sigs, Sig g fd ps s.1 s.2.1 s.2.2) ∧ PySem.W.keepIn K (.ref fa) = true
end
section
variable {g : Gs} {W : L2.WX} {X : Cx} {F : CE} {es : List Expr} {kws : List Keyword} {ies iks : List E} {ks : List Str} {x : Str} {p pos : Pos}
theorem j_call {j k : Nat} {fa : Addr} {f : Nat} {arr : List Ar} {sigs : List (Nat × List Str × List Ar)} (fo : Fo g X.prog X.w X.K X.mg X.base F k fa f sigs) (hm : X.mg x = some (.ref fa)) (tk : Takes X W) (hr : Room j X.A) (ie : List E) (hie : ie = ies ++ iks) (ha : PA X es (tEs g W (evs F ies))) (hkw : PK X kws (tEs g W (evs F iks)))
    (hs : (ies.length, ks, arr) ∈ sigs) (hK : X.K = g.K := by rfl) (hg : Gl X x := by rfl) (hj : k ≤ j := by omega) (hdb : (x == ("__debug__" : Str)) = false := by decide) (oks : okEs es = true := by rfl) (hks : kwsNames kws = some ks := by rfl) (hkl : iks.length = ks.length := by rfl) (hel : es.length = ies.length := by rfl) :
    PE X (.Call (.Name x p) es kws pos) (tE g W (ev F (.call f arr ie))) := by
  subst hie
  obtain ⟨fd, ps, FO, sg, kp⟩ := fo.ex
  exact i_call hK FO (hr.mono hj) hg hm kp (sg _ hs) tk hdb oks hks hkl hel ha hkw
end
end Iv

/-! ### constants, the end -/
namespace Iv
open PySem PySem.Spec PyProof.Rows L2
section
variable {g : Gs} {W : L2.WX} {X : Cx} {F : CE} {x : Str} {p pos : Pos}
theorem c_int {i : Int} {j : Nat} : PE X (.Constant (.int i) j pos) (tE g W (ev F (.con (.int i)))) := i_con pe_int fun _ _ _ => by rw [rel_int]
theorem c_bl {b : Bool} {j : Nat} : PE X (.Constant (.bool b) j pos) (tE g W (ev F (.con (.bl b)))) := i_con pe_bl fun _ _ _ => by rw [rel_bl]
theorem c_non {j : Nat} : PE X (.Constant .none j pos) (tE g W (ev F (.con .non))) := i_con pe_non fun _ _ _ => by rw [rel_non]
theorem c_str {z : Str} {j : Nat} (h : okS z) : PE X (.Constant (.str z) j pos) (tE g W (ev F (.con (.str z)))) := i_con pe_str fun _ _ _ => by rw [rel_str]; exact ⟨rfl, h⟩
theorem c_gI {i : Int} (h : ∃ t, X.mg x = some (.int i t)) (hg : Gl X x := by rfl) (hd : (x == ("__debug__" : Str)) = false := by decide) : PE X (.Name x pos) (tE g W (ev F (.con (.int i)))) := by
  obtain ⟨t, e⟩ := h
  exact i_con (v := .int i) (pe_glob hg e ⟨t, rfl⟩ hd) fun _ _ _ => by rw [rel_int]
theorem c_gS {z : Str} (h : ∃ t, X.mg x = some (.str z t)) (ok : okS z) (hg : Gl X x := by rfl) (hd : (x == ("__debug__" : Str)) = false := by decide) : PE X (.Name x pos) (tE g W (ev F (.con (.str z)))) := by
  obtain ⟨t, e⟩ := h
  exact i_con (v := .str z) (pe_glob hg e ⟨t, rfl⟩ hd) fun _ _ _ => by rw [rel_str]; exact ⟨rfl, ok⟩
theorem c_gT {n : String} (hm : X.mg x = none) (hv : bootBuiltins x = some (.type n)) (hg : Gl X x := by rfl) (hn : x ≠ "__name__" := by decide) (hd : (x == ("__debug__" : Str)) = false := by decide) : PE X (.Name x pos) (tE g W (ev F (.con (.ty n)))) :=
  i_con (v := .ty n) (pe_bltn hg hm hv rfl hn hd) fun _ _ _ => by rw [rel_ty]
theorem okS_of {z : Str} (h : (decide (z.length ≤ 1000) && z.cps.toList.all (fun c => decide (c < 1114112))) = true) : okS z := by
  rw [Bool.and_eq_true, decide_eq_true_eq, List.all_eq_true] at h
  exact ⟨Nat.le_trans h.1 (by decide), fun c hc => of_decide_eq_true (h.2 c hc)⟩
theorem j_var {i : Nat} (hN : X.N[i]? = some x := by rfl) (hv : Vis X.env.scope x := by first | exact Or.inl rfl | exact Or.inr (Or.inl rfl) | exact Or.inr (Or.inr rfl)) (hd : (x == ("__debug__" : Str)) = false := by decide) (hcd : (x == ("__classdict__" : Str)) = false := by decide) :
    PE X (.Name x pos) (tE g W (ev F (.var i))) := i_var hN hv hd hcd
theorem j_bi {e : Expr} {es : List Expr} {ies : List E} {k : Nat} {nm : Str} (b : Bi) (hr : Room k X.A) (hm : X.mg nm = none) (ha : PA X (e :: es) (tEs g W (evs F ies))) (hnm : biName b = nm := by rfl) (hK : X.K = g.K := by rfl) (hc : X.calm = true := by rfl) (ok : biOk b = true := by rfl) (hg : Gl X nm := by rfl) (oks : okEs (e :: es) = true := by rfl) :
    PE X (.Call (.Name nm p) (e :: es) [] pos) (tE g W (ev F (.bi b ies))) := by
  subst hnm
  exact i_bi hK hr hc b ok hg hm oks ha
theorem j_g {vs : List Nat} {i : Nat} (hN : X.N.Nodup) (hv : i ∈ vs := by decide) (hi : X.N[i]? = some x := by rfl) (hx : Loc X.env.scope x := by first | exact Or.inl rfl | exact Or.inr rfl) (hf : X.fn x = true ∨ X.env.scope.names.lookup x = some .local := by first | exact Or.inl rfl | exact Or.inr rfl) :
    PG X (.Name x pos) (TGv g vs (asg F (.var i))) := g_var hv hN hi hx hf
def noSwap : Expr → Expr → Bool
  | .Tuple _ _ _, .Tuple _ _ _ => false
  | .List _ _, .Tuple _ _ _ => false
  | _, _ => true
theorem pure_none {tg v : Expr} {env : PySem.Env} (h : noSwap tg v = true) : swappedStores [tg] v env = pure none := by
  cases tg with
  | Tuple _ _ _ => cases v <;> first | rfl | (exact absurd h Bool.false_ne_true)
  | List _ _ => cases v <;> first | rfl | (exact absurd h Bool.false_ne_true)
  | _ => rfl
theorem j_asg {tg e : Expr} {t : Tg} {ie : E} (vs : List Nat) (he : PE X e (tE g W (ev F ie))) (hg : PG X tg (TGv g vs (asg F t))) (ok : noStar tg = true := by rfl) (hs : notComp e = true := by rfl) (hw : noSwap tg e = true := by rfl) : PS X (.Assign [tg] e pos) (tS g W (ex F (.asg t ie))) :=
  s_asg he (g_any hg) ok (swaps_ok hs) (pure_none hw)
end
section
variable {P : Program} {w : World} {K : PySem.W.Frag} {mg : Str → Option Value} {base : Heap} {g : Gs} {T : List Fn}
def spEnd (K : PySem.W.Frag) : Sp := fun vs H Q _ => ∃ (a : Addr) (ns : List Int), vs = [.ref a] ∧ SqL K H a (ns.map V.int) ∧ ns.length ≤ 63 ∧ Only H ∧ ∀ H', Q (.bl true) H'
theorem rels_ints {m : Mp} {n : Nat} {H : Hp} : ∀ ns : List Int, Rels g m n H (ns.map Iv.D.int) (ns.map V.int)
  | [] => Rels.nil
  | i :: r => Rels.cons (by rw [rel_int]) (rels_ints r)
theorem fn_end {fa : Addr} {fd : FuncData} {x : Str} {j k f : Nat} (hK : g.K = K) (FO : FnOk P w K mg base (L2.CX P w) j fa fd [x] (spF g (callN T k) f 1)) (h : ∀ ns : List Int, ns.length ≤ 63 → ∃ S, callN T k f [.scr (ns.map .int)] [] = .ok (.bl true) S) :
    FnOk P w K mg base L2.CX0 j fa fd [x] (spEnd K) := by
  refine ⟨fun vs H Q E ⟨a, ns, e, _⟩ => by rw [e]; rfl, fun A outer s H args us vs Q E hr e0 bt rv ⟨a, ns, e, sq, hl, on, q⟩ => ?_⟩
  subst e
  refine codeAny_mono (FO.run A outer s H args us [.ref a] Q (fun _ _ _ => False) hr e0 bt rv ⟨rfl, ⟨fun _ => none, fun _ => False⟩, [], [.scr (ns.map .int)], ?_, ?_, ?_⟩) fun r s' q' => ?_
  · refine ⟨fun i a e => (by cases e), fun i c e => ?_, fun i j a e => (by cases e), fun a z => False.elim z⟩
    unfold cellAt at e
    cases e
  · refine Rels.cons ?_ Rels.nil
    rw [rel_scr]
    refine ⟨a, ns.map .int, rfl, ?_, rels_ints ns⟩
    rw [← hK] at sq
    rcases sq with (e | ⟨o, e⟩) | z
    · rcases on a with e' | ⟨o, xs, e'⟩
      · rw [e] at e'; cases e'
      · rw [e] at e'; cases e'
    · exact .inl ⟨o, e, ⟨fun i z => (by cases z), fun z => z⟩⟩
    · exact .inr fun H' => .inr z
  · obtain ⟨S, hS⟩ := h ns hl
    rw [hS]
    intro m' H' b x rs' r
    rw [rel_bl] at r
    rw [r]
    exact q H'
  · cases r with
    | error e =>
      obtain ⟨_, _, _, _, _, _, _, _, _, _, _, _, z⟩ := q'
      exact z
    | ok fl =>
      cases fl with
      | ret u => exact q'
      | next => exact q'
      | brk => exact q'
      | cont => exact q'
end
end Iv

/-! ### defaults; join -/
namespace Iv
open PySem PySem.Spec PyProof.Rows L2 TL
section
variable {g : Gs} {X : Cx} {F : CE}
/-- an argument's place, or a default's -/
def arOf (n : Nat) (dd : List Iv.D) (j : Nat) : Ar := if j < n then .a j else .d (dd.getD (j - n) .non)
theorem pick_dfl {n : Nat} {dd ds : List Iv.D} (hn : ds.length = n) : ∀ {js : List Nat} {ps : List Iv.D}, (∀ j ∈ js, j < n + dd.length) → pick ds (js.map (arOf n dd)) = some ps → pick (ds ++ dd) (js.map .a) = some ps
  | [], ps, _, h => h
  | j :: js, ps, hj, h => by
    rw [List.map_cons] at h ⊢
    have hj0 := hj j (List.mem_cons_self ..)
    have ih := fun qs => pick_dfl (js := js) (ps := qs) hn fun i hi => hj i (List.mem_cons_of_mem _ hi)
    by_cases hlt : j < n
    · rw [show arOf n dd j = .a j from if_pos hlt, pick] at h
      split at h
      · rename_i d hd
        obtain ⟨qs, hq, rfl⟩ := Option.map_eq_some_iff.mp h
        rw [pick, List.getElem?_append_left (by rw [hn]; exact hlt), hd]
        exact Option.map_eq_some_iff.mpr ⟨qs, ih qs hq, rfl⟩
      · cases h
    · rw [show arOf n dd j = .d (dd.getD (j - n) .non) from if_neg hlt, pick] at h
      obtain ⟨qs, hq, rfl⟩ := Option.map_eq_some_iff.mp h
      have hd : dd[j - n]? = some (dd.getD (j - n) .non) := by
        have : j - n < dd.length := by omega
        rw [List.getD_eq_getElem?_getD, List.getElem?_eq_getElem this]
        rfl
      rw [pick, List.getElem?_append_right (by omega), hn, hd]
      exact Option.map_eq_some_iff.mpr ⟨qs, ih qs hq, rfl⟩
theorem sig_dfl {fa : Addr} {fd : FuncData} {ps ks : List Str} {n : Nat} {js : List Nat} {x qual : Str} {params : Arguments} {body : List Stmt} {scope : Scope} {dvs : List V} {kws : List (Str × V)} (dd : List Iv.D) (F : FunD g.K x qual params body scope dvs kws fa fd) (hd : dvs ≠ []) (hl : js.length = ps.length)
    (hj : ∀ j ∈ js, j < n + ks.length + dd.length) (hdd : ∀ m n H, Rels g m n H dd dvs)
    (h : ∀ (T : Addr) (kV doc pm : Value) (an : Option Addr) (cdv ct : Value) (us ws its : List Value), us.length = n → ws.length = ks.length → its.length = dvs.length →
      ∃ k, bindArgs (PySem.W.fnOf x qual params body scope (.ref T) kV doc pm an cdv ct) ⟨us, ks.zip ws⟩ = seqItems? (.ref T) >>= k ∧ k (some its.toArray) = pure (ps.zip (gat js (us ++ ws ++ its)))) : Sig g fd ps n ks (js.map (arOf (n + ks.length) dd)) := by
  obtain ⟨oc, od, dV, kV, doc, pm, an, cdv, ct, osl, rfl, lk, hcd, hD, hK⟩ := F.ex
  rcases hD with ⟨e, _⟩ | ⟨_, T, o, its, mm, rfl, lT, oT, rT⟩
  · exact absurd e hd
  · refine ⟨fun us ws => gat js (us ++ ws ++ its), fun vs zs => gat js (vs ++ zs ++ dvs), ⟨fun s us ws X l1 l2 => ?_, fun r1 r2 => gat_vals ((r1.append r2).append rT) js⟩, fun m N H ds vs zs ps' r l1 l2 hp => ?_⟩
    · obtain ⟨k, e1, e2⟩ := h T kV doc pm an cdv ct us ws its l1 l2 rT.length.symm
      refine BindsTo.of_looks fun M => ?_
      rw [e1]
      exact looks_items X lT oT (.of_pure e2)
    · have ln : ds.length = n + ks.length := by rw [r.length, List.length_append, l1, l2]
      obtain ⟨q1, q2⟩ := gat_rels (r.append (hdd m N H)) (pick_dfl ln (fun j hj' => hj j hj') hp)
      exact ⟨q1, q2.trans hl⟩
theorem strs_rels {m : Mp} {n : Nat} {H : Hp} : ∀ {xs : List Iv.D} {vs : List V} {ss : List Str}, strsD xs = some ss → Rels g m n H xs vs → vs = ss.map V.str ∧ ∀ s ∈ ss, okS s
  | [], vs, ss, h, r => by
    cases h
    unfold Rels at r
    exact ⟨r, fun s hs => by cases hs⟩
  | x :: xs, vs, ss, h, r => by
    unfold Rels at r
    obtain ⟨w, ws, rfl, r1, r2⟩ := r
    cases x with
    | str z =>
      obtain ⟨ms, hm, rfl⟩ := Option.map_eq_some_iff.mp (show (strsD xs).map (z :: ·) = some ss from h)
      rw [rel_str] at r1
      obtain ⟨i1, i2⟩ := strs_rels hm r2
      refine ⟨by rw [r1.1, i1]; rfl, fun s hs => ?_⟩
      rcases List.mem_cons.mp hs with rfl | hs
      · exact r1.2
      · exact i2 s hs
    | _ => cases h
theorem joinL_mem {S : List Nat} {c : Nat} : ∀ {ps : List (List Nat)}, c ∈ joinL S ps → c ∈ S ∨ ∃ p ∈ ps, c ∈ p
  | [], h => by cases h
  | [p], h => .inr ⟨p, List.mem_cons_self .., h⟩
  | p :: q :: r, h => by
    unfold joinL at h
    rcases List.mem_append.mp h with h | h
    · exact .inr ⟨p, List.mem_cons_self .., h⟩
    · rcases List.mem_append.mp h with h | h
      · exact .inl h
      · rcases joinL_mem h with h | ⟨u, hu, h⟩
        · exact .inl h
        · exact .inr ⟨u, List.mem_cons_of_mem _ hu, h⟩
theorem joinL_len {S : List Nat} : ∀ ps : List (List Nat), (joinL S ps).length ≤ (ps.map List.length).sum + ps.length * S.length
  | [] => Nat.zero_le _
  | [p] => by simp [joinL]
  | p :: q :: r => by
    have ih := joinL_len (S := S) (q :: r)
    unfold joinL
    simp only [List.length_append, List.map_cons, List.sum_cons, List.length_cons, Nat.succ_mul] at ih ⊢
    omega
theorem okS_join {a : Str} {ys : List Str} (ha : okS a) (hy : ∀ s ∈ ys, okS s) (hl : (ys.map (·.length)).sum + ys.length * a.length ≤ 16777216) : okS (Txt.join a ys) := by
  have e : (Txt.join a ys).cps.toList = joinL (tl a) (ys.map tl) := by rw [join_eq]; exact tl_join a ys
  constructor
  · have h := joinL_len (S := tl a) (ys.map tl)
    rw [← e, List.length_map, List.map_map] at h
    have h1 : (Txt.join a ys).length = (Txt.join a ys).cps.toList.length := rfl
    have h2 : (ys.map (List.length ∘ tl)) = ys.map (·.length) := rfl
    have h3 : (tl a).length = a.length := rfl
    rw [h2, h3] at h
    rw [h1, sizeLine_eq]
    omega
  · intro c hc
    rw [e] at hc
    rcases joinL_mem hc with h | ⟨p, hp, h⟩
    · exact ha.2 c h
    · obtain ⟨s, hs, rfl⟩ := List.mem_map.mp hp
      exact (hy s hs).2 c h
theorem mt_join' (hK : X.K = g.K) : MtR X "str.join" (rm g .join) := by
  refine MtR.imp mt_join fun v xs H Q ⟨m, S, d, ds, W, rs, r, rx, w⟩ => ?_
  replace w : WP g W (Rel g) m S.length H (bmJoin S d ds) Q := w
  unfold bmJoin at w
  split at w
  · split at w
    · rename_i a
      split at w
      · rename_i ys hy
        obtain ⟨c, w⟩ := w.ck
        obtain ⟨zs, hz, hs⟩ := Option.bind_eq_some_iff.mp hy
        obtain ⟨y, rfl, ry⟩ := rx.one
        rw [rel_str] at r
        obtain ⟨p, vs, rfl, rr, q⟩ := seqOf_sq rs ry hz
        obtain ⟨e, ok⟩ := strs_rels hs rr
        rw [e, ← hK] at q
        exact ⟨a, p, ys, r.1, rfl, q, c, w.now rs (by rw [rel_str]; exact ⟨rfl, okS_join r.2 ok c⟩)⟩
      · exact w.err
    · exact w.err
  · exact w.err
end
end Iv

/-! ### range with a step, zip of boxes, isinstance of several, keyword-only defaults, classes -/
namespace Iv
open PySem PySem.Spec PyProof.Rows L2
section
variable {g : Gs} {W : L2.WX} {X : Cx} {F : CE} {m : Mp} {n : Nat} {H : Hp} {S : Sto} {ρ : Env} {pos : Pos} {xs ys : List Iv.D}
theorem walkZ_of {d : Iv.D} {p : Src × List Iv.D} (h : walkZ S d = some p) : walkOf S d = some p ∧ ∀ z, d ≠ .str z := by
  cases d <;> first | (exact ⟨h, fun _ z => by cases z⟩) | cases h
theorem itr_twoB {J : L2.It} {src : Src} (h : ∀ m' S' H', ExtW m n H m' (List.length S') H' → RS g m' S' H' → src.there S' → ∃ vs ws, Rels g m' S'.length H' xs vs ∧ Rels g m' S'.length H' ys ws ∧
    (∀ (i : Nat) (v w : V), vs[i]? = some v → ws[i]? = some w → J.go i H' ∧ ∀ x H'', J.yld i H' x H'' → ∃ T, x = .ref T ∧ H' T = none ∧ H'' = upd H' T (.tup [v, w])) ∧ J.stop (min vs.length ws.length) H') : ItR g m n H (src, zipD xs ys) J := by
  intro m' S' H' x _ rs c
  obtain ⟨vs, ws, r1, r2, k, st⟩ := h m' S' H' x rs c
  refine ⟨fun i d e => ?_, ?_⟩
  · rw [zipD, List.getElem?_map] at e
    obtain ⟨p, hp, rfl⟩ := Option.map_eq_some_iff.mp e
    obtain ⟨p1, p2⟩ := p
    rw [List.getElem?_zip_eq_some] at hp
    obtain ⟨v, hv, rv⟩ := r1.get hp.1
    obtain ⟨w, hw, rw'⟩ := r2.get hp.2
    obtain ⟨k1, k2⟩ := k i v w hv hw
    refine ⟨k1, fun y H'' q => ?_⟩
    obtain ⟨T, q1, q2, q3⟩ := k2 y H'' q
    subst q1 q3
    refine ⟨rs.laid q2, Ext.laid rs q2, ?_⟩
    rw [rel_tup]
    exact ⟨T, _, rfl, .inl ⟨upd_same, Off.free rs q2⟩, Rels.cons (Rel.mono (Ext.laid rs q2) _ _ rv) (Rels.cons (Rel.mono (Ext.laid rs q2) _ _ rw') Rels.nil)⟩
  · have e : (zipD xs ys).length = min vs.length ws.length := by rw [zipD, List.length_map, List.length_zip, r1.length, r2.length]
    show J.stop (zipD xs ys).length H'
    rw [e]
    exact st
theorem w_zipb {e e2 : Expr} {ie ie2 : E} {elts : List Expr} {kk : Nat} {tpos p : Pos} (hg : Gl X "zip") (hm : X.mg "zip" = none) (ok : okE e = true) (ok2 : okE e2 = true) (ha : PA X [e, e2] (tEs g W (evs F [ie, ie2]))) (hK : X.K = g.K := by rfl) :
    PI X (.Tuple elts kk tpos) (.Call (.Name "zip" p) [e, e2] [] pos) (tI g W (evIt F (.zipb ie ie2))) := by
  refine PI.imp (RZ.pi_zipA hg hm ha (starEach_ok ok) (by rw [starEach_ok ok2]; rfl)) fun σ H R ⟨m, ρ, S, rs, er, w⟩ => ?_
  rw [evIt] at w
  refine ⟨m, ρ, S, rs, er, ?_⟩
  show WP g _ (Rels g) m S.length H (evs F [ie, ie2] ρ S) _
  rw [evs2]
  cases hh : ev F ie ρ S with
  | ok d S1 =>
    rw [hh] at w
    simp only [Iv.R.bind_ok] at w ⊢
    cases hh2 : ev F ie2 ρ S1 with
    | ok d2 S2 =>
      rw [hh2] at w
      simp only [Iv.R.bind_ok] at w ⊢
      intro m2 H2 vs x2 rs2 r2
      obtain ⟨v, v2, rfl, rv, rv2⟩ := Rels.two r2
      have w := w.from x2
      cases h1 : walkZ S2 d with
      | none => rw [h1] at w; exact w.err
      | some p1 =>
        obtain ⟨s1, xs⟩ := p1
        cases h2 : walkZ S2 d2 with
        | none => rw [h1, h2] at w; exact w.err
        | some p2 =>
          obtain ⟨s2, ys⟩ := p2
          rw [h1, h2] at w
          obtain ⟨c4, w⟩ := w.ck
          obtain ⟨a1, a2⟩ := walkZ_of h1
          obtain ⟨b1, b2⟩ := walkZ_of h2
          obtain ⟨e1, k1⟩ := there_now a1 a2
          obtain ⟨e2, k2⟩ := there_now b1 b2
          obtain ⟨a, us, rfl, ra, sa⟩ := seq_k rs2 rv e1
          obtain ⟨b, ws, rfl, rb, sb⟩ := seq_k rs2 rv2 e2
          have go : ∀ m' S' H', ExtW m2 S2.length H2 m' (List.length S') H' → RS g m' S' H' → (Src.two s1 s2).there S' → ∃ us' ws', Rels g m' S'.length H' xs us' ∧ Rels g m' S'.length H' ys ws' ∧ Wz.Sq (kOf d) g.K H' a us' ∧ Wz.Sq (kOf d) g.K H' b ws' := by
            intro m' S' H' x rs' c
            obtain ⟨a', us', e1, ra', sa'⟩ := seq_k rs' (Rel.monoW x _ _ rv) (k1 S' c.1)
            cases e1
            obtain ⟨b', ws', e2, rb', sb'⟩ := seq_k rs' (Rel.monoW x _ _ rv2) (k2 S' c.2)
            cases e2
            rw [← c4] at sb'
            exact ⟨us', ws', ra', rb', sa', sb'⟩
          rw [hK]
          rw [← c4] at sb
          refine ⟨a, b, us, ws, rfl, ?_⟩
          cases hk : kOf d with
          | true =>
            rw [hk] at sa sb go
            refine .inl ⟨sa, sb, w.now rs2 (itr_twoB fun m' S' H' x rs' c => ?_)⟩
            obtain ⟨us', ws', ra', rb', sa', sb'⟩ := go m' S' H' x rs' c
            refine ⟨us', ws', ra', rb', fun i v w hv hw => ⟨⟨us', ws', v, w, sa', sb', hv, hw⟩, fun y H'' ⟨T, y1, y2, f1, f2, f3, f4, f5⟩ => ?_⟩, ⟨us', ws', sa', sb', by omega⟩⟩
            have g1 := f4 us' sa'
            have g2 := f5 ws' sb'
            rw [hv] at g1
            rw [hw] at g2
            cases g1
            cases g2
            exact ⟨T, f1, f2, f3⟩
          | false =>
            rw [hk] at sa sb go
            refine .inr ⟨sa, sb, w.now rs2 (itr_twoB fun m' S' H' x rs' c => ?_)⟩
            obtain ⟨us', ws', ra', rb', sa', sb'⟩ := go m' S' H' x rs' c
            refine ⟨us', ws', ra', rb', fun i v w hv hw => ⟨⟨us', ws', v, w, sa', sb', hv, hw⟩, fun y H'' ⟨T, y1, y2, f1, f2, f3, f4, f5⟩ => ?_⟩, ⟨us', ws', sa', sb', by omega⟩⟩
            have g1 := f4 us' sa'
            have g2 := f5 ws' sb'
            rw [hv] at g1
            rw [hw] at g2
            cases g1
            cases g2
            exact ⟨T, f1, f2, f3⟩
    | exc x S1 => rw [hh2] at w; exact w
    | err => rw [hh2] at w; exact w
  | exc x S1 => rw [hh] at w; exact w
  | err => rw [hh] at w; exact w
/-! isinstance(x, (T, ..)) -/
def tTys (ns : List String) : TA := fun _ H Q => Q (ns.map V.ty) H
theorem ty_nil : PA X [] (tTys []) := pa_nil
theorem ty_cons {n : String} {x : Str} {es : List Expr} {ns : List String} {p : Pos} (hm : X.mg x = none) (hv : bootBuiltins x = some (.type n)) (hr : PA X es (tTys ns)) (hg : Gl X x := by rfl) (hn : x ≠ "__name__" := by decide) (hd : (x == ("__debug__" : Str)) = false := by decide) : PA X (.Name x p :: es) (tTys (n :: ns)) :=
  PA.imp (pa_cons (pe_bltn (v := .ty n) hg hm hv rfl hn hd) hr (starEach_ok rfl)) fun σ H Q q => q
theorem isiT_any {K : PySem.W.Frag} {x : Iv.D} {t : String} (ht : tyOf S x = some t) : ∀ {ns : List String} {b : Bool}, isiT S x ns = some b → PySem.W.kitAny K (.type t) (ns.map Value.type) = some b
  | [], b, h => by cases h; rfl
  | n :: ns, b, h => by
    unfold isiT at h
    rw [ht] at h
    simp only [Option.bind_some] at h
    cases hk : kitB t n with
    | none => rw [hk] at h; cases h
    | some r =>
      rw [hk] at h
      rw [List.map_cons]
      cases r with
      | true =>
        cases h
        exact kitAny_cons (kit_ty hk) (fun z => by cases z) fun _ => rfl
      | false => exact kitAny_cons (kit_ty hk) (fun _ => isiT_any ht h) fun z => by cases z
theorem clsv_tys : ∀ ns : List String, Paired ClsV (ns.map V.ty) (ns.map Value.type)
  | [] => .nil
  | _ :: ns => .cons (.ty _) (clsv_tys ns)
theorem i_isit {e : Expr} {ie : E} {ts : List Expr} {ns : List String} {j : Nat} {p tp : Pos} (hm : X.mg "isinstance" = none) (he : PE X e (tE g W (ev F ie))) (ht : PA X ts (tTys ns)) (hne : ns ≠ []) (oke : okE e = true := by rfl) (hK : X.K = g.K := by rfl) (hg : Gl X "isinstance" := by rfl) :
    PE X (.Call (.Name "isinstance" p) [e, .Tuple ts j tp] [] pos) (tE g W (ev F (.isit ie ns))) := by
  refine PE.imp (pe_callB call_isiT hg hm (by decide +kernel) (pa_cons he (pa_cons (pe_tup ht) pa_nil (starEach_ok rfl)) (starEach_ok oke)) (by decide) (by decide) (starEach_ok oke) (by rw [starEach_ok rfl]; rfl)) fun σ H Q ⟨m, ρ, S, rs, er, w⟩ => ?_
  rw [ev] at w
  refine TI.step rs er w fun x H1 m1 S1 d x1 rs1 er1 r1 w => ?_
  split at w
  · rename_i b hb
    obtain ⟨c, w⟩ := w.ck
    refine ⟨by rw [List.length_map, sizeLine_eq]; omega, fun q hq => ?_⟩
    have rs2 := rs1.laid (o := .tup (ns.map V.ty)) hq
    have x2 : Ext m1 S1.length H1 m1 S1.length (upd H1 q (.tup (ns.map V.ty))) := Ext.laid rs1 hq
    have r2 := Rel.mono x2 _ _ r1
    cases hty : tyOf S1 d with
    | none =>
      cases ns with
      | nil => exact absurd rfl hne
      | cons n0 ns =>
        unfold isiT at hb
        rw [hty] at hb
        cases hb
    | some t =>
      refine ⟨x, q, _, _, _, b, rfl, upd_same, clsv_tys ns, by rw [hK]; exact ty_rel rs2 r2 hty, isiT_any hty hb, ?_⟩
      exact (w.from x2).now rs2 (by rw [rel_bl])
  · exact w.err
end
section
variable {g : Gs}
/-- as sig_dfl, with keyword-only defaults (ms: those that lack at this call) -/
theorem sig_kw0 {fa : Addr} {fd : FuncData} {ps ks : List Str} {n : Nat} {js : List Nat} {x qual : Str} {params : Arguments} {body : List Stmt} {scope : Scope} {kws : List (Str × V)} (dd : List Iv.D) (ms : List (Str × V)) (F : FunD g.K x qual params body scope [] kws fa fd) (hk : kws ≠ []) (hms : ∀ q ∈ ms, q ∈ kws) (hl : js.length = ps.length)
    (hj : ∀ j ∈ js, j < n + ks.length + dd.length) (hdd : ∀ m n H, Rels g m n H dd (ms.map (·.2)))
    (h : ∀ (D : Addr) (doc pm : Value) (an : Option Addr) (cdv ct : Value) (us mv ws : List Value), us.length = n → mv.length = ms.length → ws.length = ks.length →
      KwChain D ((ms.map (·.1)).zip mv) (bindArgs (PySem.W.fnOf x qual params body scope .none (.ref D) doc pm an cdv ct) ⟨us, ks.zip ws⟩) (ps.zip (gat js (us ++ ws ++ mv)))) : Sig g fd ps n ks (js.map (arOf (n + ks.length) dd)) := by
  obtain ⟨oc, od, dV, kV, doc, pm, an, cdv, ct, osl, rfl, lk, hcd, hD, hK⟩ := F.ex
  rcases hD with ⟨_, rfl⟩ | ⟨e, _⟩
  · rcases hK with e | ⟨D, rfl, hq⟩
    · exact absurd e hk
    · obtain ⟨mv, hlm, rk, hks⟩ := kwd_vals (ms := ms) fun q hm => hq q (hms q hm)
      refine ⟨fun us ws => gat js (us ++ ws ++ mv), fun vs zs => gat js (vs ++ zs ++ ms.map (·.2)), ⟨fun s us ws X l1 l2 => BindsTo.of_looks fun M => KwChain.looks X hks (h D doc pm an cdv ct us mv ws l1 hlm l2), fun r1 r2 => gat_vals ((r1.append r2).append rk) js⟩, fun m N H ds vs zs ps' r l1 l2 hp => ?_⟩
      have ln : ds.length = n + ks.length := by rw [r.length, List.length_append, l1, l2]
      obtain ⟨q1, q2⟩ := gat_rels (r.append (hdd m N H)) (pick_dfl ln (fun j hj' => hj j hj') hp)
      exact ⟨q1, q2.trans hl⟩
  · exact absurd rfl e
theorem sig_kw {fa : Addr} {fd : FuncData} {ps ks : List Str} {n : Nat} {js : List Nat} {x qual : Str} {params : Arguments} {body : List Stmt} {scope : Scope} {dvs : List V} {kws : List (Str × V)} (dd : List Iv.D) (ms : List (Str × V)) (F : FunD g.K x qual params body scope dvs kws fa fd) (hd : dvs ≠ []) (hk : kws ≠ []) (hms : ∀ q ∈ ms, q ∈ kws) (hl : js.length = ps.length)
    (hj : ∀ j ∈ js, j < n + ks.length + dd.length) (hdd : ∀ m n H, Rels g m n H dd (dvs ++ ms.map (·.2)))
    (h : ∀ (T D : Addr) (doc pm : Value) (an : Option Addr) (cdv ct : Value) (us its mv ws : List Value), us.length = n → its.length = dvs.length → mv.length = ms.length → ws.length = ks.length →
      ∃ k, bindArgs (PySem.W.fnOf x qual params body scope (.ref T) (.ref D) doc pm an cdv ct) ⟨us, ks.zip ws⟩ = seqItems? (.ref T) >>= k ∧ KwChain D ((ms.map (·.1)).zip mv) (k (some its.toArray)) (ps.zip (gat js (us ++ ws ++ (its ++ mv))))) : Sig g fd ps n ks (js.map (arOf (n + ks.length) dd)) := by
  obtain ⟨oc, od, dV, kV, doc, pm, an, cdv, ct, osl, rfl, lk, hcd, hD, hK⟩ := F.ex
  rcases hD with ⟨e, _⟩ | ⟨_, T, o, its, mm, rfl, lT, oT, rT⟩
  · exact absurd e hd
  · rcases hK with e | ⟨D, rfl, hq⟩
    · exact absurd e hk
    · obtain ⟨mv, hlm, rk, hks⟩ := kwd_vals (ms := ms) fun q hm => hq q (hms q hm)
      refine ⟨fun us ws => gat js (us ++ ws ++ (its ++ mv)), fun vs zs => gat js (vs ++ zs ++ (dvs ++ ms.map (·.2))), ⟨fun s us ws X l1 l2 => ?_, fun r1 r2 => gat_vals ((r1.append r2).append (rT.append rk)) js⟩, fun m N H ds vs zs ps' r l1 l2 hp => ?_⟩
      · obtain ⟨k, e1, e2⟩ := h T D doc pm an cdv ct us its mv ws l1 rT.length.symm hlm l2
        refine BindsTo.of_looks fun M => ?_
        rw [e1]
        exact looks_items X lT oT (KwChain.looks X hks e2)
      · have ln : ds.length = n + ks.length := by rw [r.length, List.length_append, l1, l2]
        obtain ⟨q1, q2⟩ := gat_rels (r.append (hdd m N H)) (pick_dfl ln (fun j hj' => hj j hj') hp)
        exact ⟨q1, q2.trans hl⟩
end
/-! classes -/
section
variable {g : Gs} {W : L2.WX} {X : Cx} {F : CE} {o : Expr} {es : List Expr} {kws : List Keyword} {io : E} {ies iks : List E} {ks : List Str} {x name : Str} {p pos apos : Pos}
theorem j_attr {e : Expr} {ie : E} {f : Nat} {nm : Str} (hf : g.fok f) (ha : PE X e (tE g W (ev F ie))) (hnm : g.fn f = nm := by rfl) (hK : X.K = g.K := by rfl) (ok : okE e = true := by rfl) : PE X (.Attribute e nm pos) (tE g W (ev F (.attr ie f))) := by
  subst hnm
  exact i_attr hK hf ok ha
theorem j_gattr {vs : List Nat} {f : Nat} {cs : List Nat} {nm : Str} (hf : g.fok f) (hcs : ∀ c ∈ cs, NoAttr g.K (g.ca c) (g.fn f)) (ho : PE X o (tE g W (ev F io))) (hnm : g.fn f = nm := by rfl) (hK : X.K = g.K := by rfl) : PG X (.Attribute o nm pos) (TGv g vs (asg F (.attr io f cs))) := by
  subst hnm
  exact g_attr hK hf hcs ho
theorem rel_tupK {m : Mp} {n : Nat} {H : Hp} {a : Addr} (h : ∀ H, SqT g.K H a []) : Rel g m n H (.tup []) (.ref a) := by
  rw [rel_tup]
  exact ⟨a, [], rfl, .inr (.inl h), Rels.nil⟩
theorem j_make {j k c f : Nat} {fa : Addr} {fr : Bool} {arr : List Ar} {sigs : List (Nat × List Str × List Ar)} (fo : Fo g X.prog X.w X.K X.mg X.base F k fa f sigs) (M : Mk g.K (g.ca c) fa) (cl : Cls g.K (g.ca c)) (hm : X.mg x = some (.ref (g.ca c))) (tk : Takes X W) (hr : Room j X.A) (ie : List E) (hie : ie = ies ++ iks) (ha : PA X es (tEs g W (evs F ies))) (hkw : PK X kws (tEs g W (evs F iks)))
    (hs : (ies.length + 1, ks, arr) ∈ sigs) (hK : X.K = g.K := by rfl) (hg : Gl X x := by rfl) (hj : k + 1 ≤ j := by omega) (hdb : (x == ("__debug__" : Str)) = false := by decide) (oks : okEs es = true := by rfl) (hks : kwsNames kws = some ks := by rfl) (hkl : iks.length = ks.length := by rfl) (hel : es.length = ies.length := by rfl) :
    PE X (.Call (.Name x p) es kws pos) (tE g W (ev F (.make fr c f arr ie))) := by
  subst hie
  obtain ⟨fd, ps, FO, sg, kp⟩ := fo.ex
  exact i_make hK M cl FO (hr.mono hj) hg hm (sg _ hs) tk hdb oks hks hkl hel ha hkw
theorem mok_of {j k c f n : Nat} {fa : Addr} {arr : List Ar} {sigs : List (Nat × List Str × List Ar)} (fo : Fo g X.prog X.w X.K X.mg X.base F k fa f sigs) (M : Meth g.K (g.ca c) name fa) (hr : Room j X.A) (hs : (n + 1, ks, arr) ∈ sigs) (hj : k ≤ j := by omega) : MOk g X F name c f n ks arr := by
  obtain ⟨fd, ps, FO, sg, kp⟩ := fo.ex
  exact ⟨k, fa, fd, ps, M, FO, hr.mono hj, sg _ hs⟩
theorem mok1 {c f n : Nat} {arr : List Ar} (h : MOk g X F name c f n ks arr) : ∀ c' f' arr', [(c, f, arr)].lookup c' = some (f', arr') → MOk g X F name c' f' n ks arr' := by
  intro c' f' arr' e
  rw [List.lookup_cons] at e
  by_cases hc : c' = c
  · subst hc
    rw [show (c' == c') = true from beq_self_eq_true c'] at e
    cases e
    exact h
  · rw [show (c' == c) = false from beq_eq_false_iff_ne.mpr hc] at e
    cases e
theorem j_meth {ms : List (Nat × Nat × List Ar)} (hms : ∀ c f arr, ms.lookup c = some (f, arr) → MOk g X F name c f ies.length ks arr) (tk : Takes X W) (ie : List E) (hie : ie = ies ++ iks) (ho : PE X o (tE g W (ev F io))) (ha : PA X es (tEs g W (evs F ies))) (hkw : PK X kws (tEs g W (evs F iks)))
    (hK : X.K = g.K := by rfl) (oko : okE o = true := by rfl) (oks : okEs es = true := by rfl) (hks : kwsNames kws = some ks := by rfl) (hkl : iks.length = ks.length := by rfl) (hel : es.length = ies.length := by rfl)
    (hn : es.length + kws.length < 28 := by decide) (hl : (apos.endLine == pos.line) = true := by rfl) : PE X (.Call (.Attribute o name apos) es kws pos) (tE g W (ev F (.meth io ms ie))) := by
  subst hie
  exact i_meth hK hms tk oko oks hks hkl hel hn hl ho ha hkw
end
end Iv
/-! ### the head, with one more Bool -/

/-! ### sum(lists, []) -/
namespace Iv
open PySem PySem.Spec PyProof.Rows L2
section
variable {prog : Program} {w : World} {A : Around} {E : Value → Shared → Prop} {s : Shared}
end
end Iv
namespace Iv
open PySem PySem.Spec PyProof.Rows L2
section
variable {g : Gs} {W : L2.WX} {X : Cx} {F : CE} {m : Mp} {n : Nat} {H : Hp} {S : Sto} {ρ : Env} {p pos apos : Pos} {e o : Expr} {es : List Expr} {ie io : E} {σ : L2.St}
/-! max(.., default=i) -/
end
end Iv
namespace Iv
open PySem PySem.Spec PyProof.Rows L2
section
variable {g : Gs} {W : L2.WX} {X : Cx} {F : CE} {m : Mp} {n : Nat} {H : Hp} {S : Sto} {ρ : Env} {p pos apos : Pos} {e o : Expr} {es : List Expr} {ie io : E} {σ : L2.St}
def rRemD (K : PySem.W.Frag) : V → List V → Hp → VK → Prop := fun x xs H Q => ∃ (l : Addr) (vs : List V) (y : V) (ds : List PyData) (d : PyData) (j : Nat), x = .ref l ∧ xs = [y] ∧ H l = some (.lst vs) ∧ DpAll K H vs ds ∧ Dp K H y d ∧ PyData.canLayAll0 ds = true ∧ d.canLay0 = true ∧
  d.depth ≤ 60 ∧ PySem.SeqAt.dataPlace ds d = some j ∧ Q .non (upd H l (.lst (vs.eraseIdx j)))
theorem mt_remD {k : Nat} (hr : Room k X.A) : MtR X "list.remove" (rRemD X.K) := by
  intro pins s σ H x xs v us Q I rx rxs h
  obtain ⟨l, vs, y, ds, d, j, rfl, rfl, hH, hds, hd, c1, c2, dp, hp, q⟩ := h
  cases rx
  obtain ⟨u, rfl, ru⟩ := rxs.one
  obtain ⟨z, its, n, r, hl, e⟩ := I.lstM hH
  obtain ⟨as, ra⟩ := Dp.readsAll I ds vs its hds r
  obtain ⟨bs, rb⟩ := Dp.reads I d y u hd ru
  refine PySem.SeqAt.remove_list_data (vs := its.toArray) (j := j) ⟨_, e, rfl, _, rfl⟩ ra rb (PyData.plainAll_of_canLay0 ds c1) (PyData.plain_of_canLay0 d c2) (by have := hr.un; have := Nat.min_le_right (PyData.depthAll ds) d.depth; omega) hp (by rw [List.size_toArray]; omega) ?_
  refine ⟨.non, _, I.lset (f := fun ys => ys.eraseIdxIfInBounds j) (its' := its.eraseIdx j) (t' := s.toks) hH e ?_ (r.eraseIdx j) (by rw [List.length_eraseIdx]; split <;> omega), rfl, q⟩
  rw [List.eraseIdxIfInBounds_toArray]
theorem place_py {y : Iv.D} (hy : y.fz = true) : ∀ xs : List Iv.D, D.fzs xs = true → PySem.SeqAt.dataPlace (D.pys xs) y.py = xs.findIdx? fun z => z.eqv y
  | [], _ => by rw [D.pys]; rfl
  | x :: xs, h => by
    simp only [D.fzs, Bool.and_eq_true] at h
    have ih := place_py hy xs h.2
    unfold PySem.SeqAt.dataPlace at ih ⊢
    rw [D.pys, List.findIdx?_cons, List.findIdx?_cons, py_eqv x y h.1 hy, ih]
theorem Rels.eraseIdx {xs : List Iv.D} {vs : List V} (r : Rels g m n H xs vs) (j : Nat) : Rels g m n H (xs.eraseIdx j) (vs.eraseIdx j) := by
  rw [List.eraseIdx_eq_take_drop_succ, List.eraseIdx_eq_take_drop_succ]
  exact (r.take j).append (r.drop (j + 1))
theorem mt_remove' {k : Nat} (hr : Room k X.A) (hK : X.K = g.K) : MtR X "list.remove" (rm g .remove) := by
  refine MtR.imp (mt_remD hr) fun v xs H Q ⟨m, S, d, ds, W, rs, r, rx, w⟩ => ?_
  replace w : WP g W (Rel g) m S.length H (bmRemove S d ds) Q := w
  unfold bmRemove at w
  split at w
  · rename_i y
    split at w
    · split at w
      · rename_i ys hz
        split at w
        · rename_i j hj
          obtain ⟨⟨c1, c2, c3, c4, c5⟩, w⟩ := w.ck
          obtain ⟨u, rfl, ru⟩ := rx.one
          obtain ⟨a, rfl, k, vs, hv, rv⟩ := r.box rs hz
          obtain ⟨p1, p2⟩ := pys_lay ys vs c1 rv
          obtain ⟨p3, p4⟩ := py_lay y u c2 ru
          rw [hK]
          refine ⟨a, vs, u, D.pys ys, y.py, j, rfl, rfl, hv, p2, p4, p1, p3, by rw [py_depth y c2]; exact c4, (place_py c2 ys c1).trans hj, box_set rs k w ⟨_, upd_same, Rels.mono (Ext.set rs k) _ _ (rv.eraseIdx j)⟩⟩
        · exact w.err
      · exact w.err
    · exact w.err
  · exact w.err
/-! a, b, *rest = .. -/
section
variable {prog : Program} {w : World} {A : Around} {E : Value → Shared → Prop} {s : Shared}
end
/-! xs[a:b] = ys -/
end
end Iv

/-! ### comprehensions over two walks; str.index; enumerate(start=) -/
namespace Iv
open PySem PySem.Spec PyProof.Rows L2
section
variable {g : Gs} {W : L2.WX} {X : Cx} {F : CE} {m m' : Mp} {n : Nat} {H H' : Hp} {S S' : Sto} {σ : L2.St} {ρ : Env} {pos : Pos}
theorem ExtW.refl : ExtW m n H m n H := (Ext.refl (m := m) (n := n) (H := H)).w
theorem ExtW.trans {m1 m2 m3 : Mp} {n1 n2 n3 : Nat} {H1 H2 H3 : Hp} (x : ExtW m1 n1 H1 m2 n2 H2) (y : ExtW m2 n2 H2 m3 n3 H3) : ExtW m1 n1 H1 m3 n3 H3 :=
  ⟨Nat.le_trans x.le y.le, fun i a l e => x.old i a l (y.old i a (Nat.lt_of_lt_of_le l x.le) e), fun a o e f => let ⟨e', f'⟩ := x.keep a o e f; y.keep a o e' f'⟩
theorem EnvR.monoW {m1 : Mp} {n1 : Nat} {H1 : Hp} (x : ExtW m n H m1 n1 H1) (h : EnvR g m n H ρ σ) : EnvR g m1 n1 H1 ρ σ := ⟨h.1, fun i d e => let ⟨v, e1, r⟩ := h.2 i d e; ⟨v, e1, Rel.monoW x d v r⟩⟩
variable {own own1 : List Nat} {t t1 : Tg} {it it1 : Iv.It} {iifs iifs1 : List E} {ie : E} {box : Bool}
noncomputable abbrev lcStepB (F : CE) (own own1 : List Nat) (t : Tg) (iifs : List E) (t1 : Tg) (it1 : Iv.It) (iifs1 : List E) (ie : E) (ρ : Env) : Iv.D → Sto → R (List Iv.D) := fun d S => (asg F t d (wipeE ρ own) S).bind fun ρ1 S => (evIfs F iifs ρ1 S).bind fun k S => if k = true then
        (evIt F it1 ρ1 S).bind fun w1 S => lcLoop w1.1 (lcStep F own1 t1 iifs1 ie ρ1) w1.2 S
        else .ok [] S
theorem lc2_body {Q : VK} (rs : RS g m S H) (er : EnvR g m S.length H ρ σ) (w : WP g (fun c d H' => W c d σ H') (Rel g) m S.length H (ev F (.lc2 box own own1 t it iifs t1 it1 iifs1 ie) ρ S) Q) :
    tLc2 (tI g W (evIt F it)) (TGv g own (asg F t)) (tT g noX (evIfs F iifs)) (tI g noX (evIt F it1)) (TGv g own1 (asg F t1)) (tT g noX (evIfs F iifs1)) (tE g noX (ev F ie)) own own1 σ H Q := by
  rw [ev] at w
  refine TI.step (Ra := ItR g) rs er w fun J H1 m1 S1 ⟨src, items⟩ x1 rs1 er1 it1' w => ?_
  intro D hD
  dsimp only at w
  rcases lcLoop_form (src := src) (step := lcStepB F own own1 t iifs t1 it1 iifs1 ie ρ) (items := items) (S := S1) with ⟨ys, Sf, hL⟩ | hL
  · rw [hL] at w
    obtain ⟨hy, w⟩ := (show WP g _ (Rel g) m1 S1.length H1 (ck (ys.length ≤ sizeLine) (mkL box ys Sf)) Q from w).ck
    have n1 : ¬ m1.hid D := (Off.free rs1 hD).2
    refine ⟨fun i μ H' => μ = items.length - i ∧ i ≤ items.length ∧ ∃ m' S' acc vs rest, Ext m1 S1.length H1 m' (List.length S') H' ∧ m'.hid D ∧ RS g m' S' H' ∧ H' D = some (.lst vs) ∧ Rels g m' S'.length H' acc vs ∧ lcLoop src (lcStepB F own own1 t iifs t1 it1 iifs1 ie ρ) (items.drop i) S' = .ok rest Sf ∧ acc ++ rest = ys,
      ⟨_, rfl, Nat.zero_le _, mHide m1 D, S1, [], [], ys, Ext.hide rs1 hD, .inr rfl, rs1.hide hD, upd_same, Rels.nil, by rw [List.drop_zero]; exact hL, rfl⟩, ?_⟩
    rintro i μ H' ⟨rfl, hi, m', S', acc, vs, rest, x', hd', rs', e', ra, hl, hs⟩
    cases hdr : items.drop i with
    | nil =>
      have e : i = items.length := by
        have := List.drop_eq_nil_iff.mp hdr
        omega
      rw [hdr] at hl
      obtain ⟨c, rfl, rfl⟩ := lcLoop_nil hl
      rw [List.append_nil] at hs
      subst hs
      obtain ⟨_, st⟩ := it1' m' _ H' x'.w x'.fz rs' c
      exact .inl ⟨by rw [e]; exact st, lc_end rs1 hD x' hd' rs' e' ra w⟩
    | cons d ds =>
      rw [hdr] at hl
      obtain ⟨c, xs, S2, r2, hstep, hl2, rfl⟩ := lcLoop_cons hl
      obtain ⟨hlt, hget, hds⟩ := drop_cons hdr
      obtain ⟨g1, g2⟩ := (it1' m' S' H' x'.w x'.fz rs' c).1 i d hget
      refine .inr ⟨g1, _, fun H2 h2 => ⟨items.length - (i + 1), by omega, h2⟩, fun v H'' yv => ?_⟩
      obtain ⟨rs'', x'', rx⟩ := g2 v H'' yv
      have x3 := x'.trans x''
      have e3 : H'' D = some (.lst vs) := (x''.hid D hd').2.trans e'
      have ra3 := Rels.mono x'' _ _ ra
      refine ⟨m', wipeE ρ own, S', d, rs'', (er1.mono x3).wiped own, rx, ?_⟩
      obtain ⟨ρ1, Sa, ha, hstep⟩ := bind_ok hstep
      rw [ha]
      intro m4 H4 σ4 x4 rs4 ⟨er4, k4⟩
      refine ⟨k4.wiped, m4, ρ1, Sa, rs4, er4, ?_⟩
      obtain ⟨k, Sb, hk, hstep⟩ := bind_ok hstep
      rw [hk]
      intro m5 H5 b x5 rs5 rb
      cases rb
      have x5' := (x3.trans x4).trans x5
      have e5 : H5 D = some (.lst vs) := (((x4.trans x5).hid D (x''.hid D hd').1).2).trans e3
      have hd5 : m5.hid D := ((x4.trans x5).hid D (x''.hid D hd').1).1
      have ra5 := Rels.mono (x4.trans x5) _ _ ra3
      cases k with
      | false =>
        rw [if_neg Bool.false_ne_true] at hstep ⊢
        injection hstep with q1 q2
        subst q1 q2
        exact ⟨rfl, hlt, m5, Sb, acc, vs, r2, x5', hd5, rs5, e5, ra5, by rw [hds]; exact hl2, by rw [← hs]; rfl⟩
      | true =>
        rw [if_pos rfl] at hstep ⊢
        obtain ⟨⟨src1, items1⟩, Sc, hit, hstep⟩ := bind_ok hstep
        dsimp only at hstep
        refine ⟨m5, ρ1, Sb, rs5, er4.mono x5, ?_⟩
        rw [hit]
        intro m6 H6 J1 x6 rs6 it6
        have e6 : H6 D = some (.lst vs) := (x6.hid D hd5).2.trans e5
        have hd6 : m6.hid D := (x6.hid D hd5).1
        have er6 := (er4.mono x5).mono x6
        refine ⟨fun j μ H' => μ = items1.length - j ∧ j ≤ items1.length ∧ ∃ m' S' acc' vs' rest', ExtW m6 Sc.length H6 m' (List.length S') H' ∧ Fz H6 H' ∧ Ext m1 S1.length H1 m' (List.length S') H' ∧ m'.hid D ∧ RS g m' S' H' ∧ H' D = some (.lst vs') ∧ Rels g m' S'.length H' acc' vs' ∧ lcLoop src1 (lcStep F own1 t1 iifs1 ie ρ1) (items1.drop j) S' = .ok rest' S2 ∧ acc' ++ rest' = acc ++ xs,
          ⟨_, rfl, Nat.zero_le _, m6, Sc, acc, vs, xs, ExtW.refl, (fun _ _ _ e => e), x5'.trans x6, hd6, rs6, e6, Rels.mono x6 _ _ ra5, by rw [List.drop_zero]; exact hstep, rfl⟩, ?_⟩
        rintro j μ H7 ⟨rfl, hj, m7, S7, acc7, vs7, rest7, xw7, fz7, x7, hd7, rs7, e7, ra7, hl7, hs7⟩
        cases hdr1 : items1.drop j with
        | nil =>
          have e : j = items1.length := by
            have := List.drop_eq_nil_iff.mp hdr1
            omega
          rw [hdr1] at hl7
          obtain ⟨c7, rfl, rfl⟩ := lcLoop_nil hl7
          rw [List.append_nil] at hs7
          obtain ⟨_, st⟩ := it6 m7 _ H7 xw7 fz7 rs7 c7
          exact .inl ⟨by rw [e]; exact st, rfl, hlt, m7, _, acc7, vs7, r2, x7, hd7, rs7, e7, ra7, by rw [hds]; exact hl2, by rw [hs7, List.append_assoc]; exact hs⟩
        | cons d1 ds1 =>
          rw [hdr1] at hl7
          obtain ⟨c7, ys1, S8, r3, hstep1, hl8, rfl⟩ := lcLoop_cons hl7
          obtain ⟨hlt1, hget1, hds1⟩ := drop_cons hdr1
          obtain ⟨g3, g4⟩ := (it6 m7 S7 H7 xw7 fz7 rs7 c7).1 j d1 hget1
          refine .inr ⟨g3, _, fun H2 h2 => ⟨items1.length - (j + 1), by omega, h2⟩, fun v1 H8 yv1 => ?_⟩
          obtain ⟨rs8, x8, rx1⟩ := g4 v1 H8 yv1
          have e8 : H8 D = some (.lst vs7) := (x8.hid D hd7).2.trans e7
          have hd8 : m7.hid D := hd7
          have ra8 := Rels.mono x8 _ _ ra7
          have xw8 := xw7.trans x8.w
          have x18 := x7.trans x8
          refine ⟨m7, wipeE ρ1 own1, S7, d1, rs8, (EnvR.monoW xw8 er6).wiped own1, rx1, ?_⟩
          obtain ⟨ρ2, Sd, ha1, hstep1⟩ := bind_ok hstep1
          rw [ha1]
          intro m9 H9 σ9 x9 rs9 ⟨er9, k9⟩
          refine ⟨k9.wiped, m9, ρ2, Sd, rs9, er9, ?_⟩
          obtain ⟨k', Se, hk1, hstep1⟩ := bind_ok hstep1
          rw [hk1]
          intro mA HA b1 xA rsA rbA
          cases rbA
          have x1A := (x18.trans x9).trans xA
          have xwA := xw8.trans ((x9.trans xA).w)
          have fzA : Fz H6 HA := fun a o u e => xA.fz _ _ _ (x9.fz _ _ _ (x8.fz _ _ _ (fz7 _ _ _ e)))
          have eA : HA D = some (.lst vs7) := (((x9.trans xA).hid D hd8).2).trans e8
          have hdA : mA.hid D := ((x9.trans xA).hid D hd8).1
          have raA := Rels.mono (x9.trans xA) _ _ ra8
          cases k' with
          | false =>
            rw [if_neg Bool.false_ne_true] at hstep1 ⊢
            injection hstep1 with q1 q2
            subst q1 q2
            exact ⟨rfl, hlt1, mA, Se, acc7, vs7, r3, xwA, fzA, x1A, hdA, rsA, eA, raA, by rw [hds1]; exact hl8, by rw [← hs7]; rfl⟩
          | true =>
            rw [if_pos rfl] at hstep1 ⊢
            refine ⟨mA, ρ2, Se, rsA, er9.mono xA, ?_⟩
            obtain ⟨y, Sg, hyv, hstep1⟩ := bind_ok hstep1
            injection hstep1 with q1 q2
            subst q1 q2
            rw [hyv]
            intro mB HB yv xB rsB rB
            have eB : HB D = some (.lst vs7) := (xB.hid D hdA).2.trans eA
            have hdB : mB.hid D := (xB.hid D hdA).1
            have hlen : vs7.length < sizeLine := by
              rw [← ra7.length]
              have l1 : (acc7 ++ ([y] ++ r3)).length = (acc ++ xs).length := by rw [hs7]
              have l2 : (acc ++ (xs ++ r2)).length ≤ sizeLine := by rw [hs]; exact hy
              simp only [List.length_append, List.length_cons, List.length_nil] at l1 l2
              omega
            refine ⟨vs7, eB, hlen, rfl, hlt1, mB, Sg, acc7 ++ [y], vs7 ++ [yv], r3, (xwA.trans xB.w).trans (ExtW.own hdB), (fun a o u e => Fz.upd (NoFz.of eB (fun _ _ z => nomatch z)) a o u (xB.fz _ _ _ (fzA a o u e))), (x1A.trans xB).own hD n1, hdB, rsB.own hdB, upd_same, Rels.append (Rels.monoW (ExtW.own hdB) _ _ (Rels.mono xB _ _ raA)) (Rels.cons (Rel.monoW (ExtW.own hdB) _ _ rB) Rels.nil), by rw [hds1]; exact hl8, by rw [← hs7, List.append_assoc]⟩
  · rw [hL] at w
    exact w.err
theorem i_lc2 {elt tg iter tg1 iter1 : Expr} {ifs ifs1 : List Expr} {scope : Scope} {own : List (Str × Nat)} (hc : X.calm = true) (hN : X.N.Nodup) (oki : okE iter = true) (oki1 : okE iter1 = true) (hi : PI X tg iter (tI g W (evIt F it))) (ok : BlkOk X.N X.env.scope scope own) (hv : ∀ i ∈ own1, i ∈ own.map (·.2))
    (hg : ∀ (s : Shared) (H : Hp) (C : Addr) (cl : List (Str × Addr)) (fp : List Addr), PG (X.blk s H scope (compEnvC scope cl C X.env) fp) tg (TGv g (own.map (·.2)) (asg F t)))
    (ht : ∀ (s : Shared) (H : Hp) (C : Addr) (cl : List (Str × Addr)) (fp : List Addr), PTs (X.blk s H scope (compEnvC scope cl C X.env) fp) ifs (tT g noX (evIfs F iifs)))
    (hi1 : ∀ (s : Shared) (H : Hp) (C : Addr) (cl : List (Str × Addr)) (fp : List Addr), PI (X.blk s H scope (compEnvC scope cl C X.env) fp) tg1 iter1 (tI g noX (evIt F it1)))
    (hg1 : ∀ (s : Shared) (H : Hp) (C : Addr) (cl : List (Str × Addr)) (fp : List Addr), PG (X.blk s H scope (compEnvC scope cl C X.env) fp) tg1 (TGv g own1 (asg F t1)))
    (ht1 : ∀ (s : Shared) (H : Hp) (C : Addr) (cl : List (Str × Addr)) (fp : List Addr), PTs (X.blk s H scope (compEnvC scope cl C X.env) fp) ifs1 (tT g noX (evIfs F iifs1)))
    (he : ∀ (s : Shared) (H : Hp) (C : Addr) (cl : List (Str × Addr)) (fp : List Addr), PE (X.blk s H scope (compEnvC scope cl C X.env) fp) elt (tE g noX (ev F ie))) :
    PE X (.ListComp elt [⟨tg, iter, ifs, 0⟩, ⟨tg1, iter1, ifs1, 0⟩] scope pos) (tE g W (ev F (.lc2 box (own.map (·.2)) own1 t it iifs t1 it1 iifs1 ie))) :=
  PE.imp (pe_lc2 hc hN hi ok hv hg ht hi1 hg1 ht1 he (folded_ok oki) (fun _ => folded_ok oki1)) fun σ H Q ⟨m, ρ, S, rs, er, w⟩ => lc2_body rs er w
/-! str.index -/
end
end Iv

/-! ### enumerate(list, start=c) -/
namespace We
open PySem PySem.Spec PyProof.Rows L2
end We
namespace Iv
open PySem PySem.Spec PyProof.Rows L2
section
variable {g : Gs} {W : L2.WX} {X : Cx} {F : CE} {m : Mp} {n : Nat} {H : Hp} {S : Sto} {σ : L2.St} {ρ : Env} {pos : Pos} {a : Addr} {xs : List Iv.D} {src : Src}
end
end Iv

/-! ### str(list), str(tuple) where no repr is under way; the law's own call -/
namespace Wg
open PySem PySem.Spec PyProof.Rows L2
/-- the law's own promise: told where no repr is under way -/
structure FnG (P : Program) (w : World) (K : PySem.W.Frag) (mg : Str → Option Value) (base : Heap) (CX : CXT) (k : Nat) (f : Addr) (fd : FuncData) (ps : List Str) (sp : Sp) : Prop where
  run : ∀ (A : Around) (outer : List Env) (s : Shared) (H : Hp) (args : Args) (us : List Value) (vs : List V) (Q : VK) (E : XK), A.guards = some [] → Room k A → Env0 P w K mg base A outer s H → BindsTo s fd args (ps.zip us) → Vals vs us → sp vs H Q E →
    codeAny (model P w) A (.call (.ref f) args) (CR CX outer P w H s Q E) s
/-- the abstract heap at the law's call: the script, where it is no object of the module -/
def hp0 (K : PySem.W.Frag) (a : Addr) (vs : List Value) (ns : List Int) : Hp := fun b => if b = a ∧ K.lookup a = none then some (.frz { cls := .type "list", data := .seq vs.toArray } (.lst (ns.map V.int))) else none
end Wg
namespace Iv
open PySem PySem.Spec PyProof.Rows L2
section
variable {g : Gs} {W : L2.WX} {X : Cx} {F : CE} {m : Mp} {H : Hp} {S : Sto} {ρ : Env} {p pos : Pos} {e : Expr} {ie : E} {σ : L2.St} {d : Iv.D} {v : V}
end
section
variable {P : Program} {w : World} {K : PySem.W.Frag} {mg : Str → Option Value} {base : Heap} {g : Gs} {T : List Fn}
end
end Iv

/-! ### dicts whose keys are ints and texts -/
namespace Iv
open PySem PySem.Spec PyProof.Rows L2
section
variable {g : Gs} {W : L2.WX} {X : Cx} {F : CE} {m m1 m2 : Mp} {n n1 n2 : Nat} {H H1 H2 : Hp} {S S' : Sto} {σ : L2.St} {ρ : Env} {pos : Pos} {k : Key} {d : Iv.D} {v : V} {ds : List (Key × Iv.D)} {ws : List (Key × V)}
theorem key_rel (e : keyD d = some k) (r : Rel g m n H d v) : v = kV k ∧ okKey k := by
  cases d with
  | int i => cases e; rw [rel_int] at r; exact ⟨r, trivial⟩
  | str x => cases e; rw [rel_str] at r; exact ⟨r.1, r.2⟩
  | _ => cases e
theorem key_back (ok : okKey k) : Rel g m n H (keyV k) (kV k) := by
  cases k with
  | inl i => show Rel g m n H (.int i) (.int i); rw [rel_int]
  | inr x => show Rel g m n H (.str x) (.str x); rw [rel_str]; exact ⟨rfl, ok⟩
theorem relKs_get : ∀ {ds : List (Key × Iv.D)} {ws : List (Key × V)}, RelKs g m n H ds ws → (∀ d, dGet ds k = some d → ∃ v, valV ws k = some v ∧ Rel g m n H d v) ∧ (dGet ds k = none → valV ws k = none)
  | [], ws, h => by
    have h : ws = [] := h
    subst h
    exact ⟨fun d e => (nomatch e), fun _ => rfl⟩
  | (k', d') :: r, ws, h => by
    obtain ⟨v', gr, rfl, ok, q, q2⟩ := h
    have ih := relKs_get q2
    by_cases e : k' = k
    · have e1 : dGet ((k', d') :: r) k = some d' := by unfold dGet; rw [List.find?_cons_of_pos (by simpa using e)]; rfl
      rw [e1, valV_pos (p := (k', v')) e]
      exact ⟨fun d ed => ⟨v', rfl, by cases ed; exact q⟩, fun z => (nomatch z)⟩
    · have e1 : dGet ((k', d') :: r) k = dGet r k := by unfold dGet; rw [List.find?_cons_of_neg (by simpa using e)]
      rw [e1, valV_neg (p := (k', v')) e]
      exact ih
theorem relKs_len : ∀ {ds : List (Key × Iv.D)} {ws : List (Key × V)}, RelKs g m n H ds ws → ds.length = ws.length ∧ ds.map (·.1) = ws.map (·.1)
  | [], ws, h => by
    have h : ws = [] := h
    subst h
    exact ⟨rfl, rfl⟩
  | (k', d') :: r, ws, h => by
    obtain ⟨v', gr, rfl, ok, q, q2⟩ := h
    obtain ⟨a, b⟩ := relKs_len q2
    exact ⟨by rw [List.length_cons, List.length_cons, a], by rw [List.map_cons, List.map_cons, b]⟩
theorem relKs_any : ∀ {ds : List (Key × Iv.D)} {ws : List (Key × V)}, RelKs g m n H ds ws → (ds.any fun kv => decide (kv.1 = k)) = (ws.any fun kv => decide (kv.1 = k))
  | [], ws, h => by
    have h : ws = [] := h
    subst h
    rfl
  | (k', d') :: r, ws, h => by
    obtain ⟨v', gr, rfl, ok, q, q2⟩ := h
    rw [List.any_cons, List.any_cons, relKs_any q2]
theorem relKs_app : ∀ {ds es : List (Key × Iv.D)} {ws vs : List (Key × V)}, RelKs g m n H ds ws → RelKs g m n H es vs → RelKs g m n H (ds ++ es) (ws ++ vs)
  | [], _, ws, _, h, q => by
    have h : ws = [] := h
    subst h
    exact q
  | (k', d') :: r, _, ws, _, h, q => by
    obtain ⟨v', gr, rfl, ok, q1, q2⟩ := h
    exact ⟨v', _, rfl, ok, q1, relKs_app q2 q⟩
theorem relKs_repl (rd : Rel g m n H d v) : ∀ {ds : List (Key × Iv.D)} {ws : List (Key × V)}, RelKs g m n H ds ws → RelKs g m n H (ds.map fun kv => if kv.1 = k then (kv.1, d) else kv) (ws.map fun kv => if kv.1 = k then (kv.1, v) else kv)
  | [], ws, h => by
    have h : ws = [] := h
    subst h
    rfl
  | (k', d') :: r, ws, h => by
    obtain ⟨v', gr, rfl, ok, q, q2⟩ := h
    have ih := relKs_repl rd q2
    rw [List.map_cons, List.map_cons]
    by_cases e : k' = k
    · rw [if_pos e, if_pos e]
      exact ⟨v, _, rfl, ok, rd, ih⟩
    · rw [if_neg e, if_neg e]
      exact ⟨v', _, rfl, ok, q, ih⟩
theorem relKs_put (ok : okKey k) (rd : Rel g m n H d v) (h : RelKs g m n H ds ws) : RelKs g m n H (dPut ds k d) (putK ws k v) := by
  unfold dPut putK
  rw [relKs_any h]
  split
  · exact relKs_repl rd h
  · exact relKs_app h ⟨v, [], rfl, ok, rd, rfl⟩
theorem relKs_drop : ∀ {ds : List (Key × Iv.D)} {ws : List (Key × V)}, RelKs g m n H ds ws → RelKs g m n H (dDrop ds k) (dropK ws k)
  | [], ws, h => by
    have h : ws = [] := h
    subst h
    rfl
  | (k', d') :: r, ws, h => by
    obtain ⟨v', gr, rfl, ok, q, q2⟩ := h
    have ih : RelKs g m n H (dDrop r k) (dropK gr k) := relKs_drop q2
    unfold dDrop dropK at ih ⊢
    rw [List.filter_cons, List.filter_cons]
    by_cases e : k' = k
    · rw [if_neg (by simpa using e), if_neg (by simpa using e)]
      exact ih
    · rw [if_pos (by simpa using e), if_pos (by simpa using e)]
      exact ⟨v', _, rfl, ok, q, ih⟩
theorem dct_at {p : Nat × List (Key × Iv.D)} (rs : RS g m S H) (r : Rel g m S.length H d v) (e : dctOf S d = some p) : d = .ref p.1 ∧ cellAt S p.1 = some (.dct p.2) ∧ ∃ a kws, v = .ref a ∧ m p.1 = some a ∧ H a = some (.dK kws) ∧ RelKs g m S.length H p.2 kws := by
  cases d with
  | ref i =>
    have e' : (match cellAt S i with | some (.dct kvs) => some (i, kvs) | _ => none) = some p := e
    split at e'
    · rename_i kvs hz
      cases e'
      obtain ⟨a, rfl, k, kws, hk, q⟩ := r.box rs hz
      exact ⟨rfl, hz, a, kws, rfl, k, hk, q⟩
    · cases e'
  | _ => cases e
theorem drd_at {p : List (Key × Iv.D)} (rs : RS g m S H) (r : Rel g m S.length H d v) (e : drdOf S d = some p) : ∃ a kws, v = .ref a ∧ Rd H a (.dK kws) ∧ RelKs g m S.length H p kws := by
  cases d with
  | ref i =>
    have e' : (match cellAt S i with | some (.dct kvs) => some kvs | some (.dlk kvs) => some kvs | _ => none) = some p := e
    split at e'
    · rename_i kvs hz
      cases e'
      obtain ⟨a, rfl, k, kws, hk, q⟩ := r.box rs hz
      exact ⟨a, kws, rfl, .inl hk, q⟩
    · rename_i kvs hz
      cases e'
      obtain ⟨a, rfl, k, o, kws, hk, q⟩ := r.box rs hz
      exact ⟨a, kws, rfl, .inr ⟨o, hk⟩, q⟩
    · cases e'
  | _ => cases e
theorem DGet.rd {a : Addr} {kws : List (Key × V)} (e : Rd H a (.dK kws)) : DGet H a (kV k) (valV kws k) := .inl ⟨kws, k, e, rfl, rfl⟩
theorem dlk_at {p : Nat × List (Key × Iv.D)} (rs : RS g m S H) (r : Rel g m S.length H d v) (e : dlkOf S d = some p) : ∃ a o kws, v = .ref a ∧ H a = some (.frz o (.dK kws)) ∧ RelKs g m S.length H p.2 kws := by
  cases d with
  | ref i =>
    have e' : (match cellAt S i with | some (.dlk kvs) => some (i, kvs) | _ => none) = some p := e
    split at e'
    · rename_i kvs hz
      cases e'
      obtain ⟨a, rfl, k, o, kws, hk, q⟩ := r.box rs hz
      exact ⟨a, o, kws, rfl, hk, q⟩
    · cases e'
  | _ => cases e
theorem dct_is {p : Nat × List (Key × Iv.D)} (rs : RS g m S H) (r : Rel g m S.length H d v) (e : dctOf S d = some p) : ∃ a, v = .ref a ∧ IsD H a := by
  obtain ⟨_, _, a, kws, rfl, _, hk, _⟩ := dct_at rs r e
  exact ⟨a, rfl, .inl ⟨kws, .inl hk⟩⟩
theorem i_dnew : PE X (.Dict [] [] pos) (tE g W (ev F .dnew)) := by
  refine PE.imp pe_dnewK fun σ H Q ⟨m, ρ, S, rs, er, w⟩ => ?_
  rw [ev] at w
  intro p hp
  have ln : (S ++ [some (Cell.dct [])]).length = S.length + 1 := by rw [List.length_append, List.length_singleton]
  have hc : CellR g (mNew m S.length p) (S.length + 1) (upd H p (.dK [])) p (.dct []) := ⟨[], upd_same, rfl⟩
  refine w (mNew m S.length p) _ (.ref p) (by rw [ln]; exact Ext.new rs hp) (rs.new hp hc) ?_
  rw [rel_ref, ln]
  exact ⟨Nat.lt_succ_self _, p, rfl, fun b hb => by rw [mNew_same] at hb; cases hb; rfl⟩
theorem noSl_ok {i : Expr} (h : okE i = true) : NoSl i := by
  intro ov iv
  cases i <;> first | rfl | (exact absurd h Bool.false_ne_true)
theorem i_didx {o i : Expr} {io ii : E} {kk : Nat} (hr : Room kk X.A) (ok : okE i = true) (ho : PE X o (tE g W (ev F io))) (hi : PE X i (tE g W (ev F ii))) : PE X (.Subscript o i pos) (tE g W (ev F (.didx io ii))) := by
  refine PE.imp (pe_dget (by have := hr.un; omega) ho hi (noSl_ok ok)) fun σ H Q ⟨m, ρ, S, rs, er, w⟩ => ?_
  rw [ev] at w
  refine TI.step (Ra := Rel g) rs er w fun x H1 m1 S1 dx x1 rs1 er1 r1 w => ?_
  refine TI.step (Ra := Rel g) rs1 er1 w fun y H2 m2 S2 dy x2 rs2 er2 r2 w => ?_
  unfold didxR at w
  split at w
  · rename_i p k hp hk
    split at w
    · rename_i d' hd
      obtain ⟨a, kws, rfl, hka, q⟩ := drd_at rs2 (Rel.mono x2 _ _ r1) hp
      obtain ⟨rfl, _⟩ := key_rel hk r2
      obtain ⟨v', hv, rv⟩ := (relKs_get q).1 d' hd
      exact ⟨a, v', rfl, by rw [← hv]; exact DGet.rd hka, w.now rs2 rv⟩
    · exact w.err
  · exact w.err
theorem i_dpop {o e : Expr} {io ie : E} {apos cpos : Pos} (ho : PE X o (tE g W (ev F io))) (he : PE X e (tE g W (ev F ie))) (M : M1 X o "pop" apos e cpos) : PE X (.Call (.Attribute o "pop" apos) [e] [] cpos) (tE g W (ev F (.dpop io ie))) := by
  refine PE.imp (pe_dpop1 ho he M) fun σ H Q ⟨m, ρ, S, rs, er, w⟩ => ?_
  rw [ev] at w
  refine TI.step (Ra := Rel g) rs er w fun x H1 m1 S1 dx x1 rs1 er1 r1 w => ?_
  obtain ⟨c, w⟩ := w.ck
  obtain ⟨p0, hp0⟩ := Option.isSome_iff_exists.mp c
  obtain ⟨a, rfl, isd⟩ := dct_is rs1 r1 hp0
  refine ⟨a, rfl, isd, ?_⟩
  refine TI.step (Ra := Rel g) rs1 er1 w fun y H2 m2 S2 dy x2 rs2 er2 r2 w => ?_
  unfold dpopR at w
  split at w
  · rename_i p k hp hk
    split at w
    · rename_i d' hd
      obtain ⟨_, hz, a', kws, ea, hm, hka, q⟩ := dct_at rs2 (Rel.mono x2 _ _ r1) hp
      cases ea
      obtain ⟨rfl, _⟩ := key_rel hk r2
      obtain ⟨v', hv, rv⟩ := (relKs_get q).1 d' hd
      have xs' := Ext.set (n := S2.length) (o := .dK (dropK kws k)) rs2 hm
      have ln : (setAt S2 p.1 (.dct (dDrop p.2 k))).length = S2.length := by unfold setAt; rw [List.length_set]
      refine ⟨kws, k, v', hka, rfl, hv, w m2 _ _ (by rw [ln]; exact xs') (rs2.set hm ⟨_, upd_same, RelKs.monoW xs'.w (relKs_drop q)⟩) ?_⟩
      rw [ln]
      exact Rel.mono xs' _ _ rv
    · exact w.err
  · exact w.err
theorem set_dict {k : Nat} (hr : Room k X.A) : PSet X (fun x y v H Q => ∃ a H', x = .ref a ∧ DPut H a y v H' ∧ Q H') := by
  intro pins s σ H o i v ov iv u Q I ro ri rv h
  obtain ⟨a, H', rfl, dp, q⟩ := h
  cases ro
  exact d_setItem (by have := hr.un; omega) I dp ri rv fun s' I' => ⟨H', I', q⟩
theorem g_didx {vs : List Nat} {o i : Expr} {io ii : E} {kk : Nat} (hr : Room kk X.A) (ok : okE i = true) (ho : PE X o (tE g W (ev F io))) (hi : PE X i (tE g W (ev F ii))) : PG X (.Subscript o i pos) (TGv g vs (asg F (.didx io ii))) := by
  refine PG.imp (pg_sub ho hi (set_dict hr) (assign_sub_ok ok)) fun v σ H Q ⟨m, ρ, S, d, rs, er, r, w⟩ => ?_
  rw [asg] at w
  refine ⟨m, ρ, S, rs, er, ((WP.bind (Ra := Rel g) w).wish fun _ _ _ z => z.elim).imp fun x H1 ⟨m1, S1, dx, x1, rs1, r1, w1⟩ => ?_⟩
  refine ⟨m1, ρ, S1, rs1, er.mono x1, ((WP.bind (Ra := Rel g) w1).wish fun _ _ _ z => z.elim).imp fun y H2 ⟨m2, S2, dy, x2, rs2, r2, w2⟩ => ?_⟩
  unfold dputR at w2
  split at w2
  · rename_i p k hp hk
    unfold ck at w2
    split at w2
    · rename_i c
      simp only [R.bind_ok] at w2
      obtain ⟨_, hz, a, kws, rfl, hm, hka, q⟩ := dct_at rs2 (Rel.mono x2 _ _ r1) hp
      obtain ⟨rfl, okk⟩ := key_rel hk r2
      have xs' := Ext.set (n := S2.length) (o := .dK (putK kws k v)) rs2 hm
      have ln : (setAt S2 p.1 (.dct (dPut p.2 k d))).length = S2.length := by unfold setAt; rw [List.length_set]
      refine ⟨a, _, rfl, DPut.k hka (by rw [← (relKs_len q).1]; exact c), w2 m2 _ σ (by rw [ln]; exact xs') (rs2.set hm ⟨_, upd_same, RelKs.monoW xs'.w (relKs_put okk (Rel.mono (x1.trans x2) _ _ r) q)⟩) ?_⟩
      rw [ln]
      exact ⟨er.mono ((x1.trans x2).trans xs'), Kept.refl⟩
    · exact w2.elim
  · exact w2.elim
end
end Iv

/-! ### sorted(d), dict comprehensions -/
namespace Iv
open PySem PySem.Spec PyProof.Rows L2
section
variable {g : Gs} {W : L2.WX} {X : Cx} {F : CE} {m m1 m2 m' : Mp} {n n1 n2 : Nat} {H H1 H2 H' : Hp} {S S' : Sto} {σ : L2.St} {ρ : Env} {pos : Pos} {k : Key} {d : Iv.D} {v : V} {ds : List (Key × Iv.D)} {ws : List (Key × V)}
theorem srtI_eq {ns ys : List Int} (p : ys.Perm ns) (h : ys.Pairwise (· ≤ ·)) : ys = srtI ns := by
  have q : (srtI ns).Perm ns := List.mergeSort_perm ns _
  have w : (srtI ns).Pairwise (· ≤ ·) := (List.pairwise_mergeSort (le := fun a b : Int => decide (a ≤ b)) (fun a b c h1 h2 => by simp only [decide_eq_true_eq] at *; omega) (fun a b => by simp only [Bool.or_eq_true, decide_eq_true_eq]; omega) ns).imp fun {a b} h => by simpa using h
  exact List.Perm.eq_of_pairwise (le := (· ≤ ·)) (fun a b _ _ h1 h2 => by omega) h w (p.trans q.symm)
theorem intKs_keys : ∀ {ds : List (Key × Iv.D)} {ns : List Int}, intKs ds = some ns → ds.map (·.1) = ns.map Sum.inl
  | [], ns, h => by cases h; rfl
  | (.inl i, d) :: r, ns, h => by
    obtain ⟨ms, h1, rfl⟩ := Option.map_eq_some_iff.mp (show (intKs r).map (i :: ·) = some ns from h)
    rw [List.map_cons, List.map_cons, intKs_keys h1]
  | (.inr _, _) :: _, _, h => nomatch h
theorem strKs_keys : ∀ {ds : List (Key × Iv.D)} {ns : List Str}, strKs ds = some ns → ds.map (·.1) = ns.map Sum.inr
  | [], ns, h => by cases h; rfl
  | (.inr i, d) :: r, ns, h => by
    obtain ⟨ms, h1, rfl⟩ := Option.map_eq_some_iff.mp (show (strKs r).map (i :: ·) = some ns from h)
    rw [List.map_cons, List.map_cons, strKs_keys h1]
  | (.inl _, _) :: _, _, h => nomatch h
theorem relKs_ok : ∀ {ds : List (Key × Iv.D)} {ws : List (Key × V)}, RelKs g m n H ds ws → ∀ kv ∈ ds, okKey kv.1
  | [], _, _, _, hk => nomatch hk
  | (k', d') :: r, ws, h, kv, hk => by
    obtain ⟨v', gr, rfl, ok, q, q2⟩ := h
    rcases List.mem_cons.mp hk with rfl | hk
    · exact ok
    · exact relKs_ok q2 kv hk
theorem relsI : ∀ ns : List Int, Rels g m n H (ns.map .int) (ns.map V.int)
  | [] => Rels.nil
  | i :: r => Rels.cons (by rw [rel_int]) (relsI r)
theorem relsS : ∀ ns : List Str, (∀ z ∈ ns, okS z) → Rels g m n H (ns.map .str) (ns.map V.str)
  | [], _ => Rels.nil
  | i :: r, h => Rels.cons (by rw [rel_str]; exact ⟨rfl, h i (List.mem_cons_self ..)⟩) (relsS r fun z hz => h z (List.mem_cons_of_mem _ hz))
theorem str_le_total (a b : List Nat) : ¬ b < a ∨ ¬ a < b := by
  by_cases h : b < a
  · exact .inr fun q => List.lt_irrefl _ (List.lt_trans h q)
  · exact .inl h
theorem risingS_all : ∀ (l : List Str) (p : Str), risingS p l = true → (p :: l).Pairwise fun a b => ¬ b.cps.toList < a.cps.toList
  | [], p, _ => by simp
  | x :: r, p, h => by
    have h' : (!ltCps x.cps.toList p.cps.toList && risingS x r) = true := h
    rw [Bool.and_eq_true] at h'
    have ih := risingS_all r x h'.2
    have hx : ¬ x.cps.toList < p.cps.toList := by
      have := h'.1
      rw [PyProof.Rows.ltCps_eq] at this
      simpa using this
    refine List.pairwise_cons.mpr ⟨fun b hb => ?_, ih⟩
    rcases List.mem_cons.mp hb with rfl | hb
    · exact hx
    · have q := (List.pairwise_cons.mp ih).1 b hb
      exact fun z => q (Std.lt_of_lt_of_le z (Std.not_lt.mp hx))
theorem srtS_eq {ns ys : List Str} (p : ys.Perm ns) (h : sortedS ys = true) : ys = srtS ns := by
  have q : (srtS ns).Perm ns := List.mergeSort_perm ns _
  have w : (srtS ns).Pairwise (fun a b => ¬ b.cps.toList < a.cps.toList) := (List.pairwise_mergeSort (le := fun a b : Str => !decide (b.cps.toList < a.cps.toList)) (fun a b c h1 h2 => by
      simp only [Bool.not_eq_true', decide_eq_false_iff_not] at *
      exact fun z => h1 (Std.lt_of_le_of_lt (Std.not_lt.mp h2) z)) (fun a b => by
      simp only [Bool.or_eq_true, Bool.not_eq_true', decide_eq_false_iff_not]
      exact str_le_total _ _) ns).imp fun {a b} h => by simpa using h
  have w2 : ys.Pairwise (fun a b => ¬ b.cps.toList < a.cps.toList) := by
    cases ys with
    | nil => exact List.Pairwise.nil
    | cons x r => exact risingS_all r x h
  refine List.Perm.eq_of_pairwise (le := fun a b : Str => ¬ b.cps.toList < a.cps.toList) (fun a b _ _ h1 h2 => ?_) w2 w (p.trans q.symm)
  have e : a.cps.toList = b.cps.toList := Std.le_antisymm (Std.not_lt.mp h1) (Std.not_lt.mp h2)
  cases a; cases b
  rw [Str.mk.injEq]
  exact Array.ext' e
theorem i_dsort {box : Bool} {e : Expr} {ie : E} {p : Pos} (hg : Gl X "sorted") (hm : X.mg "sorted" = none) (oke : okE e = true) (he : PA X [e] (tEs g W (evs F [ie]))) (hc : X.calm = true := by rfl) :
    PE X (.Call (.Name "sorted" p) [e] [] pos) (tE g W (ev F (.dsort box ie))) := by
  refine PE.imp (pe_callB ((call_sortedDI hc).or (call_sortedD hc)) hg hm (by decide +kernel) he (by decide) (by decide) (starEach_ok oke)) fun σ H Q ⟨m, ρ, S, rs, er, w⟩ => ?_
  rw [ev] at w
  refine ⟨m, ρ, S, rs, er, ?_⟩
  rw [evs1]
  cases hh : ev F ie ρ S with
  | ok d S1 =>
    rw [hh] at w
    simp only [R.bind_ok] at w ⊢
    intro m1 H1 vs x rs1 r1
    obtain ⟨v, rfl, rv⟩ := Rels.one r1
    have w := w.from x
    unfold dsortR at w
    split at w
    · rename_i p' hp
      obtain ⟨_, _, a, kws, rfl, _, hka, q⟩ := dct_at rs1 rv hp
      have hk := (relKs_len q).2
      split at w
      · rename_i ns hn
        obtain ⟨c, w⟩ := w.ck
        refine .inl ⟨a, kws, ns, rfl, .inl hka, by rw [← hk]; exact intKs_keys hn, c, fun ys pp hp hs hn => ?_⟩
        rw [srtI_eq hp hs]
        exact mkL_ok (box := box) rs1 (relsI _) w hn
      · rename_i ns hn _
        obtain ⟨c, w⟩ := w.ck
        refine .inr ⟨a, kws, ns, rfl, .inl hka, by rw [← hk]; exact strKs_keys (by assumption), c, fun ys pp hp hs hn => ?_⟩
        rw [srtS_eq hp hs]
        refine mkL_ok (box := box) rs1 (relsS _ fun z hz => ?_) w hn
        have hz' : z ∈ ns := (List.mergeSort_perm ns _).mem_iff.mp hz
        have hz2 : Sum.inr z ∈ p'.2.map (·.1) := by
          rw [strKs_keys (ns := ns) (by assumption)]
          exact List.mem_map.mpr ⟨z, hz', rfl⟩
        obtain ⟨kv, hkv, e⟩ := List.mem_map.mp hz2
        have := relKs_ok q kv hkv
        rw [e] at this
        exact this
      · exact w.err
    · exact w.err
  | exc x S1 => rw [hh] at w; exact w
  | err => rw [hh] at w; exact w
end
end Iv

/-! ### dicts that are walked; tries that raise nothing, raise, augmented attributes -/
namespace Iv
open PySem PySem.Spec PyProof.Rows L2
section
variable {g : Gs} {W : L2.WX} {X : Cx} {F : CE} {m m1 m2 : Mp} {n n1 n2 : Nat} {H H1 H2 : Hp} {S S' S2 : Sto} {σ : L2.St} {ρ : Env} {pos : Pos} {k : Key} {d : Iv.D} {v : V} {kvs kvs' : List (Key × Iv.D)} {kws kws' : List (Key × V)} {a : Addr} {o : Obj}
theorem relKs_at : ∀ {ds : List (Key × Iv.D)} {ws : List (Key × V)} {i : Nat} {kv : Key × Iv.D}, RelKs g m n H ds ws → ds[i]? = some kv → ∃ v, ws[i]? = some (kv.1, v) ∧ okKey kv.1 ∧ Rel g m n H kv.2 v
  | [], _, _, _, _, e => by simp at e
  | (k, d) :: r, _, 0, kv, h, e => by
    obtain ⟨v, gr, rfl, ok, q, q2⟩ := h
    simp at e
    subst e
    exact ⟨v, rfl, ok, q⟩
  | (k, d) :: r, _, i + 1, kv, h, e => by
    obtain ⟨v, gr, rfl, ok, q, q2⟩ := h
    simpa using relKs_at (i := i) q2 (by simpa using e)
theorem itr_items {i : Nat} (k : H a = some (.frz o (.dK kws))) (r : RelKs g m n H kvs kws) : ItR g m n H (.dlk i kvs, kvs.map fun kv => .tup [keyV kv.1, kv.2]) (Iti a o kws) := by
  intro m' S' H' x fz rs c
  have k' := fz _ _ _ k
  have r' := RelKs.monoW x r
  refine ⟨fun j d e => ?_, ⟨k', by show kws.length ≤ List.length _; rw [List.length_map, (relKs_len r).1]; exact Nat.le_refl _⟩⟩
  rw [List.getElem?_map] at e
  obtain ⟨kv, hkv, rfl⟩ := Option.map_eq_some_iff.mp e
  obtain ⟨v, hv, ok, rv⟩ := relKs_at r' hkv
  refine ⟨⟨k', (List.getElem?_eq_some_iff.mp hv).1⟩, fun y H'' ⟨T, k2, v2, q1, q2, q3, q4⟩ => ?_⟩
  rw [hv] at q1
  cases q1
  subst q2 q4
  refine ⟨rs.laid q3, Ext.laid rs q3, ?_⟩
  rw [rel_tup]
  exact ⟨T, _, rfl, .inl ⟨upd_same, Off.free rs q3⟩, Rels.cons (key_back ok) (Rels.cons (Rel.mono (Ext.laid rs q3) _ _ rv) Rels.nil)⟩
theorem itr_keys {i : Nat} (k : H a = some (.frz o (.dK kws))) (r : RelKs g m n H kvs kws) : ItR g m n H (.dlk i kvs, kvs.map fun kv => keyV kv.1) (Itk a o kws) := by
  intro m' S' H' x fz rs c
  have k' := fz _ _ _ k
  have r' := RelKs.monoW x r
  refine ⟨fun j d e => ?_, ⟨k', by show kws.length ≤ List.length _; rw [List.length_map, (relKs_len r).1]; exact Nat.le_refl _⟩⟩
  rw [List.getElem?_map] at e
  obtain ⟨kv, hkv, rfl⟩ := Option.map_eq_some_iff.mp e
  obtain ⟨v, hv, ok, rv⟩ := relKs_at r' hkv
  refine ⟨⟨k', (List.getElem?_eq_some_iff.mp hv).1⟩, fun y H'' ⟨q4, k2, v2, q1, q2⟩ => ?_⟩
  rw [hv] at q1
  cases q1
  subst q2 q4
  exact ⟨rs, Ext.refl, key_back ok⟩
theorem w_items {elts : List Expr} {kk : Nat} {tpos apos cpos : Pos} {e : Expr} {ie : E} (oke : okE e = true) (he : PE X e (tE g W (ev F ie))) (hl : (apos.endLine == cpos.line) = true := by rfl) : PI X (.Tuple elts kk tpos) (.Call (.Attribute e "items" apos) [] [] cpos) (tI g W (evIt F (.items ie))) := by
  refine PI.imp (pi_items he (attrBase_ok oke) hl) fun σ H R ⟨m, ρ, S, rs, er, w⟩ => ?_
  rw [evIt] at w
  refine TI.step (Ra := Rel g) rs er w fun x H1 m1 S1 dx x1 rs1 er1 r1 w => ?_
  split at w
  · rename_i p hp
    obtain ⟨a, o, kws, rfl, hka, q⟩ := dlk_at rs1 r1 hp
    exact ⟨a, o, kws, rfl, hka, w.now rs1 (itr_items hka q)⟩
  · exact w.err
theorem w_keys {tg e : Expr} {ie : E} (he : PE X e (tE g W (ev F ie))) : PI X tg e (tI g W (evIt F (.keys ie))) := by
  refine PI.imp (pi_keys he) fun σ H R ⟨m, ρ, S, rs, er, w⟩ => ?_
  rw [evIt] at w
  refine TI.step (Ra := Rel g) rs er w fun x H1 m1 S1 dx x1 rs1 er1 r1 w => ?_
  split at w
  · rename_i p hp
    obtain ⟨a, o, kws, rfl, hka, q⟩ := dlk_at rs1 r1 hp
    exact ⟨a, o, rfl, .inl ⟨kws, hka, w.now rs1 (itr_keys hka q)⟩⟩
  · exact w.err
theorem setAt_len {i : Nat} {c : Cell} : (setAt S i c).length = S.length := by unfold setAt; rw [List.length_set]
theorem lock_on {i : Nat} (rs : RS g m S H) (hm : m i = some a) (hka : H a = some (.dK kws)) (q : RelKs g m S.length H kvs kws) (od : Obj) :
    Ext m S.length H m (setAt S i (.dlk kvs)).length (upd H a (.frz od (.dK kws))) ∧ RS g m (setAt S i (.dlk kvs)) (upd H a (.frz od (.dK kws))) := by
  have x : Ext m S.length H m S.length (upd H a (.frz od (.dK kws))) := Ext.set rs hm
  exact ⟨by rw [setAt_len]; exact x, rs.set hm ⟨od, kws, upd_same, RelKs.monoW x.w q⟩⟩
theorem lock_off {i : Nat} {od : Obj} (rs : RS g m S H) (hm : m i = some a) (hka : H a = some (.dK kws)) (x2 : Ext m (setAt S i (.dlk kvs)).length (upd H a (.frz od (.dK kws))) m2 S2.length H2) (rs2 : RS g m2 S2 H2) (hc2 : cellAt S2 i = some (.dlk kvs')) :
    H2 a = some (.frz od (.dK kws)) ∧ Ext m S.length H m2 (setAt S2 i (.dct kvs')).length (upd H2 a (.dK kws)) ∧ RS g m2 (setAt S2 i (.dct kvs')) (upd H2 a (.dK kws)) ∧ ExtW m2 S2.length H2 m2 (setAt S2 i (.dct kvs')).length (upd H2 a (.dK kws)) := by
  rw [setAt_len] at x2
  have k2 : H2 a = some (.frz od (.dK kws)) := x2.fz _ _ _ upd_same
  obtain ⟨a', hm2, ob, kws', hk2, q2⟩ := rs2.at hc2
  have ea : a' = a := by
    have := x2.old i a' (rs.lt hm) hm2
    rw [hm] at this
    exact (Option.some.inj this).symm
  subst ea
  rw [k2] at hk2
  cases hk2
  have xw : ExtW m2 S2.length H2 m2 S2.length (upd H2 a' (.dK kws)) := ExtW.set rs2 hm2
  have rs3 : RS g m2 (setAt S2 i (.dct kvs')) (upd H2 a' (.dK kws)) := rs2.set hm2 ⟨kws, upd_same, RelKs.monoW xw q2⟩
  refine ⟨k2, ?_, rs3, by rw [setAt_len]; exact xw⟩
  rw [setAt_len]
  have ne : ∀ b, Off m b → b ≠ a' := fun b f z => f.1 i (by rw [z]; exact hm)
  refine ⟨x2.le, x2.old, fun b ob e f => ?_, fun b h => ?_, fun b ob u e => ?_⟩
  · have hb := ne b f
    obtain ⟨e1, f1⟩ := x2.keep b ob (by rw [upd_ne hb]; exact e) f
    exact ⟨by rw [upd_ne hb]; exact e1, f1⟩
  · have hb : b ≠ a' := fun z => (rs.hidS b h).2 i (by rw [z]; exact hm)
    obtain ⟨h1, e1⟩ := x2.hid b h
    exact ⟨h1, by rw [upd_ne hb, e1, upd_ne hb]⟩
  · have hb : b ≠ a' := fun z => by
      subst z
      rw [hka] at e
      cases e
    have := x2.fz b ob u (by rw [upd_ne hb]; exact e)
    rw [upd_ne hb]
    exact this
theorem i_lock {e : Expr} {de ie : E} (he : PE X e (tE g W (ev F ie))) : PE X e (tE g W (ev F (.lock de ie))) := by
  refine PE.imp (pe_lock he) fun σ H Q ⟨m, ρ, S, rs, er, w⟩ => ?_
  rw [ev] at w
  unfold lockR at w
  dsimp only at w
  split at w
  · rename_i i _ _
    split at w
    · rename_i kvs hc
      obtain ⟨a, hm, kws, hka, q⟩ := rs.at hc
      refine ⟨a, .dK kws, hka, trivial, fun od => ?_⟩
      obtain ⟨x1, rs1⟩ := lock_on rs hm hka q od
      refine ⟨m, ρ, _, rs1, er.mono x1, ?_⟩
      cases hr : ev F ie ρ (setAt S i (.dlk kvs)) with
      | ok d S2 =>
        rw [hr] at w
        intro m2 H2 v x2 rs2 rv
        unfold unlockR at w
        dsimp only at w
        split at w
        · rename_i kvs' hc2
          obtain ⟨h1, h2, h3, h4⟩ := lock_off rs hm hka x2 rs2 hc2
          exact ⟨h1, w m2 _ v h2 h3 (Rel.monoW h4 _ _ rv)⟩
        · exact w.elim
      | exc x S2 => rw [hr] at w; exact w.elim
      | err => rw [hr] at w; exact w.elim
    · exact w.err
  · exact w.err
theorem s_lock {st : Stmt} {de : E} {ist : Iv.St} (h : PS X st (tS g W (ex F ist))) : PS X st (tS g W (ex F (.lock de ist))) := by
  refine PS.imp (ps_lock h) fun D σ H ⟨m, ρ, S, rs, er, w⟩ => ?_
  rw [ex] at w
  unfold lockR at w
  dsimp only at w
  split at w
  · rename_i i _ _
    split at w
    · rename_i kvs hc
      obtain ⟨a, hm, kws, hka, q⟩ := rs.at hc
      refine ⟨a, .dK kws, hka, trivial, fun od => ?_⟩
      obtain ⟨x1, rs1⟩ := lock_on rs hm hka q od
      refine ⟨m, ρ, _, rs1, er.mono x1, ?_⟩
      cases hr : ex F ist ρ (setAt S i (.dlk kvs)) with
      | ok fl S2 =>
        rw [hr] at w
        cases fl with
        | raised x ρ2 => exact w.elim
        | next ρ2 =>
          intro m2 H2 σ2 x2 rs2 er2
          replace w : WS g W m S.length H (unlockR i (.ok (.next ρ2) S2)) D := w
          unfold unlockR at w
          dsimp only at w
          split at w
          · rename_i kvs' hc2
            obtain ⟨h1, h2, h3, h4⟩ := lock_off rs hm hka x2 rs2 hc2
            exact ⟨h1, w m2 _ σ2 h2 h3 (er2.monoW h4)⟩
          · exact w.elim
        | brk ρ2 =>
          intro m2 H2 σ2 x2 rs2 er2
          replace w : WS g W m S.length H (unlockR i (.ok (.brk ρ2) S2)) D := w
          unfold unlockR at w
          dsimp only at w
          split at w
          · rename_i kvs' hc2
            obtain ⟨h1, h2, h3, h4⟩ := lock_off rs hm hka x2 rs2 hc2
            exact ⟨h1, w m2 _ σ2 h2 h3 (er2.monoW h4)⟩
          · exact w.elim
        | cont ρ2 =>
          intro m2 H2 σ2 x2 rs2 er2
          replace w : WS g W m S.length H (unlockR i (.ok (.cont ρ2) S2)) D := w
          unfold unlockR at w
          dsimp only at w
          split at w
          · rename_i kvs' hc2
            obtain ⟨h1, h2, h3, h4⟩ := lock_off rs hm hka x2 rs2 hc2
            exact ⟨h1, w m2 _ σ2 h2 h3 (er2.monoW h4)⟩
          · exact w.elim
        | ret d =>
          intro m2 H2 v x2 rs2 rv
          replace w : WS g W m S.length H (unlockR i (.ok (.ret d) S2)) D := w
          unfold unlockR at w
          dsimp only at w
          split at w
          · rename_i kvs' hc2
            obtain ⟨h1, h2, h3, h4⟩ := lock_off rs hm hka x2 rs2 hc2
            exact ⟨h1, w m2 _ v h2 h3 (Rel.monoW h4 _ _ rv)⟩
          · exact w.elim
      | exc x S2 => rw [hr] at w; exact w.elim
      | err => rw [hr] at w; exact w.elim
    · exact w.elim
  · exact w.elim
theorem s_blk {body : List Stmt} {h0 : ExceptHandler} {hs : List ExceptHandler} {ib : List Iv.St} (hb : PSs X.nox body (tS g W (exs F ib))) : PS X (.Try body (h0 :: hs) [] [] pos) (tS g W (ex F (.blk ib))) := by
  refine PS.imp (ps_try_thru0 hb) fun D σ H ⟨m, ρ, S, rs, er, w⟩ => ?_
  rw [ex] at w
  exact ⟨m, ρ, S, rs, er, w⟩
theorem s_stuck {st : Stmt} : PS X st (tS g W (ex F .raise)) := by
  refine ⟨fun pins s σ D H I ⟨m, ρ, S, rs, er, w⟩ => ?_⟩
  rw [ex] at w
  exact w.elim
theorem ntp_tup {xs : List Iv.D} (r : Rel g m n H (.ntp xs) v) : Rel g m n H (.tup xs) v := by
  rw [rel_ntp] at r
  rw [rel_tup]
  obtain ⟨a, vs, e, q, rr⟩ := r
  exact ⟨a, vs, e, .inr (.inr q), rr⟩
theorem i_untup {e : Expr} {ie : E} (he : PE X e (tE g W (ev F ie))) : PE X e (tE g W (ev F (.untup ie))) := by
  refine PE.imp he fun σ H Q ⟨m, ρ, S, rs, er, w⟩ => ?_
  rw [ev] at w
  refine TI.step (Ra := Rel g) rs er w fun x H1 m1 S1 dx x1 rs1 er1 r1 w => ?_
  split at w
  · exact w.now rs1 (ntp_tup r1)
  · exact w.elim
theorem i_ntup {e : Expr} {ie : E} {p : Pos} (hK : X.K = g.K) (hm : X.mg "tuple" = none) (oke : okE e = true) (he : PE X e (tE g W (ev F ie))) (hg : Gl X "tuple" := by rfl) : PE X (.Call (.Name "tuple" p) [e] [] pos) (tE g W (ev F (.ntup ie))) := by
  refine ⟨fun pins s σ H Q I ⟨m, ρ, S, rs, er, w⟩ => ?_⟩
  rw [ev] at w
  have st := TI.step (Ra := Rel g) (Q' := fun x H1 => ∃ m1 S1 d, RS g m1 S1 H1 ∧ Rel g m1 S1.length H1 d x ∧ WP g (fun c d H' => W c d σ H') (Rel g) m1 S1.length H1 (match lstOf S1 d with | some xs => .ok (.ntp xs) S1 | none => .err) Q) rs er w fun x H1 m1 S1 dx x1 rs1 er1 r1 w => ⟨m1, S1, dx, rs1, r1, w⟩
  refine Call_ (ld_blt I hg hm boot_tuple (PyProof.Rows.callWith_type1 (one_arg he I st (fun v s2 x H2 I2 r q => ?_) (starEach_ok oke)) (starEach_ok oke)))
  obtain ⟨m1, S1, d, rs1, r1, w⟩ := q
  split at w
  · rename_i xs hx
    obtain ⟨a, vs, rfl, rv, q⟩ := lst_sq rs1 r1 hx
    obtain rfl : v = .ref a := r
    rw [← hK] at q
    obtain ⟨its, ri, pl, hz⟩ := I2.list q
    refine call_tuple_list pl.isList (fun h' hk => ?_) (by rw [List.size_toArray, ← ri.length]; exact hz)
    have J1 : Inv X pins σ H2 { s2 with heap := h' } := I2.kept (t' := s2.toks) hk
    have hp : H2 h'.objs.size = none := J1.hok.fresh (Nat.le_refl _)
    generalize hob : ({ cls := .type "tuple", data := .seq its.toArray } : Obj) = ob
    have hcl : ob.cls = .type "tuple" ∧ ob.dict = none ∧ ob.data = .seq its.toArray ∧ ob.isFreed = false := by subst hob; exact ⟨rfl, rfl, rfl, rfl⟩
    have J2 : Inv X pins σ (upd H2 h'.objs.size (.frz ob (.tup vs))) { s2 with heap := h'.push ob } :=
      J1.laid (t' := s2.toks) (fun b o z => Heap.get?_push_of_some _ z) (Nat.le_refl _) (show ObjOk X.prog X.w _ _ _ (.frz ob (.tup vs)) from ⟨Heap.get?_push_size _ hcl.2.2.2, hz, its, ri, ⟨ob, Heap.get?_push_size _ hcl.2.2.2, hcl.1, 0, hcl.2.2.1⟩⟩)
    refine ⟨.ref h'.objs.size, _, J2, rfl, w m1 _ _ (Ext.laid rs1 hp) (rs1.laid hp) ?_⟩
    rw [rel_ntp]
    exact ⟨_, vs, rfl, ⟨ob, upd_same, hcl.1, hcl.2.1, Off.free rs1 hp⟩, Rels.mono (Ext.laid rs1 hp) _ _ rv⟩
  · exact w.elim
theorem i_tidx {o e : Expr} {io ie : E} {apos cpos : Pos} (hK : X.K = g.K) (oko : okE o = true) (oke : okE e = true) (ho : PE X o (tE g W (ev F io))) (he : PA X [e] (tEs g W (evs F [ie]))) (hl : (apos.endLine == cpos.line) = true := by rfl) : PE X (.Call (.Attribute o "index" apos) [e] [] cpos) (tE g W (ev F (.tidx io ie))) := by
  have ty : L2.TyOk X "tuple" (fun x H => ∃ (p : Addr) (ob : Obj) (xs : List V), x = .ref p ∧ H p = some (.frz ob (.tup xs)) ∧ ob.cls = .type "tuple" ∧ ob.dict = none) := by
    intro pins σ H s x v I r ⟨p, ob, xs, ex, q, c, dn⟩
    subst ex
    cases r
    have k := (I.hok p _ q).1
    refine ⟨⟨_, k, c⟩, fun b e => ?_⟩
    cases e
    exact ⟨_, k, dn⟩
  refine PE.imp (pe_mG ty PySem.F.plainAttrs_tuple PySem.F.slot_tuple_index PySem.F.type_tuple_index mt_tup_index ho he (attrBase_ok oko) ?_ hl (starEach_ok oke) rfl) fun σ H Q ⟨m, ρ, S, rs, er, w⟩ => ?_
  · rw [(star_all (es := [e]) (by unfold okEs; rw [List.all_cons, oke]; rfl)).1]
    rfl
  rw [ev] at w
  refine TI.step (Ra := Rel g) rs er w fun x H1 m1 S1 dx x1 rs1 er1 r1 w => ?_
  obtain ⟨c, w⟩ := w.ck
  cases dx with
  | ntp xs =>
    rw [rel_ntp] at r1
    obtain ⟨a, vs, rfl, ⟨ob, q1, q2, q3, q4⟩, rr⟩ := r1
    refine ⟨⟨a, ob, vs, rfl, q1, q2, q3⟩, m1, ρ, S1, rs1, er1, ?_⟩
    rw [evs1]
    cases hh : ev F ie ρ S1 with
    | ok d S2 =>
      rw [hh] at w
      simp only [R.bind_ok] at w ⊢
      intro m' H' b x2 rs2 r2
      obtain ⟨u, rfl, ru⟩ := r2.one
      unfold tidxR at w
      split at w
      · rename_i xs' z e1
        cases e1
        split at w
        · rename_i ys hy
          split at w
          · rename_i j hj
            rw [rel_str] at ru
            obtain ⟨rfl, _⟩ := ru
            have ev : vs = ys.map V.str := (strs_rel rr hy).1
            obtain ⟨hlt, hz, hno⟩ := List.findIdx?_eq_some_iff_getElem.mp hj
            refine ⟨a, ys, z, j, rfl, rfl, by rw [← ev]; exact .inl (.inr ⟨ob, (x2.keep _ _ q1 q4).1⟩), ?_, fun i hi hz' => ?_, (w.from x2).now rs2 (by rw [rel_int])⟩
            · rw [List.getElem?_eq_getElem hlt]
              simpa using hz
            · have := hno i hi
              obtain ⟨hl, e⟩ := List.getElem?_eq_some_iff.mp hz'
              rw [e] at this
              simp at this
          · exact w.elim
        · exact w.elim
      · exact w.elim
    | exc x S2 => rw [hh] at w; exact w
    | err => rw [hh] at w; exact w
  | _ => cases c
theorem ins_of {p : Nat × Nat × List (Nat × Iv.D)} (rs : RS g m S H) (r : Rel g m S.length H d v) (e : insOf S d = some p) : d = .ref p.1 ∧ cellAt S p.1 = some (.ins p.2.1 p.2.2) ∧ ∃ a dx gs, v = .ref a ∧ m p.1 = some a ∧ H a = some (.ins (g.ca p.2.1) dx gs) ∧ insOk g p.2.1 p.2.2 ∧ RelFs g m S.length H p.2.2 gs := by
  cases d with
  | ref i =>
    have e' : (match cellAt S i with | some (.ins c fs) => some (i, c, fs) | _ => none) = some p := e
    split at e'
    · rename_i c fs hz
      cases e'
      obtain ⟨a, rfl, k, dx, gs, hk, ok, q⟩ := r.box rs hz
      exact ⟨rfl, hz, a, dx, gs, rfl, k, hk, ok, q⟩
    · cases e'
  | _ => cases e
theorem relFs_len : ∀ {fs : List (Nat × Iv.D)} {gs : List (Str × V)}, RelFs g m n H fs gs → fs.length = gs.length
  | [], gs, h => by unfold RelFs at h; rw [h]; rfl
  | (f, d) :: r, gs, h => by
    unfold RelFs at h
    obtain ⟨w, gr, rfl, _, r2⟩ := h
    rw [List.length_cons, List.length_cons, relFs_len r2]
theorem s_faug {o e : Expr} {io ie : E} {f : Nat} {op : Bop} {tpos : Pos} (hK : X.K = g.K) (hf : g.fok f) (hop : op = .add ∨ op = .sub ∨ op = .mul) (ho : PE X o (tE g W (ev F io))) (he : PE X e (tE g W (ev F ie))) : PS X (.AugAssign (.Attribute o (g.fn f) tpos) (opOf op) e pos) (tS g W (ex F (.faug io f op ie))) := by
  refine PS.imp (ps_fldaug ho he (op_augI (g := g) hop)) fun D σ H ⟨m, ρ, S, rs, er, w⟩ => ?_
  rw [ex] at w
  have w1 := WS.go (Ra := fun _ _ _ (_ : Unit) (_ : Unit) => True) rs er w
  refine ⟨m, ρ, S, rs, er, (WP.bind (Ra := Rel g) w1).imp fun x H1 ⟨m1, S1, dx, x1, rs1, r1, w2⟩ => ?_⟩
  split at w2
  · rename_i p hp
    obtain ⟨rfl, hz, a, dd, gs, rfl, hm, hka, ok, q⟩ := ins_of rs1 r1 hp
    split at w2
    · rename_i old hold
      obtain ⟨v0, hv0, rv0⟩ := RelFs.lookup (fs := p.2.2) (fun f h => (ok.2.2 f h).1) (fun f h => (ok.2.2 f h).1) hf q hold
      have hmem : f ∈ p.2.2.map (·.1) := by
        clear w2 hz ok q hp
        generalize p.2.2 = fs at hold
        induction fs with
        | nil => cases hold
        | cons z r ih =>
          obtain ⟨f', d'⟩ := z
          rw [List.lookup_cons] at hold
          by_cases hc : f = f'
          · rw [List.map_cons, hc]; exact List.mem_cons_self ..
          · rw [show (f == f') = false from beq_eq_false_iff_ne.mpr hc] at hold
            exact List.mem_cons_of_mem _ (ih hold)
      obtain ⟨_, hna⟩ := ok.2.2 f hmem
      refine ⟨a, _, dd, gs, v0, rfl, hka, by rw [hK]; exact ok.1, by rw [hK]; exact hna, hv0, ?_⟩
      refine ⟨m1, ρ, S1, rs1, er.mono x1, (WP.bind (Ra := Rel g) w2).imp fun y H2 ⟨m2, S2, dy, x2, rs2, r2, w3⟩ => ?_⟩
      refine ⟨m2, S2, old, dy, _, rs2, Rel.mono x2 _ _ rv0, r2, (WP.bind (Ra := Rel g) w3).imp fun z H3 ⟨m3, S3, dz, x3, rs3, r3, w4⟩ => ?_⟩
      unfold faugPut at w4
      split at w4
      · rename_i c' fs' hc'
        obtain ⟨⟨rfl, hl⟩, w4⟩ := w4.ck
        obtain ⟨a', hm3, dx', gs', hka3, ok3, q3⟩ := rs3.at hc'
        have ea : a' = a := by
          have lt := rs1.lt hm
          have e1 := x2.old p.1 a' lt (x3.old p.1 a' (Nat.lt_of_lt_of_le lt x2.le) hm3)
          rw [hm] at e1
          exact (Option.some.inj e1).symm
        subst ea
        refine ⟨dx', gs', hka3, by rw [← relFs_len q3]; omega, ?_⟩
        have xs' := Ext.set (n := S3.length) (o := .ins (g.ca p.2.1) dx' (putF (g.fn f) z gs')) rs3 hm3
        have ln : (setAt S3 p.1 (.ins p.2.1 (putFd f dz fs'))).length = S3.length := setAt_len
        have w5 := (show WP g _ (fun _ _ _ (_ : Unit) (_ : Unit) => True) m3 S3.length H3 (.ok () (setAt S3 p.1 (.ins p.2.1 (putFd f dz fs')))) _ from (w4.ck).2) m3 _ () (by rw [ln]; exact xs') (rs3.set hm3 ⟨dx', _, upd_same, ⟨ok3.1, ?_, fun f' hf' => ?_⟩, RelFs.mono xs' _ _ (RelFs.put hf r3 (fun f h => (ok3.2.2 f h).1) q3)⟩) trivial
        · obtain ⟨m5, S5, a5, x5, rs5, er5, _, w6⟩ := w5
          exact w6.next rs5 er5
        · have := putFd_length (f := f) (d := dz) (fs := fs')
          omega
        · rcases putFd_mem hf' with rfl | h
          · exact ⟨hf, hna⟩
          · exact ok3.2.2 f' h
      · exact w4.elim
    · exact w2.elim
  · exact w2.elim
theorem j_faug {o e : Expr} {io ie : E} {f : Nat} {op : Bop} {tpos : Pos} {nm : Str} (hf : g.fok f) (ho : PE X o (tE g W (ev F io))) (he : PE X e (tE g W (ev F ie))) (hop : op = .add ∨ op = .sub ∨ op = .mul := by simp) (hnm : g.fn f = nm := by rfl) (hK : X.K = g.K := by rfl) : PS X (.AugAssign (.Attribute o nm tpos) (opOf op) e pos) (tS g W (ex F (.faug io f op ie))) := by
  subst hnm
  exact s_faug hK hf hop ho he
end
end Iv

/-! ### set comprehensions of ints, of ints and texts: how many, sorted -/
namespace Ws
open PySem PySem.Spec PyProof.Rows L2
/-- the machine's empty set -/
abbrev bareSet (w : World) : Obj := { cls := .type "set", dict := none, data := .set #[] 0 (.fresh 0 0 (!w.params.followText "set-order")) }
def rAddG {κ : Type} [DecidableEq κ] (kv : κ → V) (SO : Addr → (κ → Bool) → Nat → HO) : V → List V → Hp → VK → Prop := fun x xs H Q => ∃ (a : Addr) (k : κ) (T : κ → Bool) (n : Nat), x = V.ref a ∧ xs = [kv k] ∧ H a = some (SO a T n) ∧ n + 1 < scanBound ∧
  Q .non (upd H a (SO a (fun j => T j || decide (j = k)) (if T k = true then n else n + 1)))
/-- what a kind of sets must have -/
structure SetLike (P : Program) (w : World) {κ : Type} [DecidableEq κ] (kv : κ → V) (SO : Addr → (κ → Bool) → Nat → HO) : Prop where
  fresh : ∀ (H : Hp) (h : Heap), ObjOk P w H (h.push (bareSet w)) h.objs.size (SO h.objs.size (fun _ => false) 0)
  add : ∀ Y : Cx, Y.prog = P → Y.w = w → MtR Y "set.add" (rAddG kv SO)
theorem like_keys (P : Program) (w : World) : SetLike P w kV (SetK P w) where
  fresh := fun H h => setK_new ⟨_, #[], 0, _, Heap.get?_push_size _ rfl, ⟨rfl, rfl, rfl⟩, rfl, (fun e he => by simp at he), (fun k => by simp), (by decide), (by rfl), rfl⟩
  add := fun Y hp hw => by subst hp hw; exact mt_saddK
section
variable {X : Cx} {κ : Type} [DecidableEq κ] {kv : κ → V} {SO : Addr → (κ → Bool) → Nat → HO}
def tScG (kv : κ → V) (SO : Addr → (κ → Bool) → Nat → HO) (wi : TI) (g : TG) (tt : TT) (te : TE) (vs : List Nat) : TE := fun σ H Q => wi σ H fun J G1 => ∀ D, G1 D = none → ∃ W : Nat → Nat → Hp → Prop, (∃ μ, W 0 μ (upd G1 D (SO D (fun _ => false) 0))) ∧ ∀ i μ G, W i μ G →
  (J.stop i G ∧ Q (.ref D) G) ∨ (J.go i G ∧ ∃ Nx : Hp → Prop, (∀ G', Nx G' → ∃ μ', μ' < μ ∧ W (i + 1) μ' G') ∧ ∀ x G', J.yld i G x G' → g x (wipe σ vs) G' fun τ G2 => wipe τ vs = wipe σ vs ∧ tt τ G2 fun b G3 =>
    if b = true then te τ G3 fun y G4 => ∃ (k : κ) (T : κ → Bool) (c : Nat), y = kv k ∧ G4 D = some (SO D T c) ∧ c + 1 < scanBound ∧ Nx (upd G4 D (SO D (fun j => T j || decide (j = k)) (if T k = true then c else c + 1))) else Nx G3)
theorem pe_scG (sl : SetLike X.prog X.w kv SO) {elt tg iter : Expr} {ifs : List Expr} {scope : Scope} {own : List (PySem.Str × Nat)} {pos : Pos} {wi : TI} {g : TG} {tt : TT} {te : TE} (hc : X.calm = true) (hN : X.N.Nodup) (hi : PI X tg iter wi) (ok : BlkOk X.N X.env.scope scope own)
    (hg : ∀ (s : Shared) (H : Hp) (C : Addr) (cl : List (PySem.Str × Addr)) (fp : List Addr), PG (X.blk s H scope (compEnvC scope cl C X.env) fp) tg g) (ht : ∀ (s : Shared) (H : Hp) (C : Addr) (cl : List (PySem.Str × Addr)) (fp : List Addr), PTs (X.blk s H scope (compEnvC scope cl C X.env) fp) ifs tt)
    (he : ∀ (s : Shared) (H : Hp) (C : Addr) (cl : List (PySem.Str × Addr)) (fp : List Addr), PE (X.blk s H scope (compEnvC scope cl C X.env) fp) elt te) (hs : ∀ x, foldedSetIterable iter X.env x = pure x) :
    PE X (.SetComp elt [⟨tg, iter, ifs, 0⟩] scope pos) (tScG kv SO wi g tt te (own.map (·.2))) := by
  refine ⟨fun pins s0 σ H0 Q I0 rd => ?_⟩
  rw [PpSet.eval_SetComp]
  have free0 : ∀ z ∈ scope.names, z.2 = .free → ∃ c, X.env.cells.lookup z.1 = some c := fun z hz ez => (ok.free z hz ez).elim (fun q => I0.ok.has _ (.inl q)) fun q => I0.ok.has _ (.inr q)
  refine wpAny_comprehension_free (use := none) rfl hs (closure_ok free0) ok.kind (fun z hz ez => by rw [ok.uniq z hz, ez]) (thn (hi.run pins s0 σ H0 _ I0 rd) fun _ sA hA => thn hA fun _ sB hB => ?_)
  obtain ⟨ita, fp, tn, J, HB, rfl, IB, TB, stB, fB, rdB⟩ := hB
  refine PpSet.newSet_ok (newEnv_comp ?_)
  generalize eD : sB.heap.objs.size = D
  have newD : HB D = none := IB.hok.fresh (Nat.le_of_eq eD)
  obtain ⟨W, ⟨μ0, W0⟩, turns⟩ := rdB D newD
  generalize eC : ({ sB with heap := sB.heap.push (bareSet X.w) } : Shared) = sC
  have hpC : sC.heap = sB.heap.push (bareSet X.w) := by rw [← eC]
  have IC : Inv X pins σ (upd HB D (SO D (fun _ => false) 0)) sC := by
    rw [← eC]
    refine IB.laid (t' := sB.toks) (fun _ _ q => Heap.get?_push_of_some _ q) (Nat.le_of_eq eD) ?_
    rw [← eD]
    exact sl.fresh _ _
  have fC : ∀ c ∈ fp, FpOk X pins (upd HB D (SO D (fun _ => false) 0)) c ∧ c < sC.heap.objs.size := fun c hcm => by
    obtain ⟨oc, ec, _⟩ := TB.obj _ _ stB c hcm
    have lc := Heap.lt_size ec
    refine ⟨⟨by rw [upd_ne (by rw [← eD]; exact Nat.ne_of_lt lc)]; exact (fB c hcm).1, (fB c hcm).2⟩, ?_⟩
    rw [hpC, Heap.size_push]
    exact Nat.lt_succ_of_lt lc
  have stC : tn 0 sC.heap := TB.keep _ _ _ stB fun c _ oc q => by rw [hpC]; exact Heap.get?_push_of_some _ q
  have IE := block_start IC ok hN fC
  generalize eH : upd HB D (SO D (fun _ => false) 0) = HC at IC fC IE W0
  have rg := hg sC HC sC.heap.objs.size (cellsFrom (sC.heap.objs.size + 1) scope.names (cloFrom X.env.cells scope.names [])) fp
  have rt := ht sC HC sC.heap.objs.size (cellsFrom (sC.heap.objs.size + 1) scope.names (cloFrom X.env.cells scope.names [])) fp
  have re := he sC HC sC.heap.objs.size (cellsFrom (sC.heap.objs.size + 1) scope.names (cloFrom X.env.cells scope.names [])) fp
  show codeAny _ _ (.compStart (.SetComp elt [⟨tg, iter, ifs, 0⟩] scope pos) 0 (.ref ita) (.ref D) (compEnvC scope (cellsFrom (sC.heap.objs.size + 1) scope.names (cloFrom X.env.cells scope.names [])) sC.heap.objs.size X.env)) (compPost (model X.prog X.w) X.A X.xe none (EP X pins σ Q) (.ref D) sC.heap.objs.size) { sC with heap := pushCells (sC.heap.push { cls := .type "dict", data := .dict #[] }) scope.names }
  generalize eE : compEnvC scope (cellsFrom (sC.heap.objs.size + 1) scope.names (cloFrom X.env.cells scope.names [])) sC.heap.objs.size X.env = ce at IE rg rt re ⊢
  have locE : ce.locals = sC.heap.objs.size := by rw [← eE]; rfl
  generalize eS : ({ sC with heap := pushCells (sC.heap.push { cls := .type "dict", data := .dict #[] }) scope.names } : Shared) = sE at IE ⊢
  have stE : tn 0 sE.heap := TB.keep _ _ _ stC fun c _ oc q => by rw [← eS]; exact pushCells_keeps _ _ _ _ (Heap.get?_push_of_some _ q)
  have nilE : ∀ c ∈ fp, HC c = none := fun c hcm => (fC c hcm).1.1
  have keepF : ∀ {τ : L2.St} {G : Hp} {t : Shared}, Inv (X.blk sC HC scope ce fp) [] τ G t → (∀ c ∈ fp, G c = none) → ∀ c ∈ fp, FpOk (X.blk sC HC scope ce fp) [] G c := fun {τ G t} It nl c hcm =>
    ⟨nl c hcm, (It.ok.exf c hcm).1, It.ok.exfs c hcm, .inl hcm, fun x e q => (It.ok.exf c hcm).2 x e q, fun p hp => absurd (show p ∈ ([] : List (Addr × Obj)) ++ [] from hp) (by simp)⟩
  suffices loop : codeAny (model X.prog X.w) X.A (.compLoop (.SetComp elt [⟨tg, iter, ifs, 0⟩] scope pos) 0 (.ref ita) (.ref D) ce) (compPost (model X.prog X.w) X.A X.xe none (EP X pins σ Q) (.ref D) sC.heap.objs.size) sE from PpSet.codeAny_compStart_set loop (TB.self X.A 0 _ _ _ stE loop)
  refine PpSet.compLoopS_any (fun μ t => ∃ i G, Inv (X.blk sC HC scope ce fp) [] (wipe σ (own.map (·.2))) G t ∧ tn i t.heap ∧ (∀ c ∈ fp, G c = none) ∧ W i μ G) ?_ μ0 ⟨0, HC, IE, stE, nilE, W0⟩
  rintro μ sF ⟨i, GF, IF, stF, nilF, WF⟩
  rcases turns i μ GF WF with ⟨stp, fin⟩ | ⟨goes, Nx, down, step⟩
  · refine thnF (TB.done (X.blk sC HC scope ce fp) rfl rfl rfl hc i [] sF _ GF (fun _ _ => False) IF (keepF IF nilF) stF stp) fun r sG hG => ?_
    obtain ⟨rfl, IG⟩ := hG
    have back : Inv X pins σ GF sG := IC.call' (ch := fp) IG.os IG.base IG.hok IG.bare fun c hcm => ⟨(fC c hcm).1.2.2.2.1, (fC c hcm).1.2.1, (fC c hcm).1.2.2.2.2.1, (fC c hcm).1.2.2.2.2.2⟩
    have nilC : GF sC.heap.objs.size = none := by rw [← locE]; exact IG.free
    obtain ⟨mm, hns, _⟩ := IG.loc
    have hns : sG.heap.Ns ce.locals mm := hns
    rw [locE] at hns
    obtain ⟨f0, f1, f2, f3, f4, f5⟩ := IC.fpOk (Nat.le_refl _) nilC
    exact ⟨mm, hns, fun h'' sb => ⟨.ref D, GF, back.turned (t' := sG.toks) (fun c oc hcm q => (sb.2 c hcm).trans q) f0 f1 f3 f4 f5, rfl, fin⟩⟩
  · refine thnF (TB.item (X.blk sC HC scope ce fp) rfl rfl rfl hc i [] sF _ GF (fun _ _ => False) IF (keepF IF nilF) stF goes) fun r sG hG => ?_
    obtain ⟨u, rfl, hG⟩ := hG
    refine thnF hG fun _ sH ⟨x, GH, IH, rH, yH, stH, nilH⟩ => ?_
    refine thnF (rg.run _ sH _ GH x u _ (IH.pinned (keepF IH nilH) (TB.obj _ _ stH)) rH (step x GH yH)) fun _ sJ ⟨τ, GJ, IJ, wJ, qJ⟩ => ?_
    refine thnF (rt.run _ sJ τ GJ _ IJ qJ) fun b sK ⟨GK, IK, qK⟩ => ?_
    have close : ∀ {t : Shared} {G : Hp}, Inv (X.blk sC HC scope ce fp) ([] ++ pinsAt fp sH.heap) τ G t → Nx G → ∃ μ', μ' < μ ∧ ∃ i G, Inv (X.blk sC HC scope ce fp) [] (wipe σ (own.map (·.2))) G t ∧ tn i t.heap ∧ (∀ c ∈ fp, G c = none) ∧ W i μ' G := fun {t G} It nx => by
      obtain ⟨μ', lt, Wn⟩ := down G nx
      have pin1 : ∀ c ∈ fp, ∀ oc, sH.heap.get? c = some oc → t.heap.get? c = some oc ∧ G c = none := fun c hcm oc q =>
        have z := It.pin (c, oc) (List.mem_append_right _ (List.mem_append_right _ (mem_pinsAt hcm q)))
        ⟨z.1, z.2.1⟩
      refine ⟨μ', lt, i + 1, G, (It.unpinned (pins := [])).weak (by rw [← wJ, wipe_length]) (fun j v q => (wipe_some (by rw [← wJ] at q; exact q)).1), TB.keep _ _ _ stH fun c hcm oc q => (pin1 c hcm oc q).1, fun c hcm => ?_, Wn⟩
      obtain ⟨oc, q, _⟩ := TB.obj _ _ stH c hcm
      exact (pin1 c hcm oc q).2
    cases b with
    | false =>
      rw [if_neg Bool.false_ne_true] at qK ⊢
      exact close IK qK
    | true =>
      rw [if_pos rfl] at qK ⊢
      refine thnF (re.run _ sK τ GK _ IK qK) fun z sL ⟨yv, GL, IL, rL, k, T, c, ey, hD, room, nx⟩ => ?_
      subst ey
      refine thnF (sl.add (X.blk sC HC scope ce fp) rfl rfl _ sL τ GL (.ref D) [kv k] (.ref D) [z] (fun _ G => Nx G) IL rfl (.cons rL .nil) ⟨D, k, T, c, rfl, rfl, hD, room, nx⟩) fun _ sM ⟨_, GM, IM, _, qM⟩ => ?_
      exact close IM qM
end
end Ws

/-! ### comprehensions of dicts and sets, in the evaluator -/
namespace Iv
open PySem PySem.Spec PyProof.Rows L2
section
variable {g : Gs} {W : L2.WX} {X : Cx} {F : CE} {m m1 m' : Mp} {n : Nat} {H H1 H' : Hp} {S S1 S' : Sto} {σ : L2.St} {ρ : Env} {pos : Pos} {D : Addr} {own : List Nat} {t : Tg} {it : Iv.It} {iifs : List E} {ie ik : E}
theorem unhide (x : Ext m1 S1.length H1 m' S'.length H') (rs' : RS g m' S' H') : Ext m1 S1.length H1 ⟨m'.box, m1.hid⟩ S'.length H' ∧ RS g ⟨m'.box, m1.hid⟩ S' H' := by
  have xw : ExtW m' S'.length H' ⟨m'.box, m1.hid⟩ S'.length H' := ⟨Nat.le_refl _, fun _ _ _ e => e, fun a o e f => ⟨e, f.1, fun h => f.2 (x.hid a h).1⟩⟩
  exact ⟨⟨x.le, x.old, fun a o e f => let ⟨e', f'⟩ := x.keep a o e f; ⟨e', f'.1, f.2⟩, fun a h => ⟨h, (x.hid a h).2⟩, x.fz⟩, rs'.turn xw rfl (fun _ _ _ => rfl) fun a h => rs'.hidS a (x.hid a h).1⟩
theorem dup_step {κ : Type} [DecidableEq κ] (ks : List κ) (k : κ) : (ks ++ [k]).eraseDups.length = if decide (k ∈ ks) = true then ks.eraseDups.length else ks.eraseDups.length + 1 := by
  rw [List.eraseDups_append, List.length_append]
  by_cases h : k ∈ ks
  · rw [if_pos (decide_eq_true h)]
    have e : [k].removeAll ks = [] := by simp [List.removeAll, h]
    rw [e]
    rfl
  · rw [if_neg (by simpa using h)]
    have e : [k].removeAll ks = [k] := by simp [List.removeAll, h]
    rw [e]
    rfl
theorem dups_le {κ : Type} [DecidableEq κ] : ∀ (n : Nat) (l : List κ), l.length ≤ n → l.eraseDups.length ≤ l.length
  | _, [], _ => by simp
  | 0, a :: l, h => by simp at h
  | n + 1, a :: l, h => by
    rw [List.eraseDups_cons, List.length_cons, List.length_cons]
    have h1 := List.length_filter_le (fun b => !b == a) l
    have h2 := dups_le n (l.filter fun b => !b == a) (by simp only [List.length_cons] at h; omega)
    omega
theorem sc_body {κ : Type} [DecidableEq κ] {kv : κ → V} {SO : Addr → (κ → Bool) → Nat → HO} (kd : Iv.D → Option κ) (hkd : ∀ {m : Mp} {n : Nat} {H : Hp} {d : Iv.D} {k : κ} {v : V}, kd d = some k → Rel g m n H d v → v = kv k) (Kf : List Iv.D → Sto → R Iv.D)
    (hK : ∀ ys S, Kf ys S = .err ∨ ((∀ y ∈ ys, ∃ k, kd y = some k) ∧ ys.length < 1000)) {Q Q2 : VK} (rs : RS g m S H) (er : EnvR g m S.length H ρ σ)
    (w : WP g (fun c d H' => W c d σ H') (Rel g) m S.length H ((evIt F it ρ S).bind fun w S => (lcLoop w.1 (lcStep F own t iifs ie ρ) w.2 S).bind fun ys S => Kf ys S) Q)
    (fin : ∀ (m1 m' : Mp) (S1 S' : Sto) (H1 H' : Hp) (D : Addr) (ys : List Iv.D), RS g m' S' H' → WP g (fun c d H' => W c d σ H') (Rel g) m' S'.length H' (Kf ys S') Q → H' D = some (SO D (fun j => decide (j ∈ ys.filterMap kd)) (ys.filterMap kd).eraseDups.length) → Q2 (.ref D) H') :
    Ws.tScG kv SO (tI g W (evIt F it)) (TGv g own (asg F t)) (tT g noX (evIfs F iifs)) (tE g noX (ev F ie)) own σ H Q2 := by
  refine TI.step (Ra := ItR g) rs er w fun J H1 m1 S1 ⟨src, items⟩ x1 rs1 er1 it1 w => ?_
  intro D hD
  dsimp only at w
  rcases lcLoop_form (src := src) (step := lcStep F own t iifs ie ρ) (items := items) (S := S1) with ⟨ys, Sf, hL⟩ | hL
  · rw [hL] at w
    have w : WP g (fun c d H' => W c d σ H') (Rel g) m1 S1.length H1 (Kf ys Sf) Q := w
    rcases hK ys Sf with hE | ⟨hall, hy⟩
    · rw [hE] at w
      exact w.err
    have n1 : ¬ m1.hid D := (Off.free rs1 hD).2
    refine ⟨fun i μ H' => μ = items.length - i ∧ i ≤ items.length ∧ ∃ m' S' acc rest, Ext m1 S1.length H1 m' (List.length S') H' ∧ m'.hid D ∧ RS g m' S' H' ∧ H' D = some (SO D (fun j => decide (j ∈ acc.filterMap kd)) (acc.filterMap kd).eraseDups.length) ∧ lcLoop src (lcStep F own t iifs ie ρ) (items.drop i) S' = .ok rest Sf ∧ acc ++ rest = ys,
      ⟨_, rfl, Nat.zero_le _, mHide m1 D, S1, [], ys, Ext.hide rs1 hD, .inr rfl, rs1.hide hD, by rw [upd_same]; simp, by rw [List.drop_zero]; exact hL, rfl⟩, ?_⟩
    rintro i μ H' ⟨rfl, hi, m', S', acc, rest, x', hd', rs', e', hl, hs⟩
    cases hdr : items.drop i with
    | nil =>
      have e : i = items.length := by
        have := List.drop_eq_nil_iff.mp hdr
        omega
      rw [hdr] at hl
      obtain ⟨c, rfl, rfl⟩ := lcLoop_nil hl
      rw [List.append_nil] at hs
      subst hs
      obtain ⟨_, st⟩ := it1 m' _ H' x'.w x'.fz rs' c
      obtain ⟨xu, rsu⟩ := unhide x' rs'
      exact .inl ⟨by rw [e]; exact st, fin m1 _ S1 _ H1 H' D acc rsu (w.from xu) e'⟩
    | cons d ds =>
      rw [hdr] at hl
      obtain ⟨c, xs, S2, r2, hstep, hl2, rfl⟩ := lcLoop_cons hl
      obtain ⟨hlt, hget, hds⟩ := drop_cons hdr
      obtain ⟨g1, g2⟩ := (it1 m' S' H' x'.w x'.fz rs' c).1 i d hget
      refine .inr ⟨g1, _, fun H2 h2 => ⟨items.length - (i + 1), by omega, h2⟩, fun v H'' yv => ?_⟩
      obtain ⟨rs'', x'', rx⟩ := g2 v H'' yv
      have x3 := x'.trans x''
      refine ⟨m', wipeE ρ own, S', d, rs'', (er1.mono x3).wiped own, rx, ?_⟩
      obtain ⟨ρ1, Sa, ha, hstep⟩ := bind_ok hstep
      rw [ha]
      intro m4 H4 σ4 x4 rs4 ⟨er4, k4⟩
      refine ⟨k4.wiped, m4, ρ1, Sa, rs4, er4, ?_⟩
      obtain ⟨k, Sb, hk, hstep⟩ := bind_ok hstep
      rw [hk]
      intro m5 H5 b x5 rs5 rb
      cases rb
      have x5' := (x3.trans x4).trans x5
      have o5 := (x''.trans (x4.trans x5)).hid D hd'
      have e5 := o5.2.trans e'
      cases k with
      | false =>
        rw [if_neg Bool.false_ne_true] at hstep ⊢
        injection hstep with q1 q2
        subst q1 q2
        exact ⟨rfl, hlt, m5, Sb, acc, r2, x5', o5.1, rs5, e5, by rw [hds]; exact hl2, by rw [← hs]; rfl⟩
      | true =>
        rw [if_pos rfl] at hstep ⊢
        refine ⟨m5, ρ1, Sb, rs5, er4.mono x5, ?_⟩
        obtain ⟨y, Sc, hyv, hstep⟩ := bind_ok hstep
        injection hstep with q1 q2
        subst q1 q2
        rw [hyv]
        intro m6 H6 yv x6 rs6 r6
        have e6 := (x6.hid D o5.1).2.trans e5
        have hd6 : m6.hid D := (x6.hid D o5.1).1
        obtain ⟨kk, hkk⟩ := hall y (by rw [← hs]; simp)
        have fm : (acc ++ [y]).filterMap kd = acc.filterMap kd ++ [kk] := by rw [List.filterMap_append, List.filterMap_cons, hkk]; rfl
        have hlen : (acc.filterMap kd).eraseDups.length + 1 < scanBound := by
          have l1 : (acc ++ ([y] ++ r2)).length < 1000 := by rw [hs]; exact hy
          have l2 := List.length_filterMap_le kd acc
          have l3 : (acc.filterMap kd).eraseDups.length ≤ (acc.filterMap kd).length := dups_le _ _ (Nat.le_refl _)
          have l4 : 2000 ≤ scanBound := by decide
          simp only [List.length_append, List.length_cons, List.length_nil] at l1
          omega
        refine ⟨kk, _, _, hkd hkk r6, e6, hlen, rfl, hlt, m6, Sc, acc ++ [y], r2, (x5'.trans x6).own hD n1, hd6, rs6.own hd6, ?_, by rw [hds]; exact hl2, by rw [← hs, List.append_assoc]⟩
        rw [upd_same, fm, dup_step]
        congr 2
        funext j
        simp
  · rw [hL] at w
    exact w.err
/-! how many -/
theorem cr_lenSetK : CallR X (.builtin "len") (fun xs H Q => ∃ (a : Addr) (T : Key → Bool) (n : Nat), xs = [.ref a] ∧ H a = some (SetK X.prog X.w a T n) ∧ n < 2000 ∧ Q (.int n) H) := by
  intro pins s σ H xs us Q I r h
  obtain ⟨a, T, n, rfl, ha, hn, q⟩ := h
  rw [Vals.ref1 r]
  obtain ⟨o, es, ep, tt, ho, hx, hd, _, _, _, hf, hz⟩ := setK_get I ha
  refine call_len_set ho hx hd hf (by rw [hz]; omega) ?_
  rw [hz]
  exact ⟨.int n, H, I.tok _, ⟨_, rfl⟩, q⟩
theorem keysD_map : ∀ {ys : List Iv.D} {ks : List Key}, keysD ys = some ks → (∀ y ∈ ys, ∃ k, keyD y = some k) ∧ ys.filterMap keyD = ks
  | [], ks, h => by cases h; exact ⟨fun _ q => (nomatch q), rfl⟩
  | y :: ys, ks, h => by
    cases e : keyD y with
    | none => rw [keysD, e] at h; cases h
    | some k =>
      rw [keysD, e] at h
      obtain ⟨ks', h1, rfl⟩ := Option.map_eq_some_iff.mp h
      obtain ⟨a, b⟩ := keysD_map h1
      refine ⟨fun z hz => ?_, by rw [List.filterMap_cons, e, b]⟩
      rcases List.mem_cons.mp hz with rfl | hz
      · exact ⟨k, e⟩
      · exact a z hz
theorem i_lenSC {elt tg iter : Expr} {ifs : List Expr} {scope : Scope} {own : List (PySem.Str × Nat)} {p q : Pos} (hgl : Gl X "len") (hm : X.mg "len" = none) (hc : X.calm = true) (hN : X.N.Nodup) (oki : okE iter = true) (hi : PI X tg iter (tI g W (evIt F it))) (ok : BlkOk X.N X.env.scope scope own)
    (hg : ∀ (s : Shared) (H : Hp) (C : Addr) (cl : List (PySem.Str × Addr)) (fp : List Addr), PG (X.blk s H scope (compEnvC scope cl C X.env) fp) tg (TGv g (own.map (·.2)) (asg F t)))
    (ht : ∀ (s : Shared) (H : Hp) (C : Addr) (cl : List (PySem.Str × Addr)) (fp : List Addr), PTs (X.blk s H scope (compEnvC scope cl C X.env) fp) ifs (tT g noX (evIfs F iifs)))
    (he : ∀ (s : Shared) (H : Hp) (C : Addr) (cl : List (PySem.Str × Addr)) (fp : List Addr), PE (X.blk s H scope (compEnvC scope cl C X.env) fp) elt (tE g noX (ev F ie))) :
    PE X (.Call (.Name "len" p) [.SetComp elt [⟨tg, iter, ifs, 0⟩] scope q] [] pos) (tE g W (ev F (.lenSC (own.map (·.2)) t it iifs ie))) := by
  refine PE.imp (pe_callB cr_lenSetK hgl hm (by decide +kernel) (pa_cons (Ws.pe_scG (Ws.like_keys X.prog X.w) hc hN hi ok hg ht he (folded_ok oki)) pa_nil (by rfl)) (by decide) (by decide) (by rfl) (by rfl)) fun σ H Q ⟨m, ρ, S, rs, er, w⟩ => ?_
  rw [ev] at w
  show Ws.tScG kV (SetK X.prog X.w) (tI g W (evIt F it)) (TGv g (own.map (·.2)) (asg F t)) (tT g noX (evIfs F iifs)) (tE g noX (ev F ie)) (own.map (·.2)) σ H (fun x H1 => ∃ (a : Addr) (T : Key → Bool) (n : Nat), [x] = [V.ref a] ∧ H1 a = some (SetK X.prog X.w a T n) ∧ n < 2000 ∧ Q (V.int n) H1)
  refine sc_body keyD (fun e r => (key_rel e r).1) lenSCR (fun ys S => ?_) rs er w fun m1 m' S1 S' H1 H' D ys rs' w' hD => ?_
  · unfold lenSCR
    split
    · rename_i ks hk
      unfold ck
      split
      · rename_i c
        exact .inr ⟨(keysD_map hk).1, c⟩
      · exact .inl rfl
    · exact .inl rfl
  · unfold lenSCR at w'
    split at w'
    · rename_i ks hk
      obtain ⟨c, w'⟩ := w'.ck
      have e := (keysD_map hk).2
      have l2 := List.length_filterMap_le keyD ys
      have l3 := dups_le _ (ys.filterMap keyD) (Nat.le_refl _)
      refine ⟨D, _, _, rfl, hD, by omega, ?_⟩
      rw [e]
      exact w'.now rs' (by rw [rel_int]; rfl)
    · exact w'.err
/-! {k: v for ..} -/
theorem pairsD_app : ∀ {a b : List Iv.D} {e : List (Key × Iv.D)}, pairsD (a ++ b) = some e → ∃ e1 e2, pairsD a = some e1 ∧ pairsD b = some e2 ∧ e = e1 ++ e2
  | [], b, e, h => ⟨[], e, rfl, h, rfl⟩
  | .tup [k, v] :: a, b, e, h => by
    have h' : (match keyD k with | some k => (pairsD (a ++ b)).map ((k, v) :: ·) | none => none) = some e := h
    cases hk : keyD k with
    | none => rw [hk] at h'; cases h'
    | some kk =>
      rw [hk] at h'
      obtain ⟨e', h1, rfl⟩ := Option.map_eq_some_iff.mp h'
      obtain ⟨e1, e2, p1, p2, rfl⟩ := pairsD_app h1
      refine ⟨(kk, v) :: e1, e2, ?_, p2, rfl⟩
      show (match keyD k with | some k => (pairsD a).map ((k, v) :: ·) | none => none) = _
      rw [hk, p1]
      rfl
  | .tup [] :: _, _, _, h => nomatch h
  | .tup [_] :: _, _, _, h => nomatch h
  | .tup (_ :: _ :: _ :: _) :: _, _, _, h => nomatch h
  | .non :: _, _, _, h => nomatch h
  | .bl _ :: _, _, _, h => nomatch h
  | .int _ :: _, _, _, h => nomatch h
  | .str _ :: _, _, _, h => nomatch h
  | .lst _ :: _, _, _, h => nomatch h
  | .scr _ :: _, _, _, h => nomatch h
  | .ref _ :: _, _, _, h => nomatch h
  | .ins _ _ :: _, _, _, h => nomatch h
  | .ty _ :: _, _, _, h => nomatch h
theorem pairsD_one {y z : Iv.D} {e : List (Key × Iv.D)} (h : pairsD [.tup [y, z]] = some e) : ∃ k, keyD y = some k ∧ e = [(k, z)] := by
  have h' : (match keyD y with | some k => (pairsD []).map ((k, z) :: ·) | none => none) = some e := h
  cases hk : keyD y with
  | none => rw [hk] at h'; cases h'
  | some kk => rw [hk] at h'; cases h'; exact ⟨kk, rfl, rfl⟩
theorem pairsD_len : ∀ {a : List Iv.D} {e : List (Key × Iv.D)}, pairsD a = some e → e.length = a.length
  | [], e, h => by cases h; rfl
  | x :: a, e, h => by
    obtain ⟨e1, e2, h1, h2, rfl⟩ := pairsD_app (a := [x]) (b := a) h
    have : e1.length = 1 := by
      cases x with
      | tup l =>
        match l, h1 with
        | [y, z], h1 => obtain ⟨_, _, rfl⟩ := pairsD_one h1; rfl
        | [], h1 => nomatch h1
        | [_], h1 => nomatch h1
        | _ :: _ :: _ :: _, h1 => nomatch h1
      | _ => nomatch h1
    rw [List.length_append, this, pairsD_len h2, List.length_cons]
    omega
theorem dPut_len {kvs : List (Key × Iv.D)} {k : Key} {v : Iv.D} : (dPut kvs k v).length ≤ kvs.length + 1 := by
  unfold dPut
  split
  · rw [List.length_map]; omega
  · rw [List.length_append]; exact Nat.le_refl _
theorem mergeD_snoc {es : List (Key × Iv.D)} {k : Key} {v : Iv.D} : mergeD (es ++ [(k, v)]) = dPut (mergeD es) k v := by unfold mergeD; rw [List.foldl_append]; rfl
theorem mergeD_le : ∀ (es acc : List (Key × Iv.D)), (es.foldl (fun acc kv => dPut acc kv.1 kv.2) acc).length ≤ acc.length + es.length
  | [], acc => Nat.le_refl _
  | kv :: es, acc => by
    rw [List.foldl_cons, List.length_cons]
    have h1 := mergeD_le es (dPut acc kv.1 kv.2)
    have h2 := dPut_len (kvs := acc) (k := kv.1) (v := kv.2)
    omega
/-- the hidden thing becomes a box -/
theorem box_end {c : Cell} {Q : VK} {W' : Value → Option Addr → Hp → Prop} (rs1 : RS g m1 S1 H1) (hD : H1 D = none) (x : Ext m1 S1.length H1 m' S'.length H') (hd : m'.hid D) (rs' : RS g m' S' H') (hc : CellR g m' S'.length H' D c)
    (w : WP g W' (Rel g) m1 S1.length H1 (.ok (.ref S'.length) (S' ++ [some c])) Q) : Q (.ref D) H' := by
  have n1 : ¬ m1.hid D := (Off.free rs1 hD).2
  have ln : (S' ++ [some c]).length = S'.length + 1 := by rw [List.length_append, List.length_singleton]
  have nb : ∀ i, m' i ≠ some D := (rs'.hidS D hd).2
  have xw : ExtW m' S'.length H' (mNew ⟨m'.box, m1.hid⟩ S'.length D) (S'.length + 1) H' := by
    refine ⟨Nat.le_succ _, fun i b l k => by rw [mNew_ne (Nat.ne_of_lt l)] at k; exact k, fun a o e f => ⟨e, fun i k => ?_, fun h => f.2 (x.hid a h).1⟩⟩
    by_cases hi : i = S'.length
    · rw [hi, mNew_same] at k
      cases k
      exact f.2 hd
    · rw [mNew_ne hi] at k
      exact f.1 i k
  refine w (mNew ⟨m'.box, m1.hid⟩ S'.length D) H' (.ref D) ?_ ?_ ?_
  · rw [ln]
    refine ⟨Nat.le_succ_of_le x.le, fun i b l k => ?_, fun a o k f => ?_, fun a h => ⟨h, (x.hid a h).2⟩, x.fz⟩
    · rw [mNew_ne (Nat.ne_of_lt (Nat.lt_of_lt_of_le l x.le))] at k
      exact x.old i b l k
    · obtain ⟨k', f'⟩ := x.keep a o k f
      refine ⟨k', fun i q => ?_, f.2⟩
      by_cases hi : i = S'.length
      · rw [hi, mNew_same] at q
        cases q
        rw [hD] at k
        cases k
      · rw [mNew_ne hi] at q
        exact f'.1 i q
  · refine ⟨fun i b k => ?_, fun i c' k => ?_, fun i j b h1 h2 => ?_, fun b h => ?_⟩
    · rw [ln]
      by_cases hi : i = S'.length
      · subst hi
        rw [mNew_same] at k
        cases k
        exact ⟨_, cellAt_push, hc.monoW xw rfl⟩
      · rw [mNew_ne hi] at k
        obtain ⟨c', h, q⟩ := rs'.dom i b k
        exact ⟨c', by rw [cellAt_push_lt (rs'.lt k)]; exact h, q.monoW xw rfl⟩
    · by_cases hi : i = S'.length
      · exact ⟨D, by rw [hi, mNew_same]⟩
      · have hl := cellAt_lt k
        rw [ln] at hl
        rw [cellAt_push_lt (by omega)] at k
        rw [mNew_ne hi]
        exact rs'.all i c' k
    · by_cases hi : i = S'.length
      · by_cases hj : j = S'.length
        · rw [hi, hj]
        · rw [hi, mNew_same] at h1
          rw [mNew_ne hj] at h2
          cases h1
          exact absurd h2 (nb j)
      · by_cases hj : j = S'.length
        · rw [hj, mNew_same] at h2
          rw [mNew_ne hi] at h1
          cases h2
          exact absurd h1 (nb i)
        · rw [mNew_ne hi] at h1
          rw [mNew_ne hj] at h2
          exact rs'.inj i j b h1 h2
    · obtain ⟨q1, q2⟩ := rs'.hidS b (x.hid b h).1
      refine ⟨q1, fun i k => ?_⟩
      by_cases hi : i = S'.length
      · rw [hi, mNew_same] at k
        cases k
        exact n1 h
      · rw [mNew_ne hi] at k
        exact q2 i k
  · rw [rel_ref, ln]
    exact ⟨Nat.lt_succ_self _, D, rfl, fun b hb => by rw [mNew_same] at hb; cases hb; rfl⟩
noncomputable abbrev dcStep (F : CE) (own : List Nat) (t : Tg) (iifs : List E) (ik ie : E) (ρ : Env) : Iv.D → Sto → R (List Iv.D) := fun d S => (asg F t d (wipeE ρ own) S).bind fun ρ1 S => (evIfs F iifs ρ1 S).bind fun b S => if b = true then (ev F ik ρ1 S).bind fun y S => (ev F ie ρ1 S).bind fun z S => .ok [.tup [y, z]] S else .ok [] S
theorem dc_body {Q : VK} (rs : RS g m S H) (er : EnvR g m S.length H ρ σ) (w : WP g (fun c d H' => W c d σ H') (Rel g) m S.length H (ev F (.dcomp own t it iifs ik ie) ρ S) Q) :
    tDc (tI g W (evIt F it)) (TGv g own (asg F t)) (tT g noX (evIfs F iifs)) (tE g noX (ev F ik)) (tE g noX (ev F ie)) own σ H Q := by
  rw [ev] at w
  refine TI.step (Ra := ItR g) rs er w fun J H1 m1 S1 ⟨src, items⟩ x1 rs1 er1 it1 w => ?_
  intro D hD
  dsimp only at w
  rcases lcLoop_form (src := src) (step := dcStep F own t iifs ik ie ρ) (items := items) (S := S1) with ⟨ys, Sf, hL⟩ | hL
  · rw [hL] at w
    have w : WP g (fun c d H' => W c d σ H') (Rel g) m1 S1.length H1 (mkDct ys Sf) Q := w
    unfold mkDct at w
    split at w
    · rename_i es hes
      obtain ⟨hy, w3⟩ := w.ck
      have n1 : ¬ m1.hid D := (Off.free rs1 hD).2
      refine ⟨fun i μ H' => μ = items.length - i ∧ i ≤ items.length ∧ ∃ m' S' acc e1 kws rest, Ext m1 S1.length H1 m' (List.length S') H' ∧ m'.hid D ∧ RS g m' S' H' ∧ H' D = some (.dK kws) ∧ pairsD acc = some e1 ∧ RelKs g m' S'.length H' (mergeD e1) kws ∧ lcLoop src (dcStep F own t iifs ik ie ρ) (items.drop i) S' = .ok rest Sf ∧ acc ++ rest = ys,
        ⟨_, rfl, Nat.zero_le _, mHide m1 D, S1, [], [], [], ys, Ext.hide rs1 hD, .inr rfl, rs1.hide hD, upd_same, rfl, rfl, by rw [List.drop_zero]; exact hL, rfl⟩, ?_⟩
      rintro i μ H' ⟨rfl, hi, m', S', acc, e1, kws, rest, x', hd', rs', e', hp, ra, hl, hs⟩
      cases hdr : items.drop i with
      | nil =>
        have e : i = items.length := by
          have := List.drop_eq_nil_iff.mp hdr
          omega
        rw [hdr] at hl
        obtain ⟨c, rfl, rfl⟩ := lcLoop_nil hl
        rw [List.append_nil] at hs
        subst hs
        rw [hes] at hp
        cases hp
        obtain ⟨_, st⟩ := it1 m' _ H' x'.w x'.fz rs' c
        exact .inl ⟨by rw [e]; exact st, box_end (c := .dct (mergeD es)) rs1 hD x' hd' rs' ⟨kws, e', ra⟩ w3⟩
      | cons d ds =>
        rw [hdr] at hl
        obtain ⟨c, xs, S2, r2, hstep, hl2, rfl⟩ := lcLoop_cons hl
        obtain ⟨hlt, hget, hds⟩ := drop_cons hdr
        obtain ⟨g1, g2⟩ := (it1 m' S' H' x'.w x'.fz rs' c).1 i d hget
        refine .inr ⟨g1, _, fun H2 h2 => ⟨items.length - (i + 1), by omega, h2⟩, fun v H'' yv => ?_⟩
        obtain ⟨rs'', x'', rx⟩ := g2 v H'' yv
        have x3 := x'.trans x''
        refine ⟨m', wipeE ρ own, S', d, rs'', (er1.mono x3).wiped own, rx, ?_⟩
        obtain ⟨ρ1, Sa, ha, hstep⟩ := bind_ok hstep
        rw [ha]
        intro m4 H4 σ4 x4 rs4 ⟨er4, k4⟩
        refine ⟨k4.wiped, m4, ρ1, Sa, rs4, er4, ?_⟩
        obtain ⟨k, Sb, hk, hstep⟩ := bind_ok hstep
        rw [hk]
        intro m5 H5 b x5 rs5 rb
        cases rb
        have x5' := (x3.trans x4).trans x5
        have o5 := (x''.trans (x4.trans x5)).hid D hd'
        have e5 := o5.2.trans e'
        have ra5 := RelKs.monoW (x''.trans (x4.trans x5)).w ra
        cases k with
        | false =>
          rw [if_neg Bool.false_ne_true] at hstep ⊢
          injection hstep with q1 q2
          subst q1 q2
          exact ⟨rfl, hlt, m5, Sb, acc, e1, kws, r2, x5', o5.1, rs5, e5, hp, ra5, by rw [hds]; exact hl2, by rw [← hs]; rfl⟩
        | true =>
          rw [if_pos rfl] at hstep ⊢
          refine ⟨m5, ρ1, Sb, rs5, er4.mono x5, ?_⟩
          obtain ⟨y, Sc, hyv, hstep⟩ := bind_ok hstep
          rw [hyv]
          intro m6 H6 yv x6 rs6 r6
          refine ⟨m6, ρ1, Sc, rs6, (er4.mono x5).mono x6, ?_⟩
          obtain ⟨z, Sd, hzv, hstep⟩ := bind_ok hstep
          injection hstep with q1 q2
          subst q1 q2
          rw [hzv]
          intro m7 H7 zv x7 rs7 r7
          have o7 := (x6.trans x7).hid D o5.1
          have e7 := o7.2.trans e5
          obtain ⟨ea, eb, p1, p2, p3⟩ := pairsD_app (a := acc) (b := [Iv.D.tup [y, z]] ++ r2) (by rw [hs]; exact hes)
          obtain ⟨ec, ed, p4, p5, p6⟩ := pairsD_app (a := [Iv.D.tup [y, z]]) (b := r2) p2
          obtain ⟨kk, hkk, rfl⟩ := pairsD_one p4
          rw [hp] at p1
          cases p1
          obtain ⟨rfl, okk⟩ := key_rel hkk r6
          have hacc : pairsD (acc ++ [Iv.D.tup [y, z]]) = some (e1 ++ [(kk, z)]) := by
            have go : ∀ (a : List Iv.D) (e : List (Key × Iv.D)), pairsD a = some e → pairsD (a ++ [Iv.D.tup [y, z]]) = some (e ++ [(kk, z)]) := by
              intro a
              induction a with
              | nil => intro e h; cases h; exact p4
              | cons q a ih =>
                intro e h
                obtain ⟨f1, f2, h1, h2, rfl⟩ := pairsD_app (a := [q]) (b := a) h
                have i2 := ih f2 h2
                cases q with
                | tup l =>
                  match l, h1 with
                  | [u, v], h1 =>
                    obtain ⟨k0, hk0, rfl⟩ := pairsD_one h1
                    show (match keyD u with | some k => (pairsD (a ++ [Iv.D.tup [y, z]])).map ((k, v) :: ·) | none => none) = _
                    rw [hk0, i2]
                    rfl
                  | [], h1 => nomatch h1
                  | [_], h1 => nomatch h1
                  | _ :: _ :: _ :: _, h1 => nomatch h1
                | _ => nomatch h1
            exact go acc e1 hp
          have hlen : kws.length < sizeLine := by
            rw [← (relKs_len ra).1]
            have l1 : (mergeD e1).length ≤ 0 + e1.length := mergeD_le e1 []
            have l2 := pairsD_len hp
            have l3 : (acc ++ ([Iv.D.tup [y, z]] ++ r2)).length < sizeLine := by rw [hs]; exact hy
            simp only [List.length_append, List.length_cons, List.length_nil] at l3
            omega
          refine ⟨kws, kk, rfl, e7, hlen, rfl, hlt, m7, Sd, acc ++ [Iv.D.tup [y, z]], e1 ++ [(kk, z)], _, r2, ((x5'.trans x6).trans x7).own hD n1, o7.1, rs7.own o7.1, upd_same, hacc, ?_, by rw [hds]; exact hl2, by rw [← hs, List.append_assoc]⟩
          rw [mergeD_snoc]
          exact relKs_put okk (Rel.monoW (ExtW.own o7.1) _ _ r7) (RelKs.monoW ((x6.trans x7).w.trans (ExtW.own o7.1)) ra5)
    · exact w.err
  · rw [hL] at w
    exact w.err
theorem i_dcomp {kx vx tg iter : Expr} {ifs : List Expr} {scope : Scope} {own : List (PySem.Str × Nat)} (hc : X.calm = true) (hN : X.N.Nodup) (oki : okE iter = true) (hi : PI X tg iter (tI g W (evIt F it))) (ok : BlkOk X.N X.env.scope scope own)
    (hg : ∀ (s : Shared) (H : Hp) (C : Addr) (cl : List (PySem.Str × Addr)) (fp : List Addr), PG (X.blk s H scope (compEnvC scope cl C X.env) fp) tg (TGv g (own.map (·.2)) (asg F t)))
    (ht : ∀ (s : Shared) (H : Hp) (C : Addr) (cl : List (PySem.Str × Addr)) (fp : List Addr), PTs (X.blk s H scope (compEnvC scope cl C X.env) fp) ifs (tT g noX (evIfs F iifs)))
    (hk : ∀ (s : Shared) (H : Hp) (C : Addr) (cl : List (PySem.Str × Addr)) (fp : List Addr), PE (X.blk s H scope (compEnvC scope cl C X.env) fp) kx (tE g noX (ev F ik)))
    (he : ∀ (s : Shared) (H : Hp) (C : Addr) (cl : List (PySem.Str × Addr)) (fp : List Addr), PE (X.blk s H scope (compEnvC scope cl C X.env) fp) vx (tE g noX (ev F ie))) :
    PE X (.DictComp kx vx [⟨tg, iter, ifs, 0⟩] scope pos) (tE g W (ev F (.dcomp (own.map (·.2)) t it iifs ik ie))) :=
  PE.imp (pe_dc hc hN hi ok hg ht hk he (folded_ok oki)) fun σ H Q ⟨m, ρ, S, rs, er, w⟩ => dc_body rs er w
/-! name = {..: .. for ..}, the name a local -/
/-! displays -/
def tKey (k : Key) : TE := fun _ H Q => Q (kV k) H
theorem pe_keyS {z : Str} {j : Nat} : PE X (.Constant (.str z) j pos) (tKey (.inr z)) := PE.imp pe_str fun _ _ _ q => q
theorem disp_pairs {D : Addr} : ∀ (ks : List Key) (es : List E) {m : Mp} {S : Sto} {H : Hp} {ds : List Iv.D} {S' : Sto}, ks.length = es.length → RS g m S H → EnvR g m S.length H ρ σ → evs F es ρ S = .ok ds S' → ∀ Q : List (V × V) → Hp → Prop,
    (∀ m' H' vs, Ext m S.length H m' S'.length H' → RS g m' S' H' → Rels g m' S'.length H' ds vs → Q ((ks.zip vs).map fun kv => (kV kv.1, kv.2)) H') → tPairs ((ks.zip es).map fun ke => (tKey ke.1, tE g W (ev F ke.2))) σ H Q
  | [], [], m, S, H, ds, S', _, rs, er, h, Q, q => by
    rw [evs] at h
    injection h with h1 h2
    subst h1 h2
    exact q m H [] Ext.refl rs Rels.nil
  | k :: ks, e :: es, m, S, H, ds, S', l, rs, er, h, Q, q => by
    rw [evs] at h
    obtain ⟨d, S1, h1, h⟩ := bind_ok h
    obtain ⟨ds1, S2, h2, h⟩ := bind_ok h
    injection h with e1 e2
    subst e1 e2
    show tE g W (ev F e) σ H fun y H2 => tPairs ((ks.zip es).map fun ke => (tKey ke.1, tE g W (ev F ke.2))) σ H2 fun ps H3 => Q ((kV k, y) :: ps) H3
    refine ⟨m, ρ, S, rs, er, ?_⟩
    rw [h1]
    intro m1 H1 v x1 rs1 r1
    exact disp_pairs (D := D) ks es (Nat.succ.inj l) rs1 (er.mono x1) h2 _ fun m' H' vs x2 rs2 rv => q m' H' (v :: vs) (x1.trans x2) rs2 (Rels.cons (Rel.mono x2 _ _ r1) rv)
  | [], _ :: _, _, _, _, _, _, l, _, _, _, _, _ => nomatch l
  | _ :: _, [], _, _, _, _, _, l, _, _, _, _, _ => nomatch l
theorem relKs_merge {m : Mp} {n : Nat} {H : Hp} : ∀ {ks : List Key} {ds : List Iv.D} {vs : List V} {acc : List (Key × Iv.D)} {wac : List (Key × V)}, (∀ k ∈ ks, okKey k) → Rels g m n H ds vs → RelKs g m n H acc wac → RelKs g m n H ((ks.zip ds).foldl (fun acc kv => dPut acc kv.1 kv.2) acc) ((ks.zip vs).foldl (fun acc kv => putK acc kv.1 kv.2) wac)
  | [], _, _, _, _, _, _, h => h
  | k :: ks, [], _, _, _, _, r, h => by
    unfold Rels at r
    subst r
    exact h
  | k :: ks, d :: ds, _, _, _, ok, r, h => by
    unfold Rels at r
    obtain ⟨w, ws, rfl, r1, r2⟩ := r
    exact relKs_merge (ks := ks) (ds := ds) (vs := ws) (acc := dPut _ k d) (wac := putK _ k w) (fun k' hk => ok k' (List.mem_cons_of_mem _ hk)) r2 (relKs_put (ok k (List.mem_cons_self ..)) r1 h)
theorem i_ddisp {keys : List (Option Expr)} {values : List Expr} {ks : List Key} {es : List E} (hp : PPs X pos keys values ((ks.zip es).map fun ke => (tKey ke.1, tE g W (ev F ke.2)))) (ok : ∀ k ∈ ks, okKey k) (hl : ks.length = es.length := by rfl) (hall : keys.all (·.isSome) = true := by rfl) (hkl : keys.length = values.length := by rfl) (h0 : keys ≠ [] := by simp)
    (h15 : keys.length ≤ 15 := by decide) : PE X (.Dict keys values pos) (tE g W (ev F (.ddisp ks es))) := by
  refine PE.imp (pe_disp hp hall hkl h0 h15) fun σ H Q ⟨m, ρ, S, rs, er, w⟩ => ?_
  rw [ev] at w
  unfold dispR at w
  split at w
  · rename_i ds S2 he
    obtain ⟨⟨c1, c2⟩, w⟩ := w.ck
    intro D hD
    have n1 : ¬ m.hid D := (Off.free rs hD).2
    have x0 := Ext.hide (o := .dK []) rs hD
    refine disp_pairs (D := D) ks es hl (rs.hide hD) (er.mono x0) he _ fun m' H' vs x' rs' rv => ?_
    have hd' : m'.hid D := (x'.hid D (.inr rfl)).1
    have e' : H' D = some (.dK []) := (x'.hid D (.inr rfl)).2.trans upd_same
    refine ⟨e', ks.zip vs, rfl, ?_, ?_⟩
    · rw [List.length_zip]
      omega
    · exact box_end (c := .dct (mergeD (ks.zip ds))) rs hD ((x0.trans x').own hD n1) hd' (rs'.own hd') ⟨_, upd_same, relKs_merge ok (Rels.monoW (ExtW.own hd') _ _ rv) rfl⟩ w
  · exact w.elim
/-! k in d -/
/-! l.count(x) -/
theorem mok0 {name : Str} {ks : List Str} {n : Nat} : ∀ c f arr, ([] : List (Nat × Nat × List Ar)).lookup c = some (f, arr) → MOk g X F name c f n ks arr := fun _ _ _ h => nomatch h
theorem mokc {name : Str} {ks : List Str} {n c f : Nat} {arr : List Ar} {ms : List (Nat × Nat × List Ar)} (h : MOk g X F name c f n ks arr) (t : ∀ c' f' arr', ms.lookup c' = some (f', arr') → MOk g X F name c' f' n ks arr') : ∀ c' f' arr', ((c, f, arr) :: ms).lookup c' = some (f', arr') → MOk g X F name c' f' n ks arr' := by
  intro c' f' arr' e
  rw [List.lookup_cons] at e
  by_cases hc : c' = c
  · subst hc
    rw [show (c' == c') = true from beq_self_eq_true c'] at e
    cases e
    exact h
  · rw [show (c' == c) = false from beq_eq_false_iff_ne.mpr hc] at e
    exact t c' f' arr' e
/-! a module's tuple -/
theorem c_gU {x : Str} {a : Addr} {ds : List Iv.D} {vs : List V} (h : X.mg x = some (.ref a)) (hq : ∀ H, SqT g.K H a vs) (r : ∀ m n H, Rels g m n H ds vs) (hg : Gl X x := by rfl) (hd : (x == ("__debug__" : Str)) = false := by decide) : PE X (.Name x pos) (tE g W (ev F (.con (.tup ds)))) :=
  i_con (v := .ref a) (pe_glob hg h rfl hd) fun _ _ _ => by
    rw [rel_tup]
    exact ⟨a, vs, rfl, .inr (.inl hq), r _ _ _⟩
theorem relsC_s {z : Str} {ds : List Iv.D} {vs : List V} (ok : okS z) (h : ∀ m n H, Rels g m n H ds vs) : ∀ m n H, Rels g m n H (.str z :: ds) (.str z :: vs) := fun _ _ _ => Rels.cons (by rw [rel_str]; exact ⟨rfl, ok⟩) (h _ _ _)
theorem relsC_n : ∀ m n H, Rels g m n H [] [] := fun _ _ _ => Rels.nil
end
end Iv

/-! ### plain laws: tools -/
namespace Iv
open PySem
-- setAt_len stands in N8
theorem cellAt_set1 {S : Sto} {n : Nat} {c : Cell} (h : n < S.length) : cellAt (setAt S n c) n = some c := by
  unfold cellAt setAt
  rw [List.getElem?_set_self h]
  rfl
theorem cellAt_set_ne1 {S : Sto} {n i : Nat} {c : Cell} (h : i ≠ n) : cellAt (setAt S n c) i = cellAt S i := by
  unfold cellAt setAt
  rw [List.getElem?_set_ne (Ne.symm h)]
theorem cellAt_del_ne1 {S : Sto} {n i : Nat} (h : i ≠ n) : cellAt (S.set n none) i = cellAt S i := by
  unfold cellAt
  rw [List.getElem?_set_ne (Ne.symm h)]
theorem callN_at {T : List Fn} {k f : Nat} {d : Fn} {ds : List D} {S : Sto} (h : T[f]? = some d) (hl : ds.length = d.np) : callN T (k + 1) f ds S = run (callN T k) d.n d.body ds S := by
  unfold callN
  rw [h]
  exact ck_of hl
/-- all boxes but bs stay -/
structure Keep (bs : List Nat) (S S' : Sto) : Prop where
  le : S.length ≤ S'.length
  eq : ∀ i, i < S.length → i ∉ bs → cellAt S' i = cellAt S i
theorem Keep.refl {bs : List Nat} {S : Sto} : Keep bs S S := ⟨Nat.le_refl _, fun _ _ _ => rfl⟩
theorem Keep.trans {bs : List Nat} {S S1 S2 : Sto} (h : Keep bs S S1) (k : Keep bs S1 S2) : Keep bs S S2 := ⟨Nat.le_trans h.le k.le, fun i l n => (k.eq i (Nat.lt_of_lt_of_le l h.le) n).trans (h.eq i l n)⟩
theorem Keep.mono {bs cs : List Nat} {S S' : Sto} (h : Keep bs S S') (k : ∀ b ∈ bs, b ∈ cs) : Keep cs S S' := ⟨h.le, fun i l n => h.eq i l fun z => n (k i z)⟩
theorem Keep.set {b : Nat} {S : Sto} {c : Cell} : Keep [b] S (setAt S b c) := ⟨Nat.le_of_eq setAt_len.symm, fun i _ n => cellAt_set_ne1 fun z => n (by rw [z]; exact List.mem_singleton.mpr rfl)⟩
theorem Keep.push {bs : List Nat} {S : Sto} {c : Option Cell} : Keep bs S (S ++ [c]) := ⟨by rw [List.length_append]; exact Nat.le_add_right _ _, fun i l _ => cellAt_push_lt l⟩
theorem Keep.del {bs : List Nat} {S S' : Sto} {n : Nat} (h : Keep bs S S') (l : S.length ≤ n) : Keep bs S (S'.set n none) := ⟨by rw [List.length_set]; exact h.le, fun i il ni => (cellAt_del_ne1 (by omega)).trans (h.eq i il ni)⟩
theorem Keep.own {bs : List Nat} {S S' : Sto} {n : Nat} {c : Cell} (h : Keep bs S S') (l : S.length ≤ n) : Keep bs S (setAt S' n c) := ⟨by rw [setAt_len]; exact h.le, fun i il ni => (cellAt_set_ne1 (by omega)).trans (h.eq i il ni)⟩
theorem forLoop_inv {step : D → Env → Sto → R Fl} {src : Src} {items : List D} {ρ : Env} {S : Sto} (Inv : Nat → Env → Sto → Prop) (h0 : Inv 0 ρ S) (ht : ∀ i ρ S, Inv i ρ S → src.there S)
    (hs : ∀ i d ρ S, items[i]? = some d → Inv i ρ S → ∃ ρ' S', (step d ρ S = .ok (.next ρ') S' ∨ step d ρ S = .ok (.cont ρ') S') ∧ Inv (i + 1) ρ' S') :
    ∃ ρ' S', forLoop src step items ρ S = .ok (.next ρ') S' ∧ Inv items.length ρ' S' := by
  have go : ∀ (n i : Nat) (ρ : Env) (S : Sto), items.length - i = n → i ≤ items.length → Inv i ρ S → ∃ ρ' S', forLoop src step (items.drop i) ρ S = .ok (.next ρ') S' ∧ Inv items.length ρ' S' := by
    intro n
    induction n with
    | zero =>
      intro i ρ S hn hi hI
      have e : i = items.length := by omega
      subst e
      rw [List.drop_length, forLoop, ck_of (ht _ _ _ hI)]
      exact ⟨ρ, S, rfl, hI⟩
    | succ n ih =>
      intro i ρ S hn hi hI
      have hlt : i < items.length := by omega
      rw [List.drop_eq_getElem_cons hlt, forLoop, ck_of (ht _ _ _ hI)]
      obtain ⟨ρ', S', h, hI'⟩ := hs i _ ρ S (List.getElem?_eq_getElem hlt) hI
      rcases h with h | h
      · rw [h, R.turn_next]
        exact ih (i + 1) ρ' S' (by omega) hlt hI'
      · rw [h, R.turn_cont]
        exact ih (i + 1) ρ' S' (by omega) hlt hI'
  exact go _ 0 ρ S rfl (Nat.zero_le _) h0
theorem lcLoop_inv {step : D → Sto → R (List D)} {src : Src} {items : List D} {S : Sto} (Inv : Nat → List D → Sto → Prop) (h0 : Inv 0 [] S) (ht : ∀ i ys S, Inv i ys S → src.there S)
    (hs : ∀ i d ys S, items[i]? = some d → Inv i ys S → ∃ zs S', step d S = .ok zs S' ∧ Inv (i + 1) (ys ++ zs) S') :
    ∃ ys S', lcLoop src step items S = .ok ys S' ∧ Inv items.length ys S' := by
  have go : ∀ (n i : Nat) (acc : List D) (S : Sto), items.length - i = n → i ≤ items.length → Inv i acc S → ∃ ys S', lcLoop src step (items.drop i) S = .ok ys S' ∧ Inv items.length (acc ++ ys) S' := by
    intro n
    induction n with
    | zero =>
      intro i acc S hn hi hI
      have e : i = items.length := by omega
      subst e
      rw [List.drop_length, lcLoop, ck_of (ht _ _ _ hI)]
      exact ⟨[], S, rfl, by rw [List.append_nil]; exact hI⟩
    | succ n ih =>
      intro i acc S hn hi hI
      have hlt : i < items.length := by omega
      rw [List.drop_eq_getElem_cons hlt, lcLoop, ck_of (ht _ _ _ hI)]
      obtain ⟨zs, S', h, hI'⟩ := hs i _ acc S (List.getElem?_eq_getElem hlt) hI
      obtain ⟨ys, S2, h2, hI2⟩ := ih (i + 1) (acc ++ zs) S' (by omega) hlt hI'
      rw [h]
      dsimp only
      rw [h2]
      exact ⟨zs ++ ys, S2, rfl, by rw [← List.append_assoc]; exact hI2⟩
  obtain ⟨ys, S', h, hI⟩ := go _ 0 [] S rfl (Nat.zero_le _) h0
  exact ⟨ys, S', h, by rw [List.nil_append] at hI; exact hI⟩
end Iv
namespace Iv
open PySem
section
variable {F : CE} {st : St} {sts : List St} {ρ ρ' : Env} {S S' : Sto} {d : D} {r : R Fl}
theorem exs_next (h : ex F st ρ S = .ok (.next ρ') S') : exs F (st :: sts) ρ S = exs F sts ρ' S' := by
  rw [exs, h]
  rfl
theorem exs_ret (h : ex F st ρ S = .ok (.ret d) S') : exs F (st :: sts) ρ S = .ok (.ret d) S' := by
  rw [exs, h]
  rfl
theorem run_ret {n : Nat} {body : List St} {ds : List D} (h : exs F body (ds.map some ++ List.replicate (n - ds.length) none) S = .ok (.ret d) S') : Iv.run F n body ds S = .ok d S' := by
  unfold Iv.run
  rw [h]
end
end Iv
namespace Iv
open PySem
theorem lcLoop_enc {α : Type} {step : D → Sto → R (List D)} {enc : α → D} {f : α → List D} {S : Sto} : ∀ {items : List α}, (∀ a ∈ items, step (enc a) S = .ok (f a) S) → lcLoop .fix step (items.map enc) S = .ok (items.flatMap f) S
  | [], _ => by
    rw [List.map_nil, lcLoop]
    exact ck_of (show Src.fix.there S from trivial)
  | d :: ds, h => by
    rw [List.map_cons, lcLoop, ck_of (show Src.fix.there S from trivial), h d (List.mem_cons_self ..)]
    dsimp only
    rw [lcLoop_enc fun e he => h e (List.mem_cons_of_mem _ he)]
    rfl
theorem ev_lc {F : CE} {box : Bool} {own : List Nat} {tg : Tg} {it : It} {ifs : List E} {elt : E} {ρ : Env} {S S1 S2 : Sto} {src : Src} {items ys : List D} (hi : evIt F it ρ S = .ok (src, items) S1) (hl : lcLoop src (lcStep F own tg ifs elt ρ) items S1 = .ok ys S2) (c : ys.length ≤ sizeLine) :
    ev F (.lc box own tg it ifs elt) ρ S = mkL box ys S2 := by
  rw [ev, hi]
  simp only [R.bind_ok]
  have hl' : lcLoop src (fun d S => (asg F tg d (wipeE ρ own) S).bind fun ρ1 S => (evIfs F ifs ρ1 S).bind fun k S => if k = true then (ev F elt ρ1 S).bind fun y S => .ok [y] S else .ok [] S) items S1 = .ok ys S2 := hl
  rw [hl']
  exact ck_of c
theorem ev_bi1 {F : CE} {b : Bi} {e : E} {ρ : Env} {S S1 : Sto} {x : D} (h : ev F e ρ S = .ok x S1) : ev F (.bi b [e]) ρ S = biR b [x] S1 := by
  rw [ev, evs1, h]
  rfl
theorem ev_bi2 {F : CE} {b : Bi} {e e' : E} {ρ : Env} {S S1 S2 : Sto} {x y : D} (h : ev F e ρ S = .ok x S1) (h' : ev F e' ρ S1 = .ok y S2) : ev F (.bi b [e, e']) ρ S = biR b [x, y] S2 := by
  rw [ev, evs2, h]
  simp only [R.bind_ok]
  rw [h']
  rfl
theorem ex_ret {F : CE} {e : E} {ρ : Env} {S S1 : Sto} {x : D} (h : ev F e ρ S = .ok x S1) : ex F (.ret e) ρ S = .ok (.ret x) S1 := by
  rw [ex, h]
  rfl
theorem ex_asg {F : CE} {i : Nat} {e : E} {ρ : Env} {S S1 : Sto} {x : D} (h : ev F e ρ S = .ok x S1) : ex F (.asg (.var i) e) ρ S = .ok (.next (ρ.set i (some x))) S1 := by
  rw [ex, h, R.go_ok, asg]
  rfl
theorem ev_var {F : CE} {i : Nat} {ρ : Env} {S : Sto} {d : D} (h : ρ[i]? = some (some d)) : ev F (.var i) ρ S = .ok d S := by
  rw [ev, h]
theorem ev_call1 {F : CE} {f : Nat} {arr : List Ar} {es : List E} {ρ : Env} {S S1 : Sto} {ds ps : List D} (h : evs F es ρ S = .ok ds S1) (hp : pick ds arr = some ps) : ev F (.call f arr es) ρ S = F f ps S1 := by
  rw [ev, h]
  simp only [R.bind_ok]
  unfold callR
  rw [hp]
theorem flat_one {α β : Type} (f : α → β) : ∀ l : List α, (l.flatMap fun x => [f x]) = l.map f
  | [] => rfl
  | a :: l => by
    rw [List.flatMap_cons, flat_one f l]
    rfl
theorem blsD_map {α : Type} (f : α → Bool) : ∀ l : List α, blsD (l.map fun x => D.bl (f x)) = some (l.map f)
  | [] => rfl
  | i :: l => by
    rw [List.map_cons, blsD, blsD_map f l]
    rfl
theorem eqv_int {a b : Int} : D.eqv (.int a) (.int b) = (a == b) := by simp [D.eqv]
mutual
theorem eqv_self : ∀ d : D, d.fz = true → d.eqv d = true
  | .non, _ => by simp [D.eqv]
  | .bl _, _ => by simp [D.eqv]
  | .int _, _ => by simp [D.eqv]
  | .str _, _ => by simp [D.eqv]
  | .tup xs, h => by simp only [D.eqv]; exact eqvs_self xs (by simpa [D.fz] using h)
  | .lst xs, h => by simp only [D.eqv]; exact eqvs_self xs (by simpa [D.fz] using h)
  | .scr xs, h => by simp only [D.eqv]; exact eqvs_self xs (by simpa [D.fz] using h)
  | .ref _, h => by simp [D.fz] at h
  | .ins _ _, h => by simp [D.fz] at h
  | .ty _, h => by simp [D.fz] at h
theorem eqvs_self : ∀ ds : List D, D.fzs ds = true → D.eqvs ds ds = true
  | [], _ => by simp [D.eqvs]
  | d :: ds, h => by
    simp only [D.fzs, Bool.and_eq_true] at h
    simp only [D.eqvs, Bool.and_eq_true]
    exact ⟨eqv_self d h.1, eqvs_self ds h.2⟩
end
end Iv
namespace Iv
open PySem
theorem lcLoop_map {α : Type} {step : D → Sto → R (List D)} {enc : α → D} {f : α → D} {S : Sto} {items : List α} (h : ∀ a ∈ items, step (enc a) S = .ok [f a] S) : lcLoop .fix step (items.map enc) S = .ok (items.map f) S :=
  (lcLoop_enc (f := fun a => [f a]) h).trans (by rw [flat_one])
theorem bi_all {α : Type} {l : List α} {f : α → Bool} {S : Sto} : biR .all [.lst (l.map fun x => .bl (f x))] S = .ok (.bl (l.all f)) S := by
  show (match (some (l.map fun x => D.bl (f x))).bind blsD with | some bs => R.ok (D.bl (bs.all id)) S | none => .err) = _
  rw [Option.bind_some, blsD_map]
  show R.ok (D.bl ((l.map f).all id)) S = _
  rw [List.all_map]
  rfl
end Iv
namespace Iv
open PySem
noncomputable abbrev forStep (F : CE) (t : Tg) (body : List St) : D → Env → Sto → R Fl := fun d ρ S => (asg F t d ρ S).st fun ρ S => exs F body ρ S
theorem ex_for {F : CE} {t : Tg} {it : It} {body : List St} {ρ : Env} {S S1 : Sto} {src : Src} {items : List D} (h : evIt F it ρ S = .ok (src, items) S1) : ex F (.for t it body) ρ S = forLoop src (forStep F t body) items ρ S1 := by
  rw [ex, h]
  rfl
theorem forStep_var {F : CE} {i : Nat} {body : List St} {d : D} {ρ : Env} {S : Sto} : forStep F (.var i) body d ρ S = exs F body (ρ.set i (some d)) S := by
  unfold forStep
  rw [asg]
  rfl
theorem exs_end {F : CE} {ρ : Env} {S : Sto} : exs F [] ρ S = .ok (.next ρ) S := by rw [exs]
theorem get_map {α β : Type} {f : α → β} {l : List α} {i : Nat} {b : β} (h : (l.map f)[i]? = some b) : ∃ a, l[i]? = some a ∧ b = f a := by
  rw [List.getElem?_map] at h
  obtain ⟨a, ha, e⟩ := Option.map_eq_some_iff.mp h
  exact ⟨a, ha, e.symm⟩
theorem rng_get {lo : Int} {n i : Nat} {d : D} (h : (rngD lo n)[i]? = some d) : d = .int (lo + i) ∧ i < n := by
  unfold rngD at h
  obtain ⟨j, hj, rfl⟩ := get_map h
  obtain ⟨hl, e⟩ := List.getElem?_eq_some_iff.mp hj
  rw [List.getElem_range] at e
  rw [List.length_range] at hl
  subst e
  exact ⟨rfl, hl⟩
theorem rng_len {lo : Int} {n : Nat} : (rngD lo n).length = n := by
  unfold rngD
  rw [List.length_map, List.length_range]
end Iv
namespace Iv
open PySem
section
variable {F : CE} {a b : E} {ρ ρ' : Env} {S S1 S2 S3 : Sto} {x y z : D}
theorem ev_bin {box : Bool} {op : Bop} (h : ev F a ρ S = .ok x S1) (h' : ev F b ρ S1 = .ok y S2) : ev F (.bin box op a b) ρ S = binR box op x y S2 := by
  rw [ev, h]
  simp only [R.bind_ok]
  rw [h']
  rfl
theorem ev_cmp {op : Cop} (h : ev F a ρ S = .ok x S1) (h' : ev F b ρ S1 = .ok y S2) : ev F (.cmp op a b) ρ S = cmpR op x y S2 := by
  rw [ev, h]
  simp only [R.bind_ok]
  rw [h']
  rfl
theorem ev_idx (h : ev F a ρ S = .ok x S1) (h' : ev F b ρ S1 = .ok y S2) : ev F (.idx a b) ρ S = idxR x y S2 := by
  rw [ev, h]
  simp only [R.bind_ok]
  rw [h']
  rfl
theorem ex_ite {c : E} {p q : List St} {k : Bool} {r : R Fl} (h : ev F c ρ S = .ok (.bl k) S1) (hr : (if k = true then exs F p ρ S1 else exs F q ρ S1) = r) : ex F (.ite c p q) ρ S = r := by
  rw [ex, h, R.bind_ok]
  exact hr
theorem ex_expr (h : ev F a ρ S = .ok x S1) : ex F (.expr a) ρ S = .ok (.next ρ) S1 := by
  rw [ex, h]
  rfl
theorem exs_one {st : St} {f : Fl} (h : ex F st ρ S = .ok f S1) : exs F [st] ρ S = .ok f S1 := by
  rw [exs, h]
  cases f <;> simp [exs]
end
end Iv
namespace Iv
theorem Keep.fresh {bs cs : List Nat} {S S' : Sto} (h : Keep cs S S') (k : ∀ b ∈ cs, b ∈ bs ∨ S.length ≤ b) : Keep bs S S' :=
  ⟨h.le, fun i l n => h.eq i l fun z => (k i z).elim n fun q => by omega⟩
end Iv
namespace Iv
open PySem
theorem lcLoop_mapS {α : Type} {step : D → Sto → R (List D)} {enc : α → D} {f : α → D} {S : Sto} {src : Src} (ht : src.there S) : ∀ {items : List α}, (∀ a ∈ items, step (enc a) S = .ok [f a] S) → lcLoop src step (items.map enc) S = .ok (items.map f) S
  | [], _ => by
    rw [List.map_nil, lcLoop]
    exact ck_of ht
  | d :: ds, h => by
    rw [List.map_cons, lcLoop, ck_of ht, h d (List.mem_cons_self ..)]
    dsimp only
    rw [lcLoop_mapS ht fun e he => h e (List.mem_cons_of_mem _ he)]
    rfl
theorem ev_tup {F : CE} {es : List E} {ρ : Env} {S S1 : Sto} {ds : List D} (h : evs F es ρ S = .ok ds S1) (l : ds.length ≤ 1000) : ev F (.tup es) ρ S = .ok (.tup ds) S1 := by
  rw [ev, h, R.bind_ok]
  exact ck_of (Nat.le_trans l (by decide))
theorem ev_lst {F : CE} {box : Bool} {es : List E} {ρ : Env} {S S1 : Sto} {ds : List D} (h : evs F es ρ S = .ok ds S1) (l : ds.length ≤ 1000) : ev F (.lst box es) ρ S = mkL box ds S1 := by
  rw [ev, h, R.bind_ok]
  exact ck_of (Nat.le_trans l (by decide))
theorem evs_nil {F : CE} {ρ : Env} {S : Sto} : evs F [] ρ S = .ok [] S := by rw [evs]
theorem evs_cons {F : CE} {e : E} {es : List E} {ρ : Env} {S S1 S2 : Sto} {d : D} {ds : List D} (h : ev F e ρ S = .ok d S1) (h' : evs F es ρ S1 = .ok ds S2) : evs F (e :: es) ρ S = .ok (d :: ds) S2 := by
  rw [evs, h, R.bind_ok, h']
  rfl
theorem evIt_e {F : CE} {e : E} {ρ : Env} {S S1 : Sto} {x : D} {w : Src × List D} (h : ev F e ρ S = .ok x S1) (hw : walkOf S1 x = some w) : evIt F (.e e) ρ S = .ok w S1 := by
  rw [evIt, h, R.bind_ok, hw]
theorem evIt_rng1 {F : CE} {e : E} {ρ : Env} {S S1 : Sto} {i : Int} (h : ev F e ρ S = .ok (.int i) S1) (hi : smallI i) : evIt F (.rng1 e) ρ S = .ok (.fix, rngD 0 i.toNat) S1 := by
  rw [evIt, h, R.bind_ok]
  exact ck_of hi
end Iv
namespace Iv
open PySem
theorem fzs_map {α : Type} {f : α → D} : ∀ {l : List α}, (∀ a ∈ l, (f a).fz = true) → D.fzs (l.map f) = true
  | [], _ => by simp [D.fzs]
  | a :: l, h => by
    rw [List.map_cons]
    simp only [D.fzs, Bool.and_eq_true]
    exact ⟨h a (List.mem_cons_self ..), fzs_map fun b hb => h b (List.mem_cons_of_mem _ hb)⟩
theorem dps_map {α : Type} {f : α → D} {n : Nat} : ∀ {l : List α}, (∀ a ∈ l, (f a).dp ≤ n) → D.dps (l.map f) ≤ n
  | [], _ => by simp [D.dps]
  | a :: l, h => by
    rw [List.map_cons]
    simp only [D.dps]
    exact Nat.max_le.mpr ⟨h a (List.mem_cons_self ..), dps_map fun b hb => h b (List.mem_cons_of_mem _ hb)⟩
theorem ev_or_f {F : CE} {a b : E} {ρ : Env} {S S1 : Sto} (h : ev F a ρ S = .ok (.bl false) S1) : ev F (.or a b) ρ S = ev F b ρ S1 := by
  rw [ev, h, R.bind_ok, tru_bl, R.bind_ok]
  exact if_neg Bool.false_ne_true
end Iv

/-! ### plain laws: more tools (deep ==, walks of boxes, classes) -/
namespace Iv
open PySem
theorem fzs_get {xs : List D} (h : D.fzs xs = true) : ∀ d ∈ xs, d.fz = true := by
  induction xs with
  | nil => intro d hd; cases hd
  | cons x xs ih =>
    simp only [D.fzs, Bool.and_eq_true] at h
    intro d hd
    rcases List.mem_cons.mp hd with rfl | hd
    · exact h.1
    · exact ih h.2 d hd
theorem dps_get {xs : List D} {d : D} (hd : d ∈ xs) : d.dp ≤ D.dps xs := by
  induction xs with
  | nil => cases hd
  | cons x xs ih =>
    simp only [D.dps]
    rcases List.mem_cons.mp hd with rfl | hd
    · exact Nat.le_max_left _ _
    · exact Nat.le_trans (ih hd) (Nat.le_max_right _ _)
theorem fzs_of {xs : List D} (h : ∀ d ∈ xs, d.fz = true) : D.fzs xs = true := by
  have := fzs_map (f := id) h
  rwa [List.map_id] at this
theorem dps_of {xs : List D} {n : Nat} (h : ∀ d ∈ xs, d.dp ≤ n) : D.dps xs ≤ n := by
  have := dps_map (f := id) h
  rwa [List.map_id] at this
theorem deep_fz {S : Sto} : ∀ (k : Nat) {d : D}, d.fz = true → deep k S d = d
  | 0, _, _ => rfl
  | k + 1, d, h => by
    have go : ∀ xs : List D, D.fzs xs = true → xs.map (deep k S) = xs := fun xs hx => by
      conv => rhs; rw [← List.map_id xs]
      exact List.map_congr_left fun x hm => deep_fz k (fzs_get hx x hm)
    cases d with
    | tup xs => rw [deep, go xs (by simpa [D.fz] using h)]
    | lst xs => rw [deep, go xs (by simpa [D.fz] using h)]
    | ref n => cases h
    | _ => rfl
theorem deep_up {S : Sto} : ∀ (k : Nat) {d : D}, (deep k S d).fz = true → deep (k + 1) S d = deep k S d
  | 0, d, h => deep_fz 1 h
  | k + 1, d, h => by
    have go : ∀ xs : List D, D.fzs (xs.map (deep k S)) = true → xs.map (deep (k + 1) S) = xs.map (deep k S) := fun xs hx =>
      List.map_congr_left fun x hm => deep_up k (fzs_get hx _ (List.mem_map.mpr ⟨x, hm, rfl⟩))
    cases d with
    | tup xs =>
      rw [deep] at h ⊢
      rw [go xs (by simpa [D.fz] using h), deep]
    | lst xs =>
      rw [deep] at h ⊢
      rw [go xs (by simpa [D.fz] using h), deep]
    | ref n =>
      have e : ∀ j, deep (j + 1) S (.ref n) = match cellAt S n with
        | some (.lst xs) => .lst (xs.map (deep j S))
        | _ => .ref n := fun _ => rfl
      rw [e] at h
      rw [e, e]
      split at h
      · rename_i xs hz
        rw [go xs (by simpa [D.fz] using h)]
      · cases h
    | _ => rfl
mutual
/-- no list or tuple is longer -/
def D.wd (n : Nat) : D → Bool
  | .tup xs => decide (xs.length ≤ n) && D.wds n xs
  | .lst xs => decide (xs.length ≤ n) && D.wds n xs
  | .scr xs => decide (xs.length ≤ n) && D.wds n xs
  | _ => true
def D.wds (n : Nat) : List D → Bool
  | [] => true
  | x :: xs => x.wd n && D.wds n xs
end
theorem wds_get {n : Nat} {xs : List D} (h : D.wds n xs = true) : ∀ d ∈ xs, d.wd n = true := by
  induction xs with
  | nil => intro d hd; cases hd
  | cons x xs ih =>
    simp only [D.wds, Bool.and_eq_true] at h
    intro d hd
    rcases List.mem_cons.mp hd with rfl | hd
    · exact h.1
    · exact ih h.2 d hd
theorem wds_of {n : Nat} {xs : List D} (h : ∀ d ∈ xs, d.wd n = true) : D.wds n xs = true := by
  induction xs with
  | nil => simp [D.wds]
  | cons x xs ih =>
    simp only [D.wds, Bool.and_eq_true]
    exact ⟨h x (List.mem_cons_self ..), ih fun d hd => h d (List.mem_cons_of_mem _ hd)⟩
/-- x, read through its boxes, is the frozen d -/
structure Is (S : Sto) (x d : D) : Prop where
  eq : deep 8 S x = d
  fz : d.fz = true
theorem Is.of {S : Sto} {d : D} (h : d.fz = true) : Is S d d := ⟨deep_fz 8 h, h⟩
theorem ned_is {S : Sto} {x d : D} (h : Is S x d) (l : d.dp ≤ 64) : cmpR .ned x d S = .ok (.bl false) S := by
  show ck ((deep 8 S x).fz = true ∧ (deep 8 S d).fz = true ∧ (deep 8 S x).dp ≤ 64 ∧ (deep 8 S d).dp ≤ 64) (R.ok (D.bl (!((deep 8 S x).eqv (deep 8 S d)))) S) = _
  rw [h.eq, deep_fz 8 h.fz, eqv_self d h.fz]
  exact ck_of ⟨h.fz, h.fz, l, l⟩
theorem Is.ref {S : Sto} {n : Nat} {xs ds : List D} (hc : cellAt S n = some (.lst xs)) (hl : xs.length = ds.length) (h : ∀ (i : Nat) (x d : D), xs[i]? = some x → ds[i]? = some d → deep 7 S x = d ∧ d.fz = true) : Is S (.ref n) (.lst ds) := by
  have e : xs.map (deep 7 S) = ds := by
    refine List.ext_getElem? fun i => ?_
    rw [List.getElem?_map]
    by_cases hi : i < xs.length
    · rw [List.getElem?_eq_getElem hi, List.getElem?_eq_getElem (hl ▸ hi)]
      exact congrArg some (h i _ _ (List.getElem?_eq_getElem hi) (List.getElem?_eq_getElem (hl ▸ hi))).1
    · rw [List.getElem?_eq_none (by omega), List.getElem?_eq_none (by omega)]
      rfl
  refine ⟨?_, ?_⟩
  · show (match cellAt S n with | some (.lst xs) => D.lst (xs.map (deep 7 S)) | _ => .ref n) = _
    rw [hc]
    dsimp only
    rw [e]
  · rw [D.fz]
    refine fzs_of fun d hd => ?_
    obtain ⟨i, hi, rfl⟩ := List.mem_iff_getElem.mp hd
    exact (h i _ _ (List.getElem?_eq_getElem (hl ▸ hi)) (List.getElem?_eq_getElem hi)).2
/-- the parts of what reads as a list or a tuple -/
theorem Is.parts {S : Sto} {x d : D} (h : Is S x d) : (∃ ds, (d = .lst ds ∨ d = .scr ds) ∧ (∃ src xs, walkZ S x = some (src, xs) ∧ src.there S ∧ xs.length = ds.length ∧ ∀ p ∈ xs.zip ds, Is S p.1 p.2) ∧ kOf x = true ∧ tyOf S x = some "list") ∨
    (∃ ds, d = .tup ds ∧ (∃ src xs, walkZ S x = some (src, xs) ∧ src.there S ∧ xs.length = ds.length ∧ ∀ p ∈ xs.zip ds, Is S p.1 p.2) ∧ kOf x = false ∧ tyOf S x = some "tuple") ∨ (x = d ∧ ∀ ds, d ≠ .lst ds ∧ d ≠ .tup ds ∧ d ≠ .scr ds) := by
  obtain ⟨e, f⟩ := h
  have self : ∀ ds : List D, D.fzs ds = true → ∀ p ∈ ds.zip ds, Is S p.1 p.2 := fun ds hf p hp => by
    obtain ⟨i, hi⟩ := List.mem_iff_getElem?.mp hp
    rw [List.getElem?_zip_eq_some] at hi
    have : p.1 = p.2 := Option.some.inj (hi.1.symm.trans hi.2)
    rw [← this]
    exact Is.of (fzs_get hf _ (List.mem_of_getElem? hi.1))
  have sub : ∀ xs : List D, D.fzs (xs.map (deep 7 S)) = true → ∀ p ∈ xs.zip (xs.map (deep 7 S)), Is S p.1 p.2 := fun xs hf p hp => by
    obtain ⟨i, hi⟩ := List.mem_iff_getElem?.mp hp
    rw [List.getElem?_zip_eq_some, List.getElem?_map] at hi
    obtain ⟨h1, h2⟩ := hi
    rw [h1] at h2
    have e2 : deep 7 S p.1 = p.2 := Option.some.inj h2
    have hz := fzs_get hf (deep 7 S p.1) (List.mem_map.mpr ⟨p.1, List.mem_of_getElem? h1, rfl⟩)
    exact ⟨(deep_up 7 hz).trans e2, e2 ▸ hz⟩
  cases x with
  | tup xs =>
    rw [deep] at e
    subst e
    exact .inr (.inl ⟨_, rfl, ⟨.fix, xs, rfl, trivial, by rw [List.length_map], sub xs (by simpa [D.fz] using f)⟩, rfl, rfl⟩)
  | lst xs =>
    rw [deep] at e
    subst e
    exact .inl ⟨_, .inl rfl, ⟨.fix, xs, rfl, trivial, by rw [List.length_map], sub xs (by simpa [D.fz] using f)⟩, rfl, rfl⟩
  | scr xs =>
    have e' : D.scr xs = d := e
    subst e'
    exact .inl ⟨_, .inr rfl, ⟨.fix, xs, rfl, trivial, rfl, self xs (by simpa [D.fz] using f)⟩, rfl, rfl⟩
  | ref n =>
    have e' : (match cellAt S n with | some (.lst xs) => D.lst (xs.map (deep 7 S)) | _ => .ref n) = d := e
    split at e'
    · rename_i xs hz
      subst e'
      refine .inl ⟨_, .inl rfl, ⟨.box n xs, xs, ?_, hz, by rw [List.length_map], sub xs (by simpa [D.fz] using f)⟩, rfl, ?_⟩
      · show (match cellAt S n with | some (.lst xs) => some (Src.box n xs, xs) | _ => none) = _
        rw [hz]
      · show (match cellAt S n with | some (.lst _) => some "list" | _ => none) = _
        rw [hz]
    · subst e'
      cases f
  | _ =>
    have e' := e
    rw [show ∀ z, deep 8 S z = _ from fun _ => rfl] at e'
    exact .inr (.inr ⟨e', fun ds => by subst e'; exact ⟨(fun z => by cases z), (fun z => by cases z), (fun z => by cases z)⟩⟩)
section
variable {F : CE} {a b c : E} {ρ : Env} {S S1 S2 S3 : Sto} {x y z d : D}
theorem evIt_zipb {v w : Src × List D} (h : ev F a ρ S = .ok x S1) (h' : ev F b ρ S1 = .ok y S2) (hv : walkZ S2 x = some v) (hw : walkZ S2 y = some w) (hk : kOf x = kOf y) : evIt F (.zipb a b) ρ S = .ok (.two v.1 w.1, zipD v.2 w.2) S2 := by
  rw [evIt, h, R.bind_ok, h', R.bind_ok, hv, hw]
  exact ck_of hk
theorem ev_isit {ts : List String} {k : Bool} (h : ev F a ρ S = .ok x S1) (hk : isiT S1 x ts = some k) (hl : ts.length ≤ 100) : ev F (.isit a ts) ρ S = .ok (.bl k) S1 := by
  rw [ev, h, R.bind_ok, hk]
  exact ck_of hl
theorem attr_ref {n f cl : Nat} {fs : List (Nat × D)} (hc : cellAt S n = some (.ins cl fs)) (h : fs.lookup f = some d) : attrR (.ref n) f S = .ok d S := by
  unfold attrR
  dsimp only
  rw [hc]
  dsimp only
  rw [h]
end
end Iv
namespace Iv
open PySem
section
variable {F : CE} {ρ ρ' : Env} {S S1 S2 : Sto} {d : D} {e c : E} {t : Tg} {body : List St}
end
end Iv
namespace Iv
open PySem
section
variable {F : CE} {ρ ρ' : Env} {S S1 S2 : Sto} {d : D} {o : E} {es : List E}
theorem seqOf_box {S : Sto} {p : Nat} {xs : List D} (h : cellAt S p = some (.lst xs)) : seqOf S (.ref p) = some xs := by rw [seqOf_ref, h]
end
end Iv
namespace Iv
open PySem
theorem cls_ref {S : Sto} {n cl : Nat} {fs : List (Nat × D)} (h : cellAt S n = some (.ins cl fs)) : clsOf S (.ref n) = some cl := by
  show (match cellAt S n with | some (.ins c _) => some c | _ => none) = _
  rw [h]
theorem walk_box {S : Sto} {n : Nat} {xs : List D} (h : cellAt S n = some (.lst xs)) : walkOf S (.ref n) = some (.box n xs, xs) := by
  show (match cellAt S n with | some (.lst xs) => some (Src.box n xs, xs) | _ => none) = _
  rw [h]
end Iv
namespace Iv
open PySem
theorem lcLoop_encS {α : Type} {step : D → Sto → R (List D)} {enc : α → D} {f : α → List D} {S : Sto} {src : Src} (ht : src.there S) : ∀ {items : List α}, (∀ a ∈ items, step (enc a) S = .ok (f a) S) → lcLoop src step (items.map enc) S = .ok (items.flatMap f) S
  | [], _ => by
    rw [List.map_nil, lcLoop]
    exact ck_of ht
  | d :: ds, h => by
    rw [List.map_cons, lcLoop, ck_of ht, h d (List.mem_cons_self ..)]
    dsimp only
    rw [lcLoop_encS ht fun e he => h e (List.mem_cons_of_mem _ he)]
    rfl
section
variable {F : CE} {ρ ρ' : Env} {S S1 S2 S3 : Sto} {d x : D} {a b o : E} {body : List St} {t : Tg}
theorem walkL_box {S : Sto} {n : Nat} {xs : List D} (h : cellAt S n = some (.lst xs)) : walkL S (.ref n) = some (.box n xs, xs) := walk_box h
end
end Iv

/-! ### running programs over data: what must hold ahead -/
namespace Iv
open PySem
@[irreducible] def Ru {α : Type} (r : R α) (Q : α → Sto → Prop) (E : Exc → Sto → Prop) : Prop := match r with
  | .ok a S => Q a S
  | .exc x S => E x S
  | .err => False
abbrev noE : Exc → Sto → Prop := fun _ _ => False
section
variable {α β : Type} {r r' : R α} {f : α → Sto → R β} {Q : β → Sto → Prop} {Qa : α → Sto → Prop} {E : Exc → Sto → Prop} {a : α} {x : Exc} {S S' : Sto}
theorem ru_ok : Ru (.ok a S) Qa E = Qa a S := by unfold Ru; rfl
theorem ru_exc : Ru (.exc x S : R α) Qa E = E x S := by unfold Ru; rfl
theorem ru_err : Ru (.err : R α) Qa E = False := by unfold Ru; rfl
theorem ru_bind : Ru (r.bind f) Q E = Ru r (fun a S => Ru (f a S) Q E) E := by cases r <;> simp only [ru_ok, ru_exc, ru_err, R.bind_ok, R.bind_err, R.bind_exc, R.go_ok, R.go_err, R.go_exc]
theorem ru_ck {c : Prop} [Decidable c] : Ru (ck c r) Qa E = (c ∧ Ru r Qa E) := by
  unfold ck
  split
  · rename_i h
    exact propext ⟨fun q => ⟨h, q⟩, fun q => q.2⟩
  · rename_i h
    rw [ru_err]; exact propext ⟨fun q => q.elim, fun q => absurd q.1 h⟩
theorem ru_ite {c : Prop} [Decidable c] : Ru (if c then r else r') Qa E = if c then Ru r Qa E else Ru r' Qa E := by split <;> rfl
theorem ru_go {f : α → Sto → R Fl} {Q : Fl → Sto → Prop} {ρ : Env} : Ru (r.go ρ f) Q E = Ru r (fun a S => Ru (f a S) Q E) (fun x S => Q (.raised x ρ) S) := by cases r <;> simp only [ru_ok, ru_exc, ru_err, R.bind_ok, R.bind_err, R.bind_exc, R.go_ok, R.go_err, R.go_exc]
theorem ru_st : Ru (r.st f) Q E = Ru r (fun a S => Ru (f a S) Q E) noE := by
  cases r with
  | ok a S => rw [R.st_ok, ru_ok]
  | exc x S => rw [ru_exc, show (R.exc x S).st f = .err from rfl, ru_err]
  | err => rw [R.st_err, ru_err, ru_err]
def flQ (f : Env → Sto → R Fl) (Q : Fl → Sto → Prop) (E : Exc → Sto → Prop) (w : Fl) (S : Sto) : Prop := match w with
  | .next ρ => Ru (f ρ S) Q E
  | w => Q w S
theorem ru_fl {r : R Fl} {f : Env → Sto → R Fl} {Q : Fl → Sto → Prop} : Ru (r.fl f) Q E = Ru r (flQ f Q E) noE := by
  cases r with
  | ok w S =>
    rw [ru_ok]
    cases w <;> simp only [R.fl_next, R.fl_ret, R.fl_brk, R.fl_cont, R.fl_raised, ru_ok, flQ]
  | exc x S => rw [ru_exc, show (R.exc x S).fl f = .err from rfl, ru_err]
  | err => rw [R.fl_err, ru_err, ru_err]
def turnQ (K : Env → Sto → Prop) (Q : Fl → Sto → Prop) (w : Fl) (S : Sto) : Prop := match w with
  | .next ρ => K ρ S
  | .cont ρ => K ρ S
  | .brk ρ => Q (.next ρ) S
  | w => Q w S
theorem ru_turn {r : R Fl} {f : Env → Sto → R Fl} {Q : Fl → Sto → Prop} : Ru (r.turn f) Q E = Ru r (turnQ (fun ρ S => Ru (f ρ S) Q E) Q) noE := by
  cases r with
  | ok w S =>
    rw [ru_ok]
    cases w <;> simp only [R.turn_next, R.turn_ret, R.turn_brk, R.turn_cont, R.turn_raised, ru_ok, turnQ]
  | exc x S => rw [ru_exc, show (R.exc x S).turn f = .err from rfl, ru_err]
  | err => rw [show (R.err : R Fl).turn f = .err from rfl, ru_err, ru_err]
theorem Ru.imp {Q Q' : α → Sto → Prop} {E E' : Exc → Sto → Prop} (h : Ru r Q E) (k : ∀ a S, Q a S → Q' a S) (e : ∀ x S, E x S → E' x S) : Ru r Q' E' := by
  cases r with
  | ok a S => rw [ru_ok] at h ⊢; exact k _ _ h
  | exc x S => rw [ru_exc] at h ⊢; exact e _ _ h
  | err => rw [ru_err] at h; exact h.elim
/-- by what a call is known to do -/
theorem Ru.use {Q Q' : α → Sto → Prop} {E : Exc → Sto → Prop} (h : Ru r Q noE) (k : ∀ a S, Q a S → Q' a S) : Ru r Q' E := h.imp k fun _ _ h => h.elim
theorem Ru.ex (h : Ru r Qa noE) : ∃ a S', r = .ok a S' ∧ Qa a S' := by
  cases r with
  | ok a S => rw [ru_ok] at h; exact ⟨a, S, rfl, h⟩
  | exc x S => rw [ru_exc] at h; exact h.elim
  | err => rw [ru_err] at h; exact h.elim
theorem Ru.eq (h : r = .ok a S) (q : Qa a S) : Ru r Qa E := by rw [h, ru_ok]; exact q
theorem Ru.is {d : α} (h : Ru r (fun a S' => a = d ∧ S' = S) noE) : r = .ok d S := by
  obtain ⟨a, S', e, rfl, rfl⟩ := h.ex
  exact e
end
section
variable {F : CE} {Q : D → Sto → Prop} {Qs : List D → Sto → Prop} {Qf : Fl → Sto → Prop} {Qe : Env → Sto → Prop} {Qb : Bool → Sto → Prop} {Qi : Src × List D → Sto → Prop} {Qo : Option Int → Sto → Prop} {E : Exc → Sto → Prop} {ρ : Env} {S : Sto} {a b c e i : Iv.E} {d x : D} {es ifs : List Iv.E} {box : Bool} {own own1 : List Nat} {t t1 : Tg} {ts : List Tg} {it it1 : It} {st : St} {sts body els : List St}
theorem ru_var {j : Nat} (h : ρ[j]? = some (some d)) : Ru (ev F (.var j) ρ S) Q E = Q d S := by rw [ev, h, ru_ok]
theorem ru_con : Ru (ev F (.con d) ρ S) Q E = Q d S := by rw [ev, ru_ok]
theorem ru_bin {op : Bop} : Ru (ev F (.bin box op a b) ρ S) Q E = Ru (ev F a ρ S) (fun x S => Ru (ev F b ρ S) (fun y S => Ru (binR box op x y S) Q E) E) E := by rw [ev]; simp only [ru_bind]
def negR (x : D) (S : Sto) : R D := match x with
  | .int i => .ok (.int (-i)) S
  | _ => .err
theorem ru_neg : Ru (ev F (.neg a) ρ S) Q E = Ru (ev F a ρ S) (fun x S => Ru (negR x S) Q E) E := by rw [ev, ru_bind]; rfl
theorem ru_not : Ru (ev F (.not a) ρ S) Q E = Ru (ev F a ρ S) (fun x S => Ru (tru x S) (fun k S => Q (.bl (!k)) S) E) E := by rw [ev]; simp only [ru_bind, ru_ok]
theorem ru_cmp {op : Cop} : Ru (ev F (.cmp op a b) ρ S) Q E = Ru (ev F a ρ S) (fun x S => Ru (ev F b ρ S) (fun y S => Ru (cmpR op x y S) Q E) E) E := by rw [ev]; simp only [ru_bind]
theorem ru_chain {op op' : Cop} : Ru (ev F (.chain op op' a b c) ρ S) Q E = Ru (ev F a ρ S) (fun x S => Ru (ev F b ρ S) (fun y S => Ru (cmpR op x y S) (fun z S => Ru (tru z S) (fun k S => if k = true then Ru (ev F c ρ S) (fun w S => Ru (cmpR op' y w S) Q E) E else Q (.bl false) S) E) E) E) E := by
  rw [ev]; simp only [ru_bind, ru_ite, ru_ok]
theorem ru_and : Ru (ev F (.and a b) ρ S) Q E = Ru (ev F a ρ S) (fun x S => Ru (tru x S) (fun k S => if k = true then Ru (ev F b ρ S) Q E else Q x S) E) E := by rw [ev]; simp only [ru_bind, ru_ite, ru_ok]
theorem ru_or : Ru (ev F (.or a b) ρ S) Q E = Ru (ev F a ρ S) (fun x S => Ru (tru x S) (fun k S => if k = true then Q x S else Ru (ev F b ρ S) Q E) E) E := by rw [ev]; simp only [ru_bind, ru_ite, ru_ok]
theorem ru_ife : Ru (ev F (.ife c a b) ρ S) Q E = Ru (ev F c ρ S) (fun x S => Ru (tru x S) (fun k S => if k = true then Ru (ev F a ρ S) Q E else Ru (ev F b ρ S) Q E) E) E := by rw [ev]; simp only [ru_bind, ru_ite]
theorem ru_tup : Ru (ev F (.tup es) ρ S) Q E = Ru (evs F es ρ S) (fun xs S => xs.length ≤ sizeLine ∧ Q (.tup xs) S) E := by rw [ev]; simp only [ru_bind, ru_ck, ru_ok]
theorem ru_lst : Ru (ev F (.lst box es) ρ S) Q E = Ru (evs F es ρ S) (fun xs S => xs.length ≤ sizeLine ∧ Ru (mkL box xs S) Q E) E := by rw [ev]; simp only [ru_bind, ru_ck]
theorem ru_idx : Ru (ev F (.idx a i) ρ S) Q E = Ru (ev F a ρ S) (fun x S => Ru (ev F i ρ S) (fun y S => Ru (idxR x y S) Q E) E) E := by rw [ev]; simp only [ru_bind]
theorem ru_slc {lo hi : Option Iv.E} : Ru (ev F (.slc box a lo hi) ρ S) Q E = Ru (ev F a ρ S) (fun x S => Ru (evp F lo ρ S) (fun l S => Ru (evp F hi ρ S) (fun h S => Ru (slcR box x l h S) Q E) E) E) E := by rw [ev]; simp only [ru_bind]
def revR (box : Bool) (x : D) (S : Sto) : R D := match x with
  | .tup xs => .ok (.tup xs.reverse) S
  | _ => match seqOf S x with
    | some xs => mkL box xs.reverse S
    | none => .err
theorem ru_rev : Ru (ev F (.rev box a) ρ S) Q E = Ru (ev F a ρ S) (fun x S => Ru (revR box x S) Q E) E := by rw [ev, ru_bind]; rfl
theorem ru_lc : Ru (ev F (.lc box own t it ifs e) ρ S) Q E = Ru (evIt F it ρ S) (fun w S => Ru (lcLoop w.1 (lcStep F own t ifs e ρ) w.2 S) (fun ys S => ys.length ≤ sizeLine ∧ Ru (mkL box ys S) Q E) E) E := by rw [ev]; simp only [ru_bind, ru_ck]
theorem ru_lc2 {ifs1 : List Iv.E} : Ru (ev F (.lc2 box own own1 t it ifs t1 it1 ifs1 e) ρ S) Q E = Ru (evIt F it ρ S) (fun w S => Ru (lcLoop w.1 (lcStepB F own own1 t ifs t1 it1 ifs1 e ρ) w.2 S) (fun ys S => ys.length ≤ sizeLine ∧ Ru (mkL box ys S) Q E) E) E := by rw [ev]; simp only [ru_bind, ru_ck]
theorem ru_call {f : Nat} {arr : List Ar} : Ru (ev F (.call f arr es) ρ S) Q E = Ru (evs F es ρ S) (fun xs S => Ru (callR F f arr xs S) Q E) E := by rw [ev]; simp only [ru_bind]
noncomputable def methR (F : CE) (ms : List (Nat × Nat × List Ar)) (es : List Iv.E) (ρ : Env) (x : D) (o : Option (Nat × List Ar)) (S : Sto) : R D := match o with
  | some (f, arr) => (evs F es ρ S).bind fun xs S => callR F f arr (x :: xs) S
  | none => .err
theorem ru_meth {ms : List (Nat × Nat × List Ar)} : Ru (ev F (.meth a ms es) ρ S) Q E = Ru (ev F a ρ S) (fun x S => Ru (methR F ms es ρ x ((clsOf S x).bind fun c => ms.lookup c) S) Q E) E := by rw [ev, ru_bind]; congr 1 <;> (funext x S; cases ((clsOf S x).bind fun c => ms.lookup c) <;> rfl)
theorem ru_methR {ms : List (Nat × Nat × List Ar)} {f : Nat} {arr : List Ar} : Ru (methR F ms es ρ x (some (f, arr)) S) Q E = Ru (evs F es ρ S) (fun xs S => Ru (callR F f arr (x :: xs) S) Q E) E := ru_bind
theorem ru_make {fr : Bool} {cl f : Nat} {arr : List Ar} : Ru (ev F (.make fr cl f arr es) ρ S) Q E = Ru (evs F es ρ S) (fun xs S => Ru (makeR F fr cl f arr xs S) Q E) E := by rw [ev]; simp only [ru_bind]
theorem ru_makeR {cl f : Nat} {arr : List Ar} {ds : List D} : Ru (makeR F false cl f arr ds S) Q E = Ru (callR F f arr (.ref S.length :: ds) (S ++ [some (.ins cl [])])) (fun r S1 => r = .non ∧ Q (.ref S.length) S1) E := by
  unfold makeR
  rw [ru_bind]
  congr 1
  funext r S1
  cases r with
  | non => dsimp only; rw [if_neg Bool.false_ne_true, ru_ok]; exact propext ⟨fun h => ⟨rfl, h⟩, fun h => h.2⟩
  | _ => dsimp only; rw [ru_err]; exact propext ⟨fun h => h.elim, fun h => by cases h.1⟩
theorem ru_attr {f : Nat} : Ru (ev F (.attr a f) ρ S) Q E = Ru (ev F a ρ S) (fun x S => Ru (attrR x f S) Q E) E := by rw [ev]; simp only [ru_bind]
theorem ru_bi {bi : Bi} : Ru (ev F (.bi bi es) ρ S) Q E = Ru (evs F es ρ S) (fun xs S => Ru (biR bi xs S) Q E) E := by rw [ev]; simp only [ru_bind]
theorem ru_bm {bm : Bm} : Ru (ev F (.bm bm a es) ρ S) Q E = Ru (ev F a ρ S) (fun x S => bmOk bm x S = true ∧ Ru (evs F es ρ S) (fun xs S => Ru (bmR bm x xs S) Q E) E) E := by rw [ev]; simp only [ru_bind, ru_ck]
theorem ru_frz : Ru (ev F (.frz a) ρ S) Q E = Ru (ev F a ρ S) (fun x S => Ru (frzR x S) Q E) E := by rw [ev]; simp only [ru_bind]
def isitR (ts : List String) (o : Option Bool) (S : Sto) : R D := match o with
  | some b => ck (ts.length ≤ 100) (.ok (.bl b) S)
  | none => .err
theorem ru_isit {ts : List String} : Ru (ev F (.isit a ts) ρ S) Q E = Ru (ev F a ρ S) (fun x S => Ru (isitR ts (isiT S x ts) S) Q E) E := by rw [ev, ru_bind]; congr 1 <;> (funext x S; cases isiT S x ts <;> rfl)
theorem ru_isitR {ts : List String} {b : Bool} : Ru (isitR ts (some b) S) Q E = (ts.length ≤ 100 ∧ Q (.bl b) S) := by unfold isitR; rw [ru_ck, ru_ok]
theorem ru_evs0 : Ru (evs F [] ρ S) Qs E = Qs [] S := by rw [evs, ru_ok]
theorem ru_evs1 : Ru (evs F (e :: es) ρ S) Qs E = Ru (ev F e ρ S) (fun x S => Ru (evs F es ρ S) (fun xs S => Qs (x :: xs) S) E) E := by rw [evs]; simp only [ru_bind, ru_ok]
theorem ru_evp0 : Ru (evp F none ρ S) Qo E = Qo none S := by rw [evp, ru_ok]
def intR (x : D) (S : Sto) : R (Option Int) := match x with
  | .int i => .ok (some i) S
  | _ => .err
theorem ru_evp1 : Ru (evp F (some e) ρ S) Qo E = Ru (ev F e ρ S) (fun x S => Ru (intR x S) Qo E) E := by rw [evp, ru_bind]; rfl
theorem ru_intR {j : Int} : Ru (intR (.int j) S) Qo E = Qo (some j) S := ru_ok
theorem ru_ifs0 : Ru (evIfs F [] ρ S) Qb E = Qb true S := by rw [evIfs, ru_ok]
theorem ru_ifs1 : Ru (evIfs F (e :: es) ρ S) Qb E = Ru (ev F e ρ S) (fun x S => Ru (tru x S) (fun k S => if k = true then Ru (evIfs F es ρ S) Qb E else Qb false S) E) E := by rw [evIfs]; simp only [ru_bind, ru_ite, ru_ok]
def oR {α : Type} (o : Option α) (S : Sto) : R α := match o with
  | some w => .ok w S
  | none => .err
theorem ru_oR {α : Type} {w : α} {Qx : α → Sto → Prop} : Ru (oR (some w) S) Qx E = Qx w S := ru_ok
theorem ru_itE : Ru (evIt F (.e a) ρ S) Qi E = Ru (ev F a ρ S) (fun x S => Ru (oR (walkOf S x) S) Qi E) E := by rw [evIt, ru_bind]; congr 1 <;> (funext x S; cases walkOf S x <;> rfl)
def rng1R (x : D) (S : Sto) : R (Src × List D) := match x with
  | .int j => ck (smallI j) (.ok (.fix, rngD 0 j.toNat) S)
  | _ => .err
theorem ru_rng1 : Ru (evIt F (.rng1 a) ρ S) Qi E = Ru (ev F a ρ S) (fun x S => Ru (rng1R x S) Qi E) E := by rw [evIt, ru_bind]; rfl
theorem ru_rng1R {j : Int} : Ru (rng1R (.int j) S) Qi E = (smallI j ∧ Qi (.fix, rngD 0 j.toNat) S) := by unfold rng1R; rw [ru_ck, ru_ok]
def rng2R (x y : D) (S : Sto) : R (Src × List D) := match x, y with
  | .int i, .int j => ck (smallI i ∧ smallI j) (.ok (.fix, rngD i (j - i).toNat) S)
  | _, _ => .err
theorem ru_rng2 : Ru (evIt F (.rng2 a b) ρ S) Qi E = Ru (ev F a ρ S) (fun x S => Ru (ev F b ρ S) (fun y S => Ru (rng2R x y S) Qi E) E) E := by rw [evIt]; simp only [ru_bind]; rfl
theorem ru_rng2R {i j : Int} : Ru (rng2R (.int i) (.int j) S) Qi E = ((smallI i ∧ smallI j) ∧ Qi (.fix, rngD i (j - i).toNat) S) := by unfold rng2R; rw [ru_ck, ru_ok]
def enumR (o : Option (Src × List D)) (i : Option Int) (S : Sto) : R (Src × List D) := match o with
  | some w => ck (i = none) (.ok (w.1, enumD 0 w.2) S)
  | none => .err
theorem ru_enum : Ru (evIt F (.enum none a) ρ S) Qi E = Ru (ev F a ρ S) (fun x S => Ru (enumR (walkL S x) none S) Qi E) E := by rw [evIt]; simp only [ru_bind, ru_evp0]; congr 1 <;> (funext x S; cases walkL S x <;> rfl)
theorem ru_enumR {w : Src × List D} : Ru (enumR (some w) none S) Qi E = Qi (w.1, enumD 0 w.2) S := by
  unfold enumR
  rw [ru_ck, ru_ok]
  exact propext ⟨fun h => h.2, fun h => ⟨rfl, h⟩⟩
def enumSR (o : Option (Src × List D)) (y : D) (S : Sto) : R (Src × List D) := match o, y with
  | some w, .int i => ck (smallI i) (.ok (w.1, enumD i w.2) S)
  | _, _ => .err
theorem ru_enumS : Ru (evIt F (.enumS a b) ρ S) Qi E = Ru (ev F a ρ S) (fun x S => Ru (ev F b ρ S) (fun y S => Ru (enumSR (walkL S x) y S) Qi E) E) E := by rw [evIt]; simp only [ru_bind]; congr 1 <;> (funext x S; congr 1 <;> (funext y S; cases walkL S x <;> cases y <;> rfl))
theorem ru_enumSR {w : Src × List D} {j : Int} : Ru (enumSR (some w) (.int j) S) Qi E = (smallI j ∧ Qi (w.1, enumD j w.2) S) := by unfold enumSR; rw [ru_ck, ru_ok]
def zipR (strict : Bool) (x y : D) (o o' : Option (List D)) (S : Sto) : R (Src × List D) := match o, o' with
  | some xs, some ys => ck ((strict = true → xs.length = ys.length) ∧ isRef x = false ∧ isRef y = false ∧ (strict = true ∨ kOf x = kOf y)) (.ok (.fix, zipD xs ys) S)
  | _, _ => .err
theorem ru_zip {strict : Bool} : Ru (evIt F (.zip strict a b) ρ S) Qi E = Ru (ev F a ρ S) (fun x S => Ru (ev F b ρ S) (fun y S => Ru (zipR strict x y (seqOf S x) (seqOf S y) S) Qi E) E) E := by rw [evIt]; simp only [ru_bind]; congr 1 <;> (funext x S; congr 1 <;> (funext y S; cases seqOf S x <;> cases seqOf S y <;> rfl))
theorem ru_zipR {strict : Bool} {x y : D} {xs ys : List D} : Ru (zipR strict x y (some xs) (some ys) S) Qi E = (((strict = true → xs.length = ys.length) ∧ isRef x = false ∧ isRef y = false ∧ (strict = true ∨ kOf x = kOf y)) ∧ Qi (.fix, zipD xs ys) S) := by unfold zipR; rw [ru_ck, ru_ok]
theorem ru_aVar {j : Nat} : Ru (asg F (.var j) d ρ S) Qe E = Qe (ρ.set j (some d)) S := by rw [asg, ru_ok]
noncomputable def tupA (F : CE) (ts : List Tg) (ρ : Env) (o : Option (List D)) (S : Sto) : R Env := match o with
  | some xs => ck (xs.length = ts.length) (asgs F ts xs ρ S)
  | none => .err
theorem ru_aTup : Ru (asg F (.tup ts) d ρ S) Qe E = Ru (tupA F ts ρ (seqOf S d) S) Qe E := by rw [asg]; cases seqOf S d <;> rfl
theorem ru_tupA {xs : List D} : Ru (tupA F ts ρ (some xs) S) Qe E = (xs.length = ts.length ∧ Ru (asgs F ts xs ρ S) Qe E) := ru_ck
noncomputable def tupsA (F : CE) (ts : List Tg) (ρ : Env) (o : Option (List D)) (S : Sto) : R Env := match o with
  | some xs => ck (1 ≤ ts.length ∧ ts.length ≤ xs.length + 1 ∧ xs.length ≤ 16384) (asgs F ts (xs.take (ts.length - 1) ++ [.lst (xs.drop (ts.length - 1))]) ρ S)
  | none => .err
theorem ru_aTups : Ru (asg F (.tups ts) d ρ S) Qe E = Ru (tupsA F ts ρ (seqOf S d) S) Qe E := by rw [asg]; cases seqOf S d <;> rfl
theorem ru_tupsA {xs : List D} : Ru (tupsA F ts ρ (some xs) S) Qe E = ((1 ≤ ts.length ∧ ts.length ≤ xs.length + 1 ∧ xs.length ≤ 16384) ∧ Ru (asgs F ts (xs.take (ts.length - 1) ++ [.lst (xs.drop (ts.length - 1))]) ρ S) Qe E) := ru_ck
theorem ru_aIdx : Ru (asg F (.idx a i) d ρ S) Qe E = Ru (ev F a ρ S) (fun x S => Ru (ev F i ρ S) (fun y S => Ru (sidxR x y d S) (fun _ S => Qe ρ S) E) E) E := by rw [asg]; simp only [ru_bind, ru_ok]
theorem ru_aAttr {f : Nat} {cs : List Nat} : Ru (asg F (.attr a f cs) d ρ S) Qe E = Ru (ev F a ρ S) (fun x S => Ru (sattrR x f cs d S) (fun _ S => Qe ρ S) E) E := by rw [asg]; simp only [ru_bind, ru_ok]
theorem ru_aSlc : Ru (asg F (.slc a b c) d ρ S) Qe E = Ru (ev F a ρ S) (fun x S => Ru (ev F b ρ S) (fun l S => Ru (ev F c ρ S) (fun h S => Ru (sslcR x l h d S) (fun _ S => Qe ρ S) E) E) E) E := by rw [asg]; simp only [ru_bind, ru_ok]
theorem ru_as0 : Ru (asgs F [] [] ρ S) Qe E = Qe ρ S := by rw [asgs, ru_ok]
theorem ru_as1 {ds : List D} : Ru (asgs F (t :: ts) (d :: ds) ρ S) Qe E = Ru (asg F t d ρ S) (fun ρ S => Ru (asgs F ts ds ρ S) Qe E) E := by rw [asgs]; simp only [ru_bind]
theorem ru_sExpr : Ru (ex F (.expr e) ρ S) Qf E = Ru (ev F e ρ S) (fun _ S => Qf (.next ρ) S) (fun x S => Qf (.raised x ρ) S) := by rw [ex]; simp only [ru_go, ru_ok]
theorem ru_sAsg : Ru (ex F (.asg t e) ρ S) Qf E = Ru (ev F e ρ S) (fun d S => Ru (asg F t d ρ S) (fun ρ S => Qf (.next ρ) S) noE) (fun x S => Qf (.raised x ρ) S) := by rw [ex]; simp only [ru_go, ru_st, ru_ok]
theorem ru_sAug {op : Bop} {j : Nat} (h : ρ[j]? = some (some d)) : Ru (ex F (.aug j op e) ρ S) Qf E = Ru (ev F e ρ S) (fun y S => Ru (augR op d y S) (fun z S => Qf (.next (ρ.set j (some z))) S) (fun x S => Qf (.raised x ρ) S)) (fun x S => Qf (.raised x ρ) S) := by
  rw [ex, h]; simp only [ru_go, ru_bind, ru_ok]
theorem ru_sIte : Ru (ex F (.ite c body els) ρ S) Qf E = Ru (ev F c ρ S) (fun x S => Ru (tru x S) (fun k S => if k = true then Ru (exs F body ρ S) Qf E else Ru (exs F els ρ S) Qf E) (fun x S => Qf (.raised x ρ) S)) (fun x S => Qf (.raised x ρ) S) := by
  rw [ex]; simp only [ru_go, ru_bind, ru_ite]
theorem ru_sFor : Ru (ex F (.for t it body) ρ S) Qf E = Ru (evIt F it ρ S) (fun w S => Ru (forLoop w.1 (forStep F t body) w.2 ρ S) Qf E) (fun x S => Qf (.raised x ρ) S) := by rw [ex]; simp only [ru_go]
theorem ru_sRet : Ru (ex F (.ret e) ρ S) Qf E = Ru (ev F e ρ S) (fun d S => Qf (.ret d) S) (fun x S => Qf (.raised x ρ) S) := by rw [ex]; simp only [ru_go, ru_ok]
theorem ru_sRetN : Ru (ex F .retN ρ S) Qf E = Qf (.ret .non) S := by rw [ex, ru_ok]
theorem ru_sBrk : Ru (ex F .brk ρ S) Qf E = Qf (.brk ρ) S := by rw [ex, ru_ok]
theorem ru_sCont : Ru (ex F .cont ρ S) Qf E = Qf (.cont ρ) S := by rw [ex, ru_ok]
theorem ru_sPass : Ru (ex F .pass ρ S) Qf E = Qf (.next ρ) S := by rw [ex, ru_ok]
def nxQ (F : CE) (sts : List St) (Q : Fl → Sto → Prop) (E : Exc → Sto → Prop) (w : Fl) (S : Sto) : Prop := match w with
  | .next ρ => Ru (exs F sts ρ S) Q E
  | w => Q w S
theorem ru_exs0 : Ru (exs F [] ρ S) Qf E = Qf (.next ρ) S := by rw [exs, ru_ok]
theorem ru_exs1 : Ru (exs F (st :: sts) ρ S) Qf E = Ru (ex F st ρ S) (nxQ F sts Qf E) noE := by
  rw [exs, ru_fl]
  congr 1 <;> (funext w S; cases w <;> rfl)
theorem nx_next : nxQ F sts Qf E (.next ρ) S = Ru (exs F sts ρ S) Qf E := rfl
theorem nx_ret : nxQ F sts Qf E (.ret d) S = Qf (.ret d) S := rfl
theorem nx_brk : nxQ F sts Qf E (.brk ρ) S = Qf (.brk ρ) S := rfl
theorem nx_cont : nxQ F sts Qf E (.cont ρ) S = Qf (.cont ρ) S := rfl
theorem nx_raised {y : Exc} : nxQ F sts Qf E (.raised y ρ) S = Qf (.raised y ρ) S := rfl
theorem turn_next {K : Env → Sto → Prop} : turnQ K Qf (.next ρ) S = K ρ S := rfl
theorem turn_cont {K : Env → Sto → Prop} : turnQ K Qf (.cont ρ) S = K ρ S := rfl
theorem turn_brk {K : Env → Sto → Prop} : turnQ K Qf (.brk ρ) S = Qf (.next ρ) S := rfl
theorem turn_ret {K : Env → Sto → Prop} : turnQ K Qf (.ret d) S = Qf (.ret d) S := rfl
theorem turn_raised {K : Env → Sto → Prop} {y : Exc} : turnQ K Qf (.raised y ρ) S = Qf (.raised y ρ) S := rfl
/-- a def's end -/
def runQ (Q : D → Sto → Prop) (E : Exc → Sto → Prop) (w : Fl) (S : Sto) : Prop := match w with
  | .ret d => Q d S
  | .next _ => Q .non S
  | .raised x _ => E x S
  | _ => False
theorem run_qret : runQ Q E (.ret d) S = Q d S := rfl
theorem run_qnext : runQ Q E (.next ρ) S = Q .non S := rfl
theorem run_qraised {y : Exc} : runQ Q E (.raised y ρ) S = E y S := rfl
theorem ru_run {n : Nat} {ds : List D} : Ru (Iv.run F n body ds S) Q E = Ru (exs F body (ds.map some ++ List.replicate (n - ds.length) none) S) (runQ Q E) noE := by
  unfold Iv.run
  cases exs F body (ds.map some ++ List.replicate (n - ds.length) none) S with
  | ok w S => cases w <;> simp only [ru_ok, ru_exc, ru_err, runQ]
  | exc x S => rw [ru_exc, ru_err]
  | err => rw [ru_err, ru_err]
/-- a def is gone into -/
theorem Ru.def {T : List Fn} {k f : Nat} {fn : Fn} {ds : List D} (h : T[f]? = some fn) (hl : ds.length = fn.np) (w : Ru (exs (callN T k) fn.body (ds.map some ++ List.replicate (fn.n - ds.length) none) S) (runQ Q E) noE) : Ru (callN T (k + 1) f ds S) Q E := by
  rw [callN_at h hl, ru_run]
  exact w
/-- loops -/
theorem Ru.for {src : Src} {step : D → Env → Sto → R Fl} {items : List D} (Inv : Nat → Env → Sto → Prop) (h0 : Inv 0 ρ S) (ht : ∀ i ρ S, Inv i ρ S → src.there S)
    (hs : ∀ i d ρ S, items[i]? = some d → Inv i ρ S → Ru (step d ρ S) (turnQ (Inv (i + 1)) Qf) noE) (he : ∀ ρ S, Inv items.length ρ S → Qf (.next ρ) S) : Ru (forLoop src step items ρ S) Qf E := by
  have go : ∀ (n i : Nat) (ρ : Env) (S : Sto), items.length - i = n → i ≤ items.length → Inv i ρ S → Ru (forLoop src step (items.drop i) ρ S) Qf E := by
    intro n
    induction n with
    | zero =>
      intro i ρ S hn hi hI
      have e : i = items.length := by omega
      subst e
      rw [List.drop_length, forLoop, ck_of (ht _ _ _ hI), ru_ok]
      exact he _ _ hI
    | succ n ih =>
      intro i ρ S hn hi hI
      have hlt : i < items.length := by omega
      rw [List.drop_eq_getElem_cons hlt, forLoop, ck_of (ht _ _ _ hI), ru_turn]
      refine (hs i _ ρ S (List.getElem?_eq_getElem hlt) hI).imp (fun w S' q => ?_) fun _ _ h => h
      cases w with
      | next ρ' => exact ih (i + 1) ρ' S' (by omega) hlt q
      | cont ρ' => exact ih (i + 1) ρ' S' (by omega) hlt q
      | brk ρ' => exact q
      | ret d => exact q
      | raised x ρ' => exact q
  exact go _ 0 ρ S rfl (Nat.zero_le _) h0
theorem Ru.lc {src : Src} {step : D → Sto → R (List D)} {items : List D} (Inv : Nat → List D → Sto → Prop) (h0 : Inv 0 [] S) (ht : ∀ i ys S, Inv i ys S → src.there S)
    (hs : ∀ i d ys S, items[i]? = some d → Inv i ys S → Ru (step d S) (fun zs S' => Inv (i + 1) (ys ++ zs) S') noE) (he : ∀ ys S, Inv items.length ys S → Qs ys S) : Ru (lcLoop src step items S) Qs E := by
  obtain ⟨ys, S', e, h⟩ := lcLoop_inv (step := step) Inv h0 ht fun i d ys S hd hI => by
    obtain ⟨zs, S', e, h⟩ := (hs i d ys S hd hI).ex
    exact ⟨zs, S', e, h⟩
  rw [e, ru_ok]
  exact he _ _ h
/-- each item by itself, the store as it was -/
theorem Ru.lcp {src : Src} {step : D → Sto → R (List D)} {items : List D} (f : D → List D) (ht : src.there S) (hs : ∀ d ∈ items, Ru (step d S) (fun zs S' => zs = f d ∧ S' = S) noE) (he : Qs (items.flatMap f) S) : Ru (lcLoop src step items S) Qs E := by
  refine Ru.lc (fun i ys S' => ys = (items.take i).flatMap f ∧ S' = S) ⟨by rw [List.take_zero]; rfl, rfl⟩ (fun i ys S' h => by rw [h.2]; exact ht) (fun i d ys S' hd ⟨h1, h2⟩ => ?_) fun ys S' ⟨h1, h2⟩ => by rw [h1, h2, List.take_length]; exact he
  subst h2
  refine (hs d (List.mem_of_getElem? hd)).imp (fun zs S2 ⟨q1, q2⟩ => ⟨?_, q2⟩) fun _ _ h => h
  rw [h1, q1, List.take_succ, hd, List.flatMap_append]
  simp
theorem Ru.lcm {src : Src} {step : D → Sto → R (List D)} {α : Type} {items : List α} (enc : α → D) (f : α → List D) (ht : src.there S) (hs : ∀ a ∈ items, Ru (step (enc a) S) (fun zs S' => zs = f a ∧ S' = S) noE) (he : Qs (items.flatMap f) S) : Ru (lcLoop src step (items.map enc) S) Qs E := by
  rw [lcLoop_encS ht fun a ha => (hs a ha).is, ru_ok]
  exact he
theorem ru_step : Ru (forStep F t body d ρ S) Qf E = Ru (asg F t d ρ S) (fun ρ S => Ru (exs F body ρ S) Qf E) noE := ru_st
theorem ru_lcStep : Ru (lcStep F own t ifs e ρ d S) Qs E = Ru (asg F t d (wipeE ρ own) S) (fun ρ1 S => Ru (evIfs F ifs ρ1 S) (fun k S => if k = true then Ru (ev F e ρ1 S) (fun y S => Qs [y] S) E else Qs [] S) E) E := by
  unfold lcStep
  simp only [ru_bind, ru_ite, ru_ok]
theorem ru_lcStepB {ifs1 : List Iv.E} : Ru (lcStepB F own own1 t ifs t1 it1 ifs1 e ρ d S) Qs E = Ru (asg F t d (wipeE ρ own) S) (fun ρ1 S => Ru (evIfs F ifs ρ1 S) (fun k S => if k = true then Ru (evIt F it1 ρ1 S) (fun w S => Ru (lcLoop w.1 (lcStep F own1 t1 ifs1 e ρ1) w.2 S) Qs E) E else Qs [] S) E) E := by
  unfold lcStepB
  simp only [ru_bind, ru_ite, ru_ok]
end
/-! what operators tell -/
section
variable {S : Sto} {i j : Int} {z z' : Str} {xs ys : List D} {b : Bool} {d : D} {n m : Nat} {Q : D → Sto → Prop} {E : Exc → Sto → Prop}
theorem bin_addI {box : Bool} : binR box .add (.int i) (.int j) S = .ok (.int (i + j)) S := rfl
theorem bin_subI {box : Bool} : binR box .sub (.int i) (.int j) S = .ok (.int (i - j)) S := rfl
theorem bin_mulI {box : Bool} : binR box .mul (.int i) (.int j) S = ck (mulOk i j) (.ok (.int (i * j)) S) := rfl
theorem bin_divI {box : Bool} : binR box .div (.int i) (.int j) S = ck (0 < j ∧ j < 1073741824) (.ok (.int (i / j)) S) := rfl
theorem bin_modI {box : Bool} : binR box .mod (.int i) (.int j) S = ck (0 < j) (.ok (.int (i % j)) S) := rfl
theorem bin_addT {box : Bool} : binR box .add (.tup xs) (.tup ys) S = ck (xs.length + ys.length ≤ sizeLine) (.ok (.tup (xs ++ ys)) S) := rfl
theorem neg_I : negR (.int i) S = .ok (.int (-i)) S := rfl
theorem tru_b : tru (.bl b) S = .ok b S := rfl
theorem tru_i : tru (.int i) S = .ok (i != 0) S := rfl
theorem cmp_ltI : cmpR .lt (.int i) (.int j) S = .ok (.bl (decide (i < j))) S := rfl
theorem cmp_leI : cmpR .le (.int i) (.int j) S = .ok (.bl (decide (i ≤ j))) S := rfl
theorem cmp_gtI : cmpR .gt (.int i) (.int j) S = .ok (.bl (decide (j < i))) S := rfl
theorem cmp_geI : cmpR .ge (.int i) (.int j) S = .ok (.bl (decide (j ≤ i))) S := rfl
theorem cmp_isN : cmpR .isN d .non S = .ok (.bl (match d with | .non => true | _ => false)) S := rfl
theorem cmp_notN : cmpR .notN d .non S = .ok (.bl (match d with | .non => false | _ => true)) S := rfl
theorem cmp_isB {b' : Bool} : cmpR .isN (.bl b) (.bl b') S = .ok (.bl (decide (b = b'))) S := rfl
theorem cmp_eqI : cmpR .eq (.int i) (.int j) S = .ok (.bl (i == j)) S := by
  show ck ((unbox S (.int i)).fz = true ∧ (unbox S (.int j)).fz = true ∧ (unbox S (.int i)).dp ≤ 64 ∧ (unbox S (.int j)).dp ≤ 64) (R.ok (D.bl ((unbox S (.int i)).eqv (unbox S (.int j)))) S) = _
  rw [ck_of ⟨by simp [unbox, D.fz], by simp [unbox, D.fz], by simp [unbox, D.dp], by simp [unbox, D.dp]⟩]
  simp only [unbox, eqv_int]
theorem cmp_neI : cmpR .ne (.int i) (.int j) S = .ok (.bl (!(i == j))) S := by
  show ck ((unbox S (.int i)).fz = true ∧ (unbox S (.int j)).fz = true ∧ (unbox S (.int i)).dp ≤ 64 ∧ (unbox S (.int j)).dp ≤ 64) (R.ok (D.bl (!((unbox S (.int i)).eqv (unbox S (.int j))))) S) = _
  rw [ck_of ⟨by simp [unbox, D.fz], by simp [unbox, D.fz], by simp [unbox, D.dp], by simp [unbox, D.dp]⟩]
  simp only [unbox, eqv_int]
theorem eqv_str : D.eqv (.str z) (.str z') = (z == z') := by simp [D.eqv]
theorem cmp_eqS : cmpR .eq (.str z) (.str z') S = .ok (.bl (z == z')) S := by
  show ck ((unbox S (.str z)).fz = true ∧ (unbox S (.str z')).fz = true ∧ (unbox S (.str z)).dp ≤ 64 ∧ (unbox S (.str z')).dp ≤ 64) (R.ok (D.bl ((unbox S (.str z)).eqv (unbox S (.str z')))) S) = _
  rw [ck_of ⟨by simp [unbox, D.fz], by simp [unbox, D.fz], by simp [unbox, D.dp], by simp [unbox, D.dp]⟩]
  simp only [unbox, eqv_str]
theorem cmp_neS : cmpR .ne (.str z) (.str z') S = .ok (.bl (!(z == z'))) S := by
  show ck ((unbox S (.str z)).fz = true ∧ (unbox S (.str z')).fz = true ∧ (unbox S (.str z)).dp ≤ 64 ∧ (unbox S (.str z')).dp ≤ 64) (R.ok (D.bl (!((unbox S (.str z)).eqv (unbox S (.str z'))))) S) = _
  rw [ck_of ⟨by simp [unbox, D.fz], by simp [unbox, D.fz], by simp [unbox, D.dp], by simp [unbox, D.dp]⟩]
  simp only [unbox, eqv_str]
theorem unbox_fz1 (h : d.fz = true) : unbox S d = d := by cases d <;> first | rfl | cases h
/-- == of frozen things -/
theorem ru_eq {x y : D} (fx : x.fz = true) (fy : y.fz = true) : Ru (cmpR .eq x y S) Q E = ((x.dp ≤ 64 ∧ y.dp ≤ 64) ∧ Q (.bl (x.eqv y)) S) := by
  show Ru (ck ((unbox S x).fz = true ∧ (unbox S y).fz = true ∧ (unbox S x).dp ≤ 64 ∧ (unbox S y).dp ≤ 64) (R.ok (D.bl ((unbox S x).eqv (unbox S y))) S)) Q E = _
  rw [unbox_fz1 fx, unbox_fz1 fy, ru_ck, ru_ok]
  exact propext ⟨fun ⟨⟨_, _, a⟩, b⟩ => ⟨a, b⟩, fun ⟨a, b⟩ => ⟨⟨fx, fy, a⟩, b⟩⟩
theorem ru_ne {x y : D} (fx : x.fz = true) (fy : y.fz = true) : Ru (cmpR .ne x y S) Q E = ((x.dp ≤ 64 ∧ y.dp ≤ 64) ∧ Q (.bl (!(x.eqv y))) S) := by
  show Ru (ck ((unbox S x).fz = true ∧ (unbox S y).fz = true ∧ (unbox S x).dp ≤ 64 ∧ (unbox S y).dp ≤ 64) (R.ok (D.bl (!((unbox S x).eqv (unbox S y)))) S)) Q E = _
  rw [unbox_fz1 fx, unbox_fz1 fy, ru_ck, ru_ok]
  exact propext ⟨fun ⟨⟨_, _, a⟩, b⟩ => ⟨a, b⟩, fun ⟨a, b⟩ => ⟨⟨fx, fy, a⟩, b⟩⟩
theorem ru_eqd {x y x' y' : D} (ex : deep 8 S x = x') (ey : deep 8 S y = y') : Ru (cmpR .eqd x y S) Q E = ((x'.fz = true ∧ y'.fz = true ∧ x'.dp ≤ 64 ∧ y'.dp ≤ 64) ∧ Q (.bl (x'.eqv y')) S) := by
  subst ex ey
  show Ru (ck _ _) Q E = _
  rw [ru_ck, ru_ok]
theorem ru_ned {x y x' y' : D} (ex : deep 8 S x = x') (ey : deep 8 S y = y') : Ru (cmpR .ned x y S) Q E = ((x'.fz = true ∧ y'.fz = true ∧ x'.dp ≤ 64 ∧ y'.dp ≤ 64) ∧ Q (.bl (!(x'.eqv y'))) S) := by
  subst ex ey
  show Ru (ck _ _) Q E = _
  rw [ru_ck, ru_ok]
theorem cmp_eqdI : cmpR .eqd (.int i) (.int j) S = .ok (.bl (i == j)) S := by
  refine Ru.is ?_
  rw [ru_eqd (x' := .int i) (y' := .int j) rfl rfl, eqv_int]
  exact ⟨⟨by simp [D.fz], by simp [D.fz], by simp [D.dp], by simp [D.dp]⟩, rfl, rfl⟩
theorem cmp_nedI : cmpR .ned (.int i) (.int j) S = .ok (.bl (!(i == j))) S := by
  refine Ru.is ?_
  rw [ru_ned (x' := .int i) (y' := .int j) rfl rfl, eqv_int]
  exact ⟨⟨by simp [D.fz], by simp [D.fz], by simp [D.dp], by simp [D.dp]⟩, rfl, rfl⟩
theorem ru_in {x y : D} {ys : List D} (hs : seqOf S y = some ys) (hx : ∀ z, y ≠ .str z) : Ru (cmpR .isIn x y S) Q E = ((x.fz = true ∧ x.dp ≤ 63 ∧ D.fzs ys = true ∧ D.dps ys ≤ 63) ∧ Q (.bl (ys.any fun z => z.eqv x)) S) := by
  have e : cmpR .isIn x y S = match seqOf S y with
    | some ys => ck (x.fz = true ∧ x.dp ≤ 63 ∧ D.fzs ys = true ∧ D.dps ys ≤ 63) (R.ok (D.bl (ys.any fun z => z.eqv x)) S)
    | none => .err := by
    cases y <;> first | rfl | (cases x <;> rfl) | exact absurd rfl (hx _)
  rw [e, hs]
  show Ru (ck _ _) Q E = _
  rw [ru_ck, ru_ok]
theorem idx_tup0 {x : D} : idxR (.tup (x :: xs)) (.int 0) S = .ok x S := rfl
theorem idx_tup1 {x y : D} : idxR (.tup (x :: y :: xs)) (.int 1) S = .ok y S := rfl
theorem idx_tup2 {x y z : D} : idxR (.tup (x :: y :: z :: xs)) (.int 2) S = .ok z S := rfl
theorem idx_lst0 {x : D} : idxR (.lst (x :: xs)) (.int 0) S = .ok x S := rfl
theorem idx_lst1 {x y : D} : idxR (.lst (x :: y :: xs)) (.int 1) S = .ok y S := rfl
theorem idx_tup3 {x y z w : D} : idxR (.tup (x :: y :: z :: w :: xs)) (.int 3) S = .ok w S := rfl
theorem bi_lenT : biR .len [.tup xs] S = .ok (.int (xs.length : Nat)) S := rfl
theorem bi_lenL : biR .len [.lst xs] S = .ok (.int (xs.length : Nat)) S := rfl
theorem bi_lenC : biR .len [.scr xs] S = .ok (.int (xs.length : Nat)) S := rfl
theorem bi_lenS : biR .len [.str z] S = .ok (.int (z.length : Nat)) S := rfl
theorem bi_lenB (h : cellAt S n = some (.lst xs)) : biR .len [.ref n] S = .ok (.int (xs.length : Nat)) S := by
  show (match (seqOf S (.ref n)).map (·.length) with | some n => R.ok (D.int (n : Nat)) S | none => .err) = _
  rw [seqOf_box h]
  rfl
theorem bi_tupT : biR .tuple1 [.tup xs] S = .ok (.tup xs) S := rfl
theorem bi_tupL : biR .tuple1 [.lst xs] S = .ok (.tup xs) S := rfl
theorem bi_listB {box : Bool} (h : cellAt S n = some (.lst xs)) : biR (.list1 box) [.ref n] S = mkL box xs S := by
  show (match seqOf S (.ref n) with | some xs => mkL box xs S | none => .err) = _
  rw [seqOf_box h]
theorem bi_min2 : biR .min2 [.int i, .int j] S = .ok (.int (if j < i then j else i)) S := rfl
theorem bi_max2 : biR .max2 [.int i, .int j] S = .ok (.int (if j > i then j else i)) S := rfl
theorem bi_abs : biR .abs [.int i] S = .ok (.int (if i < 0 then -i else i)) S := rfl
theorem bi_intI : biR .int1 [.int i] S = .ok (.int i) S := rfl
theorem bi_intB : biR .int1 [.bl b] S = .ok (.int (if b then 1 else 0)) S := rfl
theorem mk_lst : mkL false xs S = .ok (.lst xs) S := rfl
theorem at_ref {c f : Nat} {fs : List (Nat × D)} (hc : cellAt S n = some (.ins c fs)) (hl : fs.lookup f = some d) : attrR (.ref n) f S = .ok d S := attr_ref hc hl
theorem at_put {c f : Nat} {cs : List Nat} {fs : List (Nat × D)} (hc : cellAt S n = some (.ins c fs)) : sattrR (.ref n) f cs d S = ck (c ∈ cs ∧ fs.length < 900) (.ok () (setAt S n (.ins c (putFd f d fs)))) := by
  unfold sattrR
  dsimp only
  rw [hc]
theorem bm_okA (h : cellAt S n = some (.lst xs)) : bmOk .append (.ref n) S = true := by unfold bmOk; dsimp only; rw [h]
theorem bm_okI (h : cellAt S n = some (.lst xs)) : bmOk .insert (.ref n) S = true := by unfold bmOk; dsimp only; rw [h]
theorem bm_okR (h : cellAt S n = some (.lst xs)) : bmOk .remove (.ref n) S = true := by unfold bmOk; dsimp only; rw [h]
theorem bm_okP (h : cellAt S n = some (.lst xs)) : bmOk .pop1 (.ref n) S = true := by unfold bmOk; dsimp only; rw [h]
theorem bm_okC (h : cellAt S n = some (.lst xs)) : bmOk .clear (.ref n) S = true := by unfold bmOk; dsimp only; rw [h]
theorem bm_append (h : cellAt S n = some (.lst xs)) : bmR .append (.ref n) [d] S = ck (xs.length < sizeLine) (.ok .non (setAt S n (.lst (xs ++ [d])))) := by
  show (match cellAt S n with | some (.lst xs) => ck (xs.length < sizeLine) (R.ok D.non (setAt S n (.lst (xs ++ [d])))) | _ => .err) = _
  rw [h]
theorem cell_setS {c : Cell} (h : (cellAt S n).isSome = true) : cellAt (setAt S n c) n = some c := by
  refine cellAt_set1 ?_
  obtain ⟨c', h⟩ := Option.isSome_iff_exists.mp h
  exact cellAt_lt h
theorem cell_push {c : Option Cell} : cellAt (S ++ [c]) S.length = c := cellAt_push
theorem cell_pushN {c : Option Cell} (h : (cellAt S m).isSome = true) : cellAt (S ++ [c]) m = cellAt S m := by
  obtain ⟨c', h⟩ := Option.isSome_iff_exists.mp h
  exact cellAt_push_lt (cellAt_lt h)
end
end Iv
/-! the same as steps backwards (for the tactic in sx.txt) -/
namespace Iv
open PySem L2
section
variable {F : CE} {Q : D → Sto → Prop} {Qs : List D → Sto → Prop} {Qf : Fl → Sto → Prop} {Qe : Env → Sto → Prop} {Qb : Bool → Sto → Prop} {Qu : Unit → Sto → Prop} {Qi : Src × List D → Sto → Prop} {Qo : Option Int → Sto → Prop} {E : Exc → Sto → Prop} {ρ : Env} {S : Sto} {a b c e : Iv.E} {d x y : D} {es ifs : List Iv.E} {box : Bool} {own own1 : List Nat} {t t1 : Tg} {ts : List Tg} {it it1 : It} {st : St} {sts body els : List St} {i j : Int} {z z' : Str} {xs ys ds ps : List D} {n m k f : Nat} {A B : Prop} {kb : Bool} {fs : List (Nat × D)} {arr : List Ar} {cl : Nat}
theorem r_var (h : ρ[n]? = some (some d)) (q : Q d S) : Ru (ev F (.var n) ρ S) Q E := by rw [ru_var h]; exact q
theorem r_aug {op : Bop} (h : ρ[n]? = some (some d)) (q : Ru (ev F e ρ S) (fun y S => Ru (augR op d y S) (fun z S => Qf (.next (ρ.set n (some z))) S) (fun x S => Qf (.raised x ρ) S)) (fun x S => Qf (.raised x ρ) S)) : Ru (ex F (.aug n op e) ρ S) Qf E := by rw [ru_sAug h]; exact q
theorem r_tupA (h : seqOf S d = some xs) (hl : xs.length = ts.length) (q : Ru (asgs F ts xs ρ S) Qe E) : Ru (tupA F ts ρ (seqOf S d) S) Qe E := by rw [h, ru_tupA]; exact ⟨hl, q⟩
theorem r_tupsA (h : seqOf S d = some xs) (hl : Nat.ble 1 ts.length = true) (hl2 : Nat.ble ts.length (xs.length + 1) = true) (hl3 : Nat.ble xs.length 1000 = true) (q : Ru (asgs F ts (xs.take (ts.length - 1) ++ [.lst (xs.drop (ts.length - 1))]) ρ S) Qe E) : Ru (tupsA F ts ρ (seqOf S d) S) Qe E := by
  rw [h, ru_tupsA]
  exact ⟨⟨Nat.le_of_ble_eq_true hl, Nat.le_of_ble_eq_true hl2, Nat.le_trans (Nat.le_of_ble_eq_true hl3) (by decide)⟩, q⟩
theorem r_callR (h : pick ds arr = some ps) (q : Ru (F f ps S) Q E) : Ru (callR F f arr ds S) Q E := by unfold callR; rw [h]; exact q
theorem sz_of (h : Nat.ble n 1000 = true) : n ≤ sizeLine := Nat.le_trans (Nat.le_of_ble_eq_true h) (by decide)
theorem sz_le (h : n ≤ 1000) : n ≤ sizeLine := Nat.le_trans h (by decide)
theorem r_sz (h : Nat.ble n 1000 = true) (q : A) : n ≤ sizeLine ∧ A := ⟨sz_of h, q⟩
theorem r_itet (h : kb = true) (q : A) : if kb = true then A else B := by rw [if_pos h]; exact q
theorem r_itef (h : kb = false) (q : B) : if kb = true then A else B := by rw [if_neg (by rw [h]; exact Bool.false_ne_true)]; exact q
theorem r_mulI (c : mulOk i j) (q : Q (.int (i * j)) S) : Ru (binR box .mul (.int i) (.int j) S) Q E := by rw [bin_mulI, ru_ck, ru_ok]; exact ⟨c, q⟩
theorem r_divI (c : 0 < j ∧ j < 1073741824) (q : Q (.int (i / j)) S) : Ru (binR box .div (.int i) (.int j) S) Q E := by rw [bin_divI, ru_ck, ru_ok]; exact ⟨c, q⟩
theorem r_modI (c : 0 < j) (q : Q (.int (i % j)) S) : Ru (binR box .mod (.int i) (.int j) S) Q E := by rw [bin_modI, ru_ck, ru_ok]; exact ⟨c, q⟩
theorem r_addT (c : Nat.ble (xs.length + ys.length) 1000 = true) (q : Q (.tup (xs ++ ys)) S) : Ru (binR box .add (.tup xs) (.tup ys) S) Q E := by rw [bin_addT, ru_ck, ru_ok]; exact ⟨sz_of c, q⟩
theorem r_at (hc : cellAt S n = some (.ins cl fs)) (hl : fs.lookup f = some d) (q : Q d S) : Ru (attrR (.ref n) f S) Q E := Ru.eq (at_ref hc hl) q
theorem r_atI (hl : fs.lookup f = some d) (q : Q d S) : Ru (attrR (.ins cl fs) f S) Q E := by
  refine Ru.eq (a := d) (S := S) ?_ q
  show (match fs.lookup f with | some d => R.ok d S | none => .err) = _
  rw [hl]
theorem r_meth {ms : List (Nat × Nat × List Ar)} (hc : cellAt S n = some (.ins cl fs)) (hm : ms.lookup cl = some (f, arr)) (q : Ru (evs F es ρ S) (fun xs S => Ru (callR F f arr (.ref n :: xs) S) Q E) E) : Ru (methR F ms es ρ (.ref n) ((clsOf S (.ref n)).bind fun c => ms.lookup c) S) Q E := by
  rw [cls_ref hc, Option.bind_some, hm, ru_methR]
  exact q
theorem r_methI {ms : List (Nat × Nat × List Ar)} (hm : ms.lookup cl = some (f, arr)) (q : Ru (evs F es ρ S) (fun xs S => Ru (callR F f arr (.ins cl fs :: xs) S) Q E) E) : Ru (methR F ms es ρ (.ins cl fs) ((clsOf S (.ins cl fs)).bind fun c => ms.lookup c) S) Q E := by
  show Ru (methR F ms es ρ (.ins cl fs) ((some cl).bind fun c => ms.lookup c) S) Q E
  rw [Option.bind_some, hm, ru_methR]
  exact q
theorem r_oR {α : Type} {o : Option α} {w : α} {Qx : α → Sto → Prop} (h : o = some w) (q : Qx w S) : Ru (oR o S) Qx E := by rw [h, ru_oR]; exact q
theorem r_walkB {Qx : Src × List D → Sto → Prop} (h : cellAt S n = some (.lst xs)) (q : Qx (.box n xs, xs) S) : Ru (oR (walkOf S (.ref n)) S) Qx E := r_oR (walk_box h) q
theorem r_enumR {o : Option (Src × List D)} {w : Src × List D} (h : o = some w) (q : Qi (w.1, enumD 0 w.2) S) : Ru (enumR o none S) Qi E := by rw [h, ru_enumR]; exact q
theorem r_enumB (h : cellAt S n = some (.lst xs)) (q : Qi (.box n xs, enumD 0 xs) S) : Ru (enumR (walkL S (.ref n)) none S) Qi E := r_enumR (walkL_box h) q
theorem r_enumSR {o : Option (Src × List D)} {w : Src × List D} (h : o = some w) (c : smallI j) (q : Qi (w.1, enumD j w.2) S) : Ru (enumSR o (.int j) S) Qi E := by rw [h, ru_enumSR]; exact ⟨c, q⟩
theorem r_enumSB (h : cellAt S n = some (.lst xs)) (c : smallI j) (q : Qi (.box n xs, enumD j xs) S) : Ru (enumSR (walkL S (.ref n)) (.int j) S) Qi E := r_enumSR (walkL_box h) c q
theorem r_rng1R (c : smallI j) (q : Qi (.fix, rngD 0 j.toNat) S) : Ru (rng1R (.int j) S) Qi E := by rw [ru_rng1R]; exact ⟨c, q⟩
theorem r_rng2R (c : smallI i ∧ smallI j) (q : Qi (.fix, rngD i (j - i).toNat) S) : Ru (rng2R (.int i) (.int j) S) Qi E := by rw [ru_rng2R]; exact ⟨c, q⟩
theorem r_isitR {tys : List String} {o : Option Bool} (h : o = some kb) (hl : Nat.ble tys.length 100 = true) (q : Q (.bl kb) S) : Ru (isitR tys o S) Q E := by rw [h, ru_isitR]; exact ⟨Nat.le_of_ble_eq_true hl, q⟩
theorem r_isi {ty : String} (h : (tyOf S x).bind (fun a => kitB a ty) = some kb) (q : Q (.bl kb) S) : Ru (biR .isi [x, .ty ty] S) Q E := by
  refine Ru.eq (a := .bl kb) (S := S) ?_ q
  show (match (tyOf S x).bind fun a => kitB a ty with | some b => R.ok (D.bl b) S | none => .err) = _
  rw [h]
theorem r_listB (h : cellAt S n = some (.lst xs)) (q : Ru (mkL box xs S) Q E) : Ru (biR (.list1 box) [.ref n] S) Q E := by rw [bi_listB h]; exact q
theorem r_listL (q : Ru (mkL box xs S) Q E) : Ru (biR (.list1 box) [.lst xs] S) Q E := q
theorem r_listT (q : Ru (mkL box xs S) Q E) : Ru (biR (.list1 box) [.tup xs] S) Q E := q
theorem r_lenB (h : cellAt S n = some (.lst xs)) (q : Q (.int (xs.length : Nat)) S) : Ru (biR .len [.ref n] S) Q E := Ru.eq (bi_lenB h) q
theorem r_sortL (c : D.fzs xs = true ∧ D.dps xs ≤ 60 ∧ sortable (D.pys xs)) (q : Ru (mkL box (sortD xs) S) Q E) : Ru (biR (.sorted1 box) [.lst xs] S) Q E := by
  show Ru (ck (D.fzs xs = true ∧ D.dps xs ≤ 60 ∧ sortable (D.pys xs)) (mkL box (sortD xs) S)) Q E
  rw [ru_ck]
  exact ⟨c, q⟩
theorem r_slcL {lo hi : Option Int} (q : Ru (mkL box (cutD xs lo hi) S) Q E) : Ru (slcR box (.lst xs) lo hi S) Q E := q
theorem r_slcT {lo hi : Option Int} (q : Q (.tup (cutD xs lo hi)) S) : Ru (slcR box (.tup xs) lo hi S) Q E := Ru.eq rfl q
theorem r_slcB {lo hi : Option Int} (h : cellAt S n = some (.lst xs)) (q : Ru (mkL box (cutD xs lo hi) S) Q E) : Ru (slcR box (.ref n) lo hi S) Q E := by
  show Ru (match seqOf S (.ref n) with | some xs => mkL box (cutD xs lo hi) S | none => .err) Q E
  rw [seqOf_box h]
  exact q
theorem r_remove (h : cellAt S n = some (.lst xs)) (hj : xs.findIdx? (fun z => z.eqv d) = some k) (c : D.fzs xs = true ∧ d.fz = true ∧ D.dps xs ≤ 60 ∧ d.dp ≤ 60 ∧ xs.length ≤ 1000) (q : ∀ S', S'.length = S.length → cellAt S' n = some (.lst (xs.eraseIdx k)) → Keep [n] S S' → Q .non S') : Ru (bmR .remove (.ref n) [d] S) Q E := by
  show Ru (match cellAt S n with | some (.lst xs) => (match xs.findIdx? (fun z => z.eqv d) with | some j => ck (D.fzs xs = true ∧ d.fz = true ∧ D.dps xs ≤ 60 ∧ d.dp ≤ 60 ∧ xs.length ≤ sizeLine) (.ok .non (setAt S n (.lst (xs.eraseIdx j)))) | none => .err) | _ => .err) Q E
  rw [h]
  dsimp only
  rw [hj]
  dsimp only
  rw [ru_ck, ru_ok]
  exact ⟨⟨c.1, c.2.1, c.2.2.1, c.2.2.2.1, sz_le c.2.2.2.2⟩, q _ setAt_len (cell_setS (by rw [h]; rfl)) Keep.set⟩
theorem eqv_nil : (D.lst xs).eqv (.lst []) = xs.isEmpty := by cases xs <;> simp [D.eqv, D.eqvs]
theorem nil_ok : (D.lst []).fz = true ∧ (D.lst []).dp ≤ 64 := ⟨by simp [D.fz, D.fzs], by simp [D.dp, D.dps]⟩
/-- a new box -/
theorem r_new (q : ∀ S' n, n = S.length → cellAt S' n = some (.lst xs) → Keep [] S S' → Q (.ref n) S') : Ru (mkL true xs S) Q E := Ru.eq rfl (q _ _ rfl cell_push Keep.push)
theorem r_append (h : cellAt S n = some (.lst xs)) (hl : xs.length < 1000) (q : ∀ S', S'.length = S.length → cellAt S' n = some (.lst (xs ++ [d])) → Keep [n] S S' → Q .non S') : Ru (bmR .append (.ref n) [d] S) Q E := by
  rw [bm_append h, ru_ck, ru_ok]
  exact ⟨Nat.lt_of_lt_of_le hl (by decide), q _ setAt_len (cell_setS (by rw [h]; rfl)) Keep.set⟩
theorem r_put {cs : List Nat} (h : cellAt S n = some (.ins cl fs)) (hc : cl ∈ cs) (hl : fs.length < 900) (q : ∀ S', S'.length = S.length → cellAt S' n = some (.ins cl (putFd f d fs)) → Keep [n] S S' → Qu () S') : Ru (sattrR (.ref n) f cs d S) Qu E := by
  rw [at_put h, ru_ck, ru_ok]
  exact ⟨⟨hc, hl⟩, q _ setAt_len (cell_setS (by rw [h]; rfl)) Keep.set⟩
theorem r_make (q : ∀ S' n, n = S.length → cellAt S' n = some (.ins cl []) → Keep [] S S' → Ru (callR F f arr (.ref n :: ds) S') (fun r S1 => r = .non ∧ Q (.ref n) S1) E) : Ru (makeR F false cl f arr ds S) Q E := by
  rw [ru_makeR]
  exact q _ _ rfl cell_push Keep.push
/-- ways join behind a statement -/
theorem Ru.join (P : Env → Sto → Prop) (h : Ru (Iv.ex F st ρ S) (fun w S' => ∃ ρ', w = .next ρ' ∧ P ρ' S') noE) (q : ∀ ρ' S', P ρ' S' → Ru (exs F sts ρ' S') Qf E) : Ru (Iv.ex F st ρ S) (nxQ F sts Qf E) noE := by
  refine h.imp (fun w S' ⟨ρ', e, p⟩ => ?_) fun _ _ h => h
  rw [e]
  exact q ρ' S' p
end
end Iv

/-! ### dicts and sets, backwards -/
namespace Iv
open PySem L2
section
variable {F : CE} {Q : D → Sto → Prop} {Qs : List D → Sto → Prop} {Qe : Env → Sto → Prop} {Qu : Unit → Sto → Prop} {E : Exc → Sto → Prop} {ρ : Env} {S : Sto} {a b c e e2 : Iv.E} {d x y : D} {ifs : List Iv.E} {own : List Nat} {t : Tg} {it : It} {n : Nat} {κ : L2.Key} {kvs : List (L2.Key × D)} {ys : List D} {neg : Bool} {Qi : Src × List D → Sto → Prop} {S' : Sto}
theorem ru_dnew : Ru (ev F .dnew ρ S) Q E = Q (.ref S.length) (S ++ [some (.dct [])]) := by rw [ev, ru_ok]
theorem ru_didx : Ru (ev F (.didx a b) ρ S) Q E = Ru (ev F a ρ S) (fun x S => Ru (ev F b ρ S) (fun y S => Ru (didxR x y S) Q E) E) E := by rw [ev]; simp only [ru_bind]
theorem ru_din : Ru (ev F (.din neg a b) ρ S) Q E = Ru (ev F a ρ S) (fun y S => Ru (ev F b ρ S) (fun x S => Ru (dinR neg y x S) Q E) E) E := by rw [ev]; simp only [ru_bind]
theorem ru_dget2 : Ru (ev F (.dget2 a b c) ρ S) Q E = Ru (ev F a ρ S) (fun x S => (drdOf S x).isSome = true ∧ Ru (ev F b ρ S) (fun y S => Ru (ev F c ρ S) (fun v S => Ru (dget2R x y v S) Q E) E) E) E := by rw [ev]; simp only [ru_bind, ru_ck]
theorem ru_dpop : Ru (ev F (.dpop a b) ρ S) Q E = Ru (ev F a ρ S) (fun x S => (dctOf S x).isSome = true ∧ Ru (ev F b ρ S) (fun y S => Ru (dpopR x y S) Q E) E) E := by rw [ev]; simp only [ru_bind, ru_ck]
theorem ru_dsort {box : Bool} : Ru (ev F (.dsort box a) ρ S) Q E = Ru (ev F a ρ S) (fun x S => Ru (dsortR box x S) Q E) E := by rw [ev]; simp only [ru_bind]
theorem ru_dcomp : Ru (ev F (.dcomp own t it ifs e e2) ρ S) Q E = Ru (evIt F it ρ S) (fun w S => Ru (lcLoop w.1 (dcStep F own t ifs e e2 ρ) w.2 S) (fun ys S => Ru (mkDct ys S) Q E) E) E := by rw [ev]; simp only [ru_bind]
theorem ru_dcStep : Ru (dcStep F own t ifs e e2 ρ d S) Qs E = Ru (asg F t d (wipeE ρ own) S) (fun ρ1 S => Ru (evIfs F ifs ρ1 S) (fun k S => if k = true then Ru (ev F e ρ1 S) (fun y S => Ru (ev F e2 ρ1 S) (fun z S => Qs [.tup [y, z]] S) E) E else Qs [] S) E) E := by
  unfold dcStep
  simp only [ru_bind, ru_ite, ru_ok]
theorem ru_lenSC : Ru (ev F (.lenSC own t it ifs e) ρ S) Q E = Ru (evIt F it ρ S) (fun w S => Ru (lcLoop w.1 (lcStep F own t ifs e ρ) w.2 S) (fun ys S => Ru (lenSCR ys S) Q E) E) E := by rw [ev]; simp only [ru_bind]
theorem ru_sortSC : Ru (ev F (.sortSC own t it ifs e) ρ S) Q E = Ru (evIt F it ρ S) (fun w S => Ru (lcLoop w.1 (lcStep F own t ifs e ρ) w.2 S) (fun ys S => Ru (sortSCR ys S) Q E) E) E := by rw [ev]; simp only [ru_bind]
theorem ru_aDidx : Ru (asg F (.didx a b) d ρ S) Qe E = Ru (ev F a ρ S) (fun x S => Ru (ev F b ρ S) (fun y S => Ru (dputR x y d S) (fun _ S => Qe ρ S) E) E) E := by rw [asg]; simp only [ru_bind, ru_ok]
theorem ru_lenS : Ru (ev F (.lenS a) ρ S) Q E = Ru (ev F a ρ S) (fun x S => Ru (lenSR (seqOf S x) S) Q E) E := by rw [ev]; simp only [ru_bind]
theorem ru_sortS : Ru (ev F (.sortS a) ρ S) Q E = Ru (ev F a ρ S) (fun x S => Ru (sortSR (seqOf S x) S) Q E) E := by rw [ev]; simp only [ru_bind]
theorem dct_ref (h : cellAt S n = some (.dct kvs)) : dctOf S (.ref n) = some (n, kvs) := by unfold dctOf; dsimp only; rw [h]
theorem dct_some (h : cellAt S n = some (.dct kvs)) : (dctOf S (.ref n)).isSome = true := by rw [dct_ref h]; rfl
theorem drd_ref (h : cellAt S n = some (.dct kvs)) : drdOf S (.ref n) = some kvs := by unfold drdOf; dsimp only; rw [h]
theorem drd_some (h : cellAt S n = some (.dct kvs)) : (drdOf S (.ref n)).isSome = true := by rw [drd_ref h]; rfl
theorem drd_refL (h : cellAt S n = some (.dlk kvs)) : drdOf S (.ref n) = some kvs := by unfold drdOf; dsimp only; rw [h]
theorem dlk_ref (h : cellAt S n = some (.dlk kvs)) : dlkOf S (.ref n) = some (n, kvs) := by unfold dlkOf; dsimp only; rw [h]
theorem r_didxL (h : cellAt S n = some (.dlk kvs)) (hk : keyD y = some κ) (hg : dGet kvs κ = some d) (q : Q d S) : Ru (didxR (.ref n) y S) Q E := by
  unfold didxR
  rw [drd_refL h, hk]
  dsimp only
  rw [hg, ru_ok]
  exact q
theorem r_didx (h : cellAt S n = some (.dct kvs)) (hk : keyD y = some κ) (hg : dGet kvs κ = some d) (q : Q d S) : Ru (didxR (.ref n) y S) Q E := by
  unfold didxR
  rw [drd_ref h, hk]
  dsimp only
  rw [hg, ru_ok]
  exact q
theorem r_dpop (h : cellAt S n = some (.dct kvs)) (hk : keyD y = some κ) (hg : dGet kvs κ = some d) (q : ∀ S', S'.length = S.length → cellAt S' n = some (.dct (dDrop kvs κ)) → Keep [n] S S' → Q d S') : Ru (dpopR (.ref n) y S) Q E := by
  unfold dpopR
  rw [dct_ref h, hk]
  dsimp only
  rw [hg, ru_ok]
  exact q _ setAt_len (cell_setS (by rw [h]; rfl)) Keep.set
theorem r_dput (h : cellAt S n = some (.dct kvs)) (hk : keyD y = some κ) (hl : kvs.length < 1000) (q : ∀ S', S'.length = S.length → cellAt S' n = some (.dct (dPut kvs κ d)) → Keep [n] S S' → Qu () S') : Ru (dputR (.ref n) y d S) Qu E := by
  unfold dputR
  rw [dct_ref h, hk]
  dsimp only
  rw [ru_ck, ru_ok]
  exact ⟨Nat.lt_of_lt_of_le hl (by decide), q _ setAt_len (cell_setS (by rw [h]; rfl)) Keep.set⟩
theorem r_dsortI {box : Bool} {ns : List Int} (h : cellAt S n = some (.dct kvs)) (hk : intKs kvs = some ns) (hl : ns.length < 64) (q : Ru (mkL box ((srtI ns).map .int) S) Q E) : Ru (dsortR box (.ref n) S) Q E := by
  unfold dsortR
  rw [dct_ref h]
  dsimp only
  rw [hk]
  dsimp only
  rw [ru_ck]
  exact ⟨hl, q⟩
theorem r_mkDct {es : List (L2.Key × D)} (h : pairsD ys = some es) (hl : ys.length < 1000) (q : ∀ S' n, n = S.length → cellAt S' n = some (.dct (mergeD es)) → Keep [] S S' → Q (.ref n) S') : Ru (mkDct ys S) Q E := by
  unfold mkDct
  rw [h]
  dsimp only
  rw [ru_ck, ru_ok]
  exact ⟨Nat.lt_of_lt_of_le hl (by decide), q _ _ rfl cell_push Keep.push⟩
theorem r_lenSC {ks : List L2.Key} (h : keysD ys = some ks) (hl : ys.length < 1000) (q : Q (.int (manyK ks)) S) : Ru (lenSCR ys S) Q E := by
  unfold lenSCR
  rw [h]
  dsimp only
  rw [ru_ck, ru_ok]
  exact ⟨hl, q⟩
/-! walked dicts, made tuples, displays, tries that raise nothing, o.f op= e -/
theorem ru_items : Ru (evIt F (.items a) ρ S) Qi E = Ru (ev F a ρ S) (fun x S => Ru (oR ((dlkOf S x).map fun p => (Src.dlk p.1 p.2, p.2.map fun kv => D.tup [keyV kv.1, kv.2])) S) Qi E) E := by
  rw [evIt, ru_bind]
  congr 1 <;> (funext x S; cases dlkOf S x <;> rfl)
theorem ru_keys : Ru (evIt F (.keys a) ρ S) Qi E = Ru (ev F a ρ S) (fun x S => Ru (oR ((dlkOf S x).map fun p => (Src.dlk p.1 p.2, p.2.map fun kv => keyV kv.1)) S) Qi E) E := by
  rw [evIt, ru_bind]
  congr 1 <;> (funext x S; cases dlkOf S x <;> rfl)
theorem r_itemsB (h : cellAt S n = some (.dlk kvs)) (q : Qi (.dlk n kvs, kvs.map fun kv => .tup [keyV kv.1, kv.2]) S) : Ru (oR ((dlkOf S (.ref n)).map fun p => (Src.dlk p.1 p.2, p.2.map fun kv => D.tup [keyV kv.1, kv.2])) S) Qi E := by
  rw [dlk_ref h]
  exact ru_ok ▸ q
theorem r_keysB (h : cellAt S n = some (.dlk kvs)) (q : Qi (.dlk n kvs, kvs.map fun kv => keyV kv.1) S) : Ru (oR ((dlkOf S (.ref n)).map fun p => (Src.dlk p.1 p.2, p.2.map fun kv => keyV kv.1)) S) Qi E := by
  rw [dlk_ref h]
  exact ru_ok ▸ q
theorem set_back {c0 c1 : Cell} (h : cellAt S n = some c0) : setAt (setAt S n c1) n c0 = S := by
  unfold setAt
  rw [List.set_set]
  unfold cellAt at h
  have hl := cellAt_lt (S := S) (i := n) (c := c0) (by unfold cellAt; exact h)
  rw [List.getElem?_eq_getElem hl] at h
  have e : S[n] = some c0 := by simpa using h
  apply List.ext_getElem?
  intro i
  by_cases hi : i = n
  · subst hi
    rw [List.getElem?_set_self hl, List.getElem?_eq_getElem hl, e]
  · rw [List.getElem?_set_ne (Ne.symm hi)]
/-- a dict is walked, and all stays as it was -/
theorem r_lockP (ha : ev F a ρ S = .ok (.ref n) S') (h : cellAt S n = some (.dct kvs)) (q : ∀ S1, S1.length = S.length → cellAt S1 n = some (.dlk kvs) → Keep [n] S S1 → Ru (ev F e ρ S1) (fun v S2 => S2 = S1 ∧ Q v S) noE) : Ru (ev F (.lock a e) ρ S) Q E := by
  rw [ev, ha]
  unfold lockR
  dsimp only
  rw [h]
  dsimp only
  obtain ⟨v, S2, e1, e2, q1⟩ := (q (setAt S n (.dlk kvs)) setAt_len (cell_setS (by rw [h]; rfl)) Keep.set).ex
  subst e2
  rw [e1]
  unfold unlockR
  dsimp only
  rw [cell_setS (by rw [h]; rfl)]
  dsimp only
  rw [ru_ok, set_back h]
  exact q1
theorem r_lockSP {st : St} {Qf : Fl → Sto → Prop} (ha : ev F a ρ S = .ok (.ref n) S') (h : cellAt S n = some (.dct kvs)) (q : ∀ S1, S1.length = S.length → cellAt S1 n = some (.dlk kvs) → Keep [n] S S1 → Ru (ex F st ρ S1) (fun w S2 => S2 = S1 ∧ ∃ ρ', w = .next ρ' ∧ Qf w S) noE) : Ru (ex F (.lock a st) ρ S) Qf E := by
  rw [ex, ha]
  unfold lockR
  dsimp only
  rw [h]
  dsimp only
  obtain ⟨w, S2, e1, e2, ρ', e3, q1⟩ := (q (setAt S n (.dlk kvs)) setAt_len (cell_setS (by rw [h]; rfl)) Keep.set).ex
  subst e2 e3
  rw [e1]
  show Ru (unlockR n (.ok (.next ρ') (setAt S n (.dlk kvs)))) Qf E
  unfold unlockR
  dsimp only
  rw [cell_setS (by rw [h]; rfl)]
  dsimp only
  rw [ru_ok, set_back h]
  exact q1
def ntupR (o : Option (List D)) (S : Sto) : R D := match o with
  | some xs => .ok (.ntp xs) S
  | none => .err
theorem ru_ntup : Ru (ev F (.ntup a) ρ S) Q E = Ru (ev F a ρ S) (fun x S => Ru (ntupR (lstOf S x) S) Q E) E := by
  rw [ev, ru_bind]
  congr 1 <;> (funext x S; cases lstOf S x <;> rfl)
theorem r_ntupL (q : Q (.ntp ys) S) : Ru (ntupR (lstOf S (.lst ys)) S) Q E := ru_ok ▸ q
def untupR (x : D) (S : Sto) : R D := match x with
  | .ntp xs => .ok (.tup xs) S
  | _ => .err
theorem ru_untup : Ru (ev F (.untup a) ρ S) Q E = Ru (ev F a ρ S) (fun x S => Ru (untupR x S) Q E) E := by
  rw [ev, ru_bind]
  congr 1 <;> (funext x S; cases x <;> rfl)
theorem r_untup (q : Q (.tup ys) S) : Ru (untupR (.ntp ys) S) Q E := ru_ok ▸ q
theorem ru_tidx : Ru (ev F (.tidx a b) ρ S) Q E = Ru (ev F a ρ S) (fun x S => isNtp x = true ∧ Ru (ev F b ρ S) (fun y S => Ru (tidxR x y S) Q E) E) E := by
  rw [ev]
  simp only [ru_bind, ru_ck]
theorem r_tidx {zs : List Str} {z : Str} {j : Nat} (h : strsD ys = some zs) (hj : zs.findIdx? (fun y => y == z) = some j) (q : Q (.int (j : Nat)) S) : Ru (tidxR (.ntp ys) (.str z) S) Q E := by
  unfold tidxR
  dsimp only
  rw [h]
  dsimp only
  rw [hj]
  exact ru_ok ▸ q
theorem ru_ddisp {ks : List L2.Key} {es : List Iv.E} : Ru (ev F (.ddisp ks es) ρ S) Q noE = Ru (evs F es ρ S) (fun ds S => (ks.length = ds.length ∧ ks.length ≤ 15) ∧ Q (.ref S.length) (S ++ [some (.dct (mergeD (ks.zip ds)))])) noE := by
  rw [ev]
  cases evs F es ρ S with
  | ok ds S' => rw [ru_ok]; unfold dispR; dsimp only; rw [ru_ck, ru_ok]
  | exc x S' => rw [ru_exc]; unfold dispR; exact propext ⟨fun h => (ru_err ▸ h : False).elim, fun h => h.elim⟩
  | err => rw [show dispR ks R.err = R.err from rfl, ru_err, ru_err]
theorem r_ddisp {ks : List L2.Key} {es : List Iv.E} (q : Ru (evs F es ρ S) (fun ds S => (ks.length = ds.length ∧ ks.length ≤ 15) ∧ ∀ S' n, n = S.length → cellAt S' n = some (.dct (mergeD (ks.zip ds))) → Keep [] S S' → Q (.ref n) S') noE) : Ru (ev F (.ddisp ks es) ρ S) Q E := by
  have : Ru (ev F (.ddisp ks es) ρ S) Q noE := by
    rw [ru_ddisp]
    exact q.use fun ds S h => ⟨h.1, h.2 _ _ rfl cell_push Keep.push⟩
  exact this.use fun _ _ h => h
theorem ru_blk {b : List St} {Qf : Fl → Sto → Prop} : Ru (ex F (.blk b) ρ S) Qf E = Ru (exs F b ρ S) Qf E := by rw [ex]
noncomputable def faugQ (F : CE) (f : Nat) (op : Bop) (e : Iv.E) (ρ : Env) (o : Option (Nat × Nat × List (Nat × D))) (S : Sto) : R Unit := match o with
  | some p => match p.2.2.lookup f with
    | some old => (ev F e ρ S).bind fun y S => (augR op old y S).bind fun z S => faugPut p.1 p.2.1 f z S
    | none => .err
  | none => .err
theorem ru_faug {f : Nat} {op : Bop} {Qf : Fl → Sto → Prop} : Ru (ex F (.faug a f op e) ρ S) Qf E = Ru (ev F a ρ S) (fun x S => Ru (faugQ F f op e ρ (insOf S x) S) (fun _ S => Qf (.next ρ) S) (fun x S => Qf (.raised x ρ) S)) (fun x S => Qf (.raised x ρ) S) := by
  rw [ex, ru_go, ru_bind]
  simp only [ru_ok]
  rfl
/-- o.f += e, ints -/
theorem r_faugI {f c : Nat} {fs : List (Nat × D)} {i j : Int} {Qf : Unit → Sto → Prop} (h : cellAt S n = some (.ins c fs)) (hl : fs.lookup f = some (.int i)) (he : ev F e ρ S = .ok (.int j) S) (h9 : fs.length < 900) (q : ∀ S', S'.length = S.length → cellAt S' n = some (.ins c (putFd f (.int (i + j)) fs)) → Keep [n] S S' → Qf () S') : Ru (faugQ F f .add e ρ (insOf S (.ref n)) S) Qf E := by
  unfold faugQ
  have hi : insOf S (.ref n) = some (n, c, fs) := by unfold insOf; dsimp only; rw [h]
  rw [hi]
  dsimp only
  rw [hl]
  dsimp only
  rw [he, R.bind_ok]
  show Ru (faugPut n c f (.int (i + j)) S) Qf E
  unfold faugPut
  rw [h]
  dsimp only
  rw [ru_ck, ru_ok]
  exact ⟨⟨rfl, h9⟩, q _ setAt_len (cell_setS (by rw [h]; rfl)) Keep.set⟩
end
end Iv

namespace Wk
open PySem PySem.Spec PyProof.Rows L2 Iv
theorem sc_is_whole : FnScope ["thing", "low", "high"] ["thing", "low", "high"] (defScope s_is_whole) := ⟨rfl, rfl, rfl, by decide +kernel, rfl, by decide +kernel, by decide +kernel⟩
theorem sc_is_word : FnScope ["thing", "sign"] ["thing"] (defScope s_is_word) := ⟨rfl, rfl, rfl, by decide +kernel, rfl, by decide +kernel, by decide +kernel⟩
theorem sc_is_one_of : FnScope ["thing", "texts"] ["thing", "texts"] (defScope s_is_one_of) := ⟨rfl, rfl, rfl, by decide +kernel, rfl, by decide +kernel, by decide +kernel⟩
theorem sc_is_tuple_of : FnScope ["thing", "least", "most"] ["thing", "least", "most"] (defScope s_is_tuple_of) := ⟨rfl, rfl, rfl, by decide +kernel, rfl, by decide +kernel, by decide +kernel⟩
theorem sc_is_value : FnScope ["kind", "thing"] ["kind", "thing"] (defScope s_is_value) := ⟨rfl, rfl, rfl, by decide +kernel, rfl, by decide +kernel, by decide +kernel⟩
theorem sc_is_column : FnScope ["thing"] ["thing"] (defScope s_is_column) := ⟨rfl, rfl, rfl, by decide +kernel, rfl, by decide +kernel, by decide +kernel⟩
theorem sc_is_form : FnScope ["thing", "column", "name", "kind"] ["thing"] (defScope s_is_form) := ⟨rfl, rfl, rfl, by decide +kernel, rfl, by decide +kernel, by decide +kernel⟩
theorem sc_is_row : FnScope ["form", "thing", "name", "kind", "value"] ["form", "thing"] (defScope s_is_row) := ⟨rfl, rfl, rfl, by decide +kernel, rfl, by decide +kernel, by decide +kernel⟩
theorem sc_names_of : FnScope ["form", "name", "kind"] ["form"] (defScope s_names_of) := ⟨rfl, rfl, rfl, by decide +kernel, rfl, by decide +kernel, by decide +kernel⟩
theorem sc_are_columns : FnScope ["form", "thing", "least", "most", "name"] ["form", "thing", "least", "most"] (defScope s_are_columns) := ⟨rfl, rfl, rfl, by decide +kernel, rfl, by decide +kernel, by decide +kernel⟩
theorem sc_number_of : FnScope ["value", "number", "sign"] ["value"] (defScope s_number_of) := ⟨rfl, rfl, rfl, by decide +kernel, rfl, by decide +kernel, by decide +kernel⟩
theorem sc_mark : FnScope ["values", "found", "value"] ["values"] (defScope s_mark) := ⟨rfl, rfl, rfl, by decide +kernel, rfl, by decide +kernel, by decide +kernel⟩
theorem sc_value_of : FnScope ["form", "row", "column"] ["form", "row", "column"] (defScope s_value_of) := ⟨rfl, rfl, rfl, by decide +kernel, rfl, by decide +kernel, by decide +kernel⟩
theorem sc_values_of : FnScope ["form", "row", "columns", "known", "name", "kind", "value", "column"] ["form", "row", "columns"] (defScope s_values_of) := ⟨rfl, rfl, rfl, by decide +kernel, rfl, by decide +kernel, by decide +kernel⟩
theorem sc_Buckets_init : FnScope ["self", "count", "most", "bucket"] ["self", "count", "most"] (defScope s_Buckets_init) := ⟨rfl, rfl, rfl, by decide +kernel, rfl, by decide +kernel, by decide +kernel⟩
theorem sc_Buckets_bucket_of : FnScope ["self", "values"] ["self", "values"] (defScope s_Buckets_bucket_of) := ⟨rfl, rfl, rfl, by decide +kernel, rfl, by decide +kernel, by decide +kernel⟩
theorem sc_Buckets_put : FnScope ["self", "thing", "values", "number", "pages", "at", "page"] ["self", "thing"] (defScope s_Buckets_put) := ⟨rfl, rfl, rfl, by decide +kernel, rfl, by decide +kernel, by decide +kernel⟩
theorem sc_Buckets_drop : FnScope ["self", "thing", "values", "number", "pages", "at", "others", "page"] ["self", "thing"] (defScope s_Buckets_drop) := ⟨rfl, rfl, rfl, by decide +kernel, rfl, by decide +kernel, by decide +kernel⟩
theorem sc_Buckets_pages : FnScope ["self", "bucket", "page"] ["self"] (defScope s_Buckets_pages) := ⟨rfl, rfl, rfl, by decide +kernel, rfl, by decide +kernel, by decide +kernel⟩
theorem sc_groups : FnScope ["many", "size"] ["many", "size"] (defScope s_groups) := ⟨rfl, rfl, rfl, by decide +kernel, rfl, by decide +kernel, by decide +kernel⟩
theorem sc_levels_of : FnScope ["leaves", "fan"] ["leaves", "fan"] (defScope s_levels_of) := ⟨rfl, rfl, rfl, by decide +kernel, rfl, by decide +kernel, by decide +kernel⟩
theorem sc_pages_of : FnScope ["leaves", "fan"] ["leaves", "fan"] (defScope s_pages_of) := ⟨rfl, rfl, rfl, by decide +kernel, rfl, by decide +kernel, by decide +kernel⟩
theorem sc_Run_init : FnScope ["self", "most", "fan", "things", "ordered", "at"] ["self", "most", "fan", "things"] (defScope s_Run_init) := ⟨rfl, rfl, rfl, by decide +kernel, rfl, by decide +kernel, by decide +kernel⟩
theorem sc_Run_levels : FnScope ["self"] ["self"] (defScope s_Run_levels) := ⟨rfl, rfl, rfl, by decide +kernel, rfl, by decide +kernel, by decide +kernel⟩
theorem sc_Run_pages : FnScope ["self"] ["self"] (defScope s_Run_pages) := ⟨rfl, rfl, rfl, by decide +kernel, rfl, by decide +kernel, by decide +kernel⟩
theorem sc_Run_place_of : FnScope ["self", "thing", "at", "first", "others"] ["self", "thing"] (defScope s_Run_place_of) := ⟨rfl, rfl, rfl, by decide +kernel, rfl, by decide +kernel, by decide +kernel⟩
theorem sc_Run_put : FnScope ["self", "thing", "touched", "at", "leaf", "half"] ["self", "thing"] (defScope s_Run_put) := ⟨rfl, rfl, rfl, by decide +kernel, rfl, by decide +kernel, by decide +kernel⟩
theorem sc_Run_drop : FnScope ["self", "thing", "touched", "at", "one", "leaf"] ["self", "thing"] (defScope s_Run_drop) := ⟨rfl, rfl, rfl, by decide +kernel, rfl, by decide +kernel, by decide +kernel⟩
theorem sc_look_store : FnScope ["form", "kind", "key"] ["form", "kind", "key"] (defScope s_look_store) := ⟨rfl, rfl, rfl, by decide +kernel, rfl, by decide +kernel, by decide +kernel⟩
theorem sc_Heap_init : FnScope ["self", "most"] ["self", "most"] (defScope s_Heap_init) := ⟨rfl, rfl, rfl, by decide +kernel, rfl, by decide +kernel, by decide +kernel⟩
theorem sc_Heap_put : FnScope ["self", "thing", "sheet"] ["self", "thing"] (defScope s_Heap_put) := ⟨rfl, rfl, rfl, by decide +kernel, rfl, by decide +kernel, by decide +kernel⟩
theorem sc_Heap_drop : FnScope ["self", "thing", "sheet"] ["self", "thing"] (defScope s_Heap_drop) := ⟨rfl, rfl, rfl, by decide +kernel, rfl, by decide +kernel, by decide +kernel⟩
theorem sc_Store_init : FnScope ["self", "shape", "form", "kind", "key"] ["self", "shape", "form", "kind", "key"] (defScope s_Store_init) := ⟨rfl, rfl, rfl, by decide +kernel, rfl, by decide +kernel, by decide +kernel⟩
theorem sc_Store_put_thing : FnScope ["self", "number", "thing"] ["self", "number"] (defScope s_Store_put_thing) := ⟨rfl, rfl, rfl, by decide +kernel, rfl, by decide +kernel, by decide +kernel⟩
theorem sc_Store_drop_thing : FnScope ["self", "number", "thing"] ["self", "number"] (defScope s_Store_drop_thing) := ⟨rfl, rfl, rfl, by decide +kernel, rfl, by decide +kernel, by decide +kernel⟩
theorem sc_Store_thing_of : FnScope ["self", "number"] ["self", "number"] (defScope s_Store_thing_of) := ⟨rfl, rfl, rfl, by decide +kernel, rfl, by decide +kernel, by decide +kernel⟩
theorem sc_Store_row : FnScope ["self", "number", "e"] ["self", "number"] (defScope s_Store_row) := ⟨rfl, rfl, rfl, by decide +kernel, rfl, by decide +kernel, by decide +kernel⟩
theorem sc_Store_put : FnScope ["self", "row"] ["self", "row"] (defScope s_Store_put) := ⟨rfl, rfl, rfl, by decide +kernel, rfl, by decide +kernel, by decide +kernel⟩
theorem sc_Store_put_row : FnScope ["self", "row"] ["self", "row"] (defScope s_Store_put_row) := ⟨rfl, rfl, rfl, by decide +kernel, rfl, by decide +kernel, by decide +kernel⟩
theorem sc_Store_drop : FnScope ["self", "number", "touched"] ["self", "number"] (defScope s_Store_drop) := ⟨rfl, rfl, rfl, by decide +kernel, rfl, by decide +kernel, by decide +kernel⟩
theorem sc_Store_change : FnScope ["self", "number", "column", "value", "row", "changed", "touched", "name", "one"] ["self", "number", "column", "value"] (defScope s_Store_change) := ⟨rfl, rfl, rfl, by decide +kernel, rfl, by decide +kernel, by decide +kernel⟩
theorem sc_Store_pages : FnScope ["self", "pages", "bucket", "page", "values", "number"] ["self"] (defScope s_Store_pages) := ⟨rfl, rfl, rfl, by decide +kernel, rfl, by decide +kernel, by decide +kernel⟩
theorem sc_Store_all_rows : FnScope ["self", "number", "row"] ["self"] (defScope s_Store_all_rows) := ⟨rfl, rfl, rfl, by decide +kernel, rfl, by decide +kernel, by decide +kernel⟩
theorem sc_Shape_init : FnScope ["self", "rows", "entries", "fan", "buckets", "bits", "bounds", "name", "thing", "low", "high"] ["self", "rows", "entries", "fan", "buckets", "bits"] (defScope s_Shape_init) := ⟨rfl, rfl, rfl, by decide +kernel, rfl, by decide +kernel, by decide +kernel⟩
theorem sc_l_bag : FnScope ["_law_script", "_law_at", "_law_cell", "_law_great", "_law_primes"] ["_law_script", "_law_at"] (defScope s_l_bag) := ⟨rfl, rfl, rfl, by decide +kernel, rfl, by decide +kernel, by decide +kernel⟩
theorem sc_l_take : FnScope ["_law_bag_here", "_law_many", "_law_digit"] ["_law_bag_here", "_law_many"] (defScope s_l_take) := ⟨rfl, rfl, rfl, by decide +kernel, rfl, by decide +kernel, by decide +kernel⟩
theorem sc_l_names : FnScope ["_law_bag_here", "_law_many", "_law_letters", "_law_found", "_law_k", "_law_size", "_law_stem", "_law_turn"] ["_law_bag_here", "_law_many"] (defScope s_l_names) := ⟨rfl, rfl, rfl, by decide +kernel, rfl, by decide +kernel, by decide +kernel⟩
theorem sc_l_word : FnScope ["_law_bag_here", "_law_letters", "_law_turn"] ["_law_bag_here"] (defScope s_l_word) := ⟨rfl, rfl, rfl, by decide +kernel, rfl, by decide +kernel, by decide +kernel⟩
theorem sc_l_value : FnScope ["_law_bag_here", "_law_kind", "_law_way"] ["_law_bag_here", "_law_kind"] (defScope s_l_value) := ⟨rfl, rfl, rfl, by decide +kernel, rfl, by decide +kernel, by decide +kernel⟩
theorem sc_l_form : FnScope ["_law_bag_here", "_law_names_here", "_law_name"] ["_law_bag_here"] (defScope s_l_form) := ⟨rfl, rfl, rfl, by decide +kernel, rfl, by decide +kernel, by decide +kernel⟩
theorem sc_l_row : FnScope ["_law_bag_here", "_law_form_here", "_law_name", "_law_kind"] ["_law_bag_here", "_law_form_here"] (defScope s_l_row) := ⟨rfl, rfl, rfl, by decide +kernel, rfl, by decide +kernel, by decide +kernel⟩
theorem sc_l_heap_put : FnScope ["_law_pages", "_law_cap", "_law_number", "_law_page"] ["_law_pages", "_law_cap", "_law_number"] (defScope s_l_heap_put) := ⟨rfl, rfl, rfl, by decide +kernel, rfl, by decide +kernel, by decide +kernel⟩
theorem sc_l_heap_drop : FnScope ["_law_pages", "_law_number", "_law_page"] ["_law_pages", "_law_number"] (defScope s_l_heap_drop) := ⟨rfl, rfl, rfl, by decide +kernel, rfl, by decide +kernel, by decide +kernel⟩
theorem sc_l_same : FnScope ["_law_store", "_law_stock", "_law_pages", "_law_due", "_law_turn", "_law_told", "_law_sheets", "_law_sheet", "_law_number"] ["_law_store", "_law_stock", "_law_pages"] (defScope s_l_same) := ⟨rfl, rfl, rfl, by decide +kernel, rfl, by decide +kernel, by decide +kernel⟩
theorem sc_l_edit : FnScope ["_law_bag_here", "_law_form_here", "_law_stock", "_law_last", "_law_numbers", "_law_way", "_law_number", "_law_column", "_law_kind"] ["_law_bag_here", "_law_form_here", "_law_stock", "_law_last"] (defScope s_l_edit) := ⟨rfl, rfl, rfl, by decide +kernel, rfl, by decide +kernel, by decide +kernel⟩
theorem sc_l_changed : FnScope ["_law_form_here", "_law_row_here", "_law_column", "_law_value_here", "_law_name", "_law_kind", "_law_one"] ["_law_form_here", "_law_row_here", "_law_column", "_law_value_here"] (defScope s_l_changed) := ⟨rfl, rfl, rfl, by decide +kernel, rfl, by decide +kernel, by decide +kernel⟩
theorem sc_l_like : FnScope ["_law_told", "_law_due", "_law_one", "_law_other"] ["_law_told", "_law_due"] (defScope s_l_like) := ⟨rfl, rfl, rfl, by decide +kernel, rfl, by decide +kernel, by decide +kernel⟩
theorem sc_law : FnScope ["_law_script", "_law_bag_here", "_law_cap", "_law_form_here", "_law_store", "_law_held", "_law_pages", "_law_last", "_law_k", "_law_edit_here", "_law_told", "_law_due", "_law_row_here"] ["_law_script"] (defScope s_law) := ⟨rfl, rfl, rfl, by decide +kernel, rfl, by decide +kernel, by decide +kernel⟩
structure Txt (K : PySem.W.Frag) (mg : Str → Option Value) : Prop where
  d_u_wall : ∃ fd, FunD K "_wall" "_wall" (defArgs s_u_wall) (defBody s_u_wall) (defScope s_u_wall) [] [] (He.ga K "_wall") fd
  m_u_wall : mg "_wall" = some (.ref (He.ga K "_wall"))
  d_is_whole : ∃ fd, FunD K "is_whole" "is_whole" (defArgs s_is_whole) (defBody s_is_whole) (defScope s_is_whole) [(.int (-999)), (.int (999))] [] (He.ga K "is_whole") fd
  m_is_whole : mg "is_whole" = some (.ref (He.ga K "is_whole"))
  d_is_word : ∃ fd, FunD K "is_word" "is_word" (defArgs s_is_word) (defBody s_is_word) (defScope s_is_word) [] [] (He.ga K "is_word") fd
  m_is_word : mg "is_word" = some (.ref (He.ga K "is_word"))
  d_is_one_of : ∃ fd, FunD K "is_one_of" "is_one_of" (defArgs s_is_one_of) (defBody s_is_one_of) (defScope s_is_one_of) [] [] (He.ga K "is_one_of") fd
  m_is_one_of : mg "is_one_of" = some (.ref (He.ga K "is_one_of"))
  d_is_tuple_of : ∃ fd, FunD K "is_tuple_of" "is_tuple_of" (defArgs s_is_tuple_of) (defBody s_is_tuple_of) (defScope s_is_tuple_of) [] [] (He.ga K "is_tuple_of") fd
  m_is_tuple_of : mg "is_tuple_of" = some (.ref (He.ga K "is_tuple_of"))
  d_is_value : ∃ fd, FunD K "is_value" "is_value" (defArgs s_is_value) (defBody s_is_value) (defScope s_is_value) [] [] (He.ga K "is_value") fd
  m_is_value : mg "is_value" = some (.ref (He.ga K "is_value"))
  d_is_column : ∃ fd, FunD K "is_column" "is_column" (defArgs s_is_column) (defBody s_is_column) (defScope s_is_column) [] [] (He.ga K "is_column") fd
  m_is_column : mg "is_column" = some (.ref (He.ga K "is_column"))
  d_is_form : ∃ fd, FunD K "is_form" "is_form" (defArgs s_is_form) (defBody s_is_form) (defScope s_is_form) [] [] (He.ga K "is_form") fd
  m_is_form : mg "is_form" = some (.ref (He.ga K "is_form"))
  d_is_row : ∃ fd, FunD K "is_row" "is_row" (defArgs s_is_row) (defBody s_is_row) (defScope s_is_row) [] [] (He.ga K "is_row") fd
  m_is_row : mg "is_row" = some (.ref (He.ga K "is_row"))
  d_names_of : ∃ fd, FunD K "names_of" "names_of" (defArgs s_names_of) (defBody s_names_of) (defScope s_names_of) [] [] (He.ga K "names_of") fd
  m_names_of : mg "names_of" = some (.ref (He.ga K "names_of"))
  d_are_columns : ∃ fd, FunD K "are_columns" "are_columns" (defArgs s_are_columns) (defBody s_are_columns) (defScope s_are_columns) [] [] (He.ga K "are_columns") fd
  m_are_columns : mg "are_columns" = some (.ref (He.ga K "are_columns"))
  d_number_of : ∃ fd, FunD K "number_of" "number_of" (defArgs s_number_of) (defBody s_number_of) (defScope s_number_of) [] [] (He.ga K "number_of") fd
  m_number_of : mg "number_of" = some (.ref (He.ga K "number_of"))
  d_mark : ∃ fd, FunD K "mark" "mark" (defArgs s_mark) (defBody s_mark) (defScope s_mark) [] [] (He.ga K "mark") fd
  m_mark : mg "mark" = some (.ref (He.ga K "mark"))
  d_value_of : ∃ fd, FunD K "value_of" "value_of" (defArgs s_value_of) (defBody s_value_of) (defScope s_value_of) [] [] (He.ga K "value_of") fd
  m_value_of : mg "value_of" = some (.ref (He.ga K "value_of"))
  d_values_of : ∃ fd, FunD K "values_of" "values_of" (defArgs s_values_of) (defBody s_values_of) (defScope s_values_of) [] [] (He.ga K "values_of") fd
  m_values_of : mg "values_of" = some (.ref (He.ga K "values_of"))
  d_Buckets_init : ∃ fd, FunD K "__init__" "Buckets.__init__" (defArgs s_Buckets_init) (defBody s_Buckets_init) (defScope s_Buckets_init) [] [] (He.ma K (He.ga K "Buckets") "__init__") fd
  d_Buckets_bucket_of : ∃ fd, FunD K "bucket_of" "Buckets.bucket_of" (defArgs s_Buckets_bucket_of) (defBody s_Buckets_bucket_of) (defScope s_Buckets_bucket_of) [] [] (He.ma K (He.ga K "Buckets") "bucket_of") fd
  d_Buckets_put : ∃ fd, FunD K "put" "Buckets.put" (defArgs s_Buckets_put) (defBody s_Buckets_put) (defScope s_Buckets_put) [] [] (He.ma K (He.ga K "Buckets") "put") fd
  d_Buckets_drop : ∃ fd, FunD K "drop" "Buckets.drop" (defArgs s_Buckets_drop) (defBody s_Buckets_drop) (defScope s_Buckets_drop) [] [] (He.ma K (He.ga K "Buckets") "drop") fd
  d_Buckets_pages : ∃ fd, FunD K "pages" "Buckets.pages" (defArgs s_Buckets_pages) (defBody s_Buckets_pages) (defScope s_Buckets_pages) [] [] (He.ma K (He.ga K "Buckets") "pages") fd
  d_Buckets_copied : ∃ fd, FunD K "copied" "Buckets.copied" (defArgs s_Buckets_copied) (defBody s_Buckets_copied) (defScope s_Buckets_copied) [] [] (He.ma K (He.ga K "Buckets") "copied") fd
  d_Buckets_found : ∃ fd, FunD K "found" "Buckets.found" (defArgs s_Buckets_found) (defBody s_Buckets_found) (defScope s_Buckets_found) [] [] (He.ma K (He.ga K "Buckets") "found") fd
  d_NoShape_init : ∃ fd, FunD K "__init__" "NoShape.__init__" (defArgs s_NoShape_init) (defBody s_NoShape_init) (defScope s_NoShape_init) [] [] (He.ma K (He.ga K "NoShape") "__init__") fd
  d_NoStore_init : ∃ fd, FunD K "__init__" "NoStore.__init__" (defArgs s_NoStore_init) (defBody s_NoStore_init) (defScope s_NoStore_init) [] [] (He.ma K (He.ga K "NoStore") "__init__") fd
  d_NoNumber_init : ∃ fd, FunD K "__init__" "NoNumber.__init__" (defArgs s_NoNumber_init) (defBody s_NoNumber_init) (defScope s_NoNumber_init) [] [] (He.ma K (He.ga K "NoNumber") "__init__") fd
  d_groups : ∃ fd, FunD K "groups" "groups" (defArgs s_groups) (defBody s_groups) (defScope s_groups) [] [] (He.ga K "groups") fd
  m_groups : mg "groups" = some (.ref (He.ga K "groups"))
  d_levels_of : ∃ fd, FunD K "levels_of" "levels_of" (defArgs s_levels_of) (defBody s_levels_of) (defScope s_levels_of) [] [] (He.ga K "levels_of") fd
  m_levels_of : mg "levels_of" = some (.ref (He.ga K "levels_of"))
  d_pages_of : ∃ fd, FunD K "pages_of" "pages_of" (defArgs s_pages_of) (defBody s_pages_of) (defScope s_pages_of) [] [] (He.ga K "pages_of") fd
  m_pages_of : mg "pages_of" = some (.ref (He.ga K "pages_of"))
  d_Run_init : ∃ fd, FunD K "__init__" "Run.__init__" (defArgs s_Run_init) (defBody s_Run_init) (defScope s_Run_init) [] [("things", (.ref (He.kwAt ("Run", some "__init__") "things" K)))] (He.ma K (He.ga K "Run") "__init__") fd
  d_Run_levels : ∃ fd, FunD K "levels" "Run.levels" (defArgs s_Run_levels) (defBody s_Run_levels) (defScope s_Run_levels) [] [] (He.ma K (He.ga K "Run") "levels") fd
  d_Run_pages : ∃ fd, FunD K "pages" "Run.pages" (defArgs s_Run_pages) (defBody s_Run_pages) (defScope s_Run_pages) [] [] (He.ma K (He.ga K "Run") "pages") fd
  d_Run_leaves : ∃ fd, FunD K "leaves" "Run.leaves" (defArgs s_Run_leaves) (defBody s_Run_leaves) (defScope s_Run_leaves) [] [] (He.ma K (He.ga K "Run") "leaves") fd
  d_Run_copied : ∃ fd, FunD K "copied" "Run.copied" (defArgs s_Run_copied) (defBody s_Run_copied) (defScope s_Run_copied) [] [] (He.ma K (He.ga K "Run") "copied") fd
  d_Run_place_of : ∃ fd, FunD K "place_of" "Run.place_of" (defArgs s_Run_place_of) (defBody s_Run_place_of) (defScope s_Run_place_of) [] [] (He.ma K (He.ga K "Run") "place_of") fd
  d_Run_put : ∃ fd, FunD K "put" "Run.put" (defArgs s_Run_put) (defBody s_Run_put) (defScope s_Run_put) [] [] (He.ma K (He.ga K "Run") "put") fd
  d_Run_drop : ∃ fd, FunD K "drop" "Run.drop" (defArgs s_Run_drop) (defBody s_Run_drop) (defScope s_Run_drop) [] [] (He.ma K (He.ga K "Run") "drop") fd
  d_Run_parts : ∃ fd, FunD K "parts" "Run.parts" (defArgs s_Run_parts) (defBody s_Run_parts) (defScope s_Run_parts) [(.ref (He.dflAt ("Run", some "parts") 0 K))] [("low", .non), ("high", .non)] (He.ma K (He.ga K "Run") "parts") fd
  d_look_store : ∃ fd, FunD K "look_store" "look_store" (defArgs s_look_store) (defBody s_look_store) (defScope s_look_store) [] [] (He.ga K "look_store") fd
  m_look_store : mg "look_store" = some (.ref (He.ga K "look_store"))
  d_Heap_init : ∃ fd, FunD K "__init__" "Heap.__init__" (defArgs s_Heap_init) (defBody s_Heap_init) (defScope s_Heap_init) [] [] (He.ma K (He.ga K "Heap") "__init__") fd
  d_Heap_put : ∃ fd, FunD K "put" "Heap.put" (defArgs s_Heap_put) (defBody s_Heap_put) (defScope s_Heap_put) [] [] (He.ma K (He.ga K "Heap") "put") fd
  d_Heap_drop : ∃ fd, FunD K "drop" "Heap.drop" (defArgs s_Heap_drop) (defBody s_Heap_drop) (defScope s_Heap_drop) [] [] (He.ma K (He.ga K "Heap") "drop") fd
  d_Heap_copied : ∃ fd, FunD K "copied" "Heap.copied" (defArgs s_Heap_copied) (defBody s_Heap_copied) (defScope s_Heap_copied) [] [] (He.ma K (He.ga K "Heap") "copied") fd
  d_Store_init : ∃ fd, FunD K "__init__" "Store.__init__" (defArgs s_Store_init) (defBody s_Store_init) (defScope s_Store_init) [(.str "heap")] [("key", (.ref (He.kwAt ("Store", some "__init__") "key" K)))] (He.ma K (He.ga K "Store") "__init__") fd
  d_Store_copied : ∃ fd, FunD K "copied" "Store.copied" (defArgs s_Store_copied) (defBody s_Store_copied) (defScope s_Store_copied) [] [] (He.ma K (He.ga K "Store") "copied") fd
  d_Store_put_thing : ∃ fd, FunD K "put_thing" "Store.put_thing" (defArgs s_Store_put_thing) (defBody s_Store_put_thing) (defScope s_Store_put_thing) [] [] (He.ma K (He.ga K "Store") "put_thing") fd
  d_Store_drop_thing : ∃ fd, FunD K "drop_thing" "Store.drop_thing" (defArgs s_Store_drop_thing) (defBody s_Store_drop_thing) (defScope s_Store_drop_thing) [] [] (He.ma K (He.ga K "Store") "drop_thing") fd
  d_Store_thing_of : ∃ fd, FunD K "thing_of" "Store.thing_of" (defArgs s_Store_thing_of) (defBody s_Store_thing_of) (defScope s_Store_thing_of) [] [] (He.ma K (He.ga K "Store") "thing_of") fd
  d_Store_row : ∃ fd, FunD K "row" "Store.row" (defArgs s_Store_row) (defBody s_Store_row) (defScope s_Store_row) [] [] (He.ma K (He.ga K "Store") "row") fd
  d_Store_put : ∃ fd, FunD K "put" "Store.put" (defArgs s_Store_put) (defBody s_Store_put) (defScope s_Store_put) [] [] (He.ma K (He.ga K "Store") "put") fd
  d_Store_put_row : ∃ fd, FunD K "put_row" "Store.put_row" (defArgs s_Store_put_row) (defBody s_Store_put_row) (defScope s_Store_put_row) [] [] (He.ma K (He.ga K "Store") "put_row") fd
  d_Store_drop : ∃ fd, FunD K "drop" "Store.drop" (defArgs s_Store_drop) (defBody s_Store_drop) (defScope s_Store_drop) [] [] (He.ma K (He.ga K "Store") "drop") fd
  d_Store_change : ∃ fd, FunD K "change" "Store.change" (defArgs s_Store_change) (defBody s_Store_change) (defScope s_Store_change) [] [] (He.ma K (He.ga K "Store") "change") fd
  d_Store_pages : ∃ fd, FunD K "pages" "Store.pages" (defArgs s_Store_pages) (defBody s_Store_pages) (defScope s_Store_pages) [] [] (He.ma K (He.ga K "Store") "pages") fd
  d_Store_all_rows : ∃ fd, FunD K "all_rows" "Store.all_rows" (defArgs s_Store_all_rows) (defBody s_Store_all_rows) (defScope s_Store_all_rows) [] [] (He.ma K (He.ga K "Store") "all_rows") fd
  d_Shape_init : ∃ fd, FunD K "__init__" "Shape.__init__" (defArgs s_Shape_init) (defBody s_Shape_init) (defScope s_Shape_init) [] [("rows", (.int (4))), ("entries", (.int (4))), ("fan", (.int (3))), ("buckets", (.int (4))), ("bits", (.int (16)))] (He.ma K (He.ga K "Shape") "__init__") fd
  d_Shape_five : ∃ fd, FunD K "five" "Shape.five" (defArgs s_Shape_five) (defBody s_Shape_five) (defScope s_Shape_five) [] [] (He.ma K (He.ga K "Shape") "five") fd
  d_Shape_eq : ∃ fd, FunD K "__eq__" "Shape.__eq__" (defArgs s_Shape_eq) (defBody s_Shape_eq) (defScope s_Shape_eq) [] [] (He.ma K (He.ga K "Shape") "__eq__") fd
  d_Shape_repr : ∃ fd, FunD K "__repr__" "Shape.__repr__" (defArgs s_Shape_repr) (defBody s_Shape_repr) (defScope s_Shape_repr) [] [] (He.ma K (He.ga K "Shape") "__repr__") fd
  d_l_bag : ∃ fd, FunD K "_law_bag" "_law_bag" (defArgs s_l_bag) (defBody s_l_bag) (defScope s_l_bag) [] [] (He.ga K "_law_bag") fd
  m_l_bag : mg "_law_bag" = some (.ref (He.ga K "_law_bag"))
  d_l_take : ∃ fd, FunD K "_law_take" "_law_take" (defArgs s_l_take) (defBody s_l_take) (defScope s_l_take) [] [] (He.ga K "_law_take") fd
  m_l_take : mg "_law_take" = some (.ref (He.ga K "_law_take"))
  d_l_names : ∃ fd, FunD K "_law_names" "_law_names" (defArgs s_l_names) (defBody s_l_names) (defScope s_l_names) [] [] (He.ga K "_law_names") fd
  m_l_names : mg "_law_names" = some (.ref (He.ga K "_law_names"))
  d_l_word : ∃ fd, FunD K "_law_word" "_law_word" (defArgs s_l_word) (defBody s_l_word) (defScope s_l_word) [] [] (He.ga K "_law_word") fd
  m_l_word : mg "_law_word" = some (.ref (He.ga K "_law_word"))
  d_l_value : ∃ fd, FunD K "_law_value" "_law_value" (defArgs s_l_value) (defBody s_l_value) (defScope s_l_value) [] [] (He.ga K "_law_value") fd
  m_l_value : mg "_law_value" = some (.ref (He.ga K "_law_value"))
  d_l_form : ∃ fd, FunD K "_law_form" "_law_form" (defArgs s_l_form) (defBody s_l_form) (defScope s_l_form) [] [] (He.ga K "_law_form") fd
  m_l_form : mg "_law_form" = some (.ref (He.ga K "_law_form"))
  d_l_columns : ∃ fd, FunD K "_law_columns" "_law_columns" (defArgs s_l_columns) (defBody s_l_columns) (defScope s_l_columns) [] [] (He.ga K "_law_columns") fd
  m_l_columns : mg "_law_columns" = some (.ref (He.ga K "_law_columns"))
  d_l_row : ∃ fd, FunD K "_law_row" "_law_row" (defArgs s_l_row) (defBody s_l_row) (defScope s_l_row) [] [] (He.ga K "_law_row") fd
  m_l_row : mg "_law_row" = some (.ref (He.ga K "_law_row"))
  d_l_heap_put : ∃ fd, FunD K "_law_heap_put" "_law_heap_put" (defArgs s_l_heap_put) (defBody s_l_heap_put) (defScope s_l_heap_put) [] [] (He.ga K "_law_heap_put") fd
  m_l_heap_put : mg "_law_heap_put" = some (.ref (He.ga K "_law_heap_put"))
  d_l_heap_drop : ∃ fd, FunD K "_law_heap_drop" "_law_heap_drop" (defArgs s_l_heap_drop) (defBody s_l_heap_drop) (defScope s_l_heap_drop) [] [] (He.ga K "_law_heap_drop") fd
  m_l_heap_drop : mg "_law_heap_drop" = some (.ref (He.ga K "_law_heap_drop"))
  d_l_same : ∃ fd, FunD K "_law_same" "_law_same" (defArgs s_l_same) (defBody s_l_same) (defScope s_l_same) [] [] (He.ga K "_law_same") fd
  m_l_same : mg "_law_same" = some (.ref (He.ga K "_law_same"))
  d_l_edit : ∃ fd, FunD K "_law_edit" "_law_edit" (defArgs s_l_edit) (defBody s_l_edit) (defScope s_l_edit) [] [] (He.ga K "_law_edit") fd
  m_l_edit : mg "_law_edit" = some (.ref (He.ga K "_law_edit"))
  d_l_changed : ∃ fd, FunD K "_law_changed" "_law_changed" (defArgs s_l_changed) (defBody s_l_changed) (defScope s_l_changed) [] [] (He.ga K "_law_changed") fd
  m_l_changed : mg "_law_changed" = some (.ref (He.ga K "_law_changed"))
  d_l_like : ∃ fd, FunD K "_law_like" "_law_like" (defArgs s_l_like) (defBody s_l_like) (defScope s_l_like) [] [] (He.ga K "_law_like") fd
  m_l_like : mg "_law_like" = some (.ref (He.ga K "_law_like"))
  d_law : ∃ fd, FunD K "law" "law" (defArgs s_law) (defBody s_law) (defScope s_law) [] [] (He.ga K "law") fd
  m_law : mg "law" = some (.ref (He.ga K "law"))
  m_Buckets : mg "Buckets" = some (.ref (He.ga K "Buckets"))
  cl_Buckets : Cls K (He.ga K "Buckets")
  na_Buckets_bins : NoAttr K (He.ga K "Buckets") "bins"
  na_Buckets_many : NoAttr K (He.ga K "Buckets") "many"
  na_Buckets_most : NoAttr K (He.ga K "Buckets") "most"
  mk_Buckets : Mk K (He.ga K "Buckets") (He.ma K (He.ga K "Buckets") "__init__")
  me_Buckets_bucket_of : Meth K (He.ga K "Buckets") "bucket_of" (He.ma K (He.ga K "Buckets") "bucket_of")
  me_Buckets_put : Meth K (He.ga K "Buckets") "put" (He.ma K (He.ga K "Buckets") "put")
  me_Buckets_drop : Meth K (He.ga K "Buckets") "drop" (He.ma K (He.ga K "Buckets") "drop")
  me_Buckets_pages : Meth K (He.ga K "Buckets") "pages" (He.ma K (He.ga K "Buckets") "pages")
  me_Buckets_copied : Meth K (He.ga K "Buckets") "copied" (He.ma K (He.ga K "Buckets") "copied")
  me_Buckets_found : Meth K (He.ga K "Buckets") "found" (He.ma K (He.ga K "Buckets") "found")
  m_NoShape : mg "NoShape" = some (.ref (He.ga K "NoShape"))
  m_NoStore : mg "NoStore" = some (.ref (He.ga K "NoStore"))
  m_NoRow : mg "NoRow" = some (.ref (He.ga K "NoRow"))
  m_NoNumber : mg "NoNumber" = some (.ref (He.ga K "NoNumber"))
  m_TooMany : mg "TooMany" = some (.ref (He.ga K "TooMany"))
  m_Run : mg "Run" = some (.ref (He.ga K "Run"))
  cl_Run : Cls K (He.ga K "Run")
  na_Run_fan : NoAttr K (He.ga K "Run") "fan"
  na_Run_most : NoAttr K (He.ga K "Run") "most"
  na_Run_rising : NoAttr K (He.ga K "Run") "rising"
  mk_Run : Mk K (He.ga K "Run") (He.ma K (He.ga K "Run") "__init__")
  me_Run_levels : Meth K (He.ga K "Run") "levels" (He.ma K (He.ga K "Run") "levels")
  me_Run_pages : Meth K (He.ga K "Run") "pages" (He.ma K (He.ga K "Run") "pages")
  me_Run_leaves : Meth K (He.ga K "Run") "leaves" (He.ma K (He.ga K "Run") "leaves")
  me_Run_copied : Meth K (He.ga K "Run") "copied" (He.ma K (He.ga K "Run") "copied")
  me_Run_place_of : Meth K (He.ga K "Run") "place_of" (He.ma K (He.ga K "Run") "place_of")
  me_Run_put : Meth K (He.ga K "Run") "put" (He.ma K (He.ga K "Run") "put")
  me_Run_drop : Meth K (He.ga K "Run") "drop" (He.ma K (He.ga K "Run") "drop")
  me_Run_parts : Meth K (He.ga K "Run") "parts" (He.ma K (He.ga K "Run") "parts")
  m_Heap : mg "Heap" = some (.ref (He.ga K "Heap"))
  cl_Heap : Cls K (He.ga K "Heap")
  na_Heap_most : NoAttr K (He.ga K "Heap") "most"
  na_Heap_sheets : NoAttr K (He.ga K "Heap") "sheets"
  mk_Heap : Mk K (He.ga K "Heap") (He.ma K (He.ga K "Heap") "__init__")
  me_Heap_put : Meth K (He.ga K "Heap") "put" (He.ma K (He.ga K "Heap") "put")
  me_Heap_drop : Meth K (He.ga K "Heap") "drop" (He.ma K (He.ga K "Heap") "drop")
  me_Heap_copied : Meth K (He.ga K "Heap") "copied" (He.ma K (He.ga K "Heap") "copied")
  m_Store : mg "Store" = some (.ref (He.ga K "Store"))
  cl_Store : Cls K (He.ga K "Store")
  na_Store_form : NoAttr K (He.ga K "Store") "form"
  na_Store_heap : NoAttr K (He.ga K "Store") "heap"
  na_Store_held : NoAttr K (He.ga K "Store") "held"
  na_Store_key : NoAttr K (He.ga K "Store") "key"
  na_Store_kind : NoAttr K (He.ga K "Store") "kind"
  na_Store_known : NoAttr K (He.ga K "Store") "known"
  na_Store_last : NoAttr K (He.ga K "Store") "last"
  na_Store_shape : NoAttr K (He.ga K "Store") "shape"
  mk_Store : Mk K (He.ga K "Store") (He.ma K (He.ga K "Store") "__init__")
  me_Store_copied : Meth K (He.ga K "Store") "copied" (He.ma K (He.ga K "Store") "copied")
  me_Store_put_thing : Meth K (He.ga K "Store") "put_thing" (He.ma K (He.ga K "Store") "put_thing")
  me_Store_drop_thing : Meth K (He.ga K "Store") "drop_thing" (He.ma K (He.ga K "Store") "drop_thing")
  me_Store_thing_of : Meth K (He.ga K "Store") "thing_of" (He.ma K (He.ga K "Store") "thing_of")
  me_Store_row : Meth K (He.ga K "Store") "row" (He.ma K (He.ga K "Store") "row")
  me_Store_put : Meth K (He.ga K "Store") "put" (He.ma K (He.ga K "Store") "put")
  me_Store_put_row : Meth K (He.ga K "Store") "put_row" (He.ma K (He.ga K "Store") "put_row")
  me_Store_drop : Meth K (He.ga K "Store") "drop" (He.ma K (He.ga K "Store") "drop")
  me_Store_change : Meth K (He.ga K "Store") "change" (He.ma K (He.ga K "Store") "change")
  me_Store_pages : Meth K (He.ga K "Store") "pages" (He.ma K (He.ga K "Store") "pages")
  me_Store_all_rows : Meth K (He.ga K "Store") "all_rows" (He.ma K (He.ga K "Store") "all_rows")
  m_Shape : mg "Shape" = some (.ref (He.ga K "Shape"))
  cl_Shape : Cls K (He.ga K "Shape")
  na_Shape_bits : NoAttr K (He.ga K "Shape") "bits"
  na_Shape_buckets : NoAttr K (He.ga K "Shape") "buckets"
  na_Shape_entries : NoAttr K (He.ga K "Shape") "entries"
  na_Shape_fan : NoAttr K (He.ga K "Shape") "fan"
  na_Shape_rows : NoAttr K (He.ga K "Shape") "rows"
  mk_Shape : Mk K (He.ga K "Shape") (He.ma K (He.ga K "Shape") "__init__")
  me_Shape_five : Meth K (He.ga K "Shape") "five" (He.ma K (He.ga K "Shape") "five")
  me_Shape_eq : Meth K (He.ga K "Shape") "__eq__" (He.ma K (He.ga K "Shape") "__eq__")
  me_Shape_repr : Meth K (He.ga K "Shape") "__repr__" (He.ma K (He.ga K "Shape") "__repr__")
  g_LEAST_NUMBER : ∃ t, mg "LEAST_NUMBER" = some (.int (-999) t)
  g_MOST_NUMBER : ∃ t, mg "MOST_NUMBER" = some (.int 999 t)
  g_MOST_LETTERS : ∃ t, mg "MOST_LETTERS" = some (.int 8 t)
  g_MOST_COLUMNS : ∃ t, mg "MOST_COLUMNS" = some (.int 6 t)
  g_LETTERS : ∃ t, mg "LETTERS" = some (.str "abcdefghijklmnopqrstuvwxyz" t)
  g_MARKS : ∃ t, mg "MARKS" = some (.int 1009 t)
  g_FIRST_MARK : ∃ t, mg "FIRST_MARK" = some (.int 7 t)
  g_STEP : ∃ t, mg "STEP" = some (.int 31 t)
  g_BASE : ∃ t, mg "BASE" = some (.int 27 t)
  g_MOST_ROWS : ∃ t, mg "MOST_ROWS" = some (.int 60 t)
  g_MOST_KEY : ∃ t, mg "MOST_KEY" = some (.int 3 t)
  g_LEAST_PAGE : ∃ t, mg "LEAST_PAGE" = some (.int 2 t)
  g_MOST_PAGE : ∃ t, mg "MOST_PAGE" = some (.int 8 t)
  g_ROWS : ∃ t, mg "ROWS" = some (.int 4 t)
  g_ENTRIES : ∃ t, mg "ENTRIES" = some (.int 4 t)
  g_FAN : ∃ t, mg "FAN" = some (.int 3 t)
  g_BUCKETS : ∃ t, mg "BUCKETS" = some (.int 4 t)
  g_BITS : ∃ t, mg "BITS" = some (.int 16 t)
  g_MOST_BITS : ∃ t, mg "MOST_BITS" = some (.int 64 t)
  m_KINDS : mg "KINDS" = some (.ref (He.ga K "KINDS"))
  m_STORES : mg "STORES" = some (.ref (He.ga K "STORES"))
  n_KeyError : mg "KeyError" = none
  n_ValueError : mg "ValueError" = none
  n_abs : mg "abs" = none
  n_all : mg "all" = none
  n_bool : mg "bool" = none
  n_enumerate : mg "enumerate" = none
  n_int : mg "int" = none
  n_isinstance : mg "isinstance" = none
  n_len : mg "len" = none
  n_list : mg "list" = none
  n_max : mg "max" = none
  n_min : mg "min" = none
  n_range : mg "range" = none
  n_set : mg "set" = none
  n_sorted : mg "sorted" = none
  n_str : mg "str" = none
  n_tuple : mg "tuple" = none
  n_zip : mg "zip" = none
  e_Run_init_things : ∀ H, SqT K H (He.kwAt ("Run", some "__init__") "things" K) []
  e_Run_parts_0 : ∀ H, SqT K H (He.dflAt ("Run", some "parts") 0 K) []
  e_Store_init_key : ∀ H, SqT K H (He.kwAt ("Store", some "__init__") "key" K) []
  t_KINDS : ∀ H, SqT K H (He.ga K "KINDS") [(.str "number"), (.str "word")]
  t_STORES : ∀ H, SqT K H (He.ga K "STORES") [(.str "heap"), (.str "sorted"), (.str "hashed")]
/-! ### the programs -/
abbrev p_is_whole : List Iv.St := [(.ret (.and (.bi (.isi) [(.var 0), (.con (.ty "int"))]) (.and (.not (.bi (.isi) [(.var 0), (.con (.ty "bool"))])) (.chain .le .le (.var 1) (.var 0) (.var 2)))))]
abbrev p_is_word : List Iv.St := [(.ite (.or (.not (.bi (.isi) [(.var 0), (.con (.ty "str"))])) (.not (.chain .le .le (.con (.int 1)) (.bi (.len) [(.var 0)]) (.con (.int 8))))) [(.ret (.con (.bl false)))] []),
  (.ret (.bi (.all) [(.lc false [1] (.var 1) (.e (.var 0)) [] (.cmp .isIn (.var 1) (.con (.str "abcdefghijklmnopqrstuvwxyz"))))]))]
abbrev p_is_one_of : List Iv.St := [(.ret (.and (.bi (.isi) [(.var 0), (.con (.ty "str"))]) (.cmp .isIn (.var 0) (.var 1))))]
abbrev p_is_tuple_of : List Iv.St := [(.ret (.and (.bi (.isi) [(.var 0), (.con (.ty "tuple"))]) (.chain .le .le (.var 1) (.bi (.len) [(.var 0)]) (.var 2))))]
abbrev p_is_value : List Iv.St := [(.ret (.ife (.cmp .eq (.var 0) (.con (.str "number"))) (.call 0 [.a 0, .d (.int (-999)), .d (.int (999))] [(.var 1)]) (.call 1 [.a 0] [(.var 1)])))]
abbrev p_is_column : List Iv.St := [(.ret (.and (.call 3 [.a 0, .a 1, .a 2] [(.var 0), (.con (.int 2)), (.con (.int 2))]) (.and (.call 1 [.a 0] [(.idx (.var 0) (.con (.int 0)))]) (.call 2 [.a 0, .a 1] [(.idx (.var 0) (.con (.int 1))), (.con (.tup [.str "number", .str "word"]))]))))]
abbrev p_is_form : List Iv.St := [(.ite (.or (.not (.call 3 [.a 0, .a 1, .a 2] [(.var 0), (.con (.int 1)), (.con (.int 6))])) (.not (.bi (.all) [(.lc false [1] (.var 1) (.e (.var 0)) [] (.call 5 [.a 0] [(.var 1)]))]))) [(.ret (.con (.bl false)))] []),
  (.ret (.cmp .eq (.lenSC [2, 3] (.tup [(.var 2), (.var 3)]) (.e (.var 0)) [] (.var 2)) (.bi (.len) [(.var 0)])))]
abbrev p_is_row : List Iv.St := [(.ite (.not (.call 3 [.a 0, .a 1, .a 2] [(.var 1), (.bi (.len) [(.var 0)]), (.bi (.len) [(.var 0)])])) [(.ret (.con (.bl false)))] []),
  (.ret (.bi (.all) [(.lc false [2, 3, 4] (.tup [(.tup [(.var 2), (.var 3)]), (.var 4)]) (.zip true (.var 0) (.var 1)) [] (.call 4 [.a 0, .a 1] [(.var 3), (.var 4)]))]))]
abbrev p_names_of : List Iv.St := [(.ret (.ntup (.lc false [1, 2] (.tup [(.var 1), (.var 2)]) (.e (.var 0)) [] (.var 1))))]
abbrev p_are_columns : List Iv.St := [.raise, .raise]
abbrev p_number_of : List Iv.St := [.raise, .raise, .raise, .raise]
abbrev p_mark : List Iv.St := [.raise, .raise, .raise]
abbrev p_value_of : List Iv.St := [(.ret (.idx (.var 1) (.tidx (.call 8 [.a 0] [(.var 0)]) (.var 2))))]
abbrev p_values_of : List Iv.St := [(.asg (.var 3) (.dcomp [4, 5, 6] (.tup [(.tup [(.var 4), (.var 5)]), (.var 6)]) (.zip true (.var 0) (.var 1)) [] (.var 4) (.var 6))),
  (.ret (.bi (.tuple1) [(.lc false [7] (.var 7) (.e (.var 2)) [] (.didx (.var 3) (.var 7)))]))]
abbrev p_Buckets_init : List Iv.St := [.raise, .raise, .raise]
abbrev p_Buckets_bucket_of : List Iv.St := [.raise]
abbrev p_Buckets_put : List Iv.St := [.raise, .raise, .raise, .raise, .raise]
abbrev p_Buckets_drop : List Iv.St := [.raise, .raise, .raise, .raise, .raise, .raise]
abbrev p_Buckets_pages : List Iv.St := [.raise]
abbrev p_groups : List Iv.St := [.raise]
abbrev p_levels_of : List Iv.St := [.raise]
abbrev p_pages_of : List Iv.St := [.raise]
abbrev p_Run_init : List Iv.St := [.raise, .raise, .raise, .raise]
abbrev p_Run_levels : List Iv.St := [.raise]
abbrev p_Run_pages : List Iv.St := [.raise]
abbrev p_Run_place_of : List Iv.St := [.raise]
abbrev p_Run_put : List Iv.St := [.raise, .raise, .raise, .raise, .raise, .raise, .raise]
abbrev p_Run_drop : List Iv.St := [.raise, .raise, .raise, .raise, .raise]
abbrev p_look_store : List Iv.St := [(.ite (.not (.call 6 [.a 0] [(.var 0)])) [.raise] []),
  (.ite (.not (.call 2 [.a 0, .a 1] [(.var 1), (.con (.tup [.str "heap", .str "sorted", .str "hashed"]))])) [.raise] []),
  (.ite (.or (.and (.cmp .eq (.var 1) (.con (.str "heap"))) (.cmp .ne (.var 2) (.tup []))) (.and (.cmp .ne (.var 1) (.con (.str "heap"))) (.not (.call 9 [.a 0, .a 1, .a 2, .a 3] [(.var 0), (.var 2), (.con (.int 1)), (.con (.int 3))])))) [.raise] [])]
abbrev p_Heap_init : List Iv.St := [(.asg (.attr (.var 0) 2 [0, 1, 2]) (.var 1)),
  (.asg (.attr (.var 0) 5 [2]) (.lst true []))]
abbrev p_Heap_put : List Iv.St := [(.for (.var 2) (.e (.attr (.var 0) 5)) [(.ite (.cmp .lt (.bi (.len) [(.var 2)]) (.attr (.var 0) 2)) [(.expr (.bm .append (.var 2) [(.var 1)])),
  (.ret (.bin false .add (.con (.int 1)) (.bi (.int1) [(.cmp .gt (.bi (.len) [(.var 2)]) (.con (.int 1)))])))] [])]),
  (.expr (.bm .append (.attr (.var 0) 5) [(.lst true [(.var 1)])])),
  (.ret (.con (.int 1)))]
abbrev p_Heap_drop : List Iv.St := [(.for (.var 2) (.e (.attr (.var 0) 5)) [(.ite (.cmp .isIn (.var 1) (.var 2)) [(.expr (.bm .remove (.var 2) [(.var 1)]))] [])]),
  (.ret (.con (.int 2)))]
abbrev p_Store_init : List Iv.St := [(.expr (.call 28 [.a 0, .a 1, .a 2] [(.var 2), (.var 3), (.var 4)])),
  (.asg (.attr (.var 0) 13 [3]) (.var 1)),
  (.asg (.attr (.var 0) 6 [3]) (.var 2)),
  (.asg (.attr (.var 0) 10 [3]) (.var 3)),
  (.asg (.attr (.var 0) 9 [3]) (.var 4)),
  (.asg (.attr (.var 0) 11 [3]) .dnew),
  (.asg (.attr (.var 0) 12 [3]) (.con (.int 0))),
  (.asg (.attr (.var 0) 7 [3]) (.make false 2 29 [.a 0, .a 1] [(.attr (.var 1) 17)])),
  (.asg (.attr (.var 0) 8 [3]) (.con .non)),
  (.ite (.cmp .eq (.var 3) (.con (.str "sorted"))) [(.asg (.attr (.var 0) 8 [3]) (.make false 1 22 [.a 0, .a 1, .a 2, .d (.tup [])] [(.attr (.var 1) 17), (.attr (.var 1) 3)]))] [(.ite (.cmp .eq (.var 3) (.con (.str "hashed"))) [(.asg (.attr (.var 0) 8 [3]) (.make false 0 14 [.a 0, .a 1, .a 2] [(.attr (.var 1) 15), (.attr (.var 1) 17)]))] [])])]
abbrev p_Store_put_thing : List Iv.St := [(.asg (.var 2) (.meth (.var 0) [(3, 35, [.a 0, .a 1])] [(.var 1)])),
  (.ret (.ife (.cmp .isN (.attr (.var 0) 8) (.con .non)) (.meth (.attr (.var 0) 7) [(0, 16, [.a 0, .a 1]), (1, 26, [.a 0, .a 1]), (2, 30, [.a 0, .a 1]), (3, 37, [.a 0, .a 1])] [(.var 2)]) (.meth (.attr (.var 0) 8) [(0, 16, [.a 0, .a 1]), (1, 26, [.a 0, .a 1]), (2, 30, [.a 0, .a 1]), (3, 37, [.a 0, .a 1])] [(.var 2)])))]
abbrev p_Store_drop_thing : List Iv.St := [(.asg (.var 2) (.meth (.var 0) [(3, 35, [.a 0, .a 1])] [(.var 1)])),
  (.ret (.ife (.cmp .isN (.attr (.var 0) 8) (.con .non)) (.meth (.attr (.var 0) 7) [(0, 17, [.a 0, .a 1]), (1, 27, [.a 0, .a 1]), (2, 31, [.a 0, .a 1]), (3, 39, [.a 0, .a 1])] [(.var 2)]) (.meth (.attr (.var 0) 8) [(0, 17, [.a 0, .a 1]), (1, 27, [.a 0, .a 1]), (2, 31, [.a 0, .a 1]), (3, 39, [.a 0, .a 1])] [(.var 2)])))]
abbrev p_Store_thing_of : List Iv.St := [(.ret (.tup [(.call 13 [.a 0, .a 1, .a 2] [(.attr (.var 0) 6), (.didx (.attr (.var 0) 11) (.var 1)), (.attr (.var 0) 9)]), (.var 1)]))]
abbrev p_Store_row : List Iv.St := [(.ite (.not (.call 0 [.a 0, .a 1, .a 2] [(.var 1), (.con (.int 1)), (.attr (.var 0) 12)])) [.raise] []),
  (.blk [(.ret (.didx (.attr (.var 0) 11) (.var 1)))])]
abbrev p_Store_put : List Iv.St := [(.ite (.not (.call 7 [.a 0, .a 1] [(.attr (.var 0) 6), (.var 1)])) [.raise] []),
  (.ite (.cmp .eq (.attr (.var 0) 12) (.con (.int 60))) [.raise] []),
  (.ret (.meth (.var 0) [(3, 38, [.a 0, .a 1])] [(.var 1)]))]
abbrev p_Store_put_row : List Iv.St := [(.faug (.var 0) 12 .add (.con (.int 1))),
  (.asg (.didx (.attr (.var 0) 11) (.attr (.var 0) 12)) (.var 1)),
  (.ret (.tup [(.attr (.var 0) 12), (.meth (.var 0) [(3, 33, [.a 0, .a 1])] [(.attr (.var 0) 12)])]))]
abbrev p_Store_drop : List Iv.St := [(.expr (.meth (.var 0) [(3, 36, [.a 0, .a 1])] [(.var 1)])),
  (.asg (.var 2) (.meth (.var 0) [(3, 34, [.a 0, .a 1])] [(.var 1)])),
  (.expr (.dpop (.attr (.var 0) 11) (.var 1))),
  (.ret (.var 2))]
abbrev p_Store_change : List Iv.St := [(.asg (.var 4) (.meth (.var 0) [(3, 36, [.a 0, .a 1])] [(.var 1)])),
  (.ite (.cmp .eq (.call 12 [.a 0, .a 1, .a 2] [(.attr (.var 0) 6), (.var 4), (.var 2)]) (.var 3)) [(.ret (.con (.int 0)))] []),
  (.asg (.var 5) (.lc false [7, 8] (.tup [(.var 7), (.var 8)]) (.zip true (.untup (.call 8 [.a 0] [(.attr (.var 0) 6)])) (.var 4)) [] (.ife (.cmp .eq (.var 7) (.var 2)) (.var 3) (.var 8)))),
  (.asg (.var 6) (.con (.int 2))),
  (.ite (.cmp .isIn (.var 2) (.attr (.var 0) 9)) [(.asg (.var 6) (.meth (.var 0) [(3, 34, [.a 0, .a 1])] [(.var 1)]))] []),
  (.asg (.didx (.attr (.var 0) 11) (.var 1)) (.bi (.tuple1) [(.var 5)])),
  (.ite (.cmp .isIn (.var 2) (.attr (.var 0) 9)) [(.aug 6 .add (.meth (.var 0) [(3, 33, [.a 0, .a 1])] [(.var 1)]))] []),
  (.ret (.var 6))]
abbrev p_Store_pages : List Iv.St := [(.ite (.cmp .eq (.attr (.var 0) 10) (.con (.str "hashed"))) [(.ret (.lc2 true [2, 3] [3] (.var 2) (.e (.attr (.attr (.var 0) 8) 0)) [] (.var 3) (.e (.var 2)) [] (.lc true [4, 5] (.tup [(.var 4), (.var 5)]) (.e (.var 3)) [] (.var 5))))] []),
  (.asg (.var 1) (.ife (.cmp .eq (.attr (.var 0) 10) (.con (.str "heap"))) (.attr (.attr (.var 0) 7) 5) (.attr (.attr (.var 0) 8) 4))),
  (.ret (.lc true [3] (.var 3) (.e (.var 1)) [] (.lc true [4, 5] (.tup [(.var 4), (.var 5)]) (.e (.var 3)) [] (.var 5))))]
abbrev p_Store_all_rows : List Iv.St := [(.ret (.bi (.sorted1 true) [(.lock (.attr (.var 0) 11) (.lc false [1, 2] (.tup [(.var 1), (.var 2)]) (.items (.attr (.var 0) 11)) [] (.tup [(.var 1), (.var 2)])))]))]
abbrev p_Shape_init : List Iv.St := [(.asg (.var 6) (.ddisp [.inr "rows", .inr "entries", .inr "fan", .inr "buckets", .inr "bits"] [(.tup [(.var 1), (.con (.int 2)), (.con (.int 8))]), (.tup [(.var 2), (.con (.int 2)), (.con (.int 8))]), (.tup [(.var 3), (.con (.int 2)), (.con (.int 8))]), (.tup [(.var 4), (.con (.int 1)), (.con (.int 8))]), (.tup [(.var 5), (.con (.int 2)), (.con (.int 64))])])),
  (.lock (.var 6) (.for (.tup [(.var 7), (.tup [(.var 8), (.var 9), (.var 10)])]) (.items (.var 6)) [(.ite (.not (.call 0 [.a 0, .a 1, .a 2] [(.var 8), (.var 9), (.var 10)])) [.raise] [])])),
  (.asg (.attr (.var 0) 17 [4]) (.var 1)),
  (.asg (.attr (.var 0) 16 [4]) (.var 2)),
  (.asg (.attr (.var 0) 3 [1, 4]) (.var 3)),
  (.asg (.attr (.var 0) 15 [4]) (.var 4)),
  (.asg (.attr (.var 0) 14 [4]) (.var 5))]
abbrev p_l_bag : List Iv.St := [(.asg (.var 2) (.con (.int 0))),
  (.ite (.cmp .lt (.var 1) (.bi (.len) [(.var 0)])) [(.asg (.var 2) (.idx (.var 0) (.var 1)))] []),
  (.asg (.var 3) (.con (.int 0))),
  (.ite (.cmp .ge (.bi (.abs) [(.var 2)]) (.bin false .pow (.con (.int 10)) (.con (.int 18)))) [(.asg (.var 3) (.bi (.abs) [(.var 2)]))] []),
  (.asg (.var 4) (.lst false [(.con (.int 2147483629)), (.con (.int 2147483587)), (.con (.int 2147483579)), (.con (.int 2147483563)), (.con (.int 2147483549)), (.con (.int 2147483543)), (.con (.int 2147483497)), (.con (.int 2147483489))])),
  (.ret (.lst true [(.var 3), (.bin false .mod (.bin false .pow (.bin false .add (.bin false .add (.bin false .mod (.var 2) (.con (.int 2147483647))) (.bin false .mul (.con (.int 104729)) (.var 1))) (.con (.int 7))) (.con (.int 5))) (.idx (.var 4) (.bin false .mod (.var 1) (.con (.int 8)))))]))]
abbrev p_l_take : List Iv.St := [(.ite (.cmp .gt (.idx (.var 0) (.con (.int 0))) (.con (.int 0))) [(.asg (.var 2) (.bin false .mod (.idx (.var 0) (.con (.int 0))) (.var 1))),
  (.asg (.idx (.var 0) (.con (.int 0))) (.bin false .div (.idx (.var 0) (.con (.int 0))) (.var 1))),
  (.ret (.var 2))] []),
  (.asg (.idx (.var 0) (.con (.int 1))) (.bin false .mod (.bin false .add (.bin false .mul (.idx (.var 0) (.con (.int 1))) (.con (.int 48271))) (.con (.int 11))) (.con (.int 2147483647)))),
  (.ret (.bin false .mod (.bin false .mod (.bin false .pow (.bin false .div (.idx (.var 0) (.con (.int 1))) (.con (.int 8))) (.con (.int 3))) (.con (.int 2147483629))) (.var 1)))]
abbrev p_l_names : List Iv.St := [(.asg (.var 2) (.con (.str "abcdefghijklmnopqrstuvwxyz"))),
  (.asg (.var 3) (.lst true [])),
  (.for (.var 4) (.rng1 (.var 1)) [(.asg (.var 5) (.ife (.cmp .gt (.var 4) (.con (.int 25))) (.con (.int 7)) (.call 45 [.a 0, .a 1] [(.var 0), (.con (.int 7))]))),
  (.asg (.var 6) (.bm .join (.con (.str "")) [(.lc false [7] (.var 7) (.rng1 (.var 5)) [] (.idx (.var 2) (.call 45 [.a 0, .a 1] [(.var 0), (.con (.int 26))])))])),
  (.expr (.bm .append (.var 3) [(.bin false .add (.var 6) (.idx (.var 2) (.bin false .mod (.var 4) (.con (.int 26)))))]))]),
  (.ret (.frz (.var 3)))]
abbrev p_l_word : List Iv.St := [(.ite (.cmp .eq (.call 45 [.a 0, .a 1] [(.var 0), (.con (.int 2))]) (.con (.int 0))) [(.ret (.idx (.tup [(.con (.str "a")), (.con (.str "b")), (.con (.str "ab")), (.con (.str "zzzzzzzz"))]) (.call 45 [.a 0, .a 1] [(.var 0), (.con (.int 4))])))] []),
  (.asg (.var 1) (.con (.str "abcdefghijklmnopqrstuvwxyz"))),
  (.ret (.bm .join (.con (.str "")) [(.lc false [2] (.var 2) (.rng1 (.bin false .add (.con (.int 1)) (.call 45 [.a 0, .a 1] [(.var 0), (.con (.int 8))]))) [] (.idx (.var 1) (.call 45 [.a 0, .a 1] [(.var 0), (.con (.int 26))])))]))]
abbrev p_l_value : List Iv.St := [(.ite (.cmp .eq (.var 1) (.con (.str "word"))) [(.ret (.call 47 [.a 0] [(.var 0)]))] []),
  (.asg (.var 2) (.call 45 [.a 0, .a 1] [(.var 0), (.con (.int 3))])),
  (.ret (.ife (.cmp .lt (.var 2) (.con (.int 2))) (.bin false .sub (.call 45 [.a 0, .a 1] [(.var 0), (.con (.int 4))]) (.con (.int 1))) (.bin false .sub (.call 45 [.a 0, .a 1] [(.var 0), (.con (.int 1999))]) (.con (.int 999)))))]
abbrev p_l_form : List Iv.St := [(.asg (.var 1) (.call 46 [.a 0, .a 1] [(.var 0), (.bin false .add (.con (.int 1)) (.call 45 [.a 0, .a 1] [(.var 0), (.con (.int 6))]))])),
  (.ret (.bi (.tuple1) [(.lc false [2] (.var 2) (.e (.var 1)) [] (.tup [(.var 2), (.idx (.tup [(.con (.str "number")), (.con (.str "word"))]) (.call 45 [.a 0, .a 1] [(.var 0), (.con (.int 2))]))]))]))]
abbrev p_l_row : List Iv.St := [(.ret (.bi (.tuple1) [(.lc false [2, 3] (.tup [(.var 2), (.var 3)]) (.e (.var 1)) [] (.call 48 [.a 0, .a 1] [(.var 0), (.var 3)]))]))]
abbrev p_l_heap_put : List Iv.St := [(.for (.var 3) (.e (.var 0)) [(.ite (.cmp .lt (.bi (.len) [(.var 3)]) (.var 1)) [(.expr (.bm .append (.var 3) [(.var 2)])),
  (.ret (.bin false .add (.con (.int 1)) (.bi (.int1) [(.cmp .gt (.bi (.len) [(.var 3)]) (.con (.int 1)))])))] [])]),
  (.expr (.bm .append (.var 0) [(.lst true [(.var 2)])])),
  (.ret (.con (.int 1)))]
abbrev p_l_heap_drop : List Iv.St := [(.for (.var 2) (.e (.var 0)) [(.ite (.cmp .isIn (.var 1) (.var 2)) [(.expr (.bm .remove (.var 2) [(.var 1)]))] [])]),
  (.ret (.con (.int 2)))]
abbrev p_l_same : List Iv.St := [(.asg (.var 3) (.bi (.sorted1 false) [(.lock (.var 1) (.lc false [8] (.var 8) (.keys (.var 1)) [] (.tup [(.var 8), (.didx (.var 1) (.var 8))])))])),
  (.for (.var 4) (.rng1 (.con (.int 2))) [(.asg (.tup [.var 5, .var 6]) (.tup [(.meth (.var 0) [(3, 42, [.a 0])] []), (.meth (.var 0) [(0, 18, [.a 0]), (1, 24, [.a 0]), (3, 41, [.a 0])] [])])),
  (.ite (.or (.not (.call 56 [.a 0, .a 1] [(.var 5), (.var 3)])) (.not (.call 56 [.a 0, .a 1] [(.var 6), (.var 2)]))) [(.ret (.con (.bl false)))] []),
  (.ite (.not (.bi (.all) [(.lock (.var 1) (.lc false [8] (.var 8) (.keys (.var 1)) [] (.call 56 [.a 0, .a 1] [(.meth (.var 0) [(3, 36, [.a 0, .a 1])] [(.var 8)]), (.didx (.var 1) (.var 8))])))])) [(.ret (.con (.bl false)))] []),
  (.expr (.bm .append (.var 5) [(.con .non)])),
  (.for (.var 7) (.e (.var 6)) [(.expr (.bm .append (.var 7) [(.con (.int 0))]))]),
  (.expr (.bm .append (.var 6) [(.con .non)]))]),
  (.ret (.con (.bl true)))]
abbrev p_l_edit : List Iv.St := [(.asg (.var 4) (.dsort false (.var 2))),
  (.asg (.var 5) (.call 45 [.a 0, .a 1] [(.var 0), (.con (.int 8))])),
  (.ite (.and (.or (.cmp .lt (.var 5) (.con (.int 4))) (.cmp .eq (.var 4) (.lst false []))) (.cmp .lt (.var 3) (.con (.int 60)))) [(.ret (.tup [(.con (.str "put")), (.call 50 [.a 0, .a 1] [(.var 0), (.var 1)])]))] []),
  (.ite (.cmp .eq (.var 4) (.lst false [])) [(.ret (.tup [(.con (.str "none"))]))] []),
  (.asg (.var 6) (.idx (.var 4) (.call 45 [.a 0, .a 1] [(.var 0), (.bi (.len) [(.var 4)])]))),
  (.ite (.cmp .eq (.var 5) (.con (.int 4))) [(.ret (.tup [(.con (.str "drop")), (.var 6)]))] []),
  (.asg (.tup [(.var 7), (.var 8)]) (.idx (.var 1) (.call 45 [.a 0, .a 1] [(.var 0), (.bi (.len) [(.var 1)])]))),
  (.ret (.tup [(.con (.str "change")), (.var 6), (.var 7), (.call 48 [.a 0, .a 1] [(.var 0), (.var 8)])]))]
abbrev p_l_changed : List Iv.St := [(.ret (.bi (.tuple1) [(.lc false [4, 5, 6] (.tup [(.tup [(.var 4), (.var 5)]), (.var 6)]) (.zip false (.var 0) (.var 1)) [] (.ife (.cmp .eq (.var 4) (.var 2)) (.var 3) (.var 6)))]))]
abbrev p_l_like : List Iv.St := [(.ite (.or (.cmp .ned (.bi (.isi) [(.var 0), (.con (.ty "bool"))]) (.bi (.isi) [(.var 1), (.con (.ty "bool"))])) (.cmp .ned (.var 0) (.var 1))) [(.ret (.con (.bl false)))] []),
  (.ite (.isit (.var 0) ["list", "tuple"]) [(.ret (.bi (.all) [(.lc false [2, 3] (.tup [(.var 2), (.var 3)]) (.zipb (.var 0) (.var 1)) [] (.call 56 [.a 0, .a 1] [(.var 2), (.var 3)]))]))] []),
  (.ret (.con (.bl true)))]
abbrev p_law : List Iv.St := [(.asg (.var 1) (.call 44 [.a 0, .a 1] [(.var 0), (.con (.int 0))])),
  (.asg (.tup [.var 2, .var 3]) (.tup [(.bin false .add (.con (.int 2)) (.call 45 [.a 0, .a 1] [(.var 1), (.con (.int 7))])), (.call 49 [.a 0] [(.var 1)])])),
  (.asg (.tup [(.var 4), (.var 5), (.var 6), (.var 7)]) (.tup [(.make false 3 32 [.a 0, .a 1, .a 2, .d (.str "heap"), .d (.tup [])] [(.make false 4 43 [.a 0, .a 1, .d (.int (4)), .d (.int (3)), .d (.int (4)), .d (.int (16))] [(.var 2)]), (.var 3)]), .dnew, (.lst true []), (.con (.int 0))])),
  (.for (.var 8) (.rng1 (.bi (.max2) [(.con (.int 14)), (.bi (.min2) [(.con (.int 60)), (.bin false .sub (.bi (.len) [(.var 0)]) (.con (.int 1)))])])) [(.asg (.var 1) (.call 44 [.a 0, .a 1] [(.var 0), (.bin false .add (.con (.int 1)) (.var 8))])),
  (.asg (.var 9) (.call 54 [.a 0, .a 1, .a 2, .a 3] [(.var 1), (.var 3), (.var 5), (.var 7)])),
  (.ite (.cmp .eq (.idx (.var 9) (.con (.int 0))) (.con (.str "put"))) [(.asg (.var 7) (.bin false .add (.var 7) (.con (.int 1)))),
  (.asg (.tup [.var 10, .var 11]) (.tup [(.meth (.var 4) [(0, 16, [.a 0, .a 1]), (1, 26, [.a 0, .a 1]), (2, 30, [.a 0, .a 1]), (3, 37, [.a 0, .a 1])] [(.idx (.var 9) (.con (.int 1)))]), (.tup [(.var 7), (.call 51 [.a 0, .a 1, .a 2] [(.var 6), (.var 2), (.var 7)])])])),
  (.asg (.didx (.var 5) (.var 7)) (.idx (.var 9) (.con (.int 1))))] [(.ite (.cmp .eq (.idx (.var 9) (.con (.int 0))) (.con (.str "drop"))) [(.expr (.dpop (.var 5) (.idx (.var 9) (.con (.int 1))))),
  (.asg (.tup [.var 10, .var 11]) (.tup [(.meth (.var 4) [(0, 17, [.a 0, .a 1]), (1, 27, [.a 0, .a 1]), (2, 31, [.a 0, .a 1]), (3, 39, [.a 0, .a 1])] [(.idx (.var 9) (.con (.int 1)))]), (.call 52 [.a 0, .a 1] [(.var 6), (.idx (.var 9) (.con (.int 1)))])]))] [(.ite (.cmp .eq (.idx (.var 9) (.con (.int 0))) (.con (.str "change"))) [(.asg (.var 12) (.call 55 [.a 0, .a 1, .a 2, .a 3] [(.var 3), (.didx (.var 5) (.idx (.var 9) (.con (.int 1)))), (.idx (.var 9) (.con (.int 2))), (.idx (.var 9) (.con (.int 3)))])),
  (.asg (.tup [.var 10, .var 11]) (.tup [(.meth (.var 4) [(3, 40, [.a 0, .a 1, .a 2, .a 3])] [(.idx (.var 9) (.con (.int 1))), (.idx (.var 9) (.con (.int 2))), (.idx (.var 9) (.con (.int 3)))]), (.bin false .mul (.con (.int 2)) (.bi (.int1) [(.cmp .ne (.var 12) (.didx (.var 5) (.idx (.var 9) (.con (.int 1)))))]))])),
  (.asg (.didx (.var 5) (.idx (.var 9) (.con (.int 1)))) (.var 12))] [(.asg (.tup [(.var 10), (.var 11)]) (.tup [(.con (.int 0)), (.con (.int 0))]))])])]),
  (.ite (.or (.not (.call 56 [.a 0, .a 1] [(.var 10), (.var 11)])) (.not (.call 53 [.a 0, .a 1, .a 2] [(.var 4), (.var 5), (.var 6)]))) [(.ret (.con (.bl false)))] [])]),
  (.ret (.con (.bl true)))]
abbrev Tb : List Fn := [⟨3, 3, p_is_whole⟩, ⟨1, 2, p_is_word⟩, ⟨2, 2, p_is_one_of⟩, ⟨3, 3, p_is_tuple_of⟩, ⟨2, 2, p_is_value⟩, ⟨1, 1, p_is_column⟩, ⟨1, 4, p_is_form⟩, ⟨2, 5, p_is_row⟩, ⟨1, 3, p_names_of⟩, ⟨4, 5, p_are_columns⟩, ⟨1, 3, p_number_of⟩, ⟨1, 3, p_mark⟩, ⟨3, 3, p_value_of⟩, ⟨3, 8, p_values_of⟩, ⟨3, 4, p_Buckets_init⟩, ⟨2, 2, p_Buckets_bucket_of⟩, ⟨2, 7, p_Buckets_put⟩, ⟨2, 8, p_Buckets_drop⟩, ⟨1, 3, p_Buckets_pages⟩, ⟨2, 2, p_groups⟩, ⟨2, 2, p_levels_of⟩, ⟨2, 2, p_pages_of⟩, ⟨4, 6, p_Run_init⟩, ⟨1, 1, p_Run_levels⟩, ⟨1, 1, p_Run_pages⟩, ⟨2, 5, p_Run_place_of⟩, ⟨2, 6, p_Run_put⟩, ⟨2, 6, p_Run_drop⟩, ⟨3, 3, p_look_store⟩, ⟨2, 2, p_Heap_init⟩, ⟨2, 3, p_Heap_put⟩, ⟨2, 3, p_Heap_drop⟩, ⟨5, 5, p_Store_init⟩, ⟨2, 3, p_Store_put_thing⟩, ⟨2, 3, p_Store_drop_thing⟩, ⟨2, 2, p_Store_thing_of⟩, ⟨2, 3, p_Store_row⟩, ⟨2, 2, p_Store_put⟩, ⟨2, 2, p_Store_put_row⟩, ⟨2, 3, p_Store_drop⟩, ⟨4, 9, p_Store_change⟩, ⟨1, 6, p_Store_pages⟩, ⟨1, 3, p_Store_all_rows⟩, ⟨6, 11, p_Shape_init⟩, ⟨2, 5, p_l_bag⟩, ⟨2, 3, p_l_take⟩, ⟨2, 8, p_l_names⟩, ⟨1, 3, p_l_word⟩, ⟨2, 3, p_l_value⟩, ⟨1, 3, p_l_form⟩, ⟨2, 4, p_l_row⟩, ⟨3, 4, p_l_heap_put⟩, ⟨2, 3, p_l_heap_drop⟩, ⟨3, 9, p_l_same⟩, ⟨4, 9, p_l_edit⟩, ⟨4, 7, p_l_changed⟩, ⟨2, 4, p_l_like⟩, ⟨1, 13, p_law⟩]
abbrev sg_is_whole : List (Nat × List Str × List Ar) := [(1, [], [.a 0, .d (.int (-999)), .d (.int (999))]), (3, [], [.a 0, .a 1, .a 2])]
abbrev sg_is_word : List (Nat × List Str × List Ar) := [(1, [], [.a 0])]
abbrev sg_is_one_of : List (Nat × List Str × List Ar) := [(2, [], [.a 0, .a 1])]
abbrev sg_is_tuple_of : List (Nat × List Str × List Ar) := [(3, [], [.a 0, .a 1, .a 2])]
abbrev sg_is_value : List (Nat × List Str × List Ar) := [(2, [], [.a 0, .a 1])]
abbrev sg_is_column : List (Nat × List Str × List Ar) := [(1, [], [.a 0])]
abbrev sg_is_form : List (Nat × List Str × List Ar) := [(1, [], [.a 0])]
abbrev sg_is_row : List (Nat × List Str × List Ar) := [(2, [], [.a 0, .a 1])]
abbrev sg_names_of : List (Nat × List Str × List Ar) := [(1, [], [.a 0])]
abbrev sg_are_columns : List (Nat × List Str × List Ar) := [(4, [], [.a 0, .a 1, .a 2, .a 3])]
abbrev sg_number_of : List (Nat × List Str × List Ar) := []
abbrev sg_mark : List (Nat × List Str × List Ar) := []
abbrev sg_value_of : List (Nat × List Str × List Ar) := [(3, [], [.a 0, .a 1, .a 2])]
abbrev sg_values_of : List (Nat × List Str × List Ar) := [(3, [], [.a 0, .a 1, .a 2])]
abbrev sg_Buckets_init : List (Nat × List Str × List Ar) := [(1, ["count", "most"], [.a 0, .a 1, .a 2])]
abbrev sg_Buckets_bucket_of : List (Nat × List Str × List Ar) := []
abbrev sg_Buckets_put : List (Nat × List Str × List Ar) := [(2, [], [.a 0, .a 1])]
abbrev sg_Buckets_drop : List (Nat × List Str × List Ar) := [(2, [], [.a 0, .a 1])]
abbrev sg_Buckets_pages : List (Nat × List Str × List Ar) := [(1, [], [.a 0])]
abbrev sg_groups : List (Nat × List Str × List Ar) := []
abbrev sg_levels_of : List (Nat × List Str × List Ar) := []
abbrev sg_pages_of : List (Nat × List Str × List Ar) := []
abbrev sg_Run_init : List (Nat × List Str × List Ar) := [(1, ["most", "fan"], [.a 0, .a 1, .a 2, .d (.tup [])])]
abbrev sg_Run_levels : List (Nat × List Str × List Ar) := []
abbrev sg_Run_pages : List (Nat × List Str × List Ar) := [(1, [], [.a 0])]
abbrev sg_Run_place_of : List (Nat × List Str × List Ar) := []
abbrev sg_Run_put : List (Nat × List Str × List Ar) := [(2, [], [.a 0, .a 1])]
abbrev sg_Run_drop : List (Nat × List Str × List Ar) := [(2, [], [.a 0, .a 1])]
abbrev sg_look_store : List (Nat × List Str × List Ar) := [(3, [], [.a 0, .a 1, .a 2])]
abbrev sg_Heap_init : List (Nat × List Str × List Ar) := [(1, ["most"], [.a 0, .a 1])]
abbrev sg_Heap_put : List (Nat × List Str × List Ar) := [(2, [], [.a 0, .a 1])]
abbrev sg_Heap_drop : List (Nat × List Str × List Ar) := [(2, [], [.a 0, .a 1])]
abbrev sg_Store_init : List (Nat × List Str × List Ar) := [(3, [], [.a 0, .a 1, .a 2, .d (.str "heap"), .d (.tup [])])]
abbrev sg_Store_put_thing : List (Nat × List Str × List Ar) := [(2, [], [.a 0, .a 1])]
abbrev sg_Store_drop_thing : List (Nat × List Str × List Ar) := [(2, [], [.a 0, .a 1])]
abbrev sg_Store_thing_of : List (Nat × List Str × List Ar) := [(2, [], [.a 0, .a 1])]
abbrev sg_Store_row : List (Nat × List Str × List Ar) := [(2, [], [.a 0, .a 1])]
abbrev sg_Store_put : List (Nat × List Str × List Ar) := [(2, [], [.a 0, .a 1])]
abbrev sg_Store_put_row : List (Nat × List Str × List Ar) := [(2, [], [.a 0, .a 1])]
abbrev sg_Store_drop : List (Nat × List Str × List Ar) := [(2, [], [.a 0, .a 1])]
abbrev sg_Store_change : List (Nat × List Str × List Ar) := [(4, [], [.a 0, .a 1, .a 2, .a 3])]
abbrev sg_Store_pages : List (Nat × List Str × List Ar) := [(1, [], [.a 0])]
abbrev sg_Store_all_rows : List (Nat × List Str × List Ar) := [(1, [], [.a 0])]
abbrev sg_Shape_init : List (Nat × List Str × List Ar) := [(1, ["rows"], [.a 0, .a 1, .d (.int (4)), .d (.int (3)), .d (.int (4)), .d (.int (16))])]
abbrev sg_l_bag : List (Nat × List Str × List Ar) := [(2, [], [.a 0, .a 1])]
abbrev sg_l_take : List (Nat × List Str × List Ar) := [(2, [], [.a 0, .a 1])]
abbrev sg_l_names : List (Nat × List Str × List Ar) := [(2, [], [.a 0, .a 1])]
abbrev sg_l_word : List (Nat × List Str × List Ar) := [(1, [], [.a 0])]
abbrev sg_l_value : List (Nat × List Str × List Ar) := [(2, [], [.a 0, .a 1])]
abbrev sg_l_form : List (Nat × List Str × List Ar) := [(1, [], [.a 0])]
abbrev sg_l_row : List (Nat × List Str × List Ar) := [(2, [], [.a 0, .a 1])]
abbrev sg_l_heap_put : List (Nat × List Str × List Ar) := [(3, [], [.a 0, .a 1, .a 2])]
abbrev sg_l_heap_drop : List (Nat × List Str × List Ar) := [(2, [], [.a 0, .a 1])]
abbrev sg_l_same : List (Nat × List Str × List Ar) := [(3, [], [.a 0, .a 1, .a 2])]
abbrev sg_l_edit : List (Nat × List Str × List Ar) := [(4, [], [.a 0, .a 1, .a 2, .a 3])]
abbrev sg_l_changed : List (Nat × List Str × List Ar) := [(4, [], [.a 0, .a 1, .a 2, .a 3])]
abbrev sg_l_like : List (Nat × List Str × List Ar) := [(2, [], [.a 0, .a 1])]
abbrev sg_law : List (Nat × List Str × List Ar) := [(1, [], [.a 0])]
abbrev fnL : List Str := ["bins", "many", "most", "fan", "rising", "sheets", "form", "heap", "held", "key", "kind", "known", "last", "shape", "bits", "buckets", "entries", "rows"]
abbrev gs (K : PySem.W.Frag) : Gs := { K := K, ca := fun c => ([He.ga K "Buckets", He.ga K "Run", He.ga K "Heap", He.ga K "Store", He.ga K "Shape"] : List Addr).getD c 0, fn := fun f => fnL.getD f "", fok := fun f => f < 18, finj := fun f f' h h' => (by decide +kernel : ∀ f, f < 18 → ∀ f', f' < 18 → fnL.getD f "" = fnL.getD f' "" → f = f') f h f' h', xr := fun _ _ _ _ _ _ => False }
section
variable {P : Program} {w : World} {K : PySem.W.Frag} {mg : Str → Option Value} {base : Heap}
theorem sgs_is_whole (T : Txt K mg) {fd : FuncData} (F : FunD K "is_whole" "is_whole" (defArgs s_is_whole) (defBody s_is_whole) (defScope s_is_whole) [(.int (-999)), (.int (999))] [] (He.ga K "is_whole") fd) : ∀ s ∈ sg_is_whole, Sig (gs K) fd ["thing", "low", "high"] s.1 s.2.1 s.2.2 := fun s hs => match s, hs with
  | _, .head _ => sig_dfl (g := gs K) (js := [0, 1, 2]) [(.int (-999)), (.int (999))] F (by simp) rfl (by decide) (fun _ _ _ => (Rels.cons (by rw [rel_int]) (Rels.cons (by rw [rel_int]) Rels.nil))) fun _ _ _ _ _ _ _ us ws its hl hl2 hl3 => match us, hl, ws, hl2, its, hl3 with | [_], _, [], _, [_, _], _ => ⟨_, rfl, rfl⟩
  | _, .tail _ (.head _) => sig_dfl (g := gs K) (js := [0, 1, 2]) [(.int (-999)), (.int (999))] F (by simp) rfl (by decide) (fun _ _ _ => (Rels.cons (by rw [rel_int]) (Rels.cons (by rw [rel_int]) Rels.nil))) fun _ _ _ _ _ _ _ us ws its hl hl2 hl3 => match us, hl, ws, hl2, its, hl3 with | [_, _, _], _, [], _, [_, _], _ => ⟨_, rfl, rfl⟩
theorem sgs_is_word (T : Txt K mg) {fd : FuncData} (F : FunD K "is_word" "is_word" (defArgs s_is_word) (defBody s_is_word) (defScope s_is_word) [] [] (He.ga K "is_word") fd) : ∀ s ∈ sg_is_word, Sig (gs K) fd ["thing"] s.1 s.2.1 s.2.2 := fun s hs => match s, hs with
  | _, .head _ => sig_all (g := gs K) (js := [0]) F rfl fun _ _ _ _ _ _ us ws hl hl2 => match us, hl, ws, hl2 with | [_], _, [], _ => rfl
theorem sgs_is_one_of (T : Txt K mg) {fd : FuncData} (F : FunD K "is_one_of" "is_one_of" (defArgs s_is_one_of) (defBody s_is_one_of) (defScope s_is_one_of) [] [] (He.ga K "is_one_of") fd) : ∀ s ∈ sg_is_one_of, Sig (gs K) fd ["thing", "texts"] s.1 s.2.1 s.2.2 := fun s hs => match s, hs with
  | _, .head _ => sig_all (g := gs K) (js := [0, 1]) F rfl fun _ _ _ _ _ _ us ws hl hl2 => match us, hl, ws, hl2 with | [_, _], _, [], _ => rfl
theorem sgs_is_tuple_of (T : Txt K mg) {fd : FuncData} (F : FunD K "is_tuple_of" "is_tuple_of" (defArgs s_is_tuple_of) (defBody s_is_tuple_of) (defScope s_is_tuple_of) [] [] (He.ga K "is_tuple_of") fd) : ∀ s ∈ sg_is_tuple_of, Sig (gs K) fd ["thing", "least", "most"] s.1 s.2.1 s.2.2 := fun s hs => match s, hs with
  | _, .head _ => sig_all (g := gs K) (js := [0, 1, 2]) F rfl fun _ _ _ _ _ _ us ws hl hl2 => match us, hl, ws, hl2 with | [_, _, _], _, [], _ => rfl
theorem sgs_is_value (T : Txt K mg) {fd : FuncData} (F : FunD K "is_value" "is_value" (defArgs s_is_value) (defBody s_is_value) (defScope s_is_value) [] [] (He.ga K "is_value") fd) : ∀ s ∈ sg_is_value, Sig (gs K) fd ["kind", "thing"] s.1 s.2.1 s.2.2 := fun s hs => match s, hs with
  | _, .head _ => sig_all (g := gs K) (js := [0, 1]) F rfl fun _ _ _ _ _ _ us ws hl hl2 => match us, hl, ws, hl2 with | [_, _], _, [], _ => rfl
theorem sgs_is_column (T : Txt K mg) {fd : FuncData} (F : FunD K "is_column" "is_column" (defArgs s_is_column) (defBody s_is_column) (defScope s_is_column) [] [] (He.ga K "is_column") fd) : ∀ s ∈ sg_is_column, Sig (gs K) fd ["thing"] s.1 s.2.1 s.2.2 := fun s hs => match s, hs with
  | _, .head _ => sig_all (g := gs K) (js := [0]) F rfl fun _ _ _ _ _ _ us ws hl hl2 => match us, hl, ws, hl2 with | [_], _, [], _ => rfl
theorem sgs_is_form (T : Txt K mg) {fd : FuncData} (F : FunD K "is_form" "is_form" (defArgs s_is_form) (defBody s_is_form) (defScope s_is_form) [] [] (He.ga K "is_form") fd) : ∀ s ∈ sg_is_form, Sig (gs K) fd ["thing"] s.1 s.2.1 s.2.2 := fun s hs => match s, hs with
  | _, .head _ => sig_all (g := gs K) (js := [0]) F rfl fun _ _ _ _ _ _ us ws hl hl2 => match us, hl, ws, hl2 with | [_], _, [], _ => rfl
theorem sgs_is_row (T : Txt K mg) {fd : FuncData} (F : FunD K "is_row" "is_row" (defArgs s_is_row) (defBody s_is_row) (defScope s_is_row) [] [] (He.ga K "is_row") fd) : ∀ s ∈ sg_is_row, Sig (gs K) fd ["form", "thing"] s.1 s.2.1 s.2.2 := fun s hs => match s, hs with
  | _, .head _ => sig_all (g := gs K) (js := [0, 1]) F rfl fun _ _ _ _ _ _ us ws hl hl2 => match us, hl, ws, hl2 with | [_, _], _, [], _ => rfl
theorem sgs_names_of (T : Txt K mg) {fd : FuncData} (F : FunD K "names_of" "names_of" (defArgs s_names_of) (defBody s_names_of) (defScope s_names_of) [] [] (He.ga K "names_of") fd) : ∀ s ∈ sg_names_of, Sig (gs K) fd ["form"] s.1 s.2.1 s.2.2 := fun s hs => match s, hs with
  | _, .head _ => sig_all (g := gs K) (js := [0]) F rfl fun _ _ _ _ _ _ us ws hl hl2 => match us, hl, ws, hl2 with | [_], _, [], _ => rfl
theorem sgs_are_columns (T : Txt K mg) {fd : FuncData} (F : FunD K "are_columns" "are_columns" (defArgs s_are_columns) (defBody s_are_columns) (defScope s_are_columns) [] [] (He.ga K "are_columns") fd) : ∀ s ∈ sg_are_columns, Sig (gs K) fd ["form", "thing", "least", "most"] s.1 s.2.1 s.2.2 := fun s hs => match s, hs with
  | _, .head _ => sig_all (g := gs K) (js := [0, 1, 2, 3]) F rfl fun _ _ _ _ _ _ us ws hl hl2 => match us, hl, ws, hl2 with | [_, _, _, _], _, [], _ => rfl
theorem sgs_number_of (T : Txt K mg) {fd : FuncData} (F : FunD K "number_of" "number_of" (defArgs s_number_of) (defBody s_number_of) (defScope s_number_of) [] [] (He.ga K "number_of") fd) : ∀ s ∈ sg_number_of, Sig (gs K) fd ["value"] s.1 s.2.1 s.2.2 := fun s hs => nomatch hs
theorem sgs_mark (T : Txt K mg) {fd : FuncData} (F : FunD K "mark" "mark" (defArgs s_mark) (defBody s_mark) (defScope s_mark) [] [] (He.ga K "mark") fd) : ∀ s ∈ sg_mark, Sig (gs K) fd ["values"] s.1 s.2.1 s.2.2 := fun s hs => nomatch hs
theorem sgs_value_of (T : Txt K mg) {fd : FuncData} (F : FunD K "value_of" "value_of" (defArgs s_value_of) (defBody s_value_of) (defScope s_value_of) [] [] (He.ga K "value_of") fd) : ∀ s ∈ sg_value_of, Sig (gs K) fd ["form", "row", "column"] s.1 s.2.1 s.2.2 := fun s hs => match s, hs with
  | _, .head _ => sig_all (g := gs K) (js := [0, 1, 2]) F rfl fun _ _ _ _ _ _ us ws hl hl2 => match us, hl, ws, hl2 with | [_, _, _], _, [], _ => rfl
theorem sgs_values_of (T : Txt K mg) {fd : FuncData} (F : FunD K "values_of" "values_of" (defArgs s_values_of) (defBody s_values_of) (defScope s_values_of) [] [] (He.ga K "values_of") fd) : ∀ s ∈ sg_values_of, Sig (gs K) fd ["form", "row", "columns"] s.1 s.2.1 s.2.2 := fun s hs => match s, hs with
  | _, .head _ => sig_all (g := gs K) (js := [0, 1, 2]) F rfl fun _ _ _ _ _ _ us ws hl hl2 => match us, hl, ws, hl2 with | [_, _, _], _, [], _ => rfl
theorem sgs_Buckets_init (T : Txt K mg) {fd : FuncData} (F : FunD K "__init__" "Buckets.__init__" (defArgs s_Buckets_init) (defBody s_Buckets_init) (defScope s_Buckets_init) [] [] (He.ma K (He.ga K "Buckets") "__init__") fd) : ∀ s ∈ sg_Buckets_init, Sig (gs K) fd ["self", "count", "most"] s.1 s.2.1 s.2.2 := fun s hs => match s, hs with
  | _, .head _ => sig_all (g := gs K) (js := [0, 1, 2]) F rfl fun _ _ _ _ _ _ us ws hl hl2 => match us, hl, ws, hl2 with | [_], _, [_, _], _ => rfl
theorem sgs_Buckets_bucket_of (T : Txt K mg) {fd : FuncData} (F : FunD K "bucket_of" "Buckets.bucket_of" (defArgs s_Buckets_bucket_of) (defBody s_Buckets_bucket_of) (defScope s_Buckets_bucket_of) [] [] (He.ma K (He.ga K "Buckets") "bucket_of") fd) : ∀ s ∈ sg_Buckets_bucket_of, Sig (gs K) fd ["self", "values"] s.1 s.2.1 s.2.2 := fun s hs => nomatch hs
theorem sgs_Buckets_put (T : Txt K mg) {fd : FuncData} (F : FunD K "put" "Buckets.put" (defArgs s_Buckets_put) (defBody s_Buckets_put) (defScope s_Buckets_put) [] [] (He.ma K (He.ga K "Buckets") "put") fd) : ∀ s ∈ sg_Buckets_put, Sig (gs K) fd ["self", "thing"] s.1 s.2.1 s.2.2 := fun s hs => match s, hs with
  | _, .head _ => sig_all (g := gs K) (js := [0, 1]) F rfl fun _ _ _ _ _ _ us ws hl hl2 => match us, hl, ws, hl2 with | [_, _], _, [], _ => rfl
theorem sgs_Buckets_drop (T : Txt K mg) {fd : FuncData} (F : FunD K "drop" "Buckets.drop" (defArgs s_Buckets_drop) (defBody s_Buckets_drop) (defScope s_Buckets_drop) [] [] (He.ma K (He.ga K "Buckets") "drop") fd) : ∀ s ∈ sg_Buckets_drop, Sig (gs K) fd ["self", "thing"] s.1 s.2.1 s.2.2 := fun s hs => match s, hs with
  | _, .head _ => sig_all (g := gs K) (js := [0, 1]) F rfl fun _ _ _ _ _ _ us ws hl hl2 => match us, hl, ws, hl2 with | [_, _], _, [], _ => rfl
theorem sgs_Buckets_pages (T : Txt K mg) {fd : FuncData} (F : FunD K "pages" "Buckets.pages" (defArgs s_Buckets_pages) (defBody s_Buckets_pages) (defScope s_Buckets_pages) [] [] (He.ma K (He.ga K "Buckets") "pages") fd) : ∀ s ∈ sg_Buckets_pages, Sig (gs K) fd ["self"] s.1 s.2.1 s.2.2 := fun s hs => match s, hs with
  | _, .head _ => sig_all (g := gs K) (js := [0]) F rfl fun _ _ _ _ _ _ us ws hl hl2 => match us, hl, ws, hl2 with | [_], _, [], _ => rfl
theorem sgs_groups (T : Txt K mg) {fd : FuncData} (F : FunD K "groups" "groups" (defArgs s_groups) (defBody s_groups) (defScope s_groups) [] [] (He.ga K "groups") fd) : ∀ s ∈ sg_groups, Sig (gs K) fd ["many", "size"] s.1 s.2.1 s.2.2 := fun s hs => nomatch hs
theorem sgs_levels_of (T : Txt K mg) {fd : FuncData} (F : FunD K "levels_of" "levels_of" (defArgs s_levels_of) (defBody s_levels_of) (defScope s_levels_of) [] [] (He.ga K "levels_of") fd) : ∀ s ∈ sg_levels_of, Sig (gs K) fd ["leaves", "fan"] s.1 s.2.1 s.2.2 := fun s hs => nomatch hs
theorem sgs_pages_of (T : Txt K mg) {fd : FuncData} (F : FunD K "pages_of" "pages_of" (defArgs s_pages_of) (defBody s_pages_of) (defScope s_pages_of) [] [] (He.ga K "pages_of") fd) : ∀ s ∈ sg_pages_of, Sig (gs K) fd ["leaves", "fan"] s.1 s.2.1 s.2.2 := fun s hs => nomatch hs
theorem sgs_Run_init (T : Txt K mg) {fd : FuncData} (F : FunD K "__init__" "Run.__init__" (defArgs s_Run_init) (defBody s_Run_init) (defScope s_Run_init) [] [("things", (.ref (He.kwAt ("Run", some "__init__") "things" K)))] (He.ma K (He.ga K "Run") "__init__") fd) : ∀ s ∈ sg_Run_init, Sig (gs K) fd ["self", "most", "fan", "things"] s.1 s.2.1 s.2.2 := fun s hs => match s, hs with
  | _, .head _ => sig_kw0 (g := gs K) (js := [0, 1, 2, 3]) [(.tup [])] [("things", (.ref (He.kwAt ("Run", some "__init__") "things" K)))] F (by simp) (by simp) rfl (by decide) (fun _ _ _ => (Rels.cons ((rel_tupK T.e_Run_init_things)) Rels.nil)) fun _ _ _ _ _ _ us mv ws hl hl2 hl3 => match us, hl, mv, hl2, ws, hl3 with | [_], _, [_], _, [_, _], _ => ⟨_, _, _, _, _, _, rfl, rfl, rfl⟩
theorem sgs_Run_levels (T : Txt K mg) {fd : FuncData} (F : FunD K "levels" "Run.levels" (defArgs s_Run_levels) (defBody s_Run_levels) (defScope s_Run_levels) [] [] (He.ma K (He.ga K "Run") "levels") fd) : ∀ s ∈ sg_Run_levels, Sig (gs K) fd ["self"] s.1 s.2.1 s.2.2 := fun s hs => nomatch hs
theorem sgs_Run_pages (T : Txt K mg) {fd : FuncData} (F : FunD K "pages" "Run.pages" (defArgs s_Run_pages) (defBody s_Run_pages) (defScope s_Run_pages) [] [] (He.ma K (He.ga K "Run") "pages") fd) : ∀ s ∈ sg_Run_pages, Sig (gs K) fd ["self"] s.1 s.2.1 s.2.2 := fun s hs => match s, hs with
  | _, .head _ => sig_all (g := gs K) (js := [0]) F rfl fun _ _ _ _ _ _ us ws hl hl2 => match us, hl, ws, hl2 with | [_], _, [], _ => rfl
theorem sgs_Run_place_of (T : Txt K mg) {fd : FuncData} (F : FunD K "place_of" "Run.place_of" (defArgs s_Run_place_of) (defBody s_Run_place_of) (defScope s_Run_place_of) [] [] (He.ma K (He.ga K "Run") "place_of") fd) : ∀ s ∈ sg_Run_place_of, Sig (gs K) fd ["self", "thing"] s.1 s.2.1 s.2.2 := fun s hs => nomatch hs
theorem sgs_Run_put (T : Txt K mg) {fd : FuncData} (F : FunD K "put" "Run.put" (defArgs s_Run_put) (defBody s_Run_put) (defScope s_Run_put) [] [] (He.ma K (He.ga K "Run") "put") fd) : ∀ s ∈ sg_Run_put, Sig (gs K) fd ["self", "thing"] s.1 s.2.1 s.2.2 := fun s hs => match s, hs with
  | _, .head _ => sig_all (g := gs K) (js := [0, 1]) F rfl fun _ _ _ _ _ _ us ws hl hl2 => match us, hl, ws, hl2 with | [_, _], _, [], _ => rfl
theorem sgs_Run_drop (T : Txt K mg) {fd : FuncData} (F : FunD K "drop" "Run.drop" (defArgs s_Run_drop) (defBody s_Run_drop) (defScope s_Run_drop) [] [] (He.ma K (He.ga K "Run") "drop") fd) : ∀ s ∈ sg_Run_drop, Sig (gs K) fd ["self", "thing"] s.1 s.2.1 s.2.2 := fun s hs => match s, hs with
  | _, .head _ => sig_all (g := gs K) (js := [0, 1]) F rfl fun _ _ _ _ _ _ us ws hl hl2 => match us, hl, ws, hl2 with | [_, _], _, [], _ => rfl
theorem sgs_look_store (T : Txt K mg) {fd : FuncData} (F : FunD K "look_store" "look_store" (defArgs s_look_store) (defBody s_look_store) (defScope s_look_store) [] [] (He.ga K "look_store") fd) : ∀ s ∈ sg_look_store, Sig (gs K) fd ["form", "kind", "key"] s.1 s.2.1 s.2.2 := fun s hs => match s, hs with
  | _, .head _ => sig_all (g := gs K) (js := [0, 1, 2]) F rfl fun _ _ _ _ _ _ us ws hl hl2 => match us, hl, ws, hl2 with | [_, _, _], _, [], _ => rfl
theorem sgs_Heap_init (T : Txt K mg) {fd : FuncData} (F : FunD K "__init__" "Heap.__init__" (defArgs s_Heap_init) (defBody s_Heap_init) (defScope s_Heap_init) [] [] (He.ma K (He.ga K "Heap") "__init__") fd) : ∀ s ∈ sg_Heap_init, Sig (gs K) fd ["self", "most"] s.1 s.2.1 s.2.2 := fun s hs => match s, hs with
  | _, .head _ => sig_all (g := gs K) (js := [0, 1]) F rfl fun _ _ _ _ _ _ us ws hl hl2 => match us, hl, ws, hl2 with | [_], _, [_], _ => rfl
theorem sgs_Heap_put (T : Txt K mg) {fd : FuncData} (F : FunD K "put" "Heap.put" (defArgs s_Heap_put) (defBody s_Heap_put) (defScope s_Heap_put) [] [] (He.ma K (He.ga K "Heap") "put") fd) : ∀ s ∈ sg_Heap_put, Sig (gs K) fd ["self", "thing"] s.1 s.2.1 s.2.2 := fun s hs => match s, hs with
  | _, .head _ => sig_all (g := gs K) (js := [0, 1]) F rfl fun _ _ _ _ _ _ us ws hl hl2 => match us, hl, ws, hl2 with | [_, _], _, [], _ => rfl
theorem sgs_Heap_drop (T : Txt K mg) {fd : FuncData} (F : FunD K "drop" "Heap.drop" (defArgs s_Heap_drop) (defBody s_Heap_drop) (defScope s_Heap_drop) [] [] (He.ma K (He.ga K "Heap") "drop") fd) : ∀ s ∈ sg_Heap_drop, Sig (gs K) fd ["self", "thing"] s.1 s.2.1 s.2.2 := fun s hs => match s, hs with
  | _, .head _ => sig_all (g := gs K) (js := [0, 1]) F rfl fun _ _ _ _ _ _ us ws hl hl2 => match us, hl, ws, hl2 with | [_, _], _, [], _ => rfl
theorem sgs_Store_init (T : Txt K mg) {fd : FuncData} (F : FunD K "__init__" "Store.__init__" (defArgs s_Store_init) (defBody s_Store_init) (defScope s_Store_init) [(.str "heap")] [("key", (.ref (He.kwAt ("Store", some "__init__") "key" K)))] (He.ma K (He.ga K "Store") "__init__") fd) : ∀ s ∈ sg_Store_init, Sig (gs K) fd ["self", "shape", "form", "kind", "key"] s.1 s.2.1 s.2.2 := fun s hs => match s, hs with
  | _, .head _ => sig_kw (g := gs K) (js := [0, 1, 2, 3, 4]) [(.str "heap"), (.tup [])] [("key", (.ref (He.kwAt ("Store", some "__init__") "key" K)))] F (by simp) (by simp) (by simp) rfl (by decide) (fun _ _ _ => (Rels.cons (by rw [rel_str]; exact ⟨rfl, okS_of (by decide +kernel)⟩) (Rels.cons ((rel_tupK T.e_Store_init_key)) Rels.nil))) fun _ _ _ _ _ _ _ us its mv ws hl hl1 hl2 hl3 => match us, hl, its, hl1, mv, hl2, ws, hl3 with | [_, _, _], _, [_], _, [_], _, [], _ => ⟨_, rfl, ⟨_, _, _, _, _, _, rfl, rfl, rfl⟩⟩
theorem sgs_Store_put_thing (T : Txt K mg) {fd : FuncData} (F : FunD K "put_thing" "Store.put_thing" (defArgs s_Store_put_thing) (defBody s_Store_put_thing) (defScope s_Store_put_thing) [] [] (He.ma K (He.ga K "Store") "put_thing") fd) : ∀ s ∈ sg_Store_put_thing, Sig (gs K) fd ["self", "number"] s.1 s.2.1 s.2.2 := fun s hs => match s, hs with
  | _, .head _ => sig_all (g := gs K) (js := [0, 1]) F rfl fun _ _ _ _ _ _ us ws hl hl2 => match us, hl, ws, hl2 with | [_, _], _, [], _ => rfl
theorem sgs_Store_drop_thing (T : Txt K mg) {fd : FuncData} (F : FunD K "drop_thing" "Store.drop_thing" (defArgs s_Store_drop_thing) (defBody s_Store_drop_thing) (defScope s_Store_drop_thing) [] [] (He.ma K (He.ga K "Store") "drop_thing") fd) : ∀ s ∈ sg_Store_drop_thing, Sig (gs K) fd ["self", "number"] s.1 s.2.1 s.2.2 := fun s hs => match s, hs with
  | _, .head _ => sig_all (g := gs K) (js := [0, 1]) F rfl fun _ _ _ _ _ _ us ws hl hl2 => match us, hl, ws, hl2 with | [_, _], _, [], _ => rfl
theorem sgs_Store_thing_of (T : Txt K mg) {fd : FuncData} (F : FunD K "thing_of" "Store.thing_of" (defArgs s_Store_thing_of) (defBody s_Store_thing_of) (defScope s_Store_thing_of) [] [] (He.ma K (He.ga K "Store") "thing_of") fd) : ∀ s ∈ sg_Store_thing_of, Sig (gs K) fd ["self", "number"] s.1 s.2.1 s.2.2 := fun s hs => match s, hs with
  | _, .head _ => sig_all (g := gs K) (js := [0, 1]) F rfl fun _ _ _ _ _ _ us ws hl hl2 => match us, hl, ws, hl2 with | [_, _], _, [], _ => rfl
theorem sgs_Store_row (T : Txt K mg) {fd : FuncData} (F : FunD K "row" "Store.row" (defArgs s_Store_row) (defBody s_Store_row) (defScope s_Store_row) [] [] (He.ma K (He.ga K "Store") "row") fd) : ∀ s ∈ sg_Store_row, Sig (gs K) fd ["self", "number"] s.1 s.2.1 s.2.2 := fun s hs => match s, hs with
  | _, .head _ => sig_all (g := gs K) (js := [0, 1]) F rfl fun _ _ _ _ _ _ us ws hl hl2 => match us, hl, ws, hl2 with | [_, _], _, [], _ => rfl
theorem sgs_Store_put (T : Txt K mg) {fd : FuncData} (F : FunD K "put" "Store.put" (defArgs s_Store_put) (defBody s_Store_put) (defScope s_Store_put) [] [] (He.ma K (He.ga K "Store") "put") fd) : ∀ s ∈ sg_Store_put, Sig (gs K) fd ["self", "row"] s.1 s.2.1 s.2.2 := fun s hs => match s, hs with
  | _, .head _ => sig_all (g := gs K) (js := [0, 1]) F rfl fun _ _ _ _ _ _ us ws hl hl2 => match us, hl, ws, hl2 with | [_, _], _, [], _ => rfl
theorem sgs_Store_put_row (T : Txt K mg) {fd : FuncData} (F : FunD K "put_row" "Store.put_row" (defArgs s_Store_put_row) (defBody s_Store_put_row) (defScope s_Store_put_row) [] [] (He.ma K (He.ga K "Store") "put_row") fd) : ∀ s ∈ sg_Store_put_row, Sig (gs K) fd ["self", "row"] s.1 s.2.1 s.2.2 := fun s hs => match s, hs with
  | _, .head _ => sig_all (g := gs K) (js := [0, 1]) F rfl fun _ _ _ _ _ _ us ws hl hl2 => match us, hl, ws, hl2 with | [_, _], _, [], _ => rfl
theorem sgs_Store_drop (T : Txt K mg) {fd : FuncData} (F : FunD K "drop" "Store.drop" (defArgs s_Store_drop) (defBody s_Store_drop) (defScope s_Store_drop) [] [] (He.ma K (He.ga K "Store") "drop") fd) : ∀ s ∈ sg_Store_drop, Sig (gs K) fd ["self", "number"] s.1 s.2.1 s.2.2 := fun s hs => match s, hs with
  | _, .head _ => sig_all (g := gs K) (js := [0, 1]) F rfl fun _ _ _ _ _ _ us ws hl hl2 => match us, hl, ws, hl2 with | [_, _], _, [], _ => rfl
theorem sgs_Store_change (T : Txt K mg) {fd : FuncData} (F : FunD K "change" "Store.change" (defArgs s_Store_change) (defBody s_Store_change) (defScope s_Store_change) [] [] (He.ma K (He.ga K "Store") "change") fd) : ∀ s ∈ sg_Store_change, Sig (gs K) fd ["self", "number", "column", "value"] s.1 s.2.1 s.2.2 := fun s hs => match s, hs with
  | _, .head _ => sig_all (g := gs K) (js := [0, 1, 2, 3]) F rfl fun _ _ _ _ _ _ us ws hl hl2 => match us, hl, ws, hl2 with | [_, _, _, _], _, [], _ => rfl
theorem sgs_Store_pages (T : Txt K mg) {fd : FuncData} (F : FunD K "pages" "Store.pages" (defArgs s_Store_pages) (defBody s_Store_pages) (defScope s_Store_pages) [] [] (He.ma K (He.ga K "Store") "pages") fd) : ∀ s ∈ sg_Store_pages, Sig (gs K) fd ["self"] s.1 s.2.1 s.2.2 := fun s hs => match s, hs with
  | _, .head _ => sig_all (g := gs K) (js := [0]) F rfl fun _ _ _ _ _ _ us ws hl hl2 => match us, hl, ws, hl2 with | [_], _, [], _ => rfl
theorem sgs_Store_all_rows (T : Txt K mg) {fd : FuncData} (F : FunD K "all_rows" "Store.all_rows" (defArgs s_Store_all_rows) (defBody s_Store_all_rows) (defScope s_Store_all_rows) [] [] (He.ma K (He.ga K "Store") "all_rows") fd) : ∀ s ∈ sg_Store_all_rows, Sig (gs K) fd ["self"] s.1 s.2.1 s.2.2 := fun s hs => match s, hs with
  | _, .head _ => sig_all (g := gs K) (js := [0]) F rfl fun _ _ _ _ _ _ us ws hl hl2 => match us, hl, ws, hl2 with | [_], _, [], _ => rfl
theorem sgs_Shape_init (T : Txt K mg) {fd : FuncData} (F : FunD K "__init__" "Shape.__init__" (defArgs s_Shape_init) (defBody s_Shape_init) (defScope s_Shape_init) [] [("rows", (.int (4))), ("entries", (.int (4))), ("fan", (.int (3))), ("buckets", (.int (4))), ("bits", (.int (16)))] (He.ma K (He.ga K "Shape") "__init__") fd) : ∀ s ∈ sg_Shape_init, Sig (gs K) fd ["self", "rows", "entries", "fan", "buckets", "bits"] s.1 s.2.1 s.2.2 := fun s hs => match s, hs with
  | _, .head _ => sig_kw0 (g := gs K) (js := [0, 1, 2, 3, 4, 5]) [(.int (4)), (.int (3)), (.int (4)), (.int (16))] [("entries", (.int (4))), ("fan", (.int (3))), ("buckets", (.int (4))), ("bits", (.int (16)))] F (by simp) (by simp) rfl (by decide) (fun _ _ _ => (Rels.cons (by rw [rel_int]) (Rels.cons (by rw [rel_int]) (Rels.cons (by rw [rel_int]) (Rels.cons (by rw [rel_int]) Rels.nil))))) fun _ _ _ _ _ _ us mv ws hl hl2 hl3 => match us, hl, mv, hl2, ws, hl3 with | [_], _, [_, _, _, _], _, [_], _ => ⟨_, _, _, _, _, _, rfl, rfl, ⟨_, _, _, _, _, _, rfl, rfl, ⟨_, _, _, _, _, _, rfl, rfl, ⟨_, _, _, _, _, _, rfl, rfl, rfl⟩⟩⟩⟩
theorem sgs_l_bag (T : Txt K mg) {fd : FuncData} (F : FunD K "_law_bag" "_law_bag" (defArgs s_l_bag) (defBody s_l_bag) (defScope s_l_bag) [] [] (He.ga K "_law_bag") fd) : ∀ s ∈ sg_l_bag, Sig (gs K) fd ["_law_script", "_law_at"] s.1 s.2.1 s.2.2 := fun s hs => match s, hs with
  | _, .head _ => sig_all (g := gs K) (js := [0, 1]) F rfl fun _ _ _ _ _ _ us ws hl hl2 => match us, hl, ws, hl2 with | [_, _], _, [], _ => rfl
theorem sgs_l_take (T : Txt K mg) {fd : FuncData} (F : FunD K "_law_take" "_law_take" (defArgs s_l_take) (defBody s_l_take) (defScope s_l_take) [] [] (He.ga K "_law_take") fd) : ∀ s ∈ sg_l_take, Sig (gs K) fd ["_law_bag_here", "_law_many"] s.1 s.2.1 s.2.2 := fun s hs => match s, hs with
  | _, .head _ => sig_all (g := gs K) (js := [0, 1]) F rfl fun _ _ _ _ _ _ us ws hl hl2 => match us, hl, ws, hl2 with | [_, _], _, [], _ => rfl
theorem sgs_l_names (T : Txt K mg) {fd : FuncData} (F : FunD K "_law_names" "_law_names" (defArgs s_l_names) (defBody s_l_names) (defScope s_l_names) [] [] (He.ga K "_law_names") fd) : ∀ s ∈ sg_l_names, Sig (gs K) fd ["_law_bag_here", "_law_many"] s.1 s.2.1 s.2.2 := fun s hs => match s, hs with
  | _, .head _ => sig_all (g := gs K) (js := [0, 1]) F rfl fun _ _ _ _ _ _ us ws hl hl2 => match us, hl, ws, hl2 with | [_, _], _, [], _ => rfl
theorem sgs_l_word (T : Txt K mg) {fd : FuncData} (F : FunD K "_law_word" "_law_word" (defArgs s_l_word) (defBody s_l_word) (defScope s_l_word) [] [] (He.ga K "_law_word") fd) : ∀ s ∈ sg_l_word, Sig (gs K) fd ["_law_bag_here"] s.1 s.2.1 s.2.2 := fun s hs => match s, hs with
  | _, .head _ => sig_all (g := gs K) (js := [0]) F rfl fun _ _ _ _ _ _ us ws hl hl2 => match us, hl, ws, hl2 with | [_], _, [], _ => rfl
theorem sgs_l_value (T : Txt K mg) {fd : FuncData} (F : FunD K "_law_value" "_law_value" (defArgs s_l_value) (defBody s_l_value) (defScope s_l_value) [] [] (He.ga K "_law_value") fd) : ∀ s ∈ sg_l_value, Sig (gs K) fd ["_law_bag_here", "_law_kind"] s.1 s.2.1 s.2.2 := fun s hs => match s, hs with
  | _, .head _ => sig_all (g := gs K) (js := [0, 1]) F rfl fun _ _ _ _ _ _ us ws hl hl2 => match us, hl, ws, hl2 with | [_, _], _, [], _ => rfl
theorem sgs_l_form (T : Txt K mg) {fd : FuncData} (F : FunD K "_law_form" "_law_form" (defArgs s_l_form) (defBody s_l_form) (defScope s_l_form) [] [] (He.ga K "_law_form") fd) : ∀ s ∈ sg_l_form, Sig (gs K) fd ["_law_bag_here"] s.1 s.2.1 s.2.2 := fun s hs => match s, hs with
  | _, .head _ => sig_all (g := gs K) (js := [0]) F rfl fun _ _ _ _ _ _ us ws hl hl2 => match us, hl, ws, hl2 with | [_], _, [], _ => rfl
theorem sgs_l_row (T : Txt K mg) {fd : FuncData} (F : FunD K "_law_row" "_law_row" (defArgs s_l_row) (defBody s_l_row) (defScope s_l_row) [] [] (He.ga K "_law_row") fd) : ∀ s ∈ sg_l_row, Sig (gs K) fd ["_law_bag_here", "_law_form_here"] s.1 s.2.1 s.2.2 := fun s hs => match s, hs with
  | _, .head _ => sig_all (g := gs K) (js := [0, 1]) F rfl fun _ _ _ _ _ _ us ws hl hl2 => match us, hl, ws, hl2 with | [_, _], _, [], _ => rfl
theorem sgs_l_heap_put (T : Txt K mg) {fd : FuncData} (F : FunD K "_law_heap_put" "_law_heap_put" (defArgs s_l_heap_put) (defBody s_l_heap_put) (defScope s_l_heap_put) [] [] (He.ga K "_law_heap_put") fd) : ∀ s ∈ sg_l_heap_put, Sig (gs K) fd ["_law_pages", "_law_cap", "_law_number"] s.1 s.2.1 s.2.2 := fun s hs => match s, hs with
  | _, .head _ => sig_all (g := gs K) (js := [0, 1, 2]) F rfl fun _ _ _ _ _ _ us ws hl hl2 => match us, hl, ws, hl2 with | [_, _, _], _, [], _ => rfl
theorem sgs_l_heap_drop (T : Txt K mg) {fd : FuncData} (F : FunD K "_law_heap_drop" "_law_heap_drop" (defArgs s_l_heap_drop) (defBody s_l_heap_drop) (defScope s_l_heap_drop) [] [] (He.ga K "_law_heap_drop") fd) : ∀ s ∈ sg_l_heap_drop, Sig (gs K) fd ["_law_pages", "_law_number"] s.1 s.2.1 s.2.2 := fun s hs => match s, hs with
  | _, .head _ => sig_all (g := gs K) (js := [0, 1]) F rfl fun _ _ _ _ _ _ us ws hl hl2 => match us, hl, ws, hl2 with | [_, _], _, [], _ => rfl
theorem sgs_l_same (T : Txt K mg) {fd : FuncData} (F : FunD K "_law_same" "_law_same" (defArgs s_l_same) (defBody s_l_same) (defScope s_l_same) [] [] (He.ga K "_law_same") fd) : ∀ s ∈ sg_l_same, Sig (gs K) fd ["_law_store", "_law_stock", "_law_pages"] s.1 s.2.1 s.2.2 := fun s hs => match s, hs with
  | _, .head _ => sig_all (g := gs K) (js := [0, 1, 2]) F rfl fun _ _ _ _ _ _ us ws hl hl2 => match us, hl, ws, hl2 with | [_, _, _], _, [], _ => rfl
theorem sgs_l_edit (T : Txt K mg) {fd : FuncData} (F : FunD K "_law_edit" "_law_edit" (defArgs s_l_edit) (defBody s_l_edit) (defScope s_l_edit) [] [] (He.ga K "_law_edit") fd) : ∀ s ∈ sg_l_edit, Sig (gs K) fd ["_law_bag_here", "_law_form_here", "_law_stock", "_law_last"] s.1 s.2.1 s.2.2 := fun s hs => match s, hs with
  | _, .head _ => sig_all (g := gs K) (js := [0, 1, 2, 3]) F rfl fun _ _ _ _ _ _ us ws hl hl2 => match us, hl, ws, hl2 with | [_, _, _, _], _, [], _ => rfl
theorem sgs_l_changed (T : Txt K mg) {fd : FuncData} (F : FunD K "_law_changed" "_law_changed" (defArgs s_l_changed) (defBody s_l_changed) (defScope s_l_changed) [] [] (He.ga K "_law_changed") fd) : ∀ s ∈ sg_l_changed, Sig (gs K) fd ["_law_form_here", "_law_row_here", "_law_column", "_law_value_here"] s.1 s.2.1 s.2.2 := fun s hs => match s, hs with
  | _, .head _ => sig_all (g := gs K) (js := [0, 1, 2, 3]) F rfl fun _ _ _ _ _ _ us ws hl hl2 => match us, hl, ws, hl2 with | [_, _, _, _], _, [], _ => rfl
theorem sgs_l_like (T : Txt K mg) {fd : FuncData} (F : FunD K "_law_like" "_law_like" (defArgs s_l_like) (defBody s_l_like) (defScope s_l_like) [] [] (He.ga K "_law_like") fd) : ∀ s ∈ sg_l_like, Sig (gs K) fd ["_law_told", "_law_due"] s.1 s.2.1 s.2.2 := fun s hs => match s, hs with
  | _, .head _ => sig_all (g := gs K) (js := [0, 1]) F rfl fun _ _ _ _ _ _ us ws hl hl2 => match us, hl, ws, hl2 with | [_, _], _, [], _ => rfl
theorem sgs_law (T : Txt K mg) {fd : FuncData} (F : FunD K "law" "law" (defArgs s_law) (defBody s_law) (defScope s_law) [] [] (He.ga K "law") fd) : ∀ s ∈ sg_law, Sig (gs K) fd ["_law_script"] s.1 s.2.1 s.2.2 := fun s hs => match s, hs with
  | _, .head _ => sig_all (g := gs K) (js := [0]) F rfl fun _ _ _ _ _ _ us ws hl hl2 => match us, hl, ws, hl2 with | [_], _, [], _ => rfl
structure All (P : Program) (w : World) (K : PySem.W.Frag) (mg : Str → Option Value) (base : Heap) (k : Nat) : Prop where
  f_is_whole : Fo (gs K) P w K mg base (callN Tb k) (2 * k + 2) (He.ga K "is_whole") 0 sg_is_whole
  f_is_word : Fo (gs K) P w K mg base (callN Tb k) (2 * k + 2) (He.ga K "is_word") 1 sg_is_word
  f_is_one_of : Fo (gs K) P w K mg base (callN Tb k) (2 * k + 2) (He.ga K "is_one_of") 2 sg_is_one_of
  f_is_tuple_of : Fo (gs K) P w K mg base (callN Tb k) (2 * k + 2) (He.ga K "is_tuple_of") 3 sg_is_tuple_of
  f_is_value : Fo (gs K) P w K mg base (callN Tb k) (2 * k + 2) (He.ga K "is_value") 4 sg_is_value
  f_is_column : Fo (gs K) P w K mg base (callN Tb k) (2 * k + 2) (He.ga K "is_column") 5 sg_is_column
  f_is_form : Fo (gs K) P w K mg base (callN Tb k) (2 * k + 2) (He.ga K "is_form") 6 sg_is_form
  f_is_row : Fo (gs K) P w K mg base (callN Tb k) (2 * k + 2) (He.ga K "is_row") 7 sg_is_row
  f_names_of : Fo (gs K) P w K mg base (callN Tb k) (2 * k + 2) (He.ga K "names_of") 8 sg_names_of
  f_are_columns : Fo (gs K) P w K mg base (callN Tb k) (2 * k + 2) (He.ga K "are_columns") 9 sg_are_columns
  f_number_of : Fo (gs K) P w K mg base (callN Tb k) (2 * k + 2) (He.ga K "number_of") 10 sg_number_of
  f_mark : Fo (gs K) P w K mg base (callN Tb k) (2 * k + 2) (He.ga K "mark") 11 sg_mark
  f_value_of : Fo (gs K) P w K mg base (callN Tb k) (2 * k + 2) (He.ga K "value_of") 12 sg_value_of
  f_values_of : Fo (gs K) P w K mg base (callN Tb k) (2 * k + 2) (He.ga K "values_of") 13 sg_values_of
  f_Buckets_init : Fo (gs K) P w K mg base (callN Tb k) (2 * k + 2) (He.ma K (He.ga K "Buckets") "__init__") 14 sg_Buckets_init
  f_Buckets_bucket_of : Fo (gs K) P w K mg base (callN Tb k) (2 * k + 2) (He.ma K (He.ga K "Buckets") "bucket_of") 15 sg_Buckets_bucket_of
  f_Buckets_put : Fo (gs K) P w K mg base (callN Tb k) (2 * k + 2) (He.ma K (He.ga K "Buckets") "put") 16 sg_Buckets_put
  f_Buckets_drop : Fo (gs K) P w K mg base (callN Tb k) (2 * k + 2) (He.ma K (He.ga K "Buckets") "drop") 17 sg_Buckets_drop
  f_Buckets_pages : Fo (gs K) P w K mg base (callN Tb k) (2 * k + 2) (He.ma K (He.ga K "Buckets") "pages") 18 sg_Buckets_pages
  f_groups : Fo (gs K) P w K mg base (callN Tb k) (2 * k + 2) (He.ga K "groups") 19 sg_groups
  f_levels_of : Fo (gs K) P w K mg base (callN Tb k) (2 * k + 2) (He.ga K "levels_of") 20 sg_levels_of
  f_pages_of : Fo (gs K) P w K mg base (callN Tb k) (2 * k + 2) (He.ga K "pages_of") 21 sg_pages_of
  f_Run_init : Fo (gs K) P w K mg base (callN Tb k) (2 * k + 2) (He.ma K (He.ga K "Run") "__init__") 22 sg_Run_init
  f_Run_levels : Fo (gs K) P w K mg base (callN Tb k) (2 * k + 2) (He.ma K (He.ga K "Run") "levels") 23 sg_Run_levels
  f_Run_pages : Fo (gs K) P w K mg base (callN Tb k) (2 * k + 2) (He.ma K (He.ga K "Run") "pages") 24 sg_Run_pages
  f_Run_place_of : Fo (gs K) P w K mg base (callN Tb k) (2 * k + 2) (He.ma K (He.ga K "Run") "place_of") 25 sg_Run_place_of
  f_Run_put : Fo (gs K) P w K mg base (callN Tb k) (2 * k + 2) (He.ma K (He.ga K "Run") "put") 26 sg_Run_put
  f_Run_drop : Fo (gs K) P w K mg base (callN Tb k) (2 * k + 2) (He.ma K (He.ga K "Run") "drop") 27 sg_Run_drop
  f_look_store : Fo (gs K) P w K mg base (callN Tb k) (2 * k + 2) (He.ga K "look_store") 28 sg_look_store
  f_Heap_init : Fo (gs K) P w K mg base (callN Tb k) (2 * k + 2) (He.ma K (He.ga K "Heap") "__init__") 29 sg_Heap_init
  f_Heap_put : Fo (gs K) P w K mg base (callN Tb k) (2 * k + 2) (He.ma K (He.ga K "Heap") "put") 30 sg_Heap_put
  f_Heap_drop : Fo (gs K) P w K mg base (callN Tb k) (2 * k + 2) (He.ma K (He.ga K "Heap") "drop") 31 sg_Heap_drop
  f_Store_init : Fo (gs K) P w K mg base (callN Tb k) (2 * k + 2) (He.ma K (He.ga K "Store") "__init__") 32 sg_Store_init
  f_Store_put_thing : Fo (gs K) P w K mg base (callN Tb k) (2 * k + 2) (He.ma K (He.ga K "Store") "put_thing") 33 sg_Store_put_thing
  f_Store_drop_thing : Fo (gs K) P w K mg base (callN Tb k) (2 * k + 2) (He.ma K (He.ga K "Store") "drop_thing") 34 sg_Store_drop_thing
  f_Store_thing_of : Fo (gs K) P w K mg base (callN Tb k) (2 * k + 2) (He.ma K (He.ga K "Store") "thing_of") 35 sg_Store_thing_of
  f_Store_row : Fo (gs K) P w K mg base (callN Tb k) (2 * k + 2) (He.ma K (He.ga K "Store") "row") 36 sg_Store_row
  f_Store_put : Fo (gs K) P w K mg base (callN Tb k) (2 * k + 2) (He.ma K (He.ga K "Store") "put") 37 sg_Store_put
  f_Store_put_row : Fo (gs K) P w K mg base (callN Tb k) (2 * k + 2) (He.ma K (He.ga K "Store") "put_row") 38 sg_Store_put_row
  f_Store_drop : Fo (gs K) P w K mg base (callN Tb k) (2 * k + 2) (He.ma K (He.ga K "Store") "drop") 39 sg_Store_drop
  f_Store_change : Fo (gs K) P w K mg base (callN Tb k) (2 * k + 2) (He.ma K (He.ga K "Store") "change") 40 sg_Store_change
  f_Store_pages : Fo (gs K) P w K mg base (callN Tb k) (2 * k + 2) (He.ma K (He.ga K "Store") "pages") 41 sg_Store_pages
  f_Store_all_rows : Fo (gs K) P w K mg base (callN Tb k) (2 * k + 2) (He.ma K (He.ga K "Store") "all_rows") 42 sg_Store_all_rows
  f_Shape_init : Fo (gs K) P w K mg base (callN Tb k) (2 * k + 2) (He.ma K (He.ga K "Shape") "__init__") 43 sg_Shape_init
  f_l_bag : Fo (gs K) P w K mg base (callN Tb k) (2 * k + 2) (He.ga K "_law_bag") 44 sg_l_bag
  f_l_take : Fo (gs K) P w K mg base (callN Tb k) (2 * k + 2) (He.ga K "_law_take") 45 sg_l_take
  f_l_names : Fo (gs K) P w K mg base (callN Tb k) (2 * k + 2) (He.ga K "_law_names") 46 sg_l_names
  f_l_word : Fo (gs K) P w K mg base (callN Tb k) (2 * k + 2) (He.ga K "_law_word") 47 sg_l_word
  f_l_value : Fo (gs K) P w K mg base (callN Tb k) (2 * k + 2) (He.ga K "_law_value") 48 sg_l_value
  f_l_form : Fo (gs K) P w K mg base (callN Tb k) (2 * k + 2) (He.ga K "_law_form") 49 sg_l_form
  f_l_row : Fo (gs K) P w K mg base (callN Tb k) (2 * k + 2) (He.ga K "_law_row") 50 sg_l_row
  f_l_heap_put : Fo (gs K) P w K mg base (callN Tb k) (2 * k + 2) (He.ga K "_law_heap_put") 51 sg_l_heap_put
  f_l_heap_drop : Fo (gs K) P w K mg base (callN Tb k) (2 * k + 2) (He.ga K "_law_heap_drop") 52 sg_l_heap_drop
  f_l_same : Fo (gs K) P w K mg base (callN Tb k) (2 * k + 2) (He.ga K "_law_same") 53 sg_l_same
  f_l_edit : Fo (gs K) P w K mg base (callN Tb k) (2 * k + 2) (He.ga K "_law_edit") 54 sg_l_edit
  f_l_changed : Fo (gs K) P w K mg base (callN Tb k) (2 * k + 2) (He.ga K "_law_changed") 55 sg_l_changed
  f_l_like : Fo (gs K) P w K mg base (callN Tb k) (2 * k + 2) (He.ga K "_law_like") 56 sg_l_like
  f_law : Fo (gs K) P w K mg base (callN Tb k) (2 * k + 2) (He.ga K "law") 57 sg_law
theorem b_is_whole (T : Txt K mg) {k : Nat} (A : All P w K mg base k) {cdv : Value} {C : Around} {outer : List PySem.Env} {s : Shared} {H : Hp} {E : XK} (hr : Room (2 * k + 3) (C.deeper (envOfC "is_whole" (defScope s_is_whole) s.heap.objs.size (He.ga K "is_whole") cdv))) :
    PSs (cxOf (L2.CX P w) P w K mg base ["thing", "low", "high"] "is_whole" (defScope s_is_whole) (He.ga K "is_whole") cdv C outer s H E) (defBody s_is_whole) (tS (gs K) (fun c d _ H => E c d H) (exs (callN Tb k) p_is_whole)) := by
  have tk : Takes (cxOf (L2.CX P w) P w K mg base ["thing", "low", "high"] "is_whole" (defScope s_is_whole) (He.ga K "is_whole") cdv C outer s H E) (fun c d _ H => E c d H) := takes_of rfl rfl rfl rfl
  have pp : PassesOwn (model (cxOf (L2.CX P w) P w K mg base ["thing", "low", "high"] "is_whole" (defScope s_is_whole) (He.ga K "is_whole") cdv C outer s H E).prog (cxOf (L2.CX P w) P w K mg base ["thing", "low", "high"] "is_whole" (defScope s_is_whole) (He.ga K "is_whole") cdv C outer s H E).w) (cxOf (L2.CX P w) P w K mg base ["thing", "low", "high"] "is_whole" (defScope s_is_whole) (He.ga K "is_whole") cdv C outer s H E).A (cxOf (L2.CX P w) P w K mg base ["thing", "low", "high"] "is_whole" (defScope s_is_whole) (He.ga K "is_whole") cdv C outer s H E).env (cxOf (L2.CX P w) P w K mg base ["thing", "low", "high"] "is_whole" (defScope s_is_whole) (He.ga K "is_whole") cdv C outer s H E).xe := passes_of rfl
  exact (s_cons (s_ret (i_and rfl (j_bi (.isi) hr T.n_isinstance (a_cons rfl j_var (a_cons rfl (c_gT (n := "int") T.n_int (by decide +kernel)) a_nil))) (i_and rfl (i_not rfl (j_bi (.isi) hr T.n_isinstance (a_cons rfl j_var (a_cons rfl (c_gT (n := "bool") T.n_bool (by decide +kernel)) a_nil)))) (pe_one (i_chain (op := .le) (op' := .le) rfl hr rfl j_var j_var j_var)))))
    s_nil)
theorem b_is_word (T : Txt K mg) {k : Nat} (A : All P w K mg base k) {cdv : Value} {C : Around} {outer : List PySem.Env} {s : Shared} {H : Hp} {E : XK} (hr : Room (2 * k + 3) (C.deeper (envOfC "is_word" (defScope s_is_word) s.heap.objs.size (He.ga K "is_word") cdv))) :
    PSs (cxOf (L2.CX P w) P w K mg base ["thing", "sign"] "is_word" (defScope s_is_word) (He.ga K "is_word") cdv C outer s H E) (defBody s_is_word) (tS (gs K) (fun c d _ H => E c d H) (exs (callN Tb k) p_is_word)) := by
  have tk : Takes (cxOf (L2.CX P w) P w K mg base ["thing", "sign"] "is_word" (defScope s_is_word) (He.ga K "is_word") cdv C outer s H E) (fun c d _ H => E c d H) := takes_of rfl rfl rfl rfl
  have pp : PassesOwn (model (cxOf (L2.CX P w) P w K mg base ["thing", "sign"] "is_word" (defScope s_is_word) (He.ga K "is_word") cdv C outer s H E).prog (cxOf (L2.CX P w) P w K mg base ["thing", "sign"] "is_word" (defScope s_is_word) (He.ga K "is_word") cdv C outer s H E).w) (cxOf (L2.CX P w) P w K mg base ["thing", "sign"] "is_word" (defScope s_is_word) (He.ga K "is_word") cdv C outer s H E).A (cxOf (L2.CX P w) P w K mg base ["thing", "sign"] "is_word" (defScope s_is_word) (He.ga K "is_word") cdv C outer s H E).env (cxOf (L2.CX P w) P w K mg base ["thing", "sign"] "is_word" (defScope s_is_word) (He.ga K "is_word") cdv C outer s H E).xe := passes_of rfl
  exact (s_cons (s_ite (PW.pt (w_or (t_not (t_val rfl rfl (j_bi (.isi) hr T.n_isinstance (a_cons rfl j_var (a_cons rfl (c_gT (n := "str") T.n_str (by decide +kernel)) a_nil))))) (pw_or1 (t_not (t_chain (op := .le) (op' := .le) rfl hr rfl c_int (j_bi (.len) hr T.n_len (a_cons rfl j_var a_nil)) (c_gI T.g_MOST_LETTERS))))))
      (s_cons (s_ret c_bl)
    s_nil)
      s_nil)
    (s_cons (s_ret (j_bi (.all) hr T.n_all (a_cons rfl (i_lc (own := [("sign", 1)]) rfl sc_is_word.nd rfl (w_e rfl j_var) (blkOk_by (by kernel_rfl)) (fun _ _ _ _ _ => (j_g sc_is_word.nd)) (fun _ _ _ _ _ => ifs_nil) (fun _ _ _ _ _ => (i_cmp (op := .isIn) rfl hr rfl j_var (c_gS T.g_LETTERS (okS_of (by decide +kernel)))))) a_nil)))
    s_nil))
theorem b_is_one_of (T : Txt K mg) {k : Nat} (A : All P w K mg base k) {cdv : Value} {C : Around} {outer : List PySem.Env} {s : Shared} {H : Hp} {E : XK} (hr : Room (2 * k + 3) (C.deeper (envOfC "is_one_of" (defScope s_is_one_of) s.heap.objs.size (He.ga K "is_one_of") cdv))) :
    PSs (cxOf (L2.CX P w) P w K mg base ["thing", "texts"] "is_one_of" (defScope s_is_one_of) (He.ga K "is_one_of") cdv C outer s H E) (defBody s_is_one_of) (tS (gs K) (fun c d _ H => E c d H) (exs (callN Tb k) p_is_one_of)) := by
  have tk : Takes (cxOf (L2.CX P w) P w K mg base ["thing", "texts"] "is_one_of" (defScope s_is_one_of) (He.ga K "is_one_of") cdv C outer s H E) (fun c d _ H => E c d H) := takes_of rfl rfl rfl rfl
  have pp : PassesOwn (model (cxOf (L2.CX P w) P w K mg base ["thing", "texts"] "is_one_of" (defScope s_is_one_of) (He.ga K "is_one_of") cdv C outer s H E).prog (cxOf (L2.CX P w) P w K mg base ["thing", "texts"] "is_one_of" (defScope s_is_one_of) (He.ga K "is_one_of") cdv C outer s H E).w) (cxOf (L2.CX P w) P w K mg base ["thing", "texts"] "is_one_of" (defScope s_is_one_of) (He.ga K "is_one_of") cdv C outer s H E).A (cxOf (L2.CX P w) P w K mg base ["thing", "texts"] "is_one_of" (defScope s_is_one_of) (He.ga K "is_one_of") cdv C outer s H E).env (cxOf (L2.CX P w) P w K mg base ["thing", "texts"] "is_one_of" (defScope s_is_one_of) (He.ga K "is_one_of") cdv C outer s H E).xe := passes_of rfl
  exact (s_cons (s_ret (i_and rfl (j_bi (.isi) hr T.n_isinstance (a_cons rfl j_var (a_cons rfl (c_gT (n := "str") T.n_str (by decide +kernel)) a_nil))) (pe_one (i_cmp (op := .isIn) rfl hr rfl j_var j_var))))
    s_nil)
theorem b_is_tuple_of (T : Txt K mg) {k : Nat} (A : All P w K mg base k) {cdv : Value} {C : Around} {outer : List PySem.Env} {s : Shared} {H : Hp} {E : XK} (hr : Room (2 * k + 3) (C.deeper (envOfC "is_tuple_of" (defScope s_is_tuple_of) s.heap.objs.size (He.ga K "is_tuple_of") cdv))) :
    PSs (cxOf (L2.CX P w) P w K mg base ["thing", "least", "most"] "is_tuple_of" (defScope s_is_tuple_of) (He.ga K "is_tuple_of") cdv C outer s H E) (defBody s_is_tuple_of) (tS (gs K) (fun c d _ H => E c d H) (exs (callN Tb k) p_is_tuple_of)) := by
  have tk : Takes (cxOf (L2.CX P w) P w K mg base ["thing", "least", "most"] "is_tuple_of" (defScope s_is_tuple_of) (He.ga K "is_tuple_of") cdv C outer s H E) (fun c d _ H => E c d H) := takes_of rfl rfl rfl rfl
  have pp : PassesOwn (model (cxOf (L2.CX P w) P w K mg base ["thing", "least", "most"] "is_tuple_of" (defScope s_is_tuple_of) (He.ga K "is_tuple_of") cdv C outer s H E).prog (cxOf (L2.CX P w) P w K mg base ["thing", "least", "most"] "is_tuple_of" (defScope s_is_tuple_of) (He.ga K "is_tuple_of") cdv C outer s H E).w) (cxOf (L2.CX P w) P w K mg base ["thing", "least", "most"] "is_tuple_of" (defScope s_is_tuple_of) (He.ga K "is_tuple_of") cdv C outer s H E).A (cxOf (L2.CX P w) P w K mg base ["thing", "least", "most"] "is_tuple_of" (defScope s_is_tuple_of) (He.ga K "is_tuple_of") cdv C outer s H E).env (cxOf (L2.CX P w) P w K mg base ["thing", "least", "most"] "is_tuple_of" (defScope s_is_tuple_of) (He.ga K "is_tuple_of") cdv C outer s H E).xe := passes_of rfl
  exact (s_cons (s_ret (i_and rfl (j_bi (.isi) hr T.n_isinstance (a_cons rfl j_var (a_cons rfl (c_gT (n := "tuple") T.n_tuple (by decide +kernel)) a_nil))) (pe_one (i_chain (op := .le) (op' := .le) rfl hr rfl j_var (j_bi (.len) hr T.n_len (a_cons rfl j_var a_nil)) j_var))))
    s_nil)
theorem b_is_value (T : Txt K mg) {k : Nat} (A : All P w K mg base k) {cdv : Value} {C : Around} {outer : List PySem.Env} {s : Shared} {H : Hp} {E : XK} (hr : Room (2 * k + 3) (C.deeper (envOfC "is_value" (defScope s_is_value) s.heap.objs.size (He.ga K "is_value") cdv))) :
    PSs (cxOf (L2.CX P w) P w K mg base ["kind", "thing"] "is_value" (defScope s_is_value) (He.ga K "is_value") cdv C outer s H E) (defBody s_is_value) (tS (gs K) (fun c d _ H => E c d H) (exs (callN Tb k) p_is_value)) := by
  have tk : Takes (cxOf (L2.CX P w) P w K mg base ["kind", "thing"] "is_value" (defScope s_is_value) (He.ga K "is_value") cdv C outer s H E) (fun c d _ H => E c d H) := takes_of rfl rfl rfl rfl
  have pp : PassesOwn (model (cxOf (L2.CX P w) P w K mg base ["kind", "thing"] "is_value" (defScope s_is_value) (He.ga K "is_value") cdv C outer s H E).prog (cxOf (L2.CX P w) P w K mg base ["kind", "thing"] "is_value" (defScope s_is_value) (He.ga K "is_value") cdv C outer s H E).w) (cxOf (L2.CX P w) P w K mg base ["kind", "thing"] "is_value" (defScope s_is_value) (He.ga K "is_value") cdv C outer s H E).A (cxOf (L2.CX P w) P w K mg base ["kind", "thing"] "is_value" (defScope s_is_value) (He.ga K "is_value") cdv C outer s H E).env (cxOf (L2.CX P w) P w K mg base ["kind", "thing"] "is_value" (defScope s_is_value) (He.ga K "is_value") cdv C outer s H E).xe := passes_of rfl
  exact (s_cons (s_ret (i_ife (t_cmp (op := .eq) rfl hr rfl j_var (c_str (okS_of (by decide +kernel)))) (j_call (ies := [(.var 1)]) (iks := []) (ks := []) (arr := [.a 0, .d (.int (-999)), .d (.int (999))]) A.f_is_whole T.m_is_whole tk hr _ rfl (a_cons rfl j_var a_nil) k_nil (.head _)) (j_call (ies := [(.var 1)]) (iks := []) (ks := []) (arr := [.a 0]) A.f_is_word T.m_is_word tk hr _ rfl (a_cons rfl j_var a_nil) k_nil (.head _))))
    s_nil)
theorem b_is_column (T : Txt K mg) {k : Nat} (A : All P w K mg base k) {cdv : Value} {C : Around} {outer : List PySem.Env} {s : Shared} {H : Hp} {E : XK} (hr : Room (2 * k + 3) (C.deeper (envOfC "is_column" (defScope s_is_column) s.heap.objs.size (He.ga K "is_column") cdv))) :
    PSs (cxOf (L2.CX P w) P w K mg base ["thing"] "is_column" (defScope s_is_column) (He.ga K "is_column") cdv C outer s H E) (defBody s_is_column) (tS (gs K) (fun c d _ H => E c d H) (exs (callN Tb k) p_is_column)) := by
  have tk : Takes (cxOf (L2.CX P w) P w K mg base ["thing"] "is_column" (defScope s_is_column) (He.ga K "is_column") cdv C outer s H E) (fun c d _ H => E c d H) := takes_of rfl rfl rfl rfl
  have pp : PassesOwn (model (cxOf (L2.CX P w) P w K mg base ["thing"] "is_column" (defScope s_is_column) (He.ga K "is_column") cdv C outer s H E).prog (cxOf (L2.CX P w) P w K mg base ["thing"] "is_column" (defScope s_is_column) (He.ga K "is_column") cdv C outer s H E).w) (cxOf (L2.CX P w) P w K mg base ["thing"] "is_column" (defScope s_is_column) (He.ga K "is_column") cdv C outer s H E).A (cxOf (L2.CX P w) P w K mg base ["thing"] "is_column" (defScope s_is_column) (He.ga K "is_column") cdv C outer s H E).env (cxOf (L2.CX P w) P w K mg base ["thing"] "is_column" (defScope s_is_column) (He.ga K "is_column") cdv C outer s H E).xe := passes_of rfl
  exact (s_cons (s_ret (i_and rfl (j_call (ies := [(.var 0), (.con (.int 2)), (.con (.int 2))]) (iks := []) (ks := []) (arr := [.a 0, .a 1, .a 2]) A.f_is_tuple_of T.m_is_tuple_of tk hr _ rfl (a_cons rfl j_var (a_cons rfl c_int (a_cons rfl c_int a_nil))) k_nil (.head _)) (i_and rfl (j_call (ies := [(.idx (.var 0) (.con (.int 0)))]) (iks := []) (ks := []) (arr := [.a 0]) A.f_is_word T.m_is_word tk hr _ rfl (a_cons rfl (i_idx rfl rfl j_var c_int) a_nil) k_nil (.head _)) (pe_one (j_call (ies := [(.idx (.var 0) (.con (.int 1))), (.con (.tup [.str "number", .str "word"]))]) (iks := []) (ks := []) (arr := [.a 0, .a 1]) A.f_is_one_of T.m_is_one_of tk hr _ rfl (a_cons rfl (i_idx rfl rfl j_var c_int) (a_cons rfl (c_gU T.m_KINDS T.t_KINDS (relsC_s (okS_of (by decide +kernel)) (relsC_s (okS_of (by decide +kernel)) relsC_n))) a_nil)) k_nil (.head _))))))
    s_nil)
theorem b_is_form (T : Txt K mg) {k : Nat} (A : All P w K mg base k) {cdv : Value} {C : Around} {outer : List PySem.Env} {s : Shared} {H : Hp} {E : XK} (hr : Room (2 * k + 3) (C.deeper (envOfC "is_form" (defScope s_is_form) s.heap.objs.size (He.ga K "is_form") cdv))) :
    PSs (cxOf (L2.CX P w) P w K mg base ["thing", "column", "name", "kind"] "is_form" (defScope s_is_form) (He.ga K "is_form") cdv C outer s H E) (defBody s_is_form) (tS (gs K) (fun c d _ H => E c d H) (exs (callN Tb k) p_is_form)) := by
  have tk : Takes (cxOf (L2.CX P w) P w K mg base ["thing", "column", "name", "kind"] "is_form" (defScope s_is_form) (He.ga K "is_form") cdv C outer s H E) (fun c d _ H => E c d H) := takes_of rfl rfl rfl rfl
  have pp : PassesOwn (model (cxOf (L2.CX P w) P w K mg base ["thing", "column", "name", "kind"] "is_form" (defScope s_is_form) (He.ga K "is_form") cdv C outer s H E).prog (cxOf (L2.CX P w) P w K mg base ["thing", "column", "name", "kind"] "is_form" (defScope s_is_form) (He.ga K "is_form") cdv C outer s H E).w) (cxOf (L2.CX P w) P w K mg base ["thing", "column", "name", "kind"] "is_form" (defScope s_is_form) (He.ga K "is_form") cdv C outer s H E).A (cxOf (L2.CX P w) P w K mg base ["thing", "column", "name", "kind"] "is_form" (defScope s_is_form) (He.ga K "is_form") cdv C outer s H E).env (cxOf (L2.CX P w) P w K mg base ["thing", "column", "name", "kind"] "is_form" (defScope s_is_form) (He.ga K "is_form") cdv C outer s H E).xe := passes_of rfl
  exact (s_cons (s_ite (PW.pt (w_or (t_not (t_val rfl rfl (j_call (ies := [(.var 0), (.con (.int 1)), (.con (.int 6))]) (iks := []) (ks := []) (arr := [.a 0, .a 1, .a 2]) A.f_is_tuple_of T.m_is_tuple_of tk hr _ rfl (a_cons rfl j_var (a_cons rfl c_int (a_cons rfl (c_gI T.g_MOST_COLUMNS) a_nil))) k_nil (.head _)))) (pw_or1 (t_not (t_val rfl rfl (j_bi (.all) hr T.n_all (a_cons rfl (i_lc (own := [("column", 1)]) rfl sc_is_form.nd rfl (w_e rfl j_var) (blkOk_by (by kernel_rfl)) (fun _ _ _ _ _ => (j_g sc_is_form.nd)) (fun _ _ _ _ _ => ifs_nil) (fun _ _ _ _ _ => (j_call (ies := [(.var 1)]) (iks := []) (ks := []) (arr := [.a 0]) A.f_is_column T.m_is_column takes0 hr _ rfl (a_cons rfl j_var a_nil) k_nil (.head _)))) a_nil)))))))
      (s_cons (s_ret c_bl)
    s_nil)
      s_nil)
    (s_cons (s_ret (i_cmp (op := .eq) rfl hr rfl (i_lenSC (own := [("name", 2), ("kind", 3)]) (by rfl) T.n_len rfl sc_is_form.nd rfl (w_e rfl j_var) (blkOk_by (by kernel_rfl)) (fun _ _ _ _ _ => (g_tup rfl rfl rfl rfl (gs_cons rfl (j_g sc_is_form.nd) (gs_cons rfl (j_g sc_is_form.nd) gs_nil)))) (fun _ _ _ _ _ => ifs_nil) (fun _ _ _ _ _ => j_var)) (j_bi (.len) hr T.n_len (a_cons rfl j_var a_nil))))
    s_nil))
theorem b_is_row (T : Txt K mg) {k : Nat} (A : All P w K mg base k) {cdv : Value} {C : Around} {outer : List PySem.Env} {s : Shared} {H : Hp} {E : XK} (hr : Room (2 * k + 3) (C.deeper (envOfC "is_row" (defScope s_is_row) s.heap.objs.size (He.ga K "is_row") cdv))) :
    PSs (cxOf (L2.CX P w) P w K mg base ["form", "thing", "name", "kind", "value"] "is_row" (defScope s_is_row) (He.ga K "is_row") cdv C outer s H E) (defBody s_is_row) (tS (gs K) (fun c d _ H => E c d H) (exs (callN Tb k) p_is_row)) := by
  have tk : Takes (cxOf (L2.CX P w) P w K mg base ["form", "thing", "name", "kind", "value"] "is_row" (defScope s_is_row) (He.ga K "is_row") cdv C outer s H E) (fun c d _ H => E c d H) := takes_of rfl rfl rfl rfl
  have pp : PassesOwn (model (cxOf (L2.CX P w) P w K mg base ["form", "thing", "name", "kind", "value"] "is_row" (defScope s_is_row) (He.ga K "is_row") cdv C outer s H E).prog (cxOf (L2.CX P w) P w K mg base ["form", "thing", "name", "kind", "value"] "is_row" (defScope s_is_row) (He.ga K "is_row") cdv C outer s H E).w) (cxOf (L2.CX P w) P w K mg base ["form", "thing", "name", "kind", "value"] "is_row" (defScope s_is_row) (He.ga K "is_row") cdv C outer s H E).A (cxOf (L2.CX P w) P w K mg base ["form", "thing", "name", "kind", "value"] "is_row" (defScope s_is_row) (He.ga K "is_row") cdv C outer s H E).env (cxOf (L2.CX P w) P w K mg base ["form", "thing", "name", "kind", "value"] "is_row" (defScope s_is_row) (He.ga K "is_row") cdv C outer s H E).xe := passes_of rfl
  exact (s_cons (s_ite (t_not (t_val rfl rfl (j_call (ies := [(.var 1), (.bi (.len) [(.var 0)]), (.bi (.len) [(.var 0)])]) (iks := []) (ks := []) (arr := [.a 0, .a 1, .a 2]) A.f_is_tuple_of T.m_is_tuple_of tk hr _ rfl (a_cons rfl j_var (a_cons rfl (j_bi (.len) hr T.n_len (a_cons rfl j_var a_nil)) (a_cons rfl (j_bi (.len) hr T.n_len (a_cons rfl j_var a_nil)) a_nil))) k_nil (.head _))))
      (s_cons (s_ret c_bl)
    s_nil)
      s_nil)
    (s_cons (s_ret (j_bi (.all) hr T.n_all (a_cons rfl (i_lc (own := [("name", 2), ("kind", 3), ("value", 4)]) rfl sc_is_row.nd rfl (w_zipS rfl T.n_zip rfl rfl (a_cons rfl j_var (a_cons rfl j_var a_nil)) (k_cons c_bl k_nil)) (blkOk_by (by kernel_rfl)) (fun _ _ _ _ _ => (g_tup rfl rfl rfl rfl (gs_cons rfl (g_tup rfl rfl rfl rfl (gs_cons rfl (j_g sc_is_row.nd) (gs_cons rfl (j_g sc_is_row.nd) gs_nil))) (gs_cons rfl (j_g sc_is_row.nd) gs_nil)))) (fun _ _ _ _ _ => ifs_nil) (fun _ _ _ _ _ => (j_call (ies := [(.var 3), (.var 4)]) (iks := []) (ks := []) (arr := [.a 0, .a 1]) A.f_is_value T.m_is_value takes0 hr _ rfl (a_cons rfl j_var (a_cons rfl j_var a_nil)) k_nil (.head _)))) a_nil)))
    s_nil))
theorem b_names_of (T : Txt K mg) {k : Nat} (A : All P w K mg base k) {cdv : Value} {C : Around} {outer : List PySem.Env} {s : Shared} {H : Hp} {E : XK} (hr : Room (2 * k + 3) (C.deeper (envOfC "names_of" (defScope s_names_of) s.heap.objs.size (He.ga K "names_of") cdv))) :
    PSs (cxOf (L2.CX P w) P w K mg base ["form", "name", "kind"] "names_of" (defScope s_names_of) (He.ga K "names_of") cdv C outer s H E) (defBody s_names_of) (tS (gs K) (fun c d _ H => E c d H) (exs (callN Tb k) p_names_of)) := by
  have tk : Takes (cxOf (L2.CX P w) P w K mg base ["form", "name", "kind"] "names_of" (defScope s_names_of) (He.ga K "names_of") cdv C outer s H E) (fun c d _ H => E c d H) := takes_of rfl rfl rfl rfl
  have pp : PassesOwn (model (cxOf (L2.CX P w) P w K mg base ["form", "name", "kind"] "names_of" (defScope s_names_of) (He.ga K "names_of") cdv C outer s H E).prog (cxOf (L2.CX P w) P w K mg base ["form", "name", "kind"] "names_of" (defScope s_names_of) (He.ga K "names_of") cdv C outer s H E).w) (cxOf (L2.CX P w) P w K mg base ["form", "name", "kind"] "names_of" (defScope s_names_of) (He.ga K "names_of") cdv C outer s H E).A (cxOf (L2.CX P w) P w K mg base ["form", "name", "kind"] "names_of" (defScope s_names_of) (He.ga K "names_of") cdv C outer s H E).env (cxOf (L2.CX P w) P w K mg base ["form", "name", "kind"] "names_of" (defScope s_names_of) (He.ga K "names_of") cdv C outer s H E).xe := passes_of rfl
  exact (s_cons (s_ret (i_ntup rfl T.n_tuple rfl (i_lc (own := [("name", 1), ("kind", 2)]) rfl sc_names_of.nd rfl (w_e rfl j_var) (blkOk_by (by kernel_rfl)) (fun _ _ _ _ _ => (g_tup rfl rfl rfl rfl (gs_cons rfl (j_g sc_names_of.nd) (gs_cons rfl (j_g sc_names_of.nd) gs_nil)))) (fun _ _ _ _ _ => ifs_nil) (fun _ _ _ _ _ => j_var))))
    s_nil)
theorem b_are_columns (T : Txt K mg) {k : Nat} (A : All P w K mg base k) {cdv : Value} {C : Around} {outer : List PySem.Env} {s : Shared} {H : Hp} {E : XK} (hr : Room (2 * k + 3) (C.deeper (envOfC "are_columns" (defScope s_are_columns) s.heap.objs.size (He.ga K "are_columns") cdv))) :
    PSs (cxOf (L2.CX P w) P w K mg base ["form", "thing", "least", "most", "name"] "are_columns" (defScope s_are_columns) (He.ga K "are_columns") cdv C outer s H E) (defBody s_are_columns) (tS (gs K) (fun c d _ H => E c d H) (exs (callN Tb k) p_are_columns)) := by
  have tk : Takes (cxOf (L2.CX P w) P w K mg base ["form", "thing", "least", "most", "name"] "are_columns" (defScope s_are_columns) (He.ga K "are_columns") cdv C outer s H E) (fun c d _ H => E c d H) := takes_of rfl rfl rfl rfl
  have pp : PassesOwn (model (cxOf (L2.CX P w) P w K mg base ["form", "thing", "least", "most", "name"] "are_columns" (defScope s_are_columns) (He.ga K "are_columns") cdv C outer s H E).prog (cxOf (L2.CX P w) P w K mg base ["form", "thing", "least", "most", "name"] "are_columns" (defScope s_are_columns) (He.ga K "are_columns") cdv C outer s H E).w) (cxOf (L2.CX P w) P w K mg base ["form", "thing", "least", "most", "name"] "are_columns" (defScope s_are_columns) (He.ga K "are_columns") cdv C outer s H E).A (cxOf (L2.CX P w) P w K mg base ["form", "thing", "least", "most", "name"] "are_columns" (defScope s_are_columns) (He.ga K "are_columns") cdv C outer s H E).env (cxOf (L2.CX P w) P w K mg base ["form", "thing", "least", "most", "name"] "are_columns" (defScope s_are_columns) (He.ga K "are_columns") cdv C outer s H E).xe := passes_of rfl
  exact (s_cons s_stuck (s_cons s_stuck s_nil))
theorem b_number_of (T : Txt K mg) {k : Nat} (A : All P w K mg base k) {cdv : Value} {C : Around} {outer : List PySem.Env} {s : Shared} {H : Hp} {E : XK} (hr : Room (2 * k + 3) (C.deeper (envOfC "number_of" (defScope s_number_of) s.heap.objs.size (He.ga K "number_of") cdv))) :
    PSs (cxOf (L2.CX P w) P w K mg base ["value", "number", "sign"] "number_of" (defScope s_number_of) (He.ga K "number_of") cdv C outer s H E) (defBody s_number_of) (tS (gs K) (fun c d _ H => E c d H) (exs (callN Tb k) p_number_of)) := by
  have tk : Takes (cxOf (L2.CX P w) P w K mg base ["value", "number", "sign"] "number_of" (defScope s_number_of) (He.ga K "number_of") cdv C outer s H E) (fun c d _ H => E c d H) := takes_of rfl rfl rfl rfl
  have pp : PassesOwn (model (cxOf (L2.CX P w) P w K mg base ["value", "number", "sign"] "number_of" (defScope s_number_of) (He.ga K "number_of") cdv C outer s H E).prog (cxOf (L2.CX P w) P w K mg base ["value", "number", "sign"] "number_of" (defScope s_number_of) (He.ga K "number_of") cdv C outer s H E).w) (cxOf (L2.CX P w) P w K mg base ["value", "number", "sign"] "number_of" (defScope s_number_of) (He.ga K "number_of") cdv C outer s H E).A (cxOf (L2.CX P w) P w K mg base ["value", "number", "sign"] "number_of" (defScope s_number_of) (He.ga K "number_of") cdv C outer s H E).env (cxOf (L2.CX P w) P w K mg base ["value", "number", "sign"] "number_of" (defScope s_number_of) (He.ga K "number_of") cdv C outer s H E).xe := passes_of rfl
  exact (s_cons s_stuck (s_cons s_stuck (s_cons s_stuck (s_cons s_stuck s_nil))))
theorem b_mark (T : Txt K mg) {k : Nat} (A : All P w K mg base k) {cdv : Value} {C : Around} {outer : List PySem.Env} {s : Shared} {H : Hp} {E : XK} (hr : Room (2 * k + 3) (C.deeper (envOfC "mark" (defScope s_mark) s.heap.objs.size (He.ga K "mark") cdv))) :
    PSs (cxOf (L2.CX P w) P w K mg base ["values", "found", "value"] "mark" (defScope s_mark) (He.ga K "mark") cdv C outer s H E) (defBody s_mark) (tS (gs K) (fun c d _ H => E c d H) (exs (callN Tb k) p_mark)) := by
  have tk : Takes (cxOf (L2.CX P w) P w K mg base ["values", "found", "value"] "mark" (defScope s_mark) (He.ga K "mark") cdv C outer s H E) (fun c d _ H => E c d H) := takes_of rfl rfl rfl rfl
  have pp : PassesOwn (model (cxOf (L2.CX P w) P w K mg base ["values", "found", "value"] "mark" (defScope s_mark) (He.ga K "mark") cdv C outer s H E).prog (cxOf (L2.CX P w) P w K mg base ["values", "found", "value"] "mark" (defScope s_mark) (He.ga K "mark") cdv C outer s H E).w) (cxOf (L2.CX P w) P w K mg base ["values", "found", "value"] "mark" (defScope s_mark) (He.ga K "mark") cdv C outer s H E).A (cxOf (L2.CX P w) P w K mg base ["values", "found", "value"] "mark" (defScope s_mark) (He.ga K "mark") cdv C outer s H E).env (cxOf (L2.CX P w) P w K mg base ["values", "found", "value"] "mark" (defScope s_mark) (He.ga K "mark") cdv C outer s H E).xe := passes_of rfl
  exact (s_cons s_stuck (s_cons s_stuck (s_cons s_stuck s_nil)))
theorem b_value_of (T : Txt K mg) {k : Nat} (A : All P w K mg base k) {cdv : Value} {C : Around} {outer : List PySem.Env} {s : Shared} {H : Hp} {E : XK} (hr : Room (2 * k + 3) (C.deeper (envOfC "value_of" (defScope s_value_of) s.heap.objs.size (He.ga K "value_of") cdv))) :
    PSs (cxOf (L2.CX P w) P w K mg base ["form", "row", "column"] "value_of" (defScope s_value_of) (He.ga K "value_of") cdv C outer s H E) (defBody s_value_of) (tS (gs K) (fun c d _ H => E c d H) (exs (callN Tb k) p_value_of)) := by
  have tk : Takes (cxOf (L2.CX P w) P w K mg base ["form", "row", "column"] "value_of" (defScope s_value_of) (He.ga K "value_of") cdv C outer s H E) (fun c d _ H => E c d H) := takes_of rfl rfl rfl rfl
  have pp : PassesOwn (model (cxOf (L2.CX P w) P w K mg base ["form", "row", "column"] "value_of" (defScope s_value_of) (He.ga K "value_of") cdv C outer s H E).prog (cxOf (L2.CX P w) P w K mg base ["form", "row", "column"] "value_of" (defScope s_value_of) (He.ga K "value_of") cdv C outer s H E).w) (cxOf (L2.CX P w) P w K mg base ["form", "row", "column"] "value_of" (defScope s_value_of) (He.ga K "value_of") cdv C outer s H E).A (cxOf (L2.CX P w) P w K mg base ["form", "row", "column"] "value_of" (defScope s_value_of) (He.ga K "value_of") cdv C outer s H E).env (cxOf (L2.CX P w) P w K mg base ["form", "row", "column"] "value_of" (defScope s_value_of) (He.ga K "value_of") cdv C outer s H E).xe := passes_of rfl
  exact (s_cons (s_ret (i_idx rfl rfl j_var (i_tidx rfl rfl rfl (j_call (ies := [(.var 0)]) (iks := []) (ks := []) (arr := [.a 0]) A.f_names_of T.m_names_of tk hr _ rfl (a_cons rfl j_var a_nil) k_nil (.head _)) (a_cons rfl j_var a_nil))))
    s_nil)
theorem b_values_of (T : Txt K mg) {k : Nat} (A : All P w K mg base k) {cdv : Value} {C : Around} {outer : List PySem.Env} {s : Shared} {H : Hp} {E : XK} (hr : Room (2 * k + 3) (C.deeper (envOfC "values_of" (defScope s_values_of) s.heap.objs.size (He.ga K "values_of") cdv))) :
    PSs (cxOf (L2.CX P w) P w K mg base ["form", "row", "columns", "known", "name", "kind", "value", "column"] "values_of" (defScope s_values_of) (He.ga K "values_of") cdv C outer s H E) (defBody s_values_of) (tS (gs K) (fun c d _ H => E c d H) (exs (callN Tb k) p_values_of)) := by
  have tk : Takes (cxOf (L2.CX P w) P w K mg base ["form", "row", "columns", "known", "name", "kind", "value", "column"] "values_of" (defScope s_values_of) (He.ga K "values_of") cdv C outer s H E) (fun c d _ H => E c d H) := takes_of rfl rfl rfl rfl
  have pp : PassesOwn (model (cxOf (L2.CX P w) P w K mg base ["form", "row", "columns", "known", "name", "kind", "value", "column"] "values_of" (defScope s_values_of) (He.ga K "values_of") cdv C outer s H E).prog (cxOf (L2.CX P w) P w K mg base ["form", "row", "columns", "known", "name", "kind", "value", "column"] "values_of" (defScope s_values_of) (He.ga K "values_of") cdv C outer s H E).w) (cxOf (L2.CX P w) P w K mg base ["form", "row", "columns", "known", "name", "kind", "value", "column"] "values_of" (defScope s_values_of) (He.ga K "values_of") cdv C outer s H E).A (cxOf (L2.CX P w) P w K mg base ["form", "row", "columns", "known", "name", "kind", "value", "column"] "values_of" (defScope s_values_of) (He.ga K "values_of") cdv C outer s H E).env (cxOf (L2.CX P w) P w K mg base ["form", "row", "columns", "known", "name", "kind", "value", "column"] "values_of" (defScope s_values_of) (He.ga K "values_of") cdv C outer s H E).xe := passes_of rfl
  exact (s_cons (s_asg (i_dcomp (own := [("name", 4), ("kind", 5), ("value", 6)]) rfl sc_values_of.nd rfl (w_zipS rfl T.n_zip rfl rfl (a_cons rfl j_var (a_cons rfl j_var a_nil)) (k_cons c_bl k_nil)) (blkOk_by (by kernel_rfl)) (fun _ _ _ _ _ => (g_tup rfl rfl rfl rfl (gs_cons rfl (g_tup rfl rfl rfl rfl (gs_cons rfl (j_g sc_values_of.nd) (gs_cons rfl (j_g sc_values_of.nd) gs_nil))) (gs_cons rfl (j_g sc_values_of.nd) gs_nil)))) (fun _ _ _ _ _ => ifs_nil) (fun _ _ _ _ _ => j_var) (fun _ _ _ _ _ => j_var)) (g_any (vs := [3]) (j_g sc_values_of.nd)) rfl (by rfl) (pure_none rfl))
    (s_cons (s_ret (j_bi (.tuple1) hr T.n_tuple (a_cons rfl (i_lc (own := [("column", 7)]) rfl sc_values_of.nd rfl (w_e rfl j_var) (blkOk_by (by kernel_rfl)) (fun _ _ _ _ _ => (j_g sc_values_of.nd)) (fun _ _ _ _ _ => ifs_nil) (fun _ _ _ _ _ => (i_didx hr rfl j_var j_var))) a_nil)))
    s_nil))
theorem b_Buckets_init (T : Txt K mg) {k : Nat} (A : All P w K mg base k) {cdv : Value} {C : Around} {outer : List PySem.Env} {s : Shared} {H : Hp} {E : XK} (hr : Room (2 * k + 3) (C.deeper (envOfC "Buckets.__init__" (defScope s_Buckets_init) s.heap.objs.size (He.ma K (He.ga K "Buckets") "__init__") cdv))) :
    PSs (cxOf (L2.CX P w) P w K mg base ["self", "count", "most", "bucket"] "Buckets.__init__" (defScope s_Buckets_init) (He.ma K (He.ga K "Buckets") "__init__") cdv C outer s H E) (defBody s_Buckets_init) (tS (gs K) (fun c d _ H => E c d H) (exs (callN Tb k) p_Buckets_init)) := by
  have tk : Takes (cxOf (L2.CX P w) P w K mg base ["self", "count", "most", "bucket"] "Buckets.__init__" (defScope s_Buckets_init) (He.ma K (He.ga K "Buckets") "__init__") cdv C outer s H E) (fun c d _ H => E c d H) := takes_of rfl rfl rfl rfl
  have pp : PassesOwn (model (cxOf (L2.CX P w) P w K mg base ["self", "count", "most", "bucket"] "Buckets.__init__" (defScope s_Buckets_init) (He.ma K (He.ga K "Buckets") "__init__") cdv C outer s H E).prog (cxOf (L2.CX P w) P w K mg base ["self", "count", "most", "bucket"] "Buckets.__init__" (defScope s_Buckets_init) (He.ma K (He.ga K "Buckets") "__init__") cdv C outer s H E).w) (cxOf (L2.CX P w) P w K mg base ["self", "count", "most", "bucket"] "Buckets.__init__" (defScope s_Buckets_init) (He.ma K (He.ga K "Buckets") "__init__") cdv C outer s H E).A (cxOf (L2.CX P w) P w K mg base ["self", "count", "most", "bucket"] "Buckets.__init__" (defScope s_Buckets_init) (He.ma K (He.ga K "Buckets") "__init__") cdv C outer s H E).env (cxOf (L2.CX P w) P w K mg base ["self", "count", "most", "bucket"] "Buckets.__init__" (defScope s_Buckets_init) (He.ma K (He.ga K "Buckets") "__init__") cdv C outer s H E).xe := passes_of rfl
  exact (s_cons s_stuck (s_cons s_stuck (s_cons s_stuck s_nil)))
theorem b_Buckets_bucket_of (T : Txt K mg) {k : Nat} (A : All P w K mg base k) {cdv : Value} {C : Around} {outer : List PySem.Env} {s : Shared} {H : Hp} {E : XK} (hr : Room (2 * k + 3) (C.deeper (envOfC "Buckets.bucket_of" (defScope s_Buckets_bucket_of) s.heap.objs.size (He.ma K (He.ga K "Buckets") "bucket_of") cdv))) :
    PSs (cxOf (L2.CX P w) P w K mg base ["self", "values"] "Buckets.bucket_of" (defScope s_Buckets_bucket_of) (He.ma K (He.ga K "Buckets") "bucket_of") cdv C outer s H E) (defBody s_Buckets_bucket_of) (tS (gs K) (fun c d _ H => E c d H) (exs (callN Tb k) p_Buckets_bucket_of)) := by
  have tk : Takes (cxOf (L2.CX P w) P w K mg base ["self", "values"] "Buckets.bucket_of" (defScope s_Buckets_bucket_of) (He.ma K (He.ga K "Buckets") "bucket_of") cdv C outer s H E) (fun c d _ H => E c d H) := takes_of rfl rfl rfl rfl
  have pp : PassesOwn (model (cxOf (L2.CX P w) P w K mg base ["self", "values"] "Buckets.bucket_of" (defScope s_Buckets_bucket_of) (He.ma K (He.ga K "Buckets") "bucket_of") cdv C outer s H E).prog (cxOf (L2.CX P w) P w K mg base ["self", "values"] "Buckets.bucket_of" (defScope s_Buckets_bucket_of) (He.ma K (He.ga K "Buckets") "bucket_of") cdv C outer s H E).w) (cxOf (L2.CX P w) P w K mg base ["self", "values"] "Buckets.bucket_of" (defScope s_Buckets_bucket_of) (He.ma K (He.ga K "Buckets") "bucket_of") cdv C outer s H E).A (cxOf (L2.CX P w) P w K mg base ["self", "values"] "Buckets.bucket_of" (defScope s_Buckets_bucket_of) (He.ma K (He.ga K "Buckets") "bucket_of") cdv C outer s H E).env (cxOf (L2.CX P w) P w K mg base ["self", "values"] "Buckets.bucket_of" (defScope s_Buckets_bucket_of) (He.ma K (He.ga K "Buckets") "bucket_of") cdv C outer s H E).xe := passes_of rfl
  exact (s_cons s_stuck s_nil)
theorem b_Buckets_put (T : Txt K mg) {k : Nat} (A : All P w K mg base k) {cdv : Value} {C : Around} {outer : List PySem.Env} {s : Shared} {H : Hp} {E : XK} (hr : Room (2 * k + 3) (C.deeper (envOfC "Buckets.put" (defScope s_Buckets_put) s.heap.objs.size (He.ma K (He.ga K "Buckets") "put") cdv))) :
    PSs (cxOf (L2.CX P w) P w K mg base ["self", "thing", "values", "number", "pages", "at", "page"] "Buckets.put" (defScope s_Buckets_put) (He.ma K (He.ga K "Buckets") "put") cdv C outer s H E) (defBody s_Buckets_put) (tS (gs K) (fun c d _ H => E c d H) (exs (callN Tb k) p_Buckets_put)) := by
  have tk : Takes (cxOf (L2.CX P w) P w K mg base ["self", "thing", "values", "number", "pages", "at", "page"] "Buckets.put" (defScope s_Buckets_put) (He.ma K (He.ga K "Buckets") "put") cdv C outer s H E) (fun c d _ H => E c d H) := takes_of rfl rfl rfl rfl
  have pp : PassesOwn (model (cxOf (L2.CX P w) P w K mg base ["self", "thing", "values", "number", "pages", "at", "page"] "Buckets.put" (defScope s_Buckets_put) (He.ma K (He.ga K "Buckets") "put") cdv C outer s H E).prog (cxOf (L2.CX P w) P w K mg base ["self", "thing", "values", "number", "pages", "at", "page"] "Buckets.put" (defScope s_Buckets_put) (He.ma K (He.ga K "Buckets") "put") cdv C outer s H E).w) (cxOf (L2.CX P w) P w K mg base ["self", "thing", "values", "number", "pages", "at", "page"] "Buckets.put" (defScope s_Buckets_put) (He.ma K (He.ga K "Buckets") "put") cdv C outer s H E).A (cxOf (L2.CX P w) P w K mg base ["self", "thing", "values", "number", "pages", "at", "page"] "Buckets.put" (defScope s_Buckets_put) (He.ma K (He.ga K "Buckets") "put") cdv C outer s H E).env (cxOf (L2.CX P w) P w K mg base ["self", "thing", "values", "number", "pages", "at", "page"] "Buckets.put" (defScope s_Buckets_put) (He.ma K (He.ga K "Buckets") "put") cdv C outer s H E).xe := passes_of rfl
  exact (s_cons s_stuck (s_cons s_stuck (s_cons s_stuck (s_cons s_stuck (s_cons s_stuck s_nil)))))
theorem b_Buckets_drop (T : Txt K mg) {k : Nat} (A : All P w K mg base k) {cdv : Value} {C : Around} {outer : List PySem.Env} {s : Shared} {H : Hp} {E : XK} (hr : Room (2 * k + 3) (C.deeper (envOfC "Buckets.drop" (defScope s_Buckets_drop) s.heap.objs.size (He.ma K (He.ga K "Buckets") "drop") cdv))) :
    PSs (cxOf (L2.CX P w) P w K mg base ["self", "thing", "values", "number", "pages", "at", "others", "page"] "Buckets.drop" (defScope s_Buckets_drop) (He.ma K (He.ga K "Buckets") "drop") cdv C outer s H E) (defBody s_Buckets_drop) (tS (gs K) (fun c d _ H => E c d H) (exs (callN Tb k) p_Buckets_drop)) := by
  have tk : Takes (cxOf (L2.CX P w) P w K mg base ["self", "thing", "values", "number", "pages", "at", "others", "page"] "Buckets.drop" (defScope s_Buckets_drop) (He.ma K (He.ga K "Buckets") "drop") cdv C outer s H E) (fun c d _ H => E c d H) := takes_of rfl rfl rfl rfl
  have pp : PassesOwn (model (cxOf (L2.CX P w) P w K mg base ["self", "thing", "values", "number", "pages", "at", "others", "page"] "Buckets.drop" (defScope s_Buckets_drop) (He.ma K (He.ga K "Buckets") "drop") cdv C outer s H E).prog (cxOf (L2.CX P w) P w K mg base ["self", "thing", "values", "number", "pages", "at", "others", "page"] "Buckets.drop" (defScope s_Buckets_drop) (He.ma K (He.ga K "Buckets") "drop") cdv C outer s H E).w) (cxOf (L2.CX P w) P w K mg base ["self", "thing", "values", "number", "pages", "at", "others", "page"] "Buckets.drop" (defScope s_Buckets_drop) (He.ma K (He.ga K "Buckets") "drop") cdv C outer s H E).A (cxOf (L2.CX P w) P w K mg base ["self", "thing", "values", "number", "pages", "at", "others", "page"] "Buckets.drop" (defScope s_Buckets_drop) (He.ma K (He.ga K "Buckets") "drop") cdv C outer s H E).env (cxOf (L2.CX P w) P w K mg base ["self", "thing", "values", "number", "pages", "at", "others", "page"] "Buckets.drop" (defScope s_Buckets_drop) (He.ma K (He.ga K "Buckets") "drop") cdv C outer s H E).xe := passes_of rfl
  exact (s_cons s_stuck (s_cons s_stuck (s_cons s_stuck (s_cons s_stuck (s_cons s_stuck (s_cons s_stuck s_nil))))))
theorem b_Buckets_pages (T : Txt K mg) {k : Nat} (A : All P w K mg base k) {cdv : Value} {C : Around} {outer : List PySem.Env} {s : Shared} {H : Hp} {E : XK} (hr : Room (2 * k + 3) (C.deeper (envOfC "Buckets.pages" (defScope s_Buckets_pages) s.heap.objs.size (He.ma K (He.ga K "Buckets") "pages") cdv))) :
    PSs (cxOf (L2.CX P w) P w K mg base ["self", "bucket", "page"] "Buckets.pages" (defScope s_Buckets_pages) (He.ma K (He.ga K "Buckets") "pages") cdv C outer s H E) (defBody s_Buckets_pages) (tS (gs K) (fun c d _ H => E c d H) (exs (callN Tb k) p_Buckets_pages)) := by
  have tk : Takes (cxOf (L2.CX P w) P w K mg base ["self", "bucket", "page"] "Buckets.pages" (defScope s_Buckets_pages) (He.ma K (He.ga K "Buckets") "pages") cdv C outer s H E) (fun c d _ H => E c d H) := takes_of rfl rfl rfl rfl
  have pp : PassesOwn (model (cxOf (L2.CX P w) P w K mg base ["self", "bucket", "page"] "Buckets.pages" (defScope s_Buckets_pages) (He.ma K (He.ga K "Buckets") "pages") cdv C outer s H E).prog (cxOf (L2.CX P w) P w K mg base ["self", "bucket", "page"] "Buckets.pages" (defScope s_Buckets_pages) (He.ma K (He.ga K "Buckets") "pages") cdv C outer s H E).w) (cxOf (L2.CX P w) P w K mg base ["self", "bucket", "page"] "Buckets.pages" (defScope s_Buckets_pages) (He.ma K (He.ga K "Buckets") "pages") cdv C outer s H E).A (cxOf (L2.CX P w) P w K mg base ["self", "bucket", "page"] "Buckets.pages" (defScope s_Buckets_pages) (He.ma K (He.ga K "Buckets") "pages") cdv C outer s H E).env (cxOf (L2.CX P w) P w K mg base ["self", "bucket", "page"] "Buckets.pages" (defScope s_Buckets_pages) (He.ma K (He.ga K "Buckets") "pages") cdv C outer s H E).xe := passes_of rfl
  exact (s_cons s_stuck s_nil)
theorem b_groups (T : Txt K mg) {k : Nat} (A : All P w K mg base k) {cdv : Value} {C : Around} {outer : List PySem.Env} {s : Shared} {H : Hp} {E : XK} (hr : Room (2 * k + 3) (C.deeper (envOfC "groups" (defScope s_groups) s.heap.objs.size (He.ga K "groups") cdv))) :
    PSs (cxOf (L2.CX P w) P w K mg base ["many", "size"] "groups" (defScope s_groups) (He.ga K "groups") cdv C outer s H E) (defBody s_groups) (tS (gs K) (fun c d _ H => E c d H) (exs (callN Tb k) p_groups)) := by
  have tk : Takes (cxOf (L2.CX P w) P w K mg base ["many", "size"] "groups" (defScope s_groups) (He.ga K "groups") cdv C outer s H E) (fun c d _ H => E c d H) := takes_of rfl rfl rfl rfl
  have pp : PassesOwn (model (cxOf (L2.CX P w) P w K mg base ["many", "size"] "groups" (defScope s_groups) (He.ga K "groups") cdv C outer s H E).prog (cxOf (L2.CX P w) P w K mg base ["many", "size"] "groups" (defScope s_groups) (He.ga K "groups") cdv C outer s H E).w) (cxOf (L2.CX P w) P w K mg base ["many", "size"] "groups" (defScope s_groups) (He.ga K "groups") cdv C outer s H E).A (cxOf (L2.CX P w) P w K mg base ["many", "size"] "groups" (defScope s_groups) (He.ga K "groups") cdv C outer s H E).env (cxOf (L2.CX P w) P w K mg base ["many", "size"] "groups" (defScope s_groups) (He.ga K "groups") cdv C outer s H E).xe := passes_of rfl
  exact (s_cons s_stuck s_nil)
theorem b_levels_of (T : Txt K mg) {k : Nat} (A : All P w K mg base k) {cdv : Value} {C : Around} {outer : List PySem.Env} {s : Shared} {H : Hp} {E : XK} (hr : Room (2 * k + 3) (C.deeper (envOfC "levels_of" (defScope s_levels_of) s.heap.objs.size (He.ga K "levels_of") cdv))) :
    PSs (cxOf (L2.CX P w) P w K mg base ["leaves", "fan"] "levels_of" (defScope s_levels_of) (He.ga K "levels_of") cdv C outer s H E) (defBody s_levels_of) (tS (gs K) (fun c d _ H => E c d H) (exs (callN Tb k) p_levels_of)) := by
  have tk : Takes (cxOf (L2.CX P w) P w K mg base ["leaves", "fan"] "levels_of" (defScope s_levels_of) (He.ga K "levels_of") cdv C outer s H E) (fun c d _ H => E c d H) := takes_of rfl rfl rfl rfl
  have pp : PassesOwn (model (cxOf (L2.CX P w) P w K mg base ["leaves", "fan"] "levels_of" (defScope s_levels_of) (He.ga K "levels_of") cdv C outer s H E).prog (cxOf (L2.CX P w) P w K mg base ["leaves", "fan"] "levels_of" (defScope s_levels_of) (He.ga K "levels_of") cdv C outer s H E).w) (cxOf (L2.CX P w) P w K mg base ["leaves", "fan"] "levels_of" (defScope s_levels_of) (He.ga K "levels_of") cdv C outer s H E).A (cxOf (L2.CX P w) P w K mg base ["leaves", "fan"] "levels_of" (defScope s_levels_of) (He.ga K "levels_of") cdv C outer s H E).env (cxOf (L2.CX P w) P w K mg base ["leaves", "fan"] "levels_of" (defScope s_levels_of) (He.ga K "levels_of") cdv C outer s H E).xe := passes_of rfl
  exact (s_cons s_stuck s_nil)
theorem b_pages_of (T : Txt K mg) {k : Nat} (A : All P w K mg base k) {cdv : Value} {C : Around} {outer : List PySem.Env} {s : Shared} {H : Hp} {E : XK} (hr : Room (2 * k + 3) (C.deeper (envOfC "pages_of" (defScope s_pages_of) s.heap.objs.size (He.ga K "pages_of") cdv))) :
    PSs (cxOf (L2.CX P w) P w K mg base ["leaves", "fan"] "pages_of" (defScope s_pages_of) (He.ga K "pages_of") cdv C outer s H E) (defBody s_pages_of) (tS (gs K) (fun c d _ H => E c d H) (exs (callN Tb k) p_pages_of)) := by
  have tk : Takes (cxOf (L2.CX P w) P w K mg base ["leaves", "fan"] "pages_of" (defScope s_pages_of) (He.ga K "pages_of") cdv C outer s H E) (fun c d _ H => E c d H) := takes_of rfl rfl rfl rfl
  have pp : PassesOwn (model (cxOf (L2.CX P w) P w K mg base ["leaves", "fan"] "pages_of" (defScope s_pages_of) (He.ga K "pages_of") cdv C outer s H E).prog (cxOf (L2.CX P w) P w K mg base ["leaves", "fan"] "pages_of" (defScope s_pages_of) (He.ga K "pages_of") cdv C outer s H E).w) (cxOf (L2.CX P w) P w K mg base ["leaves", "fan"] "pages_of" (defScope s_pages_of) (He.ga K "pages_of") cdv C outer s H E).A (cxOf (L2.CX P w) P w K mg base ["leaves", "fan"] "pages_of" (defScope s_pages_of) (He.ga K "pages_of") cdv C outer s H E).env (cxOf (L2.CX P w) P w K mg base ["leaves", "fan"] "pages_of" (defScope s_pages_of) (He.ga K "pages_of") cdv C outer s H E).xe := passes_of rfl
  exact (s_cons s_stuck s_nil)
theorem b_Run_init (T : Txt K mg) {k : Nat} (A : All P w K mg base k) {cdv : Value} {C : Around} {outer : List PySem.Env} {s : Shared} {H : Hp} {E : XK} (hr : Room (2 * k + 3) (C.deeper (envOfC "Run.__init__" (defScope s_Run_init) s.heap.objs.size (He.ma K (He.ga K "Run") "__init__") cdv))) :
    PSs (cxOf (L2.CX P w) P w K mg base ["self", "most", "fan", "things", "ordered", "at"] "Run.__init__" (defScope s_Run_init) (He.ma K (He.ga K "Run") "__init__") cdv C outer s H E) (defBody s_Run_init) (tS (gs K) (fun c d _ H => E c d H) (exs (callN Tb k) p_Run_init)) := by
  have tk : Takes (cxOf (L2.CX P w) P w K mg base ["self", "most", "fan", "things", "ordered", "at"] "Run.__init__" (defScope s_Run_init) (He.ma K (He.ga K "Run") "__init__") cdv C outer s H E) (fun c d _ H => E c d H) := takes_of rfl rfl rfl rfl
  have pp : PassesOwn (model (cxOf (L2.CX P w) P w K mg base ["self", "most", "fan", "things", "ordered", "at"] "Run.__init__" (defScope s_Run_init) (He.ma K (He.ga K "Run") "__init__") cdv C outer s H E).prog (cxOf (L2.CX P w) P w K mg base ["self", "most", "fan", "things", "ordered", "at"] "Run.__init__" (defScope s_Run_init) (He.ma K (He.ga K "Run") "__init__") cdv C outer s H E).w) (cxOf (L2.CX P w) P w K mg base ["self", "most", "fan", "things", "ordered", "at"] "Run.__init__" (defScope s_Run_init) (He.ma K (He.ga K "Run") "__init__") cdv C outer s H E).A (cxOf (L2.CX P w) P w K mg base ["self", "most", "fan", "things", "ordered", "at"] "Run.__init__" (defScope s_Run_init) (He.ma K (He.ga K "Run") "__init__") cdv C outer s H E).env (cxOf (L2.CX P w) P w K mg base ["self", "most", "fan", "things", "ordered", "at"] "Run.__init__" (defScope s_Run_init) (He.ma K (He.ga K "Run") "__init__") cdv C outer s H E).xe := passes_of rfl
  exact (s_cons s_stuck (s_cons s_stuck (s_cons s_stuck (s_cons s_stuck s_nil))))
theorem b_Run_levels (T : Txt K mg) {k : Nat} (A : All P w K mg base k) {cdv : Value} {C : Around} {outer : List PySem.Env} {s : Shared} {H : Hp} {E : XK} (hr : Room (2 * k + 3) (C.deeper (envOfC "Run.levels" (defScope s_Run_levels) s.heap.objs.size (He.ma K (He.ga K "Run") "levels") cdv))) :
    PSs (cxOf (L2.CX P w) P w K mg base ["self"] "Run.levels" (defScope s_Run_levels) (He.ma K (He.ga K "Run") "levels") cdv C outer s H E) (defBody s_Run_levels) (tS (gs K) (fun c d _ H => E c d H) (exs (callN Tb k) p_Run_levels)) := by
  have tk : Takes (cxOf (L2.CX P w) P w K mg base ["self"] "Run.levels" (defScope s_Run_levels) (He.ma K (He.ga K "Run") "levels") cdv C outer s H E) (fun c d _ H => E c d H) := takes_of rfl rfl rfl rfl
  have pp : PassesOwn (model (cxOf (L2.CX P w) P w K mg base ["self"] "Run.levels" (defScope s_Run_levels) (He.ma K (He.ga K "Run") "levels") cdv C outer s H E).prog (cxOf (L2.CX P w) P w K mg base ["self"] "Run.levels" (defScope s_Run_levels) (He.ma K (He.ga K "Run") "levels") cdv C outer s H E).w) (cxOf (L2.CX P w) P w K mg base ["self"] "Run.levels" (defScope s_Run_levels) (He.ma K (He.ga K "Run") "levels") cdv C outer s H E).A (cxOf (L2.CX P w) P w K mg base ["self"] "Run.levels" (defScope s_Run_levels) (He.ma K (He.ga K "Run") "levels") cdv C outer s H E).env (cxOf (L2.CX P w) P w K mg base ["self"] "Run.levels" (defScope s_Run_levels) (He.ma K (He.ga K "Run") "levels") cdv C outer s H E).xe := passes_of rfl
  exact (s_cons s_stuck s_nil)
theorem b_Run_pages (T : Txt K mg) {k : Nat} (A : All P w K mg base k) {cdv : Value} {C : Around} {outer : List PySem.Env} {s : Shared} {H : Hp} {E : XK} (hr : Room (2 * k + 3) (C.deeper (envOfC "Run.pages" (defScope s_Run_pages) s.heap.objs.size (He.ma K (He.ga K "Run") "pages") cdv))) :
    PSs (cxOf (L2.CX P w) P w K mg base ["self"] "Run.pages" (defScope s_Run_pages) (He.ma K (He.ga K "Run") "pages") cdv C outer s H E) (defBody s_Run_pages) (tS (gs K) (fun c d _ H => E c d H) (exs (callN Tb k) p_Run_pages)) := by
  have tk : Takes (cxOf (L2.CX P w) P w K mg base ["self"] "Run.pages" (defScope s_Run_pages) (He.ma K (He.ga K "Run") "pages") cdv C outer s H E) (fun c d _ H => E c d H) := takes_of rfl rfl rfl rfl
  have pp : PassesOwn (model (cxOf (L2.CX P w) P w K mg base ["self"] "Run.pages" (defScope s_Run_pages) (He.ma K (He.ga K "Run") "pages") cdv C outer s H E).prog (cxOf (L2.CX P w) P w K mg base ["self"] "Run.pages" (defScope s_Run_pages) (He.ma K (He.ga K "Run") "pages") cdv C outer s H E).w) (cxOf (L2.CX P w) P w K mg base ["self"] "Run.pages" (defScope s_Run_pages) (He.ma K (He.ga K "Run") "pages") cdv C outer s H E).A (cxOf (L2.CX P w) P w K mg base ["self"] "Run.pages" (defScope s_Run_pages) (He.ma K (He.ga K "Run") "pages") cdv C outer s H E).env (cxOf (L2.CX P w) P w K mg base ["self"] "Run.pages" (defScope s_Run_pages) (He.ma K (He.ga K "Run") "pages") cdv C outer s H E).xe := passes_of rfl
  exact (s_cons s_stuck s_nil)
theorem b_Run_place_of (T : Txt K mg) {k : Nat} (A : All P w K mg base k) {cdv : Value} {C : Around} {outer : List PySem.Env} {s : Shared} {H : Hp} {E : XK} (hr : Room (2 * k + 3) (C.deeper (envOfC "Run.place_of" (defScope s_Run_place_of) s.heap.objs.size (He.ma K (He.ga K "Run") "place_of") cdv))) :
    PSs (cxOf (L2.CX P w) P w K mg base ["self", "thing", "at", "first", "others"] "Run.place_of" (defScope s_Run_place_of) (He.ma K (He.ga K "Run") "place_of") cdv C outer s H E) (defBody s_Run_place_of) (tS (gs K) (fun c d _ H => E c d H) (exs (callN Tb k) p_Run_place_of)) := by
  have tk : Takes (cxOf (L2.CX P w) P w K mg base ["self", "thing", "at", "first", "others"] "Run.place_of" (defScope s_Run_place_of) (He.ma K (He.ga K "Run") "place_of") cdv C outer s H E) (fun c d _ H => E c d H) := takes_of rfl rfl rfl rfl
  have pp : PassesOwn (model (cxOf (L2.CX P w) P w K mg base ["self", "thing", "at", "first", "others"] "Run.place_of" (defScope s_Run_place_of) (He.ma K (He.ga K "Run") "place_of") cdv C outer s H E).prog (cxOf (L2.CX P w) P w K mg base ["self", "thing", "at", "first", "others"] "Run.place_of" (defScope s_Run_place_of) (He.ma K (He.ga K "Run") "place_of") cdv C outer s H E).w) (cxOf (L2.CX P w) P w K mg base ["self", "thing", "at", "first", "others"] "Run.place_of" (defScope s_Run_place_of) (He.ma K (He.ga K "Run") "place_of") cdv C outer s H E).A (cxOf (L2.CX P w) P w K mg base ["self", "thing", "at", "first", "others"] "Run.place_of" (defScope s_Run_place_of) (He.ma K (He.ga K "Run") "place_of") cdv C outer s H E).env (cxOf (L2.CX P w) P w K mg base ["self", "thing", "at", "first", "others"] "Run.place_of" (defScope s_Run_place_of) (He.ma K (He.ga K "Run") "place_of") cdv C outer s H E).xe := passes_of rfl
  exact (s_cons s_stuck s_nil)
theorem b_Run_put (T : Txt K mg) {k : Nat} (A : All P w K mg base k) {cdv : Value} {C : Around} {outer : List PySem.Env} {s : Shared} {H : Hp} {E : XK} (hr : Room (2 * k + 3) (C.deeper (envOfC "Run.put" (defScope s_Run_put) s.heap.objs.size (He.ma K (He.ga K "Run") "put") cdv))) :
    PSs (cxOf (L2.CX P w) P w K mg base ["self", "thing", "touched", "at", "leaf", "half"] "Run.put" (defScope s_Run_put) (He.ma K (He.ga K "Run") "put") cdv C outer s H E) (defBody s_Run_put) (tS (gs K) (fun c d _ H => E c d H) (exs (callN Tb k) p_Run_put)) := by
  have tk : Takes (cxOf (L2.CX P w) P w K mg base ["self", "thing", "touched", "at", "leaf", "half"] "Run.put" (defScope s_Run_put) (He.ma K (He.ga K "Run") "put") cdv C outer s H E) (fun c d _ H => E c d H) := takes_of rfl rfl rfl rfl
  have pp : PassesOwn (model (cxOf (L2.CX P w) P w K mg base ["self", "thing", "touched", "at", "leaf", "half"] "Run.put" (defScope s_Run_put) (He.ma K (He.ga K "Run") "put") cdv C outer s H E).prog (cxOf (L2.CX P w) P w K mg base ["self", "thing", "touched", "at", "leaf", "half"] "Run.put" (defScope s_Run_put) (He.ma K (He.ga K "Run") "put") cdv C outer s H E).w) (cxOf (L2.CX P w) P w K mg base ["self", "thing", "touched", "at", "leaf", "half"] "Run.put" (defScope s_Run_put) (He.ma K (He.ga K "Run") "put") cdv C outer s H E).A (cxOf (L2.CX P w) P w K mg base ["self", "thing", "touched", "at", "leaf", "half"] "Run.put" (defScope s_Run_put) (He.ma K (He.ga K "Run") "put") cdv C outer s H E).env (cxOf (L2.CX P w) P w K mg base ["self", "thing", "touched", "at", "leaf", "half"] "Run.put" (defScope s_Run_put) (He.ma K (He.ga K "Run") "put") cdv C outer s H E).xe := passes_of rfl
  exact (s_cons s_stuck (s_cons s_stuck (s_cons s_stuck (s_cons s_stuck (s_cons s_stuck (s_cons s_stuck (s_cons s_stuck s_nil)))))))
theorem b_Run_drop (T : Txt K mg) {k : Nat} (A : All P w K mg base k) {cdv : Value} {C : Around} {outer : List PySem.Env} {s : Shared} {H : Hp} {E : XK} (hr : Room (2 * k + 3) (C.deeper (envOfC "Run.drop" (defScope s_Run_drop) s.heap.objs.size (He.ma K (He.ga K "Run") "drop") cdv))) :
    PSs (cxOf (L2.CX P w) P w K mg base ["self", "thing", "touched", "at", "one", "leaf"] "Run.drop" (defScope s_Run_drop) (He.ma K (He.ga K "Run") "drop") cdv C outer s H E) (defBody s_Run_drop) (tS (gs K) (fun c d _ H => E c d H) (exs (callN Tb k) p_Run_drop)) := by
  have tk : Takes (cxOf (L2.CX P w) P w K mg base ["self", "thing", "touched", "at", "one", "leaf"] "Run.drop" (defScope s_Run_drop) (He.ma K (He.ga K "Run") "drop") cdv C outer s H E) (fun c d _ H => E c d H) := takes_of rfl rfl rfl rfl
  have pp : PassesOwn (model (cxOf (L2.CX P w) P w K mg base ["self", "thing", "touched", "at", "one", "leaf"] "Run.drop" (defScope s_Run_drop) (He.ma K (He.ga K "Run") "drop") cdv C outer s H E).prog (cxOf (L2.CX P w) P w K mg base ["self", "thing", "touched", "at", "one", "leaf"] "Run.drop" (defScope s_Run_drop) (He.ma K (He.ga K "Run") "drop") cdv C outer s H E).w) (cxOf (L2.CX P w) P w K mg base ["self", "thing", "touched", "at", "one", "leaf"] "Run.drop" (defScope s_Run_drop) (He.ma K (He.ga K "Run") "drop") cdv C outer s H E).A (cxOf (L2.CX P w) P w K mg base ["self", "thing", "touched", "at", "one", "leaf"] "Run.drop" (defScope s_Run_drop) (He.ma K (He.ga K "Run") "drop") cdv C outer s H E).env (cxOf (L2.CX P w) P w K mg base ["self", "thing", "touched", "at", "one", "leaf"] "Run.drop" (defScope s_Run_drop) (He.ma K (He.ga K "Run") "drop") cdv C outer s H E).xe := passes_of rfl
  exact (s_cons s_stuck (s_cons s_stuck (s_cons s_stuck (s_cons s_stuck (s_cons s_stuck s_nil)))))
theorem b_look_store (T : Txt K mg) {k : Nat} (A : All P w K mg base k) {cdv : Value} {C : Around} {outer : List PySem.Env} {s : Shared} {H : Hp} {E : XK} (hr : Room (2 * k + 3) (C.deeper (envOfC "look_store" (defScope s_look_store) s.heap.objs.size (He.ga K "look_store") cdv))) :
    PSs (cxOf (L2.CX P w) P w K mg base ["form", "kind", "key"] "look_store" (defScope s_look_store) (He.ga K "look_store") cdv C outer s H E) (defBody s_look_store) (tS (gs K) (fun c d _ H => E c d H) (exs (callN Tb k) p_look_store)) := by
  have tk : Takes (cxOf (L2.CX P w) P w K mg base ["form", "kind", "key"] "look_store" (defScope s_look_store) (He.ga K "look_store") cdv C outer s H E) (fun c d _ H => E c d H) := takes_of rfl rfl rfl rfl
  have pp : PassesOwn (model (cxOf (L2.CX P w) P w K mg base ["form", "kind", "key"] "look_store" (defScope s_look_store) (He.ga K "look_store") cdv C outer s H E).prog (cxOf (L2.CX P w) P w K mg base ["form", "kind", "key"] "look_store" (defScope s_look_store) (He.ga K "look_store") cdv C outer s H E).w) (cxOf (L2.CX P w) P w K mg base ["form", "kind", "key"] "look_store" (defScope s_look_store) (He.ga K "look_store") cdv C outer s H E).A (cxOf (L2.CX P w) P w K mg base ["form", "kind", "key"] "look_store" (defScope s_look_store) (He.ga K "look_store") cdv C outer s H E).env (cxOf (L2.CX P w) P w K mg base ["form", "kind", "key"] "look_store" (defScope s_look_store) (He.ga K "look_store") cdv C outer s H E).xe := passes_of rfl
  exact (s_cons (s_ite (t_not (t_val rfl rfl (j_call (ies := [(.var 0)]) (iks := []) (ks := []) (arr := [.a 0]) A.f_is_form T.m_is_form tk hr _ rfl (a_cons rfl j_var a_nil) k_nil (.head _))))
      (s_cons s_stuck
    s_nil)
      s_nil)
    (s_cons (s_ite (t_not (t_val rfl rfl (j_call (ies := [(.var 1), (.con (.tup [.str "heap", .str "sorted", .str "hashed"]))]) (iks := []) (ks := []) (arr := [.a 0, .a 1]) A.f_is_one_of T.m_is_one_of tk hr _ rfl (a_cons rfl j_var (a_cons rfl (c_gU T.m_STORES T.t_STORES (relsC_s (okS_of (by decide +kernel)) (relsC_s (okS_of (by decide +kernel)) (relsC_s (okS_of (by decide +kernel)) relsC_n)))) a_nil)) k_nil (.head _))))
      (s_cons s_stuck
    s_nil)
      s_nil)
    (s_cons (s_ite (PW.pt (w_or (PW.pt (w_and (t_cmp (op := .eq) rfl hr rfl j_var (c_str (okS_of (by decide +kernel)))) (pw_and1 (t_cmp (op := .ne) rfl hr rfl j_var (i_tup a_nil))))) (pw_or1 (PW.pt (w_and (t_cmp (op := .ne) rfl hr rfl j_var (c_str (okS_of (by decide +kernel)))) (pw_and1 (t_not (t_val rfl rfl (j_call (ies := [(.var 0), (.var 2), (.con (.int 1)), (.con (.int 3))]) (iks := []) (ks := []) (arr := [.a 0, .a 1, .a 2, .a 3]) A.f_are_columns T.m_are_columns tk hr _ rfl (a_cons rfl j_var (a_cons rfl j_var (a_cons rfl c_int (a_cons rfl (c_gI T.g_MOST_KEY) a_nil)))) k_nil (.head _))))))))))
      (s_cons s_stuck
    s_nil)
      s_nil)
    s_nil)))
theorem b_Heap_init (T : Txt K mg) {k : Nat} (A : All P w K mg base k) {cdv : Value} {C : Around} {outer : List PySem.Env} {s : Shared} {H : Hp} {E : XK} (hr : Room (2 * k + 3) (C.deeper (envOfC "Heap.__init__" (defScope s_Heap_init) s.heap.objs.size (He.ma K (He.ga K "Heap") "__init__") cdv))) :
    PSs (cxOf (L2.CX P w) P w K mg base ["self", "most"] "Heap.__init__" (defScope s_Heap_init) (He.ma K (He.ga K "Heap") "__init__") cdv C outer s H E) (defBody s_Heap_init) (tS (gs K) (fun c d _ H => E c d H) (exs (callN Tb k) p_Heap_init)) := by
  have tk : Takes (cxOf (L2.CX P w) P w K mg base ["self", "most"] "Heap.__init__" (defScope s_Heap_init) (He.ma K (He.ga K "Heap") "__init__") cdv C outer s H E) (fun c d _ H => E c d H) := takes_of rfl rfl rfl rfl
  have pp : PassesOwn (model (cxOf (L2.CX P w) P w K mg base ["self", "most"] "Heap.__init__" (defScope s_Heap_init) (He.ma K (He.ga K "Heap") "__init__") cdv C outer s H E).prog (cxOf (L2.CX P w) P w K mg base ["self", "most"] "Heap.__init__" (defScope s_Heap_init) (He.ma K (He.ga K "Heap") "__init__") cdv C outer s H E).w) (cxOf (L2.CX P w) P w K mg base ["self", "most"] "Heap.__init__" (defScope s_Heap_init) (He.ma K (He.ga K "Heap") "__init__") cdv C outer s H E).A (cxOf (L2.CX P w) P w K mg base ["self", "most"] "Heap.__init__" (defScope s_Heap_init) (He.ma K (He.ga K "Heap") "__init__") cdv C outer s H E).env (cxOf (L2.CX P w) P w K mg base ["self", "most"] "Heap.__init__" (defScope s_Heap_init) (He.ma K (He.ga K "Heap") "__init__") cdv C outer s H E).xe := passes_of rfl
  exact (s_cons (j_asg [] j_var (j_gattr (W := noX) (f := 2) (show (2 : Nat) < 18 by decide) (List.forall_mem_cons.mpr ⟨T.na_Buckets_most, (List.forall_mem_cons.mpr ⟨T.na_Run_most, (List.forall_mem_cons.mpr ⟨T.na_Heap_most, (fun _ h => nomatch h)⟩)⟩)⟩) j_var))
    (s_cons (j_asg [] (i_lst a_nil) (j_gattr (W := noX) (f := 5) (show (5 : Nat) < 18 by decide) (List.forall_mem_cons.mpr ⟨T.na_Heap_sheets, (fun _ h => nomatch h)⟩) j_var))
    s_nil))
theorem b_Heap_put (T : Txt K mg) {k : Nat} (A : All P w K mg base k) {cdv : Value} {C : Around} {outer : List PySem.Env} {s : Shared} {H : Hp} {E : XK} (hr : Room (2 * k + 3) (C.deeper (envOfC "Heap.put" (defScope s_Heap_put) s.heap.objs.size (He.ma K (He.ga K "Heap") "put") cdv))) :
    PSs (cxOf (L2.CX P w) P w K mg base ["self", "thing", "sheet"] "Heap.put" (defScope s_Heap_put) (He.ma K (He.ga K "Heap") "put") cdv C outer s H E) (defBody s_Heap_put) (tS (gs K) (fun c d _ H => E c d H) (exs (callN Tb k) p_Heap_put)) := by
  have tk : Takes (cxOf (L2.CX P w) P w K mg base ["self", "thing", "sheet"] "Heap.put" (defScope s_Heap_put) (He.ma K (He.ga K "Heap") "put") cdv C outer s H E) (fun c d _ H => E c d H) := takes_of rfl rfl rfl rfl
  have pp : PassesOwn (model (cxOf (L2.CX P w) P w K mg base ["self", "thing", "sheet"] "Heap.put" (defScope s_Heap_put) (He.ma K (He.ga K "Heap") "put") cdv C outer s H E).prog (cxOf (L2.CX P w) P w K mg base ["self", "thing", "sheet"] "Heap.put" (defScope s_Heap_put) (He.ma K (He.ga K "Heap") "put") cdv C outer s H E).w) (cxOf (L2.CX P w) P w K mg base ["self", "thing", "sheet"] "Heap.put" (defScope s_Heap_put) (He.ma K (He.ga K "Heap") "put") cdv C outer s H E).A (cxOf (L2.CX P w) P w K mg base ["self", "thing", "sheet"] "Heap.put" (defScope s_Heap_put) (He.ma K (He.ga K "Heap") "put") cdv C outer s H E).env (cxOf (L2.CX P w) P w K mg base ["self", "thing", "sheet"] "Heap.put" (defScope s_Heap_put) (He.ma K (He.ga K "Heap") "put") cdv C outer s H E).xe := passes_of rfl
  exact (s_cons (s_for pp rfl rfl (w_e rfl (j_attr (f := 5) (show (5 : Nat) < 18 by decide) j_var)) (g_any (vs := [2]) (j_g sc_Heap_put.nd))
      (s_cons (s_ite (t_cmp (op := .lt) rfl hr rfl (j_bi (.len) hr T.n_len (a_cons rfl j_var a_nil)) (j_attr (f := 2) (show (2 : Nat) < 18 by decide) j_var))
      (s_cons (s_expr rfl (i_bm (mt := .append) rfl PySem.F.plainAttrs_list PySem.F.slot_list_append PySem.F.type_list_append mt_append' rfl rfl rfl (by decide) j_var (a_cons rfl j_var a_nil)))
    (s_cons (s_ret (i_bin (op := .add) rfl c_int (j_bi (.int1) hr T.n_int (a_cons rfl (i_cmp (op := .gt) rfl hr rfl (j_bi (.len) hr T.n_len (a_cons rfl j_var a_nil)) c_int) a_nil))))
    s_nil))
      s_nil)
    s_nil))
    (s_cons (s_expr rfl (i_bm (mt := .append) rfl PySem.F.plainAttrs_list PySem.F.slot_list_append PySem.F.type_list_append mt_append' rfl rfl rfl (by decide) (j_attr (f := 5) (show (5 : Nat) < 18 by decide) j_var) (a_cons rfl (i_lst (a_cons rfl j_var a_nil)) a_nil)))
    (s_cons (s_ret c_int)
    s_nil)))
theorem b_Heap_drop (T : Txt K mg) {k : Nat} (A : All P w K mg base k) {cdv : Value} {C : Around} {outer : List PySem.Env} {s : Shared} {H : Hp} {E : XK} (hr : Room (2 * k + 3) (C.deeper (envOfC "Heap.drop" (defScope s_Heap_drop) s.heap.objs.size (He.ma K (He.ga K "Heap") "drop") cdv))) :
    PSs (cxOf (L2.CX P w) P w K mg base ["self", "thing", "sheet"] "Heap.drop" (defScope s_Heap_drop) (He.ma K (He.ga K "Heap") "drop") cdv C outer s H E) (defBody s_Heap_drop) (tS (gs K) (fun c d _ H => E c d H) (exs (callN Tb k) p_Heap_drop)) := by
  have tk : Takes (cxOf (L2.CX P w) P w K mg base ["self", "thing", "sheet"] "Heap.drop" (defScope s_Heap_drop) (He.ma K (He.ga K "Heap") "drop") cdv C outer s H E) (fun c d _ H => E c d H) := takes_of rfl rfl rfl rfl
  have pp : PassesOwn (model (cxOf (L2.CX P w) P w K mg base ["self", "thing", "sheet"] "Heap.drop" (defScope s_Heap_drop) (He.ma K (He.ga K "Heap") "drop") cdv C outer s H E).prog (cxOf (L2.CX P w) P w K mg base ["self", "thing", "sheet"] "Heap.drop" (defScope s_Heap_drop) (He.ma K (He.ga K "Heap") "drop") cdv C outer s H E).w) (cxOf (L2.CX P w) P w K mg base ["self", "thing", "sheet"] "Heap.drop" (defScope s_Heap_drop) (He.ma K (He.ga K "Heap") "drop") cdv C outer s H E).A (cxOf (L2.CX P w) P w K mg base ["self", "thing", "sheet"] "Heap.drop" (defScope s_Heap_drop) (He.ma K (He.ga K "Heap") "drop") cdv C outer s H E).env (cxOf (L2.CX P w) P w K mg base ["self", "thing", "sheet"] "Heap.drop" (defScope s_Heap_drop) (He.ma K (He.ga K "Heap") "drop") cdv C outer s H E).xe := passes_of rfl
  exact (s_cons (s_for pp rfl rfl (w_e rfl (j_attr (f := 5) (show (5 : Nat) < 18 by decide) j_var)) (g_any (vs := [2]) (j_g sc_Heap_drop.nd))
      (s_cons (s_ite (t_cmp (op := .isIn) rfl hr rfl j_var j_var)
      (s_cons (s_expr rfl (i_bm (mt := .remove) rfl PySem.F.plainAttrs_list PySem.F.slot_list_remove PySem.F.type_list_remove (mt_remove' (g := gs K) hr rfl) rfl rfl rfl (by decide) j_var (a_cons rfl j_var a_nil)))
    s_nil)
      s_nil)
    s_nil))
    (s_cons (s_ret c_int)
    s_nil))
theorem b_Store_init (T : Txt K mg) {k : Nat} (A : All P w K mg base k) {cdv : Value} {C : Around} {outer : List PySem.Env} {s : Shared} {H : Hp} {E : XK} (hr : Room (2 * k + 3) (C.deeper (envOfC "Store.__init__" (defScope s_Store_init) s.heap.objs.size (He.ma K (He.ga K "Store") "__init__") cdv))) :
    PSs (cxOf (L2.CX P w) P w K mg base ["self", "shape", "form", "kind", "key"] "Store.__init__" (defScope s_Store_init) (He.ma K (He.ga K "Store") "__init__") cdv C outer s H E) (defBody s_Store_init) (tS (gs K) (fun c d _ H => E c d H) (exs (callN Tb k) p_Store_init)) := by
  have tk : Takes (cxOf (L2.CX P w) P w K mg base ["self", "shape", "form", "kind", "key"] "Store.__init__" (defScope s_Store_init) (He.ma K (He.ga K "Store") "__init__") cdv C outer s H E) (fun c d _ H => E c d H) := takes_of rfl rfl rfl rfl
  have pp : PassesOwn (model (cxOf (L2.CX P w) P w K mg base ["self", "shape", "form", "kind", "key"] "Store.__init__" (defScope s_Store_init) (He.ma K (He.ga K "Store") "__init__") cdv C outer s H E).prog (cxOf (L2.CX P w) P w K mg base ["self", "shape", "form", "kind", "key"] "Store.__init__" (defScope s_Store_init) (He.ma K (He.ga K "Store") "__init__") cdv C outer s H E).w) (cxOf (L2.CX P w) P w K mg base ["self", "shape", "form", "kind", "key"] "Store.__init__" (defScope s_Store_init) (He.ma K (He.ga K "Store") "__init__") cdv C outer s H E).A (cxOf (L2.CX P w) P w K mg base ["self", "shape", "form", "kind", "key"] "Store.__init__" (defScope s_Store_init) (He.ma K (He.ga K "Store") "__init__") cdv C outer s H E).env (cxOf (L2.CX P w) P w K mg base ["self", "shape", "form", "kind", "key"] "Store.__init__" (defScope s_Store_init) (He.ma K (He.ga K "Store") "__init__") cdv C outer s H E).xe := passes_of rfl
  exact (s_cons (s_expr rfl (j_call (ies := [(.var 2), (.var 3), (.var 4)]) (iks := []) (ks := []) (arr := [.a 0, .a 1, .a 2]) A.f_look_store T.m_look_store tk hr _ rfl (a_cons rfl j_var (a_cons rfl j_var (a_cons rfl j_var a_nil))) k_nil (.head _)))
    (s_cons (j_asg [] j_var (j_gattr (W := noX) (f := 13) (show (13 : Nat) < 18 by decide) (List.forall_mem_cons.mpr ⟨T.na_Store_shape, (fun _ h => nomatch h)⟩) j_var))
    (s_cons (j_asg [] j_var (j_gattr (W := noX) (f := 6) (show (6 : Nat) < 18 by decide) (List.forall_mem_cons.mpr ⟨T.na_Store_form, (fun _ h => nomatch h)⟩) j_var))
    (s_cons (j_asg [] j_var (j_gattr (W := noX) (f := 10) (show (10 : Nat) < 18 by decide) (List.forall_mem_cons.mpr ⟨T.na_Store_kind, (fun _ h => nomatch h)⟩) j_var))
    (s_cons (j_asg [] j_var (j_gattr (W := noX) (f := 9) (show (9 : Nat) < 18 by decide) (List.forall_mem_cons.mpr ⟨T.na_Store_key, (fun _ h => nomatch h)⟩) j_var))
    (s_cons (j_asg [] i_dnew (j_gattr (W := noX) (f := 11) (show (11 : Nat) < 18 by decide) (List.forall_mem_cons.mpr ⟨T.na_Store_known, (fun _ h => nomatch h)⟩) j_var))
    (s_cons (j_asg [] c_int (j_gattr (W := noX) (f := 12) (show (12 : Nat) < 18 by decide) (List.forall_mem_cons.mpr ⟨T.na_Store_last, (fun _ h => nomatch h)⟩) j_var))
    (s_cons (j_asg [] (j_make (c := 2) (ies := []) (iks := [(.attr (.var 1) 17)]) (ks := ["most"]) (arr := [.a 0, .a 1]) A.f_Heap_init T.mk_Heap T.cl_Heap T.m_Heap tk hr _ rfl a_nil (k_cons (j_attr (f := 17) (show (17 : Nat) < 18 by decide) j_var) k_nil) (.head _)) (j_gattr (W := noX) (f := 7) (show (7 : Nat) < 18 by decide) (List.forall_mem_cons.mpr ⟨T.na_Store_heap, (fun _ h => nomatch h)⟩) j_var))
    (s_cons (j_asg [] c_non (j_gattr (W := noX) (f := 8) (show (8 : Nat) < 18 by decide) (List.forall_mem_cons.mpr ⟨T.na_Store_held, (fun _ h => nomatch h)⟩) j_var))
    (s_cons (s_ite (t_cmp (op := .eq) rfl hr rfl j_var (c_str (okS_of (by decide +kernel))))
      (s_cons (j_asg [] (j_make (c := 1) (ies := []) (iks := [(.attr (.var 1) 17), (.attr (.var 1) 3)]) (ks := ["most", "fan"]) (arr := [.a 0, .a 1, .a 2, .d (.tup [])]) A.f_Run_init T.mk_Run T.cl_Run T.m_Run tk hr _ rfl a_nil (k_cons (j_attr (f := 17) (show (17 : Nat) < 18 by decide) j_var) (k_cons (j_attr (f := 3) (show (3 : Nat) < 18 by decide) j_var) k_nil)) (.head _)) (j_gattr (W := noX) (f := 8) (show (8 : Nat) < 18 by decide) (List.forall_mem_cons.mpr ⟨T.na_Store_held, (fun _ h => nomatch h)⟩) j_var))
    s_nil)
      (s_cons (s_ite (t_cmp (op := .eq) rfl hr rfl j_var (c_str (okS_of (by decide +kernel))))
      (s_cons (j_asg [] (j_make (c := 0) (ies := []) (iks := [(.attr (.var 1) 15), (.attr (.var 1) 17)]) (ks := ["count", "most"]) (arr := [.a 0, .a 1, .a 2]) A.f_Buckets_init T.mk_Buckets T.cl_Buckets T.m_Buckets tk hr _ rfl a_nil (k_cons (j_attr (f := 15) (show (15 : Nat) < 18 by decide) j_var) (k_cons (j_attr (f := 17) (show (17 : Nat) < 18 by decide) j_var) k_nil)) (.head _)) (j_gattr (W := noX) (f := 8) (show (8 : Nat) < 18 by decide) (List.forall_mem_cons.mpr ⟨T.na_Store_held, (fun _ h => nomatch h)⟩) j_var))
    s_nil)
      s_nil)
    s_nil))
    s_nil))))))))))
theorem b_Store_put_thing (T : Txt K mg) {k : Nat} (A : All P w K mg base k) {cdv : Value} {C : Around} {outer : List PySem.Env} {s : Shared} {H : Hp} {E : XK} (hr : Room (2 * k + 3) (C.deeper (envOfC "Store.put_thing" (defScope s_Store_put_thing) s.heap.objs.size (He.ma K (He.ga K "Store") "put_thing") cdv))) :
    PSs (cxOf (L2.CX P w) P w K mg base ["self", "number", "thing"] "Store.put_thing" (defScope s_Store_put_thing) (He.ma K (He.ga K "Store") "put_thing") cdv C outer s H E) (defBody s_Store_put_thing) (tS (gs K) (fun c d _ H => E c d H) (exs (callN Tb k) p_Store_put_thing)) := by
  have tk : Takes (cxOf (L2.CX P w) P w K mg base ["self", "number", "thing"] "Store.put_thing" (defScope s_Store_put_thing) (He.ma K (He.ga K "Store") "put_thing") cdv C outer s H E) (fun c d _ H => E c d H) := takes_of rfl rfl rfl rfl
  have pp : PassesOwn (model (cxOf (L2.CX P w) P w K mg base ["self", "number", "thing"] "Store.put_thing" (defScope s_Store_put_thing) (He.ma K (He.ga K "Store") "put_thing") cdv C outer s H E).prog (cxOf (L2.CX P w) P w K mg base ["self", "number", "thing"] "Store.put_thing" (defScope s_Store_put_thing) (He.ma K (He.ga K "Store") "put_thing") cdv C outer s H E).w) (cxOf (L2.CX P w) P w K mg base ["self", "number", "thing"] "Store.put_thing" (defScope s_Store_put_thing) (He.ma K (He.ga K "Store") "put_thing") cdv C outer s H E).A (cxOf (L2.CX P w) P w K mg base ["self", "number", "thing"] "Store.put_thing" (defScope s_Store_put_thing) (He.ma K (He.ga K "Store") "put_thing") cdv C outer s H E).env (cxOf (L2.CX P w) P w K mg base ["self", "number", "thing"] "Store.put_thing" (defScope s_Store_put_thing) (He.ma K (He.ga K "Store") "put_thing") cdv C outer s H E).xe := passes_of rfl
  exact (s_cons (j_asg [2] (j_meth (ms := [(3, 35, [.a 0, .a 1])]) (ies := [(.var 1)]) (iks := []) (ks := []) (mok1 (mok_of A.f_Store_thing_of T.me_Store_thing_of hr (.head _))) tk _ rfl j_var (a_cons rfl j_var a_nil) k_nil) (j_g sc_Store_put_thing.nd))
    (s_cons (s_ret (i_ife (t_cmp (op := .isN) rfl hr rfl (j_attr (f := 8) (show (8 : Nat) < 18 by decide) j_var) c_non) (j_meth (ms := [(0, 16, [.a 0, .a 1]), (1, 26, [.a 0, .a 1]), (2, 30, [.a 0, .a 1]), (3, 37, [.a 0, .a 1])]) (ies := [(.var 2)]) (iks := []) (ks := []) (mokc (mok_of A.f_Buckets_put T.me_Buckets_put hr (.head _)) (mokc (mok_of A.f_Run_put T.me_Run_put hr (.head _)) (mokc (mok_of A.f_Heap_put T.me_Heap_put hr (.head _)) (mokc (mok_of A.f_Store_put T.me_Store_put hr (.head _)) mok0)))) tk _ rfl (j_attr (f := 7) (show (7 : Nat) < 18 by decide) j_var) (a_cons rfl j_var a_nil) k_nil) (j_meth (ms := [(0, 16, [.a 0, .a 1]), (1, 26, [.a 0, .a 1]), (2, 30, [.a 0, .a 1]), (3, 37, [.a 0, .a 1])]) (ies := [(.var 2)]) (iks := []) (ks := []) (mokc (mok_of A.f_Buckets_put T.me_Buckets_put hr (.head _)) (mokc (mok_of A.f_Run_put T.me_Run_put hr (.head _)) (mokc (mok_of A.f_Heap_put T.me_Heap_put hr (.head _)) (mokc (mok_of A.f_Store_put T.me_Store_put hr (.head _)) mok0)))) tk _ rfl (j_attr (f := 8) (show (8 : Nat) < 18 by decide) j_var) (a_cons rfl j_var a_nil) k_nil)))
    s_nil))
theorem b_Store_drop_thing (T : Txt K mg) {k : Nat} (A : All P w K mg base k) {cdv : Value} {C : Around} {outer : List PySem.Env} {s : Shared} {H : Hp} {E : XK} (hr : Room (2 * k + 3) (C.deeper (envOfC "Store.drop_thing" (defScope s_Store_drop_thing) s.heap.objs.size (He.ma K (He.ga K "Store") "drop_thing") cdv))) :
    PSs (cxOf (L2.CX P w) P w K mg base ["self", "number", "thing"] "Store.drop_thing" (defScope s_Store_drop_thing) (He.ma K (He.ga K "Store") "drop_thing") cdv C outer s H E) (defBody s_Store_drop_thing) (tS (gs K) (fun c d _ H => E c d H) (exs (callN Tb k) p_Store_drop_thing)) := by
  have tk : Takes (cxOf (L2.CX P w) P w K mg base ["self", "number", "thing"] "Store.drop_thing" (defScope s_Store_drop_thing) (He.ma K (He.ga K "Store") "drop_thing") cdv C outer s H E) (fun c d _ H => E c d H) := takes_of rfl rfl rfl rfl
  have pp : PassesOwn (model (cxOf (L2.CX P w) P w K mg base ["self", "number", "thing"] "Store.drop_thing" (defScope s_Store_drop_thing) (He.ma K (He.ga K "Store") "drop_thing") cdv C outer s H E).prog (cxOf (L2.CX P w) P w K mg base ["self", "number", "thing"] "Store.drop_thing" (defScope s_Store_drop_thing) (He.ma K (He.ga K "Store") "drop_thing") cdv C outer s H E).w) (cxOf (L2.CX P w) P w K mg base ["self", "number", "thing"] "Store.drop_thing" (defScope s_Store_drop_thing) (He.ma K (He.ga K "Store") "drop_thing") cdv C outer s H E).A (cxOf (L2.CX P w) P w K mg base ["self", "number", "thing"] "Store.drop_thing" (defScope s_Store_drop_thing) (He.ma K (He.ga K "Store") "drop_thing") cdv C outer s H E).env (cxOf (L2.CX P w) P w K mg base ["self", "number", "thing"] "Store.drop_thing" (defScope s_Store_drop_thing) (He.ma K (He.ga K "Store") "drop_thing") cdv C outer s H E).xe := passes_of rfl
  exact (s_cons (j_asg [2] (j_meth (ms := [(3, 35, [.a 0, .a 1])]) (ies := [(.var 1)]) (iks := []) (ks := []) (mok1 (mok_of A.f_Store_thing_of T.me_Store_thing_of hr (.head _))) tk _ rfl j_var (a_cons rfl j_var a_nil) k_nil) (j_g sc_Store_drop_thing.nd))
    (s_cons (s_ret (i_ife (t_cmp (op := .isN) rfl hr rfl (j_attr (f := 8) (show (8 : Nat) < 18 by decide) j_var) c_non) (j_meth (ms := [(0, 17, [.a 0, .a 1]), (1, 27, [.a 0, .a 1]), (2, 31, [.a 0, .a 1]), (3, 39, [.a 0, .a 1])]) (ies := [(.var 2)]) (iks := []) (ks := []) (mokc (mok_of A.f_Buckets_drop T.me_Buckets_drop hr (.head _)) (mokc (mok_of A.f_Run_drop T.me_Run_drop hr (.head _)) (mokc (mok_of A.f_Heap_drop T.me_Heap_drop hr (.head _)) (mokc (mok_of A.f_Store_drop T.me_Store_drop hr (.head _)) mok0)))) tk _ rfl (j_attr (f := 7) (show (7 : Nat) < 18 by decide) j_var) (a_cons rfl j_var a_nil) k_nil) (j_meth (ms := [(0, 17, [.a 0, .a 1]), (1, 27, [.a 0, .a 1]), (2, 31, [.a 0, .a 1]), (3, 39, [.a 0, .a 1])]) (ies := [(.var 2)]) (iks := []) (ks := []) (mokc (mok_of A.f_Buckets_drop T.me_Buckets_drop hr (.head _)) (mokc (mok_of A.f_Run_drop T.me_Run_drop hr (.head _)) (mokc (mok_of A.f_Heap_drop T.me_Heap_drop hr (.head _)) (mokc (mok_of A.f_Store_drop T.me_Store_drop hr (.head _)) mok0)))) tk _ rfl (j_attr (f := 8) (show (8 : Nat) < 18 by decide) j_var) (a_cons rfl j_var a_nil) k_nil)))
    s_nil))
theorem b_Store_thing_of (T : Txt K mg) {k : Nat} (A : All P w K mg base k) {cdv : Value} {C : Around} {outer : List PySem.Env} {s : Shared} {H : Hp} {E : XK} (hr : Room (2 * k + 3) (C.deeper (envOfC "Store.thing_of" (defScope s_Store_thing_of) s.heap.objs.size (He.ma K (He.ga K "Store") "thing_of") cdv))) :
    PSs (cxOf (L2.CX P w) P w K mg base ["self", "number"] "Store.thing_of" (defScope s_Store_thing_of) (He.ma K (He.ga K "Store") "thing_of") cdv C outer s H E) (defBody s_Store_thing_of) (tS (gs K) (fun c d _ H => E c d H) (exs (callN Tb k) p_Store_thing_of)) := by
  have tk : Takes (cxOf (L2.CX P w) P w K mg base ["self", "number"] "Store.thing_of" (defScope s_Store_thing_of) (He.ma K (He.ga K "Store") "thing_of") cdv C outer s H E) (fun c d _ H => E c d H) := takes_of rfl rfl rfl rfl
  have pp : PassesOwn (model (cxOf (L2.CX P w) P w K mg base ["self", "number"] "Store.thing_of" (defScope s_Store_thing_of) (He.ma K (He.ga K "Store") "thing_of") cdv C outer s H E).prog (cxOf (L2.CX P w) P w K mg base ["self", "number"] "Store.thing_of" (defScope s_Store_thing_of) (He.ma K (He.ga K "Store") "thing_of") cdv C outer s H E).w) (cxOf (L2.CX P w) P w K mg base ["self", "number"] "Store.thing_of" (defScope s_Store_thing_of) (He.ma K (He.ga K "Store") "thing_of") cdv C outer s H E).A (cxOf (L2.CX P w) P w K mg base ["self", "number"] "Store.thing_of" (defScope s_Store_thing_of) (He.ma K (He.ga K "Store") "thing_of") cdv C outer s H E).env (cxOf (L2.CX P w) P w K mg base ["self", "number"] "Store.thing_of" (defScope s_Store_thing_of) (He.ma K (He.ga K "Store") "thing_of") cdv C outer s H E).xe := passes_of rfl
  exact (s_cons (s_ret (i_tup (a_cons rfl (j_call (ies := [(.attr (.var 0) 6), (.didx (.attr (.var 0) 11) (.var 1)), (.attr (.var 0) 9)]) (iks := []) (ks := []) (arr := [.a 0, .a 1, .a 2]) A.f_values_of T.m_values_of tk hr _ rfl (a_cons rfl (j_attr (f := 6) (show (6 : Nat) < 18 by decide) j_var) (a_cons rfl (i_didx hr rfl (j_attr (f := 11) (show (11 : Nat) < 18 by decide) j_var) j_var) (a_cons rfl (j_attr (f := 9) (show (9 : Nat) < 18 by decide) j_var) a_nil))) k_nil (.head _)) (a_cons rfl j_var a_nil))))
    s_nil)
theorem b_Store_row (T : Txt K mg) {k : Nat} (A : All P w K mg base k) {cdv : Value} {C : Around} {outer : List PySem.Env} {s : Shared} {H : Hp} {E : XK} (hr : Room (2 * k + 3) (C.deeper (envOfC "Store.row" (defScope s_Store_row) s.heap.objs.size (He.ma K (He.ga K "Store") "row") cdv))) :
    PSs (cxOf (L2.CX P w) P w K mg base ["self", "number", "e"] "Store.row" (defScope s_Store_row) (He.ma K (He.ga K "Store") "row") cdv C outer s H E) (defBody s_Store_row) (tS (gs K) (fun c d _ H => E c d H) (exs (callN Tb k) p_Store_row)) := by
  have tk : Takes (cxOf (L2.CX P w) P w K mg base ["self", "number", "e"] "Store.row" (defScope s_Store_row) (He.ma K (He.ga K "Store") "row") cdv C outer s H E) (fun c d _ H => E c d H) := takes_of rfl rfl rfl rfl
  have pp : PassesOwn (model (cxOf (L2.CX P w) P w K mg base ["self", "number", "e"] "Store.row" (defScope s_Store_row) (He.ma K (He.ga K "Store") "row") cdv C outer s H E).prog (cxOf (L2.CX P w) P w K mg base ["self", "number", "e"] "Store.row" (defScope s_Store_row) (He.ma K (He.ga K "Store") "row") cdv C outer s H E).w) (cxOf (L2.CX P w) P w K mg base ["self", "number", "e"] "Store.row" (defScope s_Store_row) (He.ma K (He.ga K "Store") "row") cdv C outer s H E).A (cxOf (L2.CX P w) P w K mg base ["self", "number", "e"] "Store.row" (defScope s_Store_row) (He.ma K (He.ga K "Store") "row") cdv C outer s H E).env (cxOf (L2.CX P w) P w K mg base ["self", "number", "e"] "Store.row" (defScope s_Store_row) (He.ma K (He.ga K "Store") "row") cdv C outer s H E).xe := passes_of rfl
  exact (s_cons (s_ite (t_not (t_val rfl rfl (j_call (ies := [(.var 1), (.con (.int 1)), (.attr (.var 0) 12)]) (iks := []) (ks := []) (arr := [.a 0, .a 1, .a 2]) A.f_is_whole T.m_is_whole tk hr _ rfl (a_cons rfl j_var (a_cons rfl c_int (a_cons rfl (j_attr (f := 12) (show (12 : Nat) < 18 by decide) j_var) a_nil))) k_nil (.tail _ (.head _)))))
      (s_cons s_stuck
    s_nil)
      s_nil)
    (s_cons (s_blk (s_cons (s_ret (i_didx hr rfl (j_attr (f := 11) (show (11 : Nat) < 18 by decide) j_var) j_var))
    s_nil))
    s_nil))
theorem b_Store_put (T : Txt K mg) {k : Nat} (A : All P w K mg base k) {cdv : Value} {C : Around} {outer : List PySem.Env} {s : Shared} {H : Hp} {E : XK} (hr : Room (2 * k + 3) (C.deeper (envOfC "Store.put" (defScope s_Store_put) s.heap.objs.size (He.ma K (He.ga K "Store") "put") cdv))) :
    PSs (cxOf (L2.CX P w) P w K mg base ["self", "row"] "Store.put" (defScope s_Store_put) (He.ma K (He.ga K "Store") "put") cdv C outer s H E) (defBody s_Store_put) (tS (gs K) (fun c d _ H => E c d H) (exs (callN Tb k) p_Store_put)) := by
  have tk : Takes (cxOf (L2.CX P w) P w K mg base ["self", "row"] "Store.put" (defScope s_Store_put) (He.ma K (He.ga K "Store") "put") cdv C outer s H E) (fun c d _ H => E c d H) := takes_of rfl rfl rfl rfl
  have pp : PassesOwn (model (cxOf (L2.CX P w) P w K mg base ["self", "row"] "Store.put" (defScope s_Store_put) (He.ma K (He.ga K "Store") "put") cdv C outer s H E).prog (cxOf (L2.CX P w) P w K mg base ["self", "row"] "Store.put" (defScope s_Store_put) (He.ma K (He.ga K "Store") "put") cdv C outer s H E).w) (cxOf (L2.CX P w) P w K mg base ["self", "row"] "Store.put" (defScope s_Store_put) (He.ma K (He.ga K "Store") "put") cdv C outer s H E).A (cxOf (L2.CX P w) P w K mg base ["self", "row"] "Store.put" (defScope s_Store_put) (He.ma K (He.ga K "Store") "put") cdv C outer s H E).env (cxOf (L2.CX P w) P w K mg base ["self", "row"] "Store.put" (defScope s_Store_put) (He.ma K (He.ga K "Store") "put") cdv C outer s H E).xe := passes_of rfl
  exact (s_cons (s_ite (t_not (t_val rfl rfl (j_call (ies := [(.attr (.var 0) 6), (.var 1)]) (iks := []) (ks := []) (arr := [.a 0, .a 1]) A.f_is_row T.m_is_row tk hr _ rfl (a_cons rfl (j_attr (f := 6) (show (6 : Nat) < 18 by decide) j_var) (a_cons rfl j_var a_nil)) k_nil (.head _))))
      (s_cons s_stuck
    s_nil)
      s_nil)
    (s_cons (s_ite (t_cmp (op := .eq) rfl hr rfl (j_attr (f := 12) (show (12 : Nat) < 18 by decide) j_var) (c_gI T.g_MOST_ROWS))
      (s_cons s_stuck
    s_nil)
      s_nil)
    (s_cons (s_ret (j_meth (ms := [(3, 38, [.a 0, .a 1])]) (ies := [(.var 1)]) (iks := []) (ks := []) (mok1 (mok_of A.f_Store_put_row T.me_Store_put_row hr (.head _))) tk _ rfl j_var (a_cons rfl j_var a_nil) k_nil))
    s_nil)))
theorem b_Store_put_row (T : Txt K mg) {k : Nat} (A : All P w K mg base k) {cdv : Value} {C : Around} {outer : List PySem.Env} {s : Shared} {H : Hp} {E : XK} (hr : Room (2 * k + 3) (C.deeper (envOfC "Store.put_row" (defScope s_Store_put_row) s.heap.objs.size (He.ma K (He.ga K "Store") "put_row") cdv))) :
    PSs (cxOf (L2.CX P w) P w K mg base ["self", "row"] "Store.put_row" (defScope s_Store_put_row) (He.ma K (He.ga K "Store") "put_row") cdv C outer s H E) (defBody s_Store_put_row) (tS (gs K) (fun c d _ H => E c d H) (exs (callN Tb k) p_Store_put_row)) := by
  have tk : Takes (cxOf (L2.CX P w) P w K mg base ["self", "row"] "Store.put_row" (defScope s_Store_put_row) (He.ma K (He.ga K "Store") "put_row") cdv C outer s H E) (fun c d _ H => E c d H) := takes_of rfl rfl rfl rfl
  have pp : PassesOwn (model (cxOf (L2.CX P w) P w K mg base ["self", "row"] "Store.put_row" (defScope s_Store_put_row) (He.ma K (He.ga K "Store") "put_row") cdv C outer s H E).prog (cxOf (L2.CX P w) P w K mg base ["self", "row"] "Store.put_row" (defScope s_Store_put_row) (He.ma K (He.ga K "Store") "put_row") cdv C outer s H E).w) (cxOf (L2.CX P w) P w K mg base ["self", "row"] "Store.put_row" (defScope s_Store_put_row) (He.ma K (He.ga K "Store") "put_row") cdv C outer s H E).A (cxOf (L2.CX P w) P w K mg base ["self", "row"] "Store.put_row" (defScope s_Store_put_row) (He.ma K (He.ga K "Store") "put_row") cdv C outer s H E).env (cxOf (L2.CX P w) P w K mg base ["self", "row"] "Store.put_row" (defScope s_Store_put_row) (He.ma K (He.ga K "Store") "put_row") cdv C outer s H E).xe := passes_of rfl
  exact (s_cons (j_faug (f := 12) (op := .add) (show (12 : Nat) < 18 by decide) j_var c_int)
    (s_cons (j_asg [] j_var (g_didx (W := noX) hr rfl (j_attr (f := 11) (show (11 : Nat) < 18 by decide) j_var) (j_attr (f := 12) (show (12 : Nat) < 18 by decide) j_var)))
    (s_cons (s_ret (i_tup (a_cons rfl (j_attr (f := 12) (show (12 : Nat) < 18 by decide) j_var) (a_cons rfl (j_meth (ms := [(3, 33, [.a 0, .a 1])]) (ies := [(.attr (.var 0) 12)]) (iks := []) (ks := []) (mok1 (mok_of A.f_Store_put_thing T.me_Store_put_thing hr (.head _))) tk _ rfl j_var (a_cons rfl (j_attr (f := 12) (show (12 : Nat) < 18 by decide) j_var) a_nil) k_nil) a_nil))))
    s_nil)))
theorem b_Store_drop (T : Txt K mg) {k : Nat} (A : All P w K mg base k) {cdv : Value} {C : Around} {outer : List PySem.Env} {s : Shared} {H : Hp} {E : XK} (hr : Room (2 * k + 3) (C.deeper (envOfC "Store.drop" (defScope s_Store_drop) s.heap.objs.size (He.ma K (He.ga K "Store") "drop") cdv))) :
    PSs (cxOf (L2.CX P w) P w K mg base ["self", "number", "touched"] "Store.drop" (defScope s_Store_drop) (He.ma K (He.ga K "Store") "drop") cdv C outer s H E) (defBody s_Store_drop) (tS (gs K) (fun c d _ H => E c d H) (exs (callN Tb k) p_Store_drop)) := by
  have tk : Takes (cxOf (L2.CX P w) P w K mg base ["self", "number", "touched"] "Store.drop" (defScope s_Store_drop) (He.ma K (He.ga K "Store") "drop") cdv C outer s H E) (fun c d _ H => E c d H) := takes_of rfl rfl rfl rfl
  have pp : PassesOwn (model (cxOf (L2.CX P w) P w K mg base ["self", "number", "touched"] "Store.drop" (defScope s_Store_drop) (He.ma K (He.ga K "Store") "drop") cdv C outer s H E).prog (cxOf (L2.CX P w) P w K mg base ["self", "number", "touched"] "Store.drop" (defScope s_Store_drop) (He.ma K (He.ga K "Store") "drop") cdv C outer s H E).w) (cxOf (L2.CX P w) P w K mg base ["self", "number", "touched"] "Store.drop" (defScope s_Store_drop) (He.ma K (He.ga K "Store") "drop") cdv C outer s H E).A (cxOf (L2.CX P w) P w K mg base ["self", "number", "touched"] "Store.drop" (defScope s_Store_drop) (He.ma K (He.ga K "Store") "drop") cdv C outer s H E).env (cxOf (L2.CX P w) P w K mg base ["self", "number", "touched"] "Store.drop" (defScope s_Store_drop) (He.ma K (He.ga K "Store") "drop") cdv C outer s H E).xe := passes_of rfl
  exact (s_cons (s_expr rfl (j_meth (ms := [(3, 36, [.a 0, .a 1])]) (ies := [(.var 1)]) (iks := []) (ks := []) (mok1 (mok_of A.f_Store_row T.me_Store_row hr (.head _))) tk _ rfl j_var (a_cons rfl j_var a_nil) k_nil))
    (s_cons (j_asg [2] (j_meth (ms := [(3, 34, [.a 0, .a 1])]) (ies := [(.var 1)]) (iks := []) (ks := []) (mok1 (mok_of A.f_Store_drop_thing T.me_Store_drop_thing hr (.head _))) tk _ rfl j_var (a_cons rfl j_var a_nil) k_nil) (j_g sc_Store_drop.nd))
    (s_cons (s_expr rfl (i_dpop (j_attr (f := 11) (show (11 : Nat) < 18 by decide) j_var) j_var ⟨by rfl, by rfl, rfl, by rfl⟩))
    (s_cons (s_ret j_var)
    s_nil))))
theorem b_Store_change (T : Txt K mg) {k : Nat} (A : All P w K mg base k) {cdv : Value} {C : Around} {outer : List PySem.Env} {s : Shared} {H : Hp} {E : XK} (hr : Room (2 * k + 3) (C.deeper (envOfC "Store.change" (defScope s_Store_change) s.heap.objs.size (He.ma K (He.ga K "Store") "change") cdv))) :
    PSs (cxOf (L2.CX P w) P w K mg base ["self", "number", "column", "value", "row", "changed", "touched", "name", "one"] "Store.change" (defScope s_Store_change) (He.ma K (He.ga K "Store") "change") cdv C outer s H E) (defBody s_Store_change) (tS (gs K) (fun c d _ H => E c d H) (exs (callN Tb k) p_Store_change)) := by
  have tk : Takes (cxOf (L2.CX P w) P w K mg base ["self", "number", "column", "value", "row", "changed", "touched", "name", "one"] "Store.change" (defScope s_Store_change) (He.ma K (He.ga K "Store") "change") cdv C outer s H E) (fun c d _ H => E c d H) := takes_of rfl rfl rfl rfl
  have pp : PassesOwn (model (cxOf (L2.CX P w) P w K mg base ["self", "number", "column", "value", "row", "changed", "touched", "name", "one"] "Store.change" (defScope s_Store_change) (He.ma K (He.ga K "Store") "change") cdv C outer s H E).prog (cxOf (L2.CX P w) P w K mg base ["self", "number", "column", "value", "row", "changed", "touched", "name", "one"] "Store.change" (defScope s_Store_change) (He.ma K (He.ga K "Store") "change") cdv C outer s H E).w) (cxOf (L2.CX P w) P w K mg base ["self", "number", "column", "value", "row", "changed", "touched", "name", "one"] "Store.change" (defScope s_Store_change) (He.ma K (He.ga K "Store") "change") cdv C outer s H E).A (cxOf (L2.CX P w) P w K mg base ["self", "number", "column", "value", "row", "changed", "touched", "name", "one"] "Store.change" (defScope s_Store_change) (He.ma K (He.ga K "Store") "change") cdv C outer s H E).env (cxOf (L2.CX P w) P w K mg base ["self", "number", "column", "value", "row", "changed", "touched", "name", "one"] "Store.change" (defScope s_Store_change) (He.ma K (He.ga K "Store") "change") cdv C outer s H E).xe := passes_of rfl
  exact (s_cons (j_asg [4] (j_meth (ms := [(3, 36, [.a 0, .a 1])]) (ies := [(.var 1)]) (iks := []) (ks := []) (mok1 (mok_of A.f_Store_row T.me_Store_row hr (.head _))) tk _ rfl j_var (a_cons rfl j_var a_nil) k_nil) (j_g sc_Store_change.nd))
    (s_cons (s_ite (t_cmp (op := .eq) rfl hr rfl (j_call (ies := [(.attr (.var 0) 6), (.var 4), (.var 2)]) (iks := []) (ks := []) (arr := [.a 0, .a 1, .a 2]) A.f_value_of T.m_value_of tk hr _ rfl (a_cons rfl (j_attr (f := 6) (show (6 : Nat) < 18 by decide) j_var) (a_cons rfl j_var (a_cons rfl j_var a_nil))) k_nil (.head _)) j_var)
      (s_cons (s_ret c_int)
    s_nil)
      s_nil)
    (s_cons (s_setLc (i := 5) (own := [("name", 7), ("one", 8)]) rfl sc_Store_change.nd rfl rfl (sw_true rfl rfl rfl (by decide +kernel)) rfl (w_zipS rfl T.n_zip rfl rfl (a_cons rfl (i_untup (j_call (ies := [(.attr (.var 0) 6)]) (iks := []) (ks := []) (arr := [.a 0]) A.f_names_of T.m_names_of tk hr _ rfl (a_cons rfl (j_attr (f := 6) (show (6 : Nat) < 18 by decide) j_var) a_nil) k_nil (.head _))) (a_cons rfl j_var a_nil)) (k_cons c_bl k_nil)) (blkOk_by (by kernel_rfl)) (fun _ _ _ _ _ => (g_tup rfl rfl rfl rfl (gs_cons rfl (j_g sc_Store_change.nd) (gs_cons rfl (j_g sc_Store_change.nd) gs_nil)))) (fun _ _ _ _ _ => ifs_nil) (fun _ _ _ _ _ => (i_ife (t_cmp (op := .eq) rfl hr rfl j_var j_var) j_var j_var)))
    (s_cons (j_asg [6] c_int (j_g sc_Store_change.nd))
    (s_cons (s_ite (t_cmp (op := .isIn) rfl hr rfl j_var (j_attr (f := 9) (show (9 : Nat) < 18 by decide) j_var))
      (s_cons (j_asg [6] (j_meth (ms := [(3, 34, [.a 0, .a 1])]) (ies := [(.var 1)]) (iks := []) (ks := []) (mok1 (mok_of A.f_Store_drop_thing T.me_Store_drop_thing hr (.head _))) tk _ rfl j_var (a_cons rfl j_var a_nil) k_nil) (j_g sc_Store_change.nd))
    s_nil)
      s_nil)
    (s_cons (j_asg [] (j_bi (.tuple1) hr T.n_tuple (a_cons rfl j_var a_nil)) (g_didx (W := noX) hr rfl (j_attr (f := 11) (show (11 : Nat) < 18 by decide) j_var) j_var))
    (s_cons (s_ite (t_cmp (op := .isIn) rfl hr rfl j_var (j_attr (f := 9) (show (9 : Nat) < 18 by decide) j_var))
      (s_cons (s_aug (i := 6) (op := .add) sc_Store_change.nd rfl (.inl rfl) (.inr rfl) (.inl rfl) (j_meth (ms := [(3, 33, [.a 0, .a 1])]) (ies := [(.var 1)]) (iks := []) (ks := []) (mok1 (mok_of A.f_Store_put_thing T.me_Store_put_thing hr (.head _))) tk _ rfl j_var (a_cons rfl j_var a_nil) k_nil))
    s_nil)
      s_nil)
    (s_cons (s_ret j_var)
    s_nil))))))))
theorem b_Store_pages (T : Txt K mg) {k : Nat} (A : All P w K mg base k) {cdv : Value} {C : Around} {outer : List PySem.Env} {s : Shared} {H : Hp} {E : XK} (hr : Room (2 * k + 3) (C.deeper (envOfC "Store.pages" (defScope s_Store_pages) s.heap.objs.size (He.ma K (He.ga K "Store") "pages") cdv))) :
    PSs (cxOf (L2.CX P w) P w K mg base ["self", "pages", "bucket", "page", "values", "number"] "Store.pages" (defScope s_Store_pages) (He.ma K (He.ga K "Store") "pages") cdv C outer s H E) (defBody s_Store_pages) (tS (gs K) (fun c d _ H => E c d H) (exs (callN Tb k) p_Store_pages)) := by
  have tk : Takes (cxOf (L2.CX P w) P w K mg base ["self", "pages", "bucket", "page", "values", "number"] "Store.pages" (defScope s_Store_pages) (He.ma K (He.ga K "Store") "pages") cdv C outer s H E) (fun c d _ H => E c d H) := takes_of rfl rfl rfl rfl
  have pp : PassesOwn (model (cxOf (L2.CX P w) P w K mg base ["self", "pages", "bucket", "page", "values", "number"] "Store.pages" (defScope s_Store_pages) (He.ma K (He.ga K "Store") "pages") cdv C outer s H E).prog (cxOf (L2.CX P w) P w K mg base ["self", "pages", "bucket", "page", "values", "number"] "Store.pages" (defScope s_Store_pages) (He.ma K (He.ga K "Store") "pages") cdv C outer s H E).w) (cxOf (L2.CX P w) P w K mg base ["self", "pages", "bucket", "page", "values", "number"] "Store.pages" (defScope s_Store_pages) (He.ma K (He.ga K "Store") "pages") cdv C outer s H E).A (cxOf (L2.CX P w) P w K mg base ["self", "pages", "bucket", "page", "values", "number"] "Store.pages" (defScope s_Store_pages) (He.ma K (He.ga K "Store") "pages") cdv C outer s H E).env (cxOf (L2.CX P w) P w K mg base ["self", "pages", "bucket", "page", "values", "number"] "Store.pages" (defScope s_Store_pages) (He.ma K (He.ga K "Store") "pages") cdv C outer s H E).xe := passes_of rfl
  exact (s_cons (s_ite (t_cmp (op := .eq) rfl hr rfl (j_attr (f := 10) (show (10 : Nat) < 18 by decide) j_var) (c_str (okS_of (by decide +kernel))))
      (s_cons (s_ret (i_lc2 (own := [("bucket", 2), ("page", 3)]) (own1 := [3]) rfl sc_Store_pages.nd rfl rfl (w_e rfl (j_attr (f := 0) (show (0 : Nat) < 18 by decide) (j_attr (f := 8) (show (8 : Nat) < 18 by decide) j_var))) (blkOk_by (by kernel_rfl)) (by decide) (fun _ _ _ _ _ => (j_g sc_Store_pages.nd)) (fun _ _ _ _ _ => ifs_nil) (fun _ _ _ _ _ => (w_e rfl j_var)) (fun _ _ _ _ _ => (j_g sc_Store_pages.nd)) (fun _ _ _ _ _ => ifs_nil) (fun _ _ _ _ _ => (i_lc (own := [("values", 4), ("number", 5)]) rfl sc_Store_pages.nd rfl (w_e rfl j_var) (blkOk_by (by kernel_rfl)) (fun _ _ _ _ _ => (g_tup rfl rfl rfl rfl (gs_cons rfl (j_g sc_Store_pages.nd) (gs_cons rfl (j_g sc_Store_pages.nd) gs_nil)))) (fun _ _ _ _ _ => ifs_nil) (fun _ _ _ _ _ => j_var)))))
    s_nil)
      s_nil)
    (s_cons (j_asg [1] (i_ife (t_cmp (op := .eq) rfl hr rfl (j_attr (f := 10) (show (10 : Nat) < 18 by decide) j_var) (c_str (okS_of (by decide +kernel)))) (j_attr (f := 5) (show (5 : Nat) < 18 by decide) (j_attr (f := 7) (show (7 : Nat) < 18 by decide) j_var)) (j_attr (f := 4) (show (4 : Nat) < 18 by decide) (j_attr (f := 8) (show (8 : Nat) < 18 by decide) j_var))) (j_g sc_Store_pages.nd))
    (s_cons (s_ret (i_lc (own := [("page", 3)]) rfl sc_Store_pages.nd rfl (w_e rfl j_var) (blkOk_by (by kernel_rfl)) (fun _ _ _ _ _ => (j_g sc_Store_pages.nd)) (fun _ _ _ _ _ => ifs_nil) (fun _ _ _ _ _ => (i_lc (own := [("values", 4), ("number", 5)]) rfl sc_Store_pages.nd rfl (w_e rfl j_var) (blkOk_by (by kernel_rfl)) (fun _ _ _ _ _ => (g_tup rfl rfl rfl rfl (gs_cons rfl (j_g sc_Store_pages.nd) (gs_cons rfl (j_g sc_Store_pages.nd) gs_nil)))) (fun _ _ _ _ _ => ifs_nil) (fun _ _ _ _ _ => j_var)))))
    s_nil)))
theorem b_Store_all_rows (T : Txt K mg) {k : Nat} (A : All P w K mg base k) {cdv : Value} {C : Around} {outer : List PySem.Env} {s : Shared} {H : Hp} {E : XK} (hr : Room (2 * k + 3) (C.deeper (envOfC "Store.all_rows" (defScope s_Store_all_rows) s.heap.objs.size (He.ma K (He.ga K "Store") "all_rows") cdv))) :
    PSs (cxOf (L2.CX P w) P w K mg base ["self", "number", "row"] "Store.all_rows" (defScope s_Store_all_rows) (He.ma K (He.ga K "Store") "all_rows") cdv C outer s H E) (defBody s_Store_all_rows) (tS (gs K) (fun c d _ H => E c d H) (exs (callN Tb k) p_Store_all_rows)) := by
  have tk : Takes (cxOf (L2.CX P w) P w K mg base ["self", "number", "row"] "Store.all_rows" (defScope s_Store_all_rows) (He.ma K (He.ga K "Store") "all_rows") cdv C outer s H E) (fun c d _ H => E c d H) := takes_of rfl rfl rfl rfl
  have pp : PassesOwn (model (cxOf (L2.CX P w) P w K mg base ["self", "number", "row"] "Store.all_rows" (defScope s_Store_all_rows) (He.ma K (He.ga K "Store") "all_rows") cdv C outer s H E).prog (cxOf (L2.CX P w) P w K mg base ["self", "number", "row"] "Store.all_rows" (defScope s_Store_all_rows) (He.ma K (He.ga K "Store") "all_rows") cdv C outer s H E).w) (cxOf (L2.CX P w) P w K mg base ["self", "number", "row"] "Store.all_rows" (defScope s_Store_all_rows) (He.ma K (He.ga K "Store") "all_rows") cdv C outer s H E).A (cxOf (L2.CX P w) P w K mg base ["self", "number", "row"] "Store.all_rows" (defScope s_Store_all_rows) (He.ma K (He.ga K "Store") "all_rows") cdv C outer s H E).env (cxOf (L2.CX P w) P w K mg base ["self", "number", "row"] "Store.all_rows" (defScope s_Store_all_rows) (He.ma K (He.ga K "Store") "all_rows") cdv C outer s H E).xe := passes_of rfl
  exact (s_cons (s_ret (j_bi (.sorted1 true) hr T.n_sorted (a_cons rfl (i_lock (de := (.attr (.var 0) 11)) (i_lc (own := [("number", 1), ("row", 2)]) rfl sc_Store_all_rows.nd rfl (w_items rfl (j_attr (f := 11) (show (11 : Nat) < 18 by decide) j_var)) (blkOk_by (by kernel_rfl)) (fun _ _ _ _ _ => (g_tup rfl rfl rfl rfl (gs_cons rfl (j_g sc_Store_all_rows.nd) (gs_cons rfl (j_g sc_Store_all_rows.nd) gs_nil)))) (fun _ _ _ _ _ => ifs_nil) (fun _ _ _ _ _ => (i_tup (a_cons rfl j_var (a_cons rfl j_var a_nil)))))) a_nil)))
    s_nil)
theorem b_Shape_init (T : Txt K mg) {k : Nat} (A : All P w K mg base k) {cdv : Value} {C : Around} {outer : List PySem.Env} {s : Shared} {H : Hp} {E : XK} (hr : Room (2 * k + 3) (C.deeper (envOfC "Shape.__init__" (defScope s_Shape_init) s.heap.objs.size (He.ma K (He.ga K "Shape") "__init__") cdv))) :
    PSs (cxOf (L2.CX P w) P w K mg base ["self", "rows", "entries", "fan", "buckets", "bits", "bounds", "name", "thing", "low", "high"] "Shape.__init__" (defScope s_Shape_init) (He.ma K (He.ga K "Shape") "__init__") cdv C outer s H E) (defBody s_Shape_init) (tS (gs K) (fun c d _ H => E c d H) (exs (callN Tb k) p_Shape_init)) := by
  have tk : Takes (cxOf (L2.CX P w) P w K mg base ["self", "rows", "entries", "fan", "buckets", "bits", "bounds", "name", "thing", "low", "high"] "Shape.__init__" (defScope s_Shape_init) (He.ma K (He.ga K "Shape") "__init__") cdv C outer s H E) (fun c d _ H => E c d H) := takes_of rfl rfl rfl rfl
  have pp : PassesOwn (model (cxOf (L2.CX P w) P w K mg base ["self", "rows", "entries", "fan", "buckets", "bits", "bounds", "name", "thing", "low", "high"] "Shape.__init__" (defScope s_Shape_init) (He.ma K (He.ga K "Shape") "__init__") cdv C outer s H E).prog (cxOf (L2.CX P w) P w K mg base ["self", "rows", "entries", "fan", "buckets", "bits", "bounds", "name", "thing", "low", "high"] "Shape.__init__" (defScope s_Shape_init) (He.ma K (He.ga K "Shape") "__init__") cdv C outer s H E).w) (cxOf (L2.CX P w) P w K mg base ["self", "rows", "entries", "fan", "buckets", "bits", "bounds", "name", "thing", "low", "high"] "Shape.__init__" (defScope s_Shape_init) (He.ma K (He.ga K "Shape") "__init__") cdv C outer s H E).A (cxOf (L2.CX P w) P w K mg base ["self", "rows", "entries", "fan", "buckets", "bits", "bounds", "name", "thing", "low", "high"] "Shape.__init__" (defScope s_Shape_init) (He.ma K (He.ga K "Shape") "__init__") cdv C outer s H E).env (cxOf (L2.CX P w) P w K mg base ["self", "rows", "entries", "fan", "buckets", "bits", "bounds", "name", "thing", "low", "high"] "Shape.__init__" (defScope s_Shape_init) (He.ma K (He.ga K "Shape") "__init__") cdv C outer s H E).xe := passes_of rfl
  exact (s_cons (j_asg [6] (i_ddisp (pps_cons pe_keyS (i_tup (a_cons rfl j_var (a_cons rfl (c_gI T.g_LEAST_PAGE) (a_cons rfl (c_gI T.g_MOST_PAGE) a_nil)))) (pps_cons pe_keyS (i_tup (a_cons rfl j_var (a_cons rfl (c_gI T.g_LEAST_PAGE) (a_cons rfl (c_gI T.g_MOST_PAGE) a_nil)))) (pps_cons pe_keyS (i_tup (a_cons rfl j_var (a_cons rfl (c_gI T.g_LEAST_PAGE) (a_cons rfl (c_gI T.g_MOST_PAGE) a_nil)))) (pps_cons pe_keyS (i_tup (a_cons rfl j_var (a_cons rfl c_int (a_cons rfl (c_gI T.g_MOST_PAGE) a_nil)))) (pps_cons pe_keyS (i_tup (a_cons rfl j_var (a_cons rfl (c_gI T.g_LEAST_PAGE) (a_cons rfl (c_gI T.g_MOST_BITS) a_nil)))) pps_nil))))) (List.forall_mem_cons.mpr ⟨okS_of (by decide +kernel), (List.forall_mem_cons.mpr ⟨okS_of (by decide +kernel), (List.forall_mem_cons.mpr ⟨okS_of (by decide +kernel), (List.forall_mem_cons.mpr ⟨okS_of (by decide +kernel), (List.forall_mem_cons.mpr ⟨okS_of (by decide +kernel), (fun _ h => nomatch h)⟩)⟩)⟩)⟩)⟩)) (j_g sc_Shape_init.nd))
    (s_cons (s_lock (de := (.var 6)) (s_for pp rfl rfl (w_items rfl j_var) (g_any (vs := [7, 8, 9, 10]) (g_tup rfl rfl rfl rfl (gs_cons rfl (j_g sc_Shape_init.nd) (gs_cons rfl (g_tup rfl rfl rfl rfl (gs_cons rfl (j_g sc_Shape_init.nd) (gs_cons rfl (j_g sc_Shape_init.nd) (gs_cons rfl (j_g sc_Shape_init.nd) gs_nil)))) gs_nil))))
      (s_cons (s_ite (t_not (t_val rfl rfl (j_call (ies := [(.var 8), (.var 9), (.var 10)]) (iks := []) (ks := []) (arr := [.a 0, .a 1, .a 2]) A.f_is_whole T.m_is_whole tk hr _ rfl (a_cons rfl j_var (a_cons rfl j_var (a_cons rfl j_var a_nil))) k_nil (.tail _ (.head _)))))
      (s_cons s_stuck
    s_nil)
      s_nil)
    s_nil)))
    (s_cons (j_asg [] j_var (j_gattr (W := noX) (f := 17) (show (17 : Nat) < 18 by decide) (List.forall_mem_cons.mpr ⟨T.na_Shape_rows, (fun _ h => nomatch h)⟩) j_var))
    (s_cons (j_asg [] j_var (j_gattr (W := noX) (f := 16) (show (16 : Nat) < 18 by decide) (List.forall_mem_cons.mpr ⟨T.na_Shape_entries, (fun _ h => nomatch h)⟩) j_var))
    (s_cons (j_asg [] j_var (j_gattr (W := noX) (f := 3) (show (3 : Nat) < 18 by decide) (List.forall_mem_cons.mpr ⟨T.na_Run_fan, (List.forall_mem_cons.mpr ⟨T.na_Shape_fan, (fun _ h => nomatch h)⟩)⟩) j_var))
    (s_cons (j_asg [] j_var (j_gattr (W := noX) (f := 15) (show (15 : Nat) < 18 by decide) (List.forall_mem_cons.mpr ⟨T.na_Shape_buckets, (fun _ h => nomatch h)⟩) j_var))
    (s_cons (j_asg [] j_var (j_gattr (W := noX) (f := 14) (show (14 : Nat) < 18 by decide) (List.forall_mem_cons.mpr ⟨T.na_Shape_bits, (fun _ h => nomatch h)⟩) j_var))
    s_nil)))))))
theorem b_l_bag (T : Txt K mg) {k : Nat} (A : All P w K mg base k) {cdv : Value} {C : Around} {outer : List PySem.Env} {s : Shared} {H : Hp} {E : XK} (hr : Room (2 * k + 3) (C.deeper (envOfC "_law_bag" (defScope s_l_bag) s.heap.objs.size (He.ga K "_law_bag") cdv))) :
    PSs (cxOf (L2.CX P w) P w K mg base ["_law_script", "_law_at", "_law_cell", "_law_great", "_law_primes"] "_law_bag" (defScope s_l_bag) (He.ga K "_law_bag") cdv C outer s H E) (defBody s_l_bag) (tS (gs K) (fun c d _ H => E c d H) (exs (callN Tb k) p_l_bag)) := by
  have tk : Takes (cxOf (L2.CX P w) P w K mg base ["_law_script", "_law_at", "_law_cell", "_law_great", "_law_primes"] "_law_bag" (defScope s_l_bag) (He.ga K "_law_bag") cdv C outer s H E) (fun c d _ H => E c d H) := takes_of rfl rfl rfl rfl
  have pp : PassesOwn (model (cxOf (L2.CX P w) P w K mg base ["_law_script", "_law_at", "_law_cell", "_law_great", "_law_primes"] "_law_bag" (defScope s_l_bag) (He.ga K "_law_bag") cdv C outer s H E).prog (cxOf (L2.CX P w) P w K mg base ["_law_script", "_law_at", "_law_cell", "_law_great", "_law_primes"] "_law_bag" (defScope s_l_bag) (He.ga K "_law_bag") cdv C outer s H E).w) (cxOf (L2.CX P w) P w K mg base ["_law_script", "_law_at", "_law_cell", "_law_great", "_law_primes"] "_law_bag" (defScope s_l_bag) (He.ga K "_law_bag") cdv C outer s H E).A (cxOf (L2.CX P w) P w K mg base ["_law_script", "_law_at", "_law_cell", "_law_great", "_law_primes"] "_law_bag" (defScope s_l_bag) (He.ga K "_law_bag") cdv C outer s H E).env (cxOf (L2.CX P w) P w K mg base ["_law_script", "_law_at", "_law_cell", "_law_great", "_law_primes"] "_law_bag" (defScope s_l_bag) (He.ga K "_law_bag") cdv C outer s H E).xe := passes_of rfl
  exact (s_cons (j_asg [2] c_int (j_g sc_l_bag.nd))
    (s_cons (s_ite (t_cmp (op := .lt) rfl hr rfl j_var (j_bi (.len) hr T.n_len (a_cons rfl j_var a_nil)))
      (s_cons (j_asg [2] (i_idx rfl rfl j_var j_var) (j_g sc_l_bag.nd))
    s_nil)
      s_nil)
    (s_cons (j_asg [3] c_int (j_g sc_l_bag.nd))
    (s_cons (s_ite (t_cmp (op := .ge) rfl hr rfl (j_bi (.abs) hr T.n_abs (a_cons rfl j_var a_nil)) (i_bin (op := .pow) rfl c_int c_int))
      (s_cons (j_asg [3] (j_bi (.abs) hr T.n_abs (a_cons rfl j_var a_nil)) (j_g sc_l_bag.nd))
    s_nil)
      s_nil)
    (s_cons (j_asg [4] (i_lst (a_cons rfl c_int (a_cons rfl c_int (a_cons rfl c_int (a_cons rfl c_int (a_cons rfl c_int (a_cons rfl c_int (a_cons rfl c_int (a_cons rfl c_int a_nil))))))))) (j_g sc_l_bag.nd))
    (s_cons (s_ret (i_lst (a_cons rfl j_var (a_cons rfl (i_bin (op := .mod) rfl (i_bin (op := .pow) rfl (i_bin (op := .add) rfl (i_bin (op := .add) rfl (i_bin (op := .mod) rfl j_var c_int) (i_bin (op := .mul) rfl c_int j_var)) c_int) c_int) (i_idx rfl rfl j_var (i_bin (op := .mod) rfl j_var c_int))) a_nil))))
    s_nil))))))
theorem b_l_take (T : Txt K mg) {k : Nat} (A : All P w K mg base k) {cdv : Value} {C : Around} {outer : List PySem.Env} {s : Shared} {H : Hp} {E : XK} (hr : Room (2 * k + 3) (C.deeper (envOfC "_law_take" (defScope s_l_take) s.heap.objs.size (He.ga K "_law_take") cdv))) :
    PSs (cxOf (L2.CX P w) P w K mg base ["_law_bag_here", "_law_many", "_law_digit"] "_law_take" (defScope s_l_take) (He.ga K "_law_take") cdv C outer s H E) (defBody s_l_take) (tS (gs K) (fun c d _ H => E c d H) (exs (callN Tb k) p_l_take)) := by
  have tk : Takes (cxOf (L2.CX P w) P w K mg base ["_law_bag_here", "_law_many", "_law_digit"] "_law_take" (defScope s_l_take) (He.ga K "_law_take") cdv C outer s H E) (fun c d _ H => E c d H) := takes_of rfl rfl rfl rfl
  have pp : PassesOwn (model (cxOf (L2.CX P w) P w K mg base ["_law_bag_here", "_law_many", "_law_digit"] "_law_take" (defScope s_l_take) (He.ga K "_law_take") cdv C outer s H E).prog (cxOf (L2.CX P w) P w K mg base ["_law_bag_here", "_law_many", "_law_digit"] "_law_take" (defScope s_l_take) (He.ga K "_law_take") cdv C outer s H E).w) (cxOf (L2.CX P w) P w K mg base ["_law_bag_here", "_law_many", "_law_digit"] "_law_take" (defScope s_l_take) (He.ga K "_law_take") cdv C outer s H E).A (cxOf (L2.CX P w) P w K mg base ["_law_bag_here", "_law_many", "_law_digit"] "_law_take" (defScope s_l_take) (He.ga K "_law_take") cdv C outer s H E).env (cxOf (L2.CX P w) P w K mg base ["_law_bag_here", "_law_many", "_law_digit"] "_law_take" (defScope s_l_take) (He.ga K "_law_take") cdv C outer s H E).xe := passes_of rfl
  exact (s_cons (s_ite (t_cmp (op := .gt) rfl hr rfl (i_idx rfl rfl j_var c_int) c_int)
      (s_cons (j_asg [2] (i_bin (op := .mod) rfl (i_idx rfl rfl j_var c_int) j_var) (j_g sc_l_take.nd))
    (s_cons (j_asg [] (i_bin (op := .div) rfl (i_idx rfl rfl j_var c_int) j_var) (g_idx (W := noX) rfl j_var c_int))
    (s_cons (s_ret j_var)
    s_nil)))
      s_nil)
    (s_cons (j_asg [] (i_bin (op := .mod) rfl (i_bin (op := .add) rfl (i_bin (op := .mul) rfl (i_idx rfl rfl j_var c_int) c_int) c_int) c_int) (g_idx (W := noX) rfl j_var c_int))
    (s_cons (s_ret (i_bin (op := .mod) rfl (i_bin (op := .mod) rfl (i_bin (op := .pow) rfl (i_bin (op := .div) rfl (i_idx rfl rfl j_var c_int) c_int) c_int) c_int) j_var))
    s_nil)))
theorem b_l_names (T : Txt K mg) {k : Nat} (A : All P w K mg base k) {cdv : Value} {C : Around} {outer : List PySem.Env} {s : Shared} {H : Hp} {E : XK} (hr : Room (2 * k + 3) (C.deeper (envOfC "_law_names" (defScope s_l_names) s.heap.objs.size (He.ga K "_law_names") cdv))) :
    PSs (cxOf (L2.CX P w) P w K mg base ["_law_bag_here", "_law_many", "_law_letters", "_law_found", "_law_k", "_law_size", "_law_stem", "_law_turn"] "_law_names" (defScope s_l_names) (He.ga K "_law_names") cdv C outer s H E) (defBody s_l_names) (tS (gs K) (fun c d _ H => E c d H) (exs (callN Tb k) p_l_names)) := by
  have tk : Takes (cxOf (L2.CX P w) P w K mg base ["_law_bag_here", "_law_many", "_law_letters", "_law_found", "_law_k", "_law_size", "_law_stem", "_law_turn"] "_law_names" (defScope s_l_names) (He.ga K "_law_names") cdv C outer s H E) (fun c d _ H => E c d H) := takes_of rfl rfl rfl rfl
  have pp : PassesOwn (model (cxOf (L2.CX P w) P w K mg base ["_law_bag_here", "_law_many", "_law_letters", "_law_found", "_law_k", "_law_size", "_law_stem", "_law_turn"] "_law_names" (defScope s_l_names) (He.ga K "_law_names") cdv C outer s H E).prog (cxOf (L2.CX P w) P w K mg base ["_law_bag_here", "_law_many", "_law_letters", "_law_found", "_law_k", "_law_size", "_law_stem", "_law_turn"] "_law_names" (defScope s_l_names) (He.ga K "_law_names") cdv C outer s H E).w) (cxOf (L2.CX P w) P w K mg base ["_law_bag_here", "_law_many", "_law_letters", "_law_found", "_law_k", "_law_size", "_law_stem", "_law_turn"] "_law_names" (defScope s_l_names) (He.ga K "_law_names") cdv C outer s H E).A (cxOf (L2.CX P w) P w K mg base ["_law_bag_here", "_law_many", "_law_letters", "_law_found", "_law_k", "_law_size", "_law_stem", "_law_turn"] "_law_names" (defScope s_l_names) (He.ga K "_law_names") cdv C outer s H E).env (cxOf (L2.CX P w) P w K mg base ["_law_bag_here", "_law_many", "_law_letters", "_law_found", "_law_k", "_law_size", "_law_stem", "_law_turn"] "_law_names" (defScope s_l_names) (He.ga K "_law_names") cdv C outer s H E).xe := passes_of rfl
  exact (s_cons (j_asg [2] (c_str (okS_of (by decide +kernel))) (j_g sc_l_names.nd))
    (s_cons (j_asg [3] (i_lst a_nil) (j_g sc_l_names.nd))
    (s_cons (s_for pp rfl rfl (w_rng1 (by rfl) T.n_range rfl (a_cons rfl j_var a_nil)) (g_any (vs := [4]) (j_g sc_l_names.nd))
      (s_cons (j_asg [5] (i_ife (t_cmp (op := .gt) rfl hr rfl j_var c_int) c_int (j_call (ies := [(.var 0), (.con (.int 7))]) (iks := []) (ks := []) (arr := [.a 0, .a 1]) A.f_l_take T.m_l_take tk hr _ rfl (a_cons rfl j_var (a_cons rfl c_int a_nil)) k_nil (.head _))) (j_g sc_l_names.nd))
    (s_cons (j_asg [6] (i_bm (mt := .join) rfl PySem.F.plainAttrs_str PySem.F.slot_str_join PySem.F.type_str_join (mt_join' (g := gs K) rfl) rfl rfl rfl (by decide) (c_str (okS_of (by decide +kernel))) (a_cons rfl (i_lc (own := [("_law_turn", 7)]) rfl sc_l_names.nd rfl (w_rng1 (by rfl) T.n_range rfl (a_cons rfl j_var a_nil)) (blkOk_by (by kernel_rfl)) (fun _ _ _ _ _ => (j_g sc_l_names.nd)) (fun _ _ _ _ _ => ifs_nil) (fun _ _ _ _ _ => (i_idx rfl rfl j_var (j_call (ies := [(.var 0), (.con (.int 26))]) (iks := []) (ks := []) (arr := [.a 0, .a 1]) A.f_l_take T.m_l_take takes0 hr _ rfl (a_cons rfl j_var (a_cons rfl c_int a_nil)) k_nil (.head _))))) a_nil)) (j_g sc_l_names.nd))
    (s_cons (s_expr rfl (i_bm (mt := .append) rfl PySem.F.plainAttrs_list PySem.F.slot_list_append PySem.F.type_list_append mt_append' rfl rfl rfl (by decide) j_var (a_cons rfl (i_bin (op := .add) rfl j_var (i_idx rfl rfl j_var (i_bin (op := .mod) rfl j_var c_int))) a_nil)))
    s_nil))))
    (s_cons (s_ret (i_frz j_var))
    s_nil))))
theorem b_l_word (T : Txt K mg) {k : Nat} (A : All P w K mg base k) {cdv : Value} {C : Around} {outer : List PySem.Env} {s : Shared} {H : Hp} {E : XK} (hr : Room (2 * k + 3) (C.deeper (envOfC "_law_word" (defScope s_l_word) s.heap.objs.size (He.ga K "_law_word") cdv))) :
    PSs (cxOf (L2.CX P w) P w K mg base ["_law_bag_here", "_law_letters", "_law_turn"] "_law_word" (defScope s_l_word) (He.ga K "_law_word") cdv C outer s H E) (defBody s_l_word) (tS (gs K) (fun c d _ H => E c d H) (exs (callN Tb k) p_l_word)) := by
  have tk : Takes (cxOf (L2.CX P w) P w K mg base ["_law_bag_here", "_law_letters", "_law_turn"] "_law_word" (defScope s_l_word) (He.ga K "_law_word") cdv C outer s H E) (fun c d _ H => E c d H) := takes_of rfl rfl rfl rfl
  have pp : PassesOwn (model (cxOf (L2.CX P w) P w K mg base ["_law_bag_here", "_law_letters", "_law_turn"] "_law_word" (defScope s_l_word) (He.ga K "_law_word") cdv C outer s H E).prog (cxOf (L2.CX P w) P w K mg base ["_law_bag_here", "_law_letters", "_law_turn"] "_law_word" (defScope s_l_word) (He.ga K "_law_word") cdv C outer s H E).w) (cxOf (L2.CX P w) P w K mg base ["_law_bag_here", "_law_letters", "_law_turn"] "_law_word" (defScope s_l_word) (He.ga K "_law_word") cdv C outer s H E).A (cxOf (L2.CX P w) P w K mg base ["_law_bag_here", "_law_letters", "_law_turn"] "_law_word" (defScope s_l_word) (He.ga K "_law_word") cdv C outer s H E).env (cxOf (L2.CX P w) P w K mg base ["_law_bag_here", "_law_letters", "_law_turn"] "_law_word" (defScope s_l_word) (He.ga K "_law_word") cdv C outer s H E).xe := passes_of rfl
  exact (s_cons (s_ite (t_cmp (op := .eq) rfl hr rfl (j_call (ies := [(.var 0), (.con (.int 2))]) (iks := []) (ks := []) (arr := [.a 0, .a 1]) A.f_l_take T.m_l_take tk hr _ rfl (a_cons rfl j_var (a_cons rfl c_int a_nil)) k_nil (.head _)) c_int)
      (s_cons (s_ret (i_idx rfl rfl (i_tup (a_cons rfl (c_str (okS_of (by decide +kernel))) (a_cons rfl (c_str (okS_of (by decide +kernel))) (a_cons rfl (c_str (okS_of (by decide +kernel))) (a_cons rfl (c_str (okS_of (by decide +kernel))) a_nil))))) (j_call (ies := [(.var 0), (.con (.int 4))]) (iks := []) (ks := []) (arr := [.a 0, .a 1]) A.f_l_take T.m_l_take tk hr _ rfl (a_cons rfl j_var (a_cons rfl c_int a_nil)) k_nil (.head _))))
    s_nil)
      s_nil)
    (s_cons (j_asg [1] (c_str (okS_of (by decide +kernel))) (j_g sc_l_word.nd))
    (s_cons (s_ret (i_bm (mt := .join) rfl PySem.F.plainAttrs_str PySem.F.slot_str_join PySem.F.type_str_join (mt_join' (g := gs K) rfl) rfl rfl rfl (by decide) (c_str (okS_of (by decide +kernel))) (a_cons rfl (i_lc (own := [("_law_turn", 2)]) rfl sc_l_word.nd rfl (w_rng1 (by rfl) T.n_range rfl (a_cons rfl (i_bin (op := .add) rfl c_int (j_call (ies := [(.var 0), (.con (.int 8))]) (iks := []) (ks := []) (arr := [.a 0, .a 1]) A.f_l_take T.m_l_take tk hr _ rfl (a_cons rfl j_var (a_cons rfl c_int a_nil)) k_nil (.head _))) a_nil)) (blkOk_by (by kernel_rfl)) (fun _ _ _ _ _ => (j_g sc_l_word.nd)) (fun _ _ _ _ _ => ifs_nil) (fun _ _ _ _ _ => (i_idx rfl rfl j_var (j_call (ies := [(.var 0), (.con (.int 26))]) (iks := []) (ks := []) (arr := [.a 0, .a 1]) A.f_l_take T.m_l_take takes0 hr _ rfl (a_cons rfl j_var (a_cons rfl c_int a_nil)) k_nil (.head _))))) a_nil)))
    s_nil)))
theorem b_l_value (T : Txt K mg) {k : Nat} (A : All P w K mg base k) {cdv : Value} {C : Around} {outer : List PySem.Env} {s : Shared} {H : Hp} {E : XK} (hr : Room (2 * k + 3) (C.deeper (envOfC "_law_value" (defScope s_l_value) s.heap.objs.size (He.ga K "_law_value") cdv))) :
    PSs (cxOf (L2.CX P w) P w K mg base ["_law_bag_here", "_law_kind", "_law_way"] "_law_value" (defScope s_l_value) (He.ga K "_law_value") cdv C outer s H E) (defBody s_l_value) (tS (gs K) (fun c d _ H => E c d H) (exs (callN Tb k) p_l_value)) := by
  have tk : Takes (cxOf (L2.CX P w) P w K mg base ["_law_bag_here", "_law_kind", "_law_way"] "_law_value" (defScope s_l_value) (He.ga K "_law_value") cdv C outer s H E) (fun c d _ H => E c d H) := takes_of rfl rfl rfl rfl
  have pp : PassesOwn (model (cxOf (L2.CX P w) P w K mg base ["_law_bag_here", "_law_kind", "_law_way"] "_law_value" (defScope s_l_value) (He.ga K "_law_value") cdv C outer s H E).prog (cxOf (L2.CX P w) P w K mg base ["_law_bag_here", "_law_kind", "_law_way"] "_law_value" (defScope s_l_value) (He.ga K "_law_value") cdv C outer s H E).w) (cxOf (L2.CX P w) P w K mg base ["_law_bag_here", "_law_kind", "_law_way"] "_law_value" (defScope s_l_value) (He.ga K "_law_value") cdv C outer s H E).A (cxOf (L2.CX P w) P w K mg base ["_law_bag_here", "_law_kind", "_law_way"] "_law_value" (defScope s_l_value) (He.ga K "_law_value") cdv C outer s H E).env (cxOf (L2.CX P w) P w K mg base ["_law_bag_here", "_law_kind", "_law_way"] "_law_value" (defScope s_l_value) (He.ga K "_law_value") cdv C outer s H E).xe := passes_of rfl
  exact (s_cons (s_ite (t_cmp (op := .eq) rfl hr rfl j_var (c_str (okS_of (by decide +kernel))))
      (s_cons (s_ret (j_call (ies := [(.var 0)]) (iks := []) (ks := []) (arr := [.a 0]) A.f_l_word T.m_l_word tk hr _ rfl (a_cons rfl j_var a_nil) k_nil (.head _)))
    s_nil)
      s_nil)
    (s_cons (j_asg [2] (j_call (ies := [(.var 0), (.con (.int 3))]) (iks := []) (ks := []) (arr := [.a 0, .a 1]) A.f_l_take T.m_l_take tk hr _ rfl (a_cons rfl j_var (a_cons rfl c_int a_nil)) k_nil (.head _)) (j_g sc_l_value.nd))
    (s_cons (s_ret (i_ife (t_cmp (op := .lt) rfl hr rfl j_var c_int) (i_bin (op := .sub) rfl (j_call (ies := [(.var 0), (.con (.int 4))]) (iks := []) (ks := []) (arr := [.a 0, .a 1]) A.f_l_take T.m_l_take tk hr _ rfl (a_cons rfl j_var (a_cons rfl c_int a_nil)) k_nil (.head _)) c_int) (i_bin (op := .sub) rfl (j_call (ies := [(.var 0), (.con (.int 1999))]) (iks := []) (ks := []) (arr := [.a 0, .a 1]) A.f_l_take T.m_l_take tk hr _ rfl (a_cons rfl j_var (a_cons rfl c_int a_nil)) k_nil (.head _)) c_int)))
    s_nil)))
theorem b_l_form (T : Txt K mg) {k : Nat} (A : All P w K mg base k) {cdv : Value} {C : Around} {outer : List PySem.Env} {s : Shared} {H : Hp} {E : XK} (hr : Room (2 * k + 3) (C.deeper (envOfC "_law_form" (defScope s_l_form) s.heap.objs.size (He.ga K "_law_form") cdv))) :
    PSs (cxOf (L2.CX P w) P w K mg base ["_law_bag_here", "_law_names_here", "_law_name"] "_law_form" (defScope s_l_form) (He.ga K "_law_form") cdv C outer s H E) (defBody s_l_form) (tS (gs K) (fun c d _ H => E c d H) (exs (callN Tb k) p_l_form)) := by
  have tk : Takes (cxOf (L2.CX P w) P w K mg base ["_law_bag_here", "_law_names_here", "_law_name"] "_law_form" (defScope s_l_form) (He.ga K "_law_form") cdv C outer s H E) (fun c d _ H => E c d H) := takes_of rfl rfl rfl rfl
  have pp : PassesOwn (model (cxOf (L2.CX P w) P w K mg base ["_law_bag_here", "_law_names_here", "_law_name"] "_law_form" (defScope s_l_form) (He.ga K "_law_form") cdv C outer s H E).prog (cxOf (L2.CX P w) P w K mg base ["_law_bag_here", "_law_names_here", "_law_name"] "_law_form" (defScope s_l_form) (He.ga K "_law_form") cdv C outer s H E).w) (cxOf (L2.CX P w) P w K mg base ["_law_bag_here", "_law_names_here", "_law_name"] "_law_form" (defScope s_l_form) (He.ga K "_law_form") cdv C outer s H E).A (cxOf (L2.CX P w) P w K mg base ["_law_bag_here", "_law_names_here", "_law_name"] "_law_form" (defScope s_l_form) (He.ga K "_law_form") cdv C outer s H E).env (cxOf (L2.CX P w) P w K mg base ["_law_bag_here", "_law_names_here", "_law_name"] "_law_form" (defScope s_l_form) (He.ga K "_law_form") cdv C outer s H E).xe := passes_of rfl
  exact (s_cons (j_asg [1] (j_call (ies := [(.var 0), (.bin false .add (.con (.int 1)) (.call 45 [.a 0, .a 1] [(.var 0), (.con (.int 6))]))]) (iks := []) (ks := []) (arr := [.a 0, .a 1]) A.f_l_names T.m_l_names tk hr _ rfl (a_cons rfl j_var (a_cons rfl (i_bin (op := .add) rfl c_int (j_call (ies := [(.var 0), (.con (.int 6))]) (iks := []) (ks := []) (arr := [.a 0, .a 1]) A.f_l_take T.m_l_take tk hr _ rfl (a_cons rfl j_var (a_cons rfl c_int a_nil)) k_nil (.head _))) a_nil)) k_nil (.head _)) (j_g sc_l_form.nd))
    (s_cons (s_ret (j_bi (.tuple1) hr T.n_tuple (a_cons rfl (i_lc (own := [("_law_name", 2)]) rfl sc_l_form.nd rfl (w_e rfl j_var) (blkOk_by (by kernel_rfl)) (fun _ _ _ _ _ => (j_g sc_l_form.nd)) (fun _ _ _ _ _ => ifs_nil) (fun _ _ _ _ _ => (i_tup (a_cons rfl j_var (a_cons rfl (i_idx rfl rfl (i_tup (a_cons rfl (c_str (okS_of (by decide +kernel))) (a_cons rfl (c_str (okS_of (by decide +kernel))) a_nil))) (j_call (ies := [(.var 0), (.con (.int 2))]) (iks := []) (ks := []) (arr := [.a 0, .a 1]) A.f_l_take T.m_l_take takes0 hr _ rfl (a_cons rfl j_var (a_cons rfl c_int a_nil)) k_nil (.head _))) a_nil))))) a_nil)))
    s_nil))
theorem b_l_row (T : Txt K mg) {k : Nat} (A : All P w K mg base k) {cdv : Value} {C : Around} {outer : List PySem.Env} {s : Shared} {H : Hp} {E : XK} (hr : Room (2 * k + 3) (C.deeper (envOfC "_law_row" (defScope s_l_row) s.heap.objs.size (He.ga K "_law_row") cdv))) :
    PSs (cxOf (L2.CX P w) P w K mg base ["_law_bag_here", "_law_form_here", "_law_name", "_law_kind"] "_law_row" (defScope s_l_row) (He.ga K "_law_row") cdv C outer s H E) (defBody s_l_row) (tS (gs K) (fun c d _ H => E c d H) (exs (callN Tb k) p_l_row)) := by
  have tk : Takes (cxOf (L2.CX P w) P w K mg base ["_law_bag_here", "_law_form_here", "_law_name", "_law_kind"] "_law_row" (defScope s_l_row) (He.ga K "_law_row") cdv C outer s H E) (fun c d _ H => E c d H) := takes_of rfl rfl rfl rfl
  have pp : PassesOwn (model (cxOf (L2.CX P w) P w K mg base ["_law_bag_here", "_law_form_here", "_law_name", "_law_kind"] "_law_row" (defScope s_l_row) (He.ga K "_law_row") cdv C outer s H E).prog (cxOf (L2.CX P w) P w K mg base ["_law_bag_here", "_law_form_here", "_law_name", "_law_kind"] "_law_row" (defScope s_l_row) (He.ga K "_law_row") cdv C outer s H E).w) (cxOf (L2.CX P w) P w K mg base ["_law_bag_here", "_law_form_here", "_law_name", "_law_kind"] "_law_row" (defScope s_l_row) (He.ga K "_law_row") cdv C outer s H E).A (cxOf (L2.CX P w) P w K mg base ["_law_bag_here", "_law_form_here", "_law_name", "_law_kind"] "_law_row" (defScope s_l_row) (He.ga K "_law_row") cdv C outer s H E).env (cxOf (L2.CX P w) P w K mg base ["_law_bag_here", "_law_form_here", "_law_name", "_law_kind"] "_law_row" (defScope s_l_row) (He.ga K "_law_row") cdv C outer s H E).xe := passes_of rfl
  exact (s_cons (s_ret (j_bi (.tuple1) hr T.n_tuple (a_cons rfl (i_lc (own := [("_law_name", 2), ("_law_kind", 3)]) rfl sc_l_row.nd rfl (w_e rfl j_var) (blkOk_by (by kernel_rfl)) (fun _ _ _ _ _ => (g_tup rfl rfl rfl rfl (gs_cons rfl (j_g sc_l_row.nd) (gs_cons rfl (j_g sc_l_row.nd) gs_nil)))) (fun _ _ _ _ _ => ifs_nil) (fun _ _ _ _ _ => (j_call (ies := [(.var 0), (.var 3)]) (iks := []) (ks := []) (arr := [.a 0, .a 1]) A.f_l_value T.m_l_value takes0 hr _ rfl (a_cons rfl j_var (a_cons rfl j_var a_nil)) k_nil (.head _)))) a_nil)))
    s_nil)
theorem b_l_heap_put (T : Txt K mg) {k : Nat} (A : All P w K mg base k) {cdv : Value} {C : Around} {outer : List PySem.Env} {s : Shared} {H : Hp} {E : XK} (hr : Room (2 * k + 3) (C.deeper (envOfC "_law_heap_put" (defScope s_l_heap_put) s.heap.objs.size (He.ga K "_law_heap_put") cdv))) :
    PSs (cxOf (L2.CX P w) P w K mg base ["_law_pages", "_law_cap", "_law_number", "_law_page"] "_law_heap_put" (defScope s_l_heap_put) (He.ga K "_law_heap_put") cdv C outer s H E) (defBody s_l_heap_put) (tS (gs K) (fun c d _ H => E c d H) (exs (callN Tb k) p_l_heap_put)) := by
  have tk : Takes (cxOf (L2.CX P w) P w K mg base ["_law_pages", "_law_cap", "_law_number", "_law_page"] "_law_heap_put" (defScope s_l_heap_put) (He.ga K "_law_heap_put") cdv C outer s H E) (fun c d _ H => E c d H) := takes_of rfl rfl rfl rfl
  have pp : PassesOwn (model (cxOf (L2.CX P w) P w K mg base ["_law_pages", "_law_cap", "_law_number", "_law_page"] "_law_heap_put" (defScope s_l_heap_put) (He.ga K "_law_heap_put") cdv C outer s H E).prog (cxOf (L2.CX P w) P w K mg base ["_law_pages", "_law_cap", "_law_number", "_law_page"] "_law_heap_put" (defScope s_l_heap_put) (He.ga K "_law_heap_put") cdv C outer s H E).w) (cxOf (L2.CX P w) P w K mg base ["_law_pages", "_law_cap", "_law_number", "_law_page"] "_law_heap_put" (defScope s_l_heap_put) (He.ga K "_law_heap_put") cdv C outer s H E).A (cxOf (L2.CX P w) P w K mg base ["_law_pages", "_law_cap", "_law_number", "_law_page"] "_law_heap_put" (defScope s_l_heap_put) (He.ga K "_law_heap_put") cdv C outer s H E).env (cxOf (L2.CX P w) P w K mg base ["_law_pages", "_law_cap", "_law_number", "_law_page"] "_law_heap_put" (defScope s_l_heap_put) (He.ga K "_law_heap_put") cdv C outer s H E).xe := passes_of rfl
  exact (s_cons (s_for pp rfl rfl (w_e rfl j_var) (g_any (vs := [3]) (j_g sc_l_heap_put.nd))
      (s_cons (s_ite (t_cmp (op := .lt) rfl hr rfl (j_bi (.len) hr T.n_len (a_cons rfl j_var a_nil)) j_var)
      (s_cons (s_expr rfl (i_bm (mt := .append) rfl PySem.F.plainAttrs_list PySem.F.slot_list_append PySem.F.type_list_append mt_append' rfl rfl rfl (by decide) j_var (a_cons rfl j_var a_nil)))
    (s_cons (s_ret (i_bin (op := .add) rfl c_int (j_bi (.int1) hr T.n_int (a_cons rfl (i_cmp (op := .gt) rfl hr rfl (j_bi (.len) hr T.n_len (a_cons rfl j_var a_nil)) c_int) a_nil))))
    s_nil))
      s_nil)
    s_nil))
    (s_cons (s_expr rfl (i_bm (mt := .append) rfl PySem.F.plainAttrs_list PySem.F.slot_list_append PySem.F.type_list_append mt_append' rfl rfl rfl (by decide) j_var (a_cons rfl (i_lst (a_cons rfl j_var a_nil)) a_nil)))
    (s_cons (s_ret c_int)
    s_nil)))
theorem b_l_heap_drop (T : Txt K mg) {k : Nat} (A : All P w K mg base k) {cdv : Value} {C : Around} {outer : List PySem.Env} {s : Shared} {H : Hp} {E : XK} (hr : Room (2 * k + 3) (C.deeper (envOfC "_law_heap_drop" (defScope s_l_heap_drop) s.heap.objs.size (He.ga K "_law_heap_drop") cdv))) :
    PSs (cxOf (L2.CX P w) P w K mg base ["_law_pages", "_law_number", "_law_page"] "_law_heap_drop" (defScope s_l_heap_drop) (He.ga K "_law_heap_drop") cdv C outer s H E) (defBody s_l_heap_drop) (tS (gs K) (fun c d _ H => E c d H) (exs (callN Tb k) p_l_heap_drop)) := by
  have tk : Takes (cxOf (L2.CX P w) P w K mg base ["_law_pages", "_law_number", "_law_page"] "_law_heap_drop" (defScope s_l_heap_drop) (He.ga K "_law_heap_drop") cdv C outer s H E) (fun c d _ H => E c d H) := takes_of rfl rfl rfl rfl
  have pp : PassesOwn (model (cxOf (L2.CX P w) P w K mg base ["_law_pages", "_law_number", "_law_page"] "_law_heap_drop" (defScope s_l_heap_drop) (He.ga K "_law_heap_drop") cdv C outer s H E).prog (cxOf (L2.CX P w) P w K mg base ["_law_pages", "_law_number", "_law_page"] "_law_heap_drop" (defScope s_l_heap_drop) (He.ga K "_law_heap_drop") cdv C outer s H E).w) (cxOf (L2.CX P w) P w K mg base ["_law_pages", "_law_number", "_law_page"] "_law_heap_drop" (defScope s_l_heap_drop) (He.ga K "_law_heap_drop") cdv C outer s H E).A (cxOf (L2.CX P w) P w K mg base ["_law_pages", "_law_number", "_law_page"] "_law_heap_drop" (defScope s_l_heap_drop) (He.ga K "_law_heap_drop") cdv C outer s H E).env (cxOf (L2.CX P w) P w K mg base ["_law_pages", "_law_number", "_law_page"] "_law_heap_drop" (defScope s_l_heap_drop) (He.ga K "_law_heap_drop") cdv C outer s H E).xe := passes_of rfl
  exact (s_cons (s_for pp rfl rfl (w_e rfl j_var) (g_any (vs := [2]) (j_g sc_l_heap_drop.nd))
      (s_cons (s_ite (t_cmp (op := .isIn) rfl hr rfl j_var j_var)
      (s_cons (s_expr rfl (i_bm (mt := .remove) rfl PySem.F.plainAttrs_list PySem.F.slot_list_remove PySem.F.type_list_remove (mt_remove' (g := gs K) hr rfl) rfl rfl rfl (by decide) j_var (a_cons rfl j_var a_nil)))
    s_nil)
      s_nil)
    s_nil))
    (s_cons (s_ret c_int)
    s_nil))
theorem b_l_same (T : Txt K mg) {k : Nat} (A : All P w K mg base k) {cdv : Value} {C : Around} {outer : List PySem.Env} {s : Shared} {H : Hp} {E : XK} (hr : Room (2 * k + 3) (C.deeper (envOfC "_law_same" (defScope s_l_same) s.heap.objs.size (He.ga K "_law_same") cdv))) :
    PSs (cxOf (L2.CX P w) P w K mg base ["_law_store", "_law_stock", "_law_pages", "_law_due", "_law_turn", "_law_told", "_law_sheets", "_law_sheet", "_law_number"] "_law_same" (defScope s_l_same) (He.ga K "_law_same") cdv C outer s H E) (defBody s_l_same) (tS (gs K) (fun c d _ H => E c d H) (exs (callN Tb k) p_l_same)) := by
  have tk : Takes (cxOf (L2.CX P w) P w K mg base ["_law_store", "_law_stock", "_law_pages", "_law_due", "_law_turn", "_law_told", "_law_sheets", "_law_sheet", "_law_number"] "_law_same" (defScope s_l_same) (He.ga K "_law_same") cdv C outer s H E) (fun c d _ H => E c d H) := takes_of rfl rfl rfl rfl
  have pp : PassesOwn (model (cxOf (L2.CX P w) P w K mg base ["_law_store", "_law_stock", "_law_pages", "_law_due", "_law_turn", "_law_told", "_law_sheets", "_law_sheet", "_law_number"] "_law_same" (defScope s_l_same) (He.ga K "_law_same") cdv C outer s H E).prog (cxOf (L2.CX P w) P w K mg base ["_law_store", "_law_stock", "_law_pages", "_law_due", "_law_turn", "_law_told", "_law_sheets", "_law_sheet", "_law_number"] "_law_same" (defScope s_l_same) (He.ga K "_law_same") cdv C outer s H E).w) (cxOf (L2.CX P w) P w K mg base ["_law_store", "_law_stock", "_law_pages", "_law_due", "_law_turn", "_law_told", "_law_sheets", "_law_sheet", "_law_number"] "_law_same" (defScope s_l_same) (He.ga K "_law_same") cdv C outer s H E).A (cxOf (L2.CX P w) P w K mg base ["_law_store", "_law_stock", "_law_pages", "_law_due", "_law_turn", "_law_told", "_law_sheets", "_law_sheet", "_law_number"] "_law_same" (defScope s_l_same) (He.ga K "_law_same") cdv C outer s H E).env (cxOf (L2.CX P w) P w K mg base ["_law_store", "_law_stock", "_law_pages", "_law_due", "_law_turn", "_law_told", "_law_sheets", "_law_sheet", "_law_number"] "_law_same" (defScope s_l_same) (He.ga K "_law_same") cdv C outer s H E).xe := passes_of rfl
  exact (s_cons (j_asg [3] (j_bi (.sorted1 false) hr T.n_sorted (a_cons rfl (i_lock (de := (.var 1)) (i_lc (own := [("_law_number", 8)]) rfl sc_l_same.nd rfl (w_keys j_var) (blkOk_by (by kernel_rfl)) (fun _ _ _ _ _ => (j_g sc_l_same.nd)) (fun _ _ _ _ _ => ifs_nil) (fun _ _ _ _ _ => (i_tup (a_cons rfl j_var (a_cons rfl (i_didx hr rfl j_var j_var) a_nil)))))) a_nil)) (j_g sc_l_same.nd))
    (s_cons (s_for pp rfl rfl (w_rng1 (by rfl) T.n_range rfl (a_cons rfl c_int a_nil)) (g_any (vs := [4]) (j_g sc_l_same.nd))
      (s_cons (s_par2 (i := 5) (j := 6) sc_l_same.nd (a_cons rfl (j_meth (ms := [(3, 42, [.a 0])]) (ies := []) (iks := []) (ks := []) (mok1 (mok_of A.f_Store_all_rows T.me_Store_all_rows hr (.head _))) tk _ rfl j_var a_nil k_nil) (a_cons rfl (j_meth (ms := [(0, 18, [.a 0]), (1, 24, [.a 0]), (3, 41, [.a 0])]) (ies := []) (iks := []) (ks := []) (mokc (mok_of A.f_Buckets_pages T.me_Buckets_pages hr (.head _)) (mokc (mok_of A.f_Run_pages T.me_Run_pages hr (.head _)) (mokc (mok_of A.f_Store_pages T.me_Store_pages hr (.head _)) mok0))) tk _ rfl j_var a_nil k_nil) a_nil)))
    (s_cons (s_ite (PW.pt (w_or (t_not (t_val rfl rfl (j_call (ies := [(.var 5), (.var 3)]) (iks := []) (ks := []) (arr := [.a 0, .a 1]) A.f_l_like T.m_l_like tk hr _ rfl (a_cons rfl j_var (a_cons rfl j_var a_nil)) k_nil (.head _)))) (pw_or1 (t_not (t_val rfl rfl (j_call (ies := [(.var 6), (.var 2)]) (iks := []) (ks := []) (arr := [.a 0, .a 1]) A.f_l_like T.m_l_like tk hr _ rfl (a_cons rfl j_var (a_cons rfl j_var a_nil)) k_nil (.head _)))))))
      (s_cons (s_ret c_bl)
    s_nil)
      s_nil)
    (s_cons (s_ite (t_not (t_val rfl rfl (j_bi (.all) hr T.n_all (a_cons rfl (i_lock (de := (.var 1)) (i_lc (own := [("_law_number", 8)]) rfl sc_l_same.nd rfl (w_keys j_var) (blkOk_by (by kernel_rfl)) (fun _ _ _ _ _ => (j_g sc_l_same.nd)) (fun _ _ _ _ _ => ifs_nil) (fun _ _ _ _ _ => (j_call (ies := [(.meth (.var 0) [(3, 36, [.a 0, .a 1])] [(.var 8)]), (.didx (.var 1) (.var 8))]) (iks := []) (ks := []) (arr := [.a 0, .a 1]) A.f_l_like T.m_l_like takes0 hr _ rfl (a_cons rfl (j_meth (ms := [(3, 36, [.a 0, .a 1])]) (ies := [(.var 8)]) (iks := []) (ks := []) (mok1 (mok_of A.f_Store_row T.me_Store_row hr (.head _))) takes0 _ rfl j_var (a_cons rfl j_var a_nil) k_nil) (a_cons rfl (i_didx hr rfl j_var j_var) a_nil)) k_nil (.head _))))) a_nil))))
      (s_cons (s_ret c_bl)
    s_nil)
      s_nil)
    (s_cons (s_expr rfl (i_bm (mt := .append) rfl PySem.F.plainAttrs_list PySem.F.slot_list_append PySem.F.type_list_append mt_append' rfl rfl rfl (by decide) j_var (a_cons rfl c_non a_nil)))
    (s_cons (s_for pp rfl rfl (w_e rfl j_var) (g_any (vs := [7]) (j_g sc_l_same.nd))
      (s_cons (s_expr rfl (i_bm (mt := .append) rfl PySem.F.plainAttrs_list PySem.F.slot_list_append PySem.F.type_list_append mt_append' rfl rfl rfl (by decide) j_var (a_cons rfl c_int a_nil)))
    s_nil))
    (s_cons (s_expr rfl (i_bm (mt := .append) rfl PySem.F.plainAttrs_list PySem.F.slot_list_append PySem.F.type_list_append mt_append' rfl rfl rfl (by decide) j_var (a_cons rfl c_non a_nil)))
    s_nil)))))))
    (s_cons (s_ret c_bl)
    s_nil)))
theorem b_l_edit (T : Txt K mg) {k : Nat} (A : All P w K mg base k) {cdv : Value} {C : Around} {outer : List PySem.Env} {s : Shared} {H : Hp} {E : XK} (hr : Room (2 * k + 3) (C.deeper (envOfC "_law_edit" (defScope s_l_edit) s.heap.objs.size (He.ga K "_law_edit") cdv))) :
    PSs (cxOf (L2.CX P w) P w K mg base ["_law_bag_here", "_law_form_here", "_law_stock", "_law_last", "_law_numbers", "_law_way", "_law_number", "_law_column", "_law_kind"] "_law_edit" (defScope s_l_edit) (He.ga K "_law_edit") cdv C outer s H E) (defBody s_l_edit) (tS (gs K) (fun c d _ H => E c d H) (exs (callN Tb k) p_l_edit)) := by
  have tk : Takes (cxOf (L2.CX P w) P w K mg base ["_law_bag_here", "_law_form_here", "_law_stock", "_law_last", "_law_numbers", "_law_way", "_law_number", "_law_column", "_law_kind"] "_law_edit" (defScope s_l_edit) (He.ga K "_law_edit") cdv C outer s H E) (fun c d _ H => E c d H) := takes_of rfl rfl rfl rfl
  have pp : PassesOwn (model (cxOf (L2.CX P w) P w K mg base ["_law_bag_here", "_law_form_here", "_law_stock", "_law_last", "_law_numbers", "_law_way", "_law_number", "_law_column", "_law_kind"] "_law_edit" (defScope s_l_edit) (He.ga K "_law_edit") cdv C outer s H E).prog (cxOf (L2.CX P w) P w K mg base ["_law_bag_here", "_law_form_here", "_law_stock", "_law_last", "_law_numbers", "_law_way", "_law_number", "_law_column", "_law_kind"] "_law_edit" (defScope s_l_edit) (He.ga K "_law_edit") cdv C outer s H E).w) (cxOf (L2.CX P w) P w K mg base ["_law_bag_here", "_law_form_here", "_law_stock", "_law_last", "_law_numbers", "_law_way", "_law_number", "_law_column", "_law_kind"] "_law_edit" (defScope s_l_edit) (He.ga K "_law_edit") cdv C outer s H E).A (cxOf (L2.CX P w) P w K mg base ["_law_bag_here", "_law_form_here", "_law_stock", "_law_last", "_law_numbers", "_law_way", "_law_number", "_law_column", "_law_kind"] "_law_edit" (defScope s_l_edit) (He.ga K "_law_edit") cdv C outer s H E).env (cxOf (L2.CX P w) P w K mg base ["_law_bag_here", "_law_form_here", "_law_stock", "_law_last", "_law_numbers", "_law_way", "_law_number", "_law_column", "_law_kind"] "_law_edit" (defScope s_l_edit) (He.ga K "_law_edit") cdv C outer s H E).xe := passes_of rfl
  exact (s_cons (j_asg [4] (i_dsort (by rfl) T.n_sorted rfl (a_cons rfl j_var a_nil)) (j_g sc_l_edit.nd))
    (s_cons (j_asg [5] (j_call (ies := [(.var 0), (.con (.int 8))]) (iks := []) (ks := []) (arr := [.a 0, .a 1]) A.f_l_take T.m_l_take tk hr _ rfl (a_cons rfl j_var (a_cons rfl c_int a_nil)) k_nil (.head _)) (j_g sc_l_edit.nd))
    (s_cons (s_ite (PW.pt (w_and (PW.pt (w_or (t_cmp (op := .lt) rfl hr rfl j_var c_int) (pw_or1 (t_cmp (op := .eq) rfl hr rfl j_var (i_lst a_nil))))) (pw_and1 (t_cmp (op := .lt) rfl hr rfl j_var c_int))))
      (s_cons (s_ret (i_tup (a_cons rfl (c_str (okS_of (by decide +kernel))) (a_cons rfl (j_call (ies := [(.var 0), (.var 1)]) (iks := []) (ks := []) (arr := [.a 0, .a 1]) A.f_l_row T.m_l_row tk hr _ rfl (a_cons rfl j_var (a_cons rfl j_var a_nil)) k_nil (.head _)) a_nil))))
    s_nil)
      s_nil)
    (s_cons (s_ite (t_cmp (op := .eq) rfl hr rfl j_var (i_lst a_nil))
      (s_cons (s_ret (i_tup (a_cons rfl (c_str (okS_of (by decide +kernel))) a_nil)))
    s_nil)
      s_nil)
    (s_cons (j_asg [6] (i_idx rfl rfl j_var (j_call (ies := [(.var 0), (.bi (.len) [(.var 4)])]) (iks := []) (ks := []) (arr := [.a 0, .a 1]) A.f_l_take T.m_l_take tk hr _ rfl (a_cons rfl j_var (a_cons rfl (j_bi (.len) hr T.n_len (a_cons rfl j_var a_nil)) a_nil)) k_nil (.head _))) (j_g sc_l_edit.nd))
    (s_cons (s_ite (t_cmp (op := .eq) rfl hr rfl j_var c_int)
      (s_cons (s_ret (i_tup (a_cons rfl (c_str (okS_of (by decide +kernel))) (a_cons rfl j_var a_nil))))
    s_nil)
      s_nil)
    (s_cons (j_asg [7, 8] (i_idx rfl rfl j_var (j_call (ies := [(.var 0), (.bi (.len) [(.var 1)])]) (iks := []) (ks := []) (arr := [.a 0, .a 1]) A.f_l_take T.m_l_take tk hr _ rfl (a_cons rfl j_var (a_cons rfl (j_bi (.len) hr T.n_len (a_cons rfl j_var a_nil)) a_nil)) k_nil (.head _))) (g_tup rfl rfl rfl rfl (gs_cons rfl (j_g sc_l_edit.nd) (gs_cons rfl (j_g sc_l_edit.nd) gs_nil))))
    (s_cons (s_ret (i_tup (a_cons rfl (c_str (okS_of (by decide +kernel))) (a_cons rfl j_var (a_cons rfl j_var (a_cons rfl (j_call (ies := [(.var 0), (.var 8)]) (iks := []) (ks := []) (arr := [.a 0, .a 1]) A.f_l_value T.m_l_value tk hr _ rfl (a_cons rfl j_var (a_cons rfl j_var a_nil)) k_nil (.head _)) a_nil))))))
    s_nil))))))))
theorem b_l_changed (T : Txt K mg) {k : Nat} (A : All P w K mg base k) {cdv : Value} {C : Around} {outer : List PySem.Env} {s : Shared} {H : Hp} {E : XK} (hr : Room (2 * k + 3) (C.deeper (envOfC "_law_changed" (defScope s_l_changed) s.heap.objs.size (He.ga K "_law_changed") cdv))) :
    PSs (cxOf (L2.CX P w) P w K mg base ["_law_form_here", "_law_row_here", "_law_column", "_law_value_here", "_law_name", "_law_kind", "_law_one"] "_law_changed" (defScope s_l_changed) (He.ga K "_law_changed") cdv C outer s H E) (defBody s_l_changed) (tS (gs K) (fun c d _ H => E c d H) (exs (callN Tb k) p_l_changed)) := by
  have tk : Takes (cxOf (L2.CX P w) P w K mg base ["_law_form_here", "_law_row_here", "_law_column", "_law_value_here", "_law_name", "_law_kind", "_law_one"] "_law_changed" (defScope s_l_changed) (He.ga K "_law_changed") cdv C outer s H E) (fun c d _ H => E c d H) := takes_of rfl rfl rfl rfl
  have pp : PassesOwn (model (cxOf (L2.CX P w) P w K mg base ["_law_form_here", "_law_row_here", "_law_column", "_law_value_here", "_law_name", "_law_kind", "_law_one"] "_law_changed" (defScope s_l_changed) (He.ga K "_law_changed") cdv C outer s H E).prog (cxOf (L2.CX P w) P w K mg base ["_law_form_here", "_law_row_here", "_law_column", "_law_value_here", "_law_name", "_law_kind", "_law_one"] "_law_changed" (defScope s_l_changed) (He.ga K "_law_changed") cdv C outer s H E).w) (cxOf (L2.CX P w) P w K mg base ["_law_form_here", "_law_row_here", "_law_column", "_law_value_here", "_law_name", "_law_kind", "_law_one"] "_law_changed" (defScope s_l_changed) (He.ga K "_law_changed") cdv C outer s H E).A (cxOf (L2.CX P w) P w K mg base ["_law_form_here", "_law_row_here", "_law_column", "_law_value_here", "_law_name", "_law_kind", "_law_one"] "_law_changed" (defScope s_l_changed) (He.ga K "_law_changed") cdv C outer s H E).env (cxOf (L2.CX P w) P w K mg base ["_law_form_here", "_law_row_here", "_law_column", "_law_value_here", "_law_name", "_law_kind", "_law_one"] "_law_changed" (defScope s_l_changed) (He.ga K "_law_changed") cdv C outer s H E).xe := passes_of rfl
  exact (s_cons (s_ret (j_bi (.tuple1) hr T.n_tuple (a_cons rfl (i_lc (own := [("_law_name", 4), ("_law_kind", 5), ("_law_one", 6)]) rfl sc_l_changed.nd rfl (w_zip rfl T.n_zip rfl rfl (a_cons rfl j_var (a_cons rfl j_var a_nil))) (blkOk_by (by kernel_rfl)) (fun _ _ _ _ _ => (g_tup rfl rfl rfl rfl (gs_cons rfl (g_tup rfl rfl rfl rfl (gs_cons rfl (j_g sc_l_changed.nd) (gs_cons rfl (j_g sc_l_changed.nd) gs_nil))) (gs_cons rfl (j_g sc_l_changed.nd) gs_nil)))) (fun _ _ _ _ _ => ifs_nil) (fun _ _ _ _ _ => (i_ife (t_cmp (op := .eq) rfl hr rfl j_var j_var) j_var j_var))) a_nil)))
    s_nil)
theorem b_l_like (T : Txt K mg) {k : Nat} (A : All P w K mg base k) {cdv : Value} {C : Around} {outer : List PySem.Env} {s : Shared} {H : Hp} {E : XK} (hr : Room (2 * k + 3) (C.deeper (envOfC "_law_like" (defScope s_l_like) s.heap.objs.size (He.ga K "_law_like") cdv))) :
    PSs (cxOf (L2.CX P w) P w K mg base ["_law_told", "_law_due", "_law_one", "_law_other"] "_law_like" (defScope s_l_like) (He.ga K "_law_like") cdv C outer s H E) (defBody s_l_like) (tS (gs K) (fun c d _ H => E c d H) (exs (callN Tb k) p_l_like)) := by
  have tk : Takes (cxOf (L2.CX P w) P w K mg base ["_law_told", "_law_due", "_law_one", "_law_other"] "_law_like" (defScope s_l_like) (He.ga K "_law_like") cdv C outer s H E) (fun c d _ H => E c d H) := takes_of rfl rfl rfl rfl
  have pp : PassesOwn (model (cxOf (L2.CX P w) P w K mg base ["_law_told", "_law_due", "_law_one", "_law_other"] "_law_like" (defScope s_l_like) (He.ga K "_law_like") cdv C outer s H E).prog (cxOf (L2.CX P w) P w K mg base ["_law_told", "_law_due", "_law_one", "_law_other"] "_law_like" (defScope s_l_like) (He.ga K "_law_like") cdv C outer s H E).w) (cxOf (L2.CX P w) P w K mg base ["_law_told", "_law_due", "_law_one", "_law_other"] "_law_like" (defScope s_l_like) (He.ga K "_law_like") cdv C outer s H E).A (cxOf (L2.CX P w) P w K mg base ["_law_told", "_law_due", "_law_one", "_law_other"] "_law_like" (defScope s_l_like) (He.ga K "_law_like") cdv C outer s H E).env (cxOf (L2.CX P w) P w K mg base ["_law_told", "_law_due", "_law_one", "_law_other"] "_law_like" (defScope s_l_like) (He.ga K "_law_like") cdv C outer s H E).xe := passes_of rfl
  exact (s_cons (s_ite (PW.pt (w_or (t_cmp (op := .ned) rfl hr rfl (j_bi (.isi) hr T.n_isinstance (a_cons rfl j_var (a_cons rfl (c_gT (n := "bool") T.n_bool (by decide +kernel)) a_nil))) (j_bi (.isi) hr T.n_isinstance (a_cons rfl j_var (a_cons rfl (c_gT (n := "bool") T.n_bool (by decide +kernel)) a_nil)))) (pw_or1 (t_cmp (op := .ned) rfl hr rfl j_var j_var))))
      (s_cons (s_ret c_bl)
    s_nil)
      s_nil)
    (s_cons (s_ite (t_val rfl rfl (i_isit T.n_isinstance j_var (ty_cons T.n_list (by decide +kernel) (ty_cons T.n_tuple (by decide +kernel) ty_nil)) (by simp)))
      (s_cons (s_ret (j_bi (.all) hr T.n_all (a_cons rfl (i_lc (own := [("_law_one", 2), ("_law_other", 3)]) rfl sc_l_like.nd rfl (w_zipb rfl T.n_zip rfl rfl (a_cons rfl j_var (a_cons rfl j_var a_nil))) (blkOk_by (by kernel_rfl)) (fun _ _ _ _ _ => (g_tup rfl rfl rfl rfl (gs_cons rfl (j_g sc_l_like.nd) (gs_cons rfl (j_g sc_l_like.nd) gs_nil)))) (fun _ _ _ _ _ => ifs_nil) (fun _ _ _ _ _ => (j_call (ies := [(.var 2), (.var 3)]) (iks := []) (ks := []) (arr := [.a 0, .a 1]) A.f_l_like T.m_l_like takes0 hr _ rfl (a_cons rfl j_var (a_cons rfl j_var a_nil)) k_nil (.head _)))) a_nil)))
    s_nil)
      s_nil)
    (s_cons (s_ret c_bl)
    s_nil)))
theorem b_law (T : Txt K mg) {k : Nat} (A : All P w K mg base k) {cdv : Value} {C : Around} {outer : List PySem.Env} {s : Shared} {H : Hp} {E : XK} (hr : Room (2 * k + 3) (C.deeper (envOfC "law" (defScope s_law) s.heap.objs.size (He.ga K "law") cdv))) :
    PSs (cxOf (L2.CX P w) P w K mg base ["_law_script", "_law_bag_here", "_law_cap", "_law_form_here", "_law_store", "_law_held", "_law_pages", "_law_last", "_law_k", "_law_edit_here", "_law_told", "_law_due", "_law_row_here"] "law" (defScope s_law) (He.ga K "law") cdv C outer s H E) (defBody s_law) (tS (gs K) (fun c d _ H => E c d H) (exs (callN Tb k) p_law)) := by
  have tk : Takes (cxOf (L2.CX P w) P w K mg base ["_law_script", "_law_bag_here", "_law_cap", "_law_form_here", "_law_store", "_law_held", "_law_pages", "_law_last", "_law_k", "_law_edit_here", "_law_told", "_law_due", "_law_row_here"] "law" (defScope s_law) (He.ga K "law") cdv C outer s H E) (fun c d _ H => E c d H) := takes_of rfl rfl rfl rfl
  have pp : PassesOwn (model (cxOf (L2.CX P w) P w K mg base ["_law_script", "_law_bag_here", "_law_cap", "_law_form_here", "_law_store", "_law_held", "_law_pages", "_law_last", "_law_k", "_law_edit_here", "_law_told", "_law_due", "_law_row_here"] "law" (defScope s_law) (He.ga K "law") cdv C outer s H E).prog (cxOf (L2.CX P w) P w K mg base ["_law_script", "_law_bag_here", "_law_cap", "_law_form_here", "_law_store", "_law_held", "_law_pages", "_law_last", "_law_k", "_law_edit_here", "_law_told", "_law_due", "_law_row_here"] "law" (defScope s_law) (He.ga K "law") cdv C outer s H E).w) (cxOf (L2.CX P w) P w K mg base ["_law_script", "_law_bag_here", "_law_cap", "_law_form_here", "_law_store", "_law_held", "_law_pages", "_law_last", "_law_k", "_law_edit_here", "_law_told", "_law_due", "_law_row_here"] "law" (defScope s_law) (He.ga K "law") cdv C outer s H E).A (cxOf (L2.CX P w) P w K mg base ["_law_script", "_law_bag_here", "_law_cap", "_law_form_here", "_law_store", "_law_held", "_law_pages", "_law_last", "_law_k", "_law_edit_here", "_law_told", "_law_due", "_law_row_here"] "law" (defScope s_law) (He.ga K "law") cdv C outer s H E).env (cxOf (L2.CX P w) P w K mg base ["_law_script", "_law_bag_here", "_law_cap", "_law_form_here", "_law_store", "_law_held", "_law_pages", "_law_last", "_law_k", "_law_edit_here", "_law_told", "_law_due", "_law_row_here"] "law" (defScope s_law) (He.ga K "law") cdv C outer s H E).xe := passes_of rfl
  exact (s_cons (j_asg [1] (j_call (ies := [(.var 0), (.con (.int 0))]) (iks := []) (ks := []) (arr := [.a 0, .a 1]) A.f_l_bag T.m_l_bag tk hr _ rfl (a_cons rfl j_var (a_cons rfl c_int a_nil)) k_nil (.head _)) (j_g sc_law.nd))
    (s_cons (s_par2 (i := 2) (j := 3) sc_law.nd (a_cons rfl (i_bin (op := .add) rfl c_int (j_call (ies := [(.var 1), (.con (.int 7))]) (iks := []) (ks := []) (arr := [.a 0, .a 1]) A.f_l_take T.m_l_take tk hr _ rfl (a_cons rfl j_var (a_cons rfl c_int a_nil)) k_nil (.head _))) (a_cons rfl (j_call (ies := [(.var 1)]) (iks := []) (ks := []) (arr := [.a 0]) A.f_l_form T.m_l_form tk hr _ rfl (a_cons rfl j_var a_nil) k_nil (.head _)) a_nil)))
    (s_cons (s_asg (i_tup (a_cons rfl (j_make (c := 3) (ies := [(.make false 4 43 [.a 0, .a 1, .d (.int (4)), .d (.int (3)), .d (.int (4)), .d (.int (16))] [(.var 2)]), (.var 3)]) (iks := []) (ks := []) (arr := [.a 0, .a 1, .a 2, .d (.str "heap"), .d (.tup [])]) A.f_Store_init T.mk_Store T.cl_Store T.m_Store tk hr _ rfl (a_cons rfl (j_make (c := 4) (ies := []) (iks := [(.var 2)]) (ks := ["rows"]) (arr := [.a 0, .a 1, .d (.int (4)), .d (.int (3)), .d (.int (4)), .d (.int (16))]) A.f_Shape_init T.mk_Shape T.cl_Shape T.m_Shape tk hr _ rfl a_nil (k_cons j_var k_nil) (.head _)) (a_cons rfl j_var a_nil)) k_nil (.head _)) (a_cons rfl i_dnew (a_cons rfl (i_lst a_nil) (a_cons rfl c_int a_nil))))) (g_any (vs := [4, 5, 6, 7]) (g_tup rfl rfl rfl rfl (gs_cons rfl (j_g sc_law.nd) (gs_cons rfl (j_g sc_law.nd) (gs_cons rfl (j_g sc_law.nd) (gs_cons rfl (j_g sc_law.nd) gs_nil)))))) rfl (by rfl) (by rfl))
    (s_cons (s_for pp rfl rfl (w_rng1 (by rfl) T.n_range rfl (a_cons rfl (j_bi (.max2) hr T.n_max (a_cons rfl c_int (a_cons rfl (j_bi (.min2) hr T.n_min (a_cons rfl c_int (a_cons rfl (i_bin (op := .sub) rfl (j_bi (.len) hr T.n_len (a_cons rfl j_var a_nil)) c_int) a_nil))) a_nil))) a_nil)) (g_any (vs := [8]) (j_g sc_law.nd))
      (s_cons (j_asg [1] (j_call (ies := [(.var 0), (.bin false .add (.con (.int 1)) (.var 8))]) (iks := []) (ks := []) (arr := [.a 0, .a 1]) A.f_l_bag T.m_l_bag tk hr _ rfl (a_cons rfl j_var (a_cons rfl (i_bin (op := .add) rfl c_int j_var) a_nil)) k_nil (.head _)) (j_g sc_law.nd))
    (s_cons (j_asg [9] (j_call (ies := [(.var 1), (.var 3), (.var 5), (.var 7)]) (iks := []) (ks := []) (arr := [.a 0, .a 1, .a 2, .a 3]) A.f_l_edit T.m_l_edit tk hr _ rfl (a_cons rfl j_var (a_cons rfl j_var (a_cons rfl j_var (a_cons rfl j_var a_nil)))) k_nil (.head _)) (j_g sc_law.nd))
    (s_cons (s_ite (t_cmp (op := .eq) rfl hr rfl (i_idx rfl rfl j_var c_int) (c_str (okS_of (by decide +kernel))))
      (s_cons (j_asg [7] (i_bin (op := .add) rfl j_var c_int) (j_g sc_law.nd))
    (s_cons (s_par2 (i := 10) (j := 11) sc_law.nd (a_cons rfl (j_meth (ms := [(0, 16, [.a 0, .a 1]), (1, 26, [.a 0, .a 1]), (2, 30, [.a 0, .a 1]), (3, 37, [.a 0, .a 1])]) (ies := [(.idx (.var 9) (.con (.int 1)))]) (iks := []) (ks := []) (mokc (mok_of A.f_Buckets_put T.me_Buckets_put hr (.head _)) (mokc (mok_of A.f_Run_put T.me_Run_put hr (.head _)) (mokc (mok_of A.f_Heap_put T.me_Heap_put hr (.head _)) (mokc (mok_of A.f_Store_put T.me_Store_put hr (.head _)) mok0)))) tk _ rfl j_var (a_cons rfl (i_idx rfl rfl j_var c_int) a_nil) k_nil) (a_cons rfl (i_tup (a_cons rfl j_var (a_cons rfl (j_call (ies := [(.var 6), (.var 2), (.var 7)]) (iks := []) (ks := []) (arr := [.a 0, .a 1, .a 2]) A.f_l_heap_put T.m_l_heap_put tk hr _ rfl (a_cons rfl j_var (a_cons rfl j_var (a_cons rfl j_var a_nil))) k_nil (.head _)) a_nil))) a_nil)))
    (s_cons (j_asg [] (i_idx rfl rfl j_var c_int) (g_didx (W := noX) hr rfl j_var j_var))
    s_nil)))
      (s_cons (s_ite (t_cmp (op := .eq) rfl hr rfl (i_idx rfl rfl j_var c_int) (c_str (okS_of (by decide +kernel))))
      (s_cons (s_expr rfl (i_dpop j_var (i_idx rfl rfl j_var c_int) ⟨by rfl, by rfl, rfl, by rfl⟩))
    (s_cons (s_par2 (i := 10) (j := 11) sc_law.nd (a_cons rfl (j_meth (ms := [(0, 17, [.a 0, .a 1]), (1, 27, [.a 0, .a 1]), (2, 31, [.a 0, .a 1]), (3, 39, [.a 0, .a 1])]) (ies := [(.idx (.var 9) (.con (.int 1)))]) (iks := []) (ks := []) (mokc (mok_of A.f_Buckets_drop T.me_Buckets_drop hr (.head _)) (mokc (mok_of A.f_Run_drop T.me_Run_drop hr (.head _)) (mokc (mok_of A.f_Heap_drop T.me_Heap_drop hr (.head _)) (mokc (mok_of A.f_Store_drop T.me_Store_drop hr (.head _)) mok0)))) tk _ rfl j_var (a_cons rfl (i_idx rfl rfl j_var c_int) a_nil) k_nil) (a_cons rfl (j_call (ies := [(.var 6), (.idx (.var 9) (.con (.int 1)))]) (iks := []) (ks := []) (arr := [.a 0, .a 1]) A.f_l_heap_drop T.m_l_heap_drop tk hr _ rfl (a_cons rfl j_var (a_cons rfl (i_idx rfl rfl j_var c_int) a_nil)) k_nil (.head _)) a_nil)))
    s_nil))
      (s_cons (s_ite (t_cmp (op := .eq) rfl hr rfl (i_idx rfl rfl j_var c_int) (c_str (okS_of (by decide +kernel))))
      (s_cons (j_asg [12] (j_call (ies := [(.var 3), (.didx (.var 5) (.idx (.var 9) (.con (.int 1)))), (.idx (.var 9) (.con (.int 2))), (.idx (.var 9) (.con (.int 3)))]) (iks := []) (ks := []) (arr := [.a 0, .a 1, .a 2, .a 3]) A.f_l_changed T.m_l_changed tk hr _ rfl (a_cons rfl j_var (a_cons rfl (i_didx hr rfl j_var (i_idx rfl rfl j_var c_int)) (a_cons rfl (i_idx rfl rfl j_var c_int) (a_cons rfl (i_idx rfl rfl j_var c_int) a_nil)))) k_nil (.head _)) (j_g sc_law.nd))
    (s_cons (s_par2 (i := 10) (j := 11) sc_law.nd (a_cons rfl (j_meth (ms := [(3, 40, [.a 0, .a 1, .a 2, .a 3])]) (ies := [(.idx (.var 9) (.con (.int 1))), (.idx (.var 9) (.con (.int 2))), (.idx (.var 9) (.con (.int 3)))]) (iks := []) (ks := []) (mok1 (mok_of A.f_Store_change T.me_Store_change hr (.head _))) tk _ rfl j_var (a_cons rfl (i_idx rfl rfl j_var c_int) (a_cons rfl (i_idx rfl rfl j_var c_int) (a_cons rfl (i_idx rfl rfl j_var c_int) a_nil))) k_nil) (a_cons rfl (i_bin (op := .mul) rfl c_int (j_bi (.int1) hr T.n_int (a_cons rfl (i_cmp (op := .ne) rfl hr rfl j_var (i_didx hr rfl j_var (i_idx rfl rfl j_var c_int))) a_nil))) a_nil)))
    (s_cons (j_asg [] j_var (g_didx (W := noX) hr rfl j_var (i_idx rfl rfl j_var c_int)))
    s_nil)))
      (s_cons (s_asg (i_tup (a_cons rfl c_int (a_cons rfl c_int a_nil))) (g_any (vs := [10, 11]) (g_tup rfl rfl rfl rfl (gs_cons rfl (j_g sc_law.nd) (gs_cons rfl (j_g sc_law.nd) gs_nil)))) rfl (by rfl) (by rfl))
    s_nil))
    s_nil))
    s_nil))
    (s_cons (s_ite (PW.pt (w_or (t_not (t_val rfl rfl (j_call (ies := [(.var 10), (.var 11)]) (iks := []) (ks := []) (arr := [.a 0, .a 1]) A.f_l_like T.m_l_like tk hr _ rfl (a_cons rfl j_var (a_cons rfl j_var a_nil)) k_nil (.head _)))) (pw_or1 (t_not (t_val rfl rfl (j_call (ies := [(.var 4), (.var 5), (.var 6)]) (iks := []) (ks := []) (arr := [.a 0, .a 1, .a 2]) A.f_l_same T.m_l_same tk hr _ rfl (a_cons rfl j_var (a_cons rfl j_var (a_cons rfl j_var a_nil))) k_nil (.head _)))))))
      (s_cons (s_ret c_bl)
    s_nil)
      s_nil)
    s_nil)))))
    (s_cons (s_ret c_bl)
    s_nil)))))
theorem all_ok (T : Txt K mg) : ∀ k, All P w K mg base k
  | 0 => ⟨let ⟨fd, F⟩ := T.d_is_whole; ⟨fd, ["thing", "low", "high"], fn_zero F sc_is_whole, sgs_is_whole T F, F.kp⟩,
    let ⟨fd, F⟩ := T.d_is_word; ⟨fd, ["thing"], fn_zero F sc_is_word, sgs_is_word T F, F.kp⟩,
    let ⟨fd, F⟩ := T.d_is_one_of; ⟨fd, ["thing", "texts"], fn_zero F sc_is_one_of, sgs_is_one_of T F, F.kp⟩,
    let ⟨fd, F⟩ := T.d_is_tuple_of; ⟨fd, ["thing", "least", "most"], fn_zero F sc_is_tuple_of, sgs_is_tuple_of T F, F.kp⟩,
    let ⟨fd, F⟩ := T.d_is_value; ⟨fd, ["kind", "thing"], fn_zero F sc_is_value, sgs_is_value T F, F.kp⟩,
    let ⟨fd, F⟩ := T.d_is_column; ⟨fd, ["thing"], fn_zero F sc_is_column, sgs_is_column T F, F.kp⟩,
    let ⟨fd, F⟩ := T.d_is_form; ⟨fd, ["thing"], fn_zero F sc_is_form, sgs_is_form T F, F.kp⟩,
    let ⟨fd, F⟩ := T.d_is_row; ⟨fd, ["form", "thing"], fn_zero F sc_is_row, sgs_is_row T F, F.kp⟩,
    let ⟨fd, F⟩ := T.d_names_of; ⟨fd, ["form"], fn_zero F sc_names_of, sgs_names_of T F, F.kp⟩,
    let ⟨fd, F⟩ := T.d_are_columns; ⟨fd, ["form", "thing", "least", "most"], fn_zero F sc_are_columns, sgs_are_columns T F, F.kp⟩,
    let ⟨fd, F⟩ := T.d_number_of; ⟨fd, ["value"], fn_zero F sc_number_of, sgs_number_of T F, F.kp⟩,
    let ⟨fd, F⟩ := T.d_mark; ⟨fd, ["values"], fn_zero F sc_mark, sgs_mark T F, F.kp⟩,
    let ⟨fd, F⟩ := T.d_value_of; ⟨fd, ["form", "row", "column"], fn_zero F sc_value_of, sgs_value_of T F, F.kp⟩,
    let ⟨fd, F⟩ := T.d_values_of; ⟨fd, ["form", "row", "columns"], fn_zero F sc_values_of, sgs_values_of T F, F.kp⟩,
    let ⟨fd, F⟩ := T.d_Buckets_init; ⟨fd, ["self", "count", "most"], fn_zero F sc_Buckets_init, sgs_Buckets_init T F, F.kp⟩,
    let ⟨fd, F⟩ := T.d_Buckets_bucket_of; ⟨fd, ["self", "values"], fn_zero F sc_Buckets_bucket_of, sgs_Buckets_bucket_of T F, F.kp⟩,
    let ⟨fd, F⟩ := T.d_Buckets_put; ⟨fd, ["self", "thing"], fn_zero F sc_Buckets_put, sgs_Buckets_put T F, F.kp⟩,
    let ⟨fd, F⟩ := T.d_Buckets_drop; ⟨fd, ["self", "thing"], fn_zero F sc_Buckets_drop, sgs_Buckets_drop T F, F.kp⟩,
    let ⟨fd, F⟩ := T.d_Buckets_pages; ⟨fd, ["self"], fn_zero F sc_Buckets_pages, sgs_Buckets_pages T F, F.kp⟩,
    let ⟨fd, F⟩ := T.d_groups; ⟨fd, ["many", "size"], fn_zero F sc_groups, sgs_groups T F, F.kp⟩,
    let ⟨fd, F⟩ := T.d_levels_of; ⟨fd, ["leaves", "fan"], fn_zero F sc_levels_of, sgs_levels_of T F, F.kp⟩,
    let ⟨fd, F⟩ := T.d_pages_of; ⟨fd, ["leaves", "fan"], fn_zero F sc_pages_of, sgs_pages_of T F, F.kp⟩,
    let ⟨fd, F⟩ := T.d_Run_init; ⟨fd, ["self", "most", "fan", "things"], fn_zero F sc_Run_init, sgs_Run_init T F, F.kp⟩,
    let ⟨fd, F⟩ := T.d_Run_levels; ⟨fd, ["self"], fn_zero F sc_Run_levels, sgs_Run_levels T F, F.kp⟩,
    let ⟨fd, F⟩ := T.d_Run_pages; ⟨fd, ["self"], fn_zero F sc_Run_pages, sgs_Run_pages T F, F.kp⟩,
    let ⟨fd, F⟩ := T.d_Run_place_of; ⟨fd, ["self", "thing"], fn_zero F sc_Run_place_of, sgs_Run_place_of T F, F.kp⟩,
    let ⟨fd, F⟩ := T.d_Run_put; ⟨fd, ["self", "thing"], fn_zero F sc_Run_put, sgs_Run_put T F, F.kp⟩,
    let ⟨fd, F⟩ := T.d_Run_drop; ⟨fd, ["self", "thing"], fn_zero F sc_Run_drop, sgs_Run_drop T F, F.kp⟩,
    let ⟨fd, F⟩ := T.d_look_store; ⟨fd, ["form", "kind", "key"], fn_zero F sc_look_store, sgs_look_store T F, F.kp⟩,
    let ⟨fd, F⟩ := T.d_Heap_init; ⟨fd, ["self", "most"], fn_zero F sc_Heap_init, sgs_Heap_init T F, F.kp⟩,
    let ⟨fd, F⟩ := T.d_Heap_put; ⟨fd, ["self", "thing"], fn_zero F sc_Heap_put, sgs_Heap_put T F, F.kp⟩,
    let ⟨fd, F⟩ := T.d_Heap_drop; ⟨fd, ["self", "thing"], fn_zero F sc_Heap_drop, sgs_Heap_drop T F, F.kp⟩,
    let ⟨fd, F⟩ := T.d_Store_init; ⟨fd, ["self", "shape", "form", "kind", "key"], fn_zero F sc_Store_init, sgs_Store_init T F, F.kp⟩,
    let ⟨fd, F⟩ := T.d_Store_put_thing; ⟨fd, ["self", "number"], fn_zero F sc_Store_put_thing, sgs_Store_put_thing T F, F.kp⟩,
    let ⟨fd, F⟩ := T.d_Store_drop_thing; ⟨fd, ["self", "number"], fn_zero F sc_Store_drop_thing, sgs_Store_drop_thing T F, F.kp⟩,
    let ⟨fd, F⟩ := T.d_Store_thing_of; ⟨fd, ["self", "number"], fn_zero F sc_Store_thing_of, sgs_Store_thing_of T F, F.kp⟩,
    let ⟨fd, F⟩ := T.d_Store_row; ⟨fd, ["self", "number"], fn_zero F sc_Store_row, sgs_Store_row T F, F.kp⟩,
    let ⟨fd, F⟩ := T.d_Store_put; ⟨fd, ["self", "row"], fn_zero F sc_Store_put, sgs_Store_put T F, F.kp⟩,
    let ⟨fd, F⟩ := T.d_Store_put_row; ⟨fd, ["self", "row"], fn_zero F sc_Store_put_row, sgs_Store_put_row T F, F.kp⟩,
    let ⟨fd, F⟩ := T.d_Store_drop; ⟨fd, ["self", "number"], fn_zero F sc_Store_drop, sgs_Store_drop T F, F.kp⟩,
    let ⟨fd, F⟩ := T.d_Store_change; ⟨fd, ["self", "number", "column", "value"], fn_zero F sc_Store_change, sgs_Store_change T F, F.kp⟩,
    let ⟨fd, F⟩ := T.d_Store_pages; ⟨fd, ["self"], fn_zero F sc_Store_pages, sgs_Store_pages T F, F.kp⟩,
    let ⟨fd, F⟩ := T.d_Store_all_rows; ⟨fd, ["self"], fn_zero F sc_Store_all_rows, sgs_Store_all_rows T F, F.kp⟩,
    let ⟨fd, F⟩ := T.d_Shape_init; ⟨fd, ["self", "rows", "entries", "fan", "buckets", "bits"], fn_zero F sc_Shape_init, sgs_Shape_init T F, F.kp⟩,
    let ⟨fd, F⟩ := T.d_l_bag; ⟨fd, ["_law_script", "_law_at"], fn_zero F sc_l_bag, sgs_l_bag T F, F.kp⟩,
    let ⟨fd, F⟩ := T.d_l_take; ⟨fd, ["_law_bag_here", "_law_many"], fn_zero F sc_l_take, sgs_l_take T F, F.kp⟩,
    let ⟨fd, F⟩ := T.d_l_names; ⟨fd, ["_law_bag_here", "_law_many"], fn_zero F sc_l_names, sgs_l_names T F, F.kp⟩,
    let ⟨fd, F⟩ := T.d_l_word; ⟨fd, ["_law_bag_here"], fn_zero F sc_l_word, sgs_l_word T F, F.kp⟩,
    let ⟨fd, F⟩ := T.d_l_value; ⟨fd, ["_law_bag_here", "_law_kind"], fn_zero F sc_l_value, sgs_l_value T F, F.kp⟩,
    let ⟨fd, F⟩ := T.d_l_form; ⟨fd, ["_law_bag_here"], fn_zero F sc_l_form, sgs_l_form T F, F.kp⟩,
    let ⟨fd, F⟩ := T.d_l_row; ⟨fd, ["_law_bag_here", "_law_form_here"], fn_zero F sc_l_row, sgs_l_row T F, F.kp⟩,
    let ⟨fd, F⟩ := T.d_l_heap_put; ⟨fd, ["_law_pages", "_law_cap", "_law_number"], fn_zero F sc_l_heap_put, sgs_l_heap_put T F, F.kp⟩,
    let ⟨fd, F⟩ := T.d_l_heap_drop; ⟨fd, ["_law_pages", "_law_number"], fn_zero F sc_l_heap_drop, sgs_l_heap_drop T F, F.kp⟩,
    let ⟨fd, F⟩ := T.d_l_same; ⟨fd, ["_law_store", "_law_stock", "_law_pages"], fn_zero F sc_l_same, sgs_l_same T F, F.kp⟩,
    let ⟨fd, F⟩ := T.d_l_edit; ⟨fd, ["_law_bag_here", "_law_form_here", "_law_stock", "_law_last"], fn_zero F sc_l_edit, sgs_l_edit T F, F.kp⟩,
    let ⟨fd, F⟩ := T.d_l_changed; ⟨fd, ["_law_form_here", "_law_row_here", "_law_column", "_law_value_here"], fn_zero F sc_l_changed, sgs_l_changed T F, F.kp⟩,
    let ⟨fd, F⟩ := T.d_l_like; ⟨fd, ["_law_told", "_law_due"], fn_zero F sc_l_like, sgs_l_like T F, F.kp⟩,
    let ⟨fd, F⟩ := T.d_law; ⟨fd, ["_law_script"], fn_zero F sc_law, sgs_law T F, F.kp⟩⟩
  | k + 1 => ⟨let ⟨fd, F⟩ := T.d_is_whole; ⟨fd, ["thing", "low", "high"], fn_step (j := 2 * k + 3) (k := k) rfl F sc_is_whole fun _ _ _ _ _ _ hr => b_is_whole T (all_ok T k) hr, sgs_is_whole T F, F.kp⟩,
    let ⟨fd, F⟩ := T.d_is_word; ⟨fd, ["thing"], fn_step (j := 2 * k + 3) (k := k) rfl F sc_is_word fun _ _ _ _ _ _ hr => b_is_word T (all_ok T k) hr, sgs_is_word T F, F.kp⟩,
    let ⟨fd, F⟩ := T.d_is_one_of; ⟨fd, ["thing", "texts"], fn_step (j := 2 * k + 3) (k := k) rfl F sc_is_one_of fun _ _ _ _ _ _ hr => b_is_one_of T (all_ok T k) hr, sgs_is_one_of T F, F.kp⟩,
    let ⟨fd, F⟩ := T.d_is_tuple_of; ⟨fd, ["thing", "least", "most"], fn_step (j := 2 * k + 3) (k := k) rfl F sc_is_tuple_of fun _ _ _ _ _ _ hr => b_is_tuple_of T (all_ok T k) hr, sgs_is_tuple_of T F, F.kp⟩,
    let ⟨fd, F⟩ := T.d_is_value; ⟨fd, ["kind", "thing"], fn_step (j := 2 * k + 3) (k := k) rfl F sc_is_value fun _ _ _ _ _ _ hr => b_is_value T (all_ok T k) hr, sgs_is_value T F, F.kp⟩,
    let ⟨fd, F⟩ := T.d_is_column; ⟨fd, ["thing"], fn_step (j := 2 * k + 3) (k := k) rfl F sc_is_column fun _ _ _ _ _ _ hr => b_is_column T (all_ok T k) hr, sgs_is_column T F, F.kp⟩,
    let ⟨fd, F⟩ := T.d_is_form; ⟨fd, ["thing"], fn_step (j := 2 * k + 3) (k := k) rfl F sc_is_form fun _ _ _ _ _ _ hr => b_is_form T (all_ok T k) hr, sgs_is_form T F, F.kp⟩,
    let ⟨fd, F⟩ := T.d_is_row; ⟨fd, ["form", "thing"], fn_step (j := 2 * k + 3) (k := k) rfl F sc_is_row fun _ _ _ _ _ _ hr => b_is_row T (all_ok T k) hr, sgs_is_row T F, F.kp⟩,
    let ⟨fd, F⟩ := T.d_names_of; ⟨fd, ["form"], fn_step (j := 2 * k + 3) (k := k) rfl F sc_names_of fun _ _ _ _ _ _ hr => b_names_of T (all_ok T k) hr, sgs_names_of T F, F.kp⟩,
    let ⟨fd, F⟩ := T.d_are_columns; ⟨fd, ["form", "thing", "least", "most"], fn_step (j := 2 * k + 3) (k := k) rfl F sc_are_columns fun _ _ _ _ _ _ hr => b_are_columns T (all_ok T k) hr, sgs_are_columns T F, F.kp⟩,
    let ⟨fd, F⟩ := T.d_number_of; ⟨fd, ["value"], fn_step (j := 2 * k + 3) (k := k) rfl F sc_number_of fun _ _ _ _ _ _ hr => b_number_of T (all_ok T k) hr, sgs_number_of T F, F.kp⟩,
    let ⟨fd, F⟩ := T.d_mark; ⟨fd, ["values"], fn_step (j := 2 * k + 3) (k := k) rfl F sc_mark fun _ _ _ _ _ _ hr => b_mark T (all_ok T k) hr, sgs_mark T F, F.kp⟩,
    let ⟨fd, F⟩ := T.d_value_of; ⟨fd, ["form", "row", "column"], fn_step (j := 2 * k + 3) (k := k) rfl F sc_value_of fun _ _ _ _ _ _ hr => b_value_of T (all_ok T k) hr, sgs_value_of T F, F.kp⟩,
    let ⟨fd, F⟩ := T.d_values_of; ⟨fd, ["form", "row", "columns"], fn_step (j := 2 * k + 3) (k := k) rfl F sc_values_of fun _ _ _ _ _ _ hr => b_values_of T (all_ok T k) hr, sgs_values_of T F, F.kp⟩,
    let ⟨fd, F⟩ := T.d_Buckets_init; ⟨fd, ["self", "count", "most"], fn_step (j := 2 * k + 3) (k := k) rfl F sc_Buckets_init fun _ _ _ _ _ _ hr => b_Buckets_init T (all_ok T k) hr, sgs_Buckets_init T F, F.kp⟩,
    let ⟨fd, F⟩ := T.d_Buckets_bucket_of; ⟨fd, ["self", "values"], fn_step (j := 2 * k + 3) (k := k) rfl F sc_Buckets_bucket_of fun _ _ _ _ _ _ hr => b_Buckets_bucket_of T (all_ok T k) hr, sgs_Buckets_bucket_of T F, F.kp⟩,
    let ⟨fd, F⟩ := T.d_Buckets_put; ⟨fd, ["self", "thing"], fn_step (j := 2 * k + 3) (k := k) rfl F sc_Buckets_put fun _ _ _ _ _ _ hr => b_Buckets_put T (all_ok T k) hr, sgs_Buckets_put T F, F.kp⟩,
    let ⟨fd, F⟩ := T.d_Buckets_drop; ⟨fd, ["self", "thing"], fn_step (j := 2 * k + 3) (k := k) rfl F sc_Buckets_drop fun _ _ _ _ _ _ hr => b_Buckets_drop T (all_ok T k) hr, sgs_Buckets_drop T F, F.kp⟩,
    let ⟨fd, F⟩ := T.d_Buckets_pages; ⟨fd, ["self"], fn_step (j := 2 * k + 3) (k := k) rfl F sc_Buckets_pages fun _ _ _ _ _ _ hr => b_Buckets_pages T (all_ok T k) hr, sgs_Buckets_pages T F, F.kp⟩,
    let ⟨fd, F⟩ := T.d_groups; ⟨fd, ["many", "size"], fn_step (j := 2 * k + 3) (k := k) rfl F sc_groups fun _ _ _ _ _ _ hr => b_groups T (all_ok T k) hr, sgs_groups T F, F.kp⟩,
    let ⟨fd, F⟩ := T.d_levels_of; ⟨fd, ["leaves", "fan"], fn_step (j := 2 * k + 3) (k := k) rfl F sc_levels_of fun _ _ _ _ _ _ hr => b_levels_of T (all_ok T k) hr, sgs_levels_of T F, F.kp⟩,
    let ⟨fd, F⟩ := T.d_pages_of; ⟨fd, ["leaves", "fan"], fn_step (j := 2 * k + 3) (k := k) rfl F sc_pages_of fun _ _ _ _ _ _ hr => b_pages_of T (all_ok T k) hr, sgs_pages_of T F, F.kp⟩,
    let ⟨fd, F⟩ := T.d_Run_init; ⟨fd, ["self", "most", "fan", "things"], fn_step (j := 2 * k + 3) (k := k) rfl F sc_Run_init fun _ _ _ _ _ _ hr => b_Run_init T (all_ok T k) hr, sgs_Run_init T F, F.kp⟩,
    let ⟨fd, F⟩ := T.d_Run_levels; ⟨fd, ["self"], fn_step (j := 2 * k + 3) (k := k) rfl F sc_Run_levels fun _ _ _ _ _ _ hr => b_Run_levels T (all_ok T k) hr, sgs_Run_levels T F, F.kp⟩,
    let ⟨fd, F⟩ := T.d_Run_pages; ⟨fd, ["self"], fn_step (j := 2 * k + 3) (k := k) rfl F sc_Run_pages fun _ _ _ _ _ _ hr => b_Run_pages T (all_ok T k) hr, sgs_Run_pages T F, F.kp⟩,
    let ⟨fd, F⟩ := T.d_Run_place_of; ⟨fd, ["self", "thing"], fn_step (j := 2 * k + 3) (k := k) rfl F sc_Run_place_of fun _ _ _ _ _ _ hr => b_Run_place_of T (all_ok T k) hr, sgs_Run_place_of T F, F.kp⟩,
    let ⟨fd, F⟩ := T.d_Run_put; ⟨fd, ["self", "thing"], fn_step (j := 2 * k + 3) (k := k) rfl F sc_Run_put fun _ _ _ _ _ _ hr => b_Run_put T (all_ok T k) hr, sgs_Run_put T F, F.kp⟩,
    let ⟨fd, F⟩ := T.d_Run_drop; ⟨fd, ["self", "thing"], fn_step (j := 2 * k + 3) (k := k) rfl F sc_Run_drop fun _ _ _ _ _ _ hr => b_Run_drop T (all_ok T k) hr, sgs_Run_drop T F, F.kp⟩,
    let ⟨fd, F⟩ := T.d_look_store; ⟨fd, ["form", "kind", "key"], fn_step (j := 2 * k + 3) (k := k) rfl F sc_look_store fun _ _ _ _ _ _ hr => b_look_store T (all_ok T k) hr, sgs_look_store T F, F.kp⟩,
    let ⟨fd, F⟩ := T.d_Heap_init; ⟨fd, ["self", "most"], fn_step (j := 2 * k + 3) (k := k) rfl F sc_Heap_init fun _ _ _ _ _ _ hr => b_Heap_init T (all_ok T k) hr, sgs_Heap_init T F, F.kp⟩,
    let ⟨fd, F⟩ := T.d_Heap_put; ⟨fd, ["self", "thing"], fn_step (j := 2 * k + 3) (k := k) rfl F sc_Heap_put fun _ _ _ _ _ _ hr => b_Heap_put T (all_ok T k) hr, sgs_Heap_put T F, F.kp⟩,
    let ⟨fd, F⟩ := T.d_Heap_drop; ⟨fd, ["self", "thing"], fn_step (j := 2 * k + 3) (k := k) rfl F sc_Heap_drop fun _ _ _ _ _ _ hr => b_Heap_drop T (all_ok T k) hr, sgs_Heap_drop T F, F.kp⟩,
    let ⟨fd, F⟩ := T.d_Store_init; ⟨fd, ["self", "shape", "form", "kind", "key"], fn_step (j := 2 * k + 3) (k := k) rfl F sc_Store_init fun _ _ _ _ _ _ hr => b_Store_init T (all_ok T k) hr, sgs_Store_init T F, F.kp⟩,
    let ⟨fd, F⟩ := T.d_Store_put_thing; ⟨fd, ["self", "number"], fn_step (j := 2 * k + 3) (k := k) rfl F sc_Store_put_thing fun _ _ _ _ _ _ hr => b_Store_put_thing T (all_ok T k) hr, sgs_Store_put_thing T F, F.kp⟩,
    let ⟨fd, F⟩ := T.d_Store_drop_thing; ⟨fd, ["self", "number"], fn_step (j := 2 * k + 3) (k := k) rfl F sc_Store_drop_thing fun _ _ _ _ _ _ hr => b_Store_drop_thing T (all_ok T k) hr, sgs_Store_drop_thing T F, F.kp⟩,
    let ⟨fd, F⟩ := T.d_Store_thing_of; ⟨fd, ["self", "number"], fn_step (j := 2 * k + 3) (k := k) rfl F sc_Store_thing_of fun _ _ _ _ _ _ hr => b_Store_thing_of T (all_ok T k) hr, sgs_Store_thing_of T F, F.kp⟩,
    let ⟨fd, F⟩ := T.d_Store_row; ⟨fd, ["self", "number"], fn_step (j := 2 * k + 3) (k := k) rfl F sc_Store_row fun _ _ _ _ _ _ hr => b_Store_row T (all_ok T k) hr, sgs_Store_row T F, F.kp⟩,
    let ⟨fd, F⟩ := T.d_Store_put; ⟨fd, ["self", "row"], fn_step (j := 2 * k + 3) (k := k) rfl F sc_Store_put fun _ _ _ _ _ _ hr => b_Store_put T (all_ok T k) hr, sgs_Store_put T F, F.kp⟩,
    let ⟨fd, F⟩ := T.d_Store_put_row; ⟨fd, ["self", "row"], fn_step (j := 2 * k + 3) (k := k) rfl F sc_Store_put_row fun _ _ _ _ _ _ hr => b_Store_put_row T (all_ok T k) hr, sgs_Store_put_row T F, F.kp⟩,
    let ⟨fd, F⟩ := T.d_Store_drop; ⟨fd, ["self", "number"], fn_step (j := 2 * k + 3) (k := k) rfl F sc_Store_drop fun _ _ _ _ _ _ hr => b_Store_drop T (all_ok T k) hr, sgs_Store_drop T F, F.kp⟩,
    let ⟨fd, F⟩ := T.d_Store_change; ⟨fd, ["self", "number", "column", "value"], fn_step (j := 2 * k + 3) (k := k) rfl F sc_Store_change fun _ _ _ _ _ _ hr => b_Store_change T (all_ok T k) hr, sgs_Store_change T F, F.kp⟩,
    let ⟨fd, F⟩ := T.d_Store_pages; ⟨fd, ["self"], fn_step (j := 2 * k + 3) (k := k) rfl F sc_Store_pages fun _ _ _ _ _ _ hr => b_Store_pages T (all_ok T k) hr, sgs_Store_pages T F, F.kp⟩,
    let ⟨fd, F⟩ := T.d_Store_all_rows; ⟨fd, ["self"], fn_step (j := 2 * k + 3) (k := k) rfl F sc_Store_all_rows fun _ _ _ _ _ _ hr => b_Store_all_rows T (all_ok T k) hr, sgs_Store_all_rows T F, F.kp⟩,
    let ⟨fd, F⟩ := T.d_Shape_init; ⟨fd, ["self", "rows", "entries", "fan", "buckets", "bits"], fn_step (j := 2 * k + 3) (k := k) rfl F sc_Shape_init fun _ _ _ _ _ _ hr => b_Shape_init T (all_ok T k) hr, sgs_Shape_init T F, F.kp⟩,
    let ⟨fd, F⟩ := T.d_l_bag; ⟨fd, ["_law_script", "_law_at"], fn_step (j := 2 * k + 3) (k := k) rfl F sc_l_bag fun _ _ _ _ _ _ hr => b_l_bag T (all_ok T k) hr, sgs_l_bag T F, F.kp⟩,
    let ⟨fd, F⟩ := T.d_l_take; ⟨fd, ["_law_bag_here", "_law_many"], fn_step (j := 2 * k + 3) (k := k) rfl F sc_l_take fun _ _ _ _ _ _ hr => b_l_take T (all_ok T k) hr, sgs_l_take T F, F.kp⟩,
    let ⟨fd, F⟩ := T.d_l_names; ⟨fd, ["_law_bag_here", "_law_many"], fn_step (j := 2 * k + 3) (k := k) rfl F sc_l_names fun _ _ _ _ _ _ hr => b_l_names T (all_ok T k) hr, sgs_l_names T F, F.kp⟩,
    let ⟨fd, F⟩ := T.d_l_word; ⟨fd, ["_law_bag_here"], fn_step (j := 2 * k + 3) (k := k) rfl F sc_l_word fun _ _ _ _ _ _ hr => b_l_word T (all_ok T k) hr, sgs_l_word T F, F.kp⟩,
    let ⟨fd, F⟩ := T.d_l_value; ⟨fd, ["_law_bag_here", "_law_kind"], fn_step (j := 2 * k + 3) (k := k) rfl F sc_l_value fun _ _ _ _ _ _ hr => b_l_value T (all_ok T k) hr, sgs_l_value T F, F.kp⟩,
    let ⟨fd, F⟩ := T.d_l_form; ⟨fd, ["_law_bag_here"], fn_step (j := 2 * k + 3) (k := k) rfl F sc_l_form fun _ _ _ _ _ _ hr => b_l_form T (all_ok T k) hr, sgs_l_form T F, F.kp⟩,
    let ⟨fd, F⟩ := T.d_l_row; ⟨fd, ["_law_bag_here", "_law_form_here"], fn_step (j := 2 * k + 3) (k := k) rfl F sc_l_row fun _ _ _ _ _ _ hr => b_l_row T (all_ok T k) hr, sgs_l_row T F, F.kp⟩,
    let ⟨fd, F⟩ := T.d_l_heap_put; ⟨fd, ["_law_pages", "_law_cap", "_law_number"], fn_step (j := 2 * k + 3) (k := k) rfl F sc_l_heap_put fun _ _ _ _ _ _ hr => b_l_heap_put T (all_ok T k) hr, sgs_l_heap_put T F, F.kp⟩,
    let ⟨fd, F⟩ := T.d_l_heap_drop; ⟨fd, ["_law_pages", "_law_number"], fn_step (j := 2 * k + 3) (k := k) rfl F sc_l_heap_drop fun _ _ _ _ _ _ hr => b_l_heap_drop T (all_ok T k) hr, sgs_l_heap_drop T F, F.kp⟩,
    let ⟨fd, F⟩ := T.d_l_same; ⟨fd, ["_law_store", "_law_stock", "_law_pages"], fn_step (j := 2 * k + 3) (k := k) rfl F sc_l_same fun _ _ _ _ _ _ hr => b_l_same T (all_ok T k) hr, sgs_l_same T F, F.kp⟩,
    let ⟨fd, F⟩ := T.d_l_edit; ⟨fd, ["_law_bag_here", "_law_form_here", "_law_stock", "_law_last"], fn_step (j := 2 * k + 3) (k := k) rfl F sc_l_edit fun _ _ _ _ _ _ hr => b_l_edit T (all_ok T k) hr, sgs_l_edit T F, F.kp⟩,
    let ⟨fd, F⟩ := T.d_l_changed; ⟨fd, ["_law_form_here", "_law_row_here", "_law_column", "_law_value_here"], fn_step (j := 2 * k + 3) (k := k) rfl F sc_l_changed fun _ _ _ _ _ _ hr => b_l_changed T (all_ok T k) hr, sgs_l_changed T F, F.kp⟩,
    let ⟨fd, F⟩ := T.d_l_like; ⟨fd, ["_law_told", "_law_due"], fn_step (j := 2 * k + 3) (k := k) rfl F sc_l_like fun _ _ _ _ _ _ hr => b_l_like T (all_ok T k) hr, sgs_l_like T F, F.kp⟩,
    let ⟨fd, F⟩ := T.d_law; ⟨fd, ["_law_script"], fn_step (j := 2 * k + 3) (k := k) rfl F sc_law fun _ _ _ _ _ _ hr => b_law T (all_ok T k) hr, sgs_law T F, F.kp⟩⟩
end
end Wk
namespace Wk
open PySem Iv
local macro_rules | `(tactic| and_intros) => `(tactic| repeat (first
  | with_reducible refine (ru_exs1).mpr ?_
  | with_reducible refine (ru_exs0).mpr ?_
  | with_reducible refine (nx_next).mpr ?_
  | with_reducible refine (nx_ret).mpr ?_
  | with_reducible refine (nx_cont).mpr ?_
  | with_reducible refine (nx_brk).mpr ?_
  | with_reducible refine (nx_raised).mpr ?_
  | with_reducible refine (run_qret).mpr ?_
  | ((with_reducible apply r_var); (· exact rfl))
  | with_reducible refine (run_qnext).mpr ?_
  | with_reducible refine (run_qraised).mpr ?_
  | with_reducible refine (turn_next).mpr ?_
  | with_reducible refine (turn_cont).mpr ?_
  | with_reducible refine (turn_brk).mpr ?_
  | with_reducible refine (turn_ret).mpr ?_
  | with_reducible refine (turn_raised).mpr ?_
  | with_reducible refine (ru_sAsg).mpr ?_
  | with_reducible refine (ru_sExpr).mpr ?_
  | with_reducible refine (ru_sIte).mpr ?_
  | with_reducible refine (ru_sRet).mpr ?_
  | with_reducible refine (ru_sRetN).mpr ?_
  | with_reducible refine (ru_sCont).mpr ?_
  | with_reducible refine (ru_sBrk).mpr ?_
  | with_reducible refine (ru_sPass).mpr ?_
  | with_reducible refine (ru_sFor).mpr ?_
  | with_reducible refine (ru_aVar).mpr ?_
  | with_reducible refine (ru_aTup).mpr ?_
  | with_reducible refine (ru_aTups).mpr ?_
  | with_reducible refine (ru_as0).mpr ?_
  | with_reducible refine (ru_as1).mpr ?_
  | with_reducible refine (ru_aIdx).mpr ?_
  | with_reducible refine (ru_aAttr).mpr ?_
  | with_reducible refine (ru_aSlc).mpr ?_
  | with_reducible refine (ru_aDidx).mpr ?_
  | with_reducible refine (ru_con).mpr ?_
  | with_reducible refine (ru_evs1).mpr ?_
  | with_reducible refine (ru_evs0).mpr ?_
  | with_reducible refine (ru_bin).mpr ?_
  | with_reducible refine (ru_cmp).mpr ?_
  | with_reducible refine (ru_call).mpr ?_
  | with_reducible refine (ru_and).mpr ?_
  | with_reducible refine (ru_or).mpr ?_
  | with_reducible refine (ru_not).mpr ?_
  | with_reducible refine (ru_ife).mpr ?_
  | with_reducible refine (ru_chain).mpr ?_
  | with_reducible refine (ru_neg).mpr ?_
  | with_reducible refine (ru_tup).mpr ?_
  | with_reducible refine (ru_lst).mpr ?_
  | with_reducible refine (ru_idx).mpr ?_
  | with_reducible refine (ru_slc).mpr ?_
  | with_reducible refine (ru_rev).mpr ?_
  | with_reducible refine (ru_lc).mpr ?_
  | with_reducible refine (ru_lc2).mpr ?_
  | with_reducible refine (ru_meth).mpr ?_
  | with_reducible refine (ru_make).mpr ?_
  | with_reducible refine (ru_attr).mpr ?_
  | with_reducible refine (ru_bi).mpr ?_
  | with_reducible refine (ru_bm).mpr ?_
  | with_reducible refine (ru_frz).mpr ?_
  | with_reducible refine (ru_isit).mpr ?_
  | with_reducible refine (ru_evp0).mpr ?_
  | with_reducible refine (ru_evp1).mpr ?_
  | with_reducible refine (ru_intR).mpr ?_
  | with_reducible refine (ru_ifs0).mpr ?_
  | with_reducible refine (ru_ifs1).mpr ?_
  | with_reducible refine (ru_itE).mpr ?_
  | with_reducible refine (ru_rng1).mpr ?_
  | with_reducible refine (ru_rng2).mpr ?_
  | with_reducible refine (ru_enum).mpr ?_
  | with_reducible refine (ru_enumS).mpr ?_
  | with_reducible refine (ru_zip).mpr ?_
  | with_reducible refine (ru_step).mpr ?_
  | with_reducible refine (ru_lcStep).mpr ?_
  | with_reducible refine (ru_lcStepB).mpr ?_
  | with_reducible refine (ru_dnew).mpr ?_
  | with_reducible refine (ru_didx).mpr ?_
  | with_reducible refine (ru_din).mpr ?_
  | with_reducible refine (ru_dget2).mpr ?_
  | with_reducible refine (ru_dpop).mpr ?_
  | with_reducible refine (ru_dsort).mpr ?_
  | with_reducible refine (ru_dcomp).mpr ?_
  | with_reducible refine (ru_lenSC).mpr ?_
  | with_reducible refine (ru_sortSC).mpr ?_
  | with_reducible refine (ru_dcStep).mpr ?_
  | with_reducible refine (ru_lenS).mpr ?_
  | with_reducible refine (ru_sortS).mpr ?_
  | with_reducible refine (ru_items).mpr ?_
  | with_reducible refine (ru_keys).mpr ?_
  | with_reducible refine (ru_ntup).mpr ?_
  | with_reducible refine (ru_untup).mpr ?_
  | with_reducible refine (ru_tidx).mpr ?_
  | with_reducible refine (ru_blk).mpr ?_
  | with_reducible refine (ru_faug).mpr ?_
  | with_reducible refine Ru.eq bin_addI ?_
  | with_reducible refine Ru.eq bin_subI ?_
  | with_reducible refine Ru.eq neg_I ?_
  | with_reducible refine Ru.eq tru_b ?_
  | with_reducible refine Ru.eq tru_i ?_
  | with_reducible refine Ru.eq cmp_ltI ?_
  | with_reducible refine Ru.eq cmp_leI ?_
  | with_reducible refine Ru.eq cmp_gtI ?_
  | with_reducible refine Ru.eq cmp_geI ?_
  | with_reducible refine Ru.eq cmp_eqI ?_
  | with_reducible refine Ru.eq cmp_neI ?_
  | with_reducible refine Ru.eq cmp_eqdI ?_
  | with_reducible refine Ru.eq cmp_nedI ?_
  | with_reducible refine Ru.eq cmp_eqS ?_
  | with_reducible refine Ru.eq cmp_neS ?_
  | with_reducible refine Ru.eq cmp_isN ?_
  | with_reducible refine Ru.eq cmp_notN ?_
  | with_reducible refine Ru.eq cmp_isB ?_
  | with_reducible refine Ru.eq idx_tup0 ?_
  | with_reducible refine Ru.eq idx_tup1 ?_
  | with_reducible refine Ru.eq idx_tup2 ?_
  | with_reducible refine Ru.eq idx_tup3 ?_
  | with_reducible refine Ru.eq idx_lst0 ?_
  | with_reducible refine Ru.eq idx_lst1 ?_
  | with_reducible refine Ru.eq bi_lenT ?_
  | with_reducible refine Ru.eq bi_lenL ?_
  | with_reducible refine Ru.eq bi_lenC ?_
  | with_reducible refine Ru.eq bi_lenS ?_
  | with_reducible refine Ru.eq bi_tupT ?_
  | with_reducible refine Ru.eq bi_tupL ?_
  | with_reducible refine Ru.eq bi_min2 ?_
  | with_reducible refine Ru.eq bi_max2 ?_
  | with_reducible refine Ru.eq bi_abs ?_
  | with_reducible refine Ru.eq bi_intI ?_
  | with_reducible refine Ru.eq bi_intB ?_
  | with_reducible refine Ru.eq mk_lst ?_
  | ((with_reducible apply r_sz); (· exact rfl))
  | ((with_reducible apply r_itet); (· first | exact rfl | assumption))
  | ((with_reducible apply r_itef); (· first | exact rfl | assumption))
  | ((with_reducible apply r_callR); (· exact rfl))
  | ((with_reducible apply r_tupA); (· exact rfl); (· exact rfl))
  | ((with_reducible apply r_tupsA); (· exact rfl); (· rfl); (· exact rfl); (· exact rfl))
  | ((with_reducible apply r_aug); (· exact rfl))
  | ((with_reducible apply r_modI); (· first | assumption | omega))
  | ((with_reducible apply r_mulI); (· first | exact .inr (by decide) | exact .inl (by decide) | (unfold mulOk; omega)))
  | ((with_reducible apply r_divI); (· first | assumption | omega))
  | ((with_reducible apply r_addT); (· exact rfl))
  | ((with_reducible apply r_at); (· assumption); (· exact rfl))
  | ((with_reducible apply r_atI); (· exact rfl))
  | ((with_reducible apply r_meth); (· assumption); (· exact rfl))
  | ((with_reducible apply r_methI); (· exact rfl))
  | ((with_reducible apply r_walkB); (· assumption))
  | ((with_reducible apply r_enumB); (· assumption))
  | ((with_reducible apply r_oR); (· exact rfl))
  | ((with_reducible apply r_enumR); (· exact rfl))
  | ((with_reducible apply r_enumSB); (· assumption); (· (unfold smallI; omega)))
  | ((with_reducible apply r_enumSR); (· exact rfl); (· (unfold smallI; omega)))
  | ((with_reducible apply r_rng1R); (· (unfold smallI; omega)))
  | ((with_reducible apply r_rng2R); (· (unfold smallI; omega)))
  | ((with_reducible apply r_isitR); (· exact rfl); (· exact rfl))
  | ((with_reducible apply r_isi); (· exact rfl))
  | ((with_reducible apply r_lenB); (· assumption))
  | with_reducible refine Ru.eq bi_all ?_
  | ((with_reducible apply r_itemsB); (· assumption))
  | ((with_reducible apply r_keysB); (· assumption))
  | with_reducible apply r_ntupL
  | with_reducible apply r_untup
  | with_reducible apply r_slcL
  | with_reducible apply r_slcT
  | ((with_reducible apply r_slcB); (· assumption))
  | ((with_reducible apply r_listB); (· assumption))
  | with_reducible apply r_listL
  | with_reducible apply r_listT
  | ((with_reducible apply And.intro); (· first | exact bm_okA ‹_› | exact bm_okI ‹_› | exact bm_okR ‹_› | exact bm_okP ‹_› | exact bm_okC ‹_› | exact dct_some ‹_› | exact drd_some ‹_› | exact (show isNtp (.ntp _) = true from rfl)))))
local macro_rules | `(tactic| subst_eqs) => `(tactic| repeat (first
  | with_reducible refine (ru_exs1).mpr ?_
  | with_reducible refine (ru_exs0).mpr ?_
  | with_reducible refine (nx_next).mpr ?_
  | with_reducible refine (nx_ret).mpr ?_
  | with_reducible refine (nx_cont).mpr ?_
  | with_reducible refine (nx_brk).mpr ?_
  | with_reducible refine (nx_raised).mpr ?_
  | with_reducible refine (run_qret).mpr ?_
  | ((with_reducible apply r_var); (· exact rfl))
  | with_reducible refine (run_qnext).mpr ?_
  | with_reducible refine (run_qraised).mpr ?_
  | with_reducible refine (turn_next).mpr ?_
  | with_reducible refine (turn_cont).mpr ?_
  | with_reducible refine (turn_brk).mpr ?_
  | with_reducible refine (turn_ret).mpr ?_
  | with_reducible refine (turn_raised).mpr ?_
  | with_reducible refine (ru_sAsg).mpr ?_
  | with_reducible refine (ru_sExpr).mpr ?_
  | with_reducible refine (ru_sRet).mpr ?_
  | with_reducible refine (ru_sRetN).mpr ?_
  | with_reducible refine (ru_sCont).mpr ?_
  | with_reducible refine (ru_sBrk).mpr ?_
  | with_reducible refine (ru_sPass).mpr ?_
  | with_reducible refine (ru_sFor).mpr ?_
  | with_reducible refine (ru_aVar).mpr ?_
  | with_reducible refine (ru_aTup).mpr ?_
  | with_reducible refine (ru_aTups).mpr ?_
  | with_reducible refine (ru_as0).mpr ?_
  | with_reducible refine (ru_as1).mpr ?_
  | with_reducible refine (ru_aIdx).mpr ?_
  | with_reducible refine (ru_aAttr).mpr ?_
  | with_reducible refine (ru_aSlc).mpr ?_
  | with_reducible refine (ru_aDidx).mpr ?_
  | with_reducible refine (ru_con).mpr ?_
  | with_reducible refine (ru_evs1).mpr ?_
  | with_reducible refine (ru_evs0).mpr ?_
  | with_reducible refine (ru_bin).mpr ?_
  | with_reducible refine (ru_cmp).mpr ?_
  | with_reducible refine (ru_call).mpr ?_
  | with_reducible refine (ru_and).mpr ?_
  | with_reducible refine (ru_or).mpr ?_
  | with_reducible refine (ru_not).mpr ?_
  | with_reducible refine (ru_ife).mpr ?_
  | with_reducible refine (ru_chain).mpr ?_
  | with_reducible refine (ru_neg).mpr ?_
  | with_reducible refine (ru_tup).mpr ?_
  | with_reducible refine (ru_lst).mpr ?_
  | with_reducible refine (ru_idx).mpr ?_
  | with_reducible refine (ru_slc).mpr ?_
  | with_reducible refine (ru_rev).mpr ?_
  | with_reducible refine (ru_lc).mpr ?_
  | with_reducible refine (ru_lc2).mpr ?_
  | with_reducible refine (ru_meth).mpr ?_
  | with_reducible refine (ru_make).mpr ?_
  | with_reducible refine (ru_attr).mpr ?_
  | with_reducible refine (ru_bi).mpr ?_
  | with_reducible refine (ru_bm).mpr ?_
  | with_reducible refine (ru_frz).mpr ?_
  | with_reducible refine (ru_isit).mpr ?_
  | with_reducible refine (ru_evp0).mpr ?_
  | with_reducible refine (ru_evp1).mpr ?_
  | with_reducible refine (ru_intR).mpr ?_
  | with_reducible refine (ru_ifs0).mpr ?_
  | with_reducible refine (ru_ifs1).mpr ?_
  | with_reducible refine (ru_itE).mpr ?_
  | with_reducible refine (ru_rng1).mpr ?_
  | with_reducible refine (ru_rng2).mpr ?_
  | with_reducible refine (ru_enum).mpr ?_
  | with_reducible refine (ru_enumS).mpr ?_
  | with_reducible refine (ru_zip).mpr ?_
  | with_reducible refine (ru_step).mpr ?_
  | with_reducible refine (ru_lcStep).mpr ?_
  | with_reducible refine (ru_lcStepB).mpr ?_
  | with_reducible refine (ru_dnew).mpr ?_
  | with_reducible refine (ru_didx).mpr ?_
  | with_reducible refine (ru_din).mpr ?_
  | with_reducible refine (ru_dget2).mpr ?_
  | with_reducible refine (ru_dpop).mpr ?_
  | with_reducible refine (ru_dsort).mpr ?_
  | with_reducible refine (ru_dcomp).mpr ?_
  | with_reducible refine (ru_lenSC).mpr ?_
  | with_reducible refine (ru_sortSC).mpr ?_
  | with_reducible refine (ru_dcStep).mpr ?_
  | with_reducible refine (ru_lenS).mpr ?_
  | with_reducible refine (ru_sortS).mpr ?_
  | with_reducible refine (ru_items).mpr ?_
  | with_reducible refine (ru_keys).mpr ?_
  | with_reducible refine (ru_ntup).mpr ?_
  | with_reducible refine (ru_untup).mpr ?_
  | with_reducible refine (ru_tidx).mpr ?_
  | with_reducible refine (ru_blk).mpr ?_
  | with_reducible refine (ru_faug).mpr ?_
  | with_reducible refine Ru.eq bin_addI ?_
  | with_reducible refine Ru.eq bin_subI ?_
  | with_reducible refine Ru.eq neg_I ?_
  | with_reducible refine Ru.eq tru_b ?_
  | with_reducible refine Ru.eq tru_i ?_
  | with_reducible refine Ru.eq cmp_ltI ?_
  | with_reducible refine Ru.eq cmp_leI ?_
  | with_reducible refine Ru.eq cmp_gtI ?_
  | with_reducible refine Ru.eq cmp_geI ?_
  | with_reducible refine Ru.eq cmp_eqI ?_
  | with_reducible refine Ru.eq cmp_neI ?_
  | with_reducible refine Ru.eq cmp_eqdI ?_
  | with_reducible refine Ru.eq cmp_nedI ?_
  | with_reducible refine Ru.eq cmp_eqS ?_
  | with_reducible refine Ru.eq cmp_neS ?_
  | with_reducible refine Ru.eq cmp_isN ?_
  | with_reducible refine Ru.eq cmp_notN ?_
  | with_reducible refine Ru.eq cmp_isB ?_
  | with_reducible refine Ru.eq idx_tup0 ?_
  | with_reducible refine Ru.eq idx_tup1 ?_
  | with_reducible refine Ru.eq idx_tup2 ?_
  | with_reducible refine Ru.eq idx_tup3 ?_
  | with_reducible refine Ru.eq idx_lst0 ?_
  | with_reducible refine Ru.eq idx_lst1 ?_
  | with_reducible refine Ru.eq bi_lenT ?_
  | with_reducible refine Ru.eq bi_lenL ?_
  | with_reducible refine Ru.eq bi_lenC ?_
  | with_reducible refine Ru.eq bi_lenS ?_
  | with_reducible refine Ru.eq bi_tupT ?_
  | with_reducible refine Ru.eq bi_tupL ?_
  | with_reducible refine Ru.eq bi_min2 ?_
  | with_reducible refine Ru.eq bi_max2 ?_
  | with_reducible refine Ru.eq bi_abs ?_
  | with_reducible refine Ru.eq bi_intI ?_
  | with_reducible refine Ru.eq bi_intB ?_
  | with_reducible refine Ru.eq mk_lst ?_
  | ((with_reducible apply r_sz); (· exact rfl))
  | ((with_reducible apply r_itet); (· first | exact rfl | assumption))
  | ((with_reducible apply r_itef); (· first | exact rfl | assumption))
  | ((with_reducible apply r_callR); (· exact rfl))
  | ((with_reducible apply r_tupA); (· exact rfl); (· exact rfl))
  | ((with_reducible apply r_tupsA); (· exact rfl); (· rfl); (· exact rfl); (· exact rfl))
  | ((with_reducible apply r_aug); (· exact rfl))
  | ((with_reducible apply r_modI); (· first | assumption | omega))
  | ((with_reducible apply r_mulI); (· first | exact .inr (by decide) | exact .inl (by decide) | (unfold mulOk; omega)))
  | ((with_reducible apply r_divI); (· first | assumption | omega))
  | ((with_reducible apply r_addT); (· exact rfl))
  | ((with_reducible apply r_at); (· assumption); (· exact rfl))
  | ((with_reducible apply r_atI); (· exact rfl))
  | ((with_reducible apply r_meth); (· assumption); (· exact rfl))
  | ((with_reducible apply r_methI); (· exact rfl))
  | ((with_reducible apply r_walkB); (· assumption))
  | ((with_reducible apply r_enumB); (· assumption))
  | ((with_reducible apply r_oR); (· exact rfl))
  | ((with_reducible apply r_enumR); (· exact rfl))
  | ((with_reducible apply r_enumSB); (· assumption); (· (unfold smallI; omega)))
  | ((with_reducible apply r_enumSR); (· exact rfl); (· (unfold smallI; omega)))
  | ((with_reducible apply r_rng1R); (· (unfold smallI; omega)))
  | ((with_reducible apply r_rng2R); (· (unfold smallI; omega)))
  | ((with_reducible apply r_isitR); (· exact rfl); (· exact rfl))
  | ((with_reducible apply r_isi); (· exact rfl))
  | ((with_reducible apply r_lenB); (· assumption))
  | with_reducible refine Ru.eq bi_all ?_
  | ((with_reducible apply r_itemsB); (· assumption))
  | ((with_reducible apply r_keysB); (· assumption))
  | with_reducible apply r_ntupL
  | with_reducible apply r_untup
  | with_reducible apply r_slcL
  | with_reducible apply r_slcT
  | ((with_reducible apply r_slcB); (· assumption))
  | ((with_reducible apply r_listB); (· assumption))
  | with_reducible apply r_listL
  | with_reducible apply r_listT
  | ((with_reducible apply And.intro); (· first | exact bm_okA ‹_› | exact bm_okI ‹_› | exact bm_okR ‹_› | exact bm_okP ‹_› | exact bm_okC ‹_› | exact dct_some ‹_› | exact drd_some ‹_› | exact (show isNtp (.ntp _) = true from rfl)))))

section
/-! ### what the programs tell -/
def BagAt (S : Sto) (b : Nat) : Prop := ∃ g r : Int, cellAt S b = some (.lst [.int g, .int r]) ∧ 0 ≤ g ∧ 0 ≤ r ∧ r < 2147483647
theorem BagAt.keep {S S' : Sto} {b : Nat} {bs : List Nat} (h : BagAt S b) (k : Keep bs S S') (n : b ∉ bs) : BagAt S' b := by
  obtain ⟨g, r, e, q⟩ := h
  exact ⟨g, r, (k.eq b (cellAt_lt e) n).trans e, q⟩
theorem BagAt.lt {S : Sto} {b : Nat} (h : BagAt S b) : b < S.length := by
  obtain ⟨g, r, e, q⟩ := h
  exact cellAt_lt e
theorem take_ok {k b : Nat} {n : Int} {S : Sto} (hb : BagAt S b) (n0 : 0 < n) (n1 : n < 1073741824) : ∃ (d : Int) (S' : Sto), callN Tb (k + 1) 45 [.ref b, .int n] S = .ok (.int d) S' ∧ 0 ≤ d ∧ d < n ∧ Keep [b] S S' ∧ BagAt S' b := by
  obtain ⟨g, r, e, g0, r0, r1⟩ := hb
  have hl := cellAt_lt e
  rw [callN_at (d := ⟨2, 3, p_l_take⟩) rfl rfl]
  unfold Iv.run
  by_cases hg : 0 < g
  · simp [exs, ex, ev, asg, tru, truR, cmpR, idxR, seqOf, e, atD, binR, sidxR, hg, n0, n1, ck]
    exact ⟨_, _, ⟨rfl, rfl⟩, Int.emod_nonneg _ (by omega), Int.emod_lt_of_pos _ n0, Keep.set, _, _, cellAt_set1 hl, Int.ediv_nonneg g0 (by omega), r0, r1⟩
  · have m1 : mulOk r 48271 := .inr ⟨by omega, by omega⟩
    have m2 : ((r * 48271 + 11) % 2147483647 / 8).natAbs < 18446744073709551616 := by omega
    simp [exs, ex, ev, asg, tru, truR, cmpR, idxR, seqOf, e, atD, binR, addR, sidxR, hg, n0, n1, ck, m1, m2, cellAt_set1 hl]
    exact ⟨_, _, ⟨rfl, rfl⟩, Int.emod_nonneg _ (by omega), Int.emod_lt_of_pos _ n0, Keep.set, _, _, cellAt_set1 hl, g0, by omega, by omega⟩
section
variable {k b vb : Nat} {n : Int} {ρ : Iv.Env} {S S1 : Sto} {e : E}
theorem ev_take (hv : ρ[vb]? = some (some (.ref b))) (he : ev (callN Tb (k + 1)) e ρ S = .ok (.int n) S1) (hb : BagAt S1 b) (n0 : 0 < n) (n1 : n < 1073741824) :
    ∃ d S', ev (callN Tb (k + 1)) (.call 45 [.a 0, .a 1] [.var vb, e]) ρ S = .ok (.int d) S' ∧ 0 ≤ d ∧ d < n ∧ Keep [b] S1 S' ∧ BagAt S' b := by
  obtain ⟨d, S', h, d0, d1, kp, bg⟩ := take_ok (k := k) hb n0 n1
  refine ⟨d, S', (ev_call1 (ds := [.ref b, .int n]) (S1 := S1) ?_ rfl).trans h, d0, d1, kp, bg⟩
  rw [evs2, ev_var hv, R.bind_ok, he]
  rfl
theorem ev_int {i : Int} {F : CE} : ev F (.con (.int i)) ρ S = .ok (.int i) S := by rw [ev]
end


end
section
/-! ### a bag (the script's cell by its place) -/
theorem bag_ok {k : Nat} {ns : List Int} {i : Int} {S : Sto} (i0 : 0 ≤ i) (i1 : i < 1000) : ∃ (c : Cell), callN Tb (k + 1) 44 [.scr (ns.map .int), .int i] S = .ok (.ref S.length) (S ++ [some c]) ∧ BagAt (S ++ [some c]) S.length := by
  rw [callN_at (d := ⟨2, 5, p_l_bag⟩) rfl rfl]
  obtain ⟨cell, h2⟩ : ∃ cell : Int, ex (callN Tb k) (p_l_bag.getD 1 .pass) [some (.scr (ns.map .int)), some (.int i), some (.int 0), none, none] S = .ok (.next [some (.scr (ns.map .int)), some (.int i), some (.int cell), none, none]) S := by
    by_cases h : i < ns.length
    · have e3 : i.toNat < ns.length := by omega
      simp [exs, ex, ev, evs, evp, evIt, evIfs, asg, asgs, tru, truR, cmpR, idxR, seqOf, atD, binR, addR, sidxR, biR, biLen, lenR, biAbs, biMin2, biMax2, biInt, biTuple, biList, ck, mkL, walkOf, walkL, callR, pick, h, i0, List.getElem?_eq_getElem e3]
    · simp [exs, ex, ev, evs, evp, evIt, evIfs, asg, asgs, tru, truR, cmpR, idxR, seqOf, atD, binR, addR, sidxR, biR, biLen, lenR, biAbs, biMin2, biMax2, biInt, biTuple, biList, ck, mkL, walkOf, walkL, callR, pick, h]
  obtain ⟨great, hg, h4⟩ : ∃ great : Int, 0 ≤ great ∧ ex (callN Tb k) (p_l_bag.getD 3 .pass) [some (.scr (ns.map .int)), some (.int i), some (.int cell), some (.int 0), none] S = .ok (.next [some (.scr (ns.map .int)), some (.int i), some (.int cell), some (.int great), none]) S := by
    by_cases h : 1000000000000000000 ≤ (if cell < 0 then -cell else cell)
    · refine ⟨if cell < 0 then -cell else cell, by split <;> omega, ?_⟩
      simp [exs, ex, ev, evs, evp, evIt, evIfs, asg, asgs, tru, truR, cmpR, idxR, seqOf, atD, binR, addR, sidxR, biR, biLen, lenR, biAbs, biMin2, biMax2, biInt, biTuple, biList, ck, mkL, walkOf, walkL, callR, pick, h]
    · refine ⟨0, by omega, ?_⟩
      simp [exs, ex, ev, evs, evp, evIt, evIfs, asg, asgs, tru, truR, cmpR, idxR, seqOf, atD, binR, addR, sidxR, biR, biLen, lenR, biAbs, biMin2, biMax2, biInt, biTuple, biList, ck, mkL, walkOf, walkL, callR, pick, h]
  have c0 : 0 ≤ cell % 2147483647 := Int.emod_nonneg _ (by omega)
  have c1 : cell % 2147483647 < 2147483647 := Int.emod_lt_of_pos _ (by omega)
  have m1 : mulOk 104729 i := .inl ⟨by omega, by omega⟩
  have m2 : (cell % 2147483647 + 104729 * i + 7).natAbs < 18446744073709551616 := by omega
  have i8 : 0 ≤ i % 8 ∧ i % 8 < 8 := ⟨Int.emod_nonneg _ (by omega), Int.emod_lt_of_pos _ (by omega)⟩
  obtain ⟨p, hp, p0, p1⟩ : ∃ p : Int, ([2147483629, 2147483587, 2147483579, 2147483563, 2147483549, 2147483543, 2147483497, 2147483489] : List Int)[(i % 8).toNat]? = some p ∧ 0 < p ∧ p < 2147483647 := by
    have : (i % 8).toNat < 8 := by omega
    generalize (i % 8).toNat = j at this
    match j, this with
    | 0, _ => exact ⟨_, rfl, by omega, by omega⟩
    | 1, _ => exact ⟨_, rfl, by omega, by omega⟩
    | 2, _ => exact ⟨_, rfl, by omega, by omega⟩
    | 3, _ => exact ⟨_, rfl, by omega, by omega⟩
    | 4, _ => exact ⟨_, rfl, by omega, by omega⟩
    | 5, _ => exact ⟨_, rfl, by omega, by omega⟩
    | 6, _ => exact ⟨_, rfl, by omega, by omega⟩
    | 7, _ => exact ⟨_, rfl, by omega, by omega⟩
    | j + 8, h => omega
  have hp' : ([.int 2147483629, .int 2147483587, .int 2147483579, .int 2147483563, .int 2147483549, .int 2147483543, .int 2147483497, .int 2147483489] : List D)[(i % 8).toNat]? = some (.int p) := by
    have := congrArg (Option.map D.int) hp
    rw [← List.getElem?_map] at this
    exact this
  have hq : ∀ h, ([.int 2147483629, .int 2147483587, .int 2147483579, .int 2147483563, .int 2147483549, .int 2147483543, .int 2147483497, .int 2147483489] : List D)[(i % 8).toNat]'h = .int p := fun h => (List.getElem?_eq_some_iff.mp hp').2
  have sz : (8 : Nat) ≤ sizeLine ∧ (2 : Nat) ≤ sizeLine := by decide
  refine ⟨.lst [.int great, .int ((cell % 2147483647 + 104729 * i + 7) ^ 5 % p)], run_ret ?_, great, _, cellAt_push, hg, Int.emod_nonneg _ (by omega), Int.lt_trans (Int.emod_lt_of_pos _ p0) p1⟩
  refine (exs_next (ρ' := [some (.scr (ns.map .int)), some (.int i), some (.int 0), none, none]) (S' := S) (by simp [exs, ex, ev, evs, evp, evIt, evIfs, asg, asgs, tru, truR, cmpR, idxR, seqOf, atD, binR, addR, sidxR, biR, biLen, lenR, biAbs, biMin2, biMax2, biInt, biTuple, biList, ck, mkL, walkOf, walkL, callR, pick])).trans ?_
  refine (exs_next h2).trans ?_
  refine (exs_next (ρ' := [some (.scr (ns.map .int)), some (.int i), some (.int cell), some (.int 0), none]) (S' := S) (by simp [exs, ex, ev, evs, evp, evIt, evIfs, asg, asgs, tru, truR, cmpR, idxR, seqOf, atD, binR, addR, sidxR, biR, biLen, lenR, biAbs, biMin2, biMax2, biInt, biTuple, biList, ck, mkL, walkOf, walkL, callR, pick])).trans ?_
  refine (exs_next h4).trans ?_
  simp [exs, ex, ev, evs, evp, evIt, evIfs, asg, asgs, tru, truR, cmpR, idxR, seqOf, atD, binR, addR, sidxR, biR, biLen, lenR, biAbs, biMin2, biMax2, biInt, biTuple, biList, ck, mkL, walkOf, walkL, callR, pick, sz, m1, m2, i8, p0, hp', hq]


end
section
/-! ### words, values -/
set_option maxHeartbeats 300000
abbrev lettersS : Str := "abcdefghijklmnopqrstuvwxyz"
theorem letters_list : lettersS.cps.toList = (List.range 26).map (97 + ·) := by decide +kernel
structure Word (z : Str) : Prop where
  l0 : 1 ≤ z.length
  l1 : z.length ≤ 8
  ch : ∀ c ∈ z.cps.toList, 97 ≤ c ∧ c < 123
theorem mem_letters {c : Nat} : c ∈ lettersS.cps.toList ↔ 97 ≤ c ∧ c < 123 := by
  rw [letters_list, List.mem_map]
  constructor
  · rintro ⟨i, hi, rfl⟩
    have := List.mem_range.mp hi
    omega
  · rintro ⟨h1, h2⟩
    exact ⟨c - 97, List.mem_range.mpr (by omega), by omega⟩
theorem joinL_flat : ∀ ps : List (List Nat), TL.joinL [] ps = ps.flatten
  | [] => rfl
  | [p] => by simp [TL.joinL]
  | p :: q :: r => by
    rw [TL.joinL, List.nil_append, joinL_flat (q :: r)]
    rfl
theorem join_signs (l : List Nat) : (Txt.join "" (l.map fun c => (⟨#[c]⟩ : Str))).cps.toList = l := by
  rw [TL.join_eq]
  show TL.tl (Str.join "" (l.map fun c => (⟨#[c]⟩ : Str))) = l
  rw [TL.tl_join, show TL.tl ("" : Str) = [] from rfl, joinL_flat, List.map_map]
  induction l with
  | nil => rfl
  | cons c l ih =>
    rw [List.map_cons, List.flatten_cons, ih]
    rfl
theorem strsD_map {α : Type} (f : α → Str) : ∀ l : List α, strsD (l.map fun x => D.str (f x)) = some (l.map f)
  | [] => rfl
  | i :: l => by
    rw [List.map_cons, strsD, strsD_map f l]
    rfl
theorem letter_at {c : Int} {S : Sto} (h0 : 0 ≤ c) (h1 : c < 26) : ∃ n : Nat, 97 ≤ n ∧ n < 123 ∧ idxR (.str lettersS) (.int c) S = .ok (.str ⟨#[n]⟩) S := by
  refine ⟨97 + c.toNat, by omega, by omega, ?_⟩
  have e : lettersS.cps.toList[c.toNat]? = some (97 + c.toNat) := by
    rw [letters_list, List.getElem?_map, List.getElem?_range (by omega)]
    rfl
  show (match (if 0 ≤ c then lettersS.cps.toList[c.toNat]? else _) with | some c => R.ok (D.str ⟨#[c]⟩) S | none => .err) = _
  rw [if_pos h0, e]
/-- a text of drawn letters -/
theorem lc_letters {k b vl vt vn : Nat} {N : Nat} {it : It} {ρ : Iv.Env} {S S1 : Sto} (hit : evIt (callN Tb (k + 1)) it ρ S = .ok (.fix, rngD 0 N) S1) (hv : ρ[0]? = some (some (.ref b))) (hl : ρ[vl]? = some (some (.str lettersS))) (v0 : (0 : Nat) ≠ vt) (vlt : vl ≠ vt) (hb : BagAt S1 b) (hN : N ≤ 1000) :
    ∃ (z : Str) (S' : Sto), ev (callN Tb (k + 1)) (.bm .join (.con (.str "")) [(.lc false [vt] (.var vt) it [] (.idx (.var vl) (.call 45 [.a 0, .a 1] [(.var 0), (.con (.int 26))])))]) ρ S = .ok (.str z) S' ∧ z.length = N ∧ (∀ c ∈ z.cps.toList, 97 ≤ c ∧ c < 123) ∧ Keep [b] S1 S' ∧ BagAt S' b := by
  obtain ⟨ys, S', h, l, rfl, hl', gl, kk, bb⟩ := lcLoop_inv (step := lcStep (callN Tb (k + 1)) [vt] (.var vt) [] (.idx (.var vl) (.call 45 [.a 0, .a 1] [(.var 0), (.con (.int 26))])) ρ) (src := .fix) (items := rngD 0 N) (S := S1) (fun i ys S' => ∃ l : List Nat, ys = (l.map fun c => .str ⟨#[c]⟩) ∧ l.length = i ∧ (∀ c ∈ l, 97 ≤ c ∧ c < 123) ∧ Keep [b] S1 S' ∧ BagAt S' b) ⟨[], rfl, rfl, fun c hc => (by cases hc), Keep.refl, hb⟩ (fun _ _ _ _ => trivial) (fun i d ys S' hd ⟨l, hy, hl', gl, kS, bS⟩ => by
    subst hy
    have hv' : ((ρ.set vt none).set vt (some d))[0]? = some (some (.ref b)) := by rw [List.getElem?_set_ne (Ne.symm v0), List.getElem?_set_ne (Ne.symm v0)]; exact hv
    have hl'' : ((ρ.set vt none).set vt (some d))[vl]? = some (some (.str lettersS)) := by rw [List.getElem?_set_ne (Ne.symm vlt), List.getElem?_set_ne (Ne.symm vlt)]; exact hl
    obtain ⟨t, S2, ht, t0, t1, kt, bt⟩ := ev_take (k := k) (vb := 0) (n := 26) (e := .con (.int 26)) (S := S') (S1 := S') hv' ev_int bS (by omega) (by omega)
    obtain ⟨n, n0, n1, hn⟩ := letter_at (S := S2) t0 t1
    refine ⟨[.str ⟨#[n]⟩], S2, ?_, l ++ [n], by simp, by simp [hl'], fun c hc => ?_, kS.trans kt, bt⟩
    · unfold lcStep
      rw [asg, R.bind_ok, evIfs, R.bind_ok, if_pos rfl]
      show (ev _ _ ((ρ.set vt none).set vt (some d)) S').bind _ = _
      rw [(ev_idx (ev_var hl'') ht).trans hn]
      rfl
    · rcases List.mem_append.mp hc with hc | hc
      · exact gl c hc
      · rw [List.mem_singleton.mp hc]
        exact ⟨n0, n1⟩)
  rw [rng_len] at hl'
  have L : (1000 : Nat) ≤ sizeLine := by decide
  refine ⟨Txt.join "" (l.map fun c => (⟨#[c]⟩ : Str)), S', ?_, ?_, ?_, kk, bb⟩
  · have e1 := ev_lc (box := false) (src := .fix) hit h (by rw [List.length_map]; omega)
    rw [ev, ev, R.bind_ok, ck_of (show bmOk .join (.str "") S = true from rfl), evs1, e1]
    show (match (some (l.map fun c => D.str ⟨#[c]⟩)).bind strsD with | some ys => ck ((ys.map fun s : Str => s.length).sum + ys.length * ("" : Str).length ≤ 16777216) (R.ok (D.str (Txt.join "" ys)) S') | none => .err) = _
    rw [Option.bind_some, strsD_map]
    refine ck_of ?_
    have e2 : ∀ l : List Nat, ((l.map fun c => (⟨#[c]⟩ : Str)).map fun s : Str => s.length).sum = l.length := fun l => by
      induction l with
      | nil => rfl
      | cons c l ih =>
        rw [List.map_cons, List.map_cons, List.sum_cons, ih]
        show 1 + l.length = _
        rw [List.length_cons]
        omega
    rw [e2, show ("" : Str).length = 0 from rfl]
    omega
  · have := join_signs l
    have h2 := congrArg List.length this
    exact h2.trans hl'
  · rw [join_signs]
    exact gl
theorem idx_any {c : Int} {S : Sto} (l : List D) (h0 : 0 ≤ c) (h1 : c < l.length) : ∃ d, d ∈ l ∧ idxR (.tup l) (.int c) S = .ok d S := by
  have hc : c.toNat < l.length := by omega
  refine ⟨l[c.toNat], List.getElem_mem hc, ?_⟩
  show (match (if 0 ≤ c then l[c.toNat]? else _) with | some d => R.ok d S | none => .err) = _
  rw [if_pos h0, List.getElem?_eq_getElem hc]
theorem ev_ixa {F : CE} {c : Int} {d : D} {e : E} {ρ : Iv.Env} {S S1 : Sto} (l : List D) {es : List E} (he : evs F es ρ S = .ok l S) (hl : l.length ≤ 1000) (hi : ev F e ρ S = .ok (.int c) S1) (hq : idxR (.tup l) (.int c) S1 = .ok d S1) : ev F (.idx (.tup es) e) ρ S = .ok d S1 :=
  (ev_idx (x := .tup l) (y := .int c) (S1 := S) (S2 := S1) (ev_tup he hl) hi).trans hq
theorem eq_int {c : Int} {S : Sto} : cmpR .eq (.int c) (.int 0) S = .ok (.bl (c == 0)) S := by simp [cmpR, eqD, ck, unbox, D.fz, D.dp, eqv_int]
theorem eq_str {x y : Str} {S : Sto} : cmpR .eq (.str x) (.str y) S = .ok (.bl (x == y)) S := by simp [cmpR, eqD, ck, unbox, D.fz, D.dp, D.eqv]
theorem word_of {z : Str} (h : (decide (1 ≤ z.length) && decide (z.length ≤ 8) && z.cps.toList.all (fun c => decide (97 ≤ c) && decide (c < 123))) = true) : Word z := by
  simp only [Bool.and_eq_true, decide_eq_true_eq, List.all_eq_true] at h
  exact ⟨h.1.1, h.1.2, fun c hc => h.2 c hc⟩
theorem word_ok {k b : Nat} {S : Sto} (hb : BagAt S b) : ∃ z S', callN Tb (k + 2) 47 [.ref b] S = .ok (.str z) S' ∧ Word z ∧ Keep [b] S S' ∧ BagAt S' b := by
  rw [callN_at (d := ⟨1, 3, p_l_word⟩) rfl rfl]
  obtain ⟨c, S1, h1, c0, c1, k1, b1⟩ := ev_take (k := k) (vb := 0) (ρ := [some (.ref b), none, none]) (e := .con (.int 2)) rfl ev_int hb (by omega) (by omega)
  have hcond := (ev_cmp (S2 := S1) h1 (ev_int (i := 0))).trans eq_int
  by_cases hc : c = 0
  · obtain ⟨q, S2, h2, q0, q1, k2, b2⟩ := ev_take (k := k) (vb := 0) (ρ := [some (.ref b), none, none]) (e := .con (.int 4)) rfl ev_int b1 (by omega) (by omega)
    obtain ⟨d, hd, hi⟩ := idx_any (S := S2) [.str "a", .str "b", .str "ab", .str "zzzzzzzz"] q0 (by simpa using q1)
    have hw : ∃ z, d = .str z ∧ Word z := by
      simp only [List.mem_cons, List.not_mem_nil, or_false] at hd
      rcases hd with rfl | rfl | rfl | rfl
      · exact ⟨_, rfl, word_of (by decide +kernel)⟩
      · exact ⟨_, rfl, word_of (by decide +kernel)⟩
      · exact ⟨_, rfl, word_of (by decide +kernel)⟩
      · exact ⟨_, rfl, word_of (by decide +kernel)⟩
    obtain ⟨z, rfl, hw⟩ := hw
    refine ⟨z, S2, run_ret (exs_ret (ex_ite (k := true) (hcond.trans (by rw [hc]; rfl)) ?_)), hw, k1.trans k2, b2⟩
    rw [if_pos rfl]
    exact exs_one (ex_ret (ev_ixa [.str "a", .str "b", .str "ab", .str "zzzzzzzz"] (by simp [evs, ev]) (by simp) h2 hi))
  · obtain ⟨q, S2, h2, q0, q1, k2, b2⟩ := ev_take (k := k) (vb := 0) (S := S1) (ρ := [some (.ref b), some (.str lettersS), none]) (e := .con (.int 8)) rfl ev_int b1 (by omega) (by omega)
    have hit := evIt_rng1 ((ev_bin (box := false) (op := .add) (x := .int 1) (S1 := S1) ev_int h2).trans (show binR false .add (.int 1) (.int q) S2 = .ok (.int (1 + q)) S2 from rfl)) (by unfold smallI; omega)
    obtain ⟨z, S3, h3, l3, g3, k3, b3⟩ := lc_letters (k := k) (vl := 1) (vt := 2) (vn := 0) hit rfl rfl (by decide) (by decide) b2 (by omega)
    refine ⟨z, S3, run_ret ?_, ⟨by omega, by omega, g3⟩, k1.trans (k2.trans k3), b3⟩
    refine (exs_next (ex_ite (k := false) (S1 := S1) (hcond.trans (by rw [beq_eq_false_iff_ne.mpr hc])) (by rw [if_neg Bool.false_ne_true, exs_end]))).trans ?_
    refine (exs_next (ex_asg (x := .str lettersS) (S1 := S1) (by rw [ev]))).trans ?_
    refine exs_one (ex_ret ?_)
    exact h3
def kindS (w : Bool) : Str := if w then "word" else "number"
def ValOf (w : Bool) (d : D) : Prop := match w with
  | true => ∃ z, d = .str z ∧ Word z
  | false => ∃ i : Int, d = .int i ∧ -999 ≤ i ∧ i ≤ 999
theorem kind_eq (w : Bool) : (kindS w == ("word" : Str)) = w := by cases w <;> decide +kernel
theorem value_ok {k b : Nat} {w : Bool} {S : Sto} (hb : BagAt S b) : ∃ d S', callN Tb (k + 3) 48 [.ref b, .str (kindS w)] S = .ok d S' ∧ ValOf w d ∧ Keep [b] S S' ∧ BagAt S' b := by
  rw [callN_at (d := ⟨2, 3, p_l_value⟩) rfl rfl]
  have hcond : ev (callN Tb (k + 2)) (.cmp .eq (.var 1) (.con (.str "word"))) [some (.ref b), some (.str (kindS w)), none] S = .ok (.bl w) S := by
    refine ((ev_cmp (x := .str (kindS w)) (y := .str "word") (S1 := S) (S2 := S) (ev_var rfl) (by rw [ev])).trans eq_str).trans ?_
    rw [kind_eq]
  cases w with
  | true =>
    obtain ⟨z, S1, h1, hw, k1, b1⟩ := word_ok (k := k) hb
    refine ⟨.str z, S1, run_ret (exs_ret (ex_ite hcond ?_)), ⟨z, rfl, hw⟩, k1, b1⟩
    rw [if_pos rfl]
    exact exs_one (ex_ret ((ev_call1 (ds := [.ref b]) (S1 := S) (evs_cons (ev_var rfl) evs_nil) rfl).trans h1))
  | false =>
    refine Exists.imp (fun _ => Exists.imp fun _ => And.imp_left fun (h : _ = _) => run_ret ((exs_next (ex_ite (S1 := S) hcond (by rw [if_neg Bool.false_ne_true, exs_end]))).trans h)) ?_
    obtain ⟨c, S1, h1, c0, c1, k1, b1⟩ := ev_take (k := k + 1) (vb := 0) (ρ := [some (.ref b), some (.str (kindS false)), none]) (e := .con (.int 3)) rfl ev_int hb (by omega) (by omega)
    refine Exists.imp (fun _ => Exists.imp fun _ => And.imp_left fun (h : _ = _) => (exs_next (ex_asg h1)).trans h) ?_
    show ∃ d S', exs _ _ [some (.ref b), some (.str (kindS false)), some (.int c)] S1 = _ ∧ _
    have hc2 : ev (callN Tb (k + 2)) (.cmp .lt (.var 2) (.con (.int 2))) [some (.ref b), some (.str (kindS false)), some (.int c)] S1 = .ok (.bl (decide (c < 2))) S1 := (ev_cmp (x := .int c) (y := .int 2) (S1 := S1) (S2 := S1) (ev_var rfl) ev_int).trans rfl
    by_cases h2 : c < 2
    · obtain ⟨d, S2, h3, d0, d1, k2, b2⟩ := ev_take (k := k + 1) (vb := 0) (S := S1) (ρ := [some (.ref b), some (.str (kindS false)), some (.int c)]) (e := .con (.int 4)) rfl ev_int b1 (by omega) (by omega)
      refine ⟨.int (d - 1), S2, exs_ret (ex_ret ?_), ⟨d - 1, rfl, by omega, by omega⟩, k1.trans k2, b2⟩
      rw [ev, hc2, R.bind_ok, tru_bl, R.bind_ok, if_pos (decide_eq_true h2)]
      exact (ev_bin (y := .int 1) (S2 := S2) h3 ev_int).trans rfl
    · obtain ⟨d, S2, h3, d0, d1, k2, b2⟩ := ev_take (k := k + 1) (vb := 0) (S := S1) (ρ := [some (.ref b), some (.str (kindS false)), some (.int c)]) (e := .con (.int 1999)) rfl ev_int b1 (by omega) (by omega)
      refine ⟨.int (d - 999), S2, exs_ret (ex_ret ?_), ⟨d - 999, rfl, by omega, by omega⟩, k1.trans k2, b2⟩
      rw [ev, hc2, R.bind_ok, tru_bl, R.bind_ok, if_neg (by simpa using h2)]
      exact (ev_bin (y := .int 999) (S2 := S2) h3 ev_int).trans rfl


end
section
/-! ### what is a value -/
set_option maxHeartbeats 400000
def isInt : D → Bool
  | .int i => decide (-999 ≤ i) && decide (i ≤ 999)
  | _ => false
def isWd : D → Bool
  | .str z => decide (1 ≤ z.length) && decide (z.length ≤ 8) && z.cps.toList.all (fun c => decide (c ∈ lettersS.cps.toList))
  | _ => false
def tyD : D → String
  | .non => "NoneType"
  | .bl _ => "bool"
  | .int _ => "int"
  | .str _ => "str"
  | .tup _ => "tuple"
  | _ => "list"
theorem tyOf_fz {d : D} {S : Sto} (h : d.fz = true) : tyOf S d = some (tyD d) := by
  cases d <;> first | rfl | (simp [D.fz] at h)
def isI (n : String) (d : D) : Bool := (L2.kitB (tyD d) n).getD false
theorem kit_some : (["NoneType", "bool", "int", "str", "tuple", "list"].all fun a => ["int", "bool", "str", "tuple"].all fun n => (L2.kitB a n).isSome) = true := by decide +kernel
theorem tyD_mem (d : D) : tyD d ∈ ["NoneType", "bool", "int", "str", "tuple", "list"] := by cases d <;> simp [tyD]
theorem bi_isi {d : D} {n : String} {S : Sto} (h : d.fz = true) (hn : n ∈ ["int", "bool", "str", "tuple"]) : biR .isi [d, .ty n] S = .ok (.bl (isI n d)) S := by
  have k := List.all_eq_true.mp (List.all_eq_true.mp kit_some _ (tyD_mem d)) n hn
  show (match (tyOf S d).bind fun a => L2.kitB a n with | some b => R.ok (D.bl b) S | none => .err) = _
  rw [tyOf_fz h, Option.bind_some]
  unfold isI
  cases q : L2.kitB (tyD d) n with
  | none => rw [q] at k; cases k
  | some b => rfl
theorem kit_facts : L2.kitB "int" "int" = some true ∧ L2.kitB "bool" "int" = some true ∧ L2.kitB "NoneType" "int" = some false ∧ L2.kitB "str" "int" = some false ∧ L2.kitB "tuple" "int" = some false ∧ L2.kitB "list" "int" = some false ∧
    L2.kitB "int" "bool" = some false ∧ L2.kitB "bool" "bool" = some true ∧ L2.kitB "str" "str" = some true ∧ L2.kitB "NoneType" "str" = some false ∧ L2.kitB "bool" "str" = some false ∧ L2.kitB "int" "str" = some false ∧ L2.kitB "tuple" "str" = some false ∧ L2.kitB "list" "str" = some false ∧
    L2.kitB "tuple" "tuple" = some true ∧ L2.kitB "NoneType" "tuple" = some false ∧ L2.kitB "bool" "tuple" = some false ∧ L2.kitB "int" "tuple" = some false ∧ L2.kitB "str" "tuple" = some false ∧ L2.kitB "list" "tuple" = some false := by decide +kernel
section
variable {F : CE} {ρ : Iv.Env} {S : Sto} {d : D} {a b : E}
theorem ev_isi {n : String} (he : ev F a ρ S = .ok d S) (h : d.fz = true) (hn : n ∈ ["int", "bool", "str", "tuple"]) : ev F (.bi .isi [a, .con (.ty n)]) ρ S = .ok (.bl (isI n d)) S :=
  (ev_bi2 (S1 := S) (S2 := S) he (by rw [ev])).trans (bi_isi h hn)
theorem ev_and_bl {x y : Bool} (ha : ev F a ρ S = .ok (.bl x) S) (hb : x = true → ev F b ρ S = .ok (.bl y) S) : ev F (.and a b) ρ S = .ok (.bl (x && y)) S := by
  rw [ev, ha, R.bind_ok, tru_bl, R.bind_ok]
  cases x with
  | true => rw [if_pos rfl, hb rfl]; rfl
  | false => rw [if_neg Bool.false_ne_true]; rfl
theorem ev_or_bl {x y : Bool} (ha : ev F a ρ S = .ok (.bl x) S) (hb : x = false → ev F b ρ S = .ok (.bl y) S) : ev F (.or a b) ρ S = .ok (.bl (x || y)) S := by
  rw [ev, ha, R.bind_ok, tru_bl, R.bind_ok]
  cases x with
  | true => rw [if_pos rfl]; rfl
  | false => rw [if_neg Bool.false_ne_true, hb rfl]; rfl
theorem ev_not_bl {x : Bool} (ha : ev F a ρ S = .ok (.bl x) S) : ev F (.not a) ρ S = .ok (.bl (!x)) S := by
  rw [ev, ha, R.bind_ok, tru_bl, R.bind_ok]
theorem ev_between {e : E} {x y z : Int} (ha : ev F a ρ S = .ok (.int x) S) (hb : ev F b ρ S = .ok (.int y) S) (he : ev F e ρ S = .ok (.int z) S) : ev F (.chain .le .le a b e) ρ S = .ok (.bl (decide (x ≤ y) && decide (y ≤ z))) S := by
  rw [ev, ha, R.bind_ok, hb, R.bind_ok, show cmpR .le (.int x) (.int y) S = .ok (.bl (decide (x ≤ y))) S from rfl, R.bind_ok, tru_bl, R.bind_ok]
  by_cases h : x ≤ y
  · rw [decide_eq_true h, if_pos rfl, he]
    rfl
  · rw [decide_eq_false h, if_neg Bool.false_ne_true]
    rfl
end
theorem isI_int {d : D} (h : isI "int" d = true) (hb : isI "bool" d = false) : ∃ i, d = .int i := by
  obtain ⟨f1, f2, f3, f4, f5, f6, f7, f8, _⟩ := kit_facts
  cases d <;> simp [isI, tyD, f1, f2, f3, f4, f5, f6, f7, f8] at h hb ⊢
theorem whole_ok {k : Nat} {d : D} {S : Sto} (h : d.fz = true) : callN Tb (k + 1) 0 [d, .int (-999), .int 999] S = .ok (.bl (isInt d)) S := by
  rw [callN_at (d := ⟨3, 3, p_is_whole⟩) rfl rfl]
  refine run_ret (exs_ret (ex_ret ?_))
  have e1 := ev_isi (F := callN Tb k) (ρ := [some d, some (.int (-999)), some (.int 999)]) (a := .var 0) (n := "int") (S := S) (ev_var rfl) h (by simp)
  have e2 := ev_isi (F := callN Tb k) (ρ := [some d, some (.int (-999)), some (.int 999)]) (a := .var 0) (n := "bool") (S := S) (ev_var rfl) h (by simp)
  have key : isInt d = (isI "int" d && ((!isI "bool" d) && isInt d)) := by
    obtain ⟨f1, f2, f3, f4, f5, f6, f7, f8, _⟩ := kit_facts
    cases d <;> simp [isInt, isI, tyD, f1, f2, f3, f4, f5, f6, f7, f8]
  rw [key]
  refine ev_and_bl e1 fun hi => ev_and_bl (ev_not_bl e2) fun hb => ?_
  obtain ⟨i, rfl⟩ := isI_int hi (by simpa using hb)
  exact ev_between (ev_var rfl) (ev_var rfl) (ev_var rfl)
theorem all_signs {z : Str} {S : Sto} : ∀ {F : CE} {ρ : Iv.Env}, ρ = [some (.str z), none] → z.length ≤ 8 → ev F (.bi (.all) [(.lc false [1] (.var 1) (.e (.var 0)) [] (.cmp .isIn (.var 1) (.con (.str lettersS))))]) ρ S = .ok (.bl (z.cps.toList.all fun c => decide (c ∈ lettersS.cps.toList))) S := by
  intro F ρ hρ hl
  subst hρ
  have L : (1000 : Nat) ≤ sizeLine := by decide
  refine (ev_bi1 (x := .lst (z.cps.toList.map fun c => .bl (decide (c ∈ lettersS.cps.toList)))) (S1 := S) ?_).trans bi_all
  refine (ev_lc (src := .fix) (items := z.cps.toList.map fun c => .str ⟨#[c]⟩) (ys := z.cps.toList.map fun c => .bl (decide (c ∈ lettersS.cps.toList))) (S1 := S) (S2 := S) (evIt_e (x := .str z) (S1 := S) (ev_var rfl) rfl) (lcLoop_map fun c hc => ?_) (by rw [List.length_map, Array.length_toList]; exact Nat.le_trans (Nat.le_trans hl (by omega)) L)).trans rfl
  have e1 : ev F (.cmp .isIn (.var 1) (.con (.str lettersS))) [some (.str z), some (.str ⟨#[c]⟩)] S = .ok (.bl (decide (c ∈ lettersS.cps.toList))) S := (ev_cmp (x := .str ⟨#[c]⟩) (y := .str lettersS) (S1 := S) (S2 := S) (ev_var rfl) (by rw [ev])).trans rfl
  unfold lcStep
  rw [asg, R.bind_ok, evIfs, R.bind_ok, if_pos rfl]
  show (ev _ _ [some (.str z), some (.str ⟨#[c]⟩)] S).bind _ = _
  rw [e1]
  rfl


end
section
/-! ### words, values, rows known -/
set_option maxHeartbeats 400000
theorem isI_str {d : D} (h : isI "str" d = true) : ∃ z, d = .str z := by
  obtain ⟨_, _, _, _, _, _, _, _, f1, f2, f3, f4, f5, f6, _⟩ := kit_facts
  cases d <;> simp [isI, tyD, f1, f2, f3, f4, f5, f6] at h ⊢
theorem isI_tup {d : D} (h : isI "tuple" d = true) : ∃ xs, d = .tup xs := by
  obtain ⟨_, _, _, _, _, _, _, _, _, _, _, _, _, _, f1, f2, f3, f4, f5, f6⟩ := kit_facts
  cases d <;> simp [isI, tyD, f1, f2, f3, f4, f5, f6] at h ⊢
theorem isI_tupT {xs : List D} : isI "tuple" (.tup xs) = true := by
  obtain ⟨_, _, _, _, _, _, _, _, _, _, _, _, _, _, f1, _⟩ := kit_facts
  simp [isI, tyD, f1]
theorem isI_strT {z : Str} : isI "str" (.str z) = true := by
  obtain ⟨_, _, _, _, _, _, _, _, f1, _⟩ := kit_facts
  simp [isI, tyD, f1]
theorem isWd_str {z : Str} : isWd (.str z) = (decide (1 ≤ z.length) && decide (z.length ≤ 8) && z.cps.toList.all (fun c => decide (c ∈ lettersS.cps.toList))) := rfl
theorem isword_body {F : CE} {d : D} {S : Sto} (h : d.fz = true) : exs F p_is_word [some d, none] S = .ok (.ret (.bl (isWd d))) S := by
  have e1 := ev_not_bl (ev_isi (F := F) (ρ := [some d, none]) (a := .var 0) (n := "str") (S := S) (ev_var rfl) h (by simp))
  by_cases hs : isI "str" d = true
  · obtain ⟨z, rfl⟩ := isI_str hs
    have e2 : ev F (.bi (.len) [(.var 0)]) [some (.str z), none] S = .ok (.int z.length) S := (ev_bi1 (x := .str z) (S1 := S) (ev_var rfl)).trans rfl
    have e3 := ev_or_bl e1 (b := .not (.chain .le .le (.con (.int 1)) (.bi (.len) [(.var 0)]) (.con (.int 8)))) fun _ => ev_not_bl (ev_between ev_int e2 ev_int)
    rw [hs] at e3
    by_cases hl : 1 ≤ z.length ∧ z.length ≤ 8
    · have hb : (decide ((1 : Int) ≤ z.length) && decide ((z.length : Int) ≤ 8)) = true := by
        rw [Bool.and_eq_true, decide_eq_true_eq, decide_eq_true_eq]
        omega
      rw [hb] at e3
      refine (exs_next (ex_ite (k := false) (S1 := S) e3 (by rw [if_neg Bool.false_ne_true, exs_end]))).trans ?_
      refine exs_one (ex_ret ((all_signs rfl hl.2).trans ?_))
      rw [isWd_str, decide_eq_true hl.1, decide_eq_true hl.2]
      rfl
    · have hb : (decide ((1 : Int) ≤ z.length) && decide ((z.length : Int) ≤ 8)) = false := by
        rw [Bool.eq_false_iff]
        intro q
        rw [Bool.and_eq_true, decide_eq_true_eq, decide_eq_true_eq] at q
        omega
      rw [hb] at e3
      have hw : isWd (.str z) = false := by
        rw [isWd_str]
        have : (decide (1 ≤ z.length) && decide (z.length ≤ 8)) = false := by
          rw [Bool.eq_false_iff]
          intro q
          rw [Bool.and_eq_true, decide_eq_true_eq, decide_eq_true_eq] at q
          exact hl q
        rw [this]
        rfl
      rw [hw]
      refine exs_ret (ex_ite (k := true) (S1 := S) e3 ?_)
      rw [if_pos rfl]
      exact exs_one (ex_ret (by rw [ev]))
  · have hs : isI "str" d = false := by simpa using hs
    rw [hs] at e1
    have hw : isWd d = false := by
      cases d <;> first | rfl | (rw [isI_strT] at hs; cases hs)
    rw [hw]
    refine exs_ret (ex_ite (k := true) (S1 := S) ((ev_or_bl (y := false) e1 fun z => by cases z).trans rfl) ?_)
    rw [if_pos rfl]
    exact exs_one (ex_ret (by rw [ev]))
theorem isword_ok {k : Nat} {d : D} {S : Sto} (h : d.fz = true) : callN Tb (k + 1) 1 [d] S = .ok (.bl (isWd d)) S := by
  rw [callN_at (d := ⟨1, 2, p_is_word⟩) rfl rfl]
  exact run_ret (isword_body h)
def valD (w : Bool) (d : D) : Bool := if w = true then isWd d else isInt d
theorem kind_num (w : Bool) : (kindS w == ("number" : Str)) = !w := by cases w <;> decide +kernel
theorem value_known {k : Nat} {w : Bool} {d : D} {S : Sto} (h : d.fz = true) : callN Tb (k + 2) 4 [.str (kindS w), d] S = .ok (.bl (valD w d)) S := by
  rw [callN_at (d := ⟨2, 2, p_is_value⟩) rfl rfl]
  refine run_ret (exs_ret (ex_ret ?_))
  have e1 : ev (callN Tb (k + 1)) (.cmp .eq (.var 0) (.con (.str "number"))) [some (.str (kindS w)), some d] S = .ok (.bl (!w)) S := by
    refine ((ev_cmp (x := .str (kindS w)) (y := .str "number") (S1 := S) (S2 := S) (ev_var rfl) (by rw [ev])).trans eq_str).trans ?_
    rw [kind_num]
  show ev _ _ [some (.str (kindS w)), some d] S = _
  rw [ev, e1, R.bind_ok, tru_bl, R.bind_ok]
  cases w with
  | true =>
    rw [show (!true) = false from rfl, if_neg Bool.false_ne_true]
    exact (ev_call1 (ds := [d]) (S1 := S) (evs_cons (ev_var rfl) evs_nil) rfl).trans (isword_ok h)
  | false =>
    rw [show (!false) = true from rfl, if_pos rfl]
    exact (ev_call1 (ds := [d]) (S1 := S) (evs_cons (ev_var rfl) evs_nil) rfl).trans (whole_ok h)
/-! rows -/
abbrev Col := Str × Bool
def enCol (c : Col) : D := .tup [.str c.1, .str (kindS c.2)]
abbrev enF (f : List Col) : D := .tup (f.map enCol)
def rowD (f : List Col) (d : D) : Bool := match d with
  | .tup xs => (xs.length == f.length) && (f.zip xs).all fun p => valD p.1.2 p.2
  | _ => false
theorem rowD_tup {f : List Col} {xs : List D} : rowD f (.tup xs) = ((xs.length == f.length) && (f.zip xs).all fun p => valD p.1.2 p.2) := rfl
theorem zip_enc (f : List Col) (xs : List D) : zipD (f.map enCol) xs = (f.zip xs).map fun p => .tup [enCol p.1, p.2] := by
  unfold zipD
  rw [List.zip_map_left, List.map_map]
  rfl
theorem fzs_mem {xs : List D} (h : D.fzs xs = true) : ∀ x ∈ xs, x.fz = true := by
  induction xs with
  | nil => intro x hx; cases hx
  | cons a l ih =>
    simp only [D.fzs, Bool.and_eq_true] at h
    intro x hx
    rcases List.mem_cons.mp hx with rfl | hx
    · exact h.1
    · exact ih h.2 x hx
theorem len_form {F : CE} {ρ : Iv.Env} {S : Sto} {i : Nat} {xs : List D} (h : ρ[i]? = some (some (.tup xs))) : ev F (.bi (.len) [(.var i)]) ρ S = .ok (.int xs.length) S := (ev_bi1 (S1 := S) (ev_var h)).trans rfl
def lenIs (n : Nat) : D → Bool
  | .tup xs => xs.length == n
  | _ => false
theorem tuple_of_ok {k n : Nat} {d : D} {S : Sto} (h : d.fz = true) : callN Tb (k + 1) 3 [d, .int n, .int n] S = .ok (.bl (lenIs n d)) S := by
  rw [callN_at (d := ⟨3, 3, p_is_tuple_of⟩) rfl rfl]
  refine run_ret (exs_ret (ex_ret ?_))
  have e1 := ev_isi (F := callN Tb k) (ρ := [some d, some (.int n), some (.int n)]) (a := .var 0) (n := "tuple") (S := S) (ev_var rfl) h (by simp)
  by_cases ht : isI "tuple" d = true
  · obtain ⟨xs, rfl⟩ := isI_tup ht
    have e2 := ev_and_bl e1 (b := .chain .le .le (.var 1) (.bi (.len) [(.var 0)]) (.var 2)) fun _ => ev_between (ev_var rfl) (len_form rfl) (ev_var rfl)
    refine e2.trans ?_
    rw [ht, Bool.true_and]
    congr 2
    show (decide ((n : Int) ≤ xs.length) && decide ((xs.length : Int) ≤ n)) = (xs.length == n)
    rw [Bool.eq_iff_iff, Bool.and_eq_true, decide_eq_true_eq, decide_eq_true_eq, beq_iff_eq]
    omega
  · have ht : isI "tuple" d = false := by simpa using ht
    rw [ht] at e1
    have hm : lenIs n d = false := by
      cases d <;> first | rfl | (rw [isI_tupT] at ht; cases ht)
    rw [hm]
    exact (ev_and_bl (y := false) e1 fun z => by cases z).trans rfl
theorem isrow_ok {k : Nat} {f : List Col} {d : D} {S : Sto} (h : d.fz = true) (lf : f.length ≤ 1000) : callN Tb (k + 3) 7 [enF f, d] S = .ok (.bl (rowD f d)) S := by
  rw [callN_at (d := ⟨2, 5, p_is_row⟩) rfl rfl]
  have L : (1000 : Nat) ≤ sizeLine := by decide
  have e1 : ev (callN Tb (k + 2)) (.not (.call 3 [.a 0, .a 1, .a 2] [(.var 1), (.bi (.len) [(.var 0)]), (.bi (.len) [(.var 0)])])) [some (enF f), some d, none, none, none] S = .ok (.bl (!lenIs f.length d)) S := by
    have e0 : ev (callN Tb (k + 2)) (.bi (.len) [(.var 0)]) [some (enF f), some d, none, none, none] S = .ok (.int f.length) S := (len_form rfl).trans (by rw [List.length_map])
    exact ev_not_bl ((ev_call1 (ds := [d, .int f.length, .int f.length]) (S1 := S) (evs_cons (S1 := S) (ev_var rfl) (evs_cons (S1 := S) e0 (evs_cons (S1 := S) e0 evs_nil))) rfl).trans (tuple_of_ok h))
  by_cases hl : lenIs f.length d = true
  · rw [hl] at e1
    obtain ⟨xs, rfl⟩ : ∃ xs, d = .tup xs := by
      cases d <;> first | exact ⟨_, rfl⟩ | cases hl
    have hx : xs.length = f.length := by simpa [lenIs] using hl
    refine run_ret ?_
    refine (exs_next (ex_ite (k := false) (S1 := S) e1 (by rw [if_neg Bool.false_ne_true, exs_end]))).trans ?_
    refine exs_one (ex_ret ?_)
    have hr : rowD f (.tup xs) = (f.zip xs).all fun p => valD p.1.2 p.2 := by rw [rowD_tup, hx, beq_self_eq_true, Bool.true_and]
    rw [hr]
    refine (ev_bi1 (x := .lst ((f.zip xs).map fun p => .bl (valD p.1.2 p.2))) (S1 := S) ?_).trans bi_all
    have hfz := fzs_mem (xs := xs) (by simpa [D.fz] using h)
    refine (ev_lc (src := .fix) (items := (f.zip xs).map fun p => .tup [enCol p.1, p.2]) (ys := (f.zip xs).map fun p => .bl (valD p.1.2 p.2)) (S1 := S) (S2 := S) ?_ (lcLoop_map fun p hp => ?_) (by rw [List.length_map, List.length_zip]; omega)).trans rfl
    · rw [← zip_enc, evIt, ev_var (d := enF f) rfl, R.bind_ok, ev_var (d := .tup xs) rfl, R.bind_ok]
      exact ck_of ⟨fun _ => by rw [List.length_map, hx], rfl, rfl, .inl rfl⟩
    · obtain ⟨⟨n, w⟩, x⟩ := p
      have hfx := hfz x (List.of_mem_zip hp).2
      have e2 : ev (callN Tb (k + 2)) (.call 4 [.a 0, .a 1] [(.var 3), (.var 4)]) [some (enF f), some (.tup xs), some (.str n), some (.str (kindS w)), some x] S = .ok (.bl (valD w x)) S :=
        (ev_call1 (ds := [.str (kindS w), x]) (S1 := S) (evs_cons (ev_var rfl) (evs_cons (ev_var rfl) evs_nil)) rfl).trans (value_known hfx)
      unfold lcStep
      have ea : asg (callN Tb (k + 2)) (.tup [(.tup [(.var 2), (.var 3)]), (.var 4)]) (.tup [enCol (n, w), x]) (wipeE [some (enF f), some (.tup xs), none, none, none] [2, 3, 4]) S = .ok [some (enF f), some (.tup xs), some (.str n), some (.str (kindS w)), some x] S := by
        simp [asg, asgs, enCol, seqOf, ck, wipeE]
      show (asg _ _ _ (wipeE [some (enF f), some (.tup xs), none, none, none] [2, 3, 4]) S).bind _ = _
      rw [ea, R.bind_ok, evIfs, R.bind_ok, if_pos rfl, e2]
      rfl
  · have hl : lenIs f.length d = false := by simpa using hl
    rw [hl] at e1
    have hr : rowD f d = false := by
      cases d <;> first | rfl | (rw [rowD_tup]; rw [show (_ == f.length) = false from hl]; rfl)
    rw [hr]
    refine run_ret (exs_ret (ex_ite (k := true) (S1 := S) e1 ?_))
    rw [if_pos rfl]
    exact exs_one (ex_ret (by rw [ev]))


end
section
/-! ### what is a form -/
set_option maxHeartbeats 400000
theorem ru_isiF {d : D} {n : String} {S : Sto} {Q : D → Sto → Prop} {E : Exc → Sto → Prop} (h : d.fz = true) (hn : n ∈ ["int", "bool", "str", "tuple"]) (q : Q (.bl (isI n d)) S) : Ru (biR .isi [d, .ty n] S) Q E := Ru.eq (bi_isi h hn) q
theorem isI_tupF {d : D} (h : isI "tuple" d = false) : ∀ xs, d ≠ .tup xs := fun xs e => by rw [e, isI_tupT] at h; cases h
theorem isI_strF {d : D} (h : isI "str" d = false) : ∀ z, d ≠ .str z := fun z e => by rw [e, isI_strT] at h; cases h
def tupIn (lo hi : Nat) : D → Bool
  | .tup xs => decide (lo ≤ xs.length) && decide (xs.length ≤ hi)
  | _ => false
theorem tupIn_no {d : D} {lo hi : Nat} (h : ∀ xs, d ≠ .tup xs) : tupIn lo hi d = false := by cases d <;> first | rfl | exact absurd rfl (h _)
def kindD : D → Bool
  | .str z => z == "number" || z == "word"
  | _ => false
def colD : D → Bool
  | .tup [a, b] => isWd a && kindD b
  | _ => false
theorem colD_tup {a b : D} : colD (.tup [a, b]) = (isWd a && kindD b) := rfl
def nmD : D → Str
  | .tup (.str z :: _) => z
  | _ => ""
def formD : D → Bool
  | .tup xs => decide (1 ≤ xs.length) && decide (xs.length ≤ 6) && xs.all colD && decide (xs.map nmD).Nodup
  | _ => false
section
variable {k : Nat} {d : D} {S : Sto} {Q : D → Sto → Prop} {E : Exc → Sto → Prop}
theorem tupof_ru {lo hi : Nat} {a b : Int} (h : d.fz = true) (ha : a = lo) (hb : b = hi) (q : Q (.bl (tupIn lo hi d)) S) : Ru (callN Tb (k + 1) 3 [d, .int a, .int b] S) Q E := by
  subst ha hb
  refine Ru.def (fn := ⟨3, 3, p_is_tuple_of⟩) rfl rfl ?_; simp only [List.map_cons, List.map_nil, List.length_cons, List.length_nil, Nat.reduceAdd, Nat.reduceSub, List.replicate_succ, List.replicate_zero, List.cons_append, List.nil_append]
  and_intros
  refine ru_isiF h (by simp) ?_
  and_intros
  cases ht : isI "tuple" d with
  | false =>
    rw [tupIn_no (isI_tupF ht)] at q
    and_intros
    exact q
  | true =>
    obtain ⟨xs, rfl⟩ := isI_tup ht
    and_intros
    have e : tupIn lo hi (.tup xs) = (decide (lo ≤ xs.length) && decide (xs.length ≤ hi)) := rfl
    rw [e] at q
    by_cases h1 : lo ≤ xs.length
    · rw [decide_eq_true h1, Bool.true_and] at q
      rw [if_pos (decide_eq_true (by omega))]
      and_intros
      have e2 : decide ((xs.length : Int) ≤ (hi : Int)) = decide (xs.length ≤ hi) := by rw [decide_eq_decide]; omega
      rw [e2]
      exact q
    · rw [decide_eq_false h1, Bool.false_and] at q
      rw [if_neg (by rw [decide_eq_true_eq]; omega)]
      and_intros
      exact q
theorem oneof_ru (h : d.fz = true) (hp : d.dp ≤ 60) (q : Q (.bl (kindD d)) S) : Ru (callN Tb (k + 1) 2 [d, .tup [.str "number", .str "word"]] S) Q E := by
  refine Ru.def (fn := ⟨2, 2, p_is_one_of⟩) rfl rfl ?_; simp only [List.map_cons, List.map_nil, List.length_cons, List.length_nil, Nat.reduceAdd, Nat.reduceSub, List.replicate_succ, List.replicate_zero, List.cons_append, List.nil_append]
  and_intros
  refine ru_isiF h (by simp) ?_
  and_intros
  cases ht : isI "str" d with
  | false =>
    have e : kindD d = false := by cases d <;> first | rfl | exact absurd rfl (isI_strF ht _)
    rw [e] at q
    and_intros
    exact q
  | true =>
    obtain ⟨z, rfl⟩ := isI_str ht
    and_intros
    refine (ru_in (ys := [.str "number", .str "word"]) rfl (by intro z e; cases e)).mpr ⟨by simp [D.fz, D.fzs, D.dp, D.dps], ?_⟩
    have e : ([D.str "number", D.str "word"].any fun w => w.eqv (.str z)) = kindD (.str z) := by
      simp [D.eqv, kindD, Bool.beq_comm, eq_comm]
    rw [e]
    exact q
theorem col_ru (h : d.fz = true) (hp : d.dp ≤ 60) (q : Q (.bl (colD d)) S) : Ru (callN Tb (k + 2) 5 [d] S) Q E := by
  refine Ru.def (fn := ⟨1, 1, p_is_column⟩) rfl rfl ?_; simp only [List.map_cons, List.map_nil, List.length_cons, List.length_nil, Nat.reduceAdd, Nat.reduceSub, List.replicate_succ, List.replicate_zero, List.cons_append, List.nil_append]
  and_intros
  refine tupof_ru (lo := 2) (hi := 2) h rfl rfl ?_
  and_intros
  by_cases ht : ∃ a b, d = .tup [a, b]
  · obtain ⟨a, b, rfl⟩ := ht
    have e : tupIn 2 2 (.tup [a, b]) = true := rfl
    rw [e]
    have fa : a.fz = true ∧ b.fz = true := by simpa [D.fz, D.fzs] using h
    have pb : b.dp ≤ 60 := by simp [D.dp, D.dps] at hp; omega
    and_intros
    refine Ru.eq (isword_ok fa.1) ?_
    and_intros
    rw [colD_tup] at q
    cases hw : isWd a with
    | false =>
      rw [hw] at q
      and_intros
      exact q
    | true =>
      rw [hw] at q
      and_intros
      exact oneof_ru fa.2 pb q
  · have e : tupIn 2 2 d = false ∧ colD d = false := by
      cases d with
      | tup xs =>
        match xs with
        | [] => exact ⟨rfl, rfl⟩
        | [_] => exact ⟨rfl, rfl⟩
        | [a, b] => exact absurd ⟨a, b, rfl⟩ ht
        | _ :: _ :: _ :: xs => exact ⟨by simp [tupIn], rfl⟩
      | _ => exact ⟨rfl, rfl⟩
    rw [e.2] at q
    rw [e.1]
    and_intros
    exact q
end
theorem flat_oneB {α : Type} (f : α → D) : ∀ xs : List α, xs.flatMap (fun x => [f x]) = xs.map f
  | [] => rfl
  | x :: xs => by rw [List.flatMap_cons, flat_oneB f xs]; rfl
theorem mem_dp {xs : List D} {n : Nat} (h : D.dps xs ≤ n) : ∀ x ∈ xs, x.dp ≤ n := by
  induction xs with
  | nil => intro x hx; cases hx
  | cons a l ih =>
    simp only [D.dps] at h
    intro x hx
    rcases List.mem_cons.mp hx with rfl | hx
    · exact Nat.le_trans (Nat.le_max_left ..) h
    · exact ih (Nat.le_trans (Nat.le_max_right ..) h) x hx
theorem tup_parts {xs : List D} (h : (D.tup xs).fz = true) (hp : (D.tup xs).dp ≤ 60) : ∀ x ∈ xs, x.fz = true ∧ x.dp ≤ 59 := fun x hx => by
  simp only [D.fz] at h
  simp only [D.dp] at hp
  exact ⟨fzs_mem h x hx, mem_dp (n := 59) (by omega) x hx⟩
theorem col_parts {x : D} (h : colD x = true) : ∃ z b, x = .tup [.str z, b] ∧ isWd (.str z) = true ∧ kindD b = true ∧ nmD x = z := by
  cases x with
  | tup l =>
    match l, h with
    | [a, b], h =>
      rw [colD_tup, Bool.and_eq_true] at h
      cases a with
      | str z => exact ⟨z, b, rfl, h.1, h.2, rfl⟩
      | _ => cases h.1
    | [], h => cases h
    | [_], h => cases h
    | _ :: _ :: _ :: _, h => cases h
  | _ => cases h
theorem keysD_strs : ∀ zs : List Str, keysD (zs.map .str) = some (zs.map Sum.inr)
  | [] => rfl
  | z :: zs => by
    show (match keyD (.str z) with | some k => (keysD (zs.map .str)).map (k :: ·) | none => none) = _
    rw [keysD_strs zs]
    rfl
theorem nodup_mapI {α β : Type} {f : α → β} {l : List α} (hf : ∀ a b, f a = f b → a = b) : (l.map f).Nodup ↔ l.Nodup := by
  unfold List.Nodup
  rw [List.pairwise_map]
  exact ⟨fun h => h.imp fun {a b} n e => n (by rw [e]), fun h => h.imp fun {a b} n e => n (hf _ _ e)⟩
theorem many_eq {κ : Type} [DecidableEq κ] {ks : List κ} : (manyK ks = ks.length) ↔ ks.Nodup := by
  unfold manyK
  constructor
  · intro h
    induction ks with
    | nil => exact List.nodup_nil
    | cons a l ih =>
      rw [List.eraseDups_cons, List.length_cons, List.length_cons] at h
      have h1 := List.length_filter_le (fun b => !b == a) l
      have h2 := dups_le _ (l.filter fun b => !b == a) (Nat.le_refl _)
      have h3 : (l.filter fun b => !b == a).length = l.length := by omega
      have h4 := List.length_filter_eq_length_iff.mp h3
      have h5 : l.filter (fun b => !b == a) = l := List.filter_eq_self.mpr h4
      rw [h5] at h
      refine List.nodup_cons.mpr ⟨fun hm => ?_, ih (by omega)⟩
      have := h4 a hm
      simp at this
  · intro h
    induction ks with
    | nil => rfl
    | cons a l ih =>
      obtain ⟨h1, h2⟩ := List.nodup_cons.mp h
      have h5 : l.filter (fun b => !b == a) = l := List.filter_eq_self.mpr fun b hb => by
        have : b ≠ a := fun e => h1 (e ▸ hb)
        simp [this]
      rw [List.eraseDups_cons, h5, List.length_cons, List.length_cons, ih h2]
section
variable {k : Nat} {d : D} {S : Sto} {Q : D → Sto → Prop} {E : Exc → Sto → Prop}
theorem form_ru (h : d.fz = true) (hp : d.dp ≤ 60) (q : Q (.bl (formD d)) S) : Ru (callN Tb (k + 3) 6 [d] S) Q E := by
  refine Ru.def (fn := ⟨1, 4, p_is_form⟩) rfl rfl ?_; simp only [List.map_cons, List.map_nil, List.length_cons, List.length_nil, Nat.reduceAdd, Nat.reduceSub, List.replicate_succ, List.replicate_zero, List.cons_append, List.nil_append]
  and_intros
  refine tupof_ru (lo := 1) (hi := 6) h rfl rfl ?_
  and_intros
  by_cases ht : tupIn 1 6 d = true
  · obtain ⟨xs, rfl⟩ : ∃ xs, d = .tup xs := by cases d <;> first | exact ⟨_, rfl⟩ | cases ht
    have hl : 1 ≤ xs.length ∧ xs.length ≤ 6 := by simpa [tupIn] using ht
    have par := tup_parts h hp
    have ef : formD (.tup xs) = (xs.all colD && decide (xs.map nmD).Nodup) := by
      show (decide (1 ≤ xs.length) && decide (xs.length ≤ 6) && xs.all colD && decide (xs.map nmD).Nodup) = _
      rw [decide_eq_true hl.1, decide_eq_true hl.2]
      rfl
    rw [ef] at q
    rw [ht]
    and_intros
    refine Ru.lcp (f := fun x => [.bl (colD x)]) trivial (fun x hx => ?_) ?_
    · and_intros
      refine col_ru (par x hx).1 (Nat.le_trans (par x hx).2 (by decide)) ?_
      exact ⟨rfl, rfl⟩
    · rw [flat_oneB]
      refine ⟨by rw [List.length_map]; exact sz_le (show xs.length ≤ 1000 by omega), ?_⟩
      and_intros
      cases hc : xs.all colD with
      | false =>
        rw [hc] at q
        and_intros
        exact q
      | true =>
        rw [hc, Bool.true_and] at q
        and_intros
        refine Ru.lcp (f := fun x => [.str (nmD x)]) trivial (fun x hx => ?_) ?_
        · obtain ⟨z, b, rfl, _, _, e⟩ := col_parts (List.all_eq_true.mp hc x hx)
          rw [e]
          and_intros
          exact ⟨rfl, rfl⟩
        · rw [flat_oneB]
          have e1 : xs.map (fun x => D.str (nmD x)) = (xs.map nmD).map .str := by rw [List.map_map]; rfl
          rw [e1]
          refine r_lenSC (keysD_strs _) (by simp; omega) ?_
          and_intros
          have e2 : (((manyK ((xs.map nmD).map (Sum.inr : Str → L2.Key)) : Nat) : Int) == (xs.length : Int)) = decide (xs.map nmD).Nodup := by
            rw [Bool.eq_iff_iff, beq_iff_eq, decide_eq_true_eq]
            have m := many_eq (ks := (xs.map nmD).map (Sum.inr : Str → L2.Key))
            rw [List.length_map, List.length_map] at m
            constructor
            · intro e
              exact ((nodup_mapI fun a b e => by injection e).mp (m.mp (by omega)))
            · intro e
              rw [m.mpr ((nodup_mapI fun a b e => by injection e).mpr e)]
          rw [e2]
          exact q
  · have e : formD d = false := by
      cases d with
      | tup xs =>
        have : ¬ (1 ≤ xs.length ∧ xs.length ≤ 6) := fun z => ht (by simp [tupIn, z])
        show (decide (1 ≤ xs.length) && decide (xs.length ≤ 6) && xs.all colD && decide (xs.map nmD).Nodup) = false
        simp only [Bool.and_eq_false_iff, decide_eq_false_iff_not]
        omega
      | _ => rfl
    rw [e] at q
    rw [Bool.not_eq_true] at ht
    rw [ht]
    and_intros
    exact q
end


end
section
/-! ### what the law's drawing tells, backwards -/
section
variable {k b : Nat} {n : Int} {ws : List Bool} {ns : List Int} {i : Int} {S : Sto} {Q : D → Sto → Prop} {E : Exc → Sto → Prop}
theorem bag_ru (i0 : 0 ≤ i) (i1 : i < 1000) (q : ∀ S' b, b = S.length → BagAt S' b → Keep [] S S' → Q (.ref b) S') : Ru (callN Tb (k + 1) 44 [.scr (ns.map .int), .int i] S) Q E := by
  obtain ⟨c, h, hb⟩ := bag_ok (k := k) (ns := ns) (i := i) (S := S) i0 i1
  exact Ru.eq h (q _ _ rfl hb Keep.push)
theorem take_ru (hb : BagAt S b) (n0 : 0 < n) (n1 : n < 1073741824) (q : ∀ d S', 0 ≤ d → d < n → Keep [b] S S' → BagAt S' b → Q (.int d) S') : Ru (callN Tb (k + 1) 45 [.ref b, .int n] S) Q E := by
  obtain ⟨d, S', h, h0, h1, hk, hb'⟩ := take_ok (k := k) hb n0 n1
  exact Ru.eq h (q _ _ h0 h1 hk hb')
end


end
section
/-! ### names, each told by its last letter; forms -/
set_option maxHeartbeats 400000
def NameAt (j : Nat) (z : Str) : Prop := ∃ l : List Nat, l.length ≤ 6 ∧ (∀ c ∈ l, 97 ≤ c ∧ c < 123) ∧ z.cps.toList = l ++ [97 + j]
theorem letter_atN {c : Int} {i : Nat} {S : Sto} (h : c = i) (h1 : i < 26) : idxR (.str lettersS) (.int c) S = .ok (.str ⟨#[97 + i]⟩) S := by
  subst h
  have e : lettersS.cps.toList[(i : Int).toNat]? = some (97 + i) := by
    rw [Int.toNat_natCast, letters_list, List.getElem?_map, List.getElem?_range h1]
    rfl
  show (match (if 0 ≤ (i : Int) then lettersS.cps.toList[(i : Int).toNat]? else _) with | some c => R.ok (D.str ⟨#[c]⟩) S | none => .err) = _
  rw [if_pos (Int.natCast_nonneg _), e]
theorem name_snoc {zs : List Str} {z : Str} {i : Nat} (h : ∀ j w, zs[j]? = some w → NameAt j w) (hl : zs.length = i) (hz : z.length ≤ 6) (g : ∀ c ∈ z.cps.toList, 97 ≤ c ∧ c < 123) : ∀ j w, (zs ++ [z ++ ⟨#[97 + i]⟩])[j]? = some w → NameAt j w := fun j w hj => by
  rcases Nat.lt_or_ge j zs.length with q | q
  · rw [List.getElem?_append_left q] at hj
    exact h j w hj
  · rw [List.getElem?_append_right q] at hj
    have h0 : j - zs.length = 0 := by
      have := (List.getElem?_eq_some_iff.mp hj).1
      simp at this
      omega
    rw [h0] at hj
    have e : z ++ ⟨#[97 + i]⟩ = w := by simpa using hj
    have hji : j = i := by omega
    subst e hji
    refine ⟨z.cps.toList, by rw [Array.length_toList]; exact hz, g, ?_⟩
    show (z.cps ++ #[97 + j]).toList = _
    simp
theorem names_ok2 {k b n : Nat} {S : Sto} (hb : BagAt S b) (n1 : n ≤ 20) : ∃ zs S', callN Tb (k + 2) 46 [.ref b, .int n] S = .ok (.lst (List.map D.str zs)) S' ∧ zs.length = n ∧ (∀ j z, zs[j]? = some z → NameAt j z) ∧ Keep [b] S S' ∧ BagAt S' b := by
  have sz : (2000 : Nat) < sizeLine := by decide
  have bl := hb.lt
  rw [callN_at (d := ⟨2, 8, p_l_names⟩) rfl rfl]
  refine Exists.imp (fun _ => Exists.imp fun _ => And.imp_left fun (h : _ = _) => run_ret ((exs_next (ex_asg (x := .str lettersS) (S1 := S) (by rw [ev]))).trans h)) ?_
  show ∃ zs S', exs _ _ [some (.ref b), some (.int n), some (.str lettersS), none, none, none, none, none] S = _ ∧ _
  have k1 : Keep [] S (S ++ [some (.lst (([] : List Str).map D.str))]) := Keep.push
  have c1 : cellAt (S ++ [some (.lst (([] : List Str).map D.str))]) S.length = some (.lst (([] : List Str).map D.str)) := cellAt_push
  have st2 : ex (callN Tb (k + 1)) (.asg (.var 3) (.lst true [])) [some (.ref b), some (.int n), some (.str lettersS), none, none, none, none, none] S = .ok (.next [some (.ref b), some (.int n), some (.str lettersS), some (.ref S.length), none, none, none, none]) (S ++ [some (.lst (([] : List Str).map D.str))]) := by
    rw [ex, ev_lst (ds := []) (S1 := S) evs_nil (by simp)]
    rfl
  refine Exists.imp (fun _ => Exists.imp fun _ => And.imp_left fun (h : _ = _) => (exs_next st2).trans h) ?_
  have b1 := hb.keep k1 (by simp)
  generalize S ++ [some (.lst (([] : List Str).map D.str))] = S1 at k1 c1 b1
  show ∃ zs S', exs _ _ [some (.ref b), some (.int n), some (.str lettersS), some (.ref S.length), none, none, none, none] S1 = _ ∧ _
  obtain ⟨ρ', S2, h2, zs, v4, v5, v6, hρ, k2, b2, c2, l2, m2⟩ := forLoop_inv (step := forStep (callN Tb (k + 1)) (.var 4) [(.asg (.var 5) (.ife (.cmp .gt (.var 4) (.con (.int 25))) (.con (.int 7)) (.call 45 [.a 0, .a 1] [(.var 0), (.con (.int 7))]))),
  (.asg (.var 6) (.bm .join (.con (.str "")) [(.lc false [7] (.var 7) (.rng1 (.var 5)) [] (.idx (.var 2) (.call 45 [.a 0, .a 1] [(.var 0), (.con (.int 26))])))])),
  (.expr (.bm .append (.var 3) [(.bin false .add (.var 6) (.idx (.var 2) (.bin false .mod (.var 4) (.con (.int 26)))))]))]) (src := .fix) (items := rngD 0 n) (ρ := [some (.ref b), some (.int n), some (.str lettersS), some (.ref S.length), none, none, none, none]) (S := S1)
    (fun i ρ S' => ∃ zs v4 v5 v6, ρ = [some (.ref b), some (.int n), some (.str lettersS), some (.ref S.length), v4, v5, v6, none] ∧ Keep [b, S.length] S1 S' ∧ BagAt S' b ∧ cellAt S' S.length = some (.lst (List.map D.str zs)) ∧ zs.length = i ∧ ∀ j z, zs[j]? = some z → NameAt j z) ⟨[], none, none, none, rfl, Keep.refl, b1, c1, rfl, fun j z h => by simp at h⟩ (fun _ _ _ _ => trivial) (fun i d ρ S' hd ⟨zs, v4, v5, v6, hρ, kS, bS, cS, lS, nS⟩ => by
      subst hρ
      obtain ⟨rfl, hi⟩ := rng_get hd
      obtain ⟨t, T1, ht, t0, t1, kt, bt⟩ := ev_take (k := k) (vb := 0) (S := S') (ρ := [some (.ref b), some (.int n), some (.str lettersS), some (.ref S.length), some (.int (0 + (i : Int))), v5, v6, none]) (e := .con (.int 7)) rfl ev_int bS (by omega) (by omega)
      have ct := (kt.eq S.length (cellAt_lt cS) (by simp; omega)).trans cS
      have e5 : ev (callN Tb (k + 1)) (.ife (.cmp .gt (.var 4) (.con (.int 25))) (.con (.int 7)) (.call 45 [.a 0, .a 1] [(.var 0), (.con (.int 7))])) [some (.ref b), some (.int n), some (.str lettersS), some (.ref S.length), some (.int (0 + (i : Int))), v5, v6, none] S' = .ok (.int t) T1 := by
        rw [ev, (ev_cmp (x := .int (0 + (i : Int))) (y := .int 25) (S1 := S') (S2 := S') (ev_var rfl) ev_int).trans (show cmpR .gt (.int (0 + (i : Int))) (.int 25) S' = .ok (.bl (decide ((25 : Int) < 0 + (i : Int)))) S' from rfl), R.bind_ok, tru_bl, R.bind_ok, if_neg (by simp; omega)]
        exact ht
      obtain ⟨z, T2, hz, lz, gz, kz, bz⟩ := lc_letters (k := k) (vl := 2) (vt := 7) (vn := 0) (S := T1) (ρ := [some (.ref b), some (.int n), some (.str lettersS), some (.ref S.length), some (.int (0 + (i : Int))), some (.int t), v6, none]) (evIt_rng1 (e := .var 5) (S := T1) (S1 := T1) (ev_var rfl) (by unfold smallI; omega)) rfl rfl (by decide) (by decide) bt (by omega)
      have cz := (kz.eq S.length (cellAt_lt ct) (by simp; omega)).trans ct
      obtain ⟨c, c0, hc⟩ : ∃ c, c = 97 + i ∧ idxR (.str lettersS) (.int ((0 + (i : Int)) % 26)) T2 = .ok (.str ⟨#[c]⟩) T2 := ⟨_, rfl, letter_atN (by omega) (by omega)⟩
      have emod : ev (callN Tb (k + 1)) (.bin false .mod (.var 4) (.con (.int 26))) [some (.ref b), some (.int n), some (.str lettersS), some (.ref S.length), some (.int (0 + (i : Int))), some (.int t), some (.str z), none] T2 = .ok (.int ((0 + (i : Int)) % 26)) T2 := (ev_bin (x := .int (0 + (i : Int))) (y := .int 26) (S1 := T2) (S2 := T2) (ev_var rfl) ev_int).trans (show binR false .mod (.int (0 + (i : Int))) (.int 26) T2 = .ok (.int ((0 + (i : Int)) % 26)) T2 from ck_of (by decide))
      have e7 : ev (callN Tb (k + 1)) (.bin false .add (.var 6) (.idx (.var 2) (.bin false .mod (.var 4) (.con (.int 26))))) [some (.ref b), some (.int n), some (.str lettersS), some (.ref S.length), some (.int (0 + (i : Int))), some (.int t), some (.str z), none] T2 = .ok (.str (z ++ ⟨#[c]⟩)) T2 := by
        refine (ev_bin (x := .str z) (y := .str ⟨#[c]⟩) (S1 := T2) (S2 := T2) (ev_var rfl) ((ev_idx (x := .str lettersS) (y := .int ((0 + (i : Int)) % 26)) (S1 := T2) (S2 := T2) (ev_var rfl) emod).trans hc)).trans ?_
        exact ck_of (by rw [lz]; show t.toNat + 1 ≤ sizeLine; omega)
      refine ⟨[some (.ref b), some (.int n), some (.str lettersS), some (.ref S.length), some (.int (0 + (i : Int))), some (.int t), some (.str z), none], setAt T2 S.length (.lst ((zs ++ [z ++ ⟨#[c]⟩]).map D.str)), .inl (forStep_var.trans ?_), zs ++ [z ++ ⟨#[c]⟩], _, _, _, rfl, ?_, ?_, cellAt_set1 (cellAt_lt cz), by simp [lS], by rw [c0]; exact name_snoc nS lS (by omega) gz⟩
      · refine (exs_next (ex_asg e5)).trans ?_
        refine (exs_next (ex_asg hz)).trans ?_
        refine exs_one (ex_expr (x := .non) ?_)
        show ev _ _ [some (.ref b), some (.int n), some (.str lettersS), some (.ref S.length), some (.int (0 + (i : Int))), some (.int t), some (.str z), none] T2 = _
        rw [ev, ev_var (d := .ref S.length) rfl, R.bind_ok, ck_of (by simp [bmOk, cz]), evs1, e7]
        simp [bmR, bmAppend, cz, ck]
        omega
      · exact kS.trans ((kt.mono (by simp)).trans ((kz.mono (by simp)).trans (Keep.set.mono (by simp))))
      · exact bz.keep (Keep.set (b := S.length)) (by simp; omega))
  subst hρ
  rw [rng_len] at l2
  refine ⟨zs, S2.set S.length none, ?_, l2, m2, ?_, ?_⟩
  · refine (exs_next ((ex_for (evIt_rng1 (ev_var rfl) (by unfold smallI; omega))).trans h2)).trans ?_
    refine exs_one (ex_ret ?_)
    rw [ev, ev_var (d := .ref S.length) rfl, R.bind_ok]
    simp [frzR, c2]
  · exact Keep.del (((k1.mono (by simp)).trans k2).fresh fun q hq => by simp at hq; rcases hq with rfl | rfl; exact .inl (by simp); exact .inr (Nat.le_refl _)) (Nat.le_refl _)
  · obtain ⟨g, r, e, w⟩ := b2
    exact ⟨g, r, (cellAt_del_ne1 (by omega)).trans e, w⟩
def Nms (f : List Col) : Prop := ∀ (j : Nat) (c : Col), f[j]? = some c → NameAt j c.1
section
variable {k b : Nat} {S : Sto} {Q : D → Sto → Prop} {E : Exc → Sto → Prop}
theorem lform_made (hb : BagAt S b) (q : ∀ f S', 1 ≤ f.length → f.length ≤ 6 → Nms f → Keep [b] S S' → BagAt S' b → Q (enF f) S') : Ru (callN Tb (k + 3) 49 [.ref b] S) Q E := by
  refine Ru.def (fn := ⟨1, 3, p_l_form⟩) rfl rfl ?_; simp only [List.map_cons, List.map_nil, List.length_cons, List.length_nil, Nat.reduceAdd, Nat.reduceSub, List.replicate_succ, List.replicate_zero, List.cons_append, List.nil_append]
  and_intros
  refine take_ru hb (by omega) (by omega) fun c S1 c0 c1 k1 b1 => ?_
  and_intros
  obtain ⟨zs, S2, h2, l2, m2, k2, b2⟩ := names_ok2 (k := k) (n := (1 + c).toNat) b1 (by omega)
  rw [show (((1 + c).toNat : Nat) : Int) = 1 + c by omega] at h2
  refine Ru.eq h2 ?_
  and_intros
  refine Ru.lc (fun i ys S' => ∃ f : List Col, ys = f.map enCol ∧ f.map (·.1) = zs.take i ∧ Keep [b] S2 S' ∧ BagAt S' b) ⟨[], rfl, rfl, Keep.refl, b2⟩ (fun _ _ _ _ => trivial) (fun i d ys S' hd ⟨f, e1, e2, k3, b3⟩ => ?_) fun ys S' ⟨f, e1, e2, k3, b3⟩ => ?_
  · subst e1
    obtain ⟨z, hz, rfl⟩ := get_map hd
    and_intros
    refine take_ru b3 (by omega) (by omega) fun t S4 t0 t1 k4 b4 => ?_
    obtain ⟨w, hw⟩ : ∃ w : Bool, idxR (.tup [.str "number", .str "word"]) (.int t) S4 = .ok (.str (kindS w)) S4 := by
      have : t = 0 ∨ t = 1 := by omega
      rcases this with rfl | rfl
      · exact ⟨false, rfl⟩
      · exact ⟨true, rfl⟩
    refine Ru.eq hw ?_
    and_intros
    refine ⟨f ++ [(z, w)], by rw [List.map_append]; rfl, ?_, k3.trans k4, b4⟩
    rw [List.map_append, e2, List.take_succ, hz]
    rfl
  · subst e1
    rw [List.length_map, List.take_length] at e2
    have lf : f.length = zs.length := by rw [← e2, List.length_map]
    refine ⟨by rw [List.length_map]; exact sz_le (by omega), ?_⟩
    and_intros
    refine q f S' (by omega) (by omega) (fun j c hj => ?_) (k1.trans (k2.trans k3)) b3
    refine m2 j c.1 ?_
    rw [← e2, List.getElem?_map, hj]
    rfl
end
theorem Nms.ok {f : List Col} (h : Nms f) (h1 : 1 ≤ f.length) (h6 : f.length ≤ 6) : formD (enF f) = true := by
  have hn : ∀ c ∈ f, isWd (.str c.1) = true := fun c hc => by
    obtain ⟨j, hj⟩ := List.getElem?_of_mem hc
    obtain ⟨l, hl, g, e⟩ := h j c hj
    have hlt := (List.getElem?_eq_some_iff.mp hj).1
    have hz : c.1.length = l.length + 1 := by
      show c.1.cps.size = _
      rw [← Array.length_toList, e, List.length_append]
      rfl
    rw [isWd_str, hz, e]
    simp only [Bool.and_eq_true, decide_eq_true_eq, List.all_eq_true]
    refine ⟨⟨by omega, by omega⟩, fun c hc => mem_letters.mpr ?_⟩
    rcases List.mem_append.mp hc with q | q
    · exact g c q
    · have := List.mem_singleton.mp q
      omega
  have hc : (f.map enCol).all colD = true := by
    rw [List.all_eq_true]
    intro d hd
    obtain ⟨c, hc, rfl⟩ := List.mem_map.mp hd
    show (isWd (.str c.1) && kindD (.str (kindS c.2))) = true
    rw [hn c hc]
    cases c.2 <;> decide +kernel
  have hm : (f.map enCol).map nmD = f.map (·.1) := by rw [List.map_map]; rfl
  have nd : ((f.map enCol).map nmD).Nodup := by
    rw [hm]
    unfold List.Nodup
    rw [List.pairwise_iff_getElem]
    intro i j hi hj hij e
    rw [List.length_map] at hi hj
    rw [List.getElem_map, List.getElem_map] at e
    obtain ⟨l, _, _, e1⟩ := h i _ (List.getElem?_eq_getElem hi)
    obtain ⟨l', _, _, e2⟩ := h j _ (List.getElem?_eq_getElem hj)
    rw [e, e2] at e1
    have := (List.append_inj' e1 rfl).2
    simp at this
    omega
  show (decide (1 ≤ (f.map enCol).length) && decide ((f.map enCol).length ≤ 6) && (f.map enCol).all colD && decide ((f.map enCol).map nmD).Nodup) = true
  rw [hc, decide_eq_true nd, List.length_map, decide_eq_true h1, decide_eq_true h6]
  rfl


end
section
/-! ### things: values of kinds, and a number -/
set_option maxHeartbeats 400000
theorem ValOf.ok {w : Bool} {d : D} (h : ValOf w d) : d.fz = true ∧ d.dp = 0 ∧ d.wd 1000 = true := by
  cases w with
  | true => obtain ⟨z, rfl, _⟩ := h; exact ⟨by simp [D.fz], by simp [D.dp], by simp [D.wd]⟩
  | false => obtain ⟨i, rfl, _⟩ := h; exact ⟨by simp [D.fz], by simp [D.dp], by simp [D.wd]⟩
theorem ValOf.alike {w : Bool} {d e : D} (h : ValOf w d) (k : ValOf w e) : PySem.W.alike d.py e.py = true := by
  cases w with
  | true =>
    obtain ⟨z, rfl, _⟩ := h
    obtain ⟨y, rfl, _⟩ := k
    simp [D.py, PySem.W.alike]
  | false =>
    obtain ⟨z, rfl, _⟩ := h
    obtain ⟨y, rfl, _⟩ := k
    simp [D.py, PySem.W.alike]
/-- values of these kinds -/
structure Vs (ws : List Bool) (vs : List D) : Prop where
  len : vs.length = ws.length
  it : ∀ (i : Nat) (w : Bool) (v : D), ws[i]? = some w → vs[i]? = some v → ValOf w v
def ThingOf (ws : List Bool) (t : D) : Prop := ∃ (vs : List D) (n : Int), t = .tup [.tup vs, .int n] ∧ Vs ws vs ∧ 1 ≤ n ∧ n ≤ 999
theorem Vs.mem {ws : List Bool} {vs : List D} (h : Vs ws vs) {v : D} (hv : v ∈ vs) : ∃ w, ValOf w v := by
  obtain ⟨i, hi⟩ := List.mem_iff_getElem?.mp hv
  have hl : i < ws.length := by rw [← h.len]; exact (List.getElem?_eq_some_iff.mp hi).1
  exact ⟨_, h.it i _ v (List.getElem?_eq_getElem hl) hi⟩
theorem Vs.fz {ws : List Bool} {vs : List D} (h : Vs ws vs) : D.fzs vs = true ∧ D.dps vs = 0 ∧ D.wds 1000 vs = true :=
  ⟨fzs_of fun v hv => let ⟨_, q⟩ := h.mem hv; q.ok.1, Nat.le_zero.mp (dps_of fun v hv => let ⟨_, q⟩ := h.mem hv; Nat.le_of_eq q.ok.2.1), wds_of fun v hv => let ⟨_, q⟩ := h.mem hv; q.ok.2.2⟩
theorem ThingOf.ok {ws : List Bool} {t : D} (h : ThingOf ws t) (hl : ws.length ≤ 4) : t.fz = true ∧ t.dp = 2 ∧ t.wd 1000 = true := by
  obtain ⟨vs, n, rfl, q, _⟩ := h
  obtain ⟨a, b, c⟩ := q.fz
  have l := q.len
  refine ⟨by simp [D.fz, D.fzs, a], by simp [D.dp, D.dps, b], ?_⟩
  simp only [D.wd, D.wds, List.length_cons, List.length_nil, c, Bool.and_true, Bool.and_eq_true, decide_eq_true_eq]
  omega
theorem alikeAll_of : ∀ {xs ys : List PyData}, (∀ (i : Nat) (x y : PyData), xs[i]? = some x → ys[i]? = some y → PySem.W.alike x y = true) → PySem.W.alikeAll xs ys = true
  | [], ys, _ => by simp [PySem.W.alikeAll]
  | _ :: _, [], _ => by simp [PySem.W.alikeAll]
  | x :: xs, y :: ys, h => by
    rw [PySem.W.alikeAll, h 0 x y rfl rfl, alikeAll_of fun i x y a b => h (i + 1) x y (by simpa using a) (by simpa using b)]
    rfl
theorem pys_map : ∀ ds : List D, D.pys ds = ds.map D.py
  | [] => by simp [D.pys]
  | d :: ds => by rw [D.pys, pys_map ds, List.map_cons]
theorem Vs.alike {ws : List Bool} {vs us : List D} (h : Vs ws vs) (k : Vs ws us) : PySem.W.alikeAll (D.pys vs) (D.pys us) = true := by
  refine alikeAll_of fun i x y a b => ?_
  rw [pys_map] at a b
  obtain ⟨v, hv, rfl⟩ := get_map a
  obtain ⟨u, hu, rfl⟩ := get_map b
  have hl : i < ws.length := by rw [← h.len]; exact (List.getElem?_eq_some_iff.mp hv).1
  exact (h.it i _ v (List.getElem?_eq_getElem hl) hv).alike (k.it i _ u (List.getElem?_eq_getElem hl) hu)
theorem ThingOf.alike {ws : List Bool} {t u : D} (h : ThingOf ws t) (k : ThingOf ws u) : PySem.W.alike t.py u.py = true := by
  obtain ⟨vs, n, rfl, q, _⟩ := h
  obtain ⟨us, m, rfl, r, _⟩ := k
  simp [D.py, D.pys, PySem.W.alike, PySem.W.alikeAll, q.alike r]
end
section
/-! ### plain data: == is = -/
set_option maxHeartbeats 400000
mutual
/-- no truths, no lists within -/
def pl : D → Bool
  | .int _ => true
  | .str _ => true
  | .tup xs => pls xs
  | _ => false
def pls : List D → Bool
  | [] => true
  | x :: xs => pl x && pls xs
end
mutual
theorem eqv_eq : ∀ (a b : D), pl a = true → pl b = true → a.eqv b = true → a = b
  | .int i, b, _, hb, h => by
    cases b with
    | int j => simp [D.eqv] at h; rw [h]
    | _ => first | (simp [pl] at hb; done) | (simp [D.eqv] at h; done)
  | .str i, b, _, hb, h => by
    cases b with
    | str j => simp [D.eqv] at h; rw [h]
    | _ => first | (simp [pl] at hb; done) | (simp [D.eqv] at h; done)
  | .tup xs, b, ha, hb, h => by
    cases b with
    | tup ys =>
      rw [eqvs_eq xs ys (by simpa [pl] using ha) (by simpa [pl] using hb) (by simpa [D.eqv] using h)]
    | _ => first | (simp [pl] at hb; done) | (simp [D.eqv] at h; done)
  | .non, _, h, _, _ => by simp [pl] at h
  | .bl _, _, h, _, _ => by simp [pl] at h
  | .lst _, _, h, _, _ => by simp [pl] at h
  | .scr _, _, h, _, _ => by simp [pl] at h
  | .ref _, _, h, _, _ => by simp [pl] at h
  | .ins _ _, _, h, _, _ => by simp [pl] at h
  | .ty _, _, h, _, _ => by simp [pl] at h
theorem eqvs_eq : ∀ (a b : List D), pls a = true → pls b = true → D.eqvs a b = true → a = b
  | [], b, _, _, h => by cases b <;> first | rfl | (simp [D.eqvs] at h; done)
  | x :: xs, b, ha, hb, h => by
    cases b with
    | nil => simp [D.eqvs] at h
    | cons y ys =>
      simp only [pls, Bool.and_eq_true] at ha hb
      simp only [D.eqvs, Bool.and_eq_true] at h
      rw [eqv_eq x y ha.1 hb.1 h.1, eqvs_eq xs ys ha.2 hb.2 h.2]
end
theorem pls_of {xs : List D} (h : ∀ x ∈ xs, pl x = true) : pls xs = true := by
  induction xs with
  | nil => simp [pls]
  | cons x xs ih =>
    simp only [pls, Bool.and_eq_true]
    exact ⟨h x (List.mem_cons_self ..), ih fun y hy => h y (List.mem_cons_of_mem _ hy)⟩
theorem ThingOf.pl {ws : List Bool} {t : D} (h : ThingOf ws t) : pl t = true := by
  obtain ⟨vs, n, rfl, q, _⟩ := h
  have : pls vs = true := pls_of fun v hv => by
    obtain ⟨w, hw⟩ := q.mem hv
    cases w with
    | true => obtain ⟨z, rfl, _⟩ := hw; simp [Wk.pl]
    | false => obtain ⟨z, rfl, _⟩ := hw; simp [Wk.pl]
  simp [Wk.pl, pls, this]


end
section
/-! ### equal, and no truth for a number -/
set_option maxHeartbeats 400000
theorem is_ty {S : Sto} {x d : D} (h : Is S x d) : ∃ t, tyOf S x = some t ∧ tyOf S d = some t ∧ ∃ b, L2.kitB t "bool" = some b := by
  have kb : ∀ t, t ∈ ["NoneType", "bool", "int", "str", "tuple", "list"] → ∃ b, L2.kitB t "bool" = some b := fun t ht => by
    simp only [List.mem_cons, List.not_mem_nil, or_false] at ht
    rcases ht with rfl | rfl | rfl | rfl | rfl | rfl
    · exact ⟨false, by decide +kernel⟩
    · exact ⟨true, by decide +kernel⟩
    · exact ⟨false, by decide +kernel⟩
    · exact ⟨false, by decide +kernel⟩
    · exact ⟨false, by decide +kernel⟩
    · exact ⟨false, by decide +kernel⟩
  rcases h.parts with ⟨ds, hd, _, _, ht⟩ | ⟨ds, hd, _, _, ht⟩ | ⟨rfl, hd⟩
  · exact ⟨_, ht, by rcases hd with rfl | rfl <;> rfl, kb _ (by simp)⟩
  · exact ⟨_, ht, by subst hd; rfl, kb _ (by simp)⟩
  · have f := h.fz
    cases x with
    | non => exact ⟨_, rfl, rfl, kb _ (by simp)⟩
    | bl _ => exact ⟨_, rfl, rfl, kb _ (by simp)⟩
    | int _ => exact ⟨_, rfl, rfl, kb _ (by simp)⟩
    | str _ => exact ⟨_, rfl, rfl, kb _ (by simp)⟩
    | tup ds => exact absurd rfl (hd ds).2.1
    | lst ds => exact absurd rfl (hd ds).1
    | scr ds => exact absurd rfl (hd ds).2.2
    | ref _ => cases f
    | ins _ _ => cases f
    | ty _ => cases f
    | ntp _ => cases f
theorem isi_at {S : Sto} {x : D} {t c : String} {b : Bool} (h : tyOf S x = some t) (hb : L2.kitB t c = some b) : biR .isi [x, .ty c] S = .ok (.bl b) S := by
  show (match (tyOf S x).bind fun a => L2.kitB a c with | some b => R.ok (D.bl b) S | none => .err) = _
  rw [h, Option.bind_some, hb]
theorem ned_is2 {S : Sto} {x y d : D} (h : Is S x d) (h' : Is S y d) (l : d.dp ≤ 64) : cmpR .ned x y S = .ok (.bl false) S := by
  show ck ((deep 8 S x).fz = true ∧ (deep 8 S y).fz = true ∧ (deep 8 S x).dp ≤ 64 ∧ (deep 8 S y).dp ≤ 64) (R.ok (D.bl (!((deep 8 S x).eqv (deep 8 S y)))) S) = _
  rw [h.eq, h'.eq, eqv_self d h.fz]
  exact ck_of ⟨h.fz, h.fz, l, l⟩
theorem like_ok2 : ∀ (n : Nat) {k : Nat} {x y d : D} {S : Sto}, Is S x d → Is S y d → d.dp ≤ n → n ≤ 60 → d.wd 1000 = true → callN Tb (k + n + 1) 56 [x, y] S = .ok (.bl true) S := by
  intro n
  induction n with
  | zero =>
    intro k x y d S h h' hd _ hw
    rw [callN_at (d := ⟨2, 4, p_l_like⟩) rfl rfl]
    obtain ⟨t, t1, t2, b, hb⟩ := is_ty h
    obtain ⟨t', t3, t4, _⟩ := is_ty h'
    rw [t2] at t4
    cases t4
    refine run_ret ?_
    refine (exs_next (ex_ite (k := false) (S1 := S) ((ev_or_f (S1 := S) ((ev_cmp (x := .bl b) (y := .bl b) (S1 := S) (S2 := S) ((ev_bi2 (x := x) (y := .ty "bool") (S1 := S) (S2 := S) (ev_var rfl) (by rw [ev])).trans (isi_at t1 hb)) ((ev_bi2 (x := y) (y := .ty "bool") (S1 := S) (S2 := S) (ev_var rfl) (by rw [ev])).trans (isi_at t3 hb))).trans (ned_is (Is.of rfl) (by simp [D.dp])))).trans ((ev_cmp (x := x) (y := y) (S1 := S) (S2 := S) (ev_var rfl) (ev_var rfl)).trans (ned_is2 h h' (by omega)))) (by rw [if_neg Bool.false_ne_true, exs_end]))).trans ?_
    have hi : isiT S x ["list", "tuple"] = some false := by
      rcases h.parts with ⟨ds, hd', _⟩ | ⟨ds, hd', _⟩ | ⟨rfl, hd'⟩
      · rcases hd' with rfl | rfl <;> simp [D.dp] at hd
      · subst hd'; simp [D.dp] at hd
      · have f := h.fz
        unfold isiT isiT isiT
        cases x with
        | non => rw [show tyOf S .non = some "NoneType" from rfl]; simp only [Option.bind_some]; rw [show L2.kitB "NoneType" "list" = some false by decide +kernel]; simp only; rw [show L2.kitB "NoneType" "tuple" = some false by decide +kernel]
        | bl _ => rw [show ∀ q, tyOf S (.bl q) = some "bool" from fun _ => rfl]; simp only [Option.bind_some]; rw [show L2.kitB "bool" "list" = some false by decide +kernel]; simp only; rw [show L2.kitB "bool" "tuple" = some false by decide +kernel]
        | int _ => rw [show ∀ q, tyOf S (.int q) = some "int" from fun _ => rfl]; simp only [Option.bind_some]; rw [show L2.kitB "int" "list" = some false by decide +kernel]; simp only; rw [show L2.kitB "int" "tuple" = some false by decide +kernel]
        | str _ => rw [show ∀ q, tyOf S (.str q) = some "str" from fun _ => rfl]; simp only [Option.bind_some]; rw [show L2.kitB "str" "list" = some false by decide +kernel]; simp only; rw [show L2.kitB "str" "tuple" = some false by decide +kernel]
        | tup ds => exact absurd rfl (hd' ds).2.1
        | lst ds => exact absurd rfl (hd' ds).1
        | scr ds => exact absurd rfl (hd' ds).2.2
        | ref _ => cases f
        | ins _ _ => cases f
        | ty _ => cases f
        | ntp _ => cases f
    refine (exs_next (ex_ite (k := false) (S1 := S) (ev_isit (ev_var rfl) hi (by simp)) (by rw [if_neg Bool.false_ne_true, exs_end]))).trans ?_
    exact exs_one (ex_ret (by rw [ev]))
  | succ n ih =>
    intro k x y d S h h' hd hn hw
    by_cases h0 : d.dp ≤ n
    · have := ih (k := k + 1) h h' h0 (by omega) hw
      rwa [show k + 1 + n + 1 = k + (n + 1) + 1 by omega] at this
    rw [callN_at (d := ⟨2, 4, p_l_like⟩) rfl rfl]
    obtain ⟨t, t1, t2, b, hb⟩ := is_ty h
    obtain ⟨t', t3, t4, _⟩ := is_ty h'
    rw [t2] at t4
    cases t4
    refine run_ret ?_
    refine (exs_next (ex_ite (k := false) (S1 := S) ((ev_or_f (S1 := S) ((ev_cmp (x := .bl b) (y := .bl b) (S1 := S) (S2 := S) ((ev_bi2 (x := x) (y := .ty "bool") (S1 := S) (S2 := S) (ev_var rfl) (by rw [ev])).trans (isi_at t1 hb)) ((ev_bi2 (x := y) (y := .ty "bool") (S1 := S) (S2 := S) (ev_var rfl) (by rw [ev])).trans (isi_at t3 hb))).trans (ned_is (Is.of rfl) (by simp [D.dp])))).trans ((ev_cmp (x := x) (y := y) (S1 := S) (S2 := S) (ev_var rfl) (ev_var rfl)).trans (ned_is2 h h' (by omega)))) (by rw [if_neg Bool.false_ne_true, exs_end]))).trans ?_
    have main : ∀ (ds : List D) (src src' : Src) (xs us : List D), walkZ S x = some (src, xs) → walkZ S y = some (src', us) → src.there S → src'.there S → kOf x = kOf y → xs.length = ds.length → us.length = ds.length → (∀ p ∈ xs.zip ds, Is S p.1 p.2) → (∀ p ∈ us.zip ds, Is S p.1 p.2) → (∀ e ∈ ds, e.dp ≤ n ∧ e.wd 1000 = true) → ds.length ≤ 1000 → isiT S x ["list", "tuple"] = some true →
        exs (callN Tb (k + n + 1)) [(.ite (.isit (.var 0) ["list", "tuple"]) [(.ret (.bi (.all) [(.lc false [2, 3] (.tup [(.var 2), (.var 3)]) (.zipb (.var 0) (.var 1)) [] (.call 56 [.a 0, .a 1] [(.var 2), (.var 3)]))]))] []), (.ret (.con (.bl true)))] [some x, some y, none, none] S = .ok (.ret (.bl true)) S := by
      intro ds src src' xs us wx wd' tx td hk hl hl' hp hp' he hlen hi
      refine exs_ret (ex_ite (k := true) (S1 := S) (ev_isit (ev_var rfl) hi (by simp)) ?_)
      rw [if_pos rfl]
      refine exs_one (ex_ret ?_)
      have L : (1000 : Nat) ≤ sizeLine := by decide
      have hz : (xs.zip us).length ≤ 1000 := by rw [List.length_zip]; omega
      have lc := ev_lc (box := false) (own := [2, 3]) (tg := .tup [(.var 2), (.var 3)]) (ifs := []) (elt := .call 56 [.a 0, .a 1] [(.var 2), (.var 3)]) (ys := (xs.zip us).map fun _ => .bl true) (S2 := S) (evIt_zipb (F := callN Tb (k + n + 1)) (a := .var 0) (b := .var 1) (ρ := [some x, some y, none, none]) (S := S) (S1 := S) (S2 := S) (ev_var rfl) (ev_var rfl) wx wd' hk) (lcLoop_mapS (f := fun _ => .bl true) (show (Src.two src src').there S from ⟨tx, td⟩) fun p hpm => ?_) (by rw [List.length_map]; omega)
      · refine (ev_bi1 (x := .lst ((xs.zip us).map fun _ => .bl true)) (S1 := S) (lc.trans rfl)).trans ?_
        rw [bi_all (f := fun _ => true)]
        rw [show ((xs.zip us).all fun _ => true) = true from List.all_eq_true.mpr fun _ _ => rfl]
      · obtain ⟨i, hi'⟩ := List.mem_iff_getElem?.mp hpm
        rw [List.getElem?_zip_eq_some] at hi'
        have hil : i < ds.length := by rw [← hl]; exact (List.getElem?_eq_some_iff.mp hi'.1).1
        have m1 : (p.1, ds[i]) ∈ xs.zip ds := List.mem_iff_getElem?.mpr ⟨i, List.getElem?_zip_eq_some.mpr ⟨hi'.1, List.getElem?_eq_getElem hil⟩⟩
        have m2 : (p.2, ds[i]) ∈ us.zip ds := List.mem_iff_getElem?.mpr ⟨i, List.getElem?_zip_eq_some.mpr ⟨hi'.2, List.getElem?_eq_getElem hil⟩⟩
        have hm := he _ (List.getElem_mem hil)
        unfold lcStep
        have ea : asg (callN Tb (k + n + 1)) (.tup [(.var 2), (.var 3)]) (.tup [p.1, p.2]) (wipeE [some x, some y, none, none] [2, 3]) S = .ok [some x, some y, some p.1, some p.2] S := by
          simp [asg, asgs, seqOf, ck, wipeE]
        rw [ea, R.bind_ok, evIfs, R.bind_ok, if_pos rfl, (ev_call1 (ds := [p.1, p.2]) (S1 := S) (evs_cons (ev_var rfl) (evs_cons (ev_var rfl) evs_nil)) rfl).trans (ih (x := p.1) (y := p.2) (d := ds[i]) (hp _ m1) (hp' _ m2) hm.1 (by omega) hm.2)]
        rfl
    have hself : ∀ ds : List D, (d = .lst ds ∨ d = .scr ds ∨ d = .tup ds) → (∀ e ∈ ds, e.dp ≤ n ∧ e.wd 1000 = true) ∧ ds.length ≤ 1000 := by
      intro ds hds
      have h1 : D.dps ds ≤ n ∧ D.wds 1000 ds = true ∧ ds.length ≤ 1000 := by
        rcases hds with rfl | rfl | rfl
        all_goals
          simp only [D.dp] at hd
          simp only [D.wd, Bool.and_eq_true, decide_eq_true_eq] at hw
          exact ⟨by omega, hw.2, hw.1⟩
      exact ⟨fun e he => ⟨Nat.le_trans (dps_get he) h1.1, wds_get h1.2.1 e he⟩, h1.2.2⟩
    have i1 : tyOf S x = some "list" → isiT S x ["list", "tuple"] = some true := fun ht => by
      unfold isiT
      rw [ht, Option.bind_some, show L2.kitB "list" "list" = some true by decide +kernel]
    have i2 : tyOf S x = some "tuple" → isiT S x ["list", "tuple"] = some true := fun ht => by
      unfold isiT isiT
      rw [ht, Option.bind_some, show L2.kitB "tuple" "list" = some false by decide +kernel]
      simp only
      rw [Option.bind_some, show L2.kitB "tuple" "tuple" = some true by decide +kernel]
    rcases h.parts with ⟨ds, hds, ⟨src, xs, wx, tx, hl, hp⟩, hk, ht⟩ | ⟨ds, hds, ⟨src, xs, wx, tx, hl, hp⟩, hk, ht⟩ | ⟨hxd, hne⟩
    · obtain ⟨h1, h2⟩ := hself ds (by rcases hds with z | z <;> simp [z])
      rcases h'.parts with ⟨ds', hds', ⟨src', us, wu, tu, hl', hp'⟩, hk', ht'⟩ | ⟨ds', hds', _⟩ | ⟨_, hne⟩
      · have e : ds' = ds := by rcases hds with rfl | rfl <;> rcases hds' with z | z <;> cases z <;> rfl
        subst e
        exact main ds' src src' xs us wx wu tx tu (hk.trans hk'.symm) hl hl' hp hp' h1 h2 (i1 ht)
      · rcases hds with rfl | rfl <;> cases hds'
      · rcases hds with z | z
        · exact absurd z (hne ds).1
        · exact absurd z (hne ds).2.2
    · obtain ⟨h1, h2⟩ := hself ds (by simp [hds])
      rcases h'.parts with ⟨ds', hds', _⟩ | ⟨ds', hds', ⟨src', us, wu, tu, hl', hp'⟩, hk', ht'⟩ | ⟨_, hne⟩
      · subst hds
        rcases hds' with z | z <;> cases z
      · have e : ds' = ds := by subst hds; cases hds'; rfl
        subst e
        exact main ds' src src' xs us wx wu tx tu (hk.trans hk'.symm) hl hl' hp hp' h1 h2 (i2 ht)
      · exact absurd hds (hne ds).2.1
    · exfalso
      have f := h.fz
      subst hxd
      cases x <;> first | (simp [D.dp] at h0; done) | (cases f; done) | exact absurd rfl (hne _).1 | exact absurd rfl (hne _).2.1 | exact absurd rfl (hne _).2.2
end
section
/-! ### rows of a form -/
set_option maxHeartbeats 400000
theorem wholeI {k : Nat} {i a b : Int} {S : Sto} : callN Tb (k + 1) 0 [.int i, .int a, .int b] S = .ok (.bl (decide (a ≤ i) && decide (i ≤ b))) S := by
  rw [callN_at (d := ⟨3, 3, p_is_whole⟩) rfl rfl]
  refine run_ret (exs_ret (ex_ret ?_))
  have e1 := ev_isi (F := callN Tb k) (ρ := [some (.int i), some (.int a), some (.int b)]) (a := .var 0) (n := "int") (S := S) (ev_var rfl) (by simp [D.fz]) (by simp)
  have e2 := ev_isi (F := callN Tb k) (ρ := [some (.int i), some (.int a), some (.int b)]) (a := .var 0) (n := "bool") (S := S) (ev_var rfl) (by simp [D.fz]) (by simp)
  obtain ⟨f1, f2, f3, f4, f5, f6, f7, f8, _⟩ := kit_facts
  rw [show isI "int" (.int i) = true by simp [isI, tyD, f1]] at e1
  rw [show isI "bool" (.int i) = false by simp [isI, tyD, f7]] at e2
  have e3 := ev_and_bl e1 fun _ => ev_and_bl (ev_not_bl e2) fun _ => ev_between (a := .var 1) (b := .var 0) (e := .var 2) (x := a) (y := i) (z := b) (ev_var rfl) (ev_var rfl) (ev_var rfl)
  simpa using e3
abbrev nm (f : List Col) : List Str := f.map (·.1)
abbrev kds (f : List Col) : List Bool := f.map (·.2)
theorem Nms.nodup {f : List Col} (h : Nms f) : (nm f).Nodup := by
  unfold List.Nodup
  rw [List.pairwise_iff_getElem]
  intro i j hi hj hij e
  rw [List.length_map] at hi hj
  rw [List.getElem_map, List.getElem_map] at e
  obtain ⟨l, _, _, e1⟩ := h i _ (List.getElem?_eq_getElem hi)
  obtain ⟨l', _, _, e2⟩ := h j _ (List.getElem?_eq_getElem hj)
  rw [e, e2] at e1
  have := (List.append_inj' e1 rfl).2
  simp at this
  omega
/-! values, rows drawn -/
section
variable {k b j : Nat} {S : Sto} {Q : D → Sto → Prop} {E : Exc → Sto → Prop} {f : List Col} {xs ys : List D} {z : Str} {w : Bool} {v d : D} {i : Int}
theorem value_ru (hb : BagAt S b) (q : ∀ d S', ValOf w d → Keep [b] S S' → BagAt S' b → Q d S') : Ru (callN Tb (k + 3) 48 [.ref b, .str (kindS w)] S) Q E := by
  obtain ⟨d, S', h, h1, hk, hb'⟩ := value_ok (k := k) (w := w) hb
  exact Ru.eq h (q _ _ h1 hk hb')
theorem row_ru (hb : BagAt S b) (l6 : f.length ≤ 6) (q : ∀ xs S', Vs (kds f) xs → Keep [b] S S' → BagAt S' b → Q (.tup xs) S') : Ru (callN Tb (k + 4) 50 [.ref b, enF f] S) Q E := by
  refine Ru.def (fn := ⟨2, 4, p_l_row⟩) rfl rfl ?_; simp only [List.map_cons, List.map_nil, List.length_cons, List.length_nil, Nat.reduceAdd, Nat.reduceSub, List.replicate_succ, List.replicate_zero, List.cons_append, List.nil_append]
  and_intros
  refine Ru.lc (fun i ys S' => ys.length = i ∧ (∀ (j : Nat) (c : Col) (v : D), f[j]? = some c → ys[j]? = some v → ValOf c.2 v) ∧ Keep [b] S S' ∧ BagAt S' b) ⟨rfl, fun _ _ _ _ h => by simp at h, Keep.refl, hb⟩ (fun _ _ _ _ => trivial) (fun i d ys S' hd ⟨e1, e2, k3, b3⟩ => ?_) fun ys S' ⟨e1, e2, k3, b3⟩ => ?_
  · obtain ⟨c, hc, rfl⟩ := get_map hd
    obtain ⟨z, w⟩ := c
    and_intros
    refine value_ru b3 fun v S4 hv k4 b4 => ?_
    and_intros
    refine ⟨by rw [List.length_append, e1]; rfl, fun j c v' hj hv' => ?_, k3.trans k4, b4⟩
    rcases Nat.lt_or_ge j ys.length with h | h
    · rw [List.getElem?_append_left h] at hv'
      exact e2 j c v' hj hv'
    · rw [List.getElem?_append_right h] at hv'
      have h0 : j - ys.length = 0 := by
        have := (List.getElem?_eq_some_iff.mp hv').1
        simp at this
        omega
      rw [h0] at hv'
      have e : v = v' := by simpa using hv'
      have : j = i := by omega
      subst this e
      rw [hc] at hj
      cases hj
      exact hv
  · rw [List.length_map] at e1
    refine ⟨sz_le (by omega), ?_⟩
    and_intros
    refine q ys S' ⟨by rw [e1, List.length_map], fun j w v hw hv => ?_⟩ k3 b3
    obtain ⟨c, hc, rfl⟩ := get_map hw
    exact e2 j c v hc hv
/-! what the program asks of rows -/
theorem Vs.row (h : Vs (kds f) xs) : rowD f (.tup xs) = true := by
  rw [rowD_tup, h.len, List.length_map, beq_self_eq_true, Bool.true_and, List.all_eq_true]
  intro p hp
  obtain ⟨j, hj⟩ := List.mem_iff_getElem?.mp hp
  rw [List.getElem?_zip_eq_some] at hj
  have hv := h.it j p.1.2 p.2 (by rw [List.getElem?_map, hj.1]; rfl) hj.2
  unfold valD
  generalize p.1.2 = w at hv
  generalize p.2 = v at hv
  cases w with
  | true =>
    obtain ⟨z, rfl, hz⟩ := hv
    rw [if_pos rfl, isWd_str]
    simp only [Bool.and_eq_true, decide_eq_true_eq, List.all_eq_true]
    exact ⟨⟨hz.1, hz.2⟩, fun c hc => mem_letters.mpr (hz.3 c hc)⟩
  | false =>
    obtain ⟨i, rfl, h1⟩ := hv
    rw [if_neg Bool.false_ne_true]
    simp only [isInt, Bool.and_eq_true, decide_eq_true_eq]
    exact h1
theorem Vs.fzT (h : Vs (kds f) xs) : (D.tup xs).fz = true := by
  rw [D.fz]
  exact h.fz.1
theorem isrow_ru (h : Vs (kds f) xs) (l6 : f.length ≤ 6) (q : Q (.bl true) S) : Ru (callN Tb (k + 3) 7 [enF f, .tup xs] S) Q E := by
  refine Ru.eq (isrow_ok h.fzT (by omega)) ?_
  rw [h.row]
  exact q
theorem names_of_ru (l6 : f.length ≤ 6) (q : Q (.ntp ((nm f).map .str)) S) : Ru (callN Tb (k + 1) 8 [enF f] S) Q E := by
  refine Ru.def (fn := ⟨1, 3, p_names_of⟩) rfl rfl ?_; simp only [List.map_cons, List.map_nil, List.length_cons, List.length_nil, Nat.reduceAdd, Nat.reduceSub, List.replicate_succ, List.replicate_zero, List.cons_append, List.nil_append]
  and_intros
  refine Ru.lcm enCol (fun c => [.str c.1]) trivial (fun c _ => ?_) ?_
  · obtain ⟨z, w⟩ := c
    and_intros
    exact ⟨rfl, rfl⟩
  · rw [flat_oneB]
    refine ⟨by rw [List.length_map]; exact sz_le (by omega), ?_⟩
    and_intros
    rw [List.map_map] at q
    exact q
theorem find_nd {zs : List Str} (nd : zs.Nodup) (hz : zs[j]? = some z) : zs.findIdx? (fun y => y == z) = some j := by
  obtain ⟨hl, e⟩ := List.getElem?_eq_some_iff.mp hz
  refine List.findIdx?_eq_some_iff_getElem.mpr ⟨hl, by rw [e]; exact beq_self_eq_true z, fun i hi => ?_⟩
  intro h
  have h : zs[i] = z := by simpa using h
  have := (List.pairwise_iff_getElem.mp nd) i j (by omega) hl hi
  exact this (h.trans e.symm)
theorem value_of_ru (l6 : f.length ≤ 6) (nd : (nm f).Nodup) (hz : (nm f)[j]? = some z) (hx : xs[j]? = some v) (q : Q v S) : Ru (callN Tb (k + 2) 12 [enF f, .tup xs, .str z] S) Q E := by
  refine Ru.def (fn := ⟨3, 3, p_value_of⟩) rfl rfl ?_; simp only [List.map_cons, List.map_nil, List.length_cons, List.length_nil, Nat.reduceAdd, Nat.reduceSub, List.replicate_succ, List.replicate_zero, List.cons_append, List.nil_append]
  and_intros
  refine names_of_ru l6 ?_
  and_intros
  refine r_tidx (strsD_map id (nm f) |>.trans (by rw [List.map_id])) (find_nd nd hz) ?_
  refine Ru.eq ?_ (by and_intros; exact q)
  have e : atD xs ((j : Nat) : Int) = some v := by
    unfold atD
    rw [if_pos (Int.natCast_nonneg _), Int.toNat_natCast]
    exact hx
  show (match atD xs (j : Nat) with | some d => R.ok d S | none => .err) = .ok v S
  rw [e]
end


end
section
/-! ### what owns which boxes -/
set_option maxHeartbeats 400000
/-- from S to S', only boxes of A changed -/
structure Stp (A : Nat → Prop) (S S' : Sto) : Prop where
  le : S.length ≤ S'.length
  eq : ∀ i, i < S.length → ¬ A i → cellAt S' i = cellAt S i
/-- what is A's behind a step: the new boxes too -/
def nx (A : Nat → Prop) (S : Sto) : Nat → Prop := fun a => (a < S.length ∧ A a) ∨ S.length ≤ a
def Lcl (P : Sto → (Nat → Prop) → Prop) : Prop := ∀ S S' A A', S.length ≤ S'.length → (∀ i, i < S.length → A i → cellAt S' i = cellAt S i ∧ A' i) → P S A → P S' A'
def paint (own : Nat → Nat) (n i : Nat) : Nat → Nat := fun a => if a < n then own a else i
section
variable {A B : Nat → Prop} {S S' S2 : Sto} {bs : List Nat} {own : Nat → Nat} {c d : Nat} {P : Sto → (Nat → Prop) → Prop}
theorem Stp.of (k : Keep bs S S') (h : ∀ b ∈ bs, b < S.length → A b) : Stp A S S' := ⟨k.le, fun i hi n => k.eq i hi fun z => n (h i z hi)⟩
theorem Stp.refl : Stp A S S := ⟨Nat.le_refl _, fun _ _ _ => rfl⟩
theorem Stp.fresh (k : Keep [] S S') : Stp A S S' := Stp.of k fun _ h => nomatch h
theorem Stp.trans (x : Stp A S S') (y : Stp (nx A S) S' S2) : Stp A S S2 := ⟨Nat.le_trans x.le y.le, fun i hi n => (y.eq i (Nat.lt_of_lt_of_le hi x.le) fun z => z.elim (fun q => n q.2) fun q => absurd hi (by omega)).trans (x.eq i hi n)⟩
theorem Stp.then (x : Stp A S S') (y : Stp A S' S2) : Stp A S S2 := ⟨Nat.le_trans x.le y.le, fun i hi n => (y.eq i (Nat.lt_of_lt_of_le hi x.le) n).trans (x.eq i hi n)⟩
theorem nx_of {a : Nat} (h : A a) : nx A S a := (Nat.lt_or_ge a S.length).imp (fun q => ⟨q, h⟩) id
theorem nx_new {a : Nat} (h : S.length ≤ a) : nx A S a := .inr h
theorem Lcl.keep (l : Lcl P) (h : P S A) (k : Keep bs S S') (n : ∀ b ∈ bs, b < S.length → ¬ A b) : P S' A := l S S' A A k.le (fun i hi a => ⟨k.eq i hi fun z => n i z hi a, a⟩) h
theorem Lcl.up (l : Lcl P) (h : P S A) (hA : ∀ i, i < S.length → A i → B i) : P S B := l S S A B (Nat.le_refl _) (fun i hi a => ⟨rfl, hA i hi a⟩) h
theorem paint_lt {a n i : Nat} (h : a < n) : paint own n i a = own a := if_pos h
theorem paint_ge {a n i : Nat} (h : n ≤ a) : paint own n i a = i := if_neg (by omega)
theorem Lcl.oth (l : Lcl P) (h : P S (fun a => own a = d)) (st : Stp (fun a => own a = c) S S') (ne : c ≠ d) : P S' (fun a => paint own S.length c a = d) :=
  l _ _ _ _ st.le (fun i hi e => ⟨st.eq i hi fun z => ne (z.symm.trans e), (paint_lt hi).trans e⟩) h
theorem nx_own : nx (fun a => own a = c) S = fun a => paint own S.length c a = c := by
  funext a
  apply propext
  rcases Nat.lt_or_ge a S.length with h | h
  · rw [paint_lt h]
    exact ⟨fun q => q.elim (fun q => q.2) fun q => absurd h (by omega), fun q => .inl ⟨h, q⟩⟩
  · rw [paint_ge h]
    exact ⟨fun _ => rfl, fun _ => .inr h⟩
theorem lcl_lst {n : Nat} {c0 : Cell} : Lcl fun S A => cellAt S n = some c0 ∧ A n := fun S S' A A' _ h ⟨e, a⟩ => by
  obtain ⟨q, r⟩ := h n (cellAt_lt e) a
  exact ⟨q.trans e, r⟩
end
/-! pages: a list of lists -/
structure Enc (g : Int → D) : Prop where
  fz : ∀ i, (g i).fz = true
  dp : ∀ i, (g i).dp ≤ 2
  eq : ∀ i j, (g i).eqv (g j) = (i == j)
def Pgs (g : Int → D) (o : Nat) (ps : List (List Int)) (S : Sto) (A : Nat → Prop) : Prop := ∃ is : List Nat, cellAt S o = some (.lst (is.map .ref)) ∧ A o ∧ is.Nodup ∧ o ∉ is ∧ is.length = ps.length ∧ ∀ (j i : Nat) (p : List Int), is[j]? = some i → ps[j]? = some p → A i ∧ cellAt S i = some (.lst (p.map g))
def hput (cap x : Int) : List (List Int) → List (List Int)
  | [] => [[x]]
  | p :: r => if (p.length : Int) < cap then (p ++ [x]) :: r else p :: hput cap x r
def hpt (cap : Int) : List (List Int) → Int
  | [] => 1
  | p :: r => if (p.length : Int) < cap then 1 + (if (1 : Int) < ((p.length + 1 : Nat) : Int) then 1 else 0) else hpt cap r
def dropI (x : Int) (p : List Int) : List Int := match p.findIdx? (· == x) with
  | some j => p.eraseIdx j
  | none => p
def hdrop (x : Int) (ps : List (List Int)) : List (List Int) := ps.map (dropI x)
theorem hput_full {cap x : Int} : ∀ {ps : List (List Int)}, (∀ p ∈ ps, cap ≤ (p.length : Int)) → hput cap x ps = ps ++ [[x]] ∧ hpt cap ps = 1
  | [], _ => ⟨rfl, rfl⟩
  | p :: r, h => by
    have h1 := h p (List.mem_cons_self ..)
    obtain ⟨a, b⟩ := hput_full (x := x) (ps := r) fun q hq => h q (List.mem_cons_of_mem _ hq)
    unfold hput hpt
    rw [if_neg (by omega), if_neg (by omega), a, b]
    exact ⟨rfl, rfl⟩
theorem hput_at {cap x : Int} : ∀ {ps : List (List Int)} {i : Nat} {p : List Int}, ps[i]? = some p → (p.length : Int) < cap → (∀ q ∈ ps.take i, cap ≤ (q.length : Int)) → hput cap x ps = ps.set i (p ++ [x]) ∧ hpt cap ps = 1 + (if (1 : Int) < ((p.length + 1 : Nat) : Int) then 1 else 0)
  | [], _, _, h, _, _ => by simp at h
  | q :: r, 0, p, h, hl, _ => by
    have e : q = p := by simpa using h
    subst e
    unfold hput hpt
    rw [if_pos hl, if_pos hl]
    exact ⟨rfl, rfl⟩
  | q :: r, i + 1, p, h, hl, hf => by
    have h1 := hf q (by simp)
    obtain ⟨a, b⟩ := hput_at (x := x) (ps := r) (i := i) (p := p) (by simpa using h) hl fun q' hq => hf q' (by rw [List.take_succ_cons]; exact List.mem_cons_of_mem _ hq)
    unfold hput hpt
    rw [if_neg (by omega), if_neg (by omega), a, b]
    exact ⟨rfl, rfl⟩
/-- how long, how many: at most m -/
def PSm (m : Nat) (ps : List (List Int)) : Prop := ps.length ≤ m ∧ ∀ p ∈ ps, p.length ≤ m
theorem PSm.put {m : Nat} {cap x : Int} {ps : List (List Int)} (h : PSm m ps) : PSm (m + 1) (hput cap x ps) := by
  have go : ∀ ps : List (List Int), (hput cap x ps).length ≤ ps.length + 1 ∧ ∀ n, (∀ p ∈ ps, p.length ≤ n) → ∀ p ∈ hput cap x ps, p.length ≤ n + 1 := by
    intro ps
    induction ps with
    | nil => exact ⟨Nat.le_refl _, fun n _ p hp => by rw [List.mem_singleton.mp hp]; simp⟩
    | cons q r ih =>
      unfold hput
      split
      · refine ⟨by simp, fun n hn p hp => ?_⟩
        rcases List.mem_cons.mp hp with rfl | hp
        · have := hn q (List.mem_cons_self ..)
          rw [List.length_append]
          exact Nat.succ_le_succ this
        · exact Nat.le_succ_of_le (hn p (List.mem_cons_of_mem _ hp))
      · refine ⟨by simp only [List.length_cons]; exact Nat.succ_le_succ ih.1, fun n hn p hp => ?_⟩
        rcases List.mem_cons.mp hp with rfl | hp
        · exact Nat.le_succ_of_le (hn _ (List.mem_cons_self ..))
        · exact ih.2 n (fun p hp => hn p (List.mem_cons_of_mem _ hp)) p hp
  exact ⟨Nat.le_trans (go ps).1 (Nat.succ_le_succ h.1), (go ps).2 m h.2⟩
theorem dropI_len {x : Int} {p : List Int} : (dropI x p).length ≤ p.length := by
  unfold dropI
  split
  · rw [List.length_eraseIdx]; split <;> omega
  · exact Nat.le_refl _
theorem PSm.drop {m : Nat} {x : Int} {ps : List (List Int)} (h : PSm m ps) : PSm m (hdrop x ps) := by
  refine ⟨by unfold hdrop; rw [List.length_map]; exact h.1, fun p hp => ?_⟩
  obtain ⟨q, hq, rfl⟩ := List.mem_map.mp hp
  exact Nat.le_trans dropI_len (h.2 q hq)
theorem PSm.mono {m n : Nat} {ps : List (List Int)} (h : PSm m ps) (k : m ≤ n) : PSm n ps := ⟨Nat.le_trans h.1 k, fun p hp => Nat.le_trans (h.2 p hp) k⟩
section
variable {g : Int → D} {o n i j : Nat} {ps : List (List Int)} {p p' : List Int} {S S' : Sto} {A : Nat → Prop} {x : Int} {bs : List Nat}
theorem Enc.fzs (e : Enc g) : ∀ p : List Int, D.fzs (p.map g) = true ∧ D.dps (p.map g) ≤ 2
  | [] => ⟨rfl, Nat.zero_le _⟩
  | a :: r => by
    obtain ⟨h1, h2⟩ := Enc.fzs e r
    have := e.dp a
    exact ⟨by rw [List.map_cons, D.fzs, e.fz, h1]; rfl, by rw [List.map_cons, D.dps]; omega⟩
theorem Enc.find (e : Enc g) : ∀ p : List Int, (p.map g).findIdx? (fun z => z.eqv (g x)) = p.findIdx? (· == x)
  | [] => rfl
  | a :: r => by
    rw [List.map_cons, List.findIdx?_cons, List.findIdx?_cons, e.eq, Enc.find e r]
theorem Enc.any (e : Enc g) (p : List Int) : ((p.map g).any fun z => z.eqv (g x)) = (p.findIdx? (· == x)).isSome := by
  rw [← Enc.find e p, List.findIdx?_isSome]
theorem lcl_pgs : Lcl (Pgs g o ps) := by
  rintro S S' A A' _ h ⟨is, e, a, nd, no, l, w⟩
  obtain ⟨q, r⟩ := h o (cellAt_lt e) a
  refine ⟨is, q.trans e, r, nd, no, l, fun j i p hi hp => ?_⟩
  obtain ⟨a1, e1⟩ := w j i p hi hp
  obtain ⟨q1, r1⟩ := h i (cellAt_lt e1) a1
  exact ⟨r1, q1.trans e1⟩
/-- a page is changed -/
theorem pgs_set {is : List Nat} (e : cellAt S o = some (.lst (is.map .ref))) (a : A o) (nd : is.Nodup) (no : o ∉ is) (l : is.length = ps.length) (w : ∀ (j i : Nat) (p : List Int), is[j]? = some i → ps[j]? = some p → A i ∧ cellAt S i = some (.lst (p.map g)))
    (hi : is[j]? = some i) (hc : cellAt S' i = some (.lst (p'.map g))) (k : Keep [i] S S') : cellAt S' o = some (.lst (is.map .ref)) ∧ is.length = (ps.set j p').length ∧ ∀ (j' i' : Nat) (p : List Int), is[j']? = some i' → (ps.set j p')[j']? = some p → A i' ∧ cellAt S' i' = some (.lst (p.map g)) := by
  have hm := List.mem_of_getElem? hi
  refine ⟨(k.eq o (cellAt_lt e) fun z => no (by rw [List.mem_singleton.mp z]; exact hm)).trans e, by rw [List.length_set]; exact l, fun j' i' p hi' hp => ?_⟩
  have hjl : j < ps.length := by rw [← l]; exact (List.getElem?_eq_some_iff.mp hi).1
  by_cases hj : j' = j
  · subst hj
    rw [hi] at hi'
    cases hi'
    rw [List.getElem?_set_self hjl] at hp
    cases hp
    exact ⟨(w j' i _ hi (List.getElem?_eq_getElem hjl)).1, hc⟩
  · rw [List.getElem?_set_ne (Ne.symm hj)] at hp
    obtain ⟨a1, e1⟩ := w j' i' p hi' hp
    refine ⟨a1, (k.eq i' (cellAt_lt e1) fun z => ?_).trans e1⟩
    have z := List.mem_singleton.mp z
    subst z
    have h1 := (List.getElem?_eq_some_iff.mp hi')
    have h2 := (List.getElem?_eq_some_iff.mp hi)
    exact hj ((List.getElem_inj nd).mp (h1.2.trans h2.2.symm))
/-- a page comes -/
theorem pgs_new {is : List Nat} (nd : is.Nodup) (no : o ∉ is) (l : is.length = ps.length) (e : cellAt S o = some (.lst (is.map .ref))) (w : ∀ (j i : Nat) (p : List Int), is[j]? = some i → ps[j]? = some p → A i ∧ cellAt S i = some (.lst (p.map g))) (a : A o)
    {S1 : Sto} (hn : n = S.length) (hc : cellAt S1 n = some (.lst (p'.map g))) (k : Keep [] S S1) (hc2 : cellAt S' o = some (.lst (is.map .ref ++ [.ref n]))) (k2 : Keep [o] S1 S') : Pgs g o (ps ++ [p']) S' (nx A S) := by
  have hlt : ∀ i ∈ is, i < S.length := fun i hi => by
    obtain ⟨j, hj⟩ := List.mem_iff_getElem?.mp hi
    have hjl : j < ps.length := by rw [← l]; exact (List.getElem?_eq_some_iff.mp hj).1
    exact cellAt_lt (w j i _ hj (List.getElem?_eq_getElem hjl)).2
  have hol := cellAt_lt e
  refine ⟨is ++ [n], by rw [hc2, List.map_append]; rfl, nx_of a, ?_, ?_, by rw [List.length_append, List.length_append, l]; rfl, fun j i p hi hp => ?_⟩
  · rw [List.nodup_append]
    refine ⟨nd, by simp, fun x hx y hy => ?_⟩
    rw [List.mem_singleton] at hy
    have := hlt x hx
    omega
  · rw [List.mem_append, List.mem_singleton]
    rintro (h | h)
    · exact no h
    · omega
  · rcases Nat.lt_or_ge j is.length with h | h
    · rw [List.getElem?_append_left h] at hi
      rw [List.getElem?_append_left (by omega)] at hp
      obtain ⟨a1, e1⟩ := w j i p hi hp
      have hil := cellAt_lt e1
      refine ⟨nx_of a1, (k2.eq i (Nat.lt_of_lt_of_le hil k.le) fun z => ?_).trans ((k.eq i hil (by simp)).trans e1)⟩
      rw [List.mem_singleton.mp z] at hi
      exact no (List.mem_of_getElem? hi)
    · rw [List.getElem?_append_right h] at hi
      rw [List.getElem?_append_right (by omega)] at hp
      have h0 : j - is.length = 0 := by
        have := (List.getElem?_eq_some_iff.mp hi).1
        simp at this
        omega
      rw [h0] at hi
      rw [show j - ps.length = 0 by omega] at hp
      have e1 : n = i := by simpa using hi
      have e2 : p' = p := by simpa using hp
      subst e1 e2
      refine ⟨nx_new (by omega), (k2.eq n (cellAt_lt hc) fun z => ?_).trans hc⟩
      have := List.mem_singleton.mp z
      omega
end


end
section
/-! ### rows by their numbers -/
set_option maxHeartbeats 400000
section
variable {kvs : List (L2.Key × D)} {κ κ' : L2.Key} {d d' : D} {ws : List Bool} {last n : Int} {xs ys : List D}
theorem dGet_mem : ∀ {kvs : List (L2.Key × D)}, dGet kvs κ = some d → (κ, d) ∈ kvs
  | [], h => nomatch h
  | (k', d') :: r, h => by
    unfold dGet at h
    by_cases e : k' = κ
    · rw [List.find?_cons_of_pos (by simpa using e)] at h
      cases h
      subst e
      exact List.mem_cons_self ..
    · rw [List.find?_cons_of_neg (by simpa using e)] at h
      exact List.mem_cons_of_mem _ (dGet_mem h)
theorem dGet_of : ∀ {kvs : List (L2.Key × D)}, (kvs.map (·.1)).Nodup → (κ, d) ∈ kvs → dGet kvs κ = some d
  | (k', d') :: r, nd, h => by
    rw [List.map_cons, List.nodup_cons] at nd
    unfold dGet
    rcases List.mem_cons.mp h with e | h
    · cases e
      rw [List.find?_cons_of_pos (by simp)]
      rfl
    · have ne : k' ≠ κ := fun e => nd.1 (by rw [e]; exact List.mem_map.mpr ⟨_, h, rfl⟩)
      rw [List.find?_cons_of_neg (by simpa using ne)]
      exact dGet_of nd.2 h
theorem dGet_key (h : dGet kvs κ = some d) : κ ∈ kvs.map (·.1) := List.mem_map.mpr ⟨_, dGet_mem h, rfl⟩
theorem any_key : (kvs.any fun kv => decide (kv.1 = κ)) = true ↔ κ ∈ kvs.map (·.1) := by
  rw [List.any_eq_true, List.mem_map]
  exact ⟨fun ⟨kv, h1, h2⟩ => ⟨kv, h1, by simpa using h2⟩, fun ⟨kv, h1, h2⟩ => ⟨kv, h1, by simpa using h2⟩⟩
theorem dPut_new (h : κ ∉ kvs.map (·.1)) : dPut kvs κ d = kvs ++ [(κ, d)] := by
  unfold dPut
  rw [if_neg fun z => h (any_key.mp z)]
theorem dPut_old (h : κ ∈ kvs.map (·.1)) : dPut kvs κ d = kvs.map (fun kv => if kv.1 = κ then (kv.1, d) else kv) := by
  unfold dPut
  rw [if_pos (any_key.mpr h)]
theorem dPut_keys (h : κ ∈ kvs.map (·.1)) : (dPut kvs κ d).map (·.1) = kvs.map (·.1) := by
  rw [dPut_old h, List.map_map]
  apply List.map_congr_left
  intro kv _
  show (if kv.1 = κ then (kv.1, d) else kv).1 = kv.1
  split <;> rfl
theorem dGet_put (nd : (kvs.map (·.1)).Nodup) : dGet (dPut kvs κ d) κ = some d := by
  by_cases h : κ ∈ kvs.map (·.1)
  · refine dGet_of (by rw [dPut_keys h]; exact nd) ?_
    rw [dPut_old h]
    obtain ⟨kv, h1, h2⟩ := List.mem_map.mp h
    exact List.mem_map.mpr ⟨kv, h1, by rw [if_pos h2, h2]⟩
  · refine dGet_of ?_ (by rw [dPut_new h]; simp)
    rw [dPut_new h, List.map_append, List.nodup_append]
    exact ⟨nd, by simp, fun a ha b hb e => h ((show b = κ by simpa using hb) ▸ e ▸ ha)⟩
theorem dPut_self (nd : (kvs.map (·.1)).Nodup) (h : dGet kvs κ = some d) : dPut kvs κ d = kvs := by
  rw [dPut_old (dGet_key h)]
  conv => rhs; rw [← List.map_id kvs]
  apply List.map_congr_left
  intro kv hkv
  split
  · rename_i e
    have := dGet_of nd (κ := kv.1) (d := kv.2) hkv
    rw [e, h] at this
    obtain ⟨k1, v1⟩ := kv
    have e1 : d = v1 := by simpa using this
    rw [e1]
    rfl
  · rfl
/-- these rows, of these kinds, under numbers up to last -/
structure KOk (ws : List Bool) (last : Int) (kvs : List (L2.Key × D)) : Prop where
  nd : (kvs.map (·.1)).Nodup
  len : (kvs.length : Int) ≤ last
  it : ∀ kv ∈ kvs, ∃ (n : Int) (xs : List D), kv = (.inl n, .tup xs) ∧ 1 ≤ n ∧ n ≤ last ∧ Vs ws xs
theorem KOk.none : KOk ws 0 [] := ⟨List.nodup_nil, Int.le_refl _, fun _ h => nomatch h⟩
theorem KOk.get (h : KOk ws last kvs) (e : dGet kvs (.inl n) = some d) : ∃ xs, d = .tup xs ∧ 1 ≤ n ∧ n ≤ last ∧ Vs ws xs := by
  obtain ⟨m, xs, e1, h1, h2, h3⟩ := h.it _ (dGet_mem e)
  cases e1
  exact ⟨xs, rfl, h1, h2, h3⟩
theorem KOk.fresh (h : KOk ws last kvs) : (Sum.inl (last + 1) : L2.Key) ∉ kvs.map (·.1) := by
  rw [List.mem_map]
  rintro ⟨kv, h1, h2⟩
  obtain ⟨m, xs, e1, _, h4, _⟩ := h.it _ h1
  subst e1
  have : m = last + 1 := by simpa using h2
  omega
theorem KOk.put (h : KOk ws last kvs) (hx : Vs ws xs) : KOk ws (last + 1) (dPut kvs (.inl (last + 1)) (.tup xs)) := by
  have l0 := h.len
  rw [dPut_new h.fresh]
  refine ⟨?_, by rw [List.length_append, List.length_singleton]; omega, fun kv hkv => ?_⟩
  · rw [List.map_append, List.nodup_append]
    exact ⟨h.nd, by simp, fun a ha b hb e => h.fresh ((show b = Sum.inl (last + 1) by simpa using hb) ▸ e ▸ ha)⟩
  · rcases List.mem_append.mp hkv with q | q
    · obtain ⟨m, ys, e1, h1, h2, h3⟩ := h.it kv q
      exact ⟨m, ys, e1, h1, by omega, h3⟩
    · have := List.mem_singleton.mp q
      exact ⟨_, xs, this, by omega, Int.le_refl _, hx⟩
theorem KOk.drop (h : KOk ws last kvs) : KOk ws last (dDrop kvs κ) := by
  unfold dDrop
  refine ⟨h.nd.sublist (List.Sublist.map _ List.filter_sublist), ?_, fun kv hkv => h.it kv (List.mem_filter.mp hkv).1⟩
  have := List.length_filter_le (fun kv : L2.Key × D => decide (kv.1 ≠ κ)) kvs
  have := h.len
  omega
theorem KOk.set (h : KOk ws last kvs) (e : dGet kvs (.inl n) = some d) (hx : Vs ws xs) : KOk ws last (dPut kvs (.inl n) (.tup xs)) := by
  refine ⟨by rw [dPut_keys (dGet_key e)]; exact h.nd, ?_, fun kv hkv => ?_⟩
  · rw [dPut_old (dGet_key e), List.length_map]
    exact h.len
  · rw [dPut_old (dGet_key e)] at hkv
    obtain ⟨kv0, h0, rfl⟩ := List.mem_map.mp hkv
    obtain ⟨m, ys, e1, h1, h2, h3⟩ := h.it kv0 h0
    split
    · exact ⟨m, xs, by rw [e1], h1, h2, hx⟩
    · exact ⟨m, ys, e1, h1, h2, h3⟩
theorem KOk.ints (h : KOk ws last kvs) : ∃ ns : List Int, intKs kvs = some ns ∧ ns.length = kvs.length ∧ ∀ n ∈ ns, ∃ xs, dGet kvs (.inl n) = some (.tup xs) := by
  have go : ∀ l : List (L2.Key × D), (∀ kv ∈ l, ∃ (n : Int) (xs : List D), kv = (.inl n, .tup xs)) → ∃ ns : List Int, intKs l = some ns ∧ ns.length = l.length ∧ ∀ n ∈ ns, ∃ xs, (Sum.inl n, D.tup xs) ∈ l := by
    intro l
    induction l with
    | nil => exact fun _ => ⟨[], rfl, rfl, fun n hn => nomatch hn⟩
    | cons kv r ih =>
      intro hl
      obtain ⟨n, xs, rfl⟩ := hl kv (List.mem_cons_self ..)
      obtain ⟨ns, h1, h2, h3⟩ := ih fun kv hkv => hl kv (List.mem_cons_of_mem _ hkv)
      refine ⟨n :: ns, by rw [intKs, h1]; rfl, by rw [List.length_cons, h2]; rfl, fun m hm => ?_⟩
      rcases List.mem_cons.mp hm with rfl | hm
      · exact ⟨xs, List.mem_cons_self ..⟩
      · obtain ⟨ys, q⟩ := h3 m hm
        exact ⟨ys, List.mem_cons_of_mem _ q⟩
  obtain ⟨ns, h1, h2, h3⟩ := go kvs fun kv hkv => let ⟨n, xs, e, _⟩ := h.it kv hkv; ⟨n, xs, e⟩
  exact ⟨ns, h1, h2, fun n hn => let ⟨xs, q⟩ := h3 n hn; ⟨xs, dGet_of h.nd q⟩⟩
/-- the rows with their numbers -/
abbrev prs (kvs : List (L2.Key × D)) : List D := kvs.map fun kv => .tup [keyV kv.1, kv.2]
theorem KOk.prs (h : KOk ws last kvs) (l : ws.length ≤ 6) : D.fzs (prs kvs) = true ∧ D.dps (prs kvs) ≤ 2 ∧ D.wds 1000 (prs kvs) = true ∧ sortable (D.pys (prs kvs)) := by
  have el : ∀ t ∈ Wk.prs kvs, ∃ (n : Int) (xs : List D), t = .tup [.int n, .tup xs] ∧ Vs ws xs := fun t ht => by
    obtain ⟨kv, hkv, rfl⟩ := List.mem_map.mp ht
    obtain ⟨n, xs, rfl, _, _, q⟩ := h.it kv hkv
    exact ⟨n, xs, rfl, q⟩
  refine ⟨fzs_of fun t ht => ?_, dps_of fun t ht => ?_, wds_of fun t ht => ?_, ?_⟩
  · obtain ⟨n, xs, rfl, q⟩ := el t ht
    simp [D.fz, D.fzs, q.fz.1]
  · obtain ⟨n, xs, rfl, q⟩ := el t ht
    simp [D.dp, D.dps, q.fz.2.1]
  · obtain ⟨n, xs, rfl, q⟩ := el t ht
    have := q.len
    simp only [D.wd, D.wds, List.length_cons, List.length_nil, q.fz.2.2, Bool.and_true, Bool.true_and, Bool.and_eq_true, decide_eq_true_eq]
    omega
  · rw [pys_map]
    refine ⟨fun d hd d' hd' => ?_, .inl fun d hd => ?_⟩
    · obtain ⟨t, ht, rfl⟩ := List.mem_map.mp hd
      obtain ⟨u, hu, rfl⟩ := List.mem_map.mp hd'
      obtain ⟨n, xs, rfl, q⟩ := el t ht
      obtain ⟨m, ys, rfl, r⟩ := el u hu
      simp [D.py, D.pys, PySem.W.alike, PySem.W.alikeAll, q.alike r]
    · obtain ⟨t, ht, rfl⟩ := List.mem_map.mp hd
      obtain ⟨n, xs, rfl, q⟩ := el t ht
      exact ⟨(D.int n).py, [(D.tup xs).py], by simp [D.py, D.pys]⟩
end
/-! a value of a row changed -/
def chg (zs : List Str) (xs : List D) (z : Str) (v : D) : List D := (zs.zip xs).map fun p => if (p.1 == z) = true then v else p.2
section
variable {f : List Col} {xs : List D} {z : Str} {v u : D} {j : Nat} {w : Bool}
theorem chg_set {zs : List Str} (nd : zs.Nodup) (hz : zs[j]? = some z) (hl : zs.length = xs.length) : chg zs xs z v = xs.set j v := by
  apply List.ext_getElem?
  intro i
  unfold chg
  rw [List.getElem?_map]
  rcases Nat.lt_or_ge i xs.length with h | h
  · have hi : i < zs.length := by omega
    rw [show (zs.zip xs)[i]? = some (zs[i], xs[i]) from List.getElem?_zip_eq_some.mpr ⟨List.getElem?_eq_getElem hi, List.getElem?_eq_getElem h⟩]
    by_cases e : i = j
    · subst e
      rw [List.getElem?_set_self h]
      have : zs[i] = z := by rw [List.getElem?_eq_getElem hi] at hz; exact Option.some.inj hz
      simp [this]
    · rw [List.getElem?_set_ne (Ne.symm e), List.getElem?_eq_getElem h]
      have ne : zs[i] ≠ z := fun q => by
        obtain ⟨hj, e2⟩ := List.getElem?_eq_some_iff.mp hz
        exact e ((List.getElem_inj nd).mp (q.trans e2.symm))
      simp [ne]
  · rw [List.getElem?_eq_none (show (zs.zip xs).length ≤ i by rw [List.length_zip]; omega), List.getElem?_eq_none (show (xs.set j v).length ≤ i by rw [List.length_set]; exact h)]
    rfl
theorem eqv_val (a : ValOf w u) (b : ValOf w v) : (v.eqv u = u.eqv v) ∧ (u.eqv v = true → u = v) := by
  cases w with
  | true =>
    obtain ⟨x, rfl, _⟩ := a
    obtain ⟨y, rfl, _⟩ := b
    simp only [D.eqv]
    refine ⟨by rw [Bool.eq_iff_iff, beq_iff_eq, beq_iff_eq]; exact ⟨Eq.symm, Eq.symm⟩, fun h => ?_⟩
    rw [beq_iff_eq.mp h]
  | false =>
    obtain ⟨x, rfl, _⟩ := a
    obtain ⟨y, rfl, _⟩ := b
    rw [eqv_int, eqv_int]
    refine ⟨by rw [Bool.eq_iff_iff, beq_iff_eq, beq_iff_eq]; exact ⟨Eq.symm, Eq.symm⟩, fun h => ?_⟩
    rw [beq_iff_eq.mp h]
theorem eqvs_set : ∀ {xs : List D} {j : Nat}, D.fzs xs = true → xs[j]? = some u → D.eqvs (xs.set j v) xs = v.eqv u
  | [], _, _, h => by simp at h
  | x :: xs, 0, hf, h => by
    have e : x = u := by simpa using h
    subst e
    simp only [D.fzs, Bool.and_eq_true] at hf
    show (v.eqv x && D.eqvs xs xs) = _
    have := eqv_self (.tup xs) (by rw [D.fz]; exact hf.2)
    rw [D.eqv] at this
    rw [this, Bool.and_true]
  | x :: xs, j + 1, hf, h => by
    simp only [D.fzs, Bool.and_eq_true] at hf
    show (x.eqv x && D.eqvs (xs.set j v) xs) = _
    rw [eqv_self x hf.1, Bool.true_and, eqvs_set hf.2 (by simpa using h)]
theorem Vs.set {ws : List Bool} (h : Vs ws xs) (hj : ws[j]? = some w) (hv : ValOf w v) : Vs ws (xs.set j v) := by
  refine ⟨by rw [List.length_set]; exact h.len, fun i w' v' hi hv' => ?_⟩
  have hjl := (List.getElem?_eq_some_iff.mp hj).1
  by_cases e : i = j
  · subst e
    rw [List.getElem?_set_self (by rw [h.len]; exact hjl)] at hv'
    rw [hj] at hi
    cases hi
    cases hv'
    exact hv
  · rw [List.getElem?_set_ne (Ne.symm e)] at hv'
    exact h.it i w' v' hi hv'
end
section
variable {k j : Nat} {S : Sto} {Q : D → Sto → Prop} {E : Exc → Sto → Prop} {f : List Col} {xs : List D} {z : Str} {v : D}
theorem lchanged_ru (l6 : f.length ≤ 6) (hx : xs.length = f.length) (fv : v.fz = true) (q : Q (.tup (chg (nm f) xs z v)) S) : Ru (callN Tb (k + 1) 55 [enF f, .tup xs, .str z, v] S) Q E := by
  refine Ru.def (fn := ⟨4, 7, p_l_changed⟩) rfl rfl ?_; simp only [List.map_cons, List.map_nil, List.length_cons, List.length_nil, Nat.reduceAdd, Nat.reduceSub, List.replicate_succ, List.replicate_zero, List.cons_append, List.nil_append]
  and_intros
  rw [show seqOf S (enF f) = some (f.map enCol) from rfl, show seqOf S (.tup xs) = some xs from rfl, ru_zipR, zip_enc]
  refine ⟨⟨fun h => (nomatch h), rfl, rfl, .inr rfl⟩, ?_⟩
  refine Ru.lcm (fun p : Col × D => .tup [enCol p.1, p.2]) (fun p => [if (p.1.1 == z) = true then v else p.2]) trivial (fun p _ => ?_) ?_
  · obtain ⟨⟨n, w⟩, x⟩ := p
    and_intros
    split
    · and_intros
      exact ⟨by simp_all, rfl⟩
    · and_intros
      exact ⟨by simp_all, rfl⟩
  · rw [flat_oneB]
    refine ⟨by rw [List.length_map, List.length_zip]; exact sz_le (by omega), ?_⟩
    and_intros
    have e : (f.zip xs).map (fun p => if (p.1.1 == z) = true then v else p.2) = chg (nm f) xs z v := by
      unfold chg
      rw [List.zip_map_left, List.map_map]
      rfl
    rw [e]
    exact q
/-! values by columns -/
theorem mergeD_nd {es : List (L2.Key × D)} (nd : (es.map (·.1)).Nodup) : mergeD es = es := by
  have go : ∀ (es acc : List (L2.Key × D)), ((acc ++ es).map (·.1)).Nodup → es.foldl (fun acc kv => dPut acc kv.1 kv.2) acc = acc ++ es := by
    intro es
    induction es with
    | nil => intro acc _; rw [List.append_nil]; rfl
    | cons kv r ih =>
      intro acc h
      rw [List.foldl_cons, dPut_new ?_, ih, List.append_assoc]
      · rfl
      · rw [List.append_assoc]
        exact h
      · rw [List.map_append, List.nodup_append] at h
        intro hm
        exact h.2.2 _ hm _ (by simp) rfl
  have := go es [] (by simpa using nd)
  rw [List.nil_append] at this
  exact this
theorem pairs_zip : ∀ l : List (Col × D), pairsD (l.map fun p => D.tup [.str p.1.1, p.2]) = some (l.map fun p => (Sum.inr p.1.1, p.2))
  | [] => rfl
  | a :: r => by
    rw [List.map_cons, pairsD]
    show (pairsD (r.map fun p => D.tup [.str p.1.1, p.2])).map _ = _
    rw [pairs_zip r]
    rfl
/-- the values of a row in these columns -/
abbrev vals (xs : List D) (key : List Nat) : List D := key.map fun j => xs.getD j .non
abbrev keyN (f : List Col) (key : List Nat) : List Str := key.map fun j => (nm f).getD j ""
theorem values_of_ru {key : List Nat} (l6 : f.length ≤ 6) (nd : (nm f).Nodup) (hx : xs.length = f.length) (hk : ∀ j ∈ key, j < f.length) (lk : key.length ≤ 6) (q : ∀ S', Keep [] S S' → Q (.tup (vals xs key)) S') : Ru (callN Tb (k + 1) 13 [enF f, .tup xs, .tup ((keyN f key).map .str)] S) Q E := by
  refine Ru.def (fn := ⟨3, 8, p_values_of⟩) rfl rfl ?_; simp only [List.map_cons, List.map_nil, List.length_cons, List.length_nil, Nat.reduceAdd, Nat.reduceSub, List.replicate_succ, List.replicate_zero, List.cons_append, List.nil_append]
  and_intros
  rw [show seqOf S (enF f) = some (f.map enCol) from rfl, show seqOf S (.tup xs) = some xs from rfl, ru_zipR, zip_enc]
  refine ⟨⟨fun _ => by rw [List.length_map, hx], rfl, rfl, .inl rfl⟩, ?_⟩
  refine Ru.lcm (fun p : Col × D => .tup [enCol p.1, p.2]) (fun p => [.tup [.str p.1.1, p.2]]) trivial (fun p _ => ?_) ?_
  · obtain ⟨⟨n, w⟩, x⟩ := p
    and_intros
    exact ⟨rfl, rfl⟩
  · rw [flat_oneB]
    have ndk : (((f.zip xs).map fun p => ((Sum.inr p.1.1 : L2.Key), p.2)).map (·.1)).Nodup := by
      rw [List.map_map]
      have e : ((f.zip xs).map ((fun x => x.1) ∘ fun p : Col × D => ((Sum.inr p.1.1 : L2.Key), p.2))) = (nm f).map Sum.inr := by
        have : ((f.zip xs).map (fun p => p.1)) = f := List.map_fst_zip (by omega)
        rw [show ((fun x => x.1) ∘ fun p : Col × D => ((Sum.inr p.1.1 : L2.Key), p.2)) = (fun c : Col => (Sum.inr c.1 : L2.Key)) ∘ (fun p : Col × D => p.1) from rfl, ← List.map_map, this, List.map_map]
        rfl
      rw [e]
      exact (nodup_mapI fun a b h => Sum.inr.inj h).mpr nd
    refine r_mkDct (pairs_zip (f.zip xs)) (by rw [List.length_map, List.length_zip]; omega) fun S1 n hn c1 k1 => ?_
    rw [mergeD_nd ndk] at c1
    and_intros
    rw [List.map_map]
    refine Ru.lcm (fun j => D.str ((nm f).getD j "")) (fun j => [xs.getD j .non]) trivial (fun j hj => ?_) ?_
    · have hjl := hk j hj
      and_intros
      refine r_didx c1 (κ := .inr ((nm f).getD j "")) rfl (d := xs.getD j .non) (dGet_of ndk ?_) ?_
      · refine List.mem_map.mpr ⟨(f[j], xs[j]'(by omega)), List.mem_iff_getElem?.mpr ⟨j, List.getElem?_zip_eq_some.mpr ⟨List.getElem?_eq_getElem hjl, List.getElem?_eq_getElem (by omega)⟩⟩, ?_⟩
        rw [List.getD_eq_getElem?_getD, List.getD_eq_getElem?_getD, List.getElem?_map, List.getElem?_eq_getElem hjl, List.getElem?_eq_getElem (show j < xs.length by omega)]
        rfl
      · and_intros
        exact ⟨rfl, rfl⟩
    · rw [flat_oneB]
      refine ⟨by rw [List.length_map]; exact sz_le (by omega), ?_⟩
      and_intros
      exact q S1 k1
end


end
section
/-! ### heaps of pages -/
set_option maxHeartbeats 400000
theorem encI : Enc D.int := ⟨fun i => by simp [D.fz], fun i => by simp [D.dp], fun i j => eqv_int⟩
theorem map_eraseIdx {α β : Type} (f : α → β) : ∀ (l : List α) (i : Nat), (l.map f).eraseIdx i = (l.eraseIdx i).map f
  | [], i => by simp
  | a :: r, 0 => rfl
  | a :: r, i + 1 => by rw [List.map_cons, List.eraseIdx_cons_succ, List.eraseIdx_cons_succ, List.map_cons, map_eraseIdx f r i]
section
variable {k : Nat} {g : Int → D} {o n h : Nat} {ps : List (List Int)} {S : Sto} {A : Nat → Prop} {x cap : Int} {Q : D → Sto → Prop} {E : Exc → Sto → Prop}
theorem lheap_put_ru (H : Pgs D.int o ps S A) (sm : PSm 100 ps) (q : ∀ S', Stp A S S' → Pgs D.int o (hput cap x ps) S' (nx A S) → Q (.int (hpt cap ps)) S') : Ru (callN Tb (k + 1) 51 [.ref o, .int cap, .int x] S) Q E := by
  obtain ⟨is, e, a, nd, no, l, w⟩ := H
  refine Ru.def (fn := ⟨3, 4, p_l_heap_put⟩) rfl rfl ?_; simp only [List.map_cons, List.map_nil, List.length_cons, List.length_nil, Nat.reduceAdd, Nat.reduceSub, List.replicate_succ, List.replicate_zero, List.cons_append, List.nil_append]
  and_intros
  refine Ru.for (fun i ρ S' => S' = S ∧ (∃ v, ρ = [some (.ref o), some (.int cap), some (.int x), v]) ∧ ∀ q ∈ ps.take i, cap ≤ (q.length : Int)) ⟨rfl, ⟨none, rfl⟩, by simp⟩ (fun i ρ S' h => by obtain ⟨rfl, _⟩ := h; exact e) (fun i d ρ S' hd ⟨e1, ⟨v, e2⟩, hf⟩ => ?_) fun ρ S' ⟨e1, ⟨v, e2⟩, hf⟩ => ?_
  · subst e1 e2
    obtain ⟨b, hb, rfl⟩ := get_map hd
    have hjl : i < ps.length := by rw [← l]; exact (List.getElem?_eq_some_iff.mp hb).1
    obtain ⟨p, hp⟩ : ∃ p, ps[i]? = some p := ⟨_, List.getElem?_eq_getElem hjl⟩
    obtain ⟨ab, cb⟩ := w i b p hb hp
    have lp := sm.2 p (List.mem_of_getElem? hp)
    have hl : (p.map D.int).length = p.length := List.length_map ..
    and_intros
    by_cases hc : (p.length : Int) < cap
    · rw [if_pos (by rw [hl]; simpa using hc)]
      and_intros
      refine r_append cb (by omega) fun S1 l1 c1 k1 => ?_
      and_intros
      have f := pgs_set (p' := p ++ [x]) e a nd no l w hb (by rw [c1, List.map_append]; rfl) k1
      obtain ⟨h1, h2⟩ := hput_at (x := x) hp hc hf
      have hl2 : (p.map D.int ++ [D.int x]).length = p.length + 1 := by rw [List.length_append, hl]; rfl
      have qq := q S1 (Stp.of k1 (fun z hz _ => by rw [List.mem_singleton.mp hz]; exact ab)) ((Lcl.up lcl_pgs ⟨is, f.1, a, nd, no, by rw [h1]; exact f.2.1, by rw [h1]; exact f.2.2⟩ fun _ _ h => nx_of h))
      rw [h2] at qq
      simpa only [hl2, decide_eq_true_eq] using qq
    · rw [if_neg (by rw [hl]; simpa using hc)]
      and_intros
      refine ⟨rfl, ⟨_, rfl⟩, fun q hq => ?_⟩
      rw [List.take_succ, hp] at hq
      rcases List.mem_append.mp hq with hq | hq
      · exact hf q hq
      · have : q = p := by simpa using hq
        rw [this]
        omega
  · subst e1 e2
    rw [List.length_map, l, List.take_length] at hf
    obtain ⟨h1, h2⟩ := hput_full (x := x) hf
    and_intros
    refine r_new fun S1 m hm c1 k1 => ?_
    have e' : cellAt S1 o = some (.lst (is.map .ref)) := (k1.eq o (cellAt_lt e) (by simp)).trans e
    and_intros
    refine r_append e' (by rw [List.length_map, l]; have := sm.1; omega) fun S2 l2 c2 k2 => ?_
    and_intros
    have pg := pgs_new (p' := [x]) nd no l e w a hm c1 k1 c2 k2
    rw [← h1] at pg
    have qq := q S2 (Stp.then (Stp.fresh k1) (Stp.of k2 fun z hz _ => by rw [List.mem_singleton.mp hz]; exact a)) pg
    rw [h2] at qq
    exact qq
theorem lheap_drop_ru (H : Pgs D.int o ps S A) (sm : PSm 100 ps) (q : ∀ S', Stp A S S' → Pgs D.int o (hdrop x ps) S' (nx A S) → Q (.int 2) S') : Ru (callN Tb (k + 1) 52 [.ref o, .int x] S) Q E := by
  obtain ⟨is, e, a, nd, no, l, w⟩ := H
  refine Ru.def (fn := ⟨2, 3, p_l_heap_drop⟩) rfl rfl ?_; simp only [List.map_cons, List.map_nil, List.length_cons, List.length_nil, Nat.reduceAdd, Nat.reduceSub, List.replicate_succ, List.replicate_zero, List.cons_append, List.nil_append]
  and_intros
  refine Ru.for (fun i ρ S' => Stp A S S' ∧ (∃ v, ρ = [some (.ref o), some (.int x), v]) ∧ cellAt S' o = some (.lst (is.map .ref)) ∧ ∀ (j i' : Nat) (p : List Int), is[j]? = some i' → ps[j]? = some p → cellAt S' i' = some (.lst ((if j < i then dropI x p else p).map D.int))) ⟨Stp.refl, ⟨none, rfl⟩, e, fun j i p hi hp => by rw [if_neg (by omega)]; exact (w j i p hi hp).2⟩ (fun i ρ S' h => h.2.2.1) (fun i d ρ S' hd ⟨st, ⟨v, e2⟩, e', w'⟩ => ?_) fun ρ S' ⟨st, ⟨v, e2⟩, e', w'⟩ => ?_
  · subst e2
    obtain ⟨b, hb, rfl⟩ := get_map hd
    have hjl : i < ps.length := by rw [← l]; exact (List.getElem?_eq_some_iff.mp hb).1
    obtain ⟨p, hp⟩ : ∃ p, ps[i]? = some p := ⟨_, List.getElem?_eq_getElem hjl⟩
    have ab := (w i b p hb hp).1
    have cb := w' i b p hb hp
    rw [if_neg (by omega)] at cb
    have lp := sm.2 p (List.mem_of_getElem? hp)
    obtain ⟨f1, f2⟩ := encI.fzs p
    have bo : b ≠ o := fun z => no (by rw [← z]; exact List.mem_of_getElem? hb)
    and_intros
    rw [ru_in (ys := p.map D.int) (by rw [seqOf_ref, cb]) (fun z h => by cases h)]
    refine ⟨⟨encI.fz x, by have := encI.dp x; omega, f1, by omega⟩, ?_⟩
    rw [encI.any p]
    cases hf : p.findIdx? (· == x) with
    | none =>
      rw [Option.isSome_none]
      and_intros
      refine ⟨st, ⟨_, rfl⟩, e', fun j i' p' hi' hp' => ?_⟩
      by_cases hj : j = i
      · subst hj
        rw [hb] at hi'
        cases hi'
        rw [hp] at hp'
        cases hp'
        rw [if_pos (by omega), cb, show dropI x p = p by unfold dropI; rw [hf]]
      · rw [w' j i' p' hi' hp']
        by_cases h : j < i
        · rw [if_pos h, if_pos (by omega)]
        · rw [if_neg h, if_neg (by omega)]
    | some t =>
      rw [Option.isSome_some]
      and_intros
      refine r_remove cb ((encI.find p).trans hf) ⟨f1, encI.fz x, by omega, by have := encI.dp x; omega, by rw [List.length_map]; omega⟩ fun S1 l1 c1 k1 => ?_
      and_intros
      refine ⟨Stp.then st (Stp.of k1 fun z hz _ => by rw [List.mem_singleton.mp hz]; exact ab), ⟨_, rfl⟩, (k1.eq o (cellAt_lt e') fun z => bo (List.mem_singleton.mp z).symm).trans e', fun j i' p' hi' hp' => ?_⟩
      by_cases hj : j = i
      · subst hj
        rw [hb] at hi'
        cases hi'
        rw [hp] at hp'
        cases hp'
        rw [if_pos (by omega), c1, show dropI x p = p.eraseIdx t by unfold dropI; rw [hf], map_eraseIdx]
      · have c0 := w' j i' p' hi' hp'
        rw [(k1.eq i' (cellAt_lt c0) fun z => ?_).trans c0]
        · by_cases h : j < i
          · rw [if_pos h, if_pos (by omega)]
          · rw [if_neg h, if_neg (by omega)]
        · have z := List.mem_singleton.mp z
          subst z
          have h1 := (List.getElem?_eq_some_iff.mp hi')
          have h2 := (List.getElem?_eq_some_iff.mp hb)
          exact hj ((List.getElem_inj nd).mp (h1.2.trans h2.2.symm))
  · subst e2
    and_intros
    refine q S' st (⟨is, e', nx_of a, nd, no, by unfold hdrop; rw [List.length_map]; exact l, fun j i p hi hp => ?_⟩)
    obtain ⟨p0, hp0, rfl⟩ := get_map hp
    refine ⟨nx_of (w j i p0 hi hp0).1, ?_⟩
    have := w' j i p0 hi hp0
    rw [if_pos (by rw [List.length_map]; exact (List.getElem?_eq_some_iff.mp hi).1)] at this
    exact this
end
section
variable {k : Nat} {g : Int → D} {o n h : Nat} {ps : List (List Int)} {S : Sto} {A : Nat → Prop} {x cap : Int} {Q : D → Sto → Prop} {E : Exc → Sto → Prop}
def HeapAt (g : Int → D) (cap : Int) (ps : List (List Int)) (h : Nat) (S : Sto) (A : Nat → Prop) : Prop := ∃ o, cellAt S h = some (.ins 2 [(2, .int cap), (5, .ref o)]) ∧ A h ∧ Pgs g o ps S A
theorem mkH {S' : Sto} {A' : Nat → Prop} (a : cellAt S' h = some (.ins 2 [(2, .int cap), (5, .ref o)])) (b : A' h) (c : Pgs g o ps S' A') : HeapAt g cap ps h S' A' := ⟨o, a, b, c⟩
theorem lcl_heap : Lcl (HeapAt g cap ps h) := by
  rintro S S' A A' l w ⟨o, e, a, pg⟩
  obtain ⟨q, r⟩ := w h (cellAt_lt e) a
  exact ⟨o, q.trans e, r, lcl_pgs S S' A A' l w pg⟩
theorem heap_init_ru (hh : cellAt S h = some (.ins 2 [])) (q : ∀ S', Keep [h] S S' → (∀ A : Nat → Prop, A h → (∀ i, S.length ≤ i → A i) → HeapAt g cap [] h S' A) → Q .non S') : Ru (callN Tb (k + 1) 29 [.ref h, .int cap] S) Q E := by
  refine Ru.def (fn := ⟨2, 2, p_Heap_init⟩) rfl rfl ?_; simp only [List.map_cons, List.map_nil, List.length_cons, List.length_nil, Nat.reduceAdd, Nat.reduceSub, List.replicate_succ, List.replicate_zero, List.cons_append, List.nil_append]
  and_intros
  refine r_put hh (by simp) (by simp) fun S1 l1 c1 k1 => ?_
  and_intros
  refine r_new fun S2 o ho c2 k2 => ?_
  have c1' := (k2.eq h (cellAt_lt c1) (by simp)).trans c1
  and_intros
  refine r_put c1' (by simp) (by simp [putFd]) fun S3 l3 c3 k3 => ?_
  and_intros
  refine q S3 (k1.trans ((k2.mono (by simp)).trans k3)) fun A ah af => ⟨o, c3, ah, [], ?_, af o (by omega), List.nodup_nil, by simp, rfl, fun j i p hi => by simp at hi⟩
  exact (k3.eq o (cellAt_lt c2) fun z => by rw [List.mem_singleton.mp z, c1'] at c2; cases c2).trans c2
theorem heap_put_ru (G : Enc g) (H : HeapAt g cap ps h S A) (sm : PSm 100 ps) (q : ∀ S', Stp A S S' → HeapAt g cap (hput cap x ps) h S' (nx A S) → Q (.int (hpt cap ps)) S') : Ru (callN Tb (k + 1) 30 [.ref h, g x] S) Q E := by
  obtain ⟨o, hh, ah, is, e, a, nd, no, l, w⟩ := H
  refine Ru.def (fn := ⟨2, 3, p_Heap_put⟩) rfl rfl ?_; simp only [List.map_cons, List.map_nil, List.length_cons, List.length_nil, Nat.reduceAdd, Nat.reduceSub, List.replicate_succ, List.replicate_zero, List.cons_append, List.nil_append]
  and_intros
  refine Ru.for (fun i ρ S' => S' = S ∧ (∃ v, ρ = [some (.ref h), some (g x), v]) ∧ ∀ q ∈ ps.take i, cap ≤ (q.length : Int)) ⟨rfl, ⟨none, rfl⟩, by simp⟩ (fun i ρ S' h => by obtain ⟨rfl, _⟩ := h; exact e) (fun i d ρ S' hd ⟨e1, ⟨v, e2⟩, hf⟩ => ?_) fun ρ S' ⟨e1, ⟨v, e2⟩, hf⟩ => ?_
  · subst e1 e2
    obtain ⟨b, hb, rfl⟩ := get_map hd
    have hjl : i < ps.length := by rw [← l]; exact (List.getElem?_eq_some_iff.mp hb).1
    obtain ⟨p, hp⟩ : ∃ p, ps[i]? = some p := ⟨_, List.getElem?_eq_getElem hjl⟩
    obtain ⟨ab, cb⟩ := w i b p hb hp
    have lp := sm.2 p (List.mem_of_getElem? hp)
    have hl : (p.map g).length = p.length := List.length_map ..
    and_intros
    by_cases hc : (p.length : Int) < cap
    · rw [if_pos (by rw [hl]; simpa using hc)]
      and_intros
      refine r_append cb (by omega) fun S1 l1 c1 k1 => ?_
      and_intros
      have f := pgs_set (p' := p ++ [x]) e a nd no l w hb (by rw [c1, List.map_append]; rfl) k1
      obtain ⟨h1, h2⟩ := hput_at (x := x) hp hc hf
      have hl2 : (p.map g ++ [g x]).length = p.length + 1 := by rw [List.length_append, hl]; rfl
      have qq := q S1 (Stp.of k1 (fun z hz _ => by rw [List.mem_singleton.mp hz]; exact ab)) (mkH ((k1.eq h (cellAt_lt hh) fun z => by rw [List.mem_singleton.mp z, cb] at hh; cases hh).trans hh) (nx_of ah) (Lcl.up lcl_pgs ⟨is, f.1, a, nd, no, by rw [h1]; exact f.2.1, by rw [h1]; exact f.2.2⟩ fun _ _ h => nx_of h))
      rw [h2] at qq
      simpa only [hl2, decide_eq_true_eq] using qq
    · rw [if_neg (by rw [hl]; simpa using hc)]
      and_intros
      refine ⟨rfl, ⟨_, rfl⟩, fun q hq => ?_⟩
      rw [List.take_succ, hp] at hq
      rcases List.mem_append.mp hq with hq | hq
      · exact hf q hq
      · have : q = p := by simpa using hq
        rw [this]
        omega
  · subst e1 e2
    rw [List.length_map, l, List.take_length] at hf
    obtain ⟨h1, h2⟩ := hput_full (x := x) hf
    and_intros
    refine r_new fun S1 m hm c1 k1 => ?_
    have e' : cellAt S1 o = some (.lst (is.map .ref)) := (k1.eq o (cellAt_lt e) (by simp)).trans e
    and_intros
    refine r_append e' (by rw [List.length_map, l]; have := sm.1; omega) fun S2 l2 c2 k2 => ?_
    and_intros
    have pg := pgs_new (p' := [x]) nd no l e w a hm c1 k1 c2 k2
    rw [← h1] at pg
    have qq := q S2 (Stp.then (Stp.fresh k1) (Stp.of k2 fun z hz _ => by rw [List.mem_singleton.mp hz]; exact a)) (mkH ((k2.eq h (Nat.lt_of_lt_of_le (cellAt_lt hh) k1.le) fun z => by rw [List.mem_singleton.mp z, e] at hh; cases hh).trans ((k1.eq h (cellAt_lt hh) (by simp)).trans hh)) (nx_of ah) pg)
    rw [h2] at qq
    exact qq
theorem heap_drop_ru (G : Enc g) (H : HeapAt g cap ps h S A) (sm : PSm 100 ps) (q : ∀ S', Stp A S S' → HeapAt g cap (hdrop x ps) h S' (nx A S) → Q (.int 2) S') : Ru (callN Tb (k + 1) 31 [.ref h, g x] S) Q E := by
  obtain ⟨o, hh, ah, is, e, a, nd, no, l, w⟩ := H
  refine Ru.def (fn := ⟨2, 3, p_Heap_drop⟩) rfl rfl ?_; simp only [List.map_cons, List.map_nil, List.length_cons, List.length_nil, Nat.reduceAdd, Nat.reduceSub, List.replicate_succ, List.replicate_zero, List.cons_append, List.nil_append]
  and_intros
  refine Ru.for (fun i ρ S' => Stp A S S' ∧ cellAt S' h = some (.ins 2 [(2, .int cap), (5, .ref o)]) ∧ (∃ v, ρ = [some (.ref h), some (g x), v]) ∧ cellAt S' o = some (.lst (is.map .ref)) ∧ ∀ (j i' : Nat) (p : List Int), is[j]? = some i' → ps[j]? = some p → cellAt S' i' = some (.lst ((if j < i then dropI x p else p).map g))) ⟨Stp.refl, hh, ⟨none, rfl⟩, e, fun j i p hi hp => by rw [if_neg (by omega)]; exact (w j i p hi hp).2⟩ (fun i ρ S' h => h.2.2.2.1) (fun i d ρ S' hd ⟨st, hh', ⟨v, e2⟩, e', w'⟩ => ?_) fun ρ S' ⟨st, hh', ⟨v, e2⟩, e', w'⟩ => ?_
  · subst e2
    obtain ⟨b, hb, rfl⟩ := get_map hd
    have hjl : i < ps.length := by rw [← l]; exact (List.getElem?_eq_some_iff.mp hb).1
    obtain ⟨p, hp⟩ : ∃ p, ps[i]? = some p := ⟨_, List.getElem?_eq_getElem hjl⟩
    have ab := (w i b p hb hp).1
    have cb := w' i b p hb hp
    rw [if_neg (by omega)] at cb
    have lp := sm.2 p (List.mem_of_getElem? hp)
    obtain ⟨f1, f2⟩ := G.fzs p
    have bo : b ≠ o := fun z => no (by rw [← z]; exact List.mem_of_getElem? hb)
    and_intros
    rw [ru_in (ys := p.map g) (by rw [seqOf_ref, cb]) (fun z h => by cases h)]
    refine ⟨⟨G.fz x, by have := G.dp x; omega, f1, by omega⟩, ?_⟩
    rw [G.any p]
    cases hf : p.findIdx? (· == x) with
    | none =>
      rw [Option.isSome_none]
      and_intros
      refine ⟨st, hh', ⟨_, rfl⟩, e', fun j i' p' hi' hp' => ?_⟩
      by_cases hj : j = i
      · subst hj
        rw [hb] at hi'
        cases hi'
        rw [hp] at hp'
        cases hp'
        rw [if_pos (by omega), cb, show dropI x p = p by unfold dropI; rw [hf]]
      · rw [w' j i' p' hi' hp']
        by_cases h : j < i
        · rw [if_pos h, if_pos (by omega)]
        · rw [if_neg h, if_neg (by omega)]
    | some t =>
      rw [Option.isSome_some]
      and_intros
      refine r_remove cb ((G.find p).trans hf) ⟨f1, G.fz x, by omega, by have := G.dp x; omega, by rw [List.length_map]; omega⟩ fun S1 l1 c1 k1 => ?_
      and_intros
      refine ⟨Stp.then st (Stp.of k1 fun z hz _ => by rw [List.mem_singleton.mp hz]; exact ab), ((k1.eq h (cellAt_lt hh') fun z => by rw [List.mem_singleton.mp z, cb] at hh'; cases hh').trans hh'), ⟨_, rfl⟩, (k1.eq o (cellAt_lt e') fun z => bo (List.mem_singleton.mp z).symm).trans e', fun j i' p' hi' hp' => ?_⟩
      by_cases hj : j = i
      · subst hj
        rw [hb] at hi'
        cases hi'
        rw [hp] at hp'
        cases hp'
        rw [if_pos (by omega), c1, show dropI x p = p.eraseIdx t by unfold dropI; rw [hf], map_eraseIdx]
      · have c0 := w' j i' p' hi' hp'
        rw [(k1.eq i' (cellAt_lt c0) fun z => ?_).trans c0]
        · by_cases h : j < i
          · rw [if_pos h, if_pos (by omega)]
          · rw [if_neg h, if_neg (by omega)]
        · have z := List.mem_singleton.mp z
          subst z
          have h1 := (List.getElem?_eq_some_iff.mp hi')
          have h2 := (List.getElem?_eq_some_iff.mp hb)
          exact hj ((List.getElem_inj nd).mp (h1.2.trans h2.2.symm))
  · subst e2
    and_intros
    refine q S' st (mkH hh' (nx_of ah) ⟨is, e', nx_of a, nd, no, by unfold hdrop; rw [List.length_map]; exact l, fun j i p hi hp => ?_⟩)
    obtain ⟨p0, hp0, rfl⟩ := get_map hp
    refine ⟨nx_of (w j i p0 hi hp0).1, ?_⟩
    have := w' j i p0 hi hp0
    rw [if_pos (by rw [List.length_map]; exact (List.getElem?_eq_some_iff.mp hi).1)] at this
    exact this
end


end
section
/-! ### what holds a store's things: a heap -/
set_option maxHeartbeats 400000
def gT (n : Int) : D := .tup [.tup [], .int n]
theorem encT : Enc gT := ⟨fun i => by simp [gT, D.fz, D.fzs], fun i => by simp [gT, D.dp, D.dps], fun i j => by simp [gT, D.eqv, D.eqvs]⟩
inductive Con where
  | heap (ps : List (List Int))
def Con.kd : Con → Str
  | .heap _ => "heap"
def cput (cap n : Int) (_th : D) : Con → Con
  | .heap ps => .heap (hput cap n ps)
def ctch (cap _n : Int) (_th : D) : Con → Int
  | .heap ps => hpt cap ps
def cdel (n : Int) (_th : D) : Con → Con
  | .heap ps => .heap (hdrop n ps)
def cdtc (_n : Int) (_th : D) : Con → Int
  | .heap _ => 2
def ConAt (cap : Int) (c : Con) (hv dv : D) (S : Sto) (A : Nat → Prop) : Prop := match c with
  | .heap ps => ∃ h, hv = .ref h ∧ dv = .non ∧ HeapAt gT cap ps h S A
def CSm (m : Nat) : Con → Prop
  | .heap ps => PSm m ps
def CKey (key : List Nat) : Con → Prop
  | .heap _ => key = []
theorem lcl_con {cap : Int} {c : Con} {hv dv : D} : Lcl (ConAt cap c hv dv) := by
  intro S S' A A' l w h
  cases c with
  | heap ps =>
    obtain ⟨h0, e1, e2, e3⟩ := h
    exact ⟨h0, e1, e2, lcl_heap S S' A A' l w e3⟩
theorem CSm.put {m : Nat} {cap n : Int} {th : D} {c : Con} (h : CSm m c) : CSm (m + 1) (cput cap n th c) := by
  cases c with
  | heap ps => exact PSm.put h
theorem CSm.del {m : Nat} {n : Int} {th : D} {c : Con} (h : CSm m c) : CSm m (cdel n th c) := by
  cases c with
  | heap ps => exact PSm.drop h


end
section
/-! ### stores -/
set_option maxHeartbeats 400000
structure Sd where
  f : List Col
  key : List Nat
  cap : Int
  kvs : List (L2.Key × D)
  last : Int
  con : Con
structure SdOk (s : Sd) : Prop where
  l6 : s.f.length ≤ 6
  nd : (nm s.f).Nodup
  ks : KOk (kds s.f) s.last s.kvs
  l60 : s.last ≤ 60
  hk : ∀ j ∈ s.key, j < s.f.length
  lk : s.key.length ≤ 6
  sm : CSm s.last.toNat s.con
  ck : CKey s.key s.con
abbrev stFs (s : Sd) (sh d : Nat) (hv dv : D) : List (Nat × D) := [(13, .ref sh), (6, enF s.f), (10, .str s.con.kd), (9, .tup ((keyN s.f s.key).map .str)), (11, .ref d), (12, .int s.last), (7, hv), (8, dv)]
def wo (A : Nat → Prop) (p d : Nat) : Nat → Prop := fun a => A a ∧ a ≠ p ∧ a ≠ d
theorem Stp.mono {A B : Nat → Prop} {S S' : Sto} (st : Stp A S S') (h : ∀ a, A a → B a) : Stp B S S' := ⟨st.le, fun i hi n => st.eq i hi fun z => n (h i z)⟩
def StoreAt (s : Sd) (p : Nat) (S : Sto) (A : Nat → Prop) : Prop := ∃ sh d hv dv, cellAt S p = some (.ins 3 (stFs s sh d hv dv)) ∧ A p ∧ cellAt S d = some (.dct s.kvs) ∧ A d ∧ ConAt s.cap s.con hv dv S (wo A p d)
theorem lcl_store {s : Sd} {p : Nat} : Lcl (StoreAt s p) := by
  rintro S S' A A' l w ⟨sh, d, hv, dv, e1, a1, e2, a2, c⟩
  obtain ⟨q1, r1⟩ := w p (cellAt_lt e1) a1
  obtain ⟨q2, r2⟩ := w d (cellAt_lt e2) a2
  exact ⟨sh, d, hv, dv, q1.trans e1, r1, q2.trans e2, r2, lcl_con S S' _ _ l (fun i hi a => ⟨(w i hi a.1).1, (w i hi a.1).2, a.2⟩) c⟩
abbrev thg (s : Sd) (xs : List D) (n : Int) : D := .tup [.tup (vals xs s.key), .int n]
section
variable {k p : Nat} {s : Sd} {S : Sto} {A : Nat → Prop} {n : Int} {xs : List D} {d : D} {Q : D → Sto → Prop} {E : Exc → Sto → Prop}
theorem thing_of_ru (H : StoreAt s p S A) (ok : SdOk s) (hg : dGet s.kvs (.inl n) = some (.tup xs)) (q : ∀ S', Keep [] S S' → Q (thg s xs n) S') : Ru (callN Tb (k + 2) 35 [.ref p, .int n] S) Q E := by
  obtain ⟨sh, d, hv, dv, hp, ap, hd, ad, c⟩ := H
  obtain ⟨_, e, _, _, hx⟩ := ok.ks.get hg
  cases e
  refine Ru.def (fn := ⟨2, 2, p_Store_thing_of⟩) rfl rfl ?_; simp only [List.map_cons, List.map_nil, List.length_cons, List.length_nil, Nat.reduceAdd, Nat.reduceSub, List.replicate_succ, List.replicate_zero, List.cons_append, List.nil_append]
  and_intros
  refine r_didx hd (κ := .inl n) rfl hg ?_
  and_intros
  refine values_of_ru ok.l6 ok.nd (by rw [hx.len, List.length_map]) ok.hk ok.lk fun S1 k1 => ?_
  and_intros
  exact q S1 k1
theorem row_of_ru (H : StoreAt s p S A) (ok : SdOk s) (hg : dGet s.kvs (.inl n) = some d) (q : Q d S) : Ru (callN Tb (k + 2) 36 [.ref p, .int n] S) Q E := by
  obtain ⟨sh, d', hv, dv, hp, ap, hd, ad, c⟩ := H
  obtain ⟨_, e, h1, h2, hx⟩ := ok.ks.get hg
  refine Ru.def (fn := ⟨2, 3, p_Store_row⟩) rfl rfl ?_; simp only [List.map_cons, List.map_nil, List.length_cons, List.length_nil, Nat.reduceAdd, Nat.reduceSub, List.replicate_succ, List.replicate_zero, List.cons_append, List.nil_append]
  and_intros
  refine Ru.eq wholeI ?_
  rw [decide_eq_true h1, decide_eq_true h2]
  and_intros
  refine r_didx hd (κ := .inl n) rfl hg ?_
  and_intros
  exact q
theorem put_thing_ru (H : StoreAt s p S A) (ok : SdOk s) (hg : dGet s.kvs (.inl n) = some (.tup xs)) (q : ∀ S', Stp A S S' → StoreAt { s with con := cput s.cap n (thg s xs n) s.con } p S' (nx A S) → Q (.int (ctch s.cap n (thg s xs n) s.con)) S') : Ru (callN Tb (k + 13) 33 [.ref p, .int n] S) Q E := by
  obtain ⟨sh, d, hv, dv, hp, ap, hd, ad, c⟩ := id H
  refine Ru.def (fn := ⟨2, 3, p_Store_put_thing⟩) rfl rfl ?_; simp only [List.map_cons, List.map_nil, List.length_cons, List.length_nil, Nat.reduceAdd, Nat.reduceSub, List.replicate_succ, List.replicate_zero, List.cons_append, List.nil_append]
  and_intros
  refine thing_of_ru H ok hg fun S1 k1 => ?_
  have hp1 := (k1.eq p (cellAt_lt hp) (by simp)).trans hp
  have hd1 := (k1.eq d (cellAt_lt hd) (by simp)).trans hd
  have c1 := lcl_con.keep c k1 (by simp)
  -- what is left: the content's deed
  have fin : ∀ (S2 : Sto) (hv' dv' : D) (con' : Con), con'.kd = s.con.kd → hv' = hv → dv' = dv → Stp (wo A p d) S1 S2 → ConAt s.cap con' hv' dv' S2 (nx (wo A p d) S1) → Stp A S S2 ∧ StoreAt { s with con := con' } p S2 (nx A S) := by
    intro S2 hv' dv' con' ek e1 e2 st c2
    subst e1 e2
    refine ⟨Stp.then (Stp.fresh k1) (st.mono fun a h => h.1), sh, d, hv', dv', ?_, nx_of ap, (st.eq d (cellAt_lt hd1) fun z => z.2.2 rfl).trans hd1, nx_of ad, ?_⟩
    · rw [st.eq p (cellAt_lt hp1) fun z => z.2.1 rfl, hp1]
      unfold stFs
      rw [ek]
    · refine lcl_con.up c2 fun i _ h => ?_
      rcases h with ⟨_, h⟩ | h
      · exact ⟨nx_of h.1, h.2⟩
      · have l1 := k1.le
        have l2 := cellAt_lt hp
        have l3 := cellAt_lt hd
        exact ⟨nx_new (by omega), by omega, by omega⟩
  obtain ⟨f, key, cap, kvs, last, con⟩ := s
  have ck := ok.ck
  have sm := ok.sm
  have l60 := ok.l60
  dsimp only at *
  cases con with
  | heap ps =>
    obtain ⟨h, rfl, rfl, hh⟩ := c1
    have ck : key = [] := ck
    subst ck
    obtain ⟨o, eh, ah, pg⟩ := id hh
    and_intros
    refine heap_put_ru encT hh (PSm.mono sm (by omega)) fun S2 st2 h2 => ?_
    and_intros
    obtain ⟨f1, f2⟩ := fin S2 _ _ (.heap (hput cap n ps)) rfl rfl rfl st2 ⟨h, rfl, rfl, h2⟩
    exact q S2 f1 f2
theorem drop_thing_ru (H : StoreAt s p S A) (ok : SdOk s) (hg : dGet s.kvs (.inl n) = some (.tup xs)) (q : ∀ S', Stp A S S' → StoreAt { s with con := cdel n (thg s xs n) s.con } p S' (nx A S) → Q (.int (cdtc n (thg s xs n) s.con)) S') : Ru (callN Tb (k + 13) 34 [.ref p, .int n] S) Q E := by
  obtain ⟨sh, d, hv, dv, hp, ap, hd, ad, c⟩ := id H
  refine Ru.def (fn := ⟨2, 3, p_Store_drop_thing⟩) rfl rfl ?_; simp only [List.map_cons, List.map_nil, List.length_cons, List.length_nil, Nat.reduceAdd, Nat.reduceSub, List.replicate_succ, List.replicate_zero, List.cons_append, List.nil_append]
  and_intros
  refine thing_of_ru H ok hg fun S1 k1 => ?_
  have hp1 := (k1.eq p (cellAt_lt hp) (by simp)).trans hp
  have hd1 := (k1.eq d (cellAt_lt hd) (by simp)).trans hd
  have c1 := lcl_con.keep c k1 (by simp)
  -- what is left: the content's deed
  have fin : ∀ (S2 : Sto) (hv' dv' : D) (con' : Con), con'.kd = s.con.kd → hv' = hv → dv' = dv → Stp (wo A p d) S1 S2 → ConAt s.cap con' hv' dv' S2 (nx (wo A p d) S1) → Stp A S S2 ∧ StoreAt { s with con := con' } p S2 (nx A S) := by
    intro S2 hv' dv' con' ek e1 e2 st c2
    subst e1 e2
    refine ⟨Stp.then (Stp.fresh k1) (st.mono fun a h => h.1), sh, d, hv', dv', ?_, nx_of ap, (st.eq d (cellAt_lt hd1) fun z => z.2.2 rfl).trans hd1, nx_of ad, ?_⟩
    · rw [st.eq p (cellAt_lt hp1) fun z => z.2.1 rfl, hp1]
      unfold stFs
      rw [ek]
    · refine lcl_con.up c2 fun i _ h => ?_
      rcases h with ⟨_, h⟩ | h
      · exact ⟨nx_of h.1, h.2⟩
      · have l1 := k1.le
        have l2 := cellAt_lt hp
        have l3 := cellAt_lt hd
        exact ⟨nx_new (by omega), by omega, by omega⟩
  obtain ⟨f, key, cap, kvs, last, con⟩ := s
  have ck := ok.ck
  have sm := ok.sm
  have l60 := ok.l60
  dsimp only at *
  cases con with
  | heap ps =>
    obtain ⟨h, rfl, rfl, hh⟩ := c1
    have ck : key = [] := ck
    subst ck
    obtain ⟨o, eh, ah, pg⟩ := id hh
    and_intros
    refine heap_drop_ru encT hh (PSm.mono sm (by omega)) fun S2 st2 h2 => ?_
    and_intros
    obtain ⟨f1, f2⟩ := fin S2 _ _ (.heap (hdrop n ps)) rfl rfl rfl st2 ⟨h, rfl, rfl, h2⟩
    exact q S2 f1 f2
theorem put_row_ru (H : StoreAt s p S A) (ok : SdOk s) (hx : Vs (kds s.f) xs) (h60 : s.last < 60) (ok' : SdOk { s with last := s.last + 1, kvs := dPut s.kvs (.inl (s.last + 1)) (.tup xs) })
    (q : ∀ S', Stp A S S' → StoreAt { s with last := s.last + 1, kvs := dPut s.kvs (.inl (s.last + 1)) (.tup xs), con := cput s.cap (s.last + 1) (thg s xs (s.last + 1)) s.con } p S' (nx A S) → Q (.tup [.int (s.last + 1), .int (ctch s.cap (s.last + 1) (thg s xs (s.last + 1)) s.con)]) S') : Ru (callN Tb (k + 14) 38 [.ref p, .tup xs] S) Q E := by
  obtain ⟨sh, d, hv, dv, hp, ap, hd, ad, c⟩ := id H
  have npd : d ≠ p := fun z => by rw [z, hp] at hd; cases hd
  refine Ru.def (fn := ⟨2, 2, p_Store_put_row⟩) rfl rfl ?_; simp only [List.map_cons, List.map_nil, List.length_cons, List.length_nil, Nat.reduceAdd, Nat.reduceSub, List.replicate_succ, List.replicate_zero, List.cons_append, List.nil_append]
  and_intros
  refine r_faugI hp (by exact rfl) (by rw [ev]) (by simp) fun S1 l1 c1 k1 => ?_
  have hd1 := (k1.eq d (cellAt_lt hd) fun z => npd (List.mem_singleton.mp z)).trans hd
  and_intros
  refine r_dput hd1 (κ := .inl (s.last + 1)) rfl (by have := ok.ks.len; omega) fun S2 l2 c2 k2 => ?_
  have hp2 := (k2.eq p (cellAt_lt c1) fun z => npd (List.mem_singleton.mp z).symm).trans c1
  have H2 : StoreAt { s with last := s.last + 1, kvs := dPut s.kvs (.inl (s.last + 1)) (.tup xs) } p S2 A := by
    refine ⟨sh, d, hv, dv, hp2, ap, c2, ad, ?_⟩
    refine lcl_con.keep (lcl_con.keep c k1 fun b hb _ z => z.2.1 (List.mem_singleton.mp hb)) k2 fun b hb _ z => z.2.2 (List.mem_singleton.mp hb)
  and_intros
  refine put_thing_ru H2 ok' (dGet_put ok.ks.nd) fun S3 st3 H3 => ?_
  and_intros
  refine q S3 ?_ (lcl_store.up H3 fun i _ h => ?_)
  · refine Stp.then (Stp.then (Stp.of k1 fun b hb _ => ?_) (Stp.of k2 fun b hb _ => ?_)) st3
    · rw [List.mem_singleton.mp hb]; exact ap
    · rw [List.mem_singleton.mp hb]; exact ad
  · rcases h with ⟨_, h⟩ | h
    · exact nx_of h
    · exact nx_new (by omega)
theorem put_ru (H : StoreAt s p S A) (ok : SdOk s) (hx : Vs (kds s.f) xs) (h60 : s.last < 60) (ok' : SdOk { s with last := s.last + 1, kvs := dPut s.kvs (.inl (s.last + 1)) (.tup xs) })
    (q : ∀ S', Stp A S S' → StoreAt { s with last := s.last + 1, kvs := dPut s.kvs (.inl (s.last + 1)) (.tup xs), con := cput s.cap (s.last + 1) (thg s xs (s.last + 1)) s.con } p S' (nx A S) → Q (.tup [.int (s.last + 1), .int (ctch s.cap (s.last + 1) (thg s xs (s.last + 1)) s.con)]) S') : Ru (callN Tb (k + 15) 37 [.ref p, .tup xs] S) Q E := by
  obtain ⟨sh, d, hv, dv, hp, ap, hd, ad, c⟩ := id H
  refine Ru.def (fn := ⟨2, 2, p_Store_put⟩) rfl rfl ?_; simp only [List.map_cons, List.map_nil, List.length_cons, List.length_nil, Nat.reduceAdd, Nat.reduceSub, List.replicate_succ, List.replicate_zero, List.cons_append, List.nil_append]
  and_intros
  refine isrow_ru hx ok.l6 ?_
  and_intros
  rw [show (s.last == 60) = false by simp; omega]
  and_intros
  refine put_row_ru H ok hx h60 ok' fun S1 st1 H1 => ?_
  and_intros
  exact q S1 st1 H1
theorem sdrop_ru (H : StoreAt s p S A) (ok : SdOk s) (hg : dGet s.kvs (.inl n) = some (.tup xs)) (q : ∀ S', Stp A S S' → StoreAt { s with kvs := dDrop s.kvs (.inl n), con := cdel n (thg s xs n) s.con } p S' (nx A S) → Q (.int (cdtc n (thg s xs n) s.con)) S') : Ru (callN Tb (k + 14) 39 [.ref p, .int n] S) Q E := by
  obtain ⟨sh, d, hv, dv, hp, ap, hd, ad, c⟩ := id H
  refine Ru.def (fn := ⟨2, 3, p_Store_drop⟩) rfl rfl ?_; simp only [List.map_cons, List.map_nil, List.length_cons, List.length_nil, Nat.reduceAdd, Nat.reduceSub, List.replicate_succ, List.replicate_zero, List.cons_append, List.nil_append]
  and_intros
  refine row_of_ru H ok hg ?_
  and_intros
  refine drop_thing_ru H ok hg fun S1 st1 H1 => ?_
  obtain ⟨sh1, d1, hv1, dv1, hp1, ap1, hd1, ad1, c1⟩ := id H1
  have npd : d1 ≠ p := fun z => by rw [z, hp1] at hd1; cases hd1
  and_intros
  refine r_dpop hd1 (κ := .inl n) rfl hg fun S2 l2 c2 k2 => ?_
  have hp2 := (k2.eq p (cellAt_lt hp1) fun z => npd (List.mem_singleton.mp z).symm).trans hp1
  and_intros
  refine q S2 (Stp.trans st1 (Stp.of k2 fun b hb _ => by rw [List.mem_singleton.mp hb]; exact ad1)) ⟨sh1, d1, hv1, dv1, hp2, ap1, c2, ad1, lcl_con.keep c1 k2 fun b hb _ z => z.2.2 (List.mem_singleton.mp hb)⟩
theorem all_rows_ru (H : StoreAt s p S A) (ok : SdOk s) (q : ∀ S' m, m = S.length → cellAt S' m = some (.lst (sortD (prs s.kvs))) → Keep [] S S' → Q (.ref m) S') : Ru (callN Tb (k + 1) 42 [.ref p] S) Q E := by
  obtain ⟨sh, d, hv, dv, hp, ap, hd, ad, c⟩ := id H
  have npd : d ≠ p := fun z => by rw [z, hp] at hd; cases hd
  have pr := ok.ks.prs (by rw [List.length_map]; exact ok.l6)
  have ln := ok.ks.len
  have l60 := ok.l60
  refine Ru.def (fn := ⟨1, 3, p_Store_all_rows⟩) rfl rfl ?_; simp only [List.map_cons, List.map_nil, List.length_cons, List.length_nil, Nat.reduceAdd, Nat.reduceSub, List.replicate_succ, List.replicate_zero, List.cons_append, List.nil_append]
  and_intros
  refine r_lockP (n := d) (kvs := s.kvs) (S' := S) (Ru.is (by and_intros; exact ⟨rfl, rfl⟩)) hd fun S1 l1 c1 k1 => ?_
  have hp1 := (k1.eq p (cellAt_lt hp) fun z => npd (List.mem_singleton.mp z).symm).trans hp
  and_intros
  refine Ru.lcm (fun kv : L2.Key × D => .tup [keyV kv.1, kv.2]) (fun kv => [.tup [keyV kv.1, kv.2]]) c1 (fun kv _ => ?_) ?_
  · and_intros
    exact ⟨rfl, rfl⟩
  · rw [flat_oneB]
    refine ⟨by rw [List.length_map]; exact sz_le (by omega), ?_⟩
    and_intros
    refine ⟨rfl, ?_⟩
    and_intros
    refine r_sortL ⟨pr.1, Nat.le_trans pr.2.1 (by decide), pr.2.2.2⟩ ?_
    refine r_new fun S2 m hm c2 k2 => ?_
    and_intros
    exact q S2 m hm c2 k2
end


end
section
/-! ### heaps: changes, pages, making -/
set_option maxHeartbeats 400000
section
variable {k p j : Nat} {s : Sd} {S : Sto} {A : Nat → Prop} {n : Int} {xs : List D} {d v u : D} {z : Str} {w : Bool} {Q : D → Sto → Prop} {E : Exc → Sto → Prop}
theorem zipN {zs : List Str} {xs : List D} : zipD (zs.map D.str) xs = (zs.zip xs).map fun p => .tup [.str p.1, p.2] := by
  unfold zipD
  rw [List.zip_map_left, List.map_map]
  rfl
theorem strs_fz : ∀ zs : List Str, D.fzs (zs.map .str) = true ∧ D.dps (zs.map .str) = 0
  | [] => ⟨rfl, rfl⟩
  | a :: r => by
    obtain ⟨h1, h2⟩ := strs_fz r
    exact ⟨by rw [List.map_cons, D.fzs, h1]; rfl, by rw [List.map_cons, D.dps, h2]; rfl⟩
theorem str_isIn {zs : List Str} (q : Q (.bl (zs.any fun y => y == z)) S) : Ru (cmpR .isIn (.str z) (.tup (zs.map .str)) S) Q E := by
  rw [ru_in (ys := zs.map .str) rfl (fun _ h => by cases h)]
  obtain ⟨h1, h2⟩ := strs_fz zs
  refine ⟨⟨by simp [D.fz], by simp [D.dp], h1, by omega⟩, ?_⟩
  rw [List.any_map, show ((fun w : D => w.eqv (.str z)) ∘ D.str) = fun y => y == z from funext fun y => by simp [D.eqv]]
  exact q
theorem str_notIn {zs : List Str} (h : zs.any (fun y => y == z) = false) (q : Q (.bl false) S) : Ru (cmpR .isIn (.str z) (.tup (zs.map .str)) S) Q E := str_isIn (by rw [h]; exact q)
/-- a value outside the key -/
theorem change_ru (H : StoreAt s p S A) (ok : SdOk s) (hg : dGet s.kvs (.inl n) = some (.tup xs)) (hz : (nm s.f)[j]? = some z) (hu : xs[j]? = some u) (vu : ValOf w u) (vv : ValOf w v) (hk : (keyN s.f s.key).any (fun y => y == z) = false)
    (q : ∀ S', Stp A S S' → StoreAt { s with kvs := if u.eqv v = true then s.kvs else dPut s.kvs (.inl n) (.tup (xs.set j v)) } p S' (nx A S) → Q (.int (if u.eqv v = true then 0 else 2)) S') : Ru (callN Tb (k + 14) 40 [.ref p, .int n, .str z, v] S) Q E := by
  obtain ⟨sh, d, hv, dv, hp, ap, hd, ad, c⟩ := id H
  have npd : d ≠ p := fun z => by rw [z, hp] at hd; cases hd
  obtain ⟨_, e, h1, h2, hx⟩ := ok.ks.get hg
  cases e
  have lx : xs.length = s.f.length := by rw [hx.len, List.length_map]
  have l6 := ok.l6
  have hj : j < xs.length := (List.getElem?_eq_some_iff.mp hu).1
  refine Ru.def (fn := ⟨4, 9, p_Store_change⟩) rfl rfl ?_; simp only [List.map_cons, List.map_nil, List.length_cons, List.length_nil, Nat.reduceAdd, Nat.reduceSub, List.replicate_succ, List.replicate_zero, List.cons_append, List.nil_append]
  and_intros
  refine row_of_ru H ok hg ?_
  and_intros
  refine value_of_ru ok.l6 ok.nd hz hu ?_
  and_intros
  rw [ru_eq vu.ok.1 vv.ok.1]
  refine ⟨⟨by have := vu.ok.2.1; omega, by have := vv.ok.2.1; omega⟩, ?_⟩
  cases he : u.eqv v with
  | true =>
    rw [he] at q
    and_intros
    exact q S Stp.refl (lcl_store.up H fun i _ h => nx_of h)
  | false =>
    rw [he] at q
    and_intros
    refine names_of_ru ok.l6 ?_
    and_intros
    rw [show seqOf S (.tup ((nm s.f).map .str)) = some ((nm s.f).map .str) from rfl, show seqOf S (.tup xs) = some xs from rfl, ru_zipR, zipN]
    refine ⟨⟨fun _ => by rw [List.length_map, List.length_map, lx], rfl, rfl, .inl rfl⟩, ?_⟩
    refine Ru.lcm (fun p : Str × D => .tup [.str p.1, p.2]) (fun p => [if (p.1 == z) = true then v else p.2]) trivial (fun p _ => ?_) ?_
    · obtain ⟨n, x⟩ := p
      and_intros
      split
      · and_intros
        exact ⟨by simp_all, rfl⟩
      · and_intros
        exact ⟨by simp_all, rfl⟩
    rw [flat_oneB]
    refine ⟨by rw [List.length_map, List.length_zip]; exact sz_le (by omega), ?_⟩
    have ec : ((nm s.f).zip xs).map (fun p => if (p.1 == z) = true then v else p.2) = xs.set j v := chg_set ok.nd hz (by rw [List.length_map, lx])
    rw [ec]
    and_intros
    refine str_notIn hk ?_
    and_intros
    refine r_dput hd (κ := .inl n) rfl (by have := ok.ks.len; have := ok.l60; omega) fun S2 l2 c2 k2 => ?_
    have hp2 := (k2.eq p (cellAt_lt hp) fun z => npd (List.mem_singleton.mp z).symm).trans hp
    and_intros
    refine str_notIn hk ?_
    and_intros
    refine q S2 (Stp.of k2 fun b hb _ => by rw [List.mem_singleton.mp hb]; exact ad) ⟨sh, d, hv, dv, hp2, nx_of ap, c2, nx_of ad, ?_⟩
    exact lcl_con.up (lcl_con.keep c k2 fun b hb _ z => z.2.2 (List.mem_singleton.mp hb)) fun i _ h => ⟨nx_of h.1, h.2⟩
theorem pgs_empty {g : Int → D} {o : Nat} (e : cellAt S o = some (.lst [])) (a : A o) : Pgs g o [] S A := ⟨[], e, a, List.nodup_nil, by simp, rfl, fun j i p hi => by simp at hi⟩
/-- the pages of a heap, told as numbers: new lists -/
theorem pages_ru {ps : List (List Int)} (H : StoreAt s p S A) (hc : s.con = .heap ps) (sm : PSm 100 ps) (q : ∀ S' m, Keep [] S S' → Pgs D.int m ps S' (fun a => S.length ≤ a) → Q (.ref m) S') : Ru (callN Tb (k + 1) 41 [.ref p] S) Q E := by
  obtain ⟨sh, d, hv, dv, hp, ap, hd, ad, c⟩ := id H
  obtain ⟨f, key, cap, kvs, last, con⟩ := s
  dsimp only at *
  subst hc
  obtain ⟨h, rfl, rfl, o, hh, ah, is, e, a, nd, no, l, w⟩ := c
  refine Ru.def (fn := ⟨1, 6, p_Store_pages⟩) rfl rfl ?_; simp only [List.map_cons, List.map_nil, List.length_cons, List.length_nil, Nat.reduceAdd, Nat.reduceSub, List.replicate_succ, List.replicate_zero, List.cons_append, List.nil_append]
  and_intros
  have keep0 : ∀ {S' : Sto} {b : Nat} {cc : Cell}, cellAt S b = some cc → Keep [] S S' → cellAt S' b = some cc := fun hb k => (k.eq _ (cellAt_lt hb) (by simp)).trans hb
  refine Ru.lc (fun i ys S' => ∃ js : List Nat, ys = js.map .ref ∧ js.length = i ∧ Keep [] S S' ∧ js.Nodup ∧ (∀ j ∈ js, S.length ≤ j ∧ j < S'.length) ∧ ∀ (t j' : Nat) (p : List Int), js[t]? = some j' → ps[t]? = some p → cellAt S' j' = some (.lst (p.map D.int)))
    ⟨[], rfl, rfl, Keep.refl, List.nodup_nil, (fun _ h => nomatch h), fun _ _ _ h => by simp at h⟩ (fun i ys S' ⟨js, _, _, k1, _⟩ => keep0 e k1) (fun i x ys S' hx ⟨js, e1, e2, k1, nj, lj, cj⟩ => ?_) fun ys S' ⟨js, e1, e2, k1, nj, lj, cj⟩ => ?_
  · subst e1
    obtain ⟨b, hb, rfl⟩ := get_map hx
    have hjl : i < ps.length := by rw [← l]; exact (List.getElem?_eq_some_iff.mp hb).1
    obtain ⟨pg, hp'⟩ : ∃ pg, ps[i]? = some pg := ⟨_, List.getElem?_eq_getElem hjl⟩
    have cb := keep0 (w i b pg hb hp').2 k1
    have lp := sm.2 pg (List.mem_of_getElem? hp')
    and_intros
    refine Ru.lcm gT (fun x => [D.int x]) cb (fun x _ => ?_) ?_
    · unfold gT
      and_intros
      exact ⟨rfl, rfl⟩
    · rw [flat_oneB]
      refine ⟨by rw [List.length_map]; exact sz_le (by omega), ?_⟩
      refine r_new fun S2 m hm c2 k2 => ?_
      and_intros
      refine ⟨js ++ [m], by rw [List.map_append]; rfl, by rw [List.length_append, e2]; rfl, k1.trans k2, ?_, fun j hj => ?_, fun t j' p ht hp => ?_⟩
      · rw [List.nodup_append]
        refine ⟨nj, by simp, fun x hx y hy => ?_⟩
        rw [List.mem_singleton] at hy
        have := (lj x hx).2
        omega
      · rcases List.mem_append.mp hj with hj | hj
        · exact ⟨(lj j hj).1, Nat.lt_of_lt_of_le (lj j hj).2 k2.le⟩
        · rw [List.mem_singleton.mp hj]
          exact ⟨by have := k1.le; omega, cellAt_lt c2⟩
      · rcases Nat.lt_or_ge t js.length with h | h
        · rw [List.getElem?_append_left h] at ht
          exact (k2.eq j' (lj j' (List.mem_of_getElem? ht)).2 (by simp)).trans (cj t j' p ht hp)
        · rw [List.getElem?_append_right h] at ht
          have h0 : t - js.length = 0 := by
            have := (List.getElem?_eq_some_iff.mp ht).1
            simp at this
            omega
          rw [h0] at ht
          have e3 : m = j' := by simpa using ht
          have e4 : t = i := by omega
          subst e3 e4
          rw [hp'] at hp
          cases hp
          exact c2
  · subst e1
    rw [List.length_map, l] at e2
    refine ⟨by rw [List.length_map]; exact sz_le (by have := sm.1; omega), ?_⟩
    refine r_new fun S2 m hm c2 k2 => ?_
    and_intros
    refine q S2 m (k1.trans k2) ⟨js, c2, by have := k1.le; omega, nj, fun h => by have := (lj m h).2; omega, e2, fun t j' p ht hp => ⟨(lj j' (List.mem_of_getElem? ht)).1, ?_⟩⟩
    exact (k2.eq j' (lj j' (List.mem_of_getElem? ht)).2 (by simp)).trans (cj t j' p ht hp)
end


end
section
/-! ### heaps made -/
set_option maxHeartbeats 400000
section
variable {k n : Nat} {S : Sto} {A : Nat → Prop} {cap : Int} {f : List Col} {Q : D → Sto → Prop} {E : Exc → Sto → Prop}
def ShapeAt (cap : Int) (n : Nat) (S : Sto) : Prop := ∃ fs, cellAt S n = some (.ins 4 fs) ∧ fs.lookup 17 = some (.int cap)
theorem shape_ru (c2 : 2 ≤ cap) (c8 : cap ≤ 8) (hn : cellAt S n = some (.ins 4 [])) (q : ∀ S', Keep [n] S S' → ShapeAt cap n S' → Q .non S') : Ru (callN Tb (k + 2) 43 [.ref n, .int cap, .int 4, .int 3, .int 4, .int 16] S) Q E := by
  refine Ru.def (fn := ⟨6, 11, p_Shape_init⟩) rfl rfl ?_; simp only [List.map_cons, List.map_nil, List.length_cons, List.length_nil, Nat.reduceAdd, Nat.reduceSub, List.replicate_succ, List.replicate_zero, List.cons_append, List.nil_append]
  and_intros
  refine r_ddisp ?_
  and_intros
  refine ⟨⟨rfl, by decide⟩, fun S1 b hb c1 k1 => ?_⟩
  rw [mergeD_nd (by show ([Sum.inr "rows", Sum.inr "entries", Sum.inr "fan", Sum.inr "buckets", Sum.inr "bits"] : List L2.Key).Nodup; decide +kernel)] at c1
  and_intros
  refine r_lockSP (n := b) (S' := S1) (Ru.is (by and_intros; exact ⟨rfl, rfl⟩)) c1 fun S2 l2 c2' k2 => ?_
  and_intros
  refine Ru.for (fun i ρ S' => S' = S2 ∧ ∃ a1 a2 a3 a4, ρ = [some (.ref n), some (.int cap), some (.int 4), some (.int 3), some (.int 4), some (.int 16), some (.ref b), a1, a2, a3, a4]) ⟨rfl, _, _, _, _, rfl⟩ (fun i ρ S' h => by rw [h.1]; exact c2') (fun i d ρ S' hd ⟨e1, a1, a2, a3, a4, e2⟩ => ?_) fun ρ S' ⟨e1, a1, a2, a3, a4, e2⟩ => ?_
  · subst e1 e2
    obtain ⟨z, t, lo, hi, rfl, h1, h2⟩ : ∃ z t lo hi, d = .tup [.str z, .tup [.int t, .int lo, .int hi]] ∧ lo ≤ t ∧ t ≤ hi := by
      have hm := List.mem_of_getElem? hd
      simp only [List.map_cons, List.map_nil, List.zip_cons_cons, List.zip_nil_right, List.mem_cons, List.not_mem_nil, or_false] at hm
      rcases hm with rfl | rfl | rfl | rfl | rfl
      · exact ⟨_, _, _, _, rfl, by omega, by omega⟩
      all_goals exact ⟨_, _, _, _, rfl, by decide, by decide⟩
    and_intros
    refine Ru.eq wholeI ?_
    rw [decide_eq_true h1, decide_eq_true h2]
    and_intros
    exact ⟨rfl, _, _, _, _, rfl⟩
  · subst e1 e2
    refine ⟨rfl, _, rfl, ?_⟩
    have hn1 := (k1.eq n (cellAt_lt hn) (by simp)).trans hn
    and_intros
    refine r_put hn1 (by simp) (by simp) fun S3 l3 c3 k3 => ?_
    and_intros
    refine r_put c3 (by simp) (by simp [putFd]) fun S4 l4 c4 k4 => ?_
    and_intros
    refine r_put c4 (by simp) (by simp [putFd]) fun S5 l5 c5 k5 => ?_
    and_intros
    refine r_put c5 (by simp) (by simp [putFd]) fun S6 l6 c6 k6 => ?_
    and_intros
    refine r_put c6 (by simp) (by simp [putFd]) fun S7 l7 c7 k7 => ?_
    and_intros
    exact q S7 ((k1.mono (by simp)).trans (k3.trans (k4.trans (k5.trans (k6.trans k7))))) ⟨_, c7, rfl⟩
theorem kind3_ru {z : Str} (hz : ((["heap", "sorted", "hashed"] : List Str).any fun y => y == z) = true) (q : Q (.bl true) S) : Ru (callN Tb (k + 1) 2 [.str z, .tup [.str "heap", .str "sorted", .str "hashed"]] S) Q E := by
  refine Ru.def (fn := ⟨2, 2, p_is_one_of⟩) rfl rfl ?_; simp only [List.map_cons, List.map_nil, List.length_cons, List.length_nil, Nat.reduceAdd, Nat.reduceSub, List.replicate_succ, List.replicate_zero, List.cons_append, List.nil_append]
  and_intros
  refine str_isIn (zs := ["heap", "sorted", "hashed"]) ?_
  rw [hz]
  and_intros
  exact q
theorem look_ru (hf : Nms f) (l1 : 1 ≤ f.length) (l6 : f.length ≤ 6) (q : Q .non S) : Ru (callN Tb (k + 4) 28 [enF f, .str "heap", .tup []] S) Q E := by
  have fo := hf.ok l1 l6
  have ff : (enF f).fz = true ∧ (enF f).dp ≤ 60 := by
    have h1 : ∀ d ∈ f.map enCol, d.fz = true ∧ d.dp ≤ 1 := fun d hd => by
      obtain ⟨c, _, rfl⟩ := List.mem_map.mp hd
      exact ⟨by simp [enCol, D.fz, D.fzs], by simp [enCol, D.dp, D.dps]⟩
    have h2 : D.fzs (f.map enCol) = true := fzs_of fun d hd => (h1 d hd).1
    have h3 : D.dps (f.map enCol) ≤ 1 := dps_of fun d hd => (h1 d hd).2
    exact ⟨by rw [D.fz]; exact h2, by rw [D.dp]; omega⟩
  refine Ru.def (fn := ⟨3, 3, p_look_store⟩) rfl rfl ?_; simp only [List.map_cons, List.map_nil, List.length_cons, List.length_nil, Nat.reduceAdd, Nat.reduceSub, List.replicate_succ, List.replicate_zero, List.cons_append, List.nil_append]
  and_intros
  refine form_ru ff.1 ff.2 ?_
  rw [fo]
  and_intros
  refine kind3_ru (z := "heap") (by decide +kernel) ?_
  and_intros
  refine Ru.eq (a := D.bl false) (S := S) (by simp [cmpR, eqD, ck, unbox, D.fz, D.fzs, D.dp, D.dps, D.eqv, D.eqvs]) ?_
  and_intros
  exact q
/-- a heap of pages, without rows -/
theorem store_init_ru {p n : Nat} (hf : Nms f) (l1 : 1 ≤ f.length) (l6 : f.length ≤ 6) (hp : cellAt S p = some (.ins 3 [])) (hs : ShapeAt cap n S) (q : ∀ S', Keep [p] S S' → (∀ A : Nat → Prop, A p → (∀ i, S.length ≤ i → A i) → StoreAt ⟨f, [], cap, [], 0, .heap []⟩ p S' A) → Q .non S') : Ru (callN Tb (k + 5) 32 [.ref p, .ref n, enF f, .str "heap", .tup []] S) Q E := by
  obtain ⟨fs, hn, hr⟩ := hs
  have npn : n ≠ p := fun z => by rw [z, hp] at hn; cases hn
  refine Ru.def (fn := ⟨5, 5, p_Store_init⟩) rfl rfl ?_; simp only [List.map_cons, List.map_nil, List.length_cons, List.length_nil, Nat.reduceAdd, Nat.reduceSub, List.replicate_succ, List.replicate_zero, List.cons_append, List.nil_append]
  and_intros
  refine look_ru hf l1 l6 ?_
  and_intros
  refine r_put hp (by simp) (by simp) fun S1 l1 c1 k1 => ?_
  and_intros
  refine r_put c1 (by simp) (by simp [putFd]) fun S2 l2 c2 k2 => ?_
  and_intros
  refine r_put c2 (by simp) (by simp [putFd]) fun S3 l3 c3 k3 => ?_
  and_intros
  refine r_put c3 (by simp) (by simp [putFd]) fun S4 l4 c4 k4 => ?_
  have kk4 := k1.trans (k2.trans (k3.trans k4))
  and_intros
  have cd : cellAt (S4 ++ [some (.dct [])]) S4.length = some (.dct []) := cell_push
  have kd : Keep [p] S4 (S4 ++ [some (.dct [])]) := Keep.push
  have c5 : cellAt (S4 ++ [some (.dct [])]) p = _ := (cell_pushN (by rw [c4]; rfl)).trans c4
  generalize hd : S4.length = d at cd ⊢
  generalize S4 ++ [some (.dct [])] = S5 at cd kd c5 ⊢
  have npd : d ≠ p := fun z => by rw [z, c5] at cd; cases cd
  refine r_put c5 (by simp) (by simp [putFd]) fun S6 l6' c6 k6 => ?_
  and_intros
  refine r_put c6 (by simp) (by simp [putFd]) fun S7 l7 c7 k7 => ?_
  have kk7 := kk4.trans (kd.trans (k6.trans k7))
  have hn7 := (kk7.eq n (cellAt_lt hn) (by simpa using npn)).trans hn
  and_intros
  refine r_at hn7 hr ?_
  and_intros
  refine r_make fun S8 h hh c8 k8 => ?_
  and_intros
  refine heap_init_ru (g := gT) c8 fun S9 k9 w9 => ?_
  and_intros
  refine ⟨rfl, ?_⟩
  have lp := cellAt_lt c7
  have lh := cellAt_lt c8
  have ld : d < S7.length := by
    have := cellAt_lt cd
    omega
  have nph : p ≠ h := by omega
  have kk9 : Keep [p] S7 S9 := Keep.fresh ((k8.mono (by simp)).trans (k9.mono (bs := [h]) (cs := [h, p]) (by simp))) fun b hb => by
    rcases List.mem_cons.mp hb with rfl | hb
    · exact .inr (by omega)
    · exact .inl hb
  have c9 := (k9.eq p (by omega) fun z => nph (List.mem_singleton.mp z)).trans ((k8.eq p lp (by simp)).trans c7)
  and_intros
  refine r_put c9 (by simp) (by simp [putFd]) fun S10 l10 c10 k10 => ?_
  and_intros
  refine r_put c10 (by simp) (by simp [putFd]) fun S11 l11 c11 k11 => ?_
  and_intros
  have kkA : Keep [p] S S11 := kk7.trans (kk9.trans (k10.trans k11))
  refine q S11 kkA fun A ap af => ?_
  have lS4 : S.length ≤ S4.length := kk4.le
  have lS7 : S.length ≤ S7.length := kk7.le
  have cd9 : cellAt S9 d = some (.dct []) := by
    have e6 := (k6.eq d (cellAt_lt cd) fun z => npd (List.mem_singleton.mp z)).trans cd
    have e7 := (k7.eq d (cellAt_lt e6) fun z => npd (List.mem_singleton.mp z)).trans e6
    have e8 := (k8.eq d ld (by simp)).trans e7
    exact (k9.eq d (cellAt_lt e8) fun z => by have := List.mem_singleton.mp z; omega).trans e8
  have cd11 : cellAt S11 d = some (.dct []) := by
    have e10 := (k10.eq d (cellAt_lt cd9) fun z => npd (List.mem_singleton.mp z)).trans cd9
    exact (k11.eq d (cellAt_lt e10) fun z => npd (List.mem_singleton.mp z)).trans e10
  refine ⟨n, d, .ref h, .non, c11, ap, cd11, af d (by omega), h, rfl, rfl, ?_⟩
  have hw := w9 (fun a => S7.length ≤ a) (by omega) (fun i hi => Nat.le_trans k8.le hi)
  have hw2 := lcl_heap.keep (lcl_heap.keep hw k10 fun b hb _ z => by have := List.mem_singleton.mp hb; omega) k11 fun b hb _ z => by have := List.mem_singleton.mp hb; omega
  exact lcl_heap.up hw2 fun i _ h => ⟨af i (by omega), by omega, by omega⟩
end


end
section
/-! ### a store told as the law holds it -/
set_option maxHeartbeats 400000
theorem keyD_V (κ : L2.Key) : keyD (keyV κ) = some κ := by cases κ <;> rfl
section
variable {k p hd o : Nat} {s : Sd} {S : Sto} {A B : Nat → Prop} {ps : List (List Int)} {Q : D → Sto → Prop} {E : Exc → Sto → Prop}
abbrev shD (ps : List (List Int)) : D := .lst (ps.map fun p => .lst (p.map D.int))
theorem shD_ok (sm : PSm 100 ps) : (shD ps).fz = true ∧ (shD ps).dp ≤ 2 ∧ (shD ps).wd 1000 = true := by
  have e : ∀ d ∈ ps.map (fun p => D.lst (p.map D.int)), d.fz = true ∧ d.dp ≤ 1 ∧ d.wd 1000 = true := fun d hd => by
    obtain ⟨p, hp, rfl⟩ := List.mem_map.mp hd
    have l := sm.2 p hp
    have i1 : ∀ x ∈ p.map D.int, x.fz = true ∧ x.dp ≤ 0 ∧ x.wd 1000 = true := fun x hx => by
      obtain ⟨i, _, rfl⟩ := List.mem_map.mp hx
      exact ⟨by simp [D.fz], by simp [D.dp], by simp [D.wd]⟩
    refine ⟨by rw [D.fz]; exact fzs_of fun x hx => (i1 x hx).1, by rw [D.dp]; exact Nat.succ_le_succ (dps_of fun x hx => (i1 x hx).2.1), ?_⟩
    rw [D.wd, wds_of fun x hx => (i1 x hx).2.2, List.length_map]
    simp
    omega
  refine ⟨by rw [D.fz]; exact fzs_of fun x hx => (e x hx).1, by rw [D.dp]; exact Nat.succ_le_succ (dps_of fun x hx => (e x hx).2.1), ?_⟩
  have := sm.1
  rw [D.wd, wds_of fun x hx => (e x hx).2.2, List.length_map]
  simp
  omega
theorem pgs_is (H : Pgs D.int o ps S A) : Is S (.ref o) (shD ps) := by
  obtain ⟨is, e, a, nd, no, l, w⟩ := H
  refine Is.ref e (by rw [List.length_map, List.length_map, l]) fun i x d hx hd => ?_
  obtain ⟨b, hb, rfl⟩ := get_map hx
  obtain ⟨p, hp, rfl⟩ := get_map hd
  have fz : (D.lst (p.map D.int)).fz = true := by
    rw [D.fz]
    exact (encI.fzs p).1
  refine ⟨?_, fz⟩
  show (match cellAt S b with | some (.lst xs) => D.lst (xs.map (deep 6 S)) | _ => .ref b) = _
  rw [(w i b p hb hp).2]
  dsimp only
  congr 1
  rw [List.map_map]
  apply List.map_congr_left
  intro j _
  exact deep_fz 6 (by simp [D.fz])
theorem same_ru (H : StoreAt s p S A) (ok : SdOk s) (hc : s.con = .heap ps) (hh : cellAt S hd = some (.dct s.kvs)) (nA : ¬ A hd) (hP : Pgs D.int o ps S B) (sm : PSm 100 ps) (q : ∀ S', Keep [] S S' → Q (.bl true) S') : Ru (callN Tb (k + 6) 53 [.ref p, .ref hd, .ref o] S) Q E := by
  have pr := ok.ks.prs (by rw [List.length_map]; exact ok.l6)
  have ln := ok.ks.len
  have l60 := ok.l60
  have perm : (sortD (prs s.kvs)).Perm (prs s.kvs) := List.mergeSort_perm _ _
  have due_ok : (D.lst (sortD (prs s.kvs))).fz = true ∧ (D.lst (sortD (prs s.kvs))).dp ≤ 3 ∧ (D.lst (sortD (prs s.kvs))).wd 1000 = true := by
    have m1 : ∀ d ∈ sortD (prs s.kvs), d.fz = true ∧ d.dp ≤ 2 ∧ d.wd 1000 = true := fun d hd => by
      have hm := perm.mem_iff.mp hd
      exact ⟨fzs_get pr.1 d hm, Nat.le_trans (dps_get hm) pr.2.1, wds_get pr.2.2.1 d hm⟩
    refine ⟨by rw [D.fz]; exact fzs_of fun x hx => (m1 x hx).1, by rw [D.dp]; exact Nat.succ_le_succ (dps_of fun x hx => (m1 x hx).2.1), ?_⟩
    rw [D.wd, wds_of fun x hx => (m1 x hx).2.2, perm.length_eq, List.length_map]
    simp
    omega
  have shk := shD_ok sm
  refine Ru.def (fn := ⟨3, 9, p_l_same⟩) rfl rfl ?_; simp only [List.map_cons, List.map_nil, List.length_cons, List.length_nil, Nat.reduceAdd, Nat.reduceSub, List.replicate_succ, List.replicate_zero, List.cons_append, List.nil_append]
  and_intros
  refine r_lockP (n := hd) (kvs := s.kvs) (S' := S) (Ru.is (by and_intros; exact ⟨rfl, rfl⟩)) hh fun S1 l1 c1 k1 => ?_
  and_intros
  refine Ru.lcm (fun kv : L2.Key × D => keyV kv.1) (fun kv => [.tup [keyV kv.1, kv.2]]) c1 (fun kv hkv => ?_) ?_
  · and_intros
    refine r_didxL c1 (keyD_V _) (dGet_of ok.ks.nd hkv) ?_
    and_intros
    exact ⟨rfl, rfl⟩
  rw [flat_oneB]
  refine ⟨by rw [List.length_map]; exact sz_le (by omega), ?_⟩
  and_intros
  refine ⟨rfl, ?_⟩
  and_intros
  refine r_sortL ⟨pr.1, Nat.le_trans pr.2.1 (by decide), pr.2.2.2⟩ ?_
  and_intros
  generalize hdue : D.lst (sortD (prs s.kvs)) = due at due_ok
  refine Ru.for (fun i ρ S' => Keep [] S S' ∧ ∃ a1 a2 a3 a4 a5, ρ = [some (.ref p), some (.ref hd), some (.ref o), some due, a1, a2, a3, a4, a5]) ⟨Keep.refl, _, _, _, _, _, rfl⟩ (fun _ _ _ _ => trivial) (fun i x ρ S2 hx ⟨k2, a1, a2, a3, a4, a5, e2⟩ => ?_) fun ρ S2 ⟨k2, a1, a2, a3, a4, a5, e2⟩ => ?_
  · subst e2
    have H2 := lcl_store.keep H k2 (by simp)
    have P2 := lcl_pgs.keep hP k2 (by simp)
    have hh2 := (k2.eq hd (cellAt_lt hh) (by simp)).trans hh
    obtain ⟨_, _, _, _, hp2, _⟩ := id H2
    and_intros
    refine all_rows_ru H2 ok fun S3 m1 hm1 c3 k3 => ?_
    have H3 := lcl_store.keep H2 k3 (by simp)
    have P3 := lcl_pgs.keep P2 k3 (by simp)
    obtain ⟨_, _, _, _, hp3, _⟩ := id H3
    and_intros
    refine pages_ru H3 hc sm fun S4 m2 k4 P4 => ?_
    have H4 := lcl_store.keep H3 k4 (by simp)
    have P4' := lcl_pgs.keep P3 k4 (by simp)
    have c4 := (k4.eq m1 (cellAt_lt c3) (by simp)).trans c3
    have hh4 := (k4.eq hd (by have := k3.le; have := cellAt_lt hh2; omega) (by simp)).trans ((k3.eq hd (cellAt_lt hh2) (by simp)).trans hh2)
    and_intros
    have i1 : Is S4 (.ref m1) due := by
      rw [← hdue]
      refine Is.ref c4 rfl fun i x d hx hd => ?_
      rw [hx] at hd
      cases hd
      have hf := fzs_get (xs := sortD (prs s.kvs)) (by rw [← hdue, D.fz] at due_ok; exact due_ok.1) x (List.mem_of_getElem? hx)
      exact ⟨deep_fz 7 hf, hf⟩
    refine Ru.eq (like_ok2 4 i1 (Is.of due_ok.1) (by omega) (by omega) due_ok.2.2) ?_
    and_intros
    refine Ru.eq (like_ok2 4 (pgs_is P4) (pgs_is P4') (by have := shk.2.1; omega) (by omega) shk.2.2) ?_
    and_intros
    refine r_lockP (n := hd) (kvs := s.kvs) (S' := S4) (Ru.is (by and_intros; exact ⟨rfl, rfl⟩)) hh4 fun S5 l5 c5 k5 => ?_
    have H5 := lcl_store.keep H4 k5 fun b hb _ z => nA (by rw [← List.mem_singleton.mp hb]; exact z)
    obtain ⟨_, _, _, _, hp5, _⟩ := id H5
    and_intros
    refine Ru.lcm (fun kv : L2.Key × D => keyV kv.1) (fun kv => [.bl true]) c5 (fun kv hkv => ?_) ?_
    · obtain ⟨n, xs, rfl, _, _, hxs⟩ := ok.ks.it kv hkv
      have hg := dGet_of ok.ks.nd hkv
      have fx := hxs.fz
      have lx := hxs.len
      rw [List.length_map] at lx
      and_intros
      refine row_of_ru H5 ok hg ?_
      and_intros
      refine r_didxL c5 (keyD_V _) hg ?_
      and_intros
      refine Ru.eq (like_ok2 4 (Is.of (d := .tup xs) (by rw [D.fz]; exact fx.1)) (Is.of (d := .tup xs) (by rw [D.fz]; exact fx.1)) (by rw [D.dp]; omega) (by omega) (by rw [D.wd, fx.2.2]; have := ok.l6; simp; omega)) ?_
      and_intros
      exact ⟨rfl, rfl⟩
    rw [flat_oneB]
    refine ⟨by rw [List.length_map]; exact sz_le (by omega), ?_⟩
    and_intros
    refine ⟨rfl, ?_⟩
    and_intros
    rw [if_neg (by simp)]
    and_intros
    obtain ⟨js, ej, _, ndj, noj, lj, wj⟩ := id P4
    have hjs : ∀ j ∈ js, S3.length ≤ j ∧ ∃ xs, cellAt S4 j = some (.lst xs) ∧ xs.length ≤ 100 := fun j hj => by
      obtain ⟨t, ht⟩ := List.mem_iff_getElem?.mp hj
      have htl : t < ps.length := by rw [← lj]; exact (List.getElem?_eq_some_iff.mp ht).1
      obtain ⟨a1, a2⟩ := wj t j _ ht (List.getElem?_eq_getElem htl)
      exact ⟨a1, _, a2, by rw [List.length_map]; exact sm.2 _ (List.getElem_mem htl)⟩
    have lm1 := cellAt_lt c3
    have lm2 : S3.length ≤ m2 := by assumption
    refine r_append c4 (by rw [perm.length_eq, List.length_map]; omega) fun S6 l6 c6 k6 => ?_
    have ej6 := (k6.eq m2 (cellAt_lt ej) fun z => by have := List.mem_singleton.mp z; omega).trans ej
    and_intros
    refine Ru.for (fun i ρ S' => Keep js S6 S' ∧ (∀ j ∈ js, ∃ xs, cellAt S' j = some (.lst xs) ∧ xs.length ≤ 100 + i) ∧ ∃ a7, ρ = [some (.ref p), some (.ref hd), some (.ref o), some due, some x, some (.ref m1), some (.ref m2), a7, a5])
      ⟨Keep.refl, fun j hj => ?_, _, rfl⟩ (fun i ρ S' h => (h.1.eq m2 (cellAt_lt ej6) noj).trans ej6) (fun i x' ρ S7 hx' ⟨k7, w7, a7, e7⟩ => ?_) fun ρ S7 ⟨k7, w7, a7, e7⟩ => ?_
    · obtain ⟨h1, xs, h2, h3⟩ := hjs j hj
      exact ⟨xs, (k6.eq j (cellAt_lt h2) fun z => by have := List.mem_singleton.mp z; omega).trans h2, by omega⟩
    · subst e7
      obtain ⟨j, hj, rfl⟩ := get_map hx'
      have hjm := List.mem_of_getElem? hj
      obtain ⟨xs, cx, lx⟩ := w7 j hjm
      have hi := (List.getElem?_eq_some_iff.mp hj).1
      have := sm.1
      and_intros
      refine r_append cx (by omega) fun S8 l8 c8 k8 => ?_
      and_intros
      refine ⟨k7.trans (k8.mono fun b hb => by rw [List.mem_singleton.mp hb]; exact hjm), fun j' hj' => ?_, _, rfl⟩
      by_cases e : j' = j
      · subst e
        exact ⟨_, c8, by rw [List.length_append]; simp; omega⟩
      · obtain ⟨ys, cy, ly⟩ := w7 j' hj'
        exact ⟨ys, (k8.eq j' (cellAt_lt cy) fun z => e (List.mem_singleton.mp z)).trans cy, by omega⟩
    · subst e7
      have ej7 := (k7.eq m2 (cellAt_lt ej6) noj).trans ej6
      and_intros
      refine r_append ej7 (by rw [List.length_map, lj]; have := sm.1; omega) fun S8 l8 c8 k8 => ?_
      and_intros
      refine ⟨?_, _, _, _, _, _, rfl⟩
      have kk : Keep (m1 :: m2 :: js) S S8 := ((k2.trans (k3.trans k4)).mono (by simp)).trans ((k6.mono (by simp)).trans ((k7.mono (by simp +contextual)).trans (k8.mono (by simp))))
      refine Keep.fresh kk fun b hb => .inr ?_
      have z2 := k2.le
      have z3 := k3.le
      rcases List.mem_cons.mp hb with rfl | hb
      · omega
      · rcases List.mem_cons.mp hb with rfl | hb
        · omega
        · have := (hjs b hb).1
          omega
  · subst e2
    and_intros
    exact q S2 k2
end


end
section
/-! ### an edit drawn -/
set_option maxHeartbeats 400000
theorem idx_lD {xs : List D} {i : Int} {x : D} {S : Sto} (h0 : 0 ≤ i) (h : xs[i.toNat]? = some x) : idxR (.lst xs) (.int i) S = .ok x S := by
  show (match atD xs i with | some d => R.ok d S | none => .err) = _
  unfold atD
  rw [if_pos h0, h]
theorem idx_tD {xs : List D} {i : Int} {x : D} {S : Sto} (h0 : 0 ≤ i) (h : xs[i.toNat]? = some x) : idxR (.tup xs) (.int i) S = .ok x S := by
  show (match atD xs i with | some d => R.ok d S | none => .err) = _
  unfold atD
  rw [if_pos h0, h]
section
variable {k b hd : Nat} {S : Sto} {last : Int} {kvs : List (L2.Key × D)} {f : List Col} {Q : D → Sto → Prop} {E : Exc → Sto → Prop}
theorem edit_ru (hb : BagAt S b) (hh : cellAt S hd = some (.dct kvs)) (ok : KOk (kds f) last kvs) (l60 : last ≤ 60) (l1 : 1 ≤ f.length) (l6 : f.length ≤ 6)
    (q1 : ∀ xs S', Vs (kds f) xs → last < 60 → Keep [b] S S' → BagAt S' b → Q (.tup [.str "put", .tup xs]) S')
    (q2 : ∀ S', Keep [b] S S' → BagAt S' b → Q (.tup [.str "none"]) S')
    (q3 : ∀ n xs S', dGet kvs (.inl n) = some (.tup xs) → Keep [b] S S' → BagAt S' b → Q (.tup [.str "drop", .int n]) S')
    (q4 : ∀ n xs (j : Nat) z w v S', dGet kvs (.inl n) = some (.tup xs) → f[j]? = some (z, w) → ValOf w v → Keep [b] S S' → BagAt S' b → Q (.tup [.str "change", .int n, .str z, v]) S') : Ru (callN Tb (k + 5) 54 [.ref b, enF f, .ref hd, .int last] S) Q E := by
  obtain ⟨ns, hk, ln, hns⟩ := ok.ints
  have len := ok.len
  have perm : (srtI ns).Perm ns := List.mergeSort_perm _ _
  refine Ru.def (fn := ⟨4, 9, p_l_edit⟩) rfl rfl ?_; simp only [List.map_cons, List.map_nil, List.length_cons, List.length_nil, Nat.reduceAdd, Nat.reduceSub, List.replicate_succ, List.replicate_zero, List.cons_append, List.nil_append]
  and_intros
  refine r_dsortI hh hk (by omega) ?_
  and_intros
  refine take_ru hb (by omega) (by omega) fun t S1 t0 t8 k1 b1 => ?_
  have fzn : (D.lst ((srtI ns).map .int)).fz = true := by rw [D.fz]; exact (encI.fzs _).1
  have dpn : (D.lst ((srtI ns).map .int)).dp ≤ 64 := by rw [D.dp]; have := (encI.fzs (srtI ns)).2; omega
  have eqn : ∀ {S : Sto} {Q : D → Sto → Prop} {E : Exc → Sto → Prop}, Q (.bl (srtI ns).isEmpty) S → Ru (cmpR .eq (.lst ((srtI ns).map .int)) (.lst []) S) Q E := fun {S Q E} q => by
    rw [ru_eq fzn nil_ok.1]
    refine ⟨⟨dpn, nil_ok.2⟩, ?_⟩
    rw [eqv_nil, List.isEmpty_map]
    exact q
  subst_eqs
  rw [ru_sIte]
  refine Ru.eq (a := .bl ((decide (t < 4) || (srtI ns).isEmpty) && decide (last < 60))) (S := S1) (Ru.is ?_) ?_
  · and_intros
    by_cases h4 : t < 4
    · rw [if_pos (by simpa using h4)]
      and_intros
      by_cases h6 : last < 60
      all_goals simp [h4, h6, ru_ok, tru_b, ru_con]
      all_goals and_intros
      all_goals exact ⟨by simp [h6], rfl⟩
    · rw [if_neg (by simpa using h4)]
      and_intros
      refine eqn ?_
      and_intros
      cases hE : (srtI ns).isEmpty with
      | true =>
        rw [if_pos rfl]
        and_intros
        exact ⟨by simp, rfl⟩
      | false =>
        rw [if_neg Bool.false_ne_true]
        exact ⟨by simp [h4], rfl⟩
  cases hC : ((decide (t < 4) || (srtI ns).isEmpty) && decide (last < 60)) with
  | true =>
    have h60 : last < 60 := by
      rw [Bool.and_eq_true, decide_eq_true_eq] at hC
      exact hC.2
    and_intros
    refine row_ru b1 l6 fun xs S2 hx k2 b2 => ?_
    and_intros
    exact q1 xs S2 hx h60 (k1.trans k2) b2
  | false =>
    subst_eqs
    rw [ru_sIte]
    and_intros
    refine eqn ?_
    and_intros
    cases hE : (srtI ns).isEmpty with
    | true =>
      and_intros
      exact q2 S1 k1 b1
    | false =>
      and_intros
      have hl : 0 < (srtI ns).length := by
        cases hs : srtI ns with
        | nil => rw [hs] at hE; cases hE
        | cons _ _ => simp
      have hl2 : (srtI ns).length < 64 := by rw [perm.length_eq]; omega
      refine take_ru b1 (by rw [List.length_map]; omega) (by rw [List.length_map]; omega) fun i S2 i0 i1 k2 b2 => ?_
      rw [List.length_map] at i1
      have hil : i.toNat < (srtI ns).length := by omega
      refine Ru.eq (idx_lD (x := .int (srtI ns)[i.toNat]) i0 (by rw [List.getElem?_map, List.getElem?_eq_getElem hil]; rfl)) ?_
      obtain ⟨xs, hg⟩ := hns _ (perm.mem_iff.mp (List.getElem_mem hil))
      generalize (srtI ns)[i.toNat] = n at hg
      subst_eqs
      rw [ru_sIte]
      and_intros
      cases ht : (t == (4 : Int)) with
      | true =>
        and_intros
        exact q3 n xs S2 hg (k1.trans k2) b2
      | false =>
        and_intros
        refine take_ru b2 (by rw [List.length_map]; omega) (by rw [List.length_map]; omega) fun j S3 j0 j1 k3 b3 => ?_
        rw [List.length_map] at j1
        have hjl : j.toNat < f.length := by omega
        obtain ⟨z, w, hf⟩ : ∃ z w, f[j.toNat]? = some (z, w) := ⟨_, _, List.getElem?_eq_getElem hjl⟩
        refine Ru.eq (idx_tD (x := enCol (z, w)) j0 (by rw [List.getElem?_map, hf]; rfl)) ?_
        and_intros
        refine value_ru b3 fun v S4 hv k4 b4 => ?_
        and_intros
        exact q4 n xs j.toNat z w v S4 hg hf hv (k1.trans (k2.trans (k3.trans k4))) b4
end


end
section
/-! ### the law's turn -/
set_option maxHeartbeats 400000
theorem CSm.mono {m n : Nat} {c : Con} (h : CSm m c) (l : m ≤ n) : CSm n c := by
  cases c with
  | heap ps => exact PSm.mono h l
theorem CKey.put {key : List Nat} {c : Con} {cap n : Int} {th : D} (h : CKey key c) : CKey key (cput cap n th c) := by
  cases c with
  | heap ps => exact h
theorem CKey.del {key : List Nat} {c : Con} {n : Int} {th : D} (h : CKey key c) : CKey key (cdel n th c) := by
  cases c with
  | heap ps => exact h
section
variable {s : Sd} {xs : List D} {n : Int} {th d : D}
theorem SdOk.put0 (ok : SdOk s) (hx : Vs (kds s.f) xs) (h60 : s.last < 60) : SdOk { s with last := s.last + 1, kvs := dPut s.kvs (.inl (s.last + 1)) (.tup xs) } :=
  ⟨ok.l6, ok.nd, ok.ks.put hx, by show s.last + 1 ≤ 60; omega, ok.hk, ok.lk, ok.sm.mono (by show s.last.toNat ≤ (s.last + 1).toNat; omega), ok.ck⟩
theorem SdOk.put1 (ok : SdOk s) (hx : Vs (kds s.f) xs) (h60 : s.last < 60) : SdOk { s with last := s.last + 1, kvs := dPut s.kvs (.inl (s.last + 1)) (.tup xs), con := cput s.cap n th s.con } :=
  ⟨ok.l6, ok.nd, ok.ks.put hx, by show s.last + 1 ≤ 60; omega, ok.hk, ok.lk, (CSm.put (cap := s.cap) (n := n) (th := th) ok.sm).mono (by show s.last.toNat + 1 ≤ (s.last + 1).toNat; have := ok.ks.len; omega), CKey.put (cap := s.cap) (n := n) (th := th) ok.ck⟩
theorem SdOk.drop (ok : SdOk s) : SdOk { s with kvs := dDrop s.kvs (.inl n), con := cdel n th s.con } := ⟨ok.l6, ok.nd, ok.ks.drop, ok.l60, ok.hk, ok.lk, CSm.del (n := n) (th := th) ok.sm, CKey.del (n := n) (th := th) ok.ck⟩
theorem SdOk.set (ok : SdOk s) (hg : dGet s.kvs (.inl n) = some d) (hx : Vs (kds s.f) xs) : SdOk { s with kvs := dPut s.kvs (.inl n) (.tup xs) } := ⟨ok.l6, ok.nd, ok.ks.set hg hx, ok.l60, ok.hk, ok.lk, ok.sm, ok.ck⟩
end
abbrev En15 (scr a1 cap f p hd o last a8 a9 a10 a11 a12 : Option D) : Iv.Env := [scr, a1, cap, f, p, hd, o, last, a8, a9, a10, a11, a12]
def St15 (f : List Col) (cap : Int) (p hd o : Nat) (s : Sd) (ps : List (List Int)) (own : Nat → Nat) (S : Sto) : Prop := StoreAt s p S (fun a => own a = 0) ∧ Pgs D.int o ps S (fun a => own a = 1) ∧ (cellAt S hd = some (.dct s.kvs) ∧ own hd = 2) ∧ SdOk s ∧ s.con = .heap ps ∧ s.f = f ∧ s.key = [] ∧ s.cap = cap
theorem lcl_hd {hd : Nat} {kvs : List (L2.Key × D)} : Lcl fun S A => cellAt S hd = some (.dct kvs) ∧ A hd := lcl_lst
section
variable {f : List Col} {cap : Int} {p hd o : Nat} {s : Sd} {ps : List (List Int)} {own : Nat → Nat} {S S' : Sto} {bs : List Nat}
theorem St15.keep (h : St15 f cap p hd o s ps own S) (k : Keep bs S S') (hb : ∀ b ∈ bs, b < S.length → own b = 3) : St15 f cap p hd o s ps (paint own S.length 3) S' := by
  obtain ⟨h1, h2, h3, h4⟩ := h
  have st : Stp (fun a => own a = 3) S S' := Stp.of k hb
  exact ⟨lcl_store.oth h1 st (by omega), lcl_pgs.oth h2 st (by omega), lcl_hd.oth h3 st (by omega), h4⟩
end


end
section
/-! ### the law of heaps -/
set_option maxHeartbeats 800000
inductive Ed where
  | put (xs : List D) | none
  | drop (n : Int) (xs : List D)
  | chg (n : Int) (xs : List D) (j : Nat) (z : Str) (w : Bool) (v : D)
def edD : Ed → D
  | .put xs => .tup [.str "put", .tup xs]
  | .none => .tup [.str "none"]
  | .drop n _ => .tup [.str "drop", .int n]
  | .chg n _ _ z _ v => .tup [.str "change", .int n, .str z, v]
def EdOk (f : List Col) (s : Sd) : Ed → Prop
  | .put xs => Vs (kds f) xs ∧ s.last < 60
  | .none => True
  | .drop n xs => dGet s.kvs (.inl n) = some (.tup xs)
  | .chg n xs j z w v => dGet s.kvs (.inl n) = some (.tup xs) ∧ f[j]? = some (z, w) ∧ ValOf w v
section
variable {f : List Col} {cap : Int} {p hd o b : Nat} {s : Sd} {ps : List (List Int)} {own : Nat → Nat} {S : Sto}
/-- behind the deed: both told the same -/
def Told15 (f : List Col) (cap : Int) (p hd o : Nat) (scr a1 a8 a9 : Option D) (ρ : Iv.Env) (S : Sto) : Prop := ∃ own s ps t a12, St15 f cap p hd o s ps own S ∧ t.fz = true ∧ t.dp ≤ 2 ∧ t.wd 1000 = true ∧ ρ = En15 scr a1 (some (.int cap)) (some (enF f)) (some (.ref p)) (some (.ref hd)) (some (.ref o)) (some (.int s.last)) a8 a9 (some t) (some t) a12
end
theorem told (ns : List Int) (hl : ns.length ≤ 63) : ∃ S, callN Tb 24 57 [.scr (ns.map .int)] [] = .ok (.bl true) S := by
  have main : Ru (callN Tb 24 57 [.scr (ns.map .int)] []) (fun d _ => d = .bl true) noE := by
    refine Ru.def (fn := ⟨1, 13, p_law⟩) rfl rfl ?_; simp only [List.map_cons, List.map_nil, List.length_cons, List.length_nil, Nat.reduceAdd, Nat.reduceSub, List.replicate_succ, List.replicate_zero, List.cons_append, List.nil_append]
    and_intros
    refine bag_ru (by omega) (by omega) fun S1 b hb b1 k1 => ?_
    and_intros
    refine take_ru b1 (by omega) (by omega) fun c0 S2 c00 c01 k2 b2 => ?_
    and_intros
    refine lform_made b2 fun f S3 f1 f6 nf k3 b3 => ?_
    and_intros
    refine r_make fun S4 n hn c4 k4 => ?_
    and_intros
    refine shape_ru (by omega) (by omega) c4 fun S5 k5 w5 => ?_
    and_intros
    refine ⟨rfl, ?_⟩
    and_intros
    refine r_make fun S6 p hp c6 k6 => ?_
    and_intros
    have w6 : ShapeAt (2 + c0) n S6 := by
      obtain ⟨fs, e1, e2⟩ := w5
      exact ⟨fs, (k6.eq n (cellAt_lt e1) (by simp)).trans e1, e2⟩
    refine store_init_ru nf f1 f6 c6 w6 fun S7 k7 w7 => ?_
    and_intros
    refine ⟨rfl, ?_⟩
    and_intros
    have cd : cellAt (S7 ++ [some (.dct [])]) S7.length = some (.dct []) := cell_push
    have kd : Keep [] S7 (S7 ++ [some (.dct [])]) := Keep.push
    generalize hhd : S7.length = hd at cd ⊢
    generalize S7 ++ [some (.dct [])] = S8 at cd kd ⊢
    refine r_new fun S9 o ho c9 k9 => ?_
    have lhd := cellAt_lt cd
    have W : St15 f (2 + c0) p hd o ⟨f, [], 2 + c0, [], 0, .heap []⟩ [] (fun a => if a = hd then 2 else if a = o then 1 else 0) S9 := by
      refine ⟨?_, ?_, ⟨(k9.eq hd lhd (by simp)).trans cd, if_pos rfl⟩, ⟨f6, nf.nodup, KOk.none, (by show (0 : Int) ≤ 60; decide), (fun j h => nomatch h), Nat.zero_le _, ⟨Nat.zero_le _, (fun p h => nomatch h)⟩, rfl⟩, rfl, rfl, rfl, rfl⟩
      · have h7 := w7 (fun a => a = p ∨ S6.length ≤ a) (.inl rfl) fun i hi => .inr hi
        have h7' : StoreAt ⟨f, [], 2 + c0, [], 0, .heap []⟩ p S7 (fun a => (if a = hd then 2 else if a = o then 1 else 0) = 0) := lcl_store.up h7 fun i hi _ => by
          show (if i = hd then 2 else if i = o then 1 else 0) = 0
          rw [if_neg (by omega), if_neg (by omega)]
        exact lcl_store.keep (lcl_store.keep h7' kd (by simp)) k9 (by simp)
      · refine pgs_empty c9 ?_
        show (if o = hd then 2 else if o = o then 1 else 0) = 1
        rw [if_neg (by omega), if_pos rfl]
    and_intros
    refine Ru.for (fun i ρ S' => ∃ own s ps a1 a8 a9 a10 a11 a12, St15 f (2 + c0) p hd o s ps own S' ∧ ρ = En15 (some (.scr (ns.map .int))) a1 (some (.int (2 + c0))) (some (enF f)) (some (.ref p)) (some (.ref hd)) (some (.ref o)) (some (.int s.last)) a8 a9 a10 a11 a12)
      ⟨_, _, _, _, _, _, _, _, _, W, rfl⟩ (fun _ _ _ _ => trivial) (fun i x ρ T hx ⟨own, s, ps, a1, a8, a9, a10, a11, a12, W, e⟩ => ?_) fun ρ T ⟨own, s, ps, a1, a8, a9, a10, a11, a12, W, e⟩ => ?_
    · subst e
      obtain ⟨rfl, hi⟩ := rng_get hx
      have hi60 : i ≤ 60 := by
        simp only [List.length_map] at hi
        omega
      and_intros
      refine bag_ru (by omega) (by omega) fun T1 b hb b1 k1 => ?_
      have W1 := W.keep k1 (by simp)
      have ob : paint own T.length 3 b = 3 := paint_ge (by omega)
      generalize paint own T.length 3 = own1 at W1 ob
      with_reducible refine (ru_aVar).mpr ?_
      with_reducible refine (nx_next).mpr ?_
      with_reducible refine (ru_exs1).mpr ?_
      refine Ru.join (fun ρ S' => ∃ own ed, St15 f (2 + c0) p hd o s ps own S' ∧ EdOk f s ed ∧ ρ = En15 (some (.scr (ns.map .int))) (some (.ref b)) (some (.int (2 + c0))) (some (enF f)) (some (.ref p)) (some (.ref hd)) (some (.ref o)) (some (.int s.last)) (some (.int (0 + (i : Int)))) (some (edD ed)) a10 a11 a12) ?_ fun ρ T2 ⟨own2, ed, W2, eo, e⟩ => ?_
      · obtain ⟨_, _, ⟨h1, h2⟩, ok, _, rfl, _, _⟩ := id W1
        have go : ∀ {T' : Sto}, Keep [b] T1 T' → St15 s.f (2 + c0) p hd o s ps (paint own1 T1.length 3) T' := fun k => W1.keep k fun b' hb' _ => by rw [List.mem_singleton.mp hb']; exact ob
        and_intros
        refine edit_ru b1 h1 ok.ks ok.l60 f1 f6 (fun xs T' hx h60 k' b' => ?_) (fun T' k' b' => ?_) (fun n xs T' hg k' b' => ?_) fun n xs j z w v T' hg hf hv k' b' => ?_
        · and_intros
          exact ⟨_, rfl, _, .put xs, go k', ⟨hx, h60⟩, rfl⟩
        · and_intros
          exact ⟨_, rfl, _, .none, go k', trivial, rfl⟩
        · and_intros
          exact ⟨_, rfl, _, .drop n xs, go k', hg, rfl⟩
        · and_intros
          exact ⟨_, rfl, _, .chg n xs j z w v, go k', ⟨hg, hf, hv⟩, rfl⟩
      · subst e
        with_reducible refine (ru_exs1).mpr ?_
        refine Ru.join (Told15 f (2 + c0) p hd o (some (.scr (ns.map .int))) (some (.ref b)) (some (.int (0 + (i : Int)))) (some (edD ed))) ?_ fun ρ T3 ⟨own3, s3, ps3, t, b12, W3, t1, t2, t3, e⟩ => ?_
        · obtain ⟨H, P, hh, ok, hc, ef, ek, ecap⟩ := W2
          obtain ⟨sf, key, cap, kvs, last, con⟩ := s
          dsimp only at *
          subst hc ef ek ecap
          have l60 : last ≤ 60 := ok.l60
          have sm : PSm 100 ps := PSm.mono (show PSm last.toNat ps from ok.sm) (by omega)
          have ln : (kvs.length : Int) ≤ last := ok.ks.len
          have hh1 : cellAt T2 hd = some (.dct kvs) := hh.1
          obtain ⟨_, _, _, _, hp2, _⟩ := id H
          cases ed with
          | put xs =>
            obtain ⟨hx, h60⟩ := eo
            dsimp only [edD, St15]
            and_intros
            refine put_ru H ok hx h60 (ok.put0 hx h60) fun T3 st3 H3 => ?_
            rw [nx_own] at H3
            have P3 := lcl_pgs.oth P st3 (by decide)
            have hh3 := lcl_hd.oth hh st3 (by decide)
            generalize paint own2 T2.length 0 = own3 at H3 P3 hh3
            and_intros
            refine lheap_put_ru P3 sm fun T4 st4 P4 => ?_
            rw [nx_own] at P4
            have H4 := lcl_store.oth H3 st4 (by decide)
            have hh4 := lcl_hd.oth hh3 st4 (by decide)
            generalize paint own3 T3.length 1 = own4 at H4 P4 hh4
            and_intros
            refine r_dput hh4.1 (κ := .inl (last + 1)) rfl (by omega) fun T5 l5 c5 k5 => ?_
            have H5 := lcl_store.keep H4 k5 fun b' hb' _ z => by have := hh4.2; rw [← List.mem_singleton.mp hb', z] at this; cases this
            have P5 := lcl_pgs.keep P4 k5 fun b' hb' _ z => by have := hh4.2; rw [← List.mem_singleton.mp hb', z] at this; cases this
            and_intros
            exact ⟨_, rfl, own4, _, _, .tup [.int (last + 1), .int (hpt (2 + c0) ps)], _, ⟨H5, P5, ⟨c5, hh4.2⟩, ok.put1 hx h60, rfl, rfl, rfl, rfl⟩, by simp [D.fz, D.fzs], by simp [D.dp, D.dps], by simp [D.wd, D.wds], rfl⟩
          | none =>
            dsimp only [edD, St15]
            and_intros
            exact ⟨_, rfl, own2, _, _, .int 0, _, ⟨H, P, hh, ok, rfl, rfl, rfl, rfl⟩, by simp [D.fz], by simp [D.dp], by simp [D.wd], rfl⟩
          | drop n xs =>
            dsimp only [edD, St15]
            have eo : dGet kvs (.inl n) = some (.tup xs) := eo
            and_intros
            refine r_dpop hh.1 (κ := .inl n) rfl eo fun T3 l3 c3 k3 => ?_
            have H3 := lcl_store.keep H k3 fun b' hb' _ z => by have := hh.2; rw [← List.mem_singleton.mp hb', z] at this; cases this
            have P3 := lcl_pgs.keep P k3 fun b' hb' _ z => by have := hh.2; rw [← List.mem_singleton.mp hb', z] at this; cases this
            obtain ⟨_, _, _, _, hp3, _⟩ := id H3
            and_intros
            refine sdrop_ru H3 ok eo fun T4 st4 H4 => ?_
            rw [nx_own] at H4
            have P4 := lcl_pgs.oth P3 st4 (by decide)
            have hh4 := lcl_hd.oth ⟨c3, hh.2⟩ st4 (by decide)
            generalize paint own2 T3.length 0 = own4 at H4 P4 hh4
            and_intros
            refine lheap_drop_ru P4 sm fun T5 st5 P5 => ?_
            rw [nx_own] at P5
            have H5 := lcl_store.oth H4 st5 (by decide)
            have hh5 := lcl_hd.oth hh4 st5 (by decide)
            generalize paint own4 T4.length 1 = own5 at H5 P5 hh5
            and_intros
            exact ⟨_, rfl, own5, _, _, .int 2, _, ⟨H5, P5, hh5, ok.drop, rfl, rfl, rfl, rfl⟩, by simp [D.fz], by simp [D.dp], by simp [D.wd], rfl⟩
          | chg n xs j z w v =>
            obtain ⟨hg, hf, hv⟩ := eo
            have hg : dGet kvs (.inl n) = some (.tup xs) := hg
            obtain ⟨_, e0, n1, n2, hx⟩ := ok.ks.get hg
            cases e0
            have lx : xs.length = sf.length := by rw [hx.len, List.length_map]
            have hjl : j < sf.length := (List.getElem?_eq_some_iff.mp hf).1
            obtain ⟨u, hu⟩ : ∃ u, xs[j]? = some u := ⟨_, List.getElem?_eq_getElem (by omega)⟩
            have hw : (kds sf)[j]? = some w := by rw [List.getElem?_map, hf]; rfl
            have vu : ValOf w u := hx.it j w u hw hu
            have hz : (nm sf)[j]? = some z := by rw [List.getElem?_map, hf]; rfl
            have hset := hx.set hw hv
            dsimp only [edD, St15]
            and_intros
            refine r_didx hh.1 (κ := .inl n) rfl hg ?_
            and_intros
            refine lchanged_ru f6 lx hv.ok.1 ?_
            rw [chg_set ok.nd hz (by rw [List.length_map, lx])]
            and_intros
            refine change_ru H ok hg hz hu vu hv rfl fun T3 st3 H3 => ?_
            rw [nx_own] at H3
            have P3 := lcl_pgs.oth P st3 (by decide)
            have hh3 := lcl_hd.oth hh st3 (by decide)
            generalize paint own2 T2.length 0 = own3 at H3 P3 hh3
            and_intros
            refine r_didx hh3.1 (κ := .inl n) rfl hg ?_
            and_intros
            rw [ru_ne (by rw [D.fz]; exact hset.fz.1) (by rw [D.fz]; exact hx.fz.1)]
            refine ⟨⟨by rw [D.dp, hset.fz.2.1]; decide, by rw [D.dp, hx.fz.2.1]; decide⟩, ?_⟩
            rw [D.eqv, eqvs_set hx.fz.1 hu, (eqv_val vu hv).1]
            and_intros
            refine r_dput hh3.1 (κ := .inl n) rfl (by omega) fun T5 l5 c5 k5 => ?_
            have H5 := lcl_store.keep H3 k5 fun b' hb' _ z => by have := hh3.2; rw [← List.mem_singleton.mp hb', z] at this; cases this
            have P5 := lcl_pgs.keep P3 k5 fun b' hb' _ z => by have := hh3.2; rw [← List.mem_singleton.mp hb', z] at this; cases this
            and_intros
            cases he : u.eqv v with
            | true =>
              have euv := (eqv_val vu hv).2 he
              subst euv
              have e1 : xs.set j u = xs := by
                apply List.ext_getElem?
                intro i
                by_cases e : i = j
                · subst e
                  rw [List.getElem?_set_self (by omega), hu]
                · rw [List.getElem?_set_ne (Ne.symm e)]
              rw [if_pos he] at H5
              rw [e1, dPut_self ok.ks.nd hg] at c5
              exact ⟨_, rfl, own3, _, _, .int 0, _, ⟨H5, P5, ⟨c5, hh3.2⟩, ok, rfl, rfl, rfl, rfl⟩, by simp [D.fz], by simp [D.dp], by simp [D.wd], rfl⟩
            | false =>
              rw [if_neg (by rw [he]; exact Bool.false_ne_true)] at H5
              exact ⟨_, rfl, own3, _, _, .int 2, _, ⟨H5, P5, ⟨c5, hh3.2⟩, ok.set hg hset, rfl, rfl, rfl, rfl⟩, by simp [D.fz], by simp [D.dp], by simp [D.wd], rfl⟩
        · subst e
          obtain ⟨H3, P3, ⟨h31, h32⟩, ok3, hc3, rfl, _, _⟩ := id W3
          have sm3 : PSm 100 ps3 := by
            have := ok3.sm
            rw [hc3] at this
            exact PSm.mono this (by have := ok3.l60; omega)
          and_intros
          refine Ru.eq (like_ok2 2 (Is.of t1) (Is.of t1) t2 (by omega) t3) ?_
          and_intros
          refine same_ru H3 ok3 hc3 h31 (fun z => by omega) P3 sm3 fun T4 k4 => ?_
          and_intros
          exact ⟨_, _, _, _, _, _, _, _, _, W3.keep k4 (by simp), rfl⟩
    · subst e
      and_intros
      rfl
  obtain ⟨d, S, e, h⟩ := main.ex
  exact ⟨S, by rw [e, h]⟩


end
end Wk
namespace Wk
open PySem PySem.Spec PyProof.Rows L2 Iv
theorem txt_of {K : PySem.W.Frag} {h : Heap} {mg : Str → Option Value} (X : K.In h) (G : h.Ns mainGlobals mg) (c : He.SaysB fa fn fex K) : Txt K mg :=
  ⟨c.d.def_ 0 rfl,
   He.glo_ok X G (c.d.fact 0 rfl),
   c.d.def_ 1 rfl,
   He.glo_ok X G (c.d.fact 1 rfl),
   c.d.def_ 2 rfl,
   He.glo_ok X G (c.d.fact 2 rfl),
   c.d.def_ 3 rfl,
   He.glo_ok X G (c.d.fact 3 rfl),
   c.d.def_ 4 rfl,
   He.glo_ok X G (c.d.fact 4 rfl),
   c.d.def_ 5 rfl,
   He.glo_ok X G (c.d.fact 5 rfl),
   c.d.def_ 6 rfl,
   He.glo_ok X G (c.d.fact 6 rfl),
   c.d.def_ 7 rfl,
   He.glo_ok X G (c.d.fact 7 rfl),
   c.d.def_ 8 rfl,
   He.glo_ok X G (c.d.fact 8 rfl),
   c.d.def_ 9 rfl,
   He.glo_ok X G (c.d.fact 9 rfl),
   c.d.def_ 10 rfl,
   He.glo_ok X G (c.d.fact 10 rfl),
   c.d.def_ 11 rfl,
   He.glo_ok X G (c.d.fact 11 rfl),
   c.d.def_ 12 rfl,
   He.glo_ok X G (c.d.fact 12 rfl),
   c.d.def_ 13 rfl,
   He.glo_ok X G (c.d.fact 13 rfl),
   c.d.def_ 14 rfl,
   He.glo_ok X G (c.d.fact 14 rfl),
   c.d.def_ 15 rfl,
   c.d.def_ 16 rfl,
   c.d.def_ 17 rfl,
   c.d.def_ 18 rfl,
   c.d.def_ 19 rfl,
   c.d.def_ 20 rfl,
   c.d.def_ 21 rfl,
   c.d.def_ 22 rfl,
   c.d.def_ 23 rfl,
   c.d.def_ 24 rfl,
   c.d.def_ 25 rfl,
   He.glo_ok X G (c.d.fact 15 rfl),
   c.d.def_ 26 rfl,
   He.glo_ok X G (c.d.fact 16 rfl),
   c.d.def_ 27 rfl,
   He.glo_ok X G (c.d.fact 17 rfl),
   c.d.def_ 28 rfl,
   c.d.def_ 29 rfl,
   c.d.def_ 30 rfl,
   c.d.def_ 31 rfl,
   c.d.def_ 32 rfl,
   c.d.def_ 33 rfl,
   c.d.def_ 34 rfl,
   c.d.def_ 35 rfl,
   c.d.def_ 36 rfl,
   c.d.def_ 37 rfl,
   He.glo_ok X G (c.d.fact 18 rfl),
   c.d.def_ 38 rfl,
   c.d.def_ 39 rfl,
   c.d.def_ 40 rfl,
   c.d.def_ 41 rfl,
   c.d.def_ 42 rfl,
   c.d.def_ 43 rfl,
   c.d.def_ 44 rfl,
   c.d.def_ 45 rfl,
   c.d.def_ 46 rfl,
   c.d.def_ 47 rfl,
   c.d.def_ 48 rfl,
   c.d.def_ 49 rfl,
   c.d.def_ 50 rfl,
   c.d.def_ 51 rfl,
   c.d.def_ 52 rfl,
   c.d.def_ 53 rfl,
   c.d.def_ 54 rfl,
   c.d.def_ 55 rfl,
   c.d.def_ 56 rfl,
   c.d.def_ 57 rfl,
   c.d.def_ 58 rfl,
   He.glo_ok X G (c.d.fact 19 rfl),
   c.d.def_ 59 rfl,
   He.glo_ok X G (c.d.fact 20 rfl),
   c.d.def_ 60 rfl,
   He.glo_ok X G (c.d.fact 21 rfl),
   c.d.def_ 61 rfl,
   He.glo_ok X G (c.d.fact 22 rfl),
   c.d.def_ 62 rfl,
   He.glo_ok X G (c.d.fact 23 rfl),
   c.d.def_ 63 rfl,
   He.glo_ok X G (c.d.fact 24 rfl),
   c.d.def_ 64 rfl,
   He.glo_ok X G (c.d.fact 25 rfl),
   c.d.def_ 65 rfl,
   He.glo_ok X G (c.d.fact 26 rfl),
   c.d.def_ 66 rfl,
   He.glo_ok X G (c.d.fact 27 rfl),
   c.d.def_ 67 rfl,
   He.glo_ok X G (c.d.fact 28 rfl),
   c.d.def_ 68 rfl,
   He.glo_ok X G (c.d.fact 29 rfl),
   c.d.def_ 69 rfl,
   He.glo_ok X G (c.d.fact 30 rfl),
   c.d.def_ 70 rfl,
   He.glo_ok X G (c.d.fact 31 rfl),
   c.d.def_ 71 rfl,
   He.glo_ok X G (c.d.fact 32 rfl),
   c.d.def_ 72 rfl,
   He.glo_ok X G (c.d.fact 33 rfl),
   He.glo_ok X G (c.d.fact 34 rfl),
   He.cls_ok (c.d.fact 35 rfl),
   He.noat_ok (c.d.fact 36 rfl),
   He.noat_ok (c.d.fact 37 rfl),
   He.noat_ok (c.d.fact 38 rfl),
   He.mkr_ok (c.d.fact 39 rfl),
   He.meth_ok (c.d.fact 40 rfl),
   He.meth_ok (c.d.fact 41 rfl),
   He.meth_ok (c.d.fact 42 rfl),
   He.meth_ok (c.d.fact 43 rfl),
   He.meth_ok (c.d.fact 44 rfl),
   He.meth_ok (c.d.fact 45 rfl),
   He.glo_ok X G (c.d.fact 46 rfl),
   He.glo_ok X G (c.d.fact 47 rfl),
   He.glo_ok X G (c.d.fact 48 rfl),
   He.glo_ok X G (c.d.fact 49 rfl),
   He.glo_ok X G (c.d.fact 50 rfl),
   He.glo_ok X G (c.d.fact 51 rfl),
   He.cls_ok (c.d.fact 52 rfl),
   He.noat_ok (c.d.fact 53 rfl),
   He.noat_ok (c.d.fact 54 rfl),
   He.noat_ok (c.d.fact 55 rfl),
   He.mkr_ok (c.d.fact 56 rfl),
   He.meth_ok (c.d.fact 57 rfl),
   He.meth_ok (c.d.fact 58 rfl),
   He.meth_ok (c.d.fact 59 rfl),
   He.meth_ok (c.d.fact 60 rfl),
   He.meth_ok (c.d.fact 61 rfl),
   He.meth_ok (c.d.fact 62 rfl),
   He.meth_ok (c.d.fact 63 rfl),
   He.meth_ok (c.d.fact 64 rfl),
   He.glo_ok X G (c.d.fact 65 rfl),
   He.cls_ok (c.d.fact 66 rfl),
   He.noat_ok (c.d.fact 67 rfl),
   He.noat_ok (c.d.fact 68 rfl),
   He.mkr_ok (c.d.fact 69 rfl),
   He.meth_ok (c.d.fact 70 rfl),
   He.meth_ok (c.d.fact 71 rfl),
   He.meth_ok (c.d.fact 72 rfl),
   He.glo_ok X G (c.d.fact 73 rfl),
   He.cls_ok (c.d.fact 74 rfl),
   He.noat_ok (c.d.fact 75 rfl),
   He.noat_ok (c.d.fact 76 rfl),
   He.noat_ok (c.d.fact 77 rfl),
   He.noat_ok (c.d.fact 78 rfl),
   He.noat_ok (c.d.fact 79 rfl),
   He.noat_ok (c.d.fact 80 rfl),
   He.noat_ok (c.d.fact 81 rfl),
   He.noat_ok (c.d.fact 82 rfl),
   He.mkr_ok (c.d.fact 83 rfl),
   He.meth_ok (c.d.fact 84 rfl),
   He.meth_ok (c.d.fact 85 rfl),
   He.meth_ok (c.d.fact 86 rfl),
   He.meth_ok (c.d.fact 87 rfl),
   He.meth_ok (c.d.fact 88 rfl),
   He.meth_ok (c.d.fact 89 rfl),
   He.meth_ok (c.d.fact 90 rfl),
   He.meth_ok (c.d.fact 91 rfl),
   He.meth_ok (c.d.fact 92 rfl),
   He.meth_ok (c.d.fact 93 rfl),
   He.meth_ok (c.d.fact 94 rfl),
   He.glo_ok X G (c.d.fact 95 rfl),
   He.cls_ok (c.d.fact 96 rfl),
   He.noat_ok (c.d.fact 97 rfl),
   He.noat_ok (c.d.fact 98 rfl),
   He.noat_ok (c.d.fact 99 rfl),
   He.noat_ok (c.d.fact 100 rfl),
   He.noat_ok (c.d.fact 101 rfl),
   He.mkr_ok (c.d.fact 102 rfl),
   He.meth_ok (c.d.fact 103 rfl),
   He.meth_ok (c.d.fact 104 rfl),
   He.meth_ok (c.d.fact 105 rfl),
   He.int_ok X G (c.d.fact 106 rfl),
   He.int_ok X G (c.d.fact 107 rfl),
   He.int_ok X G (c.d.fact 108 rfl),
   He.int_ok X G (c.d.fact 109 rfl),
   He.str_ok X G (c.d.fact 110 rfl),
   He.int_ok X G (c.d.fact 111 rfl),
   He.int_ok X G (c.d.fact 112 rfl),
   He.int_ok X G (c.d.fact 113 rfl),
   He.int_ok X G (c.d.fact 114 rfl),
   He.int_ok X G (c.d.fact 115 rfl),
   He.int_ok X G (c.d.fact 116 rfl),
   He.int_ok X G (c.d.fact 117 rfl),
   He.int_ok X G (c.d.fact 118 rfl),
   He.int_ok X G (c.d.fact 119 rfl),
   He.int_ok X G (c.d.fact 120 rfl),
   He.int_ok X G (c.d.fact 121 rfl),
   He.int_ok X G (c.d.fact 122 rfl),
   He.int_ok X G (c.d.fact 123 rfl),
   He.int_ok X G (c.d.fact 124 rfl),
   He.glo_ok X G (c.d.fact 125 rfl),
   He.glo_ok X G (c.d.fact 126 rfl),
   He.free_ok X G (c.d.fact 127 rfl),
   He.free_ok X G (c.d.fact 128 rfl),
   He.free_ok X G (c.d.fact 129 rfl),
   He.free_ok X G (c.d.fact 130 rfl),
   He.free_ok X G (c.d.fact 131 rfl),
   He.free_ok X G (c.d.fact 132 rfl),
   He.free_ok X G (c.d.fact 133 rfl),
   He.free_ok X G (c.d.fact 134 rfl),
   He.free_ok X G (c.d.fact 135 rfl),
   He.free_ok X G (c.d.fact 136 rfl),
   He.free_ok X G (c.d.fact 137 rfl),
   He.free_ok X G (c.d.fact 138 rfl),
   He.free_ok X G (c.d.fact 139 rfl),
   He.free_ok X G (c.d.fact 140 rfl),
   He.free_ok X G (c.d.fact 141 rfl),
   He.free_ok X G (c.d.fact 142 rfl),
   He.free_ok X G (c.d.fact 143 rfl),
   He.free_ok X G (c.d.fact 144 rfl),
   He.tupAtB_ok (List.all_eq_true.mp c.more _ (List.mem_of_getElem? (i := 0) rfl)),
   He.tupAtB_ok (List.all_eq_true.mp c.more _ (List.mem_of_getElem? (i := 1) rfl)),
   He.tupAtB_ok (List.all_eq_true.mp c.more _ (List.mem_of_getElem? (i := 2) rfl)),
   He.tupAtB_ok (vs := [(.str "number"), (.str "word")]) (List.all_eq_true.mp c.more _ (List.mem_of_getElem? (i := 3) rfl)),
   He.tupAtB_ok (vs := [(.str "heap"), (.str "sorted"), (.str "hashed")]) (List.all_eq_true.mp c.more _ (List.mem_of_getElem? (i := 4) rfl))⟩
theorem facts {P : Program} {w : World} {K : PySem.W.Frag} {h : Heap} {mg : Str → Option Value} {f : Addr} (X : K.In h) (G : h.Ns mainGlobals mg) (hfa : mg ("law" : Str) = some (.ref f)) (c : He.SaysB fa fn fex K) :
    ∃ fd : FuncData, (∀ (s : Shared) (v : Value), BindsTo s fd ⟨[v], []⟩ [("_law_script", v)]) ∧ ∀ base : Heap, K.In base → base.Ns mainGlobals mg → FnOk P w K mg base CX0 50 f fd ["_law_script"] (spEnd K) := by
  have T := txt_of X G c
  obtain ⟨fd, F⟩ := T.d_law
  have e := hfa.symm.trans T.m_law
  cases e
  have b := FunD.bindsA (ps := ["_law_script"]) F fun _ _ _ _ _ _ us hl => match us, hl with | [_], _ => rfl
  refine ⟨fd, fun s v => b s [v] rfl, fun base _ _ => ?_⟩
  have A := (all_ok (P := P) (w := w) (base := base) T 24)
  have FO := fn_step (P := P) (w := w) (K := K) (mg := mg) (base := base) (g := gs K) (T := Tb) (f := 57) (N := _) (j := 2 * 23 + 3) (k := 23) rfl F sc_law fun _ _ _ _ _ _ hr => b_law T (all_ok T 23) hr
  exact fn_end (g := gs K) (k := 24) rfl FO told
end Wk
open PySem PySem.W PySem.Calls PyProof.Rows
theorem PySem.Challenge.cw_whatindex_k15_heaps_holds : PySem.Challenge.rw_whatindex_k15_heaps.Holds := by
  w_on; o_law
  refine HandSHeadRun.head_any (r := OpenLaw.row PySem.Challenge.rw_whatindex_k15_heaps) (q := view (OpenLaw.row PySem.Challenge.rw_whatindex_k15_heaps).prog [71]) (H := Wk.hk) (ob := Wk.ob) (M := 8000) (loose := [("_wall" : PySem.Str), ("LEAST_NUMBER" : PySem.Str), ("MOST_NUMBER" : PySem.Str), ("MOST_LETTERS" : PySem.Str), ("MOST_COLUMNS" : PySem.Str), ("LETTERS" : PySem.Str), ("KINDS" : PySem.Str), ("MARKS" : PySem.Str), ("FIRST_MARK" : PySem.Str), ("STEP" : PySem.Str), ("BASE" : PySem.Str), ("is_whole" : PySem.Str), ("is_word" : PySem.Str), ("is_one_of" : PySem.Str), ("is_tuple_of" : PySem.Str), ("is_value" : PySem.Str), ("is_column" : PySem.Str), ("is_form" : PySem.Str), ("is_row" : PySem.Str), ("names_of" : PySem.Str), ("are_columns" : PySem.Str), ("number_of" : PySem.Str), ("mark" : PySem.Str), ("value_of" : PySem.Str), ("values_of" : PySem.Str), ("Buckets" : PySem.Str), ("NoShape" : PySem.Str), ("NoStore" : PySem.Str), ("NoRow" : PySem.Str), ("NoNumber" : PySem.Str), ("TooMany" : PySem.Str), ("groups" : PySem.Str), ("levels_of" : PySem.Str), ("pages_of" : PySem.Str), ("Run" : PySem.Str), ("STORES" : PySem.Str), ("MOST_ROWS" : PySem.Str), ("MOST_KEY" : PySem.Str), ("look_store" : PySem.Str), ("Heap" : PySem.Str), ("Store" : PySem.Str), ("LEAST_PAGE" : PySem.Str), ("MOST_PAGE" : PySem.Str), ("ROWS" : PySem.Str), ("ENTRIES" : PySem.Str), ("FAN" : PySem.Str), ("BUCKETS" : PySem.Str), ("BITS" : PySem.Str), ("MOST_BITS" : PySem.Str), ("Shape" : PySem.Str), ("_law_bag" : PySem.Str), ("_law_take" : PySem.Str), ("_law_names" : PySem.Str), ("_law_word" : PySem.Str), ("_law_value" : PySem.Str), ("_law_form" : PySem.Str), ("_law_columns" : PySem.Str), ("_law_row" : PySem.Str), ("_law_heap_put" : PySem.Str), ("_law_heap_drop" : PySem.Str), ("_law_same" : PySem.Str), ("_law_edit" : PySem.Str), ("_law_changed" : PySem.Str), ("_law_like" : PySem.Str)]) (d := HandSHeadRun.topDef (OpenLaw.row PySem.Challenge.rw_whatindex_k15_heaps).prog 71) (kwd := []) Wk.ob_eq
    (by kernel_rfl) (fun s => by kernel_rfl) Wk.run (by kernel_rfl) (by kernel_rfl) (by kernel_rfl) (by rfl) (by first | assumption | decide +kernel) (by decide +kernel) ⟨rfl, rfl, rfl, rfl, rfl, by decide +kernel⟩ ?hw ?hc
  case hw => w_witness2
  case hc =>
    refine L2.walk_ofE (l := PySem.Challenge.rw_whatindex_k15_heaps) (n := 63) (k := 50) (x := "_law_script") (CX := L2.CX0) rfl (by decide) (by kernel_rfl) ⟨rfl, by decide, by decide⟩ ?F (fun _ _ _ _ z => z)
    intro w mg fa h Y G hmg0
    obtain ⟨K, KX, c⟩ := Y
    have hmg : mg ("law" : PySem.Str) = some (.ref fa) := by
      have e : (HandSHeadRun.topDef (OpenLaw.row PySem.Challenge.rw_whatindex_k15_heaps).prog 71).name = ("law" : PySem.Str) := by kernel_rfl
      rw [← e]
      exact hmg0
    obtain ⟨fd, hb, hF⟩ := Wk.facts (P := (PySem.Challenge.rw_whatindex_k15_heaps).prog) (w := w) KX G hmg c
    exact ⟨K, fd, Iv.spEnd K, KX, hb, fun H a ns hl hO hS => ⟨a, ns, rfl, hS, hl, hO, fun _ => rfl⟩, hF⟩

