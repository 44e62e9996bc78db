import PyProof.Rows.All
import Wide.All
import OpenK.AllK
import Wide.FinOn
import KE.KStateDown
import Lean
import HandS.ForMost
import HandS.Walk
import HandS.IsInst
import HandS.Flow
import HandS.TupAny
import HandS.Replace
import HandS.Zip
import HandS.Codes
import HandS.SetFor
import HandS.Style
import HandS.Conv
import HandS.Text
import HandS.TupLe
import HandS.WordsExc
import HandS.Defaults
import HandS.Head0
import HandS.Head1
import HandS.Head2
import HandS.HeadEnd
import HandS.HeadHook1
import HandS.HeadHook2
import HandS.HeadHook3
import HandS.More
import KE.KDictSum
import HandS.Deep
import HandS.RevTup
import HandS.Rev
import HandS.DictComp
import HandS.Strs
import HandS.SetKeys
import HandS.SetBool
import HandS.TryOnly
import HandS.TryMany
import HandS.ExcOwn
import HandS.ExcInit
import HandS.ExcBuiltin
import HandS.MakeKw
import HandS.MakeKwOnly
import HandS.RaiseOp
import HandS.SortKw
import HandS.Iter
import HandS.Exc
import HandS.ReCall
import HandS.TupMul
import PyProof.FString5
import HandS.ExcIs
import HandS.ExcField
import KE.GoesZip
import KE.GoesMore
import KE.GoesEnumKw
import KE.SortData
import KE.SortKeyHeap
import KE.DataCmp
import KE.DataFind
import KE.DataMinMax
import KE.DatumOrd
import KE.KUnpackStar
import KE.KExcIs
import PySem.Challenge.RW_whatindex_k42_items_faults
set_option Elab.async false
set_option linter.all false
set_option maxRecDepth 100000
set_option maxHeartbeats 4000000
namespace He
open PySem PySem.Spec PyProof.Rows L2
structure SaysB (fa : List Fa) (fn : List DefD) (ex : PySem.W.Frag → Bool) (K : PySem.W.Frag) : Prop where
  d : SaysD fa fn K
  more : ex K = true
end He

/-! ### a module's written dicts, len of a dict -/
namespace L2
open PySem PySem.Spec PyProof.Rows
section
variable {prog : Program} {w : World} {A : Around} {s : Shared} {E : Value → Shared → Prop} {T : String} {r d : Addr} {n : Nat} {P : Nat → Value → Prop} {OK : Heap → Prop}
end
theorem dicW_full {K : PySem.W.Frag} {P : Params} {a : Addr} {ks : List Str} (h : He.dicW K a = some (He.keysIn P ks)) : ∃ es n, K.lookup a = some ⟨.type "dict", none, .dict es n, #[]⟩ ∧ (a == sysModules) = false ∧ es.toList.map He.keyOf = He.keysIn P ks := by
  unfold He.dicW at h
  cases q : K.lookup a with
  | none =>
    rw [q] at h
    cases h
  | some o =>
    obtain ⟨oc, od, dt, osl⟩ := o
    rw [q] at h
    cases oc with
    | type c =>
      cases od with
      | none =>
        cases dt with
        | dict es n =>
          have h1 : (match decide (c = "dict") && (osl.isEmpty && !(a == sysModules)) with
            | true => some (es.toList.map He.keyOf)
            | false => none) = some (He.keysIn P ks) := h
          cases z : decide (c = "dict") && (osl.isEmpty && !(a == sysModules)) with
          | false =>
            rw [z] at h1
            cases h1
          | true =>
            rw [z] at h1
            rw [Bool.and_eq_true, Bool.and_eq_true] at z
            obtain ⟨z1, z3, z4⟩ := z
            have e1 : c = "dict" := of_decide_eq_true z1
            have e2 : osl = #[] := Array.isEmpty_iff.mp z3
            subst e1 e2
            exact ⟨es, n, rfl, by simpa using z4, Option.some.inj h1⟩
        | _ => cases h
      | some b => cases dt <;> cases h
    | _ => cases od <;> cases dt <;> cases h
end L2
namespace He
open PySem PySem.Spec PyProof.Rows L2
/-! the head, with tables and one more Bool; what is looked at is gathered level by level -/
def frontD (g : Addr → Option Obj) : Nat → List Addr → List Addr
  | 0, fr => fr
  | n + 1, fr => fr ++ frontD g n (fr.flatMap fun a => match g a with
    | some o => (refsD o).filter fun b => !(Nat.beq a b)
    | none => [])
def asF (g : Addr → Option Obj) (n : Nat) : List Addr := frontD g n [mainGlobals]
abbrev AlX : Type := AlD × (List (Option (List (Option (Str × Int)))) × Bool)
def obsX (fa : List Fa) (fn : List DefD) (ts : List Tab) (ex : PySem.W.Frag → Bool) (K : PySem.W.Frag) : AlX := (obsD fa fn K, (ts.map fun t => dicW K (t.1 K), ex K))
def obsXG (n : Nat) (fa : List Fa) (fn : List DefD) (ts : List Tab) (ex : PySem.W.Frag → Bool) (g : Addr → Option Obj) : AlX := obsX fa fn ts ex (frG g (asF g n))
def valX (fn : List DefD) (ts : List Tab) (w : World) : AlX := (valD fn, (ts.map fun t => some (keysIn w.params t.2), true))
structure SaysX (fa : List Fa) (fn : List DefD) (ts : List Tab) (ex : PySem.W.Frag → Bool) (w : World) (K : PySem.W.Frag) : Prop where
  d : SaysD fa fn K
  tab : (ts.map fun t => dicW K (t.1 K)) = ts.map fun t => some (keysIn w.params t.2)
  more : ex K = true
def hookX (n : Nat) (fa : List Fa) (fn : List DefD) (ts : List Tab) (ex : PySem.W.Frag → Bool) : PySem.W.Hook where
  α := AlX
  obs := fun s => obsXG n fa fn ts ex s.heap.get?
  val := fun w => valX fn ts w
  says := fun w h => ∃ K : PySem.W.Frag, K.In h ∧ SaysX fa fn ts ex w K
  of := fun w _ e => ⟨_, frG_in, ⟨congrArg (fun z : AlX => z.1) e, (show _ = (valX fn ts w).2.1 from congrArg (fun z : AlX => z.2.1) e), congrArg (fun z : AlX => z.2.2) e⟩⟩
  keeps := fun _ _ _ ⟨K, hK, c⟩ k => ⟨K, PySem.W.Frag.In.keeps hK k, c⟩
theorem obsXG_eq {n : Nat} {fa : List Fa} {fn : List DefD} {ts : List Tab} {ex : PySem.W.Frag → Bool} {g : Addr → Option Obj} {s : Shared} (h : ∀ a, g a = s.heap.get? a) : obsXG n fa fn ts ex g = (hookX n fa fn ts ex).obs s := by
  have e : g = s.heap.get? := funext h
  rw [e] <;> rfl
theorem SaysX.at {fa : List Fa} {fn : List DefD} {ts : List Tab} {ex : PySem.W.Frag → Bool} {w : World} {K : PySem.W.Frag} (c : SaysX fa fn ts ex w K) (i : Nat) {t : Tab} (h : ts[i]? = some t := by rfl) : dicW K (t.1 K) = some (keysIn w.params t.2) := by
  have e2 : (ts.map fun t => dicW K (t.1 K))[i]? = (ts.map fun t => some (keysIn w.params t.2))[i]? := by rw [c.tab]
  rw [List.getElem?_map, List.getElem?_map, h] at e2
  exact Option.some.inj e2
end He
namespace He
open PySem PySem.W PySem.Calls PyProof.Rows L2 HandSHeadRun
/-! the run of the top, looked at part by part -/
end He

/-! ### looks at what is written -/
namespace Iv
open PySem PySem.Spec PyProof.Rows L2
end Iv

namespace Wk
open PySem PySem.Spec PyProof.Rows L2 Iv
def top (i : Nat) : Stmt := PySem.Challenge.pw_whatindex_k42_items_faults.main.body.getD i (.Pass ⟨0, 0, 0, 0⟩)
abbrev s_is_whole : Stmt := top 5
abbrev s_is_word : Stmt := top 6
abbrev s_is_one_of : Stmt := top 7
abbrev s_is_tuple_of : Stmt := top 8
abbrev s_is_value : Stmt := top 9
abbrev s_is_row : Stmt := top 10
abbrev s_names_of : Stmt := top 11
abbrev s_are_columns : Stmt := top 12
abbrev s_is_bound : Stmt := top 17
abbrev s_is_condition : Stmt := top 18
abbrev s_are_conditions : Stmt := top 19
abbrev s_ask_fault : Stmt := top 20
abbrev s_item_fault : Stmt := top 23
abbrev s_value_fault : Stmt := top 24
abbrev s_l_bag : Stmt := top 26
abbrev s_l_take : Stmt := top 27
abbrev s_l_form : Stmt := top 28
abbrev s_l_value : Stmt := top 29
abbrev s_l_some : Stmt := top 30
abbrev s_l_conditions : Stmt := top 31
abbrev s_l_ask : Stmt := top 32
abbrev s_l_edit : Stmt := top 33
abbrev s_l_any : Stmt := top 34
abbrev s_l_is_value : Stmt := top 35
abbrev s_l_are_columns : Stmt := top 36
abbrev s_l_are_conditions : Stmt := top 37
abbrev s_l_is_ask : Stmt := top 38
abbrev s_l_due : Stmt := top 39
abbrev s_l_bent : Stmt := top 40
abbrev s_l_copied : Stmt := top 41
abbrev s_law : Stmt := top 42

/-! ### the head -/
def fn : List He.DefD := [⟨("is_whole", none), "is_whole", "is_whole", defArgs s_is_whole, defBody s_is_whole, defScope s_is_whole, [(.int (-999)), (.int (999))], []⟩,
  ⟨("is_word", none), "is_word", "is_word", defArgs s_is_word, defBody s_is_word, defScope s_is_word, [], []⟩,
  ⟨("is_one_of", none), "is_one_of", "is_one_of", defArgs s_is_one_of, defBody s_is_one_of, defScope s_is_one_of, [], []⟩,
  ⟨("is_tuple_of", none), "is_tuple_of", "is_tuple_of", defArgs s_is_tuple_of, defBody s_is_tuple_of, defScope s_is_tuple_of, [], []⟩,
  ⟨("is_value", none), "is_value", "is_value", defArgs s_is_value, defBody s_is_value, defScope s_is_value, [], []⟩,
  ⟨("is_row", none), "is_row", "is_row", defArgs s_is_row, defBody s_is_row, defScope s_is_row, [], []⟩,
  ⟨("names_of", none), "names_of", "names_of", defArgs s_names_of, defBody s_names_of, defScope s_names_of, [], []⟩,
  ⟨("are_columns", none), "are_columns", "are_columns", defArgs s_are_columns, defBody s_are_columns, defScope s_are_columns, [], []⟩,
  ⟨("is_bound", none), "is_bound", "is_bound", defArgs s_is_bound, defBody s_is_bound, defScope s_is_bound, [], []⟩,
  ⟨("is_condition", none), "is_condition", "is_condition", defArgs s_is_condition, defBody s_is_condition, defScope s_is_condition, [], []⟩,
  ⟨("are_conditions", none), "are_conditions", "are_conditions", defArgs s_are_conditions, defBody s_are_conditions, defScope s_are_conditions, [], []⟩,
  ⟨("ask_fault", none), "ask_fault", "ask_fault", defArgs s_ask_fault, defBody s_ask_fault, defScope s_ask_fault, [], []⟩,
  ⟨("item_fault", none), "item_fault", "item_fault", defArgs s_item_fault, defBody s_item_fault, defScope s_item_fault, [], []⟩,
  ⟨("value_fault", none), "value_fault", "value_fault", defArgs s_value_fault, defBody s_value_fault, defScope s_value_fault, [], []⟩,
  ⟨("_law_bag", none), "_law_bag", "_law_bag", defArgs s_l_bag, defBody s_l_bag, defScope s_l_bag, [], []⟩,
  ⟨("_law_take", none), "_law_take", "_law_take", defArgs s_l_take, defBody s_l_take, defScope s_l_take, [], []⟩,
  ⟨("_law_form", none), "_law_form", "_law_form", defArgs s_l_form, defBody s_l_form, defScope s_l_form, [], []⟩,
  ⟨("_law_value", none), "_law_value", "_law_value", defArgs s_l_value, defBody s_l_value, defScope s_l_value, [], []⟩,
  ⟨("_law_some", none), "_law_some", "_law_some", defArgs s_l_some, defBody s_l_some, defScope s_l_some, [], []⟩,
  ⟨("_law_conditions", none), "_law_conditions", "_law_conditions", defArgs s_l_conditions, defBody s_l_conditions, defScope s_l_conditions, [], []⟩,
  ⟨("_law_ask", none), "_law_ask", "_law_ask", defArgs s_l_ask, defBody s_l_ask, defScope s_l_ask, [], []⟩,
  ⟨("_law_edit", none), "_law_edit", "_law_edit", defArgs s_l_edit, defBody s_l_edit, defScope s_l_edit, [], []⟩,
  ⟨("_law_any", none), "_law_any", "_law_any", defArgs s_l_any, defBody s_l_any, defScope s_l_any, [], []⟩,
  ⟨("_law_is_value", none), "_law_is_value", "_law_is_value", defArgs s_l_is_value, defBody s_l_is_value, defScope s_l_is_value, [], []⟩,
  ⟨("_law_are_columns", none), "_law_are_columns", "_law_are_columns", defArgs s_l_are_columns, defBody s_l_are_columns, defScope s_l_are_columns, [], []⟩,
  ⟨("_law_are_conditions", none), "_law_are_conditions", "_law_are_conditions", defArgs s_l_are_conditions, defBody s_l_are_conditions, defScope s_l_are_conditions, [], []⟩,
  ⟨("_law_is_ask", none), "_law_is_ask", "_law_is_ask", defArgs s_l_is_ask, defBody s_l_is_ask, defScope s_l_is_ask, [], []⟩,
  ⟨("_law_due", none), "_law_due", "_law_due", defArgs s_l_due, defBody s_l_due, defScope s_l_due, [], []⟩,
  ⟨("_law_bent", none), "_law_bent", "_law_bent", defArgs s_l_bent, defBody s_l_bent, defScope s_l_bent, [], []⟩,
  ⟨("_law_copied", none), "_law_copied", "_law_copied", defArgs s_l_copied, defBody s_l_copied, defScope s_l_copied, [], []⟩,
  ⟨("law", none), "law", "law", defArgs s_law, defBody s_law, defScope s_law, [], []⟩]
def fa : List He.Fa := [.glo "is_whole", .glo "is_word", .glo "is_one_of", .glo "is_tuple_of", .glo "is_value", .glo "is_row", .glo "names_of", .glo "are_columns", .glo "is_bound", .glo "is_condition", .glo "are_conditions", .glo "ask_fault", .glo "item_fault", .glo "value_fault", .glo "_law_bag", .glo "_law_take", .glo "_law_form", .glo "_law_value", .glo "_law_some", .glo "_law_conditions", .glo "_law_ask", .glo "_law_edit", .glo "_law_any", .glo "_law_is_value", .glo "_law_are_columns", .glo "_law_are_conditions", .glo "_law_is_ask", .glo "_law_due", .glo "_law_bent", .glo "_law_copied", .glo "law", .int "LEAST_NUMBER" (-999), .int "MOST_NUMBER" 999, .int "MOST_LETTERS" 8, .str "LETTERS" "abcdefghijklmnopqrstuvwxyz", .int "MOST_CONDITIONS" 6, .int "MOST_ORDER" 4, .int "MOST_FIRST" 20, .glo "ITEM_LENGTHS", .free "abs", .free "all", .free "any", .free "bool", .free "dict", .free "int", .free "isinstance", .free "len", .free "list", .free "max", .free "min", .free "range", .free "set", .free "sorted", .free "str", .free "tuple", .free "zip"]
def fts : List He.Tab := [(fun K => He.ga K "ITEM_LENGTHS", ["ask", "put", "drop", "set"])]
def fex (K : PySem.W.Frag) : Bool := [He.valsB K (He.ga K "ITEM_LENGTHS") [("ask", .int 2), ("put", .int 2), ("drop", .int 2), ("set", .int 4)]].all id

abbrev RwK : PySem.W.OpenRow := PySem.W.OpenLaw.row PySem.Challenge.rw_whatindex_k42_items_faults
abbrev hk : PySem.W.Hook := He.hookX 6 fa fn fts fex
def ob (s : PySem.W.SharedT) : He.AlX := He.obsXG 6 fa fn fts fex (HandSHeadRun.getT s)
theorem ob_eq (s : PySem.W.SharedT) : ob s = hk.obs s.abs := He.obsXG_eq (HandSHeadRun.getT_eq s)
theorem runf (w : World) : HandSHeadRun.RunEq RwK (PySem.W.view RwK.prog [42]) hk ob 8000 [("LEAST_NUMBER" : PySem.Str), ("MOST_NUMBER" : PySem.Str), ("MOST_LETTERS" : PySem.Str), ("LETTERS" : PySem.Str), ("is_whole" : PySem.Str), ("is_word" : PySem.Str), ("is_one_of" : PySem.Str), ("is_tuple_of" : PySem.Str), ("is_value" : PySem.Str), ("is_row" : PySem.Str), ("names_of" : PySem.Str), ("are_columns" : PySem.Str), ("MOST_CONDITIONS" : PySem.Str), ("MOST_ORDER" : PySem.Str), ("MOST_FIRST" : PySem.Str), ("is_bound" : PySem.Str), ("is_condition" : PySem.Str), ("are_conditions" : PySem.Str), ("ask_fault" : PySem.Str), ("ITEM_LENGTHS" : PySem.Str), ("item_fault" : PySem.Str), ("value_fault" : PySem.Str), ("_law_bag" : PySem.Str), ("_law_take" : PySem.Str), ("_law_form" : PySem.Str), ("_law_value" : PySem.Str), ("_law_some" : PySem.Str), ("_law_conditions" : PySem.Str), ("_law_ask" : PySem.Str), ("_law_edit" : PySem.Str), ("_law_any" : PySem.Str), ("_law_is_value" : PySem.Str), ("_law_are_columns" : PySem.Str), ("_law_are_conditions" : PySem.Str), ("_law_is_ask" : PySem.Str), ("_law_due" : PySem.Str), ("_law_bent" : PySem.Str), ("_law_copied" : PySem.Str)] (w.withFollow "special-get-raises" false) := by
  intro os
  kernel_rfl
theorem runt (w : World) : HandSHeadRun.RunEq RwK (PySem.W.view RwK.prog [42]) hk ob 8000 [("LEAST_NUMBER" : PySem.Str), ("MOST_NUMBER" : PySem.Str), ("MOST_LETTERS" : PySem.Str), ("LETTERS" : PySem.Str), ("is_whole" : PySem.Str), ("is_word" : PySem.Str), ("is_one_of" : PySem.Str), ("is_tuple_of" : PySem.Str), ("is_value" : PySem.Str), ("is_row" : PySem.Str), ("names_of" : PySem.Str), ("are_columns" : PySem.Str), ("MOST_CONDITIONS" : PySem.Str), ("MOST_ORDER" : PySem.Str), ("MOST_FIRST" : PySem.Str), ("is_bound" : PySem.Str), ("is_condition" : PySem.Str), ("are_conditions" : PySem.Str), ("ask_fault" : PySem.Str), ("ITEM_LENGTHS" : PySem.Str), ("item_fault" : PySem.Str), ("value_fault" : PySem.Str), ("_law_bag" : PySem.Str), ("_law_take" : PySem.Str), ("_law_form" : PySem.Str), ("_law_value" : PySem.Str), ("_law_some" : PySem.Str), ("_law_conditions" : PySem.Str), ("_law_ask" : PySem.Str), ("_law_edit" : PySem.Str), ("_law_any" : PySem.Str), ("_law_is_value" : PySem.Str), ("_law_are_columns" : PySem.Str), ("_law_are_conditions" : PySem.Str), ("_law_is_ask" : PySem.Str), ("_law_due" : PySem.Str), ("_law_bent" : PySem.Str), ("_law_copied" : PySem.Str)] (w.withFollow "special-get-raises" true) := by
  intro os
  kernel_rfl
theorem run (w : World) : HandSHeadRun.RunEq RwK (PySem.W.view RwK.prog [42]) hk ob 8000 [("LEAST_NUMBER" : PySem.Str), ("MOST_NUMBER" : PySem.Str), ("MOST_LETTERS" : PySem.Str), ("LETTERS" : PySem.Str), ("is_whole" : PySem.Str), ("is_word" : PySem.Str), ("is_one_of" : PySem.Str), ("is_tuple_of" : PySem.Str), ("is_value" : PySem.Str), ("is_row" : PySem.Str), ("names_of" : PySem.Str), ("are_columns" : PySem.Str), ("MOST_CONDITIONS" : PySem.Str), ("MOST_ORDER" : PySem.Str), ("MOST_FIRST" : PySem.Str), ("is_bound" : PySem.Str), ("is_condition" : PySem.Str), ("are_conditions" : PySem.Str), ("ask_fault" : PySem.Str), ("ITEM_LENGTHS" : PySem.Str), ("item_fault" : PySem.Str), ("value_fault" : PySem.Str), ("_law_bag" : PySem.Str), ("_law_take" : PySem.Str), ("_law_form" : PySem.Str), ("_law_value" : PySem.Str), ("_law_some" : PySem.Str), ("_law_conditions" : PySem.Str), ("_law_ask" : PySem.Str), ("_law_edit" : PySem.Str), ("_law_any" : PySem.Str), ("_law_is_value" : PySem.Str), ("_law_are_columns" : PySem.Str), ("_law_are_conditions" : PySem.Str), ("_law_is_ask" : PySem.Str), ("_law_due" : PySem.Str), ("_law_bent" : PySem.Str), ("_law_copied" : PySem.Str)] w := PySem.W.byRow2 "special-get-raises" (P := HandSHeadRun.RunEq RwK _ hk ob 8000 _) runf runt w

end Wk
open PySem PySem.W PySem.Calls PyProof.Rows in
theorem Wk.closed (hc : WalkO (view (OpenLaw.row PySem.Challenge.rw_whatindex_k42_items_faults).prog [42]) ([("LEAST_NUMBER" : PySem.Str), ("MOST_NUMBER" : PySem.Str), ("MOST_LETTERS" : PySem.Str), ("LETTERS" : PySem.Str), ("is_whole" : PySem.Str), ("is_word" : PySem.Str), ("is_one_of" : PySem.Str), ("is_tuple_of" : PySem.Str), ("is_value" : PySem.Str), ("is_row" : PySem.Str), ("names_of" : PySem.Str), ("are_columns" : PySem.Str), ("MOST_CONDITIONS" : PySem.Str), ("MOST_ORDER" : PySem.Str), ("MOST_FIRST" : PySem.Str), ("is_bound" : PySem.Str), ("is_condition" : PySem.Str), ("are_conditions" : PySem.Str), ("ask_fault" : PySem.Str), ("ITEM_LENGTHS" : PySem.Str), ("item_fault" : PySem.Str), ("value_fault" : PySem.Str), ("_law_bag" : PySem.Str), ("_law_take" : PySem.Str), ("_law_form" : PySem.Str), ("_law_value" : PySem.Str), ("_law_some" : PySem.Str), ("_law_conditions" : PySem.Str), ("_law_ask" : PySem.Str), ("_law_edit" : PySem.Str), ("_law_any" : PySem.Str), ("_law_is_value" : PySem.Str), ("_law_are_columns" : PySem.Str), ("_law_are_conditions" : PySem.Str), ("_law_is_ask" : PySem.Str), ("_law_due" : PySem.Str), ("_law_bent" : PySem.Str), ("_law_copied" : PySem.Str)]) (XL (view (OpenLaw.row PySem.Challenge.rw_whatindex_k42_items_faults).prog [42]) []) Wk.hk.says (OpenLaw.row PySem.Challenge.rw_whatindex_k42_items_faults).toRowW (HandSHeadRun.topDef (OpenLaw.row PySem.Challenge.rw_whatindex_k42_items_faults).prog 42) [] fun f vs => PySem.call f vs) : PySem.Challenge.rw_whatindex_k42_items_faults.Holds := by
  w_on; o_law
  refine HandSHeadRun.head_any (r := OpenLaw.row PySem.Challenge.rw_whatindex_k42_items_faults) (q := view (OpenLaw.row PySem.Challenge.rw_whatindex_k42_items_faults).prog [42]) (H := Wk.hk) (ob := Wk.ob) (M := 8000) (loose := [("LEAST_NUMBER" : PySem.Str), ("MOST_NUMBER" : PySem.Str), ("MOST_LETTERS" : PySem.Str), ("LETTERS" : PySem.Str), ("is_whole" : PySem.Str), ("is_word" : PySem.Str), ("is_one_of" : PySem.Str), ("is_tuple_of" : PySem.Str), ("is_value" : PySem.Str), ("is_row" : PySem.Str), ("names_of" : PySem.Str), ("are_columns" : PySem.Str), ("MOST_CONDITIONS" : PySem.Str), ("MOST_ORDER" : PySem.Str), ("MOST_FIRST" : PySem.Str), ("is_bound" : PySem.Str), ("is_condition" : PySem.Str), ("are_conditions" : PySem.Str), ("ask_fault" : PySem.Str), ("ITEM_LENGTHS" : PySem.Str), ("item_fault" : PySem.Str), ("value_fault" : PySem.Str), ("_law_bag" : PySem.Str), ("_law_take" : PySem.Str), ("_law_form" : PySem.Str), ("_law_value" : PySem.Str), ("_law_some" : PySem.Str), ("_law_conditions" : PySem.Str), ("_law_ask" : PySem.Str), ("_law_edit" : PySem.Str), ("_law_any" : PySem.Str), ("_law_is_value" : PySem.Str), ("_law_are_columns" : PySem.Str), ("_law_are_conditions" : PySem.Str), ("_law_is_ask" : PySem.Str), ("_law_due" : PySem.Str), ("_law_bent" : PySem.Str), ("_law_copied" : PySem.Str)]) (d := HandSHeadRun.topDef (OpenLaw.row PySem.Challenge.rw_whatindex_k42_items_faults).prog 42) (kwd := []) Wk.ob_eq
    (by kernel_rfl) (fun s => by kernel_rfl) Wk.run (by kernel_rfl) (by kernel_rfl) (by kernel_rfl) (by rfl) (by first | assumption | decide +kernel) (by decide +kernel) ⟨rfl, rfl, rfl, rfl, rfl, by decide +kernel⟩ ?hw hc
  case hw => w_witness2

/-! ### data, stores, results -/
namespace Iv
open PySem

inductive D where
  | non | bl (b : Bool) | int (i : Int) | str (x : Str)
  | tup (xs : List D)
  /-- a list that nobody changes any more -/
  | lst (xs : List D)
  /-- a list that is only read (the script) -/
  | scr (xs : List D)
  /-- a box of the store -/
  | ref (n : Nat)
  /-- an instance that nobody changes any more -/
  | ins (c : Nat) (fs : List (Nat × D))
  /-- a built-in class -/
  | ty (n : String)
  /-- a tuple that tuple(..) made: nothing hangs on it -/
  | ntp (xs : List D)
  /-- a caught exception, while its except suite runs -/
  | exv (i c : Nat) (fs : List (Nat × D))
  /-- a pair of a walk: no more is told of it than its items -/
  | wtp (xs : List D)
  deriving Inhabited

inductive Cell where
  | lst (xs : List D)
  | ins (c : Nat) (fs : List (Nat × D))
  | dct (kvs : List (L2.Key × D))
  /-- a dict that is walked -/
  | dlk (kvs : List (L2.Key × D))
  /-- an except suite runs -/
  | hot
  deriving Inhabited

abbrev Sto := List (Option Cell)
abbrev Env := List (Option D)

structure Exc where
  c : Nat
  fs : List (Nat × D)

inductive R (α : Type) where
  | ok (a : α) (S : Sto)
  | exc (x : Exc) (S : Sto)
  | err

def R.bind {α β : Type} (r : R α) (f : α → Sto → R β) : R β := match r with
  | .ok a S => f a S
  | .exc x S => .exc x S
  | .err => .err
@[simp] theorem R.bind_ok {α β : Type} (a : α) (S : Sto) (f : α → Sto → R β) : (R.ok a S).bind f = f a S := rfl
@[simp] theorem R.bind_err {α β : Type} (f : α → Sto → R β) : (R.err : R α).bind f = .err := rfl
@[simp] theorem R.bind_exc {α β : Type} (x : Exc) (S : Sto) (f : α → Sto → R β) : (R.exc x S : R α).bind f = .exc x S := rfl

/-- what must hold, else nothing is told -/
def ck {α : Type} (c : Prop) [Decidable c] (r : R α) : R α := if c then r else .err
theorem ck_of {α : Type} {c : Prop} [Decidable c] {r : R α} (h : c) : ck c r = r := if_pos h

/-! ### frozen data as the library's data -/
mutual
def D.py : D → PyData
  | .non => .none
  | .bl b => .bool b
  | .int i => .int i
  | .str x => .str x
  | .tup xs => .tuple (D.pys xs)
  | .lst xs => .list (D.pys xs)
  | .scr xs => .list (D.pys xs)
  | _ => .none
def D.pys : List D → List PyData
  | [] => []
  | x :: xs => x.py :: D.pys xs
end
mutual
/-- frozen through and through -/
def D.fz : D → Bool
  | .non => true
  | .bl _ => true
  | .int _ => true
  | .str _ => true
  | .tup xs => D.fzs xs
  | .lst xs => D.fzs xs
  | .scr xs => D.fzs xs
  | _ => false
def D.fzs : List D → Bool
  | [] => true
  | x :: xs => x.fz && D.fzs xs
end
mutual
/-- == of frozen data -/
def D.eqv : D → D → Bool
  | .non, .non => true
  | .bl a, .bl b => a == b
  | .bl a, .int j => (if a then 1 else 0) == j
  | .int i, .bl b => i == (if b then 1 else 0)
  | .int i, .int j => i == j
  | .str x, .str y => x == y
  | .tup xs, .tup ys => D.eqvs xs ys
  | .lst xs, .lst ys => D.eqvs xs ys
  | .lst xs, .scr ys => D.eqvs xs ys
  | .scr xs, .lst ys => D.eqvs xs ys
  | .scr xs, .scr ys => D.eqvs xs ys
  | _, _ => false
def D.eqvs : List D → List D → Bool
  | [], [] => true
  | x :: xs, y :: ys => x.eqv y && D.eqvs xs ys
  | _, _ => false
end
mutual
/-- how deep -/
def D.dp : D → Nat
  | .tup xs => D.dps xs + 1
  | .lst xs => D.dps xs + 1
  | .scr xs => D.dps xs + 1
  | _ => 0
def D.dps : List D → Nat
  | [] => 0
  | x :: xs => max x.dp (D.dps xs)
end

/-! ### boxes -/
def cellAt (S : Sto) (n : Nat) : Option Cell := (S[n]?).join
/-- a list, or a tuple, as it stands -/
def seqOf (S : Sto) : D → Option (List D)
  | .tup xs => some xs
  | .lst xs => some xs
  | .scr xs => some xs
  | .ref n => match cellAt S n with
    | some (.lst xs) => some xs
    | _ => none
  | _ => none
/-- a box read as a frozen list -/
def unbox (S : Sto) : D → D
  | .ref n => match cellAt S n with
    | some (.lst xs) => .lst xs
    | _ => .ref n
  | d => d
/-- the same through and through -/
def deep : Nat → Sto → D → D
  | 0, _, d => d
  | k + 1, S, d => match d with
    | .tup xs => .tup (xs.map (deep k S))
    | .lst xs => .lst (xs.map (deep k S))
    | .ref n => match cellAt S n with
      | some (.lst xs) => .lst (xs.map (deep k S))
      | _ => .ref n
    | d => d
/-- a new list: a box, or frozen -/
def mkL (box : Bool) (xs : List D) (S : Sto) : R D := match box with
  | true => .ok (.ref S.length) (S ++ [some (.lst xs)])
  | false => .ok (.lst xs) S
def setAt (S : Sto) (n : Nat) (c : Cell) : Sto := S.set n (some c)

/-! ### what operators tell -/
def mulOk (i j : Int) : Prop := (-(2 ^ 64) < i ∧ i < 2 ^ 64) ∨ (-(2 ^ 64) < j ∧ j < 2 ^ 64)
instance (i j : Int) : Decidable (mulOk i j) := by unfold mulOk; infer_instance
inductive Bop where
  | add | sub | mul | div | mod | pow
def addR (box : Bool) (x y : D) (S : Sto) : R D := match x, y with
  | .int i, .int j => .ok (.int (i + j)) S
  | .str a, .str b => ck (a.length + b.length ≤ sizeLine) (.ok (.str (a ++ b)) S)
  | .tup a, .tup b => ck (a.length + b.length ≤ sizeLine) (.ok (.tup (a ++ b)) S)
  | _, _ => match unbox S x, unbox S y with
    | .lst a, .lst b => ck (a.length + b.length ≤ sizeLine) (mkL box (a ++ b) S)
    | _, _ => .err
def binR (box : Bool) (op : Bop) (x y : D) (S : Sto) : R D := match op with
  | .add => addR box x y S
  | .sub => match x, y with
    | .int i, .int j => .ok (.int (i - j)) S
    | _, _ => .err
  | .mul => match x, y with
    | .int i, .int j => ck (mulOk i j) (.ok (.int (i * j)) S)
    | .str z, .int j => ck (z.length ≤ 1000 ∧ 0 ≤ j ∧ j ≤ 1000) (.ok (.str (Txt.mul z j)) S)
    | _, _ => .err
  | .div => match x, y with
    | .int i, .int j => ck (0 < j ∧ j < 1073741824) (.ok (.int (i / j)) S)
    | _, _ => .err
  | .mod => match x, y with
    | .int i, .int j => ck (0 < j) (.ok (.int (i % j)) S)
    | _, _ => .err
  | .pow => match x, y with
    | .int i, .int j => ck (0 ≤ j ∧ j ≤ 1000000 ∧ i.natAbs < 2 ^ 64) (.ok (.int (i ^ j.toNat)) S)
    | _, _ => .err
/-- the truth of a value -/
def truR (S : Sto) : D → Option Bool
  | .non => some false
  | .bl b => some b
  | .int i => some (i != 0)
  | .str z => some ((z.length : Int) != 0)
  | d => (seqOf S d).map fun xs => !xs.isEmpty
def tru (d : D) (S : Sto) : R Bool := match truR S d with
  | some b => .ok b S
  | none => .err
inductive Cop where
  | eq | ne | lt | le | gt | ge | isN | notN | isIn | notIn
  /-- == and != of boxes that hold boxes -/
  | eqd | ned
def eqD (x y : D) (S : Sto) (k : Bool → R D) : R D := ck ((unbox S x).fz = true ∧ (unbox S y).fz = true ∧ (unbox S x).dp ≤ 64 ∧ (unbox S y).dp ≤ 64) (k ((unbox S x).eqv (unbox S y)))
def eqX (x y : D) (S : Sto) (k : Bool → R D) : R D := ck ((deep 8 S x).fz = true ∧ (deep 8 S y).fz = true ∧ (deep 8 S x).dp ≤ 64 ∧ (deep 8 S y).dp ≤ 64) (k ((deep 8 S x).eqv (deep 8 S y)))
def notNon : D → Bool
  | .non => false
  | _ => true
/-- x < y of alike data -/
def ltD (x y : D) : Bool := PySem.W.dataLt x.py y.py
def ordX (x y : D) (r : R D) : R D := ck (x.fz = true ∧ y.fz = true ∧ x.dp ≤ 60 ∧ y.dp ≤ 60 ∧ PySem.W.alike x.py y.py = true ∧ notNon x = true) r
/-- a text within a text -/
def hasT (b a : Str) : Bool := !(Builtin.Str.occurrences b a 0 b.length 1).isEmpty
def cmpR (op : Cop) (x y : D) (S : Sto) : R D := match op with
  | .eq => eqD x y S fun b => .ok (.bl b) S
  | .ne => eqD x y S fun b => .ok (.bl (!b)) S
  | .eqd => eqX x y S fun b => .ok (.bl b) S
  | .ned => eqX x y S fun b => .ok (.bl (!b)) S
  | .lt => match x, y with
    | .int i, .int j => .ok (.bl (decide (i < j))) S
    | _, _ => ordX x y (.ok (.bl (ltD x y)) S)
  | .le => match x, y with
    | .int i, .int j => .ok (.bl (decide (i ≤ j))) S
    | _, _ => ordX x y (.ok (.bl (!ltD y x)) S)
  | .gt => match x, y with
    | .int i, .int j => .ok (.bl (decide (j < i))) S
    | _, _ => .err
  | .ge => match x, y with
    | .int i, .int j => .ok (.bl (decide (j ≤ i))) S
    | _, _ => .err
  | .isN => match y with
    | .non => .ok (.bl (match x with | .non => true | _ => false)) S
    | .bl b => match x with
      | .bl a => .ok (.bl (decide (a = b))) S
      | _ => .err
    | _ => .err
  | .notN => match y with
    | .non => .ok (.bl (match x with | .non => false | _ => true)) S
    | .bl b => match x with
      | .bl a => .ok (.bl (!decide (a = b))) S
      | _ => .err
    | _ => .err
  | .isIn => inR x y S fun b => .ok (.bl b) S
  | .notIn => inR x y S fun b => .ok (.bl (!b)) S
where
  inR (x y : D) (S : Sto) (k : Bool → R D) : R D := match x, y with
    | .str a, .str b => match a.cps.toList with
      | [c] => k (decide (c ∈ b.cps.toList))
      | _ => k (hasT b a)
    | _, _ => match seqOf S y with
      | some ys => ck (x.fz = true ∧ x.dp ≤ 63 ∧ D.fzs ys = true ∧ D.dps ys ≤ 63) (k (ys.any fun z => z.eqv x))
      | none => .err
/-- an item by its place -/
def atD {α : Type} (xs : List α) (i : Int) : Option α := if 0 ≤ i then xs[i.toNat]? else if -(xs.length : Int) ≤ i then xs[(i + xs.length).toNat]? else none
def idxR (x y : D) (S : Sto) : R D := match y with
  | .int i => match x with
    | .str z => match atD z.cps.toList i with
      | some c => .ok (.str ⟨#[c]⟩) S
      | none => .err
    | _ => match seqOf S x with
      | some xs => match atD xs i with
        | some d => .ok d S
        | none => .err
      | none => .err
  | _ => .err
/-- the bounds of a slice -/
def cutD {α : Type} (xs : List α) (lo hi : Option Int) : List α := (xs.drop (HT.sIx xs.length 0 lo)).take (HT.sIx xs.length xs.length hi - HT.sIx xs.length 0 lo)
def slcR (box : Bool) (x : D) (lo hi : Option Int) (S : Sto) : R D := match x with
  | .tup xs => .ok (.tup (cutD xs lo hi)) S
  | .str z => .ok (.str (L2.cutS z lo hi)) S
  | _ => match seqOf S x with
    | some xs => mkL box (cutD xs lo hi) S
    | none => .err
end Iv

/-! ### programs over data -/
namespace Iv
open PySem L2

/-- where a parameter's value comes from: an argument, a default -/
inductive Ar where
  | a (j : Nat) | d (d : D)
inductive Bi where
  | len | abs | min2 | max2 | minL | maxL | sumL | sumS | all | any | int1 | list1 (box : Bool) | tuple1 | sorted1 (box : Bool) | isi | isc (c : Nat) | maxD | sumLL | str1 | sortedR (box : Bool) | strp | intS
inductive Bm where
  | append | insert | index | count | join | upper | clear | remove | pop1 | sindex | split | part

mutual
inductive E where
  | var (i : Nat)
  | con (d : D)
  | bin (box : Bool) (op : Bop) (a b : E)
  | neg (a : E) | not (a : E)
  | cmp (op : Cop) (a b : E)
  | chain (op op' : Cop) (a b c : E)
  | and (a b : E) | or (a b : E)
  | ife (c a b : E)
  | tup (es : List E)
  | lst (box : Bool) (es : List E)
  | idx (a i : E)
  | slc (box : Bool) (a : E) (lo hi : Option E)
  | rev (box : Bool) (a : E)
  /-- a[::s], s is 1 or -1 -/
  | slst (box : Bool) (a s : E)
  | lc (box : Bool) (own : List Nat) (tg : Tg) (it : It) (ifs : List E) (elt : E)
  | lc2 (box : Bool) (own own1 : List Nat) (tg : Tg) (it : It) (ifs : List E) (tg1 : Tg) (it1 : It) (ifs1 : List E) (elt : E)
  | call (f : Nat) (arr : List Ar) (es : List E)
  | meth (o : E) (ms : List (Nat × Nat × List Ar)) (es : List E)
  | make (fr : Bool) (c f : Nat) (arr : List Ar) (es : List E)
  | attr (o : E) (f : Nat)
  | bi (b : Bi) (es : List E)
  | bm (m : Bm) (o : E) (es : List E)
  | frz (a : E)
  | trng (a b : E)
  /-- isinstance(a, (t, ..)) -/
  | isit (a : E) (ts : List String)
  | lrng (box : Bool) (a b : E)
  /-- dicts: {}, d[k], k in d, d.get(k, x), d.pop(k), sorted(d), {k: v for ..} -/
  | dnew
  | didx (o k : E)
  | din (neg : Bool) (k o : E)
  | dget2 (o k x : E)
  | dpop (o k : E)
  | dsort (box : Bool) (o : E)
  | dcomp (own : List Nat) (tg : Tg) (it : It) (ifs : List E) (k v : E)
  /-- len({..}), sorted({..}) of ints -/
  | lenSC (own : List Nat) (tg : Tg) (it : It) (ifs : List E) (elt : E)
  | sortSC (own : List Nat) (tg : Tg) (it : It) (ifs : List E) (elt : E)
  /-- len(set(a)), sorted(set(a)) -/
  | lenS (a : E)
  | sortS (a : E)
  /-- tuple(a) of a list, told as made; told as any tuple; t.index(x) of a made one, texts -/
  | ntup (a : E) | untup (a : E)
  | tidx (o x : E)
  /-- t.count(x) of a tuple of texts; (x,) * 2 -/
  | tcnt (o x : E)
  | tcnta (o x : E)
  /-- a == b of two instances of the class c, by its own __eq__ -/
  | eqo (a b : E) (c f : Nat) (arr : List Ar)
  | twice (a : E)
  /-- {k: e, ..} -/
  | ddisp (ks : List L2.Key) (es : List E)
  /-- len(d) of a dict; of a module's written dicts: D[k], k a text, ints; tuple(D) -/
  | dlen (o : E)
  | klook (kvs : List (Str × Int)) (k : E)
  /-- D.get(k, d) of a module's written dict -/
  | kget (kvs : List (Str × Int)) (k d : E)
  | ktup (ks : List Str)
  /-- e, while the dict d is locked: it is walked within -/
  | lock (d e : E)
  /-- dict(a), a a list of pairs -/
  | dpairs (a : E)
  | dpairsT (a : E)
  /-- sorted(d, reverse=True), keys ints; d == {} -/
  | dsortD (box : Bool) (a : E)
  | deq0 (a : E)
  /-- isinstance(e, C), e.f of the caught exception -/
  | isx (a : E) (yes no : List Nat)
  | xfd (a : E) (c f : Nat)
  /-- isinstance(x, C), C a class of the program -/
  | isO (a : E) (c : Nat) (ks : List Nat)
inductive It where
  | e (a : E)
  | rng1 (a : E) | rng2 (a b : E)
  | rng3 (a b c : E)
  | enum (s : Option E) (a : E)
  /-- enumerate(a, start=s) -/
  | enumS (a s : E)
  | zip (strict : Bool) (a b : E)
  /-- zip(a, b), its pairs taken apart at once -/
  | zipw (a b : E)
  /-- boxes may be walked -/
  | zipb (a b : E)
  /-- d.items(), a walk of d: the dict is locked -/
  | items (o : E) | keys (o : E)
inductive Tg where
  | var (i : Nat)
  | tup (ts : List Tg)
  | tupw (ts : List Tg)
  | idx (o i : E)
  | attr (o : E) (f : Nat) (cs : List Nat)
  /-- a, b, *rest -/
  | tups (ts : List Tg)
  /-- xs[a:b] -/
  | slc (o lo hi : E)
  /-- d[k] -/
  | didx (o k : E)
end
inductive St where
  | expr (e : E)
  | asg (t : Tg) (e : E)
  | aug (i : Nat) (op : Bop) (e : E)
  | ite (c : E) (a b : List St)
  | for (t : Tg) (it : It) (body : List St)
  | while (c : E) (body : List St)
  | ret (e : E) | retN | brk | cont | pass
  | lock (d : E) (st : St)
  /-- a try's body that raises nothing -/
  | blk (b : List St)
  /-- nothing is told of what raises -/
  | raise
  /-- o.f op= e -/
  | faug (o : E) (f : Nat) (op : Bop) (e : E)
  /-- raise C(), raise C(e): the field f holds e -/
  | raise0 (c : Nat)
  | raise1 (c f : Nat) (e : E)
  /-- try: b except (C as i): h; yes, no: the classes that C catches, and not -/
  | tryx (b : List St) (yes no : List Nat) (i : Option Nat) (h : List St)

abbrev CE := Nat → List D → Sto → R D

def pick (ds : List D) : List Ar → Option (List D)
  | [] => some []
  | .a j :: r => match ds[j]? with
    | some d => (pick ds r).map (d :: ·)
    | none => none
  | .d d :: r => (pick ds r).map (d :: ·)
def callR (F : CE) (f : Nat) (arr : List Ar) (ds : List D) (S : Sto) : R D := match pick ds arr with
  | some ps => F f ps S
  | none => .err

/-! ### built-in functions -/
def intsD : List D → Option (List Int)
  | [] => some []
  | .int i :: r => (intsD r).map (i :: ·)
  | _ => none
def blsD : List D → Option (List Bool)
  | [] => some []
  | .bl i :: r => (blsD r).map (i :: ·)
  | _ => none
def strsD : List D → Option (List Str)
  | [] => some []
  | .str i :: r => (strsD r).map (i :: ·)
  | _ => none
def lenR (S : Sto) : D → Option Nat
  | .str z => some z.length
  | d => (seqOf S d).map (·.length)
def minI : List Int → Option Int
  | [] => none
  | i :: r => some (r.foldl (fun m x => if x < m then x else m) i)
def maxI : List Int → Option Int
  | [] => none
  | i :: r => some (r.foldl (fun m x => if m < x then x else m) i)
def leD (a b : D) : Bool := PySem.W.dataLe false D.py a b
def sortD (xs : List D) : List D := xs.mergeSort leD
def leR (a b : D) : Bool := PySem.W.dataLe true D.py a b
def sortRD (xs : List D) : List D := xs.mergeSort leR
def sortable (ds : List PyData) : Prop := (∀ d ∈ ds, ∀ d' ∈ ds, PySem.W.alike d d' = true) ∧ ((∀ d, d ∈ ds → ∃ x r, d = .tuple (x :: r)) ∨ ∀ d, d ∈ ds → d ≠ .none ∧ ∀ xs, d ≠ .tuple xs)
noncomputable instance (ds : List PyData) : Decidable (sortable ds) := Classical.propDecidable _
/-- the built-in class of a value -/
def tyOf (S : Sto) : D → Option String
  | .non => some "NoneType"
  | .bl _ => some "bool"
  | .int _ => some "int"
  | .str _ => some "str"
  | .tup _ => some "tuple"
  | .lst _ => some "list"
  | .scr _ => some "list"
  | .ref n => match cellAt S n with
    | some (.lst _) => some "list"
    | _ => none
  | _ => none
def clsOf (S : Sto) : D → Option Nat
  | .ins c _ => some c
  | .ref n => match cellAt S n with
    | some (.ins c _) => some c
    | _ => none
  | _ => none
def biLen (S : Sto) : List D → R D
  | [x] => match lenR S x with
    | some n => .ok (.int n) S
    | none => .err
  | _ => .err
def biAbs (S : Sto) : List D → R D
  | [.int i] => .ok (.int (if i < 0 then -i else i)) S
  | _ => .err
def lessT (a b : Str) : Bool := decide (a.cps.toList < b.cps.toList)
def biMin2 (S : Sto) : List D → R D
  | [.int i, .int j] => .ok (.int (if j < i then j else i)) S
  | [.str a, .str b] => .ok (.str (if lessT b a then b else a)) S
  | _ => .err
def biMax2 (S : Sto) : List D → R D
  | [.int i, .int j] => .ok (.int (if j > i then j else i)) S
  | [.str a, .str b] => .ok (.str (if lessT a b then b else a)) S
  | _ => .err
/-- a list, not a tuple -/
def lstOf (S : Sto) : D → Option (List D)
  | .tup _ => none
  | d => seqOf S d
def intsOf (S : Sto) (x : D) : Option (List Int) := (lstOf S x).bind intsD
def biMinL (S : Sto) : List D → R D
  | [x] => match (intsOf S x).bind minI with
    | some i => .ok (.int i) S
    | none => .err
  | _ => .err
def biMaxL (S : Sto) : List D → R D
  | [x] => match (intsOf S x).bind maxI with
    | some i => .ok (.int i) S
    | none => .err
  | _ => .err
def biSumL (S : Sto) : List D → R D
  | [x] => match intsOf S x with
    | some ns => .ok (.int ns.sum) S
    | none => .err
  | _ => .err
def biSumS (S : Sto) : List D → R D
  | [x, .int i] => match intsOf S x with
    | some ns => .ok (.int (i + ns.sum)) S
    | none => .err
  | _ => .err
def biAll (S : Sto) : List D → R D
  | [x] => match (lstOf S x).bind blsD with
    | some bs => .ok (.bl (bs.all id)) S
    | none => .err
  | _ => .err
def biAny (S : Sto) : List D → R D
  | [x] => match (lstOf S x).bind blsD with
    | some bs => .ok (.bl (bs.any id)) S
    | none => .err
  | _ => .err
def biInt (S : Sto) : List D → R D
  | [.int i] => .ok (.int i) S
  | [.bl k] => .ok (.int (if k then 1 else 0)) S
  | _ => .err
def biList (box : Bool) (S : Sto) : List D → R D
  | [x] => match seqOf S x with
    | some xs => mkL box xs S
    | none => .err
  | _ => .err
def biTuple (S : Sto) : List D → R D
  | [x] => match seqOf S x with
    | some xs => .ok (.tup xs) S
    | none => .err
  | _ => .err
noncomputable def biSorted (box : Bool) (S : Sto) : List D → R D
  | [x] => match lstOf S x with
    | some xs => ck (D.fzs xs = true ∧ D.dps xs ≤ 60 ∧ sortable (D.pys xs)) (mkL box (sortD xs) S)
    | none => .err
  | _ => .err
noncomputable def biSortedR (box : Bool) (S : Sto) : List D → R D
  | [x, .bl true] => match lstOf S x with
    | some xs => ck (D.fzs xs = true ∧ D.dps xs ≤ 60 ∧ sortable (D.pys xs)) (mkL box (sortRD xs) S)
    | none => .err
  | _ => .err
def biMaxD (S : Sto) : List D → R D
  | [x, .int d] => match intsOf S x with
    | some ns => .ok (.int (match maxI ns with | some i => i | none => d)) S
    | none => .err
  | _ => .err
def lstsD (S : Sto) : List D → Option (List (List D))
  | [] => some []
  | x :: r => match unbox S x with
    | .lst ys => (lstsD S r).map (ys :: ·)
    | _ => none
def biSumLL (S : Sto) : List D → R D
  | [x, .lst []] => match (lstOf S x).bind (lstsD S) with
    | some ys => ck (ys.flatten.length ≤ 1000) (.ok (.lst ys.flatten) S)
    | none => .err
  | _ => .err
def biIsi (S : Sto) : List D → R D
  | [x, .ty n] => match (tyOf S x).bind fun a => kitB a n with
    | some b => .ok (.bl b) S
    | none => .err
  | _ => .err
/-- str() of a list or a tuple -/
def isSeqD : D → Bool
  | .tup _ => true
  | .lst _ => true
  | .scr _ => true
  | .ref _ => true
  | _ => false
/-- str() of what is no sequence -/
def strA : D → Option Str
  | .non => some "None"
  | .bl b => some (if b then "True" else "False")
  | .int i => if i.natAbs.log2 < 1920 then some (toString i) else none
  | .str z => some z
  | _ => none
def biStrA (S : Sto) (z : Str) : R D := ck (z.length ≤ sizeLine ∧ ∀ c ∈ z.cps.toList, c < 1114112) (.ok (.str z) S)
def biStr (S : Sto) : List D → R D
  | [x] => match strA x with
    | some z => biStrA S z
    | none => ck (isSeqD x = true ∧ (deep 8 S x).fz = true ∧ (deep 8 S x).dp ≤ 60 ∧ (deep 8 S x).py.showable = true ∧ (deep 8 S x).py.shown.length ≤ sizeLine ∧ ∀ c ∈ (deep 8 S x).py.shown.cps.toList, c < 1114112) (.ok (.str (deep 8 S x).py.shown) S)
  | _ => .err
/-- str() of an int, of a text -/
def biStrp (S : Sto) : List D → R D
  | [.int i] => ck (i.natAbs.log2 < 1920) (biStrA S (toString i))
  | [.str z] => .ok (.str z) S
  | _ => .err
/-- int() of a text -/
def biIntS (S : Sto) : List D → R D
  | [.str z] => match PySem.intText? z with
    | some n => ck (z.length ≤ 640) (.ok (.int n) S)
    | none => .err
  | _ => .err
noncomputable def biR (b : Bi) (ds : List D) (S : Sto) : R D := match b with
  | .len => biLen S ds
  | .abs => biAbs S ds
  | .min2 => biMin2 S ds
  | .max2 => biMax2 S ds
  | .minL => biMinL S ds
  | .maxL => biMaxL S ds
  | .sumL => biSumL S ds
  | .sumS => biSumS S ds
  | .all => biAll S ds
  | .any => biAny S ds
  | .int1 => biInt S ds
  | .list1 box => biList box S ds
  | .tuple1 => biTuple S ds
  | .sorted1 box => biSorted box S ds
  | .isi => biIsi S ds
  | .isc _ => .err
  | .maxD => biMaxD S ds
  | .sumLL => biSumLL S ds
  | .str1 => biStr S ds
  | .sortedR box => biSortedR box S ds
  | .strp => biStrp S ds
  | .intS => biIntS S ds
/-- is it a receiver for that method -/
def bmOk (m : Bm) (o : D) (S : Sto) : Bool := match m, o with
  | .append, .ref n => match cellAt S n with
    | some (.lst _) => true
    | _ => false
  | .insert, .ref n => match cellAt S n with
    | some (.lst _) => true
    | _ => false
  | .join, .str _ => true
  | .sindex, .str _ => true
  | .split, .str _ => true
  | .part, .str _ => true
  | .remove, .ref n => match cellAt S n with
    | some (.lst _) => true
    | _ => false
  | .pop1, .ref n => match cellAt S n with
    | some (.lst _) => true
    | _ => false
  | .index, d => (lstOf S d).isSome
  | .count, d => (lstOf S d).isSome
  | .clear, .ref n => match cellAt S n with
    | some (.lst _) => true
    | _ => false
  | _, _ => false
def insertAt (xs : List D) (i : Int) (y : D) : List D := xs.take i.toNat ++ [y] ++ xs.drop i.toNat
def bmAppend (S : Sto) (o : D) : List D → R D
  | [y] => match o with
    | .ref n => match cellAt S n with
      | some (.lst xs) => ck (xs.length < sizeLine) (.ok .non (setAt S n (.lst (xs ++ [y]))))
      | _ => .err
    | _ => .err
  | _ => .err
def bmInsert (S : Sto) (o : D) : List D → R D
  | [.int i, y] => match o with
    | .ref n => match cellAt S n with
      | some (.lst xs) => ck (xs.length < sizeLine ∧ 0 ≤ i ∧ i < 2 ^ 63) (.ok .non (setAt S n (.lst (insertAt xs i y))))
      | _ => .err
    | _ => .err
  | _ => .err
def bmJoin (S : Sto) (o : D) : List D → R D
  | [x] => match o with
    | .str a => match (seqOf S x).bind strsD with
      | some ys => ck ((ys.map (·.length)).sum + ys.length * a.length ≤ 16777216) (.ok (.str (Txt.join a ys)) S)
      | none => .err
    | _ => .err
  | _ => .err
def bmRemove (S : Sto) (o : D) : List D → R D
  | [y] => match o with
    | .ref n => match cellAt S n with
      | some (.lst xs) => match xs.findIdx? (fun z => z.eqv y) with
        | some j => ck (D.fzs xs = true ∧ y.fz = true ∧ D.dps xs ≤ 60 ∧ y.dp ≤ 60 ∧ xs.length ≤ sizeLine) (.ok .non (setAt S n (.lst (xs.eraseIdx j))))
        | none => .err
      | _ => .err
    | _ => .err
  | _ => .err
def bmPop (S : Sto) (o : D) : List D → R D
  | [.int i] => match o with
    | .ref n => match cellAt S n with
      | some (.lst xs) => match xs[i.toNat]? with
        | some d => ck (0 ≤ i ∧ i < 1000000) (.ok d (setAt S n (.lst (xs.eraseIdx i.toNat))))
        | none => .err
      | _ => .err
    | _ => .err
  | _ => .err
def bmIndex (S : Sto) (o : D) : List D → R D
  | [y] => match lstOf S o with
    | some xs => match xs.findIdx? (fun z => z.eqv y) with
      | some j => ck (D.fzs xs = true ∧ y.fz = true ∧ D.dps xs ≤ 60 ∧ y.dp ≤ 60) (.ok (.int (j : Nat)) S)
      | none => .err
    | none => .err
  | _ => .err
def isS : D → Bool
  | .str _ => true
  | _ => false
def isNtp : D → Bool
  | .ntp _ => true
  | _ => false
def noExc (r : R D) : R D := match r with
  | .ok (.bl b) S => .ok (.bl b) S
  | _ => .err
def isTx : D → Bool
  | .tup (x :: xs) => isS x && xs.all isS
  | _ => false
def tcntR (o x : D) (S : Sto) : R D := match o, x with
  | .tup xs, .str z => match strsD xs with
    | some ys => ck (ys.length ≤ 1000) (.ok (.int (ys.countP fun y => y == z : Nat)) S)
    | none => .err
  | _, _ => .err
/-- a tuple with items -/
def isTu : D → Bool
  | .tup (_ :: _) => true
  | _ => false
def tcntaR (o y : D) (S : Sto) : R D := match o with
  | .tup xs => ck (D.fzs xs = true ∧ y.fz = true ∧ D.dps xs ≤ 60 ∧ y.dp ≤ 60) (.ok (.int (xs.countP fun z => z.eqv y : Nat)) S)
  | _ => .err
def twiceR (x : D) (S : Sto) : R D := match x with
  | .tup [d] => .ok (.tup [d, d]) S
  | _ => .err
def tidxR (o x : D) (S : Sto) : R D := match o, x with
  | .ntp xs, .str z => match strsD xs with
    | some ys => match ys.findIdx? (fun y => y == z) with
      | some j => .ok (.int (j : Nat)) S
      | none => .err
    | none => .err
  | _, _ => .err
def bmCount (S : Sto) (o : D) : List D → R D
  | [y] => match lstOf S o with
    | some xs => ck (D.fzs xs = true ∧ y.fz = true ∧ D.dps xs ≤ 60 ∧ y.dp ≤ 60) (.ok (.int (xs.countP fun z => z.eqv y : Nat)) S)
    | none => .err
  | _ => .err
def bmSIndex (S : Sto) (o : D) : List D → R D
  | [.str b] => match o with
    | .str a => match Builtin.Str.occurrences a b 0 a.length 1 with
      | i :: _ => .ok (.int (i : Nat)) S
      | [] => .err
    | _ => .err
  | _ => .err
/-- are the library's rules for texts there for all of them -/
def okTs (l : List Str) : Prop := ∀ z ∈ l, z.length ≤ sizeLine ∧ ∀ c ∈ z.cps.toList, c < 1114112
instance (l : List Str) : Decidable (okTs l) := by unfold okTs; infer_instance
def bmSplit (S : Sto) (o : D) : List D → R D
  | [.str b] => match o with
    | .str a => ck ((b.length == 0) = false ∧ a.length + 2 ≤ sizeLine ∧ okTs (Txt.split a b)) (.ok (.lst ((Txt.split a b).map .str)) S)
    | _ => .err
  | _ => .err
def bmPart (S : Sto) (o : D) : List D → R D
  | [.str b] => match o with
    | .str a => ck ((b.length == 0) = false ∧ a.length ≤ sizeLine ∧ okTs [(Txt.partition a b).1, (Txt.partition a b).2.1, (Txt.partition a b).2.2]) (.ok (.tup [.str (Txt.partition a b).1, .str (Txt.partition a b).2.1, .str (Txt.partition a b).2.2]) S)
    | _ => .err
  | _ => .err
def bmClear (S : Sto) (o : D) : List D → R D
  | [] => match o with
    | .ref n => match cellAt S n with
      | some (.lst _) => .ok .non (setAt S n (.lst []))
      | _ => .err
    | _ => .err
  | _ => .err
def bmR (m : Bm) (o : D) (ds : List D) (S : Sto) : R D := match m with
  | .append => bmAppend S o ds
  | .insert => bmInsert S o ds
  | .join => bmJoin S o ds
  | .clear => bmClear S o ds
  | .remove => bmRemove S o ds
  | .pop1 => bmPop S o ds
  | .index => bmIndex S o ds
  | .count => bmCount S o ds
  | .sindex => bmSIndex S o ds
  | .split => bmSplit S o ds
  | .part => bmPart S o ds
  | _ => .err

/-! ### dicts -/
def keyD : D → Option L2.Key
  | .int i => some (.inl i)
  | .str x => some (.inr x)
  | _ => none
def keyV : L2.Key → D
  | .inl i => .int i
  | .inr x => .str x
def dGet (kvs : List (L2.Key × D)) (k : L2.Key) : Option D := (kvs.find? fun kv => decide (kv.1 = k)).map (·.2)
def dPut (kvs : List (L2.Key × D)) (k : L2.Key) (v : D) : List (L2.Key × D) := if (kvs.any fun kv => decide (kv.1 = k)) = true then kvs.map (fun kv => if kv.1 = k then (kv.1, v) else kv) else kvs ++ [(k, v)]
def dDrop (kvs : List (L2.Key × D)) (k : L2.Key) : List (L2.Key × D) := kvs.filter fun kv => decide (kv.1 ≠ k)
def dctOf (S : Sto) : D → Option (Nat × List (L2.Key × D))
  | .ref n => match cellAt S n with
    | some (.dct kvs) => some (n, kvs)
    | _ => none
  | _ => none
/-- a dict to be read: perhaps a walked one -/
def drdOf (S : Sto) : D → Option (List (L2.Key × D))
  | .ref n => match cellAt S n with
    | some (.dct kvs) => some kvs
    | some (.dlk kvs) => some kvs
    | _ => none
  | _ => none
def dlkOf (S : Sto) : D → Option (Nat × List (L2.Key × D))
  | .ref n => match cellAt S n with
    | some (.dlk kvs) => some (n, kvs)
    | _ => none
  | _ => none
def didxR (x y : D) (S : Sto) : R D := match drdOf S x, keyD y with
  | some p, some k => match dGet p k with
    | some d => .ok d S
    | none => .err
  | _, _ => .err
def dinR (neg : Bool) (y x : D) (S : Sto) : R D := match drdOf S x, keyD y with
  | some p, some k => .ok (.bl (if neg then !(dGet p k).isSome else (dGet p k).isSome)) S
  | _, _ => .err
def dget2R (x y z : D) (S : Sto) : R D := match drdOf S x, keyD y with
  | some p, some k => .ok ((dGet p k).getD z) S
  | _, _ => .err
def dpopR (x y : D) (S : Sto) : R D := match dctOf S x, keyD y with
  | some p, some k => match dGet p.2 k with
    | some d => .ok d (setAt S p.1 (.dct (dDrop p.2 k)))
    | none => .err
  | _, _ => .err
def dputR (x y d : D) (S : Sto) : R Unit := match dctOf S x, keyD y with
  | some p, some k => ck (p.2.length < sizeLine) (.ok () (setAt S p.1 (.dct (dPut p.2 k d))))
  | _, _ => .err
def intKs : List (L2.Key × D) → Option (List Int)
  | [] => some []
  | (.inl i, _) :: r => (intKs r).map (i :: ·)
  | _ => none
def strKs : List (L2.Key × D) → Option (List Str)
  | [] => some []
  | (.inr i, _) :: r => (strKs r).map (i :: ·)
  | _ => none
/-- ints, texts in order -/
def srtI (ns : List Int) : List Int := ns.mergeSort fun a b => decide (a ≤ b)
def srtS (ns : List Str) : List Str := ns.mergeSort fun a b => !decide (b.cps.toList < a.cps.toList)
def dsortR (box : Bool) (x : D) (S : Sto) : R D := match dctOf S x with
  | some p => match intKs p.2, strKs p.2 with
    | some ns, _ => ck (ns.length < 64) (mkL box ((srtI ns).map .int) S)
    | none, some ns => ck (ns.length < 64) (mkL box ((srtS ns).map .str) S)
    | none, none => .err
  | none => .err
/-- the pairs that a dict comprehension made -/
def pairsD : List D → Option (List (L2.Key × D))
  | [] => some []
  | .tup [k, v] :: r => match keyD k with
    | some k => (pairsD r).map ((k, v) :: ·)
    | none => none
  | _ => none
def mergeD (es : List (L2.Key × D)) : List (L2.Key × D) := es.foldl (fun acc kv => dPut acc kv.1 kv.2) []
def mkDct (ys : List D) (S : Sto) : R D := match pairsD ys with
  | some es => ck (ys.length < sizeLine) (.ok (.ref S.length) (S ++ [some (.dct (mergeD es))]))
  | none => .err
def dsortDR (box : Bool) (x : D) (S : Sto) : R D := match dctOf S x with
  | some p => match intKs p.2 with
    | some ns => ck (ns.length < 64) (mkL box ((srtI ns).reverse.map .int) S)
    | none => .err
  | none => .err
def deq0R (x : D) (S : Sto) : R D := match dctOf S x with
  | some p => .ok (.bl p.2.isEmpty) S
  | none => .err
def ntpOf : D → Option (List D)
  | .ntp xs => some xs
  | _ => none
def dpairsR (o : Option (List D)) (S : Sto) : R D := match o with
  | some ys => mkDct ys S
  | none => .err
def keysD : List D → Option (List L2.Key)
  | [] => some []
  | d :: r => match keyD d with
    | some k => (keysD r).map (k :: ·)
    | none => none
/-- how many unlike ones -/
def manyK {κ : Type} [DecidableEq κ] (ks : List κ) : Nat := ks.eraseDups.length
def lenSCR (ys : List D) (S : Sto) : R D := match keysD ys with
  | some ks => ck (ys.length < 1000) (.ok (.int (manyK ks)) S)
  | none => .err
def nubK {κ : Type} [DecidableEq κ] (ks : List κ) : List κ := ks.eraseDups
def lenSR (o : Option (List D)) (S : Sto) : R D := match o with
  | some ys => lenSCR ys S
  | none => .err
def sortSR (o : Option (List D)) (S : Sto) : R D := match o with
  | some ys => match intsD ys, strsD ys with
    | some ns, _ => ck (ns.length < 64) (.ok (.lst ((srtI (nubK ns)).map .int)) S)
    | none, some zs => ck (zs.length < 64) (.ok (.lst ((srtS (nubK zs)).map .str)) S)
    | none, none => .err
  | none => .err
def sortSCR (ys : List D) (S : Sto) : R D := match intsD ys with
  | some ns => ck (ys.length < 64) (.ok (.lst ((srtI ns.eraseDups).map .int)) S)
  | none => .err

/-! ### walks -/
def isRef : D → Bool
  | .ref _ => true
  | _ => false
/-- a list's walk, or a tuple's -/
def kOf : D → Bool
  | .tup _ => false
  | _ => true
inductive Src where
  | fix | box (n : Nat) (xs : List D)
  | dlk (n : Nat) (kvs : List (L2.Key × D))
  | two (a b : Src)
def Src.there (s : Src) (S : Sto) : Prop := match s with
  | .fix => True
  | .box n xs => cellAt S n = some (.lst xs)
  | .dlk n kvs => cellAt S n = some (.dlk kvs)
  | .two a b => a.there S ∧ b.there S
noncomputable instance (s : Src) (S : Sto) : Decidable (s.there S) := Classical.propDecidable _
def walkOf (S : Sto) : D → Option (Src × List D)
  | .tup xs => some (.fix, xs)
  | .lst xs => some (.fix, xs)
  | .scr xs => some (.fix, xs)
  | .str z => some (.fix, z.cps.toList.map fun c => .str ⟨#[c]⟩)
  | .ref n => match cellAt S n with
    | some (.lst xs) => some (.box n xs, xs)
    | _ => none
  | _ => none
/-- a list's walk, no tuple's -/
def walkL (S : Sto) : D → Option (Src × List D)
  | .tup _ => none
  | .str _ => none
  | d => walkOf S d
/-- a walk of a list or a tuple -/
def walkZ (S : Sto) : D → Option (Src × List D)
  | .str _ => none
  | d => walkOf S d
def rngS (lo c : Int) (n : Nat) : List D := (List.range n).map fun (i : Nat) => D.int (lo + (i : Int) * c)
def slstR (box : Bool) (x k : D) (S : Sto) : R D := match lstOf S x, k with
  | some xs, .int i => if i = 1 then mkL box xs S else if i = -1 then mkL box xs.reverse S else .err
  | _, _ => .err
def rngN (i j k : Int) : Nat := ((j - i + k - 1) / k).toNat
def isiT (S : Sto) (x : D) : List String → Option Bool
  | [] => some false
  | t :: ts => match (tyOf S x).bind fun a => kitB a t with
    | some true => some true
    | some false => isiT S x ts
    | none => none
def rngD (lo : Int) (n : Nat) : List D := (List.range n).map fun (i : Nat) => D.int (lo + i)
def enumD (s : Int) (xs : List D) : List D := xs.mapIdx fun i x => .tup [.int (s + i), x]
def zipWD (xs ys : List D) : List D := (xs.zip ys).map fun p => .wtp [p.1, p.2]
def zipD (xs ys : List D) : List D := (xs.zip ys).map fun p => .tup [p.1, p.2]
/-- no pair of two texts -/
def mixZ (xs ys : List D) : Bool := (xs.zip ys).all fun p => !(isS p.1 && isS p.2)
def mixK (kvs : List (L2.Key × D)) : Bool := kvs.all fun kv => !(isS (keyV kv.1) && isS kv.2)
noncomputable def lcLoop (src : Src) (step : D → Sto → R (List D)) : List D → Sto → R (List D)
  | [], S => ck (src.there S) (.ok [] S)
  | d :: ds, S => ck (src.there S) (match step d S with
    | .ok xs S1 => match lcLoop src step ds S1 with
      | .ok ys S2 => .ok (xs ++ ys) S2
      | _ => .err
    | _ => .err)
def wipeE (ρ : Env) : List Nat → Env
  | [] => ρ
  | v :: vs => (wipeE ρ vs).set v none
def smallI (i : Int) : Prop := -(2 ^ 62) ≤ i ∧ i < 2 ^ 62
instance (i : Int) : Decidable (smallI i) := by unfold smallI; infer_instance
def attrR (o : D) (f : Nat) (S : Sto) : R D := match o with
  | .ins _ fs => match fs.lookup f with
    | some d => .ok d S
    | none => .err
  | .ref n => match cellAt S n with
    | some (.ins _ fs) => match fs.lookup f with
      | some d => .ok d S
      | none => .err
    | _ => .err
  | _ => .err
def putFd (f : Nat) (d : D) : List (Nat × D) → List (Nat × D)
  | [] => [(f, d)]
  | (g, e) :: r => if g = f then (g, d) :: r else (g, e) :: putFd f d r
def sattrR (o : D) (f : Nat) (cs : List Nat) (d : D) (S : Sto) : R Unit := match o with
  | .ref n => match cellAt S n with
    | some (.ins c fs) => ck (c ∈ cs ∧ fs.length < 900) (.ok () (setAt S n (.ins c (putFd f d fs))))
    | _ => .err
  | _ => .err
def sidxR (o i d : D) (S : Sto) : R Unit := match o, i with
  | .ref n, .int k => match cellAt S n with
    | some (.lst xs) => ck (0 ≤ k ∧ k < xs.length) (.ok () (setAt S n (.lst (xs.set k.toNat d))))
    | _ => .err
  | _, _ => .err
def sslcR (o l h d : D) (S : Sto) : R Unit := match o, l, h, d with
  | .ref n, .int i, .int j, .lst ys => match cellAt S n with
    | some (.lst xs) => ck (0 ≤ i ∧ i ≤ j ∧ j ≤ xs.length ∧ xs.length + ys.length ≤ sizeLine) (.ok () (setAt S n (.lst (xs.take i.toNat ++ ys ++ xs.drop j.toNat))))
    | _ => .err
  | _, _, _, _ => .err
def frzR (d : D) (S : Sto) : R D := match d with
  | .ref n => match cellAt S n with
    | some (.lst xs) => .ok (.lst xs) (S.set n none)
    | some (.ins c fs) => .ok (.ins c fs) (S.set n none)
    | _ => .err
  | _ => .err
/-- an instance is made: its box, what __init__ does, perhaps frozen -/
def makeR (F : CE) (fr : Bool) (c f : Nat) (arr : List Ar) (ds : List D) (S : Sto) : R D :=
  (callR F f arr (.ref S.length :: ds) (S ++ [some (.ins c [])])).bind fun r S1 => match r with
    | .non => if fr then frzR (.ref S.length) S1 else .ok (.ref S.length) S1
    | _ => .err

/-- a walked dict may be changed again -/
def unlockR {α : Type} (n : Nat) : R α → R α
  | .ok a S => match cellAt S n with
    | some (.dlk kvs) => .ok a (setAt S n (.dct kvs))
    | _ => .err
  | _ => .err
/-- while the dict is locked -/
def lockR {α : Type} (x : R D) (S : Sto) (k : Sto → R α) : R α := match x with
  | .ok (.ref n) _ => match cellAt S n with
    | some (.dct kvs) => unlockR n (k (setAt S n (.dlk kvs)))
    | _ => .err
  | _ => .err
def insOf (S : Sto) : D → Option (Nat × Nat × List (Nat × D))
  | .ref n => match cellAt S n with
    | some (.ins c fs) => some (n, c, fs)
    | _ => none
  | _ => none
def faugPut (n c f : Nat) (z : D) (S : Sto) : R Unit := match cellAt S n with
  | some (.ins c' fs) => ck (c' = c ∧ fs.length < 900) (.ok () (setAt S n (.ins c (putFd f z fs))))
  | _ => .err

def klookR (kvs : List (Str × Int)) (y : D) (S : Sto) : R D := match y with
  | .str z => match kvs.lookup z with
    | some i => .ok (.int i) S
    | none => .err
  | _ => .err
def kgetR (kvs : List (Str × Int)) (y d : D) (S : Sto) : R D := match y with
  | .str z => match kvs.lookup z with
    | some i => .ok (.int i) S
    | none => .ok d S
  | _ => .err
def dispR (ks : List L2.Key) : R (List D) → R D
  | .ok ds S => ck (ks.length = ds.length ∧ ks.length ≤ 15) (.ok (.ref S.length) (S ++ [some (.dct (mergeD (ks.zip ds)))]))
  | _ => .err
/-- isinstance of the caught exception -/
def isxR (yes no : List Nat) (x : D) (S : Sto) : R D := match x with
  | .exv i c _ => match cellAt S i with
    | some .hot => if c ∈ yes then .ok (.bl true) S else ck (c ∈ no) (.ok (.bl false) S)
    | _ => .err
  | _ => .err
def xfdR (c f : Nat) (x : D) (S : Sto) : R D := match x with
  | .exv i k [(f', d)] => match cellAt S i with
    | some .hot => ck (k = c ∧ f' = f) (.ok d S)
    | _ => .err
  | _ => .err
/-- isinstance(x, C) -/
def isOR (c : Nat) (ks : List Nat) (x : D) (S : Sto) : R D := match clsOf S x with
  | some k => ck (k ∈ ks) (.ok (.bl (k == c)) S)
  | none => match tyOf S x with
    | some _ => .ok (.bl false) S
    | none => .err
def wtpK (d : D) (k : List D → R Env) : R Env := match d with
  | .wtp xs => k xs
  | _ => .err
mutual
noncomputable def ev (F : CE) : E → Env → Sto → R D
  | .var i, ρ, S => match ρ[i]? with
    | some (some d) => .ok d S
    | _ => .err
  | .con d, _, S => .ok d S
  | .bin box op a b, ρ, S => (ev F a ρ S).bind fun x S => (ev F b ρ S).bind fun y S => binR box op x y S
  | .neg a, ρ, S => (ev F a ρ S).bind fun x S => match x with
    | .int i => .ok (.int (-i)) S
    | _ => .err
  | .not a, ρ, S => (ev F a ρ S).bind fun x S => (tru x S).bind fun b S => .ok (.bl (!b)) S
  | .cmp op a b, ρ, S => (ev F a ρ S).bind fun x S => (ev F b ρ S).bind fun y S => cmpR op x y S
  | .chain op op' a b c, ρ, S => (ev F a ρ S).bind fun x S => (ev F b ρ S).bind fun y S => (cmpR op x y S).bind fun z S => (tru z S).bind fun k S =>
      if k = true then (ev F c ρ S).bind fun w S => cmpR op' y w S else .ok (.bl false) S
  | .and a b, ρ, S => (ev F a ρ S).bind fun x S => (tru x S).bind fun k S => if k = true then ev F b ρ S else .ok x S
  | .or a b, ρ, S => (ev F a ρ S).bind fun x S => (tru x S).bind fun k S => if k = true then .ok x S else ev F b ρ S
  | .ife c a b, ρ, S => (ev F c ρ S).bind fun x S => (tru x S).bind fun k S => if k = true then ev F a ρ S else ev F b ρ S
  | .tup es, ρ, S => (evs F es ρ S).bind fun xs S => ck (xs.length ≤ sizeLine) (.ok (.tup xs) S)
  | .lst box es, ρ, S => (evs F es ρ S).bind fun xs S => ck (xs.length ≤ sizeLine) (mkL box xs S)
  | .idx a i, ρ, S => (ev F a ρ S).bind fun x S => (ev F i ρ S).bind fun y S => idxR x y S
  | .slc box a lo hi, ρ, S => (ev F a ρ S).bind fun x S => (evp F lo ρ S).bind fun l S => (evp F hi ρ S).bind fun h S => slcR box x l h S
  | .rev box a, ρ, S => (ev F a ρ S).bind fun x S => match x with
    | .tup xs => .ok (.tup xs.reverse) S
    | _ => match seqOf S x with
      | some xs => mkL box xs.reverse S
      | none => .err
  | .slst box a k, ρ, S => (ev F a ρ S).bind fun x S => (ev F k ρ S).bind fun y S => slstR box x y S
  | .lc box own tg it ifs elt, ρ, S => (evIt F it ρ S).bind fun w S =>
      (lcLoop w.1 (fun d S => (asg F tg d (wipeE ρ own) S).bind fun ρ1 S => (evIfs F ifs ρ1 S).bind fun k S => if k = true then (ev F elt ρ1 S).bind fun y S => .ok [y] S else .ok [] S) w.2 S).bind fun ys S => ck (ys.length ≤ sizeLine) (mkL box ys S)
  | .lc2 box own own1 tg it ifs tg1 it1 ifs1 elt, ρ, S => (evIt F it ρ S).bind fun w S =>
      (lcLoop w.1 (fun d S => (asg F tg d (wipeE ρ own) S).bind fun ρ1 S => (evIfs F ifs ρ1 S).bind fun k S => if k = true then
        (evIt F it1 ρ1 S).bind fun w1 S => lcLoop w1.1 (fun d1 S => (asg F tg1 d1 (wipeE ρ1 own1) S).bind fun ρ2 S => (evIfs F ifs1 ρ2 S).bind fun k S => if k = true then (ev F elt ρ2 S).bind fun y S => .ok [y] S else .ok [] S) w1.2 S
        else .ok [] S) w.2 S).bind fun ys S => ck (ys.length ≤ sizeLine) (mkL box ys S)
  | .call f arr es, ρ, S => (evs F es ρ S).bind fun xs S => callR F f arr xs S
  | .meth o ms es, ρ, S => (ev F o ρ S).bind fun x S => match (clsOf S x).bind fun c => ms.lookup c with
    | some (f, arr) => (evs F es ρ S).bind fun xs S => callR F f arr (x :: xs) S
    | none => .err
  | .make fr c f arr es, ρ, S => (evs F es ρ S).bind fun xs S => makeR F fr c f arr xs S
  | .attr o f, ρ, S => (ev F o ρ S).bind fun x S => attrR x f S
  | .bi b es, ρ, S => (evs F es ρ S).bind fun xs S => biR b xs S
  | .bm m o es, ρ, S => (ev F o ρ S).bind fun x S => ck (bmOk m x S = true) ((evs F es ρ S).bind fun xs S => bmR m x xs S)
  | .frz a, ρ, S => (ev F a ρ S).bind fun x S => frzR x S
  | .trng a b, ρ, S => (ev F a ρ S).bind fun x S => (ev F b ρ S).bind fun y S => match x, y with
    | .int i, .int j => ck (smallI i ∧ smallI j ∧ (j - i).toNat ≤ 2 ^ 24) (.ok (.tup (rngD i (j - i).toNat)) S)
    | _, _ => .err
  | .isit a ts, ρ, S => (ev F a ρ S).bind fun x S => match isiT S x ts with
    | some b => ck (ts.length ≤ 100) (.ok (.bl b) S)
    | none => .err
  | .lrng box a b, ρ, S => (ev F a ρ S).bind fun x S => (ev F b ρ S).bind fun y S => match x, y with
    | .int i, .int j => ck (smallI i ∧ smallI j ∧ (j - i).toNat ≤ 2 ^ 24) (mkL box (rngD i (j - i).toNat) S)
    | _, _ => .err
  | .dnew, _, S => .ok (.ref S.length) (S ++ [some (.dct [])])
  | .didx o k, ρ, S => (ev F o ρ S).bind fun x S => (ev F k ρ S).bind fun y S => didxR x y S
  | .din neg k o, ρ, S => (ev F k ρ S).bind fun y S => (ev F o ρ S).bind fun x S => dinR neg y x S
  | .dget2 o k z, ρ, S => (ev F o ρ S).bind fun x S => ck ((drdOf S x).isSome = true) ((ev F k ρ S).bind fun y S => (ev F z ρ S).bind fun v S => dget2R x y v S)
  | .dpop o k, ρ, S => (ev F o ρ S).bind fun x S => ck ((dctOf S x).isSome = true) ((ev F k ρ S).bind fun y S => dpopR x y S)
  | .dsort box o, ρ, S => (ev F o ρ S).bind fun x S => dsortR box x S
  | .dcomp own tg it ifs k v, ρ, S => (evIt F it ρ S).bind fun w S =>
      (lcLoop w.1 (fun d S => (asg F tg d (wipeE ρ own) S).bind fun ρ1 S => (evIfs F ifs ρ1 S).bind fun b S => if b = true then (ev F k ρ1 S).bind fun y S => (ev F v ρ1 S).bind fun z S => .ok [.tup [y, z]] S else .ok [] S) w.2 S).bind fun ys S => mkDct ys S
  | .lenSC own tg it ifs elt, ρ, S => (evIt F it ρ S).bind fun w S =>
      (lcLoop w.1 (fun d S => (asg F tg d (wipeE ρ own) S).bind fun ρ1 S => (evIfs F ifs ρ1 S).bind fun b S => if b = true then (ev F elt ρ1 S).bind fun y S => .ok [y] S else .ok [] S) w.2 S).bind fun ys S => lenSCR ys S
  | .sortSC own tg it ifs elt, ρ, S => (evIt F it ρ S).bind fun w S =>
      (lcLoop w.1 (fun d S => (asg F tg d (wipeE ρ own) S).bind fun ρ1 S => (evIfs F ifs ρ1 S).bind fun b S => if b = true then (ev F elt ρ1 S).bind fun y S => .ok [y] S else .ok [] S) w.2 S).bind fun ys S => sortSCR ys S
  | .lenS a, ρ, S => (ev F a ρ S).bind fun x S => lenSR (seqOf S x) S
  | .sortS a, ρ, S => (ev F a ρ S).bind fun x S => sortSR (seqOf S x) S
  | .eqo a b c f arr, ρ, S => (ev F a ρ S).bind fun x S => (ev F b ρ S).bind fun y S => ck (clsOf S x = some c ∧ clsOf S y = some c) (noExc (callR F f arr [x, y] S))
  | .tcnta o x, ρ, S => (ev F o ρ S).bind fun a S => ck (isTu a = true) ((ev F x ρ S).bind fun b S => tcntaR a b S)
  | .tcnt o x, ρ, S => (ev F o ρ S).bind fun a S => ck (isTx a = true) ((ev F x ρ S).bind fun b S => tcntR a b S)
  | .twice a, ρ, S => (ev F a ρ S).bind fun x S => twiceR x S
  | .tidx o x, ρ, S => (ev F o ρ S).bind fun a S => ck (isNtp a = true) ((ev F x ρ S).bind fun b S => tidxR a b S)
  | .ntup a, ρ, S => (ev F a ρ S).bind fun x S => match lstOf S x with
    | some xs => .ok (.ntp xs) S
    | none => .err
  | .untup a, ρ, S => (ev F a ρ S).bind fun x S => match x with
    | .ntp xs => .ok (.tup xs) S
    | _ => .err
  | .ddisp ks es, ρ, S => dispR ks (evs F es ρ S)
  | .dlen o, ρ, S => (ev F o ρ S).bind fun x S => match dctOf S x with
    | some p => .ok (.int (p.2.length : Nat)) S
    | none => .err
  | .klook kvs k, ρ, S => (ev F k ρ S).bind fun y S => klookR kvs y S
  | .kget kvs k d, ρ, S => (ev F k ρ S).bind fun y S => (ev F d ρ S).bind fun z S => kgetR kvs y z S
  | .ktup ks, _, S => ck (ks.length ≤ 1000) (.ok (.tup (ks.map .str)) S)
  | .dpairs a, ρ, S => (ev F a ρ S).bind fun x S => dpairsR (lstOf S x) S
  | .dpairsT a, ρ, S => (ev F a ρ S).bind fun x S => dpairsR (ntpOf x) S
  | .dsortD box a, ρ, S => (ev F a ρ S).bind fun x S => dsortDR box x S
  | .deq0 a, ρ, S => (ev F a ρ S).bind fun x S => deq0R x S
  | .isx a yes no, ρ, S => (ev F a ρ S).bind fun x S => isxR yes no x S
  | .xfd a c f, ρ, S => (ev F a ρ S).bind fun x S => xfdR c f x S
  | .isO a c ks, ρ, S => (ev F a ρ S).bind fun x S => isOR c ks x S
  | .lock d e, ρ, S => lockR (ev F d ρ S) S fun S => ev F e ρ S
noncomputable def evs (F : CE) : List E → Env → Sto → R (List D)
  | [], _, S => .ok [] S
  | e :: es, ρ, S => (ev F e ρ S).bind fun x S => (evs F es ρ S).bind fun xs S => .ok (x :: xs) S
noncomputable def evp (F : CE) : Option E → Env → Sto → R (Option Int)
  | none, _, S => .ok none S
  | some e, ρ, S => (ev F e ρ S).bind fun x S => match x with
    | .int i => .ok (some i) S
    | _ => .err
noncomputable def evIfs (F : CE) : List E → Env → Sto → R Bool
  | [], _, S => .ok true S
  | e :: es, ρ, S => (ev F e ρ S).bind fun x S => (tru x S).bind fun k S => if k = true then evIfs F es ρ S else .ok false S
noncomputable def evIt (F : CE) : It → Env → Sto → R (Src × List D)
  | .e a, ρ, S => (ev F a ρ S).bind fun x S => match walkOf S x with
    | some w => .ok w S
    | none => .err
  | .rng1 a, ρ, S => (ev F a ρ S).bind fun x S => match x with
    | .int j => ck (smallI j) (.ok (.fix, rngD 0 j.toNat) S)
    | _ => .err
  | .rng2 a b, ρ, S => (ev F a ρ S).bind fun x S => (ev F b ρ S).bind fun y S => match x, y with
    | .int i, .int j => ck (smallI i ∧ smallI j) (.ok (.fix, rngD i (j - i).toNat) S)
    | _, _ => .err
  | .rng3 a b c, ρ, S => (ev F a ρ S).bind fun x S => (ev F b ρ S).bind fun y S => (ev F c ρ S).bind fun z S => match x, y, z with
    | .int i, .int j, .int k => ck (smallI i ∧ smallI j ∧ i ≤ j ∧ 0 < k ∧ k < 1073741824) (.ok (.fix, rngS i k (rngN i j k)) S)
    | _, _, _ => .err
  | .zipb a b, ρ, S => (ev F a ρ S).bind fun x S => (ev F b ρ S).bind fun y S => match walkZ S x, walkZ S y with
    | some v, some w => ck (kOf x = kOf y ∧ mixZ v.2 w.2 = true) (.ok (.two v.1 w.1, zipD v.2 w.2) S)
    | _, _ => .err
  | .items o, ρ, S => (ev F o ρ S).bind fun x S => match dlkOf S x with
    | some p => ck (mixK p.2 = true) (.ok (.dlk p.1 p.2, p.2.map fun kv => .tup [keyV kv.1, kv.2]) S)
    | none => .err
  | .keys o, ρ, S => (ev F o ρ S).bind fun x S => match dlkOf S x with
    | some p => .ok (.dlk p.1 p.2, p.2.map fun kv => keyV kv.1) S
    | none => .err
  | .enum s a, ρ, S => (ev F a ρ S).bind fun x S => (evp F s ρ S).bind fun i S => match walkL S x with
    | some w => ck (i = none) (.ok (w.1, enumD 0 w.2) S)
    | none => .err
  | .enumS a s, ρ, S => (ev F a ρ S).bind fun x S => (ev F s ρ S).bind fun y S => match walkL S x, y with
    | some w, .int i => ck (smallI i) (.ok (w.1, enumD i w.2) S)
    | _, _ => .err
  | .zip strict a b, ρ, S => (ev F a ρ S).bind fun x S => (ev F b ρ S).bind fun y S => match seqOf S x, seqOf S y with
    | some xs, some ys => ck ((strict = true → xs.length = ys.length) ∧ isRef x = false ∧ isRef y = false ∧ (strict = true ∨ kOf x = kOf y ∧ mixZ xs ys = true)) (.ok (.fix, zipD xs ys) S)
    | _, _ => .err
  | .zipw a b, ρ, S => (ev F a ρ S).bind fun x S => (ev F b ρ S).bind fun y S => match seqOf S x, seqOf S y with
    | some xs, some ys => ck (isRef x = false ∧ isRef y = false ∧ kOf x = kOf y) (.ok (.fix, zipWD xs ys) S)
    | _, _ => .err
noncomputable def asg (F : CE) : Tg → D → Env → Sto → R Env
  | .var i, d, ρ, S => .ok (ρ.set i (some d)) S
  | .tup ts, d, ρ, S => match seqOf S d with
    | some xs => ck (xs.length = ts.length) (asgs F ts xs ρ S)
    | none => .err
  | .tupw ts, d, ρ, S => wtpK d fun xs => ck (xs.length = ts.length) (asgs F ts xs ρ S)
  | .tups ts, d, ρ, S => match seqOf S d with
    | some xs => ck (1 ≤ ts.length ∧ ts.length ≤ xs.length + 1 ∧ xs.length ≤ 16384) (asgs F ts (xs.take (ts.length - 1) ++ [.lst (xs.drop (ts.length - 1))]) ρ S)
    | none => .err
  | .slc o lo hi, d, ρ, S => (ev F o ρ S).bind fun x S => (ev F lo ρ S).bind fun l S => (ev F hi ρ S).bind fun h S => (sslcR x l h d S).bind fun _ S => .ok ρ S
  | .idx o i, d, ρ, S => (ev F o ρ S).bind fun x S => (ev F i ρ S).bind fun y S => (sidxR x y d S).bind fun _ S => .ok ρ S
  | .attr o f cs, d, ρ, S => (ev F o ρ S).bind fun x S => (sattrR x f cs d S).bind fun _ S => .ok ρ S
  | .didx o k, d, ρ, S => (ev F o ρ S).bind fun x S => (ev F k ρ S).bind fun y S => (dputR x y d S).bind fun _ S => .ok ρ S
noncomputable def asgs (F : CE) : List Tg → List D → Env → Sto → R Env
  | [], _, ρ, S => .ok ρ S
  | t :: ts, d :: ds, ρ, S => (asg F t d ρ S).bind fun ρ S => asgs F ts ds ρ S
  | _ :: _, [], _, _ => .err
end

/-! ### statements -/
inductive Fl where
  | next (ρ : Env) | ret (d : D) | brk (ρ : Env) | cont (ρ : Env) | raised (x : Exc) (ρ : Env)
/-- an expression's result within a statement: what is raised leaves it -/
def R.go {α : Type} (r : R α) (ρ : Env) (f : α → Sto → R Fl) : R Fl := match r with
  | .ok a S => f a S
  | .exc x S => .ok (.raised x ρ) S
  | .err => .err
@[simp] theorem R.go_ok {α : Type} (a : α) (S : Sto) (ρ : Env) (f : α → Sto → R Fl) : (R.ok a S).go ρ f = f a S := rfl
@[simp] theorem R.go_err {α : Type} (ρ : Env) (f : α → Sto → R Fl) : (R.err : R α).go ρ f = .err := rfl
@[simp] theorem R.go_exc {α : Type} (x : Exc) (S : Sto) (ρ : Env) (f : α → Sto → R Fl) : (R.exc x S : R α).go ρ f = .ok (.raised x ρ) S := rfl
/-- nothing is raised here -/
def R.st {α β : Type} (r : R α) (f : α → Sto → R β) : R β := match r with
  | .ok a S => f a S
  | _ => .err
@[simp] theorem R.st_ok {α β : Type} (a : α) (S : Sto) (f : α → Sto → R β) : (R.ok a S).st f = f a S := rfl
@[simp] theorem R.st_err {α β : Type} (f : α → Sto → R β) : (R.err : R α).st f = .err := rfl
/-- behind a statement -/
def R.fl (r : R Fl) (f : Env → Sto → R Fl) : R Fl := match r with
  | .ok (.next ρ) S => f ρ S
  | .ok w S => .ok w S
  | _ => .err
@[simp] theorem R.fl_next (ρ : Env) (S : Sto) (f : Env → Sto → R Fl) : (R.ok (.next ρ) S : R Fl).fl f = f ρ S := rfl
@[simp] theorem R.fl_ret (d : D) (S : Sto) (f : Env → Sto → R Fl) : (R.ok (.ret d) S : R Fl).fl f = .ok (.ret d) S := rfl
@[simp] theorem R.fl_brk (ρ : Env) (S : Sto) (f : Env → Sto → R Fl) : (R.ok (.brk ρ) S : R Fl).fl f = .ok (.brk ρ) S := rfl
@[simp] theorem R.fl_cont (ρ : Env) (S : Sto) (f : Env → Sto → R Fl) : (R.ok (.cont ρ) S : R Fl).fl f = .ok (.cont ρ) S := rfl
@[simp] theorem R.fl_raised (x : Exc) (ρ : Env) (S : Sto) (f : Env → Sto → R Fl) : (R.ok (.raised x ρ) S : R Fl).fl f = .ok (.raised x ρ) S := rfl
@[simp] theorem R.fl_err (f : Env → Sto → R Fl) : (R.err : R Fl).fl f = .err := rfl
/-- behind a turn of a loop -/
def R.turn (r : R Fl) (f : Env → Sto → R Fl) : R Fl := match r with
  | .ok (.next ρ) S => f ρ S
  | .ok (.cont ρ) S => f ρ S
  | .ok (.brk ρ) S => .ok (.next ρ) S
  | .ok w S => .ok w S
  | _ => .err
@[simp] theorem R.turn_next (ρ : Env) (S : Sto) (f : Env → Sto → R Fl) : (R.ok (.next ρ) S : R Fl).turn f = f ρ S := rfl
@[simp] theorem R.turn_cont (ρ : Env) (S : Sto) (f : Env → Sto → R Fl) : (R.ok (.cont ρ) S : R Fl).turn f = f ρ S := rfl
@[simp] theorem R.turn_brk (ρ : Env) (S : Sto) (f : Env → Sto → R Fl) : (R.ok (.brk ρ) S : R Fl).turn f = .ok (.next ρ) S := rfl
@[simp] theorem R.turn_ret (d : D) (S : Sto) (f : Env → Sto → R Fl) : (R.ok (.ret d) S : R Fl).turn f = .ok (.ret d) S := rfl
@[simp] theorem R.turn_raised (x : Exc) (ρ : Env) (S : Sto) (f : Env → Sto → R Fl) : (R.ok (.raised x ρ) S : R Fl).turn f = .ok (.raised x ρ) S := rfl
noncomputable def forLoop (src : Src) (step : D → Env → Sto → R Fl) : List D → Env → Sto → R Fl
  | [], ρ, S => ck (src.there S) (.ok (.next ρ) S)
  | d :: ds, ρ, S => ck (src.there S) ((step d ρ S).turn fun ρ1 S1 => forLoop src step ds ρ1 S1)
def whileLoop (test : Env → Sto → R Bool) (body : Env → Sto → R Fl) : Nat → Env → Sto → R Fl
  | 0, _, _ => .err
  | n + 1, ρ, S => (test ρ S).go ρ fun k S => if k = true then (body ρ S).turn fun ρ1 S1 => whileLoop test body n ρ1 S1 else .ok (.next ρ) S
def augR (op : Bop) (x y : D) (S : Sto) : R D := match op, x, y with
  | .add, .int i, .int j => .ok (.int (i + j)) S
  | .add, .str a, .str b => ck (a.length + b.length ≤ sizeLine) (.ok (.str (a ++ b)) S)
  | .add, .ref n, y => match cellAt S n, unbox S y with
    | some (.lst xs), .lst ys => ck (xs.length + ys.length ≤ sizeLine ∧ isRef y = false) (.ok (.ref n) (setAt S n (.lst (xs ++ ys))))
    | _, _ => .err
  | .sub, .int i, .int j => .ok (.int (i - j)) S
  | .mul, .int i, .int j => ck (mulOk i j) (.ok (.int (i * j)) S)
  | _, _, _ => .err
/-- what is raised is not told -/
def noRaise (r : R Fl) : R Fl := match r with
  | .ok (.raised _ _) _ => .err
  | r => r
def setO (ρ : Env) (i : Option Nat) (o : Option D) : Env := match i with
  | some i => ρ.set i o
  | none => ρ
/-- the end of an except suite, that began at the store's n-th place -/
def endH (i : Option Nat) (n : Nat) : R Fl → R Fl
  | .ok f S => match cellAt S n with
    | some .hot => match f with
      | .next ρ => .ok (.next (setO ρ i none)) (S.set n none)
      | .brk ρ => .ok (.brk (setO ρ i none)) (S.set n none)
      | .cont ρ => .ok (.cont (setO ρ i none)) (S.set n none)
      | .ret d => .ok (.ret d) (S.set n none)
      | .raised _ _ => .err
    | _ => .err
  | _ => .err
def tryR (yes no : List Nat) (i : Option Nat) (r : R Fl) (h : Env → Sto → R Fl) : R Fl := match r with
  | .ok (.raised x ρ) S => if x.c ∈ yes then endH i S.length (h (setO ρ i (some (.exv S.length x.c x.fs))) (S ++ [some .hot])) else ck (x.c ∈ no) (.ok (.raised x ρ) S)
  | r => r
mutual
noncomputable def ex (F : CE) : St → Env → Sto → R Fl
  | .expr e, ρ, S => (ev F e ρ S).go ρ fun _ S => .ok (.next ρ) S
  | .asg t e, ρ, S => (ev F e ρ S).go ρ fun d S => (asg F t d ρ S).st fun ρ S => .ok (.next ρ) S
  | .aug i op e, ρ, S => match ρ[i]? with
    | some (some x) => ((ev F e ρ S).bind fun y S => augR op x y S).go ρ fun z S => .ok (.next (ρ.set i (some z))) S
    | _ => .err
  | .ite c a b, ρ, S => ((ev F c ρ S).bind fun x S => tru x S).go ρ fun k S => if k = true then exs F a ρ S else exs F b ρ S
  | .for t it body, ρ, S => (evIt F it ρ S).go ρ fun w S => forLoop w.1 (fun d ρ S => (asg F t d ρ S).st fun ρ S => exs F body ρ S) w.2 ρ S
  | .while c body, ρ, S => whileLoop (fun ρ S => (ev F c ρ S).bind fun x S => tru x S) (fun ρ S => exs F body ρ S) 1000000 ρ S
  | .ret e, ρ, S => (ev F e ρ S).go ρ fun d S => .ok (.ret d) S
  | .retN, _, S => .ok (.ret .non) S
  | .brk, ρ, S => .ok (.brk ρ) S
  | .cont, ρ, S => .ok (.cont ρ) S
  | .pass, ρ, S => .ok (.next ρ) S
  | .lock d st, ρ, S => lockR (ev F d ρ S) S fun S => noRaise (ex F st ρ S)
  | .blk b, ρ, S => exs F b ρ S
  | .raise, _, _ => .err
  | .faug o f op e, ρ, S => ((ev F o ρ S).bind fun x S => match insOf S x with
    | some p => match p.2.2.lookup f with
      | some old => (ev F e ρ S).bind fun y S => (augR op old y S).bind fun z S => faugPut p.1 p.2.1 f z S
      | none => .err
    | none => .err).go ρ fun _ S => .ok (.next ρ) S
  | .raise0 c, ρ, S => .ok (.raised ⟨c, []⟩ ρ) S
  | .raise1 c f e, ρ, S => (ev F e ρ S).go ρ fun d S => .ok (.raised ⟨c, [(f, d)]⟩ ρ) S
  | .tryx b yes no i h, ρ, S => tryR yes no i (exs F b ρ S) fun ρ S => exs F h ρ S
noncomputable def exs (F : CE) : List St → Env → Sto → R Fl
  | [], ρ, S => .ok (.next ρ) S
  | st :: sts, ρ, S => (ex F st ρ S).fl fun ρ S => exs F sts ρ S
end
/-- a def's body on its parameters; n: how many slots -/
noncomputable def run (F : CE) (n : Nat) (body : List St) (ds : List D) (S : Sto) : R D :=
  match exs F body (ds.map some ++ List.replicate (n - ds.length) none) S with
    | .ok (.ret d) S => .ok d S
    | .ok (.next _) S => .ok .non S
    | .ok (.raised x _) S => .exc x S
    | _ => .err
structure Fn where
  np : Nat
  n : Nat
  body : List St
noncomputable def callN (T : List Fn) : Nat → CE
  | 0, _, _, _ => .err
  | k + 1, f, ds, S => match T[f]? with
    | some d => ck (ds.length = d.np) (run (callN T k) d.n d.body ds S)
    | none => .err
end Iv

/-! ### what stands for what -/
namespace Iv
open PySem PySem.Spec PyProof.Rows L2

/-- where the boxes stand; what nobody may look at meanwhile (the list that a comprehension makes) -/
structure Mp where
  box : Nat → Option Addr
  hid : Addr → Prop
instance : CoeFun Mp (fun _ => Nat → Option Addr) := ⟨Mp.box⟩
/-- a caught exception: the store's place that tells it, where it stands, its class, its dict -/
structure Hot where
  id : Nat
  a : Addr
  cls : Value
  d : Option Addr
structure Gs where
  K : PySem.W.Frag
  ca : Nat → Addr
  fn : Nat → Str
  /-- the names of attributes that the program has -/
  fok : Nat → Prop
  finj : ∀ f f', fok f → fok f' → fn f = fn f' → f = f'
  /-- the caught exception, while its suite runs -/
  hot : Option Hot := none
  /-- are there tuples of which the run tells no more than their items -/
  weak : Bool := true

/-- the built-in exception classes' numbers -/
def bex : Nat → Option String
  | 1000 => some "KeyError"
  | 1001 => some "ValueError"
  | 1002 => some "IndexError"
  | _ => none
/-- a class, by its number -/
def Gs.cv (g : Gs) (c : Nat) : Value := match bex c with
  | some n => .type n
  | none => .ref (g.ca c)
/-- a text that the library's rules take -/
def okS (x : Str) : Prop := x.length ≤ sizeLine ∧ ∀ c ∈ x.cps.toList, c < 1114112
def Off (m : Mp) (a : Addr) : Prop := (∀ i, m i ≠ some a) ∧ ¬ m.hid a
/-- a tuple that nothing hangs on -/
def NtpAt (m : Mp) (H : Hp) (a : Addr) (vs : List V) : Prop := ∃ o : Obj, H a = some (.frz o (.tup vs)) ∧ o.cls = .type "tuple" ∧ o.dict = none ∧ Off m a
/-- a tuple of which the run tells no more, but that it is empty or holds more than texts -/
def MixV (g : Gs) (vs : List V) : Prop := g.weak = true ∧ (vs ≠ [] → ∃ v, v ∈ vs ∧ ∀ s, v ≠ .str s)
theorem MixV.int {g : Gs} (hw : g.weak = true) {i : Int} {vs : List V} : MixV g (.int i :: vs) := ⟨hw, fun _ => ⟨.int i, List.mem_cons_self, fun _ => nofun⟩⟩
theorem MixV.ints {g : Gs} (hw : g.weak = true) {vs : List V} (h : ∀ v ∈ vs, ∃ i, v = .int i) : MixV g vs := ⟨hw, fun n => by
  cases vs with
  | nil => exact absurd rfl n
  | cons v r =>
    obtain ⟨i, rfl⟩ := h v List.mem_cons_self
    exact ⟨_, List.mem_cons_self, fun _ => nofun⟩⟩
/-- a tuple that stands in the written part -/
def KtpAt (g : Gs) (a : Addr) (vs : List V) : Prop := (∀ H', SqT g.K H' a vs) ∧ (vs = [] ∨ ∃ o, g.K.lookup a = some o ∧ o.cls = .type "tuple" ∧ o.dict = none)
def TupAt (g : Gs) (m : Mp) (H : Hp) (a : Addr) (vs : List V) : Prop := (H a = some (.tup vs) ∧ Off m a ∧ MixV g vs) ∨ KtpAt g a vs ∨ NtpAt m H a vs
def ScrAt (g : Gs) (m : Mp) (H : Hp) (a : Addr) (vs : List V) : Prop := (∃ o, H a = some (.frz o (.lst vs)) ∧ Off m a) ∨ ∀ H', SqL g.K H' a vs
def insOk (g : Gs) (c : Nat) (fs : List (Nat × D)) : Prop := Cls g.K (g.ca c) ∧ fs.length ≤ 900 ∧ ∀ f, f ∈ fs.map (·.1) → g.fok f ∧ NoAttr g.K (g.ca c) (g.fn f)
mutual
def Rel (g : Gs) (m : Mp) (n : Nat) (H : Hp) : D → V → Prop
  | .non, v => v = .non
  | .bl b, v => v = .bl b
  | .int i, v => v = .int i
  | .str x, v => v = .str x ∧ okS x
  | .tup xs, v => ∃ a vs, v = .ref a ∧ TupAt g m H a vs ∧ Rels g m n H xs vs
  | .lst xs, v => ∃ a vs, v = .ref a ∧ (H a = some (.lst vs) ∧ Off m a) ∧ Rels g m n H xs vs
  | .scr xs, v => ∃ a vs, v = .ref a ∧ ScrAt g m H a vs ∧ Rels g m n H xs vs
  | .ref i, v => i < n ∧ ∃ a, v = .ref a ∧ ∀ b, m i = some b → b = a
  | .ins c fs, v => ∃ a dx gs, v = .ref a ∧ (H a = some (.ins (g.ca c) dx gs) ∧ Off m a) ∧ insOk g c fs ∧ RelFs g m n H fs gs
  | .ty t, v => v = .ty t
  | .ntp xs, v => ∃ a vs, v = .ref a ∧ NtpAt m H a vs ∧ Rels g m n H xs vs
  | .wtp xs, v => ∃ a vs, v = .ref a ∧ (H a = some (.tup vs) ∧ Off m a) ∧ Rels g m n H xs vs
  | .exv i c fs, v => i < n ∧ ∃ a, v = .ref a ∧ ∀ h, g.hot = some h → h.id = i → h.a = a ∧ h.cls = g.cv c ∧
    ((fs = [] ∧ h.d = none) ∨ ∃ dd gs, h.d = some dd ∧ (H dd = some (.xd gs) ∧ Off m dd) ∧ RelFs g m n H fs gs)
def Rels (g : Gs) (m : Mp) (n : Nat) (H : Hp) : List D → List V → Prop
  | [], vs => vs = []
  | x :: xs, vs => ∃ w ws, vs = w :: ws ∧ Rel g m n H x w ∧ Rels g m n H xs ws
def RelFs (g : Gs) (m : Mp) (n : Nat) (H : Hp) : List (Nat × D) → List (Str × V) → Prop
  | [], gs => gs = []
  | (f, d) :: r, gs => ∃ v gr, gs = (g.fn f, v) :: gr ∧ Rel g m n H d v ∧ RelFs g m n H r gr
end
/-- an exception, its class, its dict -/
def Gs.xr (g : Gs) (m : Mp) (n : Nat) (H : Hp) (x : Exc) (c : Value) (d : Option Addr) : Prop := c = g.cv x.c ∧
  ((x.fs = [] ∧ d = none) ∨ ∃ dd gs, d = some dd ∧ (H dd = some (.xd gs) ∧ Off m dd) ∧ RelFs g m n H x.fs gs)
/-- what is locked stays -/
def Fz (H H' : Hp) : Prop := ∀ a o u, H a = some (.frz o u) → H' a = some (.frz o u)
def NoFz (o : Option HO) : Prop := ∀ ob u, o ≠ some (.frz ob u)
theorem NoFz.of {o : Option HO} {u : HO} (h : o = some u) (d : ∀ ob v, u ≠ .frz ob v) : NoFz o := fun ob v z => d ob v (Option.some.inj (h.symm.trans z))
/-- more of the heap, other boxes -/
structure Ext (m : Mp) (n : Nat) (H : Hp) (m' : Mp) (n' : Nat) (H' : Hp) : Prop where
  le : n ≤ n'
  old : ∀ i a, i < n → m' i = some a → m i = some a
  keep : ∀ a o, H a = some o → Off m a → H' a = some o ∧ Off m' a
  hid : ∀ a, m.hid a → m'.hid a ∧ H' a = H a
  fz : Fz H H'
/-- the same, whatever is hidden -/
structure ExtW (m : Mp) (n : Nat) (H : Hp) (m' : Mp) (n' : Nat) (H' : Hp) : Prop where
  le : n ≤ n'
  old : ∀ i a, i < n → m' i = some a → m i = some a
  keep : ∀ a o, H a = some o → Off m a → H' a = some o ∧ Off m' a
section
variable {g : Gs} {m m1 m2 m3 : Mp} {n n1 n2 n3 : Nat} {H H1 H2 H3 : Hp} {a b : Addr}
theorem Ext.w (x : Ext m1 n1 H1 m2 n2 H2) : ExtW m1 n1 H1 m2 n2 H2 := ⟨x.le, x.old, x.keep⟩
theorem Ext.refl : Ext m n H m n H := ⟨Nat.le_refl _, fun _ _ _ e => e, fun _ _ e o => ⟨e, o⟩, fun _ h => ⟨h, rfl⟩, fun _ _ _ e => e⟩
theorem Fz.upd {o : HO} (h : NoFz (H a)) : Fz H (upd H a o) := fun b ob u e => by
  have ne : b ≠ a := fun z => by subst z; exact h ob u e
  rw [upd_ne ne]; exact e
theorem NoFz.none (h : H a = none) : NoFz (H a) := fun ob u z => by rw [h] at z; cases z
theorem Ext.trans (x : Ext m1 n1 H1 m2 n2 H2) (y : Ext m2 n2 H2 m3 n3 H3) : Ext m1 n1 H1 m3 n3 H3 :=
  ⟨Nat.le_trans x.le y.le, fun i a h e => x.old i a h (y.old i a (Nat.lt_of_lt_of_le h x.le) e), fun a o e f => let ⟨e1, f1⟩ := x.keep a o e f; y.keep a o e1 f1,
    fun a h => let ⟨h1, e1⟩ := x.hid a h; let ⟨h2, e2⟩ := y.hid a h1; ⟨h2, e2.trans e1⟩, fun a o u e => y.fz a o u (x.fz a o u e)⟩
theorem NtpAt.monoW {vs : List V} (x : ExtW m1 n1 H1 m2 n2 H2) (h : NtpAt m1 H1 a vs) : NtpAt m2 H2 a vs := by
  obtain ⟨o, e, c, d, f⟩ := h
  obtain ⟨e', f'⟩ := x.keep _ _ e f
  exact ⟨o, e', c, d, f'⟩
theorem TupAt.monoW {vs : List V} (x : ExtW m1 n1 H1 m2 n2 H2) (h : TupAt g m1 H1 a vs) : TupAt g m2 H2 a vs := by
  rcases h with ⟨e, o, k⟩ | h | h
  · obtain ⟨e', o'⟩ := x.keep _ _ e o
    exact .inl ⟨e', o', k⟩
  · exact .inr (.inl h)
  · exact .inr (.inr (h.monoW x))
theorem ScrAt.monoW {vs : List V} (x : ExtW m1 n1 H1 m2 n2 H2) (h : ScrAt g m1 H1 a vs) : ScrAt g m2 H2 a vs := by
  rcases h with ⟨ob, e, o⟩ | h
  · exact .inl ⟨ob, x.keep _ _ e o⟩
  · exact .inr h
theorem NtpAt.sq {vs : List V} (h : NtpAt m H a vs) : SqT g.K H a vs := by
  obtain ⟨o, e, _⟩ := h
  exact .inl (.inr ⟨o, e⟩)
theorem TupAt.sq {vs : List V} (h : TupAt g m H a vs) : SqT g.K H a vs := by
  rcases h with ⟨e, _⟩ | h | h
  · exact .inl (.inl e)
  · exact h.1 H
  · exact h.sq
theorem ScrAt.sq {vs : List V} (h : ScrAt g m H a vs) : SqL g.K H a vs := by
  rcases h with ⟨o, e, _⟩ | h
  · exact .inl (.inr ⟨o, e⟩)
  · exact h H
mutual
theorem Rel.monoW (x : ExtW m1 n1 H1 m2 n2 H2) : ∀ (d : D) (v : V), Rel g m1 n1 H1 d v → Rel g m2 n2 H2 d v
  | .non, _, h => by unfold Rel at h ⊢; exact h
  | .bl _, _, h => by unfold Rel at h ⊢; exact h
  | .int _, _, h => by unfold Rel at h ⊢; exact h
  | .str _, _, h => by unfold Rel at h ⊢; exact h
  | .ty _, _, h => by unfold Rel at h ⊢; exact h
  | .tup xs, _, h => by
    unfold Rel at h ⊢
    obtain ⟨a, vs, e, t, r⟩ := h
    exact ⟨a, vs, e, t.monoW x, Rels.monoW x xs vs r⟩
  | .lst xs, _, h => by
    unfold Rel at h ⊢
    obtain ⟨a, vs, e, ⟨t, o⟩, r⟩ := h
    exact ⟨a, vs, e, x.keep _ _ t o, Rels.monoW x xs vs r⟩
  | .scr xs, _, h => by
    unfold Rel at h ⊢
    obtain ⟨a, vs, e, t, r⟩ := h
    exact ⟨a, vs, e, t.monoW x, Rels.monoW x xs vs r⟩
  | .ntp xs, _, h => by
    unfold Rel at h ⊢
    obtain ⟨a, vs, e, t, r⟩ := h
    exact ⟨a, vs, e, t.monoW x, Rels.monoW x xs vs r⟩
  | .wtp xs, _, h => by
    unfold Rel at h ⊢
    obtain ⟨a, vs, e, ⟨t, o⟩, r⟩ := h
    exact ⟨a, vs, e, x.keep _ _ t o, Rels.monoW x xs vs r⟩
  | .ref i, _, h => by
    unfold Rel at h ⊢
    obtain ⟨l, a, e, q⟩ := h
    exact ⟨Nat.lt_of_lt_of_le l x.le, a, e, fun b hb => q b (x.old i b l hb)⟩
  | .ins c fs, _, h => by
    unfold Rel at h ⊢
    obtain ⟨a, dx, gs, e, ⟨t, o⟩, k, r⟩ := h
    exact ⟨a, dx, gs, e, x.keep _ _ t o, k, RelFs.monoW x fs gs r⟩
  | .exv i c fs, _, h => by
    unfold Rel at h ⊢
    obtain ⟨l, a, e, q⟩ := h
    refine ⟨Nat.lt_of_lt_of_le l x.le, a, e, fun h hh hi => ?_⟩
    obtain ⟨q1, q2, q3⟩ := q h hh hi
    refine ⟨q1, q2, q3.imp id fun ⟨dd, gs, e1, e2, e3⟩ => ⟨dd, gs, e1, x.keep _ _ e2.1 e2.2, RelFs.monoW x fs gs e3⟩⟩
theorem Rels.monoW (x : ExtW m1 n1 H1 m2 n2 H2) : ∀ (ds : List D) (vs : List V), Rels g m1 n1 H1 ds vs → Rels g m2 n2 H2 ds vs
  | [], _, h => by unfold Rels at h ⊢; exact h
  | d :: ds, _, h => by
    unfold Rels at h ⊢
    obtain ⟨w, ws, e, r, q⟩ := h
    exact ⟨w, ws, e, Rel.monoW x d w r, Rels.monoW x ds ws q⟩
theorem RelFs.monoW (x : ExtW m1 n1 H1 m2 n2 H2) : ∀ (ds : List (Nat × D)) (vs : List (Str × V)), RelFs g m1 n1 H1 ds vs → RelFs g m2 n2 H2 ds vs
  | [], _, h => by unfold RelFs at h ⊢; exact h
  | (f, d) :: ds, _, h => by
    unfold RelFs at h ⊢
    obtain ⟨w, ws, e, r, q⟩ := h
    exact ⟨w, ws, e, Rel.monoW x d w r, RelFs.monoW x ds ws q⟩
end

theorem TupAt.mono {vs : List V} (x : Ext m1 n1 H1 m2 n2 H2) (h : TupAt g m1 H1 a vs) : TupAt g m2 H2 a vs := h.monoW x.w
theorem ScrAt.mono {vs : List V} (x : Ext m1 n1 H1 m2 n2 H2) (h : ScrAt g m1 H1 a vs) : ScrAt g m2 H2 a vs := h.monoW x.w
theorem Rel.mono (x : Ext m1 n1 H1 m2 n2 H2) (d : D) (v : V) (h : Rel g m1 n1 H1 d v) : Rel g m2 n2 H2 d v := Rel.monoW x.w d v h
theorem Rels.mono (x : Ext m1 n1 H1 m2 n2 H2) (ds : List D) (vs : List V) (h : Rels g m1 n1 H1 ds vs) : Rels g m2 n2 H2 ds vs := Rels.monoW x.w ds vs h
theorem RelFs.mono (x : Ext m1 n1 H1 m2 n2 H2) (ds : List (Nat × D)) (vs : List (Str × V)) (h : RelFs g m1 n1 H1 ds vs) : RelFs g m2 n2 H2 ds vs := RelFs.monoW x.w ds vs h

/-! lists of related things -/
theorem Rels.length : ∀ {ds : List D} {vs : List V}, Rels g m n H ds vs → ds.length = vs.length
  | [], _, h => by unfold Rels at h; rw [h]; rfl
  | d :: ds, _, h => by
    unfold Rels at h
    obtain ⟨w, ws, rfl, _, q⟩ := h
    rw [List.length_cons, List.length_cons, Rels.length q]
theorem Rels.get : ∀ {ds : List D} {vs : List V} {i : Nat} {d : D}, Rels g m n H ds vs → ds[i]? = some d → ∃ v, vs[i]? = some v ∧ Rel g m n H d v
  | [], _, _, _, _, e => by simp at e
  | x :: xs, _, 0, d, h, e => by
    unfold Rels at h
    obtain ⟨w, ws, rfl, r, _⟩ := h
    simp at e
    subst e
    exact ⟨w, rfl, r⟩
  | x :: xs, _, i + 1, d, h, e => by
    unfold Rels at h
    obtain ⟨w, ws, rfl, _, q⟩ := h
    simpa using Rels.get (i := i) q (by simpa using e)
theorem Rels.nil : Rels g m n H [] [] := by unfold Rels; rfl
theorem Rels.cons {d : D} {v : V} {ds : List D} {vs : List V} (h : Rel g m n H d v) (r : Rels g m n H ds vs) : Rels g m n H (d :: ds) (v :: vs) := by
  unfold Rels
  exact ⟨v, vs, rfl, h, r⟩
theorem Rels.one {d : D} {vs : List V} (h : Rels g m n H [d] vs) : ∃ v, vs = [v] ∧ Rel g m n H d v := by
  unfold Rels at h
  obtain ⟨w, ws, rfl, r, q⟩ := h
  unfold Rels at q
  exact ⟨w, by rw [q], r⟩
theorem Rels.two {d e : D} {vs : List V} (h : Rels g m n H [d, e] vs) : ∃ v w, vs = [v, w] ∧ Rel g m n H d v ∧ Rel g m n H e w := by
  unfold Rels at h
  obtain ⟨w, ws, rfl, r, q⟩ := h
  obtain ⟨z, rfl, s⟩ := q.one
  exact ⟨w, z, rfl, r, s⟩
theorem Rels.append : ∀ {ds es : List D} {vs ws : List V}, Rels g m n H ds vs → Rels g m n H es ws → Rels g m n H (ds ++ es) (vs ++ ws)
  | [], _, _, _, h, r => by
    unfold Rels at h
    rw [h]
    exact r
  | d :: ds, _, _, _, h, r => by
    unfold Rels at h
    obtain ⟨w, ws, rfl, a, q⟩ := h
    exact Rels.cons a (Rels.append q r)
theorem Rels.take : ∀ {ds : List D} {vs : List V} (k : Nat), Rels g m n H ds vs → Rels g m n H (ds.take k) (vs.take k)
  | _, _, 0, _ => by rw [List.take_zero, List.take_zero]; exact Rels.nil
  | [], _, k + 1, h => by
    unfold Rels at h
    rw [h]
    exact Rels.nil
  | d :: ds, _, k + 1, h => by
    unfold Rels at h
    obtain ⟨w, ws, rfl, a, q⟩ := h
    exact Rels.cons a (Rels.take k q)
theorem Rels.drop : ∀ {ds : List D} {vs : List V} (k : Nat), Rels g m n H ds vs → Rels g m n H (ds.drop k) (vs.drop k)
  | _, _, 0, h => h
  | [], _, k + 1, h => by
    unfold Rels at h
    rw [h]
    exact Rels.nil
  | d :: ds, _, k + 1, h => by
    unfold Rels at h
    obtain ⟨w, ws, rfl, a, q⟩ := h
    exact Rels.drop k q
theorem Rels.reverse : ∀ {ds : List D} {vs : List V}, Rels g m n H ds vs → Rels g m n H ds.reverse vs.reverse
  | [], _, h => by
    unfold Rels at h
    rw [h]
    exact Rels.nil
  | d :: ds, _, h => by
    unfold Rels at h
    obtain ⟨w, ws, rfl, a, q⟩ := h
    rw [List.reverse_cons, List.reverse_cons]
    exact Rels.append (Rels.reverse q) (Rels.cons a Rels.nil)
theorem Rels.set : ∀ {ds : List D} {vs : List V} {d : D} {v : V} (k : Nat), Rels g m n H ds vs → Rel g m n H d v → Rels g m n H (ds.set k d) (vs.set k v)
  | [], _, _, _, k, h, _ => by
    unfold Rels at h
    rw [h]
    exact Rels.nil
  | x :: xs, _, _, _, 0, h, r => by
    unfold Rels at h
    obtain ⟨w, ws, rfl, a, q⟩ := h
    exact Rels.cons r q
  | x :: xs, _, _, _, k + 1, h, r => by
    unfold Rels at h
    obtain ⟨w, ws, rfl, a, q⟩ := h
    exact Rels.cons a (Rels.set k q r)
theorem Rels.of : ∀ {ds : List D} {vs : List V}, ds.length = vs.length → (∀ (i : Nat) (d : D) (v : V), ds[i]? = some d → vs[i]? = some v → Rel g m n H d v) → Rels g m n H ds vs
  | [], [], _, _ => Rels.nil
  | d :: ds, v :: vs, l, h => Rels.cons (h 0 d v rfl rfl) (Rels.of (Nat.succ.inj l) fun i d v a b => h (i + 1) d v (by simpa using a) (by simpa using b))
  | [], _ :: _, l, _ => by cases l
  | _ :: _, [], l, _ => by cases l

/-! the store and the heap -/
/-- a text key is one that the library's rules take -/
def okKey : L2.Key → Prop
  | .inl _ => True
  | .inr x => okS x
def RelKs (g : Gs) (m : Mp) (n : Nat) (H : Hp) : List (L2.Key × D) → List (L2.Key × V) → Prop
  | [], gs => gs = []
  | (k, d) :: r, gs => ∃ v gr, gs = (k, v) :: gr ∧ okKey k ∧ Rel g m n H d v ∧ RelKs g m n H r gr
theorem RelKs.monoW (x : ExtW m1 n1 H1 m2 n2 H2) : ∀ {ds : List (L2.Key × D)} {vs : List (L2.Key × V)}, RelKs g m1 n1 H1 ds vs → RelKs g m2 n2 H2 ds vs
  | [], _, h => h
  | (k, d) :: r, _, h => let ⟨v, gr, e, ok, q, q2⟩ := h; ⟨v, gr, e, ok, Rel.monoW x _ _ q, RelKs.monoW x q2⟩
def CellR (g : Gs) (m : Mp) (n : Nat) (H : Hp) (a : Addr) : Cell → Prop
  | .lst xs => ∃ vs, H a = some (.lst vs) ∧ Rels g m n H xs vs
  | .ins c fs => ∃ dx gs, H a = some (.ins (g.ca c) dx gs) ∧ insOk g c fs ∧ RelFs g m n H fs gs
  | .dct kvs => ∃ kws, H a = some (.dK kws) ∧ RelKs g m n H kvs kws
  | .dlk kvs => ∃ o kws, H a = some (.frz o (.dK kws)) ∧ RelKs g m n H kvs kws
  | .hot => False
structure RS (g : Gs) (m : Mp) (S : Sto) (H : Hp) : Prop where
  dom : ∀ i a, m i = some a → ∃ c, cellAt S i = some c ∧ CellR g m S.length H a c
  all : ∀ i c, cellAt S i = some c → c ≠ .hot → ∃ a, m i = some a
  inj : ∀ i j a, m i = some a → m j = some a → i = j
  hidS : ∀ a, m.hid a → (∃ o, H a = some o) ∧ ∀ i, m i ≠ some a
  hotS : ∀ i, cellAt S i = some .hot → ∃ h, g.hot = some h ∧ h.id = i
theorem CellR.monoW {c : Cell} (x : ExtW m1 n1 H1 m2 n2 H2) (e : H2 a = H1 a) (h : CellR g m1 n1 H1 a c) : CellR g m2 n2 H2 a c := by
  cases c with
  | lst xs =>
    obtain ⟨vs, k, r⟩ := h
    exact ⟨vs, e.trans k, Rels.monoW x _ _ r⟩
  | ins c fs =>
    obtain ⟨dx, gs, k, q, r⟩ := h
    exact ⟨dx, gs, e.trans k, q, RelFs.monoW x _ _ r⟩
  | dct kvs =>
    obtain ⟨kws, k, r⟩ := h
    exact ⟨kws, e.trans k, RelKs.monoW x r⟩
  | dlk kvs =>
    obtain ⟨o, kws, k, r⟩ := h
    exact ⟨o, kws, e.trans k, RelKs.monoW x r⟩
  | hot => exact h
theorem CellR.mono {c : Cell} (x : Ext m1 n1 H1 m2 n2 H2) (e : H2 a = H1 a) (h : CellR g m1 n1 H1 a c) : CellR g m2 n2 H2 a c := h.monoW x.w e
theorem CellR.some {c : Cell} (h : CellR g m n H a c) : ∃ o, H a = some o := by
  cases c with
  | lst xs => obtain ⟨vs, k, _⟩ := h; exact ⟨_, k⟩
  | ins c fs => obtain ⟨dx, gs, k, _⟩ := h; exact ⟨_, k⟩
  | dct kvs => obtain ⟨kws, k, _⟩ := h; exact ⟨_, k⟩
  | dlk kvs => obtain ⟨o, kws, k, _⟩ := h; exact ⟨_, k⟩
  | hot => exact h.elim
variable {S S1 S2 : Sto} {i j : Nat}
theorem RS.lt (r : RS g m S H) (e : m i = some a) : i < S.length := by
  obtain ⟨c, k, _⟩ := r.dom i a e
  unfold cellAt at k
  cases q : S[i]? with
  | none => rw [q] at k; cases k
  | some o => exact (List.getElem?_eq_some_iff.mp q).1
theorem RS.at (r : RS g m S H) {c : Cell} (e : cellAt S i = some c) (nh : c ≠ .hot := by intro z; cases z) : ∃ a, m i = some a ∧ CellR g m S.length H a c := by
  obtain ⟨a, h⟩ := r.all i c e nh
  obtain ⟨c', e', k⟩ := r.dom i a h
  rw [e] at e'
  cases e'
  exact ⟨a, h, k⟩
theorem Rel.box (r : RS g m S H) {c : Cell} {v : V} (h : Rel g m S.length H (.ref i) v) (e : cellAt S i = some c) (nh : c ≠ .hot := by intro z; cases z) : ∃ a, v = .ref a ∧ m i = some a ∧ CellR g m S.length H a c := by
  obtain ⟨a, k, q⟩ := r.at e nh
  unfold Rel at h
  obtain ⟨_, b, rfl, hb⟩ := h
  rw [← hb a k]
  exact ⟨a, rfl, k, q⟩
/-- nobody's box stands at a free place -/
theorem Off.free (r : RS g m S H) (e : H a = none) : Off m a := by
  refine ⟨fun i k => ?_, fun h => ?_⟩
  · obtain ⟨c, _, q⟩ := r.dom i a k
    obtain ⟨o', e'⟩ := q.some
    rw [e] at e'
    cases e'
  · obtain ⟨⟨o, q⟩, _⟩ := r.hidS a h
    rw [e] at q
    cases q
/-- a thing is laid that no box holds -/
theorem Ext.laid {o : HO} (r : RS g m S H) (e : H a = none) : Ext m n H m n (upd H a o) :=
  ⟨Nat.le_refl _, fun _ _ _ e => e, fun b ob k f => ⟨by rw [upd_ne (ne_of_none k e)]; exact k, f⟩, fun b h => ⟨h, upd_ne fun z => (Off.free r e).2 (by rw [← z]; exact h)⟩, Fz.upd (NoFz.none e)⟩
theorem RS.laid {o : HO} (r : RS g m S H) (e : H a = none) : RS g m S (upd H a o) :=
  ⟨fun i b k => let ⟨c, h, q⟩ := r.dom i b k; ⟨c, h, q.mono (Ext.laid r e) (upd_ne fun z => (Off.free r e).1 i (by rw [← z]; exact k))⟩, r.all, r.inj,
    fun b h => let ⟨⟨ob, k⟩, f⟩ := r.hidS b h; ⟨⟨ob, by rw [upd_ne (ne_of_none k e)]; exact k⟩, f⟩, r.hotS⟩
/-- a new box -/
def mNew (m : Mp) (n : Nat) (a : Addr) : Mp := ⟨fun i => if i = n then some a else m i, m.hid⟩
theorem mNew_same : mNew m n a n = some a := if_pos rfl
theorem mNew_ne (h : i ≠ n) : mNew m n a i = m i := if_neg h
theorem Ext.new {o : HO} (r : RS g m S H) (e : H a = none) : Ext m S.length H (mNew m S.length a) (S.length + 1) (upd H a o) := by
  refine ⟨Nat.le_succ _, fun i b l k => ?_, fun b ob k f => ⟨by rw [upd_ne (ne_of_none k e)]; exact k, fun i q => ?_, f.2⟩, fun b h => ⟨h, upd_ne fun z => (Off.free r e).2 (by rw [← z]; exact h)⟩, Fz.upd (NoFz.none e)⟩
  · rw [mNew_ne (Nat.ne_of_lt l)] at k
    exact k
  · by_cases hi : i = S.length
    · rw [hi, mNew_same] at q
      cases q
      rw [e] at k
      cases k
    · rw [mNew_ne hi] at q
      exact f.1 i q
theorem cellAt_push_lt {c : Option Cell} (h : i < S.length) : cellAt (S ++ [c]) i = cellAt S i := by
  unfold cellAt
  rw [List.getElem?_append_left h]
theorem cellAt_push {c : Option Cell} : cellAt (S ++ [c]) S.length = c := by
  unfold cellAt
  rw [List.getElem?_append_right (Nat.le_refl _), Nat.sub_self]
  cases c <;> rfl
theorem cellAt_lt {c : Cell} (h : cellAt S i = some c) : i < S.length := by
  unfold cellAt at h
  cases q : S[i]? with
  | none => rw [q] at h; cases h
  | some o => exact (List.getElem?_eq_some_iff.mp q).1
theorem RS.new {o : HO} {c : Cell} (r : RS g m S H) (e : H a = none) (hc : CellR g (mNew m S.length a) (S.length + 1) (upd H a o) a c) : RS g (mNew m S.length a) (S ++ [some c]) (upd H a o) := by
  have x := Ext.new (o := o) r e
  refine ⟨fun i b k => ?_, fun i c' k nh => ?_, fun i j b h1 h2 => ?_, fun b h => ?_, fun i k => ?_⟩
  · rw [List.length_append, List.length_singleton]
    by_cases hi : i = S.length
    · subst hi
      rw [mNew_same] at k
      cases k
      exact ⟨c, cellAt_push, hc⟩
    · rw [mNew_ne hi] at k
      obtain ⟨c', h, q⟩ := r.dom i b k
      exact ⟨c', by rw [cellAt_push_lt (r.lt k)]; exact h, q.mono x (upd_ne fun z => (Off.free r e).1 i (by rw [← z]; exact k))⟩
  · by_cases hi : i = S.length
    · exact ⟨a, by rw [hi, mNew_same]⟩
    · have hl := cellAt_lt k
      rw [List.length_append, List.length_singleton] at hl
      have hl' : i < S.length := by omega
      rw [cellAt_push_lt hl'] at k
      rw [mNew_ne hi]
      exact r.all i c' k nh
  · by_cases hi : i = S.length
    · by_cases hj : j = S.length
      · rw [hi, hj]
      · rw [hi, mNew_same] at h1
        cases h1
        rw [mNew_ne hj] at h2
        exact absurd h2 ((Off.free r e).1 j)
    · rw [mNew_ne hi] at h1
      by_cases hj : j = S.length
      · rw [hj, mNew_same] at h2
        cases h2
        exact absurd h1 ((Off.free r e).1 i)
      · rw [mNew_ne hj] at h2
        exact r.inj i j b h1 h2
  · obtain ⟨⟨ob, k⟩, f⟩ := r.hidS b h
    refine ⟨⟨ob, by rw [upd_ne (ne_of_none k e)]; exact k⟩, fun i q => ?_⟩
    by_cases hi : i = S.length
    · rw [hi, mNew_same] at q
      cases q
      rw [e] at k
      cases k
    · rw [mNew_ne hi] at q
      exact f i q
  · by_cases hi : i = S.length
    · rw [hi, cellAt_push] at k
      cases k
      exact hc.elim
    · have hl := cellAt_lt k
      rw [List.length_append, List.length_singleton] at hl
      rw [cellAt_push_lt (by omega)] at k
      exact r.hotS i k
/-- a box is changed -/
theorem Ext.set {o : HO} (r : RS g m S H) (k : m i = some a) (nf : NoFz (H a) := by first | exact NoFz.of (u := .lst _) (by assumption) (fun _ _ z => nomatch z) | exact NoFz.of (u := .ins _ _ _) (by assumption) (fun _ _ z => nomatch z) | exact NoFz.of (u := .dK _) (by assumption) (fun _ _ z => nomatch z)) : Ext m n H m n (upd H a o) :=
  ⟨Nat.le_refl _, fun _ _ _ e => e, fun b ob e f => ⟨by rw [upd_ne fun z => f.1 i (by rw [z]; exact k)]; exact e, f⟩, fun b h => ⟨h, upd_ne fun z => (r.hidS b h).2 i (by rw [z]; exact k)⟩, Fz.upd nf⟩
theorem cellAt_set_same {c : Option Cell} (h : i < S.length) : cellAt (S.set i c) i = c := by
  unfold cellAt
  rw [List.getElem?_set_self h]
  cases c <;> rfl
theorem cellAt_set_ne {c : Option Cell} (h : j ≠ i) : cellAt (S.set i c) j = cellAt S j := by
  unfold cellAt
  rw [List.getElem?_set_ne (Ne.symm h)]
theorem ExtW.set {o : HO} (r : RS g m S H) (k : m i = some a) : ExtW m n H m n (upd H a o) :=
  ⟨Nat.le_refl _, fun _ _ _ e => e, fun b ob e f => ⟨by rw [upd_ne fun z => f.1 i (by rw [z]; exact k)]; exact e, f⟩⟩
theorem RS.set {o : HO} {c : Cell} (r : RS g m S H) (k : m i = some a) (hc : CellR g m S.length (upd H a o) a c) : RS g m (setAt S i c) (upd H a o) := by
  have x := ExtW.set (n := S.length) (o := o) r k
  unfold setAt
  refine ⟨fun j b h => ?_, fun j c' h nh => ?_, r.inj, fun b h => let ⟨⟨ob, q⟩, f⟩ := r.hidS b h; ⟨⟨ob, by rw [upd_ne fun z => f i (by rw [z]; exact k)]; exact q⟩, f⟩, fun j h => ?_⟩
  · rw [List.length_set]
    by_cases hj : j = i
    · subst hj
      rw [k] at h
      cases h
      exact ⟨c, cellAt_set_same (r.lt k), hc⟩
    · obtain ⟨c', q, w⟩ := r.dom j b h
      exact ⟨c', by rw [cellAt_set_ne hj]; exact q, w.monoW x (upd_ne fun z => hj (r.inj j i a (by rw [← z]; exact h) k))⟩
  · by_cases hj : j = i
    · exact ⟨a, by rw [hj]; exact k⟩
    · rw [cellAt_set_ne hj] at h
      exact r.all j c' h nh
  · by_cases hj : j = i
    · rw [hj, cellAt_set_same (r.lt k)] at h
      cases h
      exact hc.elim
    · rw [cellAt_set_ne hj] at h
      exact r.hotS j h
end
end Iv

/-! ### tuples that the run makes, with their whole object told (no dict of their own) -/
namespace Iv
open PySem PySem.Spec PyProof.Rows L2
/-- a plain tuple's object -/
def NewT (o : Obj) : Prop := o.cls = .type "tuple" ∧ o.dict = none
/-- what is wished of a new tuple -/
def GivesT (H : Hp) (xs : List V) (Q : VK) : Prop := ∀ p o, H p = none → NewT o → Q (.ref p) (upd H p (.frz o (.tup xs)))
section
variable {X : Cx} {pins : List (Addr × Obj)} {σ : L2.St} {H : Hp} {s : Shared} {us : List Value} {xs : List V} {Q : VK}
theorem tup_laid (J : Inv X pins σ H s) (r : Vals xs us) (z : xs.length ≤ sizeLine) (q : GivesT H xs Q) {t' : Nat} : EP X pins σ Q (.ref s.heap.objs.size) { s with heap := s.heap.push { cls := .type "tuple", data := .seq us.toArray }, toks := t' } := by
  have hn : H s.heap.objs.size = none := J.hok.fresh (Nat.le_refl _)
  have hg : (s.heap.push { cls := .type "tuple", data := .seq us.toArray }).get? s.heap.objs.size = some { cls := .type "tuple", data := .seq us.toArray } := Heap.get?_push_size _ rfl
  exact ⟨.ref _, upd H _ (.frz { cls := .type "tuple", data := .seq us.toArray } (.tup xs)), J.laid (fun _ _ e => Heap.get?_push_of_some _ e) (Nat.le_refl _) ⟨hg, z, us, r, IsTup.new _ _⟩, rfl, q _ _ hn ⟨rfl, rfl⟩⟩
end
section
variable {X : Cx} {e : Expr} {es : List Expr} {te : TE} {t : TA} {p pos : Pos} {k : Nat}
/-- (e, ..) -/
theorem pe_tupN (h : PA X es t) : PE X (.Tuple es k pos) (fun σ H Q => t σ H fun xs H1 => xs.length ≤ sizeLine ∧ GivesT H1 xs Q) :=
  ⟨fun pins s σ H Q I w => wpAny_Tuple_spliced (thn (h.run pos pins s σ H _ I w) fun us s1 ⟨xs, H1, J, r, z, q⟩ => ⟨by rw [← r.length]; exact z, tup_laid J r z q⟩)⟩
/-- t + u -/
theorem op_catN : OpR X (binaryOp .Add) (fun x y H Q => ∃ a b xs ys, x = .ref a ∧ y = .ref b ∧ SqT X.K H a xs ∧ SqT X.K H b ys ∧ xs.length + ys.length ≤ sizeLine ∧ (xs = [] → Q (.ref b) H) ∧ (xs ≠ [] → ys = [] → Q (.ref a) H) ∧
    (xs ≠ [] → ys ≠ [] → GivesT H (xs ++ ys) Q)) := fun pins s σ H x y v u Q I rx ry ⟨a, b, xs, ys, ex, ey, ha, hb, z, q0, q1, q2⟩ => by
  by_cases h1 : xs = []
  · exact op_catA pins s σ H x y v u Q I rx ry ⟨a, b, xs, ys, ex, ey, ha, hb, z, q0, fun n => absurd h1 n, fun n => absurd h1 n⟩
  by_cases h2 : ys = []
  · exact op_catA pins s σ H x y v u Q I rx ry ⟨a, b, xs, ys, ex, ey, ha, hb, z, q0, q1, fun _ n => absurd h2 n⟩
  subst ex ey
  cases rx
  cases ry
  obtain ⟨vs, r, tv, _⟩ := I.tuple ha
  obtain ⟨ws, r', tw, _⟩ := I.tuple hb
  have n1 : vs ≠ [] := fun n => h1 (r.nil_iff.mp n)
  have n2 : ws ≠ [] := fun n => h2 (r'.nil_iff.mp n)
  exact HT.cat_tup tv tw n1 (fun n => absurd n n2) (fun _ => tup_laid I (r.append r') (by rw [List.length_append]; exact z) (q2 h1 h2)) (by rw [← r.length, ← r'.length]; exact z)
/-- t[lo:hi] -/
theorem sl_tupN : SlR X (fun x lo hi H Q => ∃ a xs, x = .ref a ∧ SqT X.K H a xs ∧ (HT.sIx xs.length 0 lo = 0 ∧ HT.sIx xs.length xs.length hi = xs.length → Q (.ref a) H) ∧
    (¬ (HT.sIx xs.length 0 lo = 0 ∧ HT.sIx xs.length xs.length hi = xs.length) → GivesT H (cutV xs lo hi) Q)) := fun pins s σ H x v vl vu lo hi sl Q I rx hs pl pu ⟨a, xs, ex, hx, q1, q2⟩ => by
  by_cases w : HT.sIx xs.length 0 lo = 0 ∧ HT.sIx xs.length xs.length hi = xs.length
  · exact sl_tupA pins s σ H x v vl vu lo hi sl Q I rx hs pl pu ⟨a, xs, ex, hx, q1, fun n => absurd w n⟩
  subst ex
  cases rx
  obtain ⟨vs, r, tv, z⟩ := I.tuple hx
  have l : vs.toArray.size = xs.length := by rw [List.size_toArray, r.length]
  refine ⟨"tuple", _, PyProof.Rows.slot_tuple_getitem.lookup, tv.typeIs, HT.getItem_tuple_cut tv hs pl pu (by rw [l]; exact w) ?_ (by rw [l]; exact z)⟩
  rw [l]
  exact tup_laid I ((r.drop _).take _) (Nat.le_trans (cutV_length xs lo hi) z) (q2 w)
/-- tuple(xs) -/
theorem call_tupleN : CallR X (.type "tuple") (fun xs H Q => ∃ p ys, xs = [.ref p] ∧ ((SqL X.K H p ys ∧ GivesT H ys Q) ∨ (SqT X.K H p ys ∧ Q (.ref p) H))) := fun pins s σ H xs us Q I r ⟨p, ys, ex, h⟩ => by
  rcases h with ⟨hl, q⟩ | ⟨ht, q⟩
  · subst ex
    obtain ⟨u, rfl, ru⟩ := vals1 r
    cases ru
    obtain ⟨vs, rv, pv, z⟩ := I.list hl
    have l := rv.length
    exact call_tuple_list pv.isList (fun g kp => tup_laid (I.kept (t' := s.toks) kp) rv z q) (by simp only [List.size_toArray]; omega)
  · exact call_tuple_of pins s σ H xs us Q I r ⟨p, ys, ex, .inr ⟨ht, q⟩⟩
end
end Iv

/-! ### min and max of two texts -/
namespace Iv
open PySem PySem.Spec PyProof.Rows L2
section
variable {prog : Program} {w : World} {A : Around} {E : Value → Shared → Prop} {s : Shared} {a b : Str} {t u : Tok}
/-- the first or the second -/
def of2 (a b : Str) (i : Nat) : Str := if i = 0 then a else b
theorem of2_at {i : Nat} {v : Value} (h : #[Value.str a t, .str b u][i]? = some v) : ∃ k, v = .str (of2 a b i) k := by
  rcases i with _ | _ | i
  · exact ⟨t, by simpa [of2] using h.symm⟩
  · exact ⟨u, by simpa [of2] using h.symm⟩
  · simp at h
theorem pick2 {r : Str → Str → Bool} {v : Value} (h : #[Value.str a t, .str b u][argBest (fun i j => r (of2 a b i) (of2 a b j)) 1]? = some v) : v = if r b a then .str b u else .str a t := by
  have h : #[Value.str a t, .str b u][if r b a then 1 else 0]? = some v := h
  cases hb : r b a with
  | true => rw [hb] at h; simpa using h.symm
  | false => rw [hb] at h; simpa using h.symm
theorem order2 {op : CmpOp} {r : Str → Str → Bool} (hr : ∀ (x y : Str) (k l : Tok) (s' : Shared) (Q' E' : Value → Shared → Prop), Q' (.bool (r x y)) s' → wpAny (model prog w) A (richCompare op (.str x k) (.str y l)) Q' E' s') :
    CmpOf prog w A op (fun i v => #[Value.str a t, .str b u][i]? = some v) fun i j => r (of2 a b i) (of2 a b j) := fun i j vi vj s' Q' E' hi hj hq => by
  obtain ⟨k, rfl⟩ := of2_at hi
  obtain ⟨l, rfl⟩ := of2_at hj
  exact hr _ _ k l s' Q' E' hq
/-- the two, laid as a tuple, and its walker -/
abbrev laid2 (s : Shared) (a b : Str) (t u : Tok) : Heap := s.heap.push { cls := .type "tuple", data := .seq #[.str a t, .str b u] }
theorem tup2 : (laid2 s a b t u).IsTuple s.heap.objs.size #[.str a t, .str b u] := ⟨_, Heap.get?_push_size _ rfl, rfl, 0, rfl⟩
theorem far2 {c : Addr} {o : Obj} {x : Obj} (hc : s.heap.get? c = some o) : ((laid2 s a b t u).push x).get? c = some o ∧ c ∉ [(laid2 s a b t u).objs.size] := by
  refine ⟨Heap.get?_push_of_some _ (Heap.get?_push_of_some _ hc), fun hm => ?_⟩
  have := Heap.lt_size hc
  rw [List.mem_singleton.mp hm, show (laid2 s a b t u).objs.size = s.heap.objs.size + 1 from Heap.size_push ..] at this
  exact Nat.lt_irrefl _ (Nat.lt_of_succ_lt this)
theorem near2 {x : Obj} : ∀ c ∈ [(laid2 s a b t u).objs.size, s.heap.objs.size], c < ((laid2 s a b t u).push x).objs.size := fun c hc => by
  have z1 : (laid2 s a b t u).objs.size = s.heap.objs.size + 1 := Heap.size_push ..
  rw [Heap.size_push, z1]
  rw [z1] at hc
  simp only [List.mem_cons, List.not_mem_nil, or_false] at hc
  rcases hc with rfl | rfl
  · show s.heap.objs.size + 1 < _
    omega
  · omega
theorem walk2 (hh : A.handled = none) : Walks prog w A (laid2 s a b t u).objs.size [(laid2 s a b t u).objs.size, s.heap.objs.size] [(laid2 s a b t u).objs.size] 2 (fun i v => #[Value.str a t, .str b u][i]? = some v)
    (fun i h => h.IsTupleIter (laid2 s a b t u).objs.size s.heap.objs.size i ∧ h.IsTuple s.heap.objs.size #[.str a t, .str b u]) :=
  Walks.tuple hh (laid2 s a b t u).objs.size s.heap.objs.size (by rw [show (laid2 s a b t u).objs.size = s.heap.objs.size + 1 from Heap.size_push ..]; exact Nat.ne_of_lt (Nat.lt_succ_self _)) #[.str a t, .str b u]
theorem min2T {Q : Value → Shared → Prop} (hh : A.handled = none) (q : ∀ h' tk, (∀ c o, s.heap.get? c = some o → h'.get? c = some o) → Q (if lessT b a then .str b u else .str a t) { s with heap := h', toks := tk }) :
    wpAny (model prog w) A (call (.builtin "min") [.str a t, .str b u]) Q E s :=
  call_min_two (wpAny_pyIter_tuple tup2 ⟨_, _, _, _, _, _, _, rfl, walk2 (A := A.in1) hh, ⟨⟨_, Heap.get?_push_size _ rfl, rfl, rfl⟩, tup2.push _⟩, near2, Nat.zero_lt_two, order2 (r := lessT) fun x y k l s' Q' E' h => (lt_str h : wpAny _ _ (compareOp .Lt (.str x k) (.str y l)) Q' E' s'),
    fun v h' tk hv hk => pick2 hv ▸ q h' tk fun c o hc => hk c o (far2 hc (x := default)).2 (far2 hc).1⟩)
theorem max2T {Q : Value → Shared → Prop} (hh : A.handled = none) (q : ∀ h' tk, (∀ c o, s.heap.get? c = some o → h'.get? c = some o) → Q (if lessT a b then .str b u else .str a t) { s with heap := h', toks := tk }) :
    wpAny (model prog w) A (call (.builtin "max") [.str a t, .str b u]) Q E s :=
  call_max_two (wpAny_pyIter_tuple tup2 ⟨_, _, _, _, _, _, _, rfl, walk2 (A := A.in1) hh, ⟨⟨_, Heap.get?_push_size _ rfl, rfl, rfl⟩, tup2.push _⟩, near2, Nat.zero_lt_two, order2 (r := fun x y => lessT y x) fun x y k l s' Q' E' h => (P.gt_str h : wpAny _ _ (compareOp .Gt (.str x k) (.str y l)) Q' E' s'),
    fun v h' tk hv hk => pick2 (r := fun x y => lessT y x) hv ▸ q h' tk fun c o hc => hk c o (far2 hc (x := default)).2 (far2 hc).1⟩)
end
section
variable {X : Cx}
theorem call_minT (hc : X.calm = true) : CallR X (.builtin "min") (fun xs H Q => ∃ a b, xs = [.str a, .str b] ∧ Q (.str (if lessT b a then b else a)) H) := fun pins s σ H xs us Q I r ⟨a, b, ex, q⟩ => by
  subst ex
  obtain ⟨_, _, rfl, ⟨t, rfl⟩, ⟨u, rfl⟩⟩ := vals2 r
  refine min2T (I.ok.hd hc) fun h' tk k => ⟨.str (if lessT b a then b else a), H, I.kept k, ?_, q⟩
  cases lessT b a <;> exact ⟨_, rfl⟩
theorem call_maxT (hc : X.calm = true) : CallR X (.builtin "max") (fun xs H Q => ∃ a b, xs = [.str a, .str b] ∧ Q (.str (if lessT a b then b else a)) H) := fun pins s σ H xs us Q I r ⟨a, b, ex, q⟩ => by
  subst ex
  obtain ⟨_, _, rfl, ⟨t, rfl⟩, ⟨u, rfl⟩⟩ := vals2 r
  refine max2T (I.ok.hd hc) fun h' tk k => ⟨.str (if lessT a b then b else a), H, I.kept k, ?_, q⟩
  cases lessT a b <;> exact ⟨_, rfl⟩
end
end Iv

/-! ### results and their wishes; operators -/
namespace Iv
open PySem PySem.Spec PyProof.Rows L2

def WP {α β : Type} (g : Gs) (W : Value → Option Addr → Hp → Prop) (Rr : Mp → Nat → Hp → α → β → Prop) (m : Mp) (n : Nat) (H : Hp) (r : R α) (Q : β → Hp → Prop) : Prop := match r with
  | .ok a S' => ∀ m' H' b, Ext m n H m' S'.length H' → RS g m' S' H' → Rr m' S'.length H' a b → Q b H'
  | .exc x S' => ∀ m' H' c d, Ext m n H m' S'.length H' → RS g m' S' H' → g.xr m' S'.length H' x c d → W c d H'
  | .err => False
section
variable {α β γ δ : Type} {g : Gs} {W : Value → Option Addr → Hp → Prop} {Ra : Mp → Nat → Hp → α → β → Prop} {Rb : Mp → Nat → Hp → γ → δ → Prop} {m m1 : Mp} {n n1 : Nat} {H H1 : Hp} {S : Sto}
theorem WP.from {r : R α} {Q : β → Hp → Prop} (x : Ext m n H m1 n1 H1) (h : WP g W Ra m n H r Q) : WP g W Ra m1 n1 H1 r Q := by
  cases r with
  | ok a S' => exact fun m' H' b y => h m' H' b (x.trans y)
  | exc e S' => exact fun m' H' c d y => h m' H' c d (x.trans y)
  | err => exact h
theorem WP.bind {r : R α} {f : α → Sto → R γ} {Q : δ → Hp → Prop} (h : WP g W Rb m n H (r.bind f) Q) :
    WP g W Ra m n H r (fun b H1 => ∃ m1 S1 a, Ext m n H m1 S1.length H1 ∧ RS g m1 S1 H1 ∧ Ra m1 S1.length H1 a b ∧ WP g W Rb m1 S1.length H1 (f a S1) Q) := by
  cases r with
  | ok a S' => exact fun m' H' b x rs ra => ⟨m', S', a, x, rs, ra, WP.from x h⟩
  | exc e S' => exact h
  | err => exact h
theorem WP.now {a : α} {b : β} {Q : β → Hp → Prop} (h : WP g W Ra m S.length H (.ok a S) Q) (rs : RS g m S H) (ra : Ra m S.length H a b) : Q b H := h m H b Ext.refl rs ra
theorem WP.ck {c : Prop} [Decidable c] {r : R α} {Q : β → Hp → Prop} (h : WP g W Ra m n H (ck c r) Q) : c ∧ WP g W Ra m n H r Q := by
  unfold Iv.ck at h
  by_cases hc : c
  · rw [if_pos hc] at h
    exact ⟨hc, h⟩
  · rw [if_neg hc] at h
    exact h.elim
theorem WP.imp {r : R α} {Q Q' : β → Hp → Prop} (h : WP g W Ra m n H r Q) (k : ∀ b H', Q b H' → Q' b H') : WP g W Ra m n H r Q' := by
  cases r with
  | ok a S' => exact fun m' H' b x rs ra => k _ _ (h m' H' b x rs ra)
  | exc e S' => exact h
  | err => exact h
theorem WP.err {Q : β → Hp → Prop} {P : Prop} (h : WP g W Ra m n H .err Q) : P := False.elim h
end
section
variable {g : Gs} {m : Mp} {n : Nat} {H : Hp} {v : V}
theorem rel_non : Rel g m n H .non v = (v = .non) := by unfold Rel; rfl
theorem rel_bl {b : Bool} : Rel g m n H (.bl b) v = (v = .bl b) := by unfold Rel; rfl
theorem rel_int {i : Int} : Rel g m n H (.int i) v = (v = .int i) := by unfold Rel; rfl
theorem rel_str {x : Str} : Rel g m n H (.str x) v = (v = .str x ∧ okS x) := by unfold Rel; rfl
theorem rel_ty {x : String} : Rel g m n H (.ty x) v = (v = .ty x) := by unfold Rel; rfl
theorem rel_tup {xs : List D} : Rel g m n H (.tup xs) v = ∃ a vs, v = .ref a ∧ TupAt g m H a vs ∧ Rels g m n H xs vs := by rw [Rel]
theorem rel_lst {xs : List D} : Rel g m n H (.lst xs) v = ∃ a vs, v = .ref a ∧ (H a = some (.lst vs) ∧ Off m a) ∧ Rels g m n H xs vs := by rw [Rel]
theorem rel_scr {xs : List D} : Rel g m n H (.scr xs) v = ∃ a vs, v = .ref a ∧ ScrAt g m H a vs ∧ Rels g m n H xs vs := by rw [Rel]
theorem rel_ntp {xs : List D} : Rel g m n H (.ntp xs) v = ∃ a vs, v = .ref a ∧ NtpAt m H a vs ∧ Rels g m n H xs vs := by rw [Rel]
theorem rel_wtp {xs : List D} : Rel g m n H (.wtp xs) v = ∃ a vs, v = .ref a ∧ (H a = some (.tup vs) ∧ Off m a) ∧ Rels g m n H xs vs := by rw [Rel]
theorem rel_exv {i c : Nat} {fs : List (Nat × D)} : Rel g m n H (.exv i c fs) v = (i < n ∧ ∃ a, v = .ref a ∧ ∀ h, g.hot = some h → h.id = i → h.a = a ∧ h.cls = g.cv c ∧
    ((fs = [] ∧ h.d = none) ∨ ∃ dd gs, h.d = some dd ∧ (H dd = some (.xd gs) ∧ Off m dd) ∧ RelFs g m n H fs gs)) := by rw [Rel]
theorem rel_ref {i : Nat} : Rel g m n H (.ref i) v = (i < n ∧ ∃ a, v = .ref a ∧ ∀ b, m i = some b → b = a) := by rw [Rel]
theorem rel_ins {c : Nat} {fs : List (Nat × D)} : Rel g m n H (.ins c fs) v = ∃ a dx gs, v = .ref a ∧ (H a = some (.ins (g.ca c) dx gs) ∧ Off m a) ∧ insOk g c fs ∧ RelFs g m n H fs gs := by rw [Rel]
end
theorem okS.ok {x : Str} (h : okS x) : PyData.strOk x = true := by
  unfold PyData.strOk
  rw [Array.all_eq_true']
  intro c hc
  exact decide_eq_true (h.2 c (Array.mem_toList_iff.mpr hc))
theorem OpR.imp {X : Cx} {f : Value → Value → Sem Value} {r r' : R2} (h : OpR X f r) (k : ∀ x y H Q, r' x y H Q → r x y H Q) : OpR X f r' :=
  fun pins s σ H x y v u Q I rx ry q => h pins s σ H x y v u Q I rx ry (k _ _ _ _ q)
theorem CallR.imp {X : Cx} {f : Value} {r r' : List V → Hp → VK → Prop} (h : CallR X f r) (k : ∀ xs H Q, r' xs H Q → r xs H Q) : CallR X f r' :=
  fun pins s σ H xs us Q I rx q => h pins s σ H xs us Q I rx (k _ _ _ q)
theorem MtR.imp {X : Cx} {id : String} {r r' : V → List V → Hp → VK → Prop} (h : MtR X id r) (k : ∀ x xs H Q, r' x xs H Q → r x xs H Q) : MtR X id r' :=
  fun pins s σ H x xs v us Q I rx rs q => h pins s σ H x xs v us Q I rx rs (k _ _ _ _ q)
theorem IxR.imp {X : Cx} {r r' : R2} (h : IxR X r) (k : ∀ x y H Q, r' x y H Q → r x y H Q) : IxR X r' :=
  fun value slice pins s σ H x y v u Q I rx ry q => h value slice pins s σ H x y v u Q I rx ry (k _ _ _ _ q)

section
variable {g : Gs} {W : Value → Option Addr → Hp → Prop} {m : Mp} {n : Nat} {H : Hp} {S : Sto} {Q : VK} {d e : D} {v x y : V} {xs ys : List D} {vs : List V}
theorem unbox_ref {i : Nat} : unbox S (.ref i) = match cellAt S i with
    | some (.lst xs) => .lst xs
    | _ => .ref i := rfl
theorem seqOf_ref {i : Nat} : seqOf S (.ref i) = match cellAt S i with
    | some (.lst xs) => some xs
    | _ => none := rfl
/-- a box or a frozen list, read -/
theorem unbox_rel (rs : RS g m S H) (h : Rel g m S.length H d v) (e : unbox S d = .lst xs) : ∃ a vs, v = .ref a ∧ H a = some (.lst vs) ∧ Rels g m S.length H xs vs := by
  cases d with
  | lst zs =>
    have e' : D.lst zs = D.lst xs := e
    cases e'
    rw [rel_lst] at h
    obtain ⟨a, vs, rfl, ⟨k, _⟩, r⟩ := h
    exact ⟨a, vs, rfl, k, r⟩
  | ref i =>
    rw [unbox_ref] at e
    split at e
    · rename_i zs hz
      cases e
      obtain ⟨a, rfl, _, vs, k, r⟩ := h.box rs hz
      exact ⟨a, vs, rfl, k, r⟩
    · cases e
  | _ => exact absurd e (by unfold unbox; intro z; cases z)
theorem seqOf_rel (rs : RS g m S H) (h : Rel g m S.length H d v) (e : seqOf S d = some xs) : ∃ a vs, v = .ref a ∧ Rels g m S.length H xs vs ∧
    ((SqL g.K H a vs ∧ ∀ zs, d ≠ .tup zs) ∨ (TupAt g m H a vs ∧ d = .tup xs)) := by
  cases d with
  | tup zs =>
    have e' : some zs = some xs := e
    cases e'
    rw [rel_tup] at h
    obtain ⟨a, vs, rfl, k, r⟩ := h
    exact ⟨a, vs, rfl, r, .inr ⟨k, rfl⟩⟩
  | lst zs =>
    have e' : some zs = some xs := e
    cases e'
    rw [rel_lst] at h
    obtain ⟨a, vs, rfl, ⟨k, _⟩, r⟩ := h
    exact ⟨a, vs, rfl, r, .inl ⟨SqL.of k, fun _ z => by cases z⟩⟩
  | scr zs =>
    have e' : some zs = some xs := e
    cases e'
    rw [rel_scr] at h
    obtain ⟨a, vs, rfl, k, r⟩ := h
    exact ⟨a, vs, rfl, r, .inl ⟨k.sq, fun _ z => by cases z⟩⟩
  | ref i =>
    rw [seqOf_ref] at e
    split at e
    · rename_i zs hz
      cases e
      obtain ⟨a, rfl, _, vs, k, r⟩ := h.box rs hz
      exact ⟨a, vs, rfl, r, .inl ⟨SqL.of k, fun _ z => by cases z⟩⟩
    · cases e
  | _ => exact absurd e (by unfold seqOf; intro z; cases z)
theorem seqOf_sq (rs : RS g m S H) (h : Rel g m S.length H d v) (e : seqOf S d = some xs) : ∃ a vs, v = .ref a ∧ Rels g m S.length H xs vs ∧ (SqL g.K H a vs ∨ SqT g.K H a vs) := by
  obtain ⟨a, vs, rfl, r, k⟩ := seqOf_rel rs h e
  refine ⟨a, vs, rfl, r, ?_⟩
  rcases k with ⟨k, _⟩ | ⟨k, _⟩
  · exact .inl k
  · exact .inr k.sq
/-- a new list, a new tuple -/
theorem mkL_ok {box : Bool} (rs : RS g m S H) (r : Rels g m S.length H xs vs) (w : WP g W (Rel g) m S.length H (mkL box xs S) Q) {p : Addr} (hp : H p = none) : Q (.ref p) (upd H p (.lst vs)) := by
  cases box with
  | false =>
    refine w m _ (.ref p) (Ext.laid rs hp) (rs.laid hp) ?_
    rw [rel_lst]
    exact ⟨p, vs, rfl, ⟨upd_same, Off.free rs hp⟩, Rels.mono (Ext.laid rs hp) _ _ r⟩
  | true =>
    have x := Ext.new (o := HO.lst vs) rs hp
    have l : (S ++ [some (Cell.lst xs)]).length = S.length + 1 := by rw [List.length_append, List.length_singleton]
    refine w (mNew m S.length p) _ (.ref p) (by rw [l]; exact x) (rs.new hp ⟨vs, upd_same, Rels.mono x _ _ r⟩) ?_
    rw [rel_ref, l]
    exact ⟨Nat.lt_succ_self _, p, rfl, fun b hb => by rw [mNew_same] at hb; cases hb; rfl⟩
theorem mkT_ok (rs : RS g m S H) (r : Rels g m S.length H xs vs) (w : WP g W (Rel g) m S.length H (.ok (.tup xs) S) Q) : GivesT H vs Q := fun p o hp ho => by
  refine w m _ (.ref p) (Ext.laid rs hp) (rs.laid hp) ?_
  rw [rel_tup]
  exact ⟨p, vs, rfl, .inr (.inr ⟨o, upd_same, ho.1, ho.2, Off.free rs hp⟩), Rels.mono (Ext.laid rs hp) _ _ r⟩
theorem okS.append {a b : Str} (ha : okS a) (hb : okS b) (l : a.length + b.length ≤ sizeLine) : okS (a ++ b) := by
  refine ⟨by rw [PySem.Str.length_append]; exact l, fun c hc => ?_⟩
  have hc' : c ∈ (a.cps ++ b.cps).toList := hc
  rw [Array.toList_append] at hc'
  rcases List.mem_append.mp hc' with h | h
  · exact ha.2 c h
  · exact hb.2 c h
/-- two related things and what an operator tells of them -/
def r2 (g : Gs) (f : D → D → Sto → R D) : R2 := fun x y H Q => ∃ m S d e W, RS g m S H ∧ Rel g m S.length H d x ∧ Rel g m S.length H e y ∧ WP g W (Rel g) m S.length H (f d e S) Q
variable {X : Cx}
theorem op_addI (hK : X.K = g.K) {box : Bool} : OpR X (binaryOp .Add) (r2 g (addR box)) := by
  refine OpR.imp (op_add.or (op_add_str.or (op_catN.or op_cat))) fun x y H Q ⟨m, S, d, e, W, rs, rd, re, w⟩ => ?_
  unfold addR at w
  split at w
  · rw [rel_int] at rd re
    subst rd re
    exact .inl ⟨_, _, rfl, rfl, w.now rs (by rw [rel_int])⟩
  · rw [rel_str] at rd re
    obtain ⟨rfl, o1⟩ := rd
    obtain ⟨rfl, o2⟩ := re
    obtain ⟨c, w⟩ := w.ck
    exact .inr (.inl ⟨_, _, rfl, rfl, c, w.now rs (by rw [rel_str]; exact ⟨rfl, o1.append o2 c⟩)⟩)
  · rename_i as bs
    rw [rel_tup] at rd re
    obtain ⟨a, vs, rfl, ta, ra⟩ := rd
    obtain ⟨b, ws, rfl, tb, rb⟩ := re
    obtain ⟨c, w⟩ := w.ck
    rw [ra.length, rb.length] at c
    refine .inr (.inr (.inl ⟨a, b, vs, ws, rfl, rfl, by rw [hK]; exact ta.sq, by rw [hK]; exact tb.sq, c, fun z => ?_, fun _ z => ?_, fun _ _ => mkT_ok rs (ra.append rb) w⟩))
    · subst z
      have : as = [] := List.length_eq_zero_iff.mp ra.length
      subst this
      exact w.now rs (by rw [rel_tup]; exact ⟨b, ws, rfl, tb, rb⟩)
    · subst z
      have : bs = [] := List.length_eq_zero_iff.mp rb.length
      subst this
      rw [List.append_nil] at w
      exact w.now rs (by rw [rel_tup]; exact ⟨a, vs, rfl, ta, ra⟩)
  · split at w
    · rename_i ha hb
      obtain ⟨a, vs, rfl, ka, ra⟩ := unbox_rel rs rd ha
      obtain ⟨b, ws, rfl, kb, rb⟩ := unbox_rel rs re hb
      obtain ⟨c, w⟩ := w.ck
      rw [ra.length, rb.length] at c
      exact .inr (.inr (.inr ⟨a, b, vs, ws, rfl, rfl, ka, kb, c, fun p hp => mkL_ok rs (ra.append rb) w hp⟩))
    · exact w.err
theorem op_I {f : Value → Value → Sem Value} {C : Int → Int → Prop} {k : Int → Int → Int} [∀ i j, Decidable (C i j)] {F : D → D → Sto → R D} (h : OpR X f (rI C fun i j => .int (k i j)))
    (hF : ∀ d e S, (∃ i j, d = .int i ∧ e = .int j ∧ F d e S = ck (C i j) (.ok (.int (k i j)) S)) ∨ F d e S = .err) : OpR X f (r2 g F) := by
  refine OpR.imp h fun x y H Q ⟨m, S, d, e, W, rs, rd, re, w⟩ => ?_
  rcases hF d e S with ⟨i, j, rfl, rfl, q⟩ | q
  · rw [q] at w
    rw [rel_int] at rd re
    obtain ⟨c, w⟩ := w.ck
    exact ⟨i, j, rd, re, c, w.now rs (by rw [rel_int])⟩
  · rw [q] at w
    exact w.err
theorem mulOk_small {z : Str} {j : Int} (h1 : z.length ≤ 1000) (h2 : 0 ≤ j) (h3 : j ≤ 1000) : PySem.MulOk z j := by
  refine ⟨by rw [decide_eq_false (by omega), decide_eq_false (by omega)]; rfl, fun a _ => ?_, fun a _ => ?_⟩
  · have : (9223372036854775 : Int) ≤ (2 ^ 63 - 1) / j := by
      refine (Int.le_ediv_iff_mul_le (by omega)).mpr ?_
      omega
    omega
  · unfold Builtin.Str.tooLong
    refine decide_eq_false (Nat.not_lt.mpr ?_)
    refine Nat.le_trans (Nat.mul_le_mul h1 (show j.toNat ≤ 1000 by omega)) (by decide)
theorem op_mulStr {X : Cx} : OpR X (binaryOp .Mult) (fun x y H Q => ∃ z j, x = .str z ∧ y = .int j ∧ PySem.MulOk z j ∧ Q (.str (Txt.mul z j)) H) := by
  intro pins s σ H x y v u Q I rx ry h
  obtain ⟨z, j, rfl, rfl, hz, q⟩ := h
  obtain ⟨t, rfl⟩ := rx
  obtain ⟨t', rfl⟩ := ry
  exact PySem.SB.mul hz (fun t' tk => ⟨.str (Txt.mul z j), H, I.tok _, ⟨_, rfl⟩, q⟩)
theorem mem_rep {c : Nat} {x : Array Nat} : ∀ (n : Nat) (acc : Array Nat), c ∈ ((List.replicate n x).foldl (· ++ ·) acc).toList → c ∈ acc.toList ∨ c ∈ x.toList
  | 0, acc, h => .inl h
  | n + 1, acc, h => by
    rw [List.replicate_succ, List.foldl_cons] at h
    rcases mem_rep n _ h with h | h
    · rw [Array.toList_append] at h
      exact List.mem_append.mp h
    · exact .inr h
theorem okS_mul {z : Str} {j : Int} (o : okS z) (h1 : z.length ≤ 1000) (h3 : j ≤ 1000) : okS (Txt.mul z j) := by
  refine ⟨Nat.le_trans (PyProof.Rows.len_mul_leN (L := 1000) (N := 1000) h1 h3) (by decide), fun c hc => ?_⟩
  unfold Txt.mul at hc
  split at hc
  · cases hc
  · split at hc
    · exact o.2 c hc
    · rcases mem_rep _ _ hc with h | h
      · cases h
      · exact o.2 c h
def opOf : Bop → Operator
  | .add => .Add
  | .sub => .Sub
  | .mul => .Mult
  | .div => .FloorDiv
  | .mod => .Mod
  | .pow => .Pow
theorem op_binI (hK : X.K = g.K) {box : Bool} (op : Bop) : OpR X (binaryOp (opOf op)) (r2 g (binR box op)) := by
  cases op with
  | add => exact op_addI hK
  | sub =>
    refine OpR.imp op_sub fun x y H Q ⟨m, S, d, e, W, rs, rd, re, w⟩ => ?_
    unfold binR at w
    simp only at w
    split at w
    · rw [rel_int] at rd re
      exact ⟨_, _, rd, re, w.now rs (by rw [rel_int])⟩
    · exact w.err
  | mul =>
    refine OpR.imp (op_mul.or op_mulStr) fun x y H Q ⟨m, S, d, e, W, rs, rd, re, w⟩ => ?_
    unfold binR at w
    simp only at w
    split at w
    · rw [rel_int] at rd re
      obtain ⟨c, w⟩ := w.ck
      exact .inl ⟨_, _, rd, re, c, w.now rs (by rw [rel_int])⟩
    · rw [rel_str] at rd
      rw [rel_int] at re
      obtain ⟨c, w⟩ := w.ck
      exact .inr ⟨_, _, rd.1, re, mulOk_small c.1 (by omega) c.2.2, w.now rs (by rw [rel_str]; exact ⟨rfl, okS_mul rd.2 c.1 c.2.2⟩)⟩
    · exact w.err
  | div =>
    refine op_I (C := fun i j => 0 < j ∧ j < 1073741824) op_fdiv fun d e S => ?_
    unfold binR
    simp only
    split
    · exact .inl ⟨_, _, rfl, rfl, rfl⟩
    · exact .inr rfl
  | mod =>
    refine op_I (C := fun i j => 0 < j) op_mod fun d e S => ?_
    unfold binR
    simp only
    split
    · exact .inl ⟨_, _, rfl, rfl, rfl⟩
    · exact .inr rfl
  | pow =>
    refine op_I (C := fun i j => 0 ≤ j ∧ j ≤ 1000000 ∧ i.natAbs < 2 ^ 64) op_pow fun d e S => ?_
    unfold binR
    simp only
    split
    · exact .inl ⟨_, _, rfl, rfl, rfl⟩
    · exact .inr rfl

/-! truth -/
def RelB : Mp → Nat → Hp → Bool → Bool → Prop := fun _ _ _ a b => b = a
theorem tru_seq {b : Bool} (rs : RS g m S H) (h : Rel g m S.length H d v) (e : (seqOf S d).map (fun xs => !xs.isEmpty) = some b) : TruV g.K v H b := by
  obtain ⟨xs, hx, rfl⟩ := Option.map_eq_some_iff.mp e
  obtain ⟨a, vs, rfl, r, k⟩ := seqOf_sq rs h hx
  have e : (!xs.isEmpty) = !vs.isEmpty := by
    have := r.length
    cases xs <;> cases vs <;> first | rfl | (simp at this)
  rcases k with k | k
  · exact .inl ⟨vs, k, e⟩
  · exact .inr (.inl ⟨vs, k, e⟩)
theorem tru_rel {R : Bool → Hp → Prop} (rs : RS g m S H) (h : Rel g m S.length H d v) (w : WP g W RelB m S.length H (tru d S) R) : ∃ k, TruV g.K v H k ∧ R k H := by
  unfold tru at w
  split at w
  · rename_i b hb
    refine ⟨b, ?_, w.now rs rfl⟩
    cases d with
    | non => cases hb; rw [rel_non] at h; subst h; rfl
    | bl k => cases hb; rw [rel_bl] at h; subst h; rfl
    | int i => cases hb; rw [rel_int] at h; subst h; rfl
    | str z => cases hb; rw [rel_str] at h; obtain ⟨rfl, o⟩ := h; exact ⟨o.1, rfl⟩
    | tup z => exact tru_seq rs h hb
    | lst z => exact tru_seq rs h hb
    | scr z => exact tru_seq rs h hb
    | ref z => exact tru_seq rs h hb
    | ins a b => exact tru_seq rs h hb
    | ty z => exact tru_seq rs h hb
    | ntp z => exact tru_seq rs h hb
    | exv i c fs => exact tru_seq rs h hb
    | wtp z => exact tru_seq rs h hb
  · exact w.err

/-! frozen data -/
mutual
theorem py_eqv : ∀ a b : D, a.fz = true → b.fz = true → PyData.eqv a.py b.py = a.eqv b
  | .non, b, _, hb => by cases b <;> first | (simp [D.fz] at hb; done) | (simp [D.py, D.eqv, PyData.eqv]; done)
  | .bl _, b, _, hb => by cases b <;> first | (simp [D.fz] at hb; done) | (simp [D.py, D.eqv, PyData.eqv]; done)
  | .int _, b, _, hb => by cases b <;> first | (simp [D.fz] at hb; done) | (simp [D.py, D.eqv, PyData.eqv]; done)
  | .str _, b, _, hb => by cases b <;> first | (simp [D.fz] at hb; done) | (simp [D.py, D.eqv, PyData.eqv]; done)
  | .tup xs, b, ha, hb => by
    cases b with
    | tup ys =>
      simp only [D.py, D.eqv, PyData.eqv]
      exact pys_eqv xs ys (by simpa [D.fz] using ha) (by simpa [D.fz] using hb)
    | _ => first | (simp [D.fz] at hb; done) | (simp [D.py, D.eqv, PyData.eqv]; done)
  | .lst xs, b, ha, hb => by
    cases b with
    | lst ys =>
      simp only [D.py, D.eqv, PyData.eqv]
      exact pys_eqv xs ys (by simpa [D.fz] using ha) (by simpa [D.fz] using hb)
    | scr ys =>
      simp only [D.py, D.eqv, PyData.eqv]
      exact pys_eqv xs ys (by simpa [D.fz] using ha) (by simpa [D.fz] using hb)
    | _ => first | (simp [D.fz] at hb; done) | (simp [D.py, D.eqv, PyData.eqv]; done)
  | .scr xs, b, ha, hb => by
    cases b with
    | lst ys =>
      simp only [D.py, D.eqv, PyData.eqv]
      exact pys_eqv xs ys (by simpa [D.fz] using ha) (by simpa [D.fz] using hb)
    | scr ys =>
      simp only [D.py, D.eqv, PyData.eqv]
      exact pys_eqv xs ys (by simpa [D.fz] using ha) (by simpa [D.fz] using hb)
    | _ => first | (simp [D.fz] at hb; done) | (simp [D.py, D.eqv, PyData.eqv]; done)
  | .ref _, _, ha, _ => by simp [D.fz] at ha
  | .ins _ _, _, ha, _ => by simp [D.fz] at ha
  | .ty _, _, ha, _ => by simp [D.fz] at ha
theorem pys_eqv : ∀ a b : List D, D.fzs a = true → D.fzs b = true → PyData.eqvAll (D.pys a) (D.pys b) = D.eqvs a b
  | [], b, _, _ => by cases b <;> simp [D.pys, D.eqvs, PyData.eqvAll]
  | x :: xs, [], _, _ => by simp [D.pys, D.eqvs, PyData.eqvAll]
  | x :: xs, y :: ys, ha, hb => by
    simp only [D.fzs, Bool.and_eq_true] at ha hb
    simp only [D.pys, D.eqvs, PyData.eqvAll]
    rw [py_eqv x y ha.1 hb.1, pys_eqv xs ys ha.2 hb.2]
end
mutual
theorem py_lay : ∀ (a : D) (v : V), a.fz = true → Rel g m n H a v → a.py.canLay0 = true ∧ Dp g.K H v a.py
  | .non, v, _, h => by rw [rel_non] at h; subst h; exact ⟨by simp [D.py, PyData.canLay0], .non⟩
  | .bl _, v, _, h => by rw [rel_bl] at h; subst h; exact ⟨by simp [D.py, PyData.canLay0], .bl _⟩
  | .int _, v, _, h => by rw [rel_int] at h; subst h; exact ⟨by simp [D.py, PyData.canLay0], .int _⟩
  | .str _, v, _, h => by rw [rel_str] at h; obtain ⟨rfl, o⟩ := h; exact ⟨by simp [D.py, PyData.canLay0, o.ok], .str _⟩
  | .tup xs, v, k, h => by
    rw [rel_tup] at h
    obtain ⟨a, vs, rfl, t, r⟩ := h
    obtain ⟨q1, q2⟩ := pys_lay xs vs (by simpa [D.fz] using k) r
    exact ⟨by simpa [D.py, PyData.canLay0] using q1, by rw [D.py]; exact .tup t.sq q2⟩
  | .lst xs, v, k, h => by
    rw [rel_lst] at h
    obtain ⟨a, vs, rfl, ⟨t, _⟩, r⟩ := h
    obtain ⟨q1, q2⟩ := pys_lay xs vs (by simpa [D.fz] using k) r
    exact ⟨by simpa [D.py, PyData.canLay0] using q1, by rw [D.py]; exact .lst (SqL.of t) q2⟩
  | .scr xs, v, k, h => by
    rw [rel_scr] at h
    obtain ⟨a, vs, rfl, t, r⟩ := h
    obtain ⟨q1, q2⟩ := pys_lay xs vs (by simpa [D.fz] using k) r
    exact ⟨by simpa [D.py, PyData.canLay0] using q1, by rw [D.py]; exact .lst t.sq q2⟩
  | .ref _, _, k, _ => by simp [D.fz] at k
  | .ins _ _, _, k, _ => by simp [D.fz] at k
  | .ty _, _, k, _ => by simp [D.fz] at k
theorem pys_lay : ∀ (a : List D) (vs : List V), D.fzs a = true → Rels g m n H a vs → PyData.canLayAll0 (D.pys a) = true ∧ DpAll g.K H vs (D.pys a)
  | [], vs, _, h => by unfold Rels at h; subst h; exact ⟨by simp [D.pys, PyData.canLayAll0], by rw [D.pys]; exact .nil⟩
  | x :: xs, vs, k, h => by
    unfold Rels at h
    obtain ⟨w, ws, rfl, r, q⟩ := h
    simp only [D.fzs, Bool.and_eq_true] at k
    obtain ⟨a1, a2⟩ := py_lay x w k.1 r
    obtain ⟨b1, b2⟩ := pys_lay xs ws k.2 q
    exact ⟨by simp [D.pys, PyData.canLayAll0, a1, b1], by rw [D.pys]; exact .cons a2 b2⟩
end
mutual
theorem py_depth : ∀ a : D, a.fz = true → a.py.depth = a.dp
  | .non, _ => by simp [D.py, D.dp, PyData.depth]
  | .bl _, _ => by simp [D.py, D.dp, PyData.depth]
  | .int _, _ => by simp [D.py, D.dp, PyData.depth]
  | .str _, _ => by simp [D.py, D.dp, PyData.depth]
  | .tup xs, k => by rw [D.py, D.dp, PyData.depth, pys_depth xs (by simpa [D.fz] using k)]
  | .lst xs, k => by rw [D.py, D.dp, PyData.depth, pys_depth xs (by simpa [D.fz] using k)]
  | .scr xs, k => by rw [D.py, D.dp, PyData.depth, pys_depth xs (by simpa [D.fz] using k)]
  | .ref _, k => by simp [D.fz] at k
  | .ins _ _, k => by simp [D.fz] at k
  | .ty _, k => by simp [D.fz] at k
theorem pys_depth : ∀ a : List D, D.fzs a = true → PyData.depthAll (D.pys a) = D.dps a
  | [], _ => by simp [D.pys, D.dps, PyData.depthAll]
  | x :: xs, k => by
    simp only [D.fzs, Bool.and_eq_true] at k
    rw [D.pys, D.dps, PyData.depthAll, py_depth x k.1, pys_depth xs k.2]
end
theorem py_shaped (k : d.fz = true) (h : Rel g m n H d v) (l : d.dp ≤ 64) : SeqAt.shaped d.py = true := by
  unfold SeqAt.shaped
  rw [(py_lay d v k h).1, py_depth d k, Bool.true_and]
  exact decide_eq_true l
theorem unbox_fz (rs : RS g m S H) (h : Rel g m S.length H d v) : Rel g m S.length H (unbox S d) v ∨ (unbox S d).fz = true → (unbox S d).fz = true → Dp g.K H v (unbox S d).py ∧ (unbox S d).py.canLay0 = true := by
  intro _ k
  cases e : unbox S d with
  | lst xs =>
    rw [e] at k
    obtain ⟨a, vs, rfl, t, r⟩ := unbox_rel rs h e
    obtain ⟨q1, q2⟩ := pys_lay xs vs (by simpa [D.fz] using k) r
    exact ⟨by rw [D.py]; exact .lst (SqL.of t) q2, by simpa [D.py, PyData.canLay0] using q1⟩
  | _ =>
    rw [e] at k
    have hd : unbox S d = d := by
      unfold unbox at e ⊢
      split at e
      · split at e
        · cases e
        · simp only [*]
      · rfl
    rw [hd] at e
    subst e
    obtain ⟨q1, q2⟩ := py_lay _ v k h
    exact ⟨q2, q1⟩
theorem deeps_lay {k : Nat} (ih : ∀ (d : D) (v : V), Rel g m S.length H d v → (deep k S d).fz = true → Dp g.K H v (deep k S d).py ∧ (deep k S d).py.canLay0 = true) : ∀ (xs : List D) (vs : List V), Rels g m S.length H xs vs → D.fzs (xs.map (deep k S)) = true → DpAll g.K H vs (D.pys (xs.map (deep k S))) ∧ PyData.canLayAll0 (D.pys (xs.map (deep k S))) = true
  | [], vs, h, _ => by unfold Rels at h; subst h; exact ⟨by rw [List.map_nil, D.pys]; exact .nil, by simp [D.pys, PyData.canLayAll0]⟩
  | x :: xs, vs, h, q => by
    unfold Rels at h
    obtain ⟨w, ws, rfl, r, rr⟩ := h
    rw [List.map_cons] at q ⊢
    simp only [D.fzs, Bool.and_eq_true] at q
    obtain ⟨a1, a2⟩ := ih x w r q.1
    obtain ⟨b1, b2⟩ := deeps_lay ih xs ws rr q.2
    exact ⟨by rw [D.pys]; exact .cons a1 b1, by simp [D.pys, PyData.canLayAll0, a2, b2]⟩
theorem deep_lay (rs : RS g m S H) : ∀ (k : Nat) (d : D) (v : V), Rel g m S.length H d v → (deep k S d).fz = true → Dp g.K H v (deep k S d).py ∧ (deep k S d).py.canLay0 = true
  | 0, d, v, h, q => let ⟨a, b⟩ := py_lay d v q h; ⟨b, a⟩
  | k + 1, d, v, h, q => by
    cases d with
    | tup xs =>
      rw [rel_tup] at h
      obtain ⟨a, vs, rfl, t, r⟩ := h
      rw [deep] at q ⊢
      obtain ⟨q1, q2⟩ := deeps_lay (fun d v => deep_lay rs k d v) xs vs r (by simpa [D.fz] using q)
      exact ⟨by rw [D.py]; exact .tup t.sq q1, by simpa [D.py, PyData.canLay0] using q2⟩
    | lst xs =>
      rw [rel_lst] at h
      obtain ⟨a, vs, rfl, ⟨t, _⟩, r⟩ := h
      rw [deep] at q ⊢
      obtain ⟨q1, q2⟩ := deeps_lay (fun d v => deep_lay rs k d v) xs vs r (by simpa [D.fz] using q)
      exact ⟨by rw [D.py]; exact .lst (SqL.of t) q1, by simpa [D.py, PyData.canLay0] using q2⟩
    | ref i =>
      have e : deep (k + 1) S (.ref i) = match cellAt S i with
        | some (.lst xs) => .lst (xs.map (deep k S))
        | _ => .ref i := rfl
      rw [e] at q ⊢
      split at q
      · rename_i xs hz
        obtain ⟨a, rfl, _, vs, t, r⟩ := h.box rs hz
        obtain ⟨q1, q2⟩ := deeps_lay (fun d v => deep_lay rs k d v) xs vs r (by simpa [D.fz] using q)
        exact ⟨by rw [D.py]; exact .lst (SqL.of t) q1, by simpa [D.py, PyData.canLay0] using q2⟩
      · cases q
    | _ =>
      obtain ⟨a, b⟩ := py_lay _ v (by simpa only [deep] using q) h
      exact ⟨by simpa only [deep] using b, by simpa only [deep] using a⟩
theorem op_eqX (hK : X.K = g.K) {k : Nat} (hr : Room k X.A) : OpR X (compareOp .Eq) (r2 g (cmpR .eqd)) := by
  refine OpR.imp (op_eqD (by have := hr.un; omega)) fun x y H Q ⟨m, S, d, e, W, rs, rd, re, w⟩ => ?_
  obtain ⟨⟨k1, k2, l1, l2⟩, w⟩ := (show WP g W (Rel g) m S.length H (ck _ _) Q from w).ck
  obtain ⟨p1, c1⟩ := deep_lay rs 8 _ _ rd k1
  obtain ⟨p2, c2⟩ := deep_lay rs 8 _ _ re k2
  refine ⟨_, _, by rw [hK]; exact p1, by rw [hK]; exact p2, ?_, ?_, ?_⟩
  · unfold SeqAt.shaped; rw [c1, py_depth _ k1, Bool.true_and]; exact decide_eq_true l1
  · unfold SeqAt.shaped; rw [c2, py_depth _ k2, Bool.true_and]; exact decide_eq_true l2
  · rw [py_eqv _ _ k1 k2]
    exact w.now rs (by rw [rel_bl])
theorem op_neX (hK : X.K = g.K) {k : Nat} (hr : Room k X.A) : OpR X (compareOp .NotEq) (r2 g (cmpR .ned)) := by
  refine OpR.imp (op_neD (by have := hr.un; omega)) fun x y H Q ⟨m, S, d, e, W, rs, rd, re, w⟩ => ?_
  obtain ⟨⟨k1, k2, l1, l2⟩, w⟩ := (show WP g W (Rel g) m S.length H (ck _ _) Q from w).ck
  obtain ⟨p1, c1⟩ := deep_lay rs 8 _ _ rd k1
  obtain ⟨p2, c2⟩ := deep_lay rs 8 _ _ re k2
  refine ⟨_, _, by rw [hK]; exact p1, by rw [hK]; exact p2, ?_, ?_, ?_⟩
  · unfold SeqAt.shaped; rw [c1, py_depth _ k1, Bool.true_and]; exact decide_eq_true l1
  · unfold SeqAt.shaped; rw [c2, py_depth _ k2, Bool.true_and]; exact decide_eq_true l2
  · rw [py_eqv _ _ k1 k2]
    exact w.now rs (by rw [rel_bl])
theorem op_eqI (hK : X.K = g.K) {k : Nat} (hr : Room k X.A) : OpR X (compareOp .Eq) (r2 g (cmpR .eq)) := by
  refine OpR.imp (op_eqD (by have := hr.un; omega)) fun x y H Q ⟨m, S, d, e, W, rs, rd, re, w⟩ => ?_
  obtain ⟨⟨k1, k2, l1, l2⟩, w⟩ := (show WP g W (Rel g) m S.length H (ck _ _) Q from w).ck
  obtain ⟨p1, c1⟩ := unbox_fz rs rd (.inr k1) k1
  obtain ⟨p2, c2⟩ := unbox_fz rs re (.inr k2) k2
  refine ⟨_, _, by rw [hK]; exact p1, by rw [hK]; exact p2, ?_, ?_, ?_⟩
  · unfold SeqAt.shaped; rw [c1, py_depth _ k1, Bool.true_and]; exact decide_eq_true l1
  · unfold SeqAt.shaped; rw [c2, py_depth _ k2, Bool.true_and]; exact decide_eq_true l2
  · rw [py_eqv _ _ k1 k2]
    exact w.now rs (by rw [rel_bl])
theorem op_neI (hK : X.K = g.K) {k : Nat} (hr : Room k X.A) : OpR X (compareOp .NotEq) (r2 g (cmpR .ne)) := by
  refine OpR.imp (op_neD (by have := hr.un; omega)) fun x y H Q ⟨m, S, d, e, W, rs, rd, re, w⟩ => ?_
  obtain ⟨⟨k1, k2, l1, l2⟩, w⟩ := (show WP g W (Rel g) m S.length H (ck _ _) Q from w).ck
  obtain ⟨p1, c1⟩ := unbox_fz rs rd (.inr k1) k1
  obtain ⟨p2, c2⟩ := unbox_fz rs re (.inr k2) k2
  refine ⟨_, _, by rw [hK]; exact p1, by rw [hK]; exact p2, ?_, ?_, ?_⟩
  · unfold SeqAt.shaped; rw [c1, py_depth _ k1, Bool.true_and]; exact decide_eq_true l1
  · unfold SeqAt.shaped; rw [c2, py_depth _ k2, Bool.true_and]; exact decide_eq_true l2
  · rw [py_eqv _ _ k1 k2]
    exact w.now rs (by rw [rel_bl])
end
end Iv

/-! ### operators, items, slices, built-in functions and methods -/
namespace Iv
open PySem PySem.Spec PyProof.Rows L2
section
variable {g : Gs} {W : Value → Option Addr → Hp → Prop} {m : Mp} {n : Nat} {H : Hp} {S : Sto} {Q : VK} {d e : D} {v x y : V} {xs ys : List D} {vs : List V} {X : Cx}
theorem okS.sign {c : Nat} {z : Str} (h : okS z) (hc : c ∈ z.cps.toList) : okS ⟨#[c]⟩ := ⟨by show 1 ≤ sizeLine; rw [sizeLine_eq]; omega, fun k hk => by
  have : k = c := by simpa using hk
  rw [this]
  exact h.2 c hc⟩
theorem rel_none (h : Rel g m n H d v) : decide (v = .non) = (match d with | .non => true | _ => false) := by
  cases d with
  | non => rw [rel_non] at h; subst h; rfl
  | bl _ => rw [rel_bl] at h; subst h; rfl
  | int _ => rw [rel_int] at h; subst h; rfl
  | str _ => rw [rel_str] at h; obtain ⟨rfl, _⟩ := h; rfl
  | ty _ => rw [rel_ty] at h; subst h; rfl
  | ntp _ => rw [rel_ntp] at h; obtain ⟨a, vs, rfl, _⟩ := h; rfl
  | exv _ _ _ => rw [rel_exv] at h; obtain ⟨_, a, rfl, _⟩ := h; rfl
  | wtp _ => rw [rel_wtp] at h; obtain ⟨a, vs, rfl, _⟩ := h; rfl
  | tup _ => rw [rel_tup] at h; obtain ⟨a, vs, rfl, _⟩ := h; rfl
  | lst _ => rw [rel_lst] at h; obtain ⟨a, vs, rfl, _⟩ := h; rfl
  | scr _ => rw [rel_scr] at h; obtain ⟨a, vs, rfl, _⟩ := h; rfl
  | ref _ => rw [rel_ref] at h; obtain ⟨_, a, rfl, _⟩ := h; rfl
  | ins _ _ => rw [rel_ins] at h; obtain ⟨a, _, _, rfl, _⟩ := h; rfl
theorem py_any (z : D) (kz : z.fz = true) : ∀ xs : List D, D.fzs xs = true → ((D.pys xs).any fun p => PyData.eqv p z.py) = xs.any fun p => p.eqv z
  | [], _ => rfl
  | a :: r, k => by
    simp only [D.fzs, Bool.and_eq_true] at k
    rw [D.pys, List.any_cons, List.any_cons, py_eqv a z k.1 kz, py_any z kz r k.2]
def rInT (K : PySem.W.Frag) (neg : Bool) : R2 := fun x y H Q => ∃ d ds, Dp K H x d ∧ (Dp K H y (.list ds) ∨ Dp K H y (.tuple ds)) ∧ SeqAt.shaped d = true ∧ SeqAt.shaped (.list ds) = true ∧ Q (.bl (if neg then !(ds.any fun z => PyData.eqv z d) else ds.any fun z => PyData.eqv z d)) H
theorem op_inT (hu : X.A.units + 65 < cLine) : OpR X (compareOp .In) (rInT X.K false) := by
  intro pins s σ H x y v u Q I rx ry h
  obtain ⟨d, ds, hd, he, sd, se, q⟩ := h
  obtain ⟨as, r1⟩ := Dp.reads I d x v hd rx
  rcases he with he | he
  · obtain ⟨bs, r2⟩ := Dp.reads I (.list ds) y u he ry
    exact SeqAt.in_list_reads r2 r1 (SeqAt.canLay_of_shaped se) (SeqAt.canLay_of_shaped sd) (room_in_shaped sd hu) ⟨.bl _, H, I, rfl, q⟩
  · obtain ⟨bs, r2⟩ := Dp.reads I (.tuple ds) y u he ry
    exact SeqAt.in_tuple_reads r2 r1 (SeqAt.canLay_of_shaped se) (SeqAt.canLay_of_shaped sd) (room_in_shaped sd hu) ⟨.bl _, H, I, rfl, q⟩
theorem op_notInT (hu : X.A.units + 65 < cLine) : OpR X (compareOp .NotIn) (rInT X.K true) := by
  intro pins s σ H x y v u Q I rx ry h
  obtain ⟨d, ds, hd, he, sd, se, q⟩ := h
  obtain ⟨as, r1⟩ := Dp.reads I d x v hd rx
  rcases he with he | he
  · obtain ⟨bs, r2⟩ := Dp.reads I (.list ds) y u he ry
    exact SeqAt.notIn_list_reads r2 r1 (SeqAt.canLay_of_shaped se) (SeqAt.canLay_of_shaped sd) (room_in_shaped sd hu) ⟨.bl _, H, I, rfl, q⟩
  · obtain ⟨bs, r2⟩ := Dp.reads I (.tuple ds) y u he ry
    exact SeqAt.notIn_tuple_reads r2 r1 (SeqAt.canLay_of_shaped se) (SeqAt.canLay_of_shaped sd) (room_in_shaped sd hu) ⟨.bl _, H, I, rfl, q⟩
theorem seq_dp (rs : RS g m S H) (h : Rel g m S.length H d v) (e : seqOf S d = some xs) (k : D.fzs xs = true) (l : D.dps xs ≤ 63) : (Dp g.K H v (.list (D.pys xs)) ∨ Dp g.K H v (.tuple (D.pys xs))) ∧ SeqAt.shaped (.list (D.pys xs)) = true := by
  obtain ⟨a, vs, rfl, r, q⟩ := seqOf_sq rs h e
  obtain ⟨q1, q2⟩ := pys_lay xs vs k r
  refine ⟨?_, ?_⟩
  · rcases q with q | q
    · exact .inl (.lst q q2)
    · exact .inr (.tup q q2)
  · unfold SeqAt.shaped
    rw [PyData.canLay0, q1, PyData.depth, pys_depth xs k, Bool.true_and]
    exact decide_eq_true (by omega)
theorem in_ok {k : Bool → R D} {neg : Bool} (rs : RS g m S H) (rd : Rel g m S.length H d x) (re : Rel g m S.length H e y) (w : WP g W (Rel g) m S.length H (cmpR.inR d e S k) Q)
    (hk : ∀ b, k b = .ok (.bl (if neg then !b else b)) S) : (∃ (z t : Str), x = .str z ∧ y = .str t ∧ Q (.bl (if neg then !hasT t z else hasT t z)) H) ∨ rInT g.K neg x y H Q := by
  unfold cmpR.inR at w
  split at w
  · rename_i a b
    rw [rel_str] at rd re
    split at w
    · rename_i c hc
      rw [hk] at w
      refine .inl ⟨a, b, rd.1, re.1, ?_⟩
      have : a = ⟨#[c]⟩ := Str.ext' (Array.ext' (by simpa using hc))
      rw [this, show hasT b ⟨#[c]⟩ = decide (c ∈ b.cps.toList) from StrLaws.found_one b c]
      exact w.now rs (by rw [rel_bl])
    · rw [hk] at w
      exact .inl ⟨a, b, rd.1, re.1, w.now rs (by rw [rel_bl])⟩
  · split at w
    · rename_i ys hy
      obtain ⟨⟨k1, l1, k2, l2⟩, w⟩ := w.ck
      rw [hk] at w
      obtain ⟨q1, q2⟩ := seq_dp rs re hy k2 l2
      refine .inr ⟨d.py, D.pys ys, (py_lay d x k1 rd).2, q1, py_shaped k1 rd (by omega), q2, ?_⟩
      rw [py_any d k1 ys k2]
      exact w.now rs (by rw [rel_bl])
    · exact w.err
def copOf : Cop → CmpOp
  | .eq => .Eq
  | .ne => .NotEq
  | .eqd => .Eq
  | .ned => .NotEq
  | .lt => .Lt
  | .le => .LtE
  | .gt => .Gt
  | .ge => .GtE
  | .isN => .Is
  | .notN => .IsNot
  | .isIn => .In
  | .notIn => .NotIn
def rLtX (K : PySem.W.Frag) : R2 := fun x y H Q => ∃ d e, Dp K H x d ∧ Dp K H y e ∧ PySem.W.alike d e = true ∧ d ≠ .none ∧ d.depth ≤ 60 ∧ Q (.bl (PySem.W.dataLt d e)) H
def rLeX (K : PySem.W.Frag) : R2 := fun x y H Q => ∃ d e, Dp K H x d ∧ Dp K H y e ∧ PySem.W.alike d e = true ∧ d ≠ .none ∧ d.depth ≤ 60 ∧ Q (.bl (!PySem.W.dataLt e d)) H
theorem op_ltX {k : Nat} (hr : Room k X.A) : OpR X (compareOp .Lt) (rLtX X.K) := by
  intro pins s σ H x y v u Q I rx ry h
  obtain ⟨d, e, hd, he, al, nn, dp, q⟩ := h
  obtain ⟨as, r1⟩ := Dp.reads I d x v hd rx
  obtain ⟨bs, r2⟩ := Dp.reads I e y u he ry
  exact PySem.W.lt_data r1 r2 al nn (by have := hr.un; have := Nat.min_le_left d.depth e.depth; omega) ⟨.bl _, H, I, rfl, q⟩
theorem op_leX {k : Nat} (hr : Room k X.A) : OpR X (compareOp .LtE) (rLeX X.K) := by
  intro pins s σ H x y v u Q I rx ry h
  obtain ⟨d, e, hd, he, al, nn, dp, q⟩ := h
  obtain ⟨as, r1⟩ := Dp.reads I d x v hd rx
  obtain ⟨bs, r2⟩ := Dp.reads I e y u he ry
  exact PySem.W.le_data r1 r2 al nn (by have := hr.un; have := Nat.min_le_left d.depth e.depth; omega) ⟨.bl _, H, I, rfl, q⟩
theorem notNon_py {d : D} (h : notNon d = true) (f : d.fz = true) : d.py ≠ .none := by
  cases d <;> first | (exact absurd h Bool.false_ne_true) | (exact absurd f Bool.false_ne_true) | (intro z; simp [D.py] at z)
theorem op_cmpI (hK : X.K = g.K) {k : Nat} (hr : Room k X.A) (op : Cop) : OpR X (compareOp (copOf op)) (r2 g (cmpR op)) := by
  cases op with
  | eq => exact op_eqI hK hr
  | ne => exact op_neI hK hr
  | eqd => exact op_eqX hK hr
  | ned => exact op_neX hK hr
  | lt =>
    refine OpR.imp (op_lt.or (op_ltX hr)) fun x y H Q ⟨m, S, d, e, W, rs, rd, re, w⟩ => ?_
    unfold cmpR at w
    simp only at w
    split at w
    · rw [rel_int] at rd re
      exact .inl ⟨_, _, rd, re, w.now rs (by rw [rel_bl])⟩
    · obtain ⟨⟨c1, c2, c3, c4, c5, c6⟩, w⟩ := w.ck
      exact .inr ⟨d.py, e.py, by rw [hK]; exact (py_lay d x c1 rd).2, by rw [hK]; exact (py_lay e y c2 re).2, c5, notNon_py c6 c1, by rw [py_depth d c1]; exact c3, w.now rs (by rw [rel_bl]; rfl)⟩
  | le =>
    refine OpR.imp (op_le.or (op_leX hr)) fun x y H Q ⟨m, S, d, e, W, rs, rd, re, w⟩ => ?_
    unfold cmpR at w
    simp only at w
    split at w
    · rw [rel_int] at rd re
      exact .inl ⟨_, _, rd, re, w.now rs (by rw [rel_bl])⟩
    · obtain ⟨⟨c1, c2, c3, c4, c5, c6⟩, w⟩ := w.ck
      exact .inr ⟨d.py, e.py, by rw [hK]; exact (py_lay d x c1 rd).2, by rw [hK]; exact (py_lay e y c2 re).2, c5, notNon_py c6 c1, by rw [py_depth d c1]; exact c3, w.now rs (by rw [rel_bl]; rfl)⟩
  | gt =>
    refine OpR.imp op_gt fun x y H Q ⟨m, S, d, e, W, rs, rd, re, w⟩ => ?_
    unfold cmpR at w
    simp only at w
    split at w
    · rw [rel_int] at rd re
      exact ⟨_, _, rd, re, w.now rs (by rw [rel_bl])⟩
    · exact w.err
  | ge =>
    refine OpR.imp op_ge fun x y H Q ⟨m, S, d, e, W, rs, rd, re, w⟩ => ?_
    unfold cmpR at w
    simp only at w
    split at w
    · rw [rel_int] at rd re
      exact ⟨_, _, rd, re, w.now rs (by rw [rel_bl])⟩
    · exact w.err
  | isN =>
    refine OpR.imp (op_isN.or op_isBl) fun x y H Q ⟨m, S, d, e, W, rs, rd, re, w⟩ => ?_
    unfold cmpR at w
    simp only at w
    split at w
    · rw [rel_non] at re
      refine .inl ⟨re, w.now rs ?_⟩
      rw [rel_bl, rel_none rd]
      cases d <;> rfl
    · split at w
      · rw [rel_bl] at rd re
        exact .inr ⟨_, _, rd, re, w.now rs (by rw [rel_bl])⟩
      · exact w.err
    · exact w.err
  | notN =>
    refine OpR.imp (op_notN.or op_notBl) fun x y H Q ⟨m, S, d, e, W, rs, rd, re, w⟩ => ?_
    unfold cmpR at w
    simp only at w
    split at w
    · rw [rel_non] at re
      refine .inl ⟨re, w.now rs ?_⟩
      rw [rel_bl, rel_none rd]
      cases d <;> rfl
    · split at w
      · rw [rel_bl] at rd re
        exact .inr ⟨_, _, rd, re, w.now rs (by rw [rel_bl])⟩
      · exact w.err
    · exact w.err
  | isIn =>
    refine OpR.imp (op_in_str.or (op_inT (by have := hr.un; omega))) fun x y H Q ⟨m, S, d, e, W, rs, rd, re, w⟩ => ?_
    rw [hK]
    exact in_ok (neg := false) rs rd re w fun b => rfl
  | notIn =>
    refine OpR.imp (op_notIn_str.or (op_notInT (by have := hr.un; omega))) fun x y H Q ⟨m, S, d, e, W, rs, rd, re, w⟩ => ?_
    rw [hK]
    exact in_ok (neg := true) rs rd re w fun b => rfl
theorem atD_atI {α : Type} {xs : List α} {i : Int} {a : α} (h : atD xs i = some a) : ∃ j, ixN xs.length i = some j ∧ xs[j]? = some a := by
  unfold atD at h
  unfold ixN
  split at h
  · rename_i h0
    have hl := (List.getElem?_eq_some_iff.mp h).1
    exact ⟨i.toNat, by rw [if_pos h0, if_pos (by omega)], h⟩
  · rename_i h0
    split at h
    · rename_i h1
      exact ⟨_, by rw [if_neg h0, if_pos h1], h⟩
    · cases h
theorem ix_I (hK : X.K = g.K) : IxR X (r2 g idxR) := by
  refine IxR.imp ix_seq fun x y H Q ⟨m, S, d, e, W, rs, rd, re, w⟩ => ?_
  unfold idxR at w
  split at w
  · rename_i i
    rw [rel_int] at re
    split at w
    · rename_i z
      split at w
      · rename_i c hc
        rw [rel_str] at rd
        obtain ⟨j, h1, h2⟩ := atD_atI hc
        refine .inr (.inr ⟨z, i, c, rd.1, re, rd.2.1, ?_, w.now rs (by rw [rel_str]; exact ⟨rfl, rd.2.sign (List.mem_of_getElem? h2)⟩)⟩)
        unfold atI
        rw [h1]
        exact h2
      · exact w.err
    · split at w
      · rename_i xs hx
        split at w
        · rename_i d' hd
          obtain ⟨j, h1, h2⟩ := atD_atI hd
          obtain ⟨a, vs, rfl, r, q⟩ := seqOf_sq rs rd hx
          obtain ⟨v, hv, rv⟩ := r.get h2
          have hat : atI vs i = some v := by
            unfold atI
            rw [← r.length, h1]
            exact hv
          rw [hK]
          rcases q with q | q
          · exact .inl ⟨a, vs, i, v, rfl, re, q, hat, w.now rs rv⟩
          · exact .inr (.inl ⟨a, vs, i, v, rfl, re, q, hat, w.now rs rv⟩)
        · exact w.err
      · exact w.err
  · exact w.err
theorem Rels.cut {lo hi : Option Int} (r : Rels g m n H xs vs) : Rels g m n H (cutD xs lo hi) (cutV vs lo hi) := by
  unfold cutD cutV
  rw [r.length]
  exact (r.drop _).take _
/-- slices: what is told of a thing and two bounds -/
def r3 (g : Gs) (box : Bool) : V → Option Int → Option Int → Hp → VK → Prop := fun x lo hi H Q => ∃ m S d W, RS g m S H ∧ Rel g m S.length H d x ∧ WP g W (Rel g) m S.length H (slcR box d lo hi S) Q
theorem SlR.imp {r r' : V → Option Int → Option Int → Hp → VK → Prop} (h : SlR X r) (k : ∀ x lo hi H Q, r' x lo hi H Q → r x lo hi H Q) : SlR X r' :=
  fun pins s σ H x v vl vu lo hi sl Q I rx hs pl pu q => h pins s σ H x v vl vu lo hi sl Q I rx hs pl pu (k _ _ _ _ _ q)
theorem cutS_mem {z : Str} {lo hi : Option Int} {c : Nat} (h : c ∈ (cutS z lo hi).cps.toList) : c ∈ z.cps.toList := by
  unfold cutS at h
  exact List.mem_of_mem_drop (List.mem_of_mem_take (by simpa using h))
theorem sl_I (hK : X.K = g.K) {box : Bool} : SlR X (r3 g box) := by
  refine SlR.imp (sl_tupN.or (sl_str.or sl_list)) fun x lo hi H Q ⟨m, S, d, W, rs, rd, w⟩ => ?_
  unfold slcR at w
  split at w
  · rename_i xs
    rw [rel_tup] at rd
    obtain ⟨a, vs, rfl, t, r⟩ := rd
    refine .inl ⟨a, vs, rfl, by rw [hK]; exact t.sq, fun ⟨h1, h2⟩ => ?_, fun _ => mkT_ok rs r.cut w⟩
    have e : cutD xs lo hi = xs := by
      unfold cutD
      rw [r.length, h1, h2, List.drop_zero, Nat.sub_zero]
      exact List.take_of_length_le (Nat.le_of_eq r.length)
    rw [e] at w
    exact w.now rs (by rw [rel_tup]; exact ⟨a, vs, rfl, t, r⟩)
  · rw [rel_str] at rd
    exact .inr (.inl ⟨_, rd.1, rd.2.1, w.now rs (by rw [rel_str]; exact ⟨rfl, Nat.le_trans (cutS_length _ _ _) rd.2.1, fun c hc => rd.2.2 c (cutS_mem hc)⟩)⟩)
  · rename_i hn _
    split at w
    · rename_i xs hx
      obtain ⟨a, vs, rfl, r, q⟩ := seqOf_rel rs rd hx
      rcases q with ⟨q, _⟩ | ⟨_, q⟩
      · exact .inr (.inr ⟨a, vs, rfl, by rw [hK]; exact q, fun p hp => mkL_ok rs r.cut w hp⟩)
      · exact absurd q (hn _)
    · exact w.err
end
end Iv

/-! ### expressions -/
namespace Iv
open PySem PySem.Spec PyProof.Rows L2

def EnvR (g : Gs) (m : Mp) (n : Nat) (H : Hp) (ρ : Env) (σ : L2.St) : Prop := ρ.length = σ.length ∧ ∀ (i : Nat) (d : D), ρ[i]? = some (some d) → ∃ v, σ[i]? = some (some v) ∧ Rel g m n H d v
/-- a reading by what is told of the data -/
def TI {α β : Type} (g : Gs) (W : L2.WX) (Ra : Mp → Nat → Hp → α → β → Prop) (f : Env → Sto → R α) : L2.St → Hp → (β → Hp → Prop) → Prop := fun σ H Q =>
  ∃ m ρ S, RS g m S H ∧ EnvR g m S.length H ρ σ ∧ WP g (fun c d H' => W c d σ H') Ra m S.length H (f ρ S) Q
section
variable {α β γ δ : Type} {g : Gs} {W : L2.WX} {Ra : Mp → Nat → Hp → α → β → Prop} {Rb : Mp → Nat → Hp → γ → δ → Prop} {m m1 : Mp} {n n1 : Nat} {H H1 : Hp} {S : Sto} {ρ : Env} {σ : L2.St}
theorem EnvR.mono (x : Ext m n H m1 n1 H1) (h : EnvR g m n H ρ σ) : EnvR g m1 n1 H1 ρ σ := ⟨h.1, fun i d e => let ⟨v, e1, r⟩ := h.2 i d e; ⟨v, e1, Rel.mono x d v r⟩⟩
theorem EnvR.set {d : D} {v : V} {i : Nat} (h : EnvR g m n H ρ σ) (r : Rel g m n H d v) : EnvR g m n H (ρ.set i (some d)) (σ.set i (some v)) := by
  refine ⟨by rw [List.length_set, List.length_set]; exact h.1, fun j d' e => ?_⟩
  by_cases hj : j = i
  · subst hj
    have hl : j < (ρ.set j (some d)).length := (List.getElem?_eq_some_iff.mp e).1
    rw [List.length_set] at hl
    rw [List.getElem?_set_self hl] at e
    cases e
    exact ⟨v, List.getElem?_set_self (by rw [← h.1]; exact hl), r⟩
  · rw [List.getElem?_set_ne (Ne.symm hj)] at e
    obtain ⟨w, e1, r1⟩ := h.2 j d' e
    exact ⟨w, by rw [List.getElem?_set_ne (Ne.symm hj)]; exact e1, r1⟩
theorem EnvR.wiped (h : EnvR g m n H ρ σ) : ∀ vs : List Nat, EnvR g m n H (wipeE ρ vs) (wipe σ vs)
  | [] => h
  | v :: vs => by
    have ih := EnvR.wiped h vs
    refine ⟨by unfold wipeE L2.wipe; rw [List.length_set, List.length_set]; exact ih.1, fun j d e => ?_⟩
    unfold wipeE at e
    unfold L2.wipe
    by_cases hj : j = v
    · subst hj
      have hl : j < ((wipeE ρ vs).set j none).length := (List.getElem?_eq_some_iff.mp e).1
      rw [List.length_set] at hl
      rw [List.getElem?_set_self hl] at e
      cases e
    · rw [List.getElem?_set_ne (Ne.symm hj)] at e
      obtain ⟨w, e1, r1⟩ := ih.2 j d e
      exact ⟨w, by rw [List.getElem?_set_ne (Ne.symm hj)]; exact e1, r1⟩
theorem TI.step {f : Env → Sto → R α} {k : α → Sto → R γ} {Q : δ → Hp → Prop} (rs : RS g m S H) (er : EnvR g m S.length H ρ σ) (w : WP g (fun c d H' => W c d σ H') Rb m S.length H ((f ρ S).bind k) Q) {Q' : β → Hp → Prop}
    (h : ∀ b H1 m1 S1 a, Ext m S.length H m1 S1.length H1 → RS g m1 S1 H1 → EnvR g m1 S1.length H1 ρ σ → Ra m1 S1.length H1 a b → WP g (fun c d H' => W c d σ H') Rb m1 S1.length H1 (k a S1) Q → Q' b H1) : TI g W Ra f σ H Q' :=
  ⟨m, ρ, S, rs, er, (WP.bind (Ra := Ra) w).imp fun b H1 ⟨m1, S1, a, x, rs1, ra, w1⟩ => h b H1 m1 S1 a x rs1 (er.mono x) ra w1⟩
theorem WP.bindE {r : R α} {f : α → Sto → R γ} {Q : δ → Hp → Prop} {W : Value → Option Addr → Hp → Prop} (h : WP g W Rb m n H (r.bind f) Q) :
    WP g W Ra m n H r (fun b H1 => ∃ m1 S1 a, r = .ok a S1 ∧ Ext m n H m1 S1.length H1 ∧ RS g m1 S1 H1 ∧ Ra m1 S1.length H1 a b ∧ WP g W Rb m1 S1.length H1 (f a S1) Q) := by
  cases r with
  | ok a S' => exact fun m' H' b x rs ra => ⟨m', S', a, rfl, x, rs, ra, WP.from x h⟩
  | exc e S' => exact h
  | err => exact h
theorem TI.stepE {f : Env → Sto → R α} {k : α → Sto → R γ} {Q : δ → Hp → Prop} (rs : RS g m S H) (er : EnvR g m S.length H ρ σ) (w : WP g (fun c d H' => W c d σ H') Rb m S.length H ((f ρ S).bind k) Q) {Q' : β → Hp → Prop}
    (h : ∀ b H1 m1 S1 a, f ρ S = .ok a S1 → Ext m S.length H m1 S1.length H1 → RS g m1 S1 H1 → EnvR g m1 S1.length H1 ρ σ → Ra m1 S1.length H1 a b → WP g (fun c d H' => W c d σ H') Rb m1 S1.length H1 (k a S1) Q → Q' b H1) : TI g W Ra f σ H Q' :=
  ⟨m, ρ, S, rs, er, (WP.bindE (Ra := Ra) w).imp fun b H1 ⟨m1, S1, a, e, x, rs1, ra, w1⟩ => h b H1 m1 S1 a e x rs1 (er.mono x) ra w1⟩
theorem TI.last {f : Env → Sto → R α} {Q : β → Hp → Prop} (rs : RS g m S H) (er : EnvR g m S.length H ρ σ) (w : WP g (fun c d H' => W c d σ H') Ra m S.length H (f ρ S) Q) : TI g W Ra f σ H Q := ⟨m, ρ, S, rs, er, w⟩
theorem TI.imp {f : Env → Sto → R α} {Q Q' : β → Hp → Prop} (h : TI g W Ra f σ H Q) (k : ∀ b H', Q b H' → Q' b H') : TI g W Ra f σ H Q' :=
  let ⟨m, ρ, S, rs, er, w⟩ := h
  ⟨m, ρ, S, rs, er, w.imp k⟩
end
abbrev tE (g : Gs) (W : L2.WX) (f : Env → Sto → R D) : TE := TI g W (Rel g) f
abbrev tEs (g : Gs) (W : L2.WX) (f : Env → Sto → R (List D)) : TA := TI g W (Rels g) f
abbrev tT (g : Gs) (W : L2.WX) (f : Env → Sto → R Bool) : TT := TI g W RelB f
theorem PE.imp {X : Cx} {e : Expr} {t t' : TE} (h : PE X e t) (k : ∀ σ H Q, t' σ H Q → t σ H Q) : PE X e t' := ⟨fun pins s σ H Q I q => h.run pins s σ H Q I (k σ H Q q)⟩
theorem PT.imp {X : Cx} {e : Expr} {t t' : TT} (h : PT X e t) (k : ∀ σ H Q, t' σ H Q → t σ H Q) : PT X e t' := ⟨fun pins s σ H Q I q => h.run pins s σ H Q I (k σ H Q q)⟩
theorem PW.imp {X : Cx} {e : Expr} {t t' : TT} (h : PW X e t) (k : ∀ σ H Q, t' σ H Q → t σ H Q) : PW X e t' := ⟨fun wh pins s σ H Q I q => h.run wh pins s σ H Q I (k σ H Q q)⟩
theorem PA.imp {X : Cx} {e : List Expr} {t t' : TA} (h : PA X e t) (k : ∀ σ H Q, t' σ H Q → t σ H Q) : PA X e t' := ⟨fun pos pins s σ H Q I q => h.run pos pins s σ H Q I (k σ H Q q)⟩

/-! forms of expressions -/
def okE : Expr → Bool
  | .Starred _ _ => false
  | .Slice _ _ _ _ => false
  | .Set _ _ _ => false
  | .Call (.Name id _) [] [] _ => id != "super"
  | _ => true
def plainT : Expr → Bool
  | .UnaryOp .Not _ _ => false
  | .BoolOp _ _ _ => false
  | .IfExp _ _ _ _ => false
  | .Compare _ _ _ _ => false
  | _ => true
theorem starEach_ok {e : Expr} {es : List Expr} {env : PySem.Env} (h : okE e = true) : starEach (e :: es) env = (false, eval e env) :: starEach es env := by
  cases e <;> first | rfl | (exact absurd h Bool.false_ne_true)
theorem plainIx_ok {e : Expr} (h : okE e = true) : PlainIx e := by
  intro o i
  cases e <;> first | rfl | (exact absurd h Bool.false_ne_true)
theorem mark_ok {e : Expr} {op : CmpOp} (h : okE e = true) : behindInMarks op e = false := by
  cases e <;> first | rfl | (exact absurd h Bool.false_ne_true)
theorem isTrue_ok {e : Expr} (h : plainT e = true) {env : PySem.Env} (whole : Sem Value) : isTrue e env whole = (do let v ← whole; standAt e.pos; holding [v] (truthy v)) := by
  cases e with
  | UnaryOp op a p => cases op <;> first | rfl | (exact absurd h Bool.false_ne_true)
  | _ => first | rfl | (exact absurd h Bool.false_ne_true)
theorem attrBase_ok {o : Expr} {f : Str} {env : PySem.Env} (h : okE o = true) : attributeBase o f env (eval o env) = eval o env := by
  cases o with
  | Call fn as ks p =>
    cases fn with
    | Name id q =>
      cases as with
      | nil =>
        cases ks with
        | nil =>
          have h' : (id != "super") = true := h
          unfold attributeBase
          simp only [h', Bool.true_or, if_true]
        | cons _ _ => rfl
      | cons _ _ => rfl
    | _ => rfl
  | _ => rfl
theorem lastMarks_ok {b c : Expr} {op op' : CmpOp} (hc : okE c = true) : lastMarks [op, op'] [b, c] = false := by
  show lastMarks [op'] [c] = false
  show behindInMarks op' c = false
  exact mark_ok hc
theorem folded_ok {e : Expr} {env : PySem.Env} (h : okE e = true) (x : Value) : foldedSetIterable e env x = pure x := by
  cases e <;> first | rfl | (exact absurd h Bool.false_ne_true)

section
variable {g : Gs} {W : L2.WX} {X : Cx} {F : CE} {a b c : Expr} {ia ib ic : E} {pos : Pos}
theorem i_var {i : Nat} {x : Str} (hN : X.N[i]? = some x) (hv : Vis X.env.scope x) (hd : (x == ("__debug__" : Str)) = false) (hcd : (x == ("__classdict__" : Str)) = false) : PE X (.Name x pos) (tE g W (ev F (.var i))) := by
  refine PE.imp (pe_var hN hv hd hcd) fun σ H Q ⟨m, ρ, S, rs, er, w⟩ => ?_
  rw [ev] at w
  split at w
  · rename_i d hd
    obtain ⟨v, e, r⟩ := er.2 i d hd
    exact ⟨v, e, w.now rs r⟩
  · exact w.err
theorem i_con {e : Expr} {d : D} {v : V} (h : PE X e (tC v)) (r : ∀ m n H, Rel g m n H d v) : PE X e (tE g W (ev F (.con d))) := by
  refine PE.imp h fun σ H Q ⟨m, ρ, S, rs, er, w⟩ => ?_
  rw [ev] at w
  exact w.now rs (r _ _ _)
theorem i_bin (hK : X.K = g.K) {box : Bool} {op : Bop} (ha : PE X a (tE g W (ev F ia))) (hb : PE X b (tE g W (ev F ib))) : PE X (.BinOp a (opOf op) b pos) (tE g W (ev F (.bin box op ia ib))) := by
  refine PE.imp (pe_op (op_binI (box := box) hK op) ha hb) fun σ H Q ⟨m, ρ, S, rs, er, w⟩ => ?_
  rw [ev] at w
  refine TI.step rs er w fun x H1 m1 S1 d x1 rs1 er1 r1 w => ?_
  refine TI.step rs1 er1 w fun y H2 m2 S2 e x2 rs2 er2 r2 w => ?_
  exact ⟨m2, S2, d, e, _, rs2, Rel.mono x2 _ _ r1, r2, w⟩
theorem i_cmp (hK : X.K = g.K) {k : Nat} (hr : Room k X.A) {op : Cop} (ok : okE b = true) (ha : PE X a (tE g W (ev F ia))) (hb : PE X b (tE g W (ev F ib))) : PE X (.Compare a [copOf op] [b] pos) (tE g W (ev F (.cmp op ia ib))) := by
  refine PE.imp (pe_cmpR (op_cmpI hK hr op) ha hb (mark_ok ok)) fun σ H Q ⟨m, ρ, S, rs, er, w⟩ => ?_
  rw [ev] at w
  refine TI.step rs er w fun x H1 m1 S1 d x1 rs1 er1 r1 w => ?_
  refine TI.step rs1 er1 w fun y H2 m2 S2 e x2 rs2 er2 r2 w => ?_
  exact ⟨m2, S2, d, e, _, rs2, Rel.mono x2 _ _ r1, r2, w⟩
theorem eqD_form {x y : D} {S : Sto} {k : Bool → R D} : (∃ b, eqD x y S k = k b) ∨ eqD x y S k = .err := by
  unfold eqD ck
  split
  · exact .inl ⟨_, rfl⟩
  · exact .inr rfl
theorem eqX_form {x y : D} {S : Sto} {k : Bool → R D} : (∃ b, eqX x y S k = k b) ∨ eqX x y S k = .err := by
  unfold eqX ck
  split
  · exact .inl ⟨_, rfl⟩
  · exact .inr rfl
theorem inR_form {x y : D} {S : Sto} {k : Bool → R D} : (∃ b, cmpR.inR x y S k = k b) ∨ cmpR.inR x y S k = .err := by
  unfold cmpR.inR ck
  split
  · split
    · exact .inl ⟨_, rfl⟩
    · exact .inl ⟨_, rfl⟩
  · split
    · split
      · exact .inl ⟨_, rfl⟩
      · exact .inr rfl
    · exact .inr rfl
theorem cmpR_form (op : Cop) (x y : D) (S : Sto) : (∃ b, cmpR op x y S = .ok (.bl b) S) ∨ cmpR op x y S = .err := by
  cases op with
  | eq =>
    rcases eqD_form (x := x) (y := y) (S := S) (k := fun b => .ok (.bl b) S) with ⟨b, h⟩ | h
    · exact .inl ⟨b, h⟩
    · exact .inr h
  | ne =>
    rcases eqD_form (x := x) (y := y) (S := S) (k := fun b => .ok (.bl (!b)) S) with ⟨b, h⟩ | h
    · exact .inl ⟨!b, h⟩
    · exact .inr h
  | eqd =>
    rcases eqX_form (x := x) (y := y) (S := S) (k := fun b => .ok (.bl b) S) with ⟨b, h⟩ | h
    · exact .inl ⟨b, h⟩
    · exact .inr h
  | ned =>
    rcases eqX_form (x := x) (y := y) (S := S) (k := fun b => .ok (.bl (!b)) S) with ⟨b, h⟩ | h
    · exact .inl ⟨!b, h⟩
    · exact .inr h
  | isIn =>
    rcases inR_form (x := x) (y := y) (S := S) (k := fun b => .ok (.bl b) S) with ⟨b, h⟩ | h
    · exact .inl ⟨b, h⟩
    · exact .inr h
  | notIn =>
    rcases inR_form (x := x) (y := y) (S := S) (k := fun b => .ok (.bl (!b)) S) with ⟨b, h⟩ | h
    · exact .inl ⟨!b, h⟩
    · exact .inr h
  | _ =>
    unfold cmpR
    simp only
    split <;> first | exact .inl ⟨_, rfl⟩ | exact .inr rfl | (split <;> first | exact .inl ⟨_, rfl⟩ | exact .inr rfl) | (unfold ordX ck; split <;> first | exact .inl ⟨_, rfl⟩ | exact .inr rfl)
theorem wp_bl {W' : Value → Option Addr → Hp → Prop} {m : Mp} {n : Nat} {H : Hp} {r : R D} {Q : Bool → Hp → Prop} (f : (∃ b S, r = .ok (.bl b) S) ∨ r = .err) (w : WP g W' RelB m n H (r.bind fun z S => tru z S) Q) : WP g W' (Rel g) m n H r fun x H' => ∃ k, x = .bl k ∧ Q k H' := by
  rcases f with ⟨b, S, rfl⟩ | rfl
  · intro m' H' v x rs r
    rw [rel_bl] at r
    exact ⟨b, r, w m' H' b x rs rfl⟩
  · exact w
theorem t_cmp (hK : X.K = g.K) {k : Nat} (hr : Room k X.A) {op : Cop} (ok : okE b = true) (ha : PE X a (tE g W (ev F ia))) (hb : PE X b (tE g W (ev F ib))) : PT X (.Compare a [copOf op] [b] pos) (tT g W fun ρ S => (ev F (.cmp op ia ib) ρ S).bind fun z S => tru z S) := by
  refine PT.imp (pt_cmpR (op_cmpI hK hr op) ha hb (mark_ok ok)) fun σ H Q ⟨m, ρ, S, rs, er, w⟩ => ?_
  dsimp only at w
  rw [ev] at w
  unfold tTest
  have bind3 : ∀ {α β γ : Type} (r : R α) (f : α → Sto → R β) (h : β → Sto → R γ), (r.bind f).bind h = r.bind fun x S => (f x S).bind h := fun r f h => by cases r <;> rfl
  rw [bind3] at w
  refine TI.step rs er w fun x H1 m1 S1 d x1 rs1 er1 r1 w => ?_
  rw [bind3] at w
  refine TI.step rs1 er1 w fun y H2 m2 S2 e x2 rs2 er2 r2 w => ?_
  refine ⟨m2, S2, d, e, _, rs2, Rel.mono x2 _ _ r1, r2, wp_bl ?_ w⟩
  rcases cmpR_form op d e S2 with ⟨b, h⟩ | h
  · exact .inl ⟨b, S2, h⟩
  · exact .inr h
theorem R.bind_bind {α β γ : Type} (r : R α) (f : α → Sto → R β) (h : β → Sto → R γ) : (r.bind f).bind h = r.bind fun x S => (f x S).bind h := by cases r <;> rfl
theorem tru_bl {b : Bool} {S : Sto} : tru (.bl b) S = .ok b S := rfl
theorem chain_body (hK : X.K = g.K) {op op' : Cop} {σ : L2.St} {H : Hp} {Q : VK} {m : Mp} {ρ : Env} {S : Sto} (rs : RS g m S H) (er : EnvR g m S.length H ρ σ) (w : WP g (fun c d H' => W c d σ H') (Rel g) m S.length H (ev F (.chain op op' ia ib ic) ρ S) Q) :
    tChain (r2 g (cmpR op)) (r2 g (cmpR op')) (tE g W (ev F ia)) (tE g W (ev F ib)) (tE g W (ev F ic)) σ H Q := by
  rw [ev] at w
  refine TI.step rs er w fun x H1 m1 S1 d x1 rs1 er1 r1 w => ?_
  refine TI.step rs1 er1 w fun y H2 m2 S2 e x2 rs2 er2 r2 w => ?_
  refine ⟨m2, S2, d, e, (fun c d H' => W c d σ H'), rs2, Rel.mono x2 _ _ r1, r2, ?_⟩
  rcases cmpR_form op d e S2 with ⟨b, h⟩ | h
  · rw [h] at w ⊢
    intro m3 H3 v x3 rs3 r3
    rw [rel_bl] at r3
    refine ⟨b, r3, ?_⟩
    simp only [R.bind_ok, tru_bl] at w
    have w := w.from x3
    cases b with
    | false =>
      rw [if_neg Bool.false_ne_true] at w ⊢
      exact w.now rs3 (by rw [rel_bl])
    | true =>
      rw [if_pos rfl] at w ⊢
      refine TI.step rs3 (er2.mono x3) w fun z H4 m4 S4 f x4 rs4 er4 r4 w => ?_
      exact ⟨m4, S4, e, f, _, rs4, Rel.mono (x3.trans x4) _ _ r2, r4, w⟩
  · rw [h] at w
    exact w.err
theorem i_chain (hK : X.K = g.K) {k : Nat} (hr : Room k X.A) {op op' : Cop} (ok : okE c = true) (ha : PE X a (tE g W (ev F ia))) (hb : PE X b (tE g W (ev F ib))) (hc : PE X c (tE g W (ev F ic))) :
    PE X (.Compare a [copOf op, copOf op'] [b, c] pos) (tE g W (ev F (.chain op op' ia ib ic))) :=
  PE.imp (pe_chain (op_cmpI hK hr op) (op_cmpI hK hr op') ha hb hc (lastMarks_ok ok)) fun σ H Q ⟨m, ρ, S, rs, er, w⟩ => chain_body hK rs er w
theorem chain_form {op op' : Cop} {ρ : Env} {S : Sto} : (∃ b S', ev F (.chain op op' ia ib ic) ρ S = .ok (.bl b) S') ∨ ev F (.chain op op' ia ib ic) ρ S = .err ∨ ∃ x S', ev F (.chain op op' ia ib ic) ρ S = .exc x S' := by
  rw [ev]
  cases ev F ia ρ S with
  | exc x S' => exact .inr (.inr ⟨_, _, rfl⟩)
  | err => exact .inr (.inl rfl)
  | ok x S1 =>
    simp only [R.bind_ok]
    cases ev F ib ρ S1 with
    | exc x S' => exact .inr (.inr ⟨_, _, rfl⟩)
    | err => exact .inr (.inl rfl)
    | ok y S2 =>
      simp only [R.bind_ok]
      rcases cmpR_form op x y S2 with ⟨b, h⟩ | h
      · rw [h]
        simp only [R.bind_ok, tru_bl]
        cases b with
        | false => exact .inl ⟨false, S2, rfl⟩
        | true =>
          rw [if_pos rfl]
          cases ev F ic ρ S2 with
          | exc x S' => exact .inr (.inr ⟨_, _, rfl⟩)
          | err => exact .inr (.inl rfl)
          | ok z S3 =>
            simp only [R.bind_ok]
            rcases cmpR_form op' y z S3 with ⟨b, h⟩ | h
            · exact .inl ⟨b, S3, h⟩
            · exact .inr (.inl h)
      · rw [h]
        exact .inr (.inl rfl)
theorem t_chain (hK : X.K = g.K) {k : Nat} (hr : Room k X.A) {op op' : Cop} (ok : okE c = true) (ha : PE X a (tE g W (ev F ia))) (hb : PE X b (tE g W (ev F ib))) (hc : PE X c (tE g W (ev F ic))) :
    PT X (.Compare a [copOf op, copOf op'] [b, c] pos) (tT g W fun ρ S => (ev F (.chain op op' ia ib ic) ρ S).bind fun z S => tru z S) := by
  refine PT.imp (pt_chain (op_cmpI hK hr op) (op_cmpI hK hr op') ha hb hc (lastMarks_ok ok)) fun σ H Q ⟨m, ρ, S, rs, er, w⟩ => ?_
  refine chain_body hK rs er ?_
  rcases chain_form (F := F) (ia := ia) (ib := ib) (ic := ic) (op := op) (op' := op') (ρ := ρ) (S := S) with ⟨b, S', h⟩ | h | ⟨x, S', h⟩
  · exact wp_bl (.inl ⟨b, S', h⟩) w
  · exact wp_bl (.inr h) w
  · dsimp only at w
    rw [h] at w ⊢
    exact w
/-! and, or, not, tests -/
theorem i_and (hK : X.K = g.K) {rest : List Expr} (ha : PE X a (tE g W (ev F ia))) (hb : PE X (.BoolOp .And (b :: rest) pos) (tE g W (ev F ib))) : PE X (.BoolOp .And (a :: b :: rest) pos) (tE g W (ev F (.and ia ib))) := by
  refine PE.imp (pe_andT ha hb) fun σ H Q ⟨m, ρ, S, rs, er, w⟩ => ?_
  rw [ev] at w
  refine TI.step rs er w fun x H1 m1 S1 d x1 rs1 er1 r1 w => ?_
  rw [hK]
  have w2 := WP.bind (Ra := RelB) w
  obtain ⟨k, tk, m2, S2, k', x2, rs2, rb, w3⟩ := tru_rel rs1 r1 w2
  cases rb
  refine ⟨k, tk, ?_⟩
  cases k with
  | true =>
    rw [if_pos rfl] at w3 ⊢
    exact TI.last rs2 (er1.mono x2) w3
  | false =>
    rw [if_neg Bool.false_ne_true] at w3 ⊢
    exact w3.now rs2 (Rel.mono x2 _ _ r1)
theorem i_or (hK : X.K = g.K) {rest : List Expr} (ha : PE X a (tE g W (ev F ia))) (hb : PE X (.BoolOp .Or (b :: rest) pos) (tE g W (ev F ib))) : PE X (.BoolOp .Or (a :: b :: rest) pos) (tE g W (ev F (.or ia ib))) := by
  refine PE.imp (pe_orT ha hb) fun σ H Q ⟨m, ρ, S, rs, er, w⟩ => ?_
  rw [ev] at w
  refine TI.step rs er w fun x H1 m1 S1 d x1 rs1 er1 r1 w => ?_
  rw [hK]
  have w2 := WP.bind (Ra := RelB) w
  obtain ⟨k, tk, m2, S2, k', x2, rs2, rb, w3⟩ := tru_rel rs1 r1 w2
  cases rb
  refine ⟨k, tk, ?_⟩
  cases k with
  | true =>
    rw [if_pos rfl] at w3 ⊢
    exact w3.now rs2 (Rel.mono x2 _ _ r1)
  | false =>
    rw [if_neg Bool.false_ne_true] at w3 ⊢
    exact TI.last rs2 (er1.mono x2) w3
theorem i_not (hK : X.K = g.K) (ha : PE X a (tE g W (ev F ia))) : PE X (.UnaryOp .Not a pos) (tE g W (ev F (.not ia))) := by
  refine PE.imp (pe_notT ha) fun σ H Q ⟨m, ρ, S, rs, er, w⟩ => ?_
  rw [ev] at w
  refine TI.step rs er w fun x H1 m1 S1 d x1 rs1 er1 r1 w => ?_
  rw [hK]
  have w2 := WP.bind (Ra := RelB) w
  obtain ⟨k, tk, m2, S2, k', x2, rs2, rb, w3⟩ := tru_rel rs1 r1 w2
  cases rb
  exact ⟨k, tk, w3.now rs2 (by rw [rel_bl])⟩
theorem i_neg (ha : PE X a (tE g W (ev F ia))) : PE X (.UnaryOp .USub a pos) (tE g W (ev F (.neg ia))) := by
  refine PE.imp (pe_un un_neg ha) fun σ H Q ⟨m, ρ, S, rs, er, w⟩ => ?_
  rw [ev] at w
  refine TI.step rs er w fun x H1 m1 S1 d x1 rs1 er1 r1 w => ?_
  split at w
  · rw [rel_int] at r1
    exact ⟨_, r1, w.now rs1 (by rw [rel_int])⟩
  · exact w.err
noncomputable abbrev evT (F : CE) (e : E) : Env → Sto → R Bool := fun ρ S => (ev F e ρ S).bind fun z S => tru z S
theorem t_val (hK : X.K = g.K) (pl : plainT a = true) (ha : PE X a (tE g W (ev F ia))) : PT X a (tT g W (evT F ia)) := by
  refine PT.imp (pt_truth ha fun wh => isTrue_ok pl wh) fun σ H Q ⟨m, ρ, S, rs, er, w⟩ => ?_
  refine TI.step rs er w fun x H1 m1 S1 d x1 rs1 er1 r1 w => ?_
  rw [hK]
  exact tru_rel rs1 r1 w
theorem t_not (ha : PT X a (tT g W (evT F ia))) : PT X (.UnaryOp .Not a pos) (tT g W (evT F (.not ia))) := by
  refine PT.imp (pt_not ha) fun σ H Q ⟨m, ρ, S, rs, er, w⟩ => ?_
  unfold evT at w
  rw [ev, R.bind_bind] at w
  have e : ((ev F ia ρ S).bind fun x S => ((tru x S).bind fun b S => R.ok (D.bl (!b)) S).bind fun z S => tru z S) = ((ev F ia ρ S).bind fun x S => tru x S).bind fun b S => R.ok (!b) S := by
    rw [R.bind_bind]
    congr 1
    funext x S
    rw [R.bind_bind]
    rfl
  rw [e] at w
  refine TI.step (Ra := RelB) (f := evT F ia) rs er w fun k H1 m1 S1 d x1 rs1 er1 r1 w => ?_
  cases r1
  exact w.now rs1 rfl
theorem w_and (ha : PT X a (tT g W (evT F ia))) {rest : List Expr} (hb : PW X (.BoolOp .And (b :: rest) pos) (tT g W (evT F ib))) : PW X (.BoolOp .And (a :: b :: rest) pos) (tT g W (evT F (.and ia ib))) := by
  refine PW.imp (pw_and ha hb) fun σ H Q ⟨m, ρ, S, rs, er, w⟩ => ?_
  have e : evT F (.and ia ib) ρ S = (evT F ia ρ S).bind fun k S => if k = true then evT F ib ρ S else .ok false S := by
    unfold evT
    rw [ev, R.bind_bind, R.bind_bind]
    congr 1
    funext x S
    rw [R.bind_bind]
    unfold tru
    cases h : truR S x with
    | none => rfl
    | some k =>
      simp only [R.bind_ok]
      cases k with
      | true => rfl
      | false =>
        rw [if_neg Bool.false_ne_true, if_neg Bool.false_ne_true, R.bind_ok, h]
  rw [e] at w
  refine TI.step (Ra := RelB) (f := evT F ia) rs er w fun k H1 m1 S1 d x1 rs1 er1 r1 w => ?_
  cases r1
  cases k with
  | true =>
    rw [if_pos rfl] at w ⊢
    exact TI.last rs1 er1 w
  | false =>
    rw [if_neg Bool.false_ne_true] at w ⊢
    exact w.now rs1 rfl
theorem w_or (ha : PT X a (tT g W (evT F ia))) {rest : List Expr} (hb : PW X (.BoolOp .Or (b :: rest) pos) (tT g W (evT F ib))) : PW X (.BoolOp .Or (a :: b :: rest) pos) (tT g W (evT F (.or ia ib))) := by
  refine PW.imp (pw_or ha hb) fun σ H Q ⟨m, ρ, S, rs, er, w⟩ => ?_
  have e : evT F (.or ia ib) ρ S = (evT F ia ρ S).bind fun k S => if k = true then .ok true S else evT F ib ρ S := by
    unfold evT
    rw [ev, R.bind_bind, R.bind_bind]
    congr 1
    funext x S
    rw [R.bind_bind]
    unfold tru
    cases h : truR S x with
    | none => rfl
    | some k =>
      simp only [R.bind_ok]
      cases k with
      | true => rw [if_pos rfl, if_pos rfl, R.bind_ok, h]
      | false => rfl
  rw [e] at w
  refine TI.step (Ra := RelB) (f := evT F ia) rs er w fun k H1 m1 S1 d x1 rs1 er1 r1 w => ?_
  cases r1
  cases k with
  | true =>
    rw [if_pos rfl] at w ⊢
    exact w.now rs1 rfl
  | false =>
    rw [if_neg Bool.false_ne_true] at w ⊢
    exact TI.last rs1 er1 w
theorem i_ife (hc : PT X c (tT g W (evT F ic))) (ha : PE X a (tE g W (ev F ia))) (hb : PE X b (tE g W (ev F ib))) : PE X (.IfExp c a b pos) (tE g W (ev F (.ife ic ia ib))) := by
  refine PE.imp (pe_ifExp hc ha hb) fun σ H Q ⟨m, ρ, S, rs, er, w⟩ => ?_
  rw [ev, ← R.bind_bind] at w
  refine TI.step (Ra := RelB) (f := evT F ic) rs er w fun k H1 m1 S1 d x1 rs1 er1 r1 w => ?_
  cases r1
  cases k with
  | true =>
    rw [if_pos rfl] at w ⊢
    exact TI.last rs1 er1 w
  | false =>
    rw [if_neg Bool.false_ne_true] at w ⊢
    exact TI.last rs1 er1 w
/-! argument lists, displays, items, slices -/
theorem a_nil : PA X [] (tEs g W (evs F [])) := by
  refine PA.imp pa_nil fun σ H Q ⟨m, ρ, S, rs, er, w⟩ => ?_
  rw [evs] at w
  exact w.now rs Rels.nil
theorem a_cons {es : List Expr} {ies : List E} (ok : okE a = true) (ha : PE X a (tE g W (ev F ia))) (hr : PA X es (tEs g W (evs F ies))) : PA X (a :: es) (tEs g W (evs F (ia :: ies))) := by
  refine PA.imp (pa_cons ha hr (starEach_ok ok)) fun σ H Q ⟨m, ρ, S, rs, er, w⟩ => ?_
  rw [evs] at w
  refine TI.step rs er w fun x H1 m1 S1 d x1 rs1 er1 r1 w => ?_
  refine TI.step (Ra := Rels g) rs1 er1 w fun ys H2 m2 S2 ds x2 rs2 er2 r2 w => ?_
  exact w.now rs2 (Rels.cons (Rel.mono x2 _ _ r1) r2)
theorem i_tup {es : List Expr} {ies : List E} {k : Nat} (h : PA X es (tEs g W (evs F ies))) : PE X (.Tuple es k pos) (tE g W (ev F (.tup ies))) := by
  refine PE.imp (pe_tupN h) fun σ H Q ⟨m, ρ, S, rs, er, w⟩ => ?_
  rw [ev] at w
  refine TI.step (Ra := Rels g) rs er w fun xs H1 m1 S1 ds x1 rs1 er1 r1 w => ?_
  obtain ⟨c, w⟩ := w.ck
  exact ⟨by rw [← r1.length]; exact c, mkT_ok rs1 r1 w⟩
theorem i_lst {es : List Expr} {ies : List E} {box : Bool} (h : PA X es (tEs g W (evs F ies))) : PE X (.List es pos) (tE g W (ev F (.lst box ies))) := by
  refine PE.imp (pe_lst h) fun σ H Q ⟨m, ρ, S, rs, er, w⟩ => ?_
  rw [ev] at w
  refine TI.step (Ra := Rels g) rs er w fun xs H1 m1 S1 ds x1 rs1 er1 r1 w => ?_
  obtain ⟨c, w⟩ := w.ck
  exact ⟨by rw [← r1.length]; exact c, fun p hp => mkL_ok rs1 r1 w hp⟩
theorem i_idx (hK : X.K = g.K) (ok : okE b = true) (ha : PE X a (tE g W (ev F ia))) (hb : PE X b (tE g W (ev F ib))) : PE X (.Subscript a b pos) (tE g W (ev F (.idx ia ib))) := by
  refine PE.imp (pe_ix (ix_I hK) ha hb (plainIx_ok ok)) fun σ H Q ⟨m, ρ, S, rs, er, w⟩ => ?_
  rw [ev] at w
  refine TI.step rs er w fun x H1 m1 S1 d x1 rs1 er1 r1 w => ?_
  refine TI.step rs1 er1 w fun y H2 m2 S2 e x2 rs2 er2 r2 w => ?_
  exact ⟨m2, S2, d, e, _, rs2, Rel.mono x2 _ _ r1, r2, w⟩
/-- a part of a slice: what is told, as an int -/
def RelI : Mp → Nat → Hp → Option Int → Option Int → Prop := fun _ _ _ a b => a = b
abbrev partT (g : Gs) (W : L2.WX) (F : CE) (o : Option E) : TO := TI g W RelI (evp F o)
theorem p_none : PO X none (partT g W F none) := by
  have h : PO X none tNoPart := po_none
  refine ⟨fun pins s σ H Q I ⟨m, ρ, S, rs, er, w⟩ => h.run pins s σ H Q I ?_⟩
  rw [evp.eq_def] at w
  exact WP.now (b := none) w rs rfl
theorem p_some (ha : PE X a (tE g W (ev F ia))) : PO X (some a) (partT g W F (some ia)) := by
  refine ⟨fun pins s σ H Q I ⟨m, ρ, S, rs, er, w⟩ => (po_some ha).run pins s σ H Q I ?_⟩
  rw [evp.eq_def] at w
  refine TI.step rs er w fun x H1 m1 S1 d x1 rs1 er1 r1 w => ?_
  split at w
  · rename_i j
    rw [rel_int] at r1
    exact ⟨j, r1, WP.now (b := some j) w rs1 rfl⟩
  · exact w.err
theorem i_slc (hK : X.K = g.K) {box : Bool} {lo hi : Option Expr} {il ih : Option E} {p2 : Pos} (ha : PE X a (tE g W (ev F ia))) (hl : PO X lo (partT g W F il)) (hh : PO X hi (partT g W F ih)) :
    PE X (.Subscript a (.Slice lo hi none p2) pos) (tE g W (ev F (.slc box ia il ih))) := by
  refine PE.imp (pe_slice (sl_I (box := box) hK) ha hl hh) fun σ H Q ⟨m, ρ, S, rs, er, w⟩ => ?_
  rw [ev] at w
  refine TI.step rs er w fun x H1 m1 S1 d x1 rs1 er1 r1 w => ?_
  refine TI.step (Ra := RelI) rs1 er1 w fun l H2 m2 S2 l' x2 rs2 er2 r2 w => ?_
  refine TI.step (Ra := RelI) rs2 er2 w fun u H3 m3 S3 u' x3 rs3 er3 r3 w => ?_
  cases r2
  cases r3
  exact ⟨m3, S3, d, _, rs3, Rel.mono (x2.trans x3) _ _ r1, w⟩
end
end Iv

/-! ### built-in functions, methods, calls -/
namespace Iv
open PySem PySem.Spec PyProof.Rows L2

/-- str of a text is that text -/
theorem callStrStr {X : Cx} : CallR X (.type "str") (fun vs H Q => ∃ w, vs = [.str w] ∧ Q (.str w) H) := fun pins s σ H vs us Q I r ⟨w, e, q⟩ => by
  subst e
  obtain ⟨_, rfl, k, rfl⟩ := vals1 r
  exact PySem.P.str_of_str ⟨.str w, H, I, ⟨k, rfl⟩, q⟩
/-- what a built-in function tells -/
def rb (g : Gs) (b : Bi) : List V → Hp → VK → Prop := fun xs H Q => ∃ m S ds W, RS g m S H ∧ Rels g m S.length H ds xs ∧ WP g W (Rel g) m S.length H (biR b ds S) Q
def biVal : Bi → Value
  | .len => .builtin "len"
  | .abs => .builtin "abs"
  | .min2 => .builtin "min"
  | .max2 => .builtin "max"
  | .minL => .builtin "min"
  | .maxL => .builtin "max"
  | .sumL => .builtin "sum"
  | .sumS => .builtin "sum"
  | .all => .builtin "all"
  | .any => .builtin "any"
  | .int1 => .type "int"
  | .list1 _ => .type "list"
  | .tuple1 => .type "tuple"
  | .sorted1 _ => .builtin "sorted"
  | .isi => .builtin "isinstance"
  | .isc _ => .builtin "isinstance"
  | .maxD => .builtin "max"
  | .sumLL => .builtin "sum"
  | .str1 => .type "str"
  | .sortedR _ => .builtin "sorted"
  | .strp => .type "str"
  | .intS => .type "int"
section
variable {g : Gs} {W : Value → Option Addr → Hp → Prop} {m : Mp} {n : Nat} {H : Hp} {S : Sto} {Q : VK} {d e : D} {v x y : V} {xs ys : List D} {vs : List V} {X : Cx}
theorem ints_rel : ∀ {xs : List D} {vs : List V} {ns : List Int}, Rels g m n H xs vs → intsD xs = some ns → vs = ns.map V.int
  | [], _, _, r, e => by unfold Rels at r; subst r; cases e; rfl
  | x :: xs, _, ns, r, e => by
    unfold Rels at r
    obtain ⟨w, ws, rfl, r1, r2⟩ := r
    cases x with
    | int i =>
      obtain ⟨ns', h1, rfl⟩ := Option.map_eq_some_iff.mp (show (intsD xs).map (i :: ·) = some ns from e)
      rw [rel_int] at r1
      rw [r1, ints_rel r2 h1]
      rfl
    | _ => cases e
theorem bls_rel : ∀ {xs : List D} {vs : List V} {ns : List Bool}, Rels g m n H xs vs → blsD xs = some ns → vs = ns.map V.bl
  | [], _, _, r, e => by unfold Rels at r; subst r; cases e; rfl
  | x :: xs, _, ns, r, e => by
    unfold Rels at r
    obtain ⟨w, ws, rfl, r1, r2⟩ := r
    cases x with
    | bl i =>
      obtain ⟨ns', h1, rfl⟩ := Option.map_eq_some_iff.mp (show (blsD xs).map (i :: ·) = some ns from e)
      rw [rel_bl] at r1
      rw [r1, bls_rel r2 h1]
      rfl
    | _ => cases e
theorem lst_sq (rs : RS g m S H) (h : Rel g m S.length H d v) (e : lstOf S d = some xs) : ∃ a vs, v = .ref a ∧ Rels g m S.length H xs vs ∧ SqL g.K H a vs := by
  have e' : seqOf S d = some xs ∧ ∀ zs, d ≠ .tup zs := by
    cases d with
    | tup zs => cases e
    | _ => exact ⟨e, fun _ z => by cases z⟩
  obtain ⟨a, vs, rfl, r, q⟩ := seqOf_rel rs h e'.1
  rcases q with ⟨q, _⟩ | ⟨_, q⟩
  · exact ⟨a, vs, rfl, r, q⟩
  · exact absurd q (e'.2 _)
theorem ints_sq (rs : RS g m S H) (h : Rel g m S.length H d v) {ns : List Int} (e : intsOf S d = some ns) : ∃ a, v = .ref a ∧ SqL g.K H a (ns.map V.int) := by
  obtain ⟨xs, h1, h2⟩ := Option.bind_eq_some_iff.mp e
  obtain ⟨a, vs, rfl, r, q⟩ := lst_sq rs h h1
  rw [ints_rel r h2] at q
  exact ⟨a, rfl, q⟩
theorem bls_sq (rs : RS g m S H) (h : Rel g m S.length H d v) {ns : List Bool} (e : (lstOf S d).bind blsD = some ns) : ∃ a, v = .ref a ∧ SqL g.K H a (ns.map V.bl) := by
  obtain ⟨xs, h1, h2⟩ := Option.bind_eq_some_iff.mp e
  obtain ⟨a, vs, rfl, r, q⟩ := lst_sq rs h h1
  rw [bls_rel r h2] at q
  exact ⟨a, rfl, q⟩
theorem min_spec : ∀ {ns : List Int} {i : Int}, minI ns = some i → i ∈ ns ∧ ∀ y ∈ ns, i ≤ y := by
  have go : ∀ (r : List Int) (a : Int), (r.foldl (fun m x => if x < m then x else m) a = a ∨ r.foldl (fun m x => if x < m then x else m) a ∈ r) ∧ r.foldl (fun m x => if x < m then x else m) a ≤ a ∧ ∀ y ∈ r, r.foldl (fun m x => if x < m then x else m) a ≤ y := by
    intro r
    induction r with
    | nil => intro a; exact ⟨.inl rfl, Int.le_refl _, fun _ h => by cases h⟩
    | cons b r ih =>
      intro a
      rw [List.foldl_cons]
      obtain ⟨h1, h2, h3⟩ := ih (if b < a then b else a)
      refine ⟨?_, ?_, fun y hy => ?_⟩
      · rcases h1 with h1 | h1
        · rw [h1]
          split
          · exact .inr (List.mem_cons_self ..)
          · exact .inl rfl
        · exact .inr (List.mem_cons_of_mem _ h1)
      · refine Int.le_trans h2 ?_
        split <;> omega
      · rcases List.mem_cons.mp hy with rfl | hy
        · refine Int.le_trans h2 ?_
          split <;> omega
        · exact h3 y hy
  intro ns i h
  cases ns with
  | nil => cases h
  | cons a r =>
    cases h
    obtain ⟨h1, h2, h3⟩ := go r a
    refine ⟨?_, fun y hy => ?_⟩
    · rcases h1 with h1 | h1
      · rw [h1]; exact List.mem_cons_self ..
      · exact List.mem_cons_of_mem _ h1
    · rcases List.mem_cons.mp hy with rfl | hy
      · exact h2
      · exact h3 y hy
theorem max_spec : ∀ {ns : List Int} {i : Int}, maxI ns = some i → i ∈ ns ∧ ∀ y ∈ ns, y ≤ i := by
  have go : ∀ (r : List Int) (a : Int), (r.foldl (fun m x => if m < x then x else m) a = a ∨ r.foldl (fun m x => if m < x then x else m) a ∈ r) ∧ a ≤ r.foldl (fun m x => if m < x then x else m) a ∧ ∀ y ∈ r, y ≤ r.foldl (fun m x => if m < x then x else m) a := by
    intro r
    induction r with
    | nil => intro a; exact ⟨.inl rfl, Int.le_refl _, fun _ h => by cases h⟩
    | cons b r ih =>
      intro a
      rw [List.foldl_cons]
      obtain ⟨h1, h2, h3⟩ := ih (if a < b then b else a)
      refine ⟨?_, ?_, fun y hy => ?_⟩
      · rcases h1 with h1 | h1
        · rw [h1]
          split
          · exact .inr (List.mem_cons_self ..)
          · exact .inl rfl
        · exact .inr (List.mem_cons_of_mem _ h1)
      · refine Int.le_trans ?_ h2
        split <;> omega
      · rcases List.mem_cons.mp hy with rfl | hy
        · refine Int.le_trans ?_ h2
          split <;> omega
        · exact h3 y hy
  intro ns i h
  cases ns with
  | nil => cases h
  | cons a r =>
    cases h
    obtain ⟨h1, h2, h3⟩ := go r a
    refine ⟨?_, fun y hy => ?_⟩
    · rcases h1 with h1 | h1
      · rw [h1]; exact List.mem_cons_self ..
      · exact List.mem_cons_of_mem _ h1
    · rcases List.mem_cons.mp hy with rfl | hy
      · exact h2
      · exact h3 y hy
theorem ty_rel (rs : RS g m S H) (h : Rel g m S.length H d v) {a : String} (e : tyOf S d = some a) : TyX g.K H v (.type a) := by
  cases d with
  | non => cases e; rw [rel_non] at h; subst h; exact .base .non
  | bl _ => cases e; rw [rel_bl] at h; subst h; exact .base (.bl _)
  | int _ => cases e; rw [rel_int] at h; subst h; exact .base (.int _)
  | str _ => cases e; rw [rel_str] at h; obtain ⟨rfl, _⟩ := h; exact .base (.str _)
  | tup _ =>
    cases e
    rw [rel_tup] at h
    obtain ⟨a, vs, rfl, t | t | t, _⟩ := h
    · exact .base (.tup t.1)
    · rcases t.1 (fun _ => none) with (z | ⟨_, z⟩) | ⟨o, _, _, k, c, _⟩
      · cases z
      · cases z
      · exact .kTuple k c
    · obtain ⟨o, e, _⟩ := t
      exact .fTuple e
  | lst _ => cases e; rw [rel_lst] at h; obtain ⟨a, vs, rfl, ⟨t, _⟩, _⟩ := h; exact .base (.lst t)
  | scr _ =>
    cases e
    rw [rel_scr] at h
    obtain ⟨a, vs, rfl, t | t, _⟩ := h
    · obtain ⟨o, t, _⟩ := t
      exact .base (.frz t)
    · rcases t (fun _ => none) with (z | ⟨_, z⟩) | ⟨o, _, _, k, c, _⟩
      · cases z
      · cases z
      · exact .kList k c
  | ref i =>
    have e' : (match cellAt S i with | some (.lst _) => some "list" | _ => none) = some a := e
    split at e'
    · rename_i hz
      cases e'
      obtain ⟨a, rfl, _, vs, k, r⟩ := h.box rs hz
      exact .base (.lst k)
    · cases e'
  | ins _ _ => cases e
  | ty _ => cases e
  | ntp _ => cases e
  | exv _ _ _ => cases e
  | wtp _ => cases e
theorem len_rel (rs : RS g m S H) (h : Rel g m S.length H d v) {k : Nat} (e : lenR S d = some k) : LenV g.K v H k := by
  have seq : (seqOf S d).map (·.length) = some k → LenV g.K v H k := fun e => by
    obtain ⟨xs, hx, rfl⟩ := Option.map_eq_some_iff.mp e
    obtain ⟨a, vs, rfl, r, q⟩ := seqOf_sq rs h hx
    rcases q with q | q
    · exact .inl ⟨vs, q, r.length⟩
    · exact .inr ⟨vs, q, r.length⟩
  cases d with
  | str z => cases e; rw [rel_str] at h; obtain ⟨rfl, o⟩ := h; exact ⟨o.1, rfl⟩
  | non => exact seq e
  | bl _ => exact seq e
  | int _ => exact seq e
  | tup _ => exact seq e
  | lst _ => exact seq e
  | scr _ => exact seq e
  | ref _ => exact seq e
  | ins _ _ => exact seq e
  | ty _ => exact seq e
  | ntp _ => exact seq e
  | exv _ _ _ => exact seq e
  | wtp _ => exact seq e
theorem Rels.pairs : ∀ {ps : List (D × V)}, (∀ p ∈ ps, Rel g m n H p.1 p.2) → Rels g m n H (ps.map Prod.fst) (ps.map Prod.snd)
  | [], _ => Rels.nil
  | p :: ps, h => Rels.cons (h p (List.mem_cons_self ..)) (Rels.pairs fun q hq => h q (List.mem_cons_of_mem _ hq))
theorem Rels.zip : ∀ {xs : List D} {vs : List V}, Rels g m n H xs vs → ∀ p ∈ xs.zip vs, Rel g m n H p.1 p.2
  | [], _, _, p, hp => by cases hp
  | x :: xs, _, r, p, hp => by
    unfold Rels at r
    obtain ⟨w, ws, rfl, r1, r2⟩ := r
    rcases List.mem_cons.mp hp with rfl | hp
    · exact r1
    · exact Rels.zip r2 p hp
theorem map_fst_zip {α β : Type} : ∀ {xs : List α} {ys : List β}, xs.length = ys.length → (xs.zip ys).map Prod.fst = xs ∧ (xs.zip ys).map Prod.snd = ys
  | [], [], _ => ⟨rfl, rfl⟩
  | x :: xs, y :: ys, l => by
    obtain ⟨h1, h2⟩ := map_fst_zip (xs := xs) (ys := ys) (Nat.succ.inj l)
    exact ⟨by rw [List.zip_cons_cons, List.map_cons, h1], by rw [List.zip_cons_cons, List.map_cons, h2]⟩
  | [], _ :: _, l => by cases l
  | _ :: _, [], l => by cases l
theorem vals_each : ∀ {xs : List D} {vs : List V} {us : List Value}, xs.length = vs.length → Vals vs us → PySem.W.EachIs (fun (u : Value) (b : D × V) => RelV b.2 u) us (xs.zip vs)
  | [], [], _, _, r => by cases r; exact .nil
  | x :: xs, v :: vs, _, l, r => by
    cases r with
    | cons h t => exact .cons h (vals_each (Nat.succ.inj l) t)
  | [], _ :: _, _, l, _ => by cases l
  | _ :: _, [], _, l, _ => by cases l
theorem each_vals : ∀ {ps : List (D × V)} {us : List Value}, PySem.W.EachIs (fun (u : Value) (b : D × V) => RelV b.2 u) us ps → Vals (ps.map Prod.snd) us
  | [], _, .nil => .nil
  | p :: ps, _, .cons h t => .cons h (each_vals t)
theorem each_imp {α β : Type} {R R' : α → β → Prop} : ∀ {as : List α} {bs : List β}, PySem.W.EachIs R as bs → (∀ a b, b ∈ bs → R a b → R' a b) → PySem.W.EachIs R' as bs
  | _, _, .nil, _ => .nil
  | _, _, .cons h t, k => .cons (k _ _ (List.mem_cons_self ..) h) (each_imp t fun a b hb => k a b (List.mem_cons_of_mem _ hb))
theorem pys_map : ∀ xs : List D, D.pys xs = xs.map D.py
  | [] => rfl
  | x :: xs => by rw [D.pys, List.map_cons, pys_map xs]
theorem dps_mem : ∀ {xs : List D} {x : D}, x ∈ xs → x.dp ≤ D.dps xs
  | y :: ys, x, h => by
    rw [D.dps]
    rcases List.mem_cons.mp h with rfl | h
    · exact Nat.le_max_left _ _
    · exact Nat.le_trans (dps_mem h) (Nat.le_max_right _ _)
theorem fzs_mem : ∀ {xs : List D} {x : D}, D.fzs xs = true → x ∈ xs → x.fz = true
  | y :: ys, x, k, h => by
    simp only [D.fzs, Bool.and_eq_true] at k
    rcases List.mem_cons.mp h with rfl | h
    · exact k.1
    · exact fzs_mem k.2 h
/-- sorted of a list of data -/
def rSrtD (K : PySem.W.Frag) : List V → Hp → VK → Prop := fun zs H Q => ∃ (a : Addr) (vs : List V) (xs : List D), zs = [.ref a] ∧ SqL K H a vs ∧ xs.length = vs.length ∧ (∀ p ∈ xs.zip vs, Dp K H p.2 p.1.py) ∧ sortable (D.pys xs) ∧
  (∀ x ∈ xs, x.py.depth ≤ 60) ∧ ∀ p, H p = none → Q (.ref p) (upd H p (.lst (((xs.zip vs).mergeSort fun a b => leD a.1 b.1).map Prod.snd)))
theorem cr_srtD {k : Nat} (hr : Room k X.A) : CallR X (.builtin "sorted") (rSrtD X.K) := by
  intro pins s σ H zs us Q I r h
  obtain ⟨a, vs, xs, rfl, hs, hl, hd, so, dp, q⟩ := h
  obtain ⟨its, rv, hpl, hz⟩ := I.list hs
  rw [Vals.ref1 r]
  have e := vals_each hl rv
  have hmap : (xs.zip vs).map (fun b => b.1.py) = D.pys xs := by
    rw [pys_map]
    have := (map_fst_zip (xs := xs) (ys := vs) hl).1
    have h2 : (xs.zip vs).map (fun b => b.1.py) = ((xs.zip vs).map Prod.fst).map D.py := by rw [List.map_map]; rfl
    rw [h2, this]
  have un : X.A.units + 2 + 60 < cLine := by have := hr.un; omega
  refine PySem.W.sorted_data (bs := xs.zip vs) (enc := fun b => b.1.py) (R := fun u b => RelV b.2 u) hpl.isList e (each_imp e fun u b hb rb => ?_) (by rw [hmap]; exact so.1) (by rw [hmap]; exact so.2) (by rw [← e.length, ← rv.length]; exact hz) (fun b hb => ?_) fun out ho eo => ?_
  · exact Dp.reads I _ b.2 u (hd b hb) rb
  · have := dp b.1 (List.of_mem_zip hb).1
    omega
  · obtain ⟨ep, he'⟩ := PyProof.Rows.sortedAll_at s.heap its out.toArray
    have rv2 := each_vals eo
    have hlen : (((xs.zip vs).mergeSort fun a b => leD a.1 b.1).map Prod.snd).length ≤ sizeLine := by
      rw [List.length_map, List.length_mergeSort, List.length_zip, hl, Nat.min_self]
      exact hz
    exact ⟨.ref _, upd H (s.heap.objs.size + 1) (.lst (((xs.zip vs).mergeSort fun a b => leD a.1 b.1).map Prod.snd)), I.laid (t' := s.toks) (fun _ _ => PyProof.Rows.sortedAll_old) (Nat.le_succ _) ⟨hlen, out, ep, rv2, he'⟩, rfl, q _ (I.hok.fresh (Nat.le_succ _))⟩
theorem sort_fst : ∀ (ps : List (D × V)), (ps.mergeSort fun a b => leD a.1 b.1).map Prod.fst = sortD (ps.map Prod.fst) := fun ps => by
  unfold sortD
  exact List.map_mergeSort fun a _ b _ => rfl
def biOk : Bi → Bool
  | .sumS => false
  | .maxD => false
  | .sumLL => false
  | .str1 => false
  | .sortedR _ => false
  | .isc _ => false
  | _ => true
theorem cr_bi (hK : X.K = g.K) {k : Nat} (hr : Room k X.A) (hc : X.calm = true) (b : Bi) (ok : biOk b = true) : CallR X (biVal b) (rb g b) := by
  cases b with
  | len =>
    refine CallR.imp call_len fun zs H Q ⟨m, S, ds, W, rs, r, w⟩ => ?_
    replace w : WP g W (Rel g) m S.length H (biLen S ds) Q := w
    unfold biLen at w
    split at w
    · split at w
      · rename_i k hk
        obtain ⟨v, rfl, r1⟩ := r.one
        exact ⟨v, k, rfl, by rw [hK]; exact len_rel rs r1 hk, w.now rs (by rw [rel_int])⟩
      · exact w.err
    · exact w.err
  | abs =>
    refine CallR.imp call_abs fun zs H Q ⟨m, S, ds, W, rs, r, w⟩ => ?_
    replace w : WP g W (Rel g) m S.length H (biAbs S ds) Q := w
    unfold biAbs at w
    split at w
    · obtain ⟨v, rfl, r1⟩ := r.one
      rw [rel_int] at r1
      exact ⟨_, by rw [r1], w.now rs (by rw [rel_int])⟩
    · exact w.err
  | min2 =>
    refine CallR.imp (CallR.or (call_min2 hc) (call_minT hc)) fun zs H Q ⟨m, S, ds, W, rs, r, w⟩ => ?_
    replace w : WP g W (Rel g) m S.length H (biMin2 S ds) Q := w
    unfold biMin2 at w
    split at w
    · obtain ⟨v, u, rfl, r1, r2⟩ := r.two
      rw [rel_int] at r1 r2
      exact .inl ⟨_, _, by rw [r1, r2], w.now rs (by rw [rel_int])⟩
    · rename_i a b
      obtain ⟨v, u, rfl, r1, r2⟩ := r.two
      rw [rel_str] at r1 r2
      refine .inr ⟨a, b, by rw [r1.1, r2.1], w.now rs ?_⟩
      rw [rel_str]
      refine ⟨rfl, ?_⟩
      cases lessT b a
      · exact r1.2
      · exact r2.2
    · exact w.err
  | max2 =>
    refine CallR.imp (CallR.or (call_max2 hc) (call_maxT hc)) fun zs H Q ⟨m, S, ds, W, rs, r, w⟩ => ?_
    replace w : WP g W (Rel g) m S.length H (biMax2 S ds) Q := w
    unfold biMax2 at w
    split at w
    · obtain ⟨v, u, rfl, r1, r2⟩ := r.two
      rw [rel_int] at r1 r2
      exact .inl ⟨_, _, by rw [r1, r2], w.now rs (by rw [rel_int])⟩
    · rename_i a b
      obtain ⟨v, u, rfl, r1, r2⟩ := r.two
      rw [rel_str] at r1 r2
      refine .inr ⟨a, b, by rw [r1.1, r2.1], w.now rs ?_⟩
      rw [rel_str]
      refine ⟨rfl, ?_⟩
      cases lessT a b
      · exact r1.2
      · exact r2.2
    · exact w.err
  | minL =>
    refine CallR.imp (cr_min hc) fun zs H Q ⟨m, S, ds, W, rs, r, w⟩ => ?_
    replace w : WP g W (Rel g) m S.length H (biMinL S ds) Q := w
    unfold biMinL at w
    split at w
    · split at w
      · rename_i i hi
        obtain ⟨ns, h1, h2⟩ := Option.bind_eq_some_iff.mp hi
        obtain ⟨v, rfl, r1⟩ := r.one
        obtain ⟨a, rfl, q⟩ := ints_sq rs r1 h1
        obtain ⟨m1, m2⟩ := min_spec h2
        refine ⟨a, ns, rfl, by rw [hK]; exact q, List.length_pos_of_mem m1, fun j j1 j2 => w.now rs ?_⟩
        rw [rel_int, Int.le_antisymm (j2 _ m1) (m2 _ j1)]
      · exact w.err
    · exact w.err
  | maxL =>
    refine CallR.imp (cr_max hc) fun zs H Q ⟨m, S, ds, W, rs, r, w⟩ => ?_
    replace w : WP g W (Rel g) m S.length H (biMaxL S ds) Q := w
    unfold biMaxL at w
    split at w
    · split at w
      · rename_i i hi
        obtain ⟨ns, h1, h2⟩ := Option.bind_eq_some_iff.mp hi
        obtain ⟨v, rfl, r1⟩ := r.one
        obtain ⟨a, rfl, q⟩ := ints_sq rs r1 h1
        obtain ⟨m1, m2⟩ := max_spec h2
        refine ⟨a, ns, rfl, by rw [hK]; exact q, List.length_pos_of_mem m1, fun j j1 j2 => w.now rs ?_⟩
        rw [rel_int, Int.le_antisymm (m2 _ j1) (j2 _ m1)]
      · exact w.err
    · exact w.err
  | sumL =>
    refine CallR.imp (cr_sum hc) fun zs H Q ⟨m, S, ds, W, rs, r, w⟩ => ?_
    replace w : WP g W (Rel g) m S.length H (biSumL S ds) Q := w
    unfold biSumL at w
    split at w
    · split at w
      · rename_i ns hi
        obtain ⟨v, rfl, r1⟩ := r.one
        obtain ⟨a, rfl, q⟩ := ints_sq rs r1 hi
        exact ⟨a, ns, rfl, by rw [hK]; exact q, w.now rs (by rw [rel_int])⟩
      · exact w.err
    · exact w.err
  | sumS => cases ok
  | all =>
    refine CallR.imp (cr_all hc) fun zs H Q ⟨m, S, ds, W, rs, r, w⟩ => ?_
    replace w : WP g W (Rel g) m S.length H (biAll S ds) Q := w
    unfold biAll at w
    split at w
    · split at w
      · rename_i ns hi
        obtain ⟨v, rfl, r1⟩ := r.one
        obtain ⟨a, rfl, q⟩ := bls_sq rs r1 hi
        exact ⟨a, ns, rfl, by rw [hK]; exact q, w.now rs (by rw [rel_bl])⟩
      · exact w.err
    · exact w.err
  | any =>
    refine CallR.imp (cr_any hc) fun zs H Q ⟨m, S, ds, W, rs, r, w⟩ => ?_
    replace w : WP g W (Rel g) m S.length H (biAny S ds) Q := w
    unfold biAny at w
    split at w
    · split at w
      · rename_i ns hi
        obtain ⟨v, rfl, r1⟩ := r.one
        obtain ⟨a, rfl, q⟩ := bls_sq rs r1 hi
        exact ⟨a, ns, rfl, by rw [hK]; exact q, w.now rs (by rw [rel_bl])⟩
      · exact w.err
    · exact w.err
  | int1 =>
    refine CallR.imp call_int1 fun zs H Q ⟨m, S, ds, W, rs, r, w⟩ => ?_
    replace w : WP g W (Rel g) m S.length H (biInt S ds) Q := w
    unfold biInt at w
    split at w
    · obtain ⟨v, rfl, r1⟩ := r.one
      rw [rel_int] at r1
      exact .inl ⟨_, by rw [r1], w.now rs (by rw [rel_int])⟩
    · obtain ⟨v, rfl, r1⟩ := r.one
      rw [rel_bl] at r1
      exact .inr ⟨_, by rw [r1], w.now rs (by rw [rel_int])⟩
    · exact w.err
  | list1 box =>
    refine CallR.imp call_list_of fun zs H Q ⟨m, S, ds, W, rs, r, w⟩ => ?_
    replace w : WP g W (Rel g) m S.length H (biList box S ds) Q := w
    unfold biList at w
    split at w
    · split at w
      · rename_i xs hx
        obtain ⟨v, rfl, r1⟩ := r.one
        obtain ⟨a, vs, rfl, r2, q⟩ := seqOf_sq rs r1 hx
        exact ⟨a, vs, rfl, by rw [hK]; exact q, fun p hp => mkL_ok rs r2 w hp⟩
      · exact w.err
    · exact w.err
  | tuple1 =>
    refine CallR.imp call_tupleN fun zs H Q ⟨m, S, ds, W, rs, r, w⟩ => ?_
    replace w : WP g W (Rel g) m S.length H (biTuple S ds) Q := w
    unfold biTuple at w
    split at w
    · split at w
      · rename_i xs hx
        obtain ⟨v, rfl, r1⟩ := r.one
        obtain ⟨a, vs, rfl, r2, q⟩ := seqOf_rel rs r1 hx
        refine ⟨a, vs, rfl, ?_⟩
        rcases q with ⟨q, _⟩ | ⟨q, rfl⟩
        · exact .inl ⟨by rw [hK]; exact q, mkT_ok rs r2 w⟩
        · exact .inr ⟨by rw [hK]; exact q.sq, w.now rs r1⟩
      · exact w.err
    · exact w.err
  | sorted1 box =>
    refine CallR.imp (cr_srtD hr) fun zs H Q ⟨m, S, ds, W, rs, r, w⟩ => ?_
    replace w : WP g W (Rel g) m S.length H (biSorted box S ds) Q := w
    unfold biSorted at w
    split at w
    · split at w
      · rename_i xs hx
        obtain ⟨v, rfl, r1⟩ := r.one
        obtain ⟨a, vs, rfl, r2, q⟩ := lst_sq rs r1 hx
        obtain ⟨⟨c1, c2, c3⟩, w⟩ := w.ck
        have r3 : ∀ p ∈ xs.zip vs, Rel g m S.length H p.1 p.2 := r2.zip
        refine ⟨a, vs, xs, rfl, by rw [hK]; exact q, r2.length, fun p hp => ?_, c3, fun x hx => ?_, fun p hp => ?_⟩
        · rw [hK]
          exact (py_lay p.1 p.2 (fzs_mem c1 (List.of_mem_zip hp).1) (r3 p hp)).2
        · rw [py_depth x (fzs_mem c1 hx)]
          exact Nat.le_trans (dps_mem hx) c2
        · refine mkL_ok (box := box) rs ?_ w hp
          have e : sortD xs = ((xs.zip vs).mergeSort fun a b => leD a.1 b.1).map Prod.fst := by
            rw [sort_fst, (map_fst_zip r2.length).1]
          rw [e]
          exact Rels.pairs fun p hp => r3 p ((List.mergeSort_perm _ _).mem_iff.mp hp)
      · exact w.err
    · exact w.err
  | isi =>
    refine CallR.imp call_isi fun zs H Q ⟨m, S, ds, W, rs, r, w⟩ => ?_
    replace w : WP g W (Rel g) m S.length H (biIsi S ds) Q := w
    unfold biIsi at w
    split at w
    · split at w
      · rename_i b hb
        obtain ⟨v, u, rfl, r1, r2⟩ := r.two
        rw [rel_ty] at r2
        subst r2
        obtain ⟨a, h1, h2⟩ := Option.bind_eq_some_iff.mp hb
        exact ⟨v, _, _, _, b, rfl, .ty _, by rw [hK]; exact ty_rel rs r1 h1, kit_ty h2, w.now rs (by rw [rel_bl])⟩
      · exact w.err
    · exact w.err
  | isc c => cases ok
  | maxD => cases ok
  | sumLL => cases ok
  | str1 => cases ok
  | sortedR _ => cases ok
  | strp =>
    refine CallR.imp (call_str_int.or callStrStr) fun zs H Q ⟨m, S, ds, W, rs, r, w⟩ => ?_
    replace w : WP g W (Rel g) m S.length H (biStrp S ds) Q := w
    unfold biStrp at w
    split at w
    · obtain ⟨v, rfl, r1⟩ := r.one
      rw [rel_int] at r1
      obtain ⟨c, w⟩ := w.ck
      unfold biStrA at w
      obtain ⟨c2, w⟩ := w.ck
      exact .inl ⟨_, by rw [r1], c, w.now rs (by rw [rel_str]; exact ⟨rfl, c2⟩)⟩
    · obtain ⟨v, rfl, r1⟩ := r.one
      rw [rel_str] at r1
      exact .inr ⟨_, by rw [r1.1], w.now rs (by rw [rel_str]; exact ⟨rfl, r1.2⟩)⟩
    · exact w.err
  | intS =>
    refine CallR.imp call_int_str fun zs H Q ⟨m, S, ds, W, rs, r, w⟩ => ?_
    replace w : WP g W (Rel g) m S.length H (biIntS S ds) Q := w
    unfold biIntS at w
    split at w
    · split at w
      · rename_i n hn
        obtain ⟨c, w⟩ := w.ck
        obtain ⟨v, rfl, r1⟩ := r.one
        rw [rel_str] at r1
        exact ⟨_, n, by rw [r1.1], hn, c, w.now rs (by rw [rel_int])⟩
      · exact w.err
    · exact w.err
end
end Iv

/-! ### calls -/
namespace Iv
open PySem PySem.Spec PyProof.Rows L2
def okEs (es : List Expr) : Bool := es.all okE
theorem star_all : ∀ {es : List Expr} {env : PySem.Env} {pos : Pos}, okEs es = true → (backTo pos (starEach es env)).all (fun x => !x.1) = true ∧ (backTo pos (starEach es env)).any (·.1) = false
  | [], _, _, _ => ⟨rfl, rfl⟩
  | e :: es, env, pos, h => by
    unfold okEs at h
    rw [List.all_cons, Bool.and_eq_true] at h
    obtain ⟨h1, h2⟩ := star_all (env := env) (pos := pos) h.2
    rw [starEach_ok h.1]
    exact ⟨by show (!false && (backTo pos (starEach es env)).all (fun x => !x.1)) = true; rw [h1]; rfl, by show (false || (backTo pos (starEach es env)).any (·.1)) = false; rw [h2]; rfl⟩
def kwsNames : List Keyword → Option (List Str)
  | [] => some []
  | k :: ks => match k.arg with
    | some x => (kwsNames ks).map (x :: ·)
    | none => none
theorem kws_all : ∀ {kws : List Keyword} {ks : List Str} {env : PySem.Env} {pos : Pos}, kwsNames kws = some ks → (backToKw pos (keywordEach kws env)).all (·.1.isSome) = true ∧ (backToKw pos (keywordEach kws env)).filterMap (·.1) = ks ∧ (backToKw pos (keywordEach kws env)).any (·.1.isNone) = false
  | [], _, _, _, h => by cases h; exact ⟨rfl, rfl, rfl⟩
  | ⟨a, v, p⟩ :: kws, ks, env, pos, h => by
    cases a with
    | none => cases h
    | some x =>
      obtain ⟨ks', h1, rfl⟩ := Option.map_eq_some_iff.mp (show (kwsNames kws).map (x :: ·) = some ks from h)
      obtain ⟨a1, a2, a3⟩ := kws_all (env := env) (pos := pos) h1
      refine ⟨?_, ?_, ?_⟩
      · show (true && (backToKw pos (keywordEach kws env)).all (·.1.isSome)) = true
        rw [a1]
        rfl
      · show x :: (backToKw pos (keywordEach kws env)).filterMap (·.1) = x :: ks'
        rw [a2]
      · show (false || (backToKw pos (keywordEach kws env)).any (·.1.isNone)) = false
        rw [a3]
        rfl
section
variable {g : Gs} {W : L2.WX} {X : Cx} {F : CE} {e o : Expr} {es : List Expr} {ie io : E} {ies iks : List E} {kws : List Keyword} {ks : List Str} {p pos apos : Pos} {x name : Str} {m : Mp} {n : Nat} {H : Hp} {S : Sto} {σ : L2.St}
theorem k_nil : PK X [] (tEs g W (evs F [])) := by
  refine ⟨fun pos pins s σ H Q I ⟨m, ρ, S, rs, er, w⟩ => pk_nil.run pos pins s σ H Q I ?_⟩
  rw [evs] at w
  exact w.now rs Rels.nil
theorem k_cons {nm : Option Str} {kp : Pos} (ha : PE X e (tE g W (ev F ie))) (hr : PK X kws (tEs g W (evs F iks))) : PK X (⟨nm, e, kp⟩ :: kws) (tEs g W (evs F (ie :: iks))) := by
  refine ⟨fun pos pins s σ H Q I ⟨m, ρ, S, rs, er, w⟩ => (pk_cons ha hr).run pos pins s σ H Q I ?_⟩
  rw [evs] at w
  refine TI.step rs er w fun x H1 m1 S1 d x1 rs1 er1 r1 w => ?_
  refine TI.step (Ra := Rels g) rs1 er1 w fun ys H2 m2 S2 ds x2 rs2 er2 r2 w => ?_
  exact w.now rs2 (Rels.cons (Rel.mono x2 _ _ r1) r2)
theorem evs_append {ρ : Env} : ∀ {as bs : List E} {S : Sto}, evs F (as ++ bs) ρ S = (evs F as ρ S).bind fun xs S => (evs F bs ρ S).bind fun ys S => .ok (xs ++ ys) S
  | [], bs, S => by
    rw [List.nil_append, evs]
    simp only [R.bind_ok, List.nil_append]
    cases evs F bs ρ S <;> rfl
  | a :: as, bs, S => by
    rw [List.cons_append, evs, evs]
    cases ev F a ρ S with
    | ok x S1 =>
      simp only [R.bind_ok]
      rw [evs_append (as := as), R.bind_bind, R.bind_bind]
      cases evs F as ρ S1 with
      | ok xs S2 =>
        simp only [R.bind_ok]
        rw [R.bind_bind]
        cases evs F bs ρ S2 <;> rfl
      | _ => rfl
    | _ => rfl
theorem evs_length {ρ : Env} : ∀ {as : List E} {S : Sto} {ds : List D} {S' : Sto}, evs F as ρ S = .ok ds S' → ds.length = as.length
  | [], S, ds, S', h => by rw [evs] at h; cases h; rfl
  | a :: as, S, ds, S', h => by
    rw [evs] at h
    cases h1 : ev F a ρ S with
    | ok x S1 =>
      rw [h1] at h
      simp only [R.bind_ok] at h
      cases h2 : evs F as ρ S1 with
      | ok xs S2 =>
        rw [h2] at h
        simp only [R.bind_ok] at h
        cases h
        rw [List.length_cons, List.length_cons, evs_length h2]
      | exc _ _ => rw [h2] at h; cases h
      | err => rw [h2] at h; cases h
    | exc _ _ => rw [h1] at h; cases h
    | err => rw [h1] at h; cases h
/-! built-in functions -/
def biName : Bi → Str
  | .len => "len"
  | .abs => "abs"
  | .min2 => "min"
  | .max2 => "max"
  | .minL => "min"
  | .maxL => "max"
  | .sumL => "sum"
  | .sumS => "sum"
  | .all => "all"
  | .any => "any"
  | .int1 => "int"
  | .list1 _ => "list"
  | .tuple1 => "tuple"
  | .sorted1 _ => "sorted"
  | .isi => "isinstance"
  | .isc _ => "isinstance"
  | .maxD => "max"
  | .sumLL => "sum"
  | .str1 => "str"
  | .sortedR _ => "sorted"
  | .strp => "str"
  | .intS => "int"
theorem bi_boot (b : Bi) : bootBuiltins (biName b) = some (biVal b) := by
  cases b with
  | list1 _ => exact (by decide +kernel : bootBuiltins "list" = some (.type "list"))
  | sortedR _ => exact (by decide +kernel : bootBuiltins "sorted" = some (.builtin "sorted"))
  | sorted1 _ => exact (by decide +kernel : bootBuiltins "sorted" = some (.builtin "sorted"))
  | isc _ => exact (by decide +kernel : bootBuiltins "isinstance" = some (.builtin "isinstance"))
  | _ => decide +kernel
theorem bi_names (b : Bi) : biName b ≠ "__name__" ∧ (biName b == ("__debug__" : Str)) = false := by
  cases b with
  | list1 _ => exact (by decide +kernel : ("list" : Str) ≠ "__name__" ∧ (("list" : Str) == ("__debug__" : Str)) = false)
  | sortedR _ => exact (by decide +kernel : ("sorted" : Str) ≠ "__name__" ∧ (("sorted" : Str) == ("__debug__" : Str)) = false)
  | sorted1 _ => exact (by decide +kernel : ("sorted" : Str) ≠ "__name__" ∧ (("sorted" : Str) == ("__debug__" : Str)) = false)
  | isc _ => exact (by decide +kernel : ("isinstance" : Str) ≠ "__name__" ∧ (("isinstance" : Str) == ("__debug__" : Str)) = false)
  | _ => decide +kernel
theorem i_bi (hK : X.K = g.K) {k : Nat} (hr : Room k X.A) (hc : X.calm = true) (b : Bi) (ok : biOk b = true) (hg : Gl X (biName b)) (hm : X.mg (biName b) = none) (oks : okEs (e :: es) = true) (ha : PA X (e :: es) (tEs g W (evs F ies))) :
    PE X (.Call (.Name (biName b) p) (e :: es) [] pos) (tE g W (ev F (.bi b ies))) := by
  have oke : okE e = true ∧ okEs es = true := by unfold okEs at oks ⊢; rwa [List.all_cons, Bool.and_eq_true] at oks
  have key : ∀ σ H Q, tE g W (ev F (.bi b ies)) σ H Q → tCB (rb g b) (tEs g W (evs F ies)) σ H Q := fun σ H Q ⟨m, ρ, S, rs, er, w⟩ => by
    rw [ev] at w
    refine TI.step (Ra := Rels g) rs er w fun zs H1 m1 S1 ds x1 rs1 er1 r1 w => ?_
    exact ⟨m1, S1, ds, _, rs1, r1, w⟩
  have cr := cr_bi hK hr hc b ok
  have bo := bi_boot b
  obtain ⟨n1, n2⟩ := bi_names b
  refine PE.imp ?_ key
  have fin : (∃ id, biVal b = .builtin id) ∨ ∃ T, biVal b = .type T := by cases b <;> first | exact .inl ⟨_, rfl⟩ | exact .inr ⟨_, rfl⟩
  rcases fin with ⟨id, h⟩ | ⟨T, h⟩
  · rw [h] at cr bo
    exact pe_callB cr hg hm bo ha n1 n2 (starEach_ok oke.1) (star_all oke.2).2
  · rw [h] at cr bo
    exact pe_callTy cr hg hm bo ha n1 n2 (starEach_ok oke.1) (star_all oke.2).2
/-! methods of built-in classes -/
def rm (g : Gs) (mt : Bm) : V → List V → Hp → VK → Prop := fun v xs H Q => ∃ m S d ds W, RS g m S H ∧ Rel g m S.length H d v ∧ Rels g m S.length H ds xs ∧ WP g W (Rel g) m S.length H (bmR mt d ds S) Q
def bmTy : Bm → String
  | .append => "list"
  | .insert => "list"
  | .index => "list"
  | .count => "list"
  | .join => "str"
  | .sindex => "str"
  | .upper => "str"
  | .clear => "list"
  | .remove => "list"
  | .pop1 => "list"
  | .split => "str"
  | .part => "str"
theorem box_set {c : Cell} {a : Addr} {o' : HO} {i : Nat} {W : Value → Option Addr → Hp → Prop} {Q : VK} (rs : RS g m S H) (k : m i = some a) (w : WP g W (Rel g) m S.length H (.ok .non (setAt S i c)) Q) (hc : CellR g m S.length (upd H a o') a c) (nf : NoFz (H a) := by first | exact NoFz.of (u := .lst _) (by assumption) (fun _ _ z => nomatch z) | exact NoFz.of (u := .ins _ _ _) (by assumption) (fun _ _ z => nomatch z) | exact NoFz.of (u := .dK _) (by assumption) (fun _ _ z => nomatch z)) : Q .non (upd H a o') := by
  have l : (setAt S i c).length = S.length := by unfold setAt; rw [List.length_set]
  refine w m _ .non (by rw [l]; exact Ext.set rs k nf) (rs.set k hc) ?_
  rw [rel_non]
theorem mt_append' : MtR X "list.append" (rm g .append) := by
  refine MtR.imp mt_append fun v xs H Q ⟨m, S, d, ds, W, rs, r, rx, w⟩ => ?_
  replace w : WP g W (Rel g) m S.length H (bmAppend S d ds) Q := w
  unfold bmAppend at w
  split at w
  · split at w
    · split at w
      · rename_i hz
        obtain ⟨c, w⟩ := w.ck
        obtain ⟨y, rfl, ry⟩ := rx.one
        obtain ⟨a, rfl, k, vs, hv, rv⟩ := r.box rs hz
        refine ⟨a, vs, y, rfl, rfl, hv, by rw [← rv.length]; exact c, box_set rs k w ?_⟩
        have x := Ext.set (n := S.length) (o := .lst (vs ++ [y])) rs k
        exact ⟨_, upd_same, Rels.mono x _ _ (rv.append (Rels.cons ry Rels.nil))⟩
      · exact w.err
    · exact w.err
  · exact w.err
theorem okS.list {l : List Nat} (h1 : l.length ≤ sizeLine) (h2 : ∀ c ∈ l, c < 1114112) : okS ⟨l.toArray⟩ := ⟨by show l.toArray.size ≤ _; rw [List.size_toArray]; exact h1, h2⟩
theorem bm_head {mt : Bm} {d : D} {v : V} (hK : X.K = g.K) (rs : RS g m S H) (r : Rel g m S.length H d v) (h : bmOk mt d S = true) : tyV X.K (bmTy mt) v H := by
  cases mt with
  | append =>
    cases d with
    | ref i =>
      have h' : (match cellAt S i with | some (.lst _) => true | _ => false) = true := h
      split at h'
      · rename_i hz
        obtain ⟨a, rfl, k, vs, hv, rv⟩ := r.box rs hz
        exact .inl ⟨rfl, vs, SqL.of hv⟩
      · cases h'
    | _ => cases h
  | insert =>
    cases d with
    | ref i =>
      have h' : (match cellAt S i with | some (.lst _) => true | _ => false) = true := h
      split at h'
      · rename_i hz
        obtain ⟨a, rfl, k, vs, hv, rv⟩ := r.box rs hz
        exact .inl ⟨rfl, vs, SqL.of hv⟩
      · cases h'
    | _ => cases h
  | remove =>
    cases d with
    | ref i =>
      have h' : (match cellAt S i with | some (.lst _) => true | _ => false) = true := h
      split at h'
      · rename_i hz
        obtain ⟨a, rfl, k, vs, hv, rv⟩ := r.box rs hz
        exact .inl ⟨rfl, vs, SqL.of hv⟩
      · cases h'
    | _ => cases h
  | pop1 =>
    cases d with
    | ref i =>
      have h' : (match cellAt S i with | some (.lst _) => true | _ => false) = true := h
      split at h'
      · rename_i hz
        obtain ⟨a, rfl, k, vs, hv, rv⟩ := r.box rs hz
        exact .inl ⟨rfl, vs, SqL.of hv⟩
      · cases h'
    | _ => cases h
  | index =>
    have h' : (lstOf S d).isSome = true := h
    obtain ⟨xs, hx⟩ := Option.isSome_iff_exists.mp h'
    obtain ⟨a, vs, rfl, rv, q⟩ := lst_sq rs r hx
    rw [hK]
    exact .inl ⟨rfl, vs, q⟩
  | count =>
    have h' : (lstOf S d).isSome = true := h
    obtain ⟨xs, hx⟩ := Option.isSome_iff_exists.mp h'
    obtain ⟨a, vs, rfl, rv, q⟩ := lst_sq rs r hx
    rw [hK]
    exact .inl ⟨rfl, vs, q⟩
  | clear =>
    cases d with
    | ref i =>
      have h' : (match cellAt S i with | some (.lst _) => true | _ => false) = true := h
      split at h'
      · rename_i hz
        obtain ⟨a, rfl, k, vs, hv, rv⟩ := r.box rs hz
        exact .inl ⟨rfl, vs, SqL.of hv⟩
      · cases h'
    | _ => cases h
  | join =>
    cases d with
    | str z => rw [rel_str] at r; obtain ⟨rfl, _⟩ := r; rfl
    | _ => cases h
  | sindex =>
    cases d with
    | str z => rw [rel_str] at r; obtain ⟨rfl, _⟩ := r; rfl
    | _ => cases h
  | split =>
    cases d with
    | str z => rw [rel_str] at r; obtain ⟨rfl, _⟩ := r; rfl
    | _ => cases h
  | part =>
    cases d with
    | str z => rw [rel_str] at r; obtain ⟨rfl, _⟩ := r; rfl
    | _ => cases h
  | _ => cases d <;> cases h
theorem i_bm {mt : Bm} (hK : X.K = g.K) {id : String} (pa : PlainAttrs (bmTy mt)) (slot : Slot (bmTy mt) name id) (hty : typeOf (.builtin id) = pure (.type "method_descriptor")) (hm : MtR X id (rm g mt)) (oko : okE o = true) (oks : okEs (e :: es) = true)
    (hl : (apos.endLine == pos.line) = true) (hn : (e :: es).length < 28) (ho : PE X o (tE g W (ev F io))) (ha : PA X (e :: es) (tEs g W (evs F ies))) : PE X (.Call (.Attribute o name apos) (e :: es) [] pos) (tE g W (ev F (.bm mt io ies))) := by
  have oke : okE e = true ∧ okEs es = true := by unfold okEs at oks ⊢; rwa [List.all_cons, Bool.and_eq_true] at oks
  refine PE.imp (pe_bm pa slot hty hm ho ha (attrBase_ok oko) ?_ hl (starEach_ok oke.1) (star_all oke.2).2) fun σ H Q ⟨m, ρ, S, rs, er, w⟩ => ?_
  · rw [(star_all oks).1]
    show (true && true && decide ((e :: es).length + 0 + 0 < 30)) = true
    rw [Bool.true_and, Bool.true_and]
    exact decide_eq_true (by omega)
  · rw [ev] at w
    refine TI.step rs er w fun v H1 m1 S1 d x1 rs1 er1 r1 w => ?_
    obtain ⟨c, w⟩ := w.ck
    refine ⟨bm_head hK rs1 r1 c, ?_⟩
    refine TI.step (Ra := Rels g) rs1 er1 w fun zs H2 m2 S2 ds x2 rs2 er2 r2 w => ?_
    exact ⟨m2, S2, d, ds, _, rs2, Rel.mono x2 _ _ r1, r2, w⟩
/-! freezing -/
theorem RelFs.lookup (hi : ∀ f, f ∈ (fs : List (Nat × D)).map (·.1) → g.fok f) : ∀ {fs' : List (Nat × D)} {gs : List (Str × V)} {f : Nat} {d : D}, (∀ f, f ∈ fs'.map (·.1) → g.fok f) → g.fok f → RelFs g m n H fs' gs → fs'.lookup f = some d → ∃ v, gs.lookup (g.fn f) = some v ∧ Rel g m n H d v
  | [], _, _, _, _, _, _, h => by cases h
  | (f', d') :: r, gs, f, d, ho, hf, rr, h => by
    unfold RelFs at rr
    obtain ⟨v, gr, rfl, r1, r2⟩ := rr
    rw [List.lookup_cons] at h
    rw [List.lookup_cons]
    by_cases hff : f = f'
    · subst hff
      rw [show (f == f) = true from beq_self_eq_true f] at h
      cases h
      rw [show (g.fn f == g.fn f) = true from beq_self_eq_true _]
      exact ⟨v, rfl, r1⟩
    · rw [show (f == f') = false from beq_eq_false_iff_ne.mpr hff] at h
      have hne : g.fn f ≠ g.fn f' := fun z => hff (g.finj _ _ hf (ho f' (List.mem_cons_self ..)) z)
      rw [show (g.fn f == g.fn f') = false from beq_eq_false_iff_ne.mpr hne]
      exact RelFs.lookup hi (fun f h => ho f (List.mem_cons_of_mem _ h)) hf r2 h
/-! attributes -/
/-! own functions -/
def spF (g : Gs) (F : CE) (f np : Nat) : Sp := fun vs H Q E => vs.length = np ∧ ∃ m S ds, RS g m S H ∧ Rels g m S.length H ds vs ∧ WP g E (Rel g) m S.length H (F f ds S) Q
/-- how a call's values come to the parameters -/
structure Sig (g : Gs) (fd : FuncData) (ps : List Str) (n : Nat) (ks : List Str) (arr : List Ar) : Prop where
  ex : ∃ (gg : List Value → List Value → List Value) (gV : List V → List V → List V), KBn g.K fd ps n ks gg gV ∧ ∀ m N H ds vs zs ps', Rels g m N H ds (vs ++ zs) → vs.length = n → zs.length = ks.length → pick ds arr = some ps' → Rels g m N H ps' (gV vs zs) ∧ (gV vs zs).length = ps.length
theorem run_own {pins : List (Addr × Obj)} {s : Shared} {Q : VK} {us ws : List Value} {vs zs : List V} {k : Nat} {fa : Addr} {fd : FuncData} {ps : List Str} {sp : Sp} {gg : List Value → List Value → List Value} {gV : List V → List V → List V}
    (FO : FnOk X.prog X.w X.K X.mg X.base (L2.CX X.prog X.w) k fa fd ps sp) (hr : Room k X.A) (hb : KBn X.K fd ps n ks gg gV) (tk : Takes X W)
    (I : L2.Inv X pins σ H s) (r : Vals vs us) (rz : Vals zs ws) (l1 : vs.length = n) (l2 : zs.length = ks.length) (h : sp (gV vs zs) H Q (WE W σ)) : wpAny (model X.prog X.w) X.A (call (.ref fa) us (ks.zip ws)) (EP X pins σ Q) X.xe s := by
  have r2 := hb.rel r rz
  refine wpAny_call (codeAny_mono (FO.run X.A X.stack s H ⟨us, ks.zip ws⟩ (gg us ws) (gV vs zs) Q (WE W σ) hr I.env0 (hb.to s us ws I.kIn (r.length.symm.trans l1) (rz.length.symm.trans l2)) r2 h) fun r s' hq => ?_)
  cases r with
  | error e => exact passAt tk σ pins H s e s' I hq
  | ok fl =>
    cases fl with
    | ret u => exact I.after hq
    | next => exact False.elim hq
    | brk => exact False.elim hq
    | cont => exact False.elim hq
theorem own_args {fv : Value} {first : List Value} {K2 : List D → Sto → R D} {pins : List (Addr × Obj)} {s : Shared} {Q : VK} {ρ : Env} (hkp : PySem.W.keepIn X.K fv = true) (oks : okEs es = true) (hks : kwsNames kws = some ks) (hkl : iks.length = ks.length) (hel : es.length = ies.length)
    (ha : PA X es (tEs g W (evs F ies))) (hkw : PK X kws (tEs g W (evs F iks))) (I : L2.Inv X pins σ H s) (rs : RS g m S H) (er : EnvR g m S.length H ρ σ) (w : WP g (fun c d H' => W c d σ H') (Rel g) m S.length H ((evs F (ies ++ iks) ρ S).bind K2) Q)
    (fin : ∀ {s2 : Shared} {H2 : Hp} {m2 : Mp} {S2 : Sto} {as bs : List D} {vs zs : List V} {us ws : List Value}, L2.Inv X pins σ H2 s2 → Vals vs us → Vals zs ws → vs.length = ies.length → zs.length = ks.length → Ext m S.length H m2 S2.length H2 → RS g m2 S2 H2 → EnvR g m2 S2.length H2 ρ σ →
      Rels g m2 S2.length H2 (as ++ bs) (vs ++ zs) → WP g (fun c d H' => W c d σ H') (Rel g) m2 S2.length H2 (K2 (as ++ bs) S2) Q →
      wpAny (model X.prog X.w) X.A (call fv (first ++ us) (ks.zip ws)) (EP X pins σ Q) X.xe s2) :
    wpAny (model X.prog X.w) X.A (callWith pos fv first (backTo pos (starEach es X.env)) (backToKw pos (keywordEach kws X.env))) (EP X pins σ Q) X.xe s := by
  rw [evs_append, R.bind_bind] at w
  obtain ⟨k1, k2, k3⟩ := kws_all (env := X.env) (pos := pos) hks
  cases es with
  | nil =>
    refine PySem.W.callWith_KW0 (h₀ := X.base) I.ok.mod.kin hkp k1 ?_ (by rw [k3]; rfl)
    have e0 : ies = [] := List.length_eq_zero_iff.mp hel.symm
    subst e0
    rw [evs] at w
    simp only [R.bind_ok] at w
    rw [R.bind_bind] at w
    refine thn (hkw.run pos pins s σ H (fun zs H2 => ∃ m2 S2 bs, bs.length = iks.length ∧ Ext m S.length H m2 S2.length H2 ∧ RS g m2 S2 H2 ∧ EnvR g m2 S2.length H2 ρ σ ∧ Rels g m2 S2.length H2 bs zs ∧ WP g (fun c d H' => W c d σ H') (Rel g) m2 S2.length H2 (K2 ([] ++ bs) S2) Q) I ?_) fun ws s2 ⟨zs, H2, I2, rz, m2, S2, bs, lb, x2, rs2, er2, rb, w2⟩ => ⟨I2.kIn, ?_⟩
    · exact TI.stepE (Ra := Rels g) rs er w fun zs H2 m2 S2 bs e x2 rs2 er2 r2 w => ⟨m2, S2, bs, evs_length e, x2, rs2, er2, r2, w⟩
    · rw [k2]
      exact fin (us := []) (vs := []) (as := []) I2 .nil rz rfl ((rb.length.symm.trans lb).trans hkl) x2 rs2 er2 rb w2
  | cons e es =>
    have oke : okE e = true ∧ okEs es = true := by unfold okEs at oks ⊢; rwa [List.all_cons, Bool.and_eq_true] at oks
    refine PySem.W.callWith_KW (h₀ := X.base) I.ok.mod.kin hkp k1 ?_ (by rw [(star_all oks).2, k3]; rfl) (starEach_ok oke.1)
    refine thn (ha.run pos pins s σ H (fun vs H1 => ∃ m1 S1 as, as.length = ies.length ∧ Ext m S.length H m1 S1.length H1 ∧ RS g m1 S1 H1 ∧ EnvR g m1 S1.length H1 ρ σ ∧ Rels g m1 S1.length H1 as vs ∧ WP g (fun c d H' => W c d σ H') (Rel g) m1 S1.length H1 ((evs F iks ρ S1).bind fun ys S => K2 (as ++ ys) S) Q) I ?_) fun us s1 ⟨vs, H1, I1, rv, m1, S1, as, la, x1, rs1, er1, ra, w1⟩ => ?_
    · refine TI.stepE (Ra := Rels g) rs er w fun vs H1 m1 S1 as e x1 rs1 er1 r1 w => ⟨m1, S1, as, evs_length e, x1, rs1, er1, r1, ?_⟩
      rw [R.bind_bind] at w
      exact w
    · refine thn (hkw.run pos pins s1 σ H1 (fun zs H2 => ∃ m2 S2 bs, bs.length = iks.length ∧ Ext m1 S1.length H1 m2 S2.length H2 ∧ RS g m2 S2 H2 ∧ EnvR g m2 S2.length H2 ρ σ ∧ Rels g m2 S2.length H2 bs zs ∧ WP g (fun c d H' => W c d σ H') (Rel g) m2 S2.length H2 (K2 (as ++ bs) S2) Q) I1 ?_) fun ws s2 ⟨zs, H2, I2, rz, m2, S2, bs, lb, x2, rs2, er2, rb, w2⟩ => ⟨I2.kIn, ?_⟩
      · exact TI.stepE (Ra := Rels g) rs1 er1 w1 fun zs H2 m2 S2 bs e x2 rs2 er2 r2 w => ⟨m2, S2, bs, evs_length e, x2, rs2, er2, r2, w⟩
      · rw [k2]
        exact fin I2 rv rz (ra.length.symm.trans la) ((rb.length.symm.trans lb).trans hkl) (x1.trans x2) rs2 er2 ((Rels.mono x2 _ _ ra).append rb) w2
theorem i_call {k : Nat} {fa : Addr} {fd : FuncData} {ps : List Str} {f : Nat} {arr : List Ar} (hK : X.K = g.K) (FO : FnOk X.prog X.w X.K X.mg X.base (L2.CX X.prog X.w) k fa fd ps (spF g F f ps.length)) (hr : Room k X.A) (hg : Gl X x) (hm : X.mg x = some (.ref fa))
    (hkp : PySem.W.keepIn X.K (.ref fa) = true) (sg : Sig g fd ps ies.length ks arr) (tk : Takes X W) (hdb : (x == ("__debug__" : Str)) = false) (oks : okEs es = true) (hks : kwsNames kws = some ks) (hkl : iks.length = ks.length) (hel : es.length = ies.length)
    (ha : PA X es (tEs g W (evs F ies))) (hkw : PK X kws (tEs g W (evs F iks))) : PE X (.Call (.Name x p) es kws pos) (tE g W (ev F (.call f arr (ies ++ iks)))) := by
  obtain ⟨gg, gV, hb, hp⟩ := sg.ex
  rw [← hK] at hb
  refine ⟨fun pins s σ H Q I ⟨m, ρ, S, rs, er, w⟩ => ?_⟩
  rw [ev] at w
  refine wpAny_Call_Name_kw (ld_glob I hg hm ?_ hdb)
  refine own_args (first := []) hkp oks hks hkl hel ha hkw I rs er w fun I2 ru rz l1 l2 x2 rs2 er2 ra w => ?_
  unfold callR at w
  split at w
  · rename_i ps' hps
    obtain ⟨q1, q2⟩ := hp _ _ _ _ _ _ _ ra l1 l2 hps
    exact run_own FO hr hb tk I2 ru rz l1 l2 ⟨q2, _, _, ps', rs2, q1, w⟩
  · exact w.err
/-- what the text says of a method of a class -/
structure MOk (g : Gs) (X : Cx) (F : CE) (name : Str) (c f n : Nat) (ks : List Str) (arr : List Ar) : Prop where
  ex : ∃ (k : Nat) (fa : Addr) (fd : FuncData) (ps : List Str), Meth g.K (g.ca c) name fa ∧ FnOk X.prog X.w X.K X.mg X.base (L2.CX X.prog X.w) k fa fd ps (spF g F f ps.length) ∧ Room k X.A ∧ Sig g fd ps (n + 1) ks arr
end
end Iv

/-! ### targets, walks, statements -/
namespace Iv
open PySem PySem.Spec PyProof.Rows L2
theorem WP.wish {α β : Type} {g : Gs} {W W' : Value → Option Addr → Hp → Prop} {Ra : Mp → Nat → Hp → α → β → Prop} {m : Mp} {n : Nat} {H : Hp} {r : R α} {Q : β → Hp → Prop} (h : WP g W Ra m n H r Q) (k : ∀ c d H, W c d H → W' c d H) : WP g W' Ra m n H r Q := by
  cases r with
  | ok a S' => exact h
  | exc x S' => exact fun m' H' c d y rs q => k c d H' (h m' H' c d y rs q)
  | err => exact h
theorem WP.ra {α β : Type} {g : Gs} {W : Value → Option Addr → Hp → Prop} {Ra Ra' : Mp → Nat → Hp → α → β → Prop} {m : Mp} {n : Nat} {H : Hp} {r : R α} {Q : β → Hp → Prop} (h : WP g W Ra m n H r Q) (k : ∀ m n H a b, Ra' m n H a b → Ra m n H a b) : WP g W Ra' m n H r Q := by
  cases r with
  | ok a S' => exact fun m' H' b x rs ra => h m' H' b x rs (k _ _ _ _ _ ra)
  | exc x S' => exact h
  | err => exact h
abbrev noW : Value → Option Addr → Hp → Prop := fun _ _ _ => False
/-- the other names' values stay -/
def Kept (vs : List Nat) (σ σ' : L2.St) : Prop := σ'.length = σ.length ∧ ∀ i, i ∉ vs → σ'[i]? = σ[i]?
theorem Kept.refl {vs : List Nat} {σ : L2.St} : Kept vs σ σ := ⟨rfl, fun _ _ => rfl⟩
theorem Kept.trans {vs : List Nat} {σ σ1 σ2 : L2.St} (h : Kept vs σ σ1) (k : Kept vs σ1 σ2) : Kept vs σ σ2 := ⟨k.1.trans h.1, fun i hi => (k.2 i hi).trans (h.2 i hi)⟩
theorem Kept.set {vs : List Nat} {σ : L2.St} {i : Nat} {v : Option V} (h : i ∈ vs) : Kept vs σ (σ.set i v) := ⟨List.length_set, fun j hj => List.getElem?_set_ne fun z => hj (by rw [← z]; exact h)⟩
theorem wipe_len (σ : L2.St) : ∀ vs : List Nat, (wipe σ vs).length = σ.length
  | [] => rfl
  | v :: vs => by
    unfold L2.wipe
    rw [List.length_set]
    exact wipe_len σ vs
theorem wipe_get (σ : L2.St) : ∀ (vs : List Nat) (i : Nat), i < σ.length → (wipe σ vs)[i]? = if i ∈ vs then some none else σ[i]?
  | [], i, _ => by rw [if_neg List.not_mem_nil]; rfl
  | v :: vs, i, h => by
    unfold L2.wipe
    by_cases e : i = v
    · rw [e, List.getElem?_set_self (by rw [wipe_len]; rw [← e]; exact h), if_pos (List.mem_cons_self ..)]
    · rw [List.getElem?_set_ne (Ne.symm e), wipe_get σ vs i h]
      simp [List.mem_cons, e]
theorem Kept.wiped {vs : List Nat} {σ σ' : L2.St} (h : Kept vs (wipe σ vs) σ') : wipe σ' vs = wipe σ vs := by
  have hl : σ'.length = σ.length := by rw [h.1, wipe_len]
  apply List.ext_getElem?
  intro i
  rcases Nat.lt_or_ge i σ.length with l | l
  · rw [wipe_get _ _ _ (by rw [hl]; exact l), wipe_get _ _ _ l]
    split
    · rfl
    · rename_i hi
      rw [h.2 i hi, wipe_get _ _ _ l, if_neg hi]
  · rw [List.getElem?_eq_none (by rw [wipe_len, hl]; exact l), List.getElem?_eq_none (by rw [wipe_len]; exact l)]
def EnvK (g : Gs) (vs : List Nat) (σ : L2.St) : Mp → Nat → Hp → Env → L2.St → Prop := fun m n H ρ' σ' => EnvR g m n H ρ' σ' ∧ Kept vs σ σ'
def TGv (g : Gs) (vs : List Nat) (f : D → Env → Sto → R Env) : TG := fun v σ H Q => ∃ m ρ S d, RS g m S H ∧ EnvR g m S.length H ρ σ ∧ Rel g m S.length H d v ∧ WP g noW (EnvK g vs σ) m S.length H (f d ρ S) Q
def TGvs (g : Gs) (vs : List Nat) (n : Nat) (f : List D → Env → Sto → R Env) : TGs := fun us σ H Q => ∃ m ρ S ds, RS g m S H ∧ EnvR g m S.length H ρ σ ∧ Rels g m S.length H ds us ∧ ds.length = n ∧ WP g noW (EnvK g vs σ) m S.length H (f ds ρ S) Q
def TGd (g : Gs) (f : D → Env → Sto → R Env) : TG := fun v σ H Q => ∃ m ρ S d, RS g m S H ∧ EnvR g m S.length H ρ σ ∧ Rel g m S.length H d v ∧ WP g noW (EnvR g) m S.length H (f d ρ S) Q
theorem PG.imp {X : Cx} {t : Expr} {u u' : TG} (h : PG X t u) (k : ∀ v σ H Q, u' v σ H Q → u v σ H Q) : PG X t u' := ⟨fun pins s σ H v w Q I r q => h.run pins s σ H v w Q I r (k v σ H Q q)⟩
theorem PGs.imp {X : Cx} {t : List Expr} {u u' : TGs} (h : PGs X t u) (k : ∀ v σ H Q, u' v σ H Q → u v σ H Q) : PGs X t u' := ⟨fun pins s σ H v w Q I r q => h.run pins s σ H v w Q I r (k v σ H Q q)⟩
theorem PG.or {X : Cx} {t : Expr} {u u' : TG} (h : PG X t u) (h' : PG X t u') : PG X t (fun v σ H Q => u v σ H Q ∨ u' v σ H Q) := ⟨fun pins s σ H v w Q I r q => q.elim (h.run pins s σ H v w Q I r) (h'.run pins s σ H v w Q I r)⟩
def noStar : Expr → Bool
  | .Starred _ _ => false
  | _ => true
theorem assignEach_ok {e : Expr} {es : List Expr} {env : PySem.Env} (h : noStar e = true) : assignEach (e :: es) env = (false, assign e env) :: assignEach es env := by
  cases e <;> first | rfl | (exact absurd h Bool.false_ne_true)
theorem assignEach_all : ∀ {es : List Expr} {env : PySem.Env}, es.all noStar = true → (assignEach es env).length = es.length ∧ (assignEach es env).findIdx? (·.1) = none
  | [], _, _ => ⟨rfl, rfl⟩
  | e :: es, env, h => by
    rw [List.all_cons, Bool.and_eq_true] at h
    obtain ⟨h1, h2⟩ := assignEach_all (env := env) h.2
    rw [assignEach_ok h.1]
    refine ⟨by rw [List.length_cons, List.length_cons, h1], ?_⟩
    rw [List.findIdx?_cons, h2]
    rfl
section
variable {g : Gs} {W : L2.WX} {X : Cx} {F : CE} {m : Mp} {n : Nat} {H : Hp} {S : Sto} {σ : L2.St} {ρ : Env} {pos : Pos}
theorem g_var {vs : List Nat} {i : Nat} {x : Str} (hv : i ∈ vs) (hN : X.N.Nodup) (hi : X.N[i]? = some x) (hx : Loc X.env.scope x) (hf : X.fn x = true ∨ X.env.scope.names.lookup x = some .local) : PG X (.Name x pos) (TGv g vs (asg F (.var i))) := by
  refine PG.imp (pg_name hN hi hx hf) fun v σ H Q ⟨m, ρ, S, d, rs, er, r, w⟩ => ?_
  rw [asg] at w
  exact w.now rs ⟨er.set r, Kept.set hv⟩
theorem gs_nil {vs : List Nat} : PGs X [] (TGvs g vs 0 (asgs F [])) := by
  refine PGs.imp pgs_nil fun us σ H Q ⟨m, ρ, S, ds, rs, er, r, l, w⟩ => ?_
  have : ds = [] := List.length_eq_zero_iff.mp l
  subst this
  unfold Rels at r
  rw [asgs] at w
  exact ⟨r, w.now rs ⟨er, Kept.refl⟩⟩
theorem gs_cons {vs : List Nat} {e : Expr} {es : List Expr} {t : Tg} {ts : List Tg} (ok : noStar e = true) (h1 : PG X e (TGv g vs (asg F t))) (h2 : PGs X es (TGvs g vs ts.length (asgs F ts))) : PGs X (e :: es) (TGvs g vs (t :: ts).length (asgs F (t :: ts))) := by
  refine PGs.imp (pgs_cons h1 h2 (by rw [assignEach_ok ok]; rfl)) fun us σ H Q ⟨m, ρ, S, ds, rs, er, r, l, w⟩ => ?_
  cases ds with
  | nil => cases l
  | cons d ds =>
    unfold Rels at r
    obtain ⟨v, vr, rfl, r1, r2⟩ := r
    rw [asgs] at w
    refine ⟨v, vr, rfl, m, ρ, S, d, rs, er, r1, (WP.bind (Ra := EnvK g vs σ) w).imp fun σ1 H1 ⟨m1, S1, ρ1, x1, rs1, ⟨er1, k1⟩, w1⟩ => ?_⟩
    exact ⟨m1, ρ1, S1, ds, rs1, er1, Rels.mono x1 _ _ r2, Nat.succ.inj l, w1.ra fun _ _ _ _ _ z => ⟨z.1, k1.trans z.2⟩⟩
theorem g_tup {vs : List Nat} {es : List Expr} {ts : List Tg} {k : Nat} (hK : X.K = g.K) (hc : X.calm = true) (ok : es.all noStar = true) (hl : es.length = ts.length) (h : PGs X es (TGvs g vs ts.length (asgs F ts))) : PG X (.Tuple es k pos) (TGv g vs (asg F (.tup ts))) := by
  obtain ⟨l1, l2⟩ := assignEach_all (env := X.env) ok
  refine PG.imp (PG.or (pg_tup hc h l1 l2) (pg_lst hc h l1 l2)) fun v σ H Q ⟨m, ρ, S, d, rs, er, r, w⟩ => ?_
  rw [asg] at w
  split at w
  · rename_i xs hx
    obtain ⟨c, w⟩ := w.ck
    obtain ⟨a, vs, rfl, rr, q⟩ := seqOf_sq rs r hx
    have lv : vs.length = es.length := by rw [← rr.length, c, hl]
    rw [hK]
    rcases q with q | q
    · exact .inr ⟨a, vs, rfl, q, lv, m, ρ, S, xs, rs, er, rr, c, w⟩
    · exact .inl ⟨a, vs, rfl, q, lv, m, ρ, S, xs, rs, er, rr, c, w⟩
  · exact w.err
theorem g_tupw {vs : List Nat} {es : List Expr} {ts : List Tg} {k : Nat} (hc : X.calm = true) (ok : es.all noStar = true) (hl : es.length = ts.length) (h : PGs X es (TGvs g vs ts.length (asgs F ts))) : PG X (.Tuple es k pos) (TGv g vs (asg F (.tupw ts))) := by
  obtain ⟨l1, l2⟩ := assignEach_all (env := X.env) ok
  refine PG.imp (pg_tup hc h l1 l2) fun v σ H Q ⟨m, ρ, S, d, rs, er, r, w⟩ => ?_
  rw [asg] at w
  unfold wtpK at w
  split at w
  · rename_i xs
    obtain ⟨c, w⟩ := w.ck
    rw [rel_wtp] at r
    obtain ⟨a, us, rfl, q, rr⟩ := r
    exact ⟨a, us, rfl, .inl (.inl q.1), by rw [← rr.length, c, hl], m, ρ, S, xs, rs, er, rr, c, w⟩
  · exact w.err
theorem assign_sub_ok {o i : Expr} {env : PySem.Env} (h : okE i = true) : ∀ v, assign (.Subscript o i pos) env v = (do
      let ov ← holding [v] (eval o env)
      let iv ← holding [v, ov] (eval i env)
      standAt pos
      holding [v, ov, iv] (setItem ov iv v)
      release [v, ov, iv] []) := by
  intro v
  cases i <;> first | rfl | (exact absurd h Bool.false_ne_true)
theorem g_idx {vs : List Nat} {o i : Expr} {io ii : E} (ok : okE i = true) (ho : PE X o (tE g W (ev F io))) (hi : PE X i (tE g W (ev F ii))) : PG X (.Subscript o i pos) (TGv g vs (asg F (.idx io ii))) := by
  refine PG.imp (pg_sub ho hi set_list (assign_sub_ok ok)) fun v σ H Q ⟨m, ρ, S, d, rs, er, r, w⟩ => ?_
  rw [asg] at w
  refine ⟨m, ρ, S, rs, er, ((WP.bind (Ra := Rel g) w).wish fun _ _ _ z => z.elim).imp fun x H1 ⟨m1, S1, dx, x1, rs1, r1, w1⟩ => ?_⟩
  refine ⟨m1, ρ, S1, rs1, er.mono x1, ((WP.bind (Ra := Rel g) w1).wish fun _ _ _ z => z.elim).imp fun y H2 ⟨m2, S2, dy, x2, rs2, r2, w2⟩ => ?_⟩
  cases dx with
  | ref nn =>
    cases dy with
    | int kk =>
      replace w2 : WP g noW (EnvK g vs σ) m2 S2.length H2 ((match cellAt S2 nn with | some (.lst xs) => ck (0 ≤ kk ∧ kk < xs.length) (.ok () (setAt S2 nn (.lst (xs.set kk.toNat d)))) | _ => (.err : R Unit)).bind fun _ S => .ok ρ S) Q := w2
      split at w2
      · rename_i xs hz
        obtain ⟨a, rfl, k, vs, hv, rv⟩ := (Rel.mono x2 _ _ r1).box rs2 hz
        rw [rel_int] at r2
        unfold ck at w2
        split at w2
        · rename_i c
          simp only [R.bind_ok] at w2
          have hl := rv.length
          refine ⟨a, vs, kk, kk.toNat, rfl, r2, hv, ?_, ?_⟩
          · unfold ixN
            rw [if_pos c.1, if_pos (by omega)]
          · have xs' := Ext.set (n := S2.length) (o := .lst (vs.set kk.toNat v)) rs2 k
            have ln : (setAt S2 nn (.lst (xs.set kk.toNat d))).length = S2.length := by unfold setAt; rw [List.length_set]
            refine w2 m2 _ σ (by rw [ln]; exact xs') (rs2.set k ⟨_, upd_same, Rels.mono xs' _ _ (rv.set _ (Rel.mono (x1.trans x2) _ _ r))⟩) ?_
            rw [ln]
            exact ⟨er.mono ((x1.trans x2).trans xs'), Kept.refl⟩
        · exact w2.elim
      · exact w2.elim
    | _ => exact w2.elim
  | _ => cases dy <;> exact w2.elim
theorem RelFs.put {f : Nat} {d : D} {v : V} (hf : g.fok f) (r : Rel g m n H d v) : ∀ {fs : List (Nat × D)} {gs : List (Str × V)}, (∀ f, f ∈ fs.map (·.1) → g.fok f) → RelFs g m n H fs gs → RelFs g m n H (putFd f d fs) (putF (g.fn f) v gs)
  | [], _, _, rr => by
    unfold RelFs at rr
    rw [rr, putFd]
    show RelFs g m n H [(f, d)] [(g.fn f, v)]
    unfold RelFs
    exact ⟨v, [], rfl, r, by unfold RelFs; rfl⟩
  | (f', e) :: fs, _, ho, rr => by
    unfold RelFs at rr
    obtain ⟨w, gr, rfl, r1, r2⟩ := rr
    rw [putFd]
    unfold putF
    by_cases h : f' = f
    · subst h
      rw [if_pos rfl, if_pos rfl]
      unfold RelFs
      exact ⟨v, gr, rfl, r, r2⟩
    · rw [if_neg h, if_neg fun z => h (g.finj _ _ (ho f' (List.mem_cons_self ..)) hf z)]
      unfold RelFs
      exact ⟨w, _, rfl, r1, RelFs.put hf r (fun f h => ho f (List.mem_cons_of_mem _ h)) r2⟩
theorem g_any {vs : List Nat} {e : Expr} {f : D → Env → Sto → R Env} (h : PG X e (TGv g vs f)) : PG X e (TGd g f) := PG.imp h fun _ _ _ _ ⟨m, ρ, S, d, rs, er, r, w⟩ => ⟨m, ρ, S, d, rs, er, r, w.ra fun _ _ _ _ _ z => z.1⟩

/-! statements -/
def WS (g : Gs) (W : L2.WX) (m : Mp) (n : Nat) (H : Hp) (r : R Fl) (D : Ends) : Prop := match r with
  | .ok (.next ρ) S' => ∀ m' H' σ', Ext m n H m' S'.length H' → RS g m' S' H' → EnvR g m' S'.length H' ρ σ' → D.nx σ' H'
  | .ok (.brk ρ) S' => ∀ m' H' σ', Ext m n H m' S'.length H' → RS g m' S' H' → EnvR g m' S'.length H' ρ σ' → D.bk σ' H'
  | .ok (.cont ρ) S' => ∀ m' H' σ', Ext m n H m' S'.length H' → RS g m' S' H' → EnvR g m' S'.length H' ρ σ' → D.ct σ' H'
  | .ok (.ret d) S' => ∀ m' H' v, Ext m n H m' S'.length H' → RS g m' S' H' → Rel g m' S'.length H' d v → D.rt v H'
  | .ok (.raised x ρ) S' => ∀ m' H' σ' c d, Ext m n H m' S'.length H' → RS g m' S' H' → EnvR g m' S'.length H' ρ σ' → g.xr m' S'.length H' x c d → W c d σ' H'
  | _ => False
def TSd (g : Gs) (W : L2.WX) (f : Env → Sto → R Fl) : TS := fun D σ H => ∃ m ρ S, RS g m S H ∧ EnvR g m S.length H ρ σ ∧ WS g W m S.length H (f ρ S) D
variable {α β : Type} {Ra : Mp → Nat → Hp → α → β → Prop} {m1 : Mp} {n1 : Nat} {H1 : Hp} {D D' : Ends}
theorem WS.from {r : R Fl} (x : Ext m n H m1 n1 H1) (h : WS g W m n H r D) : WS g W m1 n1 H1 r D := by
  cases r with
  | ok f S' =>
    cases f with
    | next ρ => exact fun m' H' σ' y => h m' H' σ' (x.trans y)
    | brk ρ => exact fun m' H' σ' y => h m' H' σ' (x.trans y)
    | cont ρ => exact fun m' H' σ' y => h m' H' σ' (x.trans y)
    | ret d => exact fun m' H' v y => h m' H' v (x.trans y)
    | raised e ρ => exact fun m' H' σ' c d y => h m' H' σ' c d (x.trans y)
  | exc e S' => exact h
  | err => exact h
theorem WS.imp {r : R Fl} (h : WS g W m n H r D) (h1 : ∀ σ H, D.nx σ H → D'.nx σ H) (h2 : ∀ v H, D.rt v H → D'.rt v H) (h3 : ∀ σ H, D.bk σ H → D'.bk σ H) (h4 : ∀ σ H, D.ct σ H → D'.ct σ H) : WS g W m n H r D' := by
  cases r with
  | ok f S' =>
    cases f with
    | next ρ => exact fun m' H' σ' y a b => h1 _ _ (h m' H' σ' y a b)
    | brk ρ => exact fun m' H' σ' y a b => h3 _ _ (h m' H' σ' y a b)
    | cont ρ => exact fun m' H' σ' y a b => h4 _ _ (h m' H' σ' y a b)
    | ret d => exact fun m' H' v y a b => h2 _ _ (h m' H' v y a b)
    | raised e ρ => exact h
  | exc e S' => exact h
  | err => exact h
theorem WS.err {P : Prop} (h : WS g W m n H .err D) : P := False.elim h
theorem WS.next {ρ' : Env} {σ' : L2.St} (h : WS g W m S.length H (.ok (.next ρ') S) D) (rs : RS g m S H) (er : EnvR g m S.length H ρ' σ') : D.nx σ' H := h m H σ' Ext.refl rs er
theorem WS.go {r : R α} {f : α → Sto → R Fl} (rs : RS g m S H) (er : EnvR g m S.length H ρ σ) (h : WS g W m S.length H (r.go ρ f) D) :
    WP g (fun c d H' => W c d σ H') Ra m S.length H r (fun b H1 => ∃ m1 S1 a, Ext m S.length H m1 S1.length H1 ∧ RS g m1 S1 H1 ∧ EnvR g m1 S1.length H1 ρ σ ∧ Ra m1 S1.length H1 a b ∧ WS g W m1 S1.length H1 (f a S1) D) := by
  cases r with
  | ok a S' => exact fun m' H' b x rs ra => ⟨m', S', a, x, rs, er.mono x, ra, WS.from x h⟩
  | exc e S' => exact fun m' H' c d x rs q => h m' H' σ c d x rs (er.mono x) q
  | err => exact h
theorem WS.fl {r : R Fl} {f : Env → Sto → R Fl} (h : WS g W m n H (r.fl f) D) : WS g W m n H r { D with nx := fun σ' H' => ∃ m' ρ' S', RS g m' S' H' ∧ EnvR g m' S'.length H' ρ' σ' ∧ WS g W m' S'.length H' (f ρ' S') D } := by
  cases r with
  | ok w S' =>
    cases w with
    | next ρ => exact fun m' H' σ' x rs er => ⟨m', ρ, S', rs, er, WS.from x h⟩
    | brk ρ => exact h
    | cont ρ => exact h
    | ret d => exact h
    | raised e ρ => exact h
  | exc e S' => exact h.elim
  | err => exact h.elim
theorem WS.turn {r : R Fl} {f : Env → Sto → R Fl} {N : L2.St → Hp → Prop} (h : WS g W m n H (r.turn f) D) (hN : ∀ m' ρ' S' σ' H', Ext m n H m' S'.length H' → RS g m' S' H' → EnvR g m' S'.length H' ρ' σ' → WS g W m' S'.length H' (f ρ' S') D → N σ' H') :
    WS g W m n H r { D with nx := N, ct := N, bk := D.nx } := by
  cases r with
  | ok w S' =>
    cases w with
    | next ρ => exact fun m' H' σ' x rs er => hN m' ρ S' σ' H' x rs er (WS.from x h)
    | brk ρ => exact h
    | cont ρ => exact fun m' H' σ' x rs er => hN m' ρ S' σ' H' x rs er (WS.from x h)
    | ret d => exact h
    | raised e ρ => exact h
  | exc e S' => exact h.elim
  | err => exact h.elim
theorem WS.ck {c : Prop} [Decidable c] {r : R Fl} (h : WS g W m n H (ck c r) D) : c ∧ WS g W m n H r D := by
  unfold Iv.ck at h
  by_cases hc : c
  · rw [if_pos hc] at h
    exact ⟨hc, h⟩
  · rw [if_neg hc] at h
    exact h.elim
theorem PS.imp {X : Cx} {st : Stmt} {t t' : TS} (h : PS X st t) (k : ∀ D σ H, t' D σ H → t D σ H) : PS X st t' := ⟨fun pins s σ H D I q => h.run pins s σ H D I (k D σ H q)⟩
theorem PSs.imp {X : Cx} {st : List Stmt} {t t' : TS} (h : PSs X st t) (k : ∀ D σ H, t' D σ H → t D σ H) : PSs X st t' := ⟨fun pins s σ H D I q => h.run pins s σ H D I (k D σ H q)⟩
abbrev tS (g : Gs) (W : L2.WX) (f : Env → Sto → R Fl) : TS := TSd g W f
theorem s_nil : PSs X [] (tS g W (exs F [])) := by
  refine PSs.imp pss_nil fun D σ H ⟨m, ρ, S, rs, er, w⟩ => ?_
  rw [exs] at w
  exact w.next rs er
theorem s_cons {st : Stmt} {sts : List Stmt} {i : St} {is : List St} (h1 : PS X st (tS g W (ex F i))) (h2 : PSs X sts (tS g W (exs F is))) : PSs X (st :: sts) (tS g W (exs F (i :: is))) := by
  refine PSs.imp (pss_cons h1 h2) fun D σ H ⟨m, ρ, S, rs, er, w⟩ => ?_
  rw [exs] at w
  exact ⟨m, ρ, S, rs, er, w.fl⟩
def notComp : Expr → Bool
  | .ListComp _ _ _ _ => false
  | .SetComp _ _ _ _ => false
  | .DictComp _ _ _ _ _ => false
  | _ => true
theorem swaps_ok {e : Expr} {t : Option Expr} {l : Nat} {env : PySem.Env} (h : notComp e = true) : swapsWith e t l env = pure false := by
  cases e <;> first | rfl | (exact absurd h Bool.false_ne_true)
theorem s_expr {e : Expr} {ie : E} (ok : notComp e = true) (he : PE X e (tE g W (ev F ie))) : PS X (.Expr e pos) (tS g W (ex F (.expr ie))) := by
  refine PS.imp (ps_expr he (swaps_ok ok)) fun D σ H ⟨m, ρ, S, rs, er, w⟩ => ?_
  rw [ex] at w
  refine ⟨m, ρ, S, rs, er, (WS.go (Ra := Rel g) rs er w).imp fun v H1 ⟨m1, S1, d, x1, rs1, er1, r1, w1⟩ => w1.next rs1 er1⟩
theorem s_ret {e : Expr} {ie : E} (he : PE X e (tE g W (ev F ie))) : PS X (.Return (some e) pos) (tS g W (ex F (.ret ie))) := by
  refine PS.imp (ps_ret he) fun D σ H ⟨m, ρ, S, rs, er, w⟩ => ?_
  rw [ex] at w
  refine ⟨m, ρ, S, rs, er, (WS.go (Ra := Rel g) rs er w).imp fun v H1 ⟨m1, S1, d, x1, rs1, er1, r1, w1⟩ => w1 m1 H1 v Ext.refl rs1 r1⟩
theorem s_ite {c : Expr} {a b : List Stmt} {ic : E} {ia ib : List St} (hc : PT X c (tT g W (evT F ic))) (ha : PSs X a (tS g W (exs F ia))) (hb : PSs X b (tS g W (exs F ib))) : PS X (.If c a b pos) (tS g W (ex F (.ite ic ia ib))) := by
  refine PS.imp (ps_if hc ha hb) fun D σ H ⟨m, ρ, S, rs, er, w⟩ => ?_
  rw [ex] at w
  refine ⟨m, ρ, S, rs, er, (WS.go (Ra := RelB) rs er w).imp fun k H1 ⟨m1, S1, d, x1, rs1, er1, r1, w1⟩ => ?_⟩
  cases r1
  cases k with
  | true =>
    rw [if_pos rfl] at w1 ⊢
    exact ⟨m1, ρ, S1, rs1, er1, w1⟩
  | false =>
    rw [if_neg Bool.false_ne_true] at w1 ⊢
    exact ⟨m1, ρ, S1, rs1, er1, w1⟩
theorem asg_end {t : Tg} {d : Iv.D} {v : V} {Q : L2.St → Hp → Prop} (rs : RS g m S H) (er : EnvR g m S.length H ρ σ) (r : Rel g m S.length H d v) (w : WS g W m S.length H ((asg F t d ρ S).st fun ρ S => .ok (.next ρ) S) D) (hQ : ∀ σ H, D.nx σ H → Q σ H) : TGd g (asg F t) v σ H Q := by
  refine ⟨m, ρ, S, d, rs, er, r, ?_⟩
  cases h : asg F t d ρ S with
  | ok ρ1 S1 =>
    rw [h] at w
    exact fun m' H' σ' x rs' er' => hQ _ _ (w m' H' σ' x rs' er')
  | exc e S1 => rw [h] at w; exact w.elim
  | err => rw [h] at w; exact w.elim
theorem s_asg {tg e : Expr} {t : Tg} {ie : E} (he : PE X e (tE g W (ev F ie))) (hg : PG X tg (TGd g (asg F t))) (ok : noStar tg = true) (hs : swapsWithSole [tg] e pos.line X.env = pure false) (hw : swappedStores [tg] e X.env = pure none) : PS X (.Assign [tg] e pos) (tS g W (ex F (.asg t ie))) := by
  refine PS.imp (ps_asg he hg hs hw (by rw [assignEach_ok ok]; rfl)) fun D σ H ⟨m, ρ, S, rs, er, w⟩ => ?_
  rw [ex] at w
  refine ⟨m, ρ, S, rs, er, (WS.go (Ra := Rel g) rs er w).imp fun v H1 ⟨m1, S1, d, x1, rs1, er1, r1, w1⟩ => asg_end rs1 er1 r1 w1 fun _ _ z => z⟩
/-! loops -/
def ItR (g : Gs) (m : Mp) (n : Nat) (H : Hp) (w : Src × List Iv.D) (J : L2.It) : Prop :=
  ∀ m' S' H', ExtW m n H m' (List.length S') H' → Fz H H' → RS g m' S' H' → w.1.there S' →
    (∀ (i : Nat) (d : Iv.D), w.2[i]? = some d → J.go i H' ∧ ∀ x H'', J.yld i H' x H'' → RS g m' S' H'' ∧ Ext m' S'.length H' m' S'.length H'' ∧ Rel g m' S'.length H'' d x) ∧ J.stop w.2.length H'
abbrev tI (g : Gs) (W : L2.WX) (f : Env → Sto → R (Src × List Iv.D)) : L2.TI := TI g W (ItR g) f
theorem s_for {tg iter : Expr} {body : List Stmt} {t : Tg} {it : Iv.It} {ib : List St} (hp : PassesOwn (model X.prog X.w) X.A X.env X.xe) (hc : X.calm = true) (oki : okE iter = true) (hi : PI X tg iter (tI g W (evIt F it))) (hg : PG X tg (TGd g (asg F t))) (hb : PSs X body (tS g W (exs F ib))) :
    PS X (.For tg iter body [] pos) (tS g W (ex F (.for t it ib))) := by
  refine PS.imp (ps_for hp hc hi hg hb (folded_ok oki)) fun D σ H ⟨m, ρ, S, rs, er, w⟩ => ?_
  rw [ex] at w
  refine ⟨m, ρ, S, rs, er, (WS.go (Ra := ItR g) rs er w).imp fun J H1 ⟨m1, S1, ⟨src, items⟩, x1, rs1, er1, r1, w1⟩ => ?_⟩
  generalize hstep : (fun d ρ S => (asg F t d ρ S).st fun ρ S => exs F ib ρ S : Iv.D → Env → Sto → R Fl) = step at w1
  refine ⟨fun i μ σ' H' => μ = items.length - i ∧ i ≤ items.length ∧ ∃ m' ρ' S', Ext m1 S1.length H1 m' S'.length H' ∧ RS g m' S' H' ∧ EnvR g m' S'.length H' ρ' σ' ∧ WS g W m' S'.length H' (forLoop src step (items.drop i) ρ' S') D, ⟨_, rfl, Nat.zero_le _, m1, ρ, S1, Ext.refl, rs1, er1, by rw [List.drop_zero]; exact w1⟩, ?_⟩
  rintro i μ σ' H' ⟨rfl, hi, m', ρ', S', x', rs', er', w'⟩
  cases hd : items.drop i with
  | nil =>
    have e : i = items.length := by
      have := List.drop_eq_nil_iff.mp hd
      omega
    rw [hd, forLoop] at w'
    obtain ⟨c, w'⟩ := w'.ck
    obtain ⟨_, st⟩ := r1 m' S' H' x'.w x'.fz rs' c
    refine .inl ⟨by rw [e]; exact st, w'.next rs' er'⟩
  | cons d ds =>
    rw [hd, forLoop] at w'
    obtain ⟨c, w'⟩ := w'.ck
    obtain ⟨go, _⟩ := r1 m' S' H' x'.w x'.fz rs' c
    have hlt : i < items.length := by
      rcases Nat.lt_or_ge i items.length with h | h
      · exact h
      · rw [List.drop_eq_nil_iff.mpr h] at hd
        cases hd
    rw [List.drop_eq_getElem_cons hlt] at hd
    injection hd with hd1 hd2
    obtain ⟨g1, g2⟩ := go i d (by rw [List.getElem?_eq_getElem hlt, hd1])
    refine .inr ⟨g1, _, fun σ2 H2 h2 => ⟨items.length - (i + 1), by omega, h2⟩, fun x H'' y => ?_⟩
    obtain ⟨rs'', x'', rx⟩ := g2 x H'' y
    have w'' := w'.from x''
    refine ⟨m', ρ', S', d, rs'', er'.mono x'', rx, ?_⟩
    rw [← hstep] at w''
    dsimp only at w''
    cases ha : asg F t d ρ' S' with
    | ok ρ2 S2 =>
      rw [ha] at w''
      simp only [R.st_ok] at w''
      intro m3 H3 σ3 x3 rs3 er3
      refine ⟨m3, ρ2, S2, rs3, er3, (w''.from x3).turn fun m4 ρ4 S4 σ4 H4 x4 rs4 er4 w4 => ?_⟩
      exact ⟨rfl, hlt, m4, ρ4, S4, ((x'.trans x'').trans x3).trans x4, rs4, er4, by rw [hd2, ← hstep]; exact w4⟩
    | exc e S2 => rw [ha] at w''; exact w''.elim
    | err => rw [ha] at w''; exact w''.elim
end
end Iv

/-! ### walks -/
namespace Iv
open PySem PySem.Spec PyProof.Rows L2
section
variable {g : Gs} {W : L2.WX} {X : Cx} {F : CE} {m : Mp} {n : Nat} {H : Hp} {S : Sto} {σ : L2.St} {ρ : Env} {pos : Pos} {a : Addr} {xs : List Iv.D} {src : Src}
theorem walk_seq {d : Iv.D} (e : walkOf S d = some (src, xs)) : (∃ z, d = .str z) ∨ src.there S ∧ ∀ S', src.there S' → seqOf S' d = some xs := by
  cases d with
  | str z => exact .inl ⟨z, rfl⟩
  | tup zs => cases e; exact .inr ⟨trivial, fun _ _ => rfl⟩
  | lst zs => cases e; exact .inr ⟨trivial, fun _ _ => rfl⟩
  | scr zs => cases e; exact .inr ⟨trivial, fun _ _ => rfl⟩
  | ref i =>
    replace e : (match cellAt S i with | some (.lst xs) => some (Src.box i xs, xs) | _ => none) = some (src, xs) := e
    split at e
    · rename_i zs hz
      cases e
      refine .inr ⟨hz, fun S' h => ?_⟩
      replace h : cellAt S' i = some (.lst xs) := h
      rw [seqOf_ref, h]
    · cases e
  | _ => cases e
theorem Ext.same : Ext m n H m n H := Ext.refl
/-- a walk that makes nothing -/
theorem itr_still {J : L2.It} (h : ∀ m' S' H', ExtW m n H m' (List.length S') H' → RS g m' S' H' → src.there S' → ∃ vs, Rels g m' S'.length H' xs vs ∧ (∀ (i : Nat) (v : V), vs[i]? = some v → J.go i H' ∧ ∀ x H'', J.yld i H' x H'' → H'' = H' ∧ x = v) ∧ J.stop vs.length H') : ItR g m n H (src, xs) J := by
  intro m' S' H' x _ rs c
  obtain ⟨vs, r, k, st⟩ := h m' S' H' x rs c
  refine ⟨fun i d e => ?_, by rw [r.length]; exact st⟩
  obtain ⟨v, hv, rv⟩ := r.get e
  obtain ⟨k1, k2⟩ := k i v hv
  refine ⟨k1, fun y H'' q => ?_⟩
  obtain ⟨rfl, rfl⟩ := k2 y H'' q
  exact ⟨rs, Ext.refl, rv⟩
theorem itr_list (h : ∀ m' S' H', ExtW m n H m' (List.length S') H' → RS g m' S' H' → src.there S' → ∃ vs, SqL g.K H' a vs ∧ Rels g m' S'.length H' xs vs) : ItR g m n H (src, xs) (Itl g.K a) := by
  refine itr_still fun m' S' H' x rs c => ?_
  obtain ⟨vs, q, r⟩ := h m' S' H' x rs c
  refine ⟨vs, r, fun i v e => ⟨⟨vs, v, q, e⟩, fun y H'' z => ⟨z.1, ?_⟩⟩, ⟨vs, q, Nat.le_refl _⟩⟩
  have := z.2 vs q
  rw [e] at this
  cases this
  rfl
theorem itr_tup (h : ∀ m' S' H', ExtW m n H m' (List.length S') H' → RS g m' S' H' → src.there S' → ∃ vs, SqT g.K H' a vs ∧ Rels g m' S'.length H' xs vs) : ItR g m n H (src, xs) (Itt g.K a) := by
  refine itr_still fun m' S' H' x rs c => ?_
  obtain ⟨vs, q, r⟩ := h m' S' H' x rs c
  refine ⟨vs, r, fun i v e => ⟨⟨vs, v, q, e⟩, fun y H'' z => ⟨z.1, ?_⟩⟩, ⟨vs, q, Nat.le_refl _⟩⟩
  have := z.2 vs q
  rw [e] at this
  cases this
  rfl
theorem itr_str {z : Str} (ok : okS z) : ItR g m n H (.fix, z.cps.toList.map fun c => .str ⟨#[c]⟩) (Its z) := by
  intro m' S' H' x _ rs _
  refine ⟨fun i d e => ?_, by show z.cps.size ≤ _; rw [List.length_map, Array.length_toList]; exact Nat.le_refl _⟩
  rw [List.getElem?_map] at e
  obtain ⟨c, hc, rfl⟩ := Option.map_eq_some_iff.mp e
  have hi : i < z.cps.size := by
    have := (List.getElem?_eq_some_iff.mp hc).1
    rwa [Array.length_toList] at this
  refine ⟨hi, fun y H'' ⟨q1, c', q2, q3⟩ => ?_⟩
  subst q1
  rw [← Array.getElem?_toList, hc] at q2
  cases q2
  refine ⟨rs, Ext.refl, ?_⟩
  rw [rel_str]
  refine ⟨q3, by show 1 ≤ sizeLine; decide, fun u hu => ?_⟩
  have : u = c := by simpa using hu
  subst this
  exact ok.2 u (List.mem_of_getElem? hc)
theorem itr_rng {lo : Int} {k : Nat} : ItR g m n H (.fix, rngD lo k) (Itr lo k) := by
  intro m' S' H' x _ rs _
  refine ⟨fun i d e => ?_, by show k ≤ _; rw [rngD, List.length_map, List.length_range]; exact Nat.le_refl _⟩
  rw [rngD, List.getElem?_map] at e
  obtain ⟨j, hj, rfl⟩ := Option.map_eq_some_iff.mp e
  obtain ⟨hl, e2⟩ := List.getElem?_eq_some_iff.mp hj
  rw [List.getElem_range] at e2
  subst e2
  rw [List.length_range] at hl
  refine ⟨hl, fun y H'' ⟨q1, q2⟩ => ?_⟩
  subst q1
  exact ⟨rs, Ext.refl, by rw [rel_int]; exact q2⟩
theorem seq_list {d : Iv.D} {v : V} {H1 : Hp} {S1 : Sto} (rs : RS g m S H) (r : Rel g m S.length H d v) (hd : ∀ zs, d ≠ .tup zs) (e : seqOf S d = some xs) : ∃ a vs, v = .ref a ∧ Rels g m S.length H xs vs ∧ SqL g.K H a vs := by
  obtain ⟨a, vs, h, rr, k⟩ := seqOf_rel rs r e
  rcases k with ⟨k, _⟩ | ⟨_, k⟩
  · exact ⟨a, vs, h, rr, k⟩
  · exact absurd k (hd _)
theorem seq_tup {v : V} (rs : RS g m S H) (r : Rel g m S.length H (.tup xs) v) : ∃ a vs, v = .ref a ∧ Rels g m S.length H xs vs ∧ SqT g.K H a vs := by
  rw [rel_tup] at r
  obtain ⟨a, vs, h, k, rr⟩ := r
  exact ⟨a, vs, h, rr, k.sq⟩
/-- a new pair: its object told, or not both texts -/
def PairNew (g : Gs) (H : Hp) (T : Addr) (v w : V) (H'' : Hp) : Prop := (∃ o, NewT o ∧ H'' = upd H T (.frz o (.tup [v, w]))) ∨ (H'' = upd H T (.tup [v, w]) ∧ MixV g [v, w])
theorem PairNew.rel {d e : Iv.D} {T : Addr} {v w : V} {H2 : Hp} (q2 : H T = none) (h : PairNew g H T v w H2) (rs : RS g m S H) (rv : Rel g m S.length H d v) (rw' : Rel g m S.length H e w) :
    RS g m S H2 ∧ Ext m S.length H m S.length H2 ∧ Rel g m S.length H2 (.tup [d, e]) (.ref T) := by
  rcases h with ⟨o, ho, rfl⟩ | ⟨rfl, k⟩
  · refine ⟨rs.laid q2, Ext.laid rs q2, ?_⟩
    rw [rel_tup]
    exact ⟨T, _, rfl, .inr (.inr ⟨o, upd_same, ho.1, ho.2, Off.free rs q2⟩), Rels.cons (Rel.mono (Ext.laid rs q2) _ _ rv) (Rels.cons (Rel.mono (Ext.laid rs q2) _ _ rw') Rels.nil)⟩
  · refine ⟨rs.laid q2, Ext.laid rs q2, ?_⟩
    rw [rel_tup]
    exact ⟨T, _, rfl, .inl ⟨upd_same, Off.free rs q2, k⟩, Rels.cons (Rel.mono (Ext.laid rs q2) _ _ rv) (Rels.cons (Rel.mono (Ext.laid rs q2) _ _ rw') Rels.nil)⟩
theorem evs1 {ie : E} : evs F [ie] ρ S = (ev F ie ρ S).bind fun x S => .ok [x] S := by
  rw [evs]
  rfl
theorem evs2 {ie ie2 : E} : evs F [ie, ie2] ρ S = (ev F ie ρ S).bind fun x S => (ev F ie2 ρ S).bind fun y S => .ok [x, y] S := by
  rw [evs]
  congr 1
  funext x S
  rw [evs1, R.bind_bind]
  rfl
theorem PI.imp {tg iter : Expr} {t t' : L2.TI} (h : PI X tg iter t) (k : ∀ σ H R, t' σ H R → t σ H R) : PI X tg iter t' := ⟨fun pins s σ H R I q => h.run pins s σ H R I (k σ H R q)⟩
theorem there_now {d : Iv.D} (e : walkOf S d = some (src, xs)) (hs : ∀ z, d ≠ .str z) : seqOf S d = some xs ∧ ∀ S', src.there S' → seqOf S' d = some xs := by
  rcases walk_seq e with ⟨z, h⟩ | ⟨h, k⟩
  · exact absurd h (hs z)
  · exact ⟨k S h, k⟩
theorem itr_of_list {d : Iv.D} (rs : RS g m S H) (r : Rel g m S.length H d (.ref a)) (hd : ∀ zs, d ≠ .tup zs) (k : ∀ S', src.there S' → seqOf S' d = some xs) :
    ∀ m' S' H', ExtW m S.length H m' (List.length S') H' → RS g m' S' H' → src.there S' → ∃ vs, SqL g.K H' a vs ∧ Rels g m' S'.length H' xs vs := by
  intro m' S' H' x rs' c
  obtain ⟨a', vs, e, rr, q⟩ := seq_list (H1 := H) (S1 := S) rs' (Rel.monoW x _ _ r) hd (k S' c)
  cases e
  exact ⟨vs, q, rr⟩
theorem w_e {tg e : Expr} {ie : E} (hK : X.K = g.K) (he : PE X e (tE g W (ev F ie))) : PI X tg e (tI g W (evIt F (.e ie))) := by
  refine ⟨fun pins s σ H R I ⟨m, ρ, S, rs, er, w⟩ => ?_⟩
  rw [evIt] at w
  refine thn (he.run pins s σ H (fun v H1 => ∃ m1 S1 d, RS g m1 S1 H1 ∧ Rel g m1 S1.length H1 d v ∧ WP g (fun c d H' => W c d σ H') (ItR g) m1 S1.length H1 (match walkOf S1 d with | some w => .ok w S1 | none => .err) R) I (TI.step rs er w fun v H1 m1 S1 d x1 rs1 er1 r1 w => ⟨m1, S1, d, rs1, r1, w⟩)) fun u s1 ⟨v, H1, I1, rv, m1, S1, d, rs1, r1, w⟩ => ?_
  cases hw : walkOf S1 d with
  | none => rw [hw] at w; exact w.err
  | some p =>
    obtain ⟨src, xs⟩ := p
    rw [hw] at w
    by_cases hs : ∃ z, d = .str z
    · obtain ⟨z, rfl⟩ := hs
      cases hw
      rw [rel_str] at r1
      obtain ⟨rfl, ok⟩ := r1
      obtain ⟨t, rfl⟩ := rv
      have q := w.now rs1 (itr_str ok)
      by_cases ha : z.cps.all (· < 128) = true
      · exact wpAny_pyIter_ascii ha (pi_one (tk := s1.toks) I1 _ (turn_str _ z t _ (.inl rfl)) ⟨_, Heap.get?_push_size _ rfl, rfl, rfl⟩ q)
      · have ha : z.cps.all (· < 128) = false := by simpa using ha
        exact wpAny_pyIter_wide ha (pi_one (tk := s1.toks) I1 _ (turn_str _ z t _ (.inr rfl)) ⟨_, Heap.get?_push_size _ rfl, rfl, rfl⟩ q)
    · have hs' : ∀ z, d ≠ .str z := fun z h => hs ⟨z, h⟩
      obtain ⟨e0, k⟩ := there_now hw hs'
      by_cases ht : ∃ zs, d = .tup zs
      · obtain ⟨zs, rfl⟩ := ht
        cases hw
        obtain ⟨a, vs, rfl, rr, q⟩ := seq_tup rs1 r1
        obtain rfl : u = Value.ref a := rv
        rw [← hK] at q
        obtain ⟨its, _, p, _⟩ := I1.tuple q
        have qq := w.now rs1 (itr_tup (a := a) fun m' S' H' x rs' _ => by
          obtain ⟨a', vs', e, rr', q'⟩ := seq_tup rs' (Rel.monoW x _ _ r1)
          cases e
          exact ⟨vs', q', rr'⟩)
        rw [← hK] at qq
        exact wpAny_pyIter_tuple (show s1.heap.IsTuple a its.toArray from p) (pi_one (tk := s1.toks) I1 _ (turn_tuple a _) ⟨_, Heap.get?_push_size _ rfl, rfl, rfl⟩ qq)
      · have hd : ∀ zs, d ≠ .tup zs := fun z h => ht ⟨z, h⟩
        obtain ⟨a, vs, rfl, rr, q⟩ := seq_list (H1 := H) (S1 := S) rs1 r1 hd e0
        obtain rfl : u = Value.ref a := rv
        rw [← hK] at q
        obtain ⟨its, _, p, _⟩ := I1.list q
        have qq := w.now rs1 (itr_list (itr_of_list rs1 r1 hd k))
        rw [← hK] at qq
        exact wpAny_pyIter_list p.isList (pi_one (tk := s1.toks) I1 _ (turn_list a _) ⟨_, Heap.get?_push_size _ rfl, rfl, rfl⟩ qq)
theorem w_rng1 {tg e : Expr} {ie : E} {p : Pos} (hg : Gl X "range") (hm : X.mg "range" = none) (ok : okE e = true) (ha : PA X [e] (tEs g W (evs F [ie]))) : PI X tg (.Call (.Name "range" p) [e] [] pos) (tI g W (evIt F (.rng1 ie))) := by
  refine PI.imp (pi_range1 hg hm ha (by rw [starEach_ok ok]; rfl)) fun σ H R ⟨m, ρ, S, rs, er, w⟩ => ?_
  rw [evIt] at w
  refine ⟨m, ρ, S, rs, er, ?_⟩
  show WP g _ (Rels g) m S.length H (evs F [ie] ρ S) _
  rw [evs1]
  cases hh : ev F ie ρ S with
  | ok d S1 =>
    rw [hh] at w
    simp only [Iv.R.bind_ok] at w ⊢
    intro m' H' vs x rs' r
    obtain ⟨v, rfl, rv⟩ := Rels.one r
    have w := w.from x
    split at w
    · obtain ⟨c, w⟩ := w.ck
      rw [rel_int] at rv
      exact ⟨_, by rw [rv], c.1, c.2, w.now rs' itr_rng⟩
    · exact w.err
  | exc x S1 => rw [hh] at w; exact w
  | err => rw [hh] at w; exact w
end
end Iv

/-! ### comprehensions -/
namespace Iv
open PySem PySem.Spec PyProof.Rows L2
abbrev noX : L2.WX := fun _ _ _ _ => False
section
variable {g : Gs} {W : L2.WX} {X : Cx} {F : CE} {m m' : Mp} {n : Nat} {H H' : Hp} {S S' : Sto} {σ : L2.St} {ρ : Env} {pos : Pos}
theorem RS.turn (rs : RS g m S H) (x : ExtW m S.length H m' S.length H') (hb : m'.box = m.box) (hc : ∀ i a, m i = some a → H' a = H a) (hh : ∀ a, m'.hid a → (∃ o, H' a = some o) ∧ ∀ i, m' i ≠ some a) : RS g m' S H' := by
  refine ⟨fun i a k => ?_, fun i c k nh => ?_, fun i j a h k => ?_, hh, rs.hotS⟩
  · rw [hb] at k
    obtain ⟨c, e, q⟩ := rs.dom i a k
    exact ⟨c, e, q.monoW x (hc i a k)⟩
  · rw [hb]
    exact rs.all i c k nh
  · rw [hb] at h k
    exact rs.inj i j a h k
/-- a new list that only its owner sees -/
def mHide (m : Mp) (a : Addr) : Mp := ⟨m.box, fun b => m.hid b ∨ b = a⟩
theorem Ext.hide {D : Addr} {o : HO} (rs : RS g m S H) (e : H D = none) : Ext m S.length H (mHide m D) S.length (upd H D o) :=
  ⟨Nat.le_refl _, fun _ _ _ e => e, fun b ob k f => ⟨by rw [upd_ne (ne_of_none k e)]; exact k, f.1, fun h => h.elim f.2 fun z => by rw [z, e] at k; cases k⟩, fun b h => ⟨.inl h, upd_ne fun z => (Off.free rs e).2 (by rw [← z]; exact h)⟩, Fz.upd (NoFz.none e)⟩
theorem RS.hide {D : Addr} {o : HO} (rs : RS g m S H) (e : H D = none) : RS g (mHide m D) S (upd H D o) := by
  refine RS.turn rs (Ext.hide rs e).w rfl (fun i a k => upd_ne fun z => (Off.free rs e).1 i (by rw [← z]; exact k)) fun a h => ?_
  by_cases z : a = D
  · rw [z, upd_same]
    exact ⟨⟨_, rfl⟩, (Off.free rs e).1⟩
  · rw [upd_ne z]
    exact rs.hidS a (h.elim id fun q => absurd q z)
/-- the owner writes -/
theorem Ext.own {m1 : Mp} {H1 : Hp} {D : Addr} {o : HO} (x : Ext m1 n H1 m S.length H) (e : H1 D = none) (rs1 : ¬ m1.hid D) : Ext m1 n H1 m S.length (upd H D o) :=
  ⟨x.le, x.old, fun b ob k f => let ⟨k', f'⟩ := x.keep b ob k f; ⟨by rw [upd_ne (ne_of_none k e)]; exact k', f'⟩, fun b h => let ⟨h', k'⟩ := x.hid b h; ⟨h', by rw [upd_ne fun z => rs1 (by rw [← z]; exact h)]; exact k'⟩, fun b ob u k => by rw [upd_ne fun z => by rw [z, e] at k; cases k]; exact x.fz b ob u k⟩
theorem ExtW.own {D : Addr} {o : HO} (hd : m.hid D) : ExtW m n H m n (upd H D o) :=
  ⟨Nat.le_refl _, fun _ _ _ e => e, fun b ob k f => ⟨by rw [upd_ne fun z => f.2 (by rw [z]; exact hd)]; exact k, f⟩⟩
theorem RS.own {D : Addr} {o : HO} (rs : RS g m S H) (hd : m.hid D) : RS g m S (upd H D o) := by
  refine RS.turn rs (ExtW.own hd) rfl (fun i a k => upd_ne fun z => (rs.hidS D hd).2 i (by rw [← z]; exact k)) fun a h => ?_
  by_cases z : a = D
  · rw [z, upd_same]
    exact ⟨⟨_, rfl⟩, (rs.hidS D hd).2⟩
  · rw [upd_ne z]
    exact rs.hidS a h
theorem lc_end {box : Bool} {m1 : Mp} {H1 : Hp} {S1 : Sto} {D : Addr} {vs : List V} {ys : List Iv.D} {Q : VK} {W' : Value → Option Addr → Hp → Prop} (rs1 : RS g m1 S1 H1) (hD : H1 D = none) (x : Ext m1 S1.length H1 m' S'.length H') (hd : m'.hid D) (rs' : RS g m' S' H') (e : H' D = some (.lst vs)) (r : Rels g m' S'.length H' ys vs)
    (w : WP g W' (Rel g) m1 S1.length H1 (mkL box ys S') Q) : Q (.ref D) H' := by
  have n1 : ¬ m1.hid D := (Off.free rs1 hD).2
  cases box with
  | false =>
    have xw : ExtW m' S'.length H' ⟨m'.box, m1.hid⟩ S'.length H' := ⟨Nat.le_refl _, fun _ _ _ e => e, fun a o e f => ⟨e, f.1, fun h => f.2 (x.hid a h).1⟩⟩
    refine w ⟨m'.box, m1.hid⟩ H' (.ref D) ⟨x.le, x.old, fun a o e f => let ⟨e', f'⟩ := x.keep a o e f; ⟨e', f'.1, f.2⟩, fun a h => ⟨h, (x.hid a h).2⟩, x.fz⟩ (rs'.turn xw rfl (fun _ _ _ => rfl) fun a h => rs'.hidS a (x.hid a h).1) ?_
    rw [rel_lst]
    exact ⟨D, vs, rfl, ⟨e, (rs'.hidS D hd).2, n1⟩, Rels.monoW xw _ _ r⟩
  | true =>
    have ln : (S' ++ [some (Cell.lst ys)]).length = S'.length + 1 := by rw [List.length_append, List.length_singleton]
    have xw : ExtW m' S'.length H' (mNew ⟨m'.box, m1.hid⟩ S'.length D) (S'.length + 1) H' := by
      refine ⟨Nat.le_succ _, fun i b l k => ?_, fun a o e f => ⟨e, fun i k => ?_, fun h => f.2 (x.hid a h).1⟩⟩
      · rw [mNew_ne (Nat.ne_of_lt l)] at k
        exact k
      · by_cases hi : i = S'.length
        · rw [hi, mNew_same] at k
          cases k
          exact f.2 hd
        · rw [mNew_ne hi] at k
          exact f.1 i k
    refine w (mNew ⟨m'.box, m1.hid⟩ S'.length D) H' (.ref D) ?_ ?_ ?_
    · rw [ln]
      refine ⟨Nat.le_succ_of_le x.le, fun i b l k => ?_, fun a o k f => ?_, fun a h => ⟨h, (x.hid a h).2⟩, x.fz⟩
      · rw [mNew_ne (Nat.ne_of_lt (Nat.lt_of_lt_of_le l x.le))] at k
        exact x.old i b l k
      · obtain ⟨k', f'⟩ := x.keep a o k f
        refine ⟨k', fun i q => ?_, f.2⟩
        by_cases hi : i = S'.length
        · rw [hi, mNew_same] at q
          cases q
          rw [hD] at k
          cases k
        · rw [mNew_ne hi] at q
          exact f'.1 i q
    · refine ⟨fun i b k => ?_, fun i c k nh => ?_, fun i j b h1 h2 => ?_, fun b h => ?_, fun i k => ?_⟩
      · rw [ln]
        by_cases hi : i = S'.length
        · subst hi
          rw [mNew_same] at k
          cases k
          exact ⟨_, cellAt_push, vs, e, Rels.monoW xw _ _ r⟩
        · rw [mNew_ne hi] at k
          obtain ⟨c, h, q⟩ := rs'.dom i b k
          exact ⟨c, by rw [cellAt_push_lt (rs'.lt k)]; exact h, q.monoW xw rfl⟩
      · by_cases hi : i = S'.length
        · exact ⟨D, by rw [hi, mNew_same]⟩
        · have hl := cellAt_lt k
          rw [ln] at hl
          have hl' : i < S'.length := by omega
          rw [cellAt_push_lt hl'] at k
          rw [mNew_ne hi]
          exact rs'.all i c k nh
      · by_cases hi : i = S'.length
        · by_cases hj : j = S'.length
          · rw [hi, hj]
          · rw [hi, mNew_same] at h1
            rw [mNew_ne hj] at h2
            cases h1
            exact absurd h2 ((rs'.hidS D hd).2 j)
        · by_cases hj : j = S'.length
          · rw [hj, mNew_same] at h2
            rw [mNew_ne hi] at h1
            cases h2
            exact absurd h1 ((rs'.hidS D hd).2 i)
          · rw [mNew_ne hi] at h1
            rw [mNew_ne hj] at h2
            exact rs'.inj i j b h1 h2
      · obtain ⟨q1, q2⟩ := rs'.hidS b (x.hid b h).1
        refine ⟨q1, fun i k => ?_⟩
        by_cases hi : i = S'.length
        · rw [hi, mNew_same] at k
          cases k
          exact n1 h
        · rw [mNew_ne hi] at k
          exact q2 i k
      · by_cases hi : i = S'.length
        · rw [hi, cellAt_push] at k
          cases k
        · have hl := cellAt_lt k
          rw [ln] at hl
          rw [cellAt_push_lt (by omega)] at k
          exact rs'.hotS i k
    · rw [rel_ref, ln]
      exact ⟨Nat.lt_succ_self _, D, rfl, fun b hb => by rw [mNew_same] at hb; cases hb; rfl⟩
theorem lcLoop_form {src : Src} {step : Iv.D → Sto → R (List Iv.D)} : ∀ {items : List Iv.D} {S : Sto}, (∃ ys S', lcLoop src step items S = .ok ys S') ∨ lcLoop src step items S = .err
  | [], S => by
    rw [lcLoop]
    unfold ck
    split
    · exact .inl ⟨_, _, rfl⟩
    · exact .inr rfl
  | d :: ds, S => by
    rw [lcLoop]
    unfold ck
    split
    · cases step d S with
      | ok xs S1 =>
        dsimp only
        rcases lcLoop_form (src := src) (step := step) (items := ds) (S := S1) with ⟨ys, S2, h⟩ | h
        · rw [h]; exact .inl ⟨_, _, rfl⟩
        · rw [h]; exact .inr rfl
      | exc _ _ => exact .inr rfl
      | err => exact .inr rfl
    · exact .inr rfl
theorem lcLoop_nil {src : Src} {step : Iv.D → Sto → R (List Iv.D)} {rest : List Iv.D} {Sf : Sto} (h : lcLoop src step [] S = .ok rest Sf) : src.there S ∧ rest = [] ∧ Sf = S := by
  rw [lcLoop] at h
  unfold ck at h
  split at h
  · rename_i c
    injection h with h1 h2
    exact ⟨c, h1.symm, h2.symm⟩
  · cases h
theorem lcLoop_cons {src : Src} {step : Iv.D → Sto → R (List Iv.D)} {d : Iv.D} {ds rest : List Iv.D} {Sf : Sto} (h : lcLoop src step (d :: ds) S = .ok rest Sf) : src.there S ∧ ∃ xs S1 r2, step d S = .ok xs S1 ∧ lcLoop src step ds S1 = .ok r2 Sf ∧ rest = xs ++ r2 := by
  rw [lcLoop] at h
  unfold ck at h
  split at h
  · rename_i c
    refine ⟨c, ?_⟩
    cases hs : step d S with
    | ok xs S1 =>
      rw [hs] at h
      dsimp only at h
      cases hl : lcLoop src step ds S1 with
      | ok r2 S2 =>
        rw [hl] at h
        dsimp only at h
        injection h with h1 h2
        subst h2
        exact ⟨xs, S1, r2, rfl, hl, h1.symm⟩
      | exc _ _ => rw [hl] at h; cases h
      | err => rw [hl] at h; cases h
    | exc _ _ => rw [hs] at h; cases h
    | err => rw [hs] at h; cases h
  · cases h
theorem bind_ok {α β : Type} {r : R α} {f : α → Sto → R β} {b : β} (h : r.bind f = .ok b S') : ∃ a S1, r = .ok a S1 ∧ f a S1 = .ok b S' := by
  cases r with
  | ok a S1 => exact ⟨a, S1, rfl, h⟩
  | exc _ _ => cases h
  | err => cases h
variable {own : List Nat} {t : Tg} {it : Iv.It} {iifs : List E} {ie : E} {box : Bool}
noncomputable abbrev lcStep (F : CE) (own : List Nat) (t : Tg) (iifs : List E) (ie : E) (ρ : Env) : Iv.D → Sto → R (List Iv.D) := fun d S => (asg F t d (wipeE ρ own) S).bind fun ρ1 S => (evIfs F iifs ρ1 S).bind fun k S => if k = true then (ev F ie ρ1 S).bind fun y S => .ok [y] S else .ok [] S
theorem drop_cons {α : Type} {l ds : List α} {d : α} {i : Nat} (h : l.drop i = d :: ds) : i < l.length ∧ l[i]? = some d ∧ l.drop (i + 1) = ds := by
  have hlt : i < l.length := by
    rcases Nat.lt_or_ge i l.length with q | q
    · exact q
    · rw [List.drop_eq_nil_iff.mpr q] at h
      cases h
  rw [List.drop_eq_getElem_cons hlt] at h
  injection h with h1 h2
  exact ⟨hlt, by rw [List.getElem?_eq_getElem hlt, h1], h2⟩
theorem lc_body {Q : VK} (rs : RS g m S H) (er : EnvR g m S.length H ρ σ) (w : WP g (fun c d H' => W c d σ H') (Rel g) m S.length H (ev F (.lc box own t it iifs ie) ρ S) Q) :
    tLc (tI g W (evIt F it)) (TGv g own (asg F t)) (tT g noX (evIfs F iifs)) (tE g noX (ev F ie)) own σ H Q := by
  rw [ev] at w
  refine TI.step (Ra := ItR g) rs er w fun J H1 m1 S1 ⟨src, items⟩ x1 rs1 er1 it1 w => ?_
  intro D hD
  dsimp only at w
  rcases lcLoop_form (src := src) (step := lcStep F own t iifs ie ρ) (items := items) (S := S1) with ⟨ys, Sf, hL⟩ | hL
  · rw [hL] at w
    obtain ⟨hy, w⟩ := (show WP g _ (Rel g) m1 S1.length H1 (ck (ys.length ≤ sizeLine) (mkL box ys Sf)) Q from w).ck
    have n1 : ¬ m1.hid D := (Off.free rs1 hD).2
    refine ⟨fun i μ H' => μ = items.length - i ∧ i ≤ items.length ∧ ∃ m' S' acc vs rest, Ext m1 S1.length H1 m' (List.length S') H' ∧ m'.hid D ∧ RS g m' S' H' ∧ H' D = some (.lst vs) ∧ Rels g m' S'.length H' acc vs ∧ lcLoop src (lcStep F own t iifs ie ρ) (items.drop i) S' = .ok rest Sf ∧ acc ++ rest = ys,
      ⟨_, rfl, Nat.zero_le _, mHide m1 D, S1, [], [], ys, Ext.hide rs1 hD, .inr rfl, rs1.hide hD, upd_same, Rels.nil, by rw [List.drop_zero]; exact hL, rfl⟩, ?_⟩
    rintro i μ H' ⟨rfl, hi, m', S', acc, vs, rest, x', hd', rs', e', ra, hl, hs⟩
    cases hdr : items.drop i with
    | nil =>
      have e : i = items.length := by
        have := List.drop_eq_nil_iff.mp hdr
        omega
      rw [hdr] at hl
      obtain ⟨c, rfl, rfl⟩ := lcLoop_nil hl
      rw [List.append_nil] at hs
      subst hs
      obtain ⟨_, st⟩ := it1 m' _ H' x'.w x'.fz rs' c
      exact .inl ⟨by rw [e]; exact st, lc_end rs1 hD x' hd' rs' e' ra w⟩
    | cons d ds =>
      rw [hdr] at hl
      obtain ⟨c, xs, S2, r2, hstep, hl2, rfl⟩ := lcLoop_cons hl
      obtain ⟨hlt, hget, hds⟩ := drop_cons hdr
      obtain ⟨g1, g2⟩ := (it1 m' S' H' x'.w x'.fz rs' c).1 i d hget
      refine .inr ⟨g1, _, fun H2 h2 => ⟨items.length - (i + 1), by omega, h2⟩, fun v H'' yv => ?_⟩
      obtain ⟨rs'', x'', rx⟩ := g2 v H'' yv
      have x3 := x'.trans x''
      have e3 : H'' D = some (.lst vs) := (x''.hid D hd').2.trans e'
      have ra3 := Rels.mono x'' _ _ ra
      refine ⟨m', wipeE ρ own, S', d, rs'', (er1.mono x3).wiped own, rx, ?_⟩
      obtain ⟨ρ1, Sa, ha, hstep⟩ := bind_ok hstep
      rw [ha]
      intro m4 H4 σ4 x4 rs4 ⟨er4, k4⟩
      refine ⟨k4.wiped, m4, ρ1, Sa, rs4, er4, ?_⟩
      obtain ⟨k, Sb, hk, hstep⟩ := bind_ok hstep
      rw [hk]
      intro m5 H5 b x5 rs5 rb
      cases rb
      have x5' := (x3.trans x4).trans x5
      have e5 : H5 D = some (.lst vs) := (((x4.trans x5).hid D (x''.hid D hd').1).2).trans e3
      have hd5 : m5.hid D := ((x4.trans x5).hid D (x''.hid D hd').1).1
      have ra5 := Rels.mono (x4.trans x5) _ _ ra3
      cases k with
      | false =>
        rw [if_neg Bool.false_ne_true] at hstep ⊢
        injection hstep with q1 q2
        subst q1 q2
        exact ⟨rfl, hlt, m5, Sb, acc, vs, r2, x5', hd5, rs5, e5, ra5, by rw [hds]; exact hl2, by rw [← hs]; rfl⟩
      | true =>
        rw [if_pos rfl] at hstep ⊢
        refine ⟨m5, ρ1, Sb, rs5, er4.mono x5, ?_⟩
        obtain ⟨y, Sc, hyv, hstep⟩ := bind_ok hstep
        injection hstep with q1 q2
        subst q1 q2
        rw [hyv]
        intro m6 H6 yv x6 rs6 r6
        have e6 : H6 D = some (.lst vs) := (x6.hid D hd5).2.trans e5
        have hd6 : m6.hid D := (x6.hid D hd5).1
        have hlen : vs.length < sizeLine := by
          rw [← ra.length]
          have : (acc ++ ([y] ++ r2)).length ≤ sizeLine := by rw [hs]; exact hy
          simp only [List.length_append, List.length_cons, List.length_nil] at this
          omega
        refine ⟨vs, e6, hlen, rfl, hlt, m6, Sc, acc ++ [y], vs ++ [yv], r2, (x5'.trans x6).own hD n1, hd6, rs6.own hd6, upd_same, Rels.append (Rels.monoW (ExtW.own hd6) _ _ (Rels.mono x6 _ _ ra5)) (Rels.cons (Rel.monoW (ExtW.own hd6) _ _ r6) Rels.nil), by rw [hds]; exact hl2, by rw [← hs, List.append_assoc]⟩
  · rw [hL] at w
    exact w.err
theorem ifs_nil : PTs X [] (tT g W (evIfs F [])) := by
  refine ⟨fun pins s σ H Q I ⟨m, ρ, S, rs, er, w⟩ => pts_nil.run pins s σ H Q I ?_⟩
  rw [evIfs] at w
  exact w.now rs rfl
theorem i_lc {elt tg iter : Expr} {ifs : List Expr} {scope : Scope} {own : List (Str × Nat)} (hc : X.calm = true) (hN : X.N.Nodup) (oki : okE iter = true) (hi : PI X tg iter (tI g W (evIt F it))) (ok : BlkOk X.N X.env.scope scope own)
    (hg : ∀ (s : Shared) (H : Hp) (C : Addr) (cl : List (Str × Addr)) (fp : List Addr), PG (X.blk s H scope (compEnvC scope cl C X.env) fp) tg (TGv g (own.map (·.2)) (asg F t)))
    (ht : ∀ (s : Shared) (H : Hp) (C : Addr) (cl : List (Str × Addr)) (fp : List Addr), PTs (X.blk s H scope (compEnvC scope cl C X.env) fp) ifs (tT g noX (evIfs F iifs)))
    (he : ∀ (s : Shared) (H : Hp) (C : Addr) (cl : List (Str × Addr)) (fp : List Addr), PE (X.blk s H scope (compEnvC scope cl C X.env) fp) elt (tE g noX (ev F ie))) :
    PE X (.ListComp elt [⟨tg, iter, ifs, 0⟩] scope pos) (tE g W (ev F (.lc box (own.map (·.2)) t it iifs ie))) :=
  PE.imp (pe_lc hc hN hi ok hg ht he (folded_ok oki)) fun σ H Q ⟨m, ρ, S, rs, er, w⟩ => lc_body rs er w
theorem s_setLc {i : Nat} {y : Str} {py spos : Pos} {elt tg iter : Expr} {ifs : List Expr} {scope : Scope} {own : List (Str × Nat)} (hc : X.calm = true) (hN : X.N.Nodup) (hy : X.N[i]? = some y) (hyl : X.env.scope.names.lookup y = some .local)
    (hsw : swapsWith (.ListComp elt [⟨tg, iter, ifs, 0⟩] scope pos) (some (.Name y py)) spos.line X.env = pure true) (oki : okE iter = true) (hi : PI X tg iter (tI g W (evIt F it))) (ok : BlkOk X.N X.env.scope scope own)
    (hg : ∀ (s : Shared) (H : Hp) (C : Addr) (cl : List (Str × Addr)) (fp : List Addr), PG (X.blk s H scope (compEnvC scope cl C X.env) fp) tg (TGv g (own.map (·.2)) (asg F t)))
    (ht : ∀ (s : Shared) (H : Hp) (C : Addr) (cl : List (Str × Addr)) (fp : List Addr), PTs (X.blk s H scope (compEnvC scope cl C X.env) fp) ifs (tT g noX (evIfs F iifs)))
    (he : ∀ (s : Shared) (H : Hp) (C : Addr) (cl : List (Str × Addr)) (fp : List Addr), PE (X.blk s H scope (compEnvC scope cl C X.env) fp) elt (tE g noX (ev F ie))) :
    PS X (.Assign [.Name y py] (.ListComp elt [⟨tg, iter, ifs, 0⟩] scope pos) spos) (tS g W (ex F (.asg (.var i) (.lc box (own.map (·.2)) t it iifs ie)))) := by
  refine PS.imp (ps_setLc hc hN hy hyl hsw hi ok hg ht he (folded_ok oki)) fun D σ H ⟨m, ρ, S, rs, er, w⟩ => ?_
  rw [ex] at w
  have q := WS.go (Ra := Rel g) rs er w
  refine lc_body (ρ := ρ) rs er (q.imp fun v H1 ⟨m1, S1, d, x1, rs1, er1, r1, w1⟩ => ?_)
  rw [asg] at w1
  exact w1.next rs1 (er1.set r1)
end
end Iv

/-! ### sum from a start, ranges as tuples, two names at once -/
namespace Iv
open PySem PySem.Spec PyProof.Rows L2
section
variable {prog : Program} {w : World} {A : Around} {E : Value → Shared → Prop} {s : Shared}
end
section
variable {g : Gs} {W : L2.WX} {X : Cx} {F : CE} {p pos : Pos} {a b e : Expr} {ia ib ie : E}
theorem seqOf_tup {S : Sto} {xs : List Iv.D} : seqOf S (.tup xs) = some xs := rfl
theorem s_par2 {i j : Nat} {x y : Str} {px py pt : Pos} {kt k2 : Nat} {pt2 : Pos} (hN : X.N.Nodup) (ha : PA X [a, b] (tEs g W (evs F [ia, ib]))) (hi : X.N[i]? = some x := by rfl) (hj : X.N[j]? = some y := by rfl) (hij : i ≠ j := by decide)
    (hx : X.env.scope.names.lookup x = some .local := by rfl) (hy : X.env.scope.names.lookup y = some .local := by rfl) (hw : swappedStores [.Tuple [.Name x px, .Name y py] kt pt] (.Tuple [a, b] k2 pt2) X.env = pure (some [x, y]) := by rfl) (hc : X.calm = true := by rfl) :
    PS X (.Assign [.Tuple [.Name x px, .Name y py] kt pt] (.Tuple [a, b] k2 pt2) pos) (tS g W (ex F (.asg (.tup [.var i, .var j]) (.tup [ia, ib])))) := by
  refine PS.imp (ps_par hc hN hi hj hij hx hy ha hw) fun D σ H ⟨m, ρ, S, rs, er, w⟩ => ?_
  rw [ex, ev] at w
  cases hh : evs F [ia, ib] ρ S with
  | ok xs S1 =>
    have hl := evs_length hh
    match xs, hl with
    | [d, e], _ =>
      refine ⟨m, ρ, S, rs, er, ?_⟩
      rw [hh] at w ⊢
      intro m1 H1 vs x1 rs1 r1
      obtain ⟨v, v2, rfl, rv, rv2⟩ := Rels.two r1
      refine ⟨v, v2, rfl, ?_⟩
      have w : WS g W m S.length H ((ck (2 ≤ sizeLine) (R.ok (Iv.D.tup [d, e]) S1)).go ρ fun d S => (asg F (.tup [.var i, .var j]) d ρ S).st fun ρ S => .ok (.next ρ) S) D := w
      rw [ck_of (by decide), R.go_ok, asg, seqOf_tup] at w
      have w : WS g W m S.length H ((ck (2 = 2) (asgs F [.var i, .var j] [d, e] ρ S1)).st fun ρ S => .ok (.next ρ) S) D := w
      rw [ck_of rfl, asgs, asg, R.bind_ok, asgs, asg, R.bind_ok, asgs] at w
      exact w m1 H1 _ x1 rs1 (((er.mono x1).set rv).set rv2)
  | exc x S1 =>
    refine ⟨m, ρ, S, rs, er, ?_⟩
    rw [hh] at w ⊢
    exact fun m' H' c d x rs' q => w m' H' σ c d x rs' (er.mono x) q
  | err => rw [hh] at w; exact w.elim
end
end Iv

/-! ### zip(.., strict=True) -/
namespace Wz
open PySem
open PySem.Sem (wp)
open Builtin.SmallTypes (nextOrEnd nextOf)
/-- a zip that is strict, as it stands -/
abbrev ZS (h : Heap) (z ti tu : Addr) (v0 : Value) : Prop := h.get? z = some { cls := .type "zip", dict := none, data := .fields #[v0, .bool false, .bool true, .ref ti, .ref tu], slots := #[] }
section
variable {prog : Program} {w : World} {A : Around} {E : Value → Shared → Prop} {s : Shared} {z ti tu j1 j2 : Addr} {fa fb : List Addr} {m1 m2 i : Nat} {Pa Pb : Nat → Value → Prop} {Sa Sb : Nat → Heap → Prop} {u1 u2 : Value}
theorem noe_item {n : Nat} {P : Nat → Value → Prop} {St : Nat → Heap → Prop} {it : Addr} {fp : List Addr} {Q : Option Value → Shared → Prop} (D : Draws prog w A it fp n P St) (st : St i s.heap) (hi : i < n)
    (q : ∀ v h' tk, P i v → St (i + 1) h' → Heap.SameBut it s.heap h' → Q (some v) { s with heap := h', toks := tk }) : wpAny (model prog w) A (nextOrEnd (.ref it)) Q E s := by
  unfold nextOrEnd
  exact wpAny_bind (wpAny_attempt (D.item i s _ _ hi st fun v h' tk p sn hs => wpAny_pure (q v h' tk p sn hs)))
theorem noe_end {n : Nat} {P : Nat → Value → Prop} {St : Nat → Heap → Prop} {it : Addr} {fp : List Addr} {Q : Option Value → Shared → Prop} (D : Draws prog w A it fp n P St) (st : St n s.heap)
    (q : ∀ h', Heap.ExtBut it s.heap h' → Q none { s with heap := h' }) : wpAny (model prog w) A (nextOrEnd (.ref it)) Q E s := by
  unfold nextOrEnd
  refine wpAny_bind (wpAny_attempt (D.done s _ _ st fun h' e hs he => ?_))
  obtain ⟨o, ho, hc⟩ := he
  exact wpAny_bind (wpAny_isInstance (T := "StopIteration") (b := true) ⟨o, ho, hc⟩ isSubtype_stop (wpAny_pure (q h' hs)))
theorem zs_item {Q : Value → Shared → Prop} (S : ZipSep2 z ti tu j1 j2 fa fb) (Da : Draws prog w A j1 fa m1 Pa Sa) (Db : Draws prog w A j2 fb m2 Pb Sb)
    (hz : ZS s.heap z ti tu .none) (ht : IsTupOf2 s.heap ti (.ref j1) (.ref j2)) (hu : IsTupOf2 s.heap tu u1 u2) (sa : Sa i s.heap) (sb : Sb i s.heap) (la : i < m1) (lb : i < m2)
    (q : ∀ x y h' tk, Pa i x → Pb i y → ZS h' z ti tu (rawInt s.heap.objs.size) → IsTupOf2 h' tu x y → Sa (i + 1) h' → Sb (i + 1) h' → IsTupOf2 h' s.heap.objs.size x y → h'.objs.size = s.heap.objs.size + 1 →
      (∀ c o, c ≠ z → c ≠ tu → c ≠ j1 → c ≠ j2 → s.heap.get? c = some o → h'.get? c = some o) → Q (.ref s.heap.objs.size) { s with heap := h', toks := tk }) :
    wpAny (model prog w) A (Builtin.«zip.__next__» ⟨[.ref z], []⟩) (fun fin s' => ∃ v, fin = .done (.ret v) ∧ Q v s') E s := by
  obtain ⟨hp, g, d, t0, os⟩ := s
  show wpAny _ _ (field (.ref z) 2 >>= _) _ _ _
  refine wpAny_bind (wpAny_field hz rfl (x := .bool true) rfl ?_)
  show wpAny _ _ (field (.ref z) 3 >>= _) _ _ _
  refine wpAny_bind (wpAny_field hz rfl (x := .ref ti) rfl ?_)
  refine wpAny_bind (wpAny_seqItems ht rfl ?_)
  show wpAny _ _ (Builtin.SmallTypes.ownedTupleIsFree (.ref z) >>= _) _ _ _
  refine wpAny_bind ?_
  unfold Builtin.SmallTypes.ownedTupleIsFree
  refine wpAny_bind (wpAny_field hz rfl (x := .none) rfl (wpAny_pure ?_))
  simp only [if_true]
  refine wpAny_bind (wpAny_rule ?_)
  refine wpAny_bind (wpAny_field hz rfl (x := .ref tu) rfl ?_)
  refine wpAny_bind (wpAny_setField_rec hz (by simp) fun g0 hz0 hs0 => ?_)
  replace hz0 : ZS g0 z ti tu .ellipsis := hz0
  replace hs0 : Heap.SameBut z hp g0 := hs0
  refine wpAny_bind ?_
  simp only [List.zipIdx_cons, List.zipIdx_nil, List.forIn_cons, List.forIn_nil]
  refine wpAny_bind (wpAny_bind (wpAny_onRaise ?_))
  show wpAny _ _ (nextOrEnd (.ref j1)) _ _ ⟨g0, g, d, t0, os⟩
  refine noe_item Da (Da.over sa hs0 S.zf1) la fun x1 p1 k1 hx1 sn1 hp1 => ?_
  replace hp1 : Heap.SameBut j1 g0 p1 := hp1
  have hv1 : IsTupOf2 p1 tu u1 u2 := hp1.extBut _ _ S.Ti1 (hs0.extBut _ _ S.TOz hu)
  refine wpAny_bind (wpAny_seqItems (s := ⟨p1, g, d, k1, os⟩) hv1 rfl ?_)
  refine wpAny_bind (updateSeq_IsTupOf2 (s := ⟨p1, g, d, k1, os⟩) hv1 fun g1 ha1 hs1 => ?_)
  replace ha1 : IsTupOf2 g1 tu x1 u2 := ha1
  replace hs1 : Heap.SameBut tu p1 g1 := hs1
  refine wpAny_bind (wpAny_letGo (wpAny_pure ?_))
  refine wpAny_bind (wpAny_bind (wpAny_onRaise ?_))
  show wpAny _ _ (nextOrEnd (.ref j2)) _ _ ⟨g1, g, d, k1, os⟩
  refine noe_item Db (Db.over (Db.over (Db.over sb hs0 S.zf2) hp1 S.sep1_2) hs1 S.Tf2) lb fun x2 p2 k2 hx2 sn2 hp2 => ?_
  replace hp2 : Heap.SameBut j2 g1 p2 := hp2
  have hv2 : IsTupOf2 p2 tu x1 u2 := hp2.extBut _ _ S.Ti2 ha1
  refine wpAny_bind (wpAny_seqItems (s := ⟨p2, g, d, k2, os⟩) hv2 rfl ?_)
  refine wpAny_bind (updateSeq_IsTupOf2 (s := ⟨p2, g, d, k2, os⟩) hv2 fun g2 ha2 hs2 => ?_)
  replace ha2 : IsTupOf2 g2 tu x1 x2 := ha2
  replace hs2 : Heap.SameBut tu p2 g2 := hs2
  refine wpAny_bind (wpAny_letGo (wpAny_pure (wpAny_pure ?_)))
  refine wpAny_bind (wpAny_seqItems (s := ⟨g2, g, d, k2, os⟩) ha2 rfl ?_)
  refine wpAny_bind (wpAny_newTuple ?_)
  have ez : g2.objs.size = hp.objs.size := by rw [hs2.1, hp2.1, hs1.1, hp1.1, hs0.1]
  have zz : ZS g2 z ti tu .ellipsis := (hs2.extBut _ _ S.TOz.symm (hp2.extBut _ _ S.zi2 (hs1.extBut _ _ S.TOz.symm (hp1.extBut _ _ S.zi1 hz0))))
  have kk : ∀ c o, c ≠ z → c ≠ tu → c ≠ j1 → c ≠ j2 → hp.get? c = some o → g2.get? c = some o := fun c o cz cT c1 c2 e =>
    (hs2.extBut _ _ cT (hp2.extBut _ _ c2 (hs1.extBut _ _ cT (hp1.extBut _ _ c1 (hs0.extBut _ _ cz e)))))
  have r1 : Sa (i + 1) g2 := (Da.over (Da.over (Da.over sn1 hs1 S.Tf1) hp2 S.sep2_1) hs2 S.Tf1)
  have r2 : Sb (i + 1) g2 := (Db.over sn2 hs2 S.Tf2)
  have zl : z < g2.objs.size := Heap.lt_size zz
  show wpAny _ _ (Builtin.SmallTypes.ownedTupleHandOut (.ref z) (.ref g2.objs.size) >>= _) _ _ ⟨g2.push { cls := .type "tuple", data := .seq #[x1, x2] }, g, d, k2, os⟩
  refine wpAny_bind ?_
  unfold Builtin.SmallTypes.ownedTupleHandOut
  have z6 : ZS (g2.push { cls := .type "tuple", data := .seq #[x1, x2] }) z ti tu .ellipsis := Heap.get?_push_of_some _ zz
  refine wpAny_bind (wpAny_setField_rec z6 (by simp) fun h7 z7 s7 => ?_)
  replace z7 : ZS h7 z ti tu (rawInt g2.objs.size) := z7
  refine wpAny_setField_rec z7 (by simp) fun h8 z8 s8 => ?_
  replace z8 : ZS h8 z ti tu (rawInt g2.objs.size) := z8
  replace s7 : Heap.SameBut z (g2.push { cls := .type "tuple", data := .seq #[x1, x2] }) h7 := s7
  replace s8 : Heap.SameBut z h7 h8 := s8
  have up : ∀ c o, c ≠ z → g2.get? c = some o → h8.get? c = some o := fun c o c1 e => s8.extBut _ _ c1 (s7.extBut _ _ c1 (Heap.get?_push_of_some _ e))
  have t8 : IsTupOf2 h8 g2.objs.size x1 x2 := s8.extBut _ _ (Nat.ne_of_gt zl) (s7.extBut _ _ (Nat.ne_of_gt zl) (Heap.get?_push_size _ rfl))
  have l8 : h8.objs.size = g2.objs.size + 1 := by rw [s8.1, s7.1, Heap.size_push]
  rw [ez] at z8 t8 l8
  refine wpAny_pure ⟨_, rfl, ?_⟩
  show Q (.ref g2.objs.size) ⟨h8, g, d, k2, os⟩
  rw [ez]
  exact q x1 x2 h8 k2 hx1 hx2 z8 (up _ _ S.TOz ha2) (Da.frame _ _ _ r1 fun b hb o e => up b o (fun q => S.zf1 (q ▸ hb)) e) (Db.frame _ _ _ r2 fun b hb o e => up b o (fun q => S.zf2 (q ▸ hb)) e) t8 l8 fun c o cz cT c1 c2 e => up c o cz (kk c o cz cT c1 c2 e)
/-- both end together -/
theorem zs_end {Q : Fin → Shared → Prop} (hh : A.handled = none) (S : ZipSep2 z ti tu j1 j2 fa fb) (Da : Draws prog w A j1 fa i Pa Sa) (Db : Draws prog w A j2 fb i Pb Sb)
    (hz : ZS s.heap z ti tu .none) (ht : IsTupOf2 s.heap ti (.ref j1) (.ref j2)) (hu : IsTupOf2 s.heap tu u1 u2) (sa : Sa i s.heap) (sb : Sb i s.heap)
    (q : ∀ h' tk e, (∀ c o, c ≠ z → c ≠ tu → c ≠ j1 → c ≠ j2 → s.heap.get? c = some o → h'.get? c = some o) → (∃ o, h'.get? e = some o ∧ o.cls = .type "StopIteration") → E (.ref e) { s with heap := h', toks := tk }) :
    wpAny (model prog w) A (Builtin.«zip.__next__» ⟨[.ref z], []⟩) Q E s := by
  obtain ⟨hp, g, d, t0, os⟩ := s
  show wpAny _ _ (field (.ref z) 2 >>= _) _ _ _
  refine wpAny_bind (wpAny_field hz rfl (x := .bool true) rfl ?_)
  show wpAny _ _ (field (.ref z) 3 >>= _) _ _ _
  refine wpAny_bind (wpAny_field hz rfl (x := .ref ti) rfl ?_)
  refine wpAny_bind (wpAny_seqItems ht rfl ?_)
  show wpAny _ _ (Builtin.SmallTypes.ownedTupleIsFree (.ref z) >>= _) _ _ _
  refine wpAny_bind ?_
  unfold Builtin.SmallTypes.ownedTupleIsFree
  refine wpAny_bind (wpAny_field hz rfl (x := .none) rfl (wpAny_pure ?_))
  simp only [if_true]
  refine wpAny_bind (wpAny_rule ?_)
  refine wpAny_bind (wpAny_field hz rfl (x := .ref tu) rfl ?_)
  refine wpAny_bind (wpAny_setField_rec hz (by simp) fun g0 hz0 hs0 => ?_)
  replace hz0 : ZS g0 z ti tu .ellipsis := hz0
  replace hs0 : Heap.SameBut z hp g0 := hs0
  refine wpAny_bind ?_
  simp only [List.zipIdx_cons, List.zipIdx_nil, List.forIn_cons, List.forIn_nil]
  refine wpAny_bind (wpAny_bind (wpAny_onRaise ?_))
  show wpAny _ _ (nextOrEnd (.ref j1)) _ _ ⟨g0, g, d, t0, os⟩
  refine noe_end Da (Da.over sa hs0 S.zf1) fun p1 hp1 => ?_
  replace hp1 : Heap.ExtBut j1 g0 p1 := hp1
  have hz1 : ZS p1 z ti tu .ellipsis := hp1 _ _ S.zi1 hz0
  refine wpAny_bind (wpAny_setField_rec (s := ⟨p1, g, d, t0, os⟩) hz1 (by simp) fun g1 hz2 hs1 => ?_)
  replace hs1 : Heap.SameBut z p1 g1 := hs1
  refine wpAny_bind ?_
  show wpAny _ _ (_ >>= _) _ _ _
  refine wpAny_bind ?_
  simp only [List.drop_succ_cons, List.drop_zero, List.zipIdx_cons, List.zipIdx_nil, List.forIn_cons, List.forIn_nil]
  refine wpAny_bind (wpAny_bind (noe_end Db (Db.over (Db.frame _ _ _ (Db.over sb hs0 S.zf2) fun b hb o e => hp1 b o (fun x => S.sep1_2 (x ▸ hb)) e) hs1 S.zf2) fun p2 hp2 => ?_))
  replace hp2 : Heap.ExtBut j2 g1 p2 := hp2
  simp only [Option.isSome_none, Bool.false_eq_true, if_false]
  refine wpAny_pure (wpAny_pure ?_)
  refine wpAny_bind (wpAny_rule ?_)
  show wpAny _ _ (newExc (.type "StopIteration") [] >>= _) _ _ ⟨p2, g, d, t0, os⟩
  refine wpAny_bind ?_
  simp only [newExc, newTuple]
  refine wpAny_bind (wpAny_newObj_type ?_ (by size_fits))
  refine wpAny_bind (m := firstArgMember _ _) (wpAny_of_eq (a := Value.none) (by first | rfl | (simp only [firstArgMember]; rfl)) ?_)
  refine wpAny_newObj_type ?_ (by size_fits)
  simp only [raiseNew]
  refine wpAny_bind (wpAny_handled ?_)
  first | rw [show A.in1.handled = none from hh] | rw [hh]
  refine wpAny_bind (wpAny_pure (wpAny_throw ?_))
  refine q _ _ _ (fun c o cz cT c1 c2 e => ?_) ⟨_, Heap.get?_push_size _ rfl, rfl⟩
  exact Heap.get?_push_of_some _ (Heap.get?_push_of_some _ (hp2 _ _ c2 (hs1.extBut _ _ cz (hp1 _ _ c1 (hs0.extBut _ _ cz e)))))
theorem zs_next_item {Q : Option Value → Shared → Prop} (S : ZipSep2 z ti tu j1 j2 fa fb) (Da : Draws prog w A.in1 j1 fa m1 Pa Sa) (Db : Draws prog w A.in1 j2 fb m2 Pb Sb)
    (hz : ZS s.heap z ti tu .none) (ht : IsTupOf2 s.heap ti (.ref j1) (.ref j2)) (hu : IsTupOf2 s.heap tu u1 u2) (sa : Sa i s.heap) (sb : Sb i s.heap) (la : i < m1) (lb : i < m2)
    (q : ∀ x y h' tk, Pa i x → Pb i y → ZS h' z ti tu (rawInt s.heap.objs.size) → IsTupOf2 h' tu x y → Sa (i + 1) h' → Sb (i + 1) h' → IsTupOf2 h' s.heap.objs.size x y → h'.objs.size = s.heap.objs.size + 1 →
      (∀ c o, c ≠ z → c ≠ tu → c ≠ j1 → c ≠ j2 → s.heap.get? c = some o → h'.get? c = some o) → Q (some (.ref s.heap.objs.size)) { s with heap := h', toks := tk }) :
    wpAny (model prog w) A (pyNext (.ref z)) Q E s := by
  have it : s.TypeIs (.ref z) "zip" := ⟨_, hz, rfl⟩
  unfold pyNext
  exact wpAny_bind (wpAny_attempt (wpAny_callSpecial?_slot (name := Str.ofString "__next__") it F.slot_zip_next (wpAny_call_entry F.slot_zip_next it F.entry_zip_next
    (zs_item S Da Db hz ht hu sa sb la lb fun x y h' tk y1 y2 b1 b2 d1 d2 b5 b6 b7 => wpAny_pure (q x y h' tk y1 y2 b1 b2 d1 d2 b5 b6 b7)) (F.args_zip_next_1 _))))
theorem zs_next_end {Q : Option Value → Shared → Prop} (hh : A.handled = none) (S : ZipSep2 z ti tu j1 j2 fa fb) (Da : Draws prog w A.in1 j1 fa i Pa Sa) (Db : Draws prog w A.in1 j2 fb i Pb Sb)
    (hz : ZS s.heap z ti tu .none) (ht : IsTupOf2 s.heap ti (.ref j1) (.ref j2)) (hu : IsTupOf2 s.heap tu u1 u2) (sa : Sa i s.heap) (sb : Sb i s.heap)
    (q : ∀ h' tk, (∀ c o, c ≠ z → c ≠ tu → c ≠ j1 → c ≠ j2 → s.heap.get? c = some o → h'.get? c = some o) → Q none { s with heap := h', toks := tk }) : wpAny (model prog w) A (pyNext (.ref z)) Q E s := by
  have it : s.TypeIs (.ref z) "zip" := ⟨_, hz, rfl⟩
  unfold pyNext
  refine wpAny_bind (wpAny_attempt (wpAny_callSpecial?_slot (name := Str.ofString "__next__") it F.slot_zip_next (wpAny_call_entry F.slot_zip_next it F.entry_zip_next
    (zs_end hh S Da Db hz ht hu sa sb fun h' tk e hk he => ?_) (F.args_zip_next_1 _))))
  obtain ⟨o, ho, hc⟩ := he
  exact wpAny_bind (wpAny_isInstance (T := "StopIteration") (b := true) ⟨o, ho, hc⟩ isSubtype_stop (wpAny_pure (q _ _ hk)))
end
end Wz
namespace Wz
open PySem
open PySem.Sem (wp)
open Builtin.SmallTypes (nextOrEnd nextOf)
theorem tc_zip (a b c : Value) : checkTypeCall "zip" ⟨[a, b], [(Str.ofString "strict", c)]⟩ = pure () := by kernel_rfl
theorem nc_zip (a b c : Value) : checkBuiltinCall "zip.__new__" ⟨[.type "zip", a, b], [(Str.ofString "strict", c)]⟩ = pure () := by kernel_rfl
theorem oi_zip (o a b c : Value) : argsOk "object.__init__" ⟨[o, a, b], [(Str.ofString "strict", c)]⟩ := by unfold argsOk; kernel_rfl
abbrev hT (h : Heap) (o1 o2 : Obj) : Heap := ((h.push o1).push o2).push { cls := .type "tuple", data := .seq #[.ref h.objs.size, .ref (h.push o1).objs.size] }
abbrev hU (h : Heap) (o1 o2 : Obj) : Heap := (hT h o1 o2).push { cls := .type "tuple", data := .seq #[.none, .none] }
abbrev hZ (h : Heap) (o1 o2 : Obj) : Heap := (hU h o1 o2).push { cls := .type "zip", data := .fields #[.none, .bool false, .bool true, .ref ((h.push o1).push o2).objs.size, .ref (hT h o1 o2).objs.size] }
theorem meets_zipStrict {v1 v2 : Value} {o1 o2 : Obj} {H1 H2 : Heap → Prop} (B1 : Begins v1 o1 H1) (B2 : Begins v2 o2 H2) :
    Meets (Builtin.«zip.__new__» ⟨[.type "zip", v1, v2], [(Str.ofString "strict", .bool true)]⟩) (fun _ R s => (H1 s.heap ∧ H2 s.heap) ∧ R (.ok (.ret (.ref (hU s.heap o1 o2).objs.size))) { s with heap := hZ s.heap o1 o2 }) :=
  .of_wp fun prog w A R s h => by
    obtain ⟨hp, g, d, tk, os⟩ := s; obtain ⟨⟨h1, h2⟩, h⟩ := h
    have isub := sub_zip
    have w1 : ∀ {A' : Around} {E : Value → Shared → Prop} {Q : Value → Shared → Prop}, Q (.ref hp.objs.size) ⟨hp.push o1, g, d, tk, os⟩ → wpAny (model prog w) A' (pyIter v1) Q E ⟨hp, g, d, tk, os⟩ :=
      fun q => B1.iter prog w _ _ ⟨hp, g, d, tk, os⟩ _ h1 q
    have w2 : ∀ {A' : Around} {E : Value → Shared → Prop} {Q : Value → Shared → Prop}, Q (.ref (hp.push o1).objs.size) ⟨(hp.push o1).push o2, g, d, tk, os⟩ → wpAny (model prog w) A' (pyIter v2) Q E ⟨hp.push o1, g, d, tk, os⟩ :=
      fun q => B2.iter prog w _ _ ⟨hp.push o1, g, d, tk, os⟩ _ (B2.keeps _ _ h2 fun b o' e => Heap.get?_push_of_some _ e) q
    have e1 : (Str.ofString "strict" != ("strict" : Str)) = false := by decide +kernel
    have e2 : (Str.ofString "strict" == ("strict" : Str)) = true := by decide +kernel
    wp_walk using w1, w2
    exact ⟨_, rfl, h⟩
section
variable {prog : Program} {w : World} {A : Around} {E : Value → Shared → Prop} {s : Shared}
theorem zs_begins {v1 v2 : Value} {o1 o2 : Obj} {H1 H2 : Heap → Prop} {Q : Value → Shared → Prop} (B1 : Begins v1 o1 H1) (B2 : Begins v2 o2 H2) (h1 : H1 s.heap) (h2 : H2 s.heap)
    (q : ∀ h', ZS h' (s.heap.objs.size + 4) (s.heap.objs.size + 2) (s.heap.objs.size + 3) .none → IsTupOf2 h' (s.heap.objs.size + 2) (.ref s.heap.objs.size) (.ref (s.heap.objs.size + 1)) →
      IsTupOf2 h' (s.heap.objs.size + 3) .none .none → h'.get? s.heap.objs.size = some o1 → h'.get? (s.heap.objs.size + 1) = some o2 → (∀ c o, s.heap.get? c = some o → h'.get? c = some o) → Q (.ref (s.heap.objs.size + 4)) { s with heap := h' }) :
    wpAny (model prog w) A (call (.type "zip") [v1, v2] [(Str.ofString "strict", .bool true)]) Q E s := by
  refine callType_newKw F.called_zip (by decide) (tc_zip _ _ _) (nc_zip _ _ _) (fun o => oi_zip o _ _ _) F.entry_zip_new (meets_zipStrict B1 B2) ⟨⟨h1, h2⟩, ?_⟩
  have y1 : (s.heap.push o1).objs.size = s.heap.objs.size + 1 := by rw [Heap.size_push]
  have y2 : ((s.heap.push o1).push o2).objs.size = s.heap.objs.size + 2 := by rw [Heap.size_push, y1]
  have yT : (hT s.heap o1 o2).objs.size = s.heap.objs.size + 3 := by rw [Heap.size_push, y2]
  have yU : (hU s.heap o1 o2).objs.size = s.heap.objs.size + 4 := by rw [Heap.size_push, yT]
  have aZ : (hZ s.heap o1 o2).get? (hU s.heap o1 o2).objs.size = some _ := Heap.get?_push_size _ rfl
  have aU : (hZ s.heap o1 o2).get? (hT s.heap o1 o2).objs.size = some _ := Heap.get?_push_of_some _ (Heap.get?_push_size _ rfl)
  have aT : (hZ s.heap o1 o2).get? ((s.heap.push o1).push o2).objs.size = some _ := Heap.get?_push_of_some _ (Heap.get?_push_of_some _ (Heap.get?_push_size _ rfl))
  have a1 : (hZ s.heap o1 o2).get? s.heap.objs.size = some o1 := Heap.get?_push_of_some _ (Heap.get?_push_of_some _ (Heap.get?_push_of_some _ (Heap.get?_push_of_some _ (Heap.get?_push_size _ B1.free))))
  have a2 : (hZ s.heap o1 o2).get? (s.heap.push o1).objs.size = some o2 := Heap.get?_push_of_some _ (Heap.get?_push_of_some _ (Heap.get?_push_of_some _ (Heap.get?_push_size _ B2.free)))
  rw [yU, yT, y2] at aZ
  rw [yT] at aU
  rw [y2, y1] at aT
  rw [y1] at a2
  show _ ∧ _
  rw [yU]
  exact ⟨⟨_, aZ, rfl⟩, q _ aZ aT aU a1 a2 fun c o e => Heap.get?_push_of_some _ (Heap.get?_push_of_some _ (Heap.get?_push_of_some _ (Heap.get?_push_of_some _ (Heap.get?_push_of_some _ e))))⟩
end
end Wz
/-! ### the same for lists (true) and tuples (false) in any mix, in the hand layer -/
namespace Wz
open PySem PySem.Spec PyProof.Rows L2
def AtI (k : Bool) (h : Heap) (it l : Addr) (i : Nat) : Prop := match k with
  | true => h.IsListIter it l i
  | false => h.IsTupleIter it l i
def OfI (k : Bool) (h : Heap) (l : Addr) (xs : Array Value) : Prop := match k with
  | true => h.IsList l xs
  | false => h.IsTuple l xs
def Sq (k : Bool) (K : PySem.W.Frag) (H : Hp) (a : Addr) (xs : List V) : Prop := match k with
  | true => SqL K H a xs
  | false => SqT K H a xs
def objI (k : Bool) (l : Addr) : Obj := match k with
  | true => { cls := .type "list_iterator", data := .fields #[.ref l, .int 0 0] }
  | false => { cls := .type "tuple_iterator", data := .fields #[.ref l, .int 0 0] }
theorem AtI.obj {k : Bool} {h : Heap} {it l : Addr} {i : Nat} (x : AtI k h it l i) : ∃ o, h.get? it = some o ∧ ∀ v, o.data ≠ .cell v := by
  cases k with
  | true => obtain ⟨o, e, _, d⟩ := x; exact ⟨o, e, fun v q => by rw [d] at q; cases q⟩
  | false => obtain ⟨o, e, _, d⟩ := x; exact ⟨o, e, fun v q => by rw [d] at q; cases q⟩
theorem AtI.to {k : Bool} {h h' : Heap} {it l : Addr} {i : Nat} (x : AtI k h it l i) (f : ∀ o, h.get? it = some o → h'.get? it = some o) : AtI k h' it l i := by
  cases k with
  | true => exact Heap.IsListIter.at x f
  | false => exact Heap.IsTupleIter.at x f
theorem AtI.lt {k : Bool} {h : Heap} {it l : Addr} {i : Nat} (x : AtI k h it l i) : it < h.objs.size := by
  obtain ⟨o, e, _⟩ := x.obj
  exact Heap.lt_size e
theorem draws {k : Bool} {prog : Program} {w : World} {A : Around} (hh : A.handled = none) (it l : Addr) (ne : l ≠ it) (xs : Array Value) :
    Draws prog w A it [it, l] xs.size (fun i v => xs[i]? = some v) (fun i h => AtI k h it l i ∧ OfI k h l xs) := by
  cases k with
  | true => exact Draws.list hh it l ne xs
  | false => exact Draws.tuple hh it l ne xs
theorem begins (k : Bool) (l : Addr) (xs : Array Value) : Begins (.ref l) (objI k l) fun h => OfI k h l xs := by
  cases k with
  | true => exact begins_list l xs
  | false => exact begins_tuple l xs
theorem AtI.fresh {k : Bool} {h : Heap} {it l : Addr} (e : h.get? it = some (objI k l)) : AtI k h it l 0 := by
  cases k with
  | true => exact ⟨_, e, rfl, rfl⟩
  | false => exact ⟨_, e, rfl, rfl⟩
section
variable {X : Cx} {pins : List (Addr × Obj)} {σ : L2.St} {H : Hp} {s : Shared}
theorem sq_of (I : Inv X pins σ H s) {k : Bool} {a : Addr} {xs : List V} (h : Sq k X.K H a xs) : ∃ its : List Value, Vals xs its ∧ OfI k s.heap a its.toArray := by
  cases k with
  | true => obtain ⟨its, r, p, _⟩ := I.list h; exact ⟨its, r, p.isList⟩
  | false => obtain ⟨its, r, p, _⟩ := I.tuple h; exact ⟨its, r, p⟩
theorem sq_inj (I : Inv X pins σ H s) {k : Bool} {a : Addr} {xs ys : List V} (h : Sq k X.K H a xs) (h' : Sq k X.K H a ys) : xs = ys := by
  cases k with
  | true => exact I.list_inj h h'
  | false => exact I.tuple_inj h h'
theorem OfI.lt {k : Bool} {h : Heap} {a : Addr} {xs : Array Value} (x : OfI k h a xs) : a < h.objs.size := by
  cases k with
  | true => obtain ⟨o, e, _⟩ := x; exact Heap.lt_size e
  | false => obtain ⟨o, e, _⟩ := x; exact Heap.lt_size e
end
/-- the two walk together and end together, the items in new pairs -/
def ItS (K : PySem.W.Frag) (k1 k2 : Bool) (a b : Addr) : It where
  go := fun i H => ∃ xs ys x y, Sq k1 K H a xs ∧ Sq k2 K H b ys ∧ xs[i]? = some x ∧ ys[i]? = some y
  yld := fun i H v H' => ∃ T x y, v = .ref T ∧ H T = none ∧ (∃ o, Iv.NewT o ∧ H' = upd H T (.frz o (.tup [x, y]))) ∧ (∀ xs, Sq k1 K H a xs → xs[i]? = some x) ∧ ∀ ys, Sq k2 K H b ys → ys[i]? = some y
  stop := fun i H => ∃ xs ys : List V, Sq k1 K H a xs ∧ Sq k2 K H b ys ∧ xs.length = i ∧ ys.length = i
structure Lie (z ti tu j1 j2 a b : Addr) : Prop where
  sep : ZipSep2 z ti tu j1 j2 [j1, a] [j2, b]
  aj : a ≠ j1
  bj : b ≠ j2
theorem nn {a b : Nat} (h : ¬ a = b) : ¬ @Eq Addr a b := h
theorem no {a b c : Nat} (h : ¬ a = b) (h' : ¬ a = c) : ¬ (@Eq Addr a b ∨ @Eq Addr a c) := fun q => q.elim h h'
theorem lie (n a b : Nat) (h1 : a < n) (h2 : b < n) : Lie (n + 4) (n + 2) (n + 3) n (n + 1) a b := by
  refine ⟨⟨?_, ?_, ?_, ?_, ?_, ?_, ?_, ?_, ?_, ?_, ?_, ?_, ?_⟩, ?_, ?_⟩ <;> (simp only [List.mem_cons, List.not_mem_nil, or_false, true_or, ne_eq]; try (first | exact nn (by omega) | exact no (by omega) (by omega)))
end Wz
namespace Wz
open PySem PySem.Spec PyProof.Rows L2
section
variable {prog : Program} {w : World} {A : Around} {E : Value → Shared → Prop} {s : Shared}
theorem zs_go {elts : List Expr} {kk : Nat} {pos : Pos} {z ti tu T : Addr} {Q : Unit → Shared → Prop} (hz : ZS s.heap z ti tu (rawInt T))
    (q : ∀ h', ZS h' z ti tu .none → Heap.SameBut z s.heap h' → Q () { s with heap := h' }) : wpAny (model prog w) A (letOwnedTupleGo (.Tuple elts kk pos) (.ref z) (.ref T)) Q E s := by
  unfold letOwnedTupleGo
  refine wpAny_bind (wpAny_load hz ?_)
  show wpAny _ _ (if ((_ : List String).contains "zip" && (#[rawInt T, .bool false, .bool true, .ref ti, .ref tu] : Array Value)[0]? == some (rawInt T)) = true then _ else _) Q E s
  rw [if_pos (by simp)]
  refine wpAny_bind (wpAny_rule ?_)
  exact wpAny_setField_rec hz (by simp) fun h' a b => q h' a b
theorem zs_self {z ti tu : Addr} {v0 : Value} {Q : Value → Shared → Prop} (hz : ZS s.heap z ti tu v0) (q : Q (.ref z) s) : wpAny (model prog w) A (pyIter (.ref z)) Q E s := by
  have it : s.TypeIs (.ref z) "zip" := ⟨_, hz, rfl⟩
  refine wpAny_pyIter_slot it F.slot_zip_iter (wpAny_call_entry F.slot_zip_iter it F.entry_zip_iter ?_ (F.args_zip_iter_1 _))
  exact wpAny_pure ⟨_, rfl, "zip", _, it, F.slot_zip_next.lookup, q⟩
end
theorem turnS {P : Program} {w : World} {K : PySem.W.Frag} {elts : List Expr} {kk : Nat} {tpos : Pos} {k1 k2 : Bool} {a b z ti tu j1 j2 : Addr} (D : Lie z ti tu j1 j2 a b) :
    Turn P w K (.Tuple elts kk tpos) (ItS K k1 k2 a b) [z, ti, tu, j1, j2] z (fun i h => ZS h z ti tu .none ∧ IsTupOf2 h ti (.ref j1) (.ref j2) ∧ (∃ x y, IsTupOf2 h tu x y) ∧ AtI k1 h j1 a i ∧ AtI k2 h j2 b i) := by
  have five : ∀ {R : Addr → Prop}, R z → R ti → R tu → R j1 → R j2 → ∀ c ∈ [z, ti, tu, j1, j2], R c := fun r1 r2 r3 r4 r5 c hc => by
    simp only [List.mem_cons, List.not_mem_nil, or_false] at hc
    rcases hc with rfl | rfl | rfl | rfl | rfl <;> assumption
  have out : ∀ {c : Addr}, c ∉ [z, ti, tu, j1, j2] → c ≠ z ∧ c ≠ tu ∧ c ≠ j1 ∧ c ≠ j2 := fun hc => by
    simp only [List.mem_cons, List.not_mem_nil, or_false, not_or] at hc
    exact ⟨hc.1, hc.2.2.1, hc.2.2.2.1, hc.2.2.2.2⟩
  refine ⟨List.mem_cons_self .., fun i h st => ?_, fun i h h' st f => ?_, ?_, ?_, fun A i s Q E st q => zs_self st.1 q⟩
  · obtain ⟨hz, ht, ⟨x, y, hu⟩, h1, h2⟩ := st
    exact five ⟨_, hz, fun v q => nomatch q⟩ ⟨_, ht, fun v q => nomatch q⟩ ⟨_, hu, fun v q => nomatch q⟩ h1.obj h2.obj
  · obtain ⟨hz, ht, ⟨x, y, hu⟩, h1, h2⟩ := st
    exact ⟨f z (by simp) _ hz, f ti (by simp) _ ht, ⟨x, y, f tu (by simp) _ hu⟩, h1.to fun o => f j1 (by simp) o, h2.to fun o => f j2 (by simp) o⟩
  · rintro X rfl rfl rfl hc i pins s σ H E I hf ⟨hz, ht, ⟨x0, y0, hu⟩, h1, h2⟩ ⟨xs, ys, x, y, qx, qy, hx, hy⟩
    obtain ⟨us, r1, o1⟩ := sq_of I qx
    obtain ⟨ws, r2, o2⟩ := sq_of I qy
    obtain ⟨u, eu, ru⟩ := r1.get hx
    obtain ⟨v, ev, rv⟩ := r2.get hy
    have hh : X.A.in1.handled = none := I.ok.hd hc
    have zl : z < s.heap.objs.size := Heap.lt_size hz
    have lu : i < us.toArray.size := by simpa using (List.getElem?_eq_some_iff.mp eu).1
    have lv : i < ws.toArray.size := by simpa using (List.getElem?_eq_some_iff.mp ev).1
    refine zs_next_item D.sep (draws hh j1 a D.aj us.toArray) (draws hh j2 b D.bj ws.toArray) hz ht hu ⟨h1, o1⟩ ⟨h2, o2⟩ lu lv fun x1 y1 h' tk ex ey z' u' a' b' t' sz f => ?_
    have ex' : x1 = u := by
      have e : us[i]? = some x1 := by simpa using ex
      exact Option.some.inj (e.symm.trans eu)
    have ey' : y1 = v := by
      have e : ws[i]? = some y1 := by simpa using ey
      exact Option.some.inj (e.symm.trans ev)
    subst ex' ey'
    refine ⟨_, rfl, zs_go (s := { s with heap := h', toks := tk }) z' fun h2' z2 sb => ?_⟩
    have t2 : h2'.get? s.heap.objs.size = some { cls := .type "tuple", data := .seq #[x1, y1] } := (sb.2 _ (Nat.ne_of_gt zl)).trans t'
    let ob : Obj := { cls := .type "tuple", data := .seq #[x1, y1] }
    have new : ObjOk X.prog X.w (upd H s.heap.objs.size (.frz ob (.tup [x, y]))) h2' s.heap.objs.size (.frz ob (.tup [x, y])) := ⟨t2, by show 2 ≤ sizeLine; decide, [x1, y1], .cons ru (.cons rv .nil), ⟨_, t2, rfl, _, rfl⟩⟩
    have I2 : Inv X pins σ (upd H s.heap.objs.size (.frz ob (.tup [x, y]))) { s with heap := h2', toks := tk } :=
      I.turnedNew (t' := tk) (ch := [z, ti, tu, j1, j2]) (fun c o hb q => (sb.2 c (out hb).1).trans (f c o (out hb).1 (out hb).2.1 (out hb).2.2.1 (out hb).2.2.2 q)) hf (Nat.le_refl _) new
    refine ⟨.ref s.heap.objs.size, _, I2, rfl, ⟨_, x, y, rfl, I.hok.fresh (Nat.le_refl _), ⟨ob, ⟨rfl, rfl⟩, rfl⟩, fun l hl => by rw [sq_inj I hl qx]; exact hx, fun l hl => by rw [sq_inj I hl qy]; exact hy⟩, ⟨z2, (sb.2 _ D.sep.TIz).trans (f _ _ D.sep.TIz D.sep.TITO D.sep.TIi1 D.sep.TIi2 ht), ⟨x1, y1, (sb.2 _ D.sep.TOz).trans u'⟩, ?_, ?_⟩, ?_⟩
    · exact a'.1.to fun o q => (sb.2 _ D.sep.zi1.symm).trans q
    · exact b'.1.to fun o q => (sb.2 _ D.sep.zi2.symm).trans q
    · have lt := five (R := fun c => c < s.heap.objs.size) zl (Heap.lt_size ht) (Heap.lt_size hu) h1.lt h2.lt
      intro c hcm
      rw [upd_ne (Nat.ne_of_lt (lt c hcm))]
      exact (hf c hcm).1
  · rintro X rfl rfl rfl hc i pins s σ H E I hf ⟨hz, ht, ⟨x0, y0, hu⟩, h1, h2⟩ ⟨xs, ys, qx, qy, lx, ly⟩
    obtain ⟨us, r1, o1⟩ := sq_of I qx
    obtain ⟨ws, r2, o2⟩ := sq_of I qy
    have hh : X.A.in1.handled = none := I.ok.hd hc
    have e1 : us.toArray.size = i := by rw [List.size_toArray, ← r1.length, lx]
    have e2 : ws.toArray.size = i := by rw [List.size_toArray, ← r2.length, ly]
    refine zs_next_end (I.ok.hd hc) D.sep (e1 ▸ draws hh j1 a D.aj us.toArray) (e2 ▸ draws hh j2 b D.bj ws.toArray) hz ht hu ⟨h1, o1⟩ ⟨h2, o2⟩ fun h' tk f => ⟨rfl, ?_⟩
    exact I.turnedL (t' := tk) (ch := [z, ti, tu, j1, j2]) (fun c o hb q => f c o (out hb).1 (out hb).2.1 (out hb).2.2.1 (out hb).2.2.2 q) hf
end Wz
namespace Wz
open PySem PySem.Spec PyProof.Rows L2
theorem callWith_tyKw {M : Model} {A : Around} {E : Value → Shared → Prop} {s : Shared} {pos : Pos} {n : String} {args : List (Bool × Sem Value)} {kws : List (Option Str × Sem Value)} {Q : Value → Shared → Prop} (hp : (args.any (·.1) || kws.any (·.1.isNone)) = false)
    (q : wpAny M A (evalArgs (.type n) true args kws) (fun g s1 => wpAny M A (call (.type n) g.pos g.kw) Q E s1) E s) : wpAny M A (callWith pos (.type n) [] args kws) Q E s := by
  unfold callWith
  refine wpAny_bind (wpAny_holding (wpAny_mono q (fun g s1 q1 => wpAny_bind (wpAny_standAt ?_)) fun _ _ e => e))
  simp only [hp]
  refine wpAny_bind (wpAny_pure ?_)
  exact wpAny_bind (wpAny_mono q1 (fun r s2 hr => wpAny_bind (wpAny_holding (wpAny_point (wpAny_pure hr)))) fun _ _ e => e)
def kSt (K : PySem.W.Frag) (R : It → Hp → Prop) (a b : V) (H : Hp) : Prop := ∃ k1 k2 p q xs ys, a = .ref p ∧ b = .ref q ∧ Sq k1 K H p xs ∧ Sq k2 K H q ys ∧ xs.length = ys.length ∧ R (ItS K k1 k2 p q) H
/-- zip(a, b, strict=True): one length -/
def iZipS (K : PySem.W.Frag) (ta tk : TA) : TI := fun σ H R => ta σ H fun vs H1 => tk σ H1 fun zs H2 => ∃ a b, vs = [a, b] ∧ zs = [.bl true] ∧ kSt K R a b H2
theorem k_zipS {X : Cx} {K : PySem.W.Frag} {e e2 : Expr} {kws : List Keyword} {ta tk : TA} {p pos tpos : Pos} {elts : List Expr} {kk : Nat} (h : X.K = K) (hg : Gl X "zip") (hm : X.mg "zip" = none) (ha : PA X [e, e2] ta) (hk : PK X kws tk)
    (hall : (backToKw pos (keywordEach kws X.env)).all (·.1.isSome) = true := by rfl) (hks : (backToKw pos (keywordEach kws X.env)).filterMap (·.1) = [Str.ofString "strict"] := by rfl)
    (he : starEach [e, e2] X.env = (false, eval e X.env) :: starEach [e2] X.env := by rfl) (hpl : ((backTo pos (starEach [e, e2] X.env)).any (·.1) || (backToKw pos (keywordEach kws X.env)).any (·.1.isNone)) = false := by rfl) :
    PI X (.Tuple elts kk tpos) (.Call (.Name "zip" p) [e, e2] kws pos) (iZipS K ta tk) := by
  subst h
  refine ⟨fun pins s σ H R I h => ?_⟩
  refine wpAny_Call_Name_kw (ld_blt I hg hm PyProof.Rows.boot_zip (callWith_tyKw hpl (PyProof.Rows.evalArgs_kw2 hall (thn (ha.run pos pins s σ H _ I h) fun us s1 ⟨vs, H1, I1, r1, q1⟩ => ?_) he)))
  refine thn (hk.run pos pins s1 σ H1 _ I1 q1) fun ws s2 ⟨zs, H2, I2, r2, q2⟩ => ?_
  rw [hks]
  obtain ⟨_, _, rfl, rfl, k1, k2, p, q, xs, ys, rfl, rfl, sx, sy, len, fin⟩ := q2
  cases r1 with
  | cons ra r1 =>
    cases r1 with
    | cons rb r1 =>
      cases r1
      cases ra
      cases rb
      cases r2 with
      | cons rk r2 =>
        cases r2
        cases rk
        obtain ⟨us, v1, o1⟩ := sq_of I2 sx
        obtain ⟨ws, v2, o2⟩ := sq_of I2 sy
        have old : ∀ c, c ∈ [s2.heap.objs.size + 4, s2.heap.objs.size + 2, s2.heap.objs.size + 3, s2.heap.objs.size, s2.heap.objs.size + 1] → FpOk X pins H2 c := fun c hc => by
          have le : s2.heap.objs.size ≤ c := by
            simp only [List.mem_cons, List.not_mem_nil, or_false] at hc
            rcases hc with rfl | rfl | rfl | rfl | rfl
            · exact Nat.le_add_right _ _
            · exact Nat.le_add_right _ _
            · exact Nat.le_add_right _ _
            · exact Nat.le_refl _
            · exact Nat.le_add_right _ _
          exact I2.fpOk le (I2.hok.fresh le)
        refine zs_begins (begins k1 p us.toArray) (begins k2 q ws.toArray) o1 o2 fun h' hz ht hu h1 h2 f => zs_self hz ?_
        have I3 : Inv X pins σ H2 { s2 with heap := h' } := I2.kept (t' := s2.toks) f
        exact ⟨_, _, _, _, H2, rfl, I3, turnS (lie s2.heap.objs.size p q o1.lt o2.lt), ⟨hz, ht, ⟨_, _, hu⟩, AtI.fresh h1, AtI.fresh h2⟩, old, fin⟩
/-! as it computes -/
end Wz

/-! ### zip -/
namespace Iv
open PySem PySem.Spec PyProof.Rows L2
section
variable {g : Gs} {W : L2.WX} {X : Cx} {F : CE} {m : Mp} {n : Nat} {H : Hp} {S : Sto} {pos : Pos} {xs ys : List Iv.D}
theorem seq_k {d : Iv.D} {v : V} (rs : RS g m S H) (r : Rel g m S.length H d v) (e : seqOf S d = some xs) : ∃ a vs, v = .ref a ∧ Rels g m S.length H xs vs ∧ Wz.Sq (kOf d) g.K H a vs := by
  by_cases hd : ∃ zs, d = .tup zs
  · obtain ⟨zs, rfl⟩ := hd
    cases e
    obtain ⟨a, vs, h, rr, q⟩ := seq_tup rs r
    exact ⟨a, vs, h, rr, q⟩
  · obtain ⟨a, vs, h, rr, q⟩ := seq_list (H1 := H) (S1 := S) rs r (fun zs z => hd ⟨zs, z⟩) e
    have hk : kOf d = true := by cases d <;> first | rfl | exact absurd ⟨_, rfl⟩ hd
    rw [hk]
    exact ⟨a, vs, h, rr, q⟩
theorem fix_seq {d : Iv.D} (h : isRef d = false) {S' : Sto} : seqOf S' d = seqOf S d := by
  cases d <;> first | rfl | cases h
theorem itr_two {J : L2.It} (h : ∀ m' S' H', ExtW m n H m' (List.length S') H' → RS g m' S' H' → ∃ vs ws, Rels g m' S'.length H' xs vs ∧ Rels g m' S'.length H' ys ws ∧
    (∀ (i : Nat) (v w : V), vs[i]? = some v → ws[i]? = some w → J.go i H' ∧ ∀ x H'', J.yld i H' x H'' → ∃ T, x = .ref T ∧ H' T = none ∧ PairNew g H' T v w H'') ∧ J.stop (min vs.length ws.length) H') : ItR g m n H (.fix, zipD xs ys) J := by
  intro m' S' H' x _ rs _
  obtain ⟨vs, ws, r1, r2, k, st⟩ := h m' S' H' x rs
  refine ⟨fun i d e => ?_, ?_⟩
  · rw [zipD, List.getElem?_map] at e
    obtain ⟨p, hp, rfl⟩ := Option.map_eq_some_iff.mp e
    obtain ⟨p1, p2⟩ := p
    rw [List.getElem?_zip_eq_some] at hp
    obtain ⟨v, hv, rv⟩ := r1.get hp.1
    obtain ⟨w, hw, rw'⟩ := r2.get hp.2
    obtain ⟨k1, k2⟩ := k i v w hv hw
    refine ⟨k1, fun y H'' q => ?_⟩
    obtain ⟨T, q1, q2, q3⟩ := k2 y H'' q
    subst q1
    exact q3.rel q2 rs rv rw'
  · have e : (zipD xs ys).length = min vs.length ws.length := by rw [zipD, List.length_map, List.length_zip, r1.length, r2.length]
    show J.stop (zipD xs ys).length H'
    rw [e]
    exact st
theorem pairW {d e : Iv.D} {T : Addr} {v w : V} (q : H T = none) (rs : RS g m S H) (r1 : Rel g m S.length H d v) (r2 : Rel g m S.length H e w) :
    RS g m S (upd H T (.tup [v, w])) ∧ Ext m S.length H m S.length (upd H T (.tup [v, w])) ∧ Rel g m S.length (upd H T (.tup [v, w])) (.wtp [d, e]) (.ref T) := by
  have x : Ext m S.length H m S.length (upd H T (.tup [v, w])) := Ext.laid rs q
  refine ⟨rs.laid q, x, ?_⟩
  rw [rel_wtp]
  exact ⟨T, _, rfl, ⟨upd_same, Off.free rs q⟩, Rels.cons (Rel.mono x _ _ r1) (Rels.cons (Rel.mono x _ _ r2) Rels.nil)⟩
theorem itr_twoW {J : L2.It} (h : ∀ m' S' H', ExtW m n H m' (List.length S') H' → RS g m' S' H' → ∃ vs ws, Rels g m' S'.length H' xs vs ∧ Rels g m' S'.length H' ys ws ∧
    (∀ (i : Nat) (v w : V), vs[i]? = some v → ws[i]? = some w → J.go i H' ∧ ∀ x H'', J.yld i H' x H'' → ∃ T, x = .ref T ∧ H' T = none ∧ H'' = upd H' T (.tup [v, w])) ∧ J.stop (min vs.length ws.length) H') : ItR g m n H (.fix, zipWD xs ys) J := by
  intro m' S' H' x _ rs _
  obtain ⟨vs, ws, r1, r2, k, st⟩ := h m' S' H' x rs
  refine ⟨fun i d e => ?_, ?_⟩
  · rw [zipWD, List.getElem?_map] at e
    obtain ⟨p, hp, rfl⟩ := Option.map_eq_some_iff.mp e
    obtain ⟨p1, p2⟩ := p
    rw [List.getElem?_zip_eq_some] at hp
    obtain ⟨v, hv, rv⟩ := r1.get hp.1
    obtain ⟨w, hw, rw'⟩ := r2.get hp.2
    obtain ⟨k1, k2⟩ := k i v w hv hw
    refine ⟨k1, fun y H'' q => ?_⟩
    obtain ⟨T, q1, q2, q3⟩ := k2 y H'' q
    subst q1 q3
    exact pairW q2 rs rv rw'
  · have e : (zipWD xs ys).length = min vs.length ws.length := by rw [zipWD, List.length_map, List.length_zip, r1.length, r2.length]
    show J.stop (zipWD xs ys).length H'
    rw [e]
    exact st
theorem w_zipS {e e2 : Expr} {ie ie2 : E} {kws : List Keyword} {elts : List Expr} {kk : Nat} {tpos p : Pos} (hg : Gl X "zip") (hm : X.mg "zip" = none) (ok : okE e = true) (ok2 : okE e2 = true) (ha : PA X [e, e2] (tEs g W (evs F [ie, ie2]))) (hk : PK X kws (tEs g W (evs F [.con (.bl true)])))
    (hks : kwsNames kws = some [Str.ofString "strict"] := by rfl) (hK : X.K = g.K := by rfl) : PI X (.Tuple elts kk tpos) (.Call (.Name "zip" p) [e, e2] kws pos) (tI g W (evIt F (.zip true ie ie2))) := by
  obtain ⟨q1, q2, q3⟩ := kws_all (env := X.env) (pos := pos) hks
  refine PI.imp (Wz.k_zipS rfl hg hm ha hk q1 q2 (starEach_ok ok) (by rw [q3, starEach_ok ok, starEach_ok ok2]; rfl)) fun σ H R ⟨m, ρ, S, rs, er, w⟩ => ?_
  rw [evIt] at w
  refine ⟨m, ρ, S, rs, er, ?_⟩
  show WP g _ (Rels g) m S.length H (evs F [ie, ie2] ρ S) _
  rw [evs2]
  cases hh : ev F ie ρ S with
  | ok d S1 =>
    rw [hh] at w
    simp only [Iv.R.bind_ok] at w ⊢
    cases hh2 : ev F ie2 ρ S1 with
    | ok d2 S2 =>
      rw [hh2] at w
      simp only [Iv.R.bind_ok] at w ⊢
      intro m1 H1 vs x1 rs1 r1
      obtain ⟨v, v2, rfl, rv, rv2⟩ := Rels.two r1
      refine ⟨m1, ρ, S2, rs1, er.mono x1, ?_⟩
      show WP g _ (Rels g) m1 S2.length H1 (evs F [.con (.bl true)] ρ S2) _
      rw [evs1, ev]
      simp only [Iv.R.bind_ok]
      intro m2 H2 zs x2 rs2 r2
      obtain ⟨z, rfl, rz⟩ := Rels.one r2
      rw [rel_bl] at rz
      have w := (w.from x1).from x2
      have rv := Rel.mono x2 _ _ rv
      have rv2 := Rel.mono x2 _ _ rv2
      cases h1 : seqOf S2 d with
      | none => rw [h1] at w; exact w.err
      | some xs =>
        cases h2 : seqOf S2 d2 with
        | none => rw [h1, h2] at w; exact w.err
        | some ys =>
          rw [h1, h2] at w
          obtain ⟨⟨c1, c2, c3, _⟩, w⟩ := w.ck
          obtain ⟨a, us, rfl, ra, sa⟩ := seq_k rs2 rv h1
          obtain ⟨b, ws, rfl, rb, sb⟩ := seq_k rs2 rv2 h2
          have hl : us.length = ws.length := by rw [← ra.length, ← rb.length]; exact c1 trivial
          refine ⟨_, _, rfl, by rw [rz], kOf d, kOf d2, a, b, us, ws, rfl, rfl, by rw [hK]; exact sa, by rw [hK]; exact sb, hl, w.now rs2 (itr_two fun m' S' H' x rs' => ?_)⟩
          obtain ⟨a', us', e1, ra', sa'⟩ := seq_k rs' (Rel.monoW x _ _ rv) ((fix_seq (S := S2) c2).trans h1)
          cases e1
          obtain ⟨b', ws', e2, rb', sb'⟩ := seq_k rs' (Rel.monoW x _ _ rv2) ((fix_seq (S := S2) c3).trans h2)
          cases e2
          rw [hK]
          have hl' : us'.length = ws'.length := by rw [← ra'.length, ← rb'.length]; exact c1 trivial
          refine ⟨us', ws', ra', rb', fun i v w hv hw => ⟨⟨us', ws', v, w, sa', sb', hv, hw⟩, fun y H'' ⟨T, y1, y2, f1, f2, f3, f4, f5⟩ => ?_⟩, ⟨us', ws', sa', sb', by rw [hl', Nat.min_self], by rw [hl', Nat.min_self]⟩⟩
          have g1 := f4 us' sa'
          have g2 := f5 ws' sb'
          rw [hv] at g1
          rw [hw] at g2
          cases g1
          cases g2
          exact ⟨T, f1, f2, .inl f3⟩
    | exc x S1 => rw [hh2] at w; exact w
    | err => rw [hh2] at w; exact w
  | exc x S1 => rw [hh] at w; exact w
  | err => rw [hh] at w; exact w
theorem w_zipw {e e2 : Expr} {ie ie2 : E} {elts : List Expr} {kk : Nat} {tpos p : Pos} (hg : Gl X "zip") (hm : X.mg "zip" = none) (ok : okE e = true) (ok2 : okE e2 = true) (ha : PA X [e, e2] (tEs g W (evs F [ie, ie2]))) (hK : X.K = g.K := by rfl) :
    PI X (.Tuple elts kk tpos) (.Call (.Name "zip" p) [e, e2] [] pos) (tI g W (evIt F (.zipw ie ie2))) := by
  refine PI.imp (RZ.pi_zipA hg hm ha (starEach_ok ok) (by rw [starEach_ok ok2]; rfl)) fun σ H R ⟨m, ρ, S, rs, er, w⟩ => ?_
  rw [evIt] at w
  refine ⟨m, ρ, S, rs, er, ?_⟩
  show WP g _ (Rels g) m S.length H (evs F [ie, ie2] ρ S) _
  rw [evs2]
  cases hh : ev F ie ρ S with
  | ok d S1 =>
    rw [hh] at w
    simp only [Iv.R.bind_ok] at w ⊢
    cases hh2 : ev F ie2 ρ S1 with
    | ok d2 S2 =>
      rw [hh2] at w
      simp only [Iv.R.bind_ok] at w ⊢
      intro m2 H2 vs x2 rs2 r2
      obtain ⟨v, v2, rfl, rv, rv2⟩ := Rels.two r2
      have w := w.from x2
      cases h1 : seqOf S2 d with
      | none => rw [h1] at w; exact w.err
      | some xs =>
        cases h2 : seqOf S2 d2 with
        | none => rw [h1, h2] at w; exact w.err
        | some ys =>
          rw [h1, h2] at w
          obtain ⟨⟨c2, c3, c4⟩, w⟩ := w.ck
          obtain ⟨a, us, rfl, ra, sa⟩ := seq_k rs2 rv h1
          obtain ⟨b, ws, rfl, rb, sb⟩ := seq_k rs2 rv2 h2
          have go : ∀ m' S' H', ExtW m2 S2.length H2 m' (List.length S') H' → RS g m' S' H' → ∃ us' ws', Rels g m' S'.length H' xs us' ∧ Rels g m' S'.length H' ys ws' ∧ Wz.Sq (kOf d) g.K H' a us' ∧ Wz.Sq (kOf d) g.K H' b ws' := by
            intro m' S' H' x rs'
            obtain ⟨a', us', e1, ra', sa'⟩ := seq_k rs' (Rel.monoW x _ _ rv) ((fix_seq (S := S2) c2).trans h1)
            cases e1
            obtain ⟨b', ws', e2, rb', sb'⟩ := seq_k rs' (Rel.monoW x _ _ rv2) ((fix_seq (S := S2) c3).trans h2)
            cases e2
            rw [← c4] at sb'
            exact ⟨us', ws', ra', rb', sa', sb'⟩
          rw [hK]
          rw [← c4] at sb
          refine ⟨a, b, us, ws, rfl, ?_⟩
          cases hk : kOf d with
          | true =>
            rw [hk] at sa sb go
            refine .inl ⟨sa, sb, w.now rs2 (itr_twoW fun m' S' H' x rs' => ?_)⟩
            obtain ⟨us', ws', ra', rb', sa', sb'⟩ := go m' S' H' x rs'
            refine ⟨us', ws', ra', rb', fun i v w hv hw => ⟨⟨us', ws', v, w, sa', sb', hv, hw⟩, fun y H'' ⟨T, y1, y2, f1, f2, f3, f4, f5⟩ => ?_⟩, ⟨us', ws', sa', sb', by omega⟩⟩
            have g1 := f4 us' sa'
            have g2 := f5 ws' sb'
            rw [hv] at g1
            rw [hw] at g2
            cases g1
            cases g2
            exact ⟨T, f1, f2, f3⟩
          | false =>
            rw [hk] at sa sb go
            refine .inr ⟨sa, sb, w.now rs2 (itr_twoW fun m' S' H' x rs' => ?_)⟩
            obtain ⟨us', ws', ra', rb', sa', sb'⟩ := go m' S' H' x rs'
            refine ⟨us', ws', ra', rb', fun i v w hv hw => ⟨⟨us', ws', v, w, sa', sb', hv, hw⟩, fun y H'' ⟨T, y1, y2, f1, f2, f3, f4, f5⟩ => ?_⟩, ⟨us', ws', sa', sb', by omega⟩⟩
            have g1 := f4 us' sa'
            have g2 := f5 ws' sb'
            rw [hv] at g1
            rw [hw] at g2
            cases g1
            cases g2
            exact ⟨T, f1, f2, f3⟩
    | exc x S1 => rw [hh2] at w; exact w
    | err => rw [hh2] at w; exact w
  | exc x S1 => rw [hh] at w; exact w
  | err => rw [hh] at w; exact w
end
end Iv

/-! ### t[::-1] of a tuple -/
namespace Wr
open PySem PySem.Spec PyProof.Rows L2 HT
section
variable {prog : Program} {w : World} {A : Around} {E : Value → Shared → Prop} {s : Shared}
end
end Wr
namespace Iv
open PySem PySem.Spec PyProof.Rows L2
section
variable {g : Gs} {W : L2.WX} {X : Cx} {F : CE} {a : Expr} {ia : E} {pos : Pos}
theorem PE.or {X : Cx} {e : Expr} {t t' : TE} (h : PE X e t) (h' : PE X e t') : PE X e (fun σ H Q => t σ H Q ∨ t' σ H Q) := ⟨fun pins s σ H Q I q => q.elim (h.run pins s σ H Q I) (h'.run pins s σ H Q I)⟩
end
end Iv

/-! ### a list from end to end by a step that is reckoned: 1 or -1 -/
namespace Iv
open PySem PySem.Spec PyProof.Rows L2
/-- what the step makes of a list -/
def stepV {α : Type} (i : Int) (xs : List α) : Option (List α) := if i = 1 then some xs else if i = -1 then some xs.reverse else none
def rStep (K : PySem.W.Frag) (x : V) (i : Int) (H : Hp) (Q : VK) : Prop := ∃ q vs ys, x = .ref q ∧ SqL K H q vs ∧ stepV i vs = some ys ∧ ∀ p, H p = none → Q (.ref p) (upd H p (.lst ys))
theorem pick_step {i : Int} {its ots : List Value} (h : stepV i its = some ots) : i ≠ 0 ∧ slicePick its.toArray none none (some i) = ots.toArray := by
  unfold stepV at h
  split at h
  · rename_i e
    cases h
    subst e
    refine ⟨by decide, ?_⟩
    have c := slicePick_cut its none none
    rw [show HT.sIx its.length 0 none = 0 from rfl, show HT.sIx its.length its.length none = its.length from rfl, List.drop_zero, Nat.sub_zero, List.take_length] at c
    exact c
  · split at h
    · rename_i e
      cases h
      subst e
      exact ⟨by decide, by rw [PySem.W.krv_pick]⟩
    · cases h
theorem stepV_rel {i : Int} {xs ys : List V} {us : List Value} (r : Vals xs us) (h : stepV i xs = some ys) : ∃ ws, stepV i us = some ws ∧ Vals ys ws ∧ ys.length = xs.length := by
  unfold stepV at h ⊢
  split at h
  · cases h
    exact ⟨us, by rw [if_pos ‹_›], r, rfl⟩
  · split at h
    · cases h
      exact ⟨us.reverse, by rw [if_neg ‹_›, if_pos ‹_›], r.reverse, List.length_reverse⟩
    · cases h
section
variable {X : Cx} {a st : Expr} {ta ts : TE} {pos p2 : Pos}
theorem pe_step (ha : PE X a ta) (hs : PE X st ts) : PE X (.Subscript a (.Slice none none (some st) p2) pos) (fun σ H Q => ta σ H fun x H1 => tPart ts σ H1 fun o H2 => ∃ i, o = some i ∧ rStep X.K x i H2 Q) := by
  constructor
  intro pins s σ H Q I h
  refine Subscript_ (thn (ha.run pins s σ H _ I h) ?_)
  rintro v s1 ⟨x, H1, I1, rx, h1⟩
  have nop : ∀ s H, Inv X pins σ H s → wpAny (model X.prog X.w) X.A (evalPart none X.env) (fun u s' => s' = s ∧ IsPart u none) X.xe s := fun s H _ => by
    rw [evalPart_none]
    exact wpAny_pure ⟨rfl, .none⟩
  refine wpAny_Slice (thn (nop s1 H1 I1) ?_)
  rintro vl _ ⟨rfl, pl⟩
  refine thn (nop _ H1 I1) ?_
  rintro vu _ ⟨rfl, pu⟩
  refine thn ((po_some hs).run pins _ σ H1 _ I1 h1) ?_
  · rintro vs s2 ⟨o, H2, I2, ps, i, rfl, q, vs', ys, rfl, sq, e, hQ⟩
    cases rx
    have I3 := I2.kept (h' := s2.heap.push { cls := .type "slice", data := .fields #[vl, vu, vs] }) (t' := s2.toks) fun _ _ z => Heap.get?_push_of_some _ z
    obtain ⟨its, r, hl, hz⟩ := I3.list sq
    obtain ⟨ws, e2, r2, l2⟩ := stepV_rel r e
    obtain ⟨i0, pk⟩ := pick_step e2
    refine tail_any (ops := [.ref q, .ref s2.heap.objs.size]) hl.isList.typeIs slot_list_getitem.lookup ?_ (by with_unfolding_all rfl)
    refine wpAny_getItem_list_slice hl.isList (Heap.IsSliceOf.new _ vl vu vs) pl pu ps (fun z => i0 (Option.some.inj z)) ?_ (by rw [List.size_toArray, ← r.length]; exact hz)
    rw [pk]
    exact ⟨.ref _, _, I3.laid (t' := s2.toks) (o := .lst ys) (fun _ _ z => Heap.get?_push_of_some _ z) (Nat.le_refl _) ⟨by rw [l2]; exact hz, ws, 0, r2, Heap.get?_push_size _ rfl⟩, rfl, hQ _ (I3.hok.fresh (Nat.le_refl _))⟩
end
section
variable {g : Gs} {W : L2.WX} {X : Cx} {F : CE} {a st : Expr} {ia ib : E} {pos p2 : Pos}
theorem stepD_rel {m : Mp} {H : Hp} {i : Int} {xs : List D} {vs : List V} {S : Sto} {box : Bool} {Q : VK} {W : Value → Option Addr → Hp → Prop} (rs : RS g m S H) (r : Rels g m S.length H xs vs) (w : WP g W (Rel g) m S.length H (if i = 1 then mkL box xs S else if i = -1 then mkL box xs.reverse S else .err) Q) :
    ∃ ys, stepV i vs = some ys ∧ ∀ p, H p = none → Q (.ref p) (upd H p (.lst ys)) := by
  unfold stepV
  split at w
  · exact ⟨vs, if_pos ‹_›, fun p hp => mkL_ok rs r w hp⟩
  · split at w
    · exact ⟨vs.reverse, by rw [if_neg ‹_›, if_pos ‹_›], fun p hp => mkL_ok rs r.reverse w hp⟩
    · exact w.err
theorem i_slst (hK : X.K = g.K) {box : Bool} (ha : PE X a (tE g W (ev F ia))) (hb : PE X st (tE g W (ev F ib))) : PE X (.Subscript a (.Slice none none (some st) p2) pos) (tE g W (ev F (.slst box ia ib))) := by
  refine PE.imp (pe_step ha hb) fun σ H Q ⟨m, ρ, S, rs, er, w⟩ => ?_
  rw [ev] at w
  refine TI.step rs er w fun x H1 m1 S1 d x1 rs1 er1 r1 w => ?_
  refine TI.step rs1 er1 w fun y H2 m2 S2 e x2 rs2 er2 r2 w => ?_
  unfold slstR at w
  split at w
  · rename_i xs i hx
    rw [rel_int] at r2
    obtain ⟨q, vs, rfl, r, sq⟩ := lst_sq rs2 (Rel.mono x2 _ _ r1) hx
    obtain ⟨ys, e1, e2⟩ := stepD_rel rs2 r w
    exact ⟨i, r2, i, rfl, q, vs, ys, rfl, by rw [hK]; exact sq, e1, e2⟩
  · exact w.err
end
end Iv

/-! ### defs, calls -/
namespace Iv
open PySem PySem.Spec PyProof.Rows L2
section
variable {P : Program} {w : World} {K : PySem.W.Frag} {mg : Str → Option Value} {base : Heap} {g : Gs} {T : List Fn}
theorem fn_zero {fa : Addr} {fd : FuncData} {ps : List Str} {j f : Nat} {x qual : Str} {st : Stmt} {dv0 : List V} {kws : List (Str × V)} {N : List Str} (F : FunD K x qual (defArgs st) (defBody st) (defScope st) dv0 kws fa fd) (S : FnScope N ps (defScope st)) : FnOk P w K mg base (L2.CX P w) (j + 1) fa fd ps (spF g (callN T 0) f ps.length) :=
  F.ok S (fun _ _ _ _ h => h.1) fun _ _ _ _ _ _ _ _ _ ⟨_, _, _, _, _, _, w⟩ => False.elim w
theorem start_env {m : Mp} {n : Nat} {H : Hp} {ds : List Iv.D} {vs : List V} {N : List Str} (r : Rels g m n H ds vs) : EnvR g m n H (ds.map some ++ List.replicate (N.length - ds.length) none) (L2.start N vs) := by
  have l := r.length
  refine ⟨?_, fun i d e => ?_⟩
  · unfold L2.start
    simp only [List.length_append, List.length_map, List.length_replicate, l]
  · rcases Nat.lt_or_ge i ds.length with h | h
    · rw [List.getElem?_append_left (by rw [List.length_map]; exact h), List.getElem?_map] at e
      obtain ⟨d', hd, q⟩ := Option.map_eq_some_iff.mp e
      cases q
      obtain ⟨v, hv, rv⟩ := r.get hd
      refine ⟨v, ?_, rv⟩
      unfold L2.start
      rw [List.getElem?_append_left (by rw [List.length_map, ← l]; exact h), List.getElem?_map, hv]
      rfl
    · rw [List.getElem?_append_right (by rw [List.length_map]; exact h), List.getElem?_replicate] at e
      split at e <;> cases e
theorem fn_step {fa : Addr} {fd : FuncData} {N ps : List Str} {j k f : Nat} {x qual : Str} {st : Stmt} {dv0 : List V} {kws : List (Str × V)} {body : List Iv.St} (hT : T[f]? = some ⟨ps.length, N.length, body⟩)
    (F : FunD K x qual (defArgs st) (defBody st) (defScope st) dv0 kws fa fd) (S : FnScope N ps (defScope st))
    (hb : ∀ (cdv : Value) (A : Around) (outer : List PySem.Env) (s : Shared) (H : Hp) (E : XK), Room j (A.deeper (envOfC qual (defScope st) s.heap.objs.size fa cdv)) →
      PSs (cxOf (L2.CX P w) P w K mg base N qual (defScope st) fa cdv A outer s H E) (defBody st) (tS g (fun c d _ H => E c d H) (exs (callN T k) body))) :
    FnOk P w K mg base (L2.CX P w) (j + 1) fa fd ps (spF g (callN T (k + 1)) f ps.length) := by
  refine F.ok S (fun _ _ _ _ h => h.1) fun cdv A outer s H vs Q E hr ⟨hl, m, S0, ds, rs, r, wp⟩ => ⟨_, hb cdv A outer s H E hr, ?_⟩
  unfold callN at wp
  rw [hT] at wp
  obtain ⟨_, wp⟩ := (show WP g E (Rel g) m S0.length H (ck (ds.length = ps.length) (run (callN T k) N.length body ds S0)) Q from wp).ck
  refine ⟨m, _, S0, rs, start_env (N := N) r, ?_⟩
  unfold run at wp
  cases hx : exs (callN T k) body (ds.map some ++ List.replicate (N.length - ds.length) none) S0 with
  | ok fl S' =>
    rw [hx] at wp
    cases fl with
    | next ρ => exact fun m' H' σ' x rs' er => wp m' H' .non x rs' (by rw [rel_non])
    | brk ρ => exact wp.elim
    | cont ρ => exact wp.elim
    | ret d => exact fun m' H' v x rs' rv => wp m' H' v x rs' rv
    | raised e ρ => exact fun m' H' σ' c d x rs' er xr => wp m' H' c d x rs' xr
  | exc e S' => rw [hx] at wp; exact wp.elim
  | err => rw [hx] at wp; exact wp.elim

/-! how arguments come to parameters -/
def gat {α : Type} (js : List Nat) (l : List α) : List α := js.filterMap (l[·]?)
theorem gat_vals {us : List Value} {vs : List V} (r : Vals vs us) : ∀ js : List Nat, Vals (gat js vs) (gat js us)
  | [] => .nil
  | j :: js => by
    have ih := gat_vals r js
    unfold gat at ih ⊢
    have l := r.length
    cases h : vs[j]? with
    | none =>
      have h2 : us[j]? = none := by
        rw [List.getElem?_eq_none_iff] at h ⊢
        rw [← l]
        exact h
      rw [List.filterMap_cons_none h, List.filterMap_cons_none h2]
      exact ih
    | some v =>
      obtain ⟨u, hu, ru⟩ := r.get h
      rw [List.filterMap_cons_some h, List.filterMap_cons_some hu]
      exact .cons ru ih
theorem gat_rels {m : Mp} {n : Nat} {H : Hp} {ds : List Iv.D} {vs : List V} (r : Rels g m n H ds vs) : ∀ {js : List Nat} {ps' : List Iv.D}, pick ds (js.map .a) = some ps' → Rels g m n H ps' (gat js vs) ∧ (gat js vs).length = js.length
  | [], ps', h => by
    cases h
    exact ⟨Rels.nil, rfl⟩
  | j :: js, ps', h => by
    rw [List.map_cons, pick] at h
    split at h
    · rename_i d hd
      obtain ⟨qs, hq, rfl⟩ := Option.map_eq_some_iff.mp h
      obtain ⟨v, hv, rv⟩ := r.get hd
      obtain ⟨i1, i2⟩ := gat_rels r hq
      unfold gat at i1 i2 ⊢
      rw [List.filterMap_cons_some hv]
      exact ⟨Rels.cons rv i1, by rw [List.length_cons, List.length_cons, i2]⟩
    · cases h
theorem sig_all {fa : Addr} {fd : FuncData} {ps ks : List Str} {n : Nat} {js : List Nat} {x qual : Str} {params : Arguments} {body : List Stmt} {scope : Scope} {kws : List (Str × V)} (F : FunD g.K x qual params body scope [] kws fa fd) (hl : js.length = ps.length)
    (h : ∀ (kV doc pm : Value) (an : Option Addr) (cdv ct : Value) (us ws : List Value), us.length = n → ws.length = ks.length → bindArgs (PySem.W.fnOf x qual params body scope .none kV doc pm an cdv ct) ⟨us, ks.zip ws⟩ = pure (ps.zip (gat js (us ++ ws)))) : Sig g fd ps n ks (js.map .a) := by
  obtain ⟨oc, od, dV, kV, doc, pm, an, cdv, ct, osl, rfl, lk, hcd, hD, hK⟩ := F.ex
  rcases hD with ⟨_, rfl⟩ | ⟨e, _⟩
  · refine ⟨fun us ws => gat js (us ++ ws), fun vs zs => gat js (vs ++ zs), ⟨fun s us ws X l1 l2 => .of_eq (h kV doc pm an cdv ct us ws l1 l2), fun r1 r2 => gat_vals (r1.append r2) js⟩, fun m N H ds vs zs ps' r l1 l2 hp => ?_⟩
    obtain ⟨q1, q2⟩ := gat_rels r hp
    exact ⟨q1, q2.trans hl⟩
  · exact absurd rfl e
/-- a def as it is called -/
structure Fo (g : Gs) (P : Program) (w : World) (K : PySem.W.Frag) (mg : Str → Option Value) (base : Heap) (F : CE) (j : Nat) (fa : Addr) (f : Nat) (sigs : List (Nat × List Str × List Ar)) : Prop where
  ex : ∃ (fd : FuncData) (ps : List Str), FnOk P w K mg base (L2.CX P w) j fa fd ps (spF g F f ps.length) ∧ (∀ s ∈ sigs, Sig g fd ps s.1 s.2.1 s.2.2) ∧ PySem.W.keepIn K (.ref fa) = true
end
section
variable {g : Gs} {W : L2.WX} {X : Cx} {F : CE} {es : List Expr} {kws : List Keyword} {ies iks : List E} {ks : List Str} {x : Str} {p pos : Pos}
theorem j_call {j k : Nat} {fa : Addr} {f : Nat} {arr : List Ar} {sigs : List (Nat × List Str × List Ar)} (fo : Fo g X.prog X.w X.K X.mg X.base F k fa f sigs) (hm : X.mg x = some (.ref fa)) (tk : Takes X W) (hr : Room j X.A) (ie : List E) (hie : ie = ies ++ iks) (ha : PA X es (tEs g W (evs F ies))) (hkw : PK X kws (tEs g W (evs F iks)))
    (hs : (ies.length, ks, arr) ∈ sigs) (hK : X.K = g.K := by rfl) (hg : Gl X x := by rfl) (hj : k ≤ j := by omega) (hdb : (x == ("__debug__" : Str)) = false := by decide) (oks : okEs es = true := by rfl) (hks : kwsNames kws = some ks := by rfl) (hkl : iks.length = ks.length := by rfl) (hel : es.length = ies.length := by rfl) :
    PE X (.Call (.Name x p) es kws pos) (tE g W (ev F (.call f arr ie))) := by
  subst hie
  obtain ⟨fd, ps, FO, sg, kp⟩ := fo.ex
  exact i_call hK FO (hr.mono hj) hg hm kp (sg _ hs) tk hdb oks hks hkl hel ha hkw
end
end Iv

/-! ### constants, the end -/
namespace Iv
open PySem PySem.Spec PyProof.Rows L2
section
variable {g : Gs} {W : L2.WX} {X : Cx} {F : CE} {x : Str} {p pos : Pos}
theorem c_int {i : Int} {j : Nat} : PE X (.Constant (.int i) j pos) (tE g W (ev F (.con (.int i)))) := i_con pe_int fun _ _ _ => by rw [rel_int]
theorem c_bl {b : Bool} {j : Nat} : PE X (.Constant (.bool b) j pos) (tE g W (ev F (.con (.bl b)))) := i_con pe_bl fun _ _ _ => by rw [rel_bl]
theorem c_non {j : Nat} : PE X (.Constant .none j pos) (tE g W (ev F (.con .non))) := i_con pe_non fun _ _ _ => by rw [rel_non]
theorem c_str {z : Str} {j : Nat} (h : okS z) : PE X (.Constant (.str z) j pos) (tE g W (ev F (.con (.str z)))) := i_con pe_str fun _ _ _ => by rw [rel_str]; exact ⟨rfl, h⟩
theorem c_gI {i : Int} (h : ∃ t, X.mg x = some (.int i t)) (hg : Gl X x := by rfl) (hd : (x == ("__debug__" : Str)) = false := by decide) : PE X (.Name x pos) (tE g W (ev F (.con (.int i)))) := by
  obtain ⟨t, e⟩ := h
  exact i_con (v := .int i) (pe_glob hg e ⟨t, rfl⟩ hd) fun _ _ _ => by rw [rel_int]
theorem c_gS {z : Str} (h : ∃ t, X.mg x = some (.str z t)) (ok : okS z) (hg : Gl X x := by rfl) (hd : (x == ("__debug__" : Str)) = false := by decide) : PE X (.Name x pos) (tE g W (ev F (.con (.str z)))) := by
  obtain ⟨t, e⟩ := h
  exact i_con (v := .str z) (pe_glob hg e ⟨t, rfl⟩ hd) fun _ _ _ => by rw [rel_str]; exact ⟨rfl, ok⟩
theorem c_gT {n : String} (hm : X.mg x = none) (hv : bootBuiltins x = some (.type n)) (hg : Gl X x := by rfl) (hn : x ≠ "__name__" := by decide) (hd : (x == ("__debug__" : Str)) = false := by decide) : PE X (.Name x pos) (tE g W (ev F (.con (.ty n)))) :=
  i_con (v := .ty n) (pe_bltn hg hm hv rfl hn hd) fun _ _ _ => by rw [rel_ty]
theorem okS_of {z : Str} (h : (decide (z.length ≤ 1000) && z.cps.toList.all (fun c => decide (c < 1114112))) = true) : okS z := by
  rw [Bool.and_eq_true, decide_eq_true_eq, List.all_eq_true] at h
  exact ⟨Nat.le_trans h.1 (by decide), fun c hc => of_decide_eq_true (h.2 c hc)⟩
theorem j_var {i : Nat} (hN : X.N[i]? = some x := by rfl) (hv : Vis X.env.scope x := by first | exact Or.inl rfl | exact Or.inr (Or.inl rfl) | exact Or.inr (Or.inr rfl)) (hd : (x == ("__debug__" : Str)) = false := by decide) (hcd : (x == ("__classdict__" : Str)) = false := by decide) :
    PE X (.Name x pos) (tE g W (ev F (.var i))) := i_var hN hv hd hcd
theorem j_bi {e : Expr} {es : List Expr} {ies : List E} {k : Nat} {nm : Str} (b : Bi) (hr : Room k X.A) (hm : X.mg nm = none) (ha : PA X (e :: es) (tEs g W (evs F ies))) (hnm : biName b = nm := by rfl) (hK : X.K = g.K := by rfl) (hc : X.calm = true := by rfl) (ok : biOk b = true := by rfl) (hg : Gl X nm := by rfl) (oks : okEs (e :: es) = true := by rfl) :
    PE X (.Call (.Name nm p) (e :: es) [] pos) (tE g W (ev F (.bi b ies))) := by
  subst hnm
  exact i_bi hK hr hc b ok hg hm oks ha
theorem j_g {vs : List Nat} {i : Nat} (hN : X.N.Nodup) (hv : i ∈ vs := by decide) (hi : X.N[i]? = some x := by rfl) (hx : Loc X.env.scope x := by first | exact Or.inl rfl | exact Or.inr rfl) (hf : X.fn x = true ∨ X.env.scope.names.lookup x = some .local := by first | exact Or.inl rfl | exact Or.inr rfl) :
    PG X (.Name x pos) (TGv g vs (asg F (.var i))) := g_var hv hN hi hx hf
def noSwap : Expr → Expr → Bool
  | .Tuple _ _ _, .Tuple _ _ _ => false
  | .List _ _, .Tuple _ _ _ => false
  | _, _ => true
theorem pure_none {tg v : Expr} {env : PySem.Env} (h : noSwap tg v = true) : swappedStores [tg] v env = pure none := by
  cases tg with
  | Tuple _ _ _ => cases v <;> first | rfl | (exact absurd h Bool.false_ne_true)
  | List _ _ => cases v <;> first | rfl | (exact absurd h Bool.false_ne_true)
  | _ => rfl
theorem j_asg {tg e : Expr} {t : Tg} {ie : E} (vs : List Nat) (he : PE X e (tE g W (ev F ie))) (hg : PG X tg (TGv g vs (asg F t))) (ok : noStar tg = true := by rfl) (hs : notComp e = true := by rfl) (hw : noSwap tg e = true := by rfl) : PS X (.Assign [tg] e pos) (tS g W (ex F (.asg t ie))) :=
  s_asg he (g_any hg) ok (swaps_ok hs) (pure_none hw)
end
section
variable {P : Program} {w : World} {K : PySem.W.Frag} {mg : Str → Option Value} {base : Heap} {g : Gs} {T : List Fn}
def spEnd (K : PySem.W.Frag) : Sp := fun vs H Q _ => ∃ (a : Addr) (ns : List Int), vs = [.ref a] ∧ SqL K H a (ns.map V.int) ∧ ns.length ≤ 63 ∧ Only H ∧ ∀ H', Q (.bl true) H'
theorem rels_ints {m : Mp} {n : Nat} {H : Hp} : ∀ ns : List Int, Rels g m n H (ns.map Iv.D.int) (ns.map V.int)
  | [] => Rels.nil
  | i :: r => Rels.cons (by rw [rel_int]) (rels_ints r)
theorem fn_end {fa : Addr} {fd : FuncData} {x : Str} {j k f : Nat} (hK : g.K = K) (FO : FnOk P w K mg base (L2.CX P w) j fa fd [x] (spF g (callN T k) f 1)) (h : ∀ ns : List Int, ns.length ≤ 63 → ∃ S, callN T k f [.scr (ns.map .int)] [] = .ok (.bl true) S) :
    FnOk P w K mg base L2.CX0 j fa fd [x] (spEnd K) := by
  refine ⟨fun vs H Q E ⟨a, ns, e, _⟩ => by rw [e]; rfl, fun A outer s H args us vs Q E hr e0 bt rv ⟨a, ns, e, sq, hl, on, q⟩ => ?_⟩
  subst e
  refine codeAny_mono (FO.run A outer s H args us [.ref a] Q (fun _ _ _ => False) hr e0 bt rv ⟨rfl, ⟨fun _ => none, fun _ => False⟩, [], [.scr (ns.map .int)], ?_, ?_, ?_⟩) fun r s' q' => ?_
  · refine ⟨fun i a e => (by cases e), fun i c e _ => ?_, fun i j a e => (by cases e), fun a z => False.elim z, fun i e => ?_⟩
    · unfold cellAt at e
      cases e
    · unfold cellAt at e
      cases e
  · refine Rels.cons ?_ Rels.nil
    rw [rel_scr]
    refine ⟨a, ns.map .int, rfl, ?_, rels_ints ns⟩
    rw [← hK] at sq
    rcases sq with (e | ⟨o, e⟩) | z
    · rcases on a with e' | ⟨o, xs, e'⟩
      · rw [e] at e'; cases e'
      · rw [e] at e'; cases e'
    · exact .inl ⟨o, e, ⟨fun i z => (by cases z), fun z => z⟩⟩
    · exact .inr fun H' => .inr z
  · obtain ⟨S, hS⟩ := h ns hl
    rw [hS]
    intro m' H' b x rs' r
    rw [rel_bl] at r
    rw [r]
    exact q H'
  · cases r with
    | error e =>
      obtain ⟨_, _, _, _, _, _, _, _, _, _, _, _, z⟩ := q'
      exact z
    | ok fl =>
      cases fl with
      | ret u => exact q'
      | next => exact q'
      | brk => exact q'
      | cont => exact q'
end
end Iv

/-! ### defaults; join -/
namespace Iv
open PySem PySem.Spec PyProof.Rows L2 TL
section
variable {g : Gs} {X : Cx} {F : CE}
/-- an argument's place, or a default's -/
def arOf (n : Nat) (dd : List Iv.D) (j : Nat) : Ar := if j < n then .a j else .d (dd.getD (j - n) .non)
theorem pick_dfl {n : Nat} {dd ds : List Iv.D} (hn : ds.length = n) : ∀ {js : List Nat} {ps : List Iv.D}, (∀ j ∈ js, j < n + dd.length) → pick ds (js.map (arOf n dd)) = some ps → pick (ds ++ dd) (js.map .a) = some ps
  | [], ps, _, h => h
  | j :: js, ps, hj, h => by
    rw [List.map_cons] at h ⊢
    have hj0 := hj j (List.mem_cons_self ..)
    have ih := fun qs => pick_dfl (js := js) (ps := qs) hn fun i hi => hj i (List.mem_cons_of_mem _ hi)
    by_cases hlt : j < n
    · rw [show arOf n dd j = .a j from if_pos hlt, pick] at h
      split at h
      · rename_i d hd
        obtain ⟨qs, hq, rfl⟩ := Option.map_eq_some_iff.mp h
        rw [pick, List.getElem?_append_left (by rw [hn]; exact hlt), hd]
        exact Option.map_eq_some_iff.mpr ⟨qs, ih qs hq, rfl⟩
      · cases h
    · rw [show arOf n dd j = .d (dd.getD (j - n) .non) from if_neg hlt, pick] at h
      obtain ⟨qs, hq, rfl⟩ := Option.map_eq_some_iff.mp h
      have hd : dd[j - n]? = some (dd.getD (j - n) .non) := by
        have : j - n < dd.length := by omega
        rw [List.getD_eq_getElem?_getD, List.getElem?_eq_getElem this]
        rfl
      rw [pick, List.getElem?_append_right (by omega), hn, hd]
      exact Option.map_eq_some_iff.mpr ⟨qs, ih qs hq, rfl⟩
theorem sig_dfl {fa : Addr} {fd : FuncData} {ps ks : List Str} {n : Nat} {js : List Nat} {x qual : Str} {params : Arguments} {body : List Stmt} {scope : Scope} {dvs : List V} {kws : List (Str × V)} (dd : List Iv.D) (F : FunD g.K x qual params body scope dvs kws fa fd) (hd : dvs ≠ []) (hl : js.length = ps.length)
    (hj : ∀ j ∈ js, j < n + ks.length + dd.length) (hdd : ∀ m n H, Rels g m n H dd dvs)
    (h : ∀ (T : Addr) (kV doc pm : Value) (an : Option Addr) (cdv ct : Value) (us ws its : List Value), us.length = n → ws.length = ks.length → its.length = dvs.length →
      ∃ k, bindArgs (PySem.W.fnOf x qual params body scope (.ref T) kV doc pm an cdv ct) ⟨us, ks.zip ws⟩ = seqItems? (.ref T) >>= k ∧ k (some its.toArray) = pure (ps.zip (gat js (us ++ ws ++ its)))) : Sig g fd ps n ks (js.map (arOf (n + ks.length) dd)) := by
  obtain ⟨oc, od, dV, kV, doc, pm, an, cdv, ct, osl, rfl, lk, hcd, hD, hK⟩ := F.ex
  rcases hD with ⟨e, _⟩ | ⟨_, T, o, its, mm, rfl, lT, oT, rT⟩
  · exact absurd e hd
  · refine ⟨fun us ws => gat js (us ++ ws ++ its), fun vs zs => gat js (vs ++ zs ++ dvs), ⟨fun s us ws X l1 l2 => ?_, fun r1 r2 => gat_vals ((r1.append r2).append rT) js⟩, fun m N H ds vs zs ps' r l1 l2 hp => ?_⟩
    · obtain ⟨k, e1, e2⟩ := h T kV doc pm an cdv ct us ws its l1 l2 rT.length.symm
      refine BindsTo.of_looks fun M => ?_
      rw [e1]
      exact looks_items X lT oT (.of_pure e2)
    · have ln : ds.length = n + ks.length := by rw [r.length, List.length_append, l1, l2]
      obtain ⟨q1, q2⟩ := gat_rels (r.append (hdd m N H)) (pick_dfl ln (fun j hj' => hj j hj') hp)
      exact ⟨q1, q2.trans hl⟩
theorem strs_rels {m : Mp} {n : Nat} {H : Hp} : ∀ {xs : List Iv.D} {vs : List V} {ss : List Str}, strsD xs = some ss → Rels g m n H xs vs → vs = ss.map V.str ∧ ∀ s ∈ ss, okS s
  | [], vs, ss, h, r => by
    cases h
    unfold Rels at r
    exact ⟨r, fun s hs => by cases hs⟩
  | x :: xs, vs, ss, h, r => by
    unfold Rels at r
    obtain ⟨w, ws, rfl, r1, r2⟩ := r
    cases x with
    | str z =>
      obtain ⟨ms, hm, rfl⟩ := Option.map_eq_some_iff.mp (show (strsD xs).map (z :: ·) = some ss from h)
      rw [rel_str] at r1
      obtain ⟨i1, i2⟩ := strs_rels hm r2
      refine ⟨by rw [r1.1, i1]; rfl, fun s hs => ?_⟩
      rcases List.mem_cons.mp hs with rfl | hs
      · exact r1.2
      · exact i2 s hs
    | _ => cases h
theorem joinL_mem {S : List Nat} {c : Nat} : ∀ {ps : List (List Nat)}, c ∈ joinL S ps → c ∈ S ∨ ∃ p ∈ ps, c ∈ p
  | [], h => by cases h
  | [p], h => .inr ⟨p, List.mem_cons_self .., h⟩
  | p :: q :: r, h => by
    unfold joinL at h
    rcases List.mem_append.mp h with h | h
    · exact .inr ⟨p, List.mem_cons_self .., h⟩
    · rcases List.mem_append.mp h with h | h
      · exact .inl h
      · rcases joinL_mem h with h | ⟨u, hu, h⟩
        · exact .inl h
        · exact .inr ⟨u, List.mem_cons_of_mem _ hu, h⟩
theorem joinL_len {S : List Nat} : ∀ ps : List (List Nat), (joinL S ps).length ≤ (ps.map List.length).sum + ps.length * S.length
  | [] => Nat.zero_le _
  | [p] => by simp [joinL]
  | p :: q :: r => by
    have ih := joinL_len (S := S) (q :: r)
    unfold joinL
    simp only [List.length_append, List.map_cons, List.sum_cons, List.length_cons, Nat.succ_mul] at ih ⊢
    omega
theorem okS_join {a : Str} {ys : List Str} (ha : okS a) (hy : ∀ s ∈ ys, okS s) (hl : (ys.map (·.length)).sum + ys.length * a.length ≤ 16777216) : okS (Txt.join a ys) := by
  have e : (Txt.join a ys).cps.toList = joinL (tl a) (ys.map tl) := by rw [join_eq]; exact tl_join a ys
  constructor
  · have h := joinL_len (S := tl a) (ys.map tl)
    rw [← e, List.length_map, List.map_map] at h
    have h1 : (Txt.join a ys).length = (Txt.join a ys).cps.toList.length := rfl
    have h2 : (ys.map (List.length ∘ tl)) = ys.map (·.length) := rfl
    have h3 : (tl a).length = a.length := rfl
    rw [h2, h3] at h
    rw [h1, sizeLine_eq]
    omega
  · intro c hc
    rw [e] at hc
    rcases joinL_mem hc with h | ⟨p, hp, h⟩
    · exact ha.2 c h
    · obtain ⟨s, hs, rfl⟩ := List.mem_map.mp hp
      exact (hy s hs).2 c h
theorem mt_join' (hK : X.K = g.K) : MtR X "str.join" (rm g .join) := by
  refine MtR.imp mt_join fun v xs H Q ⟨m, S, d, ds, W, rs, r, rx, w⟩ => ?_
  replace w : WP g W (Rel g) m S.length H (bmJoin S d ds) Q := w
  unfold bmJoin at w
  split at w
  · split at w
    · rename_i a
      split at w
      · rename_i ys hy
        obtain ⟨c, w⟩ := w.ck
        obtain ⟨zs, hz, hs⟩ := Option.bind_eq_some_iff.mp hy
        obtain ⟨y, rfl, ry⟩ := rx.one
        rw [rel_str] at r
        obtain ⟨p, vs, rfl, rr, q⟩ := seqOf_sq rs ry hz
        obtain ⟨e, ok⟩ := strs_rels hs rr
        rw [e, ← hK] at q
        exact ⟨a, p, ys, r.1, rfl, q, c, w.now rs (by rw [rel_str]; exact ⟨rfl, okS_join r.2 ok c⟩)⟩
      · exact w.err
    · exact w.err
  · exact w.err
end
end Iv

/-! ### range with a step, zip of boxes, isinstance of several, keyword-only defaults, classes -/
namespace Iv
open PySem PySem.Spec PyProof.Rows L2
section
variable {g : Gs} {W : L2.WX} {X : Cx} {F : CE} {m : Mp} {n : Nat} {H : Hp} {S : Sto} {ρ : Env} {pos : Pos} {xs ys : List Iv.D}
/-! isinstance(x, (T, ..)) -/
end
section
variable {g : Gs}
end
/-! classes -/
section
variable {g : Gs} {W : L2.WX} {X : Cx} {F : CE} {o : Expr} {es : List Expr} {kws : List Keyword} {io : E} {ies iks : List E} {ks : List Str} {x name : Str} {p pos apos : Pos}
end
end Iv
/-! ### the head, with one more Bool -/

/-! ### sum(lists, []) -/
namespace Iv
open PySem PySem.Spec PyProof.Rows L2
section
variable {prog : Program} {w : World} {A : Around} {E : Value → Shared → Prop} {s : Shared}
end
end Iv
namespace Iv
open PySem PySem.Spec PyProof.Rows L2
section
variable {g : Gs} {W : L2.WX} {X : Cx} {F : CE} {m : Mp} {n : Nat} {H : Hp} {S : Sto} {ρ : Env} {p pos apos : Pos} {e o : Expr} {es : List Expr} {ie io : E} {σ : L2.St}
/-! max(.., default=i) -/
end
end Iv
namespace Iv
open PySem PySem.Spec PyProof.Rows L2
section
variable {g : Gs} {W : L2.WX} {X : Cx} {F : CE} {m : Mp} {n : Nat} {H : Hp} {S : Sto} {ρ : Env} {p pos apos : Pos} {e o : Expr} {es : List Expr} {ie io : E} {σ : L2.St}
theorem Rels.eraseIdx {xs : List Iv.D} {vs : List V} (r : Rels g m n H xs vs) (j : Nat) : Rels g m n H (xs.eraseIdx j) (vs.eraseIdx j) := by
  rw [List.eraseIdx_eq_take_drop_succ, List.eraseIdx_eq_take_drop_succ]
  exact (r.take j).append (r.drop (j + 1))
theorem mt_pop1' : MtR X "list.pop" (rm g .pop1) := by
  refine MtR.imp mt_popAt fun v xs H Q ⟨m, S, d, ds, W, rs, r, rx, w⟩ => ?_
  replace w : WP g W (Rel g) m S.length H (bmPop S d ds) Q := w
  unfold bmPop at w
  split at w
  · rename_i i
    split at w
    · split at w
      · rename_i nn _ ys hz
        split at w
        · rename_i y hy
          obtain ⟨⟨c1, c2⟩, w⟩ := w.ck
          obtain ⟨u, rfl, ru⟩ := rx.one
          rw [rel_int] at ru
          subst ru
          obtain ⟨a, rfl, k, vs, hv, rv⟩ := r.box rs hz
          obtain ⟨z, hz2, rz⟩ := rv.get hy
          have hl : i.toNat < vs.length := (List.getElem?_eq_some_iff.mp hz2).1
          refine ⟨a, vs, i, i.toNat, z, rfl, rfl, hv, by omega, by omega, ?_, hz2, ?_⟩
          · have e1 : (decide (0 ≤ i) && decide (i < (vs.length : Int))) = true := by simp; omega
            have e2 : ¬ i < 0 := by omega
            show (if (decide (0 ≤ (if i < 0 then i + vs.length else i)) && decide ((if i < 0 then i + vs.length else i) < (vs.length : Int))) = true then some (if i < 0 then i + vs.length else i).toNat else none) = _
            rw [if_neg e2, if_pos e1]
          · have x := Ext.set (n := S.length) (o := .lst (vs.eraseIdx i.toNat)) rs k
            have l : (setAt S nn (.lst (ys.eraseIdx i.toNat))).length = S.length := by unfold setAt; rw [List.length_set]
            exact w m _ z (by rw [l]; exact x) (rs.set k ⟨_, upd_same, Rels.mono x _ _ (rv.eraseIdx _)⟩) (by rw [l]; exact Rel.mono x _ _ rz)
        · exact w.err
      · exact w.err
    · exact w.err
  · exact w.err
theorem mt_index' {k : Nat} (hr : Room k X.A) (hK : X.K = g.K) : MtR X "list.index" (rm g .index) := by
  refine MtR.imp (mt_indexD (by have := hr.un; omega)) fun v xs H Q ⟨m, S, d, ds, W, rs, r, rx, w⟩ => ?_
  replace w : WP g W (Rel g) m S.length H (bmIndex S d ds) Q := w
  unfold bmIndex at w
  split at w
  · rename_i y
    split at w
    · rename_i ys hy
      split at w
      · rename_i j hj
        obtain ⟨⟨c1, c2, c3, c4⟩, w⟩ := w.ck
        obtain ⟨u, rfl, ru⟩ := rx.one
        obtain ⟨a, vs, rfl, rv, q⟩ := lst_sq rs r hy
        obtain ⟨p1, p2⟩ := pys_lay ys vs c1 rv
        obtain ⟨p3, p4⟩ := py_lay y u c2 ru
        obtain ⟨hlt, hz, hno⟩ := List.findIdx?_eq_some_iff_getElem.mp hj
        rw [hK]
        refine ⟨a, u, y.py, D.pys ys, j, ys[j].py, rfl, rfl, .lst q p2, p4, ?_, ?_, ?_, ?_, fun i z' hi hz' => ?_, w.now rs (by rw [rel_int])⟩
        · unfold SeqAt.shaped
          rw [PyData.canLay0, p1, PyData.depth, pys_depth ys c1, Bool.true_and]
          exact decide_eq_true (by omega)
        · exact py_shaped c2 ru (by omega)
        · rw [pys_map, List.getElem?_map, List.getElem?_eq_getElem hlt]
          rfl
        · rw [py_eqv _ _ (fzs_mem c1 (List.getElem_mem hlt)) c2]
          exact hz
        · rw [pys_map] at hz'
          obtain ⟨z, hz1, rfl⟩ := Option.map_eq_some_iff.mp ((List.getElem?_map ..).symm.trans hz')
          obtain ⟨hil, rfl⟩ := List.getElem?_eq_some_iff.mp hz1
          rw [py_eqv _ _ (fzs_mem c1 (List.getElem_mem hil)) c2]
          simpa using hno i hi
      · exact w.err
    · exact w.err
  · exact w.err
/-! a, b, *rest = .. -/
theorem star_all1 {es : List Expr} {t : Expr} {sp : Pos} {env : PySem.Env} (ok : es.all noStar = true) : (assignEach (es ++ [.Starred t sp]) env).length = es.length + 1 ∧ (assignEach (es ++ [.Starred t sp]) env).findIdx? (·.1) = some es.length ∧ (assignEach (es ++ [.Starred t sp]) env).map (·.2) = (assignEach es env).map (·.2) ++ [assign t env] := by
  induction es with
  | nil => exact ⟨rfl, rfl, rfl⟩
  | cons e es ih =>
    rw [List.all_cons, Bool.and_eq_true] at ok
    obtain ⟨h1, h2, h3⟩ := ih ok.2
    have e1 : assignEach ((e :: es) ++ [.Starred t sp]) env = (false, assign e env) :: assignEach (es ++ [.Starred t sp]) env := assignEach_ok ok.1
    have e2 : assignEach (e :: es) env = (false, assign e env) :: assignEach es env := assignEach_ok ok.1
    rw [e1, e2]
    refine ⟨by rw [List.length_cons, h1, List.length_cons], ?_, by rw [List.map_cons, h3]; rfl⟩
    rw [List.findIdx?_cons, h2]
    rfl
section
variable {prog : Program} {w : World} {A : Around} {E : Value → Shared → Prop} {s : Shared}
theorem star_itemsL {l : Addr} {items : Array Value} {i : Nat} {Q : List Value → Shared → Prop} (hl : s.heap.IsList l items) (hh : A.handled = none) (hn : i ≤ items.size) (hz : items.size ≤ 16384)
    (h : ∀ (h' : Heap) (tk : Nat), (∀ b o, s.heap.get? b = some o → h'.get? b = some o) → Q (items.toList.take i ++ [.ref h'.objs.size]) { s with heap := h'.push { cls := .type "list", data := .seq (items.toList.drop i).toArray }, toks := tk }) : wpAny (model prog w) A (unpackItems (.ref l) (i + 1) (some i)) Q E s := by
  have hlt : l ≠ s.heap.objs.size := by obtain ⟨o, ho, _⟩ := hl; exact Nat.ne_of_lt (Heap.lt_size ho)
  unfold unpackItems
  refine wpAny_bind ?_
  unfold notIterableAtAll
  refine wpAny_bind (wpAny_specialOf hl.typeIs slot_list_iter.lookup ?_)
  refine wpAny_pure ?_
  simp only [Bool.false_eq_true, if_false]
  refine wpAny_bind (wpAny_holding (wpAny_pyIter_list hl ?_))
  refine wpAny_bind (wpAny_holding (PySem.W.kun_draw hlt i 0 _ _ ⟨_, Heap.get?_push_size _ rfl, rfl, rfl⟩ (hl.push _) (by omega) fun h₁ hit₁ hs₁ => ?_))
  have hl₁ : h₁.IsList l items := (hl.push _).extBut hs₁.extBut hlt
  rw [Nat.zero_add] at hit₁
  obtain ⟨oi, hoi, _⟩ := id hit₁
  obtain ⟨ol, hol, _⟩ := id hl₁
  rw [List.drop_zero]
  have hfl : (items.toList.take i).length = i := by rw [List.length_take, Array.length_toList]; omega
  rw [if_neg (show ¬ ((items.toList.take i).length < i) by rw [hfl]; omega)]
  refine wpAny_bind (wpAny_holding (PySem.W.kun_collect (s := { s with heap := h₁ }) (T := "list_iterator") (.inr (.inr (.inl rfl))) (Walks.list (A := A.in1) hh s.heap.objs.size l hlt items) (fun j u st => st.1.typeIs) (k := i) (by omega) ⟨hit₁, hl₁⟩ (Heap.lt_size hoi) (Heap.lt_size hol) (fun h₂ tk hk => ?_) (by rw [sizeLine_eq]; omega)))
  have hrl : (items.toList.drop i).length = items.size - i := by rw [List.length_drop, Array.length_toList]
  have hmid : (items.toList.drop i).length - (i + 1 - 1 - i) = (items.toList.drop i).length := by omega
  show wpAny _ _ (if (items.toList.drop i).length < i + 1 - 1 - i then _ else _) _ _ _
  rw [if_neg (by omega)]
  show wpAny _ _ (newList ((items.toList.drop i).take ((items.toList.drop i).length - (i + 1 - 1 - i))) >>= fun d => pure (items.toList.take i ++ [d] ++ (items.toList.drop i).drop ((items.toList.drop i).length - (i + 1 - 1 - i)))) _ _ _
  rw [hmid, List.take_length, List.drop_length]
  have he : ∀ b o, s.heap.get? b = some o → h₂.get? b = some o := fun b o e => hk b o (Nat.ne_of_lt (Heap.lt_size e)) (hs₁.extBut b o (Nat.ne_of_lt (Heap.lt_size e)) (Heap.get?_push_of_some _ e))
  refine wpAny_bind (wpAny_newObj_type ?_ (by show (items.toList.drop i).toArray.size ≤ _; rw [List.size_toArray, hrl, sizeLine_eq]; omega))
  refine wpAny_pure ?_
  rw [List.append_nil]
  exact h h₂ tk he
theorem star_itemsT {l : Addr} {items : Array Value} {i : Nat} {Q : List Value → Shared → Prop} (hl : IsTup s.heap l items) (hh : A.handled = none) (hn : i ≤ items.size) (hz : items.size ≤ 16384)
    (h : ∀ (h' : Heap) (tk : Nat), (∀ b o, s.heap.get? b = some o → h'.get? b = some o) → Q (items.toList.take i ++ [.ref h'.objs.size]) { s with heap := h'.push { cls := .type "list", data := .seq (items.toList.drop i).toArray }, toks := tk }) : wpAny (model prog w) A (unpackItems (.ref l) (i + 1) (some i)) Q E s := by
  have hlt : l ≠ s.heap.objs.size := by obtain ⟨o, ho, _⟩ := hl; exact Nat.ne_of_lt (Heap.lt_size ho)
  unfold unpackItems
  refine wpAny_bind ?_
  unfold notIterableAtAll
  refine wpAny_bind (wpAny_specialOf hl.typeIs slot_tuple_iter.lookup ?_)
  refine wpAny_pure ?_
  simp only [Bool.false_eq_true, if_false]
  refine wpAny_bind (wpAny_holding (iter_tuple hl ?_))
  refine wpAny_bind (wpAny_holding (draw_tuple hlt i 0 _ _ ⟨_, Heap.get?_push_size _ rfl, rfl, rfl⟩ (hl.push _) (by omega) fun h₁ hit₁ hs₁ => ?_))
  have hl₁ : IsTup h₁ l items := (hl.push _).extBut hs₁.extBut hlt
  rw [Nat.zero_add] at hit₁
  obtain ⟨oi, hoi, _⟩ := id hit₁
  obtain ⟨ol, hol, _⟩ := id hl₁
  rw [List.drop_zero]
  have hfl : (items.toList.take i).length = i := by rw [List.length_take, Array.length_toList]; omega
  rw [if_neg (show ¬ ((items.toList.take i).length < i) by rw [hfl]; omega)]
  refine wpAny_bind (wpAny_holding (PySem.W.kun_collect (s := { s with heap := h₁ }) (T := "tuple_iterator") (.inr (.inr (.inr rfl))) (Walks.tuple (A := A.in1) hh s.heap.objs.size l hlt items) (fun j u st => st.1.typeIs) (k := i) (by omega) ⟨hit₁, hl₁⟩ (Heap.lt_size hoi) (Heap.lt_size hol) (fun h₂ tk hk => ?_) (by rw [sizeLine_eq]; omega)))
  have hrl : (items.toList.drop i).length = items.size - i := by rw [List.length_drop, Array.length_toList]
  have hmid : (items.toList.drop i).length - (i + 1 - 1 - i) = (items.toList.drop i).length := by omega
  show wpAny _ _ (if (items.toList.drop i).length < i + 1 - 1 - i then _ else _) _ _ _
  rw [if_neg (by omega)]
  show wpAny _ _ (newList ((items.toList.drop i).take ((items.toList.drop i).length - (i + 1 - 1 - i))) >>= fun d => pure (items.toList.take i ++ [d] ++ (items.toList.drop i).drop ((items.toList.drop i).length - (i + 1 - 1 - i)))) _ _ _
  rw [hmid, List.take_length, List.drop_length]
  have he : ∀ b o, s.heap.get? b = some o → h₂.get? b = some o := fun b o e => hk b o (Nat.ne_of_lt (Heap.lt_size e)) (hs₁.extBut b o (Nat.ne_of_lt (Heap.lt_size e)) (Heap.get?_push_of_some _ e))
  refine wpAny_bind (wpAny_newObj_type ?_ (by show (items.toList.drop i).toArray.size ≤ _; rw [List.size_toArray, hrl, sizeLine_eq]; omega))
  refine wpAny_pure ?_
  rw [List.append_nil]
  exact h h₂ tk he
end
theorem pgs_star {t : Expr} {tg : TG} {sp : Pos} (h1 : PG X t tg) : PGs X [.Starred t sp] (gCons tg gNil) := by
  refine ⟨fun pins s σ H vs us Q I r h => ?_⟩
  obtain ⟨v, vr, e1, h⟩ := h
  subst e1
  cases r with
  | cons r rr =>
    show wpAny _ _ (assignInOrder [assign t X.env] _) _ _ s
    refine assignInOrder_cons (thn (h1.run pins s σ H _ _ _ I r h) fun _ s1 ⟨σ1, H1, I1, q1⟩ => ?_)
    exact pgs_nil.run pins s1 σ1 H1 _ _ Q I1 rr q1
theorem gs_star {vs : List Nat} {t : Expr} {tg : Tg} {sp : Pos} (h1 : PG X t (TGv g vs (asg F tg))) : PGs X [.Starred t sp] (TGvs g vs [tg].length (asgs F [tg])) := by
  refine PGs.imp (pgs_star h1) fun us σ H Q ⟨m, ρ, S, ds, rs, er, r, l, w⟩ => ?_
  cases ds with
  | nil => cases l
  | cons d ds =>
    have hds : ds = [] := List.length_eq_zero_iff.mp (Nat.succ.inj l)
    subst hds
    obtain ⟨v, rfl, r1⟩ := r.one
    rw [asgs] at w
    refine ⟨v, [], rfl, m, ρ, S, d, rs, er, r1, (WP.bind (Ra := EnvK g vs σ) w).imp fun σ1 H1 ⟨m1, S1, ρ1, x1, rs1, ⟨er1, k1⟩, w1⟩ => ⟨rfl, ?_⟩⟩
    rw [asgs] at w1
    exact w1.now rs1 ⟨er1, k1⟩
theorem gs_cons' {vs : List Nat} {e : Expr} {es : List Expr} {t : Tg} {ts : List Tg} (ok : noStar e = true) (h1 : PG X e (TGv g vs (asg F t))) (h2 : PGs X es (TGvs g vs ts.length (asgs F ts))) : PGs X (e :: es) (TGvs g vs (t :: ts).length (asgs F (t :: ts))) := gs_cons ok h1 h2
def gStar (K : PySem.W.Frag) (n : Nat) (t : TGs) : TG := fun v σ H Q => ∃ a xs, v = .ref a ∧ (SqT K H a xs ∨ SqL K H a xs) ∧ n ≤ xs.length ∧ xs.length ≤ 16384 ∧ ∀ p, H p = none → t (xs.take n ++ [.ref p]) σ (upd H p (.lst (xs.drop n))) Q
theorem pg_star {es pre : List Expr} {st : Expr} {sp : Pos} {k : Nat} {t : TGs} (hc : X.calm = true) (h : PGs X es t) (hes : es = pre ++ [.Starred st sp]) (ok : pre.all noStar = true) : PG X (.Tuple es k pos) (gStar X.K pre.length t) := by
  refine ⟨fun pins s σ H v u Q I r hw => ?_⟩
  obtain ⟨a, xs, e1, hq, hl, hz, hw⟩ := hw
  subst e1
  cases r
  obtain ⟨n1, n2, _⟩ := star_all1 (t := st) (sp := sp) (env := X.env) ok
  rw [← hes] at n1 n2
  rw [PyProof.Rows.assign_Tuple]
  refine wpAny_bind (wpAny_standAt ?_)
  unfold unpack
  rw [n1, n2]
  have fin : ∀ (its : List Value), Vals xs its → ∀ (h' : Heap) (tk : Nat), (∀ b o, s.heap.get? b = some o → h'.get? b = some o) → wpAny (model X.prog X.w) X.A (assignInOrder ((assignEach es X.env).map (·.2)) (its.take pre.length ++ [.ref h'.objs.size])) (fun _ s' => ∃ σ' H', Inv X pins σ' H' s' ∧ Q σ' H') X.xe { s with heap := h'.push { cls := .type "list", data := .seq (its.drop pre.length).toArray }, toks := tk } := by
    intro its rv h' tk hk
    have I1 : Inv X pins σ H { s with heap := h', toks := tk } := I.kept hk
    have I2 := I1.lnew (its := its.drop pre.length) (t' := tk) (rv.drop pre.length) (by rw [List.length_drop, sizeLine_eq]; omega)
    exact h.run pins _ σ _ (xs.take pre.length ++ [.ref h'.objs.size]) _ Q I2 (Vals.append (rv.take _) (.cons (show RelV (V.ref h'.objs.size) (Value.ref h'.objs.size) from rfl) .nil)) (hw _ (I1.fresh))
  rcases hq with hq | hq
  · obtain ⟨its, rv, ht, _⟩ := I.tuple hq
    refine wpAny_bind (wpAny_holding (star_itemsT ht (I.ok.hd hc) (by rw [List.size_toArray, ← rv.length]; exact hl) (by rw [List.size_toArray, ← rv.length]; exact hz) fun h' tk hk => ?_))
    exact fin its rv h' tk hk
  · obtain ⟨its, rv, hpl, _⟩ := I.list hq
    refine wpAny_bind (wpAny_holding (star_itemsL hpl.isList (I.ok.hd hc) (by rw [List.size_toArray, ← rv.length]; exact hl) (by rw [List.size_toArray, ← rv.length]; exact hz) fun h' tk hk => ?_))
    exact fin its rv h' tk hk
theorem g_tups {vs : List Nat} {es : List Expr} {st : Expr} {sp : Pos} {ts : List Tg} {k : Nat} (h : PGs X es (TGvs g vs ts.length (asgs F ts))) (hlast : es.getLast? = some (.Starred st sp) := by rfl) (ok : es.dropLast.all noStar = true := by rfl) (hl : ts.length = es.dropLast.length + 1 := by rfl) (hK : X.K = g.K := by rfl) (hc : X.calm = true := by rfl) : PG X (.Tuple es k pos) (TGv g vs (asg F (.tups ts))) := by
  obtain ⟨pre, hpre⟩ : ∃ pre, pre = es.dropLast := ⟨_, rfl⟩
  have hes : es = pre ++ [.Starred st sp] := by
    rw [hpre]
    have hne : es ≠ [] := fun z => by rw [z] at hlast; cases hlast
    have e1 := List.dropLast_concat_getLast hne
    rw [List.getLast?_eq_some_getLast hne] at hlast
    rw [← Option.some.inj hlast]
    exact e1.symm
  rw [← hpre] at ok hl
  refine PG.imp (pg_star hc h hes ok) fun v σ H Q ⟨m, ρ, S, d, rs, er, r, w⟩ => ?_
  rw [asg] at w
  split at w
  · rename_i xs hx
    obtain ⟨⟨c1, c2, c3⟩, w⟩ := w.ck
    obtain ⟨a, vs', rfl, rr, q⟩ := seqOf_sq rs r hx
    have e1 : ts.length - 1 = pre.length := by omega
    rw [e1] at w
    refine ⟨a, vs', rfl, by rw [hK]; exact q.symm, by rw [← rr.length]; omega, by rw [← rr.length]; exact c3, fun p hp => ?_⟩
    have rs2 := rs.laid (o := .lst (vs'.drop pre.length)) hp
    have x2 : Ext m S.length H m S.length (upd H p (.lst (vs'.drop pre.length))) := Ext.laid rs hp
    refine ⟨m, ρ, S, _, rs2, er.mono x2, (Rels.mono x2 _ _ (rr.take pre.length)).append (Rels.cons ?_ Rels.nil), ?_, w.from x2⟩
    · rw [rel_lst]
      exact ⟨p, _, rfl, ⟨upd_same, Off.free rs hp⟩, Rels.mono x2 _ _ (rr.drop _)⟩
    · rw [List.length_append, List.length_singleton, List.length_take]
      omega
  · exact w.err
/-! xs[a:b] = ys -/
end
end Iv

/-! ### comprehensions over two walks; str.index; enumerate(start=) -/
namespace Iv
open PySem PySem.Spec PyProof.Rows L2
section
variable {g : Gs} {W : L2.WX} {X : Cx} {F : CE} {m m' : Mp} {n : Nat} {H H' : Hp} {S S' : Sto} {σ : L2.St} {ρ : Env} {pos : Pos}
theorem ExtW.refl : ExtW m n H m n H := (Ext.refl (m := m) (n := n) (H := H)).w
theorem ExtW.trans {m1 m2 m3 : Mp} {n1 n2 n3 : Nat} {H1 H2 H3 : Hp} (x : ExtW m1 n1 H1 m2 n2 H2) (y : ExtW m2 n2 H2 m3 n3 H3) : ExtW m1 n1 H1 m3 n3 H3 :=
  ⟨Nat.le_trans x.le y.le, fun i a l e => x.old i a l (y.old i a (Nat.lt_of_lt_of_le l x.le) e), fun a o e f => let ⟨e', f'⟩ := x.keep a o e f; y.keep a o e' f'⟩
theorem EnvR.monoW {m1 : Mp} {n1 : Nat} {H1 : Hp} (x : ExtW m n H m1 n1 H1) (h : EnvR g m n H ρ σ) : EnvR g m1 n1 H1 ρ σ := ⟨h.1, fun i d e => let ⟨v, e1, r⟩ := h.2 i d e; ⟨v, e1, Rel.monoW x d v r⟩⟩
variable {own own1 : List Nat} {t t1 : Tg} {it it1 : Iv.It} {iifs iifs1 : List E} {ie : E} {box : Bool}
noncomputable abbrev lcStepB (F : CE) (own own1 : List Nat) (t : Tg) (iifs : List E) (t1 : Tg) (it1 : Iv.It) (iifs1 : List E) (ie : E) (ρ : Env) : Iv.D → Sto → R (List Iv.D) := fun d S => (asg F t d (wipeE ρ own) S).bind fun ρ1 S => (evIfs F iifs ρ1 S).bind fun k S => if k = true then
        (evIt F it1 ρ1 S).bind fun w1 S => lcLoop w1.1 (lcStep F own1 t1 iifs1 ie ρ1) w1.2 S
        else .ok [] S
/-! str.index -/
end
end Iv

/-! ### enumerate(list, start=c) -/
namespace We
open PySem PySem.Spec PyProof.Rows L2
end We
namespace Iv
open PySem PySem.Spec PyProof.Rows L2
section
variable {g : Gs} {W : L2.WX} {X : Cx} {F : CE} {m : Mp} {n : Nat} {H : Hp} {S : Sto} {σ : L2.St} {ρ : Env} {pos : Pos} {a : Addr} {xs : List Iv.D} {src : Src}
end
end Iv

/-! ### str(list), str(tuple) where no repr is under way; the law's own call -/
namespace Wg
open PySem PySem.Spec PyProof.Rows L2
/-- the law's own promise: told where no repr is under way -/
structure FnG (P : Program) (w : World) (K : PySem.W.Frag) (mg : Str → Option Value) (base : Heap) (CX : CXT) (k : Nat) (f : Addr) (fd : FuncData) (ps : List Str) (sp : Sp) : Prop where
  run : ∀ (A : Around) (outer : List Env) (s : Shared) (H : Hp) (args : Args) (us : List Value) (vs : List V) (Q : VK) (E : XK), A.guards = some [] → Room k A → Env0 P w K mg base A outer s H → BindsTo s fd args (ps.zip us) → Vals vs us → sp vs H Q E →
    codeAny (model P w) A (.call (.ref f) args) (CR CX outer P w H s Q E) s
/-- the abstract heap at the law's call: the script, where it is no object of the module -/
def hp0 (K : PySem.W.Frag) (a : Addr) (vs : List Value) (ns : List Int) : Hp := fun b => if b = a ∧ K.lookup a = none then some (.frz { cls := .type "list", data := .seq vs.toArray } (.lst (ns.map V.int))) else none
end Wg
namespace Iv
open PySem PySem.Spec PyProof.Rows L2
section
variable {g : Gs} {W : L2.WX} {X : Cx} {F : CE} {m : Mp} {H : Hp} {S : Sto} {ρ : Env} {p pos : Pos} {e : Expr} {ie : E} {σ : L2.St} {d : Iv.D} {v : V}
end
section
variable {P : Program} {w : World} {K : PySem.W.Frag} {mg : Str → Option Value} {base : Heap} {g : Gs} {T : List Fn}
end
end Iv

/-! ### dicts whose keys are ints and texts -/
namespace Iv
open PySem PySem.Spec PyProof.Rows L2
section
variable {g : Gs} {W : L2.WX} {X : Cx} {F : CE} {m m1 m2 : Mp} {n n1 n2 : Nat} {H H1 H2 : Hp} {S S' : Sto} {σ : L2.St} {ρ : Env} {pos : Pos} {k : Key} {d : Iv.D} {v : V} {ds : List (Key × Iv.D)} {ws : List (Key × V)}
theorem key_rel (e : keyD d = some k) (r : Rel g m n H d v) : v = kV k ∧ okKey k := by
  cases d with
  | int i => cases e; rw [rel_int] at r; exact ⟨r, trivial⟩
  | str x => cases e; rw [rel_str] at r; exact ⟨r.1, r.2⟩
  | _ => cases e
theorem relKs_get : ∀ {ds : List (Key × Iv.D)} {ws : List (Key × V)}, RelKs g m n H ds ws → (∀ d, dGet ds k = some d → ∃ v, valV ws k = some v ∧ Rel g m n H d v) ∧ (dGet ds k = none → valV ws k = none)
  | [], ws, h => by
    have h : ws = [] := h
    subst h
    exact ⟨fun d e => (nomatch e), fun _ => rfl⟩
  | (k', d') :: r, ws, h => by
    obtain ⟨v', gr, rfl, ok, q, q2⟩ := h
    have ih := relKs_get q2
    by_cases e : k' = k
    · have e1 : dGet ((k', d') :: r) k = some d' := by unfold dGet; rw [List.find?_cons_of_pos (by simpa using e)]; rfl
      rw [e1, valV_pos (p := (k', v')) e]
      exact ⟨fun d ed => ⟨v', rfl, by cases ed; exact q⟩, fun z => (nomatch z)⟩
    · have e1 : dGet ((k', d') :: r) k = dGet r k := by unfold dGet; rw [List.find?_cons_of_neg (by simpa using e)]
      rw [e1, valV_neg (p := (k', v')) e]
      exact ih
theorem relKs_some (h : RelKs g m n H ds ws) : (dGet ds k).isSome = (valV ws k).isSome := by
  obtain ⟨a, b⟩ := relKs_get (k := k) h
  cases e : dGet ds k with
  | none => rw [b e]; rfl
  | some d => obtain ⟨v, hv, _⟩ := a d e; rw [hv]; rfl
theorem relKs_len : ∀ {ds : List (Key × Iv.D)} {ws : List (Key × V)}, RelKs g m n H ds ws → ds.length = ws.length ∧ ds.map (·.1) = ws.map (·.1)
  | [], ws, h => by
    have h : ws = [] := h
    subst h
    exact ⟨rfl, rfl⟩
  | (k', d') :: r, ws, h => by
    obtain ⟨v', gr, rfl, ok, q, q2⟩ := h
    obtain ⟨a, b⟩ := relKs_len q2
    exact ⟨by rw [List.length_cons, List.length_cons, a], by rw [List.map_cons, List.map_cons, b]⟩
theorem relKs_any : ∀ {ds : List (Key × Iv.D)} {ws : List (Key × V)}, RelKs g m n H ds ws → (ds.any fun kv => decide (kv.1 = k)) = (ws.any fun kv => decide (kv.1 = k))
  | [], ws, h => by
    have h : ws = [] := h
    subst h
    rfl
  | (k', d') :: r, ws, h => by
    obtain ⟨v', gr, rfl, ok, q, q2⟩ := h
    rw [List.any_cons, List.any_cons, relKs_any q2]
theorem relKs_app : ∀ {ds es : List (Key × Iv.D)} {ws vs : List (Key × V)}, RelKs g m n H ds ws → RelKs g m n H es vs → RelKs g m n H (ds ++ es) (ws ++ vs)
  | [], _, ws, _, h, q => by
    have h : ws = [] := h
    subst h
    exact q
  | (k', d') :: r, _, ws, _, h, q => by
    obtain ⟨v', gr, rfl, ok, q1, q2⟩ := h
    exact ⟨v', _, rfl, ok, q1, relKs_app q2 q⟩
theorem relKs_repl (rd : Rel g m n H d v) : ∀ {ds : List (Key × Iv.D)} {ws : List (Key × V)}, RelKs g m n H ds ws → RelKs g m n H (ds.map fun kv => if kv.1 = k then (kv.1, d) else kv) (ws.map fun kv => if kv.1 = k then (kv.1, v) else kv)
  | [], ws, h => by
    have h : ws = [] := h
    subst h
    rfl
  | (k', d') :: r, ws, h => by
    obtain ⟨v', gr, rfl, ok, q, q2⟩ := h
    have ih := relKs_repl rd q2
    rw [List.map_cons, List.map_cons]
    by_cases e : k' = k
    · rw [if_pos e, if_pos e]
      exact ⟨v, _, rfl, ok, rd, ih⟩
    · rw [if_neg e, if_neg e]
      exact ⟨v', _, rfl, ok, q, ih⟩
theorem relKs_put (ok : okKey k) (rd : Rel g m n H d v) (h : RelKs g m n H ds ws) : RelKs g m n H (dPut ds k d) (putK ws k v) := by
  unfold dPut putK
  rw [relKs_any h]
  split
  · exact relKs_repl rd h
  · exact relKs_app h ⟨v, [], rfl, ok, rd, rfl⟩
theorem drd_at {p : List (Key × Iv.D)} (rs : RS g m S H) (r : Rel g m S.length H d v) (e : drdOf S d = some p) : ∃ a kws, v = .ref a ∧ Rd H a (.dK kws) ∧ RelKs g m S.length H p kws := by
  cases d with
  | ref i =>
    have e' : (match cellAt S i with | some (.dct kvs) => some kvs | some (.dlk kvs) => some kvs | _ => none) = some p := e
    split at e'
    · rename_i kvs hz
      cases e'
      obtain ⟨a, rfl, k, kws, hk, q⟩ := r.box rs hz
      exact ⟨a, kws, rfl, .inl hk, q⟩
    · rename_i kvs hz
      cases e'
      obtain ⟨a, rfl, k, o, kws, hk, q⟩ := r.box rs hz
      exact ⟨a, kws, rfl, .inr ⟨o, hk⟩, q⟩
    · cases e'
  | _ => cases e
theorem DGet.rd {a : Addr} {kws : List (Key × V)} (e : Rd H a (.dK kws)) : DGet H a (kV k) (valV kws k) := .inl ⟨kws, k, e, rfl, rfl⟩
theorem noSl_ok {i : Expr} (h : okE i = true) : NoSl i := by
  intro ov iv
  cases i <;> first | rfl | (exact absurd h Bool.false_ne_true)
theorem i_didx {o i : Expr} {io ii : E} {kk : Nat} (hr : Room kk X.A) (ok : okE i = true) (ho : PE X o (tE g W (ev F io))) (hi : PE X i (tE g W (ev F ii))) : PE X (.Subscript o i pos) (tE g W (ev F (.didx io ii))) := by
  refine PE.imp (pe_dget (by have := hr.un; omega) ho hi (noSl_ok ok)) fun σ H Q ⟨m, ρ, S, rs, er, w⟩ => ?_
  rw [ev] at w
  refine TI.step (Ra := Rel g) rs er w fun x H1 m1 S1 dx x1 rs1 er1 r1 w => ?_
  refine TI.step (Ra := Rel g) rs1 er1 w fun y H2 m2 S2 dy x2 rs2 er2 r2 w => ?_
  unfold didxR at w
  split at w
  · rename_i p k hp hk
    split at w
    · rename_i d' hd
      obtain ⟨a, kws, rfl, hka, q⟩ := drd_at rs2 (Rel.mono x2 _ _ r1) hp
      obtain ⟨rfl, _⟩ := key_rel hk r2
      obtain ⟨v', hv, rv⟩ := (relKs_get q).1 d' hd
      exact ⟨a, v', rfl, by rw [← hv]; exact DGet.rd hka, w.now rs2 rv⟩
    · exact w.err
  · exact w.err
def dinOp : Bool → CmpOp
  | false => .In
  | true => .NotIn
theorem din_ok {o i : Expr} {io ii : E} {neg : Bool} {kk : Nat} (hr : Room kk X.A) (ho : PE X o (tE g W (ev F io))) (hi : PE X i (tE g W (ev F ii))) : PC X (dinOp neg) i o (fun σ H Q => TI g W (Rel g) (ev F (.din neg ii io)) σ H Q) := by
  have hu : X.A.units + 1 < cLine := by have := hr.un; omega
  have key : ∀ σ H (Q : VK), TI g W (Rel g) (ev F (.din neg ii io)) σ H Q → tE g W (ev F ii) σ H fun y H1 => tE g W (ev F io) σ H1 fun x H2 => ∃ a ov, x = .ref a ∧ DGet H2 a y ov ∧ Q (.bl (if neg then !ov.isSome else ov.isSome)) H2 := fun σ H Q ⟨m, ρ, S, rs, er, w⟩ => by
    rw [ev] at w
    refine TI.step (Ra := Rel g) rs er w fun y H1 m1 S1 dy x1 rs1 er1 r1 w => ?_
    refine TI.step (Ra := Rel g) rs1 er1 w fun x H2 m2 S2 dx x2 rs2 er2 r2 w => ?_
    unfold dinR at w
    split at w
    · rename_i p k hp hk
      obtain ⟨a, kws, rfl, hka, q⟩ := drd_at rs2 r2 hp
      obtain ⟨rfl, _⟩ := key_rel hk (Rel.mono x2 _ _ r1)
      rw [relKs_some q] at w
      exact ⟨a, _, rfl, DGet.rd hka, w.now rs2 (by rw [rel_bl])⟩
    · exact w.err
  cases neg with
  | false => exact ⟨fun pins s σ H Q I q => (pc_din hu hi ho).run pins s σ H Q I (key σ H Q q)⟩
  | true => exact ⟨fun pins s σ H Q I q => (pc_dnotin hu hi ho).run pins s σ H Q I (key σ H Q q)⟩
theorem i_dget2 {o e f : Expr} {io ie jf : E} {apos cpos : Pos} {kk : Nat} (hr : Room kk X.A) (ho : PE X o (tE g W (ev F io))) (he : PE X e (tE g W (ev F ie))) (hf : PE X f (tE g W (ev F jf))) (M : M2 X o "get" apos e f cpos) : PE X (.Call (.Attribute o "get" apos) [e, f] [] cpos) (tE g W (ev F (.dget2 io ie jf))) := by
  refine PE.imp (pe_dget2 (by have := hr.un; omega) ho he hf M) fun σ H Q ⟨m, ρ, S, rs, er, w⟩ => ?_
  rw [ev] at w
  refine TI.step (Ra := Rel g) rs er w fun x H1 m1 S1 dx x1 rs1 er1 r1 w => ?_
  obtain ⟨c, w⟩ := w.ck
  obtain ⟨p0, hp0⟩ := Option.isSome_iff_exists.mp c
  obtain ⟨a, kws0, rfl, hka0, _⟩ := drd_at rs1 r1 hp0
  refine ⟨a, rfl, .inl ⟨kws0, hka0⟩, ?_⟩
  refine TI.step (Ra := Rel g) rs1 er1 w fun y H2 m2 S2 dy x2 rs2 er2 r2 w => ?_
  refine TI.step (Ra := Rel g) rs2 er2 w fun z H3 m3 S3 dz x3 rs3 er3 r3 w => ?_
  unfold dget2R at w
  split at w
  · rename_i p k hp hk
    obtain ⟨a', kws, ea, hka, q⟩ := drd_at rs3 (Rel.mono x3 _ _ (Rel.mono x2 _ _ r1)) hp
    cases ea
    obtain ⟨rfl, _⟩ := key_rel hk (Rel.mono x3 _ _ r2)
    refine ⟨_, DGet.rd hka, w.now rs3 ?_⟩
    obtain ⟨q1, q2⟩ := relKs_get (k := k) q
    cases e : dGet p k with
    | none => rw [q2 e]; exact r3
    | some d' =>
      obtain ⟨v', hv, rv⟩ := q1 d' e
      rw [hv]
      exact rv
  · exact w.err
end
end Iv

/-! ### sorted(d), dict comprehensions -/
namespace Iv
open PySem PySem.Spec PyProof.Rows L2
section
variable {g : Gs} {W : L2.WX} {X : Cx} {F : CE} {m m1 m2 m' : Mp} {n n1 n2 : Nat} {H H1 H2 H' : Hp} {S S' : Sto} {σ : L2.St} {ρ : Env} {pos : Pos} {k : Key} {d : Iv.D} {v : V} {ds : List (Key × Iv.D)} {ws : List (Key × V)}
end
end Iv

/-! ### dicts that are walked; tries that raise nothing, raise, augmented attributes -/
namespace Iv
open PySem PySem.Spec PyProof.Rows L2
section
variable {g : Gs} {W : L2.WX} {X : Cx} {F : CE} {m m1 m2 : Mp} {n n1 n2 : Nat} {H H1 H2 : Hp} {S S' S2 : Sto} {σ : L2.St} {ρ : Env} {pos : Pos} {k : Key} {d : Iv.D} {v : V} {kvs kvs' : List (Key × Iv.D)} {kws kws' : List (Key × V)} {a : Addr} {o : Obj}
theorem setAt_len {i : Nat} {c : Cell} : (setAt S i c).length = S.length := by unfold setAt; rw [List.length_set]
theorem ntp_tup {xs : List Iv.D} (r : Rel g m n H (.ntp xs) v) : Rel g m n H (.tup xs) v := by
  rw [rel_ntp] at r
  rw [rel_tup]
  obtain ⟨a, vs, e, q, rr⟩ := r
  exact ⟨a, vs, e, .inr (.inr q), rr⟩
theorem i_untup {e : Expr} {ie : E} (he : PE X e (tE g W (ev F ie))) : PE X e (tE g W (ev F (.untup ie))) := by
  refine PE.imp he fun σ H Q ⟨m, ρ, S, rs, er, w⟩ => ?_
  rw [ev] at w
  refine TI.step (Ra := Rel g) rs er w fun x H1 m1 S1 dx x1 rs1 er1 r1 w => ?_
  split at w
  · exact w.now rs1 (ntp_tup r1)
  · exact w.elim
theorem i_ntup {e : Expr} {ie : E} {p : Pos} (hK : X.K = g.K) (hm : X.mg "tuple" = none) (oke : okE e = true) (he : PE X e (tE g W (ev F ie))) (hg : Gl X "tuple" := by rfl) : PE X (.Call (.Name "tuple" p) [e] [] pos) (tE g W (ev F (.ntup ie))) := by
  refine ⟨fun pins s σ H Q I ⟨m, ρ, S, rs, er, w⟩ => ?_⟩
  rw [ev] at w
  have st := TI.step (Ra := Rel g) (Q' := fun x H1 => ∃ m1 S1 d, RS g m1 S1 H1 ∧ Rel g m1 S1.length H1 d x ∧ WP g (fun c d H' => W c d σ H') (Rel g) m1 S1.length H1 (match lstOf S1 d with | some xs => .ok (.ntp xs) S1 | none => .err) Q) rs er w fun x H1 m1 S1 dx x1 rs1 er1 r1 w => ⟨m1, S1, dx, rs1, r1, w⟩
  refine Call_ (ld_blt I hg hm boot_tuple (PyProof.Rows.callWith_type1 (one_arg he I st (fun v s2 x H2 I2 r q => ?_) (starEach_ok oke)) (starEach_ok oke)))
  obtain ⟨m1, S1, d, rs1, r1, w⟩ := q
  split at w
  · rename_i xs hx
    obtain ⟨a, vs, rfl, rv, q⟩ := lst_sq rs1 r1 hx
    obtain rfl : v = .ref a := r
    rw [← hK] at q
    obtain ⟨its, ri, pl, hz⟩ := I2.list q
    refine call_tuple_list pl.isList (fun h' hk => ?_) (by rw [List.size_toArray, ← ri.length]; exact hz)
    have J1 : Inv X pins σ H2 { s2 with heap := h' } := I2.kept (t' := s2.toks) hk
    have hp : H2 h'.objs.size = none := J1.hok.fresh (Nat.le_refl _)
    generalize hob : ({ cls := .type "tuple", data := .seq its.toArray } : Obj) = ob
    have hcl : ob.cls = .type "tuple" ∧ ob.dict = none ∧ ob.data = .seq its.toArray ∧ ob.isFreed = false := by subst hob; exact ⟨rfl, rfl, rfl, rfl⟩
    have J2 : Inv X pins σ (upd H2 h'.objs.size (.frz ob (.tup vs))) { s2 with heap := h'.push ob } :=
      J1.laid (t' := s2.toks) (fun b o z => Heap.get?_push_of_some _ z) (Nat.le_refl _) (show ObjOk X.prog X.w _ _ _ (.frz ob (.tup vs)) from ⟨Heap.get?_push_size _ hcl.2.2.2, hz, its, ri, ⟨ob, Heap.get?_push_size _ hcl.2.2.2, hcl.1, 0, hcl.2.2.1⟩⟩)
    refine ⟨.ref h'.objs.size, _, J2, rfl, w m1 _ _ (Ext.laid rs1 hp) (rs1.laid hp) ?_⟩
    rw [rel_ntp]
    exact ⟨_, vs, rfl, ⟨ob, upd_same, hcl.1, hcl.2.1, Off.free rs1 hp⟩, Rels.mono (Ext.laid rs1 hp) _ _ rv⟩
  · exact w.elim
end
end Iv

/-! ### set comprehensions of ints, of ints and texts: how many, sorted -/
namespace Ws
open PySem PySem.Spec PyProof.Rows L2
/-- the machine's empty set -/
abbrev bareSet (w : World) : Obj := { cls := .type "set", dict := none, data := .set #[] 0 (.fresh 0 0 (!w.params.followText "set-order")) }
def rAddG {κ : Type} [DecidableEq κ] (kv : κ → V) (SO : Addr → (κ → Bool) → Nat → HO) : V → List V → Hp → VK → Prop := fun x xs H Q => ∃ (a : Addr) (k : κ) (T : κ → Bool) (n : Nat), x = V.ref a ∧ xs = [kv k] ∧ H a = some (SO a T n) ∧ n + 1 < scanBound ∧
  Q .non (upd H a (SO a (fun j => T j || decide (j = k)) (if T k = true then n else n + 1)))
/-- what a kind of sets must have -/
structure SetLike (P : Program) (w : World) {κ : Type} [DecidableEq κ] (kv : κ → V) (SO : Addr → (κ → Bool) → Nat → HO) : Prop where
  fresh : ∀ (H : Hp) (h : Heap), ObjOk P w H (h.push (bareSet w)) h.objs.size (SO h.objs.size (fun _ => false) 0)
  add : ∀ Y : Cx, Y.prog = P → Y.w = w → MtR Y "set.add" (rAddG kv SO)
theorem like_keys (P : Program) (w : World) : SetLike P w kV (SetK P w) where
  fresh := fun H h => setK_new ⟨_, #[], 0, _, Heap.get?_push_size _ rfl, ⟨rfl, rfl, rfl⟩, rfl, (fun e he => by simp at he), (fun k => by simp), (by decide), (by rfl), rfl⟩
  add := fun Y hp hw => by subst hp hw; exact mt_saddK
section
variable {X : Cx} {κ : Type} [DecidableEq κ] {kv : κ → V} {SO : Addr → (κ → Bool) → Nat → HO}
def tScG (kv : κ → V) (SO : Addr → (κ → Bool) → Nat → HO) (wi : TI) (g : TG) (tt : TT) (te : TE) (vs : List Nat) : TE := fun σ H Q => wi σ H fun J G1 => ∀ D, G1 D = none → ∃ W : Nat → Nat → Hp → Prop, (∃ μ, W 0 μ (upd G1 D (SO D (fun _ => false) 0))) ∧ ∀ i μ G, W i μ G →
  (J.stop i G ∧ Q (.ref D) G) ∨ (J.go i G ∧ ∃ Nx : Hp → Prop, (∀ G', Nx G' → ∃ μ', μ' < μ ∧ W (i + 1) μ' G') ∧ ∀ x G', J.yld i G x G' → g x (wipe σ vs) G' fun τ G2 => wipe τ vs = wipe σ vs ∧ tt τ G2 fun b G3 =>
    if b = true then te τ G3 fun y G4 => ∃ (k : κ) (T : κ → Bool) (c : Nat), y = kv k ∧ G4 D = some (SO D T c) ∧ c + 1 < scanBound ∧ Nx (upd G4 D (SO D (fun j => T j || decide (j = k)) (if T k = true then c else c + 1))) else Nx G3)
theorem pe_scG (sl : SetLike X.prog X.w kv SO) {elt tg iter : Expr} {ifs : List Expr} {scope : Scope} {own : List (PySem.Str × Nat)} {pos : Pos} {wi : TI} {g : TG} {tt : TT} {te : TE} (hc : X.calm = true) (hN : X.N.Nodup) (hi : PI X tg iter wi) (ok : BlkOk X.N X.env.scope scope own)
    (hg : ∀ (s : Shared) (H : Hp) (C : Addr) (cl : List (PySem.Str × Addr)) (fp : List Addr), PG (X.blk s H scope (compEnvC scope cl C X.env) fp) tg g) (ht : ∀ (s : Shared) (H : Hp) (C : Addr) (cl : List (PySem.Str × Addr)) (fp : List Addr), PTs (X.blk s H scope (compEnvC scope cl C X.env) fp) ifs tt)
    (he : ∀ (s : Shared) (H : Hp) (C : Addr) (cl : List (PySem.Str × Addr)) (fp : List Addr), PE (X.blk s H scope (compEnvC scope cl C X.env) fp) elt te) (hs : ∀ x, foldedSetIterable iter X.env x = pure x) :
    PE X (.SetComp elt [⟨tg, iter, ifs, 0⟩] scope pos) (tScG kv SO wi g tt te (own.map (·.2))) := by
  refine ⟨fun pins s0 σ H0 Q I0 rd => ?_⟩
  rw [PpSet.eval_SetComp]
  have free0 : ∀ z ∈ scope.names, z.2 = .free → ∃ c, X.env.cells.lookup z.1 = some c := fun z hz ez => (ok.free z hz ez).elim (fun q => I0.ok.has _ (.inl q)) fun q => I0.ok.has _ (.inr q)
  refine wpAny_comprehension_free (use := none) rfl hs (closure_ok free0) ok.kind (fun z hz ez => by rw [ok.uniq z hz, ez]) (thn (hi.run pins s0 σ H0 _ I0 rd) fun _ sA hA => thn hA fun _ sB hB => ?_)
  obtain ⟨ita, fp, tn, J, HB, rfl, IB, TB, stB, fB, rdB⟩ := hB
  refine PpSet.newSet_ok (newEnv_comp ?_)
  generalize eD : sB.heap.objs.size = D
  have newD : HB D = none := IB.hok.fresh (Nat.le_of_eq eD)
  obtain ⟨W, ⟨μ0, W0⟩, turns⟩ := rdB D newD
  generalize eC : ({ sB with heap := sB.heap.push (bareSet X.w) } : Shared) = sC
  have hpC : sC.heap = sB.heap.push (bareSet X.w) := by rw [← eC]
  have IC : Inv X pins σ (upd HB D (SO D (fun _ => false) 0)) sC := by
    rw [← eC]
    refine IB.laid (t' := sB.toks) (fun _ _ q => Heap.get?_push_of_some _ q) (Nat.le_of_eq eD) ?_
    rw [← eD]
    exact sl.fresh _ _
  have fC : ∀ c ∈ fp, FpOk X pins (upd HB D (SO D (fun _ => false) 0)) c ∧ c < sC.heap.objs.size := fun c hcm => by
    obtain ⟨oc, ec, _⟩ := TB.obj _ _ stB c hcm
    have lc := Heap.lt_size ec
    refine ⟨⟨by rw [upd_ne (by rw [← eD]; exact Nat.ne_of_lt lc)]; exact (fB c hcm).1, (fB c hcm).2⟩, ?_⟩
    rw [hpC, Heap.size_push]
    exact Nat.lt_succ_of_lt lc
  have stC : tn 0 sC.heap := TB.keep _ _ _ stB fun c _ oc q => by rw [hpC]; exact Heap.get?_push_of_some _ q
  have IE := block_start IC ok hN fC
  generalize eH : upd HB D (SO D (fun _ => false) 0) = HC at IC fC IE W0
  have rg := hg sC HC sC.heap.objs.size (cellsFrom (sC.heap.objs.size + 1) scope.names (cloFrom X.env.cells scope.names [])) fp
  have rt := ht sC HC sC.heap.objs.size (cellsFrom (sC.heap.objs.size + 1) scope.names (cloFrom X.env.cells scope.names [])) fp
  have re := he sC HC sC.heap.objs.size (cellsFrom (sC.heap.objs.size + 1) scope.names (cloFrom X.env.cells scope.names [])) fp
  show codeAny _ _ (.compStart (.SetComp elt [⟨tg, iter, ifs, 0⟩] scope pos) 0 (.ref ita) (.ref D) (compEnvC scope (cellsFrom (sC.heap.objs.size + 1) scope.names (cloFrom X.env.cells scope.names [])) sC.heap.objs.size X.env)) (compPost (model X.prog X.w) X.A X.xe none (EP X pins σ Q) (.ref D) sC.heap.objs.size) { sC with heap := pushCells (sC.heap.push { cls := .type "dict", data := .dict #[] }) scope.names }
  generalize eE : compEnvC scope (cellsFrom (sC.heap.objs.size + 1) scope.names (cloFrom X.env.cells scope.names [])) sC.heap.objs.size X.env = ce at IE rg rt re ⊢
  have locE : ce.locals = sC.heap.objs.size := by rw [← eE]; rfl
  generalize eS : ({ sC with heap := pushCells (sC.heap.push { cls := .type "dict", data := .dict #[] }) scope.names } : Shared) = sE at IE ⊢
  have stE : tn 0 sE.heap := TB.keep _ _ _ stC fun c _ oc q => by rw [← eS]; exact pushCells_keeps _ _ _ _ (Heap.get?_push_of_some _ q)
  have nilE : ∀ c ∈ fp, HC c = none := fun c hcm => (fC c hcm).1.1
  have keepF : ∀ {τ : L2.St} {G : Hp} {t : Shared}, Inv (X.blk sC HC scope ce fp) [] τ G t → (∀ c ∈ fp, G c = none) → ∀ c ∈ fp, FpOk (X.blk sC HC scope ce fp) [] G c := fun {τ G t} It nl c hcm =>
    ⟨nl c hcm, (It.ok.exf c hcm).1, It.ok.exfs c hcm, .inl hcm, fun x e q => (It.ok.exf c hcm).2 x e q, fun p hp => absurd (show p ∈ ([] : List (Addr × Obj)) ++ [] from hp) (by simp)⟩
  suffices loop : codeAny (model X.prog X.w) X.A (.compLoop (.SetComp elt [⟨tg, iter, ifs, 0⟩] scope pos) 0 (.ref ita) (.ref D) ce) (compPost (model X.prog X.w) X.A X.xe none (EP X pins σ Q) (.ref D) sC.heap.objs.size) sE from PpSet.codeAny_compStart_set loop (TB.self X.A 0 _ _ _ stE loop)
  refine PpSet.compLoopS_any (fun μ t => ∃ i G, Inv (X.blk sC HC scope ce fp) [] (wipe σ (own.map (·.2))) G t ∧ tn i t.heap ∧ (∀ c ∈ fp, G c = none) ∧ W i μ G) ?_ μ0 ⟨0, HC, IE, stE, nilE, W0⟩
  rintro μ sF ⟨i, GF, IF, stF, nilF, WF⟩
  rcases turns i μ GF WF with ⟨stp, fin⟩ | ⟨goes, Nx, down, step⟩
  · refine thnF (TB.done (X.blk sC HC scope ce fp) rfl rfl rfl hc i [] sF _ GF (fun _ _ => False) IF (keepF IF nilF) stF stp) fun r sG hG => ?_
    obtain ⟨rfl, IG⟩ := hG
    have back : Inv X pins σ GF sG := IC.call' (ch := fp) IG.os IG.base IG.hok IG.bare fun c hcm => ⟨(fC c hcm).1.2.2.2.1, (fC c hcm).1.2.1, (fC c hcm).1.2.2.2.2.1, (fC c hcm).1.2.2.2.2.2⟩
    have nilC : GF sC.heap.objs.size = none := by rw [← locE]; exact IG.free
    obtain ⟨mm, hns, _⟩ := IG.loc
    have hns : sG.heap.Ns ce.locals mm := hns
    rw [locE] at hns
    obtain ⟨f0, f1, f2, f3, f4, f5⟩ := IC.fpOk (Nat.le_refl _) nilC
    exact ⟨mm, hns, fun h'' sb => ⟨.ref D, GF, back.turned (t' := sG.toks) (fun c oc hcm q => (sb.2 c hcm).trans q) f0 f1 f3 f4 f5, rfl, fin⟩⟩
  · refine thnF (TB.item (X.blk sC HC scope ce fp) rfl rfl rfl hc i [] sF _ GF (fun _ _ => False) IF (keepF IF nilF) stF goes) fun r sG hG => ?_
    obtain ⟨u, rfl, hG⟩ := hG
    refine thnF hG fun _ sH ⟨x, GH, IH, rH, yH, stH, nilH⟩ => ?_
    refine thnF (rg.run _ sH _ GH x u _ (IH.pinned (keepF IH nilH) (TB.obj _ _ stH)) rH (step x GH yH)) fun _ sJ ⟨τ, GJ, IJ, wJ, qJ⟩ => ?_
    refine thnF (rt.run _ sJ τ GJ _ IJ qJ) fun b sK ⟨GK, IK, qK⟩ => ?_
    have close : ∀ {t : Shared} {G : Hp}, Inv (X.blk sC HC scope ce fp) ([] ++ pinsAt fp sH.heap) τ G t → Nx G → ∃ μ', μ' < μ ∧ ∃ i G, Inv (X.blk sC HC scope ce fp) [] (wipe σ (own.map (·.2))) G t ∧ tn i t.heap ∧ (∀ c ∈ fp, G c = none) ∧ W i μ' G := fun {t G} It nx => by
      obtain ⟨μ', lt, Wn⟩ := down G nx
      have pin1 : ∀ c ∈ fp, ∀ oc, sH.heap.get? c = some oc → t.heap.get? c = some oc ∧ G c = none := fun c hcm oc q =>
        have z := It.pin (c, oc) (List.mem_append_right _ (List.mem_append_right _ (mem_pinsAt hcm q)))
        ⟨z.1, z.2.1⟩
      refine ⟨μ', lt, i + 1, G, (It.unpinned (pins := [])).weak (by rw [← wJ, wipe_length]) (fun j v q => (wipe_some (by rw [← wJ] at q; exact q)).1), TB.keep _ _ _ stH fun c hcm oc q => (pin1 c hcm oc q).1, fun c hcm => ?_, Wn⟩
      obtain ⟨oc, q, _⟩ := TB.obj _ _ stH c hcm
      exact (pin1 c hcm oc q).2
    cases b with
    | false =>
      rw [if_neg Bool.false_ne_true] at qK ⊢
      exact close IK qK
    | true =>
      rw [if_pos rfl] at qK ⊢
      refine thnF (re.run _ sK τ GK _ IK qK) fun z sL ⟨yv, GL, IL, rL, k, T, c, ey, hD, room, nx⟩ => ?_
      subst ey
      refine thnF (sl.add (X.blk sC HC scope ce fp) rfl rfl _ sL τ GL (.ref D) [kv k] (.ref D) [z] (fun _ G => Nx G) IL rfl (.cons rL .nil) ⟨D, k, T, c, rfl, rfl, hD, room, nx⟩) fun _ sM ⟨_, GM, IM, _, qM⟩ => ?_
      exact close IM qM
end
end Ws

/-! ### comprehensions of dicts and sets, in the evaluator -/
namespace Iv
open PySem PySem.Spec PyProof.Rows L2
section
variable {g : Gs} {W : L2.WX} {X : Cx} {F : CE} {m m1 m' : Mp} {n : Nat} {H H1 H' : Hp} {S S1 S' : Sto} {σ : L2.St} {ρ : Env} {pos : Pos} {D : Addr} {own : List Nat} {t : Tg} {it : Iv.It} {iifs : List E} {ie ik : E}
theorem unhide (x : Ext m1 S1.length H1 m' S'.length H') (rs' : RS g m' S' H') : Ext m1 S1.length H1 ⟨m'.box, m1.hid⟩ S'.length H' ∧ RS g ⟨m'.box, m1.hid⟩ S' H' := by
  have xw : ExtW m' S'.length H' ⟨m'.box, m1.hid⟩ S'.length H' := ⟨Nat.le_refl _, fun _ _ _ e => e, fun a o e f => ⟨e, f.1, fun h => f.2 (x.hid a h).1⟩⟩
  exact ⟨⟨x.le, x.old, fun a o e f => let ⟨e', f'⟩ := x.keep a o e f; ⟨e', f'.1, f.2⟩, fun a h => ⟨h, (x.hid a h).2⟩, x.fz⟩, rs'.turn xw rfl (fun _ _ _ => rfl) fun a h => rs'.hidS a (x.hid a h).1⟩
theorem dup_step {κ : Type} [DecidableEq κ] (ks : List κ) (k : κ) : (ks ++ [k]).eraseDups.length = if decide (k ∈ ks) = true then ks.eraseDups.length else ks.eraseDups.length + 1 := by
  rw [List.eraseDups_append, List.length_append]
  by_cases h : k ∈ ks
  · rw [if_pos (decide_eq_true h)]
    have e : [k].removeAll ks = [] := by simp [List.removeAll, h]
    rw [e]
    rfl
  · rw [if_neg (by simpa using h)]
    have e : [k].removeAll ks = [k] := by simp [List.removeAll, h]
    rw [e]
    rfl
theorem dups_le {κ : Type} [DecidableEq κ] : ∀ (n : Nat) (l : List κ), l.length ≤ n → l.eraseDups.length ≤ l.length
  | _, [], _ => by simp
  | 0, a :: l, h => by simp at h
  | n + 1, a :: l, h => by
    rw [List.eraseDups_cons, List.length_cons, List.length_cons]
    have h1 := List.length_filter_le (fun b => !b == a) l
    have h2 := dups_le n (l.filter fun b => !b == a) (by simp only [List.length_cons] at h; omega)
    omega
theorem sc_body {κ : Type} [DecidableEq κ] {kv : κ → V} {SO : Addr → (κ → Bool) → Nat → HO} (kd : Iv.D → Option κ) (hkd : ∀ {m : Mp} {n : Nat} {H : Hp} {d : Iv.D} {k : κ} {v : V}, kd d = some k → Rel g m n H d v → v = kv k) (Kf : List Iv.D → Sto → R Iv.D)
    (hK : ∀ ys S, Kf ys S = .err ∨ ((∀ y ∈ ys, ∃ k, kd y = some k) ∧ ys.length < 1000)) {Q Q2 : VK} (rs : RS g m S H) (er : EnvR g m S.length H ρ σ)
    (w : WP g (fun c d H' => W c d σ H') (Rel g) m S.length H ((evIt F it ρ S).bind fun w S => (lcLoop w.1 (lcStep F own t iifs ie ρ) w.2 S).bind fun ys S => Kf ys S) Q)
    (fin : ∀ (m1 m' : Mp) (S1 S' : Sto) (H1 H' : Hp) (D : Addr) (ys : List Iv.D), RS g m' S' H' → WP g (fun c d H' => W c d σ H') (Rel g) m' S'.length H' (Kf ys S') Q → H' D = some (SO D (fun j => decide (j ∈ ys.filterMap kd)) (ys.filterMap kd).eraseDups.length) → Q2 (.ref D) H') :
    Ws.tScG kv SO (tI g W (evIt F it)) (TGv g own (asg F t)) (tT g noX (evIfs F iifs)) (tE g noX (ev F ie)) own σ H Q2 := by
  refine TI.step (Ra := ItR g) rs er w fun J H1 m1 S1 ⟨src, items⟩ x1 rs1 er1 it1 w => ?_
  intro D hD
  dsimp only at w
  rcases lcLoop_form (src := src) (step := lcStep F own t iifs ie ρ) (items := items) (S := S1) with ⟨ys, Sf, hL⟩ | hL
  · rw [hL] at w
    have w : WP g (fun c d H' => W c d σ H') (Rel g) m1 S1.length H1 (Kf ys Sf) Q := w
    rcases hK ys Sf with hE | ⟨hall, hy⟩
    · rw [hE] at w
      exact w.err
    have n1 : ¬ m1.hid D := (Off.free rs1 hD).2
    refine ⟨fun i μ H' => μ = items.length - i ∧ i ≤ items.length ∧ ∃ m' S' acc rest, Ext m1 S1.length H1 m' (List.length S') H' ∧ m'.hid D ∧ RS g m' S' H' ∧ H' D = some (SO D (fun j => decide (j ∈ acc.filterMap kd)) (acc.filterMap kd).eraseDups.length) ∧ lcLoop src (lcStep F own t iifs ie ρ) (items.drop i) S' = .ok rest Sf ∧ acc ++ rest = ys,
      ⟨_, rfl, Nat.zero_le _, mHide m1 D, S1, [], ys, Ext.hide rs1 hD, .inr rfl, rs1.hide hD, by rw [upd_same]; simp, by rw [List.drop_zero]; exact hL, rfl⟩, ?_⟩
    rintro i μ H' ⟨rfl, hi, m', S', acc, rest, x', hd', rs', e', hl, hs⟩
    cases hdr : items.drop i with
    | nil =>
      have e : i = items.length := by
        have := List.drop_eq_nil_iff.mp hdr
        omega
      rw [hdr] at hl
      obtain ⟨c, rfl, rfl⟩ := lcLoop_nil hl
      rw [List.append_nil] at hs
      subst hs
      obtain ⟨_, st⟩ := it1 m' _ H' x'.w x'.fz rs' c
      obtain ⟨xu, rsu⟩ := unhide x' rs'
      exact .inl ⟨by rw [e]; exact st, fin m1 _ S1 _ H1 H' D acc rsu (w.from xu) e'⟩
    | cons d ds =>
      rw [hdr] at hl
      obtain ⟨c, xs, S2, r2, hstep, hl2, rfl⟩ := lcLoop_cons hl
      obtain ⟨hlt, hget, hds⟩ := drop_cons hdr
      obtain ⟨g1, g2⟩ := (it1 m' S' H' x'.w x'.fz rs' c).1 i d hget
      refine .inr ⟨g1, _, fun H2 h2 => ⟨items.length - (i + 1), by omega, h2⟩, fun v H'' yv => ?_⟩
      obtain ⟨rs'', x'', rx⟩ := g2 v H'' yv
      have x3 := x'.trans x''
      refine ⟨m', wipeE ρ own, S', d, rs'', (er1.mono x3).wiped own, rx, ?_⟩
      obtain ⟨ρ1, Sa, ha, hstep⟩ := bind_ok hstep
      rw [ha]
      intro m4 H4 σ4 x4 rs4 ⟨er4, k4⟩
      refine ⟨k4.wiped, m4, ρ1, Sa, rs4, er4, ?_⟩
      obtain ⟨k, Sb, hk, hstep⟩ := bind_ok hstep
      rw [hk]
      intro m5 H5 b x5 rs5 rb
      cases rb
      have x5' := (x3.trans x4).trans x5
      have o5 := (x''.trans (x4.trans x5)).hid D hd'
      have e5 := o5.2.trans e'
      cases k with
      | false =>
        rw [if_neg Bool.false_ne_true] at hstep ⊢
        injection hstep with q1 q2
        subst q1 q2
        exact ⟨rfl, hlt, m5, Sb, acc, r2, x5', o5.1, rs5, e5, by rw [hds]; exact hl2, by rw [← hs]; rfl⟩
      | true =>
        rw [if_pos rfl] at hstep ⊢
        refine ⟨m5, ρ1, Sb, rs5, er4.mono x5, ?_⟩
        obtain ⟨y, Sc, hyv, hstep⟩ := bind_ok hstep
        injection hstep with q1 q2
        subst q1 q2
        rw [hyv]
        intro m6 H6 yv x6 rs6 r6
        have e6 := (x6.hid D o5.1).2.trans e5
        have hd6 : m6.hid D := (x6.hid D o5.1).1
        obtain ⟨kk, hkk⟩ := hall y (by rw [← hs]; simp)
        have fm : (acc ++ [y]).filterMap kd = acc.filterMap kd ++ [kk] := by rw [List.filterMap_append, List.filterMap_cons, hkk]; rfl
        have hlen : (acc.filterMap kd).eraseDups.length + 1 < scanBound := by
          have l1 : (acc ++ ([y] ++ r2)).length < 1000 := by rw [hs]; exact hy
          have l2 := List.length_filterMap_le kd acc
          have l3 : (acc.filterMap kd).eraseDups.length ≤ (acc.filterMap kd).length := dups_le _ _ (Nat.le_refl _)
          have l4 : 2000 ≤ scanBound := by decide
          simp only [List.length_append, List.length_cons, List.length_nil] at l1
          omega
        refine ⟨kk, _, _, hkd hkk r6, e6, hlen, rfl, hlt, m6, Sc, acc ++ [y], r2, (x5'.trans x6).own hD n1, hd6, rs6.own hd6, ?_, by rw [hds]; exact hl2, by rw [← hs, List.append_assoc]⟩
        rw [upd_same, fm, dup_step]
        congr 2
        funext j
        simp
  · rw [hL] at w
    exact w.err
/-! how many -/
theorem cr_lenSetK : CallR X (.builtin "len") (fun xs H Q => ∃ (a : Addr) (T : Key → Bool) (n : Nat), xs = [.ref a] ∧ H a = some (SetK X.prog X.w a T n) ∧ n < 2000 ∧ Q (.int n) H) := by
  intro pins s σ H xs us Q I r h
  obtain ⟨a, T, n, rfl, ha, hn, q⟩ := h
  rw [Vals.ref1 r]
  obtain ⟨o, es, ep, tt, ho, hx, hd, _, _, _, hf, hz⟩ := setK_get I ha
  refine call_len_set ho hx hd hf (by rw [hz]; omega) ?_
  rw [hz]
  exact ⟨.int n, H, I.tok _, ⟨_, rfl⟩, q⟩
theorem keysD_map : ∀ {ys : List Iv.D} {ks : List Key}, keysD ys = some ks → (∀ y ∈ ys, ∃ k, keyD y = some k) ∧ ys.filterMap keyD = ks
  | [], ks, h => by cases h; exact ⟨fun _ q => (nomatch q), rfl⟩
  | y :: ys, ks, h => by
    cases e : keyD y with
    | none => rw [keysD, e] at h; cases h
    | some k =>
      rw [keysD, e] at h
      obtain ⟨ks', h1, rfl⟩ := Option.map_eq_some_iff.mp h
      obtain ⟨a, b⟩ := keysD_map h1
      refine ⟨fun z hz => ?_, by rw [List.filterMap_cons, e, b]⟩
      rcases List.mem_cons.mp hz with rfl | hz
      · exact ⟨k, e⟩
      · exact a z hz
theorem i_lenSC {elt tg iter : Expr} {ifs : List Expr} {scope : Scope} {own : List (PySem.Str × Nat)} {p q : Pos} (hgl : Gl X "len") (hm : X.mg "len" = none) (hc : X.calm = true) (hN : X.N.Nodup) (oki : okE iter = true) (hi : PI X tg iter (tI g W (evIt F it))) (ok : BlkOk X.N X.env.scope scope own)
    (hg : ∀ (s : Shared) (H : Hp) (C : Addr) (cl : List (PySem.Str × Addr)) (fp : List Addr), PG (X.blk s H scope (compEnvC scope cl C X.env) fp) tg (TGv g (own.map (·.2)) (asg F t)))
    (ht : ∀ (s : Shared) (H : Hp) (C : Addr) (cl : List (PySem.Str × Addr)) (fp : List Addr), PTs (X.blk s H scope (compEnvC scope cl C X.env) fp) ifs (tT g noX (evIfs F iifs)))
    (he : ∀ (s : Shared) (H : Hp) (C : Addr) (cl : List (PySem.Str × Addr)) (fp : List Addr), PE (X.blk s H scope (compEnvC scope cl C X.env) fp) elt (tE g noX (ev F ie))) :
    PE X (.Call (.Name "len" p) [.SetComp elt [⟨tg, iter, ifs, 0⟩] scope q] [] pos) (tE g W (ev F (.lenSC (own.map (·.2)) t it iifs ie))) := by
  refine PE.imp (pe_callB cr_lenSetK hgl hm (by decide +kernel) (pa_cons (Ws.pe_scG (Ws.like_keys X.prog X.w) hc hN hi ok hg ht he (folded_ok oki)) pa_nil (by rfl)) (by decide) (by decide) (by rfl) (by rfl)) fun σ H Q ⟨m, ρ, S, rs, er, w⟩ => ?_
  rw [ev] at w
  show Ws.tScG kV (SetK X.prog X.w) (tI g W (evIt F it)) (TGv g (own.map (·.2)) (asg F t)) (tT g noX (evIfs F iifs)) (tE g noX (ev F ie)) (own.map (·.2)) σ H (fun x H1 => ∃ (a : Addr) (T : Key → Bool) (n : Nat), [x] = [V.ref a] ∧ H1 a = some (SetK X.prog X.w a T n) ∧ n < 2000 ∧ Q (V.int n) H1)
  refine sc_body keyD (fun e r => (key_rel e r).1) lenSCR (fun ys S => ?_) rs er w fun m1 m' S1 S' H1 H' D ys rs' w' hD => ?_
  · unfold lenSCR
    split
    · rename_i ks hk
      unfold ck
      split
      · rename_i c
        exact .inr ⟨(keysD_map hk).1, c⟩
      · exact .inl rfl
    · exact .inl rfl
  · unfold lenSCR at w'
    split at w'
    · rename_i ks hk
      obtain ⟨c, w'⟩ := w'.ck
      have e := (keysD_map hk).2
      have l2 := List.length_filterMap_le keyD ys
      have l3 := dups_le _ (ys.filterMap keyD) (Nat.le_refl _)
      refine ⟨D, _, _, rfl, hD, by omega, ?_⟩
      rw [e]
      exact w'.now rs' (by rw [rel_int]; rfl)
    · exact w'.err
/-! {k: v for ..} -/
theorem pairsD_app : ∀ {a b : List Iv.D} {e : List (Key × Iv.D)}, pairsD (a ++ b) = some e → ∃ e1 e2, pairsD a = some e1 ∧ pairsD b = some e2 ∧ e = e1 ++ e2
  | [], b, e, h => ⟨[], e, rfl, h, rfl⟩
  | .tup [k, v] :: a, b, e, h => by
    have h' : (match keyD k with | some k => (pairsD (a ++ b)).map ((k, v) :: ·) | none => none) = some e := h
    cases hk : keyD k with
    | none => rw [hk] at h'; cases h'
    | some kk =>
      rw [hk] at h'
      obtain ⟨e', h1, rfl⟩ := Option.map_eq_some_iff.mp h'
      obtain ⟨e1, e2, p1, p2, rfl⟩ := pairsD_app h1
      refine ⟨(kk, v) :: e1, e2, ?_, p2, rfl⟩
      show (match keyD k with | some k => (pairsD a).map ((k, v) :: ·) | none => none) = _
      rw [hk, p1]
      rfl
  | .tup [] :: _, _, _, h => nomatch h
  | .tup [_] :: _, _, _, h => nomatch h
  | .tup (_ :: _ :: _ :: _) :: _, _, _, h => nomatch h
  | .non :: _, _, _, h => nomatch h
  | .bl _ :: _, _, _, h => nomatch h
  | .int _ :: _, _, _, h => nomatch h
  | .str _ :: _, _, _, h => nomatch h
  | .lst _ :: _, _, _, h => nomatch h
  | .scr _ :: _, _, _, h => nomatch h
  | .ref _ :: _, _, _, h => nomatch h
  | .ins _ _ :: _, _, _, h => nomatch h
  | .ty _ :: _, _, _, h => nomatch h
theorem pairsD_one {y z : Iv.D} {e : List (Key × Iv.D)} (h : pairsD [.tup [y, z]] = some e) : ∃ k, keyD y = some k ∧ e = [(k, z)] := by
  have h' : (match keyD y with | some k => (pairsD []).map ((k, z) :: ·) | none => none) = some e := h
  cases hk : keyD y with
  | none => rw [hk] at h'; cases h'
  | some kk => rw [hk] at h'; cases h'; exact ⟨kk, rfl, rfl⟩
theorem pairsD_len : ∀ {a : List Iv.D} {e : List (Key × Iv.D)}, pairsD a = some e → e.length = a.length
  | [], e, h => by cases h; rfl
  | x :: a, e, h => by
    obtain ⟨e1, e2, h1, h2, rfl⟩ := pairsD_app (a := [x]) (b := a) h
    have : e1.length = 1 := by
      cases x with
      | tup l =>
        match l, h1 with
        | [y, z], h1 => obtain ⟨_, _, rfl⟩ := pairsD_one h1; rfl
        | [], h1 => nomatch h1
        | [_], h1 => nomatch h1
        | _ :: _ :: _ :: _, h1 => nomatch h1
      | _ => nomatch h1
    rw [List.length_append, this, pairsD_len h2, List.length_cons]
    omega
theorem dPut_len {kvs : List (Key × Iv.D)} {k : Key} {v : Iv.D} : (dPut kvs k v).length ≤ kvs.length + 1 := by
  unfold dPut
  split
  · rw [List.length_map]; omega
  · rw [List.length_append]; exact Nat.le_refl _
theorem mergeD_snoc {es : List (Key × Iv.D)} {k : Key} {v : Iv.D} : mergeD (es ++ [(k, v)]) = dPut (mergeD es) k v := by unfold mergeD; rw [List.foldl_append]; rfl
theorem mergeD_le : ∀ (es acc : List (Key × Iv.D)), (es.foldl (fun acc kv => dPut acc kv.1 kv.2) acc).length ≤ acc.length + es.length
  | [], acc => Nat.le_refl _
  | kv :: es, acc => by
    rw [List.foldl_cons, List.length_cons]
    have h1 := mergeD_le es (dPut acc kv.1 kv.2)
    have h2 := dPut_len (kvs := acc) (k := kv.1) (v := kv.2)
    omega
/-- the hidden thing becomes a box -/
theorem box_end {c : Cell} {Q : VK} {W' : Value → Option Addr → Hp → Prop} (rs1 : RS g m1 S1 H1) (hD : H1 D = none) (x : Ext m1 S1.length H1 m' S'.length H') (hd : m'.hid D) (rs' : RS g m' S' H') (hc : CellR g m' S'.length H' D c)
    (w : WP g W' (Rel g) m1 S1.length H1 (.ok (.ref S'.length) (S' ++ [some c])) Q) : Q (.ref D) H' := by
  have n1 : ¬ m1.hid D := (Off.free rs1 hD).2
  have ln : (S' ++ [some c]).length = S'.length + 1 := by rw [List.length_append, List.length_singleton]
  have nb : ∀ i, m' i ≠ some D := (rs'.hidS D hd).2
  have xw : ExtW m' S'.length H' (mNew ⟨m'.box, m1.hid⟩ S'.length D) (S'.length + 1) H' := by
    refine ⟨Nat.le_succ _, fun i b l k => by rw [mNew_ne (Nat.ne_of_lt l)] at k; exact k, fun a o e f => ⟨e, fun i k => ?_, fun h => f.2 (x.hid a h).1⟩⟩
    by_cases hi : i = S'.length
    · rw [hi, mNew_same] at k
      cases k
      exact f.2 hd
    · rw [mNew_ne hi] at k
      exact f.1 i k
  refine w (mNew ⟨m'.box, m1.hid⟩ S'.length D) H' (.ref D) ?_ ?_ ?_
  · rw [ln]
    refine ⟨Nat.le_succ_of_le x.le, fun i b l k => ?_, fun a o k f => ?_, fun a h => ⟨h, (x.hid a h).2⟩, x.fz⟩
    · rw [mNew_ne (Nat.ne_of_lt (Nat.lt_of_lt_of_le l x.le))] at k
      exact x.old i b l k
    · obtain ⟨k', f'⟩ := x.keep a o k f
      refine ⟨k', fun i q => ?_, f.2⟩
      by_cases hi : i = S'.length
      · rw [hi, mNew_same] at q
        cases q
        rw [hD] at k
        cases k
      · rw [mNew_ne hi] at q
        exact f'.1 i q
  · refine ⟨fun i b k => ?_, fun i c' k nh => ?_, fun i j b h1 h2 => ?_, fun b h => ?_, fun i k => ?_⟩
    · rw [ln]
      by_cases hi : i = S'.length
      · subst hi
        rw [mNew_same] at k
        cases k
        exact ⟨_, cellAt_push, hc.monoW xw rfl⟩
      · rw [mNew_ne hi] at k
        obtain ⟨c', h, q⟩ := rs'.dom i b k
        exact ⟨c', by rw [cellAt_push_lt (rs'.lt k)]; exact h, q.monoW xw rfl⟩
    · by_cases hi : i = S'.length
      · exact ⟨D, by rw [hi, mNew_same]⟩
      · have hl := cellAt_lt k
        rw [ln] at hl
        rw [cellAt_push_lt (by omega)] at k
        rw [mNew_ne hi]
        exact rs'.all i c' k nh
    · by_cases hi : i = S'.length
      · by_cases hj : j = S'.length
        · rw [hi, hj]
        · rw [hi, mNew_same] at h1
          rw [mNew_ne hj] at h2
          cases h1
          exact absurd h2 (nb j)
      · by_cases hj : j = S'.length
        · rw [hj, mNew_same] at h2
          rw [mNew_ne hi] at h1
          cases h2
          exact absurd h1 (nb i)
        · rw [mNew_ne hi] at h1
          rw [mNew_ne hj] at h2
          exact rs'.inj i j b h1 h2
    · obtain ⟨q1, q2⟩ := rs'.hidS b (x.hid b h).1
      refine ⟨q1, fun i k => ?_⟩
      by_cases hi : i = S'.length
      · rw [hi, mNew_same] at k
        cases k
        exact n1 h
      · rw [mNew_ne hi] at k
        exact q2 i k
    · by_cases hi : i = S'.length
      · rw [hi, cellAt_push] at k
        cases k
        exact hc.elim
      · have hl := cellAt_lt k
        rw [ln] at hl
        rw [cellAt_push_lt (by omega)] at k
        exact rs'.hotS i k
  · rw [rel_ref, ln]
    exact ⟨Nat.lt_succ_self _, D, rfl, fun b hb => by rw [mNew_same] at hb; cases hb; rfl⟩
noncomputable abbrev dcStep (F : CE) (own : List Nat) (t : Tg) (iifs : List E) (ik ie : E) (ρ : Env) : Iv.D → Sto → R (List Iv.D) := fun d S => (asg F t d (wipeE ρ own) S).bind fun ρ1 S => (evIfs F iifs ρ1 S).bind fun b S => if b = true then (ev F ik ρ1 S).bind fun y S => (ev F ie ρ1 S).bind fun z S => .ok [.tup [y, z]] S else .ok [] S
theorem dc_body {Q : VK} (rs : RS g m S H) (er : EnvR g m S.length H ρ σ) (w : WP g (fun c d H' => W c d σ H') (Rel g) m S.length H (ev F (.dcomp own t it iifs ik ie) ρ S) Q) :
    tDc (tI g W (evIt F it)) (TGv g own (asg F t)) (tT g noX (evIfs F iifs)) (tE g noX (ev F ik)) (tE g noX (ev F ie)) own σ H Q := by
  rw [ev] at w
  refine TI.step (Ra := ItR g) rs er w fun J H1 m1 S1 ⟨src, items⟩ x1 rs1 er1 it1 w => ?_
  intro D hD
  dsimp only at w
  rcases lcLoop_form (src := src) (step := dcStep F own t iifs ik ie ρ) (items := items) (S := S1) with ⟨ys, Sf, hL⟩ | hL
  · rw [hL] at w
    have w : WP g (fun c d H' => W c d σ H') (Rel g) m1 S1.length H1 (mkDct ys Sf) Q := w
    unfold mkDct at w
    split at w
    · rename_i es hes
      obtain ⟨hy, w3⟩ := w.ck
      have n1 : ¬ m1.hid D := (Off.free rs1 hD).2
      refine ⟨fun i μ H' => μ = items.length - i ∧ i ≤ items.length ∧ ∃ m' S' acc e1 kws rest, Ext m1 S1.length H1 m' (List.length S') H' ∧ m'.hid D ∧ RS g m' S' H' ∧ H' D = some (.dK kws) ∧ pairsD acc = some e1 ∧ RelKs g m' S'.length H' (mergeD e1) kws ∧ lcLoop src (dcStep F own t iifs ik ie ρ) (items.drop i) S' = .ok rest Sf ∧ acc ++ rest = ys,
        ⟨_, rfl, Nat.zero_le _, mHide m1 D, S1, [], [], [], ys, Ext.hide rs1 hD, .inr rfl, rs1.hide hD, upd_same, rfl, rfl, by rw [List.drop_zero]; exact hL, rfl⟩, ?_⟩
      rintro i μ H' ⟨rfl, hi, m', S', acc, e1, kws, rest, x', hd', rs', e', hp, ra, hl, hs⟩
      cases hdr : items.drop i with
      | nil =>
        have e : i = items.length := by
          have := List.drop_eq_nil_iff.mp hdr
          omega
        rw [hdr] at hl
        obtain ⟨c, rfl, rfl⟩ := lcLoop_nil hl
        rw [List.append_nil] at hs
        subst hs
        rw [hes] at hp
        cases hp
        obtain ⟨_, st⟩ := it1 m' _ H' x'.w x'.fz rs' c
        exact .inl ⟨by rw [e]; exact st, box_end (c := .dct (mergeD es)) rs1 hD x' hd' rs' ⟨kws, e', ra⟩ w3⟩
      | cons d ds =>
        rw [hdr] at hl
        obtain ⟨c, xs, S2, r2, hstep, hl2, rfl⟩ := lcLoop_cons hl
        obtain ⟨hlt, hget, hds⟩ := drop_cons hdr
        obtain ⟨g1, g2⟩ := (it1 m' S' H' x'.w x'.fz rs' c).1 i d hget
        refine .inr ⟨g1, _, fun H2 h2 => ⟨items.length - (i + 1), by omega, h2⟩, fun v H'' yv => ?_⟩
        obtain ⟨rs'', x'', rx⟩ := g2 v H'' yv
        have x3 := x'.trans x''
        refine ⟨m', wipeE ρ own, S', d, rs'', (er1.mono x3).wiped own, rx, ?_⟩
        obtain ⟨ρ1, Sa, ha, hstep⟩ := bind_ok hstep
        rw [ha]
        intro m4 H4 σ4 x4 rs4 ⟨er4, k4⟩
        refine ⟨k4.wiped, m4, ρ1, Sa, rs4, er4, ?_⟩
        obtain ⟨k, Sb, hk, hstep⟩ := bind_ok hstep
        rw [hk]
        intro m5 H5 b x5 rs5 rb
        cases rb
        have x5' := (x3.trans x4).trans x5
        have o5 := (x''.trans (x4.trans x5)).hid D hd'
        have e5 := o5.2.trans e'
        have ra5 := RelKs.monoW (x''.trans (x4.trans x5)).w ra
        cases k with
        | false =>
          rw [if_neg Bool.false_ne_true] at hstep ⊢
          injection hstep with q1 q2
          subst q1 q2
          exact ⟨rfl, hlt, m5, Sb, acc, e1, kws, r2, x5', o5.1, rs5, e5, hp, ra5, by rw [hds]; exact hl2, by rw [← hs]; rfl⟩
        | true =>
          rw [if_pos rfl] at hstep ⊢
          refine ⟨m5, ρ1, Sb, rs5, er4.mono x5, ?_⟩
          obtain ⟨y, Sc, hyv, hstep⟩ := bind_ok hstep
          rw [hyv]
          intro m6 H6 yv x6 rs6 r6
          refine ⟨m6, ρ1, Sc, rs6, (er4.mono x5).mono x6, ?_⟩
          obtain ⟨z, Sd, hzv, hstep⟩ := bind_ok hstep
          injection hstep with q1 q2
          subst q1 q2
          rw [hzv]
          intro m7 H7 zv x7 rs7 r7
          have o7 := (x6.trans x7).hid D o5.1
          have e7 := o7.2.trans e5
          obtain ⟨ea, eb, p1, p2, p3⟩ := pairsD_app (a := acc) (b := [Iv.D.tup [y, z]] ++ r2) (by rw [hs]; exact hes)
          obtain ⟨ec, ed, p4, p5, p6⟩ := pairsD_app (a := [Iv.D.tup [y, z]]) (b := r2) p2
          obtain ⟨kk, hkk, rfl⟩ := pairsD_one p4
          rw [hp] at p1
          cases p1
          obtain ⟨rfl, okk⟩ := key_rel hkk r6
          have hacc : pairsD (acc ++ [Iv.D.tup [y, z]]) = some (e1 ++ [(kk, z)]) := by
            have go : ∀ (a : List Iv.D) (e : List (Key × Iv.D)), pairsD a = some e → pairsD (a ++ [Iv.D.tup [y, z]]) = some (e ++ [(kk, z)]) := by
              intro a
              induction a with
              | nil => intro e h; cases h; exact p4
              | cons q a ih =>
                intro e h
                obtain ⟨f1, f2, h1, h2, rfl⟩ := pairsD_app (a := [q]) (b := a) h
                have i2 := ih f2 h2
                cases q with
                | tup l =>
                  match l, h1 with
                  | [u, v], h1 =>
                    obtain ⟨k0, hk0, rfl⟩ := pairsD_one h1
                    show (match keyD u with | some k => (pairsD (a ++ [Iv.D.tup [y, z]])).map ((k, v) :: ·) | none => none) = _
                    rw [hk0, i2]
                    rfl
                  | [], h1 => nomatch h1
                  | [_], h1 => nomatch h1
                  | _ :: _ :: _ :: _, h1 => nomatch h1
                | _ => nomatch h1
            exact go acc e1 hp
          have hlen : kws.length < sizeLine := by
            rw [← (relKs_len ra).1]
            have l1 : (mergeD e1).length ≤ 0 + e1.length := mergeD_le e1 []
            have l2 := pairsD_len hp
            have l3 : (acc ++ ([Iv.D.tup [y, z]] ++ r2)).length < sizeLine := by rw [hs]; exact hy
            simp only [List.length_append, List.length_cons, List.length_nil] at l3
            omega
          refine ⟨kws, kk, rfl, e7, hlen, rfl, hlt, m7, Sd, acc ++ [Iv.D.tup [y, z]], e1 ++ [(kk, z)], _, r2, ((x5'.trans x6).trans x7).own hD n1, o7.1, rs7.own o7.1, upd_same, hacc, ?_, by rw [hds]; exact hl2, by rw [← hs, List.append_assoc]⟩
          rw [mergeD_snoc]
          exact relKs_put okk (Rel.monoW (ExtW.own o7.1) _ _ r7) (RelKs.monoW ((x6.trans x7).w.trans (ExtW.own o7.1)) ra5)
    · exact w.err
  · rw [hL] at w
    exact w.err
theorem i_dcomp {kx vx tg iter : Expr} {ifs : List Expr} {scope : Scope} {own : List (PySem.Str × Nat)} (hc : X.calm = true) (hN : X.N.Nodup) (oki : okE iter = true) (hi : PI X tg iter (tI g W (evIt F it))) (ok : BlkOk X.N X.env.scope scope own)
    (hg : ∀ (s : Shared) (H : Hp) (C : Addr) (cl : List (PySem.Str × Addr)) (fp : List Addr), PG (X.blk s H scope (compEnvC scope cl C X.env) fp) tg (TGv g (own.map (·.2)) (asg F t)))
    (ht : ∀ (s : Shared) (H : Hp) (C : Addr) (cl : List (PySem.Str × Addr)) (fp : List Addr), PTs (X.blk s H scope (compEnvC scope cl C X.env) fp) ifs (tT g noX (evIfs F iifs)))
    (hk : ∀ (s : Shared) (H : Hp) (C : Addr) (cl : List (PySem.Str × Addr)) (fp : List Addr), PE (X.blk s H scope (compEnvC scope cl C X.env) fp) kx (tE g noX (ev F ik)))
    (he : ∀ (s : Shared) (H : Hp) (C : Addr) (cl : List (PySem.Str × Addr)) (fp : List Addr), PE (X.blk s H scope (compEnvC scope cl C X.env) fp) vx (tE g noX (ev F ie))) :
    PE X (.DictComp kx vx [⟨tg, iter, ifs, 0⟩] scope pos) (tE g W (ev F (.dcomp (own.map (·.2)) t it iifs ik ie))) :=
  PE.imp (pe_dc hc hN hi ok hg ht hk he (folded_ok oki)) fun σ H Q ⟨m, ρ, S, rs, er, w⟩ => dc_body rs er w
/-! name = {..: .. for ..}, the name a local -/
theorem swD {kx vx : Expr} {gs : List Comprehension} {scope : Scope} {p1 p2 : Pos} {y : PySem.Str} {l : Nat} {env : PySem.Env} (k1 : env.scope.kind = .function) (k2 : env.scope.names.lookup y = some .local) (k3 : (p2.line == p1.line) = true)
    (k4 : (scope.names.any fun (n, k) => n == y && (k == .local || k == .cell)) = false) : swapsWith (.DictComp kx vx gs scope p1) (some (.Name y p2)) l env = pure true := by
  have a1 : env.kindOf y = some .local := k2
  have a2 : env.blockKind = .function := by
    unfold PySem.Env.blockKind
    rw [k1]
    rfl
  unfold swapsWith
  simp only [a2, a1, k4, k3, Expr.pos]
  rfl
theorem s_setDc {i : Nat} {y : PySem.Str} {py spos : Pos} {kx vx tg iter : Expr} {ifs : List Expr} {scope : Scope} {own : List (PySem.Str × Nat)} (hc : X.calm = true) (hN : X.N.Nodup) (hy : X.N[i]? = some y) (hyl : X.env.scope.names.lookup y = some .local)
    (hsw : swapsWith (.DictComp kx vx [⟨tg, iter, ifs, 0⟩] scope pos) (some (.Name y py)) spos.line X.env = pure true) (oki : okE iter = true) (hi : PI X tg iter (tI g W (evIt F it))) (ok : BlkOk X.N X.env.scope scope own)
    (hg : ∀ (s : Shared) (H : Hp) (C : Addr) (cl : List (PySem.Str × Addr)) (fp : List Addr), PG (X.blk s H scope (compEnvC scope cl C X.env) fp) tg (TGv g (own.map (·.2)) (asg F t)))
    (ht : ∀ (s : Shared) (H : Hp) (C : Addr) (cl : List (PySem.Str × Addr)) (fp : List Addr), PTs (X.blk s H scope (compEnvC scope cl C X.env) fp) ifs (tT g noX (evIfs F iifs)))
    (hk : ∀ (s : Shared) (H : Hp) (C : Addr) (cl : List (PySem.Str × Addr)) (fp : List Addr), PE (X.blk s H scope (compEnvC scope cl C X.env) fp) kx (tE g noX (ev F ik)))
    (he : ∀ (s : Shared) (H : Hp) (C : Addr) (cl : List (PySem.Str × Addr)) (fp : List Addr), PE (X.blk s H scope (compEnvC scope cl C X.env) fp) vx (tE g noX (ev F ie))) :
    PS X (.Assign [.Name y py] (.DictComp kx vx [⟨tg, iter, ifs, 0⟩] scope pos) spos) (tS g W (ex F (.asg (.var i) (.dcomp (own.map (·.2)) t it iifs ik ie)))) := by
  refine ⟨fun pins s σ H D I ⟨m, ρ, S, rs, er, w⟩ => ?_⟩
  rw [ex] at w
  have q0 := WS.go (Ra := Rel g) rs er w
  have h : tDc (tI g W (evIt F it)) (TGv g (own.map (·.2)) (asg F t)) (tT g noX (evIfs F iifs)) (tE g noX (ev F ik)) (tE g noX (ev F ie)) (own.map (·.2)) σ H (fun x H1 => gName i x σ H1 D.nx) :=
    dc_body (ρ := ρ) rs er (q0.imp fun v H1 ⟨m1, S1, d, x1, rs1, er1, r1, w1⟩ => by
      rw [asg] at w1
      exact w1.next rs1 (er1.set r1))
  rw [exec_Assign_Name_used _ _ _ _ hsw]
  refine wpAny_bind (wpAny_standAt (wpAny_bind ?_))
  show wpAny _ X.A (do let _ ← comprehension (.DictComp kx vx [⟨tg, iter, ifs, 0⟩] scope pos) scope X.env (firstIterPos [⟨tg, iter, ifs, 0⟩] pos) newDict false (eval iter X.env) (some (assign (.Name y py) X.env))) _ _ s
  refine wpAny_bind (thn (dc_core (Qf := fun _ z => SP X pins D .next z) hc hN I hi ok hg ht hk he (folded_ok oki) h fun L C z mm G J qq hn f => ?_) fun _ z hz => wpAny_pure (wpAny_pure hz))
  show wpAny _ _ (assign (.Name y py) X.env (.ref L)) _ _ _
  refine wpAny_assign_Name (store_ok2 (v := V.ref L) J hN hy (.inl hyl) rfl (fun z2 J2 ⟨b, sb, hb⟩ => ?_) (.inr hyl))
  obtain ⟨f0, f1, f2, f3, f4, f5⟩ := f
  have ne : C ≠ b := by
    rcases hb with hb | hb
    · rw [hb]
      exact f1
    · intro e
      exact f4 y b hb e.symm
  exact ⟨mm, hn.sameBut sb ne, fun h3 sb3 => ⟨_, G, J2.turned (t' := z2.toks) (fun c o hc' e => (sb3.2 c hc').trans e) f0 f1 f3 f4 f5, qq⟩⟩
/-! displays -/
def tKey (k : Key) : TE := fun _ H Q => Q (kV k) H
theorem pe_keyS {z : Str} {j : Nat} : PE X (.Constant (.str z) j pos) (tKey (.inr z)) := PE.imp pe_str fun _ _ _ q => q
theorem disp_pairs {D : Addr} : ∀ (ks : List Key) (es : List E) {m : Mp} {S : Sto} {H : Hp} {ds : List Iv.D} {S' : Sto}, ks.length = es.length → RS g m S H → EnvR g m S.length H ρ σ → evs F es ρ S = .ok ds S' → ∀ Q : List (V × V) → Hp → Prop,
    (∀ m' H' vs, Ext m S.length H m' S'.length H' → RS g m' S' H' → Rels g m' S'.length H' ds vs → Q ((ks.zip vs).map fun kv => (kV kv.1, kv.2)) H') → tPairs ((ks.zip es).map fun ke => (tKey ke.1, tE g W (ev F ke.2))) σ H Q
  | [], [], m, S, H, ds, S', _, rs, er, h, Q, q => by
    rw [evs] at h
    injection h with h1 h2
    subst h1 h2
    exact q m H [] Ext.refl rs Rels.nil
  | k :: ks, e :: es, m, S, H, ds, S', l, rs, er, h, Q, q => by
    rw [evs] at h
    obtain ⟨d, S1, h1, h⟩ := bind_ok h
    obtain ⟨ds1, S2, h2, h⟩ := bind_ok h
    injection h with e1 e2
    subst e1 e2
    show tE g W (ev F e) σ H fun y H2 => tPairs ((ks.zip es).map fun ke => (tKey ke.1, tE g W (ev F ke.2))) σ H2 fun ps H3 => Q ((kV k, y) :: ps) H3
    refine ⟨m, ρ, S, rs, er, ?_⟩
    rw [h1]
    intro m1 H1 v x1 rs1 r1
    exact disp_pairs (D := D) ks es (Nat.succ.inj l) rs1 (er.mono x1) h2 _ fun m' H' vs x2 rs2 rv => q m' H' (v :: vs) (x1.trans x2) rs2 (Rels.cons (Rel.mono x2 _ _ r1) rv)
  | [], _ :: _, _, _, _, _, _, l, _, _, _, _, _ => nomatch l
  | _ :: _, [], _, _, _, _, _, l, _, _, _, _, _ => nomatch l
theorem relKs_merge {m : Mp} {n : Nat} {H : Hp} : ∀ {ks : List Key} {ds : List Iv.D} {vs : List V} {acc : List (Key × Iv.D)} {wac : List (Key × V)}, (∀ k ∈ ks, okKey k) → Rels g m n H ds vs → RelKs g m n H acc wac → RelKs g m n H ((ks.zip ds).foldl (fun acc kv => dPut acc kv.1 kv.2) acc) ((ks.zip vs).foldl (fun acc kv => putK acc kv.1 kv.2) wac)
  | [], _, _, _, _, _, _, h => h
  | k :: ks, [], _, _, _, _, r, h => by
    unfold Rels at r
    subst r
    exact h
  | k :: ks, d :: ds, _, _, _, ok, r, h => by
    unfold Rels at r
    obtain ⟨w, ws, rfl, r1, r2⟩ := r
    exact relKs_merge (ks := ks) (ds := ds) (vs := ws) (acc := dPut _ k d) (wac := putK _ k w) (fun k' hk => ok k' (List.mem_cons_of_mem _ hk)) r2 (relKs_put (ok k (List.mem_cons_self ..)) r1 h)
theorem i_ddisp {keys : List (Option Expr)} {values : List Expr} {ks : List Key} {es : List E} (hp : PPs X pos keys values ((ks.zip es).map fun ke => (tKey ke.1, tE g W (ev F ke.2)))) (ok : ∀ k ∈ ks, okKey k) (hl : ks.length = es.length := by rfl) (hall : keys.all (·.isSome) = true := by rfl) (hkl : keys.length = values.length := by rfl) (h0 : keys ≠ [] := by simp)
    (h15 : keys.length ≤ 15 := by decide) : PE X (.Dict keys values pos) (tE g W (ev F (.ddisp ks es))) := by
  refine PE.imp (pe_disp hp hall hkl h0 h15) fun σ H Q ⟨m, ρ, S, rs, er, w⟩ => ?_
  rw [ev] at w
  unfold dispR at w
  split at w
  · rename_i ds S2 he
    obtain ⟨⟨c1, c2⟩, w⟩ := w.ck
    intro D hD
    have n1 : ¬ m.hid D := (Off.free rs hD).2
    have x0 := Ext.hide (o := .dK []) rs hD
    refine disp_pairs (D := D) ks es hl (rs.hide hD) (er.mono x0) he _ fun m' H' vs x' rs' rv => ?_
    have hd' : m'.hid D := (x'.hid D (.inr rfl)).1
    have e' : H' D = some (.dK []) := (x'.hid D (.inr rfl)).2.trans upd_same
    refine ⟨e', ks.zip vs, rfl, ?_, ?_⟩
    · rw [List.length_zip]
      omega
    · exact box_end (c := .dct (mergeD (ks.zip ds))) rs hD ((x0.trans x').own hD n1) hd' (rs'.own hd') ⟨_, upd_same, relKs_merge ok (Rels.monoW (ExtW.own hd') _ _ rv) rfl⟩ w
  · exact w.elim
/-! k in d -/
theorem din_form {neg : Bool} {S' : Sto} {z : Iv.D} (h : ev F (.din neg ik ie) ρ S = .ok z S') : ∃ b, z = .bl b := by
  rw [ev] at h
  obtain ⟨y, Sa, _, h⟩ := bind_ok h
  obtain ⟨x, Sb, _, h⟩ := bind_ok h
  unfold dinR at h
  split at h
  · injection h with h1 _
    exact ⟨_, h1.symm⟩
  · cases h
theorem t_din {o i : Expr} {io ii : E} {neg : Bool} {kk : Nat} (hr : Room kk X.A) (ok : okE o = true) (hi : PE X i (tE g W (ev F ii))) (ho : PE X o (tE g W (ev F io))) : PT X (.Compare i [dinOp neg] [o] pos) (tT g W (evT F (.din neg ii io))) := by
  refine PT.imp (pt_cmp (din_ok hr ho hi) (mark_ok ok)) fun σ H R ⟨m, ρ, S, rs, er, w⟩ => ?_
  refine ⟨m, ρ, S, rs, er, ?_⟩
  have w : WP g (fun c d H' => W c d σ H') RelB m S.length H ((ev F (.din neg ii io) ρ S).bind fun z S => tru z S) R := w
  cases hh : ev F (.din neg ii io) ρ S with
  | ok z S' =>
    obtain ⟨b, rfl⟩ := din_form hh
    rw [hh] at w
    intro m1 H1 x x1 rs1 r1
    rw [rel_bl] at r1
    exact ⟨b, r1, w m1 H1 b x1 rs1 rfl⟩
  | exc x S' => rw [hh] at w; exact w
  | err => rw [hh] at w; exact w
/-! l.count(x) -/
theorem countP_py {y : Iv.D} (hy : y.fz = true) : ∀ xs : List Iv.D, Iv.D.fzs xs = true → (Iv.D.pys xs).countP (fun z => PyData.eqv z y.py) = xs.countP fun z => z.eqv y
  | [], _ => by rw [Iv.D.pys]; rfl
  | x :: xs, h => by
    simp only [Iv.D.fzs, Bool.and_eq_true] at h
    rw [Iv.D.pys, List.countP_cons, List.countP_cons, py_eqv x y h.1 hy, countP_py hy xs h.2]
/-! a module's tuple -/
end
end Iv

/-! ### rules: len of a dict, a module's written dicts -/
namespace L2
open PySem PySem.Spec PyProof.Rows
section
variable {X : Cx}
end
end L2
namespace Iv
open PySem PySem.Spec PyProof.Rows L2
section
variable {g : Gs} {W : L2.WX} {X : Cx} {F : CE} {b e : Expr} {ib ie : E} {x : Str} {p q pos : Pos}
end
end Iv

/-! ### dict(pairs) -/
namespace Iv
open PySem PySem.Spec PyProof.Rows L2
section
variable {g : Gs} {W : L2.WX} {X : Cx} {F : CE} {e : Expr} {ie : E} {p q pos : Pos} {m : Mp} {n : Nat} {S : Sto} {H : Hp}
theorem relKs_mergeL : ∀ {es : List (Key × Iv.D)} {kws : List (Key × V)} {acc : List (Key × Iv.D)} {wac : List (Key × V)}, RelKs g m n H es kws → RelKs g m n H acc wac → RelKs g m n H (es.foldl (fun acc kv => dPut acc kv.1 kv.2) acc) (kws.foldl (fun acc kv => putK acc kv.1 kv.2) wac)
  | [], _, _, _, r, h => by
    have r : _ = [] := r
    subst r
    exact h
  | (k, d) :: es, _, acc, wac, r, h => by
    obtain ⟨v, gr, rfl, ok, rd, q⟩ := r
    exact relKs_mergeL (acc := dPut acc k d) (wac := putK wac k v) q (relKs_put ok rd h)
theorem pairs_rel : ∀ {xs : List Iv.D} {vs : List V} {es : List (Key × Iv.D)}, Rels g m n H xs vs → pairsD xs = some es → ∃ (ps : List Addr) (kws : List (Key × V)), vs = ps.map V.ref ∧ Paired (fun p kv => SqT g.K H p [kV kv.1, kv.2]) ps kws ∧ RelKs g m n H es kws
  | [], vs, es, r, h => by
    unfold Rels at r
    subst r
    cases h
    exact ⟨[], [], rfl, .nil, rfl⟩
  | x :: xs, vs, es, r, h => by
    unfold Rels at r
    obtain ⟨w, ws, rfl, r1, r2⟩ := r
    obtain ⟨e1, e2, h1, h2, rfl⟩ := pairsD_app (a := [x]) (b := xs) h
    obtain ⟨ps, kws, rfl, pq, rk⟩ := pairs_rel r2 h2
    obtain ⟨y, z, rfl⟩ : ∃ y z, x = .tup [y, z] := by
      cases x with
      | tup l =>
        match l, h1 with
        | [], h1 => cases h1
        | [_], h1 => cases h1
        | [y, z], _ => exact ⟨y, z, rfl⟩
        | _ :: _ :: _ :: _, h1 => cases h1
      | _ => cases h1
    obtain ⟨k, hk, rfl⟩ := pairsD_one h1
    rw [rel_tup] at r1
    obtain ⟨a, us, rfl, ta, ru⟩ := r1
    unfold Rels at ru
    obtain ⟨vy, us1, rfl, ry, ru⟩ := ru
    unfold Rels at ru
    obtain ⟨vz, us2, rfl, rz, ru⟩ := ru
    unfold Rels at ru
    subst ru
    obtain ⟨rfl, ok⟩ := key_rel hk ry
    exact ⟨a :: ps, (k, vz) :: kws, rfl, .cons ta.sq pq, ⟨vz, kws, rfl, ok, rz, rk⟩⟩
end
end Iv

/-! ### sorted(d, reverse=True); d == {} -/
namespace L2
open PySem PySem.Spec PyProof.Rows
section
variable {X : Cx}
end
end L2
namespace Iv
open PySem PySem.Spec PyProof.Rows L2
section
variable {g : Gs} {W : L2.WX} {X : Cx} {F : CE} {e : Expr} {ie : E} {p q pos : Pos} {m : Mp} {n : Nat} {S : Sto} {H : Hp}
end
end Iv

/-! ### rules: split, partition; D.get(k, d) of a module's written dict -/
namespace Iv
open PySem PySem.Spec PyProof.Rows L2
/-- no entry of a written dict bears the key z -/
def KNo (K : PySem.W.Frag) (a : Addr) (z : Str) : Prop := ∃ es n, K.lookup a = some ⟨.type "dict", none, .dict es n, #[]⟩ ∧ findBy Value.isStrOf es z = none
theorem knoOf {K : PySem.W.Frag} {P : Params} {a : Addr} {ks : List Str} {z : Str} (h : He.dicW K a = some (He.keysIn P ks)) (hz : z ∉ ks) : KNo K a z := by
  obtain ⟨es, n, hk, _, e⟩ := dicW_full h
  refine ⟨es, n, hk, ?_⟩
  obtain ⟨l⟩ := es
  have no : ∀ d ∈ l, ¬ Value.isStrOf z d.key = true := by
    intro d hd q
    have m : He.keyOf d ∈ He.keysIn P ks := e ▸ List.mem_map_of_mem hd
    obtain ⟨x, hx, ex⟩ := List.mem_map.mp m
    unfold He.keyOf at ex
    split at ex
    · rename_i y t ey
      obtain ⟨rfl, _⟩ := Prod.mk.inj (Option.some.inj ex)
      rw [ey] at q
      have e2 : x = z := by simpa [Value.isStrOf] using q
      exact hz (e2 ▸ hx)
    · cases ex
  unfold findBy
  rw [List.find?_toArray, List.find?_eq_none.mpr no]
  rfl
/-- D.get(y, x), D a written dict -/
def tKGet (K : PySem.W.Frag) (w : World) (a : Addr) (ty tx : TE) : TE := fun σ H Q => ty σ H fun y H1 => tx σ H1 fun x H2 => ∃ z, y = .str z ∧ ((∃ v, KDct K w a z v ∧ Q v H2) ∨ (KNo K a z ∧ Q x H2))
section
variable {X : Cx} {e f : Expr} {x : Str} {p apos cpos : Pos} {ty tx : TE} {a : Addr} {ks : List Str}
theorem pe_kget (hm : X.mg x = some (.ref a)) (hd : He.dicW X.K a = some (He.keysIn X.w.params ks)) (hg : Gl X x) (hdb : (x == ("__debug__" : Str)) = false) (he : PE X e ty) (hf : PE X f tx) (M : M2 X (.Name x p) "get" apos e f cpos) :
    PE X (.Call (.Attribute (.Name x p) "get" apos) [e, f] [] cpos) (tKGet X.K X.w a ty tx) := by
  obtain ⟨es0, n0, hl0, lo, _⟩ := dicW_full hd
  refine ⟨fun pins s σ H Q I h => ?_⟩
  refine wpAny_Call_method M.base M.few M.line PySem.F.plainAttrs_dict PySem.F.slot_dict_get PySem.F.type_dict_get (thn ((pe_glob (v := .ref a) hg hm rfl hdb).run pins s σ H (fun v H1 => v = .ref a ∧ H1 = H) I ⟨rfl, rfl⟩) fun u s1 ⟨v, H1, I1, rv, ev, eH⟩ => ?_)
  subst ev
  rw [eH] at I1
  obtain rfl : u = Value.ref a := rv
  have ho := I1.kIn a _ hl0
  refine ⟨⟨_, ho, rfl⟩, fun b q => ?_, ?_⟩
  · cases q
    exact ⟨_, ho, rfl⟩
  rw [M.trees]
  refine Calls.callWith_builtin rfl (Calls.evalArgs_plain (Calls.spliced_cons (thn (he.run pins s1 σ H _ I1 h) fun iv s2 ⟨y, H2, I2, ry, q2⟩ =>
    Calls.spliced_cons (thn (hf.run pins s2 σ H2 _ I2 q2) fun fv s3 ⟨z, H3, I3, rz, zs, e1, q3⟩ => Calls.spliced_nil ?_))))
  subst e1
  obtain ⟨t, rfl⟩ := ry
  rcases q3 with ⟨v, ⟨es, n, u0, hl, hk, en, ru⟩, q3⟩ | ⟨⟨es, n, hl, hno⟩, q3⟩
  rotate_left
  · obtain ⟨es', n', hl', _, hks'⟩ := dicW_full hd
    rw [hl] at hl'
    cases hl'
    have hmp := PySem.W.mapOf_K (prog := X.prog) (w := X.w) I3.kIn hl (He.keysLit_of hks')
    refine call_meetsIn PySem.F.slot_dict_get hmp.typeIs PySem.F.entry_dict_get (PySem.F.args_dict_get_3 _ _ _) (meets_dict_get_default (strKind X.prog X.w) a (k := zs) (strKind_is X.prog X.w zs t) lo fv) ⟨_, hmp, z, H3, I3.tok _, ?_, q3⟩
    rw [hno]
    exact rz
  have hmp := PySem.W.mapOf_K (prog := X.prog) (w := X.w) I3.kIn hl hk
  refine call_meetsIn PySem.F.slot_dict_get hmp.typeIs PySem.F.entry_dict_get (PySem.F.args_dict_get_3 _ _ _) (meets_dict_get_default (strKind X.prog X.w) a (k := zs) (strKind_is X.prog X.w zs t) lo fv) ⟨_, hmp, v, H3, I3.tok _, ?_, q3⟩
  rw [PySem.W.find_K hl en]
  exact ru
end
section
variable {g : Gs} {W : L2.WX} {X : Cx} {F : CE} {b f : Expr} {ib jf : E} {x : Str} {p apos cpos : Pos}
theorem i_kget {a : Addr} {ks : List Str} {kvs : List (Str × Int)} {dvs : List (Str × He.Dv)} (hK : X.K = g.K) (hm : X.mg x = some (.ref a)) (hd : He.dicW X.K a = some (He.keysIn X.w.params ks)) (hv : He.valsB X.K a dvs = true) (he : dvs = kvs.map fun kv => (kv.1, .int kv.2)) (hks : ks = kvs.map (·.1)) (hb : PE X b (tE g W (ev F ib))) (hf : PE X f (tE g W (ev F jf)))
    (M : M2 X (.Name x p) "get" apos b f cpos) (hg : Gl X x := by rfl) (hdb : (x == ("__debug__" : Str)) = false := by decide) :
    PE X (.Call (.Attribute (.Name x p) "get" apos) [b, f] [] cpos) (tE g W (ev F (.kget kvs ib jf))) := by
  refine PE.imp (pe_kget hm hd hg hdb hb hf M) fun σ H Q ⟨m, ρ, S, rs, er, w⟩ => ?_
  rw [ev] at w
  refine TI.step (Ra := Rel g) rs er w fun y H1 m1 S1 dy x1 rs1 er1 r1 w => ?_
  refine TI.step (Ra := Rel g) rs1 er1 w fun z H2 m2 S2 dz x2 rs2 er2 r2 w => ?_
  cases dy with
  | str zs =>
    unfold kgetR at w
    dsimp only at w
    rw [rel_str] at r1
    obtain ⟨rfl, _⟩ := r1
    cases hl : kvs.lookup zs with
    | none =>
      rw [hl] at w
      refine ⟨zs, rfl, .inr ⟨knoOf hd fun hz => ?_, w.now rs2 r2⟩⟩
      obtain ⟨n0, hn⟩ := List.mem_iff_getElem?.mp (hks ▸ hz : zs ∈ kvs.map (·.1))
      rw [List.getElem?_map] at hn
      obtain ⟨p, hp, rfl⟩ := Option.map_eq_some_iff.mp hn
      exact absurd (List.mem_of_getElem? hp) (fun hm => (List.lookup_eq_none_iff.mp hl) p hm |> fun z => by simp at z)
    | some i =>
      rw [hl] at w
      obtain ⟨es, n, hk, lo, hks'⟩ := dicW_full hd
      have hmem : (zs, i) ∈ kvs := by
        have go : ∀ l : List (Str × Int), l.lookup zs = some i → (zs, i) ∈ l := by
          intro l
          induction l with
          | nil => intro h; cases h
          | cons y r ih =>
            intro h
            obtain ⟨y1, y2⟩ := y
            rw [List.lookup_cons] at h
            cases e : zs == y1 with
            | true =>
              rw [e] at h
              have e1 : zs = y1 := by simpa using e
              have e2 : y2 = i := by simpa using h
              rw [e1, e2]
              exact List.mem_cons_self ..
            | false =>
              rw [e] at h
              exact List.mem_cons_of_mem _ (ih h)
        exact go _ hl
      obtain ⟨u, hu, ru⟩ := He.valsB_ok hv (q := (zs, .int i)) (by rw [he]; exact List.mem_map.mpr ⟨_, hmem, rfl⟩)
      exact ⟨zs, rfl, .inl ⟨.int i, ⟨es, n, u, hk, He.keysLit_of hks', hu, ru⟩, w.now rs2 (by rw [rel_int])⟩⟩
  | _ => exact w.err
end
end Iv

/-! ### dict(t), t a tuple that tuple() made, of pairs -/
namespace Iv
open PySem PySem.Spec PyProof.Rows L2
theorem tupKeys : typeLookup (.type "tuple") "keys" = pure none := am_miss_of_fast (by first | decide +kernel | rfl)
section
variable {prog : Program} {w : World} {A : Around} {E : Value → Shared → Prop}
/-- no attribute 'keys' -/
theorem tup_noKeys {s : Shared} {a : Addr} {o : Obj} {xs : Array Value} {k : Nat} {Q : Option Value → Shared → Prop} (hx : s.heap.get? a = some o) (hc : o.cls = .type "tuple") (hdat : o.data = .seq xs k) (hd : o.dict = none) (hA : A.handled = none)
    (h : ∀ h' tk, (∀ b ob, s.heap.get? b = some ob → h'.get? b = some ob) → Q none { s with heap := h', toks := tk }) : wpAny (model prog w) A (getAttr? (.ref a) "keys") Q E s := by
  obtain ⟨c, dct, dat, sl⟩ := o
  dsimp only at hc hdat hd
  subst hc hdat hd
  obtain ⟨hp, g, d, tk, os⟩ := s
  have hT : ∀ tk', (⟨hp, g, d, tk', os⟩ : Shared).TypeIs (.ref a) "tuple" := fun _ => ⟨_, hx, rfl⟩
  have hmiss := tupKeys
  have hname : (["__module__", "__name__", "__qualname__", "__doc__", "__annotations__"] : List Str).contains "keys" = false := by decide +kernel
  have hsz : ("keys" : Str).length + 100 ≤ sizeLine := by first | size_fits | decide +kernel
  have f1 := sub_AttributeError
  have f3 := PySem.F.slot_tuple_getattribute.lookup
  have f4 := PySem.F.slot_tuple_getattribute.bind (.ref a)
  have f5 := am_tuple_getattr_none
  unfold getAttr? getAttrBy? getAttrBy
  repeat (any_goals (first | assumption | exact hT _ | ((with_reducible show wpAny _ _ (call (Value.builtin "tuple.__getattribute__") _ _) _ _ _); refine call_meets PySem.F.slot_tuple_getattribute (hT _) am_entry_tuple_getattribute (PySem.F.args_tuple_getattribute_2 _ _) (meets_getattribute_miss_tuple a xs k sl "keys" _ hmiss hname hsz) ⟨hx, hA, fun h' tk' e hx' => ?_⟩) | wp_step))
  obtain ⟨t', u', he⟩ := hx'.there
  show wpAny _ _ (getattributeRaised _ _ _ _ _ _ _) _ _ _
  unfold getattributeRaised
  repeat (any_goals (first | assumption | wp_step))
  all_goals first | exact h _ _ hx'.keeps | (dsimp only; repeat (any_goals (first | assumption | exact h _ _ hx'.keeps | wp_step)))
/-- the pairs, one by one -/
theorem tup_upd {R : Result → Shared → Prop} {D0 it l : Addr} {us : Array Value} {res : Value} (hh : A.handled = none) (n1 : l ≠ it) (n2 : D0 ≠ it) (n3 : D0 ≠ l) :
    ∀ (rest : List (Key × Value)) (i : Nat) (acc : List (Key × Value)) (ix : Int) (t : Tok) (s : Shared), us.size = i + rest.length → acc.length + rest.length ≤ sizeLine →
      (∀ (j : Nat) (q : Key × Value), rest[j]? = some q → ∃ (b : Addr) (u : Value), us[i + j]? = some (.ref b) ∧ b ≠ D0 ∧ b ≠ it ∧ IsTup s.heap b #[u, q.2] ∧ keyIs q.1 u = true) →
      s.heap.IsTupleIter it l i → s.heap.IsTuple l us → s.heap.DictOf (mixKind prog w) D0 acc →
      (∀ h' tk, h'.DictOf (mixKind prog w) D0 (merged acc rest) → (∀ b o, b ≠ D0 → b ≠ it → s.heap.get? b = some o → h'.get? b = some o) → R (.ok (.ret res)) { s with heap := h', toks := tk }) →
      codeAny (model prog w) A (.builtin "dict.update.loop" ⟨[.ref D0, .ref it, .int ix t, res], []⟩) R s
  | [], i, acc, ix, t, s, hsz, hln, ht, hit, hl, hm, hR => by
    refine codeAny_builtin ud_entry ?_
    rw [Around.under_plainId ud_plain _]
    show wpAny _ A.in1 (pyNext (.ref it) >>= _) _ _ s
    refine wpAny_bind (wpAny_pyNext_tuple_end (A := A.in1) hh hit hl (Array.getElem?_eq_none (Nat.le_of_eq hsz)) fun h' he => ?_)
    show wpAny _ A.in1 (Builtin.Dict.addKeywords D0 [] >>= _) _ _ _
    exact wpAny_bind (wpAny_pure (wpAny_pure (hR h' s.toks (hm.extBut he n2) fun b o _ hb e => he b o hb e)))
  | q :: rest, i, acc, ix, t, s, hsz, hln, ht, hit, hl, hm, hR => by
    obtain ⟨b, u, hb, hbS, hbI, htup, hk⟩ := ht 0 q rfl
    rw [List.length_cons] at hsz hln
    refine codeAny_builtin ud_entry ?_
    rw [Around.under_plainId ud_plain _]
    show wpAny _ A.in1 (pyNext (.ref it) >>= _) _ _ s
    refine wpAny_bind (wpAny_pyNext_tuple_item (x := .ref b) hit hl (by simpa using hb) fun h1 hit1 hs1 => ?_)
    have ht1 : IsTup h1 b #[u, q.2] := htup.extBut hs1.extBut hbI
    have hl1 : h1.IsTuple l us := hl.extBut hs1.extBut n1
    have hm1 : h1.DictOf (mixKind prog w) D0 acc := hm.extBut hs1.extBut n2
    obtain ⟨o, ho, hc, n, hd⟩ := id ht1
    show wpAny _ A.in1 (holding [Value.ref b] _ >>= _) _ _ _
    refine wpAny_bind (wpAny_holding ?_)
    refine wpAny_bind (wpAny_tryCatch ?_)
    unfold Builtin.Dict.pairItems
    refine wpAny_bind (wpAny_typeOf (T := "tuple") ⟨o, ho, hc⟩ ?_)
    rw [if_pos (by first | decide | rfl | simp)]
    refine wpAny_bind (wpAny_seqItems ho hd (wpAny_pure ?_))
    show wpAny _ A.in1 (holding [u, q.2] (dictSet D0 u q.2)) _ _ _
    refine wpAny_holding (wpAny_dictSet_pairs (knd := mixKind prog w) (k := q.1) hk hm1 (fun h2 hm2 hs2 => ?_) (by omega))
    refine wpAny_pure ⟨plainId_quiet ud_plain _, tup_upd (us := us) hh n1 n2 n3 rest (i + 1) (stored acc q.1 q.2) (ix + 1) 0 _ (show us.size = i + 1 + rest.length by omega) ?_ (fun j q' e => ?_) ?_ ?_ hm2 fun h' tk hd' k => ?_⟩
    · have z := stored_length_le acc q.1 q.2
      omega
    · obtain ⟨b', u', hb', hbS', hbI', htup', hk'⟩ := ht (j + 1) q' (by simpa using e)
      refine ⟨b', u', ?_, hbS', hbI', (htup'.extBut hs1.extBut hbI').extBut hs2.extBut hbS', hk'⟩
      rw [show i + 1 + j = i + (j + 1) by omega]
      exact hb'
    · exact hit1.extBut hs2.extBut (Ne.symm n2)
    · exact hl1.extBut hs2.extBut (Ne.symm n3)
    · exact hR h' tk hd' fun c oc h3 h4 e => k c oc h3 h4 (hs2.extBut c oc h3 (hs1.extBut c oc h4 e))
theorem dict_of_tup {s : Shared} {l : Addr} {ol : Obj} {us : Array Value} {n : Nat} {prs : List (Key × Value)} {Q : Value → Shared → Prop} (hh : A.handled = none) (hl : s.heap.get? l = some ol) (hc : ol.cls = .type "tuple") (hd : ol.dict = none)
    (hdat : ol.data = .seq us n) (hsz : us.size = prs.length) (hln : prs.length ≤ sizeLine)
    (ht : ∀ (j : Nat) (q : Key × Value), prs[j]? = some q → ∃ (b : Addr) (u : Value), us[j]? = some (.ref b) ∧ IsTup s.heap b #[u, q.2] ∧ keyIs q.1 u = true)
    (h : ∀ h' tk, h'.DictOf (mixKind prog w) s.heap.objs.size (merged [] prs) → (∀ b o, s.heap.get? b = some o → h'.get? b = some o) → Q (.ref s.heap.objs.size) { s with heap := h', toks := tk }) :
    wpAny (model prog w) A (call (.type "dict") [.ref l]) Q E s := by
  refine callType_codes (Q₁ := fun obj s₁ => obj = .ref s.heap.objs.size ∧ s₁ = { s with heap := s.heap.push { cls := .type "dict", data := .dict #[] } }) PySem.F.kt_called_dict (PySem.F.kt_typeCall_dict_1 _) PySem.F.entry_dict_init (kt_code_dict_new _ ⟨rfl, rfl⟩) ?_
  rintro obj s₁ ⟨rfl, rfl⟩
  have hnew : (s.heap.push { cls := .type "dict", data := .dict #[] }).DictOf (mixKind prog w) s.heap.objs.size [] := Heap.DictOf.new s.heap
  have k0 : ∀ b o, s.heap.get? b = some o → (s.heap.push { cls := .type "dict", data := .dict #[] }).get? b = some o := fun b o e => Heap.get?_push_of_some _ e
  refine ⟨hnew.typeIs, PySem.F.args_dict_init_2 _ _, ?_⟩
  unfold Builtin.«dict.__init__»
  refine wpAny_bind ?_
  unfold Builtin.Dict.selfAndRest
  refine wpAny_bind (wpAny_notOrdered_dict hnew.typeIs ?_)
  show wpAny _ _ (pure (s.heap.objs.size, [Value.ref l])) _ _ _
  refine wpAny_pure ?_
  show wpAny _ _ (Builtin.Dict.updateFrom "dict.__init__" s.heap.objs.size (.ref l) [] .none) _ _ _
  unfold Builtin.Dict.updateFrom
  refine wpAny_bind (wpAny_typeOf (T := "tuple") ⟨ol, k0 _ _ hl, hc⟩ ?_)
  rw [if_pos (by first | decide | rfl | simp)]
  refine wpAny_bind (tup_noKeys (k0 _ _ hl) hc hdat hd hh fun h1 tk1 hk1 => ?_)
  rw [if_pos (show (none : Option Value).isNone = true from rfl)]
  refine wpAny_bind (wpAny_rule ?_)
  have hl1 : h1.IsTuple l us := ⟨ol, hk1 _ _ (k0 _ _ hl), hc, n, hdat⟩
  have hS1 : s.heap.objs.size < h1.objs.size := by
    have e : (s.heap.push { cls := .type "dict", data := .dict #[] }).get? s.heap.objs.size = some { cls := .type "dict", data := .dict #[] } := Heap.get?_push_size _ rfl
    exact Heap.lt_size (hk1 _ _ e)
  refine wpAny_bind (wpAny_pyIter_tuple hl1 ?_)
  have k2 : ∀ b o, h1.get? b = some o → (h1.push { cls := .type "tuple_iterator", data := .fields #[.ref l, .int 0 0] }).get? b = some o := fun b o e => Heap.get?_push_of_some _ e
  have hlt : l < s.heap.objs.size := Heap.lt_size hl
  have key := tup_upd (prog := prog) (w := w) (A := A.in1) (R := wants (fun r s₂ => r = .none ∧ Q (.ref s.heap.objs.size) s₂) E) (D0 := s.heap.objs.size) (it := h1.objs.size) (l := l) (us := us) (res := Value.none) hh
    (Nat.ne_of_lt (Nat.lt_trans hlt hS1)) (Nat.ne_of_lt hS1) (Nat.ne_of_gt hlt) prs 0 [] 0 0
    { s with heap := h1.push { cls := .type "tuple_iterator", data := .fields #[.ref l, .int 0 0] }, toks := tk1 } (by rw [hsz, Nat.zero_add]) (by rw [List.length_nil, Nat.zero_add]; exact hln)
    (fun j q e => by
      obtain ⟨b, u, e1, e2, e3⟩ := ht j q e
      have hb : b < s.heap.objs.size := e2.lt
      exact ⟨b, u, by rw [Nat.zero_add]; exact e1, Nat.ne_of_lt hb, Nat.ne_of_lt (Nat.lt_trans hb hS1), e2.keeps fun c o z => k2 _ _ (hk1 _ _ (k0 _ _ z)), e3⟩)
    ⟨_, Heap.get?_push_size _ rfl, rfl, rfl⟩ (hl1.push _) (hnew.at fun o e => k2 _ _ (hk1 _ _ e))
    (fun h' tk hd' k => ⟨rfl, h h' tk hd' fun b o e => k b o (Nat.ne_of_lt (Heap.lt_size e)) (Nat.ne_of_lt (Nat.lt_trans (Heap.lt_size e) hS1)) (k2 _ _ (hk1 _ _ (k0 _ _ e)))⟩)
  first
    | exact wpAny_pure ⟨plainId_quiet ud_plain _, key⟩
    | exact wpAny_bind (wpAny_pure (wpAny_pure ⟨plainId_quiet ud_plain _, key⟩))
end
section
variable {g : Gs} {W : L2.WX} {X : Cx} {F : CE} {e : Expr} {ie : E} {p q pos : Pos} {m : Mp} {n : Nat} {S : Sto} {H : Hp}
theorem cr_dictT (hcalm : X.calm = true) : CallR X (.type "dict") (fun xs H Q => ∃ (a : Addr) (ob : Obj) (ps : List Addr) (kvs : List (Key × V)), xs = [.ref a] ∧ H a = some (.frz ob (.tup (ps.map V.ref))) ∧ ob.cls = .type "tuple" ∧ ob.dict = none ∧ Paired (fun p kv => SqT X.K H p [kV kv.1, kv.2]) ps kvs ∧
    ∀ p, H p = none → Q (.ref p) (upd H p (.dK (mergeK [] kvs)))) := by
  intro pins s σ H xs us Q I r ⟨a, ob, ps, kvs, ex, ha, hc, hd, hp, q⟩
  subst ex
  obtain ⟨u, eu, rx⟩ := vals1 r
  subst eu
  cases rx
  obtain ⟨ho, hz, its, rv, ol, hol, hcl, n, hdat⟩ := I.hok a _ ha
  rw [ho] at hol
  cases hol
  have ei := refs_at rv
  subst ei
  rw [List.length_map] at hz
  obtain ⟨prs, rel, hl, hpr⟩ := pairs_of I hp
  refine dict_of_tup (prs := prs) (I.ok.hd hcalm) ho hc hd hdat (by simp [hl]) (by rw [hl]; exact hz) (fun j q' e => ?_) fun h' tk hd' k => ?_
  · obtain ⟨b, u, e1, e2, e3⟩ := hpr j q' e
    exact ⟨b, u, by simp [e1], e2, e3⟩
  · have hm : (s.heap.objs.size == sysModules) = false := beq_eq_false_iff_ne.mpr (Nat.ne_of_gt I.big)
    have hlen : (mergeK [] kvs).length ≤ sizeLine := by
      refine Nat.le_trans (length_mergeK kvs []) ?_
      rw [List.length_nil, Nat.zero_add, rel.length, hl]
      exact hz
    exact ⟨.ref s.heap.objs.size, upd H s.heap.objs.size (.dK (mergeK [] kvs)), I.laid (t' := tk) k (Nat.le_refl _) (show ObjOk X.prog X.w _ _ _ (.dK (mergeK [] kvs)) from ⟨hlen, hm, merged [] prs, KV.merge rel .nil, hd'⟩), rfl, q _ (I.hok.fresh (Nat.le_refl _))⟩
theorem i_dpairsT (hK : X.K = g.K) (hc : X.calm = true) (hg : Gl X "dict") (hm : X.mg "dict" = none) (oke : okE e = true) (he : PA X [e] (tEs g W (evs F [ie]))) : PE X (.Call (.Name "dict" p) [e] [] pos) (tE g W (ev F (.dpairsT ie))) := by
  refine PE.imp (pe_callTy (cr_dictT hc) hg hm (by decide +kernel) he (by decide) (by decide) (starEach_ok oke)) fun σ H Q ⟨m, ρ, S, rs, er, w⟩ => ?_
  rw [ev] at w
  refine ⟨m, ρ, S, rs, er, ?_⟩
  rw [evs1]
  cases hh : ev F ie ρ S with
  | ok d S1 =>
    rw [hh] at w
    simp only [R.bind_ok] at w ⊢
    intro m1 H1 vs x rs1 r1
    obtain ⟨v, rfl, rv⟩ := Rels.one r1
    replace w := w.from x
    unfold dpairsR at w
    split at w
    · rename_i ys hs
      obtain rfl : d = .ntp ys := by
        cases d <;> first | (cases hs; rfl) | cases hs
      rw [rel_ntp] at rv
      obtain ⟨a, us, rfl, ⟨ob, q1, q2, q3, q4⟩, ru⟩ := rv
      unfold mkDct at w
      split at w
      · rename_i es hes
        obtain ⟨hl, w⟩ := w.ck
        obtain ⟨ps, kws, rfl, pq, rk⟩ := pairs_rel ru hes
        refine ⟨a, ob, ps, kws, rfl, q1, q2, q3, by rw [hK]; exact pq, fun p hp => ?_⟩
        have ln : (S1 ++ [some (Cell.dct (mergeD es))]).length = S1.length + 1 := by rw [List.length_append, List.length_singleton]
        have x0 := Ext.new (o := HO.dK (mergeK [] kws)) rs1 hp
        have rk2 : RelKs g m1 S1.length H1 (mergeD es) (mergeK [] kws) := relKs_mergeL (acc := []) (wac := []) rk rfl
        refine w (mNew m1 S1.length p) _ (.ref p) (by rw [ln]; exact x0) (rs1.new hp ⟨_, upd_same, rk2.monoW x0.w⟩) ?_
        rw [rel_ref, ln]
        exact ⟨Nat.lt_succ_self _, p, rfl, fun b hb => by rw [mNew_same] at hb; cases hb; rfl⟩
      · exact w.err
    · exact w.err
  | exc x S1 => rw [hh] at w; exact w
  | err => rw [hh] at w; exact w
end
end Iv

/-! ### exceptions of the program's classes over ValueError, by the library's own rules (OexC, pe_veinit, ps_ost, pmk_oex) -/
namespace Iv
open PySem PySem.Spec PyProof.Rows L2
end Iv

/-! ### exceptions: the evaluator's rules -/
namespace Iv
open PySem PySem.Spec PyProof.Rows L2
section
variable {P : Program} {w : World} {K : PySem.W.Frag} {mg : Str → Option Value} {base : Heap}
end
section
variable {g : Gs} {W : L2.WX} {X : Cx} {F : CE} {e : Expr} {ie : E} {x : Str} {p pos pos' : Pos}
end
/-! ### the caught exception -/
def Gs.at (g : Gs) (h : Hot) : Gs := { g with hot := some h }
section
variable {g : Gs} {m m1 : Mp} {n n1 : Nat} {H H1 : Hp} {h : Hot}
mutual
theorem rel_hin (hn : n ≤ h.id) : ∀ (d : D) (v : V), Rel g m n H d v → Rel (g.at h) m n H d v
  | .non, _, r => by unfold Rel at r ⊢; exact r
  | .bl _, _, r => by unfold Rel at r ⊢; exact r
  | .int _, _, r => by unfold Rel at r ⊢; exact r
  | .str _, _, r => by unfold Rel at r ⊢; exact r
  | .ty _, _, r => by unfold Rel at r ⊢; exact r
  | .ref _, _, r => by unfold Rel at r ⊢; exact r
  | .tup xs, _, r => by
    unfold Rel at r ⊢
    obtain ⟨a, vs, e, t, q⟩ := r
    exact ⟨a, vs, e, t, rels_hin hn xs vs q⟩
  | .lst xs, _, r => by
    unfold Rel at r ⊢
    obtain ⟨a, vs, e, t, q⟩ := r
    exact ⟨a, vs, e, t, rels_hin hn xs vs q⟩
  | .scr xs, _, r => by
    unfold Rel at r ⊢
    obtain ⟨a, vs, e, t, q⟩ := r
    exact ⟨a, vs, e, t, rels_hin hn xs vs q⟩
  | .ntp xs, _, r => by
    unfold Rel at r ⊢
    obtain ⟨a, vs, e, t, q⟩ := r
    exact ⟨a, vs, e, t, rels_hin hn xs vs q⟩
  | .wtp xs, _, r => by
    unfold Rel at r ⊢
    obtain ⟨a, vs, e, t, q⟩ := r
    exact ⟨a, vs, e, t, rels_hin hn xs vs q⟩
  | .ins c fs, _, r => by
    unfold Rel at r ⊢
    obtain ⟨a, dx, gs, e, t, k, q⟩ := r
    exact ⟨a, dx, gs, e, t, k, relFs_hin hn fs gs q⟩
  | .exv i c fs, _, r => by
    unfold Rel at r ⊢
    obtain ⟨l, a, e, _⟩ := r
    refine ⟨l, a, e, fun h' hh hi => ?_⟩
    cases hh
    omega
theorem rels_hin (hn : n ≤ h.id) : ∀ (ds : List D) (vs : List V), Rels g m n H ds vs → Rels (g.at h) m n H ds vs
  | [], _, r => by unfold Rels at r ⊢; exact r
  | d :: ds, _, r => by
    unfold Rels at r ⊢
    obtain ⟨w, ws, e, r, q⟩ := r
    exact ⟨w, ws, e, rel_hin hn d w r, rels_hin hn ds ws q⟩
theorem relFs_hin (hn : n ≤ h.id) : ∀ (ds : List (Nat × D)) (vs : List (Str × V)), RelFs g m n H ds vs → RelFs (g.at h) m n H ds vs
  | [], _, r => by unfold RelFs at r ⊢; exact r
  | (f, d) :: ds, _, r => by
    unfold RelFs at r ⊢
    obtain ⟨w, ws, e, r, q⟩ := r
    exact ⟨w, ws, e, rel_hin hn d w r, relFs_hin hn ds ws q⟩
end
mutual
theorem rel_out (h0 : g.hot = none) : ∀ (d : D) (v : V), Rel (g.at h) m n H d v → Rel g m n H d v
  | .non, _, r => by unfold Rel at r ⊢; exact r
  | .bl _, _, r => by unfold Rel at r ⊢; exact r
  | .int _, _, r => by unfold Rel at r ⊢; exact r
  | .str _, _, r => by unfold Rel at r ⊢; exact r
  | .ty _, _, r => by unfold Rel at r ⊢; exact r
  | .ref _, _, r => by unfold Rel at r ⊢; exact r
  | .tup xs, _, r => by
    unfold Rel at r ⊢
    obtain ⟨a, vs, e, t, q⟩ := r
    exact ⟨a, vs, e, t, rels_out h0 xs vs q⟩
  | .lst xs, _, r => by
    unfold Rel at r ⊢
    obtain ⟨a, vs, e, t, q⟩ := r
    exact ⟨a, vs, e, t, rels_out h0 xs vs q⟩
  | .scr xs, _, r => by
    unfold Rel at r ⊢
    obtain ⟨a, vs, e, t, q⟩ := r
    exact ⟨a, vs, e, t, rels_out h0 xs vs q⟩
  | .ntp xs, _, r => by
    unfold Rel at r ⊢
    obtain ⟨a, vs, e, t, q⟩ := r
    exact ⟨a, vs, e, t, rels_out h0 xs vs q⟩
  | .wtp xs, _, r => by
    unfold Rel at r ⊢
    obtain ⟨a, vs, e, t, q⟩ := r
    exact ⟨a, vs, e, t, rels_out h0 xs vs q⟩
  | .ins c fs, _, r => by
    unfold Rel at r ⊢
    obtain ⟨a, dx, gs, e, t, k, q⟩ := r
    exact ⟨a, dx, gs, e, t, k, relFs_out h0 fs gs q⟩
  | .exv i c fs, _, r => by
    unfold Rel at r ⊢
    obtain ⟨l, a, e, _⟩ := r
    refine ⟨l, a, e, fun h' hh hi => ?_⟩
    rw [h0] at hh
    cases hh
theorem rels_out (h0 : g.hot = none) : ∀ (ds : List D) (vs : List V), Rels (g.at h) m n H ds vs → Rels g m n H ds vs
  | [], _, r => by unfold Rels at r ⊢; exact r
  | d :: ds, _, r => by
    unfold Rels at r ⊢
    obtain ⟨w, ws, e, r, q⟩ := r
    exact ⟨w, ws, e, rel_out h0 d w r, rels_out h0 ds ws q⟩
theorem relFs_out (h0 : g.hot = none) : ∀ (ds : List (Nat × D)) (vs : List (Str × V)), RelFs (g.at h) m n H ds vs → RelFs g m n H ds vs
  | [], _, r => by unfold RelFs at r ⊢; exact r
  | (f, d) :: ds, _, r => by
    unfold RelFs at r ⊢
    obtain ⟨w, ws, e, r, q⟩ := r
    exact ⟨w, ws, e, rel_out h0 d w r, relFs_out h0 ds ws q⟩
end
variable {S : Sto} {ρ : Env} {σ : L2.St}
theorem EnvR.out (h0 : g.hot = none) (er : EnvR (g.at h) m n H ρ σ) : EnvR g m n H ρ σ := ⟨er.1, fun i d e => let ⟨v, e1, r⟩ := er.2 i d e; ⟨v, e1, rel_out h0 d v r⟩⟩
end
section
variable {g : Gs} {W : L2.WX} {X : Cx} {F : CE} {x nm : Str} {c : Value} {i : Nat} {body suite : List Stmt} {b₀ : Stmt} {np pos pos' : Pos} {ib ih : List St} {yes no : List Nat}
end
/-! ### isinstance(e, C), e.f within the suite -/
section
variable {X : Cx} {a Dc : Addr} {oe : Obj} {cls : Value} {d : Option Addr} {pn : List (Addr × Obj)}
end
theorem CallR.or {X : Cx} {f : Value} {r r' : List V → Hp → VK → Prop} (h : CallR X f r) (h' : CallR X f r') : CallR X f (fun xs H Q => r xs H Q ∨ r' xs H Q) :=
  fun pins s σ H xs us Q I rx q => q.elim (h pins s σ H xs us Q I rx) (h' pins s σ H xs us Q I rx)
theorem CallR.ex {ι : Type} {X : Cx} {f : Value} {r : ι → List V → Hp → VK → Prop} {p : ι → Prop} (h : ∀ i, p i → CallR X f (r i)) : CallR X f (fun xs H Q => ∃ i, p i ∧ r i xs H Q) :=
  fun pins s σ H xs us Q I rx ⟨i, hp, q⟩ => h i hp pins s σ H xs us Q I rx q
section
variable {g : Gs} {W : L2.WX} {X : Cx} {F : CE} {a : Addr} {oe : Obj} {cls : Value} {d : Option Addr} {pn : List (Addr × Obj)} {e ce : Expr} {ces : List Expr} {ie : E} {p pos tpos : Pos} {id : Nat} {yes no : List Nat} {c : V} {cv : Value} {cs : List V} {us : List Value}
end
end Iv

/-! ### looks at exception classes -/
namespace Iv
open PySem PySem.Spec PyProof.Rows L2
/-! ### isinstance(x, C), C a class of the program that is no exception -/
structure Exc0 (K : PySem.W.Frag) (C : Addr) (tl : List Value) (newId : String) : Prop where
  q : PySem.W.excIn K C tl newId = true
  kC : PySem.W.keepIn K (.ref C) = true
  exC : PySem.W.subIn K (.ref C) (.type "BaseException") = some true
  tyC : PySem.W.typeIn K (.ref C) = some (.type "type")
structure Exc1 (K : PySem.W.Frag) (C : Addr) (f : Str) (fI : Addr) : Prop where
  T : OexC K C
  no : PySem.W.findIn K (.ref C) f = some none
  iC : PySem.W.findIn K (.ref C) "__init__" = some (some (.ref fI))
  tI : PySem.W.typeIn K (.ref fI) = some (.type "function")
  vV : PySem.W.findCls K (.type "ValueError") (.type "type") "__init__" = some (.val (.builtin "ValueError.__init__"))
theorem Exc0.all {K : PySem.W.Frag} {C : Addr} {tl : List Value} {newId : String} (x : Exc0 K C tl newId) : PySem.W.excIn K C tl newId = true ∧ PySem.W.keepIn K (.ref C) = true ∧
    PySem.W.subIn K (.ref C) (.type "BaseException") = some true ∧ PySem.W.typeIn K (.ref C) = some (.type "type") := ⟨x.q, x.kC, x.exC, x.tyC⟩
section
variable {g : Gs} {W : L2.WX} {X : Cx} {F : CE} {e ce : Expr} {ie : E} {p pos : Pos} {c : Nat} {ks : List Nat}
end
end Iv
/-! ### t.count(x) of a tuple of texts; (x,) * 2 -/
namespace Iv
open PySem PySem.Spec PyProof.Rows L2
section
variable {X : Cx}
theorem mt_countTA {k : Nat} (hr : Room k X.A) : MtR X "tuple.count" (fun x xs H Q => ∃ (l : Addr) (vs : List V) (y : V) (ds : List PyData) (d : PyData), x = .ref l ∧ xs = [y] ∧ SqT X.K H l vs ∧ DpAll X.K H vs ds ∧ Dp X.K H y d ∧ PyData.canLayAll0 ds = true ∧ d.canLay0 = true ∧
    d.depth ≤ 60 ∧ Q (.int (ds.countP (fun z => PyData.eqv z d) : Nat)) H) := by
  intro pins s σ H x xs v us Q I rx rxs ⟨l, vs, y, ds, d, ex, exs, hq, hds, hd, c1, c2, dp, q⟩
  subst ex exs
  cases rx
  obtain ⟨u, rfl, ru⟩ := vals1 rxs
  obtain ⟨is, r, pl, _⟩ := I.tuple hq
  obtain ⟨as, ra⟩ := Dp.readsAll I ds vs is hds r
  obtain ⟨bs, rb⟩ := Dp.reads I d y u hd ru
  exact PySem.SeqAt.count_tuple_data (vs := is.toArray) pl ra rb (PyData.plainAll_of_canLay0 ds c1) (PyData.plain_of_canLay0 d c2) (by have := hr.un; have := Nat.min_le_right (PyData.depthAll ds) d.depth; omega) ⟨.int (ds.countP (fun z => PyData.eqv z d) : Nat), H, I.tok _, ⟨_, rfl⟩, q⟩
end
section
variable {g : Gs} {W : L2.WX} {X : Cx} {F : CE} {m : Mp} {n : Nat} {H : Hp} {S : Sto} {pos : Pos}
/-- a tuple whose object is told, or that stands in the written part -/
theorem ty_told : L2.TyOk X "tuple" (fun x H => ∃ p : Addr, x = .ref p ∧ ((∃ (ob : Obj) (xs : List V), H p = some (.frz ob (.tup xs)) ∧ ob.cls = .type "tuple" ∧ ob.dict = none) ∨ ∃ o, X.K.lookup p = some o ∧ o.cls = .type "tuple" ∧ o.dict = none)) := by
  intro pins σ H s x v I r ⟨p, ex, h⟩
  subst ex
  cases r
  rcases h with ⟨ob, xs, q, c, dn⟩ | ⟨o, q, c, dn⟩
  · have k := (I.hok p _ q).1
    exact ⟨⟨_, k, c⟩, fun b e => by cases e; exact ⟨_, k, dn⟩⟩
  · have k := I.kIn p o q
    exact ⟨⟨_, k, c⟩, fun b e => by cases e; exact ⟨_, k, dn⟩⟩
/-! t.count(x) of any tuple, where the run tells each tuple's object -/
theorem told_any {xs : List Iv.D} {a : Addr} {vs : List V} (hw : g.weak = false) (hx : xs ≠ []) (t : TupAt g m H a vs) (r : Rels g m n H xs vs) : (∃ (ob : Obj) (xs : List V), H a = some (.frz ob (.tup xs)) ∧ ob.cls = .type "tuple" ∧ ob.dict = none) ∨ ∃ o, g.K.lookup a = some o ∧ o.cls = .type "tuple" ∧ o.dict = none := by
  rcases t with ⟨_, _, k, _⟩ | ⟨_, k | k⟩ | ⟨o, e, c, d, _⟩
  · rw [hw] at k
    cases k
  · exact absurd (List.length_eq_zero_iff.mp (by rw [r.length, k]; rfl)) hx
  · exact .inr k
  · exact .inl ⟨o, vs, e, c, d⟩
theorem i_tcnta {o e : Expr} {io ie : E} {apos cpos : Pos} {k : Nat} (hr : Room k X.A) (hK : X.K = g.K) (oko : okE o = true) (oke : okE e = true) (ho : PE X o (tE g W (ev F io))) (he : PA X [e] (tEs g W (evs F [ie]))) (hl : (apos.endLine == cpos.line) = true := by rfl) (hw : g.weak = false := by rfl) :
    PE X (.Call (.Attribute o "count" apos) [e] [] cpos) (tE g W (ev F (.tcnta io ie))) := by
  refine PE.imp (pe_mG ty_told PySem.F.plainAttrs_tuple PySem.F.slot_tuple_count PySem.F.type_tuple_count (mt_countTA hr) ho he (attrBase_ok oko) ?_ hl (starEach_ok oke) rfl) fun σ H Q ⟨m, ρ, S, rs, er, w⟩ => ?_
  · rw [(star_all (es := [e]) (by unfold okEs; rw [List.all_cons, oke]; rfl)).1]
    rfl
  rw [ev] at w
  refine TI.step (Ra := Rel g) rs er w fun x H1 m1 S1 dx x1 rs1 er1 r1 w => ?_
  obtain ⟨c, w⟩ := w.ck
  cases dx with
  | tup xs =>
    have hx : xs ≠ [] := fun e => by subst e; cases c
    rw [rel_tup] at r1
    obtain ⟨a, vs, rfl, t, rr⟩ := r1
    refine ⟨⟨a, rfl, by rw [hK]; exact told_any hw hx t rr⟩, m1, ρ, S1, rs1, er1, ?_⟩
    rw [evs1]
    cases hh : ev F ie ρ S1 with
    | ok d S2 =>
      rw [hh] at w
      simp only [R.bind_ok] at w ⊢
      intro m' H' b x2 rs2 r2
      obtain ⟨u, rfl, ru⟩ := r2.one
      obtain ⟨⟨c1, c2, c3, c4⟩, w⟩ := (show WP g _ (Rel g) m1 S1.length H1 (ck (D.fzs xs = true ∧ d.fz = true ∧ D.dps xs ≤ 60 ∧ d.dp ≤ 60) (.ok (.int (xs.countP fun z => z.eqv d : Nat)) S2)) Q from w).ck
      obtain ⟨p1, p2⟩ := pys_lay xs vs c1 (Rels.mono x2 _ _ rr)
      obtain ⟨p3, p4⟩ := py_lay d u c2 ru
      exact ⟨a, vs, u, Iv.D.pys xs, d.py, rfl, rfl, by rw [hK]; exact (t.monoW x2.w).sq, by rw [hK]; exact p2, by rw [hK]; exact p4, p1, p3, by rw [py_depth d c2]; exact c4, (w.from x2).now rs2 (by rw [rel_int, countP_py c2 xs c1])⟩
    | exc x S2 => rw [hh] at w; exact w
    | err => rw [hh] at w; exact w
  | _ => cases c
/-! a == b by an own __eq__ -/
theorem WP.noExc {V0 : Value → Option Addr → Hp → Prop} {r : R Iv.D} {Q : VK} (h : WP g V0 (Rel g) m n H (Iv.noExc r) Q) : WP g (fun _ _ _ => False) (Rel g) m n H r Q := by
  unfold Iv.noExc at h
  split at h
  · exact h
  · exact h.elim
end
end Iv

/-! ### sets of ints and texts with their walk: set(x) of a list or a tuple, len, sorted -/
namespace Wm
open PySem PySem.Spec PyProof.Rows L2
def kv (v : Value) : Key := match v with
  | .int k _ => .inl k
  | .str x _ => .inr x
  | _ => .inl 0
def inL {κ : Type} [DecidableEq κ] (ks : List κ) (j : κ) : Bool := decide (j ∈ ks)
theorem inL_snoc {κ : Type} [DecidableEq κ] {ks : List κ} {j k : κ} : inL (ks ++ [k]) j = (inL ks j || decide (j = k)) := by
  unfold inL
  simp
theorem many_le {κ : Type} [DecidableEq κ] (ks : List κ) : Iv.manyK ks ≤ ks.length := Iv.dups_le _ _ (Nat.le_refl _)
theorem many_snoc {κ : Type} [DecidableEq κ] {ks : List κ} {k : κ} : Iv.manyK (ks ++ [k]) = if inL ks k = true then Iv.manyK ks else Iv.manyK ks + 1 := Iv.dup_step ks k
theorem kv_of {k : Key} {v : Value} (h : keyIs k v = true) : kv v = k := by
  rcases keyIs_shape h with ⟨i, t, rfl, rfl⟩ | ⟨x, t, rfl, rfl⟩ <;> rfl
theorem scan_of {k : Key} {v : Value} (h : keyIs k v = true) : v.scannable = true := by
  rcases keyIs_shape h with ⟨i, t, rfl, rfl⟩ | ⟨x, t, rfl, rfl⟩ <;> rfl
/-- an entry of such a set -/
def Fine (w : World) (e : Int × Value) : Prop := keyIs (kv e.2) e.2 = true ∧ e.1 = keyH w (kv e.2)
theorem fine_of {w : World} {k : Key} {v : Value} (h : keyIs k v = true) : Fine w (keyH w k, v) := by
  have e := kv_of h
  exact ⟨by rw [e]; exact h, by rw [e]⟩
abbrev keys (es : Array (Int × Value)) : List Key := es.toList.map fun e => kv e.2
structure Laid (w : World) (es : Array (Int × Value)) (t : SetTable) (T : Key → Bool) (n : Nat) : Prop where
  fine : ∀ e ∈ es.toList, Fine w e
  once : (keys es).Nodup
  mem : ∀ k, T k = true ↔ k ∈ keys es
  few : es.size < scanBound
  fits : t.fits es.size = true
  many : es.size = n
  ris : Ris t.place.toList
  led : w.params.followText "set-order" = true ∨ t.led = true
def SetW (P : Program) (w : World) (h : Heap) (a : Addr) (T : Key → Bool) (n : Nat) : Prop := ∃ o es ep t, h.get? a = some o ∧ o.ExactSet ∧ o.data = .set es ep t ∧ Laid w es t T n
section
variable {P : Program} {w : World} {h h' : Heap} {a : Addr} {T : Key → Bool} {n : Nat} {es : Array (Int × Value)} {t : SetTable}
theorem SetW.at (R : SetW P w h a T n) (k : ∀ o, h.get? a = some o → h'.get? a = some o) : SetW P w h' a T n := let ⟨o, es, ep, t, ho, r⟩ := R; ⟨o, es, ep, t, k o ho, r⟩
theorem SetW.congr {T' : Key → Bool} (R : SetW P w h a T n) (e : ∀ k, T' k = T k) : SetW P w h a T' n := by
  rw [show T' = T from funext e]
  exact R
theorem Laid.elems (L : Laid w es t T n) : ElemsOf (mixKind P w) es.toList := fun e he => ⟨⟨kv e.2, (L.fine e he).1, (L.fine e he).2⟩, scan_of (L.fine e he).1⟩
theorem Laid.has (L : Laid w es t T n) (k : Key) : k ∈ keys es ↔ ∃ e ∈ es.toList, (mixKind P w).is k e.2 = true := by
  rw [List.mem_map]
  exact ⟨fun ⟨e, he, q⟩ => ⟨e, he, by rw [← q]; exact (L.fine e he).1⟩, fun ⟨e, he, q⟩ => ⟨e, he, kv_of q⟩⟩
theorem SetW.fresh (ho : h.get? a = some (Ws.bareSet w)) : SetW P w h a (fun _ => false) 0 := by
  refine ⟨_, #[], 0, _, ho, ⟨rfl, rfl, rfl⟩, rfl, ?_⟩
  refine Laid.mk (fun e he => ?_) List.nodup_nil (fun k => ?_) (by decide) (by rfl) rfl List.Pairwise.nil ?_
  · cases he
  · exact ⟨fun z => (by cases z), fun z => (by cases z)⟩
  show _ ∨ (!w.params.followText "set-order") = true
  cases w.params.followText "set-order"
  · exact .inr rfl
  · exact .inl rfl
end
section
variable {P : Program} {w : World} {A : Around} {E : Value → Shared → Prop} {s : Shared} {a : Addr} {T : Key → Bool} {n : Nat}
theorem put_end {gw : Bool → Sem Unit} (free : ∀ (b : Bool) (s1 : Shared) (Z : Unit → Shared → Prop), Z () s1 → wpAny (model P w) A (gw b) Z E s1) {o : Obj} {es es1 : Array (Int × Value)} {ep : Nat} {t t2 : SetTable} (ho : s.heap.get? a = some o) (hex : o.ExactSet) (hd : o.data = .set es ep t) {T' : Key → Bool}
    (L : Laid w es1 t2 T' es1.size) {dummy : Bool} {R : Option Bool → Shared → Prop} (fin : ∀ h', Heap.SameBut a s.heap h' → SetW P w h' a T' es1.size → R (some true) { s with heap := h' }) :
    wpAny (model P w) A (do
        storeSet a es1 t2
        if (!dummy && t2.tooFull) = true then do
            gw (relayAll t2 es1 (SetTable.grown es1.size)).2.2
            storeSet a (relayAll t2 es1 (SetTable.grown es1.size)).1 (relayAll t2 es1 (SetTable.grown es1.size)).2.1
            pure (some true)
          else pure (some true)) R E s := by
  refine wpAny_bind (wpAny_storeSet_of ho hd ?_ (fits_of_scanBound L.few))
  have at1 := store_at (es' := es1) (t' := t2) ho hd
  have sb1 := Heap.SameBut.update s.heap a (Obj.putSet es1 t2)
  split
  · have z1 := relayAll_perm t2 es1 (SetTable.grown es1.size)
    have z2 := relayAll_fits t2 es1 (SetTable.grown es1.size)
    have z3 := relayAll_ris t2 es1 (SetTable.grown es1.size)
    have z4 := relayAll_led t2 es1 (SetTable.grown es1.size)
    generalize relayAll t2 es1 (SetTable.grown es1.size) = Z at z1 z2 z3 z4 ⊢
    obtain ⟨es2, t3, gave⟩ := Z
    dsimp only at z1 z2 z3 z4 ⊢
    have sz : es2.size = es1.size := by rw [← Array.length_toList, z1.length_eq, Array.length_toList]
    have few2 : es2.size < scanBound := by rw [sz]; exact L.few
    have kp : (keys es2).Perm (keys es1) := z1.map _
    refine wpAny_bind (free _ _ _ ?_)
    refine wpAny_bind (wpAny_storeSet_of at1 rfl ?_ (fits_of_scanBound few2))
    have at2 := store_at (es' := es2) (t' := t3) at1 rfl
    refine wpAny_pure (fin _ (sb1.trans (Heap.SameBut.update _ a _)) ⟨_, es2, _, t3, at2, hex, rfl, ?_⟩)
    exact ⟨fun e he => L.fine e (z1.mem_iff.mp he), kp.nodup_iff.mpr L.once, fun k => (L.mem k).trans kp.mem_iff.symm, few2, z2, sz, z3, L.led.imp id fun z => by rw [z4]; exact z⟩
  · exact wpAny_pure (fin _ sb1 ⟨_, es1, _, t2, at1, hex, rfl, L⟩)
theorem put_hashed {k : Key} {v : Value} {Q : Bool → Shared → Prop} (hk : keyIs k v = true) (R : SetW P w s.heap a T n) (room : n + 1 < scanBound)
    (fin : ∀ h', Heap.SameBut a s.heap h' → SetW P w h' a (fun j => T j || decide (j = k)) (if T k = true then n else n + 1) → Q (!T k) { s with heap := h' }) :
    wpAny (model P w) A (setAddHashed a v ((mixKind P w).hash k)) Q E s := by
  obtain ⟨o, es, ep, t, ho, hex, hd, L⟩ := R
  have hsc := scan_of hk
  have hkey : (mixKind P w).is k v = true := hk
  have hel : ElemsOf (mixKind P w) es.toList := L.elems
  have hdef : (mixKind P w).hash k = keyH w k := rfl
  unfold setAddHashed setAddHashedIn
  refine wpAny_holding (wpAny_bind (wpAny_setState_of ho hd L.fits ?_))
  dsimp only
  rw [byScan_of hsc L.few hel]
  simp only [↓reduceIte]
  unfold setAddByScan
  refine wpAny_bind ?_
  refine wpAny_bind (wpAny_rule ?_)
  refine wpAny_bind (wpAny_setScan_of hkey ho hd L.fits hel ?_)
  cases hfi : List.findIdx? (fun e => (mixKind P w).is k e.2) es.toList with
  | some j =>
    dsimp only
    obtain ⟨hj, pj, _⟩ := List.findIdx?_eq_some_iff_getElem.mp hfi
    have old : T k = true := (L.mem k).2 ((L.has (P := P) k).2 ⟨es.toList[j], List.getElem_mem hj, pj⟩)
    refine wpAny_pure (wpAny_pure ?_)
    have q := fin s.heap (Heap.SameBut.refl a s.heap) ⟨o, es, ep, t, ho, hex, hd, L.fine, L.once, fun i => by
      rw [Bool.or_eq_true, decide_eq_true_eq, ← L.mem i]
      exact ⟨fun z => z.elim id (fun e => e ▸ old), .inl⟩, L.few, L.fits, by rw [if_pos old]; exact L.many, L.ris, L.led⟩
    rw [old] at q
    exact q
  | none =>
    dsimp only
    have out : k ∉ keys es := fun z => by
      obtain ⟨e, he, q⟩ := (L.has (P := P) k).1 z
      have c := List.findIdx?_eq_none_iff.mp hfi e he
      rw [q] at c
      cases c
    have new : T k = false := by
      cases q : T k with
      | false => rfl
      | true => exact absurd ((L.mem k).1 q) out
    have gw : ∀ (b : Bool) {s1 : Shared} {Z : Unit → Shared → Prop}, Z () s1 → wpAny (model P w) A (match b with | true => rule "set.scan.the-table-gave-way" | false => pure ()) Z E s1 :=
      fun b s1 Z q => by cases b <;> first | exact wpAny_pure q | exact wpAny_rule q
    have z1 := layNew_perm t es ((mixKind P w).hash k) v
    have z2 := layNew_fits t es ((mixKind P w).hash k) v
    have z3 := layNew_ris t es ((mixKind P w).hash k) v L.ris
    have z4 := layNew_led t es ((mixKind P w).hash k) v
    generalize layNew t es ((mixKind P w).hash k) v = Z at z1 z2 z3 z4 ⊢
    obtain ⟨es1, t1, dummy, gave⟩ := Z
    dsimp only at z1 z2 z3 z4 ⊢
    rw [Array.toList_push] at z1
    have pc : es1.toList.Perm (((mixKind P w).hash k, v) :: es.toList) := z1.trans (List.perm_append_singleton _ _)
    have kp : (keys es1).Perm (k :: keys es) := by
      have := pc.map fun e => kv e.2
      rw [List.map_cons] at this
      rw [kv_of hk] at this
      exact this
    have sz : es1.size = n + 1 := by rw [← Array.length_toList, pc.length_eq, List.length_cons, Array.length_toList, L.many]
    have laid : ∀ t' : SetTable, t'.fits es1.size = true → Ris t'.place.toList → (w.params.followText "set-order" = true ∨ t'.led = true) → Laid w es1 t' (fun j => T j || decide (j = k)) es1.size := fun t' y1 y2 y3 =>
      ⟨fun e he => by
        rcases List.mem_cons.mp (pc.mem_iff.mp he) with z | z
        · rw [z, hdef]
          exact fine_of hk
        · exact L.fine e z, kp.nodup_iff.mpr (List.nodup_cons.mpr ⟨out, L.once⟩), fun i => by rw [Bool.or_eq_true, decide_eq_true_eq, L.mem i, kp.mem_iff, List.mem_cons]; exact Or.comm, by rw [sz]; exact room, y1, rfl, y2, y3⟩
    have led : w.params.followText "set-order" = true ∨ t1.led = true := L.led.imp id fun z => by rw [z4]; exact z
    have done : ∀ h', Heap.SameBut a s.heap h' → SetW P w h' a (fun j => T j || decide (j = k)) es1.size → Q true { s with heap := h' } := fun h' sb r => by
      have q := fin h' sb
      rw [new] at q
      rw [sz] at r
      exact q r
    refine wpAny_bind (gw _ ?_)
    split
    · refine wpAny_bind ?_
      rw [hashByValue_scannable 8 hsc]
      refine wpAny_pure ?_
      refine put_end ?_ ho hex hd (laid _ ?_ ?_ ?_) ?_
      · intro b s1 Z q; cases b <;> first | exact wpAny_pure q | exact wpAny_rule q
      · first | (split <;> first | exact z2 | exact SetTable.fits_plain_off z2) | exact z2
      · first | (split <;> exact z3) | exact z3
      · first | (split <;> exact led) | exact led
      · intro h' sb r; dsimp only; exact wpAny_pure (done h' sb r)
    · refine wpAny_bind (wpAny_pure ?_)
      simp only [↓reduceIte]
      refine put_end ?_ ho hex hd (laid _ z2 z3 led) ?_
      · intro b s1 Z q; cases b <;> first | exact wpAny_pure q | exact wpAny_rule q
      · intro h' sb r; dsimp only; exact wpAny_pure (done h' sb r)
/-! set(x) -/
inductive KeysAre : List Value → List Key → Prop
  | nil : KeysAre [] []
  | cons {v : Value} {k : Key} {vs : List Value} {ks : List Key} : keyIs k v = true → KeysAre vs ks → KeysAre (v :: vs) (k :: ks)
theorem KeysAre.len : ∀ {vs : List Value} {ks : List Key}, KeysAre vs ks → vs.length = ks.length
  | _, _, .nil => rfl
  | _, _, .cons _ r => by rw [List.length_cons, List.length_cons, r.len]
theorem KeysAre.at : ∀ {vs : List Value} {ks : List Key}, KeysAre vs ks → ∀ (i : Nat) (v : Value), vs[i]? = some v → ∃ k, ks[i]? = some k ∧ keyIs k v = true
  | _, _, .nil, i, v, h => by simp at h
  | _, _, .cons hk r, 0, v, h => by
    simp at h
    exact ⟨_, rfl, h ▸ hk⟩
  | _, _, .cons hk r, i + 1, v, h => by
    simp only [List.getElem?_cons_succ] at h ⊢
    exact r.at i v h
theorem KeysAre.of (P : Program) (w : World) : ∀ {ks : List Key} {us : List Value}, Vals (ks.map kV) us → KeysAre us ks
  | [], _, .nil => .nil
  | k :: ks, _, .cons r q => .cons (show keyIs k _ = true from kV_is (P := P) (w := w) r) (.of P w q)
theorem fill_loop {I : Addr} {fp wr : List Addr} {G : Array GenState → Array GenState → Prop} {m : Nat} {Pv : Nat → Value → Prop} {St : Nat → Shared → Prop} {R : Result → Shared → Prop}
    (W : WalksS P w A.in1 I fp wr G m Pv St) (D : Addr) (out : D ∉ fp) (ks : List Key) (hm : m = ks.length) (room : ks.length + 1 < scanBound) (each : ∀ i v, Pv i v → ∃ k, ks[i]? = some k ∧ keyIs k v = true) :
    ∀ (left i : Nat) (s : Shared), m - i = left → i ≤ m → St i s → SetW P w s.heap D (inL (ks.take i)) (Iv.manyK (ks.take i)) →
      (∀ s', Moved (D :: wr) G s s' → SetW P w s'.heap D (inL ks) (Iv.manyK ks) → R (.ok (.ret .none)) s') →
      codeAny (model P w) A (.builtin "set.update.loop" ⟨[.ref D, .ref I], []⟩) R s := by
  have outw : D ∉ wr := fun h => out (W.sub _ h)
  have sub : ∀ b ∈ wr, b ∈ D :: wr := fun b hb => List.mem_cons_of_mem _ hb
  intro left
  induction left with
  | zero =>
    intro i s hl hi st hS fin
    have e : i = m := by omega
    subst e
    refine codeAny_builtin F.entry_set_update_loop ?_
    rw [Around.under_plainId F.plain_set_update_loop _]
    show wpAny _ A.in1 (pyNext (.ref I) >>= _) _ _ s
    refine wpAny_bind (W.done s _ _ st fun s' mv => ?_)
    show wpAny _ A.in1 (ret Value.none) _ _ s'
    rw [List.take_of_length_le (by omega)] at hS
    exact wpAny_pure (fin s' (mv.mono sub) (hS.at fun o e => mv.heap D o outw e))
  | succ left ih =>
    intro i s hl hi st hS fin
    have lt : i < m := by omega
    refine codeAny_builtin F.entry_set_update_loop ?_
    rw [Around.under_plainId F.plain_set_update_loop _]
    show wpAny _ A.in1 (pyNext (.ref I) >>= _) _ _ s
    refine wpAny_bind (W.item i s _ _ lt st fun v s' hP st' mv => ?_)
    obtain ⟨k, hk, kis⟩ := each i v hP
    have hS' := hS.at (h' := s'.heap) fun o e => mv.heap D o outw e
    show wpAny _ A.in1 (holding [v] (setAdd D v) >>= _) _ _ s'
    refine wpAny_bind (wpAny_holding ?_)
    unfold setAdd
    refine wpAny_holding ?_
    refine wpAny_bind ((mixKind P w).pyHash kis ?_)
    have short : Iv.manyK (ks.take i) ≤ ks.length := Nat.le_trans (many_le _) (by rw [List.length_take]; omega)
    refine put_hashed (s := { s' with toks := s'.toks + 1 }) kis hS' (by omega) fun h' sb r => ?_
    have next : ks.take (i + 1) = ks.take i ++ [k] := by rw [List.take_add_one, hk]; rfl
    have hS3 : SetW P w h' D (inL (ks.take (i + 1))) (Iv.manyK (ks.take (i + 1))) := by
      rw [next, many_snoc]
      exact r.congr fun j => inL_snoc
    refine wpAny_pure ⟨plainId_quiet F.plain_set_update_loop _, ih (i + 1) _ (by omega) lt (W.frame _ s' _ _ st' (Nat.le_succ _) fun b hb o e => ?_) hS3 fun s2 mv2 hS2 => ?_⟩
    · rw [sb.2 b (fun h : b = D => out (by rw [← h]; exact hb))]
      exact e
    · refine fin s2 (Moved.trans W.gtrans ((mv.mono sub).then_heap (Nat.le_succ _) fun b o hb e => ?_) mv2) hS2
      rw [sb.2 b (fun h : b = D => hb (by rw [h]; exact List.mem_cons_self))]
      exact e

set_option maxRecDepth 100000 in
set_option maxHeartbeats 3200000 in
theorem made_list {p : Addr} {items : Array Value} (ks : List Key) {Q : Value → Shared → Prop} (quiet : A.handled = none) (pl : s.heap.IsList p items) (kys : KeysAre items.toList ks) (room : ks.length + 1 < scanBound)
    (fin : ∀ (h' : Heap) (tk : Nat), SetW P w h' s.heap.objs.size (inL ks) (Iv.manyK ks) → (∀ b o, s.heap.get? b = some o → h'.get? b = some o) → Q (.ref s.heap.objs.size) { s with heap := h', toks := tk }) :
    wpAny (model P w) A (call (.type "set") [.ref p]) Q E s := by
  have many : items.size = ks.length := by rw [← Array.length_toList]; exact kys.len
  obtain ⟨_, _, hmro⟩ := F.called_set.mro
  have hmade := F.called_set.made
  have hsub := F.called_set.sub
  refine wpAny_call (codeAny_of_tree ?_)
  show wpAny _ _ (callAny (.type "set") _) _ _ _
  refine wpAny_pure ⟨Code.quiet_builtin _ (by decide +kernel), codeAny_builtin F.entry_type_call ?_⟩
  rw [Around.under_plain (weight_type_call_type "set" [.ref p] []) rfl]
  have g1 := F.called_set.notType
  have g2 := F.called_set.canCreate
  have g3 := F.typeCall_set_1 (.ref p)
  repeat (any_goals (first | assumption | wp_step))
  refine codeAny_mono (code_set_led1 (.ref p) (E := E) (Q₁ := fun obj s₁ => obj = .ref s.heap.objs.size ∧ s₁ = { s with heap := s.heap.push (Ws.bareSet w) }) ⟨rfl, rfl⟩) fun r0 s1 hr0 => ?_
  cases r0 with
  | error e => exact hr0
  | ok fl =>
    cases fl with
    | ret obj =>
      obtain ⟨rfl, rfl⟩ := hr0
      have bare : (s.heap.push (Ws.bareSet w)).get? s.heap.objs.size = some (Ws.bareSet w) := Heap.get?_push_size _ rfl
      have hT : Shared.TypeIs { s with heap := s.heap.push (Ws.bareSet w) } (.ref s.heap.objs.size) "set" := ⟨_, bare, rfl⟩
      have g4 := F.called_set.init.lookup
      have g5 := F.called_set.init.bind (.ref s.heap.objs.size)
      repeat (any_goals (first | assumption | wp_step))
      refine codeAny_mono (codeAny_call_builtin (R := wants (fun r s₂ => r = .none ∧ ∃ h' tk, s₂ = { s with heap := h', toks := tk } ∧ SetW P w h' s.heap.objs.size (inL ks) (Iv.manyK ks) ∧ (∀ b o, s.heap.get? b = some o → h'.get? b = some o)) E) F.called_set.init.plain F.entry_set_init (check_set_init_1 hT ?_)) fun r1 s2 hr1 => ?_
      · obtain ⟨u, hu, hcl, un, hdt⟩ := pl
        obtain ⟨ucls, udict, udata, uslots⟩ := u
        simp only at hcl hdt
        subst hcl
        subst hdt
        have hu1 : (s.heap.push (Ws.bareSet w)).get? p = some { cls := .type "list", dict := udict, data := .seq items un, slots := uslots } := Heap.get?_push_of_some _ hu
        have n1 := F.sub_list_set
        have n2 := F.sub_list_frozenset
        have n3 : (Value.type "list" == Value.type "dict") = false := by decide
        have pl1 : (s.heap.push (Ws.bareSet w)).IsList p items := ⟨_, hu1, rfl, un, rfl⟩
        unfold Builtin.«set.__init__» noKeywords Builtin.Frozenset.updateFrom
        generalize hPI : pyIter = PI
        wp_walk
        subst hPI
        refine wpAny_pyIter_list pl1 ?_
        refine wpAny_bind (wpAny_runValue ?_)
        have ltp : p < s.heap.objs.size := Heap.lt_size hu
        have q3 : A.in1.in1.in1.handled = none := by simp [quiet]
        have nI : p ≠ (s.heap.push (Ws.bareSet w)).objs.size := by
          rw [Heap.size_push]
          exact Nat.ne_of_lt (Nat.lt_succ_of_lt ltp)
        have nS : s.heap.objs.size ∉ [(s.heap.push (Ws.bareSet w)).objs.size, p] := by
          rw [Heap.size_push]
          simp only [List.mem_cons, List.mem_singleton, List.not_mem_nil, or_false, not_or]
          exact ⟨Nat.ne_of_lt (Nat.lt_succ_self _), Nat.ne_of_gt ltp⟩
        have each : ∀ (i : Nat) (v : Value), items[i]? = some v → ∃ k, ks[i]? = some k ∧ keyIs k v = true := fun i v hv => kys.at i v (by rw [Array.getElem?_toList]; exact hv)
        refine fill_loop ((Walks.list q3 _ p nI items).toS) s.heap.objs.size nS ks many room each (items.size - 0) 0 _ (by omega) (Nat.zero_le _)
          ⟨⟨_, Heap.get?_push_size _ rfl, rfl, rfl⟩, (pl1.push _)⟩ ?start ?stop
        case start =>
          have hget : ((s.heap.push (Ws.bareSet w)).push { cls := .type "list_iterator", data := .fields #[.ref p, .int 0 0] }).get? s.heap.objs.size = some (Ws.bareSet w) := Heap.get?_push_of_some _ bare
          exact (SetW.fresh (P := P) hget).congr fun k => rfl
        case stop =>
          intro s' mv hS'
          obtain ⟨h', g2', d', tk', os'⟩ := s'
          have eg : g2' = s.gens := mv.gens
          have ed : d' = s.drawn := mv.drawn
          have eo : os' = s.os := mv.os
          subst eg
          subst ed
          subst eo
          show wpAny _ _ _ _ _ _
          refine wpAny_pure ?_
          show wpAny _ _ (ret Value.none) _ _ _
          refine wpAny_pure ⟨rfl, h', tk', rfl, hS', fun b o e => ?_⟩
          have l0 : b < s.heap.objs.size := Heap.lt_size e
          have l1 : b ≠ s.heap.objs.size := Nat.ne_of_lt l0
          have l2 : b ≠ (s.heap.push (Ws.bareSet w)).objs.size := by
            rw [Heap.size_push]
            exact Nat.ne_of_lt (Nat.lt_succ_of_lt l0)
          exact mv.heap b o (by simp only [List.mem_cons, List.mem_singleton, List.not_mem_nil, or_false, not_or]; exact ⟨l1, l2⟩) (Heap.get?_push_of_some _ (Heap.get?_push_of_some _ e))
      · cases r1 with
        | error e => exact hr1
        | ok fl1 =>
          cases fl1 with
          | ret r =>
            obtain ⟨rfl, h', tk, rfl, z1, z2⟩ := hr1
            repeat (any_goals (first | assumption | wp_step))
            exact fin _ _ z1 z2
          | _ => exact hr1.elim
    | _ => exact hr0.elim

set_option maxRecDepth 100000 in
set_option maxHeartbeats 3200000 in
theorem made_tup {p : Addr} {items : Array Value} (ks : List Key) {Q : Value → Shared → Prop} (quiet : A.handled = none) (pl : s.heap.IsTuple p items) (kys : KeysAre items.toList ks) (room : ks.length + 1 < scanBound)
    (fin : ∀ (h' : Heap) (tk : Nat), SetW P w h' s.heap.objs.size (inL ks) (Iv.manyK ks) → (∀ b o, s.heap.get? b = some o → h'.get? b = some o) → Q (.ref s.heap.objs.size) { s with heap := h', toks := tk }) :
    wpAny (model P w) A (call (.type "set") [.ref p]) Q E s := by
  have many : items.size = ks.length := by rw [← Array.length_toList]; exact kys.len
  obtain ⟨_, _, hmro⟩ := F.called_set.mro
  have hmade := F.called_set.made
  have hsub := F.called_set.sub
  refine wpAny_call (codeAny_of_tree ?_)
  show wpAny _ _ (callAny (.type "set") _) _ _ _
  refine wpAny_pure ⟨Code.quiet_builtin _ (by decide +kernel), codeAny_builtin F.entry_type_call ?_⟩
  rw [Around.under_plain (weight_type_call_type "set" [.ref p] []) rfl]
  have g1 := F.called_set.notType
  have g2 := F.called_set.canCreate
  have g3 := F.typeCall_set_1 (.ref p)
  repeat (any_goals (first | assumption | wp_step))
  refine codeAny_mono (code_set_led1 (.ref p) (E := E) (Q₁ := fun obj s₁ => obj = .ref s.heap.objs.size ∧ s₁ = { s with heap := s.heap.push (Ws.bareSet w) }) ⟨rfl, rfl⟩) fun r0 s1 hr0 => ?_
  cases r0 with
  | error e => exact hr0
  | ok fl =>
    cases fl with
    | ret obj =>
      obtain ⟨rfl, rfl⟩ := hr0
      have bare : (s.heap.push (Ws.bareSet w)).get? s.heap.objs.size = some (Ws.bareSet w) := Heap.get?_push_size _ rfl
      have hT : Shared.TypeIs { s with heap := s.heap.push (Ws.bareSet w) } (.ref s.heap.objs.size) "set" := ⟨_, bare, rfl⟩
      have g4 := F.called_set.init.lookup
      have g5 := F.called_set.init.bind (.ref s.heap.objs.size)
      repeat (any_goals (first | assumption | wp_step))
      refine codeAny_mono (codeAny_call_builtin (R := wants (fun r s₂ => r = .none ∧ ∃ h' tk, s₂ = { s with heap := h', toks := tk } ∧ SetW P w h' s.heap.objs.size (inL ks) (Iv.manyK ks) ∧ (∀ b o, s.heap.get? b = some o → h'.get? b = some o)) E) F.called_set.init.plain F.entry_set_init (check_set_init_1 hT ?_)) fun r1 s2 hr1 => ?_
      · obtain ⟨u, hu, hcl, un, hdt⟩ := pl
        obtain ⟨ucls, udict, udata, uslots⟩ := u
        simp only at hcl hdt
        subst hcl
        subst hdt
        have hu1 : (s.heap.push (Ws.bareSet w)).get? p = some { cls := .type "tuple", dict := udict, data := .seq items un, slots := uslots } := Heap.get?_push_of_some _ hu
        have n1 := F.sub_tuple_set
        have n2 := F.sub_tuple_frozenset
        have n3 : (Value.type "tuple" == Value.type "dict") = false := by decide
        have pl1 : (s.heap.push (Ws.bareSet w)).IsTuple p items := ⟨_, hu1, rfl, un, rfl⟩
        unfold Builtin.«set.__init__» noKeywords Builtin.Frozenset.updateFrom
        generalize hPI : pyIter = PI
        wp_walk
        subst hPI
        refine wpAny_pyIter_tuple pl1 ?_
        refine wpAny_bind (wpAny_runValue ?_)
        have ltp : p < s.heap.objs.size := Heap.lt_size hu
        have q3 : A.in1.in1.in1.handled = none := by simp [quiet]
        have nI : p ≠ (s.heap.push (Ws.bareSet w)).objs.size := by
          rw [Heap.size_push]
          exact Nat.ne_of_lt (Nat.lt_succ_of_lt ltp)
        have nS : s.heap.objs.size ∉ [(s.heap.push (Ws.bareSet w)).objs.size, p] := by
          rw [Heap.size_push]
          simp only [List.mem_cons, List.mem_singleton, List.not_mem_nil, or_false, not_or]
          exact ⟨Nat.ne_of_lt (Nat.lt_succ_self _), Nat.ne_of_gt ltp⟩
        have each : ∀ (i : Nat) (v : Value), items[i]? = some v → ∃ k, ks[i]? = some k ∧ keyIs k v = true := fun i v hv => kys.at i v (by rw [Array.getElem?_toList]; exact hv)
        refine fill_loop ((Walks.tuple q3 _ p nI items).toS) s.heap.objs.size nS ks many room each (items.size - 0) 0 _ (by omega) (Nat.zero_le _)
          ⟨⟨_, Heap.get?_push_size _ rfl, rfl, rfl⟩, (pl1.push _)⟩ ?start ?stop
        case start =>
          have hget : ((s.heap.push (Ws.bareSet w)).push { cls := .type "tuple_iterator", data := .fields #[.ref p, .int 0 0] }).get? s.heap.objs.size = some (Ws.bareSet w) := Heap.get?_push_of_some _ bare
          exact (SetW.fresh (P := P) hget).congr fun k => rfl
        case stop =>
          intro s' mv hS'
          obtain ⟨h', g2', d', tk', os'⟩ := s'
          have eg : g2' = s.gens := mv.gens
          have ed : d' = s.drawn := mv.drawn
          have eo : os' = s.os := mv.os
          subst eg
          subst ed
          subst eo
          show wpAny _ _ _ _ _ _
          refine wpAny_pure ?_
          show wpAny _ _ (ret Value.none) _ _ _
          refine wpAny_pure ⟨rfl, h', tk', rfl, hS', fun b o e => ?_⟩
          have l0 : b < s.heap.objs.size := Heap.lt_size e
          have l1 : b ≠ s.heap.objs.size := Nat.ne_of_lt l0
          have l2 : b ≠ (s.heap.push (Ws.bareSet w)).objs.size := by
            rw [Heap.size_push]
            exact Nat.ne_of_lt (Nat.lt_succ_of_lt l0)
          exact mv.heap b o (by simp only [List.mem_cons, List.mem_singleton, List.not_mem_nil, or_false, not_or]; exact ⟨l1, l2⟩) (Heap.get?_push_of_some _ (Heap.get?_push_of_some _ e))
      · cases r1 with
        | error e => exact hr1
        | ok fl1 =>
          cases fl1 with
          | ret r =>
            obtain ⟨rfl, h', tk, rfl, z1, z2⟩ := hr1
            repeat (any_goals (first | assumption | wp_step))
            exact fin _ _ z1 z2
          | _ => exact hr1.elim
    | _ => exact hr0.elim
end
end Wm

/-! ### sorted(set), the calls -/
namespace Wm
open PySem PySem.Spec PyProof.Rows L2
section
end
/-- such a set in the abstract heap -/
def SetM (P : Program) (w : World) (a : Addr) (T : Key → Bool) (n : Nat) : HO := .ext fun h => SetW P w h a T n
section
variable {X : Cx}
theorem setM_new {w : World} {P : Program} {H : Hp} {h : Heap} {a : Addr} {T : Key → Bool} {n : Nat} (R : SetW P w h a T n) : ObjOk P w H h a (SetM P w a T n) := by
  have ⟨o, _, _, _, ho, _⟩ := R
  exact ⟨R, ⟨o, ho⟩, fun h1 h2 p k => SetW.at p k⟩
theorem setM_get {pins : List (Addr × Obj)} {σ : L2.St} {H : Hp} {s : Shared} {a : Addr} {T : Key → Bool} {n : Nat} (I : Inv X pins σ H s) (ha : H a = some (SetM X.prog X.w a T n)) : SetW X.prog X.w s.heap a T n := (I.hok a _ ha).1
def rSetW (X : Cx) : List V → Hp → VK → Prop := fun xs H Q => ∃ (p : Addr) (ks : List Key), xs = [.ref p] ∧ (SqL X.K H p (ks.map kV) ∨ SqT X.K H p (ks.map kV)) ∧ ks.length < 2000 ∧ ∀ q, H q = none → Q (.ref q) (upd H q (SetM X.prog X.w q (inL ks) (Iv.manyK ks)))
theorem cr_setW (hc : X.calm = true) : CallR X (.type "set") (rSetW X) := by
  intro pins s σ H xs us Q I r ⟨p, ks, e, hs, hl, q⟩
  subst e
  rw [Vals.ref1 r]
  have room : ks.length + 1 < scanBound := by
    have : 4000 ≤ scanBound := by decide
    omega
  have fin : ∀ (h' : Heap) (tk : Nat), SetW X.prog X.w h' s.heap.objs.size (inL ks) (Iv.manyK ks) → (∀ b o, s.heap.get? b = some o → h'.get? b = some o) → EP X pins σ Q (.ref s.heap.objs.size) { s with heap := h', toks := tk } := fun h' tk z1 z2 =>
    ⟨.ref _, _, I.laid (t' := tk) z2 (Nat.le_refl _) (setM_new z1), rfl, q _ (I.hok.fresh (Nat.le_refl _))⟩
  rcases hs with hs | hs
  · obtain ⟨its, rv, pl, hz⟩ := I.list hs
    exact made_list ks (I.ok.hd hc) pl.isList (by simpa using KeysAre.of X.prog X.w rv) room fin
  · obtain ⟨its, rv, pl, hz⟩ := I.tuple hs
    exact made_tup ks (I.ok.hd hc) pl (by simpa using KeysAre.of X.prog X.w rv) room fin
theorem cr_lenM : CallR X (.builtin "len") (fun xs H Q => ∃ (a : Addr) (T : Key → Bool) (n : Nat), xs = [.ref a] ∧ H a = some (SetM X.prog X.w a T n) ∧ n < 2000 ∧ Q (.int n) H) := by
  intro pins s σ H xs us Q I r h
  obtain ⟨a, T, n, rfl, ha, hn, q⟩ := h
  rw [Vals.ref1 r]
  obtain ⟨o, es, ep, tt, ho, hx, hd, L⟩ := setM_get I ha
  refine call_len_set ho hx hd L.fits (by rw [L.many]; omega) ?_
  rw [L.many]
  exact ⟨.int n, H, I.tok _, ⟨_, rfl⟩, q⟩
end
end Wm


/-! ### len(set(x)), sorted(set(x)), in the evaluator -/
namespace Iv
open PySem PySem.Spec PyProof.Rows L2
section
variable {g : Gs} {W : L2.WX} {X : Cx} {F : CE} {m m1 : Mp} {n : Nat} {H H1 : Hp} {S S1 : Sto} {σ : L2.St} {ρ : Env} {pos p p2 q : Pos} {e : Expr} {ie : E}
theorem keys_vals : ∀ {ys : List Iv.D} {ks : List Key} {vs : List V}, keysD ys = some ks → Rels g m n H ys vs → vs = ks.map kV ∧ ks.length = ys.length
  | [], ks, vs, h, r => by
    cases h
    unfold Rels at r
    exact ⟨r, rfl⟩
  | y :: ys, ks, vs, h, r => by
    unfold Rels at r
    obtain ⟨v, ws, rfl, r1, r2⟩ := r
    cases hk : keyD y with
    | none => rw [keysD, hk] at h; cases h
    | some k =>
      rw [keysD, hk] at h
      obtain ⟨ks', h1, rfl⟩ := Option.map_eq_some_iff.mp h
      obtain ⟨a, b⟩ := keys_vals h1 r2
      exact ⟨by rw [List.map_cons, a, (key_rel hk r1).1], by rw [List.length_cons, List.length_cons, b]⟩
theorem i_lenS (hgl : Gl X "len") (hm : X.mg "len" = none) (hgl2 : Gl X "set") (hm2 : X.mg "set" = none) (hc : X.calm = true) (oke : okE e = true) (he : PA X [e] (tEs g W (evs F [ie]))) (hK : X.K = g.K := by rfl) :
    PE X (.Call (.Name "len" p) [.Call (.Name "set" p2) [e] [] q] [] pos) (tE g W (ev F (.lenS ie))) := by
  refine PE.imp (pe_callB Wm.cr_lenM hgl hm (by decide +kernel) (pa_cons (pe_callTy (Wm.cr_setW hc) hgl2 hm2 (by decide +kernel) he (by decide) (by decide) (starEach_ok oke)) pa_nil (by rfl)) (by decide) (by decide) (by rfl) (by rfl)) fun σ H Q ⟨m, ρ, S, rs, er, w⟩ => ?_
  rw [ev] at w
  refine ⟨m, ρ, S, rs, er, ?_⟩
  rw [evs1]
  cases hh : ev F ie ρ S with
  | ok d S1 =>
    rw [hh] at w
    simp only [R.bind_ok] at w ⊢
    intro m1 H1 vs x rs1 r1
    obtain ⟨v, rfl, rv⟩ := Rels.one r1
    have w := w.from x
    unfold lenSR at w
    split at w
    · rename_i ys hy
      obtain ⟨a, vs, rfl, rvs, hq⟩ := seqOf_sq rs1 rv hy
      unfold lenSCR at w
      split at w
      · rename_i ks hk
        obtain ⟨c, w⟩ := w.ck
        obtain ⟨rfl, hl⟩ := keys_vals hk rvs
        have h1 := Wm.many_le ks
        exact ⟨a, ks, rfl, by rw [hK]; exact hq, by omega, fun b hb => ⟨b, _, _, rfl, upd_same, by omega, w m1 _ _ (Ext.laid rs1 hb) (rs1.laid hb) (by rw [rel_int])⟩⟩
      · exact w.err
    · exact w.err
  | exc x S1 => rw [hh] at w; exact w
  | err => rw [hh] at w; exact w
end
end Iv

/-! ### plain laws: tools -/
namespace Iv
open PySem
-- setAt_len stands in N8
theorem cellAt_set1 {S : Sto} {n : Nat} {c : Cell} (h : n < S.length) : cellAt (setAt S n c) n = some c := by
  unfold cellAt setAt
  rw [List.getElem?_set_self h]
  rfl
theorem cellAt_set_ne1 {S : Sto} {n i : Nat} {c : Cell} (h : i ≠ n) : cellAt (setAt S n c) i = cellAt S i := by
  unfold cellAt setAt
  rw [List.getElem?_set_ne (Ne.symm h)]
theorem callN_at {T : List Fn} {k f : Nat} {d : Fn} {ds : List D} {S : Sto} (h : T[f]? = some d) (hl : ds.length = d.np) : callN T (k + 1) f ds S = run (callN T k) d.n d.body ds S := by
  unfold callN
  rw [h]
  exact ck_of hl
/-- all boxes but bs stay -/
structure Keep (bs : List Nat) (S S' : Sto) : Prop where
  le : S.length ≤ S'.length
  eq : ∀ i, i < S.length → i ∉ bs → cellAt S' i = cellAt S i
theorem Keep.refl {bs : List Nat} {S : Sto} : Keep bs S S := ⟨Nat.le_refl _, fun _ _ _ => rfl⟩
theorem Keep.trans {bs : List Nat} {S S1 S2 : Sto} (h : Keep bs S S1) (k : Keep bs S1 S2) : Keep bs S S2 := ⟨Nat.le_trans h.le k.le, fun i l n => (k.eq i (Nat.lt_of_lt_of_le l h.le) n).trans (h.eq i l n)⟩
theorem Keep.mono {bs cs : List Nat} {S S' : Sto} (h : Keep bs S S') (k : ∀ b ∈ bs, b ∈ cs) : Keep cs S S' := ⟨h.le, fun i l n => h.eq i l fun z => n (k i z)⟩
theorem Keep.set {b : Nat} {S : Sto} {c : Cell} : Keep [b] S (setAt S b c) := ⟨Nat.le_of_eq setAt_len.symm, fun i _ n => cellAt_set_ne1 fun z => n (by rw [z]; exact List.mem_singleton.mpr rfl)⟩
theorem Keep.push {bs : List Nat} {S : Sto} {c : Option Cell} : Keep bs S (S ++ [c]) := ⟨by rw [List.length_append]; exact Nat.le_add_right _ _, fun i l _ => cellAt_push_lt l⟩
theorem Keep.own {bs : List Nat} {S S' : Sto} {n : Nat} {c : Cell} (h : Keep bs S S') (l : S.length ≤ n) : Keep bs S (setAt S' n c) := ⟨by rw [setAt_len]; exact h.le, fun i il ni => (cellAt_set_ne1 (by omega)).trans (h.eq i il ni)⟩
theorem lcLoop_inv {step : D → Sto → R (List D)} {src : Src} {items : List D} {S : Sto} (Inv : Nat → List D → Sto → Prop) (h0 : Inv 0 [] S) (ht : ∀ i ys S, Inv i ys S → src.there S)
    (hs : ∀ i d ys S, items[i]? = some d → Inv i ys S → ∃ zs S', step d S = .ok zs S' ∧ Inv (i + 1) (ys ++ zs) S') :
    ∃ ys S', lcLoop src step items S = .ok ys S' ∧ Inv items.length ys S' := by
  have go : ∀ (n i : Nat) (acc : List D) (S : Sto), items.length - i = n → i ≤ items.length → Inv i acc S → ∃ ys S', lcLoop src step (items.drop i) S = .ok ys S' ∧ Inv items.length (acc ++ ys) S' := by
    intro n
    induction n with
    | zero =>
      intro i acc S hn hi hI
      have e : i = items.length := by omega
      subst e
      rw [List.drop_length, lcLoop, ck_of (ht _ _ _ hI)]
      exact ⟨[], S, rfl, by rw [List.append_nil]; exact hI⟩
    | succ n ih =>
      intro i acc S hn hi hI
      have hlt : i < items.length := by omega
      rw [List.drop_eq_getElem_cons hlt, lcLoop, ck_of (ht _ _ _ hI)]
      obtain ⟨zs, S', h, hI'⟩ := hs i _ acc S (List.getElem?_eq_getElem hlt) hI
      obtain ⟨ys, S2, h2, hI2⟩ := ih (i + 1) (acc ++ zs) S' (by omega) hlt hI'
      rw [h]
      dsimp only
      rw [h2]
      exact ⟨zs ++ ys, S2, rfl, by rw [← List.append_assoc]; exact hI2⟩
  obtain ⟨ys, S', h, hI⟩ := go _ 0 [] S rfl (Nat.zero_le _) h0
  exact ⟨ys, S', h, by rw [List.nil_append] at hI; exact hI⟩
end Iv
namespace Iv
open PySem
section
variable {F : CE} {st : St} {sts : List St} {ρ ρ' : Env} {S S' : Sto} {d : D} {r : R Fl}
theorem exs_next (h : ex F st ρ S = .ok (.next ρ') S') : exs F (st :: sts) ρ S = exs F sts ρ' S' := by
  rw [exs, h]
  rfl
theorem exs_ret (h : ex F st ρ S = .ok (.ret d) S') : exs F (st :: sts) ρ S = .ok (.ret d) S' := by
  rw [exs, h]
  rfl
theorem run_ret {n : Nat} {body : List St} {ds : List D} (h : exs F body (ds.map some ++ List.replicate (n - ds.length) none) S = .ok (.ret d) S') : Iv.run F n body ds S = .ok d S' := by
  unfold Iv.run
  rw [h]
end
end Iv
namespace Iv
open PySem
theorem lcLoop_enc {α : Type} {step : D → Sto → R (List D)} {enc : α → D} {f : α → List D} {S : Sto} : ∀ {items : List α}, (∀ a ∈ items, step (enc a) S = .ok (f a) S) → lcLoop .fix step (items.map enc) S = .ok (items.flatMap f) S
  | [], _ => by
    rw [List.map_nil, lcLoop]
    exact ck_of (show Src.fix.there S from trivial)
  | d :: ds, h => by
    rw [List.map_cons, lcLoop, ck_of (show Src.fix.there S from trivial), h d (List.mem_cons_self ..)]
    dsimp only
    rw [lcLoop_enc fun e he => h e (List.mem_cons_of_mem _ he)]
    rfl
theorem ev_lc {F : CE} {box : Bool} {own : List Nat} {tg : Tg} {it : It} {ifs : List E} {elt : E} {ρ : Env} {S S1 S2 : Sto} {src : Src} {items ys : List D} (hi : evIt F it ρ S = .ok (src, items) S1) (hl : lcLoop src (lcStep F own tg ifs elt ρ) items S1 = .ok ys S2) (c : ys.length ≤ sizeLine) :
    ev F (.lc box own tg it ifs elt) ρ S = mkL box ys S2 := by
  rw [ev, hi]
  simp only [R.bind_ok]
  have hl' : lcLoop src (fun d S => (asg F tg d (wipeE ρ own) S).bind fun ρ1 S => (evIfs F ifs ρ1 S).bind fun k S => if k = true then (ev F elt ρ1 S).bind fun y S => .ok [y] S else .ok [] S) items S1 = .ok ys S2 := hl
  rw [hl']
  exact ck_of c
theorem ev_bi1 {F : CE} {b : Bi} {e : E} {ρ : Env} {S S1 : Sto} {x : D} (h : ev F e ρ S = .ok x S1) : ev F (.bi b [e]) ρ S = biR b [x] S1 := by
  rw [ev, evs1, h]
  rfl
theorem ev_bi2 {F : CE} {b : Bi} {e e' : E} {ρ : Env} {S S1 S2 : Sto} {x y : D} (h : ev F e ρ S = .ok x S1) (h' : ev F e' ρ S1 = .ok y S2) : ev F (.bi b [e, e']) ρ S = biR b [x, y] S2 := by
  rw [ev, evs2, h]
  simp only [R.bind_ok]
  rw [h']
  rfl
theorem ex_ret {F : CE} {e : E} {ρ : Env} {S S1 : Sto} {x : D} (h : ev F e ρ S = .ok x S1) : ex F (.ret e) ρ S = .ok (.ret x) S1 := by
  rw [ex, h]
  rfl
theorem ev_var {F : CE} {i : Nat} {ρ : Env} {S : Sto} {d : D} (h : ρ[i]? = some (some d)) : ev F (.var i) ρ S = .ok d S := by
  rw [ev, h]
theorem ev_call1 {F : CE} {f : Nat} {arr : List Ar} {es : List E} {ρ : Env} {S S1 : Sto} {ds ps : List D} (h : evs F es ρ S = .ok ds S1) (hp : pick ds arr = some ps) : ev F (.call f arr es) ρ S = F f ps S1 := by
  rw [ev, h]
  simp only [R.bind_ok]
  unfold callR
  rw [hp]
theorem flat_one {α β : Type} (f : α → β) : ∀ l : List α, (l.flatMap fun x => [f x]) = l.map f
  | [] => rfl
  | a :: l => by
    rw [List.flatMap_cons, flat_one f l]
    rfl
theorem blsD_map {α : Type} (f : α → Bool) : ∀ l : List α, blsD (l.map fun x => D.bl (f x)) = some (l.map f)
  | [] => rfl
  | i :: l => by
    rw [List.map_cons, blsD, blsD_map f l]
    rfl
theorem eqv_int {a b : Int} : D.eqv (.int a) (.int b) = (a == b) := by simp [D.eqv]
mutual
theorem eqv_self : ∀ d : D, d.fz = true → d.eqv d = true
  | .non, _ => by simp [D.eqv]
  | .bl _, _ => by simp [D.eqv]
  | .int _, _ => by simp [D.eqv]
  | .str _, _ => by simp [D.eqv]
  | .tup xs, h => by simp only [D.eqv]; exact eqvs_self xs (by simpa [D.fz] using h)
  | .lst xs, h => by simp only [D.eqv]; exact eqvs_self xs (by simpa [D.fz] using h)
  | .scr xs, h => by simp only [D.eqv]; exact eqvs_self xs (by simpa [D.fz] using h)
  | .ref _, h => by simp [D.fz] at h
  | .ins _ _, h => by simp [D.fz] at h
  | .ty _, h => by simp [D.fz] at h
theorem eqvs_self : ∀ ds : List D, D.fzs ds = true → D.eqvs ds ds = true
  | [], _ => by simp [D.eqvs]
  | d :: ds, h => by
    simp only [D.fzs, Bool.and_eq_true] at h
    simp only [D.eqvs, Bool.and_eq_true]
    exact ⟨eqv_self d h.1, eqvs_self ds h.2⟩
end
end Iv
namespace Iv
open PySem
theorem lcLoop_map {α : Type} {step : D → Sto → R (List D)} {enc : α → D} {f : α → D} {S : Sto} {items : List α} (h : ∀ a ∈ items, step (enc a) S = .ok [f a] S) : lcLoop .fix step (items.map enc) S = .ok (items.map f) S :=
  (lcLoop_enc (f := fun a => [f a]) h).trans (by rw [flat_one])
theorem bi_all {α : Type} {l : List α} {f : α → Bool} {S : Sto} : biR .all [.lst (l.map fun x => .bl (f x))] S = .ok (.bl (l.all f)) S := by
  show (match (some (l.map fun x => D.bl (f x))).bind blsD with | some bs => R.ok (D.bl (bs.all id)) S | none => .err) = _
  rw [Option.bind_some, blsD_map]
  show R.ok (D.bl ((l.map f).all id)) S = _
  rw [List.all_map]
  rfl
end Iv
namespace Iv
open PySem
noncomputable abbrev forStep (F : CE) (t : Tg) (body : List St) : D → Env → Sto → R Fl := fun d ρ S => (asg F t d ρ S).st fun ρ S => exs F body ρ S
theorem exs_end {F : CE} {ρ : Env} {S : Sto} : exs F [] ρ S = .ok (.next ρ) S := by rw [exs]
theorem get_map {α β : Type} {f : α → β} {l : List α} {i : Nat} {b : β} (h : (l.map f)[i]? = some b) : ∃ a, l[i]? = some a ∧ b = f a := by
  rw [List.getElem?_map] at h
  obtain ⟨a, ha, e⟩ := Option.map_eq_some_iff.mp h
  exact ⟨a, ha, e.symm⟩
theorem rng_get {lo : Int} {n i : Nat} {d : D} (h : (rngD lo n)[i]? = some d) : d = .int (lo + i) ∧ i < n := by
  unfold rngD at h
  obtain ⟨j, hj, rfl⟩ := get_map h
  obtain ⟨hl, e⟩ := List.getElem?_eq_some_iff.mp hj
  rw [List.getElem_range] at e
  rw [List.length_range] at hl
  subst e
  exact ⟨rfl, hl⟩
theorem rng_len {lo : Int} {n : Nat} : (rngD lo n).length = n := by
  unfold rngD
  rw [List.length_map, List.length_range]
end Iv
namespace Iv
open PySem
section
variable {F : CE} {a b : E} {ρ ρ' : Env} {S S1 S2 S3 : Sto} {x y z : D}
theorem ev_cmp {op : Cop} (h : ev F a ρ S = .ok x S1) (h' : ev F b ρ S1 = .ok y S2) : ev F (.cmp op a b) ρ S = cmpR op x y S2 := by
  rw [ev, h]
  simp only [R.bind_ok]
  rw [h']
  rfl
theorem ex_ite {c : E} {p q : List St} {k : Bool} {r : R Fl} (h : ev F c ρ S = .ok (.bl k) S1) (hr : (if k = true then exs F p ρ S1 else exs F q ρ S1) = r) : ex F (.ite c p q) ρ S = r := by
  rw [ex, h, R.bind_ok]
  exact hr
theorem exs_one {st : St} {f : Fl} (h : ex F st ρ S = .ok f S1) : exs F [st] ρ S = .ok f S1 := by
  rw [exs, h]
  cases f <;> simp [exs]
end
end Iv
namespace Iv
theorem Keep.fresh {bs cs : List Nat} {S S' : Sto} (h : Keep cs S S') (k : ∀ b ∈ cs, b ∈ bs ∨ S.length ≤ b) : Keep bs S S' :=
  ⟨h.le, fun i l n => h.eq i l fun z => (k i z).elim n fun q => by omega⟩
end Iv
namespace Iv
open PySem
theorem evs_nil {F : CE} {ρ : Env} {S : Sto} : evs F [] ρ S = .ok [] S := by rw [evs]
theorem evs_cons {F : CE} {e : E} {es : List E} {ρ : Env} {S S1 S2 : Sto} {d : D} {ds : List D} (h : ev F e ρ S = .ok d S1) (h' : evs F es ρ S1 = .ok ds S2) : evs F (e :: es) ρ S = .ok (d :: ds) S2 := by
  rw [evs, h, R.bind_ok, h']
  rfl
theorem evIt_e {F : CE} {e : E} {ρ : Env} {S S1 : Sto} {x : D} {w : Src × List D} (h : ev F e ρ S = .ok x S1) (hw : walkOf S1 x = some w) : evIt F (.e e) ρ S = .ok w S1 := by
  rw [evIt, h, R.bind_ok, hw]
end Iv
namespace Iv
open PySem
theorem fzs_map {α : Type} {f : α → D} : ∀ {l : List α}, (∀ a ∈ l, (f a).fz = true) → D.fzs (l.map f) = true
  | [], _ => by simp [D.fzs]
  | a :: l, h => by
    rw [List.map_cons]
    simp only [D.fzs, Bool.and_eq_true]
    exact ⟨h a (List.mem_cons_self ..), fzs_map fun b hb => h b (List.mem_cons_of_mem _ hb)⟩
end Iv

/-! ### plain laws: more tools (deep ==, walks of boxes, classes) -/
namespace Iv
open PySem
theorem fzs_get {xs : List D} (h : D.fzs xs = true) : ∀ d ∈ xs, d.fz = true := by
  induction xs with
  | nil => intro d hd; cases hd
  | cons x xs ih =>
    simp only [D.fzs, Bool.and_eq_true] at h
    intro d hd
    rcases List.mem_cons.mp hd with rfl | hd
    · exact h.1
    · exact ih h.2 d hd
theorem fzs_of {xs : List D} (h : ∀ d ∈ xs, d.fz = true) : D.fzs xs = true := by
  have := fzs_map (f := id) h
  rwa [List.map_id] at this
theorem deep_fz {S : Sto} : ∀ (k : Nat) {d : D}, d.fz = true → deep k S d = d
  | 0, _, _ => rfl
  | k + 1, d, h => by
    have go : ∀ xs : List D, D.fzs xs = true → xs.map (deep k S) = xs := fun xs hx => by
      conv => rhs; rw [← List.map_id xs]
      exact List.map_congr_left fun x hm => deep_fz k (fzs_get hx x hm)
    cases d with
    | tup xs => rw [deep, go xs (by simpa [D.fz] using h)]
    | lst xs => rw [deep, go xs (by simpa [D.fz] using h)]
    | ref n => cases h
    | _ => rfl
mutual
/-- no list or tuple is longer -/
def D.wd (n : Nat) : D → Bool
  | .tup xs => decide (xs.length ≤ n) && D.wds n xs
  | .lst xs => decide (xs.length ≤ n) && D.wds n xs
  | .scr xs => decide (xs.length ≤ n) && D.wds n xs
  | _ => true
def D.wds (n : Nat) : List D → Bool
  | [] => true
  | x :: xs => x.wd n && D.wds n xs
end
theorem wds_get {n : Nat} {xs : List D} (h : D.wds n xs = true) : ∀ d ∈ xs, d.wd n = true := by
  induction xs with
  | nil => intro d hd; cases hd
  | cons x xs ih =>
    simp only [D.wds, Bool.and_eq_true] at h
    intro d hd
    rcases List.mem_cons.mp hd with rfl | hd
    · exact h.1
    · exact ih h.2 d hd
theorem wds_of {n : Nat} {xs : List D} (h : ∀ d ∈ xs, d.wd n = true) : D.wds n xs = true := by
  induction xs with
  | nil => simp [D.wds]
  | cons x xs ih =>
    simp only [D.wds, Bool.and_eq_true]
    exact ⟨h x (List.mem_cons_self ..), ih fun d hd => h d (List.mem_cons_of_mem _ hd)⟩
/-- x, read through its boxes, is the frozen d -/
structure Is (S : Sto) (x d : D) : Prop where
  eq : deep 8 S x = d
  fz : d.fz = true
theorem Is.of {S : Sto} {d : D} (h : d.fz = true) : Is S d d := ⟨deep_fz 8 h, h⟩
theorem Is.ref {S : Sto} {n : Nat} {xs ds : List D} (hc : cellAt S n = some (.lst xs)) (hl : xs.length = ds.length) (h : ∀ (i : Nat) (x d : D), xs[i]? = some x → ds[i]? = some d → deep 7 S x = d ∧ d.fz = true) : Is S (.ref n) (.lst ds) := by
  have e : xs.map (deep 7 S) = ds := by
    refine List.ext_getElem? fun i => ?_
    rw [List.getElem?_map]
    by_cases hi : i < xs.length
    · rw [List.getElem?_eq_getElem hi, List.getElem?_eq_getElem (hl ▸ hi)]
      exact congrArg some (h i _ _ (List.getElem?_eq_getElem hi) (List.getElem?_eq_getElem (hl ▸ hi))).1
    · rw [List.getElem?_eq_none (by omega), List.getElem?_eq_none (by omega)]
      rfl
  refine ⟨?_, ?_⟩
  · show (match cellAt S n with | some (.lst xs) => D.lst (xs.map (deep 7 S)) | _ => .ref n) = _
    rw [hc]
    dsimp only
    rw [e]
  · rw [D.fz]
    refine fzs_of fun d hd => ?_
    obtain ⟨i, hi, rfl⟩ := List.mem_iff_getElem.mp hd
    exact (h i _ _ (List.getElem?_eq_getElem (hl ▸ hi)) (List.getElem?_eq_getElem hi)).2
section
variable {F : CE} {a b c : E} {ρ : Env} {S S1 S2 S3 : Sto} {x y z d : D}
theorem attr_ref {n f cl : Nat} {fs : List (Nat × D)} (hc : cellAt S n = some (.ins cl fs)) (h : fs.lookup f = some d) : attrR (.ref n) f S = .ok d S := by
  unfold attrR
  dsimp only
  rw [hc]
  dsimp only
  rw [h]
end
end Iv
namespace Iv
open PySem
section
variable {F : CE} {ρ ρ' : Env} {S S1 S2 : Sto} {d : D} {e c : E} {t : Tg} {body : List St}
end
end Iv
namespace Iv
open PySem
section
variable {F : CE} {ρ ρ' : Env} {S S1 S2 : Sto} {d : D} {o : E} {es : List E}
theorem seqOf_box {S : Sto} {p : Nat} {xs : List D} (h : cellAt S p = some (.lst xs)) : seqOf S (.ref p) = some xs := by rw [seqOf_ref, h]
end
end Iv
namespace Iv
open PySem
theorem cls_ref {S : Sto} {n cl : Nat} {fs : List (Nat × D)} (h : cellAt S n = some (.ins cl fs)) : clsOf S (.ref n) = some cl := by
  show (match cellAt S n with | some (.ins c _) => some c | _ => none) = _
  rw [h]
theorem walk_box {S : Sto} {n : Nat} {xs : List D} (h : cellAt S n = some (.lst xs)) : walkOf S (.ref n) = some (.box n xs, xs) := by
  show (match cellAt S n with | some (.lst xs) => some (Src.box n xs, xs) | _ => none) = _
  rw [h]
end Iv
namespace Iv
open PySem
theorem lcLoop_encS {α : Type} {step : D → Sto → R (List D)} {enc : α → D} {f : α → List D} {S : Sto} {src : Src} (ht : src.there S) : ∀ {items : List α}, (∀ a ∈ items, step (enc a) S = .ok (f a) S) → lcLoop src step (items.map enc) S = .ok (items.flatMap f) S
  | [], _ => by
    rw [List.map_nil, lcLoop]
    exact ck_of ht
  | d :: ds, h => by
    rw [List.map_cons, lcLoop, ck_of ht, h d (List.mem_cons_self ..)]
    dsimp only
    rw [lcLoop_encS ht fun e he => h e (List.mem_cons_of_mem _ he)]
    rfl
section
variable {F : CE} {ρ ρ' : Env} {S S1 S2 S3 : Sto} {d x : D} {a b o : E} {body : List St} {t : Tg}
theorem walkL_box {S : Sto} {n : Nat} {xs : List D} (h : cellAt S n = some (.lst xs)) : walkL S (.ref n) = some (.box n xs, xs) := walk_box h
end
end Iv

/-! ### running programs over data: what must hold ahead -/
namespace Iv
open PySem
@[irreducible] def Ru {α : Type} (r : R α) (Q : α → Sto → Prop) (E : Exc → Sto → Prop) : Prop := match r with
  | .ok a S => Q a S
  | .exc x S => E x S
  | .err => False
abbrev noE : Exc → Sto → Prop := fun _ _ => False
/-- a step of the run backwards, found by its form -/
class Stp1 (p : Prop) (q : outParam Prop) : Prop where
  h : q → p
theorem stp1 {p q : Prop} [s : Stp1 p q] (h : q) : p := s.h h
class Res {α : Type} (r : R α) (r' : outParam (R α)) : Prop where
  h : r = r'
instance (priority := low) {α : Type} {r r' : R α} {Q : α → Sto → Prop} {E : Exc → Sto → Prop} [h : Res r r'] : Stp1 (Ru r Q E) (Ru r' Q E) := ⟨fun q => h.h ▸ q⟩
section
variable {α β : Type} {r r' : R α} {f : α → Sto → R β} {Q : β → Sto → Prop} {Qa : α → Sto → Prop} {E : Exc → Sto → Prop} {a : α} {x : Exc} {S S' : Sto}
theorem ru_ok : Ru (.ok a S) Qa E = Qa a S := by unfold Ru; rfl
instance  : Stp1 (Ru (.ok a S) Qa E) (Qa a S) := ⟨ru_ok.mpr⟩
theorem ru_exc : Ru (.exc x S : R α) Qa E = E x S := by unfold Ru; rfl
theorem ru_err : Ru (.err : R α) Qa E = False := by unfold Ru; rfl
theorem ru_bind : Ru (r.bind f) Q E = Ru r (fun a S => Ru (f a S) Q E) E := by cases r <;> simp only [ru_ok, ru_exc, ru_err, R.bind_ok, R.bind_err, R.bind_exc, R.go_ok, R.go_err, R.go_exc]
theorem ru_ck {c : Prop} [Decidable c] : Ru (ck c r) Qa E = (c ∧ Ru r Qa E) := by
  unfold ck
  split
  · rename_i h
    exact propext ⟨fun q => ⟨h, q⟩, fun q => q.2⟩
  · rename_i h
    rw [ru_err]; exact propext ⟨fun q => q.elim, fun q => absurd q.1 h⟩
theorem ru_ite {c : Prop} [Decidable c] : Ru (if c then r else r') Qa E = if c then Ru r Qa E else Ru r' Qa E := by split <;> rfl
theorem ru_go {f : α → Sto → R Fl} {Q : Fl → Sto → Prop} {ρ : Env} : Ru (r.go ρ f) Q E = Ru r (fun a S => Ru (f a S) Q E) (fun x S => Q (.raised x ρ) S) := by cases r <;> simp only [ru_ok, ru_exc, ru_err, R.bind_ok, R.bind_err, R.bind_exc, R.go_ok, R.go_err, R.go_exc]
theorem ru_st : Ru (r.st f) Q E = Ru r (fun a S => Ru (f a S) Q E) noE := by
  cases r with
  | ok a S => rw [R.st_ok, ru_ok]
  | exc x S => rw [ru_exc, show (R.exc x S).st f = .err from rfl, ru_err]
  | err => rw [R.st_err, ru_err, ru_err]
def flQ (f : Env → Sto → R Fl) (Q : Fl → Sto → Prop) (E : Exc → Sto → Prop) (w : Fl) (S : Sto) : Prop := match w with
  | .next ρ => Ru (f ρ S) Q E
  | w => Q w S
theorem ru_fl {r : R Fl} {f : Env → Sto → R Fl} {Q : Fl → Sto → Prop} : Ru (r.fl f) Q E = Ru r (flQ f Q E) noE := by
  cases r with
  | ok w S =>
    rw [ru_ok]
    cases w <;> simp only [R.fl_next, R.fl_ret, R.fl_brk, R.fl_cont, R.fl_raised, ru_ok, flQ]
  | exc x S => rw [ru_exc, show (R.exc x S).fl f = .err from rfl, ru_err]
  | err => rw [R.fl_err, ru_err, ru_err]
def turnQ (K : Env → Sto → Prop) (Q : Fl → Sto → Prop) (w : Fl) (S : Sto) : Prop := match w with
  | .next ρ => K ρ S
  | .cont ρ => K ρ S
  | .brk ρ => Q (.next ρ) S
  | w => Q w S
theorem ru_turn {r : R Fl} {f : Env → Sto → R Fl} {Q : Fl → Sto → Prop} : Ru (r.turn f) Q E = Ru r (turnQ (fun ρ S => Ru (f ρ S) Q E) Q) noE := by
  cases r with
  | ok w S =>
    rw [ru_ok]
    cases w <;> simp only [R.turn_next, R.turn_ret, R.turn_brk, R.turn_cont, R.turn_raised, ru_ok, turnQ]
  | exc x S => rw [ru_exc, show (R.exc x S).turn f = .err from rfl, ru_err]
  | err => rw [show (R.err : R Fl).turn f = .err from rfl, ru_err, ru_err]
theorem Ru.imp {Q Q' : α → Sto → Prop} {E E' : Exc → Sto → Prop} (h : Ru r Q E) (k : ∀ a S, Q a S → Q' a S) (e : ∀ x S, E x S → E' x S) : Ru r Q' E' := by
  cases r with
  | ok a S => rw [ru_ok] at h ⊢; exact k _ _ h
  | exc x S => rw [ru_exc] at h ⊢; exact e _ _ h
  | err => rw [ru_err] at h; exact h.elim
/-- by what a call is known to do -/
theorem Ru.use {Q Q' : α → Sto → Prop} {E : Exc → Sto → Prop} (h : Ru r Q noE) (k : ∀ a S, Q a S → Q' a S) : Ru r Q' E := h.imp k fun _ _ h => h.elim
theorem Ru.ex (h : Ru r Qa noE) : ∃ a S', r = .ok a S' ∧ Qa a S' := by
  cases r with
  | ok a S => rw [ru_ok] at h; exact ⟨a, S, rfl, h⟩
  | exc x S => rw [ru_exc] at h; exact h.elim
  | err => rw [ru_err] at h; exact h.elim
theorem Ru.eq (h : r = .ok a S) (q : Qa a S) : Ru r Qa E := by rw [h, ru_ok]; exact q
theorem Ru.is {d : α} (h : Ru r (fun a S' => a = d ∧ S' = S) noE) : r = .ok d S := by
  obtain ⟨a, S', e, rfl, rfl⟩ := h.ex
  exact e
end
section
variable {F : CE} {Q : D → Sto → Prop} {Qs : List D → Sto → Prop} {Qf : Fl → Sto → Prop} {Qe : Env → Sto → Prop} {Qb : Bool → Sto → Prop} {Qi : Src × List D → Sto → Prop} {Qo : Option Int → Sto → Prop} {E : Exc → Sto → Prop} {ρ : Env} {S : Sto} {a b c e i : Iv.E} {d x : D} {es ifs : List Iv.E} {box : Bool} {own own1 : List Nat} {t t1 : Tg} {ts : List Tg} {it it1 : It} {st : St} {sts body els : List St}
theorem ru_var {j : Nat} (h : ρ[j]? = some (some d)) : Ru (ev F (.var j) ρ S) Q E = Q d S := by rw [ev, h, ru_ok]
theorem ru_con : Ru (ev F (.con d) ρ S) Q E = Q d S := by rw [ev, ru_ok]
instance  : Stp1 (Ru (ev F (.con d) ρ S) Q E) (Q d S) := ⟨ru_con.mpr⟩
theorem ru_bin {op : Bop} : Ru (ev F (.bin box op a b) ρ S) Q E = Ru (ev F a ρ S) (fun x S => Ru (ev F b ρ S) (fun y S => Ru (binR box op x y S) Q E) E) E := by rw [ev]; simp only [ru_bind]
instance {op : Bop} : Stp1 (Ru (ev F (.bin box op a b) ρ S) Q E) (Ru (ev F a ρ S) (fun x S => Ru (ev F b ρ S) (fun y S => Ru (binR box op x y S) Q E) E) E) := ⟨ru_bin.mpr⟩
def negR (x : D) (S : Sto) : R D := match x with
  | .int i => .ok (.int (-i)) S
  | _ => .err
theorem ru_neg : Ru (ev F (.neg a) ρ S) Q E = Ru (ev F a ρ S) (fun x S => Ru (negR x S) Q E) E := by rw [ev, ru_bind]; rfl
instance  : Stp1 (Ru (ev F (.neg a) ρ S) Q E) (Ru (ev F a ρ S) (fun x S => Ru (negR x S) Q E) E) := ⟨ru_neg.mpr⟩
theorem ru_not : Ru (ev F (.not a) ρ S) Q E = Ru (ev F a ρ S) (fun x S => Ru (tru x S) (fun k S => Q (.bl (!k)) S) E) E := by rw [ev]; simp only [ru_bind, ru_ok]
instance  : Stp1 (Ru (ev F (.not a) ρ S) Q E) (Ru (ev F a ρ S) (fun x S => Ru (tru x S) (fun k S => Q (.bl (!k)) S) E) E) := ⟨ru_not.mpr⟩
theorem ru_cmp {op : Cop} : Ru (ev F (.cmp op a b) ρ S) Q E = Ru (ev F a ρ S) (fun x S => Ru (ev F b ρ S) (fun y S => Ru (cmpR op x y S) Q E) E) E := by rw [ev]; simp only [ru_bind]
instance {op : Cop} : Stp1 (Ru (ev F (.cmp op a b) ρ S) Q E) (Ru (ev F a ρ S) (fun x S => Ru (ev F b ρ S) (fun y S => Ru (cmpR op x y S) Q E) E) E) := ⟨ru_cmp.mpr⟩
theorem ru_chain {op op' : Cop} : Ru (ev F (.chain op op' a b c) ρ S) Q E = Ru (ev F a ρ S) (fun x S => Ru (ev F b ρ S) (fun y S => Ru (cmpR op x y S) (fun z S => Ru (tru z S) (fun k S => if k = true then Ru (ev F c ρ S) (fun w S => Ru (cmpR op' y w S) Q E) E else Q (.bl false) S) E) E) E) E := by
  rw [ev]; simp only [ru_bind, ru_ite, ru_ok]
instance {op op' : Cop} : Stp1 (Ru (ev F (.chain op op' a b c) ρ S) Q E) (Ru (ev F a ρ S) (fun x S => Ru (ev F b ρ S) (fun y S => Ru (cmpR op x y S) (fun z S => Ru (tru z S) (fun k S => if k = true then Ru (ev F c ρ S) (fun w S => Ru (cmpR op' y w S) Q E) E else Q (.bl false) S) E) E) E) E) := ⟨ru_chain.mpr⟩
theorem ru_and : Ru (ev F (.and a b) ρ S) Q E = Ru (ev F a ρ S) (fun x S => Ru (tru x S) (fun k S => if k = true then Ru (ev F b ρ S) Q E else Q x S) E) E := by rw [ev]; simp only [ru_bind, ru_ite, ru_ok]
instance  : Stp1 (Ru (ev F (.and a b) ρ S) Q E) (Ru (ev F a ρ S) (fun x S => Ru (tru x S) (fun k S => if k = true then Ru (ev F b ρ S) Q E else Q x S) E) E) := ⟨ru_and.mpr⟩
theorem ru_or : Ru (ev F (.or a b) ρ S) Q E = Ru (ev F a ρ S) (fun x S => Ru (tru x S) (fun k S => if k = true then Q x S else Ru (ev F b ρ S) Q E) E) E := by rw [ev]; simp only [ru_bind, ru_ite, ru_ok]
instance  : Stp1 (Ru (ev F (.or a b) ρ S) Q E) (Ru (ev F a ρ S) (fun x S => Ru (tru x S) (fun k S => if k = true then Q x S else Ru (ev F b ρ S) Q E) E) E) := ⟨ru_or.mpr⟩
theorem ru_ife : Ru (ev F (.ife c a b) ρ S) Q E = Ru (ev F c ρ S) (fun x S => Ru (tru x S) (fun k S => if k = true then Ru (ev F a ρ S) Q E else Ru (ev F b ρ S) Q E) E) E := by rw [ev]; simp only [ru_bind, ru_ite]
instance  : Stp1 (Ru (ev F (.ife c a b) ρ S) Q E) (Ru (ev F c ρ S) (fun x S => Ru (tru x S) (fun k S => if k = true then Ru (ev F a ρ S) Q E else Ru (ev F b ρ S) Q E) E) E) := ⟨ru_ife.mpr⟩
theorem ru_tup : Ru (ev F (.tup es) ρ S) Q E = Ru (evs F es ρ S) (fun xs S => xs.length ≤ sizeLine ∧ Q (.tup xs) S) E := by rw [ev]; simp only [ru_bind, ru_ck, ru_ok]
instance  : Stp1 (Ru (ev F (.tup es) ρ S) Q E) (Ru (evs F es ρ S) (fun xs S => xs.length ≤ sizeLine ∧ Q (.tup xs) S) E) := ⟨ru_tup.mpr⟩
theorem ru_lst : Ru (ev F (.lst box es) ρ S) Q E = Ru (evs F es ρ S) (fun xs S => xs.length ≤ sizeLine ∧ Ru (mkL box xs S) Q E) E := by rw [ev]; simp only [ru_bind, ru_ck]
instance  : Stp1 (Ru (ev F (.lst box es) ρ S) Q E) (Ru (evs F es ρ S) (fun xs S => xs.length ≤ sizeLine ∧ Ru (mkL box xs S) Q E) E) := ⟨ru_lst.mpr⟩
theorem ru_idx : Ru (ev F (.idx a i) ρ S) Q E = Ru (ev F a ρ S) (fun x S => Ru (ev F i ρ S) (fun y S => Ru (idxR x y S) Q E) E) E := by rw [ev]; simp only [ru_bind]
instance  : Stp1 (Ru (ev F (.idx a i) ρ S) Q E) (Ru (ev F a ρ S) (fun x S => Ru (ev F i ρ S) (fun y S => Ru (idxR x y S) Q E) E) E) := ⟨ru_idx.mpr⟩
theorem ru_slc {lo hi : Option Iv.E} : Ru (ev F (.slc box a lo hi) ρ S) Q E = Ru (ev F a ρ S) (fun x S => Ru (evp F lo ρ S) (fun l S => Ru (evp F hi ρ S) (fun h S => Ru (slcR box x l h S) Q E) E) E) E := by rw [ev]; simp only [ru_bind]
instance {lo hi : Option Iv.E} : Stp1 (Ru (ev F (.slc box a lo hi) ρ S) Q E) (Ru (ev F a ρ S) (fun x S => Ru (evp F lo ρ S) (fun l S => Ru (evp F hi ρ S) (fun h S => Ru (slcR box x l h S) Q E) E) E) E) := ⟨ru_slc.mpr⟩
def revR (box : Bool) (x : D) (S : Sto) : R D := match x with
  | .tup xs => .ok (.tup xs.reverse) S
  | _ => match seqOf S x with
    | some xs => mkL box xs.reverse S
    | none => .err
theorem ru_rev : Ru (ev F (.rev box a) ρ S) Q E = Ru (ev F a ρ S) (fun x S => Ru (revR box x S) Q E) E := by rw [ev, ru_bind]; rfl
instance  : Stp1 (Ru (ev F (.rev box a) ρ S) Q E) (Ru (ev F a ρ S) (fun x S => Ru (revR box x S) Q E) E) := ⟨ru_rev.mpr⟩
theorem ru_lc : Ru (ev F (.lc box own t it ifs e) ρ S) Q E = Ru (evIt F it ρ S) (fun w S => Ru (lcLoop w.1 (lcStep F own t ifs e ρ) w.2 S) (fun ys S => ys.length ≤ sizeLine ∧ Ru (mkL box ys S) Q E) E) E := by rw [ev]; simp only [ru_bind, ru_ck]
instance  : Stp1 (Ru (ev F (.lc box own t it ifs e) ρ S) Q E) (Ru (evIt F it ρ S) (fun w S => Ru (lcLoop w.1 (lcStep F own t ifs e ρ) w.2 S) (fun ys S => ys.length ≤ sizeLine ∧ Ru (mkL box ys S) Q E) E) E) := ⟨ru_lc.mpr⟩
theorem ru_lc2 {ifs1 : List Iv.E} : Ru (ev F (.lc2 box own own1 t it ifs t1 it1 ifs1 e) ρ S) Q E = Ru (evIt F it ρ S) (fun w S => Ru (lcLoop w.1 (lcStepB F own own1 t ifs t1 it1 ifs1 e ρ) w.2 S) (fun ys S => ys.length ≤ sizeLine ∧ Ru (mkL box ys S) Q E) E) E := by rw [ev]; simp only [ru_bind, ru_ck]
instance {ifs1 : List Iv.E} : Stp1 (Ru (ev F (.lc2 box own own1 t it ifs t1 it1 ifs1 e) ρ S) Q E) (Ru (evIt F it ρ S) (fun w S => Ru (lcLoop w.1 (lcStepB F own own1 t ifs t1 it1 ifs1 e ρ) w.2 S) (fun ys S => ys.length ≤ sizeLine ∧ Ru (mkL box ys S) Q E) E) E) := ⟨ru_lc2.mpr⟩
theorem ru_call {f : Nat} {arr : List Ar} : Ru (ev F (.call f arr es) ρ S) Q E = Ru (evs F es ρ S) (fun xs S => Ru (callR F f arr xs S) Q E) E := by rw [ev]; simp only [ru_bind]
instance {f : Nat} {arr : List Ar} : Stp1 (Ru (ev F (.call f arr es) ρ S) Q E) (Ru (evs F es ρ S) (fun xs S => Ru (callR F f arr xs S) Q E) E) := ⟨ru_call.mpr⟩
noncomputable def methR (F : CE) (ms : List (Nat × Nat × List Ar)) (es : List Iv.E) (ρ : Env) (x : D) (o : Option (Nat × List Ar)) (S : Sto) : R D := match o with
  | some (f, arr) => (evs F es ρ S).bind fun xs S => callR F f arr (x :: xs) S
  | none => .err
theorem ru_meth {ms : List (Nat × Nat × List Ar)} : Ru (ev F (.meth a ms es) ρ S) Q E = Ru (ev F a ρ S) (fun x S => Ru (methR F ms es ρ x ((clsOf S x).bind fun c => ms.lookup c) S) Q E) E := by rw [ev, ru_bind]; congr 1 <;> (funext x S; cases ((clsOf S x).bind fun c => ms.lookup c) <;> rfl)
instance {ms : List (Nat × Nat × List Ar)} : Stp1 (Ru (ev F (.meth a ms es) ρ S) Q E) (Ru (ev F a ρ S) (fun x S => Ru (methR F ms es ρ x ((clsOf S x).bind fun c => ms.lookup c) S) Q E) E) := ⟨ru_meth.mpr⟩
theorem ru_methR {ms : List (Nat × Nat × List Ar)} {f : Nat} {arr : List Ar} : Ru (methR F ms es ρ x (some (f, arr)) S) Q E = Ru (evs F es ρ S) (fun xs S => Ru (callR F f arr (x :: xs) S) Q E) E := ru_bind
theorem ru_make {fr : Bool} {cl f : Nat} {arr : List Ar} : Ru (ev F (.make fr cl f arr es) ρ S) Q E = Ru (evs F es ρ S) (fun xs S => Ru (makeR F fr cl f arr xs S) Q E) E := by rw [ev]; simp only [ru_bind]
instance {fr : Bool} {cl f : Nat} {arr : List Ar} : Stp1 (Ru (ev F (.make fr cl f arr es) ρ S) Q E) (Ru (evs F es ρ S) (fun xs S => Ru (makeR F fr cl f arr xs S) Q E) E) := ⟨ru_make.mpr⟩
theorem ru_attr {f : Nat} : Ru (ev F (.attr a f) ρ S) Q E = Ru (ev F a ρ S) (fun x S => Ru (attrR x f S) Q E) E := by rw [ev]; simp only [ru_bind]
instance {f : Nat} : Stp1 (Ru (ev F (.attr a f) ρ S) Q E) (Ru (ev F a ρ S) (fun x S => Ru (attrR x f S) Q E) E) := ⟨ru_attr.mpr⟩
theorem ru_bi {bi : Bi} : Ru (ev F (.bi bi es) ρ S) Q E = Ru (evs F es ρ S) (fun xs S => Ru (biR bi xs S) Q E) E := by rw [ev]; simp only [ru_bind]
instance {bi : Bi} : Stp1 (Ru (ev F (.bi bi es) ρ S) Q E) (Ru (evs F es ρ S) (fun xs S => Ru (biR bi xs S) Q E) E) := ⟨ru_bi.mpr⟩
theorem ru_bm {bm : Bm} : Ru (ev F (.bm bm a es) ρ S) Q E = Ru (ev F a ρ S) (fun x S => bmOk bm x S = true ∧ Ru (evs F es ρ S) (fun xs S => Ru (bmR bm x xs S) Q E) E) E := by rw [ev]; simp only [ru_bind, ru_ck]
instance {bm : Bm} : Stp1 (Ru (ev F (.bm bm a es) ρ S) Q E) (Ru (ev F a ρ S) (fun x S => bmOk bm x S = true ∧ Ru (evs F es ρ S) (fun xs S => Ru (bmR bm x xs S) Q E) E) E) := ⟨ru_bm.mpr⟩
theorem ru_frz : Ru (ev F (.frz a) ρ S) Q E = Ru (ev F a ρ S) (fun x S => Ru (frzR x S) Q E) E := by rw [ev]; simp only [ru_bind]
instance  : Stp1 (Ru (ev F (.frz a) ρ S) Q E) (Ru (ev F a ρ S) (fun x S => Ru (frzR x S) Q E) E) := ⟨ru_frz.mpr⟩
def isitR (ts : List String) (o : Option Bool) (S : Sto) : R D := match o with
  | some b => ck (ts.length ≤ 100) (.ok (.bl b) S)
  | none => .err
theorem ru_isit {ts : List String} : Ru (ev F (.isit a ts) ρ S) Q E = Ru (ev F a ρ S) (fun x S => Ru (isitR ts (isiT S x ts) S) Q E) E := by rw [ev, ru_bind]; congr 1 <;> (funext x S; cases isiT S x ts <;> rfl)
instance {ts : List String} : Stp1 (Ru (ev F (.isit a ts) ρ S) Q E) (Ru (ev F a ρ S) (fun x S => Ru (isitR ts (isiT S x ts) S) Q E) E) := ⟨ru_isit.mpr⟩
theorem ru_isitR {ts : List String} {b : Bool} : Ru (isitR ts (some b) S) Q E = (ts.length ≤ 100 ∧ Q (.bl b) S) := by unfold isitR; rw [ru_ck, ru_ok]
theorem ru_evs0 : Ru (evs F [] ρ S) Qs E = Qs [] S := by rw [evs, ru_ok]
instance  : Stp1 (Ru (evs F [] ρ S) Qs E) (Qs [] S) := ⟨ru_evs0.mpr⟩
theorem ru_evs1 : Ru (evs F (e :: es) ρ S) Qs E = Ru (ev F e ρ S) (fun x S => Ru (evs F es ρ S) (fun xs S => Qs (x :: xs) S) E) E := by rw [evs]; simp only [ru_bind, ru_ok]
instance  : Stp1 (Ru (evs F (e :: es) ρ S) Qs E) (Ru (ev F e ρ S) (fun x S => Ru (evs F es ρ S) (fun xs S => Qs (x :: xs) S) E) E) := ⟨ru_evs1.mpr⟩
theorem ru_evp0 : Ru (evp F none ρ S) Qo E = Qo none S := by rw [evp, ru_ok]
instance  : Stp1 (Ru (evp F none ρ S) Qo E) (Qo none S) := ⟨ru_evp0.mpr⟩
def intR (x : D) (S : Sto) : R (Option Int) := match x with
  | .int i => .ok (some i) S
  | _ => .err
theorem ru_evp1 : Ru (evp F (some e) ρ S) Qo E = Ru (ev F e ρ S) (fun x S => Ru (intR x S) Qo E) E := by rw [evp, ru_bind]; rfl
instance  : Stp1 (Ru (evp F (some e) ρ S) Qo E) (Ru (ev F e ρ S) (fun x S => Ru (intR x S) Qo E) E) := ⟨ru_evp1.mpr⟩
theorem ru_intR {j : Int} : Ru (intR (.int j) S) Qo E = Qo (some j) S := ru_ok
instance {j : Int} : Stp1 (Ru (intR (.int j) S) Qo E) (Qo (some j) S) := ⟨ru_intR.mpr⟩
theorem ru_ifs0 : Ru (evIfs F [] ρ S) Qb E = Qb true S := by rw [evIfs, ru_ok]
instance  : Stp1 (Ru (evIfs F [] ρ S) Qb E) (Qb true S) := ⟨ru_ifs0.mpr⟩
theorem ru_ifs1 : Ru (evIfs F (e :: es) ρ S) Qb E = Ru (ev F e ρ S) (fun x S => Ru (tru x S) (fun k S => if k = true then Ru (evIfs F es ρ S) Qb E else Qb false S) E) E := by rw [evIfs]; simp only [ru_bind, ru_ite, ru_ok]
instance  : Stp1 (Ru (evIfs F (e :: es) ρ S) Qb E) (Ru (ev F e ρ S) (fun x S => Ru (tru x S) (fun k S => if k = true then Ru (evIfs F es ρ S) Qb E else Qb false S) E) E) := ⟨ru_ifs1.mpr⟩
def oR {α : Type} (o : Option α) (S : Sto) : R α := match o with
  | some w => .ok w S
  | none => .err
theorem ru_oR {α : Type} {w : α} {Qx : α → Sto → Prop} : Ru (oR (some w) S) Qx E = Qx w S := ru_ok
theorem ru_itE : Ru (evIt F (.e a) ρ S) Qi E = Ru (ev F a ρ S) (fun x S => Ru (oR (walkOf S x) S) Qi E) E := by rw [evIt, ru_bind]; congr 1 <;> (funext x S; cases walkOf S x <;> rfl)
instance  : Stp1 (Ru (evIt F (.e a) ρ S) Qi E) (Ru (ev F a ρ S) (fun x S => Ru (oR (walkOf S x) S) Qi E) E) := ⟨ru_itE.mpr⟩
def rng1R (x : D) (S : Sto) : R (Src × List D) := match x with
  | .int j => ck (smallI j) (.ok (.fix, rngD 0 j.toNat) S)
  | _ => .err
theorem ru_rng1 : Ru (evIt F (.rng1 a) ρ S) Qi E = Ru (ev F a ρ S) (fun x S => Ru (rng1R x S) Qi E) E := by rw [evIt, ru_bind]; rfl
instance  : Stp1 (Ru (evIt F (.rng1 a) ρ S) Qi E) (Ru (ev F a ρ S) (fun x S => Ru (rng1R x S) Qi E) E) := ⟨ru_rng1.mpr⟩
theorem ru_rng1R {j : Int} : Ru (rng1R (.int j) S) Qi E = (smallI j ∧ Qi (.fix, rngD 0 j.toNat) S) := by unfold rng1R; rw [ru_ck, ru_ok]
def rng2R (x y : D) (S : Sto) : R (Src × List D) := match x, y with
  | .int i, .int j => ck (smallI i ∧ smallI j) (.ok (.fix, rngD i (j - i).toNat) S)
  | _, _ => .err
theorem ru_rng2 : Ru (evIt F (.rng2 a b) ρ S) Qi E = Ru (ev F a ρ S) (fun x S => Ru (ev F b ρ S) (fun y S => Ru (rng2R x y S) Qi E) E) E := by rw [evIt]; simp only [ru_bind]; rfl
instance  : Stp1 (Ru (evIt F (.rng2 a b) ρ S) Qi E) (Ru (ev F a ρ S) (fun x S => Ru (ev F b ρ S) (fun y S => Ru (rng2R x y S) Qi E) E) E) := ⟨ru_rng2.mpr⟩
theorem ru_rng2R {i j : Int} : Ru (rng2R (.int i) (.int j) S) Qi E = ((smallI i ∧ smallI j) ∧ Qi (.fix, rngD i (j - i).toNat) S) := by unfold rng2R; rw [ru_ck, ru_ok]
def enumR (o : Option (Src × List D)) (i : Option Int) (S : Sto) : R (Src × List D) := match o with
  | some w => ck (i = none) (.ok (w.1, enumD 0 w.2) S)
  | none => .err
theorem ru_enum : Ru (evIt F (.enum none a) ρ S) Qi E = Ru (ev F a ρ S) (fun x S => Ru (enumR (walkL S x) none S) Qi E) E := by rw [evIt]; simp only [ru_bind, ru_evp0]; congr 1 <;> (funext x S; cases walkL S x <;> rfl)
instance  : Stp1 (Ru (evIt F (.enum none a) ρ S) Qi E) (Ru (ev F a ρ S) (fun x S => Ru (enumR (walkL S x) none S) Qi E) E) := ⟨ru_enum.mpr⟩
theorem ru_enumR {w : Src × List D} : Ru (enumR (some w) none S) Qi E = Qi (w.1, enumD 0 w.2) S := by
  unfold enumR
  rw [ru_ck, ru_ok]
  exact propext ⟨fun h => h.2, fun h => ⟨rfl, h⟩⟩
def enumSR (o : Option (Src × List D)) (y : D) (S : Sto) : R (Src × List D) := match o, y with
  | some w, .int i => ck (smallI i) (.ok (w.1, enumD i w.2) S)
  | _, _ => .err
theorem ru_enumS : Ru (evIt F (.enumS a b) ρ S) Qi E = Ru (ev F a ρ S) (fun x S => Ru (ev F b ρ S) (fun y S => Ru (enumSR (walkL S x) y S) Qi E) E) E := by rw [evIt]; simp only [ru_bind]; congr 1 <;> (funext x S; congr 1 <;> (funext y S; cases walkL S x <;> cases y <;> rfl))
instance  : Stp1 (Ru (evIt F (.enumS a b) ρ S) Qi E) (Ru (ev F a ρ S) (fun x S => Ru (ev F b ρ S) (fun y S => Ru (enumSR (walkL S x) y S) Qi E) E) E) := ⟨ru_enumS.mpr⟩
theorem ru_enumSR {w : Src × List D} {j : Int} : Ru (enumSR (some w) (.int j) S) Qi E = (smallI j ∧ Qi (w.1, enumD j w.2) S) := by unfold enumSR; rw [ru_ck, ru_ok]
def zipR (strict : Bool) (x y : D) (o o' : Option (List D)) (S : Sto) : R (Src × List D) := match o, o' with
  | some xs, some ys => ck ((strict = true → xs.length = ys.length) ∧ isRef x = false ∧ isRef y = false ∧ (strict = true ∨ kOf x = kOf y ∧ mixZ xs ys = true)) (.ok (.fix, zipD xs ys) S)
  | _, _ => .err
theorem ru_zip {strict : Bool} : Ru (evIt F (.zip strict a b) ρ S) Qi E = Ru (ev F a ρ S) (fun x S => Ru (ev F b ρ S) (fun y S => Ru (zipR strict x y (seqOf S x) (seqOf S y) S) Qi E) E) E := by rw [evIt]; simp only [ru_bind]; congr 1 <;> (funext x S; congr 1 <;> (funext y S; cases seqOf S x <;> cases seqOf S y <;> rfl))
instance {strict : Bool} : Stp1 (Ru (evIt F (.zip strict a b) ρ S) Qi E) (Ru (ev F a ρ S) (fun x S => Ru (ev F b ρ S) (fun y S => Ru (zipR strict x y (seqOf S x) (seqOf S y) S) Qi E) E) E) := ⟨ru_zip.mpr⟩
theorem ru_aVar {j : Nat} : Ru (asg F (.var j) d ρ S) Qe E = Qe (ρ.set j (some d)) S := by rw [asg, ru_ok]
instance {j : Nat} : Stp1 (Ru (asg F (.var j) d ρ S) Qe E) (Qe (ρ.set j (some d)) S) := ⟨ru_aVar.mpr⟩
noncomputable def tupA (F : CE) (ts : List Tg) (ρ : Env) (o : Option (List D)) (S : Sto) : R Env := match o with
  | some xs => ck (xs.length = ts.length) (asgs F ts xs ρ S)
  | none => .err
theorem ru_aTup : Ru (asg F (.tup ts) d ρ S) Qe E = Ru (tupA F ts ρ (seqOf S d) S) Qe E := by rw [asg]; cases seqOf S d <;> rfl
instance  : Stp1 (Ru (asg F (.tup ts) d ρ S) Qe E) (Ru (tupA F ts ρ (seqOf S d) S) Qe E) := ⟨ru_aTup.mpr⟩
theorem ru_tupA {xs : List D} : Ru (tupA F ts ρ (some xs) S) Qe E = (xs.length = ts.length ∧ Ru (asgs F ts xs ρ S) Qe E) := ru_ck
noncomputable def tupsA (F : CE) (ts : List Tg) (ρ : Env) (o : Option (List D)) (S : Sto) : R Env := match o with
  | some xs => ck (1 ≤ ts.length ∧ ts.length ≤ xs.length + 1 ∧ xs.length ≤ 16384) (asgs F ts (xs.take (ts.length - 1) ++ [.lst (xs.drop (ts.length - 1))]) ρ S)
  | none => .err
theorem ru_aTups : Ru (asg F (.tups ts) d ρ S) Qe E = Ru (tupsA F ts ρ (seqOf S d) S) Qe E := by rw [asg]; cases seqOf S d <;> rfl
instance  : Stp1 (Ru (asg F (.tups ts) d ρ S) Qe E) (Ru (tupsA F ts ρ (seqOf S d) S) Qe E) := ⟨ru_aTups.mpr⟩
theorem ru_tupsA {xs : List D} : Ru (tupsA F ts ρ (some xs) S) Qe E = ((1 ≤ ts.length ∧ ts.length ≤ xs.length + 1 ∧ xs.length ≤ 16384) ∧ Ru (asgs F ts (xs.take (ts.length - 1) ++ [.lst (xs.drop (ts.length - 1))]) ρ S) Qe E) := ru_ck
theorem ru_aIdx : Ru (asg F (.idx a i) d ρ S) Qe E = Ru (ev F a ρ S) (fun x S => Ru (ev F i ρ S) (fun y S => Ru (sidxR x y d S) (fun _ S => Qe ρ S) E) E) E := by rw [asg]; simp only [ru_bind, ru_ok]
instance  : Stp1 (Ru (asg F (.idx a i) d ρ S) Qe E) (Ru (ev F a ρ S) (fun x S => Ru (ev F i ρ S) (fun y S => Ru (sidxR x y d S) (fun _ S => Qe ρ S) E) E) E) := ⟨ru_aIdx.mpr⟩
theorem ru_aAttr {f : Nat} {cs : List Nat} : Ru (asg F (.attr a f cs) d ρ S) Qe E = Ru (ev F a ρ S) (fun x S => Ru (sattrR x f cs d S) (fun _ S => Qe ρ S) E) E := by rw [asg]; simp only [ru_bind, ru_ok]
instance {f : Nat} {cs : List Nat} : Stp1 (Ru (asg F (.attr a f cs) d ρ S) Qe E) (Ru (ev F a ρ S) (fun x S => Ru (sattrR x f cs d S) (fun _ S => Qe ρ S) E) E) := ⟨ru_aAttr.mpr⟩
theorem ru_aSlc : Ru (asg F (.slc a b c) d ρ S) Qe E = Ru (ev F a ρ S) (fun x S => Ru (ev F b ρ S) (fun l S => Ru (ev F c ρ S) (fun h S => Ru (sslcR x l h d S) (fun _ S => Qe ρ S) E) E) E) E := by rw [asg]; simp only [ru_bind, ru_ok]
instance  : Stp1 (Ru (asg F (.slc a b c) d ρ S) Qe E) (Ru (ev F a ρ S) (fun x S => Ru (ev F b ρ S) (fun l S => Ru (ev F c ρ S) (fun h S => Ru (sslcR x l h d S) (fun _ S => Qe ρ S) E) E) E) E) := ⟨ru_aSlc.mpr⟩
theorem ru_as0 : Ru (asgs F [] [] ρ S) Qe E = Qe ρ S := by rw [asgs, ru_ok]
instance  : Stp1 (Ru (asgs F [] [] ρ S) Qe E) (Qe ρ S) := ⟨ru_as0.mpr⟩
theorem ru_as1 {ds : List D} : Ru (asgs F (t :: ts) (d :: ds) ρ S) Qe E = Ru (asg F t d ρ S) (fun ρ S => Ru (asgs F ts ds ρ S) Qe E) E := by rw [asgs]; simp only [ru_bind]
instance {ds : List D} : Stp1 (Ru (asgs F (t :: ts) (d :: ds) ρ S) Qe E) (Ru (asg F t d ρ S) (fun ρ S => Ru (asgs F ts ds ρ S) Qe E) E) := ⟨ru_as1.mpr⟩
theorem ru_sExpr : Ru (ex F (.expr e) ρ S) Qf E = Ru (ev F e ρ S) (fun _ S => Qf (.next ρ) S) (fun x S => Qf (.raised x ρ) S) := by rw [ex]; simp only [ru_go, ru_ok]
instance  : Stp1 (Ru (ex F (.expr e) ρ S) Qf E) (Ru (ev F e ρ S) (fun _ S => Qf (.next ρ) S) (fun x S => Qf (.raised x ρ) S)) := ⟨ru_sExpr.mpr⟩
theorem ru_sAsg : Ru (ex F (.asg t e) ρ S) Qf E = Ru (ev F e ρ S) (fun d S => Ru (asg F t d ρ S) (fun ρ S => Qf (.next ρ) S) noE) (fun x S => Qf (.raised x ρ) S) := by rw [ex]; simp only [ru_go, ru_st, ru_ok]
instance  : Stp1 (Ru (ex F (.asg t e) ρ S) Qf E) (Ru (ev F e ρ S) (fun d S => Ru (asg F t d ρ S) (fun ρ S => Qf (.next ρ) S) noE) (fun x S => Qf (.raised x ρ) S)) := ⟨ru_sAsg.mpr⟩
theorem ru_sAug {op : Bop} {j : Nat} (h : ρ[j]? = some (some d)) : Ru (ex F (.aug j op e) ρ S) Qf E = Ru (ev F e ρ S) (fun y S => Ru (augR op d y S) (fun z S => Qf (.next (ρ.set j (some z))) S) (fun x S => Qf (.raised x ρ) S)) (fun x S => Qf (.raised x ρ) S) := by
  rw [ex, h]; simp only [ru_go, ru_bind, ru_ok]
theorem ru_sIte : Ru (ex F (.ite c body els) ρ S) Qf E = Ru (ev F c ρ S) (fun x S => Ru (tru x S) (fun k S => if k = true then Ru (exs F body ρ S) Qf E else Ru (exs F els ρ S) Qf E) (fun x S => Qf (.raised x ρ) S)) (fun x S => Qf (.raised x ρ) S) := by
  rw [ex]; simp only [ru_go, ru_bind, ru_ite]
theorem ru_sFor : Ru (ex F (.for t it body) ρ S) Qf E = Ru (evIt F it ρ S) (fun w S => Ru (forLoop w.1 (forStep F t body) w.2 ρ S) Qf E) (fun x S => Qf (.raised x ρ) S) := by rw [ex]; simp only [ru_go]
instance  : Stp1 (Ru (ex F (.for t it body) ρ S) Qf E) (Ru (evIt F it ρ S) (fun w S => Ru (forLoop w.1 (forStep F t body) w.2 ρ S) Qf E) (fun x S => Qf (.raised x ρ) S)) := ⟨ru_sFor.mpr⟩
theorem ru_sRet : Ru (ex F (.ret e) ρ S) Qf E = Ru (ev F e ρ S) (fun d S => Qf (.ret d) S) (fun x S => Qf (.raised x ρ) S) := by rw [ex]; simp only [ru_go, ru_ok]
instance  : Stp1 (Ru (ex F (.ret e) ρ S) Qf E) (Ru (ev F e ρ S) (fun d S => Qf (.ret d) S) (fun x S => Qf (.raised x ρ) S)) := ⟨ru_sRet.mpr⟩
theorem ru_sRetN : Ru (ex F .retN ρ S) Qf E = Qf (.ret .non) S := by rw [ex, ru_ok]
instance  : Stp1 (Ru (ex F .retN ρ S) Qf E) (Qf (.ret .non) S) := ⟨ru_sRetN.mpr⟩
theorem ru_sBrk : Ru (ex F .brk ρ S) Qf E = Qf (.brk ρ) S := by rw [ex, ru_ok]
instance  : Stp1 (Ru (ex F .brk ρ S) Qf E) (Qf (.brk ρ) S) := ⟨ru_sBrk.mpr⟩
theorem ru_sCont : Ru (ex F .cont ρ S) Qf E = Qf (.cont ρ) S := by rw [ex, ru_ok]
instance  : Stp1 (Ru (ex F .cont ρ S) Qf E) (Qf (.cont ρ) S) := ⟨ru_sCont.mpr⟩
theorem ru_sPass : Ru (ex F .pass ρ S) Qf E = Qf (.next ρ) S := by rw [ex, ru_ok]
instance  : Stp1 (Ru (ex F .pass ρ S) Qf E) (Qf (.next ρ) S) := ⟨ru_sPass.mpr⟩
def nxQ (F : CE) (sts : List St) (Q : Fl → Sto → Prop) (E : Exc → Sto → Prop) (w : Fl) (S : Sto) : Prop := match w with
  | .next ρ => Ru (exs F sts ρ S) Q E
  | w => Q w S
theorem ru_exs0 : Ru (exs F [] ρ S) Qf E = Qf (.next ρ) S := by rw [exs, ru_ok]
instance  : Stp1 (Ru (exs F [] ρ S) Qf E) (Qf (.next ρ) S) := ⟨ru_exs0.mpr⟩
theorem ru_exs1 : Ru (exs F (st :: sts) ρ S) Qf E = Ru (ex F st ρ S) (nxQ F sts Qf E) noE := by
  rw [exs, ru_fl]
  congr 1 <;> (funext w S; cases w <;> rfl)
instance  : Stp1 (Ru (exs F (st :: sts) ρ S) Qf E) (Ru (ex F st ρ S) (nxQ F sts Qf E) noE) := ⟨ru_exs1.mpr⟩
theorem nx_next : nxQ F sts Qf E (.next ρ) S = Ru (exs F sts ρ S) Qf E := rfl
instance  : Stp1 (nxQ F sts Qf E (.next ρ) S) (Ru (exs F sts ρ S) Qf E) := ⟨nx_next.mpr⟩
theorem nx_ret : nxQ F sts Qf E (.ret d) S = Qf (.ret d) S := rfl
instance  : Stp1 (nxQ F sts Qf E (.ret d) S) (Qf (.ret d) S) := ⟨nx_ret.mpr⟩
theorem nx_brk : nxQ F sts Qf E (.brk ρ) S = Qf (.brk ρ) S := rfl
instance  : Stp1 (nxQ F sts Qf E (.brk ρ) S) (Qf (.brk ρ) S) := ⟨nx_brk.mpr⟩
theorem nx_cont : nxQ F sts Qf E (.cont ρ) S = Qf (.cont ρ) S := rfl
instance  : Stp1 (nxQ F sts Qf E (.cont ρ) S) (Qf (.cont ρ) S) := ⟨nx_cont.mpr⟩
theorem nx_raised {y : Exc} : nxQ F sts Qf E (.raised y ρ) S = Qf (.raised y ρ) S := rfl
instance {y : Exc} : Stp1 (nxQ F sts Qf E (.raised y ρ) S) (Qf (.raised y ρ) S) := ⟨nx_raised.mpr⟩
theorem turn_next {K : Env → Sto → Prop} : turnQ K Qf (.next ρ) S = K ρ S := rfl
instance {K : Env → Sto → Prop} : Stp1 (turnQ K Qf (.next ρ) S) (K ρ S) := ⟨turn_next.mpr⟩
theorem turn_cont {K : Env → Sto → Prop} : turnQ K Qf (.cont ρ) S = K ρ S := rfl
instance {K : Env → Sto → Prop} : Stp1 (turnQ K Qf (.cont ρ) S) (K ρ S) := ⟨turn_cont.mpr⟩
theorem turn_brk {K : Env → Sto → Prop} : turnQ K Qf (.brk ρ) S = Qf (.next ρ) S := rfl
instance {K : Env → Sto → Prop} : Stp1 (turnQ K Qf (.brk ρ) S) (Qf (.next ρ) S) := ⟨turn_brk.mpr⟩
theorem turn_ret {K : Env → Sto → Prop} : turnQ K Qf (.ret d) S = Qf (.ret d) S := rfl
instance {K : Env → Sto → Prop} : Stp1 (turnQ K Qf (.ret d) S) (Qf (.ret d) S) := ⟨turn_ret.mpr⟩
theorem turn_raised {K : Env → Sto → Prop} {y : Exc} : turnQ K Qf (.raised y ρ) S = Qf (.raised y ρ) S := rfl
instance {K : Env → Sto → Prop} {y : Exc} : Stp1 (turnQ K Qf (.raised y ρ) S) (Qf (.raised y ρ) S) := ⟨turn_raised.mpr⟩
/-- a def's end -/
def runQ (Q : D → Sto → Prop) (E : Exc → Sto → Prop) (w : Fl) (S : Sto) : Prop := match w with
  | .ret d => Q d S
  | .next _ => Q .non S
  | .raised x _ => E x S
  | _ => False
theorem run_qret : runQ Q E (.ret d) S = Q d S := rfl
instance  : Stp1 (runQ Q E (.ret d) S) (Q d S) := ⟨run_qret.mpr⟩
theorem run_qnext : runQ Q E (.next ρ) S = Q .non S := rfl
instance  : Stp1 (runQ Q E (.next ρ) S) (Q .non S) := ⟨run_qnext.mpr⟩
theorem run_qraised {y : Exc} : runQ Q E (.raised y ρ) S = E y S := rfl
instance {y : Exc} : Stp1 (runQ Q E (.raised y ρ) S) (E y S) := ⟨run_qraised.mpr⟩
theorem ru_run {n : Nat} {ds : List D} : Ru (Iv.run F n body ds S) Q E = Ru (exs F body (ds.map some ++ List.replicate (n - ds.length) none) S) (runQ Q E) noE := by
  unfold Iv.run
  cases exs F body (ds.map some ++ List.replicate (n - ds.length) none) S with
  | ok w S => cases w <;> simp only [ru_ok, ru_exc, ru_err, runQ]
  | exc x S => rw [ru_exc, ru_err]
  | err => rw [ru_err, ru_err]
/-- a def is gone into -/
theorem Ru.def {T : List Fn} {k f : Nat} {fn : Fn} {ds : List D} (h : T[f]? = some fn) (hl : ds.length = fn.np) (w : Ru (exs (callN T k) fn.body (ds.map some ++ List.replicate (fn.n - ds.length) none) S) (runQ Q E) noE) : Ru (callN T (k + 1) f ds S) Q E := by
  rw [callN_at h hl, ru_run]
  exact w
/-- loops -/
theorem Ru.for {src : Src} {step : D → Env → Sto → R Fl} {items : List D} (Inv : Nat → Env → Sto → Prop) (h0 : Inv 0 ρ S) (ht : ∀ i ρ S, Inv i ρ S → src.there S)
    (hs : ∀ i d ρ S, items[i]? = some d → Inv i ρ S → Ru (step d ρ S) (turnQ (Inv (i + 1)) Qf) noE) (he : ∀ ρ S, Inv items.length ρ S → Qf (.next ρ) S) : Ru (forLoop src step items ρ S) Qf E := by
  have go : ∀ (n i : Nat) (ρ : Env) (S : Sto), items.length - i = n → i ≤ items.length → Inv i ρ S → Ru (forLoop src step (items.drop i) ρ S) Qf E := by
    intro n
    induction n with
    | zero =>
      intro i ρ S hn hi hI
      have e : i = items.length := by omega
      subst e
      rw [List.drop_length, forLoop, ck_of (ht _ _ _ hI), ru_ok]
      exact he _ _ hI
    | succ n ih =>
      intro i ρ S hn hi hI
      have hlt : i < items.length := by omega
      rw [List.drop_eq_getElem_cons hlt, forLoop, ck_of (ht _ _ _ hI), ru_turn]
      refine (hs i _ ρ S (List.getElem?_eq_getElem hlt) hI).imp (fun w S' q => ?_) fun _ _ h => h
      cases w with
      | next ρ' => exact ih (i + 1) ρ' S' (by omega) hlt q
      | cont ρ' => exact ih (i + 1) ρ' S' (by omega) hlt q
      | brk ρ' => exact q
      | ret d => exact q
      | raised x ρ' => exact q
  exact go _ 0 ρ S rfl (Nat.zero_le _) h0
theorem Ru.lc {src : Src} {step : D → Sto → R (List D)} {items : List D} (Inv : Nat → List D → Sto → Prop) (h0 : Inv 0 [] S) (ht : ∀ i ys S, Inv i ys S → src.there S)
    (hs : ∀ i d ys S, items[i]? = some d → Inv i ys S → Ru (step d S) (fun zs S' => Inv (i + 1) (ys ++ zs) S') noE) (he : ∀ ys S, Inv items.length ys S → Qs ys S) : Ru (lcLoop src step items S) Qs E := by
  obtain ⟨ys, S', e, h⟩ := lcLoop_inv (step := step) Inv h0 ht fun i d ys S hd hI => by
    obtain ⟨zs, S', e, h⟩ := (hs i d ys S hd hI).ex
    exact ⟨zs, S', e, h⟩
  rw [e, ru_ok]
  exact he _ _ h
/-- each item by itself, the store as it was -/
theorem Ru.lcp {src : Src} {step : D → Sto → R (List D)} {items : List D} (f : D → List D) (ht : src.there S) (hs : ∀ d ∈ items, Ru (step d S) (fun zs S' => zs = f d ∧ S' = S) noE) (he : Qs (items.flatMap f) S) : Ru (lcLoop src step items S) Qs E := by
  refine Ru.lc (fun i ys S' => ys = (items.take i).flatMap f ∧ S' = S) ⟨by rw [List.take_zero]; rfl, rfl⟩ (fun i ys S' h => by rw [h.2]; exact ht) (fun i d ys S' hd ⟨h1, h2⟩ => ?_) fun ys S' ⟨h1, h2⟩ => by rw [h1, h2, List.take_length]; exact he
  subst h2
  refine (hs d (List.mem_of_getElem? hd)).imp (fun zs S2 ⟨q1, q2⟩ => ⟨?_, q2⟩) fun _ _ h => h
  rw [h1, q1, List.take_succ, hd, List.flatMap_append]
  simp
theorem Ru.lcm {src : Src} {step : D → Sto → R (List D)} {α : Type} {items : List α} (enc : α → D) (f : α → List D) (ht : src.there S) (hs : ∀ a ∈ items, Ru (step (enc a) S) (fun zs S' => zs = f a ∧ S' = S) noE) (he : Qs (items.flatMap f) S) : Ru (lcLoop src step (items.map enc) S) Qs E := by
  rw [lcLoop_encS ht fun a ha => (hs a ha).is, ru_ok]
  exact he
theorem ru_step : Ru (forStep F t body d ρ S) Qf E = Ru (asg F t d ρ S) (fun ρ S => Ru (exs F body ρ S) Qf E) noE := ru_st
instance  : Stp1 (Ru (forStep F t body d ρ S) Qf E) (Ru (asg F t d ρ S) (fun ρ S => Ru (exs F body ρ S) Qf E) noE) := ⟨ru_step.mpr⟩
theorem ru_lcStep : Ru (lcStep F own t ifs e ρ d S) Qs E = Ru (asg F t d (wipeE ρ own) S) (fun ρ1 S => Ru (evIfs F ifs ρ1 S) (fun k S => if k = true then Ru (ev F e ρ1 S) (fun y S => Qs [y] S) E else Qs [] S) E) E := by
  unfold lcStep
  simp only [ru_bind, ru_ite, ru_ok]
instance  : Stp1 (Ru (lcStep F own t ifs e ρ d S) Qs E) (Ru (asg F t d (wipeE ρ own) S) (fun ρ1 S => Ru (evIfs F ifs ρ1 S) (fun k S => if k = true then Ru (ev F e ρ1 S) (fun y S => Qs [y] S) E else Qs [] S) E) E) := ⟨ru_lcStep.mpr⟩
theorem ru_lcStepB {ifs1 : List Iv.E} : Ru (lcStepB F own own1 t ifs t1 it1 ifs1 e ρ d S) Qs E = Ru (asg F t d (wipeE ρ own) S) (fun ρ1 S => Ru (evIfs F ifs ρ1 S) (fun k S => if k = true then Ru (evIt F it1 ρ1 S) (fun w S => Ru (lcLoop w.1 (lcStep F own1 t1 ifs1 e ρ1) w.2 S) Qs E) E else Qs [] S) E) E := by
  unfold lcStepB
  simp only [ru_bind, ru_ite, ru_ok]
instance {ifs1 : List Iv.E} : Stp1 (Ru (lcStepB F own own1 t ifs t1 it1 ifs1 e ρ d S) Qs E) (Ru (asg F t d (wipeE ρ own) S) (fun ρ1 S => Ru (evIfs F ifs ρ1 S) (fun k S => if k = true then Ru (evIt F it1 ρ1 S) (fun w S => Ru (lcLoop w.1 (lcStep F own1 t1 ifs1 e ρ1) w.2 S) Qs E) E else Qs [] S) E) E) := ⟨ru_lcStepB.mpr⟩
end
/-! what operators tell -/
section
variable {S : Sto} {i j : Int} {z z' : Str} {xs ys : List D} {b : Bool} {d : D} {n m : Nat} {Q : D → Sto → Prop} {E : Exc → Sto → Prop}
theorem bin_addI {box : Bool} : binR box .add (.int i) (.int j) S = .ok (.int (i + j)) S := rfl
instance {box : Bool} : Res (binR box .add (.int i) (.int j) S) (.ok (.int (i + j)) S) := ⟨bin_addI⟩
theorem bin_subI {box : Bool} : binR box .sub (.int i) (.int j) S = .ok (.int (i - j)) S := rfl
instance {box : Bool} : Res (binR box .sub (.int i) (.int j) S) (.ok (.int (i - j)) S) := ⟨bin_subI⟩
theorem bin_mulI {box : Bool} : binR box .mul (.int i) (.int j) S = ck (mulOk i j) (.ok (.int (i * j)) S) := rfl
theorem bin_divI {box : Bool} : binR box .div (.int i) (.int j) S = ck (0 < j ∧ j < 1073741824) (.ok (.int (i / j)) S) := rfl
theorem bin_modI {box : Bool} : binR box .mod (.int i) (.int j) S = ck (0 < j) (.ok (.int (i % j)) S) := rfl
theorem bin_addT {box : Bool} : binR box .add (.tup xs) (.tup ys) S = ck (xs.length + ys.length ≤ sizeLine) (.ok (.tup (xs ++ ys)) S) := rfl
theorem bin_addL {box : Bool} : binR box .add (.lst xs) (.lst ys) S = ck (xs.length + ys.length ≤ sizeLine) (mkL box (xs ++ ys) S) := rfl
theorem neg_I : negR (.int i) S = .ok (.int (-i)) S := rfl
instance  : Res (negR (.int i) S) (.ok (.int (-i)) S) := ⟨neg_I⟩
theorem tru_b : tru (.bl b) S = .ok b S := rfl
instance  : Res (tru (.bl b) S) (.ok b S) := ⟨tru_b⟩
theorem tru_i : tru (.int i) S = .ok (i != 0) S := rfl
instance  : Res (tru (.int i) S) (.ok (i != 0) S) := ⟨tru_i⟩
theorem cmp_ltI : cmpR .lt (.int i) (.int j) S = .ok (.bl (decide (i < j))) S := rfl
instance  : Res (cmpR .lt (.int i) (.int j) S) (.ok (.bl (decide (i < j))) S) := ⟨cmp_ltI⟩
theorem cmp_leI : cmpR .le (.int i) (.int j) S = .ok (.bl (decide (i ≤ j))) S := rfl
instance  : Res (cmpR .le (.int i) (.int j) S) (.ok (.bl (decide (i ≤ j))) S) := ⟨cmp_leI⟩
theorem cmp_gtI : cmpR .gt (.int i) (.int j) S = .ok (.bl (decide (j < i))) S := rfl
instance  : Res (cmpR .gt (.int i) (.int j) S) (.ok (.bl (decide (j < i))) S) := ⟨cmp_gtI⟩
theorem cmp_geI : cmpR .ge (.int i) (.int j) S = .ok (.bl (decide (j ≤ i))) S := rfl
instance  : Res (cmpR .ge (.int i) (.int j) S) (.ok (.bl (decide (j ≤ i))) S) := ⟨cmp_geI⟩
theorem cmp_isN : cmpR .isN d .non S = .ok (.bl (match d with | .non => true | _ => false)) S := rfl
instance  : Res (cmpR .isN d .non S) (.ok (.bl (match d with | .non => true | _ => false)) S) := ⟨cmp_isN⟩
theorem cmp_notN : cmpR .notN d .non S = .ok (.bl (match d with | .non => false | _ => true)) S := rfl
instance  : Res (cmpR .notN d .non S) (.ok (.bl (match d with | .non => false | _ => true)) S) := ⟨cmp_notN⟩
theorem cmp_isB {b' : Bool} : cmpR .isN (.bl b) (.bl b') S = .ok (.bl (decide (b = b'))) S := rfl
instance {b' : Bool} : Res (cmpR .isN (.bl b) (.bl b') S) (.ok (.bl (decide (b = b'))) S) := ⟨cmp_isB⟩
theorem cmp_eqI : cmpR .eq (.int i) (.int j) S = .ok (.bl (i == j)) S := by
  show ck ((unbox S (.int i)).fz = true ∧ (unbox S (.int j)).fz = true ∧ (unbox S (.int i)).dp ≤ 64 ∧ (unbox S (.int j)).dp ≤ 64) (R.ok (D.bl ((unbox S (.int i)).eqv (unbox S (.int j)))) S) = _
  rw [ck_of ⟨by simp [unbox, D.fz], by simp [unbox, D.fz], by simp [unbox, D.dp], by simp [unbox, D.dp]⟩]
  simp only [unbox, eqv_int]
instance  : Res (cmpR .eq (.int i) (.int j) S) (.ok (.bl (i == j)) S) := ⟨cmp_eqI⟩
theorem cmp_neI : cmpR .ne (.int i) (.int j) S = .ok (.bl (!(i == j))) S := by
  show ck ((unbox S (.int i)).fz = true ∧ (unbox S (.int j)).fz = true ∧ (unbox S (.int i)).dp ≤ 64 ∧ (unbox S (.int j)).dp ≤ 64) (R.ok (D.bl (!((unbox S (.int i)).eqv (unbox S (.int j))))) S) = _
  rw [ck_of ⟨by simp [unbox, D.fz], by simp [unbox, D.fz], by simp [unbox, D.dp], by simp [unbox, D.dp]⟩]
  simp only [unbox, eqv_int]
instance  : Res (cmpR .ne (.int i) (.int j) S) (.ok (.bl (!(i == j))) S) := ⟨cmp_neI⟩
theorem eqv_str : D.eqv (.str z) (.str z') = (z == z') := by simp [D.eqv]
theorem cmp_eqS : cmpR .eq (.str z) (.str z') S = .ok (.bl (z == z')) S := by
  show ck ((unbox S (.str z)).fz = true ∧ (unbox S (.str z')).fz = true ∧ (unbox S (.str z)).dp ≤ 64 ∧ (unbox S (.str z')).dp ≤ 64) (R.ok (D.bl ((unbox S (.str z)).eqv (unbox S (.str z')))) S) = _
  rw [ck_of ⟨by simp [unbox, D.fz], by simp [unbox, D.fz], by simp [unbox, D.dp], by simp [unbox, D.dp]⟩]
  simp only [unbox, eqv_str]
instance  : Res (cmpR .eq (.str z) (.str z') S) (.ok (.bl (z == z')) S) := ⟨cmp_eqS⟩
theorem cmp_neS : cmpR .ne (.str z) (.str z') S = .ok (.bl (!(z == z'))) S := by
  show ck ((unbox S (.str z)).fz = true ∧ (unbox S (.str z')).fz = true ∧ (unbox S (.str z)).dp ≤ 64 ∧ (unbox S (.str z')).dp ≤ 64) (R.ok (D.bl (!((unbox S (.str z)).eqv (unbox S (.str z'))))) S) = _
  rw [ck_of ⟨by simp [unbox, D.fz], by simp [unbox, D.fz], by simp [unbox, D.dp], by simp [unbox, D.dp]⟩]
  simp only [unbox, eqv_str]
instance  : Res (cmpR .ne (.str z) (.str z') S) (.ok (.bl (!(z == z'))) S) := ⟨cmp_neS⟩
theorem unbox_fz1 (h : d.fz = true) : unbox S d = d := by cases d <;> first | rfl | cases h
theorem fzs_all : ∀ {xs : List D}, D.fzs xs = true → ∀ x ∈ xs, x.fz = true
  | [], _, _, h => nomatch h
  | y :: ys, h, x, hx => by
    simp only [D.fzs, Bool.and_eq_true] at h
    rcases List.mem_cons.mp hx with rfl | hx
    · exact h.1
    · exact fzs_all h.2 x hx
/-- == of frozen things -/
theorem ru_eq {x y : D} (fx : x.fz = true) (fy : y.fz = true) : Ru (cmpR .eq x y S) Q E = ((x.dp ≤ 64 ∧ y.dp ≤ 64) ∧ Q (.bl (x.eqv y)) S) := by
  show Ru (ck ((unbox S x).fz = true ∧ (unbox S y).fz = true ∧ (unbox S x).dp ≤ 64 ∧ (unbox S y).dp ≤ 64) (R.ok (D.bl ((unbox S x).eqv (unbox S y))) S)) Q E = _
  rw [unbox_fz1 fx, unbox_fz1 fy, ru_ck, ru_ok]
  exact propext ⟨fun ⟨⟨_, _, a⟩, b⟩ => ⟨a, b⟩, fun ⟨a, b⟩ => ⟨⟨fx, fy, a⟩, b⟩⟩
theorem ru_ne {x y : D} (fx : x.fz = true) (fy : y.fz = true) : Ru (cmpR .ne x y S) Q E = ((x.dp ≤ 64 ∧ y.dp ≤ 64) ∧ Q (.bl (!(x.eqv y))) S) := by
  show Ru (ck ((unbox S x).fz = true ∧ (unbox S y).fz = true ∧ (unbox S x).dp ≤ 64 ∧ (unbox S y).dp ≤ 64) (R.ok (D.bl (!((unbox S x).eqv (unbox S y)))) S)) Q E = _
  rw [unbox_fz1 fx, unbox_fz1 fy, ru_ck, ru_ok]
  exact propext ⟨fun ⟨⟨_, _, a⟩, b⟩ => ⟨a, b⟩, fun ⟨a, b⟩ => ⟨⟨fx, fy, a⟩, b⟩⟩
theorem ru_eqd {x y x' y' : D} (ex : deep 8 S x = x') (ey : deep 8 S y = y') : Ru (cmpR .eqd x y S) Q E = ((x'.fz = true ∧ y'.fz = true ∧ x'.dp ≤ 64 ∧ y'.dp ≤ 64) ∧ Q (.bl (x'.eqv y')) S) := by
  subst ex ey
  show Ru (ck _ _) Q E = _
  rw [ru_ck, ru_ok]
theorem ru_ned {x y x' y' : D} (ex : deep 8 S x = x') (ey : deep 8 S y = y') : Ru (cmpR .ned x y S) Q E = ((x'.fz = true ∧ y'.fz = true ∧ x'.dp ≤ 64 ∧ y'.dp ≤ 64) ∧ Q (.bl (!(x'.eqv y'))) S) := by
  subst ex ey
  show Ru (ck _ _) Q E = _
  rw [ru_ck, ru_ok]
theorem cmp_eqdI : cmpR .eqd (.int i) (.int j) S = .ok (.bl (i == j)) S := by
  refine Ru.is ?_
  rw [ru_eqd (x' := .int i) (y' := .int j) rfl rfl, eqv_int]
  exact ⟨⟨by simp [D.fz], by simp [D.fz], by simp [D.dp], by simp [D.dp]⟩, rfl, rfl⟩
instance  : Res (cmpR .eqd (.int i) (.int j) S) (.ok (.bl (i == j)) S) := ⟨cmp_eqdI⟩
theorem cmp_nedI : cmpR .ned (.int i) (.int j) S = .ok (.bl (!(i == j))) S := by
  refine Ru.is ?_
  rw [ru_ned (x' := .int i) (y' := .int j) rfl rfl, eqv_int]
  exact ⟨⟨by simp [D.fz], by simp [D.fz], by simp [D.dp], by simp [D.dp]⟩, rfl, rfl⟩
instance  : Res (cmpR .ned (.int i) (.int j) S) (.ok (.bl (!(i == j))) S) := ⟨cmp_nedI⟩
theorem ru_in {x y : D} {ys : List D} (hs : seqOf S y = some ys) (hx : ∀ z, y ≠ .str z) : Ru (cmpR .isIn x y S) Q E = ((x.fz = true ∧ x.dp ≤ 63 ∧ D.fzs ys = true ∧ D.dps ys ≤ 63) ∧ Q (.bl (ys.any fun z => z.eqv x)) S) := by
  have e : cmpR .isIn x y S = match seqOf S y with
    | some ys => ck (x.fz = true ∧ x.dp ≤ 63 ∧ D.fzs ys = true ∧ D.dps ys ≤ 63) (R.ok (D.bl (ys.any fun z => z.eqv x)) S)
    | none => .err := by
    cases y <;> first | rfl | (cases x <;> rfl) | exact absurd rfl (hx _)
  rw [e, hs]
  show Ru (ck _ _) Q E = _
  rw [ru_ck, ru_ok]
theorem ru_notIn {x y : D} {ys : List D} (hs : seqOf S y = some ys) (hx : ∀ z, y ≠ .str z) : Ru (cmpR .notIn x y S) Q E = ((x.fz = true ∧ x.dp ≤ 63 ∧ D.fzs ys = true ∧ D.dps ys ≤ 63) ∧ Q (.bl (!(ys.any fun z => z.eqv x))) S) := by
  have e : cmpR .notIn x y S = match seqOf S y with
    | some ys => ck (x.fz = true ∧ x.dp ≤ 63 ∧ D.fzs ys = true ∧ D.dps ys ≤ 63) (R.ok (D.bl (!(ys.any fun z => z.eqv x))) S)
    | none => .err := by
    cases y <;> first | rfl | (cases x <;> rfl) | exact absurd rfl (hx _)
  rw [e, hs]
  show Ru (ck _ _) Q E = _
  rw [ru_ck, ru_ok]
theorem idx_tup0 {x : D} : idxR (.tup (x :: xs)) (.int 0) S = .ok x S := rfl
instance {x : D} : Res (idxR (.tup (x :: xs)) (.int 0) S) (.ok x S) := ⟨idx_tup0⟩
theorem idx_tup1 {x y : D} : idxR (.tup (x :: y :: xs)) (.int 1) S = .ok y S := rfl
instance {x y : D} : Res (idxR (.tup (x :: y :: xs)) (.int 1) S) (.ok y S) := ⟨idx_tup1⟩
theorem idx_tup2 {x y z : D} : idxR (.tup (x :: y :: z :: xs)) (.int 2) S = .ok z S := rfl
instance {x y z : D} : Res (idxR (.tup (x :: y :: z :: xs)) (.int 2) S) (.ok z S) := ⟨idx_tup2⟩
theorem idx_lst0 {x : D} : idxR (.lst (x :: xs)) (.int 0) S = .ok x S := rfl
instance {x : D} : Res (idxR (.lst (x :: xs)) (.int 0) S) (.ok x S) := ⟨idx_lst0⟩
theorem idx_lst1 {x y : D} : idxR (.lst (x :: y :: xs)) (.int 1) S = .ok y S := rfl
instance {x y : D} : Res (idxR (.lst (x :: y :: xs)) (.int 1) S) (.ok y S) := ⟨idx_lst1⟩
theorem idx_tup3 {x y z w : D} : idxR (.tup (x :: y :: z :: w :: xs)) (.int 3) S = .ok w S := rfl
instance {x y z w : D} : Res (idxR (.tup (x :: y :: z :: w :: xs)) (.int 3) S) (.ok w S) := ⟨idx_tup3⟩
theorem bi_lenT : biR .len [.tup xs] S = .ok (.int (xs.length : Nat)) S := rfl
instance  : Res (biR .len [.tup xs] S) (.ok (.int (xs.length : Nat)) S) := ⟨bi_lenT⟩
theorem bi_lenL : biR .len [.lst xs] S = .ok (.int (xs.length : Nat)) S := rfl
instance  : Res (biR .len [.lst xs] S) (.ok (.int (xs.length : Nat)) S) := ⟨bi_lenL⟩
theorem bi_lenC : biR .len [.scr xs] S = .ok (.int (xs.length : Nat)) S := rfl
instance  : Res (biR .len [.scr xs] S) (.ok (.int (xs.length : Nat)) S) := ⟨bi_lenC⟩
theorem bi_lenS : biR .len [.str z] S = .ok (.int (z.length : Nat)) S := rfl
instance  : Res (biR .len [.str z] S) (.ok (.int (z.length : Nat)) S) := ⟨bi_lenS⟩
theorem bi_lenB (h : cellAt S n = some (.lst xs)) : biR .len [.ref n] S = .ok (.int (xs.length : Nat)) S := by
  show (match (seqOf S (.ref n)).map (·.length) with | some n => R.ok (D.int (n : Nat)) S | none => .err) = _
  rw [seqOf_box h]
  rfl
theorem bi_tupT : biR .tuple1 [.tup xs] S = .ok (.tup xs) S := rfl
instance  : Res (biR .tuple1 [.tup xs] S) (.ok (.tup xs) S) := ⟨bi_tupT⟩
theorem bi_tupL : biR .tuple1 [.lst xs] S = .ok (.tup xs) S := rfl
instance  : Res (biR .tuple1 [.lst xs] S) (.ok (.tup xs) S) := ⟨bi_tupL⟩
theorem bi_listB {box : Bool} (h : cellAt S n = some (.lst xs)) : biR (.list1 box) [.ref n] S = mkL box xs S := by
  show (match seqOf S (.ref n) with | some xs => mkL box xs S | none => .err) = _
  rw [seqOf_box h]
theorem bi_min2 : biR .min2 [.int i, .int j] S = .ok (.int (if j < i then j else i)) S := rfl
instance  : Res (biR .min2 [.int i, .int j] S) (.ok (.int (if j < i then j else i)) S) := ⟨bi_min2⟩
theorem bi_max2 : biR .max2 [.int i, .int j] S = .ok (.int (if j > i then j else i)) S := rfl
instance  : Res (biR .max2 [.int i, .int j] S) (.ok (.int (if j > i then j else i)) S) := ⟨bi_max2⟩
theorem bi_abs : biR .abs [.int i] S = .ok (.int (if i < 0 then -i else i)) S := rfl
instance  : Res (biR .abs [.int i] S) (.ok (.int (if i < 0 then -i else i)) S) := ⟨bi_abs⟩
theorem bi_intI : biR .int1 [.int i] S = .ok (.int i) S := rfl
instance  : Res (biR .int1 [.int i] S) (.ok (.int i) S) := ⟨bi_intI⟩
theorem bi_intB : biR .int1 [.bl b] S = .ok (.int (if b then 1 else 0)) S := rfl
instance  : Res (biR .int1 [.bl b] S) (.ok (.int (if b then 1 else 0)) S) := ⟨bi_intB⟩
theorem mk_lst : mkL false xs S = .ok (.lst xs) S := rfl
instance  : Res (mkL false xs S) (.ok (.lst xs) S) := ⟨mk_lst⟩
theorem at_ref {c f : Nat} {fs : List (Nat × D)} (hc : cellAt S n = some (.ins c fs)) (hl : fs.lookup f = some d) : attrR (.ref n) f S = .ok d S := attr_ref hc hl
theorem bm_okA (h : cellAt S n = some (.lst xs)) : bmOk .append (.ref n) S = true := by unfold bmOk; dsimp only; rw [h]
theorem bm_okI (h : cellAt S n = some (.lst xs)) : bmOk .insert (.ref n) S = true := by unfold bmOk; dsimp only; rw [h]
theorem bm_okR (h : cellAt S n = some (.lst xs)) : bmOk .remove (.ref n) S = true := by unfold bmOk; dsimp only; rw [h]
theorem bm_okP (h : cellAt S n = some (.lst xs)) : bmOk .pop1 (.ref n) S = true := by unfold bmOk; dsimp only; rw [h]
theorem bm_okC (h : cellAt S n = some (.lst xs)) : bmOk .clear (.ref n) S = true := by unfold bmOk; dsimp only; rw [h]
theorem bm_append (h : cellAt S n = some (.lst xs)) : bmR .append (.ref n) [d] S = ck (xs.length < sizeLine) (.ok .non (setAt S n (.lst (xs ++ [d])))) := by
  show (match cellAt S n with | some (.lst xs) => ck (xs.length < sizeLine) (R.ok D.non (setAt S n (.lst (xs ++ [d])))) | _ => .err) = _
  rw [h]
theorem cell_setS {c : Cell} (h : (cellAt S n).isSome = true) : cellAt (setAt S n c) n = some c := by
  refine cellAt_set1 ?_
  obtain ⟨c', h⟩ := Option.isSome_iff_exists.mp h
  exact cellAt_lt h
theorem cell_push {c : Option Cell} : cellAt (S ++ [c]) S.length = c := cellAt_push
end
end Iv
/-! the same as steps backwards (for the tactic in sx.txt) -/
namespace Iv
open PySem L2
section
variable {F : CE} {Q : D → Sto → Prop} {Qs : List D → Sto → Prop} {Qf : Fl → Sto → Prop} {Qe : Env → Sto → Prop} {Qb : Bool → Sto → Prop} {Qu : Unit → Sto → Prop} {Qi : Src × List D → Sto → Prop} {Qo : Option Int → Sto → Prop} {E : Exc → Sto → Prop} {ρ : Env} {S : Sto} {a b c e : Iv.E} {d x y : D} {es ifs : List Iv.E} {box : Bool} {own own1 : List Nat} {t t1 : Tg} {ts : List Tg} {it it1 : It} {st : St} {sts body els : List St} {i j : Int} {z z' : Str} {xs ys ds ps : List D} {n m k f : Nat} {A B : Prop} {kb : Bool} {fs : List (Nat × D)} {arr : List Ar} {cl : Nat}
theorem r_var (h : ρ[n]? = some (some d)) (q : Q d S) : Ru (ev F (.var n) ρ S) Q E := by rw [ru_var h]; exact q
theorem r_aug {op : Bop} (h : ρ[n]? = some (some d)) (q : Ru (ev F e ρ S) (fun y S => Ru (augR op d y S) (fun z S => Qf (.next (ρ.set n (some z))) S) (fun x S => Qf (.raised x ρ) S)) (fun x S => Qf (.raised x ρ) S)) : Ru (ex F (.aug n op e) ρ S) Qf E := by rw [ru_sAug h]; exact q
theorem r_tupA (h : seqOf S d = some xs) (hl : xs.length = ts.length) (q : Ru (asgs F ts xs ρ S) Qe E) : Ru (tupA F ts ρ (seqOf S d) S) Qe E := by rw [h, ru_tupA]; exact ⟨hl, q⟩
theorem r_tupsA (h : seqOf S d = some xs) (hl : Nat.ble 1 ts.length = true) (hl2 : Nat.ble ts.length (xs.length + 1) = true) (hl3 : Nat.ble xs.length 1000 = true) (q : Ru (asgs F ts (xs.take (ts.length - 1) ++ [.lst (xs.drop (ts.length - 1))]) ρ S) Qe E) : Ru (tupsA F ts ρ (seqOf S d) S) Qe E := by
  rw [h, ru_tupsA]
  exact ⟨⟨Nat.le_of_ble_eq_true hl, Nat.le_of_ble_eq_true hl2, Nat.le_trans (Nat.le_of_ble_eq_true hl3) (by decide)⟩, q⟩
theorem r_callR (h : pick ds arr = some ps) (q : Ru (F f ps S) Q E) : Ru (callR F f arr ds S) Q E := by unfold callR; rw [h]; exact q
theorem sz_of (h : Nat.ble n 1000 = true) : n ≤ sizeLine := Nat.le_trans (Nat.le_of_ble_eq_true h) (by decide)
theorem sz_le (h : n ≤ 1000) : n ≤ sizeLine := Nat.le_trans h (by decide)
theorem r_sz (h : Nat.ble n 1000 = true) (q : A) : n ≤ sizeLine ∧ A := ⟨sz_of h, q⟩
theorem r_itet (h : kb = true) (q : A) : if kb = true then A else B := by rw [if_pos h]; exact q
theorem r_itef (h : kb = false) (q : B) : if kb = true then A else B := by rw [if_neg (by rw [h]; exact Bool.false_ne_true)]; exact q
theorem r_mulI (c : mulOk i j) (q : Q (.int (i * j)) S) : Ru (binR box .mul (.int i) (.int j) S) Q E := by rw [bin_mulI, ru_ck, ru_ok]; exact ⟨c, q⟩
theorem r_divI (c : 0 < j ∧ j < 1073741824) (q : Q (.int (i / j)) S) : Ru (binR box .div (.int i) (.int j) S) Q E := by rw [bin_divI, ru_ck, ru_ok]; exact ⟨c, q⟩
theorem r_modI (c : 0 < j) (q : Q (.int (i % j)) S) : Ru (binR box .mod (.int i) (.int j) S) Q E := by rw [bin_modI, ru_ck, ru_ok]; exact ⟨c, q⟩
theorem r_addT (c : Nat.ble (xs.length + ys.length) 1000 = true) (q : Q (.tup (xs ++ ys)) S) : Ru (binR box .add (.tup xs) (.tup ys) S) Q E := by rw [bin_addT, ru_ck, ru_ok]; exact ⟨sz_of c, q⟩
theorem r_at (hc : cellAt S n = some (.ins cl fs)) (hl : fs.lookup f = some d) (q : Q d S) : Ru (attrR (.ref n) f S) Q E := Ru.eq (at_ref hc hl) q
theorem r_atI (hl : fs.lookup f = some d) (q : Q d S) : Ru (attrR (.ins cl fs) f S) Q E := by
  refine Ru.eq (a := d) (S := S) ?_ q
  show (match fs.lookup f with | some d => R.ok d S | none => .err) = _
  rw [hl]
theorem r_meth {ms : List (Nat × Nat × List Ar)} (hc : cellAt S n = some (.ins cl fs)) (hm : ms.lookup cl = some (f, arr)) (q : Ru (evs F es ρ S) (fun xs S => Ru (callR F f arr (.ref n :: xs) S) Q E) E) : Ru (methR F ms es ρ (.ref n) ((clsOf S (.ref n)).bind fun c => ms.lookup c) S) Q E := by
  rw [cls_ref hc, Option.bind_some, hm, ru_methR]
  exact q
theorem r_methI {ms : List (Nat × Nat × List Ar)} (hm : ms.lookup cl = some (f, arr)) (q : Ru (evs F es ρ S) (fun xs S => Ru (callR F f arr (.ins cl fs :: xs) S) Q E) E) : Ru (methR F ms es ρ (.ins cl fs) ((clsOf S (.ins cl fs)).bind fun c => ms.lookup c) S) Q E := by
  show Ru (methR F ms es ρ (.ins cl fs) ((some cl).bind fun c => ms.lookup c) S) Q E
  rw [Option.bind_some, hm, ru_methR]
  exact q
theorem r_oR {α : Type} {o : Option α} {w : α} {Qx : α → Sto → Prop} (h : o = some w) (q : Qx w S) : Ru (oR o S) Qx E := by rw [h, ru_oR]; exact q
theorem r_walkB {Qx : Src × List D → Sto → Prop} (h : cellAt S n = some (.lst xs)) (q : Qx (.box n xs, xs) S) : Ru (oR (walkOf S (.ref n)) S) Qx E := r_oR (walk_box h) q
theorem r_enumR {o : Option (Src × List D)} {w : Src × List D} (h : o = some w) (q : Qi (w.1, enumD 0 w.2) S) : Ru (enumR o none S) Qi E := by rw [h, ru_enumR]; exact q
theorem r_enumB (h : cellAt S n = some (.lst xs)) (q : Qi (.box n xs, enumD 0 xs) S) : Ru (enumR (walkL S (.ref n)) none S) Qi E := r_enumR (walkL_box h) q
theorem r_enumSR {o : Option (Src × List D)} {w : Src × List D} (h : o = some w) (c : smallI j) (q : Qi (w.1, enumD j w.2) S) : Ru (enumSR o (.int j) S) Qi E := by rw [h, ru_enumSR]; exact ⟨c, q⟩
theorem r_enumSB (h : cellAt S n = some (.lst xs)) (c : smallI j) (q : Qi (.box n xs, enumD j xs) S) : Ru (enumSR (walkL S (.ref n)) (.int j) S) Qi E := r_enumSR (walkL_box h) c q
theorem r_rng1R (c : smallI j) (q : Qi (.fix, rngD 0 j.toNat) S) : Ru (rng1R (.int j) S) Qi E := by rw [ru_rng1R]; exact ⟨c, q⟩
theorem r_rng2R (c : smallI i ∧ smallI j) (q : Qi (.fix, rngD i (j - i).toNat) S) : Ru (rng2R (.int i) (.int j) S) Qi E := by rw [ru_rng2R]; exact ⟨c, q⟩
theorem r_isitR {tys : List String} {o : Option Bool} (h : o = some kb) (hl : Nat.ble tys.length 100 = true) (q : Q (.bl kb) S) : Ru (isitR tys o S) Q E := by rw [h, ru_isitR]; exact ⟨Nat.le_of_ble_eq_true hl, q⟩
theorem r_isi {ty : String} (h : (tyOf S x).bind (fun a => kitB a ty) = some kb) (q : Q (.bl kb) S) : Ru (biR .isi [x, .ty ty] S) Q E := by
  refine Ru.eq (a := .bl kb) (S := S) ?_ q
  show (match (tyOf S x).bind fun a => kitB a ty with | some b => R.ok (D.bl b) S | none => .err) = _
  rw [h]
theorem r_listB (h : cellAt S n = some (.lst xs)) (q : Ru (mkL box xs S) Q E) : Ru (biR (.list1 box) [.ref n] S) Q E := by rw [bi_listB h]; exact q
theorem r_listL (q : Ru (mkL box xs S) Q E) : Ru (biR (.list1 box) [.lst xs] S) Q E := q
instance  : Stp1 (Ru (biR (.list1 box) [.lst xs] S) Q E) (Ru (mkL box xs S) Q E) := ⟨r_listL⟩
theorem r_listT (q : Ru (mkL box xs S) Q E) : Ru (biR (.list1 box) [.tup xs] S) Q E := q
instance  : Stp1 (Ru (biR (.list1 box) [.tup xs] S) Q E) (Ru (mkL box xs S) Q E) := ⟨r_listT⟩
theorem r_addL (c : xs.length + ys.length ≤ 1000) (q : Ru (mkL box (xs ++ ys) S) Q E) : Ru (binR box .add (.lst xs) (.lst ys) S) Q E := by rw [bin_addL, ru_ck]; exact ⟨sz_le c, q⟩
theorem r_lenB (h : cellAt S n = some (.lst xs)) (q : Q (.int (xs.length : Nat)) S) : Ru (biR .len [.ref n] S) Q E := Ru.eq (bi_lenB h) q
theorem r_sortL (c : D.fzs xs = true ∧ D.dps xs ≤ 60 ∧ sortable (D.pys xs)) (q : Ru (mkL box (sortD xs) S) Q E) : Ru (biR (.sorted1 box) [.lst xs] S) Q E := by
  show Ru (ck (D.fzs xs = true ∧ D.dps xs ≤ 60 ∧ sortable (D.pys xs)) (mkL box (sortD xs) S)) Q E
  rw [ru_ck]
  exact ⟨c, q⟩
theorem r_slcL {lo hi : Option Int} (q : Ru (mkL box (cutD xs lo hi) S) Q E) : Ru (slcR box (.lst xs) lo hi S) Q E := q
instance {lo hi : Option Int} : Stp1 (Ru (slcR box (.lst xs) lo hi S) Q E) (Ru (mkL box (cutD xs lo hi) S) Q E) := ⟨r_slcL⟩
theorem r_slcT {lo hi : Option Int} (q : Q (.tup (cutD xs lo hi)) S) : Ru (slcR box (.tup xs) lo hi S) Q E := Ru.eq rfl q
instance {lo hi : Option Int} : Stp1 (Ru (slcR box (.tup xs) lo hi S) Q E) (Q (.tup (cutD xs lo hi)) S) := ⟨r_slcT⟩
theorem r_slcB {lo hi : Option Int} (h : cellAt S n = some (.lst xs)) (q : Ru (mkL box (cutD xs lo hi) S) Q E) : Ru (slcR box (.ref n) lo hi S) Q E := by
  show Ru (match seqOf S (.ref n) with | some xs => mkL box (cutD xs lo hi) S | none => .err) Q E
  rw [seqOf_box h]
  exact q
/-- a new box -/
theorem r_new (q : ∀ S' n, n = S.length → cellAt S' n = some (.lst xs) → Keep [] S S' → Q (.ref n) S') : Ru (mkL true xs S) Q E := Ru.eq rfl (q _ _ rfl cell_push Keep.push)
theorem r_append (h : cellAt S n = some (.lst xs)) (hl : xs.length < 1000) (q : ∀ S', S'.length = S.length → cellAt S' n = some (.lst (xs ++ [d])) → Keep [n] S S' → Q .non S') : Ru (bmR .append (.ref n) [d] S) Q E := by
  rw [bm_append h, ru_ck, ru_ok]
  exact ⟨Nat.lt_of_lt_of_le hl (by decide), q _ setAt_len (cell_setS (by rw [h]; rfl)) Keep.set⟩
/-- ways join behind a statement -/
theorem Ru.join (P : Env → Sto → Prop) (h : Ru (Iv.ex F st ρ S) (fun w S' => ∃ ρ', w = .next ρ' ∧ P ρ' S') noE) (q : ∀ ρ' S', P ρ' S' → Ru (exs F sts ρ' S') Qf E) : Ru (Iv.ex F st ρ S) (nxQ F sts Qf E) noE := by
  refine h.imp (fun w S' ⟨ρ', e, p⟩ => ?_) fun _ _ h => h
  rw [e]
  exact q ρ' S' p
end
instance {α : Type} {l : List α} {f : α → Bool} {S : Sto} : Res (biR .all [.lst (l.map fun x => .bl (f x))] S) (.ok (.bl (l.all f)) S) := ⟨bi_all⟩
end Iv

/-! ### dicts and sets, backwards -/
namespace Iv
open PySem L2
section
variable {F : CE} {Q : D → Sto → Prop} {Qs : List D → Sto → Prop} {Qe : Env → Sto → Prop} {Qu : Unit → Sto → Prop} {E : Exc → Sto → Prop} {ρ : Env} {S : Sto} {a b c e e2 : Iv.E} {d x y : D} {ifs : List Iv.E} {own : List Nat} {t : Tg} {it : It} {n : Nat} {κ : L2.Key} {kvs : List (L2.Key × D)} {ys : List D} {neg : Bool} {Qi : Src × List D → Sto → Prop} {S' : Sto}
theorem ru_slst {box : Bool} : Ru (ev F (.slst box a b) ρ S) Q E = Ru (ev F a ρ S) (fun x S => Ru (ev F b ρ S) (fun y S => Ru (slstR box x y S) Q E) E) E := by rw [ev]; simp only [ru_bind]
instance {box : Bool} : Stp1 (Ru (ev F (.slst box a b) ρ S) Q E) (Ru (ev F a ρ S) (fun x S => Ru (ev F b ρ S) (fun y S => Ru (slstR box x y S) Q E) E) E) := ⟨ru_slst.mpr⟩
theorem ru_dnew : Ru (ev F .dnew ρ S) Q E = Q (.ref S.length) (S ++ [some (.dct [])]) := by rw [ev, ru_ok]
instance  : Stp1 (Ru (ev F .dnew ρ S) Q E) (Q (.ref S.length) (S ++ [some (.dct [])])) := ⟨ru_dnew.mpr⟩
theorem ru_didx : Ru (ev F (.didx a b) ρ S) Q E = Ru (ev F a ρ S) (fun x S => Ru (ev F b ρ S) (fun y S => Ru (didxR x y S) Q E) E) E := by rw [ev]; simp only [ru_bind]
instance  : Stp1 (Ru (ev F (.didx a b) ρ S) Q E) (Ru (ev F a ρ S) (fun x S => Ru (ev F b ρ S) (fun y S => Ru (didxR x y S) Q E) E) E) := ⟨ru_didx.mpr⟩
theorem ru_din : Ru (ev F (.din neg a b) ρ S) Q E = Ru (ev F a ρ S) (fun y S => Ru (ev F b ρ S) (fun x S => Ru (dinR neg y x S) Q E) E) E := by rw [ev]; simp only [ru_bind]
instance  : Stp1 (Ru (ev F (.din neg a b) ρ S) Q E) (Ru (ev F a ρ S) (fun y S => Ru (ev F b ρ S) (fun x S => Ru (dinR neg y x S) Q E) E) E) := ⟨ru_din.mpr⟩
theorem ru_dget2 : Ru (ev F (.dget2 a b c) ρ S) Q E = Ru (ev F a ρ S) (fun x S => (drdOf S x).isSome = true ∧ Ru (ev F b ρ S) (fun y S => Ru (ev F c ρ S) (fun v S => Ru (dget2R x y v S) Q E) E) E) E := by rw [ev]; simp only [ru_bind, ru_ck]
instance  : Stp1 (Ru (ev F (.dget2 a b c) ρ S) Q E) (Ru (ev F a ρ S) (fun x S => (drdOf S x).isSome = true ∧ Ru (ev F b ρ S) (fun y S => Ru (ev F c ρ S) (fun v S => Ru (dget2R x y v S) Q E) E) E) E) := ⟨ru_dget2.mpr⟩
theorem ru_dpop : Ru (ev F (.dpop a b) ρ S) Q E = Ru (ev F a ρ S) (fun x S => (dctOf S x).isSome = true ∧ Ru (ev F b ρ S) (fun y S => Ru (dpopR x y S) Q E) E) E := by rw [ev]; simp only [ru_bind, ru_ck]
instance  : Stp1 (Ru (ev F (.dpop a b) ρ S) Q E) (Ru (ev F a ρ S) (fun x S => (dctOf S x).isSome = true ∧ Ru (ev F b ρ S) (fun y S => Ru (dpopR x y S) Q E) E) E) := ⟨ru_dpop.mpr⟩
theorem ru_dsort {box : Bool} : Ru (ev F (.dsort box a) ρ S) Q E = Ru (ev F a ρ S) (fun x S => Ru (dsortR box x S) Q E) E := by rw [ev]; simp only [ru_bind]
instance {box : Bool} : Stp1 (Ru (ev F (.dsort box a) ρ S) Q E) (Ru (ev F a ρ S) (fun x S => Ru (dsortR box x S) Q E) E) := ⟨ru_dsort.mpr⟩
theorem ru_dcomp : Ru (ev F (.dcomp own t it ifs e e2) ρ S) Q E = Ru (evIt F it ρ S) (fun w S => Ru (lcLoop w.1 (dcStep F own t ifs e e2 ρ) w.2 S) (fun ys S => Ru (mkDct ys S) Q E) E) E := by rw [ev]; simp only [ru_bind]
instance  : Stp1 (Ru (ev F (.dcomp own t it ifs e e2) ρ S) Q E) (Ru (evIt F it ρ S) (fun w S => Ru (lcLoop w.1 (dcStep F own t ifs e e2 ρ) w.2 S) (fun ys S => Ru (mkDct ys S) Q E) E) E) := ⟨ru_dcomp.mpr⟩
theorem ru_dcStep : Ru (dcStep F own t ifs e e2 ρ d S) Qs E = Ru (asg F t d (wipeE ρ own) S) (fun ρ1 S => Ru (evIfs F ifs ρ1 S) (fun k S => if k = true then Ru (ev F e ρ1 S) (fun y S => Ru (ev F e2 ρ1 S) (fun z S => Qs [.tup [y, z]] S) E) E else Qs [] S) E) E := by
  unfold dcStep
  simp only [ru_bind, ru_ite, ru_ok]
instance  : Stp1 (Ru (dcStep F own t ifs e e2 ρ d S) Qs E) (Ru (asg F t d (wipeE ρ own) S) (fun ρ1 S => Ru (evIfs F ifs ρ1 S) (fun k S => if k = true then Ru (ev F e ρ1 S) (fun y S => Ru (ev F e2 ρ1 S) (fun z S => Qs [.tup [y, z]] S) E) E else Qs [] S) E) E) := ⟨ru_dcStep.mpr⟩
theorem ru_lenSC : Ru (ev F (.lenSC own t it ifs e) ρ S) Q E = Ru (evIt F it ρ S) (fun w S => Ru (lcLoop w.1 (lcStep F own t ifs e ρ) w.2 S) (fun ys S => Ru (lenSCR ys S) Q E) E) E := by rw [ev]; simp only [ru_bind]
instance  : Stp1 (Ru (ev F (.lenSC own t it ifs e) ρ S) Q E) (Ru (evIt F it ρ S) (fun w S => Ru (lcLoop w.1 (lcStep F own t ifs e ρ) w.2 S) (fun ys S => Ru (lenSCR ys S) Q E) E) E) := ⟨ru_lenSC.mpr⟩
theorem ru_sortSC : Ru (ev F (.sortSC own t it ifs e) ρ S) Q E = Ru (evIt F it ρ S) (fun w S => Ru (lcLoop w.1 (lcStep F own t ifs e ρ) w.2 S) (fun ys S => Ru (sortSCR ys S) Q E) E) E := by rw [ev]; simp only [ru_bind]
instance  : Stp1 (Ru (ev F (.sortSC own t it ifs e) ρ S) Q E) (Ru (evIt F it ρ S) (fun w S => Ru (lcLoop w.1 (lcStep F own t ifs e ρ) w.2 S) (fun ys S => Ru (sortSCR ys S) Q E) E) E) := ⟨ru_sortSC.mpr⟩
theorem ru_aDidx : Ru (asg F (.didx a b) d ρ S) Qe E = Ru (ev F a ρ S) (fun x S => Ru (ev F b ρ S) (fun y S => Ru (dputR x y d S) (fun _ S => Qe ρ S) E) E) E := by rw [asg]; simp only [ru_bind, ru_ok]
instance  : Stp1 (Ru (asg F (.didx a b) d ρ S) Qe E) (Ru (ev F a ρ S) (fun x S => Ru (ev F b ρ S) (fun y S => Ru (dputR x y d S) (fun _ S => Qe ρ S) E) E) E) := ⟨ru_aDidx.mpr⟩
theorem ru_lenS : Ru (ev F (.lenS a) ρ S) Q E = Ru (ev F a ρ S) (fun x S => Ru (lenSR (seqOf S x) S) Q E) E := by rw [ev]; simp only [ru_bind]
instance  : Stp1 (Ru (ev F (.lenS a) ρ S) Q E) (Ru (ev F a ρ S) (fun x S => Ru (lenSR (seqOf S x) S) Q E) E) := ⟨ru_lenS.mpr⟩
theorem ru_sortS : Ru (ev F (.sortS a) ρ S) Q E = Ru (ev F a ρ S) (fun x S => Ru (sortSR (seqOf S x) S) Q E) E := by rw [ev]; simp only [ru_bind]
instance  : Stp1 (Ru (ev F (.sortS a) ρ S) Q E) (Ru (ev F a ρ S) (fun x S => Ru (sortSR (seqOf S x) S) Q E) E) := ⟨ru_sortS.mpr⟩
theorem dct_ref (h : cellAt S n = some (.dct kvs)) : dctOf S (.ref n) = some (n, kvs) := by unfold dctOf; dsimp only; rw [h]
theorem dct_some (h : cellAt S n = some (.dct kvs)) : (dctOf S (.ref n)).isSome = true := by rw [dct_ref h]; rfl
theorem drd_ref (h : cellAt S n = some (.dct kvs)) : drdOf S (.ref n) = some kvs := by unfold drdOf; dsimp only; rw [h]
theorem drd_some (h : cellAt S n = some (.dct kvs)) : (drdOf S (.ref n)).isSome = true := by rw [drd_ref h]; rfl
theorem dlk_ref (h : cellAt S n = some (.dlk kvs)) : dlkOf S (.ref n) = some (n, kvs) := by unfold dlkOf; dsimp only; rw [h]
theorem r_didx (h : cellAt S n = some (.dct kvs)) (hk : keyD y = some κ) (hg : dGet kvs κ = some d) (q : Q d S) : Ru (didxR (.ref n) y S) Q E := by
  unfold didxR
  rw [drd_ref h, hk]
  dsimp only
  rw [hg, ru_ok]
  exact q
theorem r_din (h : cellAt S n = some (.dct kvs)) (hk : keyD y = some κ) (q : Q (.bl (if neg then !(dGet kvs κ).isSome else (dGet kvs κ).isSome)) S) : Ru (dinR neg y (.ref n) S) Q E := by
  unfold dinR
  rw [drd_ref h, hk, ru_ok]
  exact q
theorem r_dget2 (h : cellAt S n = some (.dct kvs)) (hk : keyD y = some κ) (q : Q ((dGet kvs κ).getD d) S) : Ru (dget2R (.ref n) y d S) Q E := by
  unfold dget2R
  rw [drd_ref h, hk, ru_ok]
  exact q
theorem r_mkDct {es : List (L2.Key × D)} (h : pairsD ys = some es) (hl : ys.length < 1000) (q : ∀ S' n, n = S.length → cellAt S' n = some (.dct (mergeD es)) → Keep [] S S' → Q (.ref n) S') : Ru (mkDct ys S) Q E := by
  unfold mkDct
  rw [h]
  dsimp only
  rw [ru_ck, ru_ok]
  exact ⟨Nat.lt_of_lt_of_le hl (by decide), q _ _ rfl cell_push Keep.push⟩
theorem r_lenSC {ks : List L2.Key} (h : keysD ys = some ks) (hl : ys.length < 1000) (q : Q (.int (manyK ks)) S) : Ru (lenSCR ys S) Q E := by
  unfold lenSCR
  rw [h]
  dsimp only
  rw [ru_ck, ru_ok]
  exact ⟨hl, q⟩
theorem r_lenS {o : Option (List D)} {ks : List L2.Key} (ho : o = some ys) (h : keysD ys = some ks) (hl : ys.length < 1000) (q : Q (.int (manyK ks)) S) : Ru (lenSR o S) Q E := by
  subst ho
  exact r_lenSC h hl q
theorem bm_okN {xs : List D} (h : lstOf S x = some xs) : bmOk .count x S = true := by unfold bmOk; cases x <;> first | (dsimp only; rw [h]; rfl) | cases h
/-! walked dicts, made tuples, displays, tries that raise nothing, o.f op= e -/
def itemsR (o : Option (Nat × List (L2.Key × D))) (S : Sto) : R (Src × List D) := match o with
  | some p => ck (mixK p.2 = true) (.ok (Src.dlk p.1 p.2, p.2.map fun kv => D.tup [keyV kv.1, kv.2]) S)
  | none => .err
theorem ru_items : Ru (evIt F (.items a) ρ S) Qi E = Ru (ev F a ρ S) (fun x S => Ru (itemsR (dlkOf S x) S) Qi E) E := by
  rw [evIt, ru_bind]
  congr 1 <;> (funext x S; cases dlkOf S x <;> rfl)
instance  : Stp1 (Ru (evIt F (.items a) ρ S) Qi E) (Ru (ev F a ρ S) (fun x S => Ru (itemsR (dlkOf S x) S) Qi E) E) := ⟨ru_items.mpr⟩
theorem ru_keys : Ru (evIt F (.keys a) ρ S) Qi E = Ru (ev F a ρ S) (fun x S => Ru (oR ((dlkOf S x).map fun p => (Src.dlk p.1 p.2, p.2.map fun kv => keyV kv.1)) S) Qi E) E := by
  rw [evIt, ru_bind]
  congr 1 <;> (funext x S; cases dlkOf S x <;> rfl)
instance  : Stp1 (Ru (evIt F (.keys a) ρ S) Qi E) (Ru (ev F a ρ S) (fun x S => Ru (oR ((dlkOf S x).map fun p => (Src.dlk p.1 p.2, p.2.map fun kv => keyV kv.1)) S) Qi E) E) := ⟨ru_keys.mpr⟩
theorem r_itemsB (h : cellAt S n = some (.dlk kvs)) (mk : mixK kvs = true) (q : Qi (.dlk n kvs, kvs.map fun kv => .tup [keyV kv.1, kv.2]) S) : Ru (itemsR (dlkOf S (.ref n)) S) Qi E := by
  rw [dlk_ref h]
  unfold itemsR
  dsimp only
  rw [ru_ck, ru_ok]
  exact ⟨mk, q⟩
theorem r_keysB (h : cellAt S n = some (.dlk kvs)) (q : Qi (.dlk n kvs, kvs.map fun kv => keyV kv.1) S) : Ru (oR ((dlkOf S (.ref n)).map fun p => (Src.dlk p.1 p.2, p.2.map fun kv => keyV kv.1)) S) Qi E := by
  rw [dlk_ref h]
  exact ru_ok ▸ q
def ntupR (o : Option (List D)) (S : Sto) : R D := match o with
  | some xs => .ok (.ntp xs) S
  | none => .err
theorem ru_ntup : Ru (ev F (.ntup a) ρ S) Q E = Ru (ev F a ρ S) (fun x S => Ru (ntupR (lstOf S x) S) Q E) E := by
  rw [ev, ru_bind]
  congr 1 <;> (funext x S; cases lstOf S x <;> rfl)
instance  : Stp1 (Ru (ev F (.ntup a) ρ S) Q E) (Ru (ev F a ρ S) (fun x S => Ru (ntupR (lstOf S x) S) Q E) E) := ⟨ru_ntup.mpr⟩
theorem r_ntupL (q : Q (.ntp ys) S) : Ru (ntupR (lstOf S (.lst ys)) S) Q E := ru_ok ▸ q
instance  : Stp1 (Ru (ntupR (lstOf S (.lst ys)) S) Q E) (Q (.ntp ys) S) := ⟨r_ntupL⟩
def untupR (x : D) (S : Sto) : R D := match x with
  | .ntp xs => .ok (.tup xs) S
  | _ => .err
theorem ru_untup : Ru (ev F (.untup a) ρ S) Q E = Ru (ev F a ρ S) (fun x S => Ru (untupR x S) Q E) E := by
  rw [ev, ru_bind]
  congr 1 <;> (funext x S; cases x <;> rfl)
instance  : Stp1 (Ru (ev F (.untup a) ρ S) Q E) (Ru (ev F a ρ S) (fun x S => Ru (untupR x S) Q E) E) := ⟨ru_untup.mpr⟩
theorem r_untup (q : Q (.tup ys) S) : Ru (untupR (.ntp ys) S) Q E := ru_ok ▸ q
instance  : Stp1 (Ru (untupR (.ntp ys) S) Q E) (Q (.tup ys) S) := ⟨r_untup⟩
theorem ru_tidx : Ru (ev F (.tidx a b) ρ S) Q E = Ru (ev F a ρ S) (fun x S => isNtp x = true ∧ Ru (ev F b ρ S) (fun y S => Ru (tidxR x y S) Q E) E) E := by
  rw [ev]
  simp only [ru_bind, ru_ck]
instance  : Stp1 (Ru (ev F (.tidx a b) ρ S) Q E) (Ru (ev F a ρ S) (fun x S => isNtp x = true ∧ Ru (ev F b ρ S) (fun y S => Ru (tidxR x y S) Q E) E) E) := ⟨ru_tidx.mpr⟩
theorem ru_ddisp {ks : List L2.Key} {es : List Iv.E} : Ru (ev F (.ddisp ks es) ρ S) Q noE = Ru (evs F es ρ S) (fun ds S => (ks.length = ds.length ∧ ks.length ≤ 15) ∧ Q (.ref S.length) (S ++ [some (.dct (mergeD (ks.zip ds)))])) noE := by
  rw [ev]
  cases evs F es ρ S with
  | ok ds S' => rw [ru_ok]; unfold dispR; dsimp only; rw [ru_ck, ru_ok]
  | exc x S' => rw [ru_exc]; unfold dispR; exact propext ⟨fun h => (ru_err ▸ h : False).elim, fun h => h.elim⟩
  | err => rw [show dispR ks R.err = R.err from rfl, ru_err, ru_err]
theorem r_ddisp {ks : List L2.Key} {es : List Iv.E} (q : Ru (evs F es ρ S) (fun ds S => (ks.length = ds.length ∧ ks.length ≤ 15) ∧ ∀ S' n, n = S.length → cellAt S' n = some (.dct (mergeD (ks.zip ds))) → Keep [] S S' → Q (.ref n) S') noE) : Ru (ev F (.ddisp ks es) ρ S) Q E := by
  have : Ru (ev F (.ddisp ks es) ρ S) Q noE := by
    rw [ru_ddisp]
    exact q.use fun ds S h => ⟨h.1, h.2 _ _ rfl cell_push Keep.push⟩
  exact this.use fun _ _ h => h
theorem ru_blk {b : List St} {Qf : Fl → Sto → Prop} : Ru (ex F (.blk b) ρ S) Qf E = Ru (exs F b ρ S) Qf E := by rw [ex]
instance {b : List St} {Qf : Fl → Sto → Prop} : Stp1 (Ru (ex F (.blk b) ρ S) Qf E) (Ru (exs F b ρ S) Qf E) := ⟨ru_blk.mpr⟩
noncomputable def faugQ (F : CE) (f : Nat) (op : Bop) (e : Iv.E) (ρ : Env) (o : Option (Nat × Nat × List (Nat × D))) (S : Sto) : R Unit := match o with
  | some p => match p.2.2.lookup f with
    | some old => (ev F e ρ S).bind fun y S => (augR op old y S).bind fun z S => faugPut p.1 p.2.1 f z S
    | none => .err
  | none => .err
theorem ru_faug {f : Nat} {op : Bop} {Qf : Fl → Sto → Prop} : Ru (ex F (.faug a f op e) ρ S) Qf E = Ru (ev F a ρ S) (fun x S => Ru (faugQ F f op e ρ (insOf S x) S) (fun _ S => Qf (.next ρ) S) (fun x S => Qf (.raised x ρ) S)) (fun x S => Qf (.raised x ρ) S) := by
  rw [ex, ru_go, ru_bind]
  simp only [ru_ok]
  rfl
instance {f : Nat} {op : Bop} {Qf : Fl → Sto → Prop} : Stp1 (Ru (ex F (.faug a f op e) ρ S) Qf E) (Ru (ev F a ρ S) (fun x S => Ru (faugQ F f op e ρ (insOf S x) S) (fun _ S => Qf (.next ρ) S) (fun x S => Qf (.raised x ρ) S)) (fun x S => Qf (.raised x ρ) S)) := ⟨ru_faug.mpr⟩
/-! len of a dict, a module's written dicts -/
def dlenR (x : D) (S : Sto) : R D := match dctOf S x with
  | some p => .ok (.int (p.2.length : Nat)) S
  | none => .err
theorem ru_dlen : Ru (ev F (.dlen a) ρ S) Q E = Ru (ev F a ρ S) (fun x S => Ru (dlenR x S) Q E) E := by
  rw [ev, ru_bind]
  rfl
instance  : Stp1 (Ru (ev F (.dlen a) ρ S) Q E) (Ru (ev F a ρ S) (fun x S => Ru (dlenR x S) Q E) E) := ⟨ru_dlen.mpr⟩
theorem r_dlen (h : cellAt S n = some (.dct kvs)) (q : Q (.int (kvs.length : Nat)) S) : Ru (dlenR (.ref n) S) Q E := by
  unfold dlenR
  rw [dct_ref h]
  exact ru_ok ▸ q
theorem ru_klook {ks : List (Str × Int)} : Ru (ev F (.klook ks a) ρ S) Q E = Ru (ev F a ρ S) (fun y S => Ru (klookR ks y S) Q E) E := by rw [ev, ru_bind]
instance {ks : List (Str × Int)} : Stp1 (Ru (ev F (.klook ks a) ρ S) Q E) (Ru (ev F a ρ S) (fun y S => Ru (klookR ks y S) Q E) E) := ⟨ru_klook.mpr⟩
theorem ru_kget {ks : List (Str × Int)} : Ru (ev F (.kget ks a b) ρ S) Q E = Ru (ev F a ρ S) (fun y S => Ru (ev F b ρ S) (fun z S => Ru (kgetR ks y z S) Q E) E) E := by rw [ev]; simp only [ru_bind]
instance {ks : List (Str × Int)} : Stp1 (Ru (ev F (.kget ks a b) ρ S) Q E) (Ru (ev F a ρ S) (fun y S => Ru (ev F b ρ S) (fun z S => Ru (kgetR ks y z S) Q E) E) E) := ⟨ru_kget.mpr⟩
theorem r_klook {ks : List (Str × Int)} {z : Str} {i : Int} (h : ks.lookup z = some i) (q : Q (.int i) S) : Ru (klookR ks (.str z) S) Q E := by
  unfold klookR
  dsimp only
  rw [h]
  exact ru_ok ▸ q
theorem r_kget {ks : List (Str × Int)} {z : Str} {i : Int} (h : ks.lookup z = some i) (q : Q (.int i) S) : Ru (kgetR ks (.str z) d S) Q E := by
  unfold kgetR
  dsimp only
  rw [h]
  exact ru_ok ▸ q
theorem r_kgetN {ks : List (Str × Int)} {z : Str} (h : ks.lookup z = none) (q : Q d S) : Ru (kgetR ks (.str z) d S) Q E := by
  unfold kgetR
  dsimp only
  rw [h]
  exact ru_ok ▸ q
def zipwR (x y : D) (o o' : Option (List D)) (S : Sto) : R (Src × List D) := match o, o' with
  | some xs, some ys => ck (isRef x = false ∧ isRef y = false ∧ kOf x = kOf y) (.ok (.fix, zipWD xs ys) S)
  | _, _ => .err
theorem ru_zipw : Ru (evIt F (.zipw a b) ρ S) Qi E = Ru (ev F a ρ S) (fun x S => Ru (ev F b ρ S) (fun y S => Ru (zipwR x y (seqOf S x) (seqOf S y) S) Qi E) E) E := by rw [evIt]; simp only [ru_bind]; congr 1 <;> (funext x S; congr 1 <;> (funext y S; cases seqOf S x <;> cases seqOf S y <;> rfl))
instance : Stp1 (Ru (evIt F (.zipw a b) ρ S) Qi E) (Ru (ev F a ρ S) (fun x S => Ru (ev F b ρ S) (fun y S => Ru (zipwR x y (seqOf S x) (seqOf S y) S) Qi E) E) E) := ⟨ru_zipw.mpr⟩
theorem r_zipwR {xs ys : List D} (h : isRef x = false ∧ isRef y = false ∧ kOf x = kOf y) (q : Qi (.fix, zipWD xs ys) S) : Ru (zipwR x y (some xs) (some ys) S) Qi E := by
  unfold zipwR
  rw [ru_ck, ru_ok]
  exact ⟨h, q⟩
theorem ru_aTupw {ts : List Tg} {xs : List D} : Ru (asg F (.tupw ts) (.wtp xs) ρ S) Qe E = (xs.length = ts.length ∧ Ru (asgs F ts xs ρ S) Qe E) := by rw [asg]; exact ru_ck
theorem r_tupw {ts : List Tg} {xs : List D} (h : xs.length = ts.length) (q : Ru (asgs F ts xs ρ S) Qe E) : Ru (asg F (.tupw ts) (.wtp xs) ρ S) Qe E := ru_aTupw ▸ ⟨h, q⟩
theorem r_slst {box : Bool} {n : Nat} {i : Int} (hi : i = 1 ∨ i = -1) (h : cellAt S n = some (.lst ys)) (q : Ru (mkL box (if i = 1 then ys else ys.reverse) S) Q E) : Ru (slstR box (.ref n) (.int i) S) Q E := by
  unfold slstR
  rw [show lstOf S (.ref n) = some ys from by show seqOf S (.ref n) = _; rw [seqOf_ref, h]]
  dsimp only
  rcases hi with rfl | rfl
  · rw [if_pos rfl] at q ⊢
    exact q
  · rw [if_neg (by decide), if_pos rfl]
    rw [if_neg (by decide)] at q
    exact q
theorem r_ktup {ks : List Str} (h : Nat.ble ks.length 1000 = true) (q : Q (.tup (ks.map .str)) S) : Ru (ev F (.ktup ks) ρ S) Q E := by
  rw [ev, ru_ck, ru_ok]
  exact ⟨Nat.le_of_ble_eq_true h, q⟩
theorem ru_dsortD {box : Bool} : Ru (ev F (.dsortD box a) ρ S) Q E = Ru (ev F a ρ S) (fun x S => Ru (dsortDR box x S) Q E) E := by rw [ev, ru_bind]
instance {box : Bool} : Stp1 (Ru (ev F (.dsortD box a) ρ S) Q E) (Ru (ev F a ρ S) (fun x S => Ru (dsortDR box x S) Q E) E) := ⟨ru_dsortD.mpr⟩
theorem ru_deq0 : Ru (ev F (.deq0 a) ρ S) Q E = Ru (ev F a ρ S) (fun x S => Ru (deq0R x S) Q E) E := by rw [ev, ru_bind]
instance  : Stp1 (Ru (ev F (.deq0 a) ρ S) Q E) (Ru (ev F a ρ S) (fun x S => Ru (deq0R x S) Q E) E) := ⟨ru_deq0.mpr⟩
theorem ru_dpairs : Ru (ev F (.dpairs a) ρ S) Q E = Ru (ev F a ρ S) (fun x S => Ru (dpairsR (lstOf S x) S) Q E) E := by rw [ev, ru_bind]
instance  : Stp1 (Ru (ev F (.dpairs a) ρ S) Q E) (Ru (ev F a ρ S) (fun x S => Ru (dpairsR (lstOf S x) S) Q E) E) := ⟨ru_dpairs.mpr⟩
theorem ru_dpairsT : Ru (ev F (.dpairsT a) ρ S) Q E = Ru (ev F a ρ S) (fun x S => Ru (dpairsR (ntpOf x) S) Q E) E := by rw [ev, ru_bind]
instance  : Stp1 (Ru (ev F (.dpairsT a) ρ S) Q E) (Ru (ev F a ρ S) (fun x S => Ru (dpairsR (ntpOf x) S) Q E) E) := ⟨ru_dpairsT.mpr⟩
theorem r_strpS {x : Str} (q : Q (.str x) S) : Ru (biR .strp [.str x] S) Q E := ru_ok ▸ q
instance {x : Str} : Stp1 (Ru (biR .strp [.str x] S) Q E) (Q (.str x) S) := ⟨r_strpS⟩
theorem strsD_id : ∀ zs : List Str, strsD (zs.map D.str) = some zs
  | [] => rfl
  | z :: zs => by
    rw [List.map_cons, strsD, strsD_id zs]
    rfl
theorem r_slcS {z : Str} {lo hi : Option Int} (q : Q (.str (L2.cutS z lo hi)) S) : Ru (slcR box (.str z) lo hi S) Q E := ru_ok ▸ q
instance {z : Str} {lo hi : Option Int} : Stp1 (Ru (slcR box (.str z) lo hi S) Q E) (Q (.str (L2.cutS z lo hi)) S) := ⟨r_slcS⟩
theorem r_dpairs {es : List (L2.Key × D)} {o : Option (List D)} (ho : o = some ys) (h : pairsD ys = some es) (hl : ys.length < 1000) (q : ∀ S' n, n = S.length → cellAt S' n = some (.dct (mergeD es)) → Keep [] S S' → Q (.ref n) S') : Ru (dpairsR o S) Q E := by
  subst ho
  exact r_mkDct h hl q
end
end Iv

/-! ### backwards: exceptions; t.count, (x,) * 2 -/
namespace Iv
open PySem L2
section
variable {F : CE} {a b e : E} {ρ : Env} {S : Sto} {x y d : D} {Q : D → Sto → Prop} {Qf : Fl → Sto → Prop} {E : Exc → Sto → Prop} {ys : List D} {n c : Nat} {fs : List (Nat × D)}
theorem ru_tcnt : Ru (ev F (.tcnt a b) ρ S) Q E = Ru (ev F a ρ S) (fun x S => isTx x = true ∧ Ru (ev F b ρ S) (fun y S => Ru (tcntR x y S) Q E) E) E := by
  rw [ev]
  simp only [ru_bind, ru_ck]
instance : Stp1 (Ru (ev F (.tcnt a b) ρ S) Q E) (Ru (ev F a ρ S) (fun x S => isTx x = true ∧ Ru (ev F b ρ S) (fun y S => Ru (tcntR x y S) Q E) E) E) := ⟨ru_tcnt.mpr⟩
theorem ru_tcnta : Ru (ev F (.tcnta a b) ρ S) Q E = Ru (ev F a ρ S) (fun x S => isTu x = true ∧ Ru (ev F b ρ S) (fun y S => Ru (tcntaR x y S) Q E) E) E := by
  rw [ev]
  simp only [ru_bind, ru_ck]
instance : Stp1 (Ru (ev F (.tcnta a b) ρ S) Q E) (Ru (ev F a ρ S) (fun x S => isTu x = true ∧ Ru (ev F b ρ S) (fun y S => Ru (tcntaR x y S) Q E) E) E) := ⟨ru_tcnta.mpr⟩
theorem r_tcnta (c : D.fzs ys = true ∧ y.fz = true ∧ D.dps ys ≤ 60 ∧ y.dp ≤ 60) (q : Q (.int (ys.countP fun z => z.eqv y : Nat)) S) : Ru (tcntaR (.tup ys) y S) Q E := by
  unfold tcntaR
  dsimp only
  rw [ru_ck, ru_ok]
  exact ⟨c, q⟩
theorem ru_twice : Ru (ev F (.twice a) ρ S) Q E = Ru (ev F a ρ S) (fun x S => Ru (twiceR x S) Q E) E := by rw [ev, ru_bind]
instance : Stp1 (Ru (ev F (.twice a) ρ S) Q E) (Ru (ev F a ρ S) (fun x S => Ru (twiceR x S) Q E) E) := ⟨ru_twice.mpr⟩
theorem r_twice (q : Q (.tup [d, d]) S) : Ru (twiceR (.tup [d]) S) Q E := ru_ok ▸ q
instance : Stp1 (Ru (twiceR (.tup [d]) S) Q E) (Q (.tup [d, d]) S) := ⟨r_twice⟩
/-! raising -/
theorem ru_raise0 : Ru (ex F (.raise0 c) ρ S) Qf E = Qf (.raised ⟨c, []⟩ ρ) S := by rw [ex, ru_ok]
instance : Stp1 (Ru (ex F (.raise0 c) ρ S) Qf E) (Qf (.raised ⟨c, []⟩ ρ) S) := ⟨ru_raise0.mpr⟩
theorem ru_raise1 {f : Nat} : Ru (ex F (.raise1 c f e) ρ S) Qf E = Ru (ev F e ρ S) (fun d S => Qf (.raised ⟨c, [(f, d)]⟩ ρ) S) (fun x S => Qf (.raised x ρ) S) := by rw [ex]; simp only [ru_go, ru_ok]
instance {f : Nat} : Stp1 (Ru (ex F (.raise1 c f e) ρ S) Qf E) (Ru (ev F e ρ S) (fun d S => Qf (.raised ⟨c, [(f, d)]⟩ ρ) S) (fun x S => Qf (.raised x ρ) S)) := ⟨ru_raise1.mpr⟩
/-! catching -/
/-- the end of an except suite -/
def endQ (i : Option Nat) (n : Nat) (Qf : Fl → Sto → Prop) (w : Fl) (S : Sto) : Prop := cellAt S n = some .hot ∧ match w with
  | .next ρ => Qf (.next (setO ρ i none)) (S.set n none)
  | .brk ρ => Qf (.brk (setO ρ i none)) (S.set n none)
  | .cont ρ => Qf (.cont (setO ρ i none)) (S.set n none)
  | .ret d => Qf (.ret d) (S.set n none)
  | .raised _ _ => False
theorem end_ret {i : Option Nat} (h : cellAt S n = some .hot) (q : Qf (.ret d) (S.set n none)) : endQ i n Qf (.ret d) S := ⟨h, q⟩
theorem end_next {i : Option Nat} (h : cellAt S n = some .hot) (q : Qf (.next (setO ρ i none)) (S.set n none)) : endQ i n Qf (.next ρ) S := ⟨h, q⟩
theorem ru_end {i : Option Nat} {r : R Fl} (h : Ru r (endQ i n Qf) noE) : Ru (endH i n r) Qf E := by
  cases r with
  | ok w S =>
    rw [ru_ok] at h
    obtain ⟨h1, h2⟩ := h
    unfold endH
    dsimp only
    rw [h1]
    dsimp only
    cases w with
    | next ρ => exact ru_ok ▸ h2
    | brk ρ => exact ru_ok ▸ h2
    | cont ρ => exact ru_ok ▸ h2
    | ret d => exact ru_ok ▸ h2
    | raised y ρ => exact h2.elim
  | exc y S => rw [ru_exc] at h; exact h.elim
  | err => rw [ru_err] at h; exact h.elim
/-- behind a try's body -/
def tryQ (F : CE) (yes no : List Nat) (i : Option Nat) (hb : List St) (Qf : Fl → Sto → Prop) (w : Fl) (S : Sto) : Prop := match w with
  | .raised y ρ => (y.c ∈ yes ∧ Ru (exs F hb (setO ρ i (some (.exv S.length y.c y.fs))) (S ++ [some .hot])) (endQ i S.length Qf) noE) ∨ (y.c ∉ yes ∧ y.c ∈ no ∧ Qf (.raised y ρ) S)
  | w => Qf w S
theorem r_tryx {yes no : List Nat} {i : Option Nat} {body hb : List St} (h : Ru (exs F body ρ S) (tryQ F yes no i hb Qf) noE) : Ru (ex F (.tryx body yes no i hb) ρ S) Qf E := by
  rw [ex]
  cases hr : exs F body ρ S with
  | ok w S1 =>
    rw [hr, ru_ok] at h
    cases w with
    | raised y ρ1 =>
      unfold tryR
      dsimp only
      rcases h with ⟨h1, h2⟩ | ⟨h1, h2, h3⟩
      · rw [if_pos h1]
        exact ru_end h2
      · rw [if_neg h1, ru_ck, ru_ok]
        exact ⟨h2, h3⟩
    | next ρ1 => exact ru_ok ▸ h
    | brk ρ1 => exact ru_ok ▸ h
    | cont ρ1 => exact ru_ok ▸ h
    | ret d => exact ru_ok ▸ h
  | exc y S1 => rw [hr, ru_exc] at h; exact h.elim
  | err => rw [hr, ru_err] at h; exact h.elim
instance {yes no : List Nat} {i : Option Nat} {body hb : List St} : Stp1 (Ru (ex F (.tryx body yes no i hb) ρ S) Qf E) (Ru (exs F body ρ S) (tryQ F yes no i hb Qf) noE) := ⟨r_tryx⟩
section
variable {yes no : List Nat} {i : Option Nat} {hb : List St}
instance : Stp1 (tryQ F yes no i hb Qf (.next ρ) S) (Qf (.next ρ) S) := ⟨fun h => h⟩
instance : Stp1 (tryQ F yes no i hb Qf (.brk ρ) S) (Qf (.brk ρ) S) := ⟨fun h => h⟩
instance : Stp1 (tryQ F yes no i hb Qf (.cont ρ) S) (Qf (.cont ρ) S) := ⟨fun h => h⟩
instance : Stp1 (tryQ F yes no i hb Qf (.ret d) S) (Qf (.ret d) S) := ⟨fun h => h⟩
end
/-! the caught one is looked at -/
theorem ru_isx {yes no : List Nat} : Ru (ev F (.isx a yes no) ρ S) Q E = Ru (ev F a ρ S) (fun x S => Ru (isxR yes no x S) Q E) E := by rw [ev, ru_bind]
instance {yes no : List Nat} : Stp1 (Ru (ev F (.isx a yes no) ρ S) Q E) (Ru (ev F a ρ S) (fun x S => Ru (isxR yes no x S) Q E) E) := ⟨ru_isx.mpr⟩
theorem r_isxY {yes no : List Nat} (h : cellAt S n = some .hot) (hc : c ∈ yes) (q : Q (.bl true) S) : Ru (isxR yes no (.exv n c fs) S) Q E := by
  unfold isxR
  dsimp only
  rw [h]
  dsimp only
  rw [if_pos hc]
  exact ru_ok ▸ q
theorem r_isxN {yes no : List Nat} (h : cellAt S n = some .hot) (hc : c ∉ yes) (hn : c ∈ no) (q : Q (.bl false) S) : Ru (isxR yes no (.exv n c fs) S) Q E := by
  unfold isxR
  dsimp only
  rw [h]
  dsimp only
  rw [if_neg hc, ru_ck, ru_ok]
  exact ⟨hn, q⟩
theorem ru_xfd {f : Nat} : Ru (ev F (.xfd a c f) ρ S) Q E = Ru (ev F a ρ S) (fun x S => Ru (xfdR c f x S) Q E) E := by rw [ev, ru_bind]
instance {f : Nat} : Stp1 (Ru (ev F (.xfd a c f) ρ S) Q E) (Ru (ev F a ρ S) (fun x S => Ru (xfdR c f x S) Q E) E) := ⟨ru_xfd.mpr⟩
theorem r_xfd {f : Nat} (h : cellAt S n = some .hot) (q : Q d S) : Ru (xfdR c f (.exv n c [(f, d)]) S) Q E := by
  unfold xfdR
  dsimp only
  rw [h]
  dsimp only
  rw [ru_ck, ru_ok]
  exact ⟨⟨rfl, rfl⟩, q⟩
theorem ru_isO {ks : List Nat} : Ru (ev F (.isO a c ks) ρ S) Q E = Ru (ev F a ρ S) (fun x S => Ru (isOR c ks x S) Q E) E := by rw [ev, ru_bind]
instance {ks : List Nat} : Stp1 (Ru (ev F (.isO a c ks) ρ S) Q E) (Ru (ev F a ρ S) (fun x S => Ru (isOR c ks x S) Q E) E) := ⟨ru_isO.mpr⟩
theorem ru_eqo {f : Nat} {arr : List Ar} : Ru (ev F (.eqo a b c f arr) ρ S) Q E = Ru (ev F a ρ S) (fun x S => Ru (ev F b ρ S) (fun y S => (clsOf S x = some c ∧ clsOf S y = some c) ∧ Ru (noExc (callR F f arr [x, y] S)) Q E) E) E := by
  rw [ev]
  simp only [ru_bind, ru_ck]
instance {f : Nat} {arr : List Ar} : Stp1 (Ru (ev F (.eqo a b c f arr) ρ S) Q E) (Ru (ev F a ρ S) (fun x S => Ru (ev F b ρ S) (fun y S => (clsOf S x = some c ∧ clsOf S y = some c) ∧ Ru (noExc (callR F f arr [x, y] S)) Q E) E) E) := ⟨ru_eqo.mpr⟩
end
end Iv

namespace Wk
open PySem PySem.Spec PyProof.Rows L2 Iv
theorem sc_is_whole : FnScope ["thing", "low", "high"] ["thing", "low", "high"] (defScope s_is_whole) := ⟨rfl, rfl, rfl, by decide +kernel, rfl, by decide +kernel, by decide +kernel⟩
theorem sc_is_word : FnScope ["thing", "sign"] ["thing"] (defScope s_is_word) := ⟨rfl, rfl, rfl, by decide +kernel, rfl, by decide +kernel, by decide +kernel⟩
theorem sc_is_one_of : FnScope ["thing", "texts"] ["thing", "texts"] (defScope s_is_one_of) := ⟨rfl, rfl, rfl, by decide +kernel, rfl, by decide +kernel, by decide +kernel⟩
theorem sc_is_tuple_of : FnScope ["thing", "least", "most"] ["thing", "least", "most"] (defScope s_is_tuple_of) := ⟨rfl, rfl, rfl, by decide +kernel, rfl, by decide +kernel, by decide +kernel⟩
theorem sc_is_value : FnScope ["kind", "thing"] ["kind", "thing"] (defScope s_is_value) := ⟨rfl, rfl, rfl, by decide +kernel, rfl, by decide +kernel, by decide +kernel⟩
theorem sc_is_row : FnScope ["form", "thing", "name", "kind", "value"] ["form", "thing"] (defScope s_is_row) := ⟨rfl, rfl, rfl, by decide +kernel, rfl, by decide +kernel, by decide +kernel⟩
theorem sc_names_of : FnScope ["form", "name", "kind"] ["form"] (defScope s_names_of) := ⟨rfl, rfl, rfl, by decide +kernel, rfl, by decide +kernel, by decide +kernel⟩
theorem sc_are_columns : FnScope ["form", "thing", "least", "most", "name"] ["form", "thing", "least", "most"] (defScope s_are_columns) := ⟨rfl, rfl, rfl, by decide +kernel, rfl, by decide +kernel, by decide +kernel⟩
theorem sc_is_bound : FnScope ["kind", "thing"] ["kind", "thing"] (defScope s_is_bound) := ⟨rfl, rfl, rfl, by decide +kernel, rfl, by decide +kernel, by decide +kernel⟩
theorem sc_is_condition : FnScope ["form", "thing", "kinds", "column", "word", "values", "name", "kind", "value"] ["form", "thing"] (defScope s_is_condition) := ⟨rfl, rfl, rfl, by decide +kernel, rfl, by decide +kernel, by decide +kernel⟩
theorem sc_are_conditions : FnScope ["form", "thing", "one"] ["form", "thing"] (defScope s_are_conditions) := ⟨rfl, rfl, rfl, by decide +kernel, rfl, by decide +kernel, by decide +kernel⟩
theorem sc_ask_fault : FnScope ["form", "thing", "wants", "conditions", "order", "first", "good"] ["form", "thing"] (defScope s_ask_fault) := ⟨rfl, rfl, rfl, by decide +kernel, rfl, by decide +kernel, by decide +kernel⟩
theorem sc_item_fault : FnScope ["form", "thing", "word", "rest"] ["form", "thing"] (defScope s_item_fault) := ⟨rfl, rfl, rfl, by decide +kernel, rfl, by decide +kernel, by decide +kernel⟩
theorem sc_value_fault : FnScope ["form", "column", "value", "kinds", "name", "kind"] ["form", "column", "value"] (defScope s_value_fault) := ⟨rfl, rfl, rfl, by decide +kernel, rfl, by decide +kernel, by decide +kernel⟩
theorem sc_l_bag : FnScope ["_law_script", "_law_at", "_law_cell", "_law_great", "_law_primes"] ["_law_script", "_law_at"] (defScope s_l_bag) := ⟨rfl, rfl, rfl, by decide +kernel, rfl, by decide +kernel, by decide +kernel⟩
theorem sc_l_take : FnScope ["_law_bag_here", "_law_many", "_law_digit"] ["_law_bag_here", "_law_many"] (defScope s_l_take) := ⟨rfl, rfl, rfl, by decide +kernel, rfl, by decide +kernel, by decide +kernel⟩
theorem sc_l_form : FnScope ["_law_bag_here", "_law_letters", "_law_shift", "_law_found", "_law_k", "_law_stem", "_law_step"] ["_law_bag_here"] (defScope s_l_form) := ⟨rfl, rfl, rfl, by decide +kernel, rfl, by decide +kernel, by decide +kernel⟩
theorem sc_l_value : FnScope ["_law_bag_here", "_law_kind", "_law_pool", "_law_k"] ["_law_bag_here", "_law_kind", "_law_pool"] (defScope s_l_value) := ⟨rfl, rfl, rfl, by decide +kernel, rfl, by decide +kernel, by decide +kernel⟩
theorem sc_l_some : FnScope ["_law_bag_here", "_law_names", "_law_few", "_law_most", "_law_left", "_law_found", "_law_k"] ["_law_bag_here", "_law_names", "_law_few", "_law_most"] (defScope s_l_some) := ⟨rfl, rfl, rfl, by decide +kernel, rfl, by decide +kernel, by decide +kernel⟩
theorem sc_l_conditions : FnScope ["_law_bag_here", "_law_sort_of", "_law_pool", "_law_found", "_law_name", "_law_kind", "_law_way", "_law_low", "_law_high"] ["_law_bag_here", "_law_sort_of", "_law_pool"] (defScope s_l_conditions) := ⟨rfl, rfl, rfl, by decide +kernel, rfl, by decide +kernel, by decide +kernel⟩
theorem sc_l_ask : FnScope ["_law_bag_here", "_law_sort_of", "_law_pool", "_law_names", "_law_wants", "_law_order", "_law_first", "_law_name", "_law_kind"] ["_law_bag_here", "_law_sort_of", "_law_pool"] (defScope s_l_ask) := ⟨rfl, rfl, rfl, by decide +kernel, rfl, by decide +kernel, by decide +kernel⟩
theorem sc_l_edit : FnScope ["_law_bag_here", "_law_know", "_law_sort_of", "_law_pool", "_law_way", "_law_k", "_law_some_here", "_law_name", "_law_kind"] ["_law_bag_here", "_law_know"] (defScope s_l_edit) := ⟨rfl, rfl, rfl, by decide +kernel, rfl, by decide +kernel, by decide +kernel⟩
theorem sc_l_any : FnScope ["_law_bag_here", "_law_names", "_law_some_here"] ["_law_bag_here", "_law_names"] (defScope s_l_any) := ⟨rfl, rfl, rfl, by decide +kernel, rfl, by decide +kernel, by decide +kernel⟩
theorem sc_l_is_value : FnScope ["_law_kind", "_law_given", "_law_sign"] ["_law_kind", "_law_given"] (defScope s_l_is_value) := ⟨rfl, rfl, rfl, by decide +kernel, rfl, by decide +kernel, by decide +kernel⟩
theorem sc_l_are_columns : FnScope ["_law_names", "_law_given", "_law_few", "_law_most", "_law_one"] ["_law_names", "_law_given", "_law_few", "_law_most"] (defScope s_l_are_columns) := ⟨rfl, rfl, rfl, by decide +kernel, rfl, by decide +kernel, by decide +kernel⟩
theorem sc_l_are_conditions : FnScope ["_law_sort_of", "_law_given", "_law_known", "_law_one", "_law_kind", "_law_ends", "_law_value_here"] ["_law_sort_of", "_law_given"] (defScope s_l_are_conditions) := ⟨rfl, rfl, rfl, by decide +kernel, rfl, by decide +kernel, by decide +kernel⟩
theorem sc_l_is_ask : FnScope ["_law_sort_of", "_law_given", "_law_names", "_law_first", "_law_name", "_law_kind"] ["_law_sort_of", "_law_given"] (defScope s_l_is_ask) := ⟨rfl, rfl, rfl, by decide +kernel, rfl, by decide +kernel, by decide +kernel⟩
theorem sc_l_due : FnScope ["_law_sort_of", "_law_given", "_law_many", "_law_good", "_law_one", "_law_value_here"] ["_law_sort_of", "_law_given"] (defScope s_l_due) := ⟨rfl, rfl, rfl, by decide +kernel, rfl, by decide +kernel, by decide +kernel⟩
theorem sc_l_bent : FnScope ["_law_bag_here", "_law_names", "_law_given", "_law_way", "_law_at", "_law_some_here", "_law_new"] ["_law_bag_here", "_law_names", "_law_given"] (defScope s_l_bent) := ⟨rfl, rfl, rfl, by decide +kernel, rfl, by decide +kernel, by decide +kernel⟩
theorem sc_l_copied : FnScope ["_law_given", "_law_one"] ["_law_given"] (defScope s_l_copied) := ⟨rfl, rfl, rfl, by decide +kernel, rfl, by decide +kernel, by decide +kernel⟩
theorem sc_law : FnScope ["_law_script", "_law_k", "_law_bag_here", "_law_sort_of", "_law_names", "_law_given", "_law_turn", "_law_handed", "_law_due_here", "_law_told", "_law_name", "_law_kind", "_law_one"] ["_law_script"] (defScope s_law) := ⟨rfl, rfl, rfl, by decide +kernel, rfl, by decide +kernel, by decide +kernel⟩
structure Txt (w : World) (K : PySem.W.Frag) (mg : Str → Option Value) : Prop where
  d_is_whole : ∃ fd, FunD K "is_whole" "is_whole" (defArgs s_is_whole) (defBody s_is_whole) (defScope s_is_whole) [(.int (-999)), (.int (999))] [] (He.ga K "is_whole") fd
  m_is_whole : mg "is_whole" = some (.ref (He.ga K "is_whole"))
  d_is_word : ∃ fd, FunD K "is_word" "is_word" (defArgs s_is_word) (defBody s_is_word) (defScope s_is_word) [] [] (He.ga K "is_word") fd
  m_is_word : mg "is_word" = some (.ref (He.ga K "is_word"))
  d_is_one_of : ∃ fd, FunD K "is_one_of" "is_one_of" (defArgs s_is_one_of) (defBody s_is_one_of) (defScope s_is_one_of) [] [] (He.ga K "is_one_of") fd
  m_is_one_of : mg "is_one_of" = some (.ref (He.ga K "is_one_of"))
  d_is_tuple_of : ∃ fd, FunD K "is_tuple_of" "is_tuple_of" (defArgs s_is_tuple_of) (defBody s_is_tuple_of) (defScope s_is_tuple_of) [] [] (He.ga K "is_tuple_of") fd
  m_is_tuple_of : mg "is_tuple_of" = some (.ref (He.ga K "is_tuple_of"))
  d_is_value : ∃ fd, FunD K "is_value" "is_value" (defArgs s_is_value) (defBody s_is_value) (defScope s_is_value) [] [] (He.ga K "is_value") fd
  m_is_value : mg "is_value" = some (.ref (He.ga K "is_value"))
  d_is_row : ∃ fd, FunD K "is_row" "is_row" (defArgs s_is_row) (defBody s_is_row) (defScope s_is_row) [] [] (He.ga K "is_row") fd
  m_is_row : mg "is_row" = some (.ref (He.ga K "is_row"))
  d_names_of : ∃ fd, FunD K "names_of" "names_of" (defArgs s_names_of) (defBody s_names_of) (defScope s_names_of) [] [] (He.ga K "names_of") fd
  m_names_of : mg "names_of" = some (.ref (He.ga K "names_of"))
  d_are_columns : ∃ fd, FunD K "are_columns" "are_columns" (defArgs s_are_columns) (defBody s_are_columns) (defScope s_are_columns) [] [] (He.ga K "are_columns") fd
  m_are_columns : mg "are_columns" = some (.ref (He.ga K "are_columns"))
  d_is_bound : ∃ fd, FunD K "is_bound" "is_bound" (defArgs s_is_bound) (defBody s_is_bound) (defScope s_is_bound) [] [] (He.ga K "is_bound") fd
  m_is_bound : mg "is_bound" = some (.ref (He.ga K "is_bound"))
  d_is_condition : ∃ fd, FunD K "is_condition" "is_condition" (defArgs s_is_condition) (defBody s_is_condition) (defScope s_is_condition) [] [] (He.ga K "is_condition") fd
  m_is_condition : mg "is_condition" = some (.ref (He.ga K "is_condition"))
  d_are_conditions : ∃ fd, FunD K "are_conditions" "are_conditions" (defArgs s_are_conditions) (defBody s_are_conditions) (defScope s_are_conditions) [] [] (He.ga K "are_conditions") fd
  m_are_conditions : mg "are_conditions" = some (.ref (He.ga K "are_conditions"))
  d_ask_fault : ∃ fd, FunD K "ask_fault" "ask_fault" (defArgs s_ask_fault) (defBody s_ask_fault) (defScope s_ask_fault) [] [] (He.ga K "ask_fault") fd
  m_ask_fault : mg "ask_fault" = some (.ref (He.ga K "ask_fault"))
  d_item_fault : ∃ fd, FunD K "item_fault" "item_fault" (defArgs s_item_fault) (defBody s_item_fault) (defScope s_item_fault) [] [] (He.ga K "item_fault") fd
  m_item_fault : mg "item_fault" = some (.ref (He.ga K "item_fault"))
  d_value_fault : ∃ fd, FunD K "value_fault" "value_fault" (defArgs s_value_fault) (defBody s_value_fault) (defScope s_value_fault) [] [] (He.ga K "value_fault") fd
  m_value_fault : mg "value_fault" = some (.ref (He.ga K "value_fault"))
  d_l_bag : ∃ fd, FunD K "_law_bag" "_law_bag" (defArgs s_l_bag) (defBody s_l_bag) (defScope s_l_bag) [] [] (He.ga K "_law_bag") fd
  m_l_bag : mg "_law_bag" = some (.ref (He.ga K "_law_bag"))
  d_l_take : ∃ fd, FunD K "_law_take" "_law_take" (defArgs s_l_take) (defBody s_l_take) (defScope s_l_take) [] [] (He.ga K "_law_take") fd
  m_l_take : mg "_law_take" = some (.ref (He.ga K "_law_take"))
  d_l_form : ∃ fd, FunD K "_law_form" "_law_form" (defArgs s_l_form) (defBody s_l_form) (defScope s_l_form) [] [] (He.ga K "_law_form") fd
  m_l_form : mg "_law_form" = some (.ref (He.ga K "_law_form"))
  d_l_value : ∃ fd, FunD K "_law_value" "_law_value" (defArgs s_l_value) (defBody s_l_value) (defScope s_l_value) [] [] (He.ga K "_law_value") fd
  m_l_value : mg "_law_value" = some (.ref (He.ga K "_law_value"))
  d_l_some : ∃ fd, FunD K "_law_some" "_law_some" (defArgs s_l_some) (defBody s_l_some) (defScope s_l_some) [] [] (He.ga K "_law_some") fd
  m_l_some : mg "_law_some" = some (.ref (He.ga K "_law_some"))
  d_l_conditions : ∃ fd, FunD K "_law_conditions" "_law_conditions" (defArgs s_l_conditions) (defBody s_l_conditions) (defScope s_l_conditions) [] [] (He.ga K "_law_conditions") fd
  m_l_conditions : mg "_law_conditions" = some (.ref (He.ga K "_law_conditions"))
  d_l_ask : ∃ fd, FunD K "_law_ask" "_law_ask" (defArgs s_l_ask) (defBody s_l_ask) (defScope s_l_ask) [] [] (He.ga K "_law_ask") fd
  m_l_ask : mg "_law_ask" = some (.ref (He.ga K "_law_ask"))
  d_l_edit : ∃ fd, FunD K "_law_edit" "_law_edit" (defArgs s_l_edit) (defBody s_l_edit) (defScope s_l_edit) [] [] (He.ga K "_law_edit") fd
  m_l_edit : mg "_law_edit" = some (.ref (He.ga K "_law_edit"))
  d_l_any : ∃ fd, FunD K "_law_any" "_law_any" (defArgs s_l_any) (defBody s_l_any) (defScope s_l_any) [] [] (He.ga K "_law_any") fd
  m_l_any : mg "_law_any" = some (.ref (He.ga K "_law_any"))
  d_l_is_value : ∃ fd, FunD K "_law_is_value" "_law_is_value" (defArgs s_l_is_value) (defBody s_l_is_value) (defScope s_l_is_value) [] [] (He.ga K "_law_is_value") fd
  m_l_is_value : mg "_law_is_value" = some (.ref (He.ga K "_law_is_value"))
  d_l_are_columns : ∃ fd, FunD K "_law_are_columns" "_law_are_columns" (defArgs s_l_are_columns) (defBody s_l_are_columns) (defScope s_l_are_columns) [] [] (He.ga K "_law_are_columns") fd
  m_l_are_columns : mg "_law_are_columns" = some (.ref (He.ga K "_law_are_columns"))
  d_l_are_conditions : ∃ fd, FunD K "_law_are_conditions" "_law_are_conditions" (defArgs s_l_are_conditions) (defBody s_l_are_conditions) (defScope s_l_are_conditions) [] [] (He.ga K "_law_are_conditions") fd
  m_l_are_conditions : mg "_law_are_conditions" = some (.ref (He.ga K "_law_are_conditions"))
  d_l_is_ask : ∃ fd, FunD K "_law_is_ask" "_law_is_ask" (defArgs s_l_is_ask) (defBody s_l_is_ask) (defScope s_l_is_ask) [] [] (He.ga K "_law_is_ask") fd
  m_l_is_ask : mg "_law_is_ask" = some (.ref (He.ga K "_law_is_ask"))
  d_l_due : ∃ fd, FunD K "_law_due" "_law_due" (defArgs s_l_due) (defBody s_l_due) (defScope s_l_due) [] [] (He.ga K "_law_due") fd
  m_l_due : mg "_law_due" = some (.ref (He.ga K "_law_due"))
  d_l_bent : ∃ fd, FunD K "_law_bent" "_law_bent" (defArgs s_l_bent) (defBody s_l_bent) (defScope s_l_bent) [] [] (He.ga K "_law_bent") fd
  m_l_bent : mg "_law_bent" = some (.ref (He.ga K "_law_bent"))
  d_l_copied : ∃ fd, FunD K "_law_copied" "_law_copied" (defArgs s_l_copied) (defBody s_l_copied) (defScope s_l_copied) [] [] (He.ga K "_law_copied") fd
  m_l_copied : mg "_law_copied" = some (.ref (He.ga K "_law_copied"))
  d_law : ∃ fd, FunD K "law" "law" (defArgs s_law) (defBody s_law) (defScope s_law) [] [] (He.ga K "law") fd
  m_law : mg "law" = some (.ref (He.ga K "law"))
  g_LEAST_NUMBER : ∃ t, mg "LEAST_NUMBER" = some (.int (-999) t)
  g_MOST_NUMBER : ∃ t, mg "MOST_NUMBER" = some (.int 999 t)
  g_MOST_LETTERS : ∃ t, mg "MOST_LETTERS" = some (.int 8 t)
  g_LETTERS : ∃ t, mg "LETTERS" = some (.str "abcdefghijklmnopqrstuvwxyz" t)
  g_MOST_CONDITIONS : ∃ t, mg "MOST_CONDITIONS" = some (.int 6 t)
  g_MOST_ORDER : ∃ t, mg "MOST_ORDER" = some (.int 4 t)
  g_MOST_FIRST : ∃ t, mg "MOST_FIRST" = some (.int 20 t)
  m_ITEM_LENGTHS : mg "ITEM_LENGTHS" = some (.ref (He.ga K "ITEM_LENGTHS"))
  n_abs : mg "abs" = none
  n_all : mg "all" = none
  n_any : mg "any" = none
  n_bool : mg "bool" = none
  n_dict : mg "dict" = none
  n_int : mg "int" = none
  n_isinstance : mg "isinstance" = none
  n_len : mg "len" = none
  n_list : mg "list" = none
  n_max : mg "max" = none
  n_min : mg "min" = none
  n_range : mg "range" = none
  n_set : mg "set" = none
  n_sorted : mg "sorted" = none
  n_str : mg "str" = none
  n_tuple : mg "tuple" = none
  n_zip : mg "zip" = none
  k_ITEM_LENGTHS : He.dicW K (He.ga K "ITEM_LENGTHS") = some (He.keysIn w.params ["ask", "put", "drop", "set"])
  v_ITEM_LENGTHS : He.valsB K (He.ga K "ITEM_LENGTHS") [("ask", .int 2), ("put", .int 2), ("drop", .int 2), ("set", .int 4)] = true
/-! ### the programs -/
abbrev p_is_whole : List Iv.St := [(.ret (.and (.bi (.isi) [(.var 0), (.con (.ty "int"))]) (.and (.not (.bi (.isi) [(.var 0), (.con (.ty "bool"))])) (.chain .le .le (.var 1) (.var 0) (.var 2)))))]
abbrev p_is_word : List Iv.St := [(.ite (.or (.not (.bi (.isi) [(.var 0), (.con (.ty "str"))])) (.not (.chain .le .le (.con (.int 1)) (.bi (.len) [(.var 0)]) (.con (.int 8))))) [(.ret (.con (.bl false)))] []),
  (.ret (.bi (.all) [(.lc false [1] (.var 1) (.e (.var 0)) [] (.cmp .isIn (.var 1) (.con (.str "abcdefghijklmnopqrstuvwxyz"))))]))]
abbrev p_is_one_of : List Iv.St := [(.ret (.and (.bi (.isi) [(.var 0), (.con (.ty "str"))]) (.cmp .isIn (.var 0) (.var 1))))]
abbrev p_is_tuple_of : List Iv.St := [(.ret (.and (.bi (.isi) [(.var 0), (.con (.ty "tuple"))]) (.chain .le .le (.var 1) (.bi (.len) [(.var 0)]) (.var 2))))]
abbrev p_is_value : List Iv.St := [(.ret (.ife (.cmp .eq (.var 0) (.con (.str "number"))) (.call 0 [.a 0, .d (.int (-999)), .d (.int (999))] [(.var 1)]) (.call 1 [.a 0] [(.var 1)])))]
abbrev p_is_row : List Iv.St := [(.ite (.not (.call 3 [.a 0, .a 1, .a 2] [(.var 1), (.bi (.len) [(.var 0)]), (.bi (.len) [(.var 0)])])) [(.ret (.con (.bl false)))] []),
  (.ret (.bi (.all) [(.lc false [2, 3, 4] (.tup [(.tup [(.var 2), (.var 3)]), (.var 4)]) (.zip true (.var 0) (.var 1)) [] (.call 4 [.a 0, .a 1] [(.var 3), (.var 4)]))]))]
abbrev p_names_of : List Iv.St := [(.ret (.bi (.tuple1) [(.lc false [1, 2] (.tup [(.var 1), (.var 2)]) (.e (.var 0)) [] (.var 1))]))]
abbrev p_are_columns : List Iv.St := [(.ite (.or (.not (.call 3 [.a 0, .a 1, .a 2] [(.var 1), (.var 2), (.var 3)])) (.not (.bi (.all) [(.lc false [4] (.var 4) (.e (.var 1)) [] (.call 2 [.a 0, .a 1] [(.var 4), (.call 6 [.a 0] [(.var 0)])]))]))) [(.ret (.con (.bl false)))] []),
  (.ret (.cmp .eq (.lenS (.var 1)) (.bi (.len) [(.var 1)])))]
abbrev p_is_bound : List Iv.St := [(.ret (.or (.cmp .isN (.var 1) (.con .non)) (.call 4 [.a 0, .a 1] [(.var 0), (.var 1)])))]
abbrev p_is_condition : List Iv.St := [(.asg (.var 2) (.dcomp [6, 7] (.tup [(.var 6), (.var 7)]) (.e (.var 0)) [] (.var 6) (.var 7))),
  (.ite (.or (.not (.call 3 [.a 0, .a 1, .a 2] [(.var 1), (.con (.int 3)), (.con (.int 4))])) (.not (.call 2 [.a 0, .a 1] [(.idx (.var 1) (.con (.int 0))), (.call 6 [.a 0] [(.var 0)])]))) [(.ret (.con (.bl false)))] []),
  (.asg (.tups [(.var 3), (.var 4), (.var 5)]) (.var 1)),
  (.ite (.or (.not (.call 2 [.a 0, .a 1] [(.var 4), (.tup [(.con (.str "is")), (.con (.str "from"))])])) (.cmp .ne (.bi (.len) [(.var 5)]) (.ife (.cmp .eq (.var 4) (.con (.str "is"))) (.con (.int 1)) (.con (.int 2))))) [(.ret (.con (.bl false)))] []),
  (.ite (.cmp .eq (.var 4) (.con (.str "is"))) [(.ret (.call 4 [.a 0, .a 1] [(.didx (.var 2) (.var 3)), (.idx (.var 5) (.con (.int 0)))]))] []),
  (.ret (.and (.cmp .ne (.var 5) (.lst false [(.con .non), (.con .non)])) (.bi (.all) [(.lc false [8] (.var 8) (.e (.var 5)) [] (.call 8 [.a 0, .a 1] [(.didx (.var 2) (.var 3)), (.var 8)]))])))]
abbrev p_are_conditions : List Iv.St := [(.ite (.or (.not (.call 3 [.a 0, .a 1, .a 2] [(.var 1), (.con (.int 0)), (.con (.int 6))])) (.not (.bi (.all) [(.lc false [2] (.var 2) (.e (.var 1)) [] (.call 9 [.a 0, .a 1] [(.var 0), (.var 2)]))]))) [(.ret (.con (.bl false)))] []),
  (.ret (.cmp .eq (.lenSC [2] (.var 2) (.e (.var 1)) [] (.idx (.var 2) (.con (.int 0)))) (.bi (.len) [(.var 1)])))]
abbrev p_ask_fault : List Iv.St := [(.ite (.not (.call 3 [.a 0, .a 1, .a 2] [(.var 1), (.con (.int 4)), (.con (.int 4))])) [(.ret (.con (.int 0)))] []),
  (.asg (.tup [(.var 2), (.var 3), (.var 4), (.var 5)]) (.var 1)),
  (.asg (.var 6) (.lst false [(.call 7 [.a 0, .a 1, .a 2, .a 3] [(.var 0), (.var 2), (.con (.int 1)), (.bi (.len) [(.var 0)])]), (.call 10 [.a 0, .a 1] [(.var 0), (.var 3)]), (.call 7 [.a 0, .a 1, .a 2, .a 3] [(.var 0), (.var 4), (.con (.int 0)), (.con (.int 4))]), (.or (.cmp .isN (.var 5) (.con .non)) (.call 0 [.a 0, .a 1, .a 2] [(.var 5), (.con (.int 1)), (.con (.int 20))]))])),
  (.ret (.ife (.bi (.all) [(.var 6)]) (.con .non) (.bin false .add (.bm .index (.var 6) [(.con (.bl false))]) (.con (.int 1)))))]
abbrev p_item_fault : List Iv.St := [(.ite (.or (.not (.bi (.isi) [(.var 1), (.con (.ty "tuple"))])) (.or (.cmp .eq (.bi (.len) [(.var 1)]) (.con (.int 0))) (.not (.bi (.isi) [(.idx (.var 1) (.con (.int 0))), (.con (.ty "str"))])))) [(.ret (.con (.int 0)))] []),
  (.asg (.tups [(.var 2), (.var 3)]) (.var 1)),
  (.ite (.cmp .ne (.bi (.len) [(.var 1)]) (.kget [("ask", 2), ("put", 2), ("drop", 2), ("set", 4)] (.var 2) (.con (.int 0)))) [(.ret (.con (.int 0)))] []),
  (.ite (.cmp .eq (.var 2) (.con (.str "ask"))) [(.ret (.ife (.cmp .isN (.call 11 [.a 0, .a 1] [(.var 0), (.idx (.var 3) (.con (.int 0)))]) (.con .non)) (.con .non) (.con (.int 1))))] []),
  (.ite (.cmp .eq (.var 2) (.con (.str "put"))) [(.ret (.ife (.call 5 [.a 0, .a 1] [(.var 0), (.idx (.var 3) (.con (.int 0)))]) (.con .non) (.con (.int 1))))] []),
  (.ite (.not (.call 10 [.a 0, .a 1] [(.var 0), (.idx (.var 3) (.con (.int 0)))])) [(.ret (.con (.int 1)))] []),
  (.ret (.ife (.cmp .eq (.var 2) (.con (.str "drop"))) (.con .non) (.call 13 [.a 0, .a 1, .a 2] [(.var 0), (.idx (.var 3) (.con (.int 1))), (.idx (.var 3) (.con (.int 2)))])))]
abbrev p_value_fault : List Iv.St := [(.asg (.var 3) (.dcomp [4, 5] (.tup [(.var 4), (.var 5)]) (.e (.var 0)) [] (.var 4) (.var 5))),
  (.ite (.or (.not (.bi (.isi) [(.var 1), (.con (.ty "str"))])) (.din true (.var 1) (.var 3))) [(.ret (.con (.int 2)))] []),
  (.ret (.ife (.call 4 [.a 0, .a 1] [(.didx (.var 3) (.var 1)), (.var 2)]) (.con .non) (.con (.int 3))))]
abbrev p_l_bag : List Iv.St := [(.asg (.var 2) (.con (.int 0))),
  (.ite (.cmp .gt (.bi (.len) [(.var 0)]) (.con (.int 0))) [(.asg (.var 2) (.idx (.var 0) (.bin false .mod (.var 1) (.bi (.len) [(.var 0)]))))] []),
  (.asg (.var 3) (.con (.int 0))),
  (.ite (.and (.cmp .ge (.bi (.abs) [(.var 2)]) (.bin false .pow (.con (.int 10)) (.con (.int 18)))) (.cmp .lt (.var 1) (.bi (.len) [(.var 0)]))) [(.asg (.var 3) (.bi (.abs) [(.var 2)]))] []),
  (.asg (.var 4) (.tup [(.con (.int 2147483629)), (.con (.int 2147483587)), (.con (.int 2147483579)), (.con (.int 2147483563)), (.con (.int 2147483549)), (.con (.int 2147483543)), (.con (.int 2147483497)), (.con (.int 2147483489))])),
  (.ret (.lst true [(.var 3), (.bin false .mod (.bin false .pow (.bin false .add (.bin false .add (.bin false .mod (.var 2) (.con (.int 2147483647))) (.bin false .mul (.con (.int 104729)) (.var 1))) (.con (.int 7))) (.con (.int 5))) (.idx (.var 4) (.bin false .mod (.var 1) (.con (.int 8)))))]))]
abbrev p_l_take : List Iv.St := [(.ite (.cmp .gt (.idx (.var 0) (.con (.int 0))) (.con (.int 0))) [(.asg (.var 2) (.bin false .mod (.idx (.var 0) (.con (.int 0))) (.var 1))),
  (.asg (.idx (.var 0) (.con (.int 0))) (.bin false .div (.idx (.var 0) (.con (.int 0))) (.var 1))),
  (.ret (.var 2))] []),
  (.asg (.idx (.var 0) (.con (.int 1))) (.bin false .mod (.bin false .add (.bin false .mul (.idx (.var 0) (.con (.int 1))) (.con (.int 48271))) (.con (.int 11))) (.con (.int 2147483647)))),
  (.ret (.bin false .mod (.bin false .mod (.bin false .pow (.bin false .div (.idx (.var 0) (.con (.int 1))) (.con (.int 8))) (.con (.int 3))) (.con (.int 2147483629))) (.var 1)))]
abbrev p_l_form : List Iv.St := [(.asg (.var 1) (.con (.str "abcdefghijklmnopqrstuvwxyz"))),
  (.asg (.tup [.var 2, .var 3]) (.tup [(.call 15 [.a 0, .a 1] [(.var 0), (.con (.int 26))]), (.lst true [])])),
  (.for (.var 4) (.rng1 (.bin false .add (.con (.int 2)) (.call 15 [.a 0, .a 1] [(.var 0), (.con (.int 4))]))) [(.asg (.var 5) (.bm .join (.con (.str "")) [(.lc false [6] (.var 6) (.rng1 (.idx (.tup [(.con (.int 0)), (.con (.int 1)), (.con (.int 2)), (.con (.int 7))]) (.call 15 [.a 0, .a 1] [(.var 0), (.con (.int 4))]))) [] (.idx (.var 1) (.call 15 [.a 0, .a 1] [(.var 0), (.con (.int 26))])))])),
  (.expr (.bm .append (.var 3) [(.tup [(.bin false .add (.var 5) (.idx (.var 1) (.bin false .mod (.bin false .add (.var 2) (.bin false .mul (.con (.int 7)) (.var 4))) (.con (.int 26))))), (.idx (.tup [(.con (.str "number")), (.con (.str "word"))]) (.call 15 [.a 0, .a 1] [(.var 0), (.con (.int 2))]))])]))]),
  (.ret (.ntup (.var 3)))]
abbrev p_l_value : List Iv.St := [(.asg (.var 3) (.call 15 [.a 0, .a 1] [(.var 0), (.var 2)])),
  (.ret (.ife (.cmp .eq (.var 1) (.con (.str "number"))) (.bin false .sub (.var 3) (.bin false .div (.var 2) (.con (.int 2)))) (.bin false .mul (.idx (.con (.str "abcdefghijklmnopqrstuvwxyz")) (.bin false .mod (.var 3) (.con (.int 26)))) (.bin false .add (.con (.int 1)) (.bin false .div (.var 3) (.con (.int 26)))))))]
abbrev p_l_some : List Iv.St := [(.asg (.tup [.var 4, .var 5]) (.tup [(.bi (.list1 true) [(.var 1)]), (.lst true [])])),
  (.for (.var 6) (.rng1 (.bi (.min2) [(.bi (.len) [(.var 4)]), (.bin false .add (.var 2) (.call 15 [.a 0, .a 1] [(.var 0), (.bin false .add (.bin false .sub (.var 3) (.var 2)) (.con (.int 1)))]))])) [(.expr (.bm .append (.var 5) [(.bm .pop1 (.var 4) [(.call 15 [.a 0, .a 1] [(.var 0), (.bi (.len) [(.var 4)])])])]))]),
  (.ret (.bi (.tuple1) [(.var 5)]))]
abbrev p_l_conditions : List Iv.St := [(.asg (.var 3) (.lst true [])),
  (.for (.tup [(.var 4), (.var 5)]) (.e (.var 1)) [(.asg (.var 6) (.call 15 [.a 0, .a 1] [(.var 0), (.con (.int 5))])),
  (.ite (.cmp .eq (.var 6) (.con (.int 0))) [(.expr (.bm .append (.var 3) [(.tup [(.var 4), (.con (.str "is")), (.call 17 [.a 0, .a 1, .a 2] [(.var 0), (.var 5), (.var 2)])])]))] []),
  (.ite (.cmp .eq (.var 6) (.con (.int 1))) [(.asg (.tup [(.var 7), (.var 8)]) (.bi (.sorted1 false) [(.lst false [(.call 17 [.a 0, .a 1, .a 2] [(.var 0), (.var 5), (.var 2)]), (.call 17 [.a 0, .a 1, .a 2] [(.var 0), (.var 5), (.var 2)])])])),
  (.expr (.bm .append (.var 3) [(.bin false .add (.tup [(.var 4), (.con (.str "from"))]) (.idx (.tup [(.tup [(.var 7), (.var 8)]), (.tup [(.var 7), (.con .non)]), (.tup [(.con .non), (.var 8)]), (.tup [(.var 8), (.var 7)])]) (.call 15 [.a 0, .a 1] [(.var 0), (.con (.int 4))])))]))] [])]),
  (.ret (.bi (.tuple1) [(.slst false (.var 3) (.bin false .sub (.con (.int 1)) (.bin false .mul (.con (.int 2)) (.call 15 [.a 0, .a 1] [(.var 0), (.con (.int 2))]))))]))]
abbrev p_l_ask : List Iv.St := [(.asg (.var 3) (.lc false [7, 8] (.tup [(.var 7), (.var 8)]) (.e (.var 1)) [] (.var 7))),
  (.asg (.tup [.var 4, .var 5]) (.tup [(.call 18 [.a 0, .a 1, .a 2, .a 3] [(.var 0), (.var 3), (.con (.int 1)), (.con (.int 6))]), (.call 18 [.a 0, .a 1, .a 2, .a 3] [(.var 0), (.var 3), (.con (.int 0)), (.con (.int 2))])])),
  (.asg (.var 6) (.idx (.tup [(.con .non), (.con .non), (.bin false .add (.con (.int 1)) (.call 15 [.a 0, .a 1] [(.var 0), (.con (.int 4))])), (.bin false .add (.con (.int 1)) (.call 15 [.a 0, .a 1] [(.var 0), (.con (.int 20))]))]) (.call 15 [.a 0, .a 1] [(.var 0), (.con (.int 4))]))),
  (.ret (.tup [(.var 4), (.call 19 [.a 0, .a 1, .a 2] [(.var 0), (.var 1), (.var 2)]), (.var 5), (.var 6)]))]
abbrev p_l_edit : List Iv.St := [(.asg (.tup [(.var 2), (.var 3)]) (.tup [(.didx (.var 1) (.con (.str "form"))), (.didx (.var 1) (.con (.str "pool")))])),
  (.asg (.tup [.var 4, .var 5]) (.tup [(.call 15 [.a 0, .a 1] [(.var 0), (.con (.int 5))]), (.call 15 [.a 0, .a 1] [(.var 0), (.bi (.len) [(.var 2)])])])),
  (.ite (.cmp .eq (.var 4) (.con (.int 0))) [(.ret (.tup [(.con (.str "ask")), (.call 20 [.a 0, .a 1, .a 2] [(.var 0), (.var 2), (.var 3)])]))] []),
  (.ite (.cmp .eq (.var 4) (.con (.int 1))) [(.ret (.tup [(.con (.str "put")), (.bi (.tuple1) [(.lc false [7, 8] (.tup [(.var 7), (.var 8)]) (.e (.var 2)) [] (.call 17 [.a 0, .a 1, .a 2] [(.var 0), (.var 8), (.var 3)]))])]))] []),
  (.asg (.var 6) (.call 19 [.a 0, .a 1, .a 2] [(.var 0), (.var 2), (.var 3)])),
  (.ite (.cmp .eq (.var 4) (.con (.int 2))) [(.ret (.tup [(.con (.str "drop")), (.var 6)]))] []),
  (.ret (.tup [(.con (.str "set")), (.var 6), (.idx (.idx (.var 2) (.var 5)) (.con (.int 0))), (.call 17 [.a 0, .a 1, .a 2] [(.var 0), (.idx (.idx (.var 2) (.var 5)) (.con (.int 1))), (.var 3)])]))]
abbrev p_l_any : List Iv.St := [(.asg (.var 2) (.lst false [(.con .non), (.con (.bl true)), (.con (.bl false)), (.con (.int 0)), (.con (.int 1)), (.neg (.con (.int 1))), (.con (.int 21)), (.con (.int 1000)), (.neg (.con (.int 1000))), (.bin false .pow (.con (.int 10)) (.con (.int 59))), (.con (.str "")), (.con (.str "is")), (.con (.str "from")), (.con (.str "abcdefghi"))])),
  (.asg (.var 2) (.bin false .add (.var 2) (.lst false [(.con (.str "A")), (.lst false []), (.tup []), (.tup [(.lst false [])]), (.lst false [(.con (.int 1))]), (.idx (.var 1) (.call 15 [.a 0, .a 1] [(.var 0), (.bi (.len) [(.var 1)])])), (.tup [(.idx (.var 1) (.con (.int 0)))])]))),
  (.ret (.idx (.bin false .add (.var 2) (.lst false [(.tup [(.idx (.var 1) (.con (.int 0))), (.con (.str "is")), (.con (.int 1))])])) (.call 15 [.a 0, .a 1] [(.var 0), (.con (.int 22))])))]
abbrev p_l_is_value : List Iv.St := [(.ite (.cmp .eq (.var 0) (.con (.str "number"))) [(.ret (.and (.bi (.isi) [(.var 1), (.con (.ty "int"))]) (.and (.not (.bi (.isi) [(.var 1), (.con (.ty "bool"))])) (.chain .le .le (.neg (.con (.int 999))) (.var 1) (.con (.int 999))))))] []),
  (.ite (.or (.not (.bi (.isi) [(.var 1), (.con (.ty "str"))])) (.not (.chain .le .le (.con (.int 1)) (.bi (.len) [(.var 1)]) (.con (.int 8))))) [(.ret (.con (.bl false)))] []),
  (.ret (.bi (.all) [(.lc false [2] (.var 2) (.e (.var 1)) [] (.cmp .isIn (.var 2) (.con (.str "abcdefghijklmnopqrstuvwxyz"))))]))]
abbrev p_l_are_columns : List Iv.St := [(.ite (.or (.not (.bi (.isi) [(.var 1), (.con (.ty "tuple"))])) (.not (.chain .le .le (.var 2) (.bi (.len) [(.var 1)]) (.var 3)))) [(.ret (.con (.bl false)))] []),
  (.ret (.bi (.all) [(.lc false [4] (.var 4) (.e (.var 1)) [] (.and (.bi (.isi) [(.var 4), (.con (.ty "str"))]) (.and (.cmp .isIn (.var 4) (.var 0)) (.cmp .eq (.tcnta (.var 1) (.var 4)) (.con (.int 1))))))]))]
abbrev p_l_are_conditions : List Iv.St := [(.ite (.or (.not (.bi (.isi) [(.var 1), (.con (.ty "tuple"))])) (.cmp .gt (.bi (.len) [(.var 1)]) (.con (.int 6)))) [(.ret (.con (.bl false)))] []),
  (.asg (.var 2) (.lst true [])),
  (.for (.var 3) (.e (.var 1)) [(.ite (.or (.not (.bi (.isi) [(.var 3), (.con (.ty "tuple"))])) (.or (.cmp .notIn (.bi (.len) [(.var 3)]) (.tup [(.con (.int 3)), (.con (.int 4))])) (.not (.bi (.isi) [(.idx (.var 3) (.con (.int 0))), (.con (.ty "str"))])))) [(.ret (.con (.bl false)))] []),
  (.ite (.din true (.idx (.var 3) (.con (.int 0))) (.dpairsT (.var 0))) [(.ret (.con (.bl false)))] []),
  (.ite (.or (.not (.bi (.isi) [(.idx (.var 3) (.con (.int 1))), (.con (.ty "str"))])) (.or (.cmp .ne (.idx (.var 3) (.con (.int 1))) (.idx (.tup [(.con (.str "is")), (.con (.str "from"))]) (.bin false .sub (.bi (.len) [(.var 3)]) (.con (.int 3))))) (.cmp .isIn (.idx (.var 3) (.con (.int 0))) (.var 2)))) [(.ret (.con (.bl false)))] []),
  (.asg (.var 4) (.didx (.dpairsT (.var 0)) (.idx (.var 3) (.con (.int 0))))),
  (.asg (.var 5) (.lc false [6] (.var 6) (.e (.slc false (.var 3) (some (.con (.int 2))) none)) [] (.or (.and (.cmp .isN (.var 6) (.con .non)) (.cmp .eq (.bi (.len) [(.var 3)]) (.con (.int 4)))) (.call 23 [.a 0, .a 1] [(.var 4), (.var 6)])))),
  (.ite (.or (.not (.bi (.all) [(.var 5)])) (.and (.cmp .eq (.bi (.len) [(.var 3)]) (.con (.int 4))) (.and (.cmp .isN (.idx (.var 3) (.con (.int 2))) (.con .non)) (.cmp .isN (.idx (.var 3) (.con (.int 3))) (.con .non))))) [(.ret (.con (.bl false)))] []),
  (.expr (.bm .append (.var 2) [(.idx (.var 3) (.con (.int 0)))]))]),
  (.ret (.con (.bl true)))]
abbrev p_l_is_ask : List Iv.St := [(.asg (.var 2) (.lc false [4, 5] (.tup [(.var 4), (.var 5)]) (.e (.untup (.var 0))) [] (.var 4))),
  (.ite (.or (.not (.bi (.isi) [(.var 1), (.con (.ty "tuple"))])) (.or (.cmp .ne (.bi (.len) [(.var 1)]) (.con (.int 4))) (.not (.call 24 [.a 0, .a 1, .a 2, .a 3] [(.var 2), (.idx (.var 1) (.con (.int 0))), (.con (.int 1)), (.con (.int 6))])))) [(.ret (.con (.bl false)))] []),
  (.ite (.or (.not (.call 25 [.a 0, .a 1] [(.var 0), (.idx (.var 1) (.con (.int 1)))])) (.not (.call 24 [.a 0, .a 1, .a 2, .a 3] [(.var 2), (.idx (.var 1) (.con (.int 2))), (.con (.int 0)), (.con (.int 4))]))) [(.ret (.con (.bl false)))] []),
  (.asg (.var 3) (.idx (.var 1) (.con (.int 3)))),
  (.ite (.cmp .isN (.var 3) (.con .non)) [(.ret (.con (.bl true)))] []),
  (.ret (.and (.bi (.isi) [(.var 3), (.con (.ty "int"))]) (.and (.not (.bi (.isi) [(.var 3), (.con (.ty "bool"))])) (.chain .le .le (.con (.int 1)) (.var 3) (.con (.int 20))))))]
abbrev p_l_due : List Iv.St := [(.asg (.var 2) (.ddisp [.inr "ask", .inr "put", .inr "drop", .inr "set"] [(.con (.int 2)), (.con (.int 2)), (.con (.int 2)), (.con (.int 4))])),
  (.ite (.or (.not (.bi (.isi) [(.var 1), (.con (.ty "tuple"))])) (.or (.cmp .eq (.var 1) (.tup [])) (.not (.bi (.isi) [(.idx (.var 1) (.con (.int 0))), (.con (.ty "str"))])))) [(.ret (.con (.int 0)))] []),
  (.ite (.cmp .ne (.dget2 (.var 2) (.idx (.var 1) (.con (.int 0))) (.con (.int 0))) (.bi (.len) [(.var 1)])) [(.ret (.con (.int 0)))] []),
  (.ite (.cmp .eq (.idx (.var 1) (.con (.int 0))) (.con (.str "ask"))) [(.ret (.ife (.call 26 [.a 0, .a 1] [(.var 0), (.idx (.var 1) (.con (.int 1)))]) (.con .non) (.con (.int 1))))] []),
  (.ite (.cmp .eq (.idx (.var 1) (.con (.int 0))) (.con (.str "put"))) [(.ite (.or (.not (.bi (.isi) [(.idx (.var 1) (.con (.int 1))), (.con (.ty "tuple"))])) (.cmp .ne (.bi (.len) [(.idx (.var 1) (.con (.int 1)))]) (.bi (.len) [(.untup (.var 0))]))) [(.ret (.con (.int 1)))] []),
  (.asg (.var 3) (.lc false [4, 5] (.tupw [(.var 4), (.var 5)]) (.zipw (.untup (.var 0)) (.idx (.var 1) (.con (.int 1)))) [] (.call 23 [.a 0, .a 1] [(.idx (.var 4) (.con (.int 1))), (.var 5)]))),
  (.ret (.ife (.bi (.all) [(.var 3)]) (.con .non) (.con (.int 1))))] []),
  (.ite (.not (.call 25 [.a 0, .a 1] [(.var 0), (.idx (.var 1) (.con (.int 1)))])) [(.ret (.con (.int 1)))] []),
  (.ite (.cmp .eq (.idx (.var 1) (.con (.int 0))) (.con (.str "drop"))) [(.ret (.con .non))] []),
  (.ite (.or (.not (.bi (.isi) [(.idx (.var 1) (.con (.int 2))), (.con (.ty "str"))])) (.din true (.idx (.var 1) (.con (.int 2))) (.dpairsT (.var 0)))) [(.ret (.con (.int 2)))] []),
  (.ret (.ife (.call 23 [.a 0, .a 1] [(.didx (.dpairsT (.var 0)) (.idx (.var 1) (.con (.int 2)))), (.idx (.var 1) (.con (.int 3)))]) (.con .non) (.con (.int 3))))]
abbrev p_l_bent : List Iv.St := [(.ite (.or (.not (.bi (.isi) [(.var 2), (.con (.ty "tuple"))])) (.or (.cmp .eq (.var 2) (.tup [])) (.cmp .eq (.call 15 [.a 0, .a 1] [(.var 0), (.con (.int 9))]) (.con (.int 0))))) [(.ret (.call 22 [.a 0, .a 1] [(.var 0), (.var 1)]))] []),
  (.asg (.tup [.var 3, .var 4]) (.tup [(.call 15 [.a 0, .a 1] [(.var 0), (.con (.int 8))]), (.call 15 [.a 0, .a 1] [(.var 0), (.bi (.len) [(.var 2)])])])),
  (.ite (.cmp .eq (.var 3) (.con (.int 0))) [(.asg (.var 5) (.lst false [(.bi (.list1 false) [(.var 2)]), (.bin false .add (.slc false (.var 2) none (some (.var 4))) (.slc false (.var 2) (some (.bin false .add (.var 4) (.con (.int 1)))) none))])),
  (.ret (.idx (.bin false .add (.var 5) (.lst false [(.bin false .add (.var 2) (.slc false (.var 2) (some (.var 4)) (some (.bin false .add (.var 4) (.con (.int 1))))))])) (.call 15 [.a 0, .a 1] [(.var 0), (.con (.int 3))])))] []),
  (.ite (.and (.cmp .eq (.var 3) (.con (.int 1))) (.bi (.isi) [(.idx (.var 2) (.con (.int 0))), (.con (.ty "str"))])) [(.ret (.bin false .add (.tup [(.idx (.tup [(.con (.str "ask")), (.con (.str "put")), (.con (.str "drop")), (.con (.str "set")), (.con (.str "is")), (.con (.str "from"))]) (.call 15 [.a 0, .a 1] [(.var 0), (.con (.int 6))]))]) (.slc false (.var 2) (some (.con (.int 1))) none)))] []),
  (.asg (.var 6) (.call 28 [.a 0, .a 1, .a 2] [(.var 0), (.var 1), (.idx (.var 2) (.var 4))])),
  (.ret (.bin false .add (.bin false .add (.slc false (.var 2) none (some (.var 4))) (.tup [(.var 6)])) (.slc false (.var 2) (some (.bin false .add (.var 4) (.con (.int 1)))) none)))]
abbrev p_l_copied : List Iv.St := [(.ite (.bi (.isi) [(.var 0), (.con (.ty "tuple"))]) [(.ret (.bi (.tuple1) [(.lc false [1] (.var 1) (.e (.var 0)) [] (.call 29 [.a 0] [(.var 1)]))]))] []),
  (.ret (.ife (.bi (.isi) [(.var 0), (.con (.ty "list"))]) (.lc false [1] (.var 1) (.e (.var 0)) [] (.call 29 [.a 0] [(.var 1)])) (.var 0)))]
abbrev p_law : List Iv.St := [(.for (.var 1) (.rng1 (.bi (.max2) [(.con (.int 6)), (.bi (.min2) [(.con (.int 20)), (.bi (.len) [(.var 0)])])])) [(.asg (.var 2) (.call 14 [.a 0, .a 1] [(.var 0), (.var 1)])),
  (.asg (.var 3) (.call 16 [.a 0] [(.var 2)])),
  (.asg (.var 4) (.lc false [10, 11] (.tup [(.var 10), (.var 11)]) (.e (.untup (.var 3))) [] (.var 10))),
  (.asg (.var 5) (.call 21 [.a 0, .a 1] [(.var 2), (.ddisp [.inr "form", .inr "pool"] [(.untup (.var 3)), (.idx (.tup [(.con (.int 2)), (.con (.int 9)), (.con (.int 40))]) (.call 15 [.a 0, .a 1] [(.var 2), (.con (.int 3))]))])])),
  (.for (.var 6) (.rng1 (.con (.int 5))) [(.asg (.tup [.var 7, .var 8]) (.tup [(.call 29 [.a 0] [(.var 5)]), (.call 27 [.a 0, .a 1] [(.var 3), (.var 5)])])),
  (.asg (.var 9) (.lst false [(.call 12 [.a 0, .a 1] [(.untup (.var 3)), (.var 7)]), (.call 12 [.a 1, .a 0] [(.var 7), (.untup (.var 3))])])),
  (.ite (.or (.cmp .ne (.var 9) (.lst false [(.var 8), (.var 8)])) (.or (.cmp .ne (.var 7) (.var 5)) (.bi (.any) [(.lc false [12] (.var 12) (.e (.var 9)) [] (.bi (.isi) [(.var 12), (.con (.ty "bool"))]))]))) [(.ret (.con (.bl false)))] []),
  (.ite (.cmp .gt (.var 6) (.con (.int 1))) [(.asg (.var 5) (.call 21 [.a 0, .a 1] [(.var 2), (.ddisp [.inr "form", .inr "pool"] [(.untup (.var 3)), (.con (.int 9))])]))] []),
  (.ite (.cmp .lt (.var 6) (.con (.int 3))) [(.asg (.var 5) (.call 28 [.a 0, .a 1, .a 2] [(.var 2), (.var 4), (.var 5)]))] [])])]),
  (.ret (.con (.bl true)))]
abbrev Tb : List Fn := [⟨3, 3, p_is_whole⟩, ⟨1, 2, p_is_word⟩, ⟨2, 2, p_is_one_of⟩, ⟨3, 3, p_is_tuple_of⟩, ⟨2, 2, p_is_value⟩, ⟨2, 5, p_is_row⟩, ⟨1, 3, p_names_of⟩, ⟨4, 5, p_are_columns⟩, ⟨2, 2, p_is_bound⟩, ⟨2, 9, p_is_condition⟩, ⟨2, 3, p_are_conditions⟩, ⟨2, 7, p_ask_fault⟩, ⟨2, 4, p_item_fault⟩, ⟨3, 6, p_value_fault⟩, ⟨2, 5, p_l_bag⟩, ⟨2, 3, p_l_take⟩, ⟨1, 7, p_l_form⟩, ⟨3, 4, p_l_value⟩, ⟨4, 7, p_l_some⟩, ⟨3, 9, p_l_conditions⟩, ⟨3, 9, p_l_ask⟩, ⟨2, 9, p_l_edit⟩, ⟨2, 3, p_l_any⟩, ⟨2, 3, p_l_is_value⟩, ⟨4, 5, p_l_are_columns⟩, ⟨2, 7, p_l_are_conditions⟩, ⟨2, 6, p_l_is_ask⟩, ⟨2, 6, p_l_due⟩, ⟨3, 7, p_l_bent⟩, ⟨1, 2, p_l_copied⟩, ⟨1, 13, p_law⟩]
abbrev sg_is_whole : List (Nat × List Str × List Ar) := [(1, [], [.a 0, .d (.int (-999)), .d (.int (999))]), (3, [], [.a 0, .a 1, .a 2])]
abbrev sg_is_word : List (Nat × List Str × List Ar) := [(1, [], [.a 0])]
abbrev sg_is_one_of : List (Nat × List Str × List Ar) := [(2, [], [.a 0, .a 1])]
abbrev sg_is_tuple_of : List (Nat × List Str × List Ar) := [(3, [], [.a 0, .a 1, .a 2])]
abbrev sg_is_value : List (Nat × List Str × List Ar) := [(2, [], [.a 0, .a 1])]
abbrev sg_is_row : List (Nat × List Str × List Ar) := [(2, [], [.a 0, .a 1])]
abbrev sg_names_of : List (Nat × List Str × List Ar) := [(1, [], [.a 0])]
abbrev sg_are_columns : List (Nat × List Str × List Ar) := [(4, [], [.a 0, .a 1, .a 2, .a 3])]
abbrev sg_is_bound : List (Nat × List Str × List Ar) := [(2, [], [.a 0, .a 1])]
abbrev sg_is_condition : List (Nat × List Str × List Ar) := [(2, [], [.a 0, .a 1])]
abbrev sg_are_conditions : List (Nat × List Str × List Ar) := [(2, [], [.a 0, .a 1])]
abbrev sg_ask_fault : List (Nat × List Str × List Ar) := [(2, [], [.a 0, .a 1])]
abbrev sg_item_fault : List (Nat × List Str × List Ar) := [(2, [], [.a 0, .a 1]), (0, ["thing", "form"], [.a 1, .a 0])]
abbrev sg_value_fault : List (Nat × List Str × List Ar) := [(3, [], [.a 0, .a 1, .a 2])]
abbrev sg_l_bag : List (Nat × List Str × List Ar) := [(2, [], [.a 0, .a 1])]
abbrev sg_l_take : List (Nat × List Str × List Ar) := [(2, [], [.a 0, .a 1])]
abbrev sg_l_form : List (Nat × List Str × List Ar) := [(1, [], [.a 0])]
abbrev sg_l_value : List (Nat × List Str × List Ar) := [(3, [], [.a 0, .a 1, .a 2])]
abbrev sg_l_some : List (Nat × List Str × List Ar) := [(4, [], [.a 0, .a 1, .a 2, .a 3])]
abbrev sg_l_conditions : List (Nat × List Str × List Ar) := [(3, [], [.a 0, .a 1, .a 2])]
abbrev sg_l_ask : List (Nat × List Str × List Ar) := [(3, [], [.a 0, .a 1, .a 2])]
abbrev sg_l_edit : List (Nat × List Str × List Ar) := [(2, [], [.a 0, .a 1])]
abbrev sg_l_any : List (Nat × List Str × List Ar) := [(2, [], [.a 0, .a 1])]
abbrev sg_l_is_value : List (Nat × List Str × List Ar) := [(2, [], [.a 0, .a 1])]
abbrev sg_l_are_columns : List (Nat × List Str × List Ar) := [(4, [], [.a 0, .a 1, .a 2, .a 3])]
abbrev sg_l_are_conditions : List (Nat × List Str × List Ar) := [(2, [], [.a 0, .a 1])]
abbrev sg_l_is_ask : List (Nat × List Str × List Ar) := [(2, [], [.a 0, .a 1])]
abbrev sg_l_due : List (Nat × List Str × List Ar) := [(2, [], [.a 0, .a 1])]
abbrev sg_l_bent : List (Nat × List Str × List Ar) := [(3, [], [.a 0, .a 1, .a 2])]
abbrev sg_l_copied : List (Nat × List Str × List Ar) := [(1, [], [.a 0])]
abbrev sg_law : List (Nat × List Str × List Ar) := [(1, [], [.a 0])]
abbrev gs (K : PySem.W.Frag) : Gs := { K := K, ca := fun _ => 0, fn := fun _ => "", fok := fun _ => False, finj := fun _ _ h => h.elim, weak := false }
section
variable {P : Program} {w : World} {K : PySem.W.Frag} {mg : Str → Option Value} {base : Heap}
theorem sgs_is_whole (T : Txt w K mg) {fd : FuncData} (F : FunD K "is_whole" "is_whole" (defArgs s_is_whole) (defBody s_is_whole) (defScope s_is_whole) [(.int (-999)), (.int (999))] [] (He.ga K "is_whole") fd) : ∀ s ∈ sg_is_whole, Sig (gs K) fd ["thing", "low", "high"] s.1 s.2.1 s.2.2 := fun s hs => match s, hs with
  | _, .head _ => sig_dfl (g := gs K) (js := [0, 1, 2]) [(.int (-999)), (.int (999))] F (by simp) rfl (by decide) (fun _ _ _ => (Rels.cons (by rw [rel_int]) (Rels.cons (by rw [rel_int]) Rels.nil))) fun _ _ _ _ _ _ _ us ws its hl hl2 hl3 => match us, hl, ws, hl2, its, hl3 with | [_], _, [], _, [_, _], _ => ⟨_, rfl, rfl⟩
  | _, .tail _ (.head _) => sig_dfl (g := gs K) (js := [0, 1, 2]) [(.int (-999)), (.int (999))] F (by simp) rfl (by decide) (fun _ _ _ => (Rels.cons (by rw [rel_int]) (Rels.cons (by rw [rel_int]) Rels.nil))) fun _ _ _ _ _ _ _ us ws its hl hl2 hl3 => match us, hl, ws, hl2, its, hl3 with | [_, _, _], _, [], _, [_, _], _ => ⟨_, rfl, rfl⟩
theorem sgs_is_word (T : Txt w K mg) {fd : FuncData} (F : FunD K "is_word" "is_word" (defArgs s_is_word) (defBody s_is_word) (defScope s_is_word) [] [] (He.ga K "is_word") fd) : ∀ s ∈ sg_is_word, Sig (gs K) fd ["thing"] s.1 s.2.1 s.2.2 := fun s hs => match s, hs with
  | _, .head _ => sig_all (g := gs K) (js := [0]) F rfl fun _ _ _ _ _ _ us ws hl hl2 => match us, hl, ws, hl2 with | [_], _, [], _ => rfl
theorem sgs_is_one_of (T : Txt w K mg) {fd : FuncData} (F : FunD K "is_one_of" "is_one_of" (defArgs s_is_one_of) (defBody s_is_one_of) (defScope s_is_one_of) [] [] (He.ga K "is_one_of") fd) : ∀ s ∈ sg_is_one_of, Sig (gs K) fd ["thing", "texts"] s.1 s.2.1 s.2.2 := fun s hs => match s, hs with
  | _, .head _ => sig_all (g := gs K) (js := [0, 1]) F rfl fun _ _ _ _ _ _ us ws hl hl2 => match us, hl, ws, hl2 with | [_, _], _, [], _ => rfl
theorem sgs_is_tuple_of (T : Txt w K mg) {fd : FuncData} (F : FunD K "is_tuple_of" "is_tuple_of" (defArgs s_is_tuple_of) (defBody s_is_tuple_of) (defScope s_is_tuple_of) [] [] (He.ga K "is_tuple_of") fd) : ∀ s ∈ sg_is_tuple_of, Sig (gs K) fd ["thing", "least", "most"] s.1 s.2.1 s.2.2 := fun s hs => match s, hs with
  | _, .head _ => sig_all (g := gs K) (js := [0, 1, 2]) F rfl fun _ _ _ _ _ _ us ws hl hl2 => match us, hl, ws, hl2 with | [_, _, _], _, [], _ => rfl
theorem sgs_is_value (T : Txt w K mg) {fd : FuncData} (F : FunD K "is_value" "is_value" (defArgs s_is_value) (defBody s_is_value) (defScope s_is_value) [] [] (He.ga K "is_value") fd) : ∀ s ∈ sg_is_value, Sig (gs K) fd ["kind", "thing"] s.1 s.2.1 s.2.2 := fun s hs => match s, hs with
  | _, .head _ => sig_all (g := gs K) (js := [0, 1]) F rfl fun _ _ _ _ _ _ us ws hl hl2 => match us, hl, ws, hl2 with | [_, _], _, [], _ => rfl
theorem sgs_is_row (T : Txt w K mg) {fd : FuncData} (F : FunD K "is_row" "is_row" (defArgs s_is_row) (defBody s_is_row) (defScope s_is_row) [] [] (He.ga K "is_row") fd) : ∀ s ∈ sg_is_row, Sig (gs K) fd ["form", "thing"] s.1 s.2.1 s.2.2 := fun s hs => match s, hs with
  | _, .head _ => sig_all (g := gs K) (js := [0, 1]) F rfl fun _ _ _ _ _ _ us ws hl hl2 => match us, hl, ws, hl2 with | [_, _], _, [], _ => rfl
theorem sgs_names_of (T : Txt w K mg) {fd : FuncData} (F : FunD K "names_of" "names_of" (defArgs s_names_of) (defBody s_names_of) (defScope s_names_of) [] [] (He.ga K "names_of") fd) : ∀ s ∈ sg_names_of, Sig (gs K) fd ["form"] s.1 s.2.1 s.2.2 := fun s hs => match s, hs with
  | _, .head _ => sig_all (g := gs K) (js := [0]) F rfl fun _ _ _ _ _ _ us ws hl hl2 => match us, hl, ws, hl2 with | [_], _, [], _ => rfl
theorem sgs_are_columns (T : Txt w K mg) {fd : FuncData} (F : FunD K "are_columns" "are_columns" (defArgs s_are_columns) (defBody s_are_columns) (defScope s_are_columns) [] [] (He.ga K "are_columns") fd) : ∀ s ∈ sg_are_columns, Sig (gs K) fd ["form", "thing", "least", "most"] s.1 s.2.1 s.2.2 := fun s hs => match s, hs with
  | _, .head _ => sig_all (g := gs K) (js := [0, 1, 2, 3]) F rfl fun _ _ _ _ _ _ us ws hl hl2 => match us, hl, ws, hl2 with | [_, _, _, _], _, [], _ => rfl
theorem sgs_is_bound (T : Txt w K mg) {fd : FuncData} (F : FunD K "is_bound" "is_bound" (defArgs s_is_bound) (defBody s_is_bound) (defScope s_is_bound) [] [] (He.ga K "is_bound") fd) : ∀ s ∈ sg_is_bound, Sig (gs K) fd ["kind", "thing"] s.1 s.2.1 s.2.2 := fun s hs => match s, hs with
  | _, .head _ => sig_all (g := gs K) (js := [0, 1]) F rfl fun _ _ _ _ _ _ us ws hl hl2 => match us, hl, ws, hl2 with | [_, _], _, [], _ => rfl
theorem sgs_is_condition (T : Txt w K mg) {fd : FuncData} (F : FunD K "is_condition" "is_condition" (defArgs s_is_condition) (defBody s_is_condition) (defScope s_is_condition) [] [] (He.ga K "is_condition") fd) : ∀ s ∈ sg_is_condition, Sig (gs K) fd ["form", "thing"] s.1 s.2.1 s.2.2 := fun s hs => match s, hs with
  | _, .head _ => sig_all (g := gs K) (js := [0, 1]) F rfl fun _ _ _ _ _ _ us ws hl hl2 => match us, hl, ws, hl2 with | [_, _], _, [], _ => rfl
theorem sgs_are_conditions (T : Txt w K mg) {fd : FuncData} (F : FunD K "are_conditions" "are_conditions" (defArgs s_are_conditions) (defBody s_are_conditions) (defScope s_are_conditions) [] [] (He.ga K "are_conditions") fd) : ∀ s ∈ sg_are_conditions, Sig (gs K) fd ["form", "thing"] s.1 s.2.1 s.2.2 := fun s hs => match s, hs with
  | _, .head _ => sig_all (g := gs K) (js := [0, 1]) F rfl fun _ _ _ _ _ _ us ws hl hl2 => match us, hl, ws, hl2 with | [_, _], _, [], _ => rfl
theorem sgs_ask_fault (T : Txt w K mg) {fd : FuncData} (F : FunD K "ask_fault" "ask_fault" (defArgs s_ask_fault) (defBody s_ask_fault) (defScope s_ask_fault) [] [] (He.ga K "ask_fault") fd) : ∀ s ∈ sg_ask_fault, Sig (gs K) fd ["form", "thing"] s.1 s.2.1 s.2.2 := fun s hs => match s, hs with
  | _, .head _ => sig_all (g := gs K) (js := [0, 1]) F rfl fun _ _ _ _ _ _ us ws hl hl2 => match us, hl, ws, hl2 with | [_, _], _, [], _ => rfl
theorem sgs_item_fault (T : Txt w K mg) {fd : FuncData} (F : FunD K "item_fault" "item_fault" (defArgs s_item_fault) (defBody s_item_fault) (defScope s_item_fault) [] [] (He.ga K "item_fault") fd) : ∀ s ∈ sg_item_fault, Sig (gs K) fd ["form", "thing"] s.1 s.2.1 s.2.2 := fun s hs => match s, hs with
  | _, .head _ => sig_all (g := gs K) (js := [0, 1]) F rfl fun _ _ _ _ _ _ us ws hl hl2 => match us, hl, ws, hl2 with | [_, _], _, [], _ => rfl
  | _, .tail _ (.head _) => sig_all (g := gs K) (js := [1, 0]) F rfl fun _ _ _ _ _ _ us ws hl hl2 => match us, hl, ws, hl2 with | [], _, [_, _], _ => rfl
theorem sgs_value_fault (T : Txt w K mg) {fd : FuncData} (F : FunD K "value_fault" "value_fault" (defArgs s_value_fault) (defBody s_value_fault) (defScope s_value_fault) [] [] (He.ga K "value_fault") fd) : ∀ s ∈ sg_value_fault, Sig (gs K) fd ["form", "column", "value"] s.1 s.2.1 s.2.2 := fun s hs => match s, hs with
  | _, .head _ => sig_all (g := gs K) (js := [0, 1, 2]) F rfl fun _ _ _ _ _ _ us ws hl hl2 => match us, hl, ws, hl2 with | [_, _, _], _, [], _ => rfl
theorem sgs_l_bag (T : Txt w K mg) {fd : FuncData} (F : FunD K "_law_bag" "_law_bag" (defArgs s_l_bag) (defBody s_l_bag) (defScope s_l_bag) [] [] (He.ga K "_law_bag") fd) : ∀ s ∈ sg_l_bag, Sig (gs K) fd ["_law_script", "_law_at"] s.1 s.2.1 s.2.2 := fun s hs => match s, hs with
  | _, .head _ => sig_all (g := gs K) (js := [0, 1]) F rfl fun _ _ _ _ _ _ us ws hl hl2 => match us, hl, ws, hl2 with | [_, _], _, [], _ => rfl
theorem sgs_l_take (T : Txt w K mg) {fd : FuncData} (F : FunD K "_law_take" "_law_take" (defArgs s_l_take) (defBody s_l_take) (defScope s_l_take) [] [] (He.ga K "_law_take") fd) : ∀ s ∈ sg_l_take, Sig (gs K) fd ["_law_bag_here", "_law_many"] s.1 s.2.1 s.2.2 := fun s hs => match s, hs with
  | _, .head _ => sig_all (g := gs K) (js := [0, 1]) F rfl fun _ _ _ _ _ _ us ws hl hl2 => match us, hl, ws, hl2 with | [_, _], _, [], _ => rfl
theorem sgs_l_form (T : Txt w K mg) {fd : FuncData} (F : FunD K "_law_form" "_law_form" (defArgs s_l_form) (defBody s_l_form) (defScope s_l_form) [] [] (He.ga K "_law_form") fd) : ∀ s ∈ sg_l_form, Sig (gs K) fd ["_law_bag_here"] s.1 s.2.1 s.2.2 := fun s hs => match s, hs with
  | _, .head _ => sig_all (g := gs K) (js := [0]) F rfl fun _ _ _ _ _ _ us ws hl hl2 => match us, hl, ws, hl2 with | [_], _, [], _ => rfl
theorem sgs_l_value (T : Txt w K mg) {fd : FuncData} (F : FunD K "_law_value" "_law_value" (defArgs s_l_value) (defBody s_l_value) (defScope s_l_value) [] [] (He.ga K "_law_value") fd) : ∀ s ∈ sg_l_value, Sig (gs K) fd ["_law_bag_here", "_law_kind", "_law_pool"] s.1 s.2.1 s.2.2 := fun s hs => match s, hs with
  | _, .head _ => sig_all (g := gs K) (js := [0, 1, 2]) F rfl fun _ _ _ _ _ _ us ws hl hl2 => match us, hl, ws, hl2 with | [_, _, _], _, [], _ => rfl
theorem sgs_l_some (T : Txt w K mg) {fd : FuncData} (F : FunD K "_law_some" "_law_some" (defArgs s_l_some) (defBody s_l_some) (defScope s_l_some) [] [] (He.ga K "_law_some") fd) : ∀ s ∈ sg_l_some, Sig (gs K) fd ["_law_bag_here", "_law_names", "_law_few", "_law_most"] s.1 s.2.1 s.2.2 := fun s hs => match s, hs with
  | _, .head _ => sig_all (g := gs K) (js := [0, 1, 2, 3]) F rfl fun _ _ _ _ _ _ us ws hl hl2 => match us, hl, ws, hl2 with | [_, _, _, _], _, [], _ => rfl
theorem sgs_l_conditions (T : Txt w K mg) {fd : FuncData} (F : FunD K "_law_conditions" "_law_conditions" (defArgs s_l_conditions) (defBody s_l_conditions) (defScope s_l_conditions) [] [] (He.ga K "_law_conditions") fd) : ∀ s ∈ sg_l_conditions, Sig (gs K) fd ["_law_bag_here", "_law_sort_of", "_law_pool"] s.1 s.2.1 s.2.2 := fun s hs => match s, hs with
  | _, .head _ => sig_all (g := gs K) (js := [0, 1, 2]) F rfl fun _ _ _ _ _ _ us ws hl hl2 => match us, hl, ws, hl2 with | [_, _, _], _, [], _ => rfl
theorem sgs_l_ask (T : Txt w K mg) {fd : FuncData} (F : FunD K "_law_ask" "_law_ask" (defArgs s_l_ask) (defBody s_l_ask) (defScope s_l_ask) [] [] (He.ga K "_law_ask") fd) : ∀ s ∈ sg_l_ask, Sig (gs K) fd ["_law_bag_here", "_law_sort_of", "_law_pool"] s.1 s.2.1 s.2.2 := fun s hs => match s, hs with
  | _, .head _ => sig_all (g := gs K) (js := [0, 1, 2]) F rfl fun _ _ _ _ _ _ us ws hl hl2 => match us, hl, ws, hl2 with | [_, _, _], _, [], _ => rfl
theorem sgs_l_edit (T : Txt w K mg) {fd : FuncData} (F : FunD K "_law_edit" "_law_edit" (defArgs s_l_edit) (defBody s_l_edit) (defScope s_l_edit) [] [] (He.ga K "_law_edit") fd) : ∀ s ∈ sg_l_edit, Sig (gs K) fd ["_law_bag_here", "_law_know"] s.1 s.2.1 s.2.2 := fun s hs => match s, hs with
  | _, .head _ => sig_all (g := gs K) (js := [0, 1]) F rfl fun _ _ _ _ _ _ us ws hl hl2 => match us, hl, ws, hl2 with | [_, _], _, [], _ => rfl
theorem sgs_l_any (T : Txt w K mg) {fd : FuncData} (F : FunD K "_law_any" "_law_any" (defArgs s_l_any) (defBody s_l_any) (defScope s_l_any) [] [] (He.ga K "_law_any") fd) : ∀ s ∈ sg_l_any, Sig (gs K) fd ["_law_bag_here", "_law_names"] s.1 s.2.1 s.2.2 := fun s hs => match s, hs with
  | _, .head _ => sig_all (g := gs K) (js := [0, 1]) F rfl fun _ _ _ _ _ _ us ws hl hl2 => match us, hl, ws, hl2 with | [_, _], _, [], _ => rfl
theorem sgs_l_is_value (T : Txt w K mg) {fd : FuncData} (F : FunD K "_law_is_value" "_law_is_value" (defArgs s_l_is_value) (defBody s_l_is_value) (defScope s_l_is_value) [] [] (He.ga K "_law_is_value") fd) : ∀ s ∈ sg_l_is_value, Sig (gs K) fd ["_law_kind", "_law_given"] s.1 s.2.1 s.2.2 := fun s hs => match s, hs with
  | _, .head _ => sig_all (g := gs K) (js := [0, 1]) F rfl fun _ _ _ _ _ _ us ws hl hl2 => match us, hl, ws, hl2 with | [_, _], _, [], _ => rfl
theorem sgs_l_are_columns (T : Txt w K mg) {fd : FuncData} (F : FunD K "_law_are_columns" "_law_are_columns" (defArgs s_l_are_columns) (defBody s_l_are_columns) (defScope s_l_are_columns) [] [] (He.ga K "_law_are_columns") fd) : ∀ s ∈ sg_l_are_columns, Sig (gs K) fd ["_law_names", "_law_given", "_law_few", "_law_most"] s.1 s.2.1 s.2.2 := fun s hs => match s, hs with
  | _, .head _ => sig_all (g := gs K) (js := [0, 1, 2, 3]) F rfl fun _ _ _ _ _ _ us ws hl hl2 => match us, hl, ws, hl2 with | [_, _, _, _], _, [], _ => rfl
theorem sgs_l_are_conditions (T : Txt w K mg) {fd : FuncData} (F : FunD K "_law_are_conditions" "_law_are_conditions" (defArgs s_l_are_conditions) (defBody s_l_are_conditions) (defScope s_l_are_conditions) [] [] (He.ga K "_law_are_conditions") fd) : ∀ s ∈ sg_l_are_conditions, Sig (gs K) fd ["_law_sort_of", "_law_given"] s.1 s.2.1 s.2.2 := fun s hs => match s, hs with
  | _, .head _ => sig_all (g := gs K) (js := [0, 1]) F rfl fun _ _ _ _ _ _ us ws hl hl2 => match us, hl, ws, hl2 with | [_, _], _, [], _ => rfl
theorem sgs_l_is_ask (T : Txt w K mg) {fd : FuncData} (F : FunD K "_law_is_ask" "_law_is_ask" (defArgs s_l_is_ask) (defBody s_l_is_ask) (defScope s_l_is_ask) [] [] (He.ga K "_law_is_ask") fd) : ∀ s ∈ sg_l_is_ask, Sig (gs K) fd ["_law_sort_of", "_law_given"] s.1 s.2.1 s.2.2 := fun s hs => match s, hs with
  | _, .head _ => sig_all (g := gs K) (js := [0, 1]) F rfl fun _ _ _ _ _ _ us ws hl hl2 => match us, hl, ws, hl2 with | [_, _], _, [], _ => rfl
theorem sgs_l_due (T : Txt w K mg) {fd : FuncData} (F : FunD K "_law_due" "_law_due" (defArgs s_l_due) (defBody s_l_due) (defScope s_l_due) [] [] (He.ga K "_law_due") fd) : ∀ s ∈ sg_l_due, Sig (gs K) fd ["_law_sort_of", "_law_given"] s.1 s.2.1 s.2.2 := fun s hs => match s, hs with
  | _, .head _ => sig_all (g := gs K) (js := [0, 1]) F rfl fun _ _ _ _ _ _ us ws hl hl2 => match us, hl, ws, hl2 with | [_, _], _, [], _ => rfl
theorem sgs_l_bent (T : Txt w K mg) {fd : FuncData} (F : FunD K "_law_bent" "_law_bent" (defArgs s_l_bent) (defBody s_l_bent) (defScope s_l_bent) [] [] (He.ga K "_law_bent") fd) : ∀ s ∈ sg_l_bent, Sig (gs K) fd ["_law_bag_here", "_law_names", "_law_given"] s.1 s.2.1 s.2.2 := fun s hs => match s, hs with
  | _, .head _ => sig_all (g := gs K) (js := [0, 1, 2]) F rfl fun _ _ _ _ _ _ us ws hl hl2 => match us, hl, ws, hl2 with | [_, _, _], _, [], _ => rfl
theorem sgs_l_copied (T : Txt w K mg) {fd : FuncData} (F : FunD K "_law_copied" "_law_copied" (defArgs s_l_copied) (defBody s_l_copied) (defScope s_l_copied) [] [] (He.ga K "_law_copied") fd) : ∀ s ∈ sg_l_copied, Sig (gs K) fd ["_law_given"] s.1 s.2.1 s.2.2 := fun s hs => match s, hs with
  | _, .head _ => sig_all (g := gs K) (js := [0]) F rfl fun _ _ _ _ _ _ us ws hl hl2 => match us, hl, ws, hl2 with | [_], _, [], _ => rfl
theorem sgs_law (T : Txt w K mg) {fd : FuncData} (F : FunD K "law" "law" (defArgs s_law) (defBody s_law) (defScope s_law) [] [] (He.ga K "law") fd) : ∀ s ∈ sg_law, Sig (gs K) fd ["_law_script"] s.1 s.2.1 s.2.2 := fun s hs => match s, hs with
  | _, .head _ => sig_all (g := gs K) (js := [0]) F rfl fun _ _ _ _ _ _ us ws hl hl2 => match us, hl, ws, hl2 with | [_], _, [], _ => rfl
structure All (P : Program) (w : World) (K : PySem.W.Frag) (mg : Str → Option Value) (base : Heap) (k : Nat) : Prop where
  f_is_whole : Fo (gs K) P w K mg base (callN Tb k) (2 * k + 2) (He.ga K "is_whole") 0 sg_is_whole
  f_is_word : Fo (gs K) P w K mg base (callN Tb k) (2 * k + 2) (He.ga K "is_word") 1 sg_is_word
  f_is_one_of : Fo (gs K) P w K mg base (callN Tb k) (2 * k + 2) (He.ga K "is_one_of") 2 sg_is_one_of
  f_is_tuple_of : Fo (gs K) P w K mg base (callN Tb k) (2 * k + 2) (He.ga K "is_tuple_of") 3 sg_is_tuple_of
  f_is_value : Fo (gs K) P w K mg base (callN Tb k) (2 * k + 2) (He.ga K "is_value") 4 sg_is_value
  f_is_row : Fo (gs K) P w K mg base (callN Tb k) (2 * k + 2) (He.ga K "is_row") 5 sg_is_row
  f_names_of : Fo (gs K) P w K mg base (callN Tb k) (2 * k + 2) (He.ga K "names_of") 6 sg_names_of
  f_are_columns : Fo (gs K) P w K mg base (callN Tb k) (2 * k + 2) (He.ga K "are_columns") 7 sg_are_columns
  f_is_bound : Fo (gs K) P w K mg base (callN Tb k) (2 * k + 2) (He.ga K "is_bound") 8 sg_is_bound
  f_is_condition : Fo (gs K) P w K mg base (callN Tb k) (2 * k + 2) (He.ga K "is_condition") 9 sg_is_condition
  f_are_conditions : Fo (gs K) P w K mg base (callN Tb k) (2 * k + 2) (He.ga K "are_conditions") 10 sg_are_conditions
  f_ask_fault : Fo (gs K) P w K mg base (callN Tb k) (2 * k + 2) (He.ga K "ask_fault") 11 sg_ask_fault
  f_item_fault : Fo (gs K) P w K mg base (callN Tb k) (2 * k + 2) (He.ga K "item_fault") 12 sg_item_fault
  f_value_fault : Fo (gs K) P w K mg base (callN Tb k) (2 * k + 2) (He.ga K "value_fault") 13 sg_value_fault
  f_l_bag : Fo (gs K) P w K mg base (callN Tb k) (2 * k + 2) (He.ga K "_law_bag") 14 sg_l_bag
  f_l_take : Fo (gs K) P w K mg base (callN Tb k) (2 * k + 2) (He.ga K "_law_take") 15 sg_l_take
  f_l_form : Fo (gs K) P w K mg base (callN Tb k) (2 * k + 2) (He.ga K "_law_form") 16 sg_l_form
  f_l_value : Fo (gs K) P w K mg base (callN Tb k) (2 * k + 2) (He.ga K "_law_value") 17 sg_l_value
  f_l_some : Fo (gs K) P w K mg base (callN Tb k) (2 * k + 2) (He.ga K "_law_some") 18 sg_l_some
  f_l_conditions : Fo (gs K) P w K mg base (callN Tb k) (2 * k + 2) (He.ga K "_law_conditions") 19 sg_l_conditions
  f_l_ask : Fo (gs K) P w K mg base (callN Tb k) (2 * k + 2) (He.ga K "_law_ask") 20 sg_l_ask
  f_l_edit : Fo (gs K) P w K mg base (callN Tb k) (2 * k + 2) (He.ga K "_law_edit") 21 sg_l_edit
  f_l_any : Fo (gs K) P w K mg base (callN Tb k) (2 * k + 2) (He.ga K "_law_any") 22 sg_l_any
  f_l_is_value : Fo (gs K) P w K mg base (callN Tb k) (2 * k + 2) (He.ga K "_law_is_value") 23 sg_l_is_value
  f_l_are_columns : Fo (gs K) P w K mg base (callN Tb k) (2 * k + 2) (He.ga K "_law_are_columns") 24 sg_l_are_columns
  f_l_are_conditions : Fo (gs K) P w K mg base (callN Tb k) (2 * k + 2) (He.ga K "_law_are_conditions") 25 sg_l_are_conditions
  f_l_is_ask : Fo (gs K) P w K mg base (callN Tb k) (2 * k + 2) (He.ga K "_law_is_ask") 26 sg_l_is_ask
  f_l_due : Fo (gs K) P w K mg base (callN Tb k) (2 * k + 2) (He.ga K "_law_due") 27 sg_l_due
  f_l_bent : Fo (gs K) P w K mg base (callN Tb k) (2 * k + 2) (He.ga K "_law_bent") 28 sg_l_bent
  f_l_copied : Fo (gs K) P w K mg base (callN Tb k) (2 * k + 2) (He.ga K "_law_copied") 29 sg_l_copied
  f_law : Fo (gs K) P w K mg base (callN Tb k) (2 * k + 2) (He.ga K "law") 30 sg_law
theorem b_is_whole (T : Txt w K mg) {k : Nat} (A : All P w K mg base k) {cdv : Value} {C : Around} {outer : List PySem.Env} {s : Shared} {H : Hp} {E : XK} (hr : Room (2 * k + 3) (C.deeper (envOfC "is_whole" (defScope s_is_whole) s.heap.objs.size (He.ga K "is_whole") cdv))) :
    PSs (cxOf (L2.CX P w) P w K mg base ["thing", "low", "high"] "is_whole" (defScope s_is_whole) (He.ga K "is_whole") cdv C outer s H E) (defBody s_is_whole) (tS (gs K) (fun c d _ H => E c d H) (exs (callN Tb k) p_is_whole)) := by
  have tk : Takes (cxOf (L2.CX P w) P w K mg base ["thing", "low", "high"] "is_whole" (defScope s_is_whole) (He.ga K "is_whole") cdv C outer s H E) (fun c d _ H => E c d H) := takes_of rfl rfl rfl rfl
  have pp : PassesOwn (model (cxOf (L2.CX P w) P w K mg base ["thing", "low", "high"] "is_whole" (defScope s_is_whole) (He.ga K "is_whole") cdv C outer s H E).prog (cxOf (L2.CX P w) P w K mg base ["thing", "low", "high"] "is_whole" (defScope s_is_whole) (He.ga K "is_whole") cdv C outer s H E).w) (cxOf (L2.CX P w) P w K mg base ["thing", "low", "high"] "is_whole" (defScope s_is_whole) (He.ga K "is_whole") cdv C outer s H E).A (cxOf (L2.CX P w) P w K mg base ["thing", "low", "high"] "is_whole" (defScope s_is_whole) (He.ga K "is_whole") cdv C outer s H E).env (cxOf (L2.CX P w) P w K mg base ["thing", "low", "high"] "is_whole" (defScope s_is_whole) (He.ga K "is_whole") cdv C outer s H E).xe := passes_of rfl
  exact (s_cons (s_ret (i_and rfl (j_bi (.isi) hr T.n_isinstance (a_cons rfl j_var (a_cons rfl (c_gT (n := "int") T.n_int (by decide +kernel)) a_nil))) (i_and rfl (i_not rfl (j_bi (.isi) hr T.n_isinstance (a_cons rfl j_var (a_cons rfl (c_gT (n := "bool") T.n_bool (by decide +kernel)) a_nil)))) (pe_one (i_chain (op := .le) (op' := .le) rfl hr rfl j_var j_var j_var)))))
    s_nil)
theorem b_is_word (T : Txt w K mg) {k : Nat} (A : All P w K mg base k) {cdv : Value} {C : Around} {outer : List PySem.Env} {s : Shared} {H : Hp} {E : XK} (hr : Room (2 * k + 3) (C.deeper (envOfC "is_word" (defScope s_is_word) s.heap.objs.size (He.ga K "is_word") cdv))) :
    PSs (cxOf (L2.CX P w) P w K mg base ["thing", "sign"] "is_word" (defScope s_is_word) (He.ga K "is_word") cdv C outer s H E) (defBody s_is_word) (tS (gs K) (fun c d _ H => E c d H) (exs (callN Tb k) p_is_word)) := by
  have tk : Takes (cxOf (L2.CX P w) P w K mg base ["thing", "sign"] "is_word" (defScope s_is_word) (He.ga K "is_word") cdv C outer s H E) (fun c d _ H => E c d H) := takes_of rfl rfl rfl rfl
  have pp : PassesOwn (model (cxOf (L2.CX P w) P w K mg base ["thing", "sign"] "is_word" (defScope s_is_word) (He.ga K "is_word") cdv C outer s H E).prog (cxOf (L2.CX P w) P w K mg base ["thing", "sign"] "is_word" (defScope s_is_word) (He.ga K "is_word") cdv C outer s H E).w) (cxOf (L2.CX P w) P w K mg base ["thing", "sign"] "is_word" (defScope s_is_word) (He.ga K "is_word") cdv C outer s H E).A (cxOf (L2.CX P w) P w K mg base ["thing", "sign"] "is_word" (defScope s_is_word) (He.ga K "is_word") cdv C outer s H E).env (cxOf (L2.CX P w) P w K mg base ["thing", "sign"] "is_word" (defScope s_is_word) (He.ga K "is_word") cdv C outer s H E).xe := passes_of rfl
  exact (s_cons (s_ite (PW.pt (w_or (t_not (t_val rfl rfl (j_bi (.isi) hr T.n_isinstance (a_cons rfl j_var (a_cons rfl (c_gT (n := "str") T.n_str (by decide +kernel)) a_nil))))) (pw_or1 (t_not (t_chain (op := .le) (op' := .le) rfl hr rfl c_int (j_bi (.len) hr T.n_len (a_cons rfl j_var a_nil)) (c_gI T.g_MOST_LETTERS))))))
      (s_cons (s_ret c_bl)
    s_nil)
      s_nil)
    (s_cons (s_ret (j_bi (.all) hr T.n_all (a_cons rfl (i_lc (own := [("sign", 1)]) rfl sc_is_word.nd rfl (w_e rfl j_var) (blkOk_by (by kernel_rfl)) (fun _ _ _ _ _ => (j_g sc_is_word.nd)) (fun _ _ _ _ _ => ifs_nil) (fun _ _ _ _ _ => (i_cmp (op := .isIn) rfl hr rfl j_var (c_gS T.g_LETTERS (okS_of (by decide +kernel)))))) a_nil)))
    s_nil))
theorem b_is_one_of (T : Txt w K mg) {k : Nat} (A : All P w K mg base k) {cdv : Value} {C : Around} {outer : List PySem.Env} {s : Shared} {H : Hp} {E : XK} (hr : Room (2 * k + 3) (C.deeper (envOfC "is_one_of" (defScope s_is_one_of) s.heap.objs.size (He.ga K "is_one_of") cdv))) :
    PSs (cxOf (L2.CX P w) P w K mg base ["thing", "texts"] "is_one_of" (defScope s_is_one_of) (He.ga K "is_one_of") cdv C outer s H E) (defBody s_is_one_of) (tS (gs K) (fun c d _ H => E c d H) (exs (callN Tb k) p_is_one_of)) := by
  have tk : Takes (cxOf (L2.CX P w) P w K mg base ["thing", "texts"] "is_one_of" (defScope s_is_one_of) (He.ga K "is_one_of") cdv C outer s H E) (fun c d _ H => E c d H) := takes_of rfl rfl rfl rfl
  have pp : PassesOwn (model (cxOf (L2.CX P w) P w K mg base ["thing", "texts"] "is_one_of" (defScope s_is_one_of) (He.ga K "is_one_of") cdv C outer s H E).prog (cxOf (L2.CX P w) P w K mg base ["thing", "texts"] "is_one_of" (defScope s_is_one_of) (He.ga K "is_one_of") cdv C outer s H E).w) (cxOf (L2.CX P w) P w K mg base ["thing", "texts"] "is_one_of" (defScope s_is_one_of) (He.ga K "is_one_of") cdv C outer s H E).A (cxOf (L2.CX P w) P w K mg base ["thing", "texts"] "is_one_of" (defScope s_is_one_of) (He.ga K "is_one_of") cdv C outer s H E).env (cxOf (L2.CX P w) P w K mg base ["thing", "texts"] "is_one_of" (defScope s_is_one_of) (He.ga K "is_one_of") cdv C outer s H E).xe := passes_of rfl
  exact (s_cons (s_ret (i_and rfl (j_bi (.isi) hr T.n_isinstance (a_cons rfl j_var (a_cons rfl (c_gT (n := "str") T.n_str (by decide +kernel)) a_nil))) (pe_one (i_cmp (op := .isIn) rfl hr rfl j_var j_var))))
    s_nil)
theorem b_is_tuple_of (T : Txt w K mg) {k : Nat} (A : All P w K mg base k) {cdv : Value} {C : Around} {outer : List PySem.Env} {s : Shared} {H : Hp} {E : XK} (hr : Room (2 * k + 3) (C.deeper (envOfC "is_tuple_of" (defScope s_is_tuple_of) s.heap.objs.size (He.ga K "is_tuple_of") cdv))) :
    PSs (cxOf (L2.CX P w) P w K mg base ["thing", "least", "most"] "is_tuple_of" (defScope s_is_tuple_of) (He.ga K "is_tuple_of") cdv C outer s H E) (defBody s_is_tuple_of) (tS (gs K) (fun c d _ H => E c d H) (exs (callN Tb k) p_is_tuple_of)) := by
  have tk : Takes (cxOf (L2.CX P w) P w K mg base ["thing", "least", "most"] "is_tuple_of" (defScope s_is_tuple_of) (He.ga K "is_tuple_of") cdv C outer s H E) (fun c d _ H => E c d H) := takes_of rfl rfl rfl rfl
  have pp : PassesOwn (model (cxOf (L2.CX P w) P w K mg base ["thing", "least", "most"] "is_tuple_of" (defScope s_is_tuple_of) (He.ga K "is_tuple_of") cdv C outer s H E).prog (cxOf (L2.CX P w) P w K mg base ["thing", "least", "most"] "is_tuple_of" (defScope s_is_tuple_of) (He.ga K "is_tuple_of") cdv C outer s H E).w) (cxOf (L2.CX P w) P w K mg base ["thing", "least", "most"] "is_tuple_of" (defScope s_is_tuple_of) (He.ga K "is_tuple_of") cdv C outer s H E).A (cxOf (L2.CX P w) P w K mg base ["thing", "least", "most"] "is_tuple_of" (defScope s_is_tuple_of) (He.ga K "is_tuple_of") cdv C outer s H E).env (cxOf (L2.CX P w) P w K mg base ["thing", "least", "most"] "is_tuple_of" (defScope s_is_tuple_of) (He.ga K "is_tuple_of") cdv C outer s H E).xe := passes_of rfl
  exact (s_cons (s_ret (i_and rfl (j_bi (.isi) hr T.n_isinstance (a_cons rfl j_var (a_cons rfl (c_gT (n := "tuple") T.n_tuple (by decide +kernel)) a_nil))) (pe_one (i_chain (op := .le) (op' := .le) rfl hr rfl j_var (j_bi (.len) hr T.n_len (a_cons rfl j_var a_nil)) j_var))))
    s_nil)
theorem b_is_value (T : Txt w K mg) {k : Nat} (A : All P w K mg base k) {cdv : Value} {C : Around} {outer : List PySem.Env} {s : Shared} {H : Hp} {E : XK} (hr : Room (2 * k + 3) (C.deeper (envOfC "is_value" (defScope s_is_value) s.heap.objs.size (He.ga K "is_value") cdv))) :
    PSs (cxOf (L2.CX P w) P w K mg base ["kind", "thing"] "is_value" (defScope s_is_value) (He.ga K "is_value") cdv C outer s H E) (defBody s_is_value) (tS (gs K) (fun c d _ H => E c d H) (exs (callN Tb k) p_is_value)) := by
  have tk : Takes (cxOf (L2.CX P w) P w K mg base ["kind", "thing"] "is_value" (defScope s_is_value) (He.ga K "is_value") cdv C outer s H E) (fun c d _ H => E c d H) := takes_of rfl rfl rfl rfl
  have pp : PassesOwn (model (cxOf (L2.CX P w) P w K mg base ["kind", "thing"] "is_value" (defScope s_is_value) (He.ga K "is_value") cdv C outer s H E).prog (cxOf (L2.CX P w) P w K mg base ["kind", "thing"] "is_value" (defScope s_is_value) (He.ga K "is_value") cdv C outer s H E).w) (cxOf (L2.CX P w) P w K mg base ["kind", "thing"] "is_value" (defScope s_is_value) (He.ga K "is_value") cdv C outer s H E).A (cxOf (L2.CX P w) P w K mg base ["kind", "thing"] "is_value" (defScope s_is_value) (He.ga K "is_value") cdv C outer s H E).env (cxOf (L2.CX P w) P w K mg base ["kind", "thing"] "is_value" (defScope s_is_value) (He.ga K "is_value") cdv C outer s H E).xe := passes_of rfl
  exact (s_cons (s_ret (i_ife (t_cmp (op := .eq) rfl hr rfl j_var (c_str (okS_of (by decide +kernel)))) (j_call (ies := [(.var 1)]) (iks := []) (ks := []) (arr := [.a 0, .d (.int (-999)), .d (.int (999))]) A.f_is_whole T.m_is_whole tk hr _ rfl (a_cons rfl j_var a_nil) k_nil (.head _)) (j_call (ies := [(.var 1)]) (iks := []) (ks := []) (arr := [.a 0]) A.f_is_word T.m_is_word tk hr _ rfl (a_cons rfl j_var a_nil) k_nil (.head _))))
    s_nil)
theorem b_is_row (T : Txt w K mg) {k : Nat} (A : All P w K mg base k) {cdv : Value} {C : Around} {outer : List PySem.Env} {s : Shared} {H : Hp} {E : XK} (hr : Room (2 * k + 3) (C.deeper (envOfC "is_row" (defScope s_is_row) s.heap.objs.size (He.ga K "is_row") cdv))) :
    PSs (cxOf (L2.CX P w) P w K mg base ["form", "thing", "name", "kind", "value"] "is_row" (defScope s_is_row) (He.ga K "is_row") cdv C outer s H E) (defBody s_is_row) (tS (gs K) (fun c d _ H => E c d H) (exs (callN Tb k) p_is_row)) := by
  have tk : Takes (cxOf (L2.CX P w) P w K mg base ["form", "thing", "name", "kind", "value"] "is_row" (defScope s_is_row) (He.ga K "is_row") cdv C outer s H E) (fun c d _ H => E c d H) := takes_of rfl rfl rfl rfl
  have pp : PassesOwn (model (cxOf (L2.CX P w) P w K mg base ["form", "thing", "name", "kind", "value"] "is_row" (defScope s_is_row) (He.ga K "is_row") cdv C outer s H E).prog (cxOf (L2.CX P w) P w K mg base ["form", "thing", "name", "kind", "value"] "is_row" (defScope s_is_row) (He.ga K "is_row") cdv C outer s H E).w) (cxOf (L2.CX P w) P w K mg base ["form", "thing", "name", "kind", "value"] "is_row" (defScope s_is_row) (He.ga K "is_row") cdv C outer s H E).A (cxOf (L2.CX P w) P w K mg base ["form", "thing", "name", "kind", "value"] "is_row" (defScope s_is_row) (He.ga K "is_row") cdv C outer s H E).env (cxOf (L2.CX P w) P w K mg base ["form", "thing", "name", "kind", "value"] "is_row" (defScope s_is_row) (He.ga K "is_row") cdv C outer s H E).xe := passes_of rfl
  exact (s_cons (s_ite (t_not (t_val rfl rfl (j_call (ies := [(.var 1), (.bi (.len) [(.var 0)]), (.bi (.len) [(.var 0)])]) (iks := []) (ks := []) (arr := [.a 0, .a 1, .a 2]) A.f_is_tuple_of T.m_is_tuple_of tk hr _ rfl (a_cons rfl j_var (a_cons rfl (j_bi (.len) hr T.n_len (a_cons rfl j_var a_nil)) (a_cons rfl (j_bi (.len) hr T.n_len (a_cons rfl j_var a_nil)) a_nil))) k_nil (.head _))))
      (s_cons (s_ret c_bl)
    s_nil)
      s_nil)
    (s_cons (s_ret (j_bi (.all) hr T.n_all (a_cons rfl (i_lc (own := [("name", 2), ("kind", 3), ("value", 4)]) rfl sc_is_row.nd rfl (w_zipS rfl T.n_zip rfl rfl (a_cons rfl j_var (a_cons rfl j_var a_nil)) (k_cons c_bl k_nil)) (blkOk_by (by kernel_rfl)) (fun _ _ _ _ _ => (g_tup rfl rfl rfl rfl (gs_cons rfl (g_tup rfl rfl rfl rfl (gs_cons rfl (j_g sc_is_row.nd) (gs_cons rfl (j_g sc_is_row.nd) gs_nil))) (gs_cons rfl (j_g sc_is_row.nd) gs_nil)))) (fun _ _ _ _ _ => ifs_nil) (fun _ _ _ _ _ => (j_call (ies := [(.var 3), (.var 4)]) (iks := []) (ks := []) (arr := [.a 0, .a 1]) A.f_is_value T.m_is_value takes0 hr _ rfl (a_cons rfl j_var (a_cons rfl j_var a_nil)) k_nil (.head _)))) a_nil)))
    s_nil))
theorem b_names_of (T : Txt w K mg) {k : Nat} (A : All P w K mg base k) {cdv : Value} {C : Around} {outer : List PySem.Env} {s : Shared} {H : Hp} {E : XK} (hr : Room (2 * k + 3) (C.deeper (envOfC "names_of" (defScope s_names_of) s.heap.objs.size (He.ga K "names_of") cdv))) :
    PSs (cxOf (L2.CX P w) P w K mg base ["form", "name", "kind"] "names_of" (defScope s_names_of) (He.ga K "names_of") cdv C outer s H E) (defBody s_names_of) (tS (gs K) (fun c d _ H => E c d H) (exs (callN Tb k) p_names_of)) := by
  have tk : Takes (cxOf (L2.CX P w) P w K mg base ["form", "name", "kind"] "names_of" (defScope s_names_of) (He.ga K "names_of") cdv C outer s H E) (fun c d _ H => E c d H) := takes_of rfl rfl rfl rfl
  have pp : PassesOwn (model (cxOf (L2.CX P w) P w K mg base ["form", "name", "kind"] "names_of" (defScope s_names_of) (He.ga K "names_of") cdv C outer s H E).prog (cxOf (L2.CX P w) P w K mg base ["form", "name", "kind"] "names_of" (defScope s_names_of) (He.ga K "names_of") cdv C outer s H E).w) (cxOf (L2.CX P w) P w K mg base ["form", "name", "kind"] "names_of" (defScope s_names_of) (He.ga K "names_of") cdv C outer s H E).A (cxOf (L2.CX P w) P w K mg base ["form", "name", "kind"] "names_of" (defScope s_names_of) (He.ga K "names_of") cdv C outer s H E).env (cxOf (L2.CX P w) P w K mg base ["form", "name", "kind"] "names_of" (defScope s_names_of) (He.ga K "names_of") cdv C outer s H E).xe := passes_of rfl
  exact (s_cons (s_ret (j_bi (.tuple1) hr T.n_tuple (a_cons rfl (i_lc (own := [("name", 1), ("kind", 2)]) rfl sc_names_of.nd rfl (w_e rfl j_var) (blkOk_by (by kernel_rfl)) (fun _ _ _ _ _ => (g_tup rfl rfl rfl rfl (gs_cons rfl (j_g sc_names_of.nd) (gs_cons rfl (j_g sc_names_of.nd) gs_nil)))) (fun _ _ _ _ _ => ifs_nil) (fun _ _ _ _ _ => j_var)) a_nil)))
    s_nil)
theorem b_are_columns (T : Txt w K mg) {k : Nat} (A : All P w K mg base k) {cdv : Value} {C : Around} {outer : List PySem.Env} {s : Shared} {H : Hp} {E : XK} (hr : Room (2 * k + 3) (C.deeper (envOfC "are_columns" (defScope s_are_columns) s.heap.objs.size (He.ga K "are_columns") cdv))) :
    PSs (cxOf (L2.CX P w) P w K mg base ["form", "thing", "least", "most", "name"] "are_columns" (defScope s_are_columns) (He.ga K "are_columns") cdv C outer s H E) (defBody s_are_columns) (tS (gs K) (fun c d _ H => E c d H) (exs (callN Tb k) p_are_columns)) := by
  have tk : Takes (cxOf (L2.CX P w) P w K mg base ["form", "thing", "least", "most", "name"] "are_columns" (defScope s_are_columns) (He.ga K "are_columns") cdv C outer s H E) (fun c d _ H => E c d H) := takes_of rfl rfl rfl rfl
  have pp : PassesOwn (model (cxOf (L2.CX P w) P w K mg base ["form", "thing", "least", "most", "name"] "are_columns" (defScope s_are_columns) (He.ga K "are_columns") cdv C outer s H E).prog (cxOf (L2.CX P w) P w K mg base ["form", "thing", "least", "most", "name"] "are_columns" (defScope s_are_columns) (He.ga K "are_columns") cdv C outer s H E).w) (cxOf (L2.CX P w) P w K mg base ["form", "thing", "least", "most", "name"] "are_columns" (defScope s_are_columns) (He.ga K "are_columns") cdv C outer s H E).A (cxOf (L2.CX P w) P w K mg base ["form", "thing", "least", "most", "name"] "are_columns" (defScope s_are_columns) (He.ga K "are_columns") cdv C outer s H E).env (cxOf (L2.CX P w) P w K mg base ["form", "thing", "least", "most", "name"] "are_columns" (defScope s_are_columns) (He.ga K "are_columns") cdv C outer s H E).xe := passes_of rfl
  exact (s_cons (s_ite (PW.pt (w_or (t_not (t_val rfl rfl (j_call (ies := [(.var 1), (.var 2), (.var 3)]) (iks := []) (ks := []) (arr := [.a 0, .a 1, .a 2]) A.f_is_tuple_of T.m_is_tuple_of tk hr _ rfl (a_cons rfl j_var (a_cons rfl j_var (a_cons rfl j_var a_nil))) k_nil (.head _)))) (pw_or1 (t_not (t_val rfl rfl (j_bi (.all) hr T.n_all (a_cons rfl (i_lc (own := [("name", 4)]) rfl sc_are_columns.nd rfl (w_e rfl j_var) (blkOk_by (by kernel_rfl)) (fun _ _ _ _ _ => (j_g sc_are_columns.nd)) (fun _ _ _ _ _ => ifs_nil) (fun _ _ _ _ _ => (j_call (ies := [(.var 4), (.call 6 [.a 0] [(.var 0)])]) (iks := []) (ks := []) (arr := [.a 0, .a 1]) A.f_is_one_of T.m_is_one_of takes0 hr _ rfl (a_cons rfl j_var (a_cons rfl (j_call (ies := [(.var 0)]) (iks := []) (ks := []) (arr := [.a 0]) A.f_names_of T.m_names_of takes0 hr _ rfl (a_cons rfl j_var a_nil) k_nil (.head _)) a_nil)) k_nil (.head _)))) a_nil)))))))
      (s_cons (s_ret c_bl)
    s_nil)
      s_nil)
    (s_cons (s_ret (i_cmp (op := .eq) rfl hr rfl (i_lenS (by rfl) T.n_len (by rfl) T.n_set rfl rfl (a_cons rfl j_var a_nil)) (j_bi (.len) hr T.n_len (a_cons rfl j_var a_nil))))
    s_nil))
theorem b_is_bound (T : Txt w K mg) {k : Nat} (A : All P w K mg base k) {cdv : Value} {C : Around} {outer : List PySem.Env} {s : Shared} {H : Hp} {E : XK} (hr : Room (2 * k + 3) (C.deeper (envOfC "is_bound" (defScope s_is_bound) s.heap.objs.size (He.ga K "is_bound") cdv))) :
    PSs (cxOf (L2.CX P w) P w K mg base ["kind", "thing"] "is_bound" (defScope s_is_bound) (He.ga K "is_bound") cdv C outer s H E) (defBody s_is_bound) (tS (gs K) (fun c d _ H => E c d H) (exs (callN Tb k) p_is_bound)) := by
  have tk : Takes (cxOf (L2.CX P w) P w K mg base ["kind", "thing"] "is_bound" (defScope s_is_bound) (He.ga K "is_bound") cdv C outer s H E) (fun c d _ H => E c d H) := takes_of rfl rfl rfl rfl
  have pp : PassesOwn (model (cxOf (L2.CX P w) P w K mg base ["kind", "thing"] "is_bound" (defScope s_is_bound) (He.ga K "is_bound") cdv C outer s H E).prog (cxOf (L2.CX P w) P w K mg base ["kind", "thing"] "is_bound" (defScope s_is_bound) (He.ga K "is_bound") cdv C outer s H E).w) (cxOf (L2.CX P w) P w K mg base ["kind", "thing"] "is_bound" (defScope s_is_bound) (He.ga K "is_bound") cdv C outer s H E).A (cxOf (L2.CX P w) P w K mg base ["kind", "thing"] "is_bound" (defScope s_is_bound) (He.ga K "is_bound") cdv C outer s H E).env (cxOf (L2.CX P w) P w K mg base ["kind", "thing"] "is_bound" (defScope s_is_bound) (He.ga K "is_bound") cdv C outer s H E).xe := passes_of rfl
  exact (s_cons (s_ret (i_or rfl (i_cmp (op := .isN) rfl hr rfl j_var c_non) (pe_one (j_call (ies := [(.var 0), (.var 1)]) (iks := []) (ks := []) (arr := [.a 0, .a 1]) A.f_is_value T.m_is_value tk hr _ rfl (a_cons rfl j_var (a_cons rfl j_var a_nil)) k_nil (.head _)))))
    s_nil)
theorem b_is_condition (T : Txt w K mg) {k : Nat} (A : All P w K mg base k) {cdv : Value} {C : Around} {outer : List PySem.Env} {s : Shared} {H : Hp} {E : XK} (hr : Room (2 * k + 3) (C.deeper (envOfC "is_condition" (defScope s_is_condition) s.heap.objs.size (He.ga K "is_condition") cdv))) :
    PSs (cxOf (L2.CX P w) P w K mg base ["form", "thing", "kinds", "column", "word", "values", "name", "kind", "value"] "is_condition" (defScope s_is_condition) (He.ga K "is_condition") cdv C outer s H E) (defBody s_is_condition) (tS (gs K) (fun c d _ H => E c d H) (exs (callN Tb k) p_is_condition)) := by
  have tk : Takes (cxOf (L2.CX P w) P w K mg base ["form", "thing", "kinds", "column", "word", "values", "name", "kind", "value"] "is_condition" (defScope s_is_condition) (He.ga K "is_condition") cdv C outer s H E) (fun c d _ H => E c d H) := takes_of rfl rfl rfl rfl
  have pp : PassesOwn (model (cxOf (L2.CX P w) P w K mg base ["form", "thing", "kinds", "column", "word", "values", "name", "kind", "value"] "is_condition" (defScope s_is_condition) (He.ga K "is_condition") cdv C outer s H E).prog (cxOf (L2.CX P w) P w K mg base ["form", "thing", "kinds", "column", "word", "values", "name", "kind", "value"] "is_condition" (defScope s_is_condition) (He.ga K "is_condition") cdv C outer s H E).w) (cxOf (L2.CX P w) P w K mg base ["form", "thing", "kinds", "column", "word", "values", "name", "kind", "value"] "is_condition" (defScope s_is_condition) (He.ga K "is_condition") cdv C outer s H E).A (cxOf (L2.CX P w) P w K mg base ["form", "thing", "kinds", "column", "word", "values", "name", "kind", "value"] "is_condition" (defScope s_is_condition) (He.ga K "is_condition") cdv C outer s H E).env (cxOf (L2.CX P w) P w K mg base ["form", "thing", "kinds", "column", "word", "values", "name", "kind", "value"] "is_condition" (defScope s_is_condition) (He.ga K "is_condition") cdv C outer s H E).xe := passes_of rfl
  exact (s_cons (s_asg (i_dcomp (own := [("name", 6), ("kind", 7)]) rfl sc_is_condition.nd rfl (w_e rfl j_var) (blkOk_by (by kernel_rfl)) (fun _ _ _ _ _ => (g_tup rfl rfl rfl rfl (gs_cons rfl (j_g sc_is_condition.nd) (gs_cons rfl (j_g sc_is_condition.nd) gs_nil)))) (fun _ _ _ _ _ => ifs_nil) (fun _ _ _ _ _ => j_var) (fun _ _ _ _ _ => j_var)) (g_any (vs := [2]) (j_g sc_is_condition.nd)) rfl (by rfl) (pure_none rfl))
    (s_cons (s_ite (PW.pt (w_or (t_not (t_val rfl rfl (j_call (ies := [(.var 1), (.con (.int 3)), (.con (.int 4))]) (iks := []) (ks := []) (arr := [.a 0, .a 1, .a 2]) A.f_is_tuple_of T.m_is_tuple_of tk hr _ rfl (a_cons rfl j_var (a_cons rfl c_int (a_cons rfl c_int a_nil))) k_nil (.head _)))) (pw_or1 (t_not (t_val rfl rfl (j_call (ies := [(.idx (.var 1) (.con (.int 0))), (.call 6 [.a 0] [(.var 0)])]) (iks := []) (ks := []) (arr := [.a 0, .a 1]) A.f_is_one_of T.m_is_one_of tk hr _ rfl (a_cons rfl (i_idx rfl rfl j_var c_int) (a_cons rfl (j_call (ies := [(.var 0)]) (iks := []) (ks := []) (arr := [.a 0]) A.f_names_of T.m_names_of tk hr _ rfl (a_cons rfl j_var a_nil) k_nil (.head _)) a_nil)) k_nil (.head _)))))))
      (s_cons (s_ret c_bl)
    s_nil)
      s_nil)
    (s_cons (j_asg [3, 4, 5] j_var (g_tups (gs_cons' rfl (j_g sc_is_condition.nd) (gs_cons' rfl (j_g sc_is_condition.nd) (gs_star (j_g sc_is_condition.nd))))))
    (s_cons (s_ite (PW.pt (w_or (t_not (t_val rfl rfl (j_call (ies := [(.var 4), (.tup [(.con (.str "is")), (.con (.str "from"))])]) (iks := []) (ks := []) (arr := [.a 0, .a 1]) A.f_is_one_of T.m_is_one_of tk hr _ rfl (a_cons rfl j_var (a_cons rfl (i_tup (a_cons rfl (c_str (okS_of (by decide +kernel))) (a_cons rfl (c_str (okS_of (by decide +kernel))) a_nil))) a_nil)) k_nil (.head _)))) (pw_or1 (t_cmp (op := .ne) rfl hr rfl (j_bi (.len) hr T.n_len (a_cons rfl j_var a_nil)) (i_ife (t_cmp (op := .eq) rfl hr rfl j_var (c_str (okS_of (by decide +kernel)))) c_int c_int)))))
      (s_cons (s_ret c_bl)
    s_nil)
      s_nil)
    (s_cons (s_ite (t_cmp (op := .eq) rfl hr rfl j_var (c_str (okS_of (by decide +kernel))))
      (s_cons (s_ret (j_call (ies := [(.didx (.var 2) (.var 3)), (.idx (.var 5) (.con (.int 0)))]) (iks := []) (ks := []) (arr := [.a 0, .a 1]) A.f_is_value T.m_is_value tk hr _ rfl (a_cons rfl (i_didx hr rfl j_var j_var) (a_cons rfl (i_idx rfl rfl j_var c_int) a_nil)) k_nil (.head _)))
    s_nil)
      s_nil)
    (s_cons (s_ret (i_and rfl (i_cmp (op := .ne) rfl hr rfl j_var (i_lst (a_cons rfl c_non (a_cons rfl c_non a_nil)))) (pe_one (j_bi (.all) hr T.n_all (a_cons rfl (i_lc (own := [("value", 8)]) rfl sc_is_condition.nd rfl (w_e rfl j_var) (blkOk_by (by kernel_rfl)) (fun _ _ _ _ _ => (j_g sc_is_condition.nd)) (fun _ _ _ _ _ => ifs_nil) (fun _ _ _ _ _ => (j_call (ies := [(.didx (.var 2) (.var 3)), (.var 8)]) (iks := []) (ks := []) (arr := [.a 0, .a 1]) A.f_is_bound T.m_is_bound takes0 hr _ rfl (a_cons rfl (i_didx hr rfl j_var j_var) (a_cons rfl j_var a_nil)) k_nil (.head _)))) a_nil)))))
    s_nil))))))
theorem b_are_conditions (T : Txt w K mg) {k : Nat} (A : All P w K mg base k) {cdv : Value} {C : Around} {outer : List PySem.Env} {s : Shared} {H : Hp} {E : XK} (hr : Room (2 * k + 3) (C.deeper (envOfC "are_conditions" (defScope s_are_conditions) s.heap.objs.size (He.ga K "are_conditions") cdv))) :
    PSs (cxOf (L2.CX P w) P w K mg base ["form", "thing", "one"] "are_conditions" (defScope s_are_conditions) (He.ga K "are_conditions") cdv C outer s H E) (defBody s_are_conditions) (tS (gs K) (fun c d _ H => E c d H) (exs (callN Tb k) p_are_conditions)) := by
  have tk : Takes (cxOf (L2.CX P w) P w K mg base ["form", "thing", "one"] "are_conditions" (defScope s_are_conditions) (He.ga K "are_conditions") cdv C outer s H E) (fun c d _ H => E c d H) := takes_of rfl rfl rfl rfl
  have pp : PassesOwn (model (cxOf (L2.CX P w) P w K mg base ["form", "thing", "one"] "are_conditions" (defScope s_are_conditions) (He.ga K "are_conditions") cdv C outer s H E).prog (cxOf (L2.CX P w) P w K mg base ["form", "thing", "one"] "are_conditions" (defScope s_are_conditions) (He.ga K "are_conditions") cdv C outer s H E).w) (cxOf (L2.CX P w) P w K mg base ["form", "thing", "one"] "are_conditions" (defScope s_are_conditions) (He.ga K "are_conditions") cdv C outer s H E).A (cxOf (L2.CX P w) P w K mg base ["form", "thing", "one"] "are_conditions" (defScope s_are_conditions) (He.ga K "are_conditions") cdv C outer s H E).env (cxOf (L2.CX P w) P w K mg base ["form", "thing", "one"] "are_conditions" (defScope s_are_conditions) (He.ga K "are_conditions") cdv C outer s H E).xe := passes_of rfl
  exact (s_cons (s_ite (PW.pt (w_or (t_not (t_val rfl rfl (j_call (ies := [(.var 1), (.con (.int 0)), (.con (.int 6))]) (iks := []) (ks := []) (arr := [.a 0, .a 1, .a 2]) A.f_is_tuple_of T.m_is_tuple_of tk hr _ rfl (a_cons rfl j_var (a_cons rfl c_int (a_cons rfl (c_gI T.g_MOST_CONDITIONS) a_nil))) k_nil (.head _)))) (pw_or1 (t_not (t_val rfl rfl (j_bi (.all) hr T.n_all (a_cons rfl (i_lc (own := [("one", 2)]) rfl sc_are_conditions.nd rfl (w_e rfl j_var) (blkOk_by (by kernel_rfl)) (fun _ _ _ _ _ => (j_g sc_are_conditions.nd)) (fun _ _ _ _ _ => ifs_nil) (fun _ _ _ _ _ => (j_call (ies := [(.var 0), (.var 2)]) (iks := []) (ks := []) (arr := [.a 0, .a 1]) A.f_is_condition T.m_is_condition takes0 hr _ rfl (a_cons rfl j_var (a_cons rfl j_var a_nil)) k_nil (.head _)))) a_nil)))))))
      (s_cons (s_ret c_bl)
    s_nil)
      s_nil)
    (s_cons (s_ret (i_cmp (op := .eq) rfl hr rfl (i_lenSC (own := [("one", 2)]) (by rfl) T.n_len rfl sc_are_conditions.nd rfl (w_e rfl j_var) (blkOk_by (by kernel_rfl)) (fun _ _ _ _ _ => (j_g sc_are_conditions.nd)) (fun _ _ _ _ _ => ifs_nil) (fun _ _ _ _ _ => (i_idx rfl rfl j_var c_int))) (j_bi (.len) hr T.n_len (a_cons rfl j_var a_nil))))
    s_nil))
theorem b_ask_fault (T : Txt w K mg) {k : Nat} (A : All P w K mg base k) {cdv : Value} {C : Around} {outer : List PySem.Env} {s : Shared} {H : Hp} {E : XK} (hr : Room (2 * k + 3) (C.deeper (envOfC "ask_fault" (defScope s_ask_fault) s.heap.objs.size (He.ga K "ask_fault") cdv))) :
    PSs (cxOf (L2.CX P w) P w K mg base ["form", "thing", "wants", "conditions", "order", "first", "good"] "ask_fault" (defScope s_ask_fault) (He.ga K "ask_fault") cdv C outer s H E) (defBody s_ask_fault) (tS (gs K) (fun c d _ H => E c d H) (exs (callN Tb k) p_ask_fault)) := by
  have tk : Takes (cxOf (L2.CX P w) P w K mg base ["form", "thing", "wants", "conditions", "order", "first", "good"] "ask_fault" (defScope s_ask_fault) (He.ga K "ask_fault") cdv C outer s H E) (fun c d _ H => E c d H) := takes_of rfl rfl rfl rfl
  have pp : PassesOwn (model (cxOf (L2.CX P w) P w K mg base ["form", "thing", "wants", "conditions", "order", "first", "good"] "ask_fault" (defScope s_ask_fault) (He.ga K "ask_fault") cdv C outer s H E).prog (cxOf (L2.CX P w) P w K mg base ["form", "thing", "wants", "conditions", "order", "first", "good"] "ask_fault" (defScope s_ask_fault) (He.ga K "ask_fault") cdv C outer s H E).w) (cxOf (L2.CX P w) P w K mg base ["form", "thing", "wants", "conditions", "order", "first", "good"] "ask_fault" (defScope s_ask_fault) (He.ga K "ask_fault") cdv C outer s H E).A (cxOf (L2.CX P w) P w K mg base ["form", "thing", "wants", "conditions", "order", "first", "good"] "ask_fault" (defScope s_ask_fault) (He.ga K "ask_fault") cdv C outer s H E).env (cxOf (L2.CX P w) P w K mg base ["form", "thing", "wants", "conditions", "order", "first", "good"] "ask_fault" (defScope s_ask_fault) (He.ga K "ask_fault") cdv C outer s H E).xe := passes_of rfl
  exact (s_cons (s_ite (t_not (t_val rfl rfl (j_call (ies := [(.var 1), (.con (.int 4)), (.con (.int 4))]) (iks := []) (ks := []) (arr := [.a 0, .a 1, .a 2]) A.f_is_tuple_of T.m_is_tuple_of tk hr _ rfl (a_cons rfl j_var (a_cons rfl c_int (a_cons rfl c_int a_nil))) k_nil (.head _))))
      (s_cons (s_ret c_int)
    s_nil)
      s_nil)
    (s_cons (j_asg [2, 3, 4, 5] j_var (g_tup rfl rfl rfl rfl (gs_cons rfl (j_g sc_ask_fault.nd) (gs_cons rfl (j_g sc_ask_fault.nd) (gs_cons rfl (j_g sc_ask_fault.nd) (gs_cons rfl (j_g sc_ask_fault.nd) gs_nil))))))
    (s_cons (j_asg [6] (i_lst (a_cons rfl (j_call (ies := [(.var 0), (.var 2), (.con (.int 1)), (.bi (.len) [(.var 0)])]) (iks := []) (ks := []) (arr := [.a 0, .a 1, .a 2, .a 3]) A.f_are_columns T.m_are_columns tk hr _ rfl (a_cons rfl j_var (a_cons rfl j_var (a_cons rfl c_int (a_cons rfl (j_bi (.len) hr T.n_len (a_cons rfl j_var a_nil)) a_nil)))) k_nil (.head _)) (a_cons rfl (j_call (ies := [(.var 0), (.var 3)]) (iks := []) (ks := []) (arr := [.a 0, .a 1]) A.f_are_conditions T.m_are_conditions tk hr _ rfl (a_cons rfl j_var (a_cons rfl j_var a_nil)) k_nil (.head _)) (a_cons rfl (j_call (ies := [(.var 0), (.var 4), (.con (.int 0)), (.con (.int 4))]) (iks := []) (ks := []) (arr := [.a 0, .a 1, .a 2, .a 3]) A.f_are_columns T.m_are_columns tk hr _ rfl (a_cons rfl j_var (a_cons rfl j_var (a_cons rfl c_int (a_cons rfl (c_gI T.g_MOST_ORDER) a_nil)))) k_nil (.head _)) (a_cons rfl (i_or rfl (i_cmp (op := .isN) rfl hr rfl j_var c_non) (pe_one (j_call (ies := [(.var 5), (.con (.int 1)), (.con (.int 20))]) (iks := []) (ks := []) (arr := [.a 0, .a 1, .a 2]) A.f_is_whole T.m_is_whole tk hr _ rfl (a_cons rfl j_var (a_cons rfl c_int (a_cons rfl (c_gI T.g_MOST_FIRST) a_nil))) k_nil (.tail _ (.head _))))) a_nil))))) (j_g sc_ask_fault.nd))
    (s_cons (s_ret (i_ife (t_val rfl rfl (j_bi (.all) hr T.n_all (a_cons rfl j_var a_nil))) c_non (i_bin (op := .add) rfl (i_bm (mt := .index) rfl PySem.F.plainAttrs_list PySem.F.slot_list_index PySem.F.type_list_index (mt_index' (g := gs K) hr rfl) rfl rfl rfl (by decide) j_var (a_cons rfl c_bl a_nil)) c_int)))
    s_nil))))
theorem b_item_fault (T : Txt w K mg) {k : Nat} (A : All P w K mg base k) {cdv : Value} {C : Around} {outer : List PySem.Env} {s : Shared} {H : Hp} {E : XK} (hr : Room (2 * k + 3) (C.deeper (envOfC "item_fault" (defScope s_item_fault) s.heap.objs.size (He.ga K "item_fault") cdv))) :
    PSs (cxOf (L2.CX P w) P w K mg base ["form", "thing", "word", "rest"] "item_fault" (defScope s_item_fault) (He.ga K "item_fault") cdv C outer s H E) (defBody s_item_fault) (tS (gs K) (fun c d _ H => E c d H) (exs (callN Tb k) p_item_fault)) := by
  have tk : Takes (cxOf (L2.CX P w) P w K mg base ["form", "thing", "word", "rest"] "item_fault" (defScope s_item_fault) (He.ga K "item_fault") cdv C outer s H E) (fun c d _ H => E c d H) := takes_of rfl rfl rfl rfl
  have pp : PassesOwn (model (cxOf (L2.CX P w) P w K mg base ["form", "thing", "word", "rest"] "item_fault" (defScope s_item_fault) (He.ga K "item_fault") cdv C outer s H E).prog (cxOf (L2.CX P w) P w K mg base ["form", "thing", "word", "rest"] "item_fault" (defScope s_item_fault) (He.ga K "item_fault") cdv C outer s H E).w) (cxOf (L2.CX P w) P w K mg base ["form", "thing", "word", "rest"] "item_fault" (defScope s_item_fault) (He.ga K "item_fault") cdv C outer s H E).A (cxOf (L2.CX P w) P w K mg base ["form", "thing", "word", "rest"] "item_fault" (defScope s_item_fault) (He.ga K "item_fault") cdv C outer s H E).env (cxOf (L2.CX P w) P w K mg base ["form", "thing", "word", "rest"] "item_fault" (defScope s_item_fault) (He.ga K "item_fault") cdv C outer s H E).xe := passes_of rfl
  exact (s_cons (s_ite (PW.pt (w_or (t_not (t_val rfl rfl (j_bi (.isi) hr T.n_isinstance (a_cons rfl j_var (a_cons rfl (c_gT (n := "tuple") T.n_tuple (by decide +kernel)) a_nil))))) (w_or (t_cmp (op := .eq) rfl hr rfl (j_bi (.len) hr T.n_len (a_cons rfl j_var a_nil)) c_int) (pw_or1 (t_not (t_val rfl rfl (j_bi (.isi) hr T.n_isinstance (a_cons rfl (i_idx rfl rfl j_var c_int) (a_cons rfl (c_gT (n := "str") T.n_str (by decide +kernel)) a_nil)))))))))
      (s_cons (s_ret c_int)
    s_nil)
      s_nil)
    (s_cons (j_asg [2, 3] j_var (g_tups (gs_cons' rfl (j_g sc_item_fault.nd) (gs_star (j_g sc_item_fault.nd)))))
    (s_cons (s_ite (t_cmp (op := .ne) rfl hr rfl (j_bi (.len) hr T.n_len (a_cons rfl j_var a_nil)) (i_kget (ks := ["ask", "put", "drop", "set"]) (kvs := [("ask", 2), ("put", 2), ("drop", 2), ("set", 4)]) (dvs := [("ask", .int 2), ("put", .int 2), ("drop", .int 2), ("set", .int 4)]) rfl T.m_ITEM_LENGTHS T.k_ITEM_LENGTHS T.v_ITEM_LENGTHS (by rfl) (by rfl) j_var c_int ⟨by rfl, by rfl, rfl, by rfl⟩))
      (s_cons (s_ret c_int)
    s_nil)
      s_nil)
    (s_cons (s_ite (t_cmp (op := .eq) rfl hr rfl j_var (c_str (okS_of (by decide +kernel))))
      (s_cons (s_ret (i_ife (t_cmp (op := .isN) rfl hr rfl (j_call (ies := [(.var 0), (.idx (.var 3) (.con (.int 0)))]) (iks := []) (ks := []) (arr := [.a 0, .a 1]) A.f_ask_fault T.m_ask_fault tk hr _ rfl (a_cons rfl j_var (a_cons rfl (i_idx rfl rfl j_var c_int) a_nil)) k_nil (.head _)) c_non) c_non c_int))
    s_nil)
      s_nil)
    (s_cons (s_ite (t_cmp (op := .eq) rfl hr rfl j_var (c_str (okS_of (by decide +kernel))))
      (s_cons (s_ret (i_ife (t_val rfl rfl (j_call (ies := [(.var 0), (.idx (.var 3) (.con (.int 0)))]) (iks := []) (ks := []) (arr := [.a 0, .a 1]) A.f_is_row T.m_is_row tk hr _ rfl (a_cons rfl j_var (a_cons rfl (i_idx rfl rfl j_var c_int) a_nil)) k_nil (.head _))) c_non c_int))
    s_nil)
      s_nil)
    (s_cons (s_ite (t_not (t_val rfl rfl (j_call (ies := [(.var 0), (.idx (.var 3) (.con (.int 0)))]) (iks := []) (ks := []) (arr := [.a 0, .a 1]) A.f_are_conditions T.m_are_conditions tk hr _ rfl (a_cons rfl j_var (a_cons rfl (i_idx rfl rfl j_var c_int) a_nil)) k_nil (.head _))))
      (s_cons (s_ret c_int)
    s_nil)
      s_nil)
    (s_cons (s_ret (i_ife (t_cmp (op := .eq) rfl hr rfl j_var (c_str (okS_of (by decide +kernel)))) c_non (j_call (ies := [(.var 0), (.idx (.var 3) (.con (.int 1))), (.idx (.var 3) (.con (.int 2)))]) (iks := []) (ks := []) (arr := [.a 0, .a 1, .a 2]) A.f_value_fault T.m_value_fault tk hr _ rfl (a_cons rfl j_var (a_cons rfl (i_idx rfl rfl j_var c_int) (a_cons rfl (i_idx rfl rfl j_var c_int) a_nil))) k_nil (.head _))))
    s_nil)))))))
theorem b_value_fault (T : Txt w K mg) {k : Nat} (A : All P w K mg base k) {cdv : Value} {C : Around} {outer : List PySem.Env} {s : Shared} {H : Hp} {E : XK} (hr : Room (2 * k + 3) (C.deeper (envOfC "value_fault" (defScope s_value_fault) s.heap.objs.size (He.ga K "value_fault") cdv))) :
    PSs (cxOf (L2.CX P w) P w K mg base ["form", "column", "value", "kinds", "name", "kind"] "value_fault" (defScope s_value_fault) (He.ga K "value_fault") cdv C outer s H E) (defBody s_value_fault) (tS (gs K) (fun c d _ H => E c d H) (exs (callN Tb k) p_value_fault)) := by
  have tk : Takes (cxOf (L2.CX P w) P w K mg base ["form", "column", "value", "kinds", "name", "kind"] "value_fault" (defScope s_value_fault) (He.ga K "value_fault") cdv C outer s H E) (fun c d _ H => E c d H) := takes_of rfl rfl rfl rfl
  have pp : PassesOwn (model (cxOf (L2.CX P w) P w K mg base ["form", "column", "value", "kinds", "name", "kind"] "value_fault" (defScope s_value_fault) (He.ga K "value_fault") cdv C outer s H E).prog (cxOf (L2.CX P w) P w K mg base ["form", "column", "value", "kinds", "name", "kind"] "value_fault" (defScope s_value_fault) (He.ga K "value_fault") cdv C outer s H E).w) (cxOf (L2.CX P w) P w K mg base ["form", "column", "value", "kinds", "name", "kind"] "value_fault" (defScope s_value_fault) (He.ga K "value_fault") cdv C outer s H E).A (cxOf (L2.CX P w) P w K mg base ["form", "column", "value", "kinds", "name", "kind"] "value_fault" (defScope s_value_fault) (He.ga K "value_fault") cdv C outer s H E).env (cxOf (L2.CX P w) P w K mg base ["form", "column", "value", "kinds", "name", "kind"] "value_fault" (defScope s_value_fault) (He.ga K "value_fault") cdv C outer s H E).xe := passes_of rfl
  exact (s_cons (s_setDc (i := 3) (own := [("name", 4), ("kind", 5)]) rfl sc_value_fault.nd rfl rfl (swD rfl rfl rfl (by decide +kernel)) rfl (w_e rfl j_var) (blkOk_by (by kernel_rfl)) (fun _ _ _ _ _ => (g_tup rfl rfl rfl rfl (gs_cons rfl (j_g sc_value_fault.nd) (gs_cons rfl (j_g sc_value_fault.nd) gs_nil)))) (fun _ _ _ _ _ => ifs_nil) (fun _ _ _ _ _ => j_var) (fun _ _ _ _ _ => j_var))
    (s_cons (s_ite (PW.pt (w_or (t_not (t_val rfl rfl (j_bi (.isi) hr T.n_isinstance (a_cons rfl j_var (a_cons rfl (c_gT (n := "str") T.n_str (by decide +kernel)) a_nil))))) (pw_or1 (t_din (neg := true) hr rfl j_var j_var))))
      (s_cons (s_ret c_int)
    s_nil)
      s_nil)
    (s_cons (s_ret (i_ife (t_val rfl rfl (j_call (ies := [(.didx (.var 3) (.var 1)), (.var 2)]) (iks := []) (ks := []) (arr := [.a 0, .a 1]) A.f_is_value T.m_is_value tk hr _ rfl (a_cons rfl (i_didx hr rfl j_var j_var) (a_cons rfl j_var a_nil)) k_nil (.head _))) c_non c_int))
    s_nil)))
theorem b_l_bag (T : Txt w K mg) {k : Nat} (A : All P w K mg base k) {cdv : Value} {C : Around} {outer : List PySem.Env} {s : Shared} {H : Hp} {E : XK} (hr : Room (2 * k + 3) (C.deeper (envOfC "_law_bag" (defScope s_l_bag) s.heap.objs.size (He.ga K "_law_bag") cdv))) :
    PSs (cxOf (L2.CX P w) P w K mg base ["_law_script", "_law_at", "_law_cell", "_law_great", "_law_primes"] "_law_bag" (defScope s_l_bag) (He.ga K "_law_bag") cdv C outer s H E) (defBody s_l_bag) (tS (gs K) (fun c d _ H => E c d H) (exs (callN Tb k) p_l_bag)) := by
  have tk : Takes (cxOf (L2.CX P w) P w K mg base ["_law_script", "_law_at", "_law_cell", "_law_great", "_law_primes"] "_law_bag" (defScope s_l_bag) (He.ga K "_law_bag") cdv C outer s H E) (fun c d _ H => E c d H) := takes_of rfl rfl rfl rfl
  have pp : PassesOwn (model (cxOf (L2.CX P w) P w K mg base ["_law_script", "_law_at", "_law_cell", "_law_great", "_law_primes"] "_law_bag" (defScope s_l_bag) (He.ga K "_law_bag") cdv C outer s H E).prog (cxOf (L2.CX P w) P w K mg base ["_law_script", "_law_at", "_law_cell", "_law_great", "_law_primes"] "_law_bag" (defScope s_l_bag) (He.ga K "_law_bag") cdv C outer s H E).w) (cxOf (L2.CX P w) P w K mg base ["_law_script", "_law_at", "_law_cell", "_law_great", "_law_primes"] "_law_bag" (defScope s_l_bag) (He.ga K "_law_bag") cdv C outer s H E).A (cxOf (L2.CX P w) P w K mg base ["_law_script", "_law_at", "_law_cell", "_law_great", "_law_primes"] "_law_bag" (defScope s_l_bag) (He.ga K "_law_bag") cdv C outer s H E).env (cxOf (L2.CX P w) P w K mg base ["_law_script", "_law_at", "_law_cell", "_law_great", "_law_primes"] "_law_bag" (defScope s_l_bag) (He.ga K "_law_bag") cdv C outer s H E).xe := passes_of rfl
  exact (s_cons (j_asg [2] c_int (j_g sc_l_bag.nd))
    (s_cons (s_ite (t_cmp (op := .gt) rfl hr rfl (j_bi (.len) hr T.n_len (a_cons rfl j_var a_nil)) c_int)
      (s_cons (j_asg [2] (i_idx rfl rfl j_var (i_bin (op := .mod) rfl j_var (j_bi (.len) hr T.n_len (a_cons rfl j_var a_nil)))) (j_g sc_l_bag.nd))
    s_nil)
      s_nil)
    (s_cons (j_asg [3] c_int (j_g sc_l_bag.nd))
    (s_cons (s_ite (PW.pt (w_and (t_cmp (op := .ge) rfl hr rfl (j_bi (.abs) hr T.n_abs (a_cons rfl j_var a_nil)) (i_bin (op := .pow) rfl c_int c_int)) (pw_and1 (t_cmp (op := .lt) rfl hr rfl j_var (j_bi (.len) hr T.n_len (a_cons rfl j_var a_nil))))))
      (s_cons (j_asg [3] (j_bi (.abs) hr T.n_abs (a_cons rfl j_var a_nil)) (j_g sc_l_bag.nd))
    s_nil)
      s_nil)
    (s_cons (j_asg [4] (i_tup (a_cons rfl c_int (a_cons rfl c_int (a_cons rfl c_int (a_cons rfl c_int (a_cons rfl c_int (a_cons rfl c_int (a_cons rfl c_int (a_cons rfl c_int a_nil))))))))) (j_g sc_l_bag.nd))
    (s_cons (s_ret (i_lst (a_cons rfl j_var (a_cons rfl (i_bin (op := .mod) rfl (i_bin (op := .pow) rfl (i_bin (op := .add) rfl (i_bin (op := .add) rfl (i_bin (op := .mod) rfl j_var c_int) (i_bin (op := .mul) rfl c_int j_var)) c_int) c_int) (i_idx rfl rfl j_var (i_bin (op := .mod) rfl j_var c_int))) a_nil))))
    s_nil))))))
theorem b_l_take (T : Txt w K mg) {k : Nat} (A : All P w K mg base k) {cdv : Value} {C : Around} {outer : List PySem.Env} {s : Shared} {H : Hp} {E : XK} (hr : Room (2 * k + 3) (C.deeper (envOfC "_law_take" (defScope s_l_take) s.heap.objs.size (He.ga K "_law_take") cdv))) :
    PSs (cxOf (L2.CX P w) P w K mg base ["_law_bag_here", "_law_many", "_law_digit"] "_law_take" (defScope s_l_take) (He.ga K "_law_take") cdv C outer s H E) (defBody s_l_take) (tS (gs K) (fun c d _ H => E c d H) (exs (callN Tb k) p_l_take)) := by
  have tk : Takes (cxOf (L2.CX P w) P w K mg base ["_law_bag_here", "_law_many", "_law_digit"] "_law_take" (defScope s_l_take) (He.ga K "_law_take") cdv C outer s H E) (fun c d _ H => E c d H) := takes_of rfl rfl rfl rfl
  have pp : PassesOwn (model (cxOf (L2.CX P w) P w K mg base ["_law_bag_here", "_law_many", "_law_digit"] "_law_take" (defScope s_l_take) (He.ga K "_law_take") cdv C outer s H E).prog (cxOf (L2.CX P w) P w K mg base ["_law_bag_here", "_law_many", "_law_digit"] "_law_take" (defScope s_l_take) (He.ga K "_law_take") cdv C outer s H E).w) (cxOf (L2.CX P w) P w K mg base ["_law_bag_here", "_law_many", "_law_digit"] "_law_take" (defScope s_l_take) (He.ga K "_law_take") cdv C outer s H E).A (cxOf (L2.CX P w) P w K mg base ["_law_bag_here", "_law_many", "_law_digit"] "_law_take" (defScope s_l_take) (He.ga K "_law_take") cdv C outer s H E).env (cxOf (L2.CX P w) P w K mg base ["_law_bag_here", "_law_many", "_law_digit"] "_law_take" (defScope s_l_take) (He.ga K "_law_take") cdv C outer s H E).xe := passes_of rfl
  exact (s_cons (s_ite (t_cmp (op := .gt) rfl hr rfl (i_idx rfl rfl j_var c_int) c_int)
      (s_cons (j_asg [2] (i_bin (op := .mod) rfl (i_idx rfl rfl j_var c_int) j_var) (j_g sc_l_take.nd))
    (s_cons (j_asg [] (i_bin (op := .div) rfl (i_idx rfl rfl j_var c_int) j_var) (g_idx (W := noX) rfl j_var c_int))
    (s_cons (s_ret j_var)
    s_nil)))
      s_nil)
    (s_cons (j_asg [] (i_bin (op := .mod) rfl (i_bin (op := .add) rfl (i_bin (op := .mul) rfl (i_idx rfl rfl j_var c_int) c_int) c_int) c_int) (g_idx (W := noX) rfl j_var c_int))
    (s_cons (s_ret (i_bin (op := .mod) rfl (i_bin (op := .mod) rfl (i_bin (op := .pow) rfl (i_bin (op := .div) rfl (i_idx rfl rfl j_var c_int) c_int) c_int) c_int) j_var))
    s_nil)))
theorem b_l_form (T : Txt w K mg) {k : Nat} (A : All P w K mg base k) {cdv : Value} {C : Around} {outer : List PySem.Env} {s : Shared} {H : Hp} {E : XK} (hr : Room (2 * k + 3) (C.deeper (envOfC "_law_form" (defScope s_l_form) s.heap.objs.size (He.ga K "_law_form") cdv))) :
    PSs (cxOf (L2.CX P w) P w K mg base ["_law_bag_here", "_law_letters", "_law_shift", "_law_found", "_law_k", "_law_stem", "_law_step"] "_law_form" (defScope s_l_form) (He.ga K "_law_form") cdv C outer s H E) (defBody s_l_form) (tS (gs K) (fun c d _ H => E c d H) (exs (callN Tb k) p_l_form)) := by
  have tk : Takes (cxOf (L2.CX P w) P w K mg base ["_law_bag_here", "_law_letters", "_law_shift", "_law_found", "_law_k", "_law_stem", "_law_step"] "_law_form" (defScope s_l_form) (He.ga K "_law_form") cdv C outer s H E) (fun c d _ H => E c d H) := takes_of rfl rfl rfl rfl
  have pp : PassesOwn (model (cxOf (L2.CX P w) P w K mg base ["_law_bag_here", "_law_letters", "_law_shift", "_law_found", "_law_k", "_law_stem", "_law_step"] "_law_form" (defScope s_l_form) (He.ga K "_law_form") cdv C outer s H E).prog (cxOf (L2.CX P w) P w K mg base ["_law_bag_here", "_law_letters", "_law_shift", "_law_found", "_law_k", "_law_stem", "_law_step"] "_law_form" (defScope s_l_form) (He.ga K "_law_form") cdv C outer s H E).w) (cxOf (L2.CX P w) P w K mg base ["_law_bag_here", "_law_letters", "_law_shift", "_law_found", "_law_k", "_law_stem", "_law_step"] "_law_form" (defScope s_l_form) (He.ga K "_law_form") cdv C outer s H E).A (cxOf (L2.CX P w) P w K mg base ["_law_bag_here", "_law_letters", "_law_shift", "_law_found", "_law_k", "_law_stem", "_law_step"] "_law_form" (defScope s_l_form) (He.ga K "_law_form") cdv C outer s H E).env (cxOf (L2.CX P w) P w K mg base ["_law_bag_here", "_law_letters", "_law_shift", "_law_found", "_law_k", "_law_stem", "_law_step"] "_law_form" (defScope s_l_form) (He.ga K "_law_form") cdv C outer s H E).xe := passes_of rfl
  exact (s_cons (j_asg [1] (c_str (okS_of (by decide +kernel))) (j_g sc_l_form.nd))
    (s_cons (s_par2 (i := 2) (j := 3) sc_l_form.nd (a_cons rfl (j_call (ies := [(.var 0), (.con (.int 26))]) (iks := []) (ks := []) (arr := [.a 0, .a 1]) A.f_l_take T.m_l_take tk hr _ rfl (a_cons rfl j_var (a_cons rfl c_int a_nil)) k_nil (.head _)) (a_cons rfl (i_lst a_nil) a_nil)))
    (s_cons (s_for pp rfl rfl (w_rng1 (by rfl) T.n_range rfl (a_cons rfl (i_bin (op := .add) rfl c_int (j_call (ies := [(.var 0), (.con (.int 4))]) (iks := []) (ks := []) (arr := [.a 0, .a 1]) A.f_l_take T.m_l_take tk hr _ rfl (a_cons rfl j_var (a_cons rfl c_int a_nil)) k_nil (.head _))) a_nil)) (g_any (vs := [4]) (j_g sc_l_form.nd))
      (s_cons (j_asg [5] (i_bm (mt := .join) rfl PySem.F.plainAttrs_str PySem.F.slot_str_join PySem.F.type_str_join (mt_join' (g := gs K) rfl) rfl rfl rfl (by decide) (c_str (okS_of (by decide +kernel))) (a_cons rfl (i_lc (own := [("_law_step", 6)]) rfl sc_l_form.nd rfl (w_rng1 (by rfl) T.n_range rfl (a_cons rfl (i_idx rfl rfl (i_tup (a_cons rfl c_int (a_cons rfl c_int (a_cons rfl c_int (a_cons rfl c_int a_nil))))) (j_call (ies := [(.var 0), (.con (.int 4))]) (iks := []) (ks := []) (arr := [.a 0, .a 1]) A.f_l_take T.m_l_take tk hr _ rfl (a_cons rfl j_var (a_cons rfl c_int a_nil)) k_nil (.head _))) a_nil)) (blkOk_by (by kernel_rfl)) (fun _ _ _ _ _ => (j_g sc_l_form.nd)) (fun _ _ _ _ _ => ifs_nil) (fun _ _ _ _ _ => (i_idx rfl rfl j_var (j_call (ies := [(.var 0), (.con (.int 26))]) (iks := []) (ks := []) (arr := [.a 0, .a 1]) A.f_l_take T.m_l_take takes0 hr _ rfl (a_cons rfl j_var (a_cons rfl c_int a_nil)) k_nil (.head _))))) a_nil)) (j_g sc_l_form.nd))
    (s_cons (s_expr rfl (i_bm (mt := .append) rfl PySem.F.plainAttrs_list PySem.F.slot_list_append PySem.F.type_list_append mt_append' rfl rfl rfl (by decide) j_var (a_cons rfl (i_tup (a_cons rfl (i_bin (op := .add) rfl j_var (i_idx rfl rfl j_var (i_bin (op := .mod) rfl (i_bin (op := .add) rfl j_var (i_bin (op := .mul) rfl c_int j_var)) c_int))) (a_cons rfl (i_idx rfl rfl (i_tup (a_cons rfl (c_str (okS_of (by decide +kernel))) (a_cons rfl (c_str (okS_of (by decide +kernel))) a_nil))) (j_call (ies := [(.var 0), (.con (.int 2))]) (iks := []) (ks := []) (arr := [.a 0, .a 1]) A.f_l_take T.m_l_take tk hr _ rfl (a_cons rfl j_var (a_cons rfl c_int a_nil)) k_nil (.head _))) a_nil))) a_nil)))
    s_nil)))
    (s_cons (s_ret (i_ntup rfl T.n_tuple rfl j_var))
    s_nil))))
theorem b_l_value (T : Txt w K mg) {k : Nat} (A : All P w K mg base k) {cdv : Value} {C : Around} {outer : List PySem.Env} {s : Shared} {H : Hp} {E : XK} (hr : Room (2 * k + 3) (C.deeper (envOfC "_law_value" (defScope s_l_value) s.heap.objs.size (He.ga K "_law_value") cdv))) :
    PSs (cxOf (L2.CX P w) P w K mg base ["_law_bag_here", "_law_kind", "_law_pool", "_law_k"] "_law_value" (defScope s_l_value) (He.ga K "_law_value") cdv C outer s H E) (defBody s_l_value) (tS (gs K) (fun c d _ H => E c d H) (exs (callN Tb k) p_l_value)) := by
  have tk : Takes (cxOf (L2.CX P w) P w K mg base ["_law_bag_here", "_law_kind", "_law_pool", "_law_k"] "_law_value" (defScope s_l_value) (He.ga K "_law_value") cdv C outer s H E) (fun c d _ H => E c d H) := takes_of rfl rfl rfl rfl
  have pp : PassesOwn (model (cxOf (L2.CX P w) P w K mg base ["_law_bag_here", "_law_kind", "_law_pool", "_law_k"] "_law_value" (defScope s_l_value) (He.ga K "_law_value") cdv C outer s H E).prog (cxOf (L2.CX P w) P w K mg base ["_law_bag_here", "_law_kind", "_law_pool", "_law_k"] "_law_value" (defScope s_l_value) (He.ga K "_law_value") cdv C outer s H E).w) (cxOf (L2.CX P w) P w K mg base ["_law_bag_here", "_law_kind", "_law_pool", "_law_k"] "_law_value" (defScope s_l_value) (He.ga K "_law_value") cdv C outer s H E).A (cxOf (L2.CX P w) P w K mg base ["_law_bag_here", "_law_kind", "_law_pool", "_law_k"] "_law_value" (defScope s_l_value) (He.ga K "_law_value") cdv C outer s H E).env (cxOf (L2.CX P w) P w K mg base ["_law_bag_here", "_law_kind", "_law_pool", "_law_k"] "_law_value" (defScope s_l_value) (He.ga K "_law_value") cdv C outer s H E).xe := passes_of rfl
  exact (s_cons (j_asg [3] (j_call (ies := [(.var 0), (.var 2)]) (iks := []) (ks := []) (arr := [.a 0, .a 1]) A.f_l_take T.m_l_take tk hr _ rfl (a_cons rfl j_var (a_cons rfl j_var a_nil)) k_nil (.head _)) (j_g sc_l_value.nd))
    (s_cons (s_ret (i_ife (t_cmp (op := .eq) rfl hr rfl j_var (c_str (okS_of (by decide +kernel)))) (i_bin (op := .sub) rfl j_var (i_bin (op := .div) rfl j_var c_int)) (i_bin (op := .mul) rfl (i_idx rfl rfl (c_str (okS_of (by decide +kernel))) (i_bin (op := .mod) rfl j_var c_int)) (i_bin (op := .add) rfl c_int (i_bin (op := .div) rfl j_var c_int)))))
    s_nil))
theorem b_l_some (T : Txt w K mg) {k : Nat} (A : All P w K mg base k) {cdv : Value} {C : Around} {outer : List PySem.Env} {s : Shared} {H : Hp} {E : XK} (hr : Room (2 * k + 3) (C.deeper (envOfC "_law_some" (defScope s_l_some) s.heap.objs.size (He.ga K "_law_some") cdv))) :
    PSs (cxOf (L2.CX P w) P w K mg base ["_law_bag_here", "_law_names", "_law_few", "_law_most", "_law_left", "_law_found", "_law_k"] "_law_some" (defScope s_l_some) (He.ga K "_law_some") cdv C outer s H E) (defBody s_l_some) (tS (gs K) (fun c d _ H => E c d H) (exs (callN Tb k) p_l_some)) := by
  have tk : Takes (cxOf (L2.CX P w) P w K mg base ["_law_bag_here", "_law_names", "_law_few", "_law_most", "_law_left", "_law_found", "_law_k"] "_law_some" (defScope s_l_some) (He.ga K "_law_some") cdv C outer s H E) (fun c d _ H => E c d H) := takes_of rfl rfl rfl rfl
  have pp : PassesOwn (model (cxOf (L2.CX P w) P w K mg base ["_law_bag_here", "_law_names", "_law_few", "_law_most", "_law_left", "_law_found", "_law_k"] "_law_some" (defScope s_l_some) (He.ga K "_law_some") cdv C outer s H E).prog (cxOf (L2.CX P w) P w K mg base ["_law_bag_here", "_law_names", "_law_few", "_law_most", "_law_left", "_law_found", "_law_k"] "_law_some" (defScope s_l_some) (He.ga K "_law_some") cdv C outer s H E).w) (cxOf (L2.CX P w) P w K mg base ["_law_bag_here", "_law_names", "_law_few", "_law_most", "_law_left", "_law_found", "_law_k"] "_law_some" (defScope s_l_some) (He.ga K "_law_some") cdv C outer s H E).A (cxOf (L2.CX P w) P w K mg base ["_law_bag_here", "_law_names", "_law_few", "_law_most", "_law_left", "_law_found", "_law_k"] "_law_some" (defScope s_l_some) (He.ga K "_law_some") cdv C outer s H E).env (cxOf (L2.CX P w) P w K mg base ["_law_bag_here", "_law_names", "_law_few", "_law_most", "_law_left", "_law_found", "_law_k"] "_law_some" (defScope s_l_some) (He.ga K "_law_some") cdv C outer s H E).xe := passes_of rfl
  exact (s_cons (s_par2 (i := 4) (j := 5) sc_l_some.nd (a_cons rfl (j_bi (.list1 true) hr T.n_list (a_cons rfl j_var a_nil)) (a_cons rfl (i_lst a_nil) a_nil)))
    (s_cons (s_for pp rfl rfl (w_rng1 (by rfl) T.n_range rfl (a_cons rfl (j_bi (.min2) hr T.n_min (a_cons rfl (j_bi (.len) hr T.n_len (a_cons rfl j_var a_nil)) (a_cons rfl (i_bin (op := .add) rfl j_var (j_call (ies := [(.var 0), (.bin false .add (.bin false .sub (.var 3) (.var 2)) (.con (.int 1)))]) (iks := []) (ks := []) (arr := [.a 0, .a 1]) A.f_l_take T.m_l_take tk hr _ rfl (a_cons rfl j_var (a_cons rfl (i_bin (op := .add) rfl (i_bin (op := .sub) rfl j_var j_var) c_int) a_nil)) k_nil (.head _))) a_nil))) a_nil)) (g_any (vs := [6]) (j_g sc_l_some.nd))
      (s_cons (s_expr rfl (i_bm (mt := .append) rfl PySem.F.plainAttrs_list PySem.F.slot_list_append PySem.F.type_list_append mt_append' rfl rfl rfl (by decide) j_var (a_cons rfl (i_bm (mt := .pop1) rfl PySem.F.plainAttrs_list PySem.F.slot_list_pop PySem.F.type_list_pop mt_pop1' rfl rfl rfl (by decide) j_var (a_cons rfl (j_call (ies := [(.var 0), (.bi (.len) [(.var 4)])]) (iks := []) (ks := []) (arr := [.a 0, .a 1]) A.f_l_take T.m_l_take tk hr _ rfl (a_cons rfl j_var (a_cons rfl (j_bi (.len) hr T.n_len (a_cons rfl j_var a_nil)) a_nil)) k_nil (.head _)) a_nil)) a_nil)))
    s_nil))
    (s_cons (s_ret (j_bi (.tuple1) hr T.n_tuple (a_cons rfl j_var a_nil)))
    s_nil)))
theorem b_l_conditions (T : Txt w K mg) {k : Nat} (A : All P w K mg base k) {cdv : Value} {C : Around} {outer : List PySem.Env} {s : Shared} {H : Hp} {E : XK} (hr : Room (2 * k + 3) (C.deeper (envOfC "_law_conditions" (defScope s_l_conditions) s.heap.objs.size (He.ga K "_law_conditions") cdv))) :
    PSs (cxOf (L2.CX P w) P w K mg base ["_law_bag_here", "_law_sort_of", "_law_pool", "_law_found", "_law_name", "_law_kind", "_law_way", "_law_low", "_law_high"] "_law_conditions" (defScope s_l_conditions) (He.ga K "_law_conditions") cdv C outer s H E) (defBody s_l_conditions) (tS (gs K) (fun c d _ H => E c d H) (exs (callN Tb k) p_l_conditions)) := by
  have tk : Takes (cxOf (L2.CX P w) P w K mg base ["_law_bag_here", "_law_sort_of", "_law_pool", "_law_found", "_law_name", "_law_kind", "_law_way", "_law_low", "_law_high"] "_law_conditions" (defScope s_l_conditions) (He.ga K "_law_conditions") cdv C outer s H E) (fun c d _ H => E c d H) := takes_of rfl rfl rfl rfl
  have pp : PassesOwn (model (cxOf (L2.CX P w) P w K mg base ["_law_bag_here", "_law_sort_of", "_law_pool", "_law_found", "_law_name", "_law_kind", "_law_way", "_law_low", "_law_high"] "_law_conditions" (defScope s_l_conditions) (He.ga K "_law_conditions") cdv C outer s H E).prog (cxOf (L2.CX P w) P w K mg base ["_law_bag_here", "_law_sort_of", "_law_pool", "_law_found", "_law_name", "_law_kind", "_law_way", "_law_low", "_law_high"] "_law_conditions" (defScope s_l_conditions) (He.ga K "_law_conditions") cdv C outer s H E).w) (cxOf (L2.CX P w) P w K mg base ["_law_bag_here", "_law_sort_of", "_law_pool", "_law_found", "_law_name", "_law_kind", "_law_way", "_law_low", "_law_high"] "_law_conditions" (defScope s_l_conditions) (He.ga K "_law_conditions") cdv C outer s H E).A (cxOf (L2.CX P w) P w K mg base ["_law_bag_here", "_law_sort_of", "_law_pool", "_law_found", "_law_name", "_law_kind", "_law_way", "_law_low", "_law_high"] "_law_conditions" (defScope s_l_conditions) (He.ga K "_law_conditions") cdv C outer s H E).env (cxOf (L2.CX P w) P w K mg base ["_law_bag_here", "_law_sort_of", "_law_pool", "_law_found", "_law_name", "_law_kind", "_law_way", "_law_low", "_law_high"] "_law_conditions" (defScope s_l_conditions) (He.ga K "_law_conditions") cdv C outer s H E).xe := passes_of rfl
  exact (s_cons (j_asg [3] (i_lst a_nil) (j_g sc_l_conditions.nd))
    (s_cons (s_for pp rfl rfl (w_e rfl j_var) (g_any (vs := [4, 5]) (g_tup rfl rfl rfl rfl (gs_cons rfl (j_g sc_l_conditions.nd) (gs_cons rfl (j_g sc_l_conditions.nd) gs_nil))))
      (s_cons (j_asg [6] (j_call (ies := [(.var 0), (.con (.int 5))]) (iks := []) (ks := []) (arr := [.a 0, .a 1]) A.f_l_take T.m_l_take tk hr _ rfl (a_cons rfl j_var (a_cons rfl c_int a_nil)) k_nil (.head _)) (j_g sc_l_conditions.nd))
    (s_cons (s_ite (t_cmp (op := .eq) rfl hr rfl j_var c_int)
      (s_cons (s_expr rfl (i_bm (mt := .append) rfl PySem.F.plainAttrs_list PySem.F.slot_list_append PySem.F.type_list_append mt_append' rfl rfl rfl (by decide) j_var (a_cons rfl (i_tup (a_cons rfl j_var (a_cons rfl (c_str (okS_of (by decide +kernel))) (a_cons rfl (j_call (ies := [(.var 0), (.var 5), (.var 2)]) (iks := []) (ks := []) (arr := [.a 0, .a 1, .a 2]) A.f_l_value T.m_l_value tk hr _ rfl (a_cons rfl j_var (a_cons rfl j_var (a_cons rfl j_var a_nil))) k_nil (.head _)) a_nil)))) a_nil)))
    s_nil)
      s_nil)
    (s_cons (s_ite (t_cmp (op := .eq) rfl hr rfl j_var c_int)
      (s_cons (j_asg [7, 8] (j_bi (.sorted1 false) hr T.n_sorted (a_cons rfl (i_lst (a_cons rfl (j_call (ies := [(.var 0), (.var 5), (.var 2)]) (iks := []) (ks := []) (arr := [.a 0, .a 1, .a 2]) A.f_l_value T.m_l_value tk hr _ rfl (a_cons rfl j_var (a_cons rfl j_var (a_cons rfl j_var a_nil))) k_nil (.head _)) (a_cons rfl (j_call (ies := [(.var 0), (.var 5), (.var 2)]) (iks := []) (ks := []) (arr := [.a 0, .a 1, .a 2]) A.f_l_value T.m_l_value tk hr _ rfl (a_cons rfl j_var (a_cons rfl j_var (a_cons rfl j_var a_nil))) k_nil (.head _)) a_nil))) a_nil)) (g_tup rfl rfl rfl rfl (gs_cons rfl (j_g sc_l_conditions.nd) (gs_cons rfl (j_g sc_l_conditions.nd) gs_nil))))
    (s_cons (s_expr rfl (i_bm (mt := .append) rfl PySem.F.plainAttrs_list PySem.F.slot_list_append PySem.F.type_list_append mt_append' rfl rfl rfl (by decide) j_var (a_cons rfl (i_bin (op := .add) rfl (i_tup (a_cons rfl j_var (a_cons rfl (c_str (okS_of (by decide +kernel))) a_nil))) (i_idx rfl rfl (i_tup (a_cons rfl (i_tup (a_cons rfl j_var (a_cons rfl j_var a_nil))) (a_cons rfl (i_tup (a_cons rfl j_var (a_cons rfl c_non a_nil))) (a_cons rfl (i_tup (a_cons rfl c_non (a_cons rfl j_var a_nil))) (a_cons rfl (i_tup (a_cons rfl j_var (a_cons rfl j_var a_nil))) a_nil))))) (j_call (ies := [(.var 0), (.con (.int 4))]) (iks := []) (ks := []) (arr := [.a 0, .a 1]) A.f_l_take T.m_l_take tk hr _ rfl (a_cons rfl j_var (a_cons rfl c_int a_nil)) k_nil (.head _)))) a_nil)))
    s_nil))
      s_nil)
    s_nil))))
    (s_cons (s_ret (j_bi (.tuple1) hr T.n_tuple (a_cons rfl (i_slst rfl j_var (i_bin (op := .sub) rfl c_int (i_bin (op := .mul) rfl c_int (j_call (ies := [(.var 0), (.con (.int 2))]) (iks := []) (ks := []) (arr := [.a 0, .a 1]) A.f_l_take T.m_l_take tk hr _ rfl (a_cons rfl j_var (a_cons rfl c_int a_nil)) k_nil (.head _))))) a_nil)))
    s_nil)))
theorem b_l_ask (T : Txt w K mg) {k : Nat} (A : All P w K mg base k) {cdv : Value} {C : Around} {outer : List PySem.Env} {s : Shared} {H : Hp} {E : XK} (hr : Room (2 * k + 3) (C.deeper (envOfC "_law_ask" (defScope s_l_ask) s.heap.objs.size (He.ga K "_law_ask") cdv))) :
    PSs (cxOf (L2.CX P w) P w K mg base ["_law_bag_here", "_law_sort_of", "_law_pool", "_law_names", "_law_wants", "_law_order", "_law_first", "_law_name", "_law_kind"] "_law_ask" (defScope s_l_ask) (He.ga K "_law_ask") cdv C outer s H E) (defBody s_l_ask) (tS (gs K) (fun c d _ H => E c d H) (exs (callN Tb k) p_l_ask)) := by
  have tk : Takes (cxOf (L2.CX P w) P w K mg base ["_law_bag_here", "_law_sort_of", "_law_pool", "_law_names", "_law_wants", "_law_order", "_law_first", "_law_name", "_law_kind"] "_law_ask" (defScope s_l_ask) (He.ga K "_law_ask") cdv C outer s H E) (fun c d _ H => E c d H) := takes_of rfl rfl rfl rfl
  have pp : PassesOwn (model (cxOf (L2.CX P w) P w K mg base ["_law_bag_here", "_law_sort_of", "_law_pool", "_law_names", "_law_wants", "_law_order", "_law_first", "_law_name", "_law_kind"] "_law_ask" (defScope s_l_ask) (He.ga K "_law_ask") cdv C outer s H E).prog (cxOf (L2.CX P w) P w K mg base ["_law_bag_here", "_law_sort_of", "_law_pool", "_law_names", "_law_wants", "_law_order", "_law_first", "_law_name", "_law_kind"] "_law_ask" (defScope s_l_ask) (He.ga K "_law_ask") cdv C outer s H E).w) (cxOf (L2.CX P w) P w K mg base ["_law_bag_here", "_law_sort_of", "_law_pool", "_law_names", "_law_wants", "_law_order", "_law_first", "_law_name", "_law_kind"] "_law_ask" (defScope s_l_ask) (He.ga K "_law_ask") cdv C outer s H E).A (cxOf (L2.CX P w) P w K mg base ["_law_bag_here", "_law_sort_of", "_law_pool", "_law_names", "_law_wants", "_law_order", "_law_first", "_law_name", "_law_kind"] "_law_ask" (defScope s_l_ask) (He.ga K "_law_ask") cdv C outer s H E).env (cxOf (L2.CX P w) P w K mg base ["_law_bag_here", "_law_sort_of", "_law_pool", "_law_names", "_law_wants", "_law_order", "_law_first", "_law_name", "_law_kind"] "_law_ask" (defScope s_l_ask) (He.ga K "_law_ask") cdv C outer s H E).xe := passes_of rfl
  exact (s_cons (s_setLc (i := 3) (own := [("_law_name", 7), ("_law_kind", 8)]) rfl sc_l_ask.nd rfl rfl (sw_true rfl rfl rfl (by decide +kernel)) rfl (w_e rfl j_var) (blkOk_by (by kernel_rfl)) (fun _ _ _ _ _ => (g_tup rfl rfl rfl rfl (gs_cons rfl (j_g sc_l_ask.nd) (gs_cons rfl (j_g sc_l_ask.nd) gs_nil)))) (fun _ _ _ _ _ => ifs_nil) (fun _ _ _ _ _ => j_var))
    (s_cons (s_par2 (i := 4) (j := 5) sc_l_ask.nd (a_cons rfl (j_call (ies := [(.var 0), (.var 3), (.con (.int 1)), (.con (.int 6))]) (iks := []) (ks := []) (arr := [.a 0, .a 1, .a 2, .a 3]) A.f_l_some T.m_l_some tk hr _ rfl (a_cons rfl j_var (a_cons rfl j_var (a_cons rfl c_int (a_cons rfl c_int a_nil)))) k_nil (.head _)) (a_cons rfl (j_call (ies := [(.var 0), (.var 3), (.con (.int 0)), (.con (.int 2))]) (iks := []) (ks := []) (arr := [.a 0, .a 1, .a 2, .a 3]) A.f_l_some T.m_l_some tk hr _ rfl (a_cons rfl j_var (a_cons rfl j_var (a_cons rfl c_int (a_cons rfl c_int a_nil)))) k_nil (.head _)) a_nil)))
    (s_cons (j_asg [6] (i_idx rfl rfl (i_tup (a_cons rfl c_non (a_cons rfl c_non (a_cons rfl (i_bin (op := .add) rfl c_int (j_call (ies := [(.var 0), (.con (.int 4))]) (iks := []) (ks := []) (arr := [.a 0, .a 1]) A.f_l_take T.m_l_take tk hr _ rfl (a_cons rfl j_var (a_cons rfl c_int a_nil)) k_nil (.head _))) (a_cons rfl (i_bin (op := .add) rfl c_int (j_call (ies := [(.var 0), (.con (.int 20))]) (iks := []) (ks := []) (arr := [.a 0, .a 1]) A.f_l_take T.m_l_take tk hr _ rfl (a_cons rfl j_var (a_cons rfl c_int a_nil)) k_nil (.head _))) a_nil))))) (j_call (ies := [(.var 0), (.con (.int 4))]) (iks := []) (ks := []) (arr := [.a 0, .a 1]) A.f_l_take T.m_l_take tk hr _ rfl (a_cons rfl j_var (a_cons rfl c_int a_nil)) k_nil (.head _))) (j_g sc_l_ask.nd))
    (s_cons (s_ret (i_tup (a_cons rfl j_var (a_cons rfl (j_call (ies := [(.var 0), (.var 1), (.var 2)]) (iks := []) (ks := []) (arr := [.a 0, .a 1, .a 2]) A.f_l_conditions T.m_l_conditions tk hr _ rfl (a_cons rfl j_var (a_cons rfl j_var (a_cons rfl j_var a_nil))) k_nil (.head _)) (a_cons rfl j_var (a_cons rfl j_var a_nil))))))
    s_nil))))
theorem b_l_edit (T : Txt w K mg) {k : Nat} (A : All P w K mg base k) {cdv : Value} {C : Around} {outer : List PySem.Env} {s : Shared} {H : Hp} {E : XK} (hr : Room (2 * k + 3) (C.deeper (envOfC "_law_edit" (defScope s_l_edit) s.heap.objs.size (He.ga K "_law_edit") cdv))) :
    PSs (cxOf (L2.CX P w) P w K mg base ["_law_bag_here", "_law_know", "_law_sort_of", "_law_pool", "_law_way", "_law_k", "_law_some_here", "_law_name", "_law_kind"] "_law_edit" (defScope s_l_edit) (He.ga K "_law_edit") cdv C outer s H E) (defBody s_l_edit) (tS (gs K) (fun c d _ H => E c d H) (exs (callN Tb k) p_l_edit)) := by
  have tk : Takes (cxOf (L2.CX P w) P w K mg base ["_law_bag_here", "_law_know", "_law_sort_of", "_law_pool", "_law_way", "_law_k", "_law_some_here", "_law_name", "_law_kind"] "_law_edit" (defScope s_l_edit) (He.ga K "_law_edit") cdv C outer s H E) (fun c d _ H => E c d H) := takes_of rfl rfl rfl rfl
  have pp : PassesOwn (model (cxOf (L2.CX P w) P w K mg base ["_law_bag_here", "_law_know", "_law_sort_of", "_law_pool", "_law_way", "_law_k", "_law_some_here", "_law_name", "_law_kind"] "_law_edit" (defScope s_l_edit) (He.ga K "_law_edit") cdv C outer s H E).prog (cxOf (L2.CX P w) P w K mg base ["_law_bag_here", "_law_know", "_law_sort_of", "_law_pool", "_law_way", "_law_k", "_law_some_here", "_law_name", "_law_kind"] "_law_edit" (defScope s_l_edit) (He.ga K "_law_edit") cdv C outer s H E).w) (cxOf (L2.CX P w) P w K mg base ["_law_bag_here", "_law_know", "_law_sort_of", "_law_pool", "_law_way", "_law_k", "_law_some_here", "_law_name", "_law_kind"] "_law_edit" (defScope s_l_edit) (He.ga K "_law_edit") cdv C outer s H E).A (cxOf (L2.CX P w) P w K mg base ["_law_bag_here", "_law_know", "_law_sort_of", "_law_pool", "_law_way", "_law_k", "_law_some_here", "_law_name", "_law_kind"] "_law_edit" (defScope s_l_edit) (He.ga K "_law_edit") cdv C outer s H E).env (cxOf (L2.CX P w) P w K mg base ["_law_bag_here", "_law_know", "_law_sort_of", "_law_pool", "_law_way", "_law_k", "_law_some_here", "_law_name", "_law_kind"] "_law_edit" (defScope s_l_edit) (He.ga K "_law_edit") cdv C outer s H E).xe := passes_of rfl
  exact (s_cons (s_asg (i_tup (a_cons rfl (i_didx hr rfl j_var (c_str (okS_of (by decide +kernel)))) (a_cons rfl (i_didx hr rfl j_var (c_str (okS_of (by decide +kernel)))) a_nil))) (g_any (vs := [2, 3]) (g_tup rfl rfl rfl rfl (gs_cons rfl (j_g sc_l_edit.nd) (gs_cons rfl (j_g sc_l_edit.nd) gs_nil)))) rfl (by rfl) (by rfl))
    (s_cons (s_par2 (i := 4) (j := 5) sc_l_edit.nd (a_cons rfl (j_call (ies := [(.var 0), (.con (.int 5))]) (iks := []) (ks := []) (arr := [.a 0, .a 1]) A.f_l_take T.m_l_take tk hr _ rfl (a_cons rfl j_var (a_cons rfl c_int a_nil)) k_nil (.head _)) (a_cons rfl (j_call (ies := [(.var 0), (.bi (.len) [(.var 2)])]) (iks := []) (ks := []) (arr := [.a 0, .a 1]) A.f_l_take T.m_l_take tk hr _ rfl (a_cons rfl j_var (a_cons rfl (j_bi (.len) hr T.n_len (a_cons rfl j_var a_nil)) a_nil)) k_nil (.head _)) a_nil)))
    (s_cons (s_ite (t_cmp (op := .eq) rfl hr rfl j_var c_int)
      (s_cons (s_ret (i_tup (a_cons rfl (c_str (okS_of (by decide +kernel))) (a_cons rfl (j_call (ies := [(.var 0), (.var 2), (.var 3)]) (iks := []) (ks := []) (arr := [.a 0, .a 1, .a 2]) A.f_l_ask T.m_l_ask tk hr _ rfl (a_cons rfl j_var (a_cons rfl j_var (a_cons rfl j_var a_nil))) k_nil (.head _)) a_nil))))
    s_nil)
      s_nil)
    (s_cons (s_ite (t_cmp (op := .eq) rfl hr rfl j_var c_int)
      (s_cons (s_ret (i_tup (a_cons rfl (c_str (okS_of (by decide +kernel))) (a_cons rfl (j_bi (.tuple1) hr T.n_tuple (a_cons rfl (i_lc (own := [("_law_name", 7), ("_law_kind", 8)]) rfl sc_l_edit.nd rfl (w_e rfl j_var) (blkOk_by (by kernel_rfl)) (fun _ _ _ _ _ => (g_tup rfl rfl rfl rfl (gs_cons rfl (j_g sc_l_edit.nd) (gs_cons rfl (j_g sc_l_edit.nd) gs_nil)))) (fun _ _ _ _ _ => ifs_nil) (fun _ _ _ _ _ => (j_call (ies := [(.var 0), (.var 8), (.var 3)]) (iks := []) (ks := []) (arr := [.a 0, .a 1, .a 2]) A.f_l_value T.m_l_value takes0 hr _ rfl (a_cons rfl j_var (a_cons rfl j_var (a_cons rfl j_var a_nil))) k_nil (.head _)))) a_nil)) a_nil))))
    s_nil)
      s_nil)
    (s_cons (j_asg [6] (j_call (ies := [(.var 0), (.var 2), (.var 3)]) (iks := []) (ks := []) (arr := [.a 0, .a 1, .a 2]) A.f_l_conditions T.m_l_conditions tk hr _ rfl (a_cons rfl j_var (a_cons rfl j_var (a_cons rfl j_var a_nil))) k_nil (.head _)) (j_g sc_l_edit.nd))
    (s_cons (s_ite (t_cmp (op := .eq) rfl hr rfl j_var c_int)
      (s_cons (s_ret (i_tup (a_cons rfl (c_str (okS_of (by decide +kernel))) (a_cons rfl j_var a_nil))))
    s_nil)
      s_nil)
    (s_cons (s_ret (i_tup (a_cons rfl (c_str (okS_of (by decide +kernel))) (a_cons rfl j_var (a_cons rfl (i_idx rfl rfl (i_idx rfl rfl j_var j_var) c_int) (a_cons rfl (j_call (ies := [(.var 0), (.idx (.idx (.var 2) (.var 5)) (.con (.int 1))), (.var 3)]) (iks := []) (ks := []) (arr := [.a 0, .a 1, .a 2]) A.f_l_value T.m_l_value tk hr _ rfl (a_cons rfl j_var (a_cons rfl (i_idx rfl rfl (i_idx rfl rfl j_var j_var) c_int) (a_cons rfl j_var a_nil))) k_nil (.head _)) a_nil))))))
    s_nil)))))))
theorem b_l_any (T : Txt w K mg) {k : Nat} (A : All P w K mg base k) {cdv : Value} {C : Around} {outer : List PySem.Env} {s : Shared} {H : Hp} {E : XK} (hr : Room (2 * k + 3) (C.deeper (envOfC "_law_any" (defScope s_l_any) s.heap.objs.size (He.ga K "_law_any") cdv))) :
    PSs (cxOf (L2.CX P w) P w K mg base ["_law_bag_here", "_law_names", "_law_some_here"] "_law_any" (defScope s_l_any) (He.ga K "_law_any") cdv C outer s H E) (defBody s_l_any) (tS (gs K) (fun c d _ H => E c d H) (exs (callN Tb k) p_l_any)) := by
  have tk : Takes (cxOf (L2.CX P w) P w K mg base ["_law_bag_here", "_law_names", "_law_some_here"] "_law_any" (defScope s_l_any) (He.ga K "_law_any") cdv C outer s H E) (fun c d _ H => E c d H) := takes_of rfl rfl rfl rfl
  have pp : PassesOwn (model (cxOf (L2.CX P w) P w K mg base ["_law_bag_here", "_law_names", "_law_some_here"] "_law_any" (defScope s_l_any) (He.ga K "_law_any") cdv C outer s H E).prog (cxOf (L2.CX P w) P w K mg base ["_law_bag_here", "_law_names", "_law_some_here"] "_law_any" (defScope s_l_any) (He.ga K "_law_any") cdv C outer s H E).w) (cxOf (L2.CX P w) P w K mg base ["_law_bag_here", "_law_names", "_law_some_here"] "_law_any" (defScope s_l_any) (He.ga K "_law_any") cdv C outer s H E).A (cxOf (L2.CX P w) P w K mg base ["_law_bag_here", "_law_names", "_law_some_here"] "_law_any" (defScope s_l_any) (He.ga K "_law_any") cdv C outer s H E).env (cxOf (L2.CX P w) P w K mg base ["_law_bag_here", "_law_names", "_law_some_here"] "_law_any" (defScope s_l_any) (He.ga K "_law_any") cdv C outer s H E).xe := passes_of rfl
  exact (s_cons (j_asg [2] (i_lst (a_cons rfl c_non (a_cons rfl c_bl (a_cons rfl c_bl (a_cons rfl c_int (a_cons rfl c_int (a_cons rfl (i_neg c_int) (a_cons rfl c_int (a_cons rfl c_int (a_cons rfl (i_neg c_int) (a_cons rfl (i_bin (op := .pow) rfl c_int c_int) (a_cons rfl (c_str (okS_of (by decide +kernel))) (a_cons rfl (c_str (okS_of (by decide +kernel))) (a_cons rfl (c_str (okS_of (by decide +kernel))) (a_cons rfl (c_str (okS_of (by decide +kernel))) a_nil))))))))))))))) (j_g sc_l_any.nd))
    (s_cons (j_asg [2] (i_bin (op := .add) rfl j_var (i_lst (a_cons rfl (c_str (okS_of (by decide +kernel))) (a_cons rfl (i_lst a_nil) (a_cons rfl (i_tup a_nil) (a_cons rfl (i_tup (a_cons rfl (i_lst a_nil) a_nil)) (a_cons rfl (i_lst (a_cons rfl c_int a_nil)) (a_cons rfl (i_idx rfl rfl j_var (j_call (ies := [(.var 0), (.bi (.len) [(.var 1)])]) (iks := []) (ks := []) (arr := [.a 0, .a 1]) A.f_l_take T.m_l_take tk hr _ rfl (a_cons rfl j_var (a_cons rfl (j_bi (.len) hr T.n_len (a_cons rfl j_var a_nil)) a_nil)) k_nil (.head _))) (a_cons rfl (i_tup (a_cons rfl (i_idx rfl rfl j_var c_int) a_nil)) a_nil))))))))) (j_g sc_l_any.nd))
    (s_cons (s_ret (i_idx rfl rfl (i_bin (op := .add) rfl j_var (i_lst (a_cons rfl (i_tup (a_cons rfl (i_idx rfl rfl j_var c_int) (a_cons rfl (c_str (okS_of (by decide +kernel))) (a_cons rfl c_int a_nil)))) a_nil))) (j_call (ies := [(.var 0), (.con (.int 22))]) (iks := []) (ks := []) (arr := [.a 0, .a 1]) A.f_l_take T.m_l_take tk hr _ rfl (a_cons rfl j_var (a_cons rfl c_int a_nil)) k_nil (.head _))))
    s_nil)))
theorem b_l_is_value (T : Txt w K mg) {k : Nat} (A : All P w K mg base k) {cdv : Value} {C : Around} {outer : List PySem.Env} {s : Shared} {H : Hp} {E : XK} (hr : Room (2 * k + 3) (C.deeper (envOfC "_law_is_value" (defScope s_l_is_value) s.heap.objs.size (He.ga K "_law_is_value") cdv))) :
    PSs (cxOf (L2.CX P w) P w K mg base ["_law_kind", "_law_given", "_law_sign"] "_law_is_value" (defScope s_l_is_value) (He.ga K "_law_is_value") cdv C outer s H E) (defBody s_l_is_value) (tS (gs K) (fun c d _ H => E c d H) (exs (callN Tb k) p_l_is_value)) := by
  have tk : Takes (cxOf (L2.CX P w) P w K mg base ["_law_kind", "_law_given", "_law_sign"] "_law_is_value" (defScope s_l_is_value) (He.ga K "_law_is_value") cdv C outer s H E) (fun c d _ H => E c d H) := takes_of rfl rfl rfl rfl
  have pp : PassesOwn (model (cxOf (L2.CX P w) P w K mg base ["_law_kind", "_law_given", "_law_sign"] "_law_is_value" (defScope s_l_is_value) (He.ga K "_law_is_value") cdv C outer s H E).prog (cxOf (L2.CX P w) P w K mg base ["_law_kind", "_law_given", "_law_sign"] "_law_is_value" (defScope s_l_is_value) (He.ga K "_law_is_value") cdv C outer s H E).w) (cxOf (L2.CX P w) P w K mg base ["_law_kind", "_law_given", "_law_sign"] "_law_is_value" (defScope s_l_is_value) (He.ga K "_law_is_value") cdv C outer s H E).A (cxOf (L2.CX P w) P w K mg base ["_law_kind", "_law_given", "_law_sign"] "_law_is_value" (defScope s_l_is_value) (He.ga K "_law_is_value") cdv C outer s H E).env (cxOf (L2.CX P w) P w K mg base ["_law_kind", "_law_given", "_law_sign"] "_law_is_value" (defScope s_l_is_value) (He.ga K "_law_is_value") cdv C outer s H E).xe := passes_of rfl
  exact (s_cons (s_ite (t_cmp (op := .eq) rfl hr rfl j_var (c_str (okS_of (by decide +kernel))))
      (s_cons (s_ret (i_and rfl (j_bi (.isi) hr T.n_isinstance (a_cons rfl j_var (a_cons rfl (c_gT (n := "int") T.n_int (by decide +kernel)) a_nil))) (i_and rfl (i_not rfl (j_bi (.isi) hr T.n_isinstance (a_cons rfl j_var (a_cons rfl (c_gT (n := "bool") T.n_bool (by decide +kernel)) a_nil)))) (pe_one (i_chain (op := .le) (op' := .le) rfl hr rfl (i_neg c_int) j_var c_int)))))
    s_nil)
      s_nil)
    (s_cons (s_ite (PW.pt (w_or (t_not (t_val rfl rfl (j_bi (.isi) hr T.n_isinstance (a_cons rfl j_var (a_cons rfl (c_gT (n := "str") T.n_str (by decide +kernel)) a_nil))))) (pw_or1 (t_not (t_chain (op := .le) (op' := .le) rfl hr rfl c_int (j_bi (.len) hr T.n_len (a_cons rfl j_var a_nil)) c_int)))))
      (s_cons (s_ret c_bl)
    s_nil)
      s_nil)
    (s_cons (s_ret (j_bi (.all) hr T.n_all (a_cons rfl (i_lc (own := [("_law_sign", 2)]) rfl sc_l_is_value.nd rfl (w_e rfl j_var) (blkOk_by (by kernel_rfl)) (fun _ _ _ _ _ => (j_g sc_l_is_value.nd)) (fun _ _ _ _ _ => ifs_nil) (fun _ _ _ _ _ => (i_cmp (op := .isIn) rfl hr rfl j_var (c_str (okS_of (by decide +kernel)))))) a_nil)))
    s_nil)))
theorem b_l_are_columns (T : Txt w K mg) {k : Nat} (A : All P w K mg base k) {cdv : Value} {C : Around} {outer : List PySem.Env} {s : Shared} {H : Hp} {E : XK} (hr : Room (2 * k + 3) (C.deeper (envOfC "_law_are_columns" (defScope s_l_are_columns) s.heap.objs.size (He.ga K "_law_are_columns") cdv))) :
    PSs (cxOf (L2.CX P w) P w K mg base ["_law_names", "_law_given", "_law_few", "_law_most", "_law_one"] "_law_are_columns" (defScope s_l_are_columns) (He.ga K "_law_are_columns") cdv C outer s H E) (defBody s_l_are_columns) (tS (gs K) (fun c d _ H => E c d H) (exs (callN Tb k) p_l_are_columns)) := by
  have tk : Takes (cxOf (L2.CX P w) P w K mg base ["_law_names", "_law_given", "_law_few", "_law_most", "_law_one"] "_law_are_columns" (defScope s_l_are_columns) (He.ga K "_law_are_columns") cdv C outer s H E) (fun c d _ H => E c d H) := takes_of rfl rfl rfl rfl
  have pp : PassesOwn (model (cxOf (L2.CX P w) P w K mg base ["_law_names", "_law_given", "_law_few", "_law_most", "_law_one"] "_law_are_columns" (defScope s_l_are_columns) (He.ga K "_law_are_columns") cdv C outer s H E).prog (cxOf (L2.CX P w) P w K mg base ["_law_names", "_law_given", "_law_few", "_law_most", "_law_one"] "_law_are_columns" (defScope s_l_are_columns) (He.ga K "_law_are_columns") cdv C outer s H E).w) (cxOf (L2.CX P w) P w K mg base ["_law_names", "_law_given", "_law_few", "_law_most", "_law_one"] "_law_are_columns" (defScope s_l_are_columns) (He.ga K "_law_are_columns") cdv C outer s H E).A (cxOf (L2.CX P w) P w K mg base ["_law_names", "_law_given", "_law_few", "_law_most", "_law_one"] "_law_are_columns" (defScope s_l_are_columns) (He.ga K "_law_are_columns") cdv C outer s H E).env (cxOf (L2.CX P w) P w K mg base ["_law_names", "_law_given", "_law_few", "_law_most", "_law_one"] "_law_are_columns" (defScope s_l_are_columns) (He.ga K "_law_are_columns") cdv C outer s H E).xe := passes_of rfl
  exact (s_cons (s_ite (PW.pt (w_or (t_not (t_val rfl rfl (j_bi (.isi) hr T.n_isinstance (a_cons rfl j_var (a_cons rfl (c_gT (n := "tuple") T.n_tuple (by decide +kernel)) a_nil))))) (pw_or1 (t_not (t_chain (op := .le) (op' := .le) rfl hr rfl j_var (j_bi (.len) hr T.n_len (a_cons rfl j_var a_nil)) j_var)))))
      (s_cons (s_ret c_bl)
    s_nil)
      s_nil)
    (s_cons (s_ret (j_bi (.all) hr T.n_all (a_cons rfl (i_lc (own := [("_law_one", 4)]) rfl sc_l_are_columns.nd rfl (w_e rfl j_var) (blkOk_by (by kernel_rfl)) (fun _ _ _ _ _ => (j_g sc_l_are_columns.nd)) (fun _ _ _ _ _ => ifs_nil) (fun _ _ _ _ _ => (i_and rfl (j_bi (.isi) hr T.n_isinstance (a_cons rfl j_var (a_cons rfl (c_gT (n := "str") T.n_str (by decide +kernel)) a_nil))) (i_and rfl (i_cmp (op := .isIn) rfl hr rfl j_var j_var) (pe_one (i_cmp (op := .eq) rfl hr rfl (i_tcnta hr rfl rfl rfl j_var (a_cons rfl j_var a_nil)) c_int)))))) a_nil)))
    s_nil))
theorem b_l_are_conditions (T : Txt w K mg) {k : Nat} (A : All P w K mg base k) {cdv : Value} {C : Around} {outer : List PySem.Env} {s : Shared} {H : Hp} {E : XK} (hr : Room (2 * k + 3) (C.deeper (envOfC "_law_are_conditions" (defScope s_l_are_conditions) s.heap.objs.size (He.ga K "_law_are_conditions") cdv))) :
    PSs (cxOf (L2.CX P w) P w K mg base ["_law_sort_of", "_law_given", "_law_known", "_law_one", "_law_kind", "_law_ends", "_law_value_here"] "_law_are_conditions" (defScope s_l_are_conditions) (He.ga K "_law_are_conditions") cdv C outer s H E) (defBody s_l_are_conditions) (tS (gs K) (fun c d _ H => E c d H) (exs (callN Tb k) p_l_are_conditions)) := by
  have tk : Takes (cxOf (L2.CX P w) P w K mg base ["_law_sort_of", "_law_given", "_law_known", "_law_one", "_law_kind", "_law_ends", "_law_value_here"] "_law_are_conditions" (defScope s_l_are_conditions) (He.ga K "_law_are_conditions") cdv C outer s H E) (fun c d _ H => E c d H) := takes_of rfl rfl rfl rfl
  have pp : PassesOwn (model (cxOf (L2.CX P w) P w K mg base ["_law_sort_of", "_law_given", "_law_known", "_law_one", "_law_kind", "_law_ends", "_law_value_here"] "_law_are_conditions" (defScope s_l_are_conditions) (He.ga K "_law_are_conditions") cdv C outer s H E).prog (cxOf (L2.CX P w) P w K mg base ["_law_sort_of", "_law_given", "_law_known", "_law_one", "_law_kind", "_law_ends", "_law_value_here"] "_law_are_conditions" (defScope s_l_are_conditions) (He.ga K "_law_are_conditions") cdv C outer s H E).w) (cxOf (L2.CX P w) P w K mg base ["_law_sort_of", "_law_given", "_law_known", "_law_one", "_law_kind", "_law_ends", "_law_value_here"] "_law_are_conditions" (defScope s_l_are_conditions) (He.ga K "_law_are_conditions") cdv C outer s H E).A (cxOf (L2.CX P w) P w K mg base ["_law_sort_of", "_law_given", "_law_known", "_law_one", "_law_kind", "_law_ends", "_law_value_here"] "_law_are_conditions" (defScope s_l_are_conditions) (He.ga K "_law_are_conditions") cdv C outer s H E).env (cxOf (L2.CX P w) P w K mg base ["_law_sort_of", "_law_given", "_law_known", "_law_one", "_law_kind", "_law_ends", "_law_value_here"] "_law_are_conditions" (defScope s_l_are_conditions) (He.ga K "_law_are_conditions") cdv C outer s H E).xe := passes_of rfl
  exact (s_cons (s_ite (PW.pt (w_or (t_not (t_val rfl rfl (j_bi (.isi) hr T.n_isinstance (a_cons rfl j_var (a_cons rfl (c_gT (n := "tuple") T.n_tuple (by decide +kernel)) a_nil))))) (pw_or1 (t_cmp (op := .gt) rfl hr rfl (j_bi (.len) hr T.n_len (a_cons rfl j_var a_nil)) c_int))))
      (s_cons (s_ret c_bl)
    s_nil)
      s_nil)
    (s_cons (j_asg [2] (i_lst a_nil) (j_g sc_l_are_conditions.nd))
    (s_cons (s_for pp rfl rfl (w_e rfl j_var) (g_any (vs := [3]) (j_g sc_l_are_conditions.nd))
      (s_cons (s_ite (PW.pt (w_or (t_not (t_val rfl rfl (j_bi (.isi) hr T.n_isinstance (a_cons rfl j_var (a_cons rfl (c_gT (n := "tuple") T.n_tuple (by decide +kernel)) a_nil))))) (w_or (t_cmp (op := .notIn) rfl hr rfl (j_bi (.len) hr T.n_len (a_cons rfl j_var a_nil)) (i_tup (a_cons rfl c_int (a_cons rfl c_int a_nil)))) (pw_or1 (t_not (t_val rfl rfl (j_bi (.isi) hr T.n_isinstance (a_cons rfl (i_idx rfl rfl j_var c_int) (a_cons rfl (c_gT (n := "str") T.n_str (by decide +kernel)) a_nil)))))))))
      (s_cons (s_ret c_bl)
    s_nil)
      s_nil)
    (s_cons (s_ite (t_din (neg := true) hr rfl (i_idx rfl rfl j_var c_int) (i_dpairsT rfl (by rfl) (by rfl) T.n_dict rfl (a_cons rfl j_var a_nil)))
      (s_cons (s_ret c_bl)
    s_nil)
      s_nil)
    (s_cons (s_ite (PW.pt (w_or (t_not (t_val rfl rfl (j_bi (.isi) hr T.n_isinstance (a_cons rfl (i_idx rfl rfl j_var c_int) (a_cons rfl (c_gT (n := "str") T.n_str (by decide +kernel)) a_nil))))) (w_or (t_cmp (op := .ne) rfl hr rfl (i_idx rfl rfl j_var c_int) (i_idx rfl rfl (i_tup (a_cons rfl (c_str (okS_of (by decide +kernel))) (a_cons rfl (c_str (okS_of (by decide +kernel))) a_nil))) (i_bin (op := .sub) rfl (j_bi (.len) hr T.n_len (a_cons rfl j_var a_nil)) c_int))) (pw_or1 (t_cmp (op := .isIn) rfl hr rfl (i_idx rfl rfl j_var c_int) j_var)))))
      (s_cons (s_ret c_bl)
    s_nil)
      s_nil)
    (s_cons (j_asg [4] (i_didx hr rfl (i_dpairsT rfl (by rfl) (by rfl) T.n_dict rfl (a_cons rfl j_var a_nil)) (i_idx rfl rfl j_var c_int)) (j_g sc_l_are_conditions.nd))
    (s_cons (s_setLc (i := 5) (own := [("_law_value_here", 6)]) rfl sc_l_are_conditions.nd rfl rfl (sw_true rfl rfl rfl (by decide +kernel)) rfl (w_e rfl (i_slc rfl j_var (p_some c_int) p_none)) (blkOk_by (by kernel_rfl)) (fun _ _ _ _ _ => (j_g sc_l_are_conditions.nd)) (fun _ _ _ _ _ => ifs_nil) (fun _ _ _ _ _ => (i_or rfl (i_and rfl (i_cmp (op := .isN) rfl hr rfl j_var c_non) (pe_one (i_cmp (op := .eq) rfl hr rfl (j_bi (.len) hr T.n_len (a_cons rfl j_var a_nil)) c_int))) (pe_one (j_call (ies := [(.var 4), (.var 6)]) (iks := []) (ks := []) (arr := [.a 0, .a 1]) A.f_l_is_value T.m_l_is_value takes0 hr _ rfl (a_cons rfl j_var (a_cons rfl j_var a_nil)) k_nil (.head _))))))
    (s_cons (s_ite (PW.pt (w_or (t_not (t_val rfl rfl (j_bi (.all) hr T.n_all (a_cons rfl j_var a_nil)))) (pw_or1 (PW.pt (w_and (t_cmp (op := .eq) rfl hr rfl (j_bi (.len) hr T.n_len (a_cons rfl j_var a_nil)) c_int) (w_and (t_cmp (op := .isN) rfl hr rfl (i_idx rfl rfl j_var c_int) c_non) (pw_and1 (t_cmp (op := .isN) rfl hr rfl (i_idx rfl rfl j_var c_int) c_non))))))))
      (s_cons (s_ret c_bl)
    s_nil)
      s_nil)
    (s_cons (s_expr rfl (i_bm (mt := .append) rfl PySem.F.plainAttrs_list PySem.F.slot_list_append PySem.F.type_list_append mt_append' rfl rfl rfl (by decide) j_var (a_cons rfl (i_idx rfl rfl j_var c_int) a_nil)))
    s_nil))))))))
    (s_cons (s_ret c_bl)
    s_nil))))
theorem b_l_is_ask (T : Txt w K mg) {k : Nat} (A : All P w K mg base k) {cdv : Value} {C : Around} {outer : List PySem.Env} {s : Shared} {H : Hp} {E : XK} (hr : Room (2 * k + 3) (C.deeper (envOfC "_law_is_ask" (defScope s_l_is_ask) s.heap.objs.size (He.ga K "_law_is_ask") cdv))) :
    PSs (cxOf (L2.CX P w) P w K mg base ["_law_sort_of", "_law_given", "_law_names", "_law_first", "_law_name", "_law_kind"] "_law_is_ask" (defScope s_l_is_ask) (He.ga K "_law_is_ask") cdv C outer s H E) (defBody s_l_is_ask) (tS (gs K) (fun c d _ H => E c d H) (exs (callN Tb k) p_l_is_ask)) := by
  have tk : Takes (cxOf (L2.CX P w) P w K mg base ["_law_sort_of", "_law_given", "_law_names", "_law_first", "_law_name", "_law_kind"] "_law_is_ask" (defScope s_l_is_ask) (He.ga K "_law_is_ask") cdv C outer s H E) (fun c d _ H => E c d H) := takes_of rfl rfl rfl rfl
  have pp : PassesOwn (model (cxOf (L2.CX P w) P w K mg base ["_law_sort_of", "_law_given", "_law_names", "_law_first", "_law_name", "_law_kind"] "_law_is_ask" (defScope s_l_is_ask) (He.ga K "_law_is_ask") cdv C outer s H E).prog (cxOf (L2.CX P w) P w K mg base ["_law_sort_of", "_law_given", "_law_names", "_law_first", "_law_name", "_law_kind"] "_law_is_ask" (defScope s_l_is_ask) (He.ga K "_law_is_ask") cdv C outer s H E).w) (cxOf (L2.CX P w) P w K mg base ["_law_sort_of", "_law_given", "_law_names", "_law_first", "_law_name", "_law_kind"] "_law_is_ask" (defScope s_l_is_ask) (He.ga K "_law_is_ask") cdv C outer s H E).A (cxOf (L2.CX P w) P w K mg base ["_law_sort_of", "_law_given", "_law_names", "_law_first", "_law_name", "_law_kind"] "_law_is_ask" (defScope s_l_is_ask) (He.ga K "_law_is_ask") cdv C outer s H E).env (cxOf (L2.CX P w) P w K mg base ["_law_sort_of", "_law_given", "_law_names", "_law_first", "_law_name", "_law_kind"] "_law_is_ask" (defScope s_l_is_ask) (He.ga K "_law_is_ask") cdv C outer s H E).xe := passes_of rfl
  exact (s_cons (s_setLc (i := 2) (own := [("_law_name", 4), ("_law_kind", 5)]) rfl sc_l_is_ask.nd rfl rfl (sw_true rfl rfl rfl (by decide +kernel)) rfl (w_e rfl (i_untup j_var)) (blkOk_by (by kernel_rfl)) (fun _ _ _ _ _ => (g_tup rfl rfl rfl rfl (gs_cons rfl (j_g sc_l_is_ask.nd) (gs_cons rfl (j_g sc_l_is_ask.nd) gs_nil)))) (fun _ _ _ _ _ => ifs_nil) (fun _ _ _ _ _ => j_var))
    (s_cons (s_ite (PW.pt (w_or (t_not (t_val rfl rfl (j_bi (.isi) hr T.n_isinstance (a_cons rfl j_var (a_cons rfl (c_gT (n := "tuple") T.n_tuple (by decide +kernel)) a_nil))))) (w_or (t_cmp (op := .ne) rfl hr rfl (j_bi (.len) hr T.n_len (a_cons rfl j_var a_nil)) c_int) (pw_or1 (t_not (t_val rfl rfl (j_call (ies := [(.var 2), (.idx (.var 1) (.con (.int 0))), (.con (.int 1)), (.con (.int 6))]) (iks := []) (ks := []) (arr := [.a 0, .a 1, .a 2, .a 3]) A.f_l_are_columns T.m_l_are_columns tk hr _ rfl (a_cons rfl j_var (a_cons rfl (i_idx rfl rfl j_var c_int) (a_cons rfl c_int (a_cons rfl c_int a_nil)))) k_nil (.head _))))))))
      (s_cons (s_ret c_bl)
    s_nil)
      s_nil)
    (s_cons (s_ite (PW.pt (w_or (t_not (t_val rfl rfl (j_call (ies := [(.var 0), (.idx (.var 1) (.con (.int 1)))]) (iks := []) (ks := []) (arr := [.a 0, .a 1]) A.f_l_are_conditions T.m_l_are_conditions tk hr _ rfl (a_cons rfl j_var (a_cons rfl (i_idx rfl rfl j_var c_int) a_nil)) k_nil (.head _)))) (pw_or1 (t_not (t_val rfl rfl (j_call (ies := [(.var 2), (.idx (.var 1) (.con (.int 2))), (.con (.int 0)), (.con (.int 4))]) (iks := []) (ks := []) (arr := [.a 0, .a 1, .a 2, .a 3]) A.f_l_are_columns T.m_l_are_columns tk hr _ rfl (a_cons rfl j_var (a_cons rfl (i_idx rfl rfl j_var c_int) (a_cons rfl c_int (a_cons rfl c_int a_nil)))) k_nil (.head _)))))))
      (s_cons (s_ret c_bl)
    s_nil)
      s_nil)
    (s_cons (j_asg [3] (i_idx rfl rfl j_var c_int) (j_g sc_l_is_ask.nd))
    (s_cons (s_ite (t_cmp (op := .isN) rfl hr rfl j_var c_non)
      (s_cons (s_ret c_bl)
    s_nil)
      s_nil)
    (s_cons (s_ret (i_and rfl (j_bi (.isi) hr T.n_isinstance (a_cons rfl j_var (a_cons rfl (c_gT (n := "int") T.n_int (by decide +kernel)) a_nil))) (i_and rfl (i_not rfl (j_bi (.isi) hr T.n_isinstance (a_cons rfl j_var (a_cons rfl (c_gT (n := "bool") T.n_bool (by decide +kernel)) a_nil)))) (pe_one (i_chain (op := .le) (op' := .le) rfl hr rfl c_int j_var c_int)))))
    s_nil))))))
theorem b_l_due (T : Txt w K mg) {k : Nat} (A : All P w K mg base k) {cdv : Value} {C : Around} {outer : List PySem.Env} {s : Shared} {H : Hp} {E : XK} (hr : Room (2 * k + 3) (C.deeper (envOfC "_law_due" (defScope s_l_due) s.heap.objs.size (He.ga K "_law_due") cdv))) :
    PSs (cxOf (L2.CX P w) P w K mg base ["_law_sort_of", "_law_given", "_law_many", "_law_good", "_law_one", "_law_value_here"] "_law_due" (defScope s_l_due) (He.ga K "_law_due") cdv C outer s H E) (defBody s_l_due) (tS (gs K) (fun c d _ H => E c d H) (exs (callN Tb k) p_l_due)) := by
  have tk : Takes (cxOf (L2.CX P w) P w K mg base ["_law_sort_of", "_law_given", "_law_many", "_law_good", "_law_one", "_law_value_here"] "_law_due" (defScope s_l_due) (He.ga K "_law_due") cdv C outer s H E) (fun c d _ H => E c d H) := takes_of rfl rfl rfl rfl
  have pp : PassesOwn (model (cxOf (L2.CX P w) P w K mg base ["_law_sort_of", "_law_given", "_law_many", "_law_good", "_law_one", "_law_value_here"] "_law_due" (defScope s_l_due) (He.ga K "_law_due") cdv C outer s H E).prog (cxOf (L2.CX P w) P w K mg base ["_law_sort_of", "_law_given", "_law_many", "_law_good", "_law_one", "_law_value_here"] "_law_due" (defScope s_l_due) (He.ga K "_law_due") cdv C outer s H E).w) (cxOf (L2.CX P w) P w K mg base ["_law_sort_of", "_law_given", "_law_many", "_law_good", "_law_one", "_law_value_here"] "_law_due" (defScope s_l_due) (He.ga K "_law_due") cdv C outer s H E).A (cxOf (L2.CX P w) P w K mg base ["_law_sort_of", "_law_given", "_law_many", "_law_good", "_law_one", "_law_value_here"] "_law_due" (defScope s_l_due) (He.ga K "_law_due") cdv C outer s H E).env (cxOf (L2.CX P w) P w K mg base ["_law_sort_of", "_law_given", "_law_many", "_law_good", "_law_one", "_law_value_here"] "_law_due" (defScope s_l_due) (He.ga K "_law_due") cdv C outer s H E).xe := passes_of rfl
  exact (s_cons (j_asg [2] (i_ddisp (pps_cons pe_keyS c_int (pps_cons pe_keyS c_int (pps_cons pe_keyS c_int (pps_cons pe_keyS c_int pps_nil)))) (List.forall_mem_cons.mpr ⟨okS_of (by decide +kernel), (List.forall_mem_cons.mpr ⟨okS_of (by decide +kernel), (List.forall_mem_cons.mpr ⟨okS_of (by decide +kernel), (List.forall_mem_cons.mpr ⟨okS_of (by decide +kernel), (fun _ h => nomatch h)⟩)⟩)⟩)⟩)) (j_g sc_l_due.nd))
    (s_cons (s_ite (PW.pt (w_or (t_not (t_val rfl rfl (j_bi (.isi) hr T.n_isinstance (a_cons rfl j_var (a_cons rfl (c_gT (n := "tuple") T.n_tuple (by decide +kernel)) a_nil))))) (w_or (t_cmp (op := .eq) rfl hr rfl j_var (i_tup a_nil)) (pw_or1 (t_not (t_val rfl rfl (j_bi (.isi) hr T.n_isinstance (a_cons rfl (i_idx rfl rfl j_var c_int) (a_cons rfl (c_gT (n := "str") T.n_str (by decide +kernel)) a_nil)))))))))
      (s_cons (s_ret c_int)
    s_nil)
      s_nil)
    (s_cons (s_ite (t_cmp (op := .ne) rfl hr rfl (i_dget2 hr j_var (i_idx rfl rfl j_var c_int) c_int ⟨by rfl, by rfl, rfl, by rfl⟩) (j_bi (.len) hr T.n_len (a_cons rfl j_var a_nil)))
      (s_cons (s_ret c_int)
    s_nil)
      s_nil)
    (s_cons (s_ite (t_cmp (op := .eq) rfl hr rfl (i_idx rfl rfl j_var c_int) (c_str (okS_of (by decide +kernel))))
      (s_cons (s_ret (i_ife (t_val rfl rfl (j_call (ies := [(.var 0), (.idx (.var 1) (.con (.int 1)))]) (iks := []) (ks := []) (arr := [.a 0, .a 1]) A.f_l_is_ask T.m_l_is_ask tk hr _ rfl (a_cons rfl j_var (a_cons rfl (i_idx rfl rfl j_var c_int) a_nil)) k_nil (.head _))) c_non c_int))
    s_nil)
      s_nil)
    (s_cons (s_ite (t_cmp (op := .eq) rfl hr rfl (i_idx rfl rfl j_var c_int) (c_str (okS_of (by decide +kernel))))
      (s_cons (s_ite (PW.pt (w_or (t_not (t_val rfl rfl (j_bi (.isi) hr T.n_isinstance (a_cons rfl (i_idx rfl rfl j_var c_int) (a_cons rfl (c_gT (n := "tuple") T.n_tuple (by decide +kernel)) a_nil))))) (pw_or1 (t_cmp (op := .ne) rfl hr rfl (j_bi (.len) hr T.n_len (a_cons rfl (i_idx rfl rfl j_var c_int) a_nil)) (j_bi (.len) hr T.n_len (a_cons rfl (i_untup j_var) a_nil))))))
      (s_cons (s_ret c_int)
    s_nil)
      s_nil)
    (s_cons (s_setLc (i := 3) (own := [("_law_one", 4), ("_law_value_here", 5)]) rfl sc_l_due.nd rfl rfl (sw_true rfl rfl rfl (by decide +kernel)) rfl (w_zipw rfl T.n_zip rfl rfl (a_cons rfl (i_untup j_var) (a_cons rfl (i_idx rfl rfl j_var c_int) a_nil))) (blkOk_by (by kernel_rfl)) (fun _ _ _ _ _ => (g_tupw rfl rfl rfl (gs_cons rfl (j_g sc_l_due.nd) (gs_cons rfl (j_g sc_l_due.nd) gs_nil)))) (fun _ _ _ _ _ => ifs_nil) (fun _ _ _ _ _ => (j_call (ies := [(.idx (.var 4) (.con (.int 1))), (.var 5)]) (iks := []) (ks := []) (arr := [.a 0, .a 1]) A.f_l_is_value T.m_l_is_value takes0 hr _ rfl (a_cons rfl (i_idx rfl rfl j_var c_int) (a_cons rfl j_var a_nil)) k_nil (.head _))))
    (s_cons (s_ret (i_ife (t_val rfl rfl (j_bi (.all) hr T.n_all (a_cons rfl j_var a_nil))) c_non c_int))
    s_nil)))
      s_nil)
    (s_cons (s_ite (t_not (t_val rfl rfl (j_call (ies := [(.var 0), (.idx (.var 1) (.con (.int 1)))]) (iks := []) (ks := []) (arr := [.a 0, .a 1]) A.f_l_are_conditions T.m_l_are_conditions tk hr _ rfl (a_cons rfl j_var (a_cons rfl (i_idx rfl rfl j_var c_int) a_nil)) k_nil (.head _))))
      (s_cons (s_ret c_int)
    s_nil)
      s_nil)
    (s_cons (s_ite (t_cmp (op := .eq) rfl hr rfl (i_idx rfl rfl j_var c_int) (c_str (okS_of (by decide +kernel))))
      (s_cons (s_ret c_non)
    s_nil)
      s_nil)
    (s_cons (s_ite (PW.pt (w_or (t_not (t_val rfl rfl (j_bi (.isi) hr T.n_isinstance (a_cons rfl (i_idx rfl rfl j_var c_int) (a_cons rfl (c_gT (n := "str") T.n_str (by decide +kernel)) a_nil))))) (pw_or1 (t_din (neg := true) hr rfl (i_idx rfl rfl j_var c_int) (i_dpairsT rfl (by rfl) (by rfl) T.n_dict rfl (a_cons rfl j_var a_nil))))))
      (s_cons (s_ret c_int)
    s_nil)
      s_nil)
    (s_cons (s_ret (i_ife (t_val rfl rfl (j_call (ies := [(.didx (.dpairsT (.var 0)) (.idx (.var 1) (.con (.int 2)))), (.idx (.var 1) (.con (.int 3)))]) (iks := []) (ks := []) (arr := [.a 0, .a 1]) A.f_l_is_value T.m_l_is_value tk hr _ rfl (a_cons rfl (i_didx hr rfl (i_dpairsT rfl (by rfl) (by rfl) T.n_dict rfl (a_cons rfl j_var a_nil)) (i_idx rfl rfl j_var c_int)) (a_cons rfl (i_idx rfl rfl j_var c_int) a_nil)) k_nil (.head _))) c_non c_int))
    s_nil)))))))))
theorem b_l_bent (T : Txt w K mg) {k : Nat} (A : All P w K mg base k) {cdv : Value} {C : Around} {outer : List PySem.Env} {s : Shared} {H : Hp} {E : XK} (hr : Room (2 * k + 3) (C.deeper (envOfC "_law_bent" (defScope s_l_bent) s.heap.objs.size (He.ga K "_law_bent") cdv))) :
    PSs (cxOf (L2.CX P w) P w K mg base ["_law_bag_here", "_law_names", "_law_given", "_law_way", "_law_at", "_law_some_here", "_law_new"] "_law_bent" (defScope s_l_bent) (He.ga K "_law_bent") cdv C outer s H E) (defBody s_l_bent) (tS (gs K) (fun c d _ H => E c d H) (exs (callN Tb k) p_l_bent)) := by
  have tk : Takes (cxOf (L2.CX P w) P w K mg base ["_law_bag_here", "_law_names", "_law_given", "_law_way", "_law_at", "_law_some_here", "_law_new"] "_law_bent" (defScope s_l_bent) (He.ga K "_law_bent") cdv C outer s H E) (fun c d _ H => E c d H) := takes_of rfl rfl rfl rfl
  have pp : PassesOwn (model (cxOf (L2.CX P w) P w K mg base ["_law_bag_here", "_law_names", "_law_given", "_law_way", "_law_at", "_law_some_here", "_law_new"] "_law_bent" (defScope s_l_bent) (He.ga K "_law_bent") cdv C outer s H E).prog (cxOf (L2.CX P w) P w K mg base ["_law_bag_here", "_law_names", "_law_given", "_law_way", "_law_at", "_law_some_here", "_law_new"] "_law_bent" (defScope s_l_bent) (He.ga K "_law_bent") cdv C outer s H E).w) (cxOf (L2.CX P w) P w K mg base ["_law_bag_here", "_law_names", "_law_given", "_law_way", "_law_at", "_law_some_here", "_law_new"] "_law_bent" (defScope s_l_bent) (He.ga K "_law_bent") cdv C outer s H E).A (cxOf (L2.CX P w) P w K mg base ["_law_bag_here", "_law_names", "_law_given", "_law_way", "_law_at", "_law_some_here", "_law_new"] "_law_bent" (defScope s_l_bent) (He.ga K "_law_bent") cdv C outer s H E).env (cxOf (L2.CX P w) P w K mg base ["_law_bag_here", "_law_names", "_law_given", "_law_way", "_law_at", "_law_some_here", "_law_new"] "_law_bent" (defScope s_l_bent) (He.ga K "_law_bent") cdv C outer s H E).xe := passes_of rfl
  exact (s_cons (s_ite (PW.pt (w_or (t_not (t_val rfl rfl (j_bi (.isi) hr T.n_isinstance (a_cons rfl j_var (a_cons rfl (c_gT (n := "tuple") T.n_tuple (by decide +kernel)) a_nil))))) (w_or (t_cmp (op := .eq) rfl hr rfl j_var (i_tup a_nil)) (pw_or1 (t_cmp (op := .eq) rfl hr rfl (j_call (ies := [(.var 0), (.con (.int 9))]) (iks := []) (ks := []) (arr := [.a 0, .a 1]) A.f_l_take T.m_l_take tk hr _ rfl (a_cons rfl j_var (a_cons rfl c_int a_nil)) k_nil (.head _)) c_int)))))
      (s_cons (s_ret (j_call (ies := [(.var 0), (.var 1)]) (iks := []) (ks := []) (arr := [.a 0, .a 1]) A.f_l_any T.m_l_any tk hr _ rfl (a_cons rfl j_var (a_cons rfl j_var a_nil)) k_nil (.head _)))
    s_nil)
      s_nil)
    (s_cons (s_par2 (i := 3) (j := 4) sc_l_bent.nd (a_cons rfl (j_call (ies := [(.var 0), (.con (.int 8))]) (iks := []) (ks := []) (arr := [.a 0, .a 1]) A.f_l_take T.m_l_take tk hr _ rfl (a_cons rfl j_var (a_cons rfl c_int a_nil)) k_nil (.head _)) (a_cons rfl (j_call (ies := [(.var 0), (.bi (.len) [(.var 2)])]) (iks := []) (ks := []) (arr := [.a 0, .a 1]) A.f_l_take T.m_l_take tk hr _ rfl (a_cons rfl j_var (a_cons rfl (j_bi (.len) hr T.n_len (a_cons rfl j_var a_nil)) a_nil)) k_nil (.head _)) a_nil)))
    (s_cons (s_ite (t_cmp (op := .eq) rfl hr rfl j_var c_int)
      (s_cons (j_asg [5] (i_lst (a_cons rfl (j_bi (.list1 false) hr T.n_list (a_cons rfl j_var a_nil)) (a_cons rfl (i_bin (op := .add) rfl (i_slc rfl j_var p_none (p_some j_var)) (i_slc rfl j_var (p_some (i_bin (op := .add) rfl j_var c_int)) p_none)) a_nil))) (j_g sc_l_bent.nd))
    (s_cons (s_ret (i_idx rfl rfl (i_bin (op := .add) rfl j_var (i_lst (a_cons rfl (i_bin (op := .add) rfl j_var (i_slc rfl j_var (p_some j_var) (p_some (i_bin (op := .add) rfl j_var c_int)))) a_nil))) (j_call (ies := [(.var 0), (.con (.int 3))]) (iks := []) (ks := []) (arr := [.a 0, .a 1]) A.f_l_take T.m_l_take tk hr _ rfl (a_cons rfl j_var (a_cons rfl c_int a_nil)) k_nil (.head _))))
    s_nil))
      s_nil)
    (s_cons (s_ite (PW.pt (w_and (t_cmp (op := .eq) rfl hr rfl j_var c_int) (pw_and1 (t_val rfl rfl (j_bi (.isi) hr T.n_isinstance (a_cons rfl (i_idx rfl rfl j_var c_int) (a_cons rfl (c_gT (n := "str") T.n_str (by decide +kernel)) a_nil)))))))
      (s_cons (s_ret (i_bin (op := .add) rfl (i_tup (a_cons rfl (i_idx rfl rfl (i_tup (a_cons rfl (c_str (okS_of (by decide +kernel))) (a_cons rfl (c_str (okS_of (by decide +kernel))) (a_cons rfl (c_str (okS_of (by decide +kernel))) (a_cons rfl (c_str (okS_of (by decide +kernel))) (a_cons rfl (c_str (okS_of (by decide +kernel))) (a_cons rfl (c_str (okS_of (by decide +kernel))) a_nil))))))) (j_call (ies := [(.var 0), (.con (.int 6))]) (iks := []) (ks := []) (arr := [.a 0, .a 1]) A.f_l_take T.m_l_take tk hr _ rfl (a_cons rfl j_var (a_cons rfl c_int a_nil)) k_nil (.head _))) a_nil)) (i_slc rfl j_var (p_some c_int) p_none)))
    s_nil)
      s_nil)
    (s_cons (j_asg [6] (j_call (ies := [(.var 0), (.var 1), (.idx (.var 2) (.var 4))]) (iks := []) (ks := []) (arr := [.a 0, .a 1, .a 2]) A.f_l_bent T.m_l_bent tk hr _ rfl (a_cons rfl j_var (a_cons rfl j_var (a_cons rfl (i_idx rfl rfl j_var j_var) a_nil))) k_nil (.head _)) (j_g sc_l_bent.nd))
    (s_cons (s_ret (i_bin (op := .add) rfl (i_bin (op := .add) rfl (i_slc rfl j_var p_none (p_some j_var)) (i_tup (a_cons rfl j_var a_nil))) (i_slc rfl j_var (p_some (i_bin (op := .add) rfl j_var c_int)) p_none)))
    s_nil))))))
theorem b_l_copied (T : Txt w K mg) {k : Nat} (A : All P w K mg base k) {cdv : Value} {C : Around} {outer : List PySem.Env} {s : Shared} {H : Hp} {E : XK} (hr : Room (2 * k + 3) (C.deeper (envOfC "_law_copied" (defScope s_l_copied) s.heap.objs.size (He.ga K "_law_copied") cdv))) :
    PSs (cxOf (L2.CX P w) P w K mg base ["_law_given", "_law_one"] "_law_copied" (defScope s_l_copied) (He.ga K "_law_copied") cdv C outer s H E) (defBody s_l_copied) (tS (gs K) (fun c d _ H => E c d H) (exs (callN Tb k) p_l_copied)) := by
  have tk : Takes (cxOf (L2.CX P w) P w K mg base ["_law_given", "_law_one"] "_law_copied" (defScope s_l_copied) (He.ga K "_law_copied") cdv C outer s H E) (fun c d _ H => E c d H) := takes_of rfl rfl rfl rfl
  have pp : PassesOwn (model (cxOf (L2.CX P w) P w K mg base ["_law_given", "_law_one"] "_law_copied" (defScope s_l_copied) (He.ga K "_law_copied") cdv C outer s H E).prog (cxOf (L2.CX P w) P w K mg base ["_law_given", "_law_one"] "_law_copied" (defScope s_l_copied) (He.ga K "_law_copied") cdv C outer s H E).w) (cxOf (L2.CX P w) P w K mg base ["_law_given", "_law_one"] "_law_copied" (defScope s_l_copied) (He.ga K "_law_copied") cdv C outer s H E).A (cxOf (L2.CX P w) P w K mg base ["_law_given", "_law_one"] "_law_copied" (defScope s_l_copied) (He.ga K "_law_copied") cdv C outer s H E).env (cxOf (L2.CX P w) P w K mg base ["_law_given", "_law_one"] "_law_copied" (defScope s_l_copied) (He.ga K "_law_copied") cdv C outer s H E).xe := passes_of rfl
  exact (s_cons (s_ite (t_val rfl rfl (j_bi (.isi) hr T.n_isinstance (a_cons rfl j_var (a_cons rfl (c_gT (n := "tuple") T.n_tuple (by decide +kernel)) a_nil))))
      (s_cons (s_ret (j_bi (.tuple1) hr T.n_tuple (a_cons rfl (i_lc (own := [("_law_one", 1)]) rfl sc_l_copied.nd rfl (w_e rfl j_var) (blkOk_by (by kernel_rfl)) (fun _ _ _ _ _ => (j_g sc_l_copied.nd)) (fun _ _ _ _ _ => ifs_nil) (fun _ _ _ _ _ => (j_call (ies := [(.var 1)]) (iks := []) (ks := []) (arr := [.a 0]) A.f_l_copied T.m_l_copied takes0 hr _ rfl (a_cons rfl j_var a_nil) k_nil (.head _)))) a_nil)))
    s_nil)
      s_nil)
    (s_cons (s_ret (i_ife (t_val rfl rfl (j_bi (.isi) hr T.n_isinstance (a_cons rfl j_var (a_cons rfl (c_gT (n := "list") T.n_list (by decide +kernel)) a_nil)))) (i_lc (own := [("_law_one", 1)]) rfl sc_l_copied.nd rfl (w_e rfl j_var) (blkOk_by (by kernel_rfl)) (fun _ _ _ _ _ => (j_g sc_l_copied.nd)) (fun _ _ _ _ _ => ifs_nil) (fun _ _ _ _ _ => (j_call (ies := [(.var 1)]) (iks := []) (ks := []) (arr := [.a 0]) A.f_l_copied T.m_l_copied takes0 hr _ rfl (a_cons rfl j_var a_nil) k_nil (.head _)))) j_var))
    s_nil))
theorem b_law (T : Txt w K mg) {k : Nat} (A : All P w K mg base k) {cdv : Value} {C : Around} {outer : List PySem.Env} {s : Shared} {H : Hp} {E : XK} (hr : Room (2 * k + 3) (C.deeper (envOfC "law" (defScope s_law) s.heap.objs.size (He.ga K "law") cdv))) :
    PSs (cxOf (L2.CX P w) P w K mg base ["_law_script", "_law_k", "_law_bag_here", "_law_sort_of", "_law_names", "_law_given", "_law_turn", "_law_handed", "_law_due_here", "_law_told", "_law_name", "_law_kind", "_law_one"] "law" (defScope s_law) (He.ga K "law") cdv C outer s H E) (defBody s_law) (tS (gs K) (fun c d _ H => E c d H) (exs (callN Tb k) p_law)) := by
  have tk : Takes (cxOf (L2.CX P w) P w K mg base ["_law_script", "_law_k", "_law_bag_here", "_law_sort_of", "_law_names", "_law_given", "_law_turn", "_law_handed", "_law_due_here", "_law_told", "_law_name", "_law_kind", "_law_one"] "law" (defScope s_law) (He.ga K "law") cdv C outer s H E) (fun c d _ H => E c d H) := takes_of rfl rfl rfl rfl
  have pp : PassesOwn (model (cxOf (L2.CX P w) P w K mg base ["_law_script", "_law_k", "_law_bag_here", "_law_sort_of", "_law_names", "_law_given", "_law_turn", "_law_handed", "_law_due_here", "_law_told", "_law_name", "_law_kind", "_law_one"] "law" (defScope s_law) (He.ga K "law") cdv C outer s H E).prog (cxOf (L2.CX P w) P w K mg base ["_law_script", "_law_k", "_law_bag_here", "_law_sort_of", "_law_names", "_law_given", "_law_turn", "_law_handed", "_law_due_here", "_law_told", "_law_name", "_law_kind", "_law_one"] "law" (defScope s_law) (He.ga K "law") cdv C outer s H E).w) (cxOf (L2.CX P w) P w K mg base ["_law_script", "_law_k", "_law_bag_here", "_law_sort_of", "_law_names", "_law_given", "_law_turn", "_law_handed", "_law_due_here", "_law_told", "_law_name", "_law_kind", "_law_one"] "law" (defScope s_law) (He.ga K "law") cdv C outer s H E).A (cxOf (L2.CX P w) P w K mg base ["_law_script", "_law_k", "_law_bag_here", "_law_sort_of", "_law_names", "_law_given", "_law_turn", "_law_handed", "_law_due_here", "_law_told", "_law_name", "_law_kind", "_law_one"] "law" (defScope s_law) (He.ga K "law") cdv C outer s H E).env (cxOf (L2.CX P w) P w K mg base ["_law_script", "_law_k", "_law_bag_here", "_law_sort_of", "_law_names", "_law_given", "_law_turn", "_law_handed", "_law_due_here", "_law_told", "_law_name", "_law_kind", "_law_one"] "law" (defScope s_law) (He.ga K "law") cdv C outer s H E).xe := passes_of rfl
  exact (s_cons (s_for pp rfl rfl (w_rng1 (by rfl) T.n_range rfl (a_cons rfl (j_bi (.max2) hr T.n_max (a_cons rfl c_int (a_cons rfl (j_bi (.min2) hr T.n_min (a_cons rfl c_int (a_cons rfl (j_bi (.len) hr T.n_len (a_cons rfl j_var a_nil)) a_nil))) a_nil))) a_nil)) (g_any (vs := [1]) (j_g sc_law.nd))
      (s_cons (j_asg [2] (j_call (ies := [(.var 0), (.var 1)]) (iks := []) (ks := []) (arr := [.a 0, .a 1]) A.f_l_bag T.m_l_bag tk hr _ rfl (a_cons rfl j_var (a_cons rfl j_var a_nil)) k_nil (.head _)) (j_g sc_law.nd))
    (s_cons (j_asg [3] (j_call (ies := [(.var 2)]) (iks := []) (ks := []) (arr := [.a 0]) A.f_l_form T.m_l_form tk hr _ rfl (a_cons rfl j_var a_nil) k_nil (.head _)) (j_g sc_law.nd))
    (s_cons (s_setLc (i := 4) (own := [("_law_name", 10), ("_law_kind", 11)]) rfl sc_law.nd rfl rfl (sw_true rfl rfl rfl (by decide +kernel)) rfl (w_e rfl (i_untup j_var)) (blkOk_by (by kernel_rfl)) (fun _ _ _ _ _ => (g_tup rfl rfl rfl rfl (gs_cons rfl (j_g sc_law.nd) (gs_cons rfl (j_g sc_law.nd) gs_nil)))) (fun _ _ _ _ _ => ifs_nil) (fun _ _ _ _ _ => j_var))
    (s_cons (j_asg [5] (j_call (ies := [(.var 2), (.ddisp [.inr "form", .inr "pool"] [(.untup (.var 3)), (.idx (.tup [(.con (.int 2)), (.con (.int 9)), (.con (.int 40))]) (.call 15 [.a 0, .a 1] [(.var 2), (.con (.int 3))]))])]) (iks := []) (ks := []) (arr := [.a 0, .a 1]) A.f_l_edit T.m_l_edit tk hr _ rfl (a_cons rfl j_var (a_cons rfl (i_ddisp (pps_cons pe_keyS (i_untup j_var) (pps_cons pe_keyS (i_idx rfl rfl (i_tup (a_cons rfl c_int (a_cons rfl c_int (a_cons rfl c_int a_nil)))) (j_call (ies := [(.var 2), (.con (.int 3))]) (iks := []) (ks := []) (arr := [.a 0, .a 1]) A.f_l_take T.m_l_take tk hr _ rfl (a_cons rfl j_var (a_cons rfl c_int a_nil)) k_nil (.head _))) pps_nil)) (List.forall_mem_cons.mpr ⟨okS_of (by decide +kernel), (List.forall_mem_cons.mpr ⟨okS_of (by decide +kernel), (fun _ h => nomatch h)⟩)⟩)) a_nil)) k_nil (.head _)) (j_g sc_law.nd))
    (s_cons (s_for pp rfl rfl (w_rng1 (by rfl) T.n_range rfl (a_cons rfl c_int a_nil)) (g_any (vs := [6]) (j_g sc_law.nd))
      (s_cons (s_par2 (i := 7) (j := 8) sc_law.nd (a_cons rfl (j_call (ies := [(.var 5)]) (iks := []) (ks := []) (arr := [.a 0]) A.f_l_copied T.m_l_copied tk hr _ rfl (a_cons rfl j_var a_nil) k_nil (.head _)) (a_cons rfl (j_call (ies := [(.var 3), (.var 5)]) (iks := []) (ks := []) (arr := [.a 0, .a 1]) A.f_l_due T.m_l_due tk hr _ rfl (a_cons rfl j_var (a_cons rfl j_var a_nil)) k_nil (.head _)) a_nil)))
    (s_cons (j_asg [9] (i_lst (a_cons rfl (j_call (ies := [(.untup (.var 3)), (.var 7)]) (iks := []) (ks := []) (arr := [.a 0, .a 1]) A.f_item_fault T.m_item_fault tk hr _ rfl (a_cons rfl (i_untup j_var) (a_cons rfl j_var a_nil)) k_nil (.head _)) (a_cons rfl (j_call (ies := []) (iks := [(.var 7), (.untup (.var 3))]) (ks := ["thing", "form"]) (arr := [.a 1, .a 0]) A.f_item_fault T.m_item_fault tk hr _ rfl a_nil (k_cons j_var (k_cons (i_untup j_var) k_nil)) (.tail _ (.head _))) a_nil))) (j_g sc_law.nd))
    (s_cons (s_ite (PW.pt (w_or (t_cmp (op := .ne) rfl hr rfl j_var (i_lst (a_cons rfl j_var (a_cons rfl j_var a_nil)))) (w_or (t_cmp (op := .ne) rfl hr rfl j_var j_var) (pw_or1 (t_val rfl rfl (j_bi (.any) hr T.n_any (a_cons rfl (i_lc (own := [("_law_one", 12)]) rfl sc_law.nd rfl (w_e rfl j_var) (blkOk_by (by kernel_rfl)) (fun _ _ _ _ _ => (j_g sc_law.nd)) (fun _ _ _ _ _ => ifs_nil) (fun _ _ _ _ _ => (j_bi (.isi) hr T.n_isinstance (a_cons rfl j_var (a_cons rfl (c_gT (n := "bool") T.n_bool (by decide +kernel)) a_nil))))) a_nil)))))))
      (s_cons (s_ret c_bl)
    s_nil)
      s_nil)
    (s_cons (s_ite (t_cmp (op := .gt) rfl hr rfl j_var c_int)
      (s_cons (j_asg [5] (j_call (ies := [(.var 2), (.ddisp [.inr "form", .inr "pool"] [(.untup (.var 3)), (.con (.int 9))])]) (iks := []) (ks := []) (arr := [.a 0, .a 1]) A.f_l_edit T.m_l_edit tk hr _ rfl (a_cons rfl j_var (a_cons rfl (i_ddisp (pps_cons pe_keyS (i_untup j_var) (pps_cons pe_keyS c_int pps_nil)) (List.forall_mem_cons.mpr ⟨okS_of (by decide +kernel), (List.forall_mem_cons.mpr ⟨okS_of (by decide +kernel), (fun _ h => nomatch h)⟩)⟩)) a_nil)) k_nil (.head _)) (j_g sc_law.nd))
    s_nil)
      s_nil)
    (s_cons (s_ite (t_cmp (op := .lt) rfl hr rfl j_var c_int)
      (s_cons (j_asg [5] (j_call (ies := [(.var 2), (.var 4), (.var 5)]) (iks := []) (ks := []) (arr := [.a 0, .a 1, .a 2]) A.f_l_bent T.m_l_bent tk hr _ rfl (a_cons rfl j_var (a_cons rfl j_var (a_cons rfl j_var a_nil))) k_nil (.head _)) (j_g sc_law.nd))
    s_nil)
      s_nil)
    s_nil))))))
    s_nil))))))
    (s_cons (s_ret c_bl)
    s_nil))
theorem all_ok (T : Txt w K mg) : ∀ k, All P w K mg base k
  | 0 => ⟨let ⟨fd, F⟩ := T.d_is_whole; ⟨fd, ["thing", "low", "high"], fn_zero F sc_is_whole, sgs_is_whole T F, F.kp⟩,
    let ⟨fd, F⟩ := T.d_is_word; ⟨fd, ["thing"], fn_zero F sc_is_word, sgs_is_word T F, F.kp⟩,
    let ⟨fd, F⟩ := T.d_is_one_of; ⟨fd, ["thing", "texts"], fn_zero F sc_is_one_of, sgs_is_one_of T F, F.kp⟩,
    let ⟨fd, F⟩ := T.d_is_tuple_of; ⟨fd, ["thing", "least", "most"], fn_zero F sc_is_tuple_of, sgs_is_tuple_of T F, F.kp⟩,
    let ⟨fd, F⟩ := T.d_is_value; ⟨fd, ["kind", "thing"], fn_zero F sc_is_value, sgs_is_value T F, F.kp⟩,
    let ⟨fd, F⟩ := T.d_is_row; ⟨fd, ["form", "thing"], fn_zero F sc_is_row, sgs_is_row T F, F.kp⟩,
    let ⟨fd, F⟩ := T.d_names_of; ⟨fd, ["form"], fn_zero F sc_names_of, sgs_names_of T F, F.kp⟩,
    let ⟨fd, F⟩ := T.d_are_columns; ⟨fd, ["form", "thing", "least", "most"], fn_zero F sc_are_columns, sgs_are_columns T F, F.kp⟩,
    let ⟨fd, F⟩ := T.d_is_bound; ⟨fd, ["kind", "thing"], fn_zero F sc_is_bound, sgs_is_bound T F, F.kp⟩,
    let ⟨fd, F⟩ := T.d_is_condition; ⟨fd, ["form", "thing"], fn_zero F sc_is_condition, sgs_is_condition T F, F.kp⟩,
    let ⟨fd, F⟩ := T.d_are_conditions; ⟨fd, ["form", "thing"], fn_zero F sc_are_conditions, sgs_are_conditions T F, F.kp⟩,
    let ⟨fd, F⟩ := T.d_ask_fault; ⟨fd, ["form", "thing"], fn_zero F sc_ask_fault, sgs_ask_fault T F, F.kp⟩,
    let ⟨fd, F⟩ := T.d_item_fault; ⟨fd, ["form", "thing"], fn_zero F sc_item_fault, sgs_item_fault T F, F.kp⟩,
    let ⟨fd, F⟩ := T.d_value_fault; ⟨fd, ["form", "column", "value"], fn_zero F sc_value_fault, sgs_value_fault T F, F.kp⟩,
    let ⟨fd, F⟩ := T.d_l_bag; ⟨fd, ["_law_script", "_law_at"], fn_zero F sc_l_bag, sgs_l_bag T F, F.kp⟩,
    let ⟨fd, F⟩ := T.d_l_take; ⟨fd, ["_law_bag_here", "_law_many"], fn_zero F sc_l_take, sgs_l_take T F, F.kp⟩,
    let ⟨fd, F⟩ := T.d_l_form; ⟨fd, ["_law_bag_here"], fn_zero F sc_l_form, sgs_l_form T F, F.kp⟩,
    let ⟨fd, F⟩ := T.d_l_value; ⟨fd, ["_law_bag_here", "_law_kind", "_law_pool"], fn_zero F sc_l_value, sgs_l_value T F, F.kp⟩,
    let ⟨fd, F⟩ := T.d_l_some; ⟨fd, ["_law_bag_here", "_law_names", "_law_few", "_law_most"], fn_zero F sc_l_some, sgs_l_some T F, F.kp⟩,
    let ⟨fd, F⟩ := T.d_l_conditions; ⟨fd, ["_law_bag_here", "_law_sort_of", "_law_pool"], fn_zero F sc_l_conditions, sgs_l_conditions T F, F.kp⟩,
    let ⟨fd, F⟩ := T.d_l_ask; ⟨fd, ["_law_bag_here", "_law_sort_of", "_law_pool"], fn_zero F sc_l_ask, sgs_l_ask T F, F.kp⟩,
    let ⟨fd, F⟩ := T.d_l_edit; ⟨fd, ["_law_bag_here", "_law_know"], fn_zero F sc_l_edit, sgs_l_edit T F, F.kp⟩,
    let ⟨fd, F⟩ := T.d_l_any; ⟨fd, ["_law_bag_here", "_law_names"], fn_zero F sc_l_any, sgs_l_any T F, F.kp⟩,
    let ⟨fd, F⟩ := T.d_l_is_value; ⟨fd, ["_law_kind", "_law_given"], fn_zero F sc_l_is_value, sgs_l_is_value T F, F.kp⟩,
    let ⟨fd, F⟩ := T.d_l_are_columns; ⟨fd, ["_law_names", "_law_given", "_law_few", "_law_most"], fn_zero F sc_l_are_columns, sgs_l_are_columns T F, F.kp⟩,
    let ⟨fd, F⟩ := T.d_l_are_conditions; ⟨fd, ["_law_sort_of", "_law_given"], fn_zero F sc_l_are_conditions, sgs_l_are_conditions T F, F.kp⟩,
    let ⟨fd, F⟩ := T.d_l_is_ask; ⟨fd, ["_law_sort_of", "_law_given"], fn_zero F sc_l_is_ask, sgs_l_is_ask T F, F.kp⟩,
    let ⟨fd, F⟩ := T.d_l_due; ⟨fd, ["_law_sort_of", "_law_given"], fn_zero F sc_l_due, sgs_l_due T F, F.kp⟩,
    let ⟨fd, F⟩ := T.d_l_bent; ⟨fd, ["_law_bag_here", "_law_names", "_law_given"], fn_zero F sc_l_bent, sgs_l_bent T F, F.kp⟩,
    let ⟨fd, F⟩ := T.d_l_copied; ⟨fd, ["_law_given"], fn_zero F sc_l_copied, sgs_l_copied T F, F.kp⟩,
    let ⟨fd, F⟩ := T.d_law; ⟨fd, ["_law_script"], fn_zero F sc_law, sgs_law T F, F.kp⟩⟩
  | k + 1 => ⟨let ⟨fd, F⟩ := T.d_is_whole; ⟨fd, ["thing", "low", "high"], fn_step (j := 2 * k + 3) (k := k) rfl F sc_is_whole fun _ _ _ _ _ _ hr => b_is_whole T (all_ok T k) hr, sgs_is_whole T F, F.kp⟩,
    let ⟨fd, F⟩ := T.d_is_word; ⟨fd, ["thing"], fn_step (j := 2 * k + 3) (k := k) rfl F sc_is_word fun _ _ _ _ _ _ hr => b_is_word T (all_ok T k) hr, sgs_is_word T F, F.kp⟩,
    let ⟨fd, F⟩ := T.d_is_one_of; ⟨fd, ["thing", "texts"], fn_step (j := 2 * k + 3) (k := k) rfl F sc_is_one_of fun _ _ _ _ _ _ hr => b_is_one_of T (all_ok T k) hr, sgs_is_one_of T F, F.kp⟩,
    let ⟨fd, F⟩ := T.d_is_tuple_of; ⟨fd, ["thing", "least", "most"], fn_step (j := 2 * k + 3) (k := k) rfl F sc_is_tuple_of fun _ _ _ _ _ _ hr => b_is_tuple_of T (all_ok T k) hr, sgs_is_tuple_of T F, F.kp⟩,
    let ⟨fd, F⟩ := T.d_is_value; ⟨fd, ["kind", "thing"], fn_step (j := 2 * k + 3) (k := k) rfl F sc_is_value fun _ _ _ _ _ _ hr => b_is_value T (all_ok T k) hr, sgs_is_value T F, F.kp⟩,
    let ⟨fd, F⟩ := T.d_is_row; ⟨fd, ["form", "thing"], fn_step (j := 2 * k + 3) (k := k) rfl F sc_is_row fun _ _ _ _ _ _ hr => b_is_row T (all_ok T k) hr, sgs_is_row T F, F.kp⟩,
    let ⟨fd, F⟩ := T.d_names_of; ⟨fd, ["form"], fn_step (j := 2 * k + 3) (k := k) rfl F sc_names_of fun _ _ _ _ _ _ hr => b_names_of T (all_ok T k) hr, sgs_names_of T F, F.kp⟩,
    let ⟨fd, F⟩ := T.d_are_columns; ⟨fd, ["form", "thing", "least", "most"], fn_step (j := 2 * k + 3) (k := k) rfl F sc_are_columns fun _ _ _ _ _ _ hr => b_are_columns T (all_ok T k) hr, sgs_are_columns T F, F.kp⟩,
    let ⟨fd, F⟩ := T.d_is_bound; ⟨fd, ["kind", "thing"], fn_step (j := 2 * k + 3) (k := k) rfl F sc_is_bound fun _ _ _ _ _ _ hr => b_is_bound T (all_ok T k) hr, sgs_is_bound T F, F.kp⟩,
    let ⟨fd, F⟩ := T.d_is_condition; ⟨fd, ["form", "thing"], fn_step (j := 2 * k + 3) (k := k) rfl F sc_is_condition fun _ _ _ _ _ _ hr => b_is_condition T (all_ok T k) hr, sgs_is_condition T F, F.kp⟩,
    let ⟨fd, F⟩ := T.d_are_conditions; ⟨fd, ["form", "thing"], fn_step (j := 2 * k + 3) (k := k) rfl F sc_are_conditions fun _ _ _ _ _ _ hr => b_are_conditions T (all_ok T k) hr, sgs_are_conditions T F, F.kp⟩,
    let ⟨fd, F⟩ := T.d_ask_fault; ⟨fd, ["form", "thing"], fn_step (j := 2 * k + 3) (k := k) rfl F sc_ask_fault fun _ _ _ _ _ _ hr => b_ask_fault T (all_ok T k) hr, sgs_ask_fault T F, F.kp⟩,
    let ⟨fd, F⟩ := T.d_item_fault; ⟨fd, ["form", "thing"], fn_step (j := 2 * k + 3) (k := k) rfl F sc_item_fault fun _ _ _ _ _ _ hr => b_item_fault T (all_ok T k) hr, sgs_item_fault T F, F.kp⟩,
    let ⟨fd, F⟩ := T.d_value_fault; ⟨fd, ["form", "column", "value"], fn_step (j := 2 * k + 3) (k := k) rfl F sc_value_fault fun _ _ _ _ _ _ hr => b_value_fault T (all_ok T k) hr, sgs_value_fault T F, F.kp⟩,
    let ⟨fd, F⟩ := T.d_l_bag; ⟨fd, ["_law_script", "_law_at"], fn_step (j := 2 * k + 3) (k := k) rfl F sc_l_bag fun _ _ _ _ _ _ hr => b_l_bag T (all_ok T k) hr, sgs_l_bag T F, F.kp⟩,
    let ⟨fd, F⟩ := T.d_l_take; ⟨fd, ["_law_bag_here", "_law_many"], fn_step (j := 2 * k + 3) (k := k) rfl F sc_l_take fun _ _ _ _ _ _ hr => b_l_take T (all_ok T k) hr, sgs_l_take T F, F.kp⟩,
    let ⟨fd, F⟩ := T.d_l_form; ⟨fd, ["_law_bag_here"], fn_step (j := 2 * k + 3) (k := k) rfl F sc_l_form fun _ _ _ _ _ _ hr => b_l_form T (all_ok T k) hr, sgs_l_form T F, F.kp⟩,
    let ⟨fd, F⟩ := T.d_l_value; ⟨fd, ["_law_bag_here", "_law_kind", "_law_pool"], fn_step (j := 2 * k + 3) (k := k) rfl F sc_l_value fun _ _ _ _ _ _ hr => b_l_value T (all_ok T k) hr, sgs_l_value T F, F.kp⟩,
    let ⟨fd, F⟩ := T.d_l_some; ⟨fd, ["_law_bag_here", "_law_names", "_law_few", "_law_most"], fn_step (j := 2 * k + 3) (k := k) rfl F sc_l_some fun _ _ _ _ _ _ hr => b_l_some T (all_ok T k) hr, sgs_l_some T F, F.kp⟩,
    let ⟨fd, F⟩ := T.d_l_conditions; ⟨fd, ["_law_bag_here", "_law_sort_of", "_law_pool"], fn_step (j := 2 * k + 3) (k := k) rfl F sc_l_conditions fun _ _ _ _ _ _ hr => b_l_conditions T (all_ok T k) hr, sgs_l_conditions T F, F.kp⟩,
    let ⟨fd, F⟩ := T.d_l_ask; ⟨fd, ["_law_bag_here", "_law_sort_of", "_law_pool"], fn_step (j := 2 * k + 3) (k := k) rfl F sc_l_ask fun _ _ _ _ _ _ hr => b_l_ask T (all_ok T k) hr, sgs_l_ask T F, F.kp⟩,
    let ⟨fd, F⟩ := T.d_l_edit; ⟨fd, ["_law_bag_here", "_law_know"], fn_step (j := 2 * k + 3) (k := k) rfl F sc_l_edit fun _ _ _ _ _ _ hr => b_l_edit T (all_ok T k) hr, sgs_l_edit T F, F.kp⟩,
    let ⟨fd, F⟩ := T.d_l_any; ⟨fd, ["_law_bag_here", "_law_names"], fn_step (j := 2 * k + 3) (k := k) rfl F sc_l_any fun _ _ _ _ _ _ hr => b_l_any T (all_ok T k) hr, sgs_l_any T F, F.kp⟩,
    let ⟨fd, F⟩ := T.d_l_is_value; ⟨fd, ["_law_kind", "_law_given"], fn_step (j := 2 * k + 3) (k := k) rfl F sc_l_is_value fun _ _ _ _ _ _ hr => b_l_is_value T (all_ok T k) hr, sgs_l_is_value T F, F.kp⟩,
    let ⟨fd, F⟩ := T.d_l_are_columns; ⟨fd, ["_law_names", "_law_given", "_law_few", "_law_most"], fn_step (j := 2 * k + 3) (k := k) rfl F sc_l_are_columns fun _ _ _ _ _ _ hr => b_l_are_columns T (all_ok T k) hr, sgs_l_are_columns T F, F.kp⟩,
    let ⟨fd, F⟩ := T.d_l_are_conditions; ⟨fd, ["_law_sort_of", "_law_given"], fn_step (j := 2 * k + 3) (k := k) rfl F sc_l_are_conditions fun _ _ _ _ _ _ hr => b_l_are_conditions T (all_ok T k) hr, sgs_l_are_conditions T F, F.kp⟩,
    let ⟨fd, F⟩ := T.d_l_is_ask; ⟨fd, ["_law_sort_of", "_law_given"], fn_step (j := 2 * k + 3) (k := k) rfl F sc_l_is_ask fun _ _ _ _ _ _ hr => b_l_is_ask T (all_ok T k) hr, sgs_l_is_ask T F, F.kp⟩,
    let ⟨fd, F⟩ := T.d_l_due; ⟨fd, ["_law_sort_of", "_law_given"], fn_step (j := 2 * k + 3) (k := k) rfl F sc_l_due fun _ _ _ _ _ _ hr => b_l_due T (all_ok T k) hr, sgs_l_due T F, F.kp⟩,
    let ⟨fd, F⟩ := T.d_l_bent; ⟨fd, ["_law_bag_here", "_law_names", "_law_given"], fn_step (j := 2 * k + 3) (k := k) rfl F sc_l_bent fun _ _ _ _ _ _ hr => b_l_bent T (all_ok T k) hr, sgs_l_bent T F, F.kp⟩,
    let ⟨fd, F⟩ := T.d_l_copied; ⟨fd, ["_law_given"], fn_step (j := 2 * k + 3) (k := k) rfl F sc_l_copied fun _ _ _ _ _ _ hr => b_l_copied T (all_ok T k) hr, sgs_l_copied T F, F.kp⟩,
    let ⟨fd, F⟩ := T.d_law; ⟨fd, ["_law_script"], fn_step (j := 2 * k + 3) (k := k) rfl F sc_law fun _ _ _ _ _ _ hr => b_law T (all_ok T k) hr, sgs_law T F, F.kp⟩⟩
end
end Wk
namespace Wk
open PySem Iv
local macro_rules | `(tactic| and_intros) => `(tactic| repeat (first
  | with_reducible refine stp1 ?_
  | ((with_reducible apply r_var); (· exact rfl))
  | with_reducible refine (ru_sIte).mpr ?_
  | ((with_reducible apply r_callR); (· exact rfl))
  | ((with_reducible apply r_itet); (· first | exact rfl | assumption))
  | ((with_reducible apply r_itef); (· first | exact rfl | assumption))
  | ((with_reducible apply r_sz); (· exact rfl))
  | ((with_reducible apply r_at); (· assumption); (· exact rfl))
  | ((with_reducible apply r_atI); (· exact rfl))
  | ((with_reducible apply r_meth); (· assumption); (· exact rfl))
  | ((with_reducible apply r_methI); (· exact rfl))
  | ((with_reducible apply r_tupA); (· exact rfl); (· exact rfl))
  | ((with_reducible apply r_tupsA); (· exact rfl); (· rfl); (· exact rfl); (· exact rfl))
  | ((with_reducible apply r_aug); (· exact rfl))
  | ((with_reducible apply r_modI); (· first | assumption | omega))
  | ((with_reducible apply r_mulI); (· first | exact .inr (by decide) | exact .inl (by decide) | (unfold mulOk; omega)))
  | ((with_reducible apply r_divI); (· first | assumption | omega))
  | ((with_reducible apply r_addT); (· exact rfl))
  | ((with_reducible apply r_walkB); (· assumption))
  | ((with_reducible apply r_enumB); (· assumption))
  | ((with_reducible apply r_oR); (· exact rfl))
  | ((with_reducible apply r_enumR); (· exact rfl))
  | ((with_reducible apply r_enumSB); (· assumption); (· (unfold smallI; omega)))
  | ((with_reducible apply r_enumSR); (· exact rfl); (· (unfold smallI; omega)))
  | ((with_reducible apply r_rng1R); (· (unfold smallI; omega)))
  | ((with_reducible apply r_rng2R); (· (unfold smallI; omega)))
  | ((with_reducible apply r_isitR); (· exact rfl); (· exact rfl))
  | ((with_reducible apply r_isi); (· exact rfl))
  | ((with_reducible apply r_lenB); (· assumption))
  | ((with_reducible apply r_itemsB); (· assumption); (· first | assumption | rfl))
  | ((with_reducible apply r_keysB); (· assumption))
  | ((with_reducible apply r_isxY); (· assumption); (· decide))
  | ((with_reducible apply r_isxN); (· assumption); (· decide); (· decide))
  | ((with_reducible apply r_xfd); (· assumption))
  | ((with_reducible apply end_ret); (· assumption))
  | ((with_reducible apply end_next); (· assumption))
  | ((with_reducible apply r_dlen); (· assumption))
  | ((with_reducible apply r_klook); (· exact rfl))
  | ((with_reducible apply r_kget); (· exact rfl))
  | ((with_reducible apply r_tupw); (· exact rfl))
  | ((with_reducible apply r_ktup); (· exact rfl))
  | ((with_reducible apply r_slcB); (· assumption))
  | ((with_reducible apply r_listB); (· assumption))
  | ((with_reducible apply And.intro); (· first | exact bm_okA ‹_› | exact bm_okI ‹_› | exact bm_okR ‹_› | exact bm_okP ‹_› | exact bm_okC ‹_› | exact dct_some ‹_› | exact drd_some ‹_› | exact (show isNtp (.ntp _) = true from rfl) | exact (show bmOk .join (.str _) _ = true from rfl) | exact (show bmOk .split (.str _) _ = true from rfl) | exact (show bmOk .part (.str _) _ = true from rfl)))))
local macro_rules | `(tactic| subst_eqs) => `(tactic| repeat (first
  | with_reducible refine stp1 ?_
  | ((with_reducible apply r_var); (· exact rfl))
  | ((with_reducible apply r_callR); (· exact rfl))
  | ((with_reducible apply r_itet); (· first | exact rfl | assumption))
  | ((with_reducible apply r_itef); (· first | exact rfl | assumption))
  | ((with_reducible apply r_sz); (· exact rfl))
  | ((with_reducible apply r_at); (· assumption); (· exact rfl))
  | ((with_reducible apply r_atI); (· exact rfl))
  | ((with_reducible apply r_meth); (· assumption); (· exact rfl))
  | ((with_reducible apply r_methI); (· exact rfl))
  | ((with_reducible apply r_tupA); (· exact rfl); (· exact rfl))
  | ((with_reducible apply r_tupsA); (· exact rfl); (· rfl); (· exact rfl); (· exact rfl))
  | ((with_reducible apply r_aug); (· exact rfl))
  | ((with_reducible apply r_modI); (· first | assumption | omega))
  | ((with_reducible apply r_mulI); (· first | exact .inr (by decide) | exact .inl (by decide) | (unfold mulOk; omega)))
  | ((with_reducible apply r_divI); (· first | assumption | omega))
  | ((with_reducible apply r_addT); (· exact rfl))
  | ((with_reducible apply r_walkB); (· assumption))
  | ((with_reducible apply r_enumB); (· assumption))
  | ((with_reducible apply r_oR); (· exact rfl))
  | ((with_reducible apply r_enumR); (· exact rfl))
  | ((with_reducible apply r_enumSB); (· assumption); (· (unfold smallI; omega)))
  | ((with_reducible apply r_enumSR); (· exact rfl); (· (unfold smallI; omega)))
  | ((with_reducible apply r_rng1R); (· (unfold smallI; omega)))
  | ((with_reducible apply r_rng2R); (· (unfold smallI; omega)))
  | ((with_reducible apply r_isitR); (· exact rfl); (· exact rfl))
  | ((with_reducible apply r_isi); (· exact rfl))
  | ((with_reducible apply r_lenB); (· assumption))
  | ((with_reducible apply r_itemsB); (· assumption); (· first | assumption | rfl))
  | ((with_reducible apply r_keysB); (· assumption))
  | ((with_reducible apply r_isxY); (· assumption); (· decide))
  | ((with_reducible apply r_isxN); (· assumption); (· decide); (· decide))
  | ((with_reducible apply r_xfd); (· assumption))
  | ((with_reducible apply end_ret); (· assumption))
  | ((with_reducible apply end_next); (· assumption))
  | ((with_reducible apply r_dlen); (· assumption))
  | ((with_reducible apply r_klook); (· exact rfl))
  | ((with_reducible apply r_kget); (· exact rfl))
  | ((with_reducible apply r_tupw); (· exact rfl))
  | ((with_reducible apply r_ktup); (· exact rfl))
  | ((with_reducible apply r_slcB); (· assumption))
  | ((with_reducible apply r_listB); (· assumption))
  | ((with_reducible apply And.intro); (· first | exact bm_okA ‹_› | exact bm_okI ‹_› | exact bm_okR ‹_› | exact bm_okP ‹_› | exact bm_okC ‹_› | exact dct_some ‹_› | exact drd_some ‹_› | exact (show isNtp (.ntp _) = true from rfl) | exact (show bmOk .join (.str _) _ = true from rfl) | exact (show bmOk .split (.str _) _ = true from rfl) | exact (show bmOk .part (.str _) _ = true from rfl)))))

section
/-! ### what the programs tell -/
def BagAt (S : Sto) (b : Nat) : Prop := ∃ g r : Int, cellAt S b = some (.lst [.int g, .int r]) ∧ 0 ≤ g ∧ 0 ≤ r ∧ r < 2147483647
theorem BagAt.keep {S S' : Sto} {b : Nat} {bs : List Nat} (h : BagAt S b) (k : Keep bs S S') (n : b ∉ bs) : BagAt S' b := by
  obtain ⟨g, r, e, q⟩ := h
  exact ⟨g, r, (k.eq b (cellAt_lt e) n).trans e, q⟩
theorem BagAt.lt {S : Sto} {b : Nat} (h : BagAt S b) : b < S.length := by
  obtain ⟨g, r, e, q⟩ := h
  exact cellAt_lt e
theorem take_ok {k b : Nat} {n : Int} {S : Sto} (hb : BagAt S b) (n0 : 0 < n) (n1 : n < 1073741824) : ∃ (d : Int) (S' : Sto), callN Tb (k + 1) 15 [.ref b, .int n] S = .ok (.int d) S' ∧ 0 ≤ d ∧ d < n ∧ Keep [b] S S' ∧ BagAt S' b := by
  obtain ⟨g, r, e, g0, r0, r1⟩ := hb
  have hl := cellAt_lt e
  rw [callN_at (d := ⟨2, 3, p_l_take⟩) rfl rfl]
  unfold Iv.run
  by_cases hg : 0 < g
  · simp [exs, ex, ev, asg, tru, truR, cmpR, idxR, seqOf, e, atD, binR, sidxR, hg, n0, n1, ck]
    exact ⟨_, _, ⟨rfl, rfl⟩, Int.emod_nonneg _ (by omega), Int.emod_lt_of_pos _ n0, Keep.set, _, _, cellAt_set1 hl, Int.ediv_nonneg g0 (by omega), r0, r1⟩
  · have m1 : mulOk r 48271 := .inr ⟨by omega, by omega⟩
    have m2 : ((r * 48271 + 11) % 2147483647 / 8).natAbs < 18446744073709551616 := by omega
    simp [exs, ex, ev, asg, tru, truR, cmpR, idxR, seqOf, e, atD, binR, addR, sidxR, hg, n0, n1, ck, m1, m2, cellAt_set1 hl]
    exact ⟨_, _, ⟨rfl, rfl⟩, Int.emod_nonneg _ (by omega), Int.emod_lt_of_pos _ n0, Keep.set, _, _, cellAt_set1 hl, g0, by omega, by omega⟩
theorem idx_ints {c : Int} {S : Sto} (l : List Int) (h0 : 0 ≤ c) (h1 : c < l.length) : ∃ q, q ∈ l ∧ idxR (.tup (l.map .int)) (.int c) S = .ok (.int q) S := by
  have hc : c.toNat < l.length := by omega
  refine ⟨l[c.toNat], List.getElem_mem hc, ?_⟩
  have e : (l.map D.int)[c.toNat]? = some (.int l[c.toNat]) := by rw [List.getElem?_map, List.getElem?_eq_getElem hc]; rfl
  show (match (if 0 ≤ c then (l.map D.int)[c.toNat]? else _) with | some d => R.ok d S | none => .err) = _
  rw [if_pos h0, e]
section
variable {k b vb : Nat} {n : Int} {ρ : Iv.Env} {S S1 : Sto} {e : E}
theorem ev_int {i : Int} {F : CE} : ev F (.con (.int i)) ρ S = .ok (.int i) S := by rw [ev]
end


end
section
/-! ### a bag (the script's cells, over and over) -/
theorem bag_ok {k : Nat} {ns : List Int} {i : Int} {S : Sto} (i0 : 0 ≤ i) (i1 : i < 1000) : ∃ (c : Cell), callN Tb (k + 1) 14 [.scr (ns.map .int), .int i] S = .ok (.ref S.length) (S ++ [some c]) ∧ BagAt (S ++ [some c]) S.length := by
  rw [callN_at (d := ⟨2, 5, p_l_bag⟩) rfl rfl]
  obtain ⟨cell, h2⟩ : ∃ cell : Int, ex (callN Tb k) (p_l_bag.getD 1 .pass) [some (.scr (ns.map .int)), some (.int i), some (.int 0), none, none] S = .ok (.next [some (.scr (ns.map .int)), some (.int i), some (.int cell), none, none]) S := by
    by_cases h : 0 < ns.length
    · have hm : 0 ≤ i % (ns.length : Int) ∧ i % (ns.length : Int) < ns.length := ⟨Int.emod_nonneg _ (by omega), Int.emod_lt_of_pos _ (by omega)⟩
      have e3 : (i % (ns.length : Int)).toNat < ns.length := by omega
      simp [exs, ex, ev, evs, evp, evIt, evIfs, asg, asgs, tru, truR, cmpR, idxR, seqOf, atD, binR, addR, sidxR, biR, biLen, lenR, biAbs, biMin2, biMax2, biInt, biTuple, biList, ck, mkL, walkOf, walkL, callR, pick, h, hm, List.getElem?_eq_getElem e3]
    · simp [exs, ex, ev, evs, evp, evIt, evIfs, asg, asgs, tru, truR, cmpR, idxR, seqOf, atD, binR, addR, sidxR, biR, biLen, lenR, biAbs, biMin2, biMax2, biInt, biTuple, biList, ck, mkL, walkOf, walkL, callR, pick, h]
  obtain ⟨great, hg, h4⟩ : ∃ great : Int, 0 ≤ great ∧ ex (callN Tb k) (p_l_bag.getD 3 .pass) [some (.scr (ns.map .int)), some (.int i), some (.int cell), some (.int 0), none] S = .ok (.next [some (.scr (ns.map .int)), some (.int i), some (.int cell), some (.int great), none]) S := by
    by_cases h : 1000000000000000000 ≤ (if cell < 0 then -cell else cell)
    · by_cases h5 : i < ns.length
      · refine ⟨if cell < 0 then -cell else cell, by split <;> omega, ?_⟩
        simp [exs, ex, ev, evs, evp, evIt, evIfs, asg, asgs, tru, truR, cmpR, idxR, seqOf, atD, binR, addR, sidxR, biR, biLen, lenR, biAbs, biMin2, biMax2, biInt, biTuple, biList, ck, mkL, walkOf, walkL, callR, pick, h, h5]
      · refine ⟨0, by omega, ?_⟩
        simp [exs, ex, ev, evs, evp, evIt, evIfs, asg, asgs, tru, truR, cmpR, idxR, seqOf, atD, binR, addR, sidxR, biR, biLen, lenR, biAbs, biMin2, biMax2, biInt, biTuple, biList, ck, mkL, walkOf, walkL, callR, pick, h, h5]
    · refine ⟨0, by omega, ?_⟩
      simp [exs, ex, ev, evs, evp, evIt, evIfs, asg, asgs, tru, truR, cmpR, idxR, seqOf, atD, binR, addR, sidxR, biR, biLen, lenR, biAbs, biMin2, biMax2, biInt, biTuple, biList, ck, mkL, walkOf, walkL, callR, pick, h]
  have c0 : 0 ≤ cell % 2147483647 := Int.emod_nonneg _ (by omega)
  have c1 : cell % 2147483647 < 2147483647 := Int.emod_lt_of_pos _ (by omega)
  have m1 : mulOk 104729 i := .inl ⟨by omega, by omega⟩
  have m2 : (cell % 2147483647 + 104729 * i + 7).natAbs < 18446744073709551616 := by omega
  have i8 : 0 ≤ i % 8 ∧ i % 8 < 8 := ⟨Int.emod_nonneg _ (by omega), Int.emod_lt_of_pos _ (by omega)⟩
  obtain ⟨p, hp, p0, p1⟩ : ∃ p : Int, ([2147483629, 2147483587, 2147483579, 2147483563, 2147483549, 2147483543, 2147483497, 2147483489] : List Int)[(i % 8).toNat]? = some p ∧ 0 < p ∧ p < 2147483647 := by
    have : (i % 8).toNat < 8 := by omega
    generalize (i % 8).toNat = j at this
    match j, this with
    | 0, _ => exact ⟨_, rfl, by omega, by omega⟩
    | 1, _ => exact ⟨_, rfl, by omega, by omega⟩
    | 2, _ => exact ⟨_, rfl, by omega, by omega⟩
    | 3, _ => exact ⟨_, rfl, by omega, by omega⟩
    | 4, _ => exact ⟨_, rfl, by omega, by omega⟩
    | 5, _ => exact ⟨_, rfl, by omega, by omega⟩
    | 6, _ => exact ⟨_, rfl, by omega, by omega⟩
    | 7, _ => exact ⟨_, rfl, by omega, by omega⟩
    | j + 8, h => omega
  have hp' : ([.int 2147483629, .int 2147483587, .int 2147483579, .int 2147483563, .int 2147483549, .int 2147483543, .int 2147483497, .int 2147483489] : List D)[(i % 8).toNat]? = some (.int p) := by
    have := congrArg (Option.map D.int) hp
    rw [← List.getElem?_map] at this
    exact this
  have hq : ∀ h, ([.int 2147483629, .int 2147483587, .int 2147483579, .int 2147483563, .int 2147483549, .int 2147483543, .int 2147483497, .int 2147483489] : List D)[(i % 8).toNat]'h = .int p := fun h => (List.getElem?_eq_some_iff.mp hp').2
  have sz : (8 : Nat) ≤ sizeLine ∧ (2 : Nat) ≤ sizeLine := by decide
  refine ⟨.lst [.int great, .int ((cell % 2147483647 + 104729 * i + 7) ^ 5 % p)], run_ret ?_, great, _, cellAt_push, hg, Int.emod_nonneg _ (by omega), Int.lt_trans (Int.emod_lt_of_pos _ p0) p1⟩
  refine (exs_next (ρ' := [some (.scr (ns.map .int)), some (.int i), some (.int 0), none, none]) (S' := S) (by simp [exs, ex, ev, evs, evp, evIt, evIfs, asg, asgs, tru, truR, cmpR, idxR, seqOf, atD, binR, addR, sidxR, biR, biLen, lenR, biAbs, biMin2, biMax2, biInt, biTuple, biList, ck, mkL, walkOf, walkL, callR, pick])).trans ?_
  refine (exs_next h2).trans ?_
  refine (exs_next (ρ' := [some (.scr (ns.map .int)), some (.int i), some (.int cell), some (.int 0), none]) (S' := S) (by simp [exs, ex, ev, evs, evp, evIt, evIfs, asg, asgs, tru, truR, cmpR, idxR, seqOf, atD, binR, addR, sidxR, biR, biLen, lenR, biAbs, biMin2, biMax2, biInt, biTuple, biList, ck, mkL, walkOf, walkL, callR, pick])).trans ?_
  refine (exs_next h4).trans ?_
  simp [exs, ex, ev, evs, evp, evIt, evIfs, asg, asgs, tru, truR, cmpR, idxR, seqOf, atD, binR, addR, sidxR, biR, biLen, lenR, biAbs, biMin2, biMax2, biInt, biTuple, biList, ck, mkL, walkOf, walkL, callR, pick, sz, m1, m2, i8, p0, hp', hq]


end
section
/-! ### words, values -/
set_option maxHeartbeats 300000
abbrev lettersS : Str := "abcdefghijklmnopqrstuvwxyz"
theorem letters_list : lettersS.cps.toList = (List.range 26).map (97 + ·) := by decide +kernel
structure Word (z : Str) : Prop where
  l0 : 1 ≤ z.length
  l1 : z.length ≤ 8
  ch : ∀ c ∈ z.cps.toList, 97 ≤ c ∧ c < 123
theorem mem_letters {c : Nat} : c ∈ lettersS.cps.toList ↔ 97 ≤ c ∧ c < 123 := by
  rw [letters_list, List.mem_map]
  constructor
  · rintro ⟨i, hi, rfl⟩
    have := List.mem_range.mp hi
    omega
  · rintro ⟨h1, h2⟩
    exact ⟨c - 97, List.mem_range.mpr (by omega), by omega⟩
theorem joinL_flat : ∀ ps : List (List Nat), TL.joinL [] ps = ps.flatten
  | [] => rfl
  | [p] => by simp [TL.joinL]
  | p :: q :: r => by
    rw [TL.joinL, List.nil_append, joinL_flat (q :: r)]
    rfl
theorem join_signs (l : List Nat) : (Txt.join "" (l.map fun c => (⟨#[c]⟩ : Str))).cps.toList = l := by
  rw [TL.join_eq]
  show TL.tl (Str.join "" (l.map fun c => (⟨#[c]⟩ : Str))) = l
  rw [TL.tl_join, show TL.tl ("" : Str) = [] from rfl, joinL_flat, List.map_map]
  induction l with
  | nil => rfl
  | cons c l ih =>
    rw [List.map_cons, List.flatten_cons, ih]
    rfl
theorem eq_str {x y : Str} {S : Sto} : cmpR .eq (.str x) (.str y) S = .ok (.bl (x == y)) S := by simp [cmpR, eqD, ck, unbox, D.fz, D.dp, D.eqv]
def kindS (w : Bool) : Str := if w then "word" else "number"
def ValOf (w : Bool) (d : D) : Prop := match w with
  | true => ∃ z, d = .str z ∧ Word z
  | false => ∃ i : Int, d = .int i ∧ -999 ≤ i ∧ i ≤ 999
end
section
/-! ### what is a value -/
set_option maxHeartbeats 400000
def isInt : D → Bool
  | .int i => decide (-999 ≤ i) && decide (i ≤ 999)
  | _ => false
def isWd : D → Bool
  | .str z => decide (1 ≤ z.length) && decide (z.length ≤ 8) && z.cps.toList.all (fun c => decide (c ∈ lettersS.cps.toList))
  | _ => false
def tyD : D → String
  | .non => "NoneType"
  | .bl _ => "bool"
  | .int _ => "int"
  | .str _ => "str"
  | .tup _ => "tuple"
  | _ => "list"
theorem tyOf_fz {d : D} {S : Sto} (h : d.fz = true) : tyOf S d = some (tyD d) := by
  cases d <;> first | rfl | (simp [D.fz] at h)
def isI (n : String) (d : D) : Bool := (L2.kitB (tyD d) n).getD false
theorem kit_some : (["NoneType", "bool", "int", "str", "tuple", "list"].all fun a => ["int", "bool", "str", "tuple"].all fun n => (L2.kitB a n).isSome) = true := by decide +kernel
theorem tyD_mem (d : D) : tyD d ∈ ["NoneType", "bool", "int", "str", "tuple", "list"] := by cases d <;> simp [tyD]
theorem bi_isi {d : D} {n : String} {S : Sto} (h : d.fz = true) (hn : n ∈ ["int", "bool", "str", "tuple"]) : biR .isi [d, .ty n] S = .ok (.bl (isI n d)) S := by
  have k := List.all_eq_true.mp (List.all_eq_true.mp kit_some _ (tyD_mem d)) n hn
  show (match (tyOf S d).bind fun a => L2.kitB a n with | some b => R.ok (D.bl b) S | none => .err) = _
  rw [tyOf_fz h, Option.bind_some]
  unfold isI
  cases q : L2.kitB (tyD d) n with
  | none => rw [q] at k; cases k
  | some b => rfl
theorem kit_facts : L2.kitB "int" "int" = some true ∧ L2.kitB "bool" "int" = some true ∧ L2.kitB "NoneType" "int" = some false ∧ L2.kitB "str" "int" = some false ∧ L2.kitB "tuple" "int" = some false ∧ L2.kitB "list" "int" = some false ∧
    L2.kitB "int" "bool" = some false ∧ L2.kitB "bool" "bool" = some true ∧ L2.kitB "str" "str" = some true ∧ L2.kitB "NoneType" "str" = some false ∧ L2.kitB "bool" "str" = some false ∧ L2.kitB "int" "str" = some false ∧ L2.kitB "tuple" "str" = some false ∧ L2.kitB "list" "str" = some false ∧
    L2.kitB "tuple" "tuple" = some true ∧ L2.kitB "NoneType" "tuple" = some false ∧ L2.kitB "bool" "tuple" = some false ∧ L2.kitB "int" "tuple" = some false ∧ L2.kitB "str" "tuple" = some false ∧ L2.kitB "list" "tuple" = some false := by decide +kernel
section
variable {F : CE} {ρ : Iv.Env} {S : Sto} {d : D} {a b : E}
theorem ev_isi {n : String} (he : ev F a ρ S = .ok d S) (h : d.fz = true) (hn : n ∈ ["int", "bool", "str", "tuple"]) : ev F (.bi .isi [a, .con (.ty n)]) ρ S = .ok (.bl (isI n d)) S :=
  (ev_bi2 (S1 := S) (S2 := S) he (by rw [ev])).trans (bi_isi h hn)
theorem ev_and_bl {x y : Bool} (ha : ev F a ρ S = .ok (.bl x) S) (hb : x = true → ev F b ρ S = .ok (.bl y) S) : ev F (.and a b) ρ S = .ok (.bl (x && y)) S := by
  rw [ev, ha, R.bind_ok, tru_bl, R.bind_ok]
  cases x with
  | true => rw [if_pos rfl, hb rfl]; rfl
  | false => rw [if_neg Bool.false_ne_true]; rfl
theorem ev_or_bl {x y : Bool} (ha : ev F a ρ S = .ok (.bl x) S) (hb : x = false → ev F b ρ S = .ok (.bl y) S) : ev F (.or a b) ρ S = .ok (.bl (x || y)) S := by
  rw [ev, ha, R.bind_ok, tru_bl, R.bind_ok]
  cases x with
  | true => rw [if_pos rfl]; rfl
  | false => rw [if_neg Bool.false_ne_true, hb rfl]; rfl
theorem ev_not_bl {x : Bool} (ha : ev F a ρ S = .ok (.bl x) S) : ev F (.not a) ρ S = .ok (.bl (!x)) S := by
  rw [ev, ha, R.bind_ok, tru_bl, R.bind_ok]
theorem ev_between {e : E} {x y z : Int} (ha : ev F a ρ S = .ok (.int x) S) (hb : ev F b ρ S = .ok (.int y) S) (he : ev F e ρ S = .ok (.int z) S) : ev F (.chain .le .le a b e) ρ S = .ok (.bl (decide (x ≤ y) && decide (y ≤ z))) S := by
  rw [ev, ha, R.bind_ok, hb, R.bind_ok, show cmpR .le (.int x) (.int y) S = .ok (.bl (decide (x ≤ y))) S from rfl, R.bind_ok, tru_bl, R.bind_ok]
  by_cases h : x ≤ y
  · rw [decide_eq_true h, if_pos rfl, he]
    rfl
  · rw [decide_eq_false h, if_neg Bool.false_ne_true]
    rfl
end
theorem isI_int {d : D} (h : isI "int" d = true) (hb : isI "bool" d = false) : ∃ i, d = .int i := by
  obtain ⟨f1, f2, f3, f4, f5, f6, f7, f8, _⟩ := kit_facts
  cases d <;> simp [isI, tyD, f1, f2, f3, f4, f5, f6, f7, f8] at h hb ⊢
theorem whole_ok {k : Nat} {d : D} {S : Sto} (h : d.fz = true) : callN Tb (k + 1) 0 [d, .int (-999), .int 999] S = .ok (.bl (isInt d)) S := by
  rw [callN_at (d := ⟨3, 3, p_is_whole⟩) rfl rfl]
  refine run_ret (exs_ret (ex_ret ?_))
  have e1 := ev_isi (F := callN Tb k) (ρ := [some d, some (.int (-999)), some (.int 999)]) (a := .var 0) (n := "int") (S := S) (ev_var rfl) h (by simp)
  have e2 := ev_isi (F := callN Tb k) (ρ := [some d, some (.int (-999)), some (.int 999)]) (a := .var 0) (n := "bool") (S := S) (ev_var rfl) h (by simp)
  have key : isInt d = (isI "int" d && ((!isI "bool" d) && isInt d)) := by
    obtain ⟨f1, f2, f3, f4, f5, f6, f7, f8, _⟩ := kit_facts
    cases d <;> simp [isInt, isI, tyD, f1, f2, f3, f4, f5, f6, f7, f8]
  rw [key]
  refine ev_and_bl e1 fun hi => ev_and_bl (ev_not_bl e2) fun hb => ?_
  obtain ⟨i, rfl⟩ := isI_int hi (by simpa using hb)
  exact ev_between (ev_var rfl) (ev_var rfl) (ev_var rfl)
theorem all_signs {z : Str} {S : Sto} : ∀ {F : CE} {ρ : Iv.Env}, ρ = [some (.str z), none] → z.length ≤ 8 → ev F (.bi (.all) [(.lc false [1] (.var 1) (.e (.var 0)) [] (.cmp .isIn (.var 1) (.con (.str lettersS))))]) ρ S = .ok (.bl (z.cps.toList.all fun c => decide (c ∈ lettersS.cps.toList))) S := by
  intro F ρ hρ hl
  subst hρ
  have L : (1000 : Nat) ≤ sizeLine := by decide
  refine (ev_bi1 (x := .lst (z.cps.toList.map fun c => .bl (decide (c ∈ lettersS.cps.toList)))) (S1 := S) ?_).trans bi_all
  refine (ev_lc (src := .fix) (items := z.cps.toList.map fun c => .str ⟨#[c]⟩) (ys := z.cps.toList.map fun c => .bl (decide (c ∈ lettersS.cps.toList))) (S1 := S) (S2 := S) (evIt_e (x := .str z) (S1 := S) (ev_var rfl) rfl) (lcLoop_map fun c hc => ?_) (by rw [List.length_map, Array.length_toList]; exact Nat.le_trans (Nat.le_trans hl (by omega)) L)).trans rfl
  have e1 : ev F (.cmp .isIn (.var 1) (.con (.str lettersS))) [some (.str z), some (.str ⟨#[c]⟩)] S = .ok (.bl (decide (c ∈ lettersS.cps.toList))) S := (ev_cmp (x := .str ⟨#[c]⟩) (y := .str lettersS) (S1 := S) (S2 := S) (ev_var rfl) (by rw [ev])).trans rfl
  unfold lcStep
  rw [asg, R.bind_ok, evIfs, R.bind_ok, if_pos rfl]
  show (ev _ _ [some (.str z), some (.str ⟨#[c]⟩)] S).bind _ = _
  rw [e1]
  rfl


end
section
/-! ### words, values, rows known -/
set_option maxHeartbeats 400000
theorem isI_str {d : D} (h : isI "str" d = true) : ∃ z, d = .str z := by
  obtain ⟨_, _, _, _, _, _, _, _, f1, f2, f3, f4, f5, f6, _⟩ := kit_facts
  cases d <;> simp [isI, tyD, f1, f2, f3, f4, f5, f6] at h ⊢
theorem isI_tup {d : D} (h : isI "tuple" d = true) : ∃ xs, d = .tup xs := by
  obtain ⟨_, _, _, _, _, _, _, _, _, _, _, _, _, _, f1, f2, f3, f4, f5, f6⟩ := kit_facts
  cases d <;> simp [isI, tyD, f1, f2, f3, f4, f5, f6] at h ⊢
theorem isI_tupT {xs : List D} : isI "tuple" (.tup xs) = true := by
  obtain ⟨_, _, _, _, _, _, _, _, _, _, _, _, _, _, f1, _⟩ := kit_facts
  simp [isI, tyD, f1]
theorem isI_strT {z : Str} : isI "str" (.str z) = true := by
  obtain ⟨_, _, _, _, _, _, _, _, f1, _⟩ := kit_facts
  simp [isI, tyD, f1]
theorem isWd_str {z : Str} : isWd (.str z) = (decide (1 ≤ z.length) && decide (z.length ≤ 8) && z.cps.toList.all (fun c => decide (c ∈ lettersS.cps.toList))) := rfl
theorem isword_body {F : CE} {d : D} {S : Sto} (h : d.fz = true) : exs F p_is_word [some d, none] S = .ok (.ret (.bl (isWd d))) S := by
  have e1 := ev_not_bl (ev_isi (F := F) (ρ := [some d, none]) (a := .var 0) (n := "str") (S := S) (ev_var rfl) h (by simp))
  by_cases hs : isI "str" d = true
  · obtain ⟨z, rfl⟩ := isI_str hs
    have e2 : ev F (.bi (.len) [(.var 0)]) [some (.str z), none] S = .ok (.int z.length) S := (ev_bi1 (x := .str z) (S1 := S) (ev_var rfl)).trans rfl
    have e3 := ev_or_bl e1 (b := .not (.chain .le .le (.con (.int 1)) (.bi (.len) [(.var 0)]) (.con (.int 8)))) fun _ => ev_not_bl (ev_between ev_int e2 ev_int)
    rw [hs] at e3
    by_cases hl : 1 ≤ z.length ∧ z.length ≤ 8
    · have hb : (decide ((1 : Int) ≤ z.length) && decide ((z.length : Int) ≤ 8)) = true := by
        rw [Bool.and_eq_true, decide_eq_true_eq, decide_eq_true_eq]
        omega
      rw [hb] at e3
      refine (exs_next (ex_ite (k := false) (S1 := S) e3 (by rw [if_neg Bool.false_ne_true, exs_end]))).trans ?_
      refine exs_one (ex_ret ((all_signs rfl hl.2).trans ?_))
      rw [isWd_str, decide_eq_true hl.1, decide_eq_true hl.2]
      rfl
    · have hb : (decide ((1 : Int) ≤ z.length) && decide ((z.length : Int) ≤ 8)) = false := by
        rw [Bool.eq_false_iff]
        intro q
        rw [Bool.and_eq_true, decide_eq_true_eq, decide_eq_true_eq] at q
        omega
      rw [hb] at e3
      have hw : isWd (.str z) = false := by
        rw [isWd_str]
        have : (decide (1 ≤ z.length) && decide (z.length ≤ 8)) = false := by
          rw [Bool.eq_false_iff]
          intro q
          rw [Bool.and_eq_true, decide_eq_true_eq, decide_eq_true_eq] at q
          exact hl q
        rw [this]
        rfl
      rw [hw]
      refine exs_ret (ex_ite (k := true) (S1 := S) e3 ?_)
      rw [if_pos rfl]
      exact exs_one (ex_ret (by rw [ev]))
  · have hs : isI "str" d = false := by simpa using hs
    rw [hs] at e1
    have hw : isWd d = false := by
      cases d <;> first | rfl | (rw [isI_strT] at hs; cases hs)
    rw [hw]
    refine exs_ret (ex_ite (k := true) (S1 := S) ((ev_or_bl (y := false) e1 fun z => by cases z).trans rfl) ?_)
    rw [if_pos rfl]
    exact exs_one (ex_ret (by rw [ev]))
theorem isword_ok {k : Nat} {d : D} {S : Sto} (h : d.fz = true) : callN Tb (k + 1) 1 [d] S = .ok (.bl (isWd d)) S := by
  rw [callN_at (d := ⟨1, 2, p_is_word⟩) rfl rfl]
  exact run_ret (isword_body h)
def valD (w : Bool) (d : D) : Bool := if w = true then isWd d else isInt d
theorem kind_num (w : Bool) : (kindS w == ("number" : Str)) = !w := by cases w <;> decide +kernel
theorem value_known {k : Nat} {w : Bool} {d : D} {S : Sto} (h : d.fz = true) : callN Tb (k + 2) 4 [.str (kindS w), d] S = .ok (.bl (valD w d)) S := by
  rw [callN_at (d := ⟨2, 2, p_is_value⟩) rfl rfl]
  refine run_ret (exs_ret (ex_ret ?_))
  have e1 : ev (callN Tb (k + 1)) (.cmp .eq (.var 0) (.con (.str "number"))) [some (.str (kindS w)), some d] S = .ok (.bl (!w)) S := by
    refine ((ev_cmp (x := .str (kindS w)) (y := .str "number") (S1 := S) (S2 := S) (ev_var rfl) (by rw [ev])).trans eq_str).trans ?_
    rw [kind_num]
  show ev _ _ [some (.str (kindS w)), some d] S = _
  rw [ev, e1, R.bind_ok, tru_bl, R.bind_ok]
  cases w with
  | true =>
    rw [show (!true) = false from rfl, if_neg Bool.false_ne_true]
    exact (ev_call1 (ds := [d]) (S1 := S) (evs_cons (ev_var rfl) evs_nil) rfl).trans (isword_ok h)
  | false =>
    rw [show (!false) = true from rfl, if_pos rfl]
    exact (ev_call1 (ds := [d]) (S1 := S) (evs_cons (ev_var rfl) evs_nil) rfl).trans (whole_ok h)
/-! rows -/
abbrev Col := Str × Bool
def enCol (c : Col) : D := .tup [.str c.1, .str (kindS c.2)]
abbrev enF (f : List Col) : D := .tup (f.map enCol)
def rowD (f : List Col) (d : D) : Bool := match d with
  | .tup xs => (xs.length == f.length) && (f.zip xs).all fun p => valD p.1.2 p.2
  | _ => false
theorem rowD_tup {f : List Col} {xs : List D} : rowD f (.tup xs) = ((xs.length == f.length) && (f.zip xs).all fun p => valD p.1.2 p.2) := rfl
theorem rowD_no {f : List Col} {d : D} (h : isI "tuple" d = false) : rowD f d = false := by
  cases d <;> first | rfl | (rw [isI_tupT] at h; cases h)
theorem zip_enc (f : List Col) (xs : List D) : zipD (f.map enCol) xs = (f.zip xs).map fun p => .tup [enCol p.1, p.2] := by
  unfold zipD
  rw [List.zip_map_left, List.map_map]
  rfl
theorem fzs_mem {xs : List D} (h : D.fzs xs = true) : ∀ x ∈ xs, x.fz = true := by
  induction xs with
  | nil => intro x hx; cases hx
  | cons a l ih =>
    simp only [D.fzs, Bool.and_eq_true] at h
    intro x hx
    rcases List.mem_cons.mp hx with rfl | hx
    · exact h.1
    · exact ih h.2 x hx
theorem len_form {F : CE} {ρ : Iv.Env} {S : Sto} {i : Nat} {xs : List D} (h : ρ[i]? = some (some (.tup xs))) : ev F (.bi (.len) [(.var i)]) ρ S = .ok (.int xs.length) S := (ev_bi1 (S1 := S) (ev_var h)).trans rfl
def lenIs (n : Nat) : D → Bool
  | .tup xs => xs.length == n
  | _ => false
theorem tuple_of_ok {k n : Nat} {d : D} {S : Sto} (h : d.fz = true) : callN Tb (k + 1) 3 [d, .int n, .int n] S = .ok (.bl (lenIs n d)) S := by
  rw [callN_at (d := ⟨3, 3, p_is_tuple_of⟩) rfl rfl]
  refine run_ret (exs_ret (ex_ret ?_))
  have e1 := ev_isi (F := callN Tb k) (ρ := [some d, some (.int n), some (.int n)]) (a := .var 0) (n := "tuple") (S := S) (ev_var rfl) h (by simp)
  by_cases ht : isI "tuple" d = true
  · obtain ⟨xs, rfl⟩ := isI_tup ht
    have e2 := ev_and_bl e1 (b := .chain .le .le (.var 1) (.bi (.len) [(.var 0)]) (.var 2)) fun _ => ev_between (ev_var rfl) (len_form rfl) (ev_var rfl)
    refine e2.trans ?_
    rw [ht, Bool.true_and]
    congr 2
    show (decide ((n : Int) ≤ xs.length) && decide ((xs.length : Int) ≤ n)) = (xs.length == n)
    rw [Bool.eq_iff_iff, Bool.and_eq_true, decide_eq_true_eq, decide_eq_true_eq, beq_iff_eq]
    omega
  · have ht : isI "tuple" d = false := by simpa using ht
    rw [ht] at e1
    have hm : lenIs n d = false := by
      cases d <;> first | rfl | (rw [isI_tupT] at ht; cases ht)
    rw [hm]
    exact (ev_and_bl (y := false) e1 fun z => by cases z).trans rfl
theorem isrow_ok {k : Nat} {f : List Col} {d : D} {S : Sto} (h : d.fz = true) (lf : f.length ≤ 1000) : callN Tb (k + 3) 5 [enF f, d] S = .ok (.bl (rowD f d)) S := by
  rw [callN_at (d := ⟨2, 5, p_is_row⟩) rfl rfl]
  have L : (1000 : Nat) ≤ sizeLine := by decide
  have e1 : ev (callN Tb (k + 2)) (.not (.call 3 [.a 0, .a 1, .a 2] [(.var 1), (.bi (.len) [(.var 0)]), (.bi (.len) [(.var 0)])])) [some (enF f), some d, none, none, none] S = .ok (.bl (!lenIs f.length d)) S := by
    have e0 : ev (callN Tb (k + 2)) (.bi (.len) [(.var 0)]) [some (enF f), some d, none, none, none] S = .ok (.int f.length) S := (len_form rfl).trans (by rw [List.length_map])
    exact ev_not_bl ((ev_call1 (ds := [d, .int f.length, .int f.length]) (S1 := S) (evs_cons (S1 := S) (ev_var rfl) (evs_cons (S1 := S) e0 (evs_cons (S1 := S) e0 evs_nil))) rfl).trans (tuple_of_ok h))
  by_cases hl : lenIs f.length d = true
  · rw [hl] at e1
    obtain ⟨xs, rfl⟩ : ∃ xs, d = .tup xs := by
      cases d <;> first | exact ⟨_, rfl⟩ | cases hl
    have hx : xs.length = f.length := by simpa [lenIs] using hl
    refine run_ret ?_
    refine (exs_next (ex_ite (k := false) (S1 := S) e1 (by rw [if_neg Bool.false_ne_true, exs_end]))).trans ?_
    refine exs_one (ex_ret ?_)
    have hr : rowD f (.tup xs) = (f.zip xs).all fun p => valD p.1.2 p.2 := by rw [rowD_tup, hx, beq_self_eq_true, Bool.true_and]
    rw [hr]
    refine (ev_bi1 (x := .lst ((f.zip xs).map fun p => .bl (valD p.1.2 p.2))) (S1 := S) ?_).trans bi_all
    have hfz := fzs_mem (xs := xs) (by simpa [D.fz] using h)
    refine (ev_lc (src := .fix) (items := (f.zip xs).map fun p => .tup [enCol p.1, p.2]) (ys := (f.zip xs).map fun p => .bl (valD p.1.2 p.2)) (S1 := S) (S2 := S) ?_ (lcLoop_map fun p hp => ?_) (by rw [List.length_map, List.length_zip]; omega)).trans rfl
    · rw [← zip_enc, evIt, ev_var (d := enF f) rfl, R.bind_ok, ev_var (d := .tup xs) rfl, R.bind_ok]
      exact ck_of ⟨fun _ => by rw [List.length_map, hx], rfl, rfl, .inl rfl⟩
    · obtain ⟨⟨n, w⟩, x⟩ := p
      have hfx := hfz x (List.of_mem_zip hp).2
      have e2 : ev (callN Tb (k + 2)) (.call 4 [.a 0, .a 1] [(.var 3), (.var 4)]) [some (enF f), some (.tup xs), some (.str n), some (.str (kindS w)), some x] S = .ok (.bl (valD w x)) S :=
        (ev_call1 (ds := [.str (kindS w), x]) (S1 := S) (evs_cons (ev_var rfl) (evs_cons (ev_var rfl) evs_nil)) rfl).trans (value_known hfx)
      unfold lcStep
      have ea : asg (callN Tb (k + 2)) (.tup [(.tup [(.var 2), (.var 3)]), (.var 4)]) (.tup [enCol (n, w), x]) (wipeE [some (enF f), some (.tup xs), none, none, none] [2, 3, 4]) S = .ok [some (enF f), some (.tup xs), some (.str n), some (.str (kindS w)), some x] S := by
        simp [asg, asgs, enCol, seqOf, ck, wipeE]
      show (asg _ _ _ (wipeE [some (enF f), some (.tup xs), none, none, none] [2, 3, 4]) S).bind _ = _
      rw [ea, R.bind_ok, evIfs, R.bind_ok, if_pos rfl, e2]
      rfl
  · have hl : lenIs f.length d = false := by simpa using hl
    rw [hl] at e1
    have hr : rowD f d = false := by
      cases d <;> first | rfl | (rw [rowD_tup]; rw [show (_ == f.length) = false from hl]; rfl)
    rw [hr]
    refine run_ret (exs_ret (ex_ite (k := true) (S1 := S) e1 ?_))
    rw [if_pos rfl]
    exact exs_one (ex_ret (by rw [ev]))


end
section
/-! ### what is a form -/
set_option maxHeartbeats 400000
theorem ru_isiF {d : D} {n : String} {S : Sto} {Q : D → Sto → Prop} {E : Exc → Sto → Prop} (h : d.fz = true) (hn : n ∈ ["int", "bool", "str", "tuple"]) (q : Q (.bl (isI n d)) S) : Ru (biR .isi [d, .ty n] S) Q E := Ru.eq (bi_isi h hn) q
theorem isI_tupF {d : D} (h : isI "tuple" d = false) : ∀ xs, d ≠ .tup xs := fun xs e => by rw [e, isI_tupT] at h; cases h
theorem isI_strF {d : D} (h : isI "str" d = false) : ∀ z, d ≠ .str z := fun z e => by rw [e, isI_strT] at h; cases h
def tupIn (lo hi : Nat) : D → Bool
  | .tup xs => decide (lo ≤ xs.length) && decide (xs.length ≤ hi)
  | _ => false
theorem tupIn_no {d : D} {lo hi : Nat} (h : ∀ xs, d ≠ .tup xs) : tupIn lo hi d = false := by cases d <;> first | rfl | exact absurd rfl (h _)
def kindD : D → Bool
  | .str z => z == "number" || z == "word"
  | _ => false
def colD : D → Bool
  | .tup [a, b] => isWd a && kindD b
  | _ => false
def nmD : D → Str
  | .tup (.str z :: _) => z
  | _ => ""
def formD : D → Bool
  | .tup xs => decide (1 ≤ xs.length) && decide (xs.length ≤ 6) && xs.all colD && decide (xs.map nmD).Nodup
  | _ => false
section
variable {k : Nat} {d : D} {S : Sto} {Q : D → Sto → Prop} {E : Exc → Sto → Prop}
theorem tupof_ru {lo hi : Nat} {a b : Int} (h : d.fz = true) (ha : a = lo) (hb : b = hi) (q : Q (.bl (tupIn lo hi d)) S) : Ru (callN Tb (k + 1) 3 [d, .int a, .int b] S) Q E := by
  subst ha hb
  refine Ru.def (fn := ⟨3, 3, p_is_tuple_of⟩) rfl rfl ?_; simp only [List.map_cons, List.map_nil, List.length_cons, List.length_nil, Nat.reduceAdd, Nat.reduceSub, List.replicate_succ, List.replicate_zero, List.cons_append, List.nil_append]
  and_intros
  refine ru_isiF h (by simp) ?_
  and_intros
  cases ht : isI "tuple" d with
  | false =>
    rw [tupIn_no (isI_tupF ht)] at q
    and_intros
    exact q
  | true =>
    obtain ⟨xs, rfl⟩ := isI_tup ht
    and_intros
    have e : tupIn lo hi (.tup xs) = (decide (lo ≤ xs.length) && decide (xs.length ≤ hi)) := rfl
    rw [e] at q
    by_cases h1 : lo ≤ xs.length
    · rw [decide_eq_true h1, Bool.true_and] at q
      rw [if_pos (decide_eq_true (by omega))]
      and_intros
      have e2 : decide ((xs.length : Int) ≤ (hi : Int)) = decide (xs.length ≤ hi) := by rw [decide_eq_decide]; omega
      rw [e2]
      exact q
    · rw [decide_eq_false h1, Bool.false_and] at q
      rw [if_neg (by rw [decide_eq_true_eq]; omega)]
      and_intros
      exact q
end
theorem flat_oneB {α : Type} (f : α → D) : ∀ xs : List α, xs.flatMap (fun x => [f x]) = xs.map f
  | [] => rfl
  | x :: xs => by rw [List.flatMap_cons, flat_oneB f xs]; rfl
theorem mem_dp {xs : List D} {n : Nat} (h : D.dps xs ≤ n) : ∀ x ∈ xs, x.dp ≤ n := by
  induction xs with
  | nil => intro x hx; cases hx
  | cons a l ih =>
    simp only [D.dps] at h
    intro x hx
    rcases List.mem_cons.mp hx with rfl | hx
    · exact Nat.le_trans (Nat.le_max_left ..) h
    · exact ih (Nat.le_trans (Nat.le_max_right ..) h) x hx
theorem tup_parts {xs : List D} (h : (D.tup xs).fz = true) (hp : (D.tup xs).dp ≤ 60) : ∀ x ∈ xs, x.fz = true ∧ x.dp ≤ 59 := fun x hx => by
  simp only [D.fz] at h
  simp only [D.dp] at hp
  exact ⟨fzs_mem h x hx, mem_dp (n := 59) (by omega) x hx⟩
theorem keysD_strs : ∀ zs : List Str, keysD (zs.map .str) = some (zs.map Sum.inr)
  | [] => rfl
  | z :: zs => by
    show (match keyD (.str z) with | some k => (keysD (zs.map .str)).map (k :: ·) | none => none) = _
    rw [keysD_strs zs]
    rfl
theorem nodup_mapI {α β : Type} {f : α → β} {l : List α} (hf : ∀ a b, f a = f b → a = b) : (l.map f).Nodup ↔ l.Nodup := by
  unfold List.Nodup
  rw [List.pairwise_map]
  exact ⟨fun h => h.imp fun {a b} n e => n (by rw [e]), fun h => h.imp fun {a b} n e => n (hf _ _ e)⟩
theorem many_eq {κ : Type} [DecidableEq κ] {ks : List κ} : (manyK ks = ks.length) ↔ ks.Nodup := by
  unfold manyK
  constructor
  · intro h
    induction ks with
    | nil => exact List.nodup_nil
    | cons a l ih =>
      rw [List.eraseDups_cons, List.length_cons, List.length_cons] at h
      have h1 := List.length_filter_le (fun b => !b == a) l
      have h2 := dups_le _ (l.filter fun b => !b == a) (Nat.le_refl _)
      have h3 : (l.filter fun b => !b == a).length = l.length := by omega
      have h4 := List.length_filter_eq_length_iff.mp h3
      have h5 : l.filter (fun b => !b == a) = l := List.filter_eq_self.mpr h4
      rw [h5] at h
      refine List.nodup_cons.mpr ⟨fun hm => ?_, ih (by omega)⟩
      have := h4 a hm
      simp at this
  · intro h
    induction ks with
    | nil => rfl
    | cons a l ih =>
      obtain ⟨h1, h2⟩ := List.nodup_cons.mp h
      have h5 : l.filter (fun b => !b == a) = l := List.filter_eq_self.mpr fun b hb => by
        have : b ≠ a := fun e => h1 (e ▸ hb)
        simp [this]
      rw [List.eraseDups_cons, h5, List.length_cons, List.length_cons, ih h2]
section
variable {k : Nat} {d : D} {S : Sto} {Q : D → Sto → Prop} {E : Exc → Sto → Prop}
end


end
section
/-! ### what the law's drawing tells, backwards -/
section
variable {k b : Nat} {n : Int} {ws : List Bool} {ns : List Int} {i : Int} {S : Sto} {Q : D → Sto → Prop} {E : Exc → Sto → Prop}
theorem bag_ru (i0 : 0 ≤ i) (i1 : i < 1000) (q : ∀ S' b, b = S.length → BagAt S' b → Keep [] S S' → Q (.ref b) S') : Ru (callN Tb (k + 1) 14 [.scr (ns.map .int), .int i] S) Q E := by
  obtain ⟨c, h, hb⟩ := bag_ok (k := k) (ns := ns) (i := i) (S := S) i0 i1
  exact Ru.eq h (q _ _ rfl hb Keep.push)
theorem take_ru (hb : BagAt S b) (n0 : 0 < n) (n1 : n < 1073741824) (q : ∀ d S', 0 ≤ d → d < n → Keep [b] S S' → BagAt S' b → Q (.int d) S') : Ru (callN Tb (k + 1) 15 [.ref b, .int n] S) Q E := by
  obtain ⟨d, S', h, h0, h1, hk, hb'⟩ := take_ok (k := k) hb n0 n1
  exact Ru.eq h (q _ _ h0 h1 hk hb')
end


end
section
/-! ### drawn forms, values, rows -/
set_option maxHeartbeats 400000
structure Fm (f : List Col) : Prop where
  l1 : 1 ≤ f.length
  l6 : f.length ≤ 6
  wd : ∀ c ∈ f, Word c.1
  nd : (f.map (·.1)).Nodup
theorem isWd_word {z : Str} (h : Word z) : isWd (.str z) = true := by
  rw [isWd_str]
  simp only [Bool.and_eq_true, decide_eq_true_eq, List.all_eq_true]
  exact ⟨⟨h.l0, h.l1⟩, fun c hc => mem_letters.mpr (h.ch c hc)⟩
theorem ValOf.valD {w : Bool} {d : D} (h : ValOf w d) : valD w d = true := by
  cases w with
  | true => obtain ⟨z, rfl, q⟩ := h; exact isWd_word q
  | false =>
    obtain ⟨i, rfl, q0, q1⟩ := h
    show isInt (.int i) = true
    unfold isInt
    simp [q0, q1]
theorem Fm.ok {f : List Col} (h : Fm f) : formD (enF f) = true := by
  have hc : (f.map enCol).all colD = true := by
    rw [List.all_eq_true]
    intro d hd
    obtain ⟨c, hc, rfl⟩ := List.mem_map.mp hd
    show (isWd (.str c.1) && kindD (.str (kindS c.2))) = true
    rw [isWd_word (h.wd c hc)]
    cases c.2 <;> decide +kernel
  have hn : (f.map enCol).map nmD = f.map (·.1) := by rw [List.map_map]; rfl
  show (decide (1 ≤ (f.map enCol).length) && decide ((f.map enCol).length ≤ 6) && (f.map enCol).all colD && decide ((f.map enCol).map nmD).Nodup) = true
  rw [hc, hn, List.length_map, decide_eq_true h.l1, decide_eq_true h.l6, decide_eq_true h.nd]
  rfl
theorem map_eraseIdxT {α β : Type} (f : α → β) : ∀ (l : List α) (i : Nat), (l.map f).eraseIdx i = (l.eraseIdx i).map f
  | [], i => by simp
  | a :: r, 0 => rfl
  | a :: r, i + 1 => by rw [List.map_cons, List.eraseIdx_cons_succ, List.eraseIdx_cons_succ, List.map_cons, map_eraseIdxT f r i]
theorem erase_permT {α : Type} : ∀ {l : List α} {i : Nat} (h : i < l.length), (l[i] :: l.eraseIdx i).Perm l
  | a :: r, 0, _ => List.Perm.refl _
  | a :: r, i + 1, h => by
    rw [List.eraseIdx_cons_succ, List.getElem_cons_succ]
    exact (List.Perm.swap a _ _).trans (List.Perm.cons a (erase_permT (l := r) (i := i) (by simpa using h)))
theorem r_pop {n : Nat} {xs : List D} {d : D} {i : Int} {S : Sto} {Q : D → Sto → Prop} {E : Exc → Sto → Prop} (h : cellAt S n = some (.lst xs)) (h0 : 0 ≤ i) (h1 : i < 1000) (hx : xs[i.toNat]? = some d) (q : ∀ S', S'.length = S.length → cellAt S' n = some (.lst (xs.eraseIdx i.toNat)) → Keep [n] S S' → Q d S') : Ru (bmR .pop1 (.ref n) [.int i] S) Q E := by
  show Ru (bmPop S (.ref n) [.int i]) Q E
  unfold bmPop
  dsimp only
  rw [h]
  dsimp only
  rw [hx]
  dsimp only
  rw [ru_ck, ru_ok]
  exact ⟨⟨h0, by omega⟩, q _ setAt_len (cell_setS (by rw [h]; rfl)) Keep.set⟩
theorem bi_tupB {n : Nat} {xs : List D} {S : Sto} (h : cellAt S n = some (.lst xs)) : biR .tuple1 [.ref n] S = .ok (.tup xs) S := by
  show biTuple S [.ref n] = _
  unfold biTuple
  dsimp only
  rw [seqOf_ref, h]


end
section
/-! ### dicts by their keys -/
set_option maxHeartbeats 400000
section
variable {kvs : List (L2.Key × D)} {κ κ' : L2.Key} {d d' : D} {ws : List Bool} {last n : Int} {xs ys : List D}
theorem dGet_mem : ∀ {kvs : List (L2.Key × D)}, dGet kvs κ = some d → (κ, d) ∈ kvs
  | [], h => nomatch h
  | (k', d') :: r, h => by
    unfold dGet at h
    by_cases e : k' = κ
    · rw [List.find?_cons_of_pos (by simpa using e)] at h
      cases h
      subst e
      exact List.mem_cons_self ..
    · rw [List.find?_cons_of_neg (by simpa using e)] at h
      exact List.mem_cons_of_mem _ (dGet_mem h)
theorem dGet_of : ∀ {kvs : List (L2.Key × D)}, (kvs.map (·.1)).Nodup → (κ, d) ∈ kvs → dGet kvs κ = some d
  | (k', d') :: r, nd, h => by
    rw [List.map_cons, List.nodup_cons] at nd
    unfold dGet
    rcases List.mem_cons.mp h with e | h
    · cases e
      rw [List.find?_cons_of_pos (by simp)]
      rfl
    · have ne : k' ≠ κ := fun e => nd.1 (by rw [e]; exact List.mem_map.mpr ⟨_, h, rfl⟩)
      rw [List.find?_cons_of_neg (by simpa using ne)]
      exact dGet_of nd.2 h
theorem any_key : (kvs.any fun kv => decide (kv.1 = κ)) = true ↔ κ ∈ kvs.map (·.1) := by
  rw [List.any_eq_true, List.mem_map]
  exact ⟨fun ⟨kv, h1, h2⟩ => ⟨kv, h1, by simpa using h2⟩, fun ⟨kv, h1, h2⟩ => ⟨kv, h1, by simpa using h2⟩⟩
theorem dPut_new (h : κ ∉ kvs.map (·.1)) : dPut kvs κ d = kvs ++ [(κ, d)] := by
  unfold dPut
  rw [if_neg fun z => h (any_key.mp z)]
end
theorem mergeD_nd {es : List (L2.Key × D)} (nd : (es.map (·.1)).Nodup) : mergeD es = es := by
  have go : ∀ (es acc : List (L2.Key × D)), ((acc ++ es).map (·.1)).Nodup → es.foldl (fun acc kv => dPut acc kv.1 kv.2) acc = acc ++ es := by
    intro es
    induction es with
    | nil => intro acc _; rw [List.append_nil]; rfl
    | cons kv r ih =>
      intro acc h
      rw [List.foldl_cons, dPut_new ?_, ih, List.append_assoc]
      · rfl
      · rw [List.append_assoc]
        exact h
      · rw [List.map_append, List.nodup_append] at h
        intro hm
        exact h.2.2 _ hm _ (by simp) rfl
  have := go es [] (by simpa using nd)
  rw [List.nil_append] at this
  exact this


end
section
/-! ### odd things, by any name -/
set_option maxHeartbeats 400000
end
section
/-! ### keys, texts told -/
set_option maxHeartbeats 400000
def hpB : D → Bool
  | .str z => z == "heap"
  | _ => false
def nilB : D → Bool
  | .tup [] => true
  | _ => false
def elB (ns : List Str) : D → Bool
  | .str z => ns.any fun y => y == z
  | _ => false
abbrev stB : D → Bool := elB ["heap", "sorted", "hashed"]
def keyH (hi : Nat) (ns : List Str) : D → Bool
  | .tup xs => decide (1 ≤ xs.length) && decide (xs.length ≤ hi) && xs.all (elB ns) && decide (xs.map txS).Nodup
  | _ => false
where txS : D → Str
  | .str z => z
  | _ => ""
abbrev wF : Option Str := some "form"
abbrev wK : Option Str := some "kind"
abbrev wO : Option Str := some "key"
abbrev keyB : List Str → D → Bool := keyH 3
/-- the wrong part of what makes no store; fo: is it a form, ns: its names -/
def part (fo : Bool) (ns : List Str) (kd od : D) : Option Str :=
  if fo = false then wF else if stB kd = false then wK else if hpB kd = true then (if nilB od = true then none else wO) else if keyB ns od = true then none else wO
theorem el_strs {ns : List Str} : ∀ {xs : List D}, xs.all (elB ns) = true → xs = (xs.map keyH.txS).map .str
  | [], _ => rfl
  | x :: xs, h => by
    rw [List.all_cons, Bool.and_eq_true] at h
    rw [List.map_cons, List.map_cons, ← el_strs h.2]
    cases x <;> first | rfl | cases h.1
theorem strsD_id : ∀ zs : List Str, strsD (zs.map D.str) = some zs
  | [] => rfl
  | z :: zs => by
    show (strsD (zs.map D.str)).map (z :: ·) = _
    rw [strsD_id zs]
    rfl
end
section
/-! ### plain data, put together -/
set_option maxHeartbeats 400000
theorem addT14 {xs ys : List D} {box : Bool} {S : Sto} {Q : D → Sto → Prop} {E : Exc → Sto → Prop} (c : xs.length + ys.length ≤ 2000) (q : Q (.tup (xs ++ ys)) S) : Ru (binR box .add (.tup xs) (.tup ys) S) Q E :=
  Ru.eq (show binR box .add (.tup xs) (.tup ys) S = .ok (.tup (xs ++ ys)) S from ck_of (by rw [sizeLine_eq]; omega)) q
theorem cut_sub {α : Type} {xs : List α} {lo hi : Option Int} : (cutD xs lo hi).Sublist xs := (List.take_sublist _ _).trans (List.drop_sublist _ _)
theorem r_idxL {a : Int} {S : Sto} {xs : List D} {Q : D → Sto → Prop} {E : Exc → Sto → Prop} (a0 : 0 ≤ a) (a1 : a < xs.length) (q : ∀ x ∈ xs, Q x S) : Ru (idxR (.lst xs) (.int a) S) Q E := by
  have hc : a.toNat < xs.length := by omega
  refine Ru.eq (a := xs[a.toNat]) (S := S) ?_ (q _ (List.getElem_mem hc))
  show (match (if 0 ≤ a then xs[a.toNat]? else _) with | some d => R.ok d S | none => .err) = _
  rw [if_pos a0, List.getElem?_eq_getElem hc]
end
section
/-! ### columns, of any thing -/
set_option maxHeartbeats 400000
def keyR (lo hi : Nat) (ns : List Str) : D → Bool
  | .tup xs => decide (lo ≤ xs.length) && decide (xs.length ≤ hi) && xs.all (elB ns) && decide (xs.map keyH.txS).Nodup
  | _ => false
theorem fzs_strs2 : ∀ zs : List Str, D.fzs (zs.map .str) = true ∧ D.dps (zs.map .str) = 0
  | [] => ⟨rfl, rfl⟩
  | a :: r => by
    obtain ⟨h1, h2⟩ := fzs_strs2 r
    exact ⟨by rw [List.map_cons, D.fzs, h1]; rfl, by rw [List.map_cons, D.dps, h2]; rfl⟩
section
variable {k : Nat} {d od : D} {S : Sto} {f : List Col} {ns : List Str} {lo hi : Nat} {a b : Int} {Q : D → Sto → Prop} {E : Exc → Sto → Prop}
theorem names26 (l6 : f.length ≤ 6) (q : Q (.tup ((f.map (·.1)).map .str)) S) : Ru (callN Tb (k + 1) 6 [enF f] S) Q E := by
  refine Ru.def (fn := ⟨1, 3, p_names_of⟩) rfl rfl ?_; simp only [List.map_cons, List.map_nil, List.length_cons, List.length_nil, Nat.reduceAdd, Nat.reduceSub, List.replicate_succ, List.replicate_zero, List.cons_append, List.nil_append]
  and_intros
  refine Ru.lcm enCol (fun c => [.str c.1]) trivial (fun c _ => ?_) ?_
  · obtain ⟨z, w⟩ := c
    and_intros
    exact ⟨rfl, rfl⟩
  rw [flat_oneB]
  refine ⟨by rw [List.length_map]; exact sz_le (by omega), ?_⟩
  and_intros
  rw [List.map_map] at q
  exact q
theorem in26 {z : Str} {zs : List Str} {x : D} (hx : x = .tup (zs.map .str) ∨ x = .lst (zs.map .str)) (q : Q (.bl (zs.any fun y => y == z)) S) : Ru (cmpR .isIn (.str z) x S) Q E := by
  obtain ⟨h1, h2⟩ := fzs_strs2 zs
  have e : (zs.map D.str).any (fun w => w.eqv (.str z)) = zs.any fun y => y == z := by
    rw [List.any_map]
    exact congrArg (fun g => zs.any g) (funext fun y => by simp [D.eqv])
  rcases hx with rfl | rfl
  · rw [ru_in (ys := zs.map .str) rfl (fun _ h => by cases h), e]
    exact ⟨⟨by simp [D.fz], by simp [D.dp], h1, by omega⟩, q⟩
  · rw [ru_in (ys := zs.map .str) rfl (fun _ h => by cases h), e]
    exact ⟨⟨by simp [D.fz], by simp [D.dp], h1, by omega⟩, q⟩
theorem one26 (h : d.fz = true) (q : Q (.bl (elB ns d)) S) : Ru (callN Tb (k + 1) 2 [d, .tup (ns.map .str)] S) Q E := by
  refine Ru.def (fn := ⟨2, 2, p_is_one_of⟩) rfl rfl ?_; simp only [List.map_cons, List.map_nil, List.length_cons, List.length_nil, Nat.reduceAdd, Nat.reduceSub, List.replicate_succ, List.replicate_zero, List.cons_append, List.nil_append]
  and_intros
  refine ru_isiF h (by simp) ?_
  and_intros
  cases ht : isI "str" d with
  | false =>
    have e : elB ns d = false := by cases d <;> first | rfl | exact absurd rfl (isI_strF ht _)
    rw [e] at q
    and_intros
    exact q
  | true =>
    obtain ⟨z, rfl⟩ := isI_str ht
    and_intros
    exact in26 (.inl rfl) q
theorem acols_ru (ha : a = lo) (hb : b = hi) (h100 : hi ≤ 100) (l6 : f.length ≤ 6) (of : od.fz = true) (op : od.dp ≤ 60) (q : Q (.bl (keyR lo hi (f.map (·.1)) od)) S) : Ru (callN Tb (k + 2) 7 [enF f, od, .int a, .int b] S) Q E := by
  refine Ru.def (fn := ⟨4, 5, p_are_columns⟩) rfl rfl ?_; simp only [List.map_cons, List.map_nil, List.length_cons, List.length_nil, Nat.reduceAdd, Nat.reduceSub, List.replicate_succ, List.replicate_zero, List.cons_append, List.nil_append]
  and_intros
  refine tupof_ru (lo := lo) (hi := hi) of ha hb ?_
  cases ot : tupIn lo hi od with
  | false =>
    have e : keyR lo hi (f.map (·.1)) od = false := by
      cases od with
      | tup xs =>
        have : (decide (lo ≤ xs.length) && decide (xs.length ≤ hi)) = false := ot
        show (decide (lo ≤ xs.length) && decide (xs.length ≤ hi) && _ && _) = false
        rw [this]
        rfl
      | _ => rfl
    rw [e] at q
    and_intros
    exact q
  | true =>
    obtain ⟨xs, rfl⟩ : ∃ xs, od = .tup xs := by cases od <;> first | exact ⟨_, rfl⟩ | cases ot
    have lx : (decide (lo ≤ xs.length) && decide (xs.length ≤ hi)) = true := ot
    have kb : keyR lo hi (f.map (·.1)) (.tup xs) = (xs.all (elB (f.map (·.1))) && decide (xs.map keyH.txS).Nodup) := by
      show (decide (lo ≤ xs.length) && decide (xs.length ≤ hi) && _ && _) = _
      rw [lx, Bool.true_and]
    have l3 : xs.length ≤ hi := by rw [Bool.and_eq_true] at lx; exact of_decide_eq_true lx.2
    and_intros
    refine Ru.lcp (f := fun x => [.bl (elB (f.map (·.1)) x)]) trivial (fun x hx => ?_) ?_
    · obtain ⟨fx, px⟩ := tup_parts of op x hx
      and_intros
      refine names26 l6 ?_
      and_intros
      refine one26 fx ?_
      exact ⟨rfl, rfl⟩
    rw [flat_oneB]
    refine ⟨by rw [List.length_map]; exact sz_le (show xs.length ≤ 1000 by omega), ?_⟩
    and_intros
    dsimp only
    generalize f.map (·.1) = ns at q kb ⊢
    cases hal : xs.all (elB ns) with
    | false =>
      rw [kb, hal] at q
      and_intros
      exact q
    | true =>
      rw [kb, hal, Bool.true_and] at q
      have hx := el_strs hal
      generalize xs.map keyH.txS = zs at q hx
      subst hx
      rw [List.length_map] at l3
      and_intros
      refine r_lenS (ks := zs.map Sum.inr) rfl (keysD_strs _) (by rw [List.length_map]; omega) ?_
      and_intros
      rw [List.length_map]
      by_cases hn : zs.Nodup
      · rw [show manyK (zs.map (Sum.inr (α := Int))) = zs.length from (many_eq.mpr ((nodup_mapI fun a b h => Sum.inr.inj h).mpr hn)).trans (List.length_map ..), beq_self_eq_true]
        rw [decide_eq_true hn] at q
        exact q
      · have e : ¬ manyK (zs.map (Sum.inr (α := Int))) = zs.length := fun z => hn ((nodup_mapI fun a b h => Sum.inr.inj h).mp (many_eq.mp (z.trans (List.length_map ..).symm)))
        rw [decide_eq_false hn] at q
        rw [show (((manyK (zs.map (Sum.inr (α := Int))) : Nat) : Int) == (zs.length : Int)) = false from beq_eq_false_iff_ne.mpr (by omega)]
        exact q
end


end
section
/-! ### plain data: how deep, how wide -/
set_option maxHeartbeats 400000
structure FD (n w : Nat) (d : D) : Prop where
  fz : d.fz = true
  dp : d.dp ≤ n
  wd : d.wd w = true
section
variable {n m w v : Nat} {d x : D} {xs ys : List D} {lo hi : Option Int}
theorem fzs_all : ∀ {xs : List D}, (∀ x ∈ xs, x.fz = true) → D.fzs xs = true
  | [], _ => rfl
  | x :: xs, h => by rw [D.fzs, h x List.mem_cons_self, fzs_all fun y hy => h y (List.mem_cons_of_mem _ hy)]; rfl
theorem dps_all : ∀ {xs : List D}, (∀ x ∈ xs, x.dp ≤ n) → D.dps xs ≤ n
  | [], _ => Nat.zero_le _
  | x :: xs, h => by
    rw [D.dps]
    have := h x List.mem_cons_self
    have := dps_all fun y hy => h y (List.mem_cons_of_mem _ hy)
    omega
mutual
theorem wd_up (le : w ≤ v) : ∀ d : D, d.wd w = true → d.wd v = true
  | .tup xs, h => by
    simp only [D.wd, Bool.and_eq_true, decide_eq_true_eq] at h ⊢
    exact ⟨by omega, wds_up le xs h.2⟩
  | .lst xs, h => by
    simp only [D.wd, Bool.and_eq_true, decide_eq_true_eq] at h ⊢
    exact ⟨by omega, wds_up le xs h.2⟩
  | .scr xs, h => by
    simp only [D.wd, Bool.and_eq_true, decide_eq_true_eq] at h ⊢
    exact ⟨by omega, wds_up le xs h.2⟩
  | .non, _ => rfl
  | .bl _, _ => rfl
  | .int _, _ => rfl
  | .str _, _ => rfl
  | .ref _, _ => rfl
  | .ins _ _, _ => rfl
  | .ty _, _ => rfl
  | .ntp _, _ => rfl
  | .exv _ _ _, _ => rfl
  | .wtp _, _ => rfl
theorem wds_up (le : w ≤ v) : ∀ xs : List D, D.wds w xs = true → D.wds v xs = true
  | [], _ => rfl
  | x :: xs, h => by
    simp only [D.wds, Bool.and_eq_true] at h ⊢
    exact ⟨wd_up le x h.1, wds_up le xs h.2⟩
end
theorem FD.up (h : FD n w d) (a : n ≤ m) (b : w ≤ v) : FD m v d := ⟨h.fz, Nat.le_trans h.dp a, wd_up b d h.wd⟩
theorem FD.tup (h : ∀ x ∈ xs, FD n w x) (l : xs.length ≤ w) : FD (n + 1) w (.tup xs) := by
  refine ⟨by rw [D.fz]; exact fzs_all fun x hx => (h x hx).fz, ?_, ?_⟩
  · rw [D.dp]
    have := dps_all fun x hx => (h x hx).dp
    omega
  · simp only [D.wd, Bool.and_eq_true, decide_eq_true_eq]
    exact ⟨l, wds_of fun x hx => (h x hx).wd⟩
theorem FD.lst (h : ∀ x ∈ xs, FD n w x) (l : xs.length ≤ w) : FD (n + 1) w (.lst xs) := by
  refine ⟨by rw [D.fz]; exact fzs_all fun x hx => (h x hx).fz, ?_, ?_⟩
  · rw [D.dp]
    have := dps_all fun x hx => (h x hx).dp
    omega
  · simp only [D.wd, Bool.and_eq_true, decide_eq_true_eq]
    exact ⟨l, wds_of fun x hx => (h x hx).wd⟩
theorem FD.its (h : FD (n + 1) w (.tup xs)) : xs.length ≤ w ∧ ∀ x ∈ xs, FD n w x := by
  have h1 := h.fz
  have h2 := h.dp
  have h3 := h.wd
  rw [D.fz] at h1
  rw [D.dp] at h2
  simp only [D.wd, Bool.and_eq_true, decide_eq_true_eq] at h3
  exact ⟨h3.1, fun x hx => ⟨fzs_mem h1 x hx, mem_dp (by omega) x hx, wds_get h3.2 x hx⟩⟩
theorem FD.str (z : Str) : FD n w (.str z) := ⟨by simp [D.fz], by simp [D.dp], rfl⟩
theorem FD.int (i : Int) : FD n w (.int i) := ⟨by simp [D.fz], by simp [D.dp], rfl⟩
theorem FD.bl (i : Bool) : FD n w (.bl i) := ⟨by simp [D.fz], by simp [D.dp], rfl⟩
theorem FD.non : FD n w .non := ⟨by simp [D.fz], by simp [D.dp], rfl⟩
theorem FD.strs {zs : List Str} : ∀ x ∈ zs.map D.str, FD n w x := fun x hx => by
  obtain ⟨z, _, rfl⟩ := List.mem_map.mp hx
  exact FD.str z
theorem FD.app {P : D → Prop} (h : ∀ x ∈ xs, P x) (g : ∀ x ∈ ys, P x) : ∀ x ∈ xs ++ ys, P x := fun x hx => (List.mem_append.mp hx).elim (h x) (g x)
theorem FD.cut {P : D → Prop} (h : ∀ x ∈ xs, P x) : ∀ x ∈ cutD xs lo hi, P x := fun x hx => h x (cut_sub.subset hx)
theorem FD.rev {P : D → Prop} (h : ∀ x ∈ xs, P x) : ∀ x ∈ xs.reverse, P x := fun x hx => h x (List.mem_reverse.mp hx)
theorem cut_len : (cutD xs lo hi).length ≤ xs.length := cut_sub.length_le
end
section
variable {k b n w : Nat} {z : Str} {S : Sto} {Q : D → Sto → Prop} {E : Exc → Sto → Prop}
end


end
section
/-! ### conditions, of any thing -/
set_option maxHeartbeats 400000
def isN : D → Bool
  | .non => true
  | _ => false
def bdB (w : Bool) (d : D) : Bool := isN d || valD w d
def condB (f : List Col) : D → Bool
  | .tup [.str z, .str s, v] => (match f.lookup z with
    | some w => s == "is" && valD w v
    | none => false)
  | .tup [.str z, .str s, u, v] => (match f.lookup z with
    | some w => s == "from" && (!(isN u && isN v) && (bdB w u && bdB w v))
    | none => false)
  | _ => false
def kdF (f : List Col) : List (L2.Key × D) := f.map fun c => (.inr c.1, .str (kindS c.2))
theorem pairsF : ∀ f : List Col, pairsD (f.map enCol) = some (kdF f)
  | [] => rfl
  | c :: r => by
    show (pairsD (r.map enCol)).map (((Sum.inr c.1 : L2.Key), D.str (kindS c.2)) :: ·) = _
    rw [pairsF r]
    rfl
theorem kdF_nd {f : List Col} (nd : (f.map (·.1)).Nodup) : ((kdF f).map (·.1)).Nodup := by
  unfold kdF
  rw [List.map_map]
  have : (f.map ((fun kv : L2.Key × D => kv.1) ∘ fun c : Col => ((Sum.inr c.1 : L2.Key), D.str (kindS c.2)))) = (f.map (·.1)).map Sum.inr := by rw [List.map_map]; rfl
  rw [this]
  exact (nodup_mapI fun a b h => Sum.inr.inj h).mpr nd
theorem look_mem {z : Str} {w : Bool} : ∀ {f : List Col}, f.lookup z = some w → (z, w) ∈ f
  | [], h => by cases h
  | (y, v) :: r, h => by
    rw [List.lookup_cons] at h
    cases e : z == y with
    | true =>
      rw [e] at h
      have e1 : z = y := by simpa using e
      have e2 : v = w := by simpa using h
      rw [e1, e2]
      exact List.mem_cons_self
    | false =>
      rw [e] at h
      exact List.mem_cons_of_mem _ (look_mem h)
theorem look_el {z : Str} : ∀ {f : List Col}, elB (f.map (·.1)) (.str z) = (f.lookup z).isSome
  | [] => rfl
  | (y, v) :: r => by
    have ih := look_el (z := z) (f := r)
    show ((y == z) || (r.map (·.1)).any fun y => y == z) = _
    have ih : ((r.map (·.1)).any fun y => y == z) = (r.lookup z).isSome := ih
    rw [ih, List.lookup_cons, show (y == z) = (z == y) from Bool.beq_comm]
    cases z == y <;> rfl
theorem kdF_get {f : List Col} (nd : (f.map (·.1)).Nodup) {z : Str} {w : Bool} (h : f.lookup z = some w) : dGet (kdF f) (.inr z) = some (.str (kindS w)) := dGet_of (kdF_nd nd) (List.mem_map.mpr ⟨_, look_mem h, rfl⟩)
theorem cond_no {f : List Col} {x0 : D} {r : List D} (h : elB (f.map (·.1)) x0 = false) : condB f (.tup (x0 :: r)) = false := by
  unfold condB
  split
  · rename_i z s v e
    cases e
    rw [look_el] at h
    cases e : f.lookup z with
    | none => rfl
    | some w => rw [e] at h; cases h
  · rename_i z s u v e
    cases e
    rw [look_el] at h
    cases e : f.lookup z with
    | none => rfl
    | some w => rw [e] at h; cases h
  · rfl
theorem word_no {s : Str} (h : elB ["is", "from"] (.str s) = false) : (s == ("is" : Str)) = false ∧ (s == ("from" : Str)) = false := by
  have h : ((("is" : Str) == s) || ((("from" : Str) == s) || false)) = false := h
  rw [Bool.or_eq_false_iff, Bool.or_eq_false_iff] at h
  exact ⟨Bool.beq_comm.trans h.1, Bool.beq_comm.trans h.2.1⟩
theorem cond_no1 {f : List Col} {x0 x1 : D} {r : List D} (h : elB ["is", "from"] x1 = false) : condB f (.tup (x0 :: x1 :: r)) = false := by
  unfold condB
  split
  · rename_i z s v e
    cases e
    obtain ⟨h1, h2⟩ := word_no h
    split
    · rw [h1]; rfl
    · rfl
  · rename_i z s u v e
    cases e
    obtain ⟨h1, h2⟩ := word_no h
    split
    · rw [h2]; rfl
    · rfl
  · rfl
theorem word_yes {x1 : D} (h : elB ["is", "from"] x1 = true) : x1 = .str "is" ∨ x1 = .str "from" := by
  cases x1 with
  | str s =>
    have h : ((("is" : Str) == s) || ((("from" : Str) == s) || false)) = true := h
    rw [Bool.or_false, Bool.or_eq_true] at h
    rcases h with h | h
    · exact .inl (by rw [show ("is" : Str) = s by simpa using h])
    · exact .inr (by rw [show ("from" : Str) = s by simpa using h])
  | _ => cases h
theorem isf : (("from" : Str) == ("is" : Str)) = false ∧ (("is" : Str) == ("from" : Str)) = false := by decide +kernel
section
variable {k : Nat} {d : D} {S : Sto} {f : List Col} {w : Bool} {Q : D → Sto → Prop} {E : Exc → Sto → Prop}
theorem bound26 (h : d.fz = true) (q : Q (.bl (bdB w d)) S) : Ru (callN Tb (k + 3) 8 [.str (kindS w), d] S) Q E := by
  refine Ru.def (fn := ⟨2, 2, p_is_bound⟩) rfl rfl ?_; simp only [List.map_cons, List.map_nil, List.length_cons, List.length_nil, Nat.reduceAdd, Nat.reduceSub, List.replicate_succ, List.replicate_zero, List.cons_append, List.nil_append]
  and_intros
  by_cases hn : d = .non
  · subst hn
    and_intros
    exact q
  · have e : isN d = false := by cases d <;> first | rfl | exact absurd rfl hn
    rw [show bdB w d = valD w d by unfold bdB; rw [e]; rfl] at q
    rw [if_neg (by cases d <;> first | exact absurd rfl hn | simp)]
    and_intros
    refine Ru.eq (value_known h) ?_
    and_intros
    exact q
theorem cond_ru (nd : (f.map (·.1)).Nodup) (l6 : f.length ≤ 6) (hf : d.fz = true) (hp : d.dp ≤ 60) (q : ∀ S', Keep [] S S' → Q (.bl (condB f d)) S') : Ru (callN Tb (k + 4) 9 [enF f, d] S) Q E := by
  refine Ru.def (fn := ⟨2, 9, p_is_condition⟩) rfl rfl ?_; simp only [List.map_cons, List.map_nil, List.length_cons, List.length_nil, Nat.reduceAdd, Nat.reduceSub, List.replicate_succ, List.replicate_zero, List.cons_append, List.nil_append]
  and_intros
  refine Ru.lcm enCol (fun c => [enCol c]) trivial (fun c _ => ?_) ?_
  · obtain ⟨z, w⟩ := c
    and_intros
    exact ⟨rfl, rfl⟩
  rw [flat_oneB]
  refine r_mkDct (pairsF f) (by rw [List.length_map]; omega) fun S1 n hn c1 k1 => ?_
  rw [mergeD_nd (kdF_nd nd)] at c1
  have q := q S1 k1
  and_intros
  refine tupof_ru (lo := 3) (hi := 4) hf rfl rfl ?_
  cases ht : tupIn 3 4 d with
  | false =>
    have e : condB f d = false := by
      unfold condB
      split
      · cases ht
      · cases ht
      · rfl
    rw [e] at q
    and_intros
    exact q
  | true =>
    obtain ⟨xs, rfl⟩ : ∃ xs, d = .tup xs := by cases d <;> first | exact ⟨_, rfl⟩ | cases ht
    have hl : (decide (3 ≤ xs.length) && decide (xs.length ≤ 4)) = true := ht
    rw [Bool.and_eq_true, decide_eq_true_eq, decide_eq_true_eq] at hl
    have par := tup_parts hf hp
    match xs, hl, par with
    | [x0, x1, v], _, par =>
      and_intros
      refine names26 l6 ?_
      and_intros
      refine one26 (par x0 (by simp)).1 ?_
      cases he : elB (f.map (·.1)) x0 with
      | false =>
        rw [cond_no he] at q
        and_intros
        exact q
      | true =>
        obtain ⟨z, rfl⟩ : ∃ z, x0 = .str z := by cases x0 <;> first | exact ⟨_, rfl⟩ | cases he
        rw [look_el] at he
        obtain ⟨w, hw⟩ := Option.isSome_iff_exists.mp he
        have hg := kdF_get nd hw
        and_intros
        show Ru (asgs _ _ [.str z, x1, .lst [v]] _ _) _ _
        and_intros
        refine one26 (ns := ["is", "from"]) (par x1 (by simp)).1 ?_
        cases h1 : elB ["is", "from"] x1 with
        | false =>
          rw [cond_no1 h1] at q
          and_intros
          exact q
        | true =>
          rcases word_yes h1 with rfl | rfl
          · and_intros
            refine r_didx c1 (κ := .inr z) rfl hg ?_
            and_intros
            refine Ru.eq (value_known (par v (by simp)).1) ?_
            rw [show condB f (.tup [.str z, .str "is", v]) = valD w v by simp [condB, hw]] at q
            and_intros
            exact q
          · and_intros
            rw [show condB f (.tup [.str z, .str "from", v]) = false by simp [condB, hw, isf]] at q
            exact q
    | [x0, x1, u, v], _, par =>
      and_intros
      refine names26 l6 ?_
      and_intros
      refine one26 (par x0 (by simp)).1 ?_
      cases he : elB (f.map (·.1)) x0 with
      | false =>
        rw [cond_no he] at q
        and_intros
        exact q
      | true =>
        obtain ⟨z, rfl⟩ : ∃ z, x0 = .str z := by cases x0 <;> first | exact ⟨_, rfl⟩ | cases he
        rw [look_el] at he
        obtain ⟨w, hw⟩ := Option.isSome_iff_exists.mp he
        have hg := kdF_get nd hw
        and_intros
        show Ru (asgs _ _ [.str z, x1, .lst [u, v]] _ _) _ _
        and_intros
        refine one26 (ns := ["is", "from"]) (par x1 (by simp)).1 ?_
        cases h1 : elB ["is", "from"] x1 with
        | false =>
          rw [cond_no1 h1] at q
          and_intros
          exact q
        | true =>
          rcases word_yes h1 with rfl | rfl
          · and_intros
            rw [show condB f (.tup [.str z, .str "is", u, v]) = false by simp [condB, hw, isf]] at q
            exact q
          · and_intros
            have cb : condB f (.tup [.str z, .str "from", u, v]) = (!(isN u && isN v) && (bdB w u && bdB w v)) := by simp [condB, hw]
            rw [cb] at q
            have fl : (D.lst [u, v]).fz = true := by rw [D.fz, D.fzs, D.fzs, (par u (by simp)).1, (par v (by simp)).1]; rfl
            have pu := (par u (by simp)).2
            have pv := (par v (by simp)).2
            rw [ru_ne fl (by simp [D.fz, D.fzs])]
            refine ⟨⟨by simp only [D.dp, D.dps]; omega, by simp [D.dp, D.dps]⟩, ?_⟩
            rw [show (D.lst [u, v]).eqv (.lst [.non, .non]) = (isN u && isN v) by cases u <;> cases v <;> simp [D.eqv, D.eqvs, isN]]
            cases hb : isN u && isN v with
            | true =>
              rw [hb] at q
              and_intros
              exact q
            | false =>
              rw [hb] at q
              and_intros
              refine Ru.lcp (f := fun x => [.bl (bdB w x)]) trivial (fun x hx => ?_) ?_
              · and_intros
                refine r_didx c1 (κ := .inr z) rfl hg ?_
                and_intros
                refine bound26 (par x (by simp at hx; rcases hx with rfl | rfl <;> simp)).1 ?_
                exact ⟨rfl, rfl⟩
              rw [flat_oneB]
              refine ⟨by show 2 ≤ sizeLine; decide, ?_⟩
              and_intros
              simpa using q
end
theorem kdF_none {f : List Col} {z : Str} (h : f.lookup z = none) : dGet (kdF f) (.inr z) = none := by
  cases e : dGet (kdF f) (.inr z) with
  | none => rfl
  | some d =>
    obtain ⟨c, hc, ec⟩ := List.mem_map.mp (dGet_mem e)
    cases ec
    have : elB (f.map (·.1)) (.str c.1) = true := List.any_eq_true.mpr ⟨c.1, List.mem_map_of_mem hc, beq_self_eq_true _⟩
    rw [look_el, h] at this
    cases this


end
section
/-! ### tuples of conditions; an ask's fault -/
set_option maxHeartbeats 400000
def cnm : D → Str
  | .tup (.str z :: _) => z
  | _ => ""
def cnB (f : List Col) : D → Bool
  | .tup xs => decide (xs.length ≤ 6) && xs.all (condB f) && decide (xs.map cnm).Nodup
  | _ => false
theorem cond_str {f : List Col} {d : D} (h : condB f d = true) : ∃ z r, d = .tup (.str z :: r) := by
  unfold condB at h
  split at h
  · exact ⟨_, _, rfl⟩
  · exact ⟨_, _, rfl⟩
  · cases h
def whB : D → Bool
  | .int i => decide (1 ≤ i) && decide (i ≤ 20)
  | _ => false
def frB (d : D) : Bool := isN d || whB d
theorem int_kinds : (∀ i, isI "int" (.int i) = true) ∧ ∀ i, isI "bool" (.int i) = false := by
  have f := kit_facts
  exact ⟨fun i => by simp [isI, tyD, f], fun i => by simp [isI, tyD, f]⟩
/-- the place of the first thing that isn't as an ask's, 0 of what is no tuple of four -/
def fltB (f : List Col) : D → Option Int
  | .tup [w, c, o, n] => if keyR 1 f.length (f.map (·.1)) w = false then some 1 else if cnB f c = false then some 2 else if keyR 0 4 (f.map (·.1)) o = false then some 3 else if frB n = false then some 4 else none
  | _ => some 0
def fltD : Option Int → D
  | none => .non
  | some i => .int i
section
variable {k : Nat} {d : D} {S : Sto} {f : List Col} {w : Bool} {Q : D → Sto → Prop} {E : Exc → Sto → Prop}
theorem conds_ru (nd : (f.map (·.1)).Nodup) (l6 : f.length ≤ 6) (hf : d.fz = true) (hp : d.dp ≤ 60) (q : ∀ S', Keep [] S S' → Q (.bl (cnB f d)) S') : Ru (callN Tb (k + 5) 10 [enF f, d] S) Q E := by
  refine Ru.def (fn := ⟨2, 3, p_are_conditions⟩) rfl rfl ?_; simp only [List.map_cons, List.map_nil, List.length_cons, List.length_nil, Nat.reduceAdd, Nat.reduceSub, List.replicate_succ, List.replicate_zero, List.cons_append, List.nil_append]
  and_intros
  refine tupof_ru (lo := 0) (hi := 6) hf rfl rfl ?_
  cases ht : tupIn 0 6 d with
  | false =>
    have e : cnB f d = false := by
      cases d with
      | tup xs =>
        have ht : (decide (0 ≤ xs.length) && decide (xs.length ≤ 6)) = false := ht
        rw [decide_eq_true (Nat.zero_le _), Bool.true_and] at ht
        show (decide (xs.length ≤ 6) && _ && _) = false
        rw [ht]
        rfl
      | _ => rfl
    have q := q S Keep.refl
    rw [e] at q
    and_intros
    exact q
  | true =>
    obtain ⟨xs, rfl⟩ : ∃ xs, d = .tup xs := by cases d <;> first | exact ⟨_, rfl⟩ | cases ht
    have hl : (decide (0 ≤ xs.length) && decide (xs.length ≤ 6)) = true := ht
    rw [Bool.and_eq_true, decide_eq_true_eq, decide_eq_true_eq] at hl
    have par := tup_parts hf hp
    have cb : cnB f (.tup xs) = (xs.all (condB f) && decide (xs.map cnm).Nodup) := by
      show (decide (xs.length ≤ 6) && _ && _) = _
      rw [decide_eq_true hl.2, Bool.true_and]
    and_intros
    refine Ru.lc (fun i ys S' => ys = (xs.take i).map (fun x => D.bl (condB f x)) ∧ Keep [] S S') ⟨rfl, Keep.refl⟩ (fun _ _ _ _ => trivial) (fun i d ys S' hd ⟨e1, k2⟩ => ?_) fun ys S' ⟨e1, k2⟩ => ?_
    · subst e1
      have hx : xs[i]? = some d := hd
      obtain ⟨fx, px⟩ := par d (List.mem_of_getElem? hx)
      and_intros
      refine cond_ru nd l6 fx (by omega) fun S2 k3 => ?_
      and_intros
      exact ⟨by rw [List.take_succ, hx, List.map_append]; rfl, k2.trans k3⟩
    · subst e1
      have et : xs.take (Src.fix, xs).snd.length = xs := List.take_length
      rw [et]
      refine ⟨by rw [List.length_map]; exact sz_le (by omega), ?_⟩
      have q := q S' k2
      and_intros
      cases ha : xs.all (condB f) with
      | false =>
        rw [cb, ha] at q
        and_intros
        exact q
      | true =>
        rw [cb, ha, Bool.true_and] at q
        and_intros
        refine Ru.lcp (f := fun x => [D.str (cnm x)]) trivial (fun x hx => ?_) ?_
        · obtain ⟨z, r, rfl⟩ := cond_str (List.all_eq_true.mp ha x hx)
          and_intros
          exact ⟨rfl, rfl⟩
        rw [flat_oneB, show xs.map (fun x => D.str (cnm x)) = (xs.map cnm).map .str by rw [List.map_map]; rfl]
        refine r_lenSC (keysD_strs _) (by rw [List.length_map, List.length_map]; omega) ?_
        and_intros
        by_cases hn : (xs.map cnm).Nodup
        · rw [show manyK ((xs.map cnm).map (Sum.inr (α := Int))) = xs.length from (many_eq.mpr ((nodup_mapI fun a b h => Sum.inr.inj h).mpr hn)).trans (by rw [List.length_map, List.length_map]), beq_self_eq_true]
          rw [decide_eq_true hn] at q
          exact q
        · have e : ¬ manyK ((xs.map cnm).map (Sum.inr (α := Int))) = xs.length := fun z => hn ((nodup_mapI fun a b h => Sum.inr.inj h).mp (many_eq.mp (z.trans (by rw [List.length_map, List.length_map]))))
          rw [decide_eq_false hn] at q
          rw [show (((manyK ((xs.map cnm).map (Sum.inr (α := Int))) : Nat) : Int) == (xs.length : Int)) = false from beq_eq_false_iff_ne.mpr (by omega)]
          exact q
theorem whole20_ru (h : d.fz = true) (q : Q (.bl (whB d)) S) : Ru (callN Tb (k + 1) 0 [d, .int 1, .int 20] S) Q E := by
  obtain ⟨g1, g2⟩ := int_kinds
  refine Ru.def (fn := ⟨3, 3, p_is_whole⟩) rfl rfl ?_; simp only [List.map_cons, List.map_nil, List.length_cons, List.length_nil, Nat.reduceAdd, Nat.reduceSub, List.replicate_succ, List.replicate_zero, List.cons_append, List.nil_append]
  and_intros
  refine ru_isiF h (by simp) ?_
  cases h1 : isI "int" d with
  | false =>
    have e : whB d = false := by
      cases d with
      | int i => rw [g1 i] at h1; cases h1
      | _ => rfl
    rw [e] at q
    and_intros
    exact q
  | true =>
    and_intros
    refine ru_isiF h (by simp) ?_
    cases h2 : isI "bool" d with
    | true =>
      have e : whB d = false := by
        cases d with
        | int i => rw [g2 i] at h2; cases h2
        | _ => rfl
      rw [e] at q
      and_intros
      exact q
    | false =>
      obtain ⟨i, rfl⟩ := isI_int h1 h2
      and_intros
      by_cases h3 : 1 ≤ i
      · rw [if_pos (decide_eq_true h3)]
        and_intros
        rw [show whB (.int i) = decide (i ≤ 20) by show (decide (1 ≤ i) && decide (i ≤ 20)) = _; rw [decide_eq_true h3, Bool.true_and]] at q
        exact q
      · rw [if_neg (by rw [decide_eq_true_eq]; exact h3)]
        and_intros
        rw [show whB (.int i) = false by show (decide (1 ≤ i) && decide (i ≤ 20)) = _; rw [decide_eq_false h3, Bool.false_and]] at q
        exact q
theorem good4 {a b c e : Bool} : biR .all [.lst [.bl a, .bl b, .bl c, .bl e]] S = .ok (.bl (a && (b && (c && e)))) S := by cases a <;> cases b <;> cases c <;> cases e <;> rfl
def plc (a b c : Bool) : Int := if a = false then 0 else if b = false then 1 else if c = false then 2 else 3
theorem place4 {a b c e : Bool} (h : (a && (b && (c && e))) = false) : bmR .index (.lst [.bl a, .bl b, .bl c, .bl e]) [.bl false] S = .ok (.int (plc a b c)) S := by
  show bmIndex S (.lst [.bl a, .bl b, .bl c, .bl e]) [.bl false] = _
  cases a <;> cases b <;> cases c <;> cases e <;> first | (exact absurd h (by decide)) | simp [bmIndex, lstOf, seqOf, List.findIdx?, List.findIdx?.go, D.eqv, D.fzs, D.fz, D.dps, D.dp, ck, plc]
theorem four {a b c e : Bool} : (a && (b && (c && e))) = true → (if a = false then some 1 else if b = false then some 2 else if c = false then some 3 else if e = false then some (4 : Int) else none) = none := by cases a <;> cases b <;> cases c <;> cases e <;> simp
theorem four' {a b c e : Bool} : (a && (b && (c && e))) = false → (if a = false then some 1 else if b = false then some 2 else if c = false then some 3 else if e = false then some (4 : Int) else none) = some (plc a b c + 1) := by cases a <;> cases b <;> cases c <;> cases e <;> simp [plc]
theorem fault_ru (nd : (f.map (·.1)).Nodup) (l1 : 1 ≤ f.length) (l6 : f.length ≤ 6) (hf : d.fz = true) (hp : d.dp ≤ 60) (q : ∀ S', Keep [] S S' → Q (fltD (fltB f d)) S') : Ru (callN Tb (k + 6) 11 [enF f, d] S) Q E := by
  refine Ru.def (fn := ⟨2, 7, p_ask_fault⟩) rfl rfl ?_; simp only [List.map_cons, List.map_nil, List.length_cons, List.length_nil, Nat.reduceAdd, Nat.reduceSub, List.replicate_succ, List.replicate_zero, List.cons_append, List.nil_append]
  and_intros
  refine tupof_ru (lo := 4) (hi := 4) hf rfl rfl ?_
  cases ht : tupIn 4 4 d with
  | false =>
    have e : fltB f d = some 0 := by
      unfold fltB
      split
      · cases ht
      · rfl
    have q := q S Keep.refl
    rw [e] at q
    and_intros
    exact q
  | true =>
    obtain ⟨w, c, o, n, rfl⟩ : ∃ w c o n, d = .tup [w, c, o, n] := by
      cases d with
      | tup xs =>
        have ht : (decide (4 ≤ xs.length) && decide (xs.length ≤ 4)) = true := ht
        rw [Bool.and_eq_true, decide_eq_true_eq, decide_eq_true_eq] at ht
        match xs, ht with
        | [a, b, c, d], _ => exact ⟨a, b, c, d, rfl⟩
      | _ => cases ht
    have par := tup_parts hf hp
    and_intros
    refine acols_ru (lo := 1) (hi := f.length) rfl (by rw [List.length_map]) (by omega) l6 (par w (by simp)).1 (by have := (par w (by simp)).2; omega) ?_
    and_intros
    refine conds_ru nd l6 (par c (by simp)).1 (by have := (par c (by simp)).2; omega) fun S1 k1 => ?_
    and_intros
    refine acols_ru (lo := 0) (hi := 4) rfl rfl (by decide) l6 (par o (by simp)).1 (by have := (par o (by simp)).2; omega) ?_
    and_intros
    have q := q S1 k1
    have qe : fltB f (.tup [w, c, o, n]) = if keyR 1 f.length (f.map (·.1)) w = false then some 1 else if cnB f c = false then some 2 else if keyR 0 4 (f.map (·.1)) o = false then some 3 else if frB n = false then some 4 else none := rfl
    rw [qe] at q
    generalize keyR 1 f.length (f.map (·.1)) w = ka at q ⊢
    generalize cnB f c = kb at q ⊢
    generalize keyR 0 4 (f.map (·.1)) o = kc at q ⊢
    by_cases hn : n = .non
    · subst hn
      and_intros
      dsimp only
      have q : Q (fltD (if ka = false then some 1 else if kb = false then some 2 else if kc = false then some 3 else if true = false then some (4 : Int) else none)) S1 := q
      refine Ru.eq (good4 (e := true)) ?_
      cases hall : (ka && (kb && (kc && true))) with
      | true =>
        rw [four (e := true) hall] at q
        and_intros
        exact q
      | false =>
        rw [four' (e := true) hall] at q
        and_intros
        refine ⟨bm_okN rfl, ?_⟩
        and_intros
        refine Ru.eq (place4 (e := true) hall) ?_
        and_intros
        exact q
    · rw [if_neg (by cases n <;> first | exact absurd rfl hn | simp)]
      and_intros
      refine whole20_ru (par n (by simp)).1 ?_
      have e : frB n = whB n := by
        have : isN n = false := by cases n <;> first | rfl | exact absurd rfl hn
        unfold frB
        rw [this]
        rfl
      rw [e] at q
      generalize whB n = kd at q ⊢
      and_intros
      refine Ru.eq (good4 (e := kd)) ?_
      cases hall : (ka && (kb && (kc && kd))) with
      | true =>
        rw [four (e := kd) hall] at q
        and_intros
        exact q
      | false =>
        rw [four' (e := kd) hall] at q
        and_intros
        refine ⟨bm_okN rfl, ?_⟩
        and_intros
        refine Ru.eq (place4 (e := kd) hall) ?_
        and_intros
        exact q
end
theorem nd_sub {α : Type} : ∀ (l m : List α), l.Nodup → (∀ x ∈ l, x ∈ m) → l.length ≤ m.length
  | [], _, _, _ => Nat.zero_le _
  | x :: l, m, nd, h => by
    obtain ⟨h1, h2⟩ := List.nodup_cons.mp nd
    obtain ⟨a, b, rfl⟩ := List.append_of_mem (h x List.mem_cons_self)
    have := nd_sub l (a ++ b) h2 fun y hy => by
      rcases List.mem_append.mp (h y (List.mem_cons_of_mem _ hy)) with q | q
      · exact List.mem_append_left _ q
      · rcases List.mem_cons.mp q with q | q
        · exact absurd (q ▸ hy) h1
        · exact List.mem_append_right _ q
    simp only [List.length_append, List.length_cons] at this ⊢
    omega
theorem keyR_len {ns : List Str} {od : D} (h : ns.length ≤ 6) : keyR 1 6 ns od = keyR 1 ns.length ns od := by
  cases od with
  | tup xs =>
    show (decide (1 ≤ xs.length) && decide (xs.length ≤ 6) && xs.all (elB ns) && decide (xs.map keyH.txS).Nodup) = (decide (1 ≤ xs.length) && decide (xs.length ≤ ns.length) && xs.all (elB ns) && decide (xs.map keyH.txS).Nodup)
    cases ha : xs.all (elB ns) with
    | false => simp
    | true =>
      by_cases hn : (xs.map keyH.txS).Nodup
      · have hx := el_strs ha
        have hl : xs.length ≤ ns.length := by
          rw [← List.length_map (f := keyH.txS)]
          refine nd_sub _ _ hn fun z hz => ?_
          obtain ⟨x, hxm, rfl⟩ := List.mem_map.mp hz
          have h1 := List.all_eq_true.mp ha x hxm
          cases x with
          | str z =>
            obtain ⟨y, hy, e⟩ := List.any_eq_true.mp (show (ns.any fun y => y == z) = true from h1)
            have : y = z := by simpa using e
            exact this ▸ hy
          | _ => cases h1
        rw [decide_eq_true hl, decide_eq_true (by omega : xs.length ≤ 6)]
      · rw [decide_eq_false hn]
        simp
  | _ => rfl


end
section
/-! ### plain data, put together: tools -/
set_option maxHeartbeats 400000
theorem FD.c {n w : Nat} {x : D} {xs : List D} (h : FD n w x) (t : ∀ y ∈ xs, FD n w y) : ∀ y ∈ x :: xs, FD n w y := List.forall_mem_cons.mpr ⟨h, t⟩
theorem FD.e {n w : Nat} : ∀ y ∈ ([] : List D), FD n w y := fun _ h => nomatch h
theorem r_idxT {a : Int} {S : Sto} {xs : List D} {Q : D → Sto → Prop} {E : Exc → Sto → Prop} (a0 : 0 ≤ a) (a1 : a < xs.length) (q : ∀ x ∈ xs, Q x S) : Ru (idxR (.tup xs) (.int a) S) Q E := by
  have hc : a.toNat < xs.length := by omega
  refine Ru.eq (a := xs[a.toNat]) (S := S) ?_ (q _ (List.getElem_mem hc))
  show (match (if 0 ≤ a then xs[a.toNat]? else _) with | some d => R.ok d S | none => .err) = _
  rw [if_pos a0, List.getElem?_eq_getElem hc]


end
section
/-! ### drawn forms, values, some of these (the laws of the ways) -/
set_option maxHeartbeats 400000
/-- the j-th name's last letter -/
def lastC (sh : Nat) (j : Nat) : Nat := 97 + (sh + 7 * j) % 26
def Lst (sh : Nat) (f : List Col) : Prop := ∀ (j : Nat) (c : Col), f[j]? = some c → ∃ l : List Nat, l.length ≤ 7 ∧ (∀ x ∈ l, 97 ≤ x ∧ x < 123) ∧ c.1.cps.toList = l ++ [lastC sh j]
theorem lastC_lt {sh j : Nat} : 97 ≤ lastC sh j ∧ lastC sh j < 123 := by unfold lastC; omega
theorem Lst.word {sh : Nat} {f : List Col} (h : Lst sh f) : ∀ c ∈ f, Word c.1 := fun c hc => by
  obtain ⟨j, hj⟩ := List.mem_iff_getElem?.mp hc
  obtain ⟨l, l7, ha, e⟩ := h j c hj
  have e1 : c.1.length = l.length + 1 := by
    show c.1.cps.size = _
    rw [← Array.length_toList, e, List.length_append, List.length_singleton]
  refine ⟨by omega, by omega, fun x hx => ?_⟩
  have hx : x ∈ c.1.cps.toList := hx
  rw [e] at hx
  rcases List.mem_append.mp hx with q | q
  · exact ha x q
  · rw [List.mem_singleton.mp q]; exact lastC_lt
theorem Lst.nd {sh : Nat} {f : List Col} (h : Lst sh f) (l6 : f.length ≤ 6) : (f.map (·.1)).Nodup := by
  unfold List.Nodup
  rw [List.pairwise_iff_getElem]
  intro i j hi hj hij e
  rw [List.length_map] at hi hj
  rw [List.getElem_map, List.getElem_map] at e
  obtain ⟨l, _, _, e1⟩ := h i _ (List.getElem?_eq_getElem hi)
  obtain ⟨l', _, _, e2⟩ := h j _ (List.getElem?_eq_getElem hj)
  rw [e, e2] at e1
  have := (List.append_inj' e1 rfl).2
  simp [lastC] at this
  omega
theorem letterN {c : Int} {S : Sto} (h0 : 0 ≤ c) (h1 : c < 26) : idxR (.str lettersS) (.int c) S = .ok (.str ⟨#[97 + c.toNat]⟩) S := by
  have e : lettersS.cps.toList[c.toNat]? = some (97 + c.toNat) := by
    rw [letters_list, List.getElem?_map, List.getElem?_range (by omega)]
    rfl
  show (match (if 0 ≤ c then lettersS.cps.toList[c.toNat]? else _) with | some c => R.ok (D.str ⟨#[c]⟩) S | none => .err) = _
  rw [if_pos h0, e]
section
variable {k b : Nat} {S : Sto} {Q : D → Sto → Prop} {E : Exc → Sto → Prop}
theorem r_joinT {ys : List Str} (h : ys.length ≤ 8) (h1 : ∀ y ∈ ys, y.length = 1) (q : Q (.str (Txt.join "" ys)) S) : Ru (bmR .join (.str "") [.lst (ys.map .str)] S) Q E := by
  refine Ru.eq ?_ q
  show bmJoin S (.str "") [.lst (ys.map .str)] = _
  have e : (seqOf S (.lst (ys.map D.str))).bind strsD = some ys := by
    show strsD (ys.map D.str) = _
    exact strsD_id ys
  have s1 : (ys.map (·.length)).sum ≤ ys.length := by
    have : ∀ l : List Str, (∀ y ∈ l, y.length = 1) → (l.map (·.length)).sum = l.length := by
      intro l
      induction l with
      | nil => intro _; rfl
      | cons a l ih =>
        intro h
        rw [List.map_cons, List.sum_cons, ih fun y hy => h y (List.mem_cons_of_mem _ hy), h a List.mem_cons_self, List.length_cons]
        omega
    rw [this ys h1]
    exact Nat.le_refl _
  unfold bmJoin
  dsimp only
  rw [e]
  exact ck_of (by show _ + ys.length * 0 ≤ _; omega)
theorem mulW {c : Nat} {n : Int} (h1 : 1 ≤ n) (h8 : n ≤ 8) (hc : 97 ≤ c ∧ c < 123) : Word (Txt.mul ⟨#[c]⟩ n) := by
  have e : (Txt.mul ⟨#[c]⟩ n).cps.toList = List.replicate n.toNat c := by
    have : n = 1 ∨ n = 2 ∨ n = 3 ∨ n = 4 ∨ n = 5 ∨ n = 6 ∨ n = 7 ∨ n = 8 := by omega
    rcases this with rfl | rfl | rfl | rfl | rfl | rfl | rfl | rfl <;> rfl
  have l : (Txt.mul ⟨#[c]⟩ n).length = n.toNat := by
    show (Txt.mul ⟨#[c]⟩ n).cps.size = _
    rw [← Array.length_toList, e, List.length_replicate]
  refine ⟨by omega, by omega, fun x hx => ?_⟩
  have hx : x ∈ (Txt.mul ⟨#[c]⟩ n).cps.toList := hx
  rw [e] at hx
  rw [(List.mem_replicate.mp hx).2]
  exact hc
theorem r_catT {x y : Str} {n : Nat} {box : Bool} (hn : n ≤ sizeLine) (h : x.length + y.length ≤ n) (q : Q (.str (x ++ y)) S) : Ru (binR box .add (.str x) (.str y) S) Q E := Ru.eq (show binR box .add (.str x) (.str y) S = .ok (.str (x ++ y)) S from ck_of (Nat.le_trans h hn)) q
theorem r_ntupB {n : Nat} {xs : List D} (h : cellAt S n = some (.lst xs)) (q : Q (.ntp xs) S) : Ru (ntupR (lstOf S (.ref n)) S) Q E := by
  rw [show lstOf S (.ref n) = some xs from by show seqOf S (.ref n) = _; rw [seqOf_ref, h]]
  exact Ru.eq rfl q
theorem lform42_ru (hb : BagAt S b) (q : ∀ (f : List Col) S', Fm f → 2 ≤ f.length → f.length ≤ 5 → Keep [b] S S' → BagAt S' b → Q (.ntp (f.map enCol)) S') : Ru (callN Tb (k + 2) 16 [.ref b] S) Q E := by
  refine Ru.def (fn := ⟨1, 7, p_l_form⟩) rfl rfl ?_; simp only [List.map_cons, List.map_nil, List.length_cons, List.length_nil, Nat.reduceAdd, Nat.reduceSub, List.replicate_succ, List.replicate_zero, List.cons_append, List.nil_append]
  and_intros
  refine take_ru hb (by omega) (by omega) fun sh S1 s0 s1 k1 b1 => ?_
  and_intros
  refine r_new fun S2 o ho c2 k2 => ?_
  have b2 := b1.keep k2 (by simp)
  have nbo : o ≠ b := by have := b1.lt; omega
  and_intros
  refine take_ru b2 (by omega) (by omega) fun t S3 t0 t1 k3 b3 => ?_
  have c3 := (k3.eq o (cellAt_lt c2) (by simpa using nbo)).trans c2
  and_intros
  refine Ru.for (fun i ρ S' => Keep [b, o] S3 S' ∧ BagAt S' b ∧ ∃ (f : List Col) (a4 a5 a6 : Option D), f.length = i ∧ Lst sh.toNat f ∧ cellAt S' o = some (.lst (f.map enCol)) ∧ ρ = [some (.ref b), some (.str lettersS), some (.int sh), some (.ref o), a4, a5, a6])
    ⟨Keep.refl, b3, [], _, _, _, rfl, fun j c h => by simp at h, c3, rfl⟩ (fun _ _ _ _ => trivial) (fun i x ρ S' hx ⟨k4, b4, f, a4, a5, a6, e1, hf, co, e⟩ => ?_) fun ρ S' ⟨k4, b4, f, a4, a5, a6, e1, hf, co, e⟩ => ?_
  · subst e
    obtain ⟨rfl, hi⟩ := rng_get hx
    and_intros
    refine take_ru b4 (by omega) (by omega) fun t2 S5 t20 t21 k5 b5 => ?_
    obtain ⟨m, hm, hi2⟩ := idx_ints (S := S5) (c := t2) [0, 1, 2, 7] t20 (by simpa using t21)
    refine Ru.eq hi2 ?_
    have m7 : 0 ≤ m ∧ m ≤ 7 := by
      simp only [List.mem_cons, List.not_mem_nil, or_false] at hm
      omega
    and_intros
    refine Ru.lc (fun i ys S' => ∃ l : List Nat, l.length = i ∧ (∀ x ∈ l, 97 ≤ x ∧ x < 123) ∧ ys = (l.map fun c => (⟨#[c]⟩ : Str)).map .str ∧ Keep [b] S5 S' ∧ BagAt S' b) ⟨[], rfl, by simp, rfl, Keep.refl, b5⟩ (fun _ _ _ _ => trivial) (fun j d ys S6 hd ⟨l, e2, hl, e3, k6, b6⟩ => ?_) fun ys S6 ⟨l, e2, hl, e3, k6, b6⟩ => ?_
    · subst e3
      obtain ⟨rfl, hj⟩ := rng_get hd
      and_intros
      refine take_ru b6 (by omega) (by omega) fun u S7 u0 u1 k7 b7 => ?_
      refine Ru.eq (letterN u0 u1) ?_
      and_intros
      refine ⟨l ++ [97 + u.toNat], by rw [List.length_append, e2]; rfl, fun x hx => ?_, by rw [List.map_append, List.map_append]; rfl, k6.trans k7, b7⟩
      rcases List.mem_append.mp hx with h | h
      · exact hl x h
      · rw [List.mem_singleton.mp h]; omega
    subst e3
    rw [rng_len] at e2
    have l7 : l.length ≤ 7 := by omega
    refine ⟨by rw [List.length_map, List.length_map]; exact sz_le (by omega), ?_⟩
    and_intros
    refine r_joinT (by rw [List.length_map]; omega) (fun y hy => by obtain ⟨c, _, rfl⟩ := List.mem_map.mp hy; rfl) ?_
    have ej := join_signs l
    have co6 : cellAt S6 o = some (.lst (f.map enCol)) := (k6.eq o (Nat.lt_of_lt_of_le (cellAt_lt co) k5.le) (by simpa using nbo)).trans ((k5.eq o (cellAt_lt co) (by simpa using nbo)).trans co)
    generalize Txt.join "" (l.map fun c => (⟨#[c]⟩ : Str)) = st at ej ⊢
    and_intros
    have ix0 : 0 ≤ (sh + 7 * (0 + (i : Int))) % 26 ∧ (sh + 7 * (0 + (i : Int))) % 26 < 26 := by omega
    refine Ru.eq (letterN ix0.1 ix0.2) ?_
    and_intros
    have ls : st.length = l.length := by show st.cps.size = _; rw [← Array.length_toList, ej]
    refine r_catT (n := 8) (by decide +kernel) (by show st.length + 1 ≤ 8; omega) ?_
    and_intros
    refine take_ru b6 (by omega) (by omega) fun u S7 u0 u1 k7 b7 => ?_
    obtain ⟨w, hw⟩ : ∃ w : Bool, idxR (.tup [.str "number", .str "word"]) (.int u) S7 = .ok (.str (kindS w)) S7 := by
      have : u = 0 ∨ u = 1 := by omega
      rcases this with rfl | rfl
      · exact ⟨false, rfl⟩
      · exact ⟨true, rfl⟩
    refine Ru.eq hw ?_
    and_intros
    have co7 := (k7.eq o (cellAt_lt co6) (by simpa using nbo)).trans co6
    refine r_append co7 (by rw [List.length_map]; omega) fun S8 l8 co8 k8 => ?_
    and_intros
    have b8 := b7.keep k8 (by simpa using fun z => nbo z.symm)
    have kk : Keep [b, o] S3 S8 := k4.trans ((k5.mono (by simp)).trans ((k6.mono (by simp)).trans ((k7.mono (by simp)).trans (k8.mono (by simp)))))
    refine ⟨kk, b8, f ++ [(st ++ ⟨#[97 + ((sh + 7 * (0 + (i : Int))) % 26).toNat]⟩, w)], _, _, _, by rw [List.length_append, e1]; rfl, fun j c hc => ?_, by rw [co8, List.map_append]; rfl, rfl⟩
    rcases Nat.lt_or_ge j f.length with h | h
    · rw [List.getElem?_append_left h] at hc
      exact hf j c hc
    · rw [List.getElem?_append_right h] at hc
      have hl0 := (List.getElem?_eq_some_iff.mp hc).1
      simp only [List.length_singleton] at hl0
      obtain rfl : j = i := by omega
      rw [show j - f.length = 0 by omega] at hc
      cases hc
      refine ⟨l, l7, hl, ?_⟩
      have : (st ++ (⟨#[97 + ((sh + 7 * (0 + (j : Int))) % 26).toNat]⟩ : Str)).cps.toList = st.cps.toList ++ [97 + ((sh + 7 * (0 + (j : Int))) % 26).toNat] := by
        show (st.cps ++ #[97 + ((sh + 7 * (0 + (j : Int))) % 26).toNat]).toList = _
        simp
      rw [this, ej]
      have e9 : ((sh + 7 * (0 + (j : Int))) % 26).toNat = (sh.toNat + 7 * j) % 26 := by omega
      rw [e9]
      rfl
  · subst e
    rw [rng_len] at e1
    and_intros
    refine r_ntupB co ?_
    and_intros
    refine q f S' ⟨by omega, by omega, hf.word, hf.nd (by omega)⟩ (by omega) (by omega) ?_ b4
    refine Keep.fresh (((k1.mono (cs := [b, o]) (by simp)).trans (k2.mono (by simp))).trans ((k3.mono (by simp)).trans k4)) fun b' hb' => ?_
    simp only [List.mem_cons, List.not_mem_nil, or_false] at hb'
    have := k1.le
    rcases hb' with rfl | rfl
    · exact .inl (by simp)
    · exact .inr (by omega)
theorem lval_ru {w : Bool} {pool : Int} (hb : BagAt S b) (p1 : 1 ≤ pool) (p2 : pool ≤ 200) (q : ∀ v S', ValOf w v → Keep [b] S S' → BagAt S' b → Q v S') : Ru (callN Tb (k + 2) 17 [.ref b, .str (kindS w), .int pool] S) Q E := by
  refine Ru.def (fn := ⟨3, 4, p_l_value⟩) rfl rfl ?_; simp only [List.map_cons, List.map_nil, List.length_cons, List.length_nil, Nat.reduceAdd, Nat.reduceSub, List.replicate_succ, List.replicate_zero, List.cons_append, List.nil_append]
  and_intros
  refine take_ru hb (by omega) (by omega) fun t S1 t0 t1 k1 b1 => ?_
  cases w with
  | false =>
    and_intros
    exact q _ S1 ⟨_, rfl, by omega, by omega⟩ k1 b1
  | true =>
    and_intros
    refine Ru.eq (letterN (by omega) (by omega)) ?_
    and_intros
    have hd : 0 ≤ t / 26 ∧ t / 26 < 8 := by omega
    refine Ru.eq (a := .str (Txt.mul ⟨#[97 + (t % 26).toNat]⟩ (1 + t / 26))) (S := S1) (show binR false .mul (.str ⟨#[97 + (t % 26).toNat]⟩) (.int (1 + t / 26)) S1 = _ from ck_of ⟨by show 1 ≤ 1000; omega, by omega, by omega⟩) ?_
    and_intros
    refine q _ S1 ⟨_, rfl, ?_⟩ k1 b1
    exact mulW (by omega) (by omega) (by omega)
theorem lsome42_ru {zs : List Str} (l6 : zs.length ≤ 6) (nz : zs.Nodup) (hb : BagAt S b) {few most : Int} (f0 : 0 ≤ few) (fm : few ≤ most) (m6 : most ≤ 6) (q : ∀ (ys : List Str) S', ys.Nodup → (∀ z ∈ ys, z ∈ zs) → (ys.length : Int) ≤ most → (few ≤ zs.length → few ≤ ys.length) → Keep [b] S S' → BagAt S' b → Q (.tup (ys.map .str)) S') : Ru (callN Tb (k + 2) 18 [.ref b, .lst (zs.map .str), .int few, .int most] S) Q E := by
  refine Ru.def (fn := ⟨4, 7, p_l_some⟩) rfl rfl ?_; simp only [List.map_cons, List.map_nil, List.length_cons, List.length_nil, Nat.reduceAdd, Nat.reduceSub, List.replicate_succ, List.replicate_zero, List.cons_append, List.nil_append]
  and_intros
  refine r_new fun S1 m hm c1 k1 => ?_
  have b1 := hb.keep k1 (by simp)
  and_intros
  refine r_new fun S2 o ho c2 k2 => ?_
  have b2 := b1.keep k2 (by simp)
  have c1' := (k2.eq m (cellAt_lt c1) (by simp)).trans c1
  and_intros
  refine take_ru b2 (by omega) (by omega) fun t S3 t0 t1 k3 b3 => ?_
  have nbm : m ≠ b := by have := hb.lt; omega
  have nbo : o ≠ b := by have := b1.lt; have := k1.le; have := hb.lt; omega
  have nmo : m ≠ o := by have := cellAt_lt c1; omega
  have c1'' := (k3.eq m (cellAt_lt c1') (by simpa using nbm)).trans c1'
  have c2' := (k3.eq o (cellAt_lt c2) (by simpa using nbo)).trans c2
  and_intros
  rw [List.length_map]
  generalize hN : (if few + t < (zs.length : Int) then few + t else (zs.length : Int)) = N
  have N0 : 0 ≤ N ∧ N ≤ zs.length ∧ N ≤ most ∧ (few ≤ zs.length → few ≤ N) := by
    rw [← hN]
    split <;> omega
  and_intros
  refine Ru.for (fun i ρ S' => Keep [b, m, o] S3 S' ∧ BagAt S' b ∧ ∃ (ys rest : List Str) (a5 : Option D), (ys ++ rest).Perm zs ∧ ys.length = i ∧ cellAt S' m = some (.lst (rest.map .str)) ∧ cellAt S' o = some (.lst (ys.map .str)) ∧
      ρ = [some (.ref b), some (.lst (zs.map .str)), some (.int few), some (.int most), some (.ref m), some (.ref o), a5])
    ⟨Keep.refl, b3, [], zs, none, List.Perm.refl _, rfl, c1'', c2', rfl⟩ (fun _ _ _ _ => trivial) (fun i x ρ S' hx ⟨k4, b4, ys, rest, a5, pm, e1, cm, co, e⟩ => ?_) fun ρ S' ⟨k4, b4, ys, rest, a5, pm, e1, cm, co, e⟩ => ?_
  · subst e
    obtain ⟨rfl, hi⟩ := rng_get hx
    have e2 := pm.length_eq
    rw [List.length_append] at e2
    have hr : 0 < rest.length := by omega
    have lr' : (rest.map D.str).length = rest.length := List.length_map ..
    and_intros
    rw [lr']
    refine take_ru b4 (by omega) (by omega) fun u S5 u0 u1 k5 b5 => ?_
    have cm5 := (k5.eq m (cellAt_lt cm) (by simpa using nbm)).trans cm
    have co5 := (k5.eq o (cellAt_lt co) (by simpa using nbo)).trans co
    have hul : u.toNat < rest.length := by omega
    and_intros
    refine r_pop cm5 u0 (by omega) (d := .str rest[u.toNat]) (by rw [List.getElem?_map, List.getElem?_eq_getElem hul]; rfl) fun S6 l6' cm6 k6 => ?_
    have co6 := (k6.eq o (cellAt_lt co5) fun z => nmo (List.mem_singleton.mp z).symm).trans co5
    have b6 := b5.keep k6 fun z => nbm (List.mem_singleton.mp z).symm
    and_intros
    refine r_append co6 (by rw [List.length_map]; omega) fun S7 l7 co7 k7 => ?_
    have cm7 := (k7.eq m (cellAt_lt cm6) fun z => nmo (List.mem_singleton.mp z)).trans cm6
    have b7 := b6.keep k7 fun z => nbo (List.mem_singleton.mp z).symm
    and_intros
    refine ⟨k4.trans ((k5.mono (by simp)).trans ((k6.mono (by simp)).trans (k7.mono (by simp)))), b7, ys ++ [rest[u.toNat]], rest.eraseIdx u.toNat, _, ?_, by rw [List.length_append, e1]; rfl, by rw [cm7, map_eraseIdxT], by rw [co7, List.map_append]; rfl, rfl⟩
    rw [List.append_assoc]
    exact (List.Perm.append_left ys (erase_permT hul)).trans pm
  · subst e
    and_intros
    rw [bi_tupB co]
    and_intros
    rw [rng_len] at e1
    have hn := pm.nodup_iff.mpr nz
    refine q ys S' (List.nodup_append.mp hn).1 (fun z hz => pm.subset (List.mem_append_left _ hz)) (by omega) (fun h => by have := N0.2.2.2 h; omega) ?_ b4
    refine ((k1.mono (cs := [b, m, o]) (by simp)).trans ((k2.mono (by simp)).trans ((k3.mono (by simp)).trans k4))).fresh fun x hx => ?_
    simp only [List.mem_cons, List.not_mem_nil, or_false] at hx
    rcases hx with rfl | rfl | rfl
    · exact .inl (by simp)
    · exact .inr (by omega)
    · exact .inr (by have := k1.le; omega)
end


end
section
/-! ### an item's fault -/
set_option maxHeartbeats 600000
abbrev itW : List (Str × Int) := [("ask", 2), ("put", 2), ("drop", 2), ("set", 4)]
/-- the place of what is wrong of a column and its new value -/
def valF (f : List Col) : D → D → Option Int
  | .str y, v => (match f.lookup y with
    | some w => if valD w v = true then none else some 3
    | none => some 2)
  | _, _ => some 2
def itR (f : List Col) (z : Str) (r : List D) : Option Int :=
  if z == "ask" then (if fltB f (r.headD .non) = none then none else some 1)
  else if z == "put" then (if rowD f (r.headD .non) = true then none else some 1)
  else if cnB f (r.headD .non) = false then some 1
  else if z == "drop" then none
  else valF f (r.getD 1 .non) (r.getD 2 .non)
/-- the place of the first wrong thing of an item -/
def itB (f : List Col) : D → Option Int
  | .tup (.str z :: r) => if (itW.lookup z).getD 0 = (r.length : Int) + 1 then itR f z r else some 0
  | _ => some 0
theorem itB_no {f : List Col} {d : D} (h : ∀ z r, d ≠ .tup (.str z :: r)) : itB f d = some 0 := by
  unfold itB
  split
  · exact absurd rfl (h _ _)
  · rfl
theorem itW_look {z : Str} : (itW.lookup z).getD 0 = if z == "ask" then 2 else if z == "put" then 2 else if z == "drop" then 2 else if z == "set" then 4 else 0 := by
  simp only [itW, List.lookup_cons, List.lookup_nil]
  cases z == ("ask" : Str) <;> cases z == ("put" : Str) <;> cases z == ("drop" : Str) <;> cases z == ("set" : Str) <;> rfl
theorem itW_cases {z : Str} {n : Nat} (h : (itW.lookup z).getD 0 = (n : Int) + 1) : (n = 1 ∧ (z = "ask" ∨ z = "put" ∨ z = "drop")) ∨ (n = 3 ∧ z = "set") := by
  rw [itW_look] at h
  cases e1 : z == ("ask" : Str) with
  | true => exact .inl ⟨by rw [e1] at h; simp at h; omega, .inl (by simpa using e1)⟩
  | false =>
    cases e2 : z == ("put" : Str) with
    | true => exact .inl ⟨by rw [e1, e2] at h; simp at h; omega, .inr (.inl (by simpa using e2))⟩
    | false =>
      cases e3 : z == ("drop" : Str) with
      | true => exact .inl ⟨by rw [e1, e2, e3] at h; simp at h; omega, .inr (.inr (by simpa using e3))⟩
      | false =>
        cases e4 : z == ("set" : Str) with
        | true => exact .inr ⟨by rw [e1, e2, e3, e4] at h; simp at h; omega, by simpa using e4⟩
        | false =>
          rw [e1, e2, e3, e4] at h
          simp at h
          omega
theorem kw4 : (("put" : Str) == ("ask" : Str)) = false ∧ (("drop" : Str) == ("ask" : Str)) = false ∧ (("set" : Str) == ("ask" : Str)) = false ∧ (("drop" : Str) == ("put" : Str)) = false ∧ (("set" : Str) == ("put" : Str)) = false ∧ (("set" : Str) == ("drop" : Str)) = false := by decide +kernel
section
variable {k : Nat} {d c v : D} {S : Sto} {f : List Col} {w : Bool} {Q : D → Sto → Prop} {E : Exc → Sto → Prop}
theorem r_kgetW {z : Str} (q : Q (.int ((itW.lookup z).getD 0)) S) : Ru (kgetR [("ask", 2), ("put", 2), ("drop", 2), ("set", 4)] (.str z) (.int 0) S) Q E := by
  cases h : itW.lookup z with
  | none => rw [h] at q; exact r_kgetN h q
  | some i => rw [h] at q; exact r_kget h q
theorem vfault_ru (nd : (f.map (·.1)).Nodup) (l6 : f.length ≤ 6) (hc : c.fz = true) (hv : v.fz = true) (q : ∀ S', Keep [] S S' → Q (fltD (valF f c v)) S') : Ru (callN Tb (k + 3) 13 [enF f, c, v] S) Q E := by
  refine Ru.def (fn := ⟨3, 6, p_value_fault⟩) rfl rfl ?_; simp only [List.map_cons, List.map_nil, List.length_cons, List.length_nil, Nat.reduceAdd, Nat.reduceSub, List.replicate_succ, List.replicate_zero, List.cons_append, List.nil_append]
  and_intros
  refine Ru.lcm enCol (fun c => [enCol c]) trivial (fun c _ => ?_) ?_
  · obtain ⟨z, w⟩ := c
    and_intros
    exact ⟨rfl, rfl⟩
  rw [flat_oneB]
  refine r_mkDct (pairsF f) (by rw [List.length_map]; omega) fun S1 n hn c1 k1 => ?_
  rw [mergeD_nd (kdF_nd nd)] at c1
  have q := q S1 k1
  and_intros
  refine ru_isiF hc (by simp) ?_
  cases ht : isI "str" c with
  | false =>
    have e : valF f c v = some 2 := by cases c <;> first | rfl | exact absurd rfl (isI_strF ht _)
    rw [e] at q
    and_intros
    exact q
  | true =>
    obtain ⟨z, rfl⟩ := isI_str ht
    and_intros
    refine r_din c1 (κ := .inr z) rfl ?_
    cases hw : f.lookup z with
    | none =>
      rw [show valF f (.str z) v = some 2 by simp [valF, hw]] at q
      rw [kdF_none hw]
      and_intros
      exact q
    | some w =>
      have hg := kdF_get nd hw
      rw [hg]
      and_intros
      refine r_didx c1 (κ := .inr z) rfl hg ?_
      and_intros
      refine Ru.eq (value_known hv) ?_
      rw [show valF f (.str z) v = if valD w v = true then none else some 3 by simp [valF, hw]] at q
      cases hb : valD w v with
      | true =>
        rw [if_pos hb] at q
        and_intros
        exact q
      | false =>
        rw [if_neg (by rw [hb]; decide)] at q
        and_intros
        exact q
theorem item_ru (nd : (f.map (·.1)).Nodup) (l1 : 1 ≤ f.length) (l6 : f.length ≤ 6) (hf : d.fz = true) (hp : d.dp ≤ 60) (lw : ∀ xs, d = .tup xs → xs.length ≤ 1000) (q : ∀ S', Keep [] S S' → Q (fltD (itB f d)) S') : Ru (callN Tb (k + 7) 12 [enF f, d] S) Q E := by
  refine Ru.def (fn := ⟨2, 4, p_item_fault⟩) rfl rfl ?_; simp only [List.map_cons, List.map_nil, List.length_cons, List.length_nil, Nat.reduceAdd, Nat.reduceSub, List.replicate_succ, List.replicate_zero, List.cons_append, List.nil_append]
  and_intros
  refine ru_isiF hf (by simp) ?_
  cases ht : isI "tuple" d with
  | false =>
    have q := q S Keep.refl
    rw [itB_no fun z r => isI_tupF ht _] at q
    and_intros
    exact q
  | true =>
    obtain ⟨xs, rfl⟩ := isI_tup ht
    have par := tup_parts hf hp
    have lx := lw xs rfl
    cases xs with
    | nil =>
      have q := q S Keep.refl
      rw [itB_no fun z r => by simp] at q
      and_intros
      exact q
    | cons x r =>
      and_intros
      refine ru_isiF (par x (by simp)).1 (by simp) ?_
      cases hs : isI "str" x with
      | false =>
        have q := q S Keep.refl
        rw [itB_no fun z r e => by cases e; exact isI_strF hs _ rfl] at q
        and_intros
        exact q
      | true =>
        obtain ⟨z, rfl⟩ := isI_str hs
        and_intros
        have lr : r.length ≤ 999 := by simp at lx; omega
        refine r_tupsA (xs := .str z :: r) rfl rfl (Nat.ble_eq_true_of_le (by simp)) (Nat.ble_eq_true_of_le (by simp; omega)) ?_
        show Ru (asgs _ [.var 2, .var 3] [.str z, .lst r] _ _) _ _
        and_intros
        refine r_kgetW ?_
        and_intros
        have eb : itB f (.tup (.str z :: r)) = if (itW.lookup z).getD 0 = (r.length : Int) + 1 then itR f z r else some 0 := rfl
        by_cases hn : (itW.lookup z).getD 0 = (r.length : Int) + 1
        · rw [hn]
          rw [if_pos hn] at eb
          rw [eb] at q
          and_intros
          rw [if_neg (by simp)]
          obtain ⟨g1, g2, g3, g4, g5, g6⟩ := kw4
          rcases itW_cases hn with ⟨l1', hz⟩ | ⟨l3, rfl⟩
          · obtain ⟨a, rfl⟩ : ∃ a, r = [a] := by
              match r, l1' with
              | [a], _ => exact ⟨a, rfl⟩
            obtain ⟨fa, pa⟩ := par a (by simp)
            rcases hz with rfl | rfl | rfl
            · have e : itR f "ask" [a] = if fltB f a = none then none else some 1 := by simp [itR]
              rw [e] at q
              and_intros
              refine fault_ru nd l1 l6 fa (by omega) fun S1 k1 => ?_
              have q := q S1 k1
              and_intros
              cases h : fltB f a with
              | none =>
                rw [if_pos h] at q
                and_intros
                exact q
              | some j =>
                rw [if_neg (by rw [h]; simp)] at q
                show Ru _ _ _
                and_intros
                exact q
            · have e : itR f "put" [a] = if rowD f a = true then none else some 1 := by simp [itR, g1]
              rw [e] at q
              and_intros
              refine Ru.eq (isrow_ok fa (by omega)) ?_
              have q := q S Keep.refl
              cases h : rowD f a with
              | true =>
                rw [if_pos h] at q
                and_intros
                exact q
              | false =>
                rw [if_neg (by rw [h]; decide)] at q
                and_intros
                exact q
            · have e : itR f "drop" [a] = if cnB f a = false then some 1 else none := by simp [itR, g2, g4]
              rw [e] at q
              and_intros
              refine conds_ru nd l6 fa (by omega) fun S1 k1 => ?_
              have q := q S1 k1
              cases h : cnB f a with
              | false =>
                rw [if_pos h] at q
                and_intros
                exact q
              | true =>
                rw [if_neg (by rw [h]; decide)] at q
                and_intros
                exact q
          · obtain ⟨a, n, v, rfl⟩ : ∃ a n v, r = [a, n, v] := by
              match r, l3 with
              | [a, n, v], _ => exact ⟨a, n, v, rfl⟩
            have e : itR f "set" [a, n, v] = if cnB f a = false then some 1 else valF f n v := by simp [itR, g3, g5, g6]
            rw [e] at q
            and_intros
            obtain ⟨fa, pa⟩ := par a (by simp)
            refine conds_ru nd l6 fa (by omega) fun S1 k1 => ?_
            cases h : cnB f a with
            | false =>
              have q := q S1 k1
              rw [if_pos h] at q
              and_intros
              exact q
            | true =>
              rw [if_neg (by rw [h]; decide)] at q
              and_intros
              refine Ru.eq (a := v) (S := S1) rfl ?_
              and_intros
              refine vfault_ru (k := k + 3) nd l6 (par n (by simp)).1 (par v (by simp)).1 fun S2 k2 => ?_
              have q := q S2 (k1.trans k2)
              and_intros
              exact q
        · rw [if_neg hn] at eb
          rw [eb] at q
          have q := q S Keep.refl
          rw [if_pos (by simp; exact fun h => hn h.symm)]
          and_intros
          exact q
end


end
section
/-! ### the law's own look at items -/
set_option maxHeartbeats 600000
section
variable {k : Nat} {d od c v : D} {S : Sto} {f : List Col} {ns : List Str} {w : Bool} {lo hi : Nat} {a b : Int} {Q : D → Sto → Prop} {E : Exc → Sto → Prop}
theorem sgn_in {z : Str} {c : Nat} (q : Q (.bl (decide (c ∈ z.cps.toList))) S) : Ru (cmpR .isIn (.str ⟨#[c]⟩) (.str z) S) Q E := Ru.eq (show cmpR .isIn (.str ⟨#[c]⟩) (.str z) S = .ok (.bl (decide (c ∈ z.cps.toList))) S from rfl) q
theorem once42 (ns : List Str) : (ns.all fun z => decide (ns.count z = 1)) = decide ns.Nodup := by
  rw [Bool.eq_iff_iff, List.all_eq_true, decide_eq_true_eq, List.nodup_iff_count]
  refine ⟨fun h a => ?_, fun h a ha => decide_eq_true ?_⟩
  · by_cases ha : a ∈ ns
    · rw [of_decide_eq_true (h a ha)]
      exact Nat.le_refl _
    · rw [List.count_eq_zero_of_not_mem ha]
      exact Nat.zero_le _
  · have := h a
    have := List.count_pos_iff.mpr ha
    omega
theorem once_any {ns : List Str} {xs : List D} : (xs.all fun x => elB ns x && decide ((xs.countP fun y => y.eqv x) = 1)) = (xs.all (elB ns) && decide (xs.map keyH.txS).Nodup) := by
  cases ha : xs.all (elB ns) with
  | false =>
    obtain ⟨x, hx, h⟩ := List.all_eq_false.mp ha
    rw [Bool.false_and, List.all_eq_false]
    exact ⟨x, hx, by rw [Bool.not_eq_true] at h; rw [h, Bool.false_and]; exact Bool.false_ne_true⟩
  | true =>
    have hx := el_strs ha
    rw [Bool.true_and, ← once42]
    generalize xs.map keyH.txS = zs at hx ⊢
    subst hx
    rw [List.all_map]
    have hall := List.all_eq_true.mp ha
    rw [Bool.eq_iff_iff, List.all_eq_true, List.all_eq_true]
    have key : ∀ z ∈ zs, (elB ns (.str z) && decide (((zs.map D.str).countP fun y => y.eqv (.str z)) = 1)) = decide (zs.count z = 1) := fun z hz => by
      rw [hall _ (List.mem_map_of_mem hz), Bool.true_and, List.countP_map]
      have : ((fun y : D => y.eqv (.str z)) ∘ D.str) = fun y => y == z := by
        funext y
        simp [D.eqv]
      rw [this]
      rfl
    exact ⟨fun h z hz => by rw [← key z hz]; exact h z hz, fun h z hz => by show (elB ns (.str z) && _) = true; rw [key z hz]; exact h z hz⟩
theorem lval42_ru (h : d.fz = true) (q : Q (.bl (valD w d)) S) : Ru (callN Tb (k + 1) 23 [.str (kindS w), d] S) Q E := by
  obtain ⟨f1, f2, f3, f4, f5, f6, f7, f8, _⟩ := kit_facts
  refine Ru.def (fn := ⟨2, 3, p_l_is_value⟩) rfl rfl ?_; simp only [List.map_cons, List.map_nil, List.length_cons, List.length_nil, Nat.reduceAdd, Nat.reduceSub, List.replicate_succ, List.replicate_zero, List.cons_append, List.nil_append]
  and_intros
  cases w with
  | false =>
    and_intros
    refine ru_isiF h (by simp) ?_
    cases h1 : isI "int" d with
    | false =>
      have e : valD false d = false := by
        show isInt d = false
        cases d <;> simp [isInt, isI, tyD, f1, f2, f3, f4, f5, f6, f7, f8] at h1 ⊢
      rw [e] at q
      and_intros
      exact q
    | true =>
      and_intros
      refine ru_isiF h (by simp) ?_
      cases h2 : isI "bool" d with
      | true =>
        have e : valD false d = false := by
          show isInt d = false
          cases d <;> simp [isInt, isI, tyD, f1, f2, f3, f4, f5, f6, f7, f8] at h2 ⊢
        rw [e] at q
        and_intros
        exact q
      | false =>
        obtain ⟨i, rfl⟩ := isI_int h1 h2
        and_intros
        by_cases h3 : -999 ≤ i
        · rw [if_pos (decide_eq_true h3)]
          and_intros
          rw [show valD false (.int i) = decide (i ≤ 999) by show (decide (-999 ≤ i) && decide (i ≤ 999)) = _; rw [decide_eq_true h3, Bool.true_and]] at q
          exact q
        · rw [if_neg (by rw [decide_eq_true_eq]; exact h3)]
          and_intros
          rw [show valD false (.int i) = false by show (decide (-999 ≤ i) && decide (i ≤ 999)) = _; rw [decide_eq_false h3, Bool.false_and]] at q
          exact q
  | true =>
    and_intros
    refine ru_isiF h (by simp) ?_
    cases h1 : isI "str" d with
    | false =>
      have e : valD true d = false := by
        show isWd d = false
        cases d <;> first | rfl | exact absurd rfl (isI_strF h1 _)
      rw [e] at q
      and_intros
      exact q
    | true =>
      obtain ⟨z, rfl⟩ := isI_str h1
      have e : valD true (.str z) = (decide (1 ≤ z.length) && decide (z.length ≤ 8) && z.cps.toList.all (fun c => decide (c ∈ lettersS.cps.toList))) := rfl
      rw [e] at q
      and_intros
      by_cases l1 : 1 ≤ z.length
      · rw [if_pos (decide_eq_true (by omega))]
        rw [decide_eq_true l1, Bool.true_and] at q
        and_intros
        by_cases l8 : z.length ≤ 8
        · rw [show decide ((z.length : Int) ≤ 8) = true from decide_eq_true (by omega)]
          rw [decide_eq_true l8, Bool.true_and] at q
          and_intros
          refine Ru.lcm (fun c : Nat => D.str ⟨#[c]⟩) (fun c => [.bl (decide (c ∈ lettersS.cps.toList))]) trivial (fun c _ => ?_) ?_
          · and_intros
            refine sgn_in ?_
            and_intros
            exact ⟨rfl, rfl⟩
          rw [flat_oneB]
          refine ⟨by rw [List.length_map, Array.length_toList]; exact sz_le (show z.length ≤ 1000 by omega), ?_⟩
          and_intros
          exact q
        · rw [show decide ((z.length : Int) ≤ 8) = false from decide_eq_false (by omega)]
          rw [decide_eq_false l8, Bool.false_and] at q
          and_intros
          exact q
      · rw [if_neg (by rw [decide_eq_true_eq]; omega)]
        rw [decide_eq_false l1, Bool.false_and, Bool.false_and] at q
        and_intros
        exact q
theorem lacols42_ru (ha : a = lo) (hb : b = hi) (h100 : hi ≤ 100) (of : od.fz = true) (op : od.dp ≤ 60) (q : Q (.bl (keyR lo hi ns od)) S) : Ru (callN Tb (k + 1) 24 [.lst (ns.map .str), od, .int a, .int b] S) Q E := by
  subst ha hb
  refine Ru.def (fn := ⟨4, 5, p_l_are_columns⟩) rfl rfl ?_; simp only [List.map_cons, List.map_nil, List.length_cons, List.length_nil, Nat.reduceAdd, Nat.reduceSub, List.replicate_succ, List.replicate_zero, List.cons_append, List.nil_append]
  and_intros
  refine ru_isiF of (by simp) ?_
  cases ot : isI "tuple" od with
  | false =>
    have e2 : keyR lo hi ns od = false := by cases od <;> first | rfl | exact absurd rfl (isI_tupF ot _)
    rw [e2] at q
    and_intros
    exact q
  | true =>
    obtain ⟨xs, rfl⟩ := isI_tup ot
    have kb : keyR lo hi ns (.tup xs) = (decide (lo ≤ xs.length) && decide (xs.length ≤ hi) && xs.all (elB ns) && decide (xs.map keyH.txS).Nodup) := rfl
    and_intros
    by_cases l1 : lo ≤ xs.length
    · rw [if_pos (decide_eq_true (by omega))]
      and_intros
      by_cases l3 : xs.length ≤ hi
      · rw [show decide ((xs.length : Int) ≤ (hi : Int)) = true from decide_eq_true (by omega)]
        rw [decide_eq_true l1, decide_eq_true l3, Bool.true_and, Bool.true_and] at kb
        and_intros
        refine Ru.lcp (f := fun x => [.bl (elB ns x && decide ((xs.countP fun y => y.eqv x : Nat) = 1))]) trivial (fun x hx => ?_) ?_
        · obtain ⟨fx, px⟩ := tup_parts of op x hx
          and_intros
          refine ru_isiF fx (by simp) ?_
          cases xt : isI "str" x with
          | false =>
            have e2 : elB ns x = false := by cases x <;> first | rfl | exact absurd rfl (isI_strF xt _)
            and_intros
            exact ⟨by rw [e2]; rfl, rfl⟩
          | true =>
            obtain ⟨z, rfl⟩ := isI_str xt
            and_intros
            refine in26 (.inr rfl) ?_
            have e3 : elB ns (.str z) = ns.any fun y => y == z := rfl
            rw [← e3]
            cases he : elB ns (.str z) with
            | false =>
              and_intros
              exact ⟨rfl, rfl⟩
            | true =>
              and_intros
              refine ⟨by cases xs with | nil => cases hx | cons _ _ => rfl, ?_⟩
              and_intros
              have ff : D.fzs xs = true ∧ D.dps xs ≤ 60 := by
                rw [D.fz] at of
                rw [D.dp] at op
                exact ⟨of, by omega⟩
              refine r_tcnta ⟨ff.1, by simp [D.fz], ff.2, by simp [D.dp]⟩ ?_
              and_intros
              refine ⟨?_, rfl⟩
              rw [Bool.true_and]
              congr 2
              rw [Bool.eq_iff_iff, beq_iff_eq, decide_eq_true_eq]
              omega
        rw [flat_oneB]
        refine ⟨by rw [List.length_map]; exact sz_le (show xs.length ≤ 1000 by omega), ?_⟩
        and_intros
        rw [kb] at q
        rw [show (Src.fix, xs).snd = xs from rfl, once_any]
        exact q
      · rw [decide_eq_false l3, Bool.and_false, Bool.false_and, Bool.false_and] at kb
        rw [kb] at q
        rw [show decide ((xs.length : Int) ≤ (hi : Int)) = false from decide_eq_false (by omega)]
        and_intros
        exact q
    · rw [decide_eq_false l1, Bool.false_and, Bool.false_and, Bool.false_and] at kb
      rw [kb] at q
      rw [if_neg (by rw [decide_eq_true_eq]; omega)]
      and_intros
      exact q
/-- what the law looks at in one condition, its name unlike those known -/
theorem lconds42_ru (nd : (f.map (·.1)).Nodup) (l6 : f.length ≤ 6) (hf : d.fz = true) (hp : d.dp ≤ 60) (q : ∀ S', Keep [] S S' → Q (.bl (cnB f d)) S') : Ru (callN Tb (k + 2) 25 [.ntp (f.map enCol), d] S) Q E := by
  refine Ru.def (fn := ⟨2, 7, p_l_are_conditions⟩) rfl rfl ?_; simp only [List.map_cons, List.map_nil, List.length_cons, List.length_nil, Nat.reduceAdd, Nat.reduceSub, List.replicate_succ, List.replicate_zero, List.cons_append, List.nil_append]
  and_intros
  refine ru_isiF hf (by simp) ?_
  cases ht : isI "tuple" d with
  | false =>
    have q := q S Keep.refl
    have e : cnB f d = false := by cases d <;> first | rfl | exact absurd rfl (isI_tupF ht _)
    rw [e] at q
    and_intros
    exact q
  | true =>
    obtain ⟨xs, rfl⟩ := isI_tup ht
    have par := tup_parts hf hp
    have cb : cnB f (.tup xs) = (decide (xs.length ≤ 6) && xs.all (condB f) && decide (xs.map cnm).Nodup) := rfl
    and_intros
    by_cases h6 : xs.length ≤ 6
    · rw [decide_eq_true h6, Bool.true_and] at cb
      rw [show decide ((6 : Int) < xs.length) = false from decide_eq_false (by omega)]
      and_intros
      refine r_new fun S1 o ho c1 k1 => ?_
      and_intros
      refine Ru.for (fun i ρ S' => Keep [o] S1 S' ∧ (xs.take i).all (condB f) = true ∧ ((xs.take i).map cnm).Nodup ∧ cellAt S' o = some (.lst ((xs.take i).map fun x => D.str (cnm x))) ∧ ∃ a3 a4 a5, ρ = [some (.ntp (f.map enCol)), some (.tup xs), some (.ref o), a3, a4, a5, none])
        ⟨Keep.refl, rfl, List.nodup_nil, c1, _, _, _, rfl⟩ (fun _ _ _ _ => trivial) (fun i x ρ S' hx ⟨k2, h1, h2, c2, a3, a4, a5, e⟩ => ?_) fun ρ S' ⟨k2, h1, h2, c2, a3, a4, a5, e⟩ => ?_
      · subst e
        have hx : xs[i]? = some x := hx
        have mx := List.mem_of_getElem? hx
        obtain ⟨fx, px⟩ := par x mx
        have hi := (List.getElem?_eq_some_iff.mp hx).1
        have exs' : xs = xs.take i ++ x :: xs.drop (i + 1) := by
          have e0 := List.take_append_drop i xs
          rw [List.drop_eq_getElem_cons hi, (List.getElem?_eq_some_iff.mp hx).2] at e0
          exact e0.symm
        have kk : Keep [o] S S' := (k1.mono (by simp)).trans k2
        have no : ∀ S2, Keep [o] S S2 → (condB f x = false ∨ cnm x ∈ (xs.take i).map cnm) → Q (.bl false) S2 := fun S2 k3 h => by
          have q := q S2 (k3.fresh fun b hb => .inr (by rw [List.mem_singleton.mp hb]; omega))
          have e0 : cnB f (.tup xs) = false := by
            rw [cb, Bool.and_eq_false_iff]
            rcases h with h | h
            · exact .inl (List.all_eq_false.mpr ⟨x, mx, by rw [h]; exact Bool.false_ne_true⟩)
            · refine .inr (decide_eq_false fun n => ?_)
              rw [exs', List.map_append, List.map_cons] at n
              exact (List.nodup_append.mp n).2.2 _ h _ List.mem_cons_self rfl
          rw [e0] at q
          exact q
        have yes : ∀ S2, Keep [o] S1 S2 → condB f x = true → cnm x ∉ (xs.take i).map cnm → cellAt S2 o = some (.lst ((xs.take i).map (fun x => D.str (cnm x)) ++ [.str (cnm x)])) → ∀ b3 b4 b5, (Keep [o] S1 S2 ∧ (xs.take (i + 1)).all (condB f) = true ∧ ((xs.take (i + 1)).map cnm).Nodup ∧ cellAt S2 o = some (.lst ((xs.take (i + 1)).map fun x => D.str (cnm x))) ∧ ∃ a3 a4 a5, [some (D.ntp (f.map enCol)), some (.tup xs), some (.ref o), b3, b4, b5, none] = [some (.ntp (f.map enCol)), some (.tup xs), some (.ref o), a3, a4, a5, none]) := fun S2 k3 g1 g2 g3 b3 b4 b5 => by
          have et : xs.take (i + 1) = xs.take i ++ [x] := by rw [List.take_succ, hx]; rfl
          refine ⟨k3, by rw [et, List.all_append, h1, List.all_cons, g1]; rfl, ?_, by rw [g3, et, List.map_append]; rfl, b3, b4, b5, rfl⟩
          rw [et, List.map_append]
          refine List.nodup_append.mpr ⟨h2, by simp, fun a ha b hb e => ?_⟩
          simp only [List.map_cons, List.map_nil, List.mem_singleton] at hb
          rw [e, hb] at ha
          exact g2 ha
        have ino : ∀ (z : Str) (S2 : Sto), Keep [o] S' S2 → cellAt S2 o = some (.lst ((xs.take i).map fun x => D.str (cnm x))) → ∀ {Q : D → Sto → Prop} {E : Exc → Sto → Prop}, Q (.bl (decide (z ∈ (xs.take i).map cnm))) S2 → Ru (cmpR .isIn (.str z) (.ref o) S2) Q E := fun z S2 _ c3 Q E q => by
          have e0 : (xs.take i).map (fun x => D.str (cnm x)) = ((xs.take i).map cnm).map .str := by rw [List.map_map]; rfl
          rw [e0] at c3
          obtain ⟨g1, g2⟩ := fzs_strs2 ((xs.take i).map cnm)
          rw [ru_in (ys := ((xs.take i).map cnm).map .str) (by rw [seqOf_ref, c3]) (fun _ h => by cases h)]
          refine ⟨⟨by simp [D.fz], by simp [D.dp], g1, by omega⟩, ?_⟩
          rw [List.any_map]
          have : (((xs.take i).map cnm).any ((fun w => w.eqv (.str z)) ∘ D.str)) = decide (z ∈ (xs.take i).map cnm) := by
            rw [Bool.eq_iff_iff, List.any_eq_true, decide_eq_true_eq]
            simp [D.eqv]
          rw [this]
          exact q
        and_intros
        refine ru_isiF fx (by simp) ?_
        cases xt : isI "tuple" x with
        | false =>
          have e : condB f x = false := by
            unfold condB
            split
            · exact absurd rfl (isI_tupF xt _)
            · exact absurd rfl (isI_tupF xt _)
            · rfl
          and_intros
          exact no _ kk (.inl e)
        | true =>
          obtain ⟨ys, rfl⟩ := isI_tup xt
          have yp := tup_parts fx (Nat.le_trans px (by decide))
          and_intros
          rw [ru_notIn (ys := [.int 3, .int 4]) rfl (fun _ h => by cases h)]
          refine ⟨by simp [D.fz, D.fzs, D.dp, D.dps], ?_⟩
          by_cases h34 : ys.length = 3 ∨ ys.length = 4
          · rw [show (!([D.int 3, D.int 4].any fun z => z.eqv (.int (ys.length : Int)))) = false by rcases h34 with h | h <;> rw [h] <;> simp [D.eqv]]
            rcases h34 with h3 | h3
            · match ys, h3, yp with
              | [x0, x1, v], _, yp =>
                and_intros
                refine ru_isiF (yp x0 (by simp)).1 (by simp) ?_
                cases h0 : isI "str" x0 with
                | false =>
                  have e : elB (f.map (·.1)) x0 = false := by cases x0 <;> first | rfl | exact absurd rfl (isI_strF h0 _)
                  and_intros
                  exact no _ kk (.inl (cond_no e))
                | true =>
                  obtain ⟨z, rfl⟩ := isI_str h0
                  and_intros
                  refine r_dpairs (ys := f.map enCol) rfl (pairsF f) (by rw [List.length_map]; omega) fun S2 n2 hn2 cc2 k3 => ?_
                  rw [mergeD_nd (kdF_nd nd)] at cc2
                  refine r_din cc2 (κ := .inr z) rfl ?_
                  have kk2 : Keep [o] S S2 := kk.trans (k3.mono (by simp))
                  cases hw : f.lookup z with
                  | none =>
                    rw [kdF_none hw]
                    and_intros
                    exact no _ kk2 (.inl (cond_no (by rw [look_el, hw]; rfl)))
                  | some w =>
                    have hg := kdF_get nd hw
                    rw [hg]
                    and_intros
                    refine ru_isiF (yp x1 (by simp)).1 (by simp) ?_
                    cases h1' : isI "str" x1 with
                    | false =>
                      have e : elB ["is", "from"] x1 = false := by cases x1 <;> first | rfl | exact absurd rfl (isI_strF h1' _)
                      and_intros
                      exact no _ kk2 (.inl (cond_no1 e))
                    | true =>
                      obtain ⟨y, rfl⟩ := isI_str h1'
                      have co2 : cellAt S2 o = some (.lst ((xs.take i).map fun x => D.str (cnm x))) := (k3.eq o (cellAt_lt c2) (by simp)).trans c2
                      have k13 : Keep [o] S1 S2 := k2.trans (k3.mono (by simp))
                      and_intros
                      refine Ru.eq (a := .str "is") (S := S2) rfl ?_
                      and_intros
                      cases hs : y == ("is" : Str) with
                      | false =>
                        and_intros
                        exact no _ kk2 (.inl (by simp [condB, hw, hs]))
                      | true =>
                        have cbv : condB f (.tup [.str z, .str y, v]) = valD w v := by simp [condB, hw, hs]
                        have cz : cnm (.tup [.str z, .str y, v]) = z := rfl
                        and_intros
                        refine ino z S2 (k3.mono (by simp)) co2 ?_
                        by_cases hm : z ∈ (xs.take i).map cnm
                        · rw [decide_eq_true hm]
                          and_intros
                          exact no _ kk2 (.inr hm)
                        · rw [decide_eq_false hm]
                          and_intros
                          refine r_dpairs (ys := f.map enCol) rfl (pairsF f) (by rw [List.length_map]; omega) fun S3 n3 hn3 cc3 k4 => ?_
                          rw [mergeD_nd (kdF_nd nd)] at cc3
                          and_intros
                          refine r_didx cc3 (κ := .inr z) rfl hg ?_
                          have k14 : Keep [o] S1 S3 := k13.trans (k4.mono (by simp))
                          have co3 : cellAt S3 o = some (.lst ((xs.take i).map fun x => D.str (cnm x))) := (k4.eq o (cellAt_lt co2) (by simp)).trans co2
                          have kk3 : Keep [o] S S3 := kk2.trans (k4.mono (by simp))
                          and_intros
                          refine Ru.lcp (f := fun x => [.bl (valD w x)]) trivial (fun x hx => ?_) ?_
                          · have hx' : x ∈ [v] := hx
                            have fx' : x.fz = true := (yp x (by simp at hx'; subst hx'; simp)).1
                            cases x with
                            | non =>
                              and_intros
                              refine lval42_ru fx' ?_
                              and_intros
                              exact ⟨rfl, rfl⟩
                            | _ =>
                              first
                                | (simp [D.fz] at fx'; done)
                                | (and_intros
                                   refine lval42_ru fx' ?_
                                   and_intros
                                   exact ⟨rfl, rfl⟩)
                          rw [flat_oneB]
                          refine ⟨by show [v].length ≤ sizeLine; exact sz_le (by simp), ?_⟩
                          and_intros
                          rw [show (Src.fix, cutD [D.str z, D.str y, v] (some 2) none).snd.all (valD w) = valD w v by show [v].all (valD w) = _; rw [List.all_cons, List.all_nil, Bool.and_true]]
                          cases hv : valD w v with
                          | false =>
                            and_intros
                            exact no _ kk3 (.inl (by rw [cbv, hv]))
                          | true =>
                            and_intros
                            refine r_append co3 (by rw [List.length_map, List.length_take]; omega) fun S4 l4 co4 k5 => ?_
                            and_intros
                            exact yes S4 (k14.trans (k5.mono (by simp))) (by rw [cbv, hv]) hm co4 _ _ _
            · match ys, h3, yp with
              | [x0, x1, u, v], _, yp =>
                and_intros
                refine ru_isiF (yp x0 (by simp)).1 (by simp) ?_
                cases h0 : isI "str" x0 with
                | false =>
                  have e : elB (f.map (·.1)) x0 = false := by cases x0 <;> first | rfl | exact absurd rfl (isI_strF h0 _)
                  and_intros
                  exact no _ kk (.inl (cond_no e))
                | true =>
                  obtain ⟨z, rfl⟩ := isI_str h0
                  and_intros
                  refine r_dpairs (ys := f.map enCol) rfl (pairsF f) (by rw [List.length_map]; omega) fun S2 n2 hn2 cc2 k3 => ?_
                  rw [mergeD_nd (kdF_nd nd)] at cc2
                  refine r_din cc2 (κ := .inr z) rfl ?_
                  have kk2 : Keep [o] S S2 := kk.trans (k3.mono (by simp))
                  cases hw : f.lookup z with
                  | none =>
                    rw [kdF_none hw]
                    and_intros
                    exact no _ kk2 (.inl (cond_no (by rw [look_el, hw]; rfl)))
                  | some w =>
                    have hg := kdF_get nd hw
                    rw [hg]
                    and_intros
                    refine ru_isiF (yp x1 (by simp)).1 (by simp) ?_
                    cases h1' : isI "str" x1 with
                    | false =>
                      have e : elB ["is", "from"] x1 = false := by cases x1 <;> first | rfl | exact absurd rfl (isI_strF h1' _)
                      and_intros
                      exact no _ kk2 (.inl (cond_no1 e))
                    | true =>
                      obtain ⟨y, rfl⟩ := isI_str h1'
                      have co2 : cellAt S2 o = some (.lst ((xs.take i).map fun x => D.str (cnm x))) := (k3.eq o (cellAt_lt c2) (by simp)).trans c2
                      have k13 : Keep [o] S1 S2 := k2.trans (k3.mono (by simp))
                      and_intros
                      refine Ru.eq (a := .str "from") (S := S2) rfl ?_
                      and_intros
                      cases hs : y == ("from" : Str) with
                      | false =>
                        and_intros
                        exact no _ kk2 (.inl (by simp [condB, hw, hs]))
                      | true =>
                        have cbv : condB f (.tup [.str z, .str y, u, v]) = (!(isN u && isN v) && (bdB w u && bdB w v)) := by simp [condB, hw, hs]
                        have cz : cnm (.tup [.str z, .str y, u, v]) = z := rfl
                        and_intros
                        refine ino z S2 (k3.mono (by simp)) co2 ?_
                        by_cases hm : z ∈ (xs.take i).map cnm
                        · rw [decide_eq_true hm]
                          and_intros
                          exact no _ kk2 (.inr hm)
                        · rw [decide_eq_false hm]
                          and_intros
                          refine r_dpairs (ys := f.map enCol) rfl (pairsF f) (by rw [List.length_map]; omega) fun S3 n3 hn3 cc3 k4 => ?_
                          rw [mergeD_nd (kdF_nd nd)] at cc3
                          and_intros
                          refine r_didx cc3 (κ := .inr z) rfl hg ?_
                          have k14 : Keep [o] S1 S3 := k13.trans (k4.mono (by simp))
                          have co3 : cellAt S3 o = some (.lst ((xs.take i).map fun x => D.str (cnm x))) := (k4.eq o (cellAt_lt co2) (by simp)).trans co2
                          have kk3 : Keep [o] S S3 := kk2.trans (k4.mono (by simp))
                          and_intros
                          refine Ru.lcp (f := fun x => [.bl (bdB w x)]) trivial (fun x hx => ?_) ?_
                          · have hx' : x ∈ [u, v] := hx
                            have fx' : x.fz = true := (yp x (by simp at hx'; rcases hx' with rfl | rfl <;> simp)).1
                            cases x with
                            | non =>
                              and_intros
                              exact ⟨rfl, rfl⟩
                            | _ =>
                              first
                                | (simp [D.fz] at fx'; done)
                                | (and_intros
                                   refine lval42_ru fx' ?_
                                   and_intros
                                   exact ⟨rfl, rfl⟩)
                          rw [flat_oneB]
                          refine ⟨by show [u, v].length ≤ sizeLine; exact sz_le (by simp), ?_⟩
                          and_intros
                          rw [show (Src.fix, cutD [D.str z, D.str y, u, v] (some 2) none).snd.all (bdB w) = (bdB w u && bdB w v) by show [u, v].all (bdB w) = _; rw [List.all_cons, List.all_cons, List.all_nil, Bool.and_true]]
                          cases hv : (bdB w u && bdB w v) with
                          | false =>
                            and_intros
                            exact no _ kk3 (.inl (by rw [cbv, hv, Bool.and_false]))
                          | true =>
                            rw [hv, Bool.and_true] at cbv
                            have fin : ∀ {Q : D → Sto → Prop} {E : Exc → Sto → Prop}, (isN u && isN v) = false → (∀ S4, Keep [o] S3 S4 → cellAt S4 o = some (.lst ((xs.take i).map (fun x => D.str (cnm x)) ++ [.str z])) → Q .non S4) → Ru (bmR .append (.ref o) [.str z] S3) Q E := fun _ q =>
                              r_append co3 (by rw [List.length_map, List.length_take]; omega) fun S4 l4 co4 k5 => q S4 k5 co4
                            have iN : ∀ {x : D}, x ≠ .non → isN x = false := fun {x} h => by cases x <;> first | rfl | exact absurd rfl h
                            and_intros
                            by_cases hu : u = .non
                            · subst hu
                              and_intros
                              by_cases hv' : v = .non
                              · subst hv'
                                and_intros
                                exact no _ kk3 (.inl (by rw [cbv]; rfl))
                              · rw [if_neg (by cases v <;> first | exact absurd rfl hv' | simp)]
                                and_intros
                                refine fin (by rw [iN hv']; rfl) fun S4 k5 co4 => ?_
                                and_intros
                                exact yes S4 (k14.trans k5) (by rw [cbv, iN hv']; rfl) hm co4 _ _ _
                            · rw [if_neg (by cases u <;> first | exact absurd rfl hu | simp)]
                              and_intros
                              rw [if_neg (by cases u <;> first | exact absurd rfl hu | simp)]
                              and_intros
                              refine fin (by rw [iN hu]; rfl) fun S4 k5 co4 => ?_
                              and_intros
                              exact yes S4 (k14.trans k5) (by rw [cbv, iN hu]; rfl) hm co4 _ _ _
          · have e : condB f (.tup ys) = false := by
              unfold condB
              split
              · rename_i e
                cases e
                exact absurd (.inl rfl) h34
              · rename_i e
                cases e
                exact absurd (.inr rfl) h34
              · rfl
            rw [show (!([D.int 3, D.int 4].any fun z => z.eqv (.int (ys.length : Int)))) = true by
              have h1 : ¬ (3 : Int) = ys.length := by omega
              have h2 : ¬ (4 : Int) = ys.length := by omega
              simp [D.eqv, h1, h2]]
            and_intros
            exact no _ kk (.inl e)
      · subst e
        rw [show (Src.fix, xs).snd.length = xs.length from rfl, List.take_length] at h1 h2
        have q := q S' ((k1.mono (cs := [o]) (by simp)).trans k2 |>.fresh fun b hb => .inr (by rw [List.mem_singleton.mp hb]; omega))
        rw [cb, h1, decide_eq_true h2] at q
        and_intros
        exact q
    · rw [decide_eq_false h6, Bool.false_and, Bool.false_and] at cb
      have q := q S Keep.refl
      rw [cb] at q
      rw [show decide ((6 : Int) < xs.length) = true from decide_eq_true (by omega)]
      and_intros
      exact q
end


end
section
/-! ### the law's own due -/
set_option maxHeartbeats 600000
section
variable {k : Nat} {d od c v : D} {S : Sto} {f : List Col} {ns : List Str} {w : Bool} {lo hi : Nat} {a b : Int} {Q : D → Sto → Prop} {E : Exc → Sto → Prop}
theorem lisask_ru (nd : (f.map (·.1)).Nodup) (l1 : 1 ≤ f.length) (l6 : f.length ≤ 6) (hf : d.fz = true) (hp : d.dp ≤ 60) (q : ∀ S', Keep [] S S' → Q (.bl (fltB f d).isNone) S') : Ru (callN Tb (k + 3) 26 [.ntp (f.map enCol), d] S) Q E := by
  obtain ⟨g1, g2⟩ := int_kinds
  refine Ru.def (fn := ⟨2, 6, p_l_is_ask⟩) rfl rfl ?_; simp only [List.map_cons, List.map_nil, List.length_cons, List.length_nil, Nat.reduceAdd, Nat.reduceSub, List.replicate_succ, List.replicate_zero, List.cons_append, List.nil_append]
  and_intros
  refine Ru.lcm enCol (fun c => [.str c.1]) trivial (fun c _ => ?_) ?_
  · obtain ⟨z, w⟩ := c
    show Ru (lcStep _ _ _ _ _ _ (.tup [.str z, .str (kindS w)]) _) _ _
    and_intros
    exact ⟨rfl, rfl⟩
  rw [flat_oneB]
  refine ⟨by rw [List.length_map]; exact sz_le (by omega), ?_⟩
  rw [show f.map (fun c => D.str c.1) = (f.map (·.1)).map .str by rw [List.map_map]; rfl]
  and_intros
  refine ru_isiF hf (by simp) ?_
  cases ht : isI "tuple" d with
  | false =>
    have e : fltB f d = some 0 := by
      unfold fltB
      split
      · exact absurd rfl (isI_tupF ht _)
      · rfl
    have q := q S Keep.refl
    rw [e] at q
    and_intros
    exact q
  | true =>
    obtain ⟨xs, rfl⟩ := isI_tup ht
    have par := tup_parts hf hp
    and_intros
    by_cases h4 : xs.length = 4
    · match xs, h4, par with
      | [w, c, o, n], _, par =>
        have qe : fltB f (.tup [w, c, o, n]) = if keyR 1 f.length (f.map (·.1)) w = false then some 1 else if cnB f c = false then some 2 else if keyR 0 4 (f.map (·.1)) o = false then some 3 else if frB n = false then some 4 else none := rfl
        rw [qe] at q
        have kl := keyR_len (ns := f.map (·.1)) (od := w) (by rw [List.length_map]; exact l6)
        rw [List.length_map] at kl
        and_intros
        refine lacols42_ru (lo := 1) (hi := 6) rfl rfl (by decide) (par w (by simp)).1 (by have := (par w (by simp)).2; omega) ?_
        rw [kl]
        cases ka : keyR 1 f.length (f.map (·.1)) w with
        | false =>
          have q := q S Keep.refl
          rw [if_pos ka] at q
          and_intros
          exact q
        | true =>
          rw [if_neg (by rw [ka]; decide)] at q
          and_intros
          refine lconds42_ru nd l6 (par c (by simp)).1 (by have := (par c (by simp)).2; omega) fun S1 k1 => ?_
          have q := q S1 k1
          cases kc : cnB f c with
          | false =>
            rw [if_pos kc] at q
            and_intros
            exact q
          | true =>
            rw [if_neg (by rw [kc]; decide)] at q
            and_intros
            refine lacols42_ru (lo := 0) (hi := 4) rfl rfl (by decide) (par o (by simp)).1 (by have := (par o (by simp)).2; omega) ?_
            cases ko : keyR 0 4 (f.map (·.1)) o with
            | false =>
              rw [if_pos ko] at q
              and_intros
              exact q
            | true =>
              rw [if_neg (by rw [ko]; decide)] at q
              and_intros
              by_cases hn : n = .non
              · subst hn
                rw [if_neg (by decide)] at q
                and_intros
                exact q
              · rw [if_neg (by cases n <;> first | exact absurd rfl hn | simp)]
                have e : frB n = whB n := by
                  have : isN n = false := by cases n <;> first | rfl | exact absurd rfl hn
                  unfold frB
                  rw [this]
                  rfl
                rw [e] at q
                have hfn := (par n (by simp)).1
                and_intros
                refine ru_isiF hfn (by simp) ?_
                cases h1 : isI "int" n with
                | false =>
                  have e : whB n = false := by
                    cases n with
                    | int i => rw [g1 i] at h1; cases h1
                    | _ => rfl
                  rw [if_pos e] at q
                  and_intros
                  exact q
                | true =>
                  and_intros
                  refine ru_isiF hfn (by simp) ?_
                  cases h2 : isI "bool" n with
                  | true =>
                    have e : whB n = false := by
                      cases n with
                      | int i => rw [g2 i] at h2; cases h2
                      | _ => rfl
                    rw [if_pos e] at q
                    and_intros
                    exact q
                  | false =>
                    obtain ⟨i, rfl⟩ := isI_int h1 h2
                    have ew : whB (.int i) = (decide (1 ≤ i) && decide (i ≤ 20)) := rfl
                    and_intros
                    by_cases h3 : 1 ≤ i
                    · rw [if_pos (decide_eq_true h3)]
                      rw [ew, decide_eq_true h3, Bool.true_and] at q
                      and_intros
                      by_cases h4' : i ≤ 20
                      · rw [decide_eq_true h4'] at q ⊢
                        exact q
                      · rw [decide_eq_false h4'] at q ⊢
                        exact q
                    · rw [if_neg (by rw [decide_eq_true_eq]; exact h3)]
                      rw [ew, decide_eq_false h3, Bool.false_and] at q
                      and_intros
                      exact q
    · have e : fltB f (.tup xs) = some 0 := by
        unfold fltB
        split
        · rename_i e
          cases e
          exact absurd rfl h4
        · rfl
      have q := q S Keep.refl
      rw [e] at q
      rw [if_pos (by simp; omega)]
      and_intros
      rw [if_pos (by simp; omega)]
      and_intros
      exact q
theorem dW {z : Str} : (dGet (mergeD (([.inr "ask", .inr "put", .inr "drop", .inr "set"] : List L2.Key).zip [.int 2, .int 2, .int 2, .int 4])) (.inr z)).getD (.int 0) = .int ((itW.lookup z).getD 0) := by
  rw [mergeD_nd (by decide +kernel), itW_look]
  by_cases h1 : z = "ask"
  · subst h1; rfl
  by_cases h2 : z = "put"
  · subst h2; rfl
  by_cases h3 : z = "drop"
  · subst h3; rfl
  by_cases h4 : z = "set"
  · subst h4; rfl
  have e1 : (z == ("ask" : Str)) = false := by simpa using h1
  have e2 : (z == ("put" : Str)) = false := by simpa using h2
  have e3 : (z == ("drop" : Str)) = false := by simpa using h3
  have e4 : (z == ("set" : Str)) = false := by simpa using h4
  rw [e1, e2, e3, e4]
  have n1 : ¬ ("ask" : Str) = z := fun h => h1 h.symm
  have n2 : ¬ ("put" : Str) = z := fun h => h2 h.symm
  have n3 : ¬ ("drop" : Str) = z := fun h => h3 h.symm
  have n4 : ¬ ("set" : Str) = z := fun h => h4 h.symm
  simp [dGet, List.find?, n1, n2, n3, n4]
theorem ldue42_ru (nd : (f.map (·.1)).Nodup) (l1 : 1 ≤ f.length) (l6 : f.length ≤ 6) (hf : d.fz = true) (hp : d.dp ≤ 60) (lw : ∀ xs, d = .tup xs → xs.length ≤ 1000) (q : ∀ S', Keep [] S S' → Q (fltD (itB f d)) S') : Ru (callN Tb (k + 4) 27 [.ntp (f.map enCol), d] S) Q E := by
  obtain ⟨g1, g2, g3, g4, g5, g6⟩ := kw4
  refine Ru.def (fn := ⟨2, 6, p_l_due⟩) rfl rfl ?_; simp only [List.map_cons, List.map_nil, List.length_cons, List.length_nil, Nat.reduceAdd, Nat.reduceSub, List.replicate_succ, List.replicate_zero, List.cons_append, List.nil_append]
  and_intros
  refine r_ddisp ?_
  and_intros
  refine ⟨by decide, fun S0 n0 hn0 c0 k0 => ?_⟩
  and_intros
  refine ru_isiF hf (by simp) ?_
  cases ht : isI "tuple" d with
  | false =>
    have q := q S0 k0
    rw [itB_no fun z r => isI_tupF ht _] at q
    and_intros
    exact q
  | true =>
    obtain ⟨xs, rfl⟩ := isI_tup ht
    have par := tup_parts hf hp
    have lx := lw xs rfl
    and_intros
    rw [ru_eq hf (by simp [D.fz, D.fzs])]
    refine ⟨⟨by omega, by simp [D.dp, D.dps]⟩, ?_⟩
    cases xs with
    | nil =>
      have q := q S0 k0
      rw [itB_no fun z r => by simp] at q
      rw [show (D.tup []).eqv (.tup []) = true by simp [D.eqv, D.eqvs]]
      and_intros
      exact q
    | cons x r =>
      rw [show (D.tup (x :: r)).eqv (.tup []) = false by simp [D.eqv, D.eqvs]]
      and_intros
      refine ru_isiF (par x (by simp)).1 (by simp) ?_
      cases hs : isI "str" x with
      | false =>
        have q := q S0 k0
        rw [itB_no fun z r e => by cases e; exact isI_strF hs _ rfl] at q
        and_intros
        exact q
      | true =>
        obtain ⟨z, rfl⟩ := isI_str hs
        and_intros
        refine r_dget2 c0 (κ := .inr z) rfl ?_
        rw [dW]
        and_intros
        have eb : itB f (.tup (.str z :: r)) = if (itW.lookup z).getD 0 = (r.length : Int) + 1 then itR f z r else some 0 := rfl
        by_cases hn : (itW.lookup z).getD 0 = (r.length : Int) + 1
        · rw [hn]
          rw [if_pos hn] at eb
          rw [eb] at q
          and_intros
          rw [if_neg (by simp)]
          rcases itW_cases hn with ⟨l1', hz⟩ | ⟨l3, rfl⟩
          · obtain ⟨a, rfl⟩ : ∃ a, r = [a] := by
              match r, l1' with
              | [a], _ => exact ⟨a, rfl⟩
            obtain ⟨fa, pa⟩ := par a (by simp)
            rcases hz with rfl | rfl | rfl
            · have e : itR f "ask" [a] = if fltB f a = none then none else some 1 := by simp [itR]
              rw [e] at q
              and_intros
              refine lisask_ru nd l1 l6 fa (by omega) fun S1 k1 => ?_
              have q := q S1 (k0.trans k1)
              cases h : fltB f a with
              | none =>
                rw [if_pos h] at q
                and_intros
                exact q
              | some j =>
                rw [if_neg (by rw [h]; simp)] at q
                and_intros
                exact q
            · have e : itR f "put" [a] = if rowD f a = true then none else some 1 := by simp [itR, g1]
              rw [e] at q
              have q := q S0 k0
              and_intros
              refine ru_isiF fa (by simp) ?_
              cases hat : isI "tuple" a with
              | false =>
                rw [if_neg (by rw [rowD_no hat]; decide)] at q
                and_intros
                exact q
              | true =>
                obtain ⟨ys, rfl⟩ := isI_tup hat
                and_intros
                rw [List.length_map]
                have ap := tup_parts fa (by omega)
                have rb : rowD f (.tup ys) = ((ys.length == f.length) && (f.zip ys).all fun p => valD p.1.2 p.2) := rfl
                by_cases hl : ys.length = f.length
                · rw [if_neg (by rw [hl]; simp)]
                  rw [show (ys.length == f.length) = true from beq_iff_eq.mpr hl, Bool.true_and] at rb
                  and_intros
                  refine r_zipwR ⟨rfl, rfl, rfl⟩ ?_
                  rw [show zipWD (f.map enCol) ys = (f.zip ys).map fun p => .wtp [enCol p.1, p.2] by unfold zipWD; rw [List.zip_map_left, List.map_map]; rfl]
                  refine Ru.lcm (fun p : Col × D => D.wtp [enCol p.1, p.2]) (fun p => [.bl (valD p.1.2 p.2)]) trivial (fun p hp' => ?_) ?_
                  · obtain ⟨⟨nm, w⟩, y⟩ := p
                    have hy := (ap y (List.of_mem_zip hp').2).1
                    show Ru (lcStep _ _ _ _ _ _ (.wtp [.tup [.str nm, .str (kindS w)], y]) _) _ _
                    and_intros
                    refine lval42_ru (k := k + 2) hy ?_
                    and_intros
                    exact ⟨rfl, rfl⟩
                  rw [flat_oneB]
                  refine ⟨by rw [List.length_map, List.length_zip]; exact sz_le (by omega), ?_⟩
                  and_intros
                  rw [rb] at q
                  cases hal : (f.zip ys).all fun p => valD p.1.2 p.2 with
                  | true =>
                    rw [if_pos hal] at q
                    and_intros
                    exact q
                  | false =>
                    rw [if_neg (by rw [hal]; decide)] at q
                    and_intros
                    exact q
                · rw [if_pos (by simp; omega)]
                  rw [rb, show (ys.length == f.length) = false from beq_eq_false_iff_ne.mpr hl, Bool.false_and, if_neg (by decide)] at q
                  and_intros
                  exact q
            · have e : itR f "drop" [a] = if cnB f a = false then some 1 else none := by simp [itR, g2, g4]
              rw [e] at q
              and_intros
              refine lconds42_ru (k := k + 1) nd l6 fa (by omega) fun S1 k1 => ?_
              have q := q S1 (k0.trans k1)
              cases h : cnB f a with
              | false =>
                rw [if_pos h] at q
                and_intros
                exact q
              | true =>
                rw [if_neg (by rw [h]; decide)] at q
                and_intros
                exact q
          · obtain ⟨a, n, v, rfl⟩ : ∃ a n v, r = [a, n, v] := by
              match r, l3 with
              | [a, n, v], _ => exact ⟨a, n, v, rfl⟩
            have e : itR f "set" [a, n, v] = if cnB f a = false then some 1 else valF f n v := by simp [itR, g3, g5, g6]
            rw [e] at q
            obtain ⟨fa, pa⟩ := par a (by simp)
            and_intros
            refine lconds42_ru (k := k + 1) nd l6 fa (by omega) fun S1 k1 => ?_
            cases h : cnB f a with
            | false =>
              have q := q S1 (k0.trans k1)
              rw [if_pos h] at q
              and_intros
              exact q
            | true =>
              rw [if_neg (by rw [h]; decide)] at q
              and_intros
              have hfn := (par n (by simp)).1
              have hfv := (par v (by simp)).1
              refine ru_isiF hfn (by simp) ?_
              cases hns : isI "str" n with
              | false =>
                have q := q S1 (k0.trans k1)
                have e : valF f n v = some 2 := by cases n <;> first | rfl | exact absurd rfl (isI_strF hns _)
                rw [e] at q
                and_intros
                exact q
              | true =>
                obtain ⟨y, rfl⟩ := isI_str hns
                and_intros
                refine r_dpairs (ys := f.map enCol) rfl (pairsF f) (by rw [List.length_map]; omega) fun S2 n2 hn2 cc2 k2 => ?_
                rw [mergeD_nd (kdF_nd nd)] at cc2
                refine r_din cc2 (κ := .inr y) rfl ?_
                cases hw : f.lookup y with
                | none =>
                  have q := q S2 (k0.trans (k1.trans k2))
                  rw [show valF f (.str y) v = some 2 by simp [valF, hw]] at q
                  rw [kdF_none hw]
                  and_intros
                  exact q
                | some w =>
                  have hg := kdF_get nd hw
                  rw [hg]
                  and_intros
                  refine r_dpairs (ys := f.map enCol) rfl (pairsF f) (by rw [List.length_map]; omega) fun S3 n3 hn3 cc3 k3 => ?_
                  rw [mergeD_nd (kdF_nd nd)] at cc3
                  and_intros
                  refine r_didx cc3 (κ := .inr y) rfl hg ?_
                  and_intros
                  refine lval42_ru (k := k + 2) hfv ?_
                  have q := q S3 (k0.trans (k1.trans (k2.trans k3)))
                  rw [show valF f (.str y) v = if valD w v = true then none else some 3 by simp [valF, hw]] at q
                  cases hb : valD w v with
                  | true =>
                    rw [if_pos hb] at q
                    and_intros
                    exact q
                  | false =>
                    rw [if_neg (by rw [hb]; decide)] at q
                    and_intros
                    exact q
        · rw [if_neg hn] at eb
          rw [eb] at q
          have q := q S0 k0
          rw [if_pos (by simp; exact hn)]
          and_intros
          exact q
end


end
section
/-! ### any things; a thing bent at any depth; a copy -/
set_option maxHeartbeats 600000
mutual
/-- no script within -/
def nsc : D → Bool
  | .tup xs => nscs xs
  | .lst xs => nscs xs
  | .scr _ => false
  | _ => true
def nscs : List D → Bool
  | [] => true
  | x :: xs => nsc x && nscs xs
end
theorem nscs_iff : ∀ {xs : List D}, nscs xs = true ↔ ∀ x ∈ xs, nsc x = true
  | [] => by simp [nscs]
  | x :: xs => by
    rw [nscs, Bool.and_eq_true, nscs_iff]
    simp
structure FS (n w : Nat) (d : D) : Prop where
  fd : FD n w d
  ns : nsc d = true
section
variable {n m w v : Nat} {d x : D} {xs ys : List D} {lo hi : Option Int}
theorem FS.up (h : FS n w d) (a : n ≤ m) (b : w ≤ v) : FS m v d := ⟨h.fd.up a b, h.ns⟩
theorem FS.tup (h : ∀ x ∈ xs, FS n w x) (l : xs.length ≤ w) : FS (n + 1) w (.tup xs) := ⟨FD.tup (fun x hx => (h x hx).fd) l, by rw [nsc]; exact nscs_iff.mpr fun x hx => (h x hx).ns⟩
theorem FS.lst (h : ∀ x ∈ xs, FS n w x) (l : xs.length ≤ w) : FS (n + 1) w (.lst xs) := ⟨FD.lst (fun x hx => (h x hx).fd) l, by rw [nsc]; exact nscs_iff.mpr fun x hx => (h x hx).ns⟩
theorem FS.its (h : FS (n + 1) w (.tup xs)) : xs.length ≤ w ∧ ∀ x ∈ xs, FS n w x := by
  obtain ⟨l, a⟩ := h.fd.its
  have k := h.ns
  rw [nsc] at k
  exact ⟨l, fun x hx => ⟨a x hx, nscs_iff.mp k x hx⟩⟩
theorem FS.itsL (h : FS (n + 1) w (.lst xs)) : xs.length ≤ w ∧ ∀ x ∈ xs, FS n w x := by
  have h1 := h.fd.fz
  have h2 := h.fd.dp
  have h3 := h.fd.wd
  rw [D.fz] at h1
  rw [D.dp] at h2
  simp only [D.wd, Bool.and_eq_true, decide_eq_true_eq] at h3
  have k := h.ns
  rw [nsc] at k
  exact ⟨h3.1, fun x hx => ⟨⟨fzs_mem h1 x hx, mem_dp (by omega) x hx, wds_get h3.2 x hx⟩, nscs_iff.mp k x hx⟩⟩
theorem FS.str (z : Str) : FS n w (.str z) := ⟨FD.str z, by simp [nsc]⟩
theorem FS.int (i : Int) : FS n w (.int i) := ⟨FD.int i, by simp [nsc]⟩
theorem FS.non : FS n w .non := ⟨FD.non, by simp [nsc]⟩
theorem FS.c (h : FS n w x) (t : ∀ y ∈ xs, FS n w y) : ∀ y ∈ x :: xs, FS n w y := List.forall_mem_cons.mpr ⟨h, t⟩
theorem FS.e : ∀ y ∈ ([] : List D), FS n w y := fun _ h => nomatch h
theorem FS.val {b : Bool} (h : ValOf b d) : FS n w d := by
  cases b with
  | true => obtain ⟨z, rfl, _⟩ := h; exact FS.str z
  | false => obtain ⟨i, rfl, _⟩ := h; exact FS.int i
theorem FS.strs {zs : List Str} : ∀ x ∈ zs.map D.str, FS n w x := fun x hx => by
  obtain ⟨z, _, rfl⟩ := List.mem_map.mp hx
  exact FS.str z
end
section
variable {k b n w : Nat} {d : D} {S : Sto} {ns : List Str} {xs : List D} {Q : D → Sto → Prop} {E : Exc → Sto → Prop}
theorem idxN {i : Int} (h0 : 0 ≤ i) (h1 : i < ns.length) (q : ∀ z, Q (.str z) S) : Ru (idxR (.lst (ns.map .str)) (.int i) S) Q E := by
  refine r_idxL h0 (by rw [List.length_map]; exact h1) fun x hx => ?_
  obtain ⟨z, _, rfl⟩ := List.mem_map.mp hx
  exact q z
theorem lany_ru (hb : BagAt S b) (l1 : 1 ≤ ns.length) (l6 : ns.length ≤ 6) (q : ∀ d S', FS 3 20 d → Keep [b] S S' → BagAt S' b → Q d S') : Ru (callN Tb (k + 2) 22 [.ref b, .lst (ns.map .str)] S) Q E := by
  refine Ru.def (fn := ⟨2, 3, p_l_any⟩) rfl rfl ?_; simp only [List.map_cons, List.map_nil, List.length_cons, List.length_nil, Nat.reduceAdd, Nat.reduceSub, List.replicate_succ, List.replicate_zero, List.cons_append, List.nil_append]
  and_intros
  refine Ru.eq (a := .int (10 ^ 59)) (S := S) (show binR false .pow (.int 10) (.int 59) S = .ok (.int (10 ^ (59 : Int).toNat)) S from ck_of (by decide)) ?_
  and_intros
  rw [List.length_map]
  refine take_ru hb (by omega) (by omega) fun c S1 c0 c1 k1 b1 => ?_
  and_intros
  refine idxN c0 c1 fun z1 => ?_
  and_intros
  refine idxN (i := 0) (by omega) (by omega) fun z2 => ?_
  and_intros
  refine r_addL (by simp) ?_
  and_intros
  refine idxN (i := 0) (by omega) (by omega) fun z3 => ?_
  and_intros
  refine r_addL (by simp) ?_
  and_intros
  refine take_ru b1 (by omega) (by omega) fun t S2 t0 t1 k2 b2 => ?_
  and_intros
  refine r_idxL t0 (by simp; omega) fun d hd => ?_
  and_intros
  refine q d S2 ?_ (k1.trans k2) b2
  simp only [List.cons_append, List.nil_append, List.mem_cons, List.not_mem_nil, or_false] at hd
  rcases hd with rfl | rfl | rfl | rfl | rfl | rfl | rfl | rfl | rfl | rfl | rfl | rfl | rfl | rfl | rfl | rfl | rfl | rfl | rfl | rfl | rfl | rfl
  all_goals refine ⟨⟨by simp [D.fz, D.fzs], by simp [D.dp, D.dps], rfl⟩, by simp [nsc, nscs]⟩
theorem cut_two {pl : Int} (p0 : 0 ≤ pl) (p1 : pl < xs.length) : (cutD xs none (some pl)).length + (cutD xs (some (pl + 1)) none).length ≤ xs.length - 1 := by
  unfold cutD
  rw [List.length_take, List.length_take, List.length_drop, List.length_drop]
  have a1 : HT.sIx xs.length xs.length (some pl) = pl.toNat := by
    simp only [HT.sIx]
    rw [if_neg (by omega)]
    omega
  have a2 : HT.sIx xs.length 0 (some (pl + 1)) = pl.toNat + 1 := by
    simp only [HT.sIx]
    rw [if_neg (by omega)]
    omega
  have a3 : HT.sIx xs.length 0 none = 0 := rfl
  have a4 : HT.sIx xs.length xs.length none = xs.length := rfl
  rw [a1, a2, a3, a4]
  omega
theorem nil_eq : (D.tup xs).eqv (.tup []) = xs.isEmpty := by cases xs <;> simp [D.eqv, D.eqvs]
theorem lbent_step (l1 : 1 ≤ ns.length) (l6 : ns.length ≤ 6) (hb : BagAt S b) (h : FS n w d) (n60 : n ≤ 40) (hw : 25 ≤ w) (hw2 : w ≤ 500)
    (ih : ∀ (m : Nat) {x : D} {S : Sto} {Q : D → Sto → Prop} {E : Exc → Sto → Prop}, n = m + 1 → BagAt S b → FS m w x → (∀ d S', FS (m + 3) (w + 1) d → Keep [b] S S' → BagAt S' b → Q d S') → Ru (callN Tb (k + n + 2) 28 [.ref b, .lst (ns.map .str), x] S) Q E)
    (q : ∀ d S', FS (n + 3) (w + 1) d → Keep [b] S S' → BagAt S' b → Q d S') : Ru (callN Tb (k + n + 3) 28 [.ref b, .lst (ns.map .str), d] S) Q E := by
  refine Ru.def (fn := ⟨3, 7, p_l_bent⟩) rfl rfl ?_; simp only [List.map_cons, List.map_nil, List.length_cons, List.length_nil, Nat.reduceAdd, Nat.reduceSub, List.replicate_succ, List.replicate_zero, List.cons_append, List.nil_append]
  and_intros
  refine ru_isiF h.fd.fz (by simp) ?_
  cases ht : isI "tuple" d with
  | false =>
    and_intros
    refine lany_ru (k := k + n) hb l1 l6 fun o1 S1 h1 k1 b1 => ?_
    and_intros
    exact q o1 S1 (h1.up (by omega) (by omega)) k1 b1
  | true =>
    obtain ⟨xs, rfl⟩ := isI_tup ht
    obtain ⟨m, rfl⟩ : ∃ m, n = m + 1 := ⟨n - 1, by
      have := h.fd.dp
      rw [D.dp] at this
      omega⟩
    obtain ⟨lx, hx⟩ := h.its
    and_intros
    rw [ru_eq h.fd.fz (by simp [D.fz, D.fzs]), nil_eq]
    refine ⟨⟨by have := h.fd.dp; omega, by simp [D.dp, D.dps]⟩, ?_⟩
    cases he : xs.isEmpty with
    | true =>
      and_intros
      refine lany_ru (k := k + m + 1) hb l1 l6 fun o1 S1 h1 k1 b1 => ?_
      and_intros
      exact q o1 S1 (h1.up (by omega) (by omega)) k1 b1
    | false =>
      have lp : 1 ≤ xs.length := by
        cases xs with
        | nil => cases he
        | cons _ _ => simp
      and_intros
      refine take_ru hb (by omega) (by omega) fun t S1 t0 t1 k1 b1 => ?_
      and_intros
      by_cases e0 : t = 0
      · rw [if_pos (by rw [e0]; rfl)]
        and_intros
        refine lany_ru (k := k + m + 1) b1 l1 l6 fun o1 S2 h1 k2 b2 => ?_
        and_intros
        exact q o1 S2 (h1.up (by omega) (by omega)) (k1.trans k2) b2
      · rw [if_neg (by simpa using e0)]
        and_intros
        refine take_ru b1 (by omega) (by omega) fun way S2 w0 w1 k2 b2 => ?_
        and_intros
        refine take_ru b2 (by omega) (by omega) fun pl S3 p0 p1 k3 b3 => ?_
        have k13 := k1.trans (k2.trans k3)
        have hx1 : ∀ x ∈ xs, FS (m + 3) (w + 1) x := fun x hm => (hx x hm).up (by omega) (by omega)
        have cutl : ∀ lo hi, (cutD xs lo hi).length ≤ xs.length := fun lo hi => cut_len
        and_intros
        by_cases w0' : way = 0
        · rw [if_pos (by rw [w0']; rfl)]
          and_intros
          refine addT14 (by have := cutl none (some pl); have := cutl (some (pl + 1)) none; omega) ?_
          and_intros
          refine addT14 (by have := cutl (some pl) (some (pl + 1)); omega) ?_
          and_intros
          refine r_addL (by simp) ?_
          and_intros
          refine take_ru b3 (by omega) (by omega) fun t4 S4 t40 t41 k4 b4 => ?_
          and_intros
          refine r_idxL t40 (by simp; omega) fun d hd => ?_
          and_intros
          refine q d S4 ?_ (k13.trans k4) b4
          simp only [List.cons_append, List.nil_append, List.mem_cons, List.not_mem_nil, or_false] at hd
          have c1 := cutl none (some pl)
          have c2 := cutl (some (pl + 1)) none
          have c3 : (cutD xs (some pl) (some (pl + 1))).length ≤ 1 := by
            unfold cutD
            rw [List.length_take]
            have : HT.sIx xs.length xs.length (some (pl + 1)) - HT.sIx xs.length 0 (some pl) ≤ 1 := by
              simp only [HT.sIx]
              rw [if_neg (by omega), if_neg (by omega)]
              omega
            omega
          rcases hd with rfl | rfl | rfl
          · exact FS.lst (fun x hm => (hx x hm).up (by omega) (by omega)) (by omega)
          · have c4 := cut_two p0 p1
            exact FS.tup (FD.app (FD.cut hx1) (FD.cut hx1)) (by rw [List.length_append]; omega)
          · exact FS.tup (FD.app hx1 (FD.cut hx1)) (by rw [List.length_append]; omega)
        · rw [if_neg (by simpa using w0')]
          and_intros
          by_cases w1' : way = 1
          · rw [if_pos (by rw [w1']; rfl)]
            and_intros
            refine r_idxT (by omega) (by omega) fun x0 hm0 => ?_
            and_intros
            refine ru_isiF (hx x0 hm0).fd.fz (by simp) ?_
            cases hs : isI "str" x0 with
            | true =>
              and_intros
              refine take_ru b3 (by omega) (by omega) fun t5 S5 t50 t51 k5 b5 => ?_
              and_intros
              refine r_idxT t50 (by simp; omega) fun wd hwd => ?_
              and_intros
              refine addT14 (by have := cutl (some 1) none; rw [List.length_singleton]; omega) ?_
              and_intros
              refine q _ S5 (FS.tup (n := m + 3) (FD.app (FS.c ?_ FS.e) (FD.cut hx1)) ?_) (k13.trans k5) b5
              · simp only [List.mem_cons, List.not_mem_nil, or_false] at hwd
                rcases hwd with rfl | rfl | rfl | rfl | rfl | rfl <;> exact FS.str _
              · have c4 := cutl (some 1) none
                rw [List.length_append, List.length_singleton]
                omega
            | false =>
              and_intros
              refine r_idxT p0 p1 fun x hm => ?_
              and_intros
              refine ih m rfl b3 (hx x hm) fun y S4 hy k4 b4 => ?_
              and_intros
              refine addT14 (by have := cutl none (some pl); rw [List.length_singleton]; omega) ?_
              and_intros
              refine addT14 (by have := cutl none (some pl); have := cutl (some (pl + 1)) none; rw [List.length_append, List.length_singleton]; omega) ?_
              and_intros
              refine q _ S4 (FS.tup (n := m + 3) (FD.app (FD.app (FD.cut hx1) (FS.c hy FS.e)) (FD.cut hx1)) ?_) (k13.trans k4) b4
              have c4 := cut_two p0 p1
              rw [List.length_append, List.length_append, List.length_singleton]
              omega
          · rw [if_neg (by simpa using w1')]
            and_intros
            rw [if_neg (by simpa using w1')]
            and_intros
            refine r_idxT p0 p1 fun x hm => ?_
            and_intros
            refine ih m rfl b3 (hx x hm) fun y S4 hy k4 b4 => ?_
            and_intros
            refine addT14 (by have := cutl none (some pl); rw [List.length_singleton]; omega) ?_
            and_intros
            refine addT14 (by have := cutl none (some pl); have := cutl (some (pl + 1)) none; rw [List.length_append, List.length_singleton]; omega) ?_
            and_intros
            refine q _ S4 (FS.tup (n := m + 3) (FD.app (FD.app (FD.cut hx1) (FS.c hy FS.e)) (FD.cut hx1)) ?_) (k13.trans k4) b4
            have c4 := cut_two p0 p1
            rw [List.length_append, List.length_append, List.length_singleton]
            omega
theorem lbent42_ru (l1 : 1 ≤ ns.length) (l6 : ns.length ≤ 6) (hw : 25 ≤ w) (hw2 : w ≤ 500) : ∀ (n : Nat) {d : D} {S : Sto} {Q : D → Sto → Prop} {E : Exc → Sto → Prop}, n ≤ 40 → BagAt S b → FS n w d → (∀ d S', FS (n + 3) (w + 1) d → Keep [b] S S' → BagAt S' b → Q d S') → Ru (callN Tb (k + n + 3) 28 [.ref b, .lst (ns.map .str), d] S) Q E
  | 0, d, S, Q, E, hn, hb, h, q => by
    with_reducible refine lbent_step (n := 0) l1 l6 hb h (by omega) hw hw2 ?_ q
    intro m _ _ _ _ e
    cases e
  | n + 1, d, S, Q, E, hn, hb, h, q => by
    with_reducible refine lbent_step (n := n + 1) l1 l6 hb h hn hw hw2 ?_ q
    intro m x S' Q' E' e hb' hx q'
    have e2 : m = n := by omega
    subst e2
    rw [show k + (m + 1) + 2 = k + m + 3 by omega]
    with_reducible exact lbent42_ru l1 l6 hw hw2 m (by omega) hb' hx q'
def isL : D → Bool
  | .lst _ => true
  | .scr _ => true
  | _ => false
theorem kit_list : L2.kitB "NoneType" "list" = some false ∧ L2.kitB "bool" "list" = some false ∧ L2.kitB "int" "list" = some false ∧ L2.kitB "str" "list" = some false ∧ L2.kitB "tuple" "list" = some false ∧ L2.kitB "list" "list" = some true := by decide +kernel
theorem r_isL (h : d.fz = true) (q : Q (.bl (isL d)) S) : Ru (biR .isi [d, .ty "list"] S) Q E := by
  obtain ⟨k1, k2, k3, k4, k5, k6⟩ := kit_list
  refine Ru.eq (a := .bl (isL d)) (S := S) ?_ q
  show (match (tyOf S d).bind fun a => L2.kitB a "list" with | some b => R.ok (D.bl b) S | none => .err) = _
  rw [tyOf_fz h, Option.bind_some]
  cases d <;> first | (simp [D.fz] at h; done) | simp [tyD, isL, k1, k2, k3, k4, k5, k6]
theorem lcopy_ru (hw : w ≤ 1000) : ∀ (n : Nat) {d : D} {S : Sto} {Q : D → Sto → Prop} {E : Exc → Sto → Prop}, FS n w d → Q d S → Ru (callN Tb (k + n + 1) 29 [d] S) Q E
  | n, d, S, Q, E, h, q => by
    have rcp : ∀ (m : Nat) (ys : List D), n = m + 1 → (∀ x ∈ ys, FS m w x) → ∀ x ∈ ys, Ru (callN Tb (k + n) 29 [x] S) (fun d S' => d = x ∧ S' = S) noE := fun m ys e hy x hm => by
      subst e
      rw [show k + (m + 1) = k + m + 1 by omega]
      exact lcopy_ru hw m (hy x hm) ⟨rfl, rfl⟩
    refine Ru.def (fn := ⟨1, 2, p_l_copied⟩) rfl rfl ?_; simp only [List.map_cons, List.map_nil, List.length_cons, List.length_nil, Nat.reduceAdd, Nat.reduceSub, List.replicate_succ, List.replicate_zero, List.cons_append, List.nil_append]
    and_intros
    refine ru_isiF h.fd.fz (by simp) ?_
    cases ht : isI "tuple" d with
    | false =>
      and_intros
      refine r_isL h.fd.fz ?_
      cases hl : isL d with
      | false =>
        and_intros
        exact q
      | true =>
        obtain ⟨xs, rfl⟩ : ∃ xs, d = .lst xs := by
          have := h.ns
          cases d <;> first | exact ⟨_, rfl⟩ | (simp [nsc] at this; done) | (simp [isL] at hl; done)
        obtain ⟨m, rfl⟩ : ∃ m, n = m + 1 := ⟨n - 1, by
          have := h.fd.dp
          rw [D.dp] at this
          omega⟩
        obtain ⟨lx, hx⟩ := h.itsL
        and_intros
        refine Ru.lcp (f := fun x => [x]) trivial (fun x hm => ?_) ?_
        · and_intros
          refine (rcp m xs rfl hx x hm).use fun d S' ⟨e1, e2⟩ => ?_
          subst e1 e2
          and_intros
          exact ⟨rfl, rfl⟩
        rw [flat_oneB, List.map_id']
        refine ⟨sz_le (show xs.length ≤ 1000 by omega), ?_⟩
        and_intros
        exact q
    | true =>
      obtain ⟨xs, rfl⟩ := isI_tup ht
      obtain ⟨m, rfl⟩ : ∃ m, n = m + 1 := ⟨n - 1, by
        have := h.fd.dp
        rw [D.dp] at this
        omega⟩
      obtain ⟨lx, hx⟩ := h.its
      and_intros
      refine Ru.lcp (f := fun x => [x]) trivial (fun x hm => ?_) ?_
      · and_intros
        refine (rcp m xs rfl hx x hm).use fun d S' ⟨e1, e2⟩ => ?_
        subst e1 e2
        and_intros
        exact ⟨rfl, rfl⟩
      rw [flat_oneB, List.map_id']
      refine ⟨sz_le (show xs.length ≤ 1000 by omega), ?_⟩
      and_intros
      exact q
end


end
section
/-! ### items drawn -/
set_option maxHeartbeats 600000
section
variable {k b : Nat} {S : Sto} {f : List Col} {Q : D → Sto → Prop} {E : Exc → Sto → Prop}
theorem vals2_c {w : Bool} {x y : D} (hx : ValOf w x) (hy : ValOf w y) : D.fzs [x, y] = true ∧ D.dps [x, y] ≤ 60 ∧ sortable (D.pys [x, y]) := by
  cases w with
  | false =>
    obtain ⟨i, rfl, _⟩ := hx
    obtain ⟨j, rfl, _⟩ := hy
    refine ⟨by simp [D.fzs, D.fz], by simp [D.dps, D.dp], ?_⟩
    have e : D.pys [.int i, .int j] = [.int i, .int j] := by simp [D.pys, D.py]
    rw [e]
    refine ⟨fun d hd d' hd' => ?_, .inr fun d hd => ?_⟩
    · simp only [List.mem_cons, List.not_mem_nil, or_false] at hd hd'
      rcases hd with rfl | rfl <;> rcases hd' with rfl | rfl <;> rfl
    · simp only [List.mem_cons, List.not_mem_nil, or_false] at hd
      rcases hd with rfl | rfl <;> exact ⟨fun z => (nomatch z), fun xs z => (nomatch z)⟩
  | true =>
    obtain ⟨i, rfl, _⟩ := hx
    obtain ⟨j, rfl, _⟩ := hy
    refine ⟨by simp [D.fzs, D.fz], by simp [D.dps, D.dp], ?_⟩
    have e : D.pys [.str i, .str j] = [.str i, .str j] := by simp [D.pys, D.py]
    rw [e]
    refine ⟨fun d hd d' hd' => ?_, .inr fun d hd => ?_⟩
    · simp only [List.mem_cons, List.not_mem_nil, or_false] at hd hd'
      rcases hd with rfl | rfl <;> rcases hd' with rfl | rfl <;> rfl
    · simp only [List.mem_cons, List.not_mem_nil, or_false] at hd
      rcases hd with rfl | rfl <;> exact ⟨fun z => (nomatch z), fun xs z => (nomatch z)⟩
theorem two_perm {x y : D} {l : List D} (h : l.Perm [x, y]) : ∃ u v, l = [u, v] ∧ (u = x ∨ u = y) ∧ (v = x ∨ v = y) := by
  have hl := h.length_eq
  match l, hl with
  | [u, v], _ =>
    have m1 := h.subset (a := u) (by simp)
    have m2 := h.subset (a := v) (by simp)
    simp only [List.mem_cons, List.not_mem_nil, or_false] at m1 m2
    exact ⟨u, v, rfl, m1, m2⟩
theorem lcons42_ru {pool : Int} (hb : BagAt S b) (l6 : f.length ≤ 6) (p1 : 1 ≤ pool) (p2 : pool ≤ 40) (q : ∀ d S', FS 2 20 d → Keep [b] S S' → BagAt S' b → Q d S') : Ru (callN Tb (k + 3) 19 [.ref b, enF f, .int pool] S) Q E := by
  refine Ru.def (fn := ⟨3, 9, p_l_conditions⟩) rfl rfl ?_; simp only [List.map_cons, List.map_nil, List.length_cons, List.length_nil, Nat.reduceAdd, Nat.reduceSub, List.replicate_succ, List.replicate_zero, List.cons_append, List.nil_append]
  and_intros
  refine r_new fun S1 o ho c1 k1 => ?_
  have b1 := hb.keep k1 (by simp)
  have nbo : o ≠ b := by have := hb.lt; omega
  and_intros
  refine Ru.for (fun i ρ S' => Keep [b, o] S1 S' ∧ BagAt S' b ∧ ∃ (ys : List D) (a4 a5 a6 a7 a8 : Option D), ys.length ≤ i ∧ (∀ y ∈ ys, FS 1 20 y) ∧ cellAt S' o = some (.lst ys) ∧ ρ = [some (.ref b), some (enF f), some (.int pool), some (.ref o), a4, a5, a6, a7, a8])
    ⟨Keep.refl, b1, [], _, _, _, _, _, Nat.le_refl _, FS.e, c1, rfl⟩ (fun _ _ _ _ => trivial) (fun i x ρ S' hx ⟨k4, b4, ys, a4, a5, a6, a7, a8, e1, hys, co, e⟩ => ?_) fun ρ S' ⟨k4, b4, ys, a4, a5, a6, a7, a8, e1, hys, co, e⟩ => ?_
  · subst e
    obtain ⟨⟨z, w⟩, hz, rfl⟩ := get_map hx
    show Ru (forStep _ _ _ (.tup [.str z, .str (kindS w)]) _ _) _ _
    and_intros
    refine take_ru b4 (by omega) (by omega) fun way S2 w0 w1 k5 b5 => ?_
    and_intros
    have co5 := (k5.eq o (cellAt_lt co) (by simpa using nbo)).trans co
    have li : i < f.length := (List.getElem?_eq_some_iff.mp hz).1
    have app : ∀ {S3 : Sto} {y : D} {Q' : D → Sto → Prop} {E' : Exc → Sto → Prop}, Keep [b] S2 S3 → BagAt S3 b → (∀ S4, Keep [b, o] S1 S4 → BagAt S4 b → cellAt S4 o = some (.lst (ys ++ [y])) → Q' .non S4) → Ru (bmR .append (.ref o) [y] S3) Q' E' := by
      intro S3 y Q' E' k6 b6 q'
      have co6 : cellAt S3 o = some (.lst ys) := (k6.eq o (cellAt_lt co5) (by simpa using nbo)).trans co5
      have l5 : ys.length < 1000 := by omega
      refine r_append co6 l5 fun S4 l4 co4 k7 => q' S4 (k4.trans ((k5.mono (by simp)).trans ((k6.mono (by simp)).trans (k7.mono (by simp))))) (b6.keep k7 (by simpa using fun z => nbo z.symm)) co4
    have add : ∀ y : D, FS 1 20 y → ∀ u ∈ ys ++ [y], FS 1 20 u := fun y hy => FD.app hys (FS.c hy FS.e)
    by_cases e0 : way = 0
    · rw [if_pos (by rw [e0]; rfl)]
      and_intros
      refine lval_ru (k := k) b5 p1 (by omega) fun v S3 hv k6 b6 => ?_
      and_intros
      refine app k6 b6 fun S4 k7 b7 co7 => ?_
      and_intros
      rw [if_neg (by simp [e0])]
      and_intros
      exact ⟨k7, b7, _, _, _, _, _, _, by rw [List.length_append, List.length_singleton]; omega, add _ (FS.tup (n := 0) (FS.c (FS.str _) (FS.c (FS.str _) (FS.c (FS.val hv) FS.e))) (by simp)), co7, rfl⟩
    · rw [if_neg (by simpa using e0)]
      and_intros
      by_cases e1' : way = 1
      · rw [if_pos (by rw [e1']; rfl)]
        and_intros
        refine lval_ru (k := k) b5 p1 (by omega) fun v S3 hv k6 b6 => ?_
        and_intros
        refine lval_ru (k := k) b6 p1 (by omega) fun v2 S4 hv2 k7 b7 => ?_
        and_intros
        refine r_sortL (vals2_c hv hv2) ?_
        obtain ⟨u1, u2, eu, h1, h2⟩ := two_perm (List.mergeSort_perm [v, v2] leD)
        rw [show sortD [v, v2] = [u1, u2] from eu]
        have hu1 : ValOf w u1 := by rcases h1 with rfl | rfl <;> assumption
        have hu2 : ValOf w u2 := by rcases h2 with rfl | rfl <;> assumption
        have co6' := (k6.eq o (cellAt_lt co5) (by simpa using nbo)).trans co5
        have co7' := (k7.eq o (cellAt_lt co6') (by simpa using nbo)).trans co6'
        and_intros
        refine take_ru b7 (by omega) (by omega) fun t S5 t0 t1 k8 b8 => ?_
        and_intros
        refine r_idxT t0 (by show t < 4; omega) fun y hy => ?_
        obtain ⟨y1, y2, rfl, f1, f2⟩ : ∃ y1 y2, y = .tup [y1, y2] ∧ FS 0 20 y1 ∧ FS 0 20 y2 := by
          simp only [List.mem_cons, List.not_mem_nil, or_false] at hy
          rcases hy with rfl | rfl | rfl | rfl
          · exact ⟨_, _, rfl, FS.val hu1, FS.val hu2⟩
          · exact ⟨_, _, rfl, FS.val hu1, FS.non⟩
          · exact ⟨_, _, rfl, FS.non, FS.val hu2⟩
          · exact ⟨_, _, rfl, FS.val hu2, FS.val hu1⟩
        and_intros
        refine app (k6.trans (k7.trans k8)) b8 fun S6 k9 b9 co9 => ?_
        and_intros
        exact ⟨k9, b9, _, _, _, _, _, _, by rw [List.length_append, List.length_singleton]; omega, add _ (FS.tup (n := 0) (FS.c (FS.str _) (FS.c (FS.str _) (FS.c f1 (FS.c f2 FS.e)))) (by simp)), co9, rfl⟩
      · rw [if_neg (by simpa using e1')]
        and_intros
        exact ⟨k4.trans (k5.mono (by simp)), b5, _, _, _, _, _, _, by omega, hys, co5, rfl⟩
  · subst e
    have e1 : ys.length ≤ f.length := by simpa using e1
    and_intros
    refine take_ru b4 (by omega) (by omega) fun t S2 t0 t1 k5 b5 => ?_
    have co5 := (k5.eq o (cellAt_lt co) (by simpa using nbo)).trans co
    and_intros
    refine r_slst (by omega) co5 ?_
    and_intros
    refine q _ S2 (FS.tup (n := 1) (fun x hx => ?_) ?_) ?_ b5
    · split at hx
      · exact hys x hx
      · exact hys x (List.mem_reverse.mp hx)
    · split
      · omega
      · rw [List.length_reverse]; omega
    · refine Keep.fresh (((k1.mono (cs := [b, o]) (by simp)).trans k4).trans (k5.mono (by simp))) fun x hx => ?_
      simp only [List.mem_cons, List.not_mem_nil, or_false] at hx
      rcases hx with rfl | rfl
      · exact .inl (by simp)
      · exact .inr (by omega)
theorem lask42_ru {pool : Int} (hb : BagAt S b) (fm : Fm f) (p1 : 1 ≤ pool) (p2 : pool ≤ 40) (q : ∀ d S', FS 3 20 d → Keep [b] S S' → BagAt S' b → Q d S') : Ru (callN Tb (k + 4) 20 [.ref b, enF f, .int pool] S) Q E := by
  refine Ru.def (fn := ⟨3, 9, p_l_ask⟩) rfl rfl ?_; simp only [List.map_cons, List.map_nil, List.length_cons, List.length_nil, Nat.reduceAdd, Nat.reduceSub, List.replicate_succ, List.replicate_zero, List.cons_append, List.nil_append]
  and_intros
  have l6 := fm.l6
  have l1 := fm.l1
  refine Ru.lcm enCol (fun c => [.str c.1]) trivial (fun c _ => ?_) ?_
  · obtain ⟨z, w⟩ := c
    show Ru (lcStep _ _ _ _ _ _ (.tup [.str z, .str (kindS w)]) _) _ _
    and_intros
    exact ⟨rfl, rfl⟩
  rw [flat_oneB]
  refine ⟨by rw [List.length_map]; exact sz_le (by omega), ?_⟩
  rw [show f.map (fun c => D.str c.1) = (f.map (·.1)).map .str by rw [List.map_map]; rfl]
  and_intros
  refine lsome42_ru (k := k + 1) (by rw [List.length_map]; omega) fm.nd hb (by omega) (by omega) (by omega) fun ws S1 _ _ lw1 lw2 k1 b1 => ?_
  and_intros
  refine lsome42_ru (k := k + 1) (by rw [List.length_map]; omega) fm.nd b1 (by omega) (by omega) (by omega) fun os S2 _ _ lo1 lo2 k2 b2 => ?_
  and_intros
  refine take_ru b2 (by omega) (by omega) fun t1 S3 t10 t11 k3 b3 => ?_
  and_intros
  refine take_ru b3 (by omega) (by omega) fun t2 S4 t20 t21 k4 b4 => ?_
  and_intros
  refine take_ru b4 (by omega) (by omega) fun t3 S5 t30 t31 k5 b5 => ?_
  and_intros
  refine r_idxT t30 (by simp; omega) fun fr hfr => ?_
  and_intros
  refine lcons42_ru (k := k) b5 l6 p1 p2 fun cs S6 hcs k6 b6 => ?_
  and_intros
  have ff : FS 2 20 fr := by
    simp only [List.mem_cons, List.not_mem_nil, or_false] at hfr
    rcases hfr with rfl | rfl | rfl | rfl <;> first | exact FS.non | exact FS.int _
  have fw : FS 2 20 (.tup (ws.map .str)) := FS.tup (n := 1) FS.strs (by rw [List.length_map]; omega)
  have fo : FS 2 20 (.tup (os.map .str)) := FS.tup (n := 1) FS.strs (by rw [List.length_map]; omega)
  exact q _ S6 (FS.tup (n := 2) (FS.c fw (FS.c hcs (FS.c fo (FS.c ff FS.e)))) (by simp)) (k1.trans (k2.trans (k3.trans (k4.trans (k5.trans k6))))) b6
theorem dFP {v p : D} : dGet (mergeD (([.inr "form", .inr "pool"] : List L2.Key).zip [v, p])) (.inr "form") = some v ∧ dGet (mergeD (([.inr "form", .inr "pool"] : List L2.Key).zip [v, p])) (.inr "pool") = some p := by
  have e : mergeD (([.inr "form", .inr "pool"] : List L2.Key).zip [v, p]) = [(.inr "form", v), (.inr "pool", p)] := mergeD_nd (by
    show ([.inr "form", .inr "pool"] : List L2.Key).Nodup
    decide +kernel)
  rw [e]
  exact ⟨rfl, rfl⟩
theorem ledit42_ru {n : Nat} {pool : Int} (hb : BagAt S b) (fm : Fm f) (p1 : 1 ≤ pool) (p2 : pool ≤ 40) (hn : cellAt S n = some (.dct (mergeD (([.inr "form", .inr "pool"] : List L2.Key).zip [enF f, .int pool])))) (q : ∀ d S', FS 4 20 d → Keep [b] S S' → BagAt S' b → Q d S') : Ru (callN Tb (k + 5) 21 [.ref b, .ref n] S) Q E := by
  have l6 := fm.l6
  have l1 := fm.l1
  refine Ru.def (fn := ⟨2, 9, p_l_edit⟩) rfl rfl ?_; simp only [List.map_cons, List.map_nil, List.length_cons, List.length_nil, Nat.reduceAdd, Nat.reduceSub, List.replicate_succ, List.replicate_zero, List.cons_append, List.nil_append]
  and_intros
  refine r_didx hn (κ := .inr "form") rfl dFP.1 ?_
  and_intros
  refine r_didx hn (κ := .inr "pool") rfl dFP.2 ?_
  and_intros
  refine take_ru hb (by omega) (by omega) fun way S1 w0 w1 k1 b1 => ?_
  and_intros
  rw [List.length_map]
  refine take_ru b1 (by omega) (by omega) fun pl S2 pl0 pl1 k2 b2 => ?_
  have k12 := k1.trans k2
  and_intros
  by_cases e0 : way = 0
  · rw [if_pos (by rw [e0]; rfl)]
    and_intros
    refine lask42_ru (k := k) b2 fm p1 p2 fun d S3 hd k3 b3 => ?_
    and_intros
    exact q _ S3 (FS.tup (n := 3) (FS.c (FS.str _) (FS.c hd FS.e)) (by simp)) (k12.trans k3) b3
  · rw [if_neg (by simpa using e0)]
    and_intros
    by_cases e1 : way = 1
    · rw [if_pos (by rw [e1]; rfl)]
      and_intros
      refine Ru.lc (fun i ys S' => ys.length = i ∧ (∀ y ∈ ys, FS 2 20 y) ∧ Keep [b] S2 S' ∧ BagAt S' b) ⟨rfl, FS.e, Keep.refl, b2⟩ (fun _ _ _ _ => trivial) (fun i d ys S' hd ⟨e2, h2, k3, b3⟩ => ?_) fun ys S' ⟨e2, h2, k3, b3⟩ => ?_
      · obtain ⟨⟨z, w⟩, hz, rfl⟩ := get_map hd
        show Ru (lcStep _ _ _ _ _ _ (.tup [.str z, .str (kindS w)]) _) _ _
        and_intros
        refine lval_ru (k := k + 2) b3 p1 (by omega) fun v S4 hv k4 b4 => ?_
        and_intros
        exact ⟨by rw [List.length_append, e2]; rfl, FD.app h2 (FS.c (FS.val hv) FS.e), k3.trans k4, b4⟩
      · have e2 : ys.length = f.length := by simpa using e2
        refine ⟨sz_le (by omega), ?_⟩
        and_intros
        exact q _ S' (FS.tup (n := 3) (FS.c (FS.str _) (FS.c (FS.tup (n := 2) h2 (by omega)) FS.e)) (by simp)) (k12.trans k3) b3
    · rw [if_neg (by simpa using e1)]
      and_intros
      refine lcons42_ru (k := k + 1) b2 l6 p1 p2 fun cs S3 hcs k3 b3 => ?_
      and_intros
      by_cases e2 : way = 2
      · rw [if_pos (by rw [e2]; rfl)]
        and_intros
        exact q _ S3 (FS.tup (n := 3) (FS.c (FS.str _) (FS.c (hcs.up (by omega) (by omega)) FS.e)) (by simp)) (k12.trans k3) b3
      · rw [if_neg (by simpa using e2)]
        and_intros
        refine r_idxT pl0 (by rw [List.length_map]; omega) fun c hc => ?_
        obtain ⟨⟨z, w⟩, hcm, rfl⟩ := List.mem_map.mp hc
        and_intros
        refine Ru.eq (a := .str z) (S := S3) rfl ?_
        and_intros
        refine r_idxT pl0 (by rw [List.length_map]; omega) fun c2 hc2 => ?_
        obtain ⟨⟨z2, w2⟩, hcm2, rfl⟩ := List.mem_map.mp hc2
        and_intros
        refine Ru.eq (a := .str (kindS w2)) (S := S3) rfl ?_
        and_intros
        refine lval_ru (k := k + 2) b3 p1 (by omega) fun v S4 hv k4 b4 => ?_
        and_intros
        exact q _ S4 (FS.tup (n := 3) (FS.c (FS.str _) (FS.c (hcs.up (by omega) (by omega)) (FS.c (FS.str _) (FS.c (FS.val hv) FS.e)))) (by simp)) (k12.trans (k3.trans k4)) b4
end


end
section
/-! ### the law -/
set_option maxHeartbeats 1000000
theorem FS.wd1000 {n w : Nat} {d : D} (h : FS n w d) (hw : w ≤ 1000) : ∀ xs, d = .tup xs → xs.length ≤ 1000 := fun xs e => by
  subst e
  have h3 := h.fd.wd
  simp only [D.wd, Bool.and_eq_true, decide_eq_true_eq] at h3
  omega
section
variable {b n w K : Nat} {ns : List Str} {d : D} {S : Sto} {f : List Col} {Q : D → Sto → Prop} {E : Exc → Sto → Prop}
theorem lbent_K (hK : n + 3 ≤ K) (l1 : 1 ≤ ns.length) (l6 : ns.length ≤ 6) (hw : 25 ≤ w) (hw2 : w ≤ 500) (hn : n ≤ 40) (hb : BagAt S b) (h : FS n w d) (q : ∀ d S', FS (n + 3) (w + 1) d → Keep [b] S S' → BagAt S' b → Q d S') : Ru (callN Tb K 28 [.ref b, .lst (ns.map .str), d] S) Q E := by
  obtain ⟨k, rfl⟩ : ∃ k, K = k + n + 3 := ⟨K - n - 3, by omega⟩
  with_reducible exact lbent42_ru l1 l6 hw hw2 n hn hb h q
theorem lcopy_K (hK : n + 1 ≤ K) (hw : w ≤ 1000) (h : FS n w d) (q : Q d S) : Ru (callN Tb K 29 [d] S) Q E := by
  obtain ⟨k, rfl⟩ : ∃ k, K = k + n + 1 := ⟨K - n - 1, by omega⟩
  with_reducible exact lcopy_ru hw n h q
theorem fltD_fz (o : Option Int) : (fltD o).fz = true ∧ (fltD o).dp = 0 := by cases o <;> simp [fltD, D.fz, D.dp]
theorem fltD_bool (o : Option Int) : isI "bool" (fltD o) = false := by
  obtain ⟨g1, g2⟩ := int_kinds
  cases o with
  | none => decide +kernel
  | some i => exact g2 i
theorem told_eq {o : Option Int} (q : Q (.bl false) S) : Ru (cmpR .ne (.lst [fltD o, fltD o]) (.lst [fltD o, fltD o]) S) Q E := by
  obtain ⟨h1, h2⟩ := fltD_fz o
  have hf : (D.lst [fltD o, fltD o]).fz = true := by simp [D.fz, D.fzs, h1]
  rw [ru_ne hf hf, eqv_self _ hf]
  exact ⟨by simp [D.dp, D.dps, h2], q⟩
end
theorem told (ns : List Int) (hl : ns.length ≤ 63) : ∃ S, callN Tb 60 30 [.scr (ns.map .int)] [] = .ok (.bl true) S := by
  have main : Ru (callN Tb 60 30 [.scr (ns.map .int)] []) (fun d _ => d = .bl true) noE := by
    refine Ru.def (fn := ⟨1, 13, p_law⟩) rfl rfl ?_; simp only [List.map_cons, List.map_nil, List.length_cons, List.length_nil, Nat.reduceAdd, Nat.reduceSub, List.replicate_succ, List.replicate_zero, List.cons_append, List.nil_append]
    and_intros
    rw [List.length_map]
    generalize hM : Int.toNat (if (if ((ns.length : Nat) : Int) < 20 then ((ns.length : Nat) : Int) else 20) > 6 then (if ((ns.length : Nat) : Int) < 20 then ((ns.length : Nat) : Int) else 20) else 6) = M
    have hM2 : M ≤ 20 := by
      rw [← hM]
      split <;> split <;> omega
    refine Ru.for (fun _ ρ _ => ∃ v1 v2 v3 v4 v5 v6 v7 v8 v9, ρ = [some (.scr (ns.map .int)), v1, v2, v3, v4, v5, v6, v7, v8, v9, none, none, none]) ⟨_, _, _, _, _, _, _, _, _, rfl⟩ (fun _ _ _ _ => trivial) (fun i d ρ S hd ⟨v1, v2, v3, v4, v5, v6, v7, v8, v9, hρ⟩ => ?_) fun ρ S _ => ?_
    · subst hρ
      obtain ⟨rfl, hi⟩ := rng_get hd
      and_intros
      refine bag_ru (by omega) (by omega) fun S1 b _ b1 k1 => ?_
      and_intros
      refine lform42_ru b1 fun f S2 fm f2 f5 k2 b2 => ?_
      have nd := fm.nd
      have nd' := fm.nd
      have l1 := fm.l1
      have l6 := fm.l6
      and_intros
      refine Ru.lcm enCol (fun c => [.str c.1]) trivial (fun c _ => ?_) ?_
      · obtain ⟨z, w⟩ := c
        show Ru (lcStep _ _ _ _ _ _ (.tup [.str z, .str (kindS w)]) _) _ _
        and_intros
        exact ⟨rfl, rfl⟩
      rw [flat_oneB]
      refine ⟨by rw [List.length_map]; exact sz_le (by omega), ?_⟩
      rw [show f.map (fun c => D.str c.1) = (f.map (·.1)).map .str by rw [List.map_map]; rfl]
      have ln : (f.map (·.1)).length = f.length := List.length_map ..
      generalize hns : f.map (·.1) = nms at nd ln ⊢
      and_intros
      refine r_ddisp ?_
      and_intros
      refine take_ru b2 (by omega) (by omega) fun t S3 t0 t1 k3 b3 => ?_
      obtain ⟨pool, hpl, hpi⟩ := idx_ints (S := S3) (c := t) [2, 9, 40] t0 (by simpa using t1)
      refine Ru.eq hpi ?_
      have pl : 1 ≤ pool ∧ pool ≤ 40 := by
        simp only [List.mem_cons, List.not_mem_nil, or_false] at hpl
        omega
      and_intros
      refine ⟨⟨rfl, by show 2 ≤ 15; decide⟩, fun S4 n4 hn4 c4 k4 => ?_⟩
      have b4 := b3.keep k4 (by simp)
      and_intros
      refine ledit42_ru (k := 54) b4 fm pl.1 pl.2 c4 fun g S5 hg k5 b5 => ?_
      and_intros
      refine Ru.for (fun j ρ S' => BagAt S' b ∧ ∃ (g : D) (a6 a7 a8 a9 : Option D), FS (4 + 3 * j) (30 + j) g ∧ ρ = [some (.scr (ns.map .int)), some (.int (0 + (i : Int))), some (.ref b), some (.ntp (f.map enCol)), some (.lst (nms.map .str)), some g, a6, a7, a8, a9, none, none, none])
        ⟨b5, g, _, _, _, _, hg.up (by omega) (by omega), rfl⟩ (fun _ _ _ _ => trivial) (fun j x ρ S' hx ⟨bb, g, a6, a7, a8, a9, hg, e⟩ => ?_) fun ρ S' ⟨bb, g, a6, a7, a8, a9, hg, e⟩ => ?_
      · subst e
        obtain ⟨rfl, hj⟩ := rng_get hx
        have hj : j < 5 := hj
        have wd := hg.wd1000 (by omega)
        have dp := hg.fd.dp
        and_intros
        refine lcopy_K (n := 4 + 3 * j) (w := 30 + j) (by omega) (by omega) hg ?_
        and_intros
        refine ldue42_ru (k := 55) nd' l1 l6 hg.fd.fz (by omega) wd fun S6 k6 => ?_
        and_intros
        refine item_ru (k := 52) nd' l1 l6 hg.fd.fz (by omega) wd fun S7 k7 => ?_
        and_intros
        refine item_ru (k := 52) nd' l1 l6 hg.fd.fz (by omega) wd fun S8 k8 => ?_
        and_intros
        refine told_eq ?_
        and_intros
        rw [ru_ne hg.fd.fz hg.fd.fz, eqv_self _ hg.fd.fz]
        refine ⟨⟨by omega, by omega⟩, ?_⟩
        and_intros
        refine Ru.lcp (f := fun _ => [.bl false]) trivial (fun x hx' => ?_) ?_
        · have hx' : x ∈ [fltD (itB f g), fltD (itB f g)] := hx'
          simp only [List.mem_cons, List.not_mem_nil, or_false, or_self] at hx'
          subst hx'
          and_intros
          refine ru_isiF (fltD_fz _).1 (by simp) ?_
          rw [fltD_bool]
          exact ⟨rfl, rfl⟩
        rw [flat_oneB]
        show 2 ≤ sizeLine ∧ Ru (mkL false [.bl false, .bl false] S8) _ _
        refine ⟨by decide, ?_⟩
        and_intros
        refine Ru.eq (a := .bl false) (S := S8) rfl ?_
        have b8 : BagAt S8 b := ((bb.keep k6 (by simp)).keep k7 (by simp)).keep k8 (by simp)
        and_intros
        have bend : ∀ {g : D} {S9 : Sto} {Q : D → Sto → Prop} {E : Exc → Sto → Prop}, FS (4 + 3 * j) (30 + j) g → BagAt S9 b → (∀ d S', FS (4 + 3 * (j + 1)) (30 + (j + 1)) d → BagAt S' b → Q d S') → Ru (callN Tb 59 28 [.ref b, .lst (nms.map .str), g] S9) Q E := fun hg b9 q =>
          lbent_K (n := 4 + 3 * j) (w := 30 + j) (by omega) (by omega) (by omega) (by omega) (by omega) (by omega) b9 hg fun d S' hd _ bd => q d S' (by rw [show 4 + 3 * (j + 1) = 4 + 3 * j + 3 by omega]; exact hd) bd
        by_cases h1 : 1 < j
        · rw [if_pos (decide_eq_true (by omega))]
          and_intros
          refine r_ddisp ?_
          and_intros
          refine ⟨⟨rfl, by show 2 ≤ 15; decide⟩, fun S9 n9 hn9 c9 k9 => ?_⟩
          and_intros
          refine ledit42_ru (k := 54) (b8.keep k9 (by simp)) fm (by omega) (by omega) c9 fun g2 S10 hg2 k10 b10 => ?_
          and_intros
          by_cases h3 : j < 3
          · rw [if_pos (decide_eq_true (by omega))]
            and_intros
            refine bend (hg2.up (by omega) (by omega)) b10 fun d S11 hd b11 => ?_
            and_intros
            exact ⟨b11, d, _, _, _, _, hd, rfl⟩
          · rw [if_neg (by rw [decide_eq_true_eq]; omega)]
            and_intros
            exact ⟨b10, g2, _, _, _, _, hg2.up (by omega) (by omega), rfl⟩
        · rw [if_neg (by rw [decide_eq_true_eq]; omega)]
          and_intros
          rw [if_pos (decide_eq_true (by omega))]
          and_intros
          refine bend hg b8 fun d S11 hd b11 => ?_
          and_intros
          exact ⟨b11, d, _, _, _, _, hd, rfl⟩
      · subst e
        and_intros
        exact ⟨_, _, _, _, _, _, _, _, _, rfl⟩
    · and_intros
      rfl
  obtain ⟨d, S, e, q⟩ := main.ex
  subst q
  exact ⟨S, e⟩


end
end Wk
namespace Wk
open PySem PySem.Spec PyProof.Rows L2 Iv
theorem txt_of {w : World} {K : PySem.W.Frag} {h : Heap} {mg : Str → Option Value} (X : K.In h) (G : h.Ns mainGlobals mg) (c : He.SaysX fa fn fts fex w K) : Txt w K mg :=
  ⟨c.d.def_ 0 rfl,
   He.glo_ok X G (c.d.fact 0 rfl),
   c.d.def_ 1 rfl,
   He.glo_ok X G (c.d.fact 1 rfl),
   c.d.def_ 2 rfl,
   He.glo_ok X G (c.d.fact 2 rfl),
   c.d.def_ 3 rfl,
   He.glo_ok X G (c.d.fact 3 rfl),
   c.d.def_ 4 rfl,
   He.glo_ok X G (c.d.fact 4 rfl),
   c.d.def_ 5 rfl,
   He.glo_ok X G (c.d.fact 5 rfl),
   c.d.def_ 6 rfl,
   He.glo_ok X G (c.d.fact 6 rfl),
   c.d.def_ 7 rfl,
   He.glo_ok X G (c.d.fact 7 rfl),
   c.d.def_ 8 rfl,
   He.glo_ok X G (c.d.fact 8 rfl),
   c.d.def_ 9 rfl,
   He.glo_ok X G (c.d.fact 9 rfl),
   c.d.def_ 10 rfl,
   He.glo_ok X G (c.d.fact 10 rfl),
   c.d.def_ 11 rfl,
   He.glo_ok X G (c.d.fact 11 rfl),
   c.d.def_ 12 rfl,
   He.glo_ok X G (c.d.fact 12 rfl),
   c.d.def_ 13 rfl,
   He.glo_ok X G (c.d.fact 13 rfl),
   c.d.def_ 14 rfl,
   He.glo_ok X G (c.d.fact 14 rfl),
   c.d.def_ 15 rfl,
   He.glo_ok X G (c.d.fact 15 rfl),
   c.d.def_ 16 rfl,
   He.glo_ok X G (c.d.fact 16 rfl),
   c.d.def_ 17 rfl,
   He.glo_ok X G (c.d.fact 17 rfl),
   c.d.def_ 18 rfl,
   He.glo_ok X G (c.d.fact 18 rfl),
   c.d.def_ 19 rfl,
   He.glo_ok X G (c.d.fact 19 rfl),
   c.d.def_ 20 rfl,
   He.glo_ok X G (c.d.fact 20 rfl),
   c.d.def_ 21 rfl,
   He.glo_ok X G (c.d.fact 21 rfl),
   c.d.def_ 22 rfl,
   He.glo_ok X G (c.d.fact 22 rfl),
   c.d.def_ 23 rfl,
   He.glo_ok X G (c.d.fact 23 rfl),
   c.d.def_ 24 rfl,
   He.glo_ok X G (c.d.fact 24 rfl),
   c.d.def_ 25 rfl,
   He.glo_ok X G (c.d.fact 25 rfl),
   c.d.def_ 26 rfl,
   He.glo_ok X G (c.d.fact 26 rfl),
   c.d.def_ 27 rfl,
   He.glo_ok X G (c.d.fact 27 rfl),
   c.d.def_ 28 rfl,
   He.glo_ok X G (c.d.fact 28 rfl),
   c.d.def_ 29 rfl,
   He.glo_ok X G (c.d.fact 29 rfl),
   c.d.def_ 30 rfl,
   He.glo_ok X G (c.d.fact 30 rfl),
   He.int_ok X G (c.d.fact 31 rfl),
   He.int_ok X G (c.d.fact 32 rfl),
   He.int_ok X G (c.d.fact 33 rfl),
   He.str_ok X G (c.d.fact 34 rfl),
   He.int_ok X G (c.d.fact 35 rfl),
   He.int_ok X G (c.d.fact 36 rfl),
   He.int_ok X G (c.d.fact 37 rfl),
   He.glo_ok X G (c.d.fact 38 rfl),
   He.free_ok X G (c.d.fact 39 rfl),
   He.free_ok X G (c.d.fact 40 rfl),
   He.free_ok X G (c.d.fact 41 rfl),
   He.free_ok X G (c.d.fact 42 rfl),
   He.free_ok X G (c.d.fact 43 rfl),
   He.free_ok X G (c.d.fact 44 rfl),
   He.free_ok X G (c.d.fact 45 rfl),
   He.free_ok X G (c.d.fact 46 rfl),
   He.free_ok X G (c.d.fact 47 rfl),
   He.free_ok X G (c.d.fact 48 rfl),
   He.free_ok X G (c.d.fact 49 rfl),
   He.free_ok X G (c.d.fact 50 rfl),
   He.free_ok X G (c.d.fact 51 rfl),
   He.free_ok X G (c.d.fact 52 rfl),
   He.free_ok X G (c.d.fact 53 rfl),
   He.free_ok X G (c.d.fact 54 rfl),
   He.free_ok X G (c.d.fact 55 rfl),
   (c.at 0),
   (List.all_eq_true.mp c.more _ (List.mem_of_getElem? (i := 0) rfl))⟩
theorem facts {P : Program} {w : World} {K : PySem.W.Frag} {h : Heap} {mg : Str → Option Value} {f : Addr} (X : K.In h) (G : h.Ns mainGlobals mg) (hfa : mg ("law" : Str) = some (.ref f)) (c : He.SaysX fa fn fts fex w K) :
    ∃ fd : FuncData, (∀ (s : Shared) (v : Value), BindsTo s fd ⟨[v], []⟩ [("_law_script", v)]) ∧ ∀ base : Heap, K.In base → base.Ns mainGlobals mg → FnOk P w K mg base CX0 122 f fd ["_law_script"] (spEnd K) := by
  have T := txt_of X G c
  obtain ⟨fd, F⟩ := T.d_law
  have e := hfa.symm.trans T.m_law
  cases e
  have b := FunD.bindsA (ps := ["_law_script"]) F fun _ _ _ _ _ _ us hl => match us, hl with | [_], _ => rfl
  refine ⟨fd, fun s v => b s [v] rfl, fun base _ _ => ?_⟩
  have A := (all_ok (P := P) (w := w) (base := base) T 60)
  have FO := fn_step (P := P) (w := w) (K := K) (mg := mg) (base := base) (g := gs K) (T := Tb) (f := 30) (N := _) (j := 2 * 59 + 3) (k := 59) rfl F sc_law fun _ _ _ _ _ _ hr => b_law T (all_ok T 59) hr
  exact fn_end (g := gs K) (k := 60) rfl FO told
end Wk
open PySem PySem.W PySem.Calls PyProof.Rows
theorem PySem.Challenge.cw_whatindex_k42_items_faults_holds : PySem.Challenge.rw_whatindex_k42_items_faults.Holds := by
  refine Wk.closed ?hc
  case hc =>
    refine L2.walk_ofE (l := PySem.Challenge.rw_whatindex_k42_items_faults) (n := 63) (k := 122) (x := "_law_script") (CX := L2.CX0) rfl (by decide) (by kernel_rfl) ⟨rfl, by decide, by decide⟩ ?F (fun _ _ _ _ z => z)
    intro w mg fa h Y G hmg0
    obtain ⟨K, KX, c⟩ := Y
    have hmg : mg ("law" : PySem.Str) = some (.ref fa) := by
      have e : (HandSHeadRun.topDef (OpenLaw.row PySem.Challenge.rw_whatindex_k42_items_faults).prog 42).name = ("law" : PySem.Str) := by kernel_rfl
      rw [← e]
      exact hmg0
    obtain ⟨fd, hb, hF⟩ := Wk.facts (P := (PySem.Challenge.rw_whatindex_k42_items_faults).prog) (w := w) KX G hmg c
    exact ⟨K, fd, Iv.spEnd K, KX, hb, fun H a ns hl hO hS => ⟨a, ns, rfl, hS, hl, hO, fun _ => rfl⟩, hF⟩

