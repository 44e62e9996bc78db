import PyProof.Rows.All
import Wide.All
import OpenK.AllK
import Wide.FinOn
import KE.KStateDown
import Lean
import HandS.ForMost
import HandS.Walk
import HandS.IsInst
import HandS.Flow
import HandS.TupAny
import HandS.Replace
import HandS.Zip
import HandS.Codes
import HandS.SetFor
import HandS.Style
import HandS.Conv
import HandS.Text
import HandS.TupLe
import HandS.WordsExc
import HandS.Defaults
import HandS.Head0
import HandS.Head1
import HandS.Head2
import HandS.HeadEnd
import HandS.HeadHook1
import HandS.HeadHook2
import HandS.HeadHook3
import HandS.More
import KE.KDictSum
import HandS.Deep
import HandS.RevTup
import HandS.Rev
import HandS.DictComp
import HandS.Strs
import HandS.SetKeys
import HandS.SetBool
import HandS.TryOnly
import HandS.TryMany
import HandS.ExcOwn
import HandS.ExcInit
import HandS.ExcBuiltin
import HandS.MakeKw
import HandS.MakeKwOnly
import HandS.RaiseOp
import HandS.SortKw
import HandS.Iter
import HandS.Exc
import HandS.ReCall
import HandS.TupMul
import HandS.Lambda
import HandS.Nested
import HandS.EndTab
import HandS.HeadHook4
import HandS.HeadWalk
import KE.KSortKey
import PyProof.FString5
import HandS.ExcIs
import HandS.ExcField
import KE.GoesZip
import KE.GoesMore
import KE.GoesEnumKw
import KE.SortData
import KE.SortKeyHeap
import KE.DataCmp
import KE.DataFind
import KE.DataMinMax
import KE.DatumOrd
import KE.KUnpackStar
import KE.KExcIs
import PySem.Challenge.RW_whatindex_k50_whole_best
set_option Elab.async false
set_option linter.all false
set_option maxRecDepth 100000
set_option maxHeartbeats 4000000
namespace He
open PySem PySem.Spec PyProof.Rows L2
/-- a tuple of these stands at a -/
def tupAtB (K : PySem.W.Frag) (a : Addr) (vs : List Dv) : Bool := match K.lookup a with
  | some ⟨.type c, _, .seq its _, _⟩ => decide (c = "tuple") && (decide (its.size ≤ sizeLine) && relAll (vs.map (Dv.v K)) its.toList)
  | _ => false
theorem tupAtB_ok {K : PySem.W.Frag} {a : Addr} {vs : List Dv} (h : tupAtB K a vs = true) (H : Hp) : SqT K H a (vs.map (Dv.v K)) := by
  unfold tupAtB at h
  cases q : K.lookup a with
  | none => rw [q] at h; cases h
  | some o =>
    obtain ⟨oc, od, dt, osl⟩ := o
    rw [q] at h
    cases oc with
    | type c =>
      cases dt with
      | seq its n =>
        obtain ⟨h1, h2⟩ := ba (show (decide (c = "tuple") && (decide (its.size ≤ sizeLine) && relAll (vs.map (Dv.v K)) its.toList)) = true from h)
        obtain ⟨h3, h4⟩ := ba h2
        exact .inr ⟨_, its, n, q, congrArg Value.type (of_decide_eq_true h1), rfl, of_decide_eq_true h3, relAll_ok h4⟩
      | _ => cases h
    | _ => cases dt <;> cases h
structure SaysB (fa : List Fa) (fn : List DefD) (ex : PySem.W.Frag → Bool) (K : PySem.W.Frag) : Prop where
  d : SaysD fa fn K
  more : ex K = true
end He

/-! ### a module's written dicts, len of a dict -/
namespace L2
open PySem PySem.Spec PyProof.Rows
section
variable {prog : Program} {w : World} {A : Around} {s : Shared} {E : Value → Shared → Prop} {T : String} {r d : Addr} {n : Nat} {P : Nat → Value → Prop} {OK : Heap → Prop}
end
end L2
namespace He
open PySem PySem.Spec PyProof.Rows L2
/-! the head, with tables and one more Bool; what is looked at is gathered level by level -/
structure SaysY (fa : List Fa) (fn : List DefD) (ts : List Tab) (ex : PySem.W.Frag → Bool) (w : World) (K : PySem.W.Frag) : Prop where
  d : SaysD fa fn K
  tab : (ts.map fun t => dicW K (t.1 K)) = ts.map fun t => some (keysIn w.params t.2)
  more : ex K = true
theorem SaysY.at {fa : List Fa} {fn : List DefD} {ts : List Tab} {ex : PySem.W.Frag → Bool} {w : World} {K : PySem.W.Frag} (c : SaysY fa fn ts ex w K) (i : Nat) {t : Tab} (h : ts[i]? = some t := by rfl) : dicW K (t.1 K) = some (keysIn w.params t.2) := by
  have e2 : (ts.map fun t => dicW K (t.1 K))[i]? = (ts.map fun t => some (keysIn w.params t.2))[i]? := by rw [c.tab]
  rw [List.getElem?_map, List.getElem?_map, h] at e2
  exact Option.some.inj e2
end He
namespace He
open PySem PySem.W PySem.Calls PyProof.Rows L2 HandSHeadRun
/-! the run of the top, looked at part by part -/
end He

/-! ### looks at what is written -/
namespace Iv
open PySem PySem.Spec PyProof.Rows L2
end Iv

namespace Wk
open PySem PySem.Spec PyProof.Rows L2 Iv
def top (i : Nat) : Stmt := PySem.Challenge.pw_whatindex_k50_whole_best.main.body.getD i (.Pass ⟨0, 0, 0, 0⟩)
abbrev s_NoProof_init : Stmt := inClass (top 1) 0
abbrev s_is_whole : Stmt := top 5
abbrev s_is_number : Stmt := top 8
abbrev s_are_rising : Stmt := top 9
abbrev s_least : Stmt := top 10
abbrev s_size_of : Stmt := top 11
abbrev s_asked_of : Stmt := top 12
abbrev s_total : Stmt := top 13
abbrev s_Road_init : Stmt := inClass (top 14) 0
abbrev s_Road_on : Stmt := inClass (top 14) 1
abbrev s_Road_least_total : Stmt := inClass (top 14) 2
abbrev s_Road_is_closed : Stmt := inClass (top 14) 3
abbrev s_best_behind : Stmt := top 15
abbrev s_paper_of : Stmt := top 16
abbrev s_best : Stmt := top 17
abbrev s_roads_of : Stmt := top 18
abbrev s_look_form : Stmt := top 19
abbrev s_look_best : Stmt := top 20
abbrev s_l_bag : Stmt := top 22
abbrev s_l_take : Stmt := top 23
abbrev s_l_offers : Stmt := top 24
abbrev s_l_task : Stmt := top 25
abbrev s_l_total : Stmt := top 26
abbrev s_l_room : Stmt := top 27
abbrev s_l_least : Stmt := top 28
abbrev s_l_right : Stmt := top 29
abbrev s_law : Stmt := top 30

/-! ### the head -/
def fn : List He.DefD := [⟨("NoProof", some "__init__"), "__init__", "NoProof.__init__", defArgs s_NoProof_init, defBody s_NoProof_init, defScope s_NoProof_init, [], []⟩,
  ⟨("is_whole", none), "is_whole", "is_whole", defArgs s_is_whole, defBody s_is_whole, defScope s_is_whole, [(.int (-999)), (.int (999))], []⟩,
  ⟨("is_number", none), "is_number", "is_number", defArgs s_is_number, defBody s_is_number, defScope s_is_number, [], []⟩,
  ⟨("are_rising", none), "are_rising", "are_rising", defArgs s_are_rising, defBody s_are_rising, defScope s_are_rising, [], []⟩,
  ⟨("least", none), "least", "least", defArgs s_least, defBody s_least, defScope s_least, [], []⟩,
  ⟨("size_of", none), "size_of", "size_of", defArgs s_size_of, defBody s_size_of, defScope s_size_of, [], []⟩,
  ⟨("asked_of", none), "asked_of", "asked_of", defArgs s_asked_of, defBody s_asked_of, defScope s_asked_of, [], [("start", (.int (0)))]⟩,
  ⟨("total", none), "total", "total", defArgs s_total, defBody s_total, defScope s_total, [], []⟩,
  ⟨("Road", some "__init__"), "__init__", "Road.__init__", defArgs s_Road_init, defBody s_Road_init, defScope s_Road_init, [(.adr (He.dflAt ("Road", some "__init__") 0)), (.adr (He.dflAt ("Road", some "__init__") 1))], []⟩,
  ⟨("Road", some "on"), "on", "Road.on", defArgs s_Road_on, defBody s_Road_on, defScope s_Road_on, [], []⟩,
  ⟨("Road", some "least_total"), "least_total", "Road.least_total", defArgs s_Road_least_total, defBody s_Road_least_total, defScope s_Road_least_total, [], []⟩,
  ⟨("Road", some "is_closed"), "is_closed", "Road.is_closed", defArgs s_Road_is_closed, defBody s_Road_is_closed, defScope s_Road_is_closed, [], []⟩,
  ⟨("best_behind", none), "best_behind", "best_behind", defArgs s_best_behind, defBody s_best_behind, defScope s_best_behind, [], []⟩,
  ⟨("paper_of", none), "paper_of", "paper_of", defArgs s_paper_of, defBody s_paper_of, defScope s_paper_of, [], []⟩,
  ⟨("best", none), "best", "best", defArgs s_best, defBody s_best, defScope s_best, [], []⟩,
  ⟨("roads_of", none), "roads_of", "roads_of", defArgs s_roads_of, defBody s_roads_of, defScope s_roads_of, [], []⟩,
  ⟨("look_form", none), "look_form", "look_form", defArgs s_look_form, defBody s_look_form, defScope s_look_form, [], []⟩,
  ⟨("look_best", none), "look_best", "look_best", defArgs s_look_best, defBody s_look_best, defScope s_look_best, [], []⟩,
  ⟨("_law_bag", none), "_law_bag", "_law_bag", defArgs s_l_bag, defBody s_l_bag, defScope s_l_bag, [], []⟩,
  ⟨("_law_take", none), "_law_take", "_law_take", defArgs s_l_take, defBody s_l_take, defScope s_l_take, [], []⟩,
  ⟨("_law_offers", none), "_law_offers", "_law_offers", defArgs s_l_offers, defBody s_l_offers, defScope s_l_offers, [], []⟩,
  ⟨("_law_task", none), "_law_task", "_law_task", defArgs s_l_task, defBody s_l_task, defScope s_l_task, [], []⟩,
  ⟨("_law_total", none), "_law_total", "_law_total", defArgs s_l_total, defBody s_l_total, defScope s_l_total, [], []⟩,
  ⟨("_law_room", none), "_law_room", "_law_room", defArgs s_l_room, defBody s_l_room, defScope s_l_room, [], []⟩,
  ⟨("_law_least", none), "_law_least", "_law_least", defArgs s_l_least, defBody s_l_least, defScope s_l_least, [], []⟩,
  ⟨("_law_right", none), "_law_right", "_law_right", defArgs s_l_right, defBody s_l_right, defScope s_l_right, [], []⟩,
  ⟨("law", none), "law", "law", defArgs s_law, defBody s_law, defScope s_law, [], []⟩]
def fa : List He.Fa := [.glo "is_whole", .glo "is_number", .glo "are_rising", .glo "least", .glo "size_of", .glo "asked_of", .glo "total", .glo "best_behind", .glo "paper_of", .glo "best", .glo "roads_of", .glo "look_form", .glo "look_best", .glo "_law_bag", .glo "_law_take", .glo "_law_offers", .glo "_law_task", .glo "_law_total", .glo "_law_room", .glo "_law_least", .glo "_law_right", .glo "law", .glo "NoProof", .glo "Road", .cls "Road", .noat "Road" "out", .noat "Road" "taken", .noat "Road" "task", .mkr "Road", .meth "Road" "on", .meth "Road" "least_total", .meth "Road" "is_closed", .int "LEAST_NUMBER" (-999), .int "MOST_NUMBER" 999, .int "CLOSED" (-1), .free "Exception", .free "abs", .free "all", .free "any", .free "bool", .free "int", .free "isinstance", .free "len", .free "list", .free "max", .free "min", .free "range", .free "sorted", .free "sum", .free "tuple", .free "zip"]
def tf : List He.Defn := [("best", none)]
def fex (K : PySem.W.Frag) : Bool := [He.tupAtB K (He.dflAt ("Road", some "__init__") 0 K) [], He.tupAtB K (He.dflAt ("Road", some "__init__") 1 K) []].all id

abbrev RwK : PySem.W.OpenRow := PySem.W.OpenLaw.row PySem.Challenge.rw_whatindex_k50_whole_best
abbrev hk : PySem.W.Hook := He.hookX 6 fa fn [] tf fex
def ob (s : PySem.W.SharedT) : He.AlX := He.obsX 6 fa fn [] tf fex (HandSHeadRun.getT s)
theorem ob_eq (s : PySem.W.SharedT) : ob s = hk.obs s.abs := He.obsX_eq (HandSHeadRun.getT_eq s)
theorem run (w : World) : HandSHeadRun.RunEq RwK (PySem.W.view RwK.prog [30]) hk ob 4000 ["NoProof", "LEAST_NUMBER", "MOST_NUMBER", "is_whole", "CLOSED", "is_number", "are_rising", "least", "size_of", "asked_of", "total", "Road", "best_behind", "paper_of", "best", "roads_of", "look_form", "look_best", "_law_bag", "_law_take", "_law_offers", "_law_task", "_law_total", "_law_room", "_law_least", "_law_right"] w := by
  intro os
  kernel_rfl

end Wk
open PySem PySem.W PySem.Calls PyProof.Rows in
theorem Wk.closed (hc : WalkO (view (OpenLaw.row PySem.Challenge.rw_whatindex_k50_whole_best).prog [30]) (["NoProof", "LEAST_NUMBER", "MOST_NUMBER", "is_whole", "CLOSED", "is_number", "are_rising", "least", "size_of", "asked_of", "total", "Road", "best_behind", "paper_of", "best", "roads_of", "look_form", "look_best", "_law_bag", "_law_take", "_law_offers", "_law_task", "_law_total", "_law_room", "_law_least", "_law_right"]) (XL (view (OpenLaw.row PySem.Challenge.rw_whatindex_k50_whole_best).prog [30]) []) Wk.hk.says (OpenLaw.row PySem.Challenge.rw_whatindex_k50_whole_best).toRowW (HandSHeadRun.topDef (OpenLaw.row PySem.Challenge.rw_whatindex_k50_whole_best).prog 30) [] fun f vs => PySem.call f vs) : PySem.Challenge.rw_whatindex_k50_whole_best.Holds := by
  w_on; o_law
  refine HandSHeadRun.head_any (r := OpenLaw.row PySem.Challenge.rw_whatindex_k50_whole_best) (q := view (OpenLaw.row PySem.Challenge.rw_whatindex_k50_whole_best).prog [30]) (H := Wk.hk) (ob := Wk.ob) (M := 4000) (loose := ["NoProof", "LEAST_NUMBER", "MOST_NUMBER", "is_whole", "CLOSED", "is_number", "are_rising", "least", "size_of", "asked_of", "total", "Road", "best_behind", "paper_of", "best", "roads_of", "look_form", "look_best", "_law_bag", "_law_take", "_law_offers", "_law_task", "_law_total", "_law_room", "_law_least", "_law_right"]) (d := HandSHeadRun.topDef (OpenLaw.row PySem.Challenge.rw_whatindex_k50_whole_best).prog 30) (kwd := []) Wk.ob_eq
    (by kernel_rfl) (fun s => by kernel_rfl) Wk.run (by kernel_rfl) (by kernel_rfl) (by kernel_rfl) (by rfl) (by first | assumption | decide +kernel) (by decide +kernel) ⟨rfl, rfl, rfl, rfl, rfl, by decide +kernel⟩ ?hw hc
  case hw => w_witness2

/-! ### data, stores, results -/
namespace Iv
open PySem

inductive D where
  | non | bl (b : Bool) | int (i : Int) | str (x : Str)
  | tup (xs : List D)
  /-- a list that nobody changes any more -/
  | lst (xs : List D)
  /-- a list that is only read (the script) -/
  | scr (xs : List D)
  /-- a box of the store -/
  | ref (n : Nat)
  /-- an instance that nobody changes any more -/
  | ins (c : Nat) (fs : List (Nat × D))
  /-- a built-in class -/
  | ty (n : String)
  /-- a tuple that tuple(..) made: nothing hangs on it -/
  | ntp (xs : List D)
  /-- a caught exception, while its except suite runs -/
  | exv (i c : Nat) (fs : List (Nat × D))
  /-- a pair of a walk: no more is told of it than its items -/
  | wtp (xs : List D)
  deriving Inhabited

inductive Cell where
  | lst (xs : List D)
  | ins (c : Nat) (fs : List (Nat × D))
  | dct (kvs : List (L2.Key × D))
  /-- a dict that is walked -/
  | dlk (kvs : List (L2.Key × D))
  /-- an except suite runs -/
  | hot
  deriving Inhabited

abbrev Sto := List (Option Cell)
abbrev Env := List (Option D)

structure Exc where
  c : Nat
  fs : List (Nat × D)

inductive R (α : Type) where
  | ok (a : α) (S : Sto)
  | exc (x : Exc) (S : Sto)
  | err

def R.bind {α β : Type} (r : R α) (f : α → Sto → R β) : R β := match r with
  | .ok a S => f a S
  | .exc x S => .exc x S
  | .err => .err
@[simp] theorem R.bind_ok {α β : Type} (a : α) (S : Sto) (f : α → Sto → R β) : (R.ok a S).bind f = f a S := rfl
@[simp] theorem R.bind_err {α β : Type} (f : α → Sto → R β) : (R.err : R α).bind f = .err := rfl
@[simp] theorem R.bind_exc {α β : Type} (x : Exc) (S : Sto) (f : α → Sto → R β) : (R.exc x S : R α).bind f = .exc x S := rfl

/-- what must hold, else nothing is told -/
def ck {α : Type} (c : Prop) [Decidable c] (r : R α) : R α := if c then r else .err
theorem ck_of {α : Type} {c : Prop} [Decidable c] {r : R α} (h : c) : ck c r = r := if_pos h

/-! ### frozen data as the library's data -/
mutual
def D.py : D → PyData
  | .non => .none
  | .bl b => .bool b
  | .int i => .int i
  | .str x => .str x
  | .tup xs => .tuple (D.pys xs)
  | .lst xs => .list (D.pys xs)
  | .scr xs => .list (D.pys xs)
  | _ => .none
def D.pys : List D → List PyData
  | [] => []
  | x :: xs => x.py :: D.pys xs
end
mutual
/-- frozen through and through -/
def D.fz : D → Bool
  | .non => true
  | .bl _ => true
  | .int _ => true
  | .str _ => true
  | .tup xs => D.fzs xs
  | .lst xs => D.fzs xs
  | .scr xs => D.fzs xs
  | _ => false
def D.fzs : List D → Bool
  | [] => true
  | x :: xs => x.fz && D.fzs xs
end
mutual
/-- == of frozen data -/
def D.eqv : D → D → Bool
  | .non, .non => true
  | .bl a, .bl b => a == b
  | .bl a, .int j => (if a then 1 else 0) == j
  | .int i, .bl b => i == (if b then 1 else 0)
  | .int i, .int j => i == j
  | .str x, .str y => x == y
  | .tup xs, .tup ys => D.eqvs xs ys
  | .lst xs, .lst ys => D.eqvs xs ys
  | .lst xs, .scr ys => D.eqvs xs ys
  | .scr xs, .lst ys => D.eqvs xs ys
  | .scr xs, .scr ys => D.eqvs xs ys
  | _, _ => false
def D.eqvs : List D → List D → Bool
  | [], [] => true
  | x :: xs, y :: ys => x.eqv y && D.eqvs xs ys
  | _, _ => false
end
mutual
/-- how deep -/
def D.dp : D → Nat
  | .tup xs => D.dps xs + 1
  | .lst xs => D.dps xs + 1
  | .scr xs => D.dps xs + 1
  | _ => 0
def D.dps : List D → Nat
  | [] => 0
  | x :: xs => max x.dp (D.dps xs)
end

/-! ### boxes -/
def cellAt (S : Sto) (n : Nat) : Option Cell := (S[n]?).join
/-- a list, or a tuple, as it stands -/
def seqOf (S : Sto) : D → Option (List D)
  | .tup xs => some xs
  | .lst xs => some xs
  | .scr xs => some xs
  | .ref n => match cellAt S n with
    | some (.lst xs) => some xs
    | _ => none
  | _ => none
/-- a box read as a frozen list -/
def unbox (S : Sto) : D → D
  | .ref n => match cellAt S n with
    | some (.lst xs) => .lst xs
    | _ => .ref n
  | d => d
/-- the same through and through -/
def deep : Nat → Sto → D → D
  | 0, _, d => d
  | k + 1, S, d => match d with
    | .tup xs => .tup (xs.map (deep k S))
    | .lst xs => .lst (xs.map (deep k S))
    | .ref n => match cellAt S n with
      | some (.lst xs) => .lst (xs.map (deep k S))
      | _ => .ref n
    | d => d
/-- a new list: a box, or frozen -/
def mkL (box : Bool) (xs : List D) (S : Sto) : R D := match box with
  | true => .ok (.ref S.length) (S ++ [some (.lst xs)])
  | false => .ok (.lst xs) S
def setAt (S : Sto) (n : Nat) (c : Cell) : Sto := S.set n (some c)

/-! ### what operators tell -/
def mulOk (i j : Int) : Prop := (-(2 ^ 64) < i ∧ i < 2 ^ 64) ∨ (-(2 ^ 64) < j ∧ j < 2 ^ 64)
instance (i j : Int) : Decidable (mulOk i j) := by unfold mulOk; infer_instance
inductive Bop where
  | add | sub | mul | div | mod | pow
def addR (box : Bool) (x y : D) (S : Sto) : R D := match x, y with
  | .int i, .int j => .ok (.int (i + j)) S
  | .str a, .str b => ck (a.length + b.length ≤ sizeLine) (.ok (.str (a ++ b)) S)
  | .tup a, .tup b => ck (a.length + b.length ≤ sizeLine) (.ok (.tup (a ++ b)) S)
  | _, _ => match unbox S x, unbox S y with
    | .lst a, .lst b => ck (a.length + b.length ≤ sizeLine) (mkL box (a ++ b) S)
    | _, _ => .err
def binR (box : Bool) (op : Bop) (x y : D) (S : Sto) : R D := match op with
  | .add => addR box x y S
  | .sub => match x, y with
    | .int i, .int j => .ok (.int (i - j)) S
    | _, _ => .err
  | .mul => match x, y with
    | .int i, .int j => ck (mulOk i j) (.ok (.int (i * j)) S)
    | .str z, .int j => ck (z.length ≤ 1000 ∧ 0 ≤ j ∧ j ≤ 1000) (.ok (.str (Txt.mul z j)) S)
    | _, _ => .err
  | .div => match x, y with
    | .int i, .int j => ck (0 < j ∧ j < 1073741824) (.ok (.int (i / j)) S)
    | _, _ => .err
  | .mod => match x, y with
    | .int i, .int j => ck (0 < j) (.ok (.int (i % j)) S)
    | _, _ => .err
  | .pow => match x, y with
    | .int i, .int j => ck (0 ≤ j ∧ j ≤ 1000000 ∧ i.natAbs < 2 ^ 64) (.ok (.int (i ^ j.toNat)) S)
    | _, _ => .err
/-- the truth of a value -/
def truR (S : Sto) : D → Option Bool
  | .non => some false
  | .bl b => some b
  | .int i => some (i != 0)
  | .str z => some ((z.length : Int) != 0)
  | d => (seqOf S d).map fun xs => !xs.isEmpty
def tru (d : D) (S : Sto) : R Bool := match truR S d with
  | some b => .ok b S
  | none => .err
inductive Cop where
  | eq | ne | lt | le | gt | ge | isN | notN | isIn | notIn
  /-- == and != of boxes that hold boxes -/
  | eqd | ned
def eqD (x y : D) (S : Sto) (k : Bool → R D) : R D := ck ((unbox S x).fz = true ∧ (unbox S y).fz = true ∧ (unbox S x).dp ≤ 64 ∧ (unbox S y).dp ≤ 64) (k ((unbox S x).eqv (unbox S y)))
def eqX (x y : D) (S : Sto) (k : Bool → R D) : R D := ck ((deep 8 S x).fz = true ∧ (deep 8 S y).fz = true ∧ (deep 8 S x).dp ≤ 64 ∧ (deep 8 S y).dp ≤ 64) (k ((deep 8 S x).eqv (deep 8 S y)))
def notNon : D → Bool
  | .non => false
  | _ => true
/-- x < y of alike data -/
def ltD (x y : D) : Bool := PySem.W.dataLt x.py y.py
def ordX (x y : D) (r : R D) : R D := ck (x.fz = true ∧ y.fz = true ∧ x.dp ≤ 60 ∧ y.dp ≤ 60 ∧ PySem.W.alike x.py y.py = true ∧ notNon x = true) r
/-- a text within a text -/
def hasT (b a : Str) : Bool := !(Builtin.Str.occurrences b a 0 b.length 1).isEmpty
def cmpR (op : Cop) (x y : D) (S : Sto) : R D := match op with
  | .eq => eqD x y S fun b => .ok (.bl b) S
  | .ne => eqD x y S fun b => .ok (.bl (!b)) S
  | .eqd => eqX x y S fun b => .ok (.bl b) S
  | .ned => eqX x y S fun b => .ok (.bl (!b)) S
  | .lt => match x, y with
    | .int i, .int j => .ok (.bl (decide (i < j))) S
    | _, _ => ordX x y (.ok (.bl (ltD x y)) S)
  | .le => match x, y with
    | .int i, .int j => .ok (.bl (decide (i ≤ j))) S
    | _, _ => ordX x y (.ok (.bl (!ltD y x)) S)
  | .gt => match x, y with
    | .int i, .int j => .ok (.bl (decide (j < i))) S
    | _, _ => .err
  | .ge => match x, y with
    | .int i, .int j => .ok (.bl (decide (j ≤ i))) S
    | _, _ => .err
  | .isN => match y with
    | .non => .ok (.bl (match x with | .non => true | _ => false)) S
    | .bl b => match x with
      | .bl a => .ok (.bl (decide (a = b))) S
      | _ => .err
    | _ => .err
  | .notN => match y with
    | .non => .ok (.bl (match x with | .non => false | _ => true)) S
    | .bl b => match x with
      | .bl a => .ok (.bl (!decide (a = b))) S
      | _ => .err
    | _ => .err
  | .isIn => inR x y S fun b => .ok (.bl b) S
  | .notIn => inR x y S fun b => .ok (.bl (!b)) S
where
  inR (x y : D) (S : Sto) (k : Bool → R D) : R D := match x, y with
    | .str a, .str b => match a.cps.toList with
      | [c] => k (decide (c ∈ b.cps.toList))
      | _ => k (hasT b a)
    | _, _ => match seqOf S y with
      | some ys => ck (x.fz = true ∧ x.dp ≤ 63 ∧ D.fzs ys = true ∧ D.dps ys ≤ 63) (k (ys.any fun z => z.eqv x))
      | none => .err
/-- an item by its place -/
def atD {α : Type} (xs : List α) (i : Int) : Option α := if 0 ≤ i then xs[i.toNat]? else if -(xs.length : Int) ≤ i then xs[(i + xs.length).toNat]? else none
def idxR (x y : D) (S : Sto) : R D := match y with
  | .int i => match x with
    | .str z => match atD z.cps.toList i with
      | some c => .ok (.str ⟨#[c]⟩) S
      | none => .err
    | _ => match seqOf S x with
      | some xs => match atD xs i with
        | some d => .ok d S
        | none => .err
      | none => .err
  | _ => .err
/-- the bounds of a slice -/
def cutD {α : Type} (xs : List α) (lo hi : Option Int) : List α := (xs.drop (HT.sIx xs.length 0 lo)).take (HT.sIx xs.length xs.length hi - HT.sIx xs.length 0 lo)
def slcR (box : Bool) (x : D) (lo hi : Option Int) (S : Sto) : R D := match x with
  | .tup xs => .ok (.tup (cutD xs lo hi)) S
  | .str z => .ok (.str (L2.cutS z lo hi)) S
  | _ => match seqOf S x with
    | some xs => mkL box (cutD xs lo hi) S
    | none => .err
end Iv

/-! ### programs over data -/
namespace Iv
open PySem L2

/-- where a parameter's value comes from: an argument, a default -/
inductive Ar where
  | a (j : Nat) | d (d : D)
inductive Bi where
  | len | abs | min2 | max2 | minL | maxL | sumL | sumS | all | any | int1 | list1 (box : Bool) | tuple1 | sorted1 (box : Bool) | isi | isc (c : Nat) | maxD | sumLL | str1 | sortedR (box : Bool) | sortedT (box : Bool) | strp | intS
inductive Bm where
  | append | insert | index | count | join | upper | clear | remove | pop1 | pop0 | sindex | split | part

mutual
inductive E where
  | var (i : Nat)
  | con (d : D)
  | bin (box : Bool) (op : Bop) (a b : E)
  | neg (a : E) | not (a : E)
  | cmp (op : Cop) (a b : E)
  | chain (op op' : Cop) (a b c : E)
  | and (a b : E) | or (a b : E)
  | ife (c a b : E)
  | tup (es : List E)
  | lst (box : Bool) (es : List E)
  | idx (a i : E)
  | slc (box : Bool) (a : E) (lo hi : Option E)
  | rev (box : Bool) (a : E)
  /-- a[::s], s is 1 or -1 -/
  | slst (box : Bool) (a s : E)
  /-- a == [], a != [] -/
  | isnil (neg : Bool) (a : E)
  /-- sorted(a, key=lambda x: key), sorted(range(a), key=..); js: the captured names -/
  | sortK (box : Bool) (a : E) (js : List Nat) (key : E)
  | sortKr (box : Bool) (a : E) (js : List Nat) (key : E)
  | lc (box : Bool) (own : List Nat) (tg : Tg) (it : It) (ifs : List E) (elt : E)
  | lc2 (box : Bool) (own own1 : List Nat) (tg : Tg) (it : It) (ifs : List E) (tg1 : Tg) (it1 : It) (ifs1 : List E) (elt : E)
  | call (f : Nat) (arr : List Ar) (es : List E)
  | meth (o : E) (ms : List (Nat × Nat × List Ar)) (es : List E)
  | make (fr : Bool) (c f : Nat) (arr : List Ar) (es : List E)
  | attr (o : E) (f : Nat)
  | bi (b : Bi) (es : List E)
  | bm (m : Bm) (o : E) (es : List E)
  | frz (a : E)
  | trng (a b : E)
  /-- isinstance(a, (t, ..)) -/
  | isit (a : E) (ts : List String)
  | lrng (box : Bool) (a b : E)
  /-- dicts: {}, d[k], k in d, d.get(k, x), d.pop(k), sorted(d), {k: v for ..} -/
  | dnew
  | didx (o k : E)
  | din (neg : Bool) (k o : E)
  | dget2 (o k x : E)
  | dpop (o k : E)
  | dsort (box : Bool) (o : E)
  | dcomp (own : List Nat) (tg : Tg) (it : It) (ifs : List E) (k v : E)
  /-- len({..}), sorted({..}) of ints -/
  | lenSC (own : List Nat) (tg : Tg) (it : It) (ifs : List E) (elt : E)
  | sortSC (own : List Nat) (tg : Tg) (it : It) (ifs : List E) (elt : E)
  /-- len(set(a)), sorted(set(a)) -/
  | lenS (a : E)
  | sortS (a : E)
  /-- tuple(a) of a list, told as made; told as any tuple; t.index(x) of a made one, texts -/
  | ntup (a : E) | untup (a : E)
  | tidx (o x : E)
  /-- t.count(x) of a tuple of texts; (x,) * 2 -/
  | tcnt (o x : E)
  | tcnta (o x : E)
  /-- a == b of two instances of the class c, by its own __eq__ -/
  | eqo (a b : E) (c f : Nat) (arr : List Ar)
  | twice (a : E)
  /-- {k: e, ..} -/
  | ddisp (ks : List L2.Key) (es : List E)
  /-- len(d) of a dict; of a module's written dicts: D[k], k a text, ints; tuple(D) -/
  | dlen (o : E)
  | klook (kvs : List (Str × Int)) (k : E)
  /-- D.get(k, d) of a module's written dict -/
  | kget (kvs : List (Str × Int)) (k d : E)
  | ktup (ks : List Str)
  /-- e, while the dict d is locked: it is walked within -/
  | lock (d e : E)
  /-- dict(a), a a list of pairs -/
  | dpairs (a : E)
  | dpairsT (a : E)
  /-- sorted(d, reverse=True), keys ints; d == {} -/
  | dsortD (box : Bool) (a : E)
  | deq0 (a : E)
  /-- isinstance(e, C), e.f of the caught exception -/
  | isx (a : E) (yes no : List Nat)
  | xfd (a : E) (c f : Nat)
  /-- isinstance(x, C), C a class of the program -/
  | isO (a : E) (c : Nat) (ks : List Nat)
inductive It where
  | e (a : E)
  | rng1 (a : E) | rng2 (a b : E)
  | rng3 (a b c : E)
  | enum (s : Option E) (a : E)
  /-- enumerate(a, start=s) -/
  | enumS (a s : E)
  | zip (strict : Bool) (a b : E)
  /-- zip(a, b), its pairs taken apart at once -/
  | zipw (a b : E)
  /-- boxes may be walked -/
  | zipb (a b : E)
  /-- d.items(), a walk of d: the dict is locked -/
  | items (o : E) | keys (o : E)
inductive Tg where
  | var (i : Nat)
  | tup (ts : List Tg)
  | tupw (ts : List Tg)
  | idx (o i : E)
  | attr (o : E) (f : Nat) (cs : List Nat)
  /-- a, b, *rest -/
  | tups (ts : List Tg)
  /-- *a, b -/
  | tupf (box : Bool) (ts : List Tg)
  /-- xs[a:b] -/
  | slc (o lo hi : E)
  /-- d[k] -/
  | didx (o k : E)
end
inductive St where
  | expr (e : E)
  | asg (t : Tg) (e : E)
  | aug (i : Nat) (op : Bop) (e : E)
  | ite (c : E) (a b : List St)
  | for (t : Tg) (it : It) (body : List St)
  | while (c : E) (body : List St)
  | ret (e : E) | retN | brk | cont | pass
  | lock (d : E) (st : St)
  /-- a try's body that raises nothing -/
  | blk (b : List St)
  /-- nothing is told of what raises -/
  | raise
  /-- o.f op= e -/
  | faug (o : E) (f : Nat) (op : Bop) (e : E)
  /-- raise C(), raise C(e): the field f holds e -/
  | raise0 (c : Nat)
  | raise1 (c f : Nat) (e : E)
  /-- try: b except (C as i): h; yes, no: the classes that C catches, and not -/
  | tryx (b : List St) (yes no : List Nat) (i : Option Nat) (h : List St)

abbrev CE := Nat → List D → Sto → R D

def pick (ds : List D) : List Ar → Option (List D)
  | [] => some []
  | .a j :: r => match ds[j]? with
    | some d => (pick ds r).map (d :: ·)
    | none => none
  | .d d :: r => (pick ds r).map (d :: ·)
def callR (F : CE) (f : Nat) (arr : List Ar) (ds : List D) (S : Sto) : R D := match pick ds arr with
  | some ps => F f ps S
  | none => .err

/-! ### built-in functions -/
def intsD : List D → Option (List Int)
  | [] => some []
  | .int i :: r => (intsD r).map (i :: ·)
  | _ => none
def blsD : List D → Option (List Bool)
  | [] => some []
  | .bl i :: r => (blsD r).map (i :: ·)
  | _ => none
def strsD : List D → Option (List Str)
  | [] => some []
  | .str i :: r => (strsD r).map (i :: ·)
  | _ => none
def lenR (S : Sto) : D → Option Nat
  | .str z => some z.length
  | d => (seqOf S d).map (·.length)
def minI : List Int → Option Int
  | [] => none
  | i :: r => some (r.foldl (fun m x => if x < m then x else m) i)
def maxI : List Int → Option Int
  | [] => none
  | i :: r => some (r.foldl (fun m x => if m < x then x else m) i)
def leD (a b : D) : Bool := PySem.W.dataLe false D.py a b
def sortD (xs : List D) : List D := xs.mergeSort leD
def leR (a b : D) : Bool := PySem.W.dataLe true D.py a b
def sortRD (xs : List D) : List D := xs.mergeSort leR
def sortable (ds : List PyData) : Prop := (∀ d ∈ ds, ∀ d' ∈ ds, PySem.W.alike d d' = true) ∧ ((∀ d, d ∈ ds → ∃ x r, d = .tuple (x :: r)) ∨ ∀ d, d ∈ ds → d ≠ .none ∧ ∀ xs, d ≠ .tuple xs)
noncomputable instance (ds : List PyData) : Decidable (sortable ds) := Classical.propDecidable _
/-- the built-in class of a value -/
def tyOf (S : Sto) : D → Option String
  | .non => some "NoneType"
  | .bl _ => some "bool"
  | .int _ => some "int"
  | .str _ => some "str"
  | .tup _ => some "tuple"
  | .lst _ => some "list"
  | .scr _ => some "list"
  | .ref n => match cellAt S n with
    | some (.lst _) => some "list"
    | _ => none
  | _ => none
def clsOf (S : Sto) : D → Option Nat
  | .ins c _ => some c
  | .ref n => match cellAt S n with
    | some (.ins c _) => some c
    | _ => none
  | _ => none
def biLen (S : Sto) : List D → R D
  | [x] => match lenR S x with
    | some n => .ok (.int n) S
    | none => .err
  | _ => .err
def biAbs (S : Sto) : List D → R D
  | [.int i] => .ok (.int (if i < 0 then -i else i)) S
  | _ => .err
def lessT (a b : Str) : Bool := decide (a.cps.toList < b.cps.toList)
def biMin2 (S : Sto) : List D → R D
  | [.int i, .int j] => .ok (.int (if j < i then j else i)) S
  | [.str a, .str b] => .ok (.str (if lessT b a then b else a)) S
  | _ => .err
def biMax2 (S : Sto) : List D → R D
  | [.int i, .int j] => .ok (.int (if j > i then j else i)) S
  | [.str a, .str b] => .ok (.str (if lessT a b then b else a)) S
  | _ => .err
/-- a list, not a tuple -/
def lstOf (S : Sto) : D → Option (List D)
  | .tup _ => none
  | d => seqOf S d
def intsOf (S : Sto) (x : D) : Option (List Int) := (lstOf S x).bind intsD
def biMinL (S : Sto) : List D → R D
  | [x] => match (intsOf S x).bind minI with
    | some i => .ok (.int i) S
    | none => .err
  | _ => .err
def biMaxL (S : Sto) : List D → R D
  | [x] => match (intsOf S x).bind maxI with
    | some i => .ok (.int i) S
    | none => .err
  | _ => .err
def biSumL (S : Sto) : List D → R D
  | [x] => match intsOf S x with
    | some ns => .ok (.int ns.sum) S
    | none => .err
  | _ => .err
def biSumS (S : Sto) : List D → R D
  | [x, .int i] => match intsOf S x with
    | some ns => .ok (.int (i + ns.sum)) S
    | none => .err
  | _ => .err
def biAll (S : Sto) : List D → R D
  | [x] => match (lstOf S x).bind blsD with
    | some bs => .ok (.bl (bs.all id)) S
    | none => .err
  | _ => .err
def biAny (S : Sto) : List D → R D
  | [x] => match (lstOf S x).bind blsD with
    | some bs => .ok (.bl (bs.any id)) S
    | none => .err
  | _ => .err
def biInt (S : Sto) : List D → R D
  | [.int i] => .ok (.int i) S
  | [.bl k] => .ok (.int (if k then 1 else 0)) S
  | _ => .err
def biList (box : Bool) (S : Sto) : List D → R D
  | [x] => match seqOf S x with
    | some xs => mkL box xs S
    | none => .err
  | _ => .err
def biTuple (S : Sto) : List D → R D
  | [x] => match seqOf S x with
    | some xs => .ok (.tup xs) S
    | none => .err
  | _ => .err
noncomputable def biSorted (box : Bool) (S : Sto) : List D → R D
  | [x] => match lstOf S x with
    | some xs => ck (D.fzs xs = true ∧ D.dps xs ≤ 60 ∧ sortable (D.pys xs)) (mkL box (sortD xs) S)
    | none => .err
  | _ => .err
def srtI (ns : List Int) : List Int := ns.mergeSort fun a b => decide (a ≤ b)
/-- sorted of a tuple of ints -/
def biSortedT (box : Bool) (S : Sto) : List D → R D
  | [.tup xs] => match intsD xs with
    | some ns => ck (ns.length < 64) (mkL box ((srtI ns).map .int) S)
    | none => .err
  | _ => .err
noncomputable def biSortedR (box : Bool) (S : Sto) : List D → R D
  | [x, .bl true] => match lstOf S x with
    | some xs => ck (D.fzs xs = true ∧ D.dps xs ≤ 60 ∧ sortable (D.pys xs)) (mkL box (sortRD xs) S)
    | none => .err
  | _ => .err
def biMaxD (S : Sto) : List D → R D
  | [x, .int d] => match intsOf S x with
    | some ns => .ok (.int (match maxI ns with | some i => i | none => d)) S
    | none => .err
  | _ => .err
def lstsD (S : Sto) : List D → Option (List (List D))
  | [] => some []
  | x :: r => match unbox S x with
    | .lst ys => (lstsD S r).map (ys :: ·)
    | _ => none
def biSumLL (S : Sto) : List D → R D
  | [x, .lst []] => match (lstOf S x).bind (lstsD S) with
    | some ys => ck (ys.flatten.length ≤ 1000) (.ok (.lst ys.flatten) S)
    | none => .err
  | _ => .err
def biIsi (S : Sto) : List D → R D
  | [x, .ty n] => match (tyOf S x).bind fun a => kitB a n with
    | some b => .ok (.bl b) S
    | none => .err
  | _ => .err
/-- str() of a list or a tuple -/
def isSeqD : D → Bool
  | .tup _ => true
  | .lst _ => true
  | .scr _ => true
  | .ref _ => true
  | _ => false
/-- str() of what is no sequence -/
def strA : D → Option Str
  | .non => some "None"
  | .bl b => some (if b then "True" else "False")
  | .int i => if i.natAbs.log2 < 1920 then some (toString i) else none
  | .str z => some z
  | _ => none
def biStrA (S : Sto) (z : Str) : R D := ck (z.length ≤ sizeLine ∧ ∀ c ∈ z.cps.toList, c < 1114112) (.ok (.str z) S)
def biStr (S : Sto) : List D → R D
  | [x] => match strA x with
    | some z => biStrA S z
    | none => ck (isSeqD x = true ∧ (deep 8 S x).fz = true ∧ (deep 8 S x).dp ≤ 60 ∧ (deep 8 S x).py.showable = true ∧ (deep 8 S x).py.shown.length ≤ sizeLine ∧ ∀ c ∈ (deep 8 S x).py.shown.cps.toList, c < 1114112) (.ok (.str (deep 8 S x).py.shown) S)
  | _ => .err
/-- str() of an int, of a text -/
def biStrp (S : Sto) : List D → R D
  | [.int i] => ck (i.natAbs.log2 < 1920) (biStrA S (toString i))
  | [.str z] => .ok (.str z) S
  | _ => .err
/-- int() of a text -/
def biIntS (S : Sto) : List D → R D
  | [.str z] => match PySem.intText? z with
    | some n => ck (z.length ≤ 640) (.ok (.int n) S)
    | none => .err
  | _ => .err
noncomputable def biR (b : Bi) (ds : List D) (S : Sto) : R D := match b with
  | .len => biLen S ds
  | .abs => biAbs S ds
  | .min2 => biMin2 S ds
  | .max2 => biMax2 S ds
  | .minL => biMinL S ds
  | .maxL => biMaxL S ds
  | .sumL => biSumL S ds
  | .sumS => biSumS S ds
  | .all => biAll S ds
  | .any => biAny S ds
  | .int1 => biInt S ds
  | .list1 box => biList box S ds
  | .tuple1 => biTuple S ds
  | .sorted1 box => biSorted box S ds
  | .isi => biIsi S ds
  | .isc _ => .err
  | .maxD => biMaxD S ds
  | .sumLL => biSumLL S ds
  | .str1 => biStr S ds
  | .sortedR box => biSortedR box S ds
  | .sortedT box => biSortedT box S ds
  | .strp => biStrp S ds
  | .intS => biIntS S ds
/-- is it a receiver for that method -/
def bmOk (m : Bm) (o : D) (S : Sto) : Bool := match m, o with
  | .append, .ref n => match cellAt S n with
    | some (.lst _) => true
    | _ => false
  | .insert, .ref n => match cellAt S n with
    | some (.lst _) => true
    | _ => false
  | .join, .str _ => true
  | .sindex, .str _ => true
  | .split, .str _ => true
  | .part, .str _ => true
  | .remove, .ref n => match cellAt S n with
    | some (.lst _) => true
    | _ => false
  | .pop1, .ref n => match cellAt S n with
    | some (.lst _) => true
    | _ => false
  | .pop0, .ref n => match cellAt S n with
    | some (.lst _) => true
    | _ => false
  | .index, d => (lstOf S d).isSome
  | .count, d => (lstOf S d).isSome
  | .clear, .ref n => match cellAt S n with
    | some (.lst _) => true
    | _ => false
  | _, _ => false
def insertAt (xs : List D) (i : Int) (y : D) : List D := xs.take i.toNat ++ [y] ++ xs.drop i.toNat
def bmAppend (S : Sto) (o : D) : List D → R D
  | [y] => match o with
    | .ref n => match cellAt S n with
      | some (.lst xs) => ck (xs.length < sizeLine) (.ok .non (setAt S n (.lst (xs ++ [y]))))
      | _ => .err
    | _ => .err
  | _ => .err
def bmInsert (S : Sto) (o : D) : List D → R D
  | [.int i, y] => match o with
    | .ref n => match cellAt S n with
      | some (.lst xs) => ck (xs.length < sizeLine ∧ 0 ≤ i ∧ i < 2 ^ 63) (.ok .non (setAt S n (.lst (insertAt xs i y))))
      | _ => .err
    | _ => .err
  | _ => .err
def bmJoin (S : Sto) (o : D) : List D → R D
  | [x] => match o with
    | .str a => match (seqOf S x).bind strsD with
      | some ys => ck ((ys.map (·.length)).sum + ys.length * a.length ≤ 16777216) (.ok (.str (Txt.join a ys)) S)
      | none => .err
    | _ => .err
  | _ => .err
def bmRemove (S : Sto) (o : D) : List D → R D
  | [y] => match o with
    | .ref n => match cellAt S n with
      | some (.lst xs) => match xs.findIdx? (fun z => z.eqv y) with
        | some j => ck (D.fzs xs = true ∧ y.fz = true ∧ D.dps xs ≤ 60 ∧ y.dp ≤ 60 ∧ xs.length ≤ sizeLine) (.ok .non (setAt S n (.lst (xs.eraseIdx j))))
        | none => .err
      | _ => .err
    | _ => .err
  | _ => .err
def bmPop0 (S : Sto) (o : D) : List D → R D
  | [] => match o with
    | .ref n => match cellAt S n with
      | some (.lst xs) => match xs[xs.length - 1]? with
        | some d => .ok d (setAt S n (.lst xs.dropLast))
        | none => .err
      | _ => .err
    | _ => .err
  | _ => .err
def bmPop (S : Sto) (o : D) : List D → R D
  | [.int i] => match o with
    | .ref n => match cellAt S n with
      | some (.lst xs) => match xs[i.toNat]? with
        | some d => ck (0 ≤ i ∧ i < 1000000) (.ok d (setAt S n (.lst (xs.eraseIdx i.toNat))))
        | none => .err
      | _ => .err
    | _ => .err
  | _ => .err
def bmIndex (S : Sto) (o : D) : List D → R D
  | [y] => match lstOf S o with
    | some xs => match xs.findIdx? (fun z => z.eqv y) with
      | some j => ck (D.fzs xs = true ∧ y.fz = true ∧ D.dps xs ≤ 60 ∧ y.dp ≤ 60) (.ok (.int (j : Nat)) S)
      | none => .err
    | none => .err
  | _ => .err
def isS : D → Bool
  | .str _ => true
  | _ => false
def isNtp : D → Bool
  | .ntp _ => true
  | _ => false
def noExc (r : R D) : R D := match r with
  | .ok (.bl b) S => .ok (.bl b) S
  | _ => .err
def isTx : D → Bool
  | .tup (x :: xs) => isS x && xs.all isS
  | _ => false
def tcntR (o x : D) (S : Sto) : R D := match o, x with
  | .tup xs, .str z => match strsD xs with
    | some ys => ck (ys.length ≤ 1000) (.ok (.int (ys.countP fun y => y == z : Nat)) S)
    | none => .err
  | _, _ => .err
/-- a tuple with items -/
def isTu : D → Bool
  | .tup (_ :: _) => true
  | _ => false
def tcntaR (o y : D) (S : Sto) : R D := match o with
  | .tup xs => ck (D.fzs xs = true ∧ y.fz = true ∧ D.dps xs ≤ 60 ∧ y.dp ≤ 60) (.ok (.int (xs.countP fun z => z.eqv y : Nat)) S)
  | _ => .err
def twiceR (x : D) (S : Sto) : R D := match x with
  | .tup [d] => .ok (.tup [d, d]) S
  | _ => .err
def tidxR (o x : D) (S : Sto) : R D := match o, x with
  | .ntp xs, .str z => match strsD xs with
    | some ys => match ys.findIdx? (fun y => y == z) with
      | some j => .ok (.int (j : Nat)) S
      | none => .err
    | none => .err
  | _, _ => .err
def bmCount (S : Sto) (o : D) : List D → R D
  | [y] => match lstOf S o with
    | some xs => ck (D.fzs xs = true ∧ y.fz = true ∧ D.dps xs ≤ 60 ∧ y.dp ≤ 60) (.ok (.int (xs.countP fun z => z.eqv y : Nat)) S)
    | none => .err
  | _ => .err
def bmSIndex (S : Sto) (o : D) : List D → R D
  | [.str b] => match o with
    | .str a => match Builtin.Str.occurrences a b 0 a.length 1 with
      | i :: _ => .ok (.int (i : Nat)) S
      | [] => .err
    | _ => .err
  | _ => .err
/-- are the library's rules for texts there for all of them -/
def okTs (l : List Str) : Prop := ∀ z ∈ l, z.length ≤ sizeLine ∧ ∀ c ∈ z.cps.toList, c < 1114112
instance (l : List Str) : Decidable (okTs l) := by unfold okTs; infer_instance
def bmSplit (S : Sto) (o : D) : List D → R D
  | [.str b] => match o with
    | .str a => ck ((b.length == 0) = false ∧ a.length + 2 ≤ sizeLine ∧ okTs (Txt.split a b)) (.ok (.lst ((Txt.split a b).map .str)) S)
    | _ => .err
  | _ => .err
def bmPart (S : Sto) (o : D) : List D → R D
  | [.str b] => match o with
    | .str a => ck ((b.length == 0) = false ∧ a.length ≤ sizeLine ∧ okTs [(Txt.partition a b).1, (Txt.partition a b).2.1, (Txt.partition a b).2.2]) (.ok (.tup [.str (Txt.partition a b).1, .str (Txt.partition a b).2.1, .str (Txt.partition a b).2.2]) S)
    | _ => .err
  | _ => .err
def bmClear (S : Sto) (o : D) : List D → R D
  | [] => match o with
    | .ref n => match cellAt S n with
      | some (.lst _) => .ok .non (setAt S n (.lst []))
      | _ => .err
    | _ => .err
  | _ => .err
def bmR (m : Bm) (o : D) (ds : List D) (S : Sto) : R D := match m with
  | .append => bmAppend S o ds
  | .insert => bmInsert S o ds
  | .join => bmJoin S o ds
  | .clear => bmClear S o ds
  | .remove => bmRemove S o ds
  | .pop1 => bmPop S o ds
  | .pop0 => bmPop0 S o ds
  | .index => bmIndex S o ds
  | .count => bmCount S o ds
  | .sindex => bmSIndex S o ds
  | .split => bmSplit S o ds
  | .part => bmPart S o ds
  | _ => .err

/-! ### dicts -/
def keyD : D → Option L2.Key
  | .int i => some (.inl i)
  | .str x => some (.inr x)
  | _ => none
def keyV : L2.Key → D
  | .inl i => .int i
  | .inr x => .str x
def dGet (kvs : List (L2.Key × D)) (k : L2.Key) : Option D := (kvs.find? fun kv => decide (kv.1 = k)).map (·.2)
def dPut (kvs : List (L2.Key × D)) (k : L2.Key) (v : D) : List (L2.Key × D) := if (kvs.any fun kv => decide (kv.1 = k)) = true then kvs.map (fun kv => if kv.1 = k then (kv.1, v) else kv) else kvs ++ [(k, v)]
def dDrop (kvs : List (L2.Key × D)) (k : L2.Key) : List (L2.Key × D) := kvs.filter fun kv => decide (kv.1 ≠ k)
def dctOf (S : Sto) : D → Option (Nat × List (L2.Key × D))
  | .ref n => match cellAt S n with
    | some (.dct kvs) => some (n, kvs)
    | _ => none
  | _ => none
/-- a dict to be read: perhaps a walked one -/
def drdOf (S : Sto) : D → Option (List (L2.Key × D))
  | .ref n => match cellAt S n with
    | some (.dct kvs) => some kvs
    | some (.dlk kvs) => some kvs
    | _ => none
  | _ => none
def dlkOf (S : Sto) : D → Option (Nat × List (L2.Key × D))
  | .ref n => match cellAt S n with
    | some (.dlk kvs) => some (n, kvs)
    | _ => none
  | _ => none
def didxR (x y : D) (S : Sto) : R D := match drdOf S x, keyD y with
  | some p, some k => match dGet p k with
    | some d => .ok d S
    | none => .err
  | _, _ => .err
def dinR (neg : Bool) (y x : D) (S : Sto) : R D := match drdOf S x, keyD y with
  | some p, some k => .ok (.bl (if neg then !(dGet p k).isSome else (dGet p k).isSome)) S
  | _, _ => .err
def dget2R (x y z : D) (S : Sto) : R D := match drdOf S x, keyD y with
  | some p, some k => .ok ((dGet p k).getD z) S
  | _, _ => .err
def dpopR (x y : D) (S : Sto) : R D := match dctOf S x, keyD y with
  | some p, some k => match dGet p.2 k with
    | some d => .ok d (setAt S p.1 (.dct (dDrop p.2 k)))
    | none => .err
  | _, _ => .err
def dputR (x y d : D) (S : Sto) : R Unit := match dctOf S x, keyD y with
  | some p, some k => ck (p.2.length < sizeLine) (.ok () (setAt S p.1 (.dct (dPut p.2 k d))))
  | _, _ => .err
def intKs : List (L2.Key × D) → Option (List Int)
  | [] => some []
  | (.inl i, _) :: r => (intKs r).map (i :: ·)
  | _ => none
def strKs : List (L2.Key × D) → Option (List Str)
  | [] => some []
  | (.inr i, _) :: r => (strKs r).map (i :: ·)
  | _ => none
/-- ints, texts in order -/
def srtS (ns : List Str) : List Str := ns.mergeSort fun a b => !decide (b.cps.toList < a.cps.toList)
def dsortR (box : Bool) (x : D) (S : Sto) : R D := match dctOf S x with
  | some p => match intKs p.2, strKs p.2 with
    | some ns, _ => ck (ns.length < 64) (mkL box ((srtI ns).map .int) S)
    | none, some ns => ck (ns.length < 64) (mkL box ((srtS ns).map .str) S)
    | none, none => .err
  | none => .err
/-- the pairs that a dict comprehension made -/
def pairsD : List D → Option (List (L2.Key × D))
  | [] => some []
  | .tup [k, v] :: r => match keyD k with
    | some k => (pairsD r).map ((k, v) :: ·)
    | none => none
  | _ => none
def mergeD (es : List (L2.Key × D)) : List (L2.Key × D) := es.foldl (fun acc kv => dPut acc kv.1 kv.2) []
def mkDct (ys : List D) (S : Sto) : R D := match pairsD ys with
  | some es => ck (ys.length < sizeLine) (.ok (.ref S.length) (S ++ [some (.dct (mergeD es))]))
  | none => .err
def dsortDR (box : Bool) (x : D) (S : Sto) : R D := match dctOf S x with
  | some p => match intKs p.2 with
    | some ns => ck (ns.length < 64) (mkL box ((srtI ns).reverse.map .int) S)
    | none => .err
  | none => .err
def deq0R (x : D) (S : Sto) : R D := match dctOf S x with
  | some p => .ok (.bl p.2.isEmpty) S
  | none => .err
def ntpOf : D → Option (List D)
  | .ntp xs => some xs
  | _ => none
def dpairsR (o : Option (List D)) (S : Sto) : R D := match o with
  | some ys => mkDct ys S
  | none => .err
def keysD : List D → Option (List L2.Key)
  | [] => some []
  | d :: r => match keyD d with
    | some k => (keysD r).map (k :: ·)
    | none => none
/-- how many unlike ones -/
def manyK {κ : Type} [DecidableEq κ] (ks : List κ) : Nat := ks.eraseDups.length
def lenSCR (ys : List D) (S : Sto) : R D := match keysD ys with
  | some ks => ck (ys.length < 1000) (.ok (.int (manyK ks)) S)
  | none => .err
def nubK {κ : Type} [DecidableEq κ] (ks : List κ) : List κ := ks.eraseDups
def lenSR (o : Option (List D)) (S : Sto) : R D := match o with
  | some ys => lenSCR ys S
  | none => .err
def sortSR (o : Option (List D)) (S : Sto) : R D := match o with
  | some ys => match intsD ys, strsD ys with
    | some ns, _ => ck (ns.length < 64) (.ok (.lst ((srtI (nubK ns)).map .int)) S)
    | none, some zs => ck (zs.length < 64) (.ok (.lst ((srtS (nubK zs)).map .str)) S)
    | none, none => .err
  | none => .err
def sortSCR (ys : List D) (S : Sto) : R D := match intsD ys with
  | some ns => ck (ys.length < 64) (.ok (.lst ((srtI ns.eraseDups).map .int)) S)
  | none => .err

/-! ### walks -/
def isRef : D → Bool
  | .ref _ => true
  | _ => false
/-- a list's walk, or a tuple's -/
def kOf : D → Bool
  | .tup _ => false
  | _ => true
inductive Src where
  | fix | box (n : Nat) (xs : List D)
  | dlk (n : Nat) (kvs : List (L2.Key × D))
  | two (a b : Src)
def Src.there (s : Src) (S : Sto) : Prop := match s with
  | .fix => True
  | .box n xs => cellAt S n = some (.lst xs)
  | .dlk n kvs => cellAt S n = some (.dlk kvs)
  | .two a b => a.there S ∧ b.there S
noncomputable instance (s : Src) (S : Sto) : Decidable (s.there S) := Classical.propDecidable _
def walkOf (S : Sto) : D → Option (Src × List D)
  | .tup xs => some (.fix, xs)
  | .lst xs => some (.fix, xs)
  | .scr xs => some (.fix, xs)
  | .str z => some (.fix, z.cps.toList.map fun c => .str ⟨#[c]⟩)
  | .ref n => match cellAt S n with
    | some (.lst xs) => some (.box n xs, xs)
    | _ => none
  | _ => none
/-- a list's walk, no tuple's -/
def walkL (S : Sto) : D → Option (Src × List D)
  | .tup _ => none
  | .str _ => none
  | d => walkOf S d
/-- a walk of a list or a tuple -/
def walkZ (S : Sto) : D → Option (Src × List D)
  | .str _ => none
  | d => walkOf S d
def rngS (lo c : Int) (n : Nat) : List D := (List.range n).map fun (i : Nat) => D.int (lo + (i : Int) * c)
def slstR (box : Bool) (x k : D) (S : Sto) : R D := match lstOf S x, k with
  | some xs, .int i => if i = 1 then mkL box xs S else if i = -1 then mkL box xs.reverse S else .err
  | _, _ => .err
/-- the items by their keys -/
noncomputable def keysR (box : Bool) (xs ks : List D) (S : Sto) : R D :=
  ck (ks.length = xs.length ∧ xs.length ≤ sizeLine ∧ D.fzs ks = true ∧ D.dps ks ≤ 60 ∧ sortable (D.pys ks)) (mkL box (((xs.zip ks).mergeSort (PySem.W.dataLe false fun p => p.2.py)).map Prod.fst) S)
def keyEnv (ρ : Env) (js : List Nat) (d : D) : Env := some d :: js.map fun j => (ρ[j]?).join
def rngN (i j k : Int) : Nat := ((j - i + k - 1) / k).toNat
def isiT (S : Sto) (x : D) : List String → Option Bool
  | [] => some false
  | t :: ts => match (tyOf S x).bind fun a => kitB a t with
    | some true => some true
    | some false => isiT S x ts
    | none => none
def rngD (lo : Int) (n : Nat) : List D := (List.range n).map fun (i : Nat) => D.int (lo + i)
def enumD (s : Int) (xs : List D) : List D := xs.mapIdx fun i x => .tup [.int (s + i), x]
def zipWD (xs ys : List D) : List D := (xs.zip ys).map fun p => .wtp [p.1, p.2]
def zipD (xs ys : List D) : List D := (xs.zip ys).map fun p => .tup [p.1, p.2]
/-- no pair of two texts -/
def mixZ (xs ys : List D) : Bool := (xs.zip ys).all fun p => !(isS p.1 && isS p.2)
def mixK (kvs : List (L2.Key × D)) : Bool := kvs.all fun kv => !(isS (keyV kv.1) && isS kv.2)
noncomputable def lcLoop (src : Src) (step : D → Sto → R (List D)) : List D → Sto → R (List D)
  | [], S => ck (src.there S) (.ok [] S)
  | d :: ds, S => ck (src.there S) (match step d S with
    | .ok xs S1 => match lcLoop src step ds S1 with
      | .ok ys S2 => .ok (xs ++ ys) S2
      | _ => .err
    | _ => .err)
def wipeE (ρ : Env) : List Nat → Env
  | [] => ρ
  | v :: vs => (wipeE ρ vs).set v none
def smallI (i : Int) : Prop := -(2 ^ 62) ≤ i ∧ i < 2 ^ 62
instance (i : Int) : Decidable (smallI i) := by unfold smallI; infer_instance
def attrR (o : D) (f : Nat) (S : Sto) : R D := match o with
  | .ins _ fs => match fs.lookup f with
    | some d => .ok d S
    | none => .err
  | .ref n => match cellAt S n with
    | some (.ins _ fs) => match fs.lookup f with
      | some d => .ok d S
      | none => .err
    | _ => .err
  | _ => .err
def putFd (f : Nat) (d : D) : List (Nat × D) → List (Nat × D)
  | [] => [(f, d)]
  | (g, e) :: r => if g = f then (g, d) :: r else (g, e) :: putFd f d r
def sattrR (o : D) (f : Nat) (cs : List Nat) (d : D) (S : Sto) : R Unit := match o with
  | .ref n => match cellAt S n with
    | some (.ins c fs) => ck (c ∈ cs ∧ fs.length < 900) (.ok () (setAt S n (.ins c (putFd f d fs))))
    | _ => .err
  | _ => .err
def sidxR (o i d : D) (S : Sto) : R Unit := match o, i with
  | .ref n, .int k => match cellAt S n with
    | some (.lst xs) => ck (0 ≤ k ∧ k < xs.length) (.ok () (setAt S n (.lst (xs.set k.toNat d))))
    | _ => .err
  | _, _ => .err
def sslcR (o l h d : D) (S : Sto) : R Unit := match o, l, h, d with
  | .ref n, .int i, .int j, .lst ys => match cellAt S n with
    | some (.lst xs) => ck (0 ≤ i ∧ i ≤ j ∧ j ≤ xs.length ∧ xs.length + ys.length ≤ sizeLine) (.ok () (setAt S n (.lst (xs.take i.toNat ++ ys ++ xs.drop j.toNat))))
    | _ => .err
  | _, _, _, _ => .err
def frzR (d : D) (S : Sto) : R D := match d with
  | .ref n => match cellAt S n with
    | some (.lst xs) => .ok (.lst xs) (S.set n none)
    | some (.ins c fs) => .ok (.ins c fs) (S.set n none)
    | _ => .err
  | _ => .err
/-- an instance is made: its box, what __init__ does, perhaps frozen -/
def makeR (F : CE) (fr : Bool) (c f : Nat) (arr : List Ar) (ds : List D) (S : Sto) : R D :=
  (callR F f arr (.ref S.length :: ds) (S ++ [some (.ins c [])])).bind fun r S1 => match r with
    | .non => if fr then frzR (.ref S.length) S1 else .ok (.ref S.length) S1
    | _ => .err

/-- a walked dict may be changed again -/
def unlockR {α : Type} (n : Nat) : R α → R α
  | .ok a S => match cellAt S n with
    | some (.dlk kvs) => .ok a (setAt S n (.dct kvs))
    | _ => .err
  | _ => .err
/-- while the dict is locked -/
def lockR {α : Type} (x : R D) (S : Sto) (k : Sto → R α) : R α := match x with
  | .ok (.ref n) _ => match cellAt S n with
    | some (.dct kvs) => unlockR n (k (setAt S n (.dlk kvs)))
    | _ => .err
  | _ => .err
def insOf (S : Sto) : D → Option (Nat × Nat × List (Nat × D))
  | .ref n => match cellAt S n with
    | some (.ins c fs) => some (n, c, fs)
    | _ => none
  | _ => none
def faugPut (n c f : Nat) (z : D) (S : Sto) : R Unit := match cellAt S n with
  | some (.ins c' fs) => ck (c' = c ∧ fs.length < 900) (.ok () (setAt S n (.ins c (putFd f z fs))))
  | _ => .err

def klookR (kvs : List (Str × Int)) (y : D) (S : Sto) : R D := match y with
  | .str z => match kvs.lookup z with
    | some i => .ok (.int i) S
    | none => .err
  | _ => .err
def kgetR (kvs : List (Str × Int)) (y d : D) (S : Sto) : R D := match y with
  | .str z => match kvs.lookup z with
    | some i => .ok (.int i) S
    | none => .ok d S
  | _ => .err
def dispR (ks : List L2.Key) : R (List D) → R D
  | .ok ds S => ck (ks.length = ds.length ∧ ks.length ≤ 15) (.ok (.ref S.length) (S ++ [some (.dct (mergeD (ks.zip ds)))]))
  | _ => .err
/-- isinstance of the caught exception -/
def isxR (yes no : List Nat) (x : D) (S : Sto) : R D := match x with
  | .exv i c _ => match cellAt S i with
    | some .hot => if c ∈ yes then .ok (.bl true) S else ck (c ∈ no) (.ok (.bl false) S)
    | _ => .err
  | _ => .err
def xfdR (c f : Nat) (x : D) (S : Sto) : R D := match x with
  | .exv i k [(f', d)] => match cellAt S i with
    | some .hot => ck (k = c ∧ f' = f) (.ok d S)
    | _ => .err
  | _ => .err
/-- isinstance(x, C) -/
def isOR (c : Nat) (ks : List Nat) (x : D) (S : Sto) : R D := match clsOf S x with
  | some k => ck (k ∈ ks) (.ok (.bl (k == c)) S)
  | none => match tyOf S x with
    | some _ => .ok (.bl false) S
    | none => .err
def wtpK (d : D) (k : List D → R Env) : R Env := match d with
  | .wtp xs => k xs
  | _ => .err
mutual
noncomputable def ev (F : CE) : E → Env → Sto → R D
  | .var i, ρ, S => match ρ[i]? with
    | some (some d) => .ok d S
    | _ => .err
  | .con d, _, S => .ok d S
  | .bin box op a b, ρ, S => (ev F a ρ S).bind fun x S => (ev F b ρ S).bind fun y S => binR box op x y S
  | .neg a, ρ, S => (ev F a ρ S).bind fun x S => match x with
    | .int i => .ok (.int (-i)) S
    | _ => .err
  | .not a, ρ, S => (ev F a ρ S).bind fun x S => (tru x S).bind fun b S => .ok (.bl (!b)) S
  | .cmp op a b, ρ, S => (ev F a ρ S).bind fun x S => (ev F b ρ S).bind fun y S => cmpR op x y S
  | .chain op op' a b c, ρ, S => (ev F a ρ S).bind fun x S => (ev F b ρ S).bind fun y S => (cmpR op x y S).bind fun z S => (tru z S).bind fun k S =>
      if k = true then (ev F c ρ S).bind fun w S => cmpR op' y w S else .ok (.bl false) S
  | .and a b, ρ, S => (ev F a ρ S).bind fun x S => (tru x S).bind fun k S => if k = true then ev F b ρ S else .ok x S
  | .or a b, ρ, S => (ev F a ρ S).bind fun x S => (tru x S).bind fun k S => if k = true then .ok x S else ev F b ρ S
  | .ife c a b, ρ, S => (ev F c ρ S).bind fun x S => (tru x S).bind fun k S => if k = true then ev F a ρ S else ev F b ρ S
  | .tup es, ρ, S => (evs F es ρ S).bind fun xs S => ck (xs.length ≤ sizeLine) (.ok (.tup xs) S)
  | .lst box es, ρ, S => (evs F es ρ S).bind fun xs S => ck (xs.length ≤ sizeLine) (mkL box xs S)
  | .idx a i, ρ, S => (ev F a ρ S).bind fun x S => (ev F i ρ S).bind fun y S => idxR x y S
  | .slc box a lo hi, ρ, S => (ev F a ρ S).bind fun x S => (evp F lo ρ S).bind fun l S => (evp F hi ρ S).bind fun h S => slcR box x l h S
  | .rev box a, ρ, S => (ev F a ρ S).bind fun x S => match x with
    | .tup xs => .ok (.tup xs.reverse) S
    | _ => match seqOf S x with
      | some xs => mkL box xs.reverse S
      | none => .err
  | .slst box a k, ρ, S => (ev F a ρ S).bind fun x S => (ev F k ρ S).bind fun y S => slstR box x y S
  | .isnil neg a, ρ, S => (ev F a ρ S).bind fun x S => match lstOf S x with
    | some xs => .ok (.bl (if neg = true then !xs.isEmpty else xs.isEmpty)) S
    | none => .err
  | .sortK box a js key, ρ, S => (ev F a ρ S).bind fun x S => match lstOf S x with
    | some xs => (lcLoop .fix (fun d S => (ev F key (keyEnv ρ js d) S).bind fun y S => .ok [y] S) xs S).bind fun ks S => keysR box xs ks S
    | none => .err
  | .sortKr box a js key, ρ, S => (ev F a ρ S).bind fun x S => match x with
    | .int n => ck (smallI n ∧ n.toNat ≤ 2 ^ 24) ((lcLoop .fix (fun d S => (ev F key (keyEnv ρ js d) S).bind fun y S => .ok [y] S) (rngD 0 n.toNat) S).bind fun ks S => keysR box (rngD 0 n.toNat) ks S)
    | _ => .err
  | .lc box own tg it ifs elt, ρ, S => (evIt F it ρ S).bind fun w S =>
      (lcLoop w.1 (fun d S => (asg F tg d (wipeE ρ own) S).bind fun ρ1 S => (evIfs F ifs ρ1 S).bind fun k S => if k = true then (ev F elt ρ1 S).bind fun y S => .ok [y] S else .ok [] S) w.2 S).bind fun ys S => ck (ys.length ≤ sizeLine) (mkL box ys S)
  | .lc2 box own own1 tg it ifs tg1 it1 ifs1 elt, ρ, S => (evIt F it ρ S).bind fun w S =>
      (lcLoop w.1 (fun d S => (asg F tg d (wipeE ρ own) S).bind fun ρ1 S => (evIfs F ifs ρ1 S).bind fun k S => if k = true then
        (evIt F it1 ρ1 S).bind fun w1 S => lcLoop w1.1 (fun d1 S => (asg F tg1 d1 (wipeE ρ1 own1) S).bind fun ρ2 S => (evIfs F ifs1 ρ2 S).bind fun k S => if k = true then (ev F elt ρ2 S).bind fun y S => .ok [y] S else .ok [] S) w1.2 S
        else .ok [] S) w.2 S).bind fun ys S => ck (ys.length ≤ sizeLine) (mkL box ys S)
  | .call f arr es, ρ, S => (evs F es ρ S).bind fun xs S => callR F f arr xs S
  | .meth o ms es, ρ, S => (ev F o ρ S).bind fun x S => match (clsOf S x).bind fun c => ms.lookup c with
    | some (f, arr) => (evs F es ρ S).bind fun xs S => callR F f arr (x :: xs) S
    | none => .err
  | .make fr c f arr es, ρ, S => (evs F es ρ S).bind fun xs S => makeR F fr c f arr xs S
  | .attr o f, ρ, S => (ev F o ρ S).bind fun x S => attrR x f S
  | .bi b es, ρ, S => (evs F es ρ S).bind fun xs S => biR b xs S
  | .bm m o es, ρ, S => (ev F o ρ S).bind fun x S => ck (bmOk m x S = true) ((evs F es ρ S).bind fun xs S => bmR m x xs S)
  | .frz a, ρ, S => (ev F a ρ S).bind fun x S => frzR x S
  | .trng a b, ρ, S => (ev F a ρ S).bind fun x S => (ev F b ρ S).bind fun y S => match x, y with
    | .int i, .int j => ck (smallI i ∧ smallI j ∧ (j - i).toNat ≤ 2 ^ 24) (.ok (.tup (rngD i (j - i).toNat)) S)
    | _, _ => .err
  | .isit a ts, ρ, S => (ev F a ρ S).bind fun x S => match isiT S x ts with
    | some b => ck (ts.length ≤ 100) (.ok (.bl b) S)
    | none => .err
  | .lrng box a b, ρ, S => (ev F a ρ S).bind fun x S => (ev F b ρ S).bind fun y S => match x, y with
    | .int i, .int j => ck (smallI i ∧ smallI j ∧ (j - i).toNat ≤ 2 ^ 24) (mkL box (rngD i (j - i).toNat) S)
    | _, _ => .err
  | .dnew, _, S => .ok (.ref S.length) (S ++ [some (.dct [])])
  | .didx o k, ρ, S => (ev F o ρ S).bind fun x S => (ev F k ρ S).bind fun y S => didxR x y S
  | .din neg k o, ρ, S => (ev F k ρ S).bind fun y S => (ev F o ρ S).bind fun x S => dinR neg y x S
  | .dget2 o k z, ρ, S => (ev F o ρ S).bind fun x S => ck ((drdOf S x).isSome = true) ((ev F k ρ S).bind fun y S => (ev F z ρ S).bind fun v S => dget2R x y v S)
  | .dpop o k, ρ, S => (ev F o ρ S).bind fun x S => ck ((dctOf S x).isSome = true) ((ev F k ρ S).bind fun y S => dpopR x y S)
  | .dsort box o, ρ, S => (ev F o ρ S).bind fun x S => dsortR box x S
  | .dcomp own tg it ifs k v, ρ, S => (evIt F it ρ S).bind fun w S =>
      (lcLoop w.1 (fun d S => (asg F tg d (wipeE ρ own) S).bind fun ρ1 S => (evIfs F ifs ρ1 S).bind fun b S => if b = true then (ev F k ρ1 S).bind fun y S => (ev F v ρ1 S).bind fun z S => .ok [.tup [y, z]] S else .ok [] S) w.2 S).bind fun ys S => mkDct ys S
  | .lenSC own tg it ifs elt, ρ, S => (evIt F it ρ S).bind fun w S =>
      (lcLoop w.1 (fun d S => (asg F tg d (wipeE ρ own) S).bind fun ρ1 S => (evIfs F ifs ρ1 S).bind fun b S => if b = true then (ev F elt ρ1 S).bind fun y S => .ok [y] S else .ok [] S) w.2 S).bind fun ys S => lenSCR ys S
  | .sortSC own tg it ifs elt, ρ, S => (evIt F it ρ S).bind fun w S =>
      (lcLoop w.1 (fun d S => (asg F tg d (wipeE ρ own) S).bind fun ρ1 S => (evIfs F ifs ρ1 S).bind fun b S => if b = true then (ev F elt ρ1 S).bind fun y S => .ok [y] S else .ok [] S) w.2 S).bind fun ys S => sortSCR ys S
  | .lenS a, ρ, S => (ev F a ρ S).bind fun x S => lenSR (seqOf S x) S
  | .sortS a, ρ, S => (ev F a ρ S).bind fun x S => sortSR (seqOf S x) S
  | .eqo a b c f arr, ρ, S => (ev F a ρ S).bind fun x S => (ev F b ρ S).bind fun y S => ck (clsOf S x = some c ∧ clsOf S y = some c) (noExc (callR F f arr [x, y] S))
  | .tcnta o x, ρ, S => (ev F o ρ S).bind fun a S => ck (isTu a = true) ((ev F x ρ S).bind fun b S => tcntaR a b S)
  | .tcnt o x, ρ, S => (ev F o ρ S).bind fun a S => ck (isTx a = true) ((ev F x ρ S).bind fun b S => tcntR a b S)
  | .twice a, ρ, S => (ev F a ρ S).bind fun x S => twiceR x S
  | .tidx o x, ρ, S => (ev F o ρ S).bind fun a S => ck (isNtp a = true) ((ev F x ρ S).bind fun b S => tidxR a b S)
  | .ntup a, ρ, S => (ev F a ρ S).bind fun x S => match lstOf S x with
    | some xs => .ok (.ntp xs) S
    | none => .err
  | .untup a, ρ, S => (ev F a ρ S).bind fun x S => match x with
    | .ntp xs => .ok (.tup xs) S
    | _ => .err
  | .ddisp ks es, ρ, S => dispR ks (evs F es ρ S)
  | .dlen o, ρ, S => (ev F o ρ S).bind fun x S => match dctOf S x with
    | some p => .ok (.int (p.2.length : Nat)) S
    | none => .err
  | .klook kvs k, ρ, S => (ev F k ρ S).bind fun y S => klookR kvs y S
  | .kget kvs k d, ρ, S => (ev F k ρ S).bind fun y S => (ev F d ρ S).bind fun z S => kgetR kvs y z S
  | .ktup ks, _, S => ck (ks.length ≤ 1000) (.ok (.tup (ks.map .str)) S)
  | .dpairs a, ρ, S => (ev F a ρ S).bind fun x S => dpairsR (lstOf S x) S
  | .dpairsT a, ρ, S => (ev F a ρ S).bind fun x S => dpairsR (ntpOf x) S
  | .dsortD box a, ρ, S => (ev F a ρ S).bind fun x S => dsortDR box x S
  | .deq0 a, ρ, S => (ev F a ρ S).bind fun x S => deq0R x S
  | .isx a yes no, ρ, S => (ev F a ρ S).bind fun x S => isxR yes no x S
  | .xfd a c f, ρ, S => (ev F a ρ S).bind fun x S => xfdR c f x S
  | .isO a c ks, ρ, S => (ev F a ρ S).bind fun x S => isOR c ks x S
  | .lock d e, ρ, S => lockR (ev F d ρ S) S fun S => ev F e ρ S
noncomputable def evs (F : CE) : List E → Env → Sto → R (List D)
  | [], _, S => .ok [] S
  | e :: es, ρ, S => (ev F e ρ S).bind fun x S => (evs F es ρ S).bind fun xs S => .ok (x :: xs) S
noncomputable def evp (F : CE) : Option E → Env → Sto → R (Option Int)
  | none, _, S => .ok none S
  | some e, ρ, S => (ev F e ρ S).bind fun x S => match x with
    | .int i => .ok (some i) S
    | _ => .err
noncomputable def evIfs (F : CE) : List E → Env → Sto → R Bool
  | [], _, S => .ok true S
  | e :: es, ρ, S => (ev F e ρ S).bind fun x S => (tru x S).bind fun k S => if k = true then evIfs F es ρ S else .ok false S
noncomputable def evIt (F : CE) : It → Env → Sto → R (Src × List D)
  | .e a, ρ, S => (ev F a ρ S).bind fun x S => match walkOf S x with
    | some w => .ok w S
    | none => .err
  | .rng1 a, ρ, S => (ev F a ρ S).bind fun x S => match x with
    | .int j => ck (smallI j) (.ok (.fix, rngD 0 j.toNat) S)
    | _ => .err
  | .rng2 a b, ρ, S => (ev F a ρ S).bind fun x S => (ev F b ρ S).bind fun y S => match x, y with
    | .int i, .int j => ck (smallI i ∧ smallI j) (.ok (.fix, rngD i (j - i).toNat) S)
    | _, _ => .err
  | .rng3 a b c, ρ, S => (ev F a ρ S).bind fun x S => (ev F b ρ S).bind fun y S => (ev F c ρ S).bind fun z S => match x, y, z with
    | .int i, .int j, .int k => ck (smallI i ∧ smallI j ∧ i ≤ j ∧ 0 < k ∧ k < 1073741824) (.ok (.fix, rngS i k (rngN i j k)) S)
    | _, _, _ => .err
  | .zipb a b, ρ, S => (ev F a ρ S).bind fun x S => (ev F b ρ S).bind fun y S => match walkZ S x, walkZ S y with
    | some v, some w => ck (kOf x = kOf y ∧ mixZ v.2 w.2 = true) (.ok (.two v.1 w.1, zipD v.2 w.2) S)
    | _, _ => .err
  | .items o, ρ, S => (ev F o ρ S).bind fun x S => match dlkOf S x with
    | some p => ck (mixK p.2 = true) (.ok (.dlk p.1 p.2, p.2.map fun kv => .tup [keyV kv.1, kv.2]) S)
    | none => .err
  | .keys o, ρ, S => (ev F o ρ S).bind fun x S => match dlkOf S x with
    | some p => .ok (.dlk p.1 p.2, p.2.map fun kv => keyV kv.1) S
    | none => .err
  | .enum s a, ρ, S => (ev F a ρ S).bind fun x S => (evp F s ρ S).bind fun i S => match walkL S x with
    | some w => ck (i = none) (.ok (w.1, enumD 0 w.2) S)
    | none => .err
  | .enumS a s, ρ, S => (ev F a ρ S).bind fun x S => (ev F s ρ S).bind fun y S => match walkL S x, y with
    | some w, .int i => ck (smallI i) (.ok (w.1, enumD i w.2) S)
    | _, _ => .err
  | .zip strict a b, ρ, S => (ev F a ρ S).bind fun x S => (ev F b ρ S).bind fun y S => match seqOf S x, seqOf S y with
    | some xs, some ys => ck ((strict = true → xs.length = ys.length) ∧ isRef x = false ∧ isRef y = false ∧ (strict = true ∨ kOf x = kOf y ∧ mixZ xs ys = true)) (.ok (.fix, zipD xs ys) S)
    | _, _ => .err
  | .zipw a b, ρ, S => (ev F a ρ S).bind fun x S => (ev F b ρ S).bind fun y S => match seqOf S x, seqOf S y with
    | some xs, some ys => ck (isRef x = false ∧ isRef y = false ∧ kOf x = kOf y) (.ok (.fix, zipWD xs ys) S)
    | _, _ => .err
noncomputable def asg (F : CE) : Tg → D → Env → Sto → R Env
  | .var i, d, ρ, S => .ok (ρ.set i (some d)) S
  | .tup ts, d, ρ, S => match seqOf S d with
    | some xs => ck (xs.length = ts.length) (asgs F ts xs ρ S)
    | none => .err
  | .tupw ts, d, ρ, S => wtpK d fun xs => ck (xs.length = ts.length) (asgs F ts xs ρ S)
  | .tups ts, d, ρ, S => match seqOf S d with
    | some xs => ck (1 ≤ ts.length ∧ ts.length ≤ xs.length + 1 ∧ xs.length ≤ 16384) (asgs F ts (xs.take (ts.length - 1) ++ [.lst (xs.drop (ts.length - 1))]) ρ S)
    | none => .err
  | .tupf box ts, d, ρ, S => match lstOf S d with
    | some xs => ck (ts.length = 2 ∧ 1 ≤ xs.length ∧ xs.length ≤ 16384) ((mkL box (xs.take (xs.length - 1)) S).bind fun w S => asgs F ts (w :: xs.drop (xs.length - 1)) ρ S)
    | none => .err
  | .slc o lo hi, d, ρ, S => (ev F o ρ S).bind fun x S => (ev F lo ρ S).bind fun l S => (ev F hi ρ S).bind fun h S => (sslcR x l h d S).bind fun _ S => .ok ρ S
  | .idx o i, d, ρ, S => (ev F o ρ S).bind fun x S => (ev F i ρ S).bind fun y S => (sidxR x y d S).bind fun _ S => .ok ρ S
  | .attr o f cs, d, ρ, S => (ev F o ρ S).bind fun x S => (sattrR x f cs d S).bind fun _ S => .ok ρ S
  | .didx o k, d, ρ, S => (ev F o ρ S).bind fun x S => (ev F k ρ S).bind fun y S => (dputR x y d S).bind fun _ S => .ok ρ S
noncomputable def asgs (F : CE) : List Tg → List D → Env → Sto → R Env
  | [], _, ρ, S => .ok ρ S
  | t :: ts, d :: ds, ρ, S => (asg F t d ρ S).bind fun ρ S => asgs F ts ds ρ S
  | _ :: _, [], _, _ => .err
end

/-! ### statements -/
inductive Fl where
  | next (ρ : Env) | ret (d : D) | brk (ρ : Env) | cont (ρ : Env) | raised (x : Exc) (ρ : Env)
/-- an expression's result within a statement: what is raised leaves it -/
def R.go {α : Type} (r : R α) (ρ : Env) (f : α → Sto → R Fl) : R Fl := match r with
  | .ok a S => f a S
  | .exc x S => .ok (.raised x ρ) S
  | .err => .err
@[simp] theorem R.go_ok {α : Type} (a : α) (S : Sto) (ρ : Env) (f : α → Sto → R Fl) : (R.ok a S).go ρ f = f a S := rfl
@[simp] theorem R.go_err {α : Type} (ρ : Env) (f : α → Sto → R Fl) : (R.err : R α).go ρ f = .err := rfl
@[simp] theorem R.go_exc {α : Type} (x : Exc) (S : Sto) (ρ : Env) (f : α → Sto → R Fl) : (R.exc x S : R α).go ρ f = .ok (.raised x ρ) S := rfl
/-- nothing is raised here -/
def R.st {α β : Type} (r : R α) (f : α → Sto → R β) : R β := match r with
  | .ok a S => f a S
  | _ => .err
@[simp] theorem R.st_ok {α β : Type} (a : α) (S : Sto) (f : α → Sto → R β) : (R.ok a S).st f = f a S := rfl
@[simp] theorem R.st_err {α β : Type} (f : α → Sto → R β) : (R.err : R α).st f = .err := rfl
/-- behind a statement -/
def R.fl (r : R Fl) (f : Env → Sto → R Fl) : R Fl := match r with
  | .ok (.next ρ) S => f ρ S
  | .ok w S => .ok w S
  | _ => .err
@[simp] theorem R.fl_next (ρ : Env) (S : Sto) (f : Env → Sto → R Fl) : (R.ok (.next ρ) S : R Fl).fl f = f ρ S := rfl
@[simp] theorem R.fl_ret (d : D) (S : Sto) (f : Env → Sto → R Fl) : (R.ok (.ret d) S : R Fl).fl f = .ok (.ret d) S := rfl
@[simp] theorem R.fl_brk (ρ : Env) (S : Sto) (f : Env → Sto → R Fl) : (R.ok (.brk ρ) S : R Fl).fl f = .ok (.brk ρ) S := rfl
@[simp] theorem R.fl_cont (ρ : Env) (S : Sto) (f : Env → Sto → R Fl) : (R.ok (.cont ρ) S : R Fl).fl f = .ok (.cont ρ) S := rfl
@[simp] theorem R.fl_raised (x : Exc) (ρ : Env) (S : Sto) (f : Env → Sto → R Fl) : (R.ok (.raised x ρ) S : R Fl).fl f = .ok (.raised x ρ) S := rfl
@[simp] theorem R.fl_err (f : Env → Sto → R Fl) : (R.err : R Fl).fl f = .err := rfl
/-- behind a turn of a loop -/
def R.turn (r : R Fl) (f : Env → Sto → R Fl) : R Fl := match r with
  | .ok (.next ρ) S => f ρ S
  | .ok (.cont ρ) S => f ρ S
  | .ok (.brk ρ) S => .ok (.next ρ) S
  | .ok w S => .ok w S
  | _ => .err
@[simp] theorem R.turn_next (ρ : Env) (S : Sto) (f : Env → Sto → R Fl) : (R.ok (.next ρ) S : R Fl).turn f = f ρ S := rfl
@[simp] theorem R.turn_cont (ρ : Env) (S : Sto) (f : Env → Sto → R Fl) : (R.ok (.cont ρ) S : R Fl).turn f = f ρ S := rfl
@[simp] theorem R.turn_brk (ρ : Env) (S : Sto) (f : Env → Sto → R Fl) : (R.ok (.brk ρ) S : R Fl).turn f = .ok (.next ρ) S := rfl
@[simp] theorem R.turn_ret (d : D) (S : Sto) (f : Env → Sto → R Fl) : (R.ok (.ret d) S : R Fl).turn f = .ok (.ret d) S := rfl
@[simp] theorem R.turn_raised (x : Exc) (ρ : Env) (S : Sto) (f : Env → Sto → R Fl) : (R.ok (.raised x ρ) S : R Fl).turn f = .ok (.raised x ρ) S := rfl
noncomputable def forLoop (src : Src) (step : D → Env → Sto → R Fl) : List D → Env → Sto → R Fl
  | [], ρ, S => ck (src.there S) (.ok (.next ρ) S)
  | d :: ds, ρ, S => ck (src.there S) ((step d ρ S).turn fun ρ1 S1 => forLoop src step ds ρ1 S1)
def whileLoop (test : Env → Sto → R Bool) (body : Env → Sto → R Fl) : Nat → Env → Sto → R Fl
  | 0, _, _ => .err
  | n + 1, ρ, S => (test ρ S).go ρ fun k S => if k = true then (body ρ S).turn fun ρ1 S1 => whileLoop test body n ρ1 S1 else .ok (.next ρ) S
def augR (op : Bop) (x y : D) (S : Sto) : R D := match op, x, y with
  | .add, .int i, .int j => .ok (.int (i + j)) S
  | .add, .str a, .str b => ck (a.length + b.length ≤ sizeLine) (.ok (.str (a ++ b)) S)
  | .add, .ref n, y => match cellAt S n, unbox S y with
    | some (.lst xs), .lst ys => ck (xs.length + ys.length ≤ sizeLine ∧ isRef y = false) (.ok (.ref n) (setAt S n (.lst (xs ++ ys))))
    | _, _ => .err
  | .sub, .int i, .int j => .ok (.int (i - j)) S
  | .mul, .int i, .int j => ck (mulOk i j) (.ok (.int (i * j)) S)
  | _, _, _ => .err
/-- what is raised is not told -/
def noRaise (r : R Fl) : R Fl := match r with
  | .ok (.raised _ _) _ => .err
  | r => r
def setO (ρ : Env) (i : Option Nat) (o : Option D) : Env := match i with
  | some i => ρ.set i o
  | none => ρ
/-- the end of an except suite, that began at the store's n-th place -/
def endH (i : Option Nat) (n : Nat) : R Fl → R Fl
  | .ok f S => match cellAt S n with
    | some .hot => match f with
      | .next ρ => .ok (.next (setO ρ i none)) (S.set n none)
      | .brk ρ => .ok (.brk (setO ρ i none)) (S.set n none)
      | .cont ρ => .ok (.cont (setO ρ i none)) (S.set n none)
      | .ret d => .ok (.ret d) (S.set n none)
      | .raised _ _ => .err
    | _ => .err
  | _ => .err
def tryR (yes no : List Nat) (i : Option Nat) (r : R Fl) (h : Env → Sto → R Fl) : R Fl := match r with
  | .ok (.raised x ρ) S => if x.c ∈ yes then endH i S.length (h (setO ρ i (some (.exv S.length x.c x.fs))) (S ++ [some .hot])) else ck (x.c ∈ no) (.ok (.raised x ρ) S)
  | r => r
mutual
noncomputable def ex (F : CE) : St → Env → Sto → R Fl
  | .expr e, ρ, S => (ev F e ρ S).go ρ fun _ S => .ok (.next ρ) S
  | .asg t e, ρ, S => (ev F e ρ S).go ρ fun d S => (asg F t d ρ S).st fun ρ S => .ok (.next ρ) S
  | .aug i op e, ρ, S => match ρ[i]? with
    | some (some x) => ((ev F e ρ S).bind fun y S => augR op x y S).go ρ fun z S => .ok (.next (ρ.set i (some z))) S
    | _ => .err
  | .ite c a b, ρ, S => ((ev F c ρ S).bind fun x S => tru x S).go ρ fun k S => if k = true then exs F a ρ S else exs F b ρ S
  | .for t it body, ρ, S => (evIt F it ρ S).go ρ fun w S => forLoop w.1 (fun d ρ S => (asg F t d ρ S).st fun ρ S => exs F body ρ S) w.2 ρ S
  | .while c body, ρ, S => whileLoop (fun ρ S => (ev F c ρ S).bind fun x S => tru x S) (fun ρ S => exs F body ρ S) 1000000 ρ S
  | .ret e, ρ, S => (ev F e ρ S).go ρ fun d S => .ok (.ret d) S
  | .retN, _, S => .ok (.ret .non) S
  | .brk, ρ, S => .ok (.brk ρ) S
  | .cont, ρ, S => .ok (.cont ρ) S
  | .pass, ρ, S => .ok (.next ρ) S
  | .lock d st, ρ, S => lockR (ev F d ρ S) S fun S => noRaise (ex F st ρ S)
  | .blk b, ρ, S => exs F b ρ S
  | .raise, _, _ => .err
  | .faug o f op e, ρ, S => ((ev F o ρ S).bind fun x S => match insOf S x with
    | some p => match p.2.2.lookup f with
      | some old => (ev F e ρ S).bind fun y S => (augR op old y S).bind fun z S => faugPut p.1 p.2.1 f z S
      | none => .err
    | none => .err).go ρ fun _ S => .ok (.next ρ) S
  | .raise0 c, ρ, S => .ok (.raised ⟨c, []⟩ ρ) S
  | .raise1 c f e, ρ, S => (ev F e ρ S).go ρ fun d S => .ok (.raised ⟨c, [(f, d)]⟩ ρ) S
  | .tryx b yes no i h, ρ, S => tryR yes no i (exs F b ρ S) fun ρ S => exs F h ρ S
noncomputable def exs (F : CE) : List St → Env → Sto → R Fl
  | [], ρ, S => .ok (.next ρ) S
  | st :: sts, ρ, S => (ex F st ρ S).fl fun ρ S => exs F sts ρ S
end
/-- a def's body on its parameters; n: how many slots -/
noncomputable def run (F : CE) (n : Nat) (body : List St) (ds : List D) (S : Sto) : R D :=
  match exs F body (ds.map some ++ List.replicate (n - ds.length) none) S with
    | .ok (.ret d) S => .ok d S
    | .ok (.next _) S => .ok .non S
    | .ok (.raised x _) S => .exc x S
    | _ => .err
structure Fn where
  np : Nat
  n : Nat
  body : List St
noncomputable def callN (T : List Fn) : Nat → CE
  | 0, _, _, _ => .err
  | k + 1, f, ds, S => match T[f]? with
    | some d => ck (ds.length = d.np) (run (callN T k) d.n d.body ds S)
    | none => .err
end Iv

/-! ### what stands for what -/
namespace Iv
open PySem PySem.Spec PyProof.Rows L2

/-- where the boxes stand; what nobody may look at meanwhile (the list that a comprehension makes) -/
structure Mp where
  box : Nat → Option Addr
  hid : Addr → Prop
instance : CoeFun Mp (fun _ => Nat → Option Addr) := ⟨Mp.box⟩
/-- a caught exception: the store's place that tells it, where it stands, its class, its dict -/
structure Hot where
  id : Nat
  a : Addr
  cls : Value
  d : Option Addr
structure Gs where
  K : PySem.W.Frag
  ca : Nat → Addr
  fn : Nat → Str
  /-- the names of attributes that the program has -/
  fok : Nat → Prop
  finj : ∀ f f', fok f → fok f' → fn f = fn f' → f = f'
  /-- the caught exception, while its suite runs -/
  hot : Option Hot := none
  /-- are there tuples of which the run tells no more than their items -/
  weak : Bool := true
  /-- the tables of code objects that grow, with the name of what stands in them -/
  tabs : List (Addr × Str) := []

/-- the built-in exception classes' numbers -/
def bex : Nat → Option String
  | 1000 => some "KeyError"
  | 1001 => some "ValueError"
  | 1002 => some "IndexError"
  | _ => none
/-- a class, by its number -/
def Gs.cv (g : Gs) (c : Nat) : Value := match bex c with
  | some n => .type n
  | none => .ref (g.ca c)
/-- a text that the library's rules take -/
def okS (x : Str) : Prop := x.length ≤ sizeLine ∧ ∀ c ∈ x.cps.toList, c < 1114112
def Off (m : Mp) (a : Addr) : Prop := (∀ i, m i ≠ some a) ∧ ¬ m.hid a
/-- a tuple that nothing hangs on -/
def NtpAt (m : Mp) (H : Hp) (a : Addr) (vs : List V) : Prop := ∃ o : Obj, H a = some (.frz o (.tup vs)) ∧ o.cls = .type "tuple" ∧ o.dict = none ∧ Off m a
/-- a tuple of which the run tells no more, but that it is empty or holds more than texts -/
def MixV (g : Gs) (vs : List V) : Prop := g.weak = true ∧ (vs ≠ [] → ∃ v, v ∈ vs ∧ ∀ s, v ≠ .str s)
theorem MixV.int {g : Gs} (hw : g.weak = true) {i : Int} {vs : List V} : MixV g (.int i :: vs) := ⟨hw, fun _ => ⟨.int i, List.mem_cons_self, fun _ => nofun⟩⟩
theorem MixV.ints {g : Gs} (hw : g.weak = true) {vs : List V} (h : ∀ v ∈ vs, ∃ i, v = .int i) : MixV g vs := ⟨hw, fun n => by
  cases vs with
  | nil => exact absurd rfl n
  | cons v r =>
    obtain ⟨i, rfl⟩ := h v List.mem_cons_self
    exact ⟨_, List.mem_cons_self, fun _ => nofun⟩⟩
/-- a tuple that stands in the written part -/
def KtpAt (g : Gs) (a : Addr) (vs : List V) : Prop := (∀ H', SqT g.K H' a vs) ∧ (vs = [] ∨ ∃ o, g.K.lookup a = some o ∧ o.cls = .type "tuple" ∧ o.dict = none)
def TupAt (g : Gs) (m : Mp) (H : Hp) (a : Addr) (vs : List V) : Prop := (H a = some (.tup vs) ∧ Off m a ∧ MixV g vs) ∨ KtpAt g a vs ∨ NtpAt m H a vs
def ScrAt (g : Gs) (m : Mp) (H : Hp) (a : Addr) (vs : List V) : Prop := (∃ o, H a = some (.frz o (.lst vs)) ∧ Off m a) ∨ ∀ H', SqL g.K H' a vs
def insOk (g : Gs) (c : Nat) (fs : List (Nat × D)) : Prop := Cls g.K (g.ca c) ∧ fs.length ≤ 900 ∧ ∀ f, f ∈ fs.map (·.1) → g.fok f ∧ NoAttr g.K (g.ca c) (g.fn f)
mutual
def Rel (g : Gs) (m : Mp) (n : Nat) (H : Hp) : D → V → Prop
  | .non, v => v = .non
  | .bl b, v => v = .bl b
  | .int i, v => v = .int i
  | .str x, v => v = .str x ∧ okS x
  | .tup xs, v => ∃ a vs, v = .ref a ∧ TupAt g m H a vs ∧ Rels g m n H xs vs
  | .lst xs, v => ∃ a vs, v = .ref a ∧ (H a = some (.lst vs) ∧ Off m a) ∧ Rels g m n H xs vs
  | .scr xs, v => ∃ a vs, v = .ref a ∧ ScrAt g m H a vs ∧ Rels g m n H xs vs
  | .ref i, v => i < n ∧ ∃ a, v = .ref a ∧ ∀ b, m i = some b → b = a
  | .ins c fs, v => ∃ a dx gs, v = .ref a ∧ (H a = some (.ins (g.ca c) dx gs) ∧ Off m a) ∧ insOk g c fs ∧ RelFs g m n H fs gs
  | .ty t, v => v = .ty t
  | .ntp xs, v => ∃ a vs, v = .ref a ∧ NtpAt m H a vs ∧ Rels g m n H xs vs
  | .wtp xs, v => ∃ a vs, v = .ref a ∧ (H a = some (.tup vs) ∧ Off m a) ∧ Rels g m n H xs vs
  | .exv i c fs, v => i < n ∧ ∃ a, v = .ref a ∧ ∀ h, g.hot = some h → h.id = i → h.a = a ∧ h.cls = g.cv c ∧
    ((fs = [] ∧ h.d = none) ∨ ∃ dd gs, h.d = some dd ∧ (H dd = some (.xd gs) ∧ Off m dd) ∧ RelFs g m n H fs gs)
def Rels (g : Gs) (m : Mp) (n : Nat) (H : Hp) : List D → List V → Prop
  | [], vs => vs = []
  | x :: xs, vs => ∃ w ws, vs = w :: ws ∧ Rel g m n H x w ∧ Rels g m n H xs ws
def RelFs (g : Gs) (m : Mp) (n : Nat) (H : Hp) : List (Nat × D) → List (Str × V) → Prop
  | [], gs => gs = []
  | (f, d) :: r, gs => ∃ v gr, gs = (g.fn f, v) :: gr ∧ Rel g m n H d v ∧ RelFs g m n H r gr
end
/-- an exception, its class, its dict -/
def Gs.xr (g : Gs) (m : Mp) (n : Nat) (H : Hp) (x : Exc) (c : Value) (d : Option Addr) : Prop := c = g.cv x.c ∧
  ((x.fs = [] ∧ d = none) ∨ ∃ dd gs, d = some dd ∧ (H dd = some (.xd gs) ∧ Off m dd) ∧ RelFs g m n H x.fs gs)
/-- what is locked stays -/
def Fz (H H' : Hp) : Prop := ∀ a o u, H a = some (.frz o u) → H' a = some (.frz o u)
def NoFz (o : Option HO) : Prop := ∀ ob u, o ≠ some (.frz ob u)
theorem NoFz.of {o : Option HO} {u : HO} (h : o = some u) (d : ∀ ob v, u ≠ .frz ob v) : NoFz o := fun ob v z => d ob v (Option.some.inj (h.symm.trans z))
/-- what stays, or is a table that grows -/
def SameT (H H' : Hp) (a : Addr) : Prop := H' a = H a ∨ ∃ ps more, H a = some (.tbl ps) ∧ H' a = some (.tbl (ps ++ more))
theorem SameT.trans {H H' : Hp} {a : Addr} {o : HO} (s : SameT H H' a) (e : H a = some o) (h : ∀ ps, o ≠ .tbl ps := by intro _ z; cases z) : H' a = some o := by
  rcases s with s | ⟨ps, more, e1, _⟩
  · rw [s]; exact e
  · rw [e] at e1
    cases e1
    exact absurd rfl (h ps)
theorem SameT.then {H H1 H2 : Hp} {a : Addr} (s : SameT H H1 a) (t : SameT H1 H2 a) : SameT H H2 a := by
  rcases s with s | ⟨ps, more, e1, e2⟩
  · rcases t with t | ⟨ps, more, e1, e2⟩
    · exact .inl (t.trans s)
    · exact .inr ⟨ps, more, by rw [← s]; exact e1, e2⟩
  · rcases t with t | ⟨ps', more', e1', e2'⟩
    · exact .inr ⟨ps, more, e1, t.trans e2⟩
    · rw [e2] at e1'
      cases e1'
      exact .inr ⟨ps, more ++ more', e1, by rw [e2', Array.append_assoc]⟩
/-- more of the heap, other boxes -/
structure Ext (m : Mp) (n : Nat) (H : Hp) (m' : Mp) (n' : Nat) (H' : Hp) : Prop where
  le : n ≤ n'
  old : ∀ i a, i < n → m' i = some a → m i = some a
  keep : ∀ a o, H a = some o → Off m a → H' a = some o ∧ Off m' a
  hid : ∀ a, m.hid a → m'.hid a ∧ SameT H H' a
  fz : Fz H H'
/-- the same, whatever is hidden -/
structure ExtW (m : Mp) (n : Nat) (H : Hp) (m' : Mp) (n' : Nat) (H' : Hp) : Prop where
  le : n ≤ n'
  old : ∀ i a, i < n → m' i = some a → m i = some a
  keep : ∀ a o, H a = some o → Off m a → H' a = some o ∧ Off m' a
section
variable {g : Gs} {m m1 m2 m3 : Mp} {n n1 n2 n3 : Nat} {H H1 H2 H3 : Hp} {a b : Addr}
theorem Ext.w (x : Ext m1 n1 H1 m2 n2 H2) : ExtW m1 n1 H1 m2 n2 H2 := ⟨x.le, x.old, x.keep⟩
theorem Ext.refl : Ext m n H m n H := ⟨Nat.le_refl _, fun _ _ _ e => e, fun _ _ e o => ⟨e, o⟩, fun _ h => ⟨h, .inl rfl⟩, fun _ _ _ e => e⟩
theorem Fz.upd {o : HO} (h : NoFz (H a)) : Fz H (upd H a o) := fun b ob u e => by
  have ne : b ≠ a := fun z => by subst z; exact h ob u e
  rw [upd_ne ne]; exact e
theorem NoFz.none (h : H a = none) : NoFz (H a) := fun ob u z => by rw [h] at z; cases z
theorem Ext.trans (x : Ext m1 n1 H1 m2 n2 H2) (y : Ext m2 n2 H2 m3 n3 H3) : Ext m1 n1 H1 m3 n3 H3 :=
  ⟨Nat.le_trans x.le y.le, fun i a h e => x.old i a h (y.old i a (Nat.lt_of_lt_of_le h x.le) e), fun a o e f => let ⟨e1, f1⟩ := x.keep a o e f; y.keep a o e1 f1,
    fun a h => let ⟨h1, e1⟩ := x.hid a h; let ⟨h2, e2⟩ := y.hid a h1; ⟨h2, e1.then e2⟩, fun a o u e => y.fz a o u (x.fz a o u e)⟩
theorem NtpAt.monoW {vs : List V} (x : ExtW m1 n1 H1 m2 n2 H2) (h : NtpAt m1 H1 a vs) : NtpAt m2 H2 a vs := by
  obtain ⟨o, e, c, d, f⟩ := h
  obtain ⟨e', f'⟩ := x.keep _ _ e f
  exact ⟨o, e', c, d, f'⟩
theorem TupAt.monoW {vs : List V} (x : ExtW m1 n1 H1 m2 n2 H2) (h : TupAt g m1 H1 a vs) : TupAt g m2 H2 a vs := by
  rcases h with ⟨e, o, k⟩ | h | h
  · obtain ⟨e', o'⟩ := x.keep _ _ e o
    exact .inl ⟨e', o', k⟩
  · exact .inr (.inl h)
  · exact .inr (.inr (h.monoW x))
theorem ScrAt.monoW {vs : List V} (x : ExtW m1 n1 H1 m2 n2 H2) (h : ScrAt g m1 H1 a vs) : ScrAt g m2 H2 a vs := by
  rcases h with ⟨ob, e, o⟩ | h
  · exact .inl ⟨ob, x.keep _ _ e o⟩
  · exact .inr h
theorem NtpAt.sq {vs : List V} (h : NtpAt m H a vs) : SqT g.K H a vs := by
  obtain ⟨o, e, _⟩ := h
  exact .inl (.inr ⟨o, e⟩)
theorem TupAt.sq {vs : List V} (h : TupAt g m H a vs) : SqT g.K H a vs := by
  rcases h with ⟨e, _⟩ | h | h
  · exact .inl (.inl e)
  · exact h.1 H
  · exact h.sq
theorem ScrAt.sq {vs : List V} (h : ScrAt g m H a vs) : SqL g.K H a vs := by
  rcases h with ⟨o, e, _⟩ | h
  · exact .inl (.inr ⟨o, e⟩)
  · exact h H
mutual
theorem Rel.monoW (x : ExtW m1 n1 H1 m2 n2 H2) : ∀ (d : D) (v : V), Rel g m1 n1 H1 d v → Rel g m2 n2 H2 d v
  | .non, _, h => by unfold Rel at h ⊢; exact h
  | .bl _, _, h => by unfold Rel at h ⊢; exact h
  | .int _, _, h => by unfold Rel at h ⊢; exact h
  | .str _, _, h => by unfold Rel at h ⊢; exact h
  | .ty _, _, h => by unfold Rel at h ⊢; exact h
  | .tup xs, _, h => by
    unfold Rel at h ⊢
    obtain ⟨a, vs, e, t, r⟩ := h
    exact ⟨a, vs, e, t.monoW x, Rels.monoW x xs vs r⟩
  | .lst xs, _, h => by
    unfold Rel at h ⊢
    obtain ⟨a, vs, e, ⟨t, o⟩, r⟩ := h
    exact ⟨a, vs, e, x.keep _ _ t o, Rels.monoW x xs vs r⟩
  | .scr xs, _, h => by
    unfold Rel at h ⊢
    obtain ⟨a, vs, e, t, r⟩ := h
    exact ⟨a, vs, e, t.monoW x, Rels.monoW x xs vs r⟩
  | .ntp xs, _, h => by
    unfold Rel at h ⊢
    obtain ⟨a, vs, e, t, r⟩ := h
    exact ⟨a, vs, e, t.monoW x, Rels.monoW x xs vs r⟩
  | .wtp xs, _, h => by
    unfold Rel at h ⊢
    obtain ⟨a, vs, e, ⟨t, o⟩, r⟩ := h
    exact ⟨a, vs, e, x.keep _ _ t o, Rels.monoW x xs vs r⟩
  | .ref i, _, h => by
    unfold Rel at h ⊢
    obtain ⟨l, a, e, q⟩ := h
    exact ⟨Nat.lt_of_lt_of_le l x.le, a, e, fun b hb => q b (x.old i b l hb)⟩
  | .ins c fs, _, h => by
    unfold Rel at h ⊢
    obtain ⟨a, dx, gs, e, ⟨t, o⟩, k, r⟩ := h
    exact ⟨a, dx, gs, e, x.keep _ _ t o, k, RelFs.monoW x fs gs r⟩
  | .exv i c fs, _, h => by
    unfold Rel at h ⊢
    obtain ⟨l, a, e, q⟩ := h
    refine ⟨Nat.lt_of_lt_of_le l x.le, a, e, fun h hh hi => ?_⟩
    obtain ⟨q1, q2, q3⟩ := q h hh hi
    refine ⟨q1, q2, q3.imp id fun ⟨dd, gs, e1, e2, e3⟩ => ⟨dd, gs, e1, x.keep _ _ e2.1 e2.2, RelFs.monoW x fs gs e3⟩⟩
theorem Rels.monoW (x : ExtW m1 n1 H1 m2 n2 H2) : ∀ (ds : List D) (vs : List V), Rels g m1 n1 H1 ds vs → Rels g m2 n2 H2 ds vs
  | [], _, h => by unfold Rels at h ⊢; exact h
  | d :: ds, _, h => by
    unfold Rels at h ⊢
    obtain ⟨w, ws, e, r, q⟩ := h
    exact ⟨w, ws, e, Rel.monoW x d w r, Rels.monoW x ds ws q⟩
theorem RelFs.monoW (x : ExtW m1 n1 H1 m2 n2 H2) : ∀ (ds : List (Nat × D)) (vs : List (Str × V)), RelFs g m1 n1 H1 ds vs → RelFs g m2 n2 H2 ds vs
  | [], _, h => by unfold RelFs at h ⊢; exact h
  | (f, d) :: ds, _, h => by
    unfold RelFs at h ⊢
    obtain ⟨w, ws, e, r, q⟩ := h
    exact ⟨w, ws, e, Rel.monoW x d w r, RelFs.monoW x ds ws q⟩
end

theorem TupAt.mono {vs : List V} (x : Ext m1 n1 H1 m2 n2 H2) (h : TupAt g m1 H1 a vs) : TupAt g m2 H2 a vs := h.monoW x.w
theorem ScrAt.mono {vs : List V} (x : Ext m1 n1 H1 m2 n2 H2) (h : ScrAt g m1 H1 a vs) : ScrAt g m2 H2 a vs := h.monoW x.w
theorem Rel.mono (x : Ext m1 n1 H1 m2 n2 H2) (d : D) (v : V) (h : Rel g m1 n1 H1 d v) : Rel g m2 n2 H2 d v := Rel.monoW x.w d v h
theorem Rels.mono (x : Ext m1 n1 H1 m2 n2 H2) (ds : List D) (vs : List V) (h : Rels g m1 n1 H1 ds vs) : Rels g m2 n2 H2 ds vs := Rels.monoW x.w ds vs h
theorem RelFs.mono (x : Ext m1 n1 H1 m2 n2 H2) (ds : List (Nat × D)) (vs : List (Str × V)) (h : RelFs g m1 n1 H1 ds vs) : RelFs g m2 n2 H2 ds vs := RelFs.monoW x.w ds vs h

/-! lists of related things -/
theorem Rels.length : ∀ {ds : List D} {vs : List V}, Rels g m n H ds vs → ds.length = vs.length
  | [], _, h => by unfold Rels at h; rw [h]; rfl
  | d :: ds, _, h => by
    unfold Rels at h
    obtain ⟨w, ws, rfl, _, q⟩ := h
    rw [List.length_cons, List.length_cons, Rels.length q]
theorem Rels.get : ∀ {ds : List D} {vs : List V} {i : Nat} {d : D}, Rels g m n H ds vs → ds[i]? = some d → ∃ v, vs[i]? = some v ∧ Rel g m n H d v
  | [], _, _, _, _, e => by simp at e
  | x :: xs, _, 0, d, h, e => by
    unfold Rels at h
    obtain ⟨w, ws, rfl, r, _⟩ := h
    simp at e
    subst e
    exact ⟨w, rfl, r⟩
  | x :: xs, _, i + 1, d, h, e => by
    unfold Rels at h
    obtain ⟨w, ws, rfl, _, q⟩ := h
    simpa using Rels.get (i := i) q (by simpa using e)
theorem Rels.nil : Rels g m n H [] [] := by unfold Rels; rfl
theorem Rels.cons {d : D} {v : V} {ds : List D} {vs : List V} (h : Rel g m n H d v) (r : Rels g m n H ds vs) : Rels g m n H (d :: ds) (v :: vs) := by
  unfold Rels
  exact ⟨v, vs, rfl, h, r⟩
theorem Rels.one {d : D} {vs : List V} (h : Rels g m n H [d] vs) : ∃ v, vs = [v] ∧ Rel g m n H d v := by
  unfold Rels at h
  obtain ⟨w, ws, rfl, r, q⟩ := h
  unfold Rels at q
  exact ⟨w, by rw [q], r⟩
theorem Rels.two {d e : D} {vs : List V} (h : Rels g m n H [d, e] vs) : ∃ v w, vs = [v, w] ∧ Rel g m n H d v ∧ Rel g m n H e w := by
  unfold Rels at h
  obtain ⟨w, ws, rfl, r, q⟩ := h
  obtain ⟨z, rfl, s⟩ := q.one
  exact ⟨w, z, rfl, r, s⟩
theorem Rels.append : ∀ {ds es : List D} {vs ws : List V}, Rels g m n H ds vs → Rels g m n H es ws → Rels g m n H (ds ++ es) (vs ++ ws)
  | [], _, _, _, h, r => by
    unfold Rels at h
    rw [h]
    exact r
  | d :: ds, _, _, _, h, r => by
    unfold Rels at h
    obtain ⟨w, ws, rfl, a, q⟩ := h
    exact Rels.cons a (Rels.append q r)
theorem Rels.take : ∀ {ds : List D} {vs : List V} (k : Nat), Rels g m n H ds vs → Rels g m n H (ds.take k) (vs.take k)
  | _, _, 0, _ => by rw [List.take_zero, List.take_zero]; exact Rels.nil
  | [], _, k + 1, h => by
    unfold Rels at h
    rw [h]
    exact Rels.nil
  | d :: ds, _, k + 1, h => by
    unfold Rels at h
    obtain ⟨w, ws, rfl, a, q⟩ := h
    exact Rels.cons a (Rels.take k q)
theorem Rels.drop : ∀ {ds : List D} {vs : List V} (k : Nat), Rels g m n H ds vs → Rels g m n H (ds.drop k) (vs.drop k)
  | _, _, 0, h => h
  | [], _, k + 1, h => by
    unfold Rels at h
    rw [h]
    exact Rels.nil
  | d :: ds, _, k + 1, h => by
    unfold Rels at h
    obtain ⟨w, ws, rfl, a, q⟩ := h
    exact Rels.drop k q
theorem Rels.reverse : ∀ {ds : List D} {vs : List V}, Rels g m n H ds vs → Rels g m n H ds.reverse vs.reverse
  | [], _, h => by
    unfold Rels at h
    rw [h]
    exact Rels.nil
  | d :: ds, _, h => by
    unfold Rels at h
    obtain ⟨w, ws, rfl, a, q⟩ := h
    rw [List.reverse_cons, List.reverse_cons]
    exact Rels.append (Rels.reverse q) (Rels.cons a Rels.nil)
theorem Rels.set : ∀ {ds : List D} {vs : List V} {d : D} {v : V} (k : Nat), Rels g m n H ds vs → Rel g m n H d v → Rels g m n H (ds.set k d) (vs.set k v)
  | [], _, _, _, k, h, _ => by
    unfold Rels at h
    rw [h]
    exact Rels.nil
  | x :: xs, _, _, _, 0, h, r => by
    unfold Rels at h
    obtain ⟨w, ws, rfl, a, q⟩ := h
    exact Rels.cons r q
  | x :: xs, _, _, _, k + 1, h, r => by
    unfold Rels at h
    obtain ⟨w, ws, rfl, a, q⟩ := h
    exact Rels.cons a (Rels.set k q r)
theorem Rels.of : ∀ {ds : List D} {vs : List V}, ds.length = vs.length → (∀ (i : Nat) (d : D) (v : V), ds[i]? = some d → vs[i]? = some v → Rel g m n H d v) → Rels g m n H ds vs
  | [], [], _, _ => Rels.nil
  | d :: ds, v :: vs, l, h => Rels.cons (h 0 d v rfl rfl) (Rels.of (Nat.succ.inj l) fun i d v a b => h (i + 1) d v (by simpa using a) (by simpa using b))
  | [], _ :: _, l, _ => by cases l
  | _ :: _, [], l, _ => by cases l

/-! the store and the heap -/
/-- a text key is one that the library's rules take -/
def okKey : L2.Key → Prop
  | .inl _ => True
  | .inr x => okS x
def RelKs (g : Gs) (m : Mp) (n : Nat) (H : Hp) : List (L2.Key × D) → List (L2.Key × V) → Prop
  | [], gs => gs = []
  | (k, d) :: r, gs => ∃ v gr, gs = (k, v) :: gr ∧ okKey k ∧ Rel g m n H d v ∧ RelKs g m n H r gr
theorem RelKs.monoW (x : ExtW m1 n1 H1 m2 n2 H2) : ∀ {ds : List (L2.Key × D)} {vs : List (L2.Key × V)}, RelKs g m1 n1 H1 ds vs → RelKs g m2 n2 H2 ds vs
  | [], _, h => h
  | (k, d) :: r, _, h => let ⟨v, gr, e, ok, q, q2⟩ := h; ⟨v, gr, e, ok, Rel.monoW x _ _ q, RelKs.monoW x q2⟩
def CellR (g : Gs) (m : Mp) (n : Nat) (H : Hp) (a : Addr) : Cell → Prop
  | .lst xs => ∃ vs, H a = some (.lst vs) ∧ Rels g m n H xs vs
  | .ins c fs => ∃ dx gs, H a = some (.ins (g.ca c) dx gs) ∧ insOk g c fs ∧ RelFs g m n H fs gs
  | .dct kvs => ∃ kws, H a = some (.dK kws) ∧ RelKs g m n H kvs kws
  | .dlk kvs => ∃ o kws, H a = some (.frz o (.dK kws)) ∧ RelKs g m n H kvs kws
  | .hot => False
/-- a table: each code object in it bears the name -/
def TabR (m : Mp) (H : Hp) (p : Addr × Str) : Prop := ∃ ps : Array Value, H p.1 = some (.tbl ps) ∧ TriplesOk ps.toList ∧ ∀ (pos : Pos) (cv : Value), codeAmong pos ps.toList = some cv → ∃ c, cv = .ref c ∧ H c = some (LamX.CodeO c p.2) ∧ Off m c
theorem TabR.monoW {p : Addr × Str} (x : ExtW m1 n1 H1 m2 n2 H2) (e : H2 p.1 = H1 p.1) (t : TabR m1 H1 p) : TabR m2 H2 p := by
  obtain ⟨ps, h1, h2, h3⟩ := t
  refine ⟨ps, e.trans h1, h2, fun pos cv hc => ?_⟩
  obtain ⟨c, e1, e2, e3⟩ := h3 pos cv hc
  exact ⟨c, e1, x.keep _ _ e2 e3⟩
structure RS (g : Gs) (m : Mp) (S : Sto) (H : Hp) : Prop where
  dom : ∀ i a, m i = some a → ∃ c, cellAt S i = some c ∧ CellR g m S.length H a c
  all : ∀ i c, cellAt S i = some c → c ≠ .hot → ∃ a, m i = some a
  inj : ∀ i j a, m i = some a → m j = some a → i = j
  hidS : ∀ a, m.hid a → (∃ o, H a = some o) ∧ ∀ i, m i ≠ some a
  hotS : ∀ i, cellAt S i = some .hot → ∃ h, g.hot = some h ∧ h.id = i
  tabs : ∀ p ∈ g.tabs, m.hid p.1 ∧ TabR m H p
theorem CellR.monoW {c : Cell} (x : ExtW m1 n1 H1 m2 n2 H2) (e : H2 a = H1 a) (h : CellR g m1 n1 H1 a c) : CellR g m2 n2 H2 a c := by
  cases c with
  | lst xs =>
    obtain ⟨vs, k, r⟩ := h
    exact ⟨vs, e.trans k, Rels.monoW x _ _ r⟩
  | ins c fs =>
    obtain ⟨dx, gs, k, q, r⟩ := h
    exact ⟨dx, gs, e.trans k, q, RelFs.monoW x _ _ r⟩
  | dct kvs =>
    obtain ⟨kws, k, r⟩ := h
    exact ⟨kws, e.trans k, RelKs.monoW x r⟩
  | dlk kvs =>
    obtain ⟨o, kws, k, r⟩ := h
    exact ⟨o, kws, e.trans k, RelKs.monoW x r⟩
  | hot => exact h
theorem CellR.mono {c : Cell} (x : Ext m1 n1 H1 m2 n2 H2) (e : H2 a = H1 a) (h : CellR g m1 n1 H1 a c) : CellR g m2 n2 H2 a c := h.monoW x.w e
theorem CellR.some {c : Cell} (h : CellR g m n H a c) : ∃ o, H a = some o := by
  cases c with
  | lst xs => obtain ⟨vs, k, _⟩ := h; exact ⟨_, k⟩
  | ins c fs => obtain ⟨dx, gs, k, _⟩ := h; exact ⟨_, k⟩
  | dct kvs => obtain ⟨kws, k, _⟩ := h; exact ⟨_, k⟩
  | dlk kvs => obtain ⟨o, kws, k, _⟩ := h; exact ⟨_, k⟩
  | hot => exact h.elim
variable {S S1 S2 : Sto} {i j : Nat}
theorem RS.lt (r : RS g m S H) (e : m i = some a) : i < S.length := by
  obtain ⟨c, k, _⟩ := r.dom i a e
  unfold cellAt at k
  cases q : S[i]? with
  | none => rw [q] at k; cases k
  | some o => exact (List.getElem?_eq_some_iff.mp q).1
theorem RS.at (r : RS g m S H) {c : Cell} (e : cellAt S i = some c) (nh : c ≠ .hot := by intro z; cases z) : ∃ a, m i = some a ∧ CellR g m S.length H a c := by
  obtain ⟨a, h⟩ := r.all i c e nh
  obtain ⟨c', e', k⟩ := r.dom i a h
  rw [e] at e'
  cases e'
  exact ⟨a, h, k⟩
theorem Rel.box (r : RS g m S H) {c : Cell} {v : V} (h : Rel g m S.length H (.ref i) v) (e : cellAt S i = some c) (nh : c ≠ .hot := by intro z; cases z) : ∃ a, v = .ref a ∧ m i = some a ∧ CellR g m S.length H a c := by
  obtain ⟨a, k, q⟩ := r.at e nh
  unfold Rel at h
  obtain ⟨_, b, rfl, hb⟩ := h
  rw [← hb a k]
  exact ⟨a, rfl, k, q⟩
/-- nobody's box stands at a free place -/
theorem Off.free (r : RS g m S H) (e : H a = none) : Off m a := by
  refine ⟨fun i k => ?_, fun h => ?_⟩
  · obtain ⟨c, _, q⟩ := r.dom i a k
    obtain ⟨o', e'⟩ := q.some
    rw [e] at e'
    cases e'
  · obtain ⟨⟨o, q⟩, _⟩ := r.hidS a h
    rw [e] at q
    cases q
/-- a thing is laid that no box holds -/
theorem Ext.laid {o : HO} (r : RS g m S H) (e : H a = none) : Ext m n H m n (upd H a o) :=
  ⟨Nat.le_refl _, fun _ _ _ e => e, fun b ob k f => ⟨by rw [upd_ne (ne_of_none k e)]; exact k, f⟩, fun b h => ⟨h, .inl (upd_ne fun z => (Off.free r e).2 (by rw [← z]; exact h))⟩, Fz.upd (NoFz.none e)⟩
theorem RS.laid {o : HO} (r : RS g m S H) (e : H a = none) : RS g m S (upd H a o) :=
  ⟨fun i b k => let ⟨c, h, q⟩ := r.dom i b k; ⟨c, h, q.mono (Ext.laid r e) (upd_ne fun z => (Off.free r e).1 i (by rw [← z]; exact k))⟩, r.all, r.inj,
    fun b h => let ⟨⟨ob, k⟩, f⟩ := r.hidS b h; ⟨⟨ob, by rw [upd_ne (ne_of_none k e)]; exact k⟩, f⟩, r.hotS, fun p hp => let ⟨h, t⟩ := r.tabs p hp; ⟨h, t.monoW (Ext.laid (n := S.length) r e).w (upd_ne fun z => (Off.free r e).2 (by rw [← z]; exact h))⟩⟩
/-- a new box -/
def mNew (m : Mp) (n : Nat) (a : Addr) : Mp := ⟨fun i => if i = n then some a else m i, m.hid⟩
theorem mNew_same : mNew m n a n = some a := if_pos rfl
theorem mNew_ne (h : i ≠ n) : mNew m n a i = m i := if_neg h
theorem Ext.new {o : HO} (r : RS g m S H) (e : H a = none) : Ext m S.length H (mNew m S.length a) (S.length + 1) (upd H a o) := by
  refine ⟨Nat.le_succ _, fun i b l k => ?_, fun b ob k f => ⟨by rw [upd_ne (ne_of_none k e)]; exact k, fun i q => ?_, f.2⟩, fun b h => ⟨h, .inl (upd_ne fun z => (Off.free r e).2 (by rw [← z]; exact h))⟩, Fz.upd (NoFz.none e)⟩
  · rw [mNew_ne (Nat.ne_of_lt l)] at k
    exact k
  · by_cases hi : i = S.length
    · rw [hi, mNew_same] at q
      cases q
      rw [e] at k
      cases k
    · rw [mNew_ne hi] at q
      exact f.1 i q
theorem cellAt_push_lt {c : Option Cell} (h : i < S.length) : cellAt (S ++ [c]) i = cellAt S i := by
  unfold cellAt
  rw [List.getElem?_append_left h]
theorem cellAt_push {c : Option Cell} : cellAt (S ++ [c]) S.length = c := by
  unfold cellAt
  rw [List.getElem?_append_right (Nat.le_refl _), Nat.sub_self]
  cases c <;> rfl
theorem cellAt_lt {c : Cell} (h : cellAt S i = some c) : i < S.length := by
  unfold cellAt at h
  cases q : S[i]? with
  | none => rw [q] at h; cases h
  | some o => exact (List.getElem?_eq_some_iff.mp q).1
theorem RS.new {o : HO} {c : Cell} (r : RS g m S H) (e : H a = none) (hc : CellR g (mNew m S.length a) (S.length + 1) (upd H a o) a c) : RS g (mNew m S.length a) (S ++ [some c]) (upd H a o) := by
  have x := Ext.new (o := o) r e
  refine ⟨fun i b k => ?_, fun i c' k nh => ?_, fun i j b h1 h2 => ?_, fun b h => ?_, fun i k => ?_, fun p hp => let ⟨h, t⟩ := r.tabs p hp; ⟨h, t.monoW x.w (upd_ne fun z => (Off.free r e).2 (by rw [← z]; exact h))⟩⟩
  · rw [List.length_append, List.length_singleton]
    by_cases hi : i = S.length
    · subst hi
      rw [mNew_same] at k
      cases k
      exact ⟨c, cellAt_push, hc⟩
    · rw [mNew_ne hi] at k
      obtain ⟨c', h, q⟩ := r.dom i b k
      exact ⟨c', by rw [cellAt_push_lt (r.lt k)]; exact h, q.mono x (upd_ne fun z => (Off.free r e).1 i (by rw [← z]; exact k))⟩
  · by_cases hi : i = S.length
    · exact ⟨a, by rw [hi, mNew_same]⟩
    · have hl := cellAt_lt k
      rw [List.length_append, List.length_singleton] at hl
      have hl' : i < S.length := by omega
      rw [cellAt_push_lt hl'] at k
      rw [mNew_ne hi]
      exact r.all i c' k nh
  · by_cases hi : i = S.length
    · by_cases hj : j = S.length
      · rw [hi, hj]
      · rw [hi, mNew_same] at h1
        cases h1
        rw [mNew_ne hj] at h2
        exact absurd h2 ((Off.free r e).1 j)
    · rw [mNew_ne hi] at h1
      by_cases hj : j = S.length
      · rw [hj, mNew_same] at h2
        cases h2
        exact absurd h1 ((Off.free r e).1 i)
      · rw [mNew_ne hj] at h2
        exact r.inj i j b h1 h2
  · obtain ⟨⟨ob, k⟩, f⟩ := r.hidS b h
    refine ⟨⟨ob, by rw [upd_ne (ne_of_none k e)]; exact k⟩, fun i q => ?_⟩
    by_cases hi : i = S.length
    · rw [hi, mNew_same] at q
      cases q
      rw [e] at k
      cases k
    · rw [mNew_ne hi] at q
      exact f i q
  · by_cases hi : i = S.length
    · rw [hi, cellAt_push] at k
      cases k
      exact hc.elim
    · have hl := cellAt_lt k
      rw [List.length_append, List.length_singleton] at hl
      rw [cellAt_push_lt (by omega)] at k
      exact r.hotS i k
/-- a box is changed -/
theorem Ext.set {o : HO} (r : RS g m S H) (k : m i = some a) (nf : NoFz (H a) := by first | exact NoFz.of (u := .lst _) (by assumption) (fun _ _ z => nomatch z) | exact NoFz.of (u := .ins _ _ _) (by assumption) (fun _ _ z => nomatch z) | exact NoFz.of (u := .dK _) (by assumption) (fun _ _ z => nomatch z)) : Ext m n H m n (upd H a o) :=
  ⟨Nat.le_refl _, fun _ _ _ e => e, fun b ob e f => ⟨by rw [upd_ne fun z => f.1 i (by rw [z]; exact k)]; exact e, f⟩, fun b h => ⟨h, .inl (upd_ne fun z => (r.hidS b h).2 i (by rw [z]; exact k))⟩, Fz.upd nf⟩
theorem cellAt_set_same {c : Option Cell} (h : i < S.length) : cellAt (S.set i c) i = c := by
  unfold cellAt
  rw [List.getElem?_set_self h]
  cases c <;> rfl
theorem cellAt_set_ne {c : Option Cell} (h : j ≠ i) : cellAt (S.set i c) j = cellAt S j := by
  unfold cellAt
  rw [List.getElem?_set_ne (Ne.symm h)]
theorem ExtW.set {o : HO} (r : RS g m S H) (k : m i = some a) : ExtW m n H m n (upd H a o) :=
  ⟨Nat.le_refl _, fun _ _ _ e => e, fun b ob e f => ⟨by rw [upd_ne fun z => f.1 i (by rw [z]; exact k)]; exact e, f⟩⟩
theorem RS.set {o : HO} {c : Cell} (r : RS g m S H) (k : m i = some a) (hc : CellR g m S.length (upd H a o) a c) : RS g m (setAt S i c) (upd H a o) := by
  have x := ExtW.set (n := S.length) (o := o) r k
  unfold setAt
  refine ⟨fun j b h => ?_, fun j c' h nh => ?_, r.inj, fun b h => let ⟨⟨ob, q⟩, f⟩ := r.hidS b h; ⟨⟨ob, by rw [upd_ne fun z => f i (by rw [z]; exact k)]; exact q⟩, f⟩, fun j h => ?_, fun p hp => let ⟨h, t⟩ := r.tabs p hp; ⟨h, t.monoW x (upd_ne fun z => (r.hidS _ h).2 i (by rw [z]; exact k))⟩⟩
  · rw [List.length_set]
    by_cases hj : j = i
    · subst hj
      rw [k] at h
      cases h
      exact ⟨c, cellAt_set_same (r.lt k), hc⟩
    · obtain ⟨c', q, w⟩ := r.dom j b h
      exact ⟨c', by rw [cellAt_set_ne hj]; exact q, w.monoW x (upd_ne fun z => hj (r.inj j i a (by rw [← z]; exact h) k))⟩
  · by_cases hj : j = i
    · exact ⟨a, by rw [hj]; exact k⟩
    · rw [cellAt_set_ne hj] at h
      exact r.all j c' h nh
  · by_cases hj : j = i
    · rw [hj, cellAt_set_same (r.lt k)] at h
      cases h
      exact hc.elim
    · rw [cellAt_set_ne hj] at h
      exact r.hotS j h
/-- a box is given up: its thing stays as it is -/
def mDel (m : Mp) (i : Nat) : Mp := ⟨fun j => if j = i then none else m j, m.hid⟩
theorem mDel_same : mDel m i i = none := if_pos rfl
theorem mDel_ne (h : j ≠ i) : mDel m i j = m j := if_neg h
theorem Ext.del : Ext m n H (mDel m i) n H := by
  refine ⟨Nat.le_refl _, fun j b _ k => ?_, fun b o e f => ⟨e, fun j k => ?_, f.2⟩, fun b h => ⟨h, .inl rfl⟩, fun _ _ _ e => e⟩
  · by_cases hj : j = i
    · rw [hj, mDel_same] at k
      cases k
    · rw [mDel_ne hj] at k
      exact k
  · by_cases hj : j = i
    · rw [hj, mDel_same] at k
      cases k
    · rw [mDel_ne hj] at k
      exact f.1 j k
theorem RS.del (r : RS g m S H) (k : m i = some a) : RS g (mDel m i) (S.set i none) H ∧ Off (mDel m i) a := by
  refine ⟨⟨fun j b h => ?_, fun j c' h nh => ?_, fun j l b h1 h2 => ?_, fun b h => ⟨(r.hidS b h).1, fun j q => ?_⟩, fun j h => ?_, fun p hp => let ⟨h, t⟩ := r.tabs p hp; ⟨h, t.monoW (Ext.del (n := S.length)).w rfl⟩⟩, fun j h => ?_, fun h => (r.hidS a h).2 i k⟩
  · rw [List.length_set]
    by_cases hj : j = i
    · rw [hj, mDel_same] at h
      cases h
    · rw [mDel_ne hj] at h
      obtain ⟨c, q, w⟩ := r.dom j b h
      exact ⟨c, by rw [cellAt_set_ne hj]; exact q, w.mono Ext.del rfl⟩
  · by_cases hj : j = i
    · rw [hj, cellAt_set_same (r.lt k)] at h
      cases h
    · rw [cellAt_set_ne hj] at h
      rw [mDel_ne hj]
      exact r.all j c' h nh
  · by_cases hj : j = i
    · rw [hj, mDel_same] at h1
      cases h1
    · by_cases hl : l = i
      · rw [hl, mDel_same] at h2
        cases h2
      · rw [mDel_ne hj] at h1
        rw [mDel_ne hl] at h2
        exact r.inj j l b h1 h2
  · by_cases hj : j = i
    · rw [hj, mDel_same] at q
      cases q
    · rw [mDel_ne hj] at q
      exact (r.hidS b h).2 j q
  · by_cases hj : j = i
    · rw [hj, cellAt_set_same (r.lt k)] at h
      cases h
    · rw [cellAt_set_ne hj] at h
      exact r.hotS j h
  · by_cases hj : j = i
    · rw [hj, mDel_same] at h
      cases h
    · rw [mDel_ne hj] at h
      exact hj (r.inj j i a h k)
end
end Iv

/-! ### a promise told where no repr is under way -/
namespace Wg
open PySem PySem.Spec PyProof.Rows L2
/-- the law's own promise: told where no repr is under way -/
structure FnG (P : Program) (w : World) (K : PySem.W.Frag) (mg : Str → Option Value) (base : Heap) (CX : CXT) (k : Nat) (f : Addr) (fd : FuncData) (ps : List Str) (sp : Sp) : Prop where
  run : ∀ (A : Around) (outer : List Env) (s : Shared) (H : Hp) (args : Args) (us : List Value) (vs : List V) (Q : VK) (E : XK), A.guards = some [] → Room k A → Env0 P w K mg base A outer s H → BindsTo s fd args (ps.zip us) → Vals vs us → sp vs H Q E →
    codeAny (model P w) A (.call (.ref f) args) (CR CX outer P w H s Q E) s
end Wg

/-! ### a call's surroundings: nothing is asked of repr -/
namespace Iv
open PySem PySem.Spec PyProof.Rows L2
theorem fn_ok {P : Program} {w : World} {K : PySem.W.Frag} {mg : Str → Option Value} {base : Heap} {CX : CXT} {x qual : Str} {params : Arguments} {body : List Stmt} {scope : Scope} {dvs : List V} {kws : List (Str × V)} {f : Addr} {fd : FuncData} {N ps : List Str} {k : Nat} {sp : Sp} (F : FunD K x qual params body scope dvs kws f fd) (S : FnScope N ps scope) (len : ∀ vs H Q E, sp vs H Q E → vs.length = ps.length)
    (hb : ∀ (cdv : Value) (A : Around) (outer : List PySem.Env) (s : Shared) (H : Hp) (vs : List V) (Q : VK) (E : XK), Room k (A.deeper (envOfC qual scope s.heap.objs.size f cdv)) → sp vs H Q E →
      ∃ t, PSs (cxOf CX P w K mg base N qual scope f cdv A outer s H E) body t ∧ t { nx := fun _ H' => Q .non H', rt := Q } (L2.start N vs) H) : FnOk P w K mg base CX (k + 1) f fd ps sp := F.ok S len hb
end Iv

/-! ### tuples that the run makes, with their whole object told (no dict of their own) -/
namespace Iv
open PySem PySem.Spec PyProof.Rows L2
/-- a plain tuple's object -/
def NewT (o : Obj) : Prop := o.cls = .type "tuple" ∧ o.dict = none
/-- what is wished of a new tuple -/
def GivesT (H : Hp) (xs : List V) (Q : VK) : Prop := ∀ p o, H p = none → NewT o → Q (.ref p) (upd H p (.frz o (.tup xs)))
section
variable {X : Cx} {pins : List (Addr × Obj)} {σ : L2.St} {H : Hp} {s : Shared} {us : List Value} {xs : List V} {Q : VK}
theorem tup_laid (J : Inv X pins σ H s) (r : Vals xs us) (z : xs.length ≤ sizeLine) (q : GivesT H xs Q) {t' : Nat} : EP X pins σ Q (.ref s.heap.objs.size) { s with heap := s.heap.push { cls := .type "tuple", data := .seq us.toArray }, toks := t' } := by
  have hn : H s.heap.objs.size = none := J.hok.fresh (Nat.le_refl _)
  have hg : (s.heap.push { cls := .type "tuple", data := .seq us.toArray }).get? s.heap.objs.size = some { cls := .type "tuple", data := .seq us.toArray } := Heap.get?_push_size _ rfl
  exact ⟨.ref _, upd H _ (.frz { cls := .type "tuple", data := .seq us.toArray } (.tup xs)), J.laid (fun _ _ e => Heap.get?_push_of_some _ e) (Nat.le_refl _) ⟨hg, z, us, r, IsTup.new _ _⟩, rfl, q _ _ hn ⟨rfl, rfl⟩⟩
end
section
variable {X : Cx} {e : Expr} {es : List Expr} {te : TE} {t : TA} {p pos : Pos} {k : Nat}
/-- (e, ..) -/
theorem pe_tupN (h : PA X es t) : PE X (.Tuple es k pos) (fun σ H Q => t σ H fun xs H1 => xs.length ≤ sizeLine ∧ GivesT H1 xs Q) :=
  ⟨fun pins s σ H Q I w => wpAny_Tuple_spliced (thn (h.run pos pins s σ H _ I w) fun us s1 ⟨xs, H1, J, r, z, q⟩ => ⟨by rw [← r.length]; exact z, tup_laid J r z q⟩)⟩
/-- t + u -/
theorem op_catN : OpR X (binaryOp .Add) (fun x y H Q => ∃ a b xs ys, x = .ref a ∧ y = .ref b ∧ SqT X.K H a xs ∧ SqT X.K H b ys ∧ xs.length + ys.length ≤ sizeLine ∧ (xs = [] → Q (.ref b) H) ∧ (xs ≠ [] → ys = [] → Q (.ref a) H) ∧
    (xs ≠ [] → ys ≠ [] → GivesT H (xs ++ ys) Q)) := fun pins s σ H x y v u Q I rx ry ⟨a, b, xs, ys, ex, ey, ha, hb, z, q0, q1, q2⟩ => by
  by_cases h1 : xs = []
  · exact op_catA pins s σ H x y v u Q I rx ry ⟨a, b, xs, ys, ex, ey, ha, hb, z, q0, fun n => absurd h1 n, fun n => absurd h1 n⟩
  by_cases h2 : ys = []
  · exact op_catA pins s σ H x y v u Q I rx ry ⟨a, b, xs, ys, ex, ey, ha, hb, z, q0, q1, fun _ n => absurd h2 n⟩
  subst ex ey
  cases rx
  cases ry
  obtain ⟨vs, r, tv, _⟩ := I.tuple ha
  obtain ⟨ws, r', tw, _⟩ := I.tuple hb
  have n1 : vs ≠ [] := fun n => h1 (r.nil_iff.mp n)
  have n2 : ws ≠ [] := fun n => h2 (r'.nil_iff.mp n)
  exact HT.cat_tup tv tw n1 (fun n => absurd n n2) (fun _ => tup_laid I (r.append r') (by rw [List.length_append]; exact z) (q2 h1 h2)) (by rw [← r.length, ← r'.length]; exact z)
/-- t[lo:hi] -/
theorem sl_tupN : SlR X (fun x lo hi H Q => ∃ a xs, x = .ref a ∧ SqT X.K H a xs ∧ (HT.sIx xs.length 0 lo = 0 ∧ HT.sIx xs.length xs.length hi = xs.length → Q (.ref a) H) ∧
    (¬ (HT.sIx xs.length 0 lo = 0 ∧ HT.sIx xs.length xs.length hi = xs.length) → GivesT H (cutV xs lo hi) Q)) := fun pins s σ H x v vl vu lo hi sl Q I rx hs pl pu ⟨a, xs, ex, hx, q1, q2⟩ => by
  by_cases w : HT.sIx xs.length 0 lo = 0 ∧ HT.sIx xs.length xs.length hi = xs.length
  · exact sl_tupA pins s σ H x v vl vu lo hi sl Q I rx hs pl pu ⟨a, xs, ex, hx, q1, fun n => absurd w n⟩
  subst ex
  cases rx
  obtain ⟨vs, r, tv, z⟩ := I.tuple hx
  have l : vs.toArray.size = xs.length := by rw [List.size_toArray, r.length]
  refine ⟨"tuple", _, PyProof.Rows.slot_tuple_getitem.lookup, tv.typeIs, HT.getItem_tuple_cut tv hs pl pu (by rw [l]; exact w) ?_ (by rw [l]; exact z)⟩
  rw [l]
  exact tup_laid I ((r.drop _).take _) (Nat.le_trans (cutV_length xs lo hi) z) (q2 w)
/-- tuple(xs) -/
theorem call_tupleN : CallR X (.type "tuple") (fun xs H Q => ∃ p ys, xs = [.ref p] ∧ ((SqL X.K H p ys ∧ GivesT H ys Q) ∨ (SqT X.K H p ys ∧ Q (.ref p) H))) := fun pins s σ H xs us Q I r ⟨p, ys, ex, h⟩ => by
  rcases h with ⟨hl, q⟩ | ⟨ht, q⟩
  · subst ex
    obtain ⟨u, rfl, ru⟩ := vals1 r
    cases ru
    obtain ⟨vs, rv, pv, z⟩ := I.list hl
    have l := rv.length
    exact call_tuple_list pv.isList (fun g kp => tup_laid (I.kept (t' := s.toks) kp) rv z q) (by simp only [List.size_toArray]; omega)
  · exact call_tuple_of pins s σ H xs us Q I r ⟨p, ys, ex, .inr ⟨ht, q⟩⟩
end
end Iv

/-! ### min and max of two texts -/
namespace Iv
open PySem PySem.Spec PyProof.Rows L2
section
variable {prog : Program} {w : World} {A : Around} {E : Value → Shared → Prop} {s : Shared} {a b : Str} {t u : Tok}
/-- the first or the second -/
def of2 (a b : Str) (i : Nat) : Str := if i = 0 then a else b
theorem of2_at {i : Nat} {v : Value} (h : #[Value.str a t, .str b u][i]? = some v) : ∃ k, v = .str (of2 a b i) k := by
  rcases i with _ | _ | i
  · exact ⟨t, by simpa [of2] using h.symm⟩
  · exact ⟨u, by simpa [of2] using h.symm⟩
  · simp at h
theorem pick2 {r : Str → Str → Bool} {v : Value} (h : #[Value.str a t, .str b u][argBest (fun i j => r (of2 a b i) (of2 a b j)) 1]? = some v) : v = if r b a then .str b u else .str a t := by
  have h : #[Value.str a t, .str b u][if r b a then 1 else 0]? = some v := h
  cases hb : r b a with
  | true => rw [hb] at h; simpa using h.symm
  | false => rw [hb] at h; simpa using h.symm
theorem order2 {op : CmpOp} {r : Str → Str → Bool} (hr : ∀ (x y : Str) (k l : Tok) (s' : Shared) (Q' E' : Value → Shared → Prop), Q' (.bool (r x y)) s' → wpAny (model prog w) A (richCompare op (.str x k) (.str y l)) Q' E' s') :
    CmpOf prog w A op (fun i v => #[Value.str a t, .str b u][i]? = some v) fun i j => r (of2 a b i) (of2 a b j) := fun i j vi vj s' Q' E' hi hj hq => by
  obtain ⟨k, rfl⟩ := of2_at hi
  obtain ⟨l, rfl⟩ := of2_at hj
  exact hr _ _ k l s' Q' E' hq
/-- the two, laid as a tuple, and its walker -/
abbrev laid2 (s : Shared) (a b : Str) (t u : Tok) : Heap := s.heap.push { cls := .type "tuple", data := .seq #[.str a t, .str b u] }
theorem tup2 : (laid2 s a b t u).IsTuple s.heap.objs.size #[.str a t, .str b u] := ⟨_, Heap.get?_push_size _ rfl, rfl, 0, rfl⟩
theorem far2 {c : Addr} {o : Obj} {x : Obj} (hc : s.heap.get? c = some o) : ((laid2 s a b t u).push x).get? c = some o ∧ c ∉ [(laid2 s a b t u).objs.size] := by
  refine ⟨Heap.get?_push_of_some _ (Heap.get?_push_of_some _ hc), fun hm => ?_⟩
  have := Heap.lt_size hc
  rw [List.mem_singleton.mp hm, show (laid2 s a b t u).objs.size = s.heap.objs.size + 1 from Heap.size_push ..] at this
  exact Nat.lt_irrefl _ (Nat.lt_of_succ_lt this)
theorem near2 {x : Obj} : ∀ c ∈ [(laid2 s a b t u).objs.size, s.heap.objs.size], c < ((laid2 s a b t u).push x).objs.size := fun c hc => by
  have z1 : (laid2 s a b t u).objs.size = s.heap.objs.size + 1 := Heap.size_push ..
  rw [Heap.size_push, z1]
  rw [z1] at hc
  simp only [List.mem_cons, List.not_mem_nil, or_false] at hc
  rcases hc with rfl | rfl
  · show s.heap.objs.size + 1 < _
    omega
  · omega
theorem walk2 (hh : A.handled = none) : Walks prog w A (laid2 s a b t u).objs.size [(laid2 s a b t u).objs.size, s.heap.objs.size] [(laid2 s a b t u).objs.size] 2 (fun i v => #[Value.str a t, .str b u][i]? = some v)
    (fun i h => h.IsTupleIter (laid2 s a b t u).objs.size s.heap.objs.size i ∧ h.IsTuple s.heap.objs.size #[.str a t, .str b u]) :=
  Walks.tuple hh (laid2 s a b t u).objs.size s.heap.objs.size (by rw [show (laid2 s a b t u).objs.size = s.heap.objs.size + 1 from Heap.size_push ..]; exact Nat.ne_of_lt (Nat.lt_succ_self _)) #[.str a t, .str b u]
theorem min2T {Q : Value → Shared → Prop} (hh : A.handled = none) (q : ∀ h' tk, (∀ c o, s.heap.get? c = some o → h'.get? c = some o) → Q (if lessT b a then .str b u else .str a t) { s with heap := h', toks := tk }) :
    wpAny (model prog w) A (call (.builtin "min") [.str a t, .str b u]) Q E s :=
  call_min_two (wpAny_pyIter_tuple tup2 ⟨_, _, _, _, _, _, _, rfl, walk2 (A := A.in1) hh, ⟨⟨_, Heap.get?_push_size _ rfl, rfl, rfl⟩, tup2.push _⟩, near2, Nat.zero_lt_two, order2 (r := lessT) fun x y k l s' Q' E' h => (lt_str h : wpAny _ _ (compareOp .Lt (.str x k) (.str y l)) Q' E' s'),
    fun v h' tk hv hk => pick2 hv ▸ q h' tk fun c o hc => hk c o (far2 hc (x := default)).2 (far2 hc).1⟩)
theorem max2T {Q : Value → Shared → Prop} (hh : A.handled = none) (q : ∀ h' tk, (∀ c o, s.heap.get? c = some o → h'.get? c = some o) → Q (if lessT a b then .str b u else .str a t) { s with heap := h', toks := tk }) :
    wpAny (model prog w) A (call (.builtin "max") [.str a t, .str b u]) Q E s :=
  call_max_two (wpAny_pyIter_tuple tup2 ⟨_, _, _, _, _, _, _, rfl, walk2 (A := A.in1) hh, ⟨⟨_, Heap.get?_push_size _ rfl, rfl, rfl⟩, tup2.push _⟩, near2, Nat.zero_lt_two, order2 (r := fun x y => lessT y x) fun x y k l s' Q' E' h => (P.gt_str h : wpAny _ _ (compareOp .Gt (.str x k) (.str y l)) Q' E' s'),
    fun v h' tk hv hk => pick2 (r := fun x y => lessT y x) hv ▸ q h' tk fun c o hc => hk c o (far2 hc (x := default)).2 (far2 hc).1⟩)
end
section
variable {X : Cx}
theorem call_minT (hc : X.calm = true) : CallR X (.builtin "min") (fun xs H Q => ∃ a b, xs = [.str a, .str b] ∧ Q (.str (if lessT b a then b else a)) H) := fun pins s σ H xs us Q I r ⟨a, b, ex, q⟩ => by
  subst ex
  obtain ⟨_, _, rfl, ⟨t, rfl⟩, ⟨u, rfl⟩⟩ := vals2 r
  refine min2T (I.ok.hd hc) fun h' tk k => ⟨.str (if lessT b a then b else a), H, I.kept k, ?_, q⟩
  cases lessT b a <;> exact ⟨_, rfl⟩
theorem call_maxT (hc : X.calm = true) : CallR X (.builtin "max") (fun xs H Q => ∃ a b, xs = [.str a, .str b] ∧ Q (.str (if lessT a b then b else a)) H) := fun pins s σ H xs us Q I r ⟨a, b, ex, q⟩ => by
  subst ex
  obtain ⟨_, _, rfl, ⟨t, rfl⟩, ⟨u, rfl⟩⟩ := vals2 r
  refine max2T (I.ok.hd hc) fun h' tk k => ⟨.str (if lessT a b then b else a), H, I.kept k, ?_, q⟩
  cases lessT a b <;> exact ⟨_, rfl⟩
end
end Iv

/-! ### results and their wishes; operators -/
namespace Iv
open PySem PySem.Spec PyProof.Rows L2

def WP {α β : Type} (g : Gs) (W : Value → Option Addr → Hp → Prop) (Rr : Mp → Nat → Hp → α → β → Prop) (m : Mp) (n : Nat) (H : Hp) (r : R α) (Q : β → Hp → Prop) : Prop := match r with
  | .ok a S' => ∀ m' H' b, Ext m n H m' S'.length H' → RS g m' S' H' → Rr m' S'.length H' a b → Q b H'
  | .exc x S' => ∀ m' H' c d, Ext m n H m' S'.length H' → RS g m' S' H' → g.xr m' S'.length H' x c d → W c d H'
  | .err => False
section
variable {α β γ δ : Type} {g : Gs} {W : Value → Option Addr → Hp → Prop} {Ra : Mp → Nat → Hp → α → β → Prop} {Rb : Mp → Nat → Hp → γ → δ → Prop} {m m1 : Mp} {n n1 : Nat} {H H1 : Hp} {S : Sto}
theorem WP.from {r : R α} {Q : β → Hp → Prop} (x : Ext m n H m1 n1 H1) (h : WP g W Ra m n H r Q) : WP g W Ra m1 n1 H1 r Q := by
  cases r with
  | ok a S' => exact fun m' H' b y => h m' H' b (x.trans y)
  | exc e S' => exact fun m' H' c d y => h m' H' c d (x.trans y)
  | err => exact h
theorem WP.bind {r : R α} {f : α → Sto → R γ} {Q : δ → Hp → Prop} (h : WP g W Rb m n H (r.bind f) Q) :
    WP g W Ra m n H r (fun b H1 => ∃ m1 S1 a, Ext m n H m1 S1.length H1 ∧ RS g m1 S1 H1 ∧ Ra m1 S1.length H1 a b ∧ WP g W Rb m1 S1.length H1 (f a S1) Q) := by
  cases r with
  | ok a S' => exact fun m' H' b x rs ra => ⟨m', S', a, x, rs, ra, WP.from x h⟩
  | exc e S' => exact h
  | err => exact h
theorem WP.now {a : α} {b : β} {Q : β → Hp → Prop} (h : WP g W Ra m S.length H (.ok a S) Q) (rs : RS g m S H) (ra : Ra m S.length H a b) : Q b H := h m H b Ext.refl rs ra
theorem WP.ck {c : Prop} [Decidable c] {r : R α} {Q : β → Hp → Prop} (h : WP g W Ra m n H (ck c r) Q) : c ∧ WP g W Ra m n H r Q := by
  unfold Iv.ck at h
  by_cases hc : c
  · rw [if_pos hc] at h
    exact ⟨hc, h⟩
  · rw [if_neg hc] at h
    exact h.elim
theorem WP.imp {r : R α} {Q Q' : β → Hp → Prop} (h : WP g W Ra m n H r Q) (k : ∀ b H', Q b H' → Q' b H') : WP g W Ra m n H r Q' := by
  cases r with
  | ok a S' => exact fun m' H' b x rs ra => k _ _ (h m' H' b x rs ra)
  | exc e S' => exact h
  | err => exact h
theorem WP.err {Q : β → Hp → Prop} {P : Prop} (h : WP g W Ra m n H .err Q) : P := False.elim h
end
section
variable {g : Gs} {m : Mp} {n : Nat} {H : Hp} {v : V}
theorem rel_non : Rel g m n H .non v = (v = .non) := by unfold Rel; rfl
theorem rel_bl {b : Bool} : Rel g m n H (.bl b) v = (v = .bl b) := by unfold Rel; rfl
theorem rel_int {i : Int} : Rel g m n H (.int i) v = (v = .int i) := by unfold Rel; rfl
theorem rel_str {x : Str} : Rel g m n H (.str x) v = (v = .str x ∧ okS x) := by unfold Rel; rfl
theorem rel_ty {x : String} : Rel g m n H (.ty x) v = (v = .ty x) := by unfold Rel; rfl
theorem rel_tup {xs : List D} : Rel g m n H (.tup xs) v = ∃ a vs, v = .ref a ∧ TupAt g m H a vs ∧ Rels g m n H xs vs := by rw [Rel]
theorem rel_lst {xs : List D} : Rel g m n H (.lst xs) v = ∃ a vs, v = .ref a ∧ (H a = some (.lst vs) ∧ Off m a) ∧ Rels g m n H xs vs := by rw [Rel]
theorem rel_scr {xs : List D} : Rel g m n H (.scr xs) v = ∃ a vs, v = .ref a ∧ ScrAt g m H a vs ∧ Rels g m n H xs vs := by rw [Rel]
theorem rel_ntp {xs : List D} : Rel g m n H (.ntp xs) v = ∃ a vs, v = .ref a ∧ NtpAt m H a vs ∧ Rels g m n H xs vs := by rw [Rel]
theorem rel_wtp {xs : List D} : Rel g m n H (.wtp xs) v = ∃ a vs, v = .ref a ∧ (H a = some (.tup vs) ∧ Off m a) ∧ Rels g m n H xs vs := by rw [Rel]
theorem rel_exv {i c : Nat} {fs : List (Nat × D)} : Rel g m n H (.exv i c fs) v = (i < n ∧ ∃ a, v = .ref a ∧ ∀ h, g.hot = some h → h.id = i → h.a = a ∧ h.cls = g.cv c ∧
    ((fs = [] ∧ h.d = none) ∨ ∃ dd gs, h.d = some dd ∧ (H dd = some (.xd gs) ∧ Off m dd) ∧ RelFs g m n H fs gs)) := by rw [Rel]
theorem rel_ref {i : Nat} : Rel g m n H (.ref i) v = (i < n ∧ ∃ a, v = .ref a ∧ ∀ b, m i = some b → b = a) := by rw [Rel]
theorem rel_ins {c : Nat} {fs : List (Nat × D)} : Rel g m n H (.ins c fs) v = ∃ a dx gs, v = .ref a ∧ (H a = some (.ins (g.ca c) dx gs) ∧ Off m a) ∧ insOk g c fs ∧ RelFs g m n H fs gs := by rw [Rel]
end
theorem okS.ok {x : Str} (h : okS x) : PyData.strOk x = true := by
  unfold PyData.strOk
  rw [Array.all_eq_true']
  intro c hc
  exact decide_eq_true (h.2 c (Array.mem_toList_iff.mpr hc))
theorem OpR.imp {X : Cx} {f : Value → Value → Sem Value} {r r' : R2} (h : OpR X f r) (k : ∀ x y H Q, r' x y H Q → r x y H Q) : OpR X f r' :=
  fun pins s σ H x y v u Q I rx ry q => h pins s σ H x y v u Q I rx ry (k _ _ _ _ q)
theorem CallR.imp {X : Cx} {f : Value} {r r' : List V → Hp → VK → Prop} (h : CallR X f r) (k : ∀ xs H Q, r' xs H Q → r xs H Q) : CallR X f r' :=
  fun pins s σ H xs us Q I rx q => h pins s σ H xs us Q I rx (k _ _ _ q)
theorem MtR.imp {X : Cx} {id : String} {r r' : V → List V → Hp → VK → Prop} (h : MtR X id r) (k : ∀ x xs H Q, r' x xs H Q → r x xs H Q) : MtR X id r' :=
  fun pins s σ H x xs v us Q I rx rs q => h pins s σ H x xs v us Q I rx rs (k _ _ _ _ q)
theorem IxR.imp {X : Cx} {r r' : R2} (h : IxR X r) (k : ∀ x y H Q, r' x y H Q → r x y H Q) : IxR X r' :=
  fun value slice pins s σ H x y v u Q I rx ry q => h value slice pins s σ H x y v u Q I rx ry (k _ _ _ _ q)

section
variable {g : Gs} {W : Value → Option Addr → Hp → Prop} {m : Mp} {n : Nat} {H : Hp} {S : Sto} {Q : VK} {d e : D} {v x y : V} {xs ys : List D} {vs : List V}
theorem unbox_ref {i : Nat} : unbox S (.ref i) = match cellAt S i with
    | some (.lst xs) => .lst xs
    | _ => .ref i := rfl
theorem seqOf_ref {i : Nat} : seqOf S (.ref i) = match cellAt S i with
    | some (.lst xs) => some xs
    | _ => none := rfl
/-- a box or a frozen list, read -/
theorem unbox_rel (rs : RS g m S H) (h : Rel g m S.length H d v) (e : unbox S d = .lst xs) : ∃ a vs, v = .ref a ∧ H a = some (.lst vs) ∧ Rels g m S.length H xs vs := by
  cases d with
  | lst zs =>
    have e' : D.lst zs = D.lst xs := e
    cases e'
    rw [rel_lst] at h
    obtain ⟨a, vs, rfl, ⟨k, _⟩, r⟩ := h
    exact ⟨a, vs, rfl, k, r⟩
  | ref i =>
    rw [unbox_ref] at e
    split at e
    · rename_i zs hz
      cases e
      obtain ⟨a, rfl, _, vs, k, r⟩ := h.box rs hz
      exact ⟨a, vs, rfl, k, r⟩
    · cases e
  | _ => exact absurd e (by unfold unbox; intro z; cases z)
theorem seqOf_rel (rs : RS g m S H) (h : Rel g m S.length H d v) (e : seqOf S d = some xs) : ∃ a vs, v = .ref a ∧ Rels g m S.length H xs vs ∧
    ((SqL g.K H a vs ∧ ∀ zs, d ≠ .tup zs) ∨ (TupAt g m H a vs ∧ d = .tup xs)) := by
  cases d with
  | tup zs =>
    have e' : some zs = some xs := e
    cases e'
    rw [rel_tup] at h
    obtain ⟨a, vs, rfl, k, r⟩ := h
    exact ⟨a, vs, rfl, r, .inr ⟨k, rfl⟩⟩
  | lst zs =>
    have e' : some zs = some xs := e
    cases e'
    rw [rel_lst] at h
    obtain ⟨a, vs, rfl, ⟨k, _⟩, r⟩ := h
    exact ⟨a, vs, rfl, r, .inl ⟨SqL.of k, fun _ z => by cases z⟩⟩
  | scr zs =>
    have e' : some zs = some xs := e
    cases e'
    rw [rel_scr] at h
    obtain ⟨a, vs, rfl, k, r⟩ := h
    exact ⟨a, vs, rfl, r, .inl ⟨k.sq, fun _ z => by cases z⟩⟩
  | ref i =>
    rw [seqOf_ref] at e
    split at e
    · rename_i zs hz
      cases e
      obtain ⟨a, rfl, _, vs, k, r⟩ := h.box rs hz
      exact ⟨a, vs, rfl, r, .inl ⟨SqL.of k, fun _ z => by cases z⟩⟩
    · cases e
  | _ => exact absurd e (by unfold seqOf; intro z; cases z)
theorem seqOf_sq (rs : RS g m S H) (h : Rel g m S.length H d v) (e : seqOf S d = some xs) : ∃ a vs, v = .ref a ∧ Rels g m S.length H xs vs ∧ (SqL g.K H a vs ∨ SqT g.K H a vs) := by
  obtain ⟨a, vs, rfl, r, k⟩ := seqOf_rel rs h e
  refine ⟨a, vs, rfl, r, ?_⟩
  rcases k with ⟨k, _⟩ | ⟨k, _⟩
  · exact .inl k
  · exact .inr k.sq
/-- a new list, a new tuple -/
theorem mkL_ok {box : Bool} (rs : RS g m S H) (r : Rels g m S.length H xs vs) (w : WP g W (Rel g) m S.length H (mkL box xs S) Q) {p : Addr} (hp : H p = none) : Q (.ref p) (upd H p (.lst vs)) := by
  cases box with
  | false =>
    refine w m _ (.ref p) (Ext.laid rs hp) (rs.laid hp) ?_
    rw [rel_lst]
    exact ⟨p, vs, rfl, ⟨upd_same, Off.free rs hp⟩, Rels.mono (Ext.laid rs hp) _ _ r⟩
  | true =>
    have x := Ext.new (o := HO.lst vs) rs hp
    have l : (S ++ [some (Cell.lst xs)]).length = S.length + 1 := by rw [List.length_append, List.length_singleton]
    refine w (mNew m S.length p) _ (.ref p) (by rw [l]; exact x) (rs.new hp ⟨vs, upd_same, Rels.mono x _ _ r⟩) ?_
    rw [rel_ref, l]
    exact ⟨Nat.lt_succ_self _, p, rfl, fun b hb => by rw [mNew_same] at hb; cases hb; rfl⟩
theorem mkT_ok (rs : RS g m S H) (r : Rels g m S.length H xs vs) (w : WP g W (Rel g) m S.length H (.ok (.tup xs) S) Q) : GivesT H vs Q := fun p o hp ho => by
  refine w m _ (.ref p) (Ext.laid rs hp) (rs.laid hp) ?_
  rw [rel_tup]
  exact ⟨p, vs, rfl, .inr (.inr ⟨o, upd_same, ho.1, ho.2, Off.free rs hp⟩), Rels.mono (Ext.laid rs hp) _ _ r⟩
theorem okS.append {a b : Str} (ha : okS a) (hb : okS b) (l : a.length + b.length ≤ sizeLine) : okS (a ++ b) := by
  refine ⟨by rw [PySem.Str.length_append]; exact l, fun c hc => ?_⟩
  have hc' : c ∈ (a.cps ++ b.cps).toList := hc
  rw [Array.toList_append] at hc'
  rcases List.mem_append.mp hc' with h | h
  · exact ha.2 c h
  · exact hb.2 c h
/-- two related things and what an operator tells of them -/
def r2 (g : Gs) (f : D → D → Sto → R D) : R2 := fun x y H Q => ∃ m S d e W, RS g m S H ∧ Rel g m S.length H d x ∧ Rel g m S.length H e y ∧ WP g W (Rel g) m S.length H (f d e S) Q
variable {X : Cx}
theorem op_addI (hK : X.K = g.K) {box : Bool} : OpR X (binaryOp .Add) (r2 g (addR box)) := by
  refine OpR.imp (op_add.or (op_add_str.or (op_catN.or op_cat))) fun x y H Q ⟨m, S, d, e, W, rs, rd, re, w⟩ => ?_
  unfold addR at w
  split at w
  · rw [rel_int] at rd re
    subst rd re
    exact .inl ⟨_, _, rfl, rfl, w.now rs (by rw [rel_int])⟩
  · rw [rel_str] at rd re
    obtain ⟨rfl, o1⟩ := rd
    obtain ⟨rfl, o2⟩ := re
    obtain ⟨c, w⟩ := w.ck
    exact .inr (.inl ⟨_, _, rfl, rfl, c, w.now rs (by rw [rel_str]; exact ⟨rfl, o1.append o2 c⟩)⟩)
  · rename_i as bs
    rw [rel_tup] at rd re
    obtain ⟨a, vs, rfl, ta, ra⟩ := rd
    obtain ⟨b, ws, rfl, tb, rb⟩ := re
    obtain ⟨c, w⟩ := w.ck
    rw [ra.length, rb.length] at c
    refine .inr (.inr (.inl ⟨a, b, vs, ws, rfl, rfl, by rw [hK]; exact ta.sq, by rw [hK]; exact tb.sq, c, fun z => ?_, fun _ z => ?_, fun _ _ => mkT_ok rs (ra.append rb) w⟩))
    · subst z
      have : as = [] := List.length_eq_zero_iff.mp ra.length
      subst this
      exact w.now rs (by rw [rel_tup]; exact ⟨b, ws, rfl, tb, rb⟩)
    · subst z
      have : bs = [] := List.length_eq_zero_iff.mp rb.length
      subst this
      rw [List.append_nil] at w
      exact w.now rs (by rw [rel_tup]; exact ⟨a, vs, rfl, ta, ra⟩)
  · split at w
    · rename_i ha hb
      obtain ⟨a, vs, rfl, ka, ra⟩ := unbox_rel rs rd ha
      obtain ⟨b, ws, rfl, kb, rb⟩ := unbox_rel rs re hb
      obtain ⟨c, w⟩ := w.ck
      rw [ra.length, rb.length] at c
      exact .inr (.inr (.inr ⟨a, b, vs, ws, rfl, rfl, ka, kb, c, fun p hp => mkL_ok rs (ra.append rb) w hp⟩))
    · exact w.err
theorem op_I {f : Value → Value → Sem Value} {C : Int → Int → Prop} {k : Int → Int → Int} [∀ i j, Decidable (C i j)] {F : D → D → Sto → R D} (h : OpR X f (rI C fun i j => .int (k i j)))
    (hF : ∀ d e S, (∃ i j, d = .int i ∧ e = .int j ∧ F d e S = ck (C i j) (.ok (.int (k i j)) S)) ∨ F d e S = .err) : OpR X f (r2 g F) := by
  refine OpR.imp h fun x y H Q ⟨m, S, d, e, W, rs, rd, re, w⟩ => ?_
  rcases hF d e S with ⟨i, j, rfl, rfl, q⟩ | q
  · rw [q] at w
    rw [rel_int] at rd re
    obtain ⟨c, w⟩ := w.ck
    exact ⟨i, j, rd, re, c, w.now rs (by rw [rel_int])⟩
  · rw [q] at w
    exact w.err
theorem mulOk_small {z : Str} {j : Int} (h1 : z.length ≤ 1000) (h2 : 0 ≤ j) (h3 : j ≤ 1000) : PySem.MulOk z j := by
  refine ⟨by rw [decide_eq_false (by omega), decide_eq_false (by omega)]; rfl, fun a _ => ?_, fun a _ => ?_⟩
  · have : (9223372036854775 : Int) ≤ (2 ^ 63 - 1) / j := by
      refine (Int.le_ediv_iff_mul_le (by omega)).mpr ?_
      omega
    omega
  · unfold Builtin.Str.tooLong
    refine decide_eq_false (Nat.not_lt.mpr ?_)
    refine Nat.le_trans (Nat.mul_le_mul h1 (show j.toNat ≤ 1000 by omega)) (by decide)
theorem op_mulStr {X : Cx} : OpR X (binaryOp .Mult) (fun x y H Q => ∃ z j, x = .str z ∧ y = .int j ∧ PySem.MulOk z j ∧ Q (.str (Txt.mul z j)) H) := by
  intro pins s σ H x y v u Q I rx ry h
  obtain ⟨z, j, rfl, rfl, hz, q⟩ := h
  obtain ⟨t, rfl⟩ := rx
  obtain ⟨t', rfl⟩ := ry
  exact PySem.SB.mul hz (fun t' tk => ⟨.str (Txt.mul z j), H, I.tok _, ⟨_, rfl⟩, q⟩)
theorem mem_rep {c : Nat} {x : Array Nat} : ∀ (n : Nat) (acc : Array Nat), c ∈ ((List.replicate n x).foldl (· ++ ·) acc).toList → c ∈ acc.toList ∨ c ∈ x.toList
  | 0, acc, h => .inl h
  | n + 1, acc, h => by
    rw [List.replicate_succ, List.foldl_cons] at h
    rcases mem_rep n _ h with h | h
    · rw [Array.toList_append] at h
      exact List.mem_append.mp h
    · exact .inr h
theorem okS_mul {z : Str} {j : Int} (o : okS z) (h1 : z.length ≤ 1000) (h3 : j ≤ 1000) : okS (Txt.mul z j) := by
  refine ⟨Nat.le_trans (PyProof.Rows.len_mul_leN (L := 1000) (N := 1000) h1 h3) (by decide), fun c hc => ?_⟩
  unfold Txt.mul at hc
  split at hc
  · cases hc
  · split at hc
    · exact o.2 c hc
    · rcases mem_rep _ _ hc with h | h
      · cases h
      · exact o.2 c h
def opOf : Bop → Operator
  | .add => .Add
  | .sub => .Sub
  | .mul => .Mult
  | .div => .FloorDiv
  | .mod => .Mod
  | .pow => .Pow
theorem op_binI (hK : X.K = g.K) {box : Bool} (op : Bop) : OpR X (binaryOp (opOf op)) (r2 g (binR box op)) := by
  cases op with
  | add => exact op_addI hK
  | sub =>
    refine OpR.imp op_sub fun x y H Q ⟨m, S, d, e, W, rs, rd, re, w⟩ => ?_
    unfold binR at w
    simp only at w
    split at w
    · rw [rel_int] at rd re
      exact ⟨_, _, rd, re, w.now rs (by rw [rel_int])⟩
    · exact w.err
  | mul =>
    refine OpR.imp (op_mul.or op_mulStr) fun x y H Q ⟨m, S, d, e, W, rs, rd, re, w⟩ => ?_
    unfold binR at w
    simp only at w
    split at w
    · rw [rel_int] at rd re
      obtain ⟨c, w⟩ := w.ck
      exact .inl ⟨_, _, rd, re, c, w.now rs (by rw [rel_int])⟩
    · rw [rel_str] at rd
      rw [rel_int] at re
      obtain ⟨c, w⟩ := w.ck
      exact .inr ⟨_, _, rd.1, re, mulOk_small c.1 (by omega) c.2.2, w.now rs (by rw [rel_str]; exact ⟨rfl, okS_mul rd.2 c.1 c.2.2⟩)⟩
    · exact w.err
  | div =>
    refine op_I (C := fun i j => 0 < j ∧ j < 1073741824) op_fdiv fun d e S => ?_
    unfold binR
    simp only
    split
    · exact .inl ⟨_, _, rfl, rfl, rfl⟩
    · exact .inr rfl
  | mod =>
    refine op_I (C := fun i j => 0 < j) op_mod fun d e S => ?_
    unfold binR
    simp only
    split
    · exact .inl ⟨_, _, rfl, rfl, rfl⟩
    · exact .inr rfl
  | pow =>
    refine op_I (C := fun i j => 0 ≤ j ∧ j ≤ 1000000 ∧ i.natAbs < 2 ^ 64) op_pow fun d e S => ?_
    unfold binR
    simp only
    split
    · exact .inl ⟨_, _, rfl, rfl, rfl⟩
    · exact .inr rfl

/-! truth -/
def RelB : Mp → Nat → Hp → Bool → Bool → Prop := fun _ _ _ a b => b = a
theorem tru_seq {b : Bool} (rs : RS g m S H) (h : Rel g m S.length H d v) (e : (seqOf S d).map (fun xs => !xs.isEmpty) = some b) : TruV g.K v H b := by
  obtain ⟨xs, hx, rfl⟩ := Option.map_eq_some_iff.mp e
  obtain ⟨a, vs, rfl, r, k⟩ := seqOf_sq rs h hx
  have e : (!xs.isEmpty) = !vs.isEmpty := by
    have := r.length
    cases xs <;> cases vs <;> first | rfl | (simp at this)
  rcases k with k | k
  · exact .inl ⟨vs, k, e⟩
  · exact .inr (.inl ⟨vs, k, e⟩)
theorem tru_rel {R : Bool → Hp → Prop} (rs : RS g m S H) (h : Rel g m S.length H d v) (w : WP g W RelB m S.length H (tru d S) R) : ∃ k, TruV g.K v H k ∧ R k H := by
  unfold tru at w
  split at w
  · rename_i b hb
    refine ⟨b, ?_, w.now rs rfl⟩
    cases d with
    | non => cases hb; rw [rel_non] at h; subst h; rfl
    | bl k => cases hb; rw [rel_bl] at h; subst h; rfl
    | int i => cases hb; rw [rel_int] at h; subst h; rfl
    | str z => cases hb; rw [rel_str] at h; obtain ⟨rfl, o⟩ := h; exact ⟨o.1, rfl⟩
    | tup z => exact tru_seq rs h hb
    | lst z => exact tru_seq rs h hb
    | scr z => exact tru_seq rs h hb
    | ref z => exact tru_seq rs h hb
    | ins a b => exact tru_seq rs h hb
    | ty z => exact tru_seq rs h hb
    | ntp z => exact tru_seq rs h hb
    | exv i c fs => exact tru_seq rs h hb
    | wtp z => exact tru_seq rs h hb
  · exact w.err

/-! frozen data -/
mutual
theorem py_eqv : ∀ a b : D, a.fz = true → b.fz = true → PyData.eqv a.py b.py = a.eqv b
  | .non, b, _, hb => by cases b <;> first | (simp [D.fz] at hb; done) | (simp [D.py, D.eqv, PyData.eqv]; done)
  | .bl _, b, _, hb => by cases b <;> first | (simp [D.fz] at hb; done) | (simp [D.py, D.eqv, PyData.eqv]; done)
  | .int _, b, _, hb => by cases b <;> first | (simp [D.fz] at hb; done) | (simp [D.py, D.eqv, PyData.eqv]; done)
  | .str _, b, _, hb => by cases b <;> first | (simp [D.fz] at hb; done) | (simp [D.py, D.eqv, PyData.eqv]; done)
  | .tup xs, b, ha, hb => by
    cases b with
    | tup ys =>
      simp only [D.py, D.eqv, PyData.eqv]
      exact pys_eqv xs ys (by simpa [D.fz] using ha) (by simpa [D.fz] using hb)
    | _ => first | (simp [D.fz] at hb; done) | (simp [D.py, D.eqv, PyData.eqv]; done)
  | .lst xs, b, ha, hb => by
    cases b with
    | lst ys =>
      simp only [D.py, D.eqv, PyData.eqv]
      exact pys_eqv xs ys (by simpa [D.fz] using ha) (by simpa [D.fz] using hb)
    | scr ys =>
      simp only [D.py, D.eqv, PyData.eqv]
      exact pys_eqv xs ys (by simpa [D.fz] using ha) (by simpa [D.fz] using hb)
    | _ => first | (simp [D.fz] at hb; done) | (simp [D.py, D.eqv, PyData.eqv]; done)
  | .scr xs, b, ha, hb => by
    cases b with
    | lst ys =>
      simp only [D.py, D.eqv, PyData.eqv]
      exact pys_eqv xs ys (by simpa [D.fz] using ha) (by simpa [D.fz] using hb)
    | scr ys =>
      simp only [D.py, D.eqv, PyData.eqv]
      exact pys_eqv xs ys (by simpa [D.fz] using ha) (by simpa [D.fz] using hb)
    | _ => first | (simp [D.fz] at hb; done) | (simp [D.py, D.eqv, PyData.eqv]; done)
  | .ref _, _, ha, _ => by simp [D.fz] at ha
  | .ins _ _, _, ha, _ => by simp [D.fz] at ha
  | .ty _, _, ha, _ => by simp [D.fz] at ha
theorem pys_eqv : ∀ a b : List D, D.fzs a = true → D.fzs b = true → PyData.eqvAll (D.pys a) (D.pys b) = D.eqvs a b
  | [], b, _, _ => by cases b <;> simp [D.pys, D.eqvs, PyData.eqvAll]
  | x :: xs, [], _, _ => by simp [D.pys, D.eqvs, PyData.eqvAll]
  | x :: xs, y :: ys, ha, hb => by
    simp only [D.fzs, Bool.and_eq_true] at ha hb
    simp only [D.pys, D.eqvs, PyData.eqvAll]
    rw [py_eqv x y ha.1 hb.1, pys_eqv xs ys ha.2 hb.2]
end
mutual
theorem py_lay : ∀ (a : D) (v : V), a.fz = true → Rel g m n H a v → a.py.canLay0 = true ∧ Dp g.K H v a.py
  | .non, v, _, h => by rw [rel_non] at h; subst h; exact ⟨by simp [D.py, PyData.canLay0], .non⟩
  | .bl _, v, _, h => by rw [rel_bl] at h; subst h; exact ⟨by simp [D.py, PyData.canLay0], .bl _⟩
  | .int _, v, _, h => by rw [rel_int] at h; subst h; exact ⟨by simp [D.py, PyData.canLay0], .int _⟩
  | .str _, v, _, h => by rw [rel_str] at h; obtain ⟨rfl, o⟩ := h; exact ⟨by simp [D.py, PyData.canLay0, o.ok], .str _⟩
  | .tup xs, v, k, h => by
    rw [rel_tup] at h
    obtain ⟨a, vs, rfl, t, r⟩ := h
    obtain ⟨q1, q2⟩ := pys_lay xs vs (by simpa [D.fz] using k) r
    exact ⟨by simpa [D.py, PyData.canLay0] using q1, by rw [D.py]; exact .tup t.sq q2⟩
  | .lst xs, v, k, h => by
    rw [rel_lst] at h
    obtain ⟨a, vs, rfl, ⟨t, _⟩, r⟩ := h
    obtain ⟨q1, q2⟩ := pys_lay xs vs (by simpa [D.fz] using k) r
    exact ⟨by simpa [D.py, PyData.canLay0] using q1, by rw [D.py]; exact .lst (SqL.of t) q2⟩
  | .scr xs, v, k, h => by
    rw [rel_scr] at h
    obtain ⟨a, vs, rfl, t, r⟩ := h
    obtain ⟨q1, q2⟩ := pys_lay xs vs (by simpa [D.fz] using k) r
    exact ⟨by simpa [D.py, PyData.canLay0] using q1, by rw [D.py]; exact .lst t.sq q2⟩
  | .ref _, _, k, _ => by simp [D.fz] at k
  | .ins _ _, _, k, _ => by simp [D.fz] at k
  | .ty _, _, k, _ => by simp [D.fz] at k
theorem pys_lay : ∀ (a : List D) (vs : List V), D.fzs a = true → Rels g m n H a vs → PyData.canLayAll0 (D.pys a) = true ∧ DpAll g.K H vs (D.pys a)
  | [], vs, _, h => by unfold Rels at h; subst h; exact ⟨by simp [D.pys, PyData.canLayAll0], by rw [D.pys]; exact .nil⟩
  | x :: xs, vs, k, h => by
    unfold Rels at h
    obtain ⟨w, ws, rfl, r, q⟩ := h
    simp only [D.fzs, Bool.and_eq_true] at k
    obtain ⟨a1, a2⟩ := py_lay x w k.1 r
    obtain ⟨b1, b2⟩ := pys_lay xs ws k.2 q
    exact ⟨by simp [D.pys, PyData.canLayAll0, a1, b1], by rw [D.pys]; exact .cons a2 b2⟩
end
mutual
theorem py_depth : ∀ a : D, a.fz = true → a.py.depth = a.dp
  | .non, _ => by simp [D.py, D.dp, PyData.depth]
  | .bl _, _ => by simp [D.py, D.dp, PyData.depth]
  | .int _, _ => by simp [D.py, D.dp, PyData.depth]
  | .str _, _ => by simp [D.py, D.dp, PyData.depth]
  | .tup xs, k => by rw [D.py, D.dp, PyData.depth, pys_depth xs (by simpa [D.fz] using k)]
  | .lst xs, k => by rw [D.py, D.dp, PyData.depth, pys_depth xs (by simpa [D.fz] using k)]
  | .scr xs, k => by rw [D.py, D.dp, PyData.depth, pys_depth xs (by simpa [D.fz] using k)]
  | .ref _, k => by simp [D.fz] at k
  | .ins _ _, k => by simp [D.fz] at k
  | .ty _, k => by simp [D.fz] at k
theorem pys_depth : ∀ a : List D, D.fzs a = true → PyData.depthAll (D.pys a) = D.dps a
  | [], _ => by simp [D.pys, D.dps, PyData.depthAll]
  | x :: xs, k => by
    simp only [D.fzs, Bool.and_eq_true] at k
    rw [D.pys, D.dps, PyData.depthAll, py_depth x k.1, pys_depth xs k.2]
end
theorem py_shaped (k : d.fz = true) (h : Rel g m n H d v) (l : d.dp ≤ 64) : SeqAt.shaped d.py = true := by
  unfold SeqAt.shaped
  rw [(py_lay d v k h).1, py_depth d k, Bool.true_and]
  exact decide_eq_true l
theorem unbox_fz (rs : RS g m S H) (h : Rel g m S.length H d v) : Rel g m S.length H (unbox S d) v ∨ (unbox S d).fz = true → (unbox S d).fz = true → Dp g.K H v (unbox S d).py ∧ (unbox S d).py.canLay0 = true := by
  intro _ k
  cases e : unbox S d with
  | lst xs =>
    rw [e] at k
    obtain ⟨a, vs, rfl, t, r⟩ := unbox_rel rs h e
    obtain ⟨q1, q2⟩ := pys_lay xs vs (by simpa [D.fz] using k) r
    exact ⟨by rw [D.py]; exact .lst (SqL.of t) q2, by simpa [D.py, PyData.canLay0] using q1⟩
  | _ =>
    rw [e] at k
    have hd : unbox S d = d := by
      unfold unbox at e ⊢
      split at e
      · split at e
        · cases e
        · simp only [*]
      · rfl
    rw [hd] at e
    subst e
    obtain ⟨q1, q2⟩ := py_lay _ v k h
    exact ⟨q2, q1⟩
theorem deeps_lay {k : Nat} (ih : ∀ (d : D) (v : V), Rel g m S.length H d v → (deep k S d).fz = true → Dp g.K H v (deep k S d).py ∧ (deep k S d).py.canLay0 = true) : ∀ (xs : List D) (vs : List V), Rels g m S.length H xs vs → D.fzs (xs.map (deep k S)) = true → DpAll g.K H vs (D.pys (xs.map (deep k S))) ∧ PyData.canLayAll0 (D.pys (xs.map (deep k S))) = true
  | [], vs, h, _ => by unfold Rels at h; subst h; exact ⟨by rw [List.map_nil, D.pys]; exact .nil, by simp [D.pys, PyData.canLayAll0]⟩
  | x :: xs, vs, h, q => by
    unfold Rels at h
    obtain ⟨w, ws, rfl, r, rr⟩ := h
    rw [List.map_cons] at q ⊢
    simp only [D.fzs, Bool.and_eq_true] at q
    obtain ⟨a1, a2⟩ := ih x w r q.1
    obtain ⟨b1, b2⟩ := deeps_lay ih xs ws rr q.2
    exact ⟨by rw [D.pys]; exact .cons a1 b1, by simp [D.pys, PyData.canLayAll0, a2, b2]⟩
theorem deep_lay (rs : RS g m S H) : ∀ (k : Nat) (d : D) (v : V), Rel g m S.length H d v → (deep k S d).fz = true → Dp g.K H v (deep k S d).py ∧ (deep k S d).py.canLay0 = true
  | 0, d, v, h, q => let ⟨a, b⟩ := py_lay d v q h; ⟨b, a⟩
  | k + 1, d, v, h, q => by
    cases d with
    | tup xs =>
      rw [rel_tup] at h
      obtain ⟨a, vs, rfl, t, r⟩ := h
      rw [deep] at q ⊢
      obtain ⟨q1, q2⟩ := deeps_lay (fun d v => deep_lay rs k d v) xs vs r (by simpa [D.fz] using q)
      exact ⟨by rw [D.py]; exact .tup t.sq q1, by simpa [D.py, PyData.canLay0] using q2⟩
    | lst xs =>
      rw [rel_lst] at h
      obtain ⟨a, vs, rfl, ⟨t, _⟩, r⟩ := h
      rw [deep] at q ⊢
      obtain ⟨q1, q2⟩ := deeps_lay (fun d v => deep_lay rs k d v) xs vs r (by simpa [D.fz] using q)
      exact ⟨by rw [D.py]; exact .lst (SqL.of t) q1, by simpa [D.py, PyData.canLay0] using q2⟩
    | ref i =>
      have e : deep (k + 1) S (.ref i) = match cellAt S i with
        | some (.lst xs) => .lst (xs.map (deep k S))
        | _ => .ref i := rfl
      rw [e] at q ⊢
      split at q
      · rename_i xs hz
        obtain ⟨a, rfl, _, vs, t, r⟩ := h.box rs hz
        obtain ⟨q1, q2⟩ := deeps_lay (fun d v => deep_lay rs k d v) xs vs r (by simpa [D.fz] using q)
        exact ⟨by rw [D.py]; exact .lst (SqL.of t) q1, by simpa [D.py, PyData.canLay0] using q2⟩
      · cases q
    | _ =>
      obtain ⟨a, b⟩ := py_lay _ v (by simpa only [deep] using q) h
      exact ⟨by simpa only [deep] using b, by simpa only [deep] using a⟩
theorem op_eqX (hK : X.K = g.K) {k : Nat} (hr : Room k X.A) : OpR X (compareOp .Eq) (r2 g (cmpR .eqd)) := by
  refine OpR.imp (op_eqD (by have := hr.un; omega)) fun x y H Q ⟨m, S, d, e, W, rs, rd, re, w⟩ => ?_
  obtain ⟨⟨k1, k2, l1, l2⟩, w⟩ := (show WP g W (Rel g) m S.length H (ck _ _) Q from w).ck
  obtain ⟨p1, c1⟩ := deep_lay rs 8 _ _ rd k1
  obtain ⟨p2, c2⟩ := deep_lay rs 8 _ _ re k2
  refine ⟨_, _, by rw [hK]; exact p1, by rw [hK]; exact p2, ?_, ?_, ?_⟩
  · unfold SeqAt.shaped; rw [c1, py_depth _ k1, Bool.true_and]; exact decide_eq_true l1
  · unfold SeqAt.shaped; rw [c2, py_depth _ k2, Bool.true_and]; exact decide_eq_true l2
  · rw [py_eqv _ _ k1 k2]
    exact w.now rs (by rw [rel_bl])
theorem op_neX (hK : X.K = g.K) {k : Nat} (hr : Room k X.A) : OpR X (compareOp .NotEq) (r2 g (cmpR .ned)) := by
  refine OpR.imp (op_neD (by have := hr.un; omega)) fun x y H Q ⟨m, S, d, e, W, rs, rd, re, w⟩ => ?_
  obtain ⟨⟨k1, k2, l1, l2⟩, w⟩ := (show WP g W (Rel g) m S.length H (ck _ _) Q from w).ck
  obtain ⟨p1, c1⟩ := deep_lay rs 8 _ _ rd k1
  obtain ⟨p2, c2⟩ := deep_lay rs 8 _ _ re k2
  refine ⟨_, _, by rw [hK]; exact p1, by rw [hK]; exact p2, ?_, ?_, ?_⟩
  · unfold SeqAt.shaped; rw [c1, py_depth _ k1, Bool.true_and]; exact decide_eq_true l1
  · unfold SeqAt.shaped; rw [c2, py_depth _ k2, Bool.true_and]; exact decide_eq_true l2
  · rw [py_eqv _ _ k1 k2]
    exact w.now rs (by rw [rel_bl])
theorem op_eqI (hK : X.K = g.K) {k : Nat} (hr : Room k X.A) : OpR X (compareOp .Eq) (r2 g (cmpR .eq)) := by
  refine OpR.imp (op_eqD (by have := hr.un; omega)) fun x y H Q ⟨m, S, d, e, W, rs, rd, re, w⟩ => ?_
  obtain ⟨⟨k1, k2, l1, l2⟩, w⟩ := (show WP g W (Rel g) m S.length H (ck _ _) Q from w).ck
  obtain ⟨p1, c1⟩ := unbox_fz rs rd (.inr k1) k1
  obtain ⟨p2, c2⟩ := unbox_fz rs re (.inr k2) k2
  refine ⟨_, _, by rw [hK]; exact p1, by rw [hK]; exact p2, ?_, ?_, ?_⟩
  · unfold SeqAt.shaped; rw [c1, py_depth _ k1, Bool.true_and]; exact decide_eq_true l1
  · unfold SeqAt.shaped; rw [c2, py_depth _ k2, Bool.true_and]; exact decide_eq_true l2
  · rw [py_eqv _ _ k1 k2]
    exact w.now rs (by rw [rel_bl])
theorem op_neI (hK : X.K = g.K) {k : Nat} (hr : Room k X.A) : OpR X (compareOp .NotEq) (r2 g (cmpR .ne)) := by
  refine OpR.imp (op_neD (by have := hr.un; omega)) fun x y H Q ⟨m, S, d, e, W, rs, rd, re, w⟩ => ?_
  obtain ⟨⟨k1, k2, l1, l2⟩, w⟩ := (show WP g W (Rel g) m S.length H (ck _ _) Q from w).ck
  obtain ⟨p1, c1⟩ := unbox_fz rs rd (.inr k1) k1
  obtain ⟨p2, c2⟩ := unbox_fz rs re (.inr k2) k2
  refine ⟨_, _, by rw [hK]; exact p1, by rw [hK]; exact p2, ?_, ?_, ?_⟩
  · unfold SeqAt.shaped; rw [c1, py_depth _ k1, Bool.true_and]; exact decide_eq_true l1
  · unfold SeqAt.shaped; rw [c2, py_depth _ k2, Bool.true_and]; exact decide_eq_true l2
  · rw [py_eqv _ _ k1 k2]
    exact w.now rs (by rw [rel_bl])
end
end Iv

/-! ### operators, items, slices, built-in functions and methods -/
namespace Iv
open PySem PySem.Spec PyProof.Rows L2
section
variable {g : Gs} {W : Value → Option Addr → Hp → Prop} {m : Mp} {n : Nat} {H : Hp} {S : Sto} {Q : VK} {d e : D} {v x y : V} {xs ys : List D} {vs : List V} {X : Cx}
theorem okS.sign {c : Nat} {z : Str} (h : okS z) (hc : c ∈ z.cps.toList) : okS ⟨#[c]⟩ := ⟨by show 1 ≤ sizeLine; rw [sizeLine_eq]; omega, fun k hk => by
  have : k = c := by simpa using hk
  rw [this]
  exact h.2 c hc⟩
theorem rel_none (h : Rel g m n H d v) : decide (v = .non) = (match d with | .non => true | _ => false) := by
  cases d with
  | non => rw [rel_non] at h; subst h; rfl
  | bl _ => rw [rel_bl] at h; subst h; rfl
  | int _ => rw [rel_int] at h; subst h; rfl
  | str _ => rw [rel_str] at h; obtain ⟨rfl, _⟩ := h; rfl
  | ty _ => rw [rel_ty] at h; subst h; rfl
  | ntp _ => rw [rel_ntp] at h; obtain ⟨a, vs, rfl, _⟩ := h; rfl
  | exv _ _ _ => rw [rel_exv] at h; obtain ⟨_, a, rfl, _⟩ := h; rfl
  | wtp _ => rw [rel_wtp] at h; obtain ⟨a, vs, rfl, _⟩ := h; rfl
  | tup _ => rw [rel_tup] at h; obtain ⟨a, vs, rfl, _⟩ := h; rfl
  | lst _ => rw [rel_lst] at h; obtain ⟨a, vs, rfl, _⟩ := h; rfl
  | scr _ => rw [rel_scr] at h; obtain ⟨a, vs, rfl, _⟩ := h; rfl
  | ref _ => rw [rel_ref] at h; obtain ⟨_, a, rfl, _⟩ := h; rfl
  | ins _ _ => rw [rel_ins] at h; obtain ⟨a, _, _, rfl, _⟩ := h; rfl
theorem py_any (z : D) (kz : z.fz = true) : ∀ xs : List D, D.fzs xs = true → ((D.pys xs).any fun p => PyData.eqv p z.py) = xs.any fun p => p.eqv z
  | [], _ => rfl
  | a :: r, k => by
    simp only [D.fzs, Bool.and_eq_true] at k
    rw [D.pys, List.any_cons, List.any_cons, py_eqv a z k.1 kz, py_any z kz r k.2]
def rInT (K : PySem.W.Frag) (neg : Bool) : R2 := fun x y H Q => ∃ d ds, Dp K H x d ∧ (Dp K H y (.list ds) ∨ Dp K H y (.tuple ds)) ∧ SeqAt.shaped d = true ∧ SeqAt.shaped (.list ds) = true ∧ Q (.bl (if neg then !(ds.any fun z => PyData.eqv z d) else ds.any fun z => PyData.eqv z d)) H
theorem op_inT (hu : X.A.units + 65 < cLine) : OpR X (compareOp .In) (rInT X.K false) := by
  intro pins s σ H x y v u Q I rx ry h
  obtain ⟨d, ds, hd, he, sd, se, q⟩ := h
  obtain ⟨as, r1⟩ := Dp.reads I d x v hd rx
  rcases he with he | he
  · obtain ⟨bs, r2⟩ := Dp.reads I (.list ds) y u he ry
    exact SeqAt.in_list_reads r2 r1 (SeqAt.canLay_of_shaped se) (SeqAt.canLay_of_shaped sd) (room_in_shaped sd hu) ⟨.bl _, H, I, rfl, q⟩
  · obtain ⟨bs, r2⟩ := Dp.reads I (.tuple ds) y u he ry
    exact SeqAt.in_tuple_reads r2 r1 (SeqAt.canLay_of_shaped se) (SeqAt.canLay_of_shaped sd) (room_in_shaped sd hu) ⟨.bl _, H, I, rfl, q⟩
theorem op_notInT (hu : X.A.units + 65 < cLine) : OpR X (compareOp .NotIn) (rInT X.K true) := by
  intro pins s σ H x y v u Q I rx ry h
  obtain ⟨d, ds, hd, he, sd, se, q⟩ := h
  obtain ⟨as, r1⟩ := Dp.reads I d x v hd rx
  rcases he with he | he
  · obtain ⟨bs, r2⟩ := Dp.reads I (.list ds) y u he ry
    exact SeqAt.notIn_list_reads r2 r1 (SeqAt.canLay_of_shaped se) (SeqAt.canLay_of_shaped sd) (room_in_shaped sd hu) ⟨.bl _, H, I, rfl, q⟩
  · obtain ⟨bs, r2⟩ := Dp.reads I (.tuple ds) y u he ry
    exact SeqAt.notIn_tuple_reads r2 r1 (SeqAt.canLay_of_shaped se) (SeqAt.canLay_of_shaped sd) (room_in_shaped sd hu) ⟨.bl _, H, I, rfl, q⟩
theorem seq_dp (rs : RS g m S H) (h : Rel g m S.length H d v) (e : seqOf S d = some xs) (k : D.fzs xs = true) (l : D.dps xs ≤ 63) : (Dp g.K H v (.list (D.pys xs)) ∨ Dp g.K H v (.tuple (D.pys xs))) ∧ SeqAt.shaped (.list (D.pys xs)) = true := by
  obtain ⟨a, vs, rfl, r, q⟩ := seqOf_sq rs h e
  obtain ⟨q1, q2⟩ := pys_lay xs vs k r
  refine ⟨?_, ?_⟩
  · rcases q with q | q
    · exact .inl (.lst q q2)
    · exact .inr (.tup q q2)
  · unfold SeqAt.shaped
    rw [PyData.canLay0, q1, PyData.depth, pys_depth xs k, Bool.true_and]
    exact decide_eq_true (by omega)
theorem in_ok {k : Bool → R D} {neg : Bool} (rs : RS g m S H) (rd : Rel g m S.length H d x) (re : Rel g m S.length H e y) (w : WP g W (Rel g) m S.length H (cmpR.inR d e S k) Q)
    (hk : ∀ b, k b = .ok (.bl (if neg then !b else b)) S) : (∃ (z t : Str), x = .str z ∧ y = .str t ∧ Q (.bl (if neg then !hasT t z else hasT t z)) H) ∨ rInT g.K neg x y H Q := by
  unfold cmpR.inR at w
  split at w
  · rename_i a b
    rw [rel_str] at rd re
    split at w
    · rename_i c hc
      rw [hk] at w
      refine .inl ⟨a, b, rd.1, re.1, ?_⟩
      have : a = ⟨#[c]⟩ := Str.ext' (Array.ext' (by simpa using hc))
      rw [this, show hasT b ⟨#[c]⟩ = decide (c ∈ b.cps.toList) from StrLaws.found_one b c]
      exact w.now rs (by rw [rel_bl])
    · rw [hk] at w
      exact .inl ⟨a, b, rd.1, re.1, w.now rs (by rw [rel_bl])⟩
  · split at w
    · rename_i ys hy
      obtain ⟨⟨k1, l1, k2, l2⟩, w⟩ := w.ck
      rw [hk] at w
      obtain ⟨q1, q2⟩ := seq_dp rs re hy k2 l2
      refine .inr ⟨d.py, D.pys ys, (py_lay d x k1 rd).2, q1, py_shaped k1 rd (by omega), q2, ?_⟩
      rw [py_any d k1 ys k2]
      exact w.now rs (by rw [rel_bl])
    · exact w.err
def copOf : Cop → CmpOp
  | .eq => .Eq
  | .ne => .NotEq
  | .eqd => .Eq
  | .ned => .NotEq
  | .lt => .Lt
  | .le => .LtE
  | .gt => .Gt
  | .ge => .GtE
  | .isN => .Is
  | .notN => .IsNot
  | .isIn => .In
  | .notIn => .NotIn
def rLtX (K : PySem.W.Frag) : R2 := fun x y H Q => ∃ d e, Dp K H x d ∧ Dp K H y e ∧ PySem.W.alike d e = true ∧ d ≠ .none ∧ d.depth ≤ 60 ∧ Q (.bl (PySem.W.dataLt d e)) H
def rLeX (K : PySem.W.Frag) : R2 := fun x y H Q => ∃ d e, Dp K H x d ∧ Dp K H y e ∧ PySem.W.alike d e = true ∧ d ≠ .none ∧ d.depth ≤ 60 ∧ Q (.bl (!PySem.W.dataLt e d)) H
theorem op_ltX {k : Nat} (hr : Room k X.A) : OpR X (compareOp .Lt) (rLtX X.K) := by
  intro pins s σ H x y v u Q I rx ry h
  obtain ⟨d, e, hd, he, al, nn, dp, q⟩ := h
  obtain ⟨as, r1⟩ := Dp.reads I d x v hd rx
  obtain ⟨bs, r2⟩ := Dp.reads I e y u he ry
  exact PySem.W.lt_data r1 r2 al nn (by have := hr.un; have := Nat.min_le_left d.depth e.depth; omega) ⟨.bl _, H, I, rfl, q⟩
theorem op_leX {k : Nat} (hr : Room k X.A) : OpR X (compareOp .LtE) (rLeX X.K) := by
  intro pins s σ H x y v u Q I rx ry h
  obtain ⟨d, e, hd, he, al, nn, dp, q⟩ := h
  obtain ⟨as, r1⟩ := Dp.reads I d x v hd rx
  obtain ⟨bs, r2⟩ := Dp.reads I e y u he ry
  exact PySem.W.le_data r1 r2 al nn (by have := hr.un; have := Nat.min_le_left d.depth e.depth; omega) ⟨.bl _, H, I, rfl, q⟩
theorem notNon_py {d : D} (h : notNon d = true) (f : d.fz = true) : d.py ≠ .none := by
  cases d <;> first | (exact absurd h Bool.false_ne_true) | (exact absurd f Bool.false_ne_true) | (intro z; simp [D.py] at z)
theorem op_cmpI (hK : X.K = g.K) {k : Nat} (hr : Room k X.A) (op : Cop) : OpR X (compareOp (copOf op)) (r2 g (cmpR op)) := by
  cases op with
  | eq => exact op_eqI hK hr
  | ne => exact op_neI hK hr
  | eqd => exact op_eqX hK hr
  | ned => exact op_neX hK hr
  | lt =>
    refine OpR.imp (op_lt.or (op_ltX hr)) fun x y H Q ⟨m, S, d, e, W, rs, rd, re, w⟩ => ?_
    unfold cmpR at w
    simp only at w
    split at w
    · rw [rel_int] at rd re
      exact .inl ⟨_, _, rd, re, w.now rs (by rw [rel_bl])⟩
    · obtain ⟨⟨c1, c2, c3, c4, c5, c6⟩, w⟩ := w.ck
      exact .inr ⟨d.py, e.py, by rw [hK]; exact (py_lay d x c1 rd).2, by rw [hK]; exact (py_lay e y c2 re).2, c5, notNon_py c6 c1, by rw [py_depth d c1]; exact c3, w.now rs (by rw [rel_bl]; rfl)⟩
  | le =>
    refine OpR.imp (op_le.or (op_leX hr)) fun x y H Q ⟨m, S, d, e, W, rs, rd, re, w⟩ => ?_
    unfold cmpR at w
    simp only at w
    split at w
    · rw [rel_int] at rd re
      exact .inl ⟨_, _, rd, re, w.now rs (by rw [rel_bl])⟩
    · obtain ⟨⟨c1, c2, c3, c4, c5, c6⟩, w⟩ := w.ck
      exact .inr ⟨d.py, e.py, by rw [hK]; exact (py_lay d x c1 rd).2, by rw [hK]; exact (py_lay e y c2 re).2, c5, notNon_py c6 c1, by rw [py_depth d c1]; exact c3, w.now rs (by rw [rel_bl]; rfl)⟩
  | gt =>
    refine OpR.imp op_gt fun x y H Q ⟨m, S, d, e, W, rs, rd, re, w⟩ => ?_
    unfold cmpR at w
    simp only at w
    split at w
    · rw [rel_int] at rd re
      exact ⟨_, _, rd, re, w.now rs (by rw [rel_bl])⟩
    · exact w.err
  | ge =>
    refine OpR.imp op_ge fun x y H Q ⟨m, S, d, e, W, rs, rd, re, w⟩ => ?_
    unfold cmpR at w
    simp only at w
    split at w
    · rw [rel_int] at rd re
      exact ⟨_, _, rd, re, w.now rs (by rw [rel_bl])⟩
    · exact w.err
  | isN =>
    refine OpR.imp (op_isN.or op_isBl) fun x y H Q ⟨m, S, d, e, W, rs, rd, re, w⟩ => ?_
    unfold cmpR at w
    simp only at w
    split at w
    · rw [rel_non] at re
      refine .inl ⟨re, w.now rs ?_⟩
      rw [rel_bl, rel_none rd]
      cases d <;> rfl
    · split at w
      · rw [rel_bl] at rd re
        exact .inr ⟨_, _, rd, re, w.now rs (by rw [rel_bl])⟩
      · exact w.err
    · exact w.err
  | notN =>
    refine OpR.imp (op_notN.or op_notBl) fun x y H Q ⟨m, S, d, e, W, rs, rd, re, w⟩ => ?_
    unfold cmpR at w
    simp only at w
    split at w
    · rw [rel_non] at re
      refine .inl ⟨re, w.now rs ?_⟩
      rw [rel_bl, rel_none rd]
      cases d <;> rfl
    · split at w
      · rw [rel_bl] at rd re
        exact .inr ⟨_, _, rd, re, w.now rs (by rw [rel_bl])⟩
      · exact w.err
    · exact w.err
  | isIn =>
    refine OpR.imp (op_in_str.or (op_inT (by have := hr.un; omega))) fun x y H Q ⟨m, S, d, e, W, rs, rd, re, w⟩ => ?_
    rw [hK]
    exact in_ok (neg := false) rs rd re w fun b => rfl
  | notIn =>
    refine OpR.imp (op_notIn_str.or (op_notInT (by have := hr.un; omega))) fun x y H Q ⟨m, S, d, e, W, rs, rd, re, w⟩ => ?_
    rw [hK]
    exact in_ok (neg := true) rs rd re w fun b => rfl
theorem atD_atI {α : Type} {xs : List α} {i : Int} {a : α} (h : atD xs i = some a) : ∃ j, ixN xs.length i = some j ∧ xs[j]? = some a := by
  unfold atD at h
  unfold ixN
  split at h
  · rename_i h0
    have hl := (List.getElem?_eq_some_iff.mp h).1
    exact ⟨i.toNat, by rw [if_pos h0, if_pos (by omega)], h⟩
  · rename_i h0
    split at h
    · rename_i h1
      exact ⟨_, by rw [if_neg h0, if_pos h1], h⟩
    · cases h
theorem ix_I (hK : X.K = g.K) : IxR X (r2 g idxR) := by
  refine IxR.imp ix_seq fun x y H Q ⟨m, S, d, e, W, rs, rd, re, w⟩ => ?_
  unfold idxR at w
  split at w
  · rename_i i
    rw [rel_int] at re
    split at w
    · rename_i z
      split at w
      · rename_i c hc
        rw [rel_str] at rd
        obtain ⟨j, h1, h2⟩ := atD_atI hc
        refine .inr (.inr ⟨z, i, c, rd.1, re, rd.2.1, ?_, w.now rs (by rw [rel_str]; exact ⟨rfl, rd.2.sign (List.mem_of_getElem? h2)⟩)⟩)
        unfold atI
        rw [h1]
        exact h2
      · exact w.err
    · split at w
      · rename_i xs hx
        split at w
        · rename_i d' hd
          obtain ⟨j, h1, h2⟩ := atD_atI hd
          obtain ⟨a, vs, rfl, r, q⟩ := seqOf_sq rs rd hx
          obtain ⟨v, hv, rv⟩ := r.get h2
          have hat : atI vs i = some v := by
            unfold atI
            rw [← r.length, h1]
            exact hv
          rw [hK]
          rcases q with q | q
          · exact .inl ⟨a, vs, i, v, rfl, re, q, hat, w.now rs rv⟩
          · exact .inr (.inl ⟨a, vs, i, v, rfl, re, q, hat, w.now rs rv⟩)
        · exact w.err
      · exact w.err
  · exact w.err
theorem Rels.cut {lo hi : Option Int} (r : Rels g m n H xs vs) : Rels g m n H (cutD xs lo hi) (cutV vs lo hi) := by
  unfold cutD cutV
  rw [r.length]
  exact (r.drop _).take _
/-- slices: what is told of a thing and two bounds -/
def r3 (g : Gs) (box : Bool) : V → Option Int → Option Int → Hp → VK → Prop := fun x lo hi H Q => ∃ m S d W, RS g m S H ∧ Rel g m S.length H d x ∧ WP g W (Rel g) m S.length H (slcR box d lo hi S) Q
theorem SlR.imp {r r' : V → Option Int → Option Int → Hp → VK → Prop} (h : SlR X r) (k : ∀ x lo hi H Q, r' x lo hi H Q → r x lo hi H Q) : SlR X r' :=
  fun pins s σ H x v vl vu lo hi sl Q I rx hs pl pu q => h pins s σ H x v vl vu lo hi sl Q I rx hs pl pu (k _ _ _ _ _ q)
theorem cutS_mem {z : Str} {lo hi : Option Int} {c : Nat} (h : c ∈ (cutS z lo hi).cps.toList) : c ∈ z.cps.toList := by
  unfold cutS at h
  exact List.mem_of_mem_drop (List.mem_of_mem_take (by simpa using h))
theorem sl_I (hK : X.K = g.K) {box : Bool} : SlR X (r3 g box) := by
  refine SlR.imp (sl_tupN.or (sl_str.or sl_list)) fun x lo hi H Q ⟨m, S, d, W, rs, rd, w⟩ => ?_
  unfold slcR at w
  split at w
  · rename_i xs
    rw [rel_tup] at rd
    obtain ⟨a, vs, rfl, t, r⟩ := rd
    refine .inl ⟨a, vs, rfl, by rw [hK]; exact t.sq, fun ⟨h1, h2⟩ => ?_, fun _ => mkT_ok rs r.cut w⟩
    have e : cutD xs lo hi = xs := by
      unfold cutD
      rw [r.length, h1, h2, List.drop_zero, Nat.sub_zero]
      exact List.take_of_length_le (Nat.le_of_eq r.length)
    rw [e] at w
    exact w.now rs (by rw [rel_tup]; exact ⟨a, vs, rfl, t, r⟩)
  · rw [rel_str] at rd
    exact .inr (.inl ⟨_, rd.1, rd.2.1, w.now rs (by rw [rel_str]; exact ⟨rfl, Nat.le_trans (cutS_length _ _ _) rd.2.1, fun c hc => rd.2.2 c (cutS_mem hc)⟩)⟩)
  · rename_i hn _
    split at w
    · rename_i xs hx
      obtain ⟨a, vs, rfl, r, q⟩ := seqOf_rel rs rd hx
      rcases q with ⟨q, _⟩ | ⟨_, q⟩
      · exact .inr (.inr ⟨a, vs, rfl, by rw [hK]; exact q, fun p hp => mkL_ok rs r.cut w hp⟩)
      · exact absurd q (hn _)
    · exact w.err
end
end Iv

/-! ### expressions -/
namespace Iv
open PySem PySem.Spec PyProof.Rows L2

def EnvR (g : Gs) (m : Mp) (n : Nat) (H : Hp) (ρ : Env) (σ : L2.St) : Prop := ρ.length = σ.length ∧ ∀ (i : Nat) (d : D), ρ[i]? = some (some d) → ∃ v, σ[i]? = some (some v) ∧ Rel g m n H d v
/-- a reading by what is told of the data -/
def TI {α β : Type} (g : Gs) (W : L2.WX) (Ra : Mp → Nat → Hp → α → β → Prop) (f : Env → Sto → R α) : L2.St → Hp → (β → Hp → Prop) → Prop := fun σ H Q =>
  ∃ m ρ S, RS g m S H ∧ EnvR g m S.length H ρ σ ∧ WP g (fun c d H' => W c d σ H') Ra m S.length H (f ρ S) Q
section
variable {α β γ δ : Type} {g : Gs} {W : L2.WX} {Ra : Mp → Nat → Hp → α → β → Prop} {Rb : Mp → Nat → Hp → γ → δ → Prop} {m m1 : Mp} {n n1 : Nat} {H H1 : Hp} {S : Sto} {ρ : Env} {σ : L2.St}
theorem EnvR.mono (x : Ext m n H m1 n1 H1) (h : EnvR g m n H ρ σ) : EnvR g m1 n1 H1 ρ σ := ⟨h.1, fun i d e => let ⟨v, e1, r⟩ := h.2 i d e; ⟨v, e1, Rel.mono x d v r⟩⟩
theorem EnvR.set {d : D} {v : V} {i : Nat} (h : EnvR g m n H ρ σ) (r : Rel g m n H d v) : EnvR g m n H (ρ.set i (some d)) (σ.set i (some v)) := by
  refine ⟨by rw [List.length_set, List.length_set]; exact h.1, fun j d' e => ?_⟩
  by_cases hj : j = i
  · subst hj
    have hl : j < (ρ.set j (some d)).length := (List.getElem?_eq_some_iff.mp e).1
    rw [List.length_set] at hl
    rw [List.getElem?_set_self hl] at e
    cases e
    exact ⟨v, List.getElem?_set_self (by rw [← h.1]; exact hl), r⟩
  · rw [List.getElem?_set_ne (Ne.symm hj)] at e
    obtain ⟨w, e1, r1⟩ := h.2 j d' e
    exact ⟨w, by rw [List.getElem?_set_ne (Ne.symm hj)]; exact e1, r1⟩
theorem EnvR.wiped (h : EnvR g m n H ρ σ) : ∀ vs : List Nat, EnvR g m n H (wipeE ρ vs) (wipe σ vs)
  | [] => h
  | v :: vs => by
    have ih := EnvR.wiped h vs
    refine ⟨by unfold wipeE L2.wipe; rw [List.length_set, List.length_set]; exact ih.1, fun j d e => ?_⟩
    unfold wipeE at e
    unfold L2.wipe
    by_cases hj : j = v
    · subst hj
      have hl : j < ((wipeE ρ vs).set j none).length := (List.getElem?_eq_some_iff.mp e).1
      rw [List.length_set] at hl
      rw [List.getElem?_set_self hl] at e
      cases e
    · rw [List.getElem?_set_ne (Ne.symm hj)] at e
      obtain ⟨w, e1, r1⟩ := ih.2 j d e
      exact ⟨w, by rw [List.getElem?_set_ne (Ne.symm hj)]; exact e1, r1⟩
theorem TI.step {f : Env → Sto → R α} {k : α → Sto → R γ} {Q : δ → Hp → Prop} (rs : RS g m S H) (er : EnvR g m S.length H ρ σ) (w : WP g (fun c d H' => W c d σ H') Rb m S.length H ((f ρ S).bind k) Q) {Q' : β → Hp → Prop}
    (h : ∀ b H1 m1 S1 a, Ext m S.length H m1 S1.length H1 → RS g m1 S1 H1 → EnvR g m1 S1.length H1 ρ σ → Ra m1 S1.length H1 a b → WP g (fun c d H' => W c d σ H') Rb m1 S1.length H1 (k a S1) Q → Q' b H1) : TI g W Ra f σ H Q' :=
  ⟨m, ρ, S, rs, er, (WP.bind (Ra := Ra) w).imp fun b H1 ⟨m1, S1, a, x, rs1, ra, w1⟩ => h b H1 m1 S1 a x rs1 (er.mono x) ra w1⟩
theorem WP.bindE {r : R α} {f : α → Sto → R γ} {Q : δ → Hp → Prop} {W : Value → Option Addr → Hp → Prop} (h : WP g W Rb m n H (r.bind f) Q) :
    WP g W Ra m n H r (fun b H1 => ∃ m1 S1 a, r = .ok a S1 ∧ Ext m n H m1 S1.length H1 ∧ RS g m1 S1 H1 ∧ Ra m1 S1.length H1 a b ∧ WP g W Rb m1 S1.length H1 (f a S1) Q) := by
  cases r with
  | ok a S' => exact fun m' H' b x rs ra => ⟨m', S', a, rfl, x, rs, ra, WP.from x h⟩
  | exc e S' => exact h
  | err => exact h
theorem TI.stepE {f : Env → Sto → R α} {k : α → Sto → R γ} {Q : δ → Hp → Prop} (rs : RS g m S H) (er : EnvR g m S.length H ρ σ) (w : WP g (fun c d H' => W c d σ H') Rb m S.length H ((f ρ S).bind k) Q) {Q' : β → Hp → Prop}
    (h : ∀ b H1 m1 S1 a, f ρ S = .ok a S1 → Ext m S.length H m1 S1.length H1 → RS g m1 S1 H1 → EnvR g m1 S1.length H1 ρ σ → Ra m1 S1.length H1 a b → WP g (fun c d H' => W c d σ H') Rb m1 S1.length H1 (k a S1) Q → Q' b H1) : TI g W Ra f σ H Q' :=
  ⟨m, ρ, S, rs, er, (WP.bindE (Ra := Ra) w).imp fun b H1 ⟨m1, S1, a, e, x, rs1, ra, w1⟩ => h b H1 m1 S1 a e x rs1 (er.mono x) ra w1⟩
theorem TI.last {f : Env → Sto → R α} {Q : β → Hp → Prop} (rs : RS g m S H) (er : EnvR g m S.length H ρ σ) (w : WP g (fun c d H' => W c d σ H') Ra m S.length H (f ρ S) Q) : TI g W Ra f σ H Q := ⟨m, ρ, S, rs, er, w⟩
theorem TI.imp {f : Env → Sto → R α} {Q Q' : β → Hp → Prop} (h : TI g W Ra f σ H Q) (k : ∀ b H', Q b H' → Q' b H') : TI g W Ra f σ H Q' :=
  let ⟨m, ρ, S, rs, er, w⟩ := h
  ⟨m, ρ, S, rs, er, w.imp k⟩
end
abbrev tE (g : Gs) (W : L2.WX) (f : Env → Sto → R D) : TE := TI g W (Rel g) f
abbrev tEs (g : Gs) (W : L2.WX) (f : Env → Sto → R (List D)) : TA := TI g W (Rels g) f
abbrev tT (g : Gs) (W : L2.WX) (f : Env → Sto → R Bool) : TT := TI g W RelB f
theorem PE.imp {X : Cx} {e : Expr} {t t' : TE} (h : PE X e t) (k : ∀ σ H Q, t' σ H Q → t σ H Q) : PE X e t' := ⟨fun pins s σ H Q I q => h.run pins s σ H Q I (k σ H Q q)⟩
theorem PT.imp {X : Cx} {e : Expr} {t t' : TT} (h : PT X e t) (k : ∀ σ H Q, t' σ H Q → t σ H Q) : PT X e t' := ⟨fun pins s σ H Q I q => h.run pins s σ H Q I (k σ H Q q)⟩
theorem PW.imp {X : Cx} {e : Expr} {t t' : TT} (h : PW X e t) (k : ∀ σ H Q, t' σ H Q → t σ H Q) : PW X e t' := ⟨fun wh pins s σ H Q I q => h.run wh pins s σ H Q I (k σ H Q q)⟩
theorem PA.imp {X : Cx} {e : List Expr} {t t' : TA} (h : PA X e t) (k : ∀ σ H Q, t' σ H Q → t σ H Q) : PA X e t' := ⟨fun pos pins s σ H Q I q => h.run pos pins s σ H Q I (k σ H Q q)⟩

/-! forms of expressions -/
def okE : Expr → Bool
  | .Starred _ _ => false
  | .Slice _ _ _ _ => false
  | .Set _ _ _ => false
  | .Call (.Name id _) [] [] _ => id != "super"
  | _ => true
def plainT : Expr → Bool
  | .UnaryOp .Not _ _ => false
  | .BoolOp _ _ _ => false
  | .IfExp _ _ _ _ => false
  | .Compare _ _ _ _ => false
  | _ => true
theorem starEach_ok {e : Expr} {es : List Expr} {env : PySem.Env} (h : okE e = true) : starEach (e :: es) env = (false, eval e env) :: starEach es env := by
  cases e <;> first | rfl | (exact absurd h Bool.false_ne_true)
theorem plainIx_ok {e : Expr} (h : okE e = true) : PlainIx e := by
  intro o i
  cases e <;> first | rfl | (exact absurd h Bool.false_ne_true)
theorem mark_ok {e : Expr} {op : CmpOp} (h : okE e = true) : behindInMarks op e = false := by
  cases e <;> first | rfl | (exact absurd h Bool.false_ne_true)
theorem isTrue_ok {e : Expr} (h : plainT e = true) {env : PySem.Env} (whole : Sem Value) : isTrue e env whole = (do let v ← whole; standAt e.pos; holding [v] (truthy v)) := by
  cases e with
  | UnaryOp op a p => cases op <;> first | rfl | (exact absurd h Bool.false_ne_true)
  | _ => first | rfl | (exact absurd h Bool.false_ne_true)
theorem attrBase_ok {o : Expr} {f : Str} {env : PySem.Env} (h : okE o = true) : attributeBase o f env (eval o env) = eval o env := by
  cases o with
  | Call fn as ks p =>
    cases fn with
    | Name id q =>
      cases as with
      | nil =>
        cases ks with
        | nil =>
          have h' : (id != "super") = true := h
          unfold attributeBase
          simp only [h', Bool.true_or, if_true]
        | cons _ _ => rfl
      | cons _ _ => rfl
    | _ => rfl
  | _ => rfl
theorem lastMarks_ok {b c : Expr} {op op' : CmpOp} (hc : okE c = true) : lastMarks [op, op'] [b, c] = false := by
  show lastMarks [op'] [c] = false
  show behindInMarks op' c = false
  exact mark_ok hc
theorem folded_ok {e : Expr} {env : PySem.Env} (h : okE e = true) (x : Value) : foldedSetIterable e env x = pure x := by
  cases e <;> first | rfl | (exact absurd h Bool.false_ne_true)

section
variable {g : Gs} {W : L2.WX} {X : Cx} {F : CE} {a b c : Expr} {ia ib ic : E} {pos : Pos}
theorem i_var {i : Nat} {x : Str} (hN : X.N[i]? = some x) (hv : Vis X.env.scope x) (hd : (x == ("__debug__" : Str)) = false) (hcd : (x == ("__classdict__" : Str)) = false) : PE X (.Name x pos) (tE g W (ev F (.var i))) := by
  refine PE.imp (pe_var hN hv hd hcd) fun σ H Q ⟨m, ρ, S, rs, er, w⟩ => ?_
  rw [ev] at w
  split at w
  · rename_i d hd
    obtain ⟨v, e, r⟩ := er.2 i d hd
    exact ⟨v, e, w.now rs r⟩
  · exact w.err
theorem i_con {e : Expr} {d : D} {v : V} (h : PE X e (tC v)) (r : ∀ m n H, Rel g m n H d v) : PE X e (tE g W (ev F (.con d))) := by
  refine PE.imp h fun σ H Q ⟨m, ρ, S, rs, er, w⟩ => ?_
  rw [ev] at w
  exact w.now rs (r _ _ _)
theorem i_bin (hK : X.K = g.K) {box : Bool} {op : Bop} (ha : PE X a (tE g W (ev F ia))) (hb : PE X b (tE g W (ev F ib))) : PE X (.BinOp a (opOf op) b pos) (tE g W (ev F (.bin box op ia ib))) := by
  refine PE.imp (pe_op (op_binI (box := box) hK op) ha hb) fun σ H Q ⟨m, ρ, S, rs, er, w⟩ => ?_
  rw [ev] at w
  refine TI.step rs er w fun x H1 m1 S1 d x1 rs1 er1 r1 w => ?_
  refine TI.step rs1 er1 w fun y H2 m2 S2 e x2 rs2 er2 r2 w => ?_
  exact ⟨m2, S2, d, e, _, rs2, Rel.mono x2 _ _ r1, r2, w⟩
theorem i_cmp (hK : X.K = g.K) {k : Nat} (hr : Room k X.A) {op : Cop} (ok : okE b = true) (ha : PE X a (tE g W (ev F ia))) (hb : PE X b (tE g W (ev F ib))) : PE X (.Compare a [copOf op] [b] pos) (tE g W (ev F (.cmp op ia ib))) := by
  refine PE.imp (pe_cmpR (op_cmpI hK hr op) ha hb (mark_ok ok)) fun σ H Q ⟨m, ρ, S, rs, er, w⟩ => ?_
  rw [ev] at w
  refine TI.step rs er w fun x H1 m1 S1 d x1 rs1 er1 r1 w => ?_
  refine TI.step rs1 er1 w fun y H2 m2 S2 e x2 rs2 er2 r2 w => ?_
  exact ⟨m2, S2, d, e, _, rs2, Rel.mono x2 _ _ r1, r2, w⟩
theorem eqD_form {x y : D} {S : Sto} {k : Bool → R D} : (∃ b, eqD x y S k = k b) ∨ eqD x y S k = .err := by
  unfold eqD ck
  split
  · exact .inl ⟨_, rfl⟩
  · exact .inr rfl
theorem eqX_form {x y : D} {S : Sto} {k : Bool → R D} : (∃ b, eqX x y S k = k b) ∨ eqX x y S k = .err := by
  unfold eqX ck
  split
  · exact .inl ⟨_, rfl⟩
  · exact .inr rfl
theorem inR_form {x y : D} {S : Sto} {k : Bool → R D} : (∃ b, cmpR.inR x y S k = k b) ∨ cmpR.inR x y S k = .err := by
  unfold cmpR.inR ck
  split
  · split
    · exact .inl ⟨_, rfl⟩
    · exact .inl ⟨_, rfl⟩
  · split
    · split
      · exact .inl ⟨_, rfl⟩
      · exact .inr rfl
    · exact .inr rfl
theorem cmpR_form (op : Cop) (x y : D) (S : Sto) : (∃ b, cmpR op x y S = .ok (.bl b) S) ∨ cmpR op x y S = .err := by
  cases op with
  | eq =>
    rcases eqD_form (x := x) (y := y) (S := S) (k := fun b => .ok (.bl b) S) with ⟨b, h⟩ | h
    · exact .inl ⟨b, h⟩
    · exact .inr h
  | ne =>
    rcases eqD_form (x := x) (y := y) (S := S) (k := fun b => .ok (.bl (!b)) S) with ⟨b, h⟩ | h
    · exact .inl ⟨!b, h⟩
    · exact .inr h
  | eqd =>
    rcases eqX_form (x := x) (y := y) (S := S) (k := fun b => .ok (.bl b) S) with ⟨b, h⟩ | h
    · exact .inl ⟨b, h⟩
    · exact .inr h
  | ned =>
    rcases eqX_form (x := x) (y := y) (S := S) (k := fun b => .ok (.bl (!b)) S) with ⟨b, h⟩ | h
    · exact .inl ⟨!b, h⟩
    · exact .inr h
  | isIn =>
    rcases inR_form (x := x) (y := y) (S := S) (k := fun b => .ok (.bl b) S) with ⟨b, h⟩ | h
    · exact .inl ⟨b, h⟩
    · exact .inr h
  | notIn =>
    rcases inR_form (x := x) (y := y) (S := S) (k := fun b => .ok (.bl (!b)) S) with ⟨b, h⟩ | h
    · exact .inl ⟨!b, h⟩
    · exact .inr h
  | _ =>
    unfold cmpR
    simp only
    split <;> first | exact .inl ⟨_, rfl⟩ | exact .inr rfl | (split <;> first | exact .inl ⟨_, rfl⟩ | exact .inr rfl) | (unfold ordX ck; split <;> first | exact .inl ⟨_, rfl⟩ | exact .inr rfl)
theorem wp_bl {W' : Value → Option Addr → Hp → Prop} {m : Mp} {n : Nat} {H : Hp} {r : R D} {Q : Bool → Hp → Prop} (f : (∃ b S, r = .ok (.bl b) S) ∨ r = .err) (w : WP g W' RelB m n H (r.bind fun z S => tru z S) Q) : WP g W' (Rel g) m n H r fun x H' => ∃ k, x = .bl k ∧ Q k H' := by
  rcases f with ⟨b, S, rfl⟩ | rfl
  · intro m' H' v x rs r
    rw [rel_bl] at r
    exact ⟨b, r, w m' H' b x rs rfl⟩
  · exact w
theorem t_cmp (hK : X.K = g.K) {k : Nat} (hr : Room k X.A) {op : Cop} (ok : okE b = true) (ha : PE X a (tE g W (ev F ia))) (hb : PE X b (tE g W (ev F ib))) : PT X (.Compare a [copOf op] [b] pos) (tT g W fun ρ S => (ev F (.cmp op ia ib) ρ S).bind fun z S => tru z S) := by
  refine PT.imp (pt_cmpR (op_cmpI hK hr op) ha hb (mark_ok ok)) fun σ H Q ⟨m, ρ, S, rs, er, w⟩ => ?_
  dsimp only at w
  rw [ev] at w
  unfold tTest
  have bind3 : ∀ {α β γ : Type} (r : R α) (f : α → Sto → R β) (h : β → Sto → R γ), (r.bind f).bind h = r.bind fun x S => (f x S).bind h := fun r f h => by cases r <;> rfl
  rw [bind3] at w
  refine TI.step rs er w fun x H1 m1 S1 d x1 rs1 er1 r1 w => ?_
  rw [bind3] at w
  refine TI.step rs1 er1 w fun y H2 m2 S2 e x2 rs2 er2 r2 w => ?_
  refine ⟨m2, S2, d, e, _, rs2, Rel.mono x2 _ _ r1, r2, wp_bl ?_ w⟩
  rcases cmpR_form op d e S2 with ⟨b, h⟩ | h
  · exact .inl ⟨b, S2, h⟩
  · exact .inr h
theorem R.bind_bind {α β γ : Type} (r : R α) (f : α → Sto → R β) (h : β → Sto → R γ) : (r.bind f).bind h = r.bind fun x S => (f x S).bind h := by cases r <;> rfl
theorem tru_bl {b : Bool} {S : Sto} : tru (.bl b) S = .ok b S := rfl
theorem chain_body (hK : X.K = g.K) {op op' : Cop} {σ : L2.St} {H : Hp} {Q : VK} {m : Mp} {ρ : Env} {S : Sto} (rs : RS g m S H) (er : EnvR g m S.length H ρ σ) (w : WP g (fun c d H' => W c d σ H') (Rel g) m S.length H (ev F (.chain op op' ia ib ic) ρ S) Q) :
    tChain (r2 g (cmpR op)) (r2 g (cmpR op')) (tE g W (ev F ia)) (tE g W (ev F ib)) (tE g W (ev F ic)) σ H Q := by
  rw [ev] at w
  refine TI.step rs er w fun x H1 m1 S1 d x1 rs1 er1 r1 w => ?_
  refine TI.step rs1 er1 w fun y H2 m2 S2 e x2 rs2 er2 r2 w => ?_
  refine ⟨m2, S2, d, e, (fun c d H' => W c d σ H'), rs2, Rel.mono x2 _ _ r1, r2, ?_⟩
  rcases cmpR_form op d e S2 with ⟨b, h⟩ | h
  · rw [h] at w ⊢
    intro m3 H3 v x3 rs3 r3
    rw [rel_bl] at r3
    refine ⟨b, r3, ?_⟩
    simp only [R.bind_ok, tru_bl] at w
    have w := w.from x3
    cases b with
    | false =>
      rw [if_neg Bool.false_ne_true] at w ⊢
      exact w.now rs3 (by rw [rel_bl])
    | true =>
      rw [if_pos rfl] at w ⊢
      refine TI.step rs3 (er2.mono x3) w fun z H4 m4 S4 f x4 rs4 er4 r4 w => ?_
      exact ⟨m4, S4, e, f, _, rs4, Rel.mono (x3.trans x4) _ _ r2, r4, w⟩
  · rw [h] at w
    exact w.err
theorem i_chain (hK : X.K = g.K) {k : Nat} (hr : Room k X.A) {op op' : Cop} (ok : okE c = true) (ha : PE X a (tE g W (ev F ia))) (hb : PE X b (tE g W (ev F ib))) (hc : PE X c (tE g W (ev F ic))) :
    PE X (.Compare a [copOf op, copOf op'] [b, c] pos) (tE g W (ev F (.chain op op' ia ib ic))) :=
  PE.imp (pe_chain (op_cmpI hK hr op) (op_cmpI hK hr op') ha hb hc (lastMarks_ok ok)) fun σ H Q ⟨m, ρ, S, rs, er, w⟩ => chain_body hK rs er w
/-! and, or, not, tests -/
theorem i_and (hK : X.K = g.K) {rest : List Expr} (ha : PE X a (tE g W (ev F ia))) (hb : PE X (.BoolOp .And (b :: rest) pos) (tE g W (ev F ib))) : PE X (.BoolOp .And (a :: b :: rest) pos) (tE g W (ev F (.and ia ib))) := by
  refine PE.imp (pe_andT ha hb) fun σ H Q ⟨m, ρ, S, rs, er, w⟩ => ?_
  rw [ev] at w
  refine TI.step rs er w fun x H1 m1 S1 d x1 rs1 er1 r1 w => ?_
  rw [hK]
  have w2 := WP.bind (Ra := RelB) w
  obtain ⟨k, tk, m2, S2, k', x2, rs2, rb, w3⟩ := tru_rel rs1 r1 w2
  cases rb
  refine ⟨k, tk, ?_⟩
  cases k with
  | true =>
    rw [if_pos rfl] at w3 ⊢
    exact TI.last rs2 (er1.mono x2) w3
  | false =>
    rw [if_neg Bool.false_ne_true] at w3 ⊢
    exact w3.now rs2 (Rel.mono x2 _ _ r1)
theorem i_or (hK : X.K = g.K) {rest : List Expr} (ha : PE X a (tE g W (ev F ia))) (hb : PE X (.BoolOp .Or (b :: rest) pos) (tE g W (ev F ib))) : PE X (.BoolOp .Or (a :: b :: rest) pos) (tE g W (ev F (.or ia ib))) := by
  refine PE.imp (pe_orT ha hb) fun σ H Q ⟨m, ρ, S, rs, er, w⟩ => ?_
  rw [ev] at w
  refine TI.step rs er w fun x H1 m1 S1 d x1 rs1 er1 r1 w => ?_
  rw [hK]
  have w2 := WP.bind (Ra := RelB) w
  obtain ⟨k, tk, m2, S2, k', x2, rs2, rb, w3⟩ := tru_rel rs1 r1 w2
  cases rb
  refine ⟨k, tk, ?_⟩
  cases k with
  | true =>
    rw [if_pos rfl] at w3 ⊢
    exact w3.now rs2 (Rel.mono x2 _ _ r1)
  | false =>
    rw [if_neg Bool.false_ne_true] at w3 ⊢
    exact TI.last rs2 (er1.mono x2) w3
theorem i_not (hK : X.K = g.K) (ha : PE X a (tE g W (ev F ia))) : PE X (.UnaryOp .Not a pos) (tE g W (ev F (.not ia))) := by
  refine PE.imp (pe_notT ha) fun σ H Q ⟨m, ρ, S, rs, er, w⟩ => ?_
  rw [ev] at w
  refine TI.step rs er w fun x H1 m1 S1 d x1 rs1 er1 r1 w => ?_
  rw [hK]
  have w2 := WP.bind (Ra := RelB) w
  obtain ⟨k, tk, m2, S2, k', x2, rs2, rb, w3⟩ := tru_rel rs1 r1 w2
  cases rb
  exact ⟨k, tk, w3.now rs2 (by rw [rel_bl])⟩
theorem i_neg (ha : PE X a (tE g W (ev F ia))) : PE X (.UnaryOp .USub a pos) (tE g W (ev F (.neg ia))) := by
  refine PE.imp (pe_un un_neg ha) fun σ H Q ⟨m, ρ, S, rs, er, w⟩ => ?_
  rw [ev] at w
  refine TI.step rs er w fun x H1 m1 S1 d x1 rs1 er1 r1 w => ?_
  split at w
  · rw [rel_int] at r1
    exact ⟨_, r1, w.now rs1 (by rw [rel_int])⟩
  · exact w.err
noncomputable abbrev evT (F : CE) (e : E) : Env → Sto → R Bool := fun ρ S => (ev F e ρ S).bind fun z S => tru z S
theorem t_val (hK : X.K = g.K) (pl : plainT a = true) (ha : PE X a (tE g W (ev F ia))) : PT X a (tT g W (evT F ia)) := by
  refine PT.imp (pt_truth ha fun wh => isTrue_ok pl wh) fun σ H Q ⟨m, ρ, S, rs, er, w⟩ => ?_
  refine TI.step rs er w fun x H1 m1 S1 d x1 rs1 er1 r1 w => ?_
  rw [hK]
  exact tru_rel rs1 r1 w
theorem t_not (ha : PT X a (tT g W (evT F ia))) : PT X (.UnaryOp .Not a pos) (tT g W (evT F (.not ia))) := by
  refine PT.imp (pt_not ha) fun σ H Q ⟨m, ρ, S, rs, er, w⟩ => ?_
  unfold evT at w
  rw [ev, R.bind_bind] at w
  have e : ((ev F ia ρ S).bind fun x S => ((tru x S).bind fun b S => R.ok (D.bl (!b)) S).bind fun z S => tru z S) = ((ev F ia ρ S).bind fun x S => tru x S).bind fun b S => R.ok (!b) S := by
    rw [R.bind_bind]
    congr 1
    funext x S
    rw [R.bind_bind]
    rfl
  rw [e] at w
  refine TI.step (Ra := RelB) (f := evT F ia) rs er w fun k H1 m1 S1 d x1 rs1 er1 r1 w => ?_
  cases r1
  exact w.now rs1 rfl
theorem w_and (ha : PT X a (tT g W (evT F ia))) {rest : List Expr} (hb : PW X (.BoolOp .And (b :: rest) pos) (tT g W (evT F ib))) : PW X (.BoolOp .And (a :: b :: rest) pos) (tT g W (evT F (.and ia ib))) := by
  refine PW.imp (pw_and ha hb) fun σ H Q ⟨m, ρ, S, rs, er, w⟩ => ?_
  have e : evT F (.and ia ib) ρ S = (evT F ia ρ S).bind fun k S => if k = true then evT F ib ρ S else .ok false S := by
    unfold evT
    rw [ev, R.bind_bind, R.bind_bind]
    congr 1
    funext x S
    rw [R.bind_bind]
    unfold tru
    cases h : truR S x with
    | none => rfl
    | some k =>
      simp only [R.bind_ok]
      cases k with
      | true => rfl
      | false =>
        rw [if_neg Bool.false_ne_true, if_neg Bool.false_ne_true, R.bind_ok, h]
  rw [e] at w
  refine TI.step (Ra := RelB) (f := evT F ia) rs er w fun k H1 m1 S1 d x1 rs1 er1 r1 w => ?_
  cases r1
  cases k with
  | true =>
    rw [if_pos rfl] at w ⊢
    exact TI.last rs1 er1 w
  | false =>
    rw [if_neg Bool.false_ne_true] at w ⊢
    exact w.now rs1 rfl
theorem w_or (ha : PT X a (tT g W (evT F ia))) {rest : List Expr} (hb : PW X (.BoolOp .Or (b :: rest) pos) (tT g W (evT F ib))) : PW X (.BoolOp .Or (a :: b :: rest) pos) (tT g W (evT F (.or ia ib))) := by
  refine PW.imp (pw_or ha hb) fun σ H Q ⟨m, ρ, S, rs, er, w⟩ => ?_
  have e : evT F (.or ia ib) ρ S = (evT F ia ρ S).bind fun k S => if k = true then .ok true S else evT F ib ρ S := by
    unfold evT
    rw [ev, R.bind_bind, R.bind_bind]
    congr 1
    funext x S
    rw [R.bind_bind]
    unfold tru
    cases h : truR S x with
    | none => rfl
    | some k =>
      simp only [R.bind_ok]
      cases k with
      | true => rw [if_pos rfl, if_pos rfl, R.bind_ok, h]
      | false => rfl
  rw [e] at w
  refine TI.step (Ra := RelB) (f := evT F ia) rs er w fun k H1 m1 S1 d x1 rs1 er1 r1 w => ?_
  cases r1
  cases k with
  | true =>
    rw [if_pos rfl] at w ⊢
    exact w.now rs1 rfl
  | false =>
    rw [if_neg Bool.false_ne_true] at w ⊢
    exact TI.last rs1 er1 w
/-! argument lists, displays, items, slices -/
theorem a_nil : PA X [] (tEs g W (evs F [])) := by
  refine PA.imp pa_nil fun σ H Q ⟨m, ρ, S, rs, er, w⟩ => ?_
  rw [evs] at w
  exact w.now rs Rels.nil
theorem a_cons {es : List Expr} {ies : List E} (ok : okE a = true) (ha : PE X a (tE g W (ev F ia))) (hr : PA X es (tEs g W (evs F ies))) : PA X (a :: es) (tEs g W (evs F (ia :: ies))) := by
  refine PA.imp (pa_cons ha hr (starEach_ok ok)) fun σ H Q ⟨m, ρ, S, rs, er, w⟩ => ?_
  rw [evs] at w
  refine TI.step rs er w fun x H1 m1 S1 d x1 rs1 er1 r1 w => ?_
  refine TI.step (Ra := Rels g) rs1 er1 w fun ys H2 m2 S2 ds x2 rs2 er2 r2 w => ?_
  exact w.now rs2 (Rels.cons (Rel.mono x2 _ _ r1) r2)
theorem i_tup {es : List Expr} {ies : List E} {k : Nat} (h : PA X es (tEs g W (evs F ies))) : PE X (.Tuple es k pos) (tE g W (ev F (.tup ies))) := by
  refine PE.imp (pe_tupN h) fun σ H Q ⟨m, ρ, S, rs, er, w⟩ => ?_
  rw [ev] at w
  refine TI.step (Ra := Rels g) rs er w fun xs H1 m1 S1 ds x1 rs1 er1 r1 w => ?_
  obtain ⟨c, w⟩ := w.ck
  exact ⟨by rw [← r1.length]; exact c, mkT_ok rs1 r1 w⟩
theorem i_lst {es : List Expr} {ies : List E} {box : Bool} (h : PA X es (tEs g W (evs F ies))) : PE X (.List es pos) (tE g W (ev F (.lst box ies))) := by
  refine PE.imp (pe_lst h) fun σ H Q ⟨m, ρ, S, rs, er, w⟩ => ?_
  rw [ev] at w
  refine TI.step (Ra := Rels g) rs er w fun xs H1 m1 S1 ds x1 rs1 er1 r1 w => ?_
  obtain ⟨c, w⟩ := w.ck
  exact ⟨by rw [← r1.length]; exact c, fun p hp => mkL_ok rs1 r1 w hp⟩
theorem i_idx (hK : X.K = g.K) (ok : okE b = true) (ha : PE X a (tE g W (ev F ia))) (hb : PE X b (tE g W (ev F ib))) : PE X (.Subscript a b pos) (tE g W (ev F (.idx ia ib))) := by
  refine PE.imp (pe_ix (ix_I hK) ha hb (plainIx_ok ok)) fun σ H Q ⟨m, ρ, S, rs, er, w⟩ => ?_
  rw [ev] at w
  refine TI.step rs er w fun x H1 m1 S1 d x1 rs1 er1 r1 w => ?_
  refine TI.step rs1 er1 w fun y H2 m2 S2 e x2 rs2 er2 r2 w => ?_
  exact ⟨m2, S2, d, e, _, rs2, Rel.mono x2 _ _ r1, r2, w⟩
/-- a part of a slice: what is told, as an int -/
def RelI : Mp → Nat → Hp → Option Int → Option Int → Prop := fun _ _ _ a b => a = b
abbrev partT (g : Gs) (W : L2.WX) (F : CE) (o : Option E) : TO := TI g W RelI (evp F o)
theorem p_none : PO X none (partT g W F none) := by
  have h : PO X none tNoPart := po_none
  refine ⟨fun pins s σ H Q I ⟨m, ρ, S, rs, er, w⟩ => h.run pins s σ H Q I ?_⟩
  rw [evp.eq_def] at w
  exact WP.now (b := none) w rs rfl
theorem p_some (ha : PE X a (tE g W (ev F ia))) : PO X (some a) (partT g W F (some ia)) := by
  refine ⟨fun pins s σ H Q I ⟨m, ρ, S, rs, er, w⟩ => (po_some ha).run pins s σ H Q I ?_⟩
  rw [evp.eq_def] at w
  refine TI.step rs er w fun x H1 m1 S1 d x1 rs1 er1 r1 w => ?_
  split at w
  · rename_i j
    rw [rel_int] at r1
    exact ⟨j, r1, WP.now (b := some j) w rs1 rfl⟩
  · exact w.err
theorem i_slc (hK : X.K = g.K) {box : Bool} {lo hi : Option Expr} {il ih : Option E} {p2 : Pos} (ha : PE X a (tE g W (ev F ia))) (hl : PO X lo (partT g W F il)) (hh : PO X hi (partT g W F ih)) :
    PE X (.Subscript a (.Slice lo hi none p2) pos) (tE g W (ev F (.slc box ia il ih))) := by
  refine PE.imp (pe_slice (sl_I (box := box) hK) ha hl hh) fun σ H Q ⟨m, ρ, S, rs, er, w⟩ => ?_
  rw [ev] at w
  refine TI.step rs er w fun x H1 m1 S1 d x1 rs1 er1 r1 w => ?_
  refine TI.step (Ra := RelI) rs1 er1 w fun l H2 m2 S2 l' x2 rs2 er2 r2 w => ?_
  refine TI.step (Ra := RelI) rs2 er2 w fun u H3 m3 S3 u' x3 rs3 er3 r3 w => ?_
  cases r2
  cases r3
  exact ⟨m3, S3, d, _, rs3, Rel.mono (x2.trans x3) _ _ r1, w⟩
end
end Iv

/-! ### built-in functions, methods, calls -/
namespace Iv
open PySem PySem.Spec PyProof.Rows L2

/-- str of a text is that text -/
theorem callStrStr {X : Cx} : CallR X (.type "str") (fun vs H Q => ∃ w, vs = [.str w] ∧ Q (.str w) H) := fun pins s σ H vs us Q I r ⟨w, e, q⟩ => by
  subst e
  obtain ⟨_, rfl, k, rfl⟩ := vals1 r
  exact PySem.P.str_of_str ⟨.str w, H, I, ⟨k, rfl⟩, q⟩
/-- what a built-in function tells -/
def rb (g : Gs) (b : Bi) : List V → Hp → VK → Prop := fun xs H Q => ∃ m S ds W, RS g m S H ∧ Rels g m S.length H ds xs ∧ WP g W (Rel g) m S.length H (biR b ds S) Q
def biVal : Bi → Value
  | .len => .builtin "len"
  | .abs => .builtin "abs"
  | .min2 => .builtin "min"
  | .max2 => .builtin "max"
  | .minL => .builtin "min"
  | .maxL => .builtin "max"
  | .sumL => .builtin "sum"
  | .sumS => .builtin "sum"
  | .all => .builtin "all"
  | .any => .builtin "any"
  | .int1 => .type "int"
  | .list1 _ => .type "list"
  | .tuple1 => .type "tuple"
  | .sorted1 _ => .builtin "sorted"
  | .isi => .builtin "isinstance"
  | .isc _ => .builtin "isinstance"
  | .maxD => .builtin "max"
  | .sumLL => .builtin "sum"
  | .str1 => .type "str"
  | .sortedR _ => .builtin "sorted"
  | .sortedT _ => .builtin "sorted"
  | .strp => .type "str"
  | .intS => .type "int"
section
variable {g : Gs} {W : Value → Option Addr → Hp → Prop} {m : Mp} {n : Nat} {H : Hp} {S : Sto} {Q : VK} {d e : D} {v x y : V} {xs ys : List D} {vs : List V} {X : Cx}
theorem ints_rel : ∀ {xs : List D} {vs : List V} {ns : List Int}, Rels g m n H xs vs → intsD xs = some ns → vs = ns.map V.int
  | [], _, _, r, e => by unfold Rels at r; subst r; cases e; rfl
  | x :: xs, _, ns, r, e => by
    unfold Rels at r
    obtain ⟨w, ws, rfl, r1, r2⟩ := r
    cases x with
    | int i =>
      obtain ⟨ns', h1, rfl⟩ := Option.map_eq_some_iff.mp (show (intsD xs).map (i :: ·) = some ns from e)
      rw [rel_int] at r1
      rw [r1, ints_rel r2 h1]
      rfl
    | _ => cases e
theorem bls_rel : ∀ {xs : List D} {vs : List V} {ns : List Bool}, Rels g m n H xs vs → blsD xs = some ns → vs = ns.map V.bl
  | [], _, _, r, e => by unfold Rels at r; subst r; cases e; rfl
  | x :: xs, _, ns, r, e => by
    unfold Rels at r
    obtain ⟨w, ws, rfl, r1, r2⟩ := r
    cases x with
    | bl i =>
      obtain ⟨ns', h1, rfl⟩ := Option.map_eq_some_iff.mp (show (blsD xs).map (i :: ·) = some ns from e)
      rw [rel_bl] at r1
      rw [r1, bls_rel r2 h1]
      rfl
    | _ => cases e
theorem lst_sq (rs : RS g m S H) (h : Rel g m S.length H d v) (e : lstOf S d = some xs) : ∃ a vs, v = .ref a ∧ Rels g m S.length H xs vs ∧ SqL g.K H a vs := by
  have e' : seqOf S d = some xs ∧ ∀ zs, d ≠ .tup zs := by
    cases d with
    | tup zs => cases e
    | _ => exact ⟨e, fun _ z => by cases z⟩
  obtain ⟨a, vs, rfl, r, q⟩ := seqOf_rel rs h e'.1
  rcases q with ⟨q, _⟩ | ⟨_, q⟩
  · exact ⟨a, vs, rfl, r, q⟩
  · exact absurd q (e'.2 _)
theorem ints_sq (rs : RS g m S H) (h : Rel g m S.length H d v) {ns : List Int} (e : intsOf S d = some ns) : ∃ a, v = .ref a ∧ SqL g.K H a (ns.map V.int) := by
  obtain ⟨xs, h1, h2⟩ := Option.bind_eq_some_iff.mp e
  obtain ⟨a, vs, rfl, r, q⟩ := lst_sq rs h h1
  rw [ints_rel r h2] at q
  exact ⟨a, rfl, q⟩
theorem bls_sq (rs : RS g m S H) (h : Rel g m S.length H d v) {ns : List Bool} (e : (lstOf S d).bind blsD = some ns) : ∃ a, v = .ref a ∧ SqL g.K H a (ns.map V.bl) := by
  obtain ⟨xs, h1, h2⟩ := Option.bind_eq_some_iff.mp e
  obtain ⟨a, vs, rfl, r, q⟩ := lst_sq rs h h1
  rw [bls_rel r h2] at q
  exact ⟨a, rfl, q⟩
theorem min_spec : ∀ {ns : List Int} {i : Int}, minI ns = some i → i ∈ ns ∧ ∀ y ∈ ns, i ≤ y := by
  have go : ∀ (r : List Int) (a : Int), (r.foldl (fun m x => if x < m then x else m) a = a ∨ r.foldl (fun m x => if x < m then x else m) a ∈ r) ∧ r.foldl (fun m x => if x < m then x else m) a ≤ a ∧ ∀ y ∈ r, r.foldl (fun m x => if x < m then x else m) a ≤ y := by
    intro r
    induction r with
    | nil => intro a; exact ⟨.inl rfl, Int.le_refl _, fun _ h => by cases h⟩
    | cons b r ih =>
      intro a
      rw [List.foldl_cons]
      obtain ⟨h1, h2, h3⟩ := ih (if b < a then b else a)
      refine ⟨?_, ?_, fun y hy => ?_⟩
      · rcases h1 with h1 | h1
        · rw [h1]
          split
          · exact .inr (List.mem_cons_self ..)
          · exact .inl rfl
        · exact .inr (List.mem_cons_of_mem _ h1)
      · refine Int.le_trans h2 ?_
        split <;> omega
      · rcases List.mem_cons.mp hy with rfl | hy
        · refine Int.le_trans h2 ?_
          split <;> omega
        · exact h3 y hy
  intro ns i h
  cases ns with
  | nil => cases h
  | cons a r =>
    cases h
    obtain ⟨h1, h2, h3⟩ := go r a
    refine ⟨?_, fun y hy => ?_⟩
    · rcases h1 with h1 | h1
      · rw [h1]; exact List.mem_cons_self ..
      · exact List.mem_cons_of_mem _ h1
    · rcases List.mem_cons.mp hy with rfl | hy
      · exact h2
      · exact h3 y hy
theorem max_spec : ∀ {ns : List Int} {i : Int}, maxI ns = some i → i ∈ ns ∧ ∀ y ∈ ns, y ≤ i := by
  have go : ∀ (r : List Int) (a : Int), (r.foldl (fun m x => if m < x then x else m) a = a ∨ r.foldl (fun m x => if m < x then x else m) a ∈ r) ∧ a ≤ r.foldl (fun m x => if m < x then x else m) a ∧ ∀ y ∈ r, y ≤ r.foldl (fun m x => if m < x then x else m) a := by
    intro r
    induction r with
    | nil => intro a; exact ⟨.inl rfl, Int.le_refl _, fun _ h => by cases h⟩
    | cons b r ih =>
      intro a
      rw [List.foldl_cons]
      obtain ⟨h1, h2, h3⟩ := ih (if a < b then b else a)
      refine ⟨?_, ?_, fun y hy => ?_⟩
      · rcases h1 with h1 | h1
        · rw [h1]
          split
          · exact .inr (List.mem_cons_self ..)
          · exact .inl rfl
        · exact .inr (List.mem_cons_of_mem _ h1)
      · refine Int.le_trans ?_ h2
        split <;> omega
      · rcases List.mem_cons.mp hy with rfl | hy
        · refine Int.le_trans ?_ h2
          split <;> omega
        · exact h3 y hy
  intro ns i h
  cases ns with
  | nil => cases h
  | cons a r =>
    cases h
    obtain ⟨h1, h2, h3⟩ := go r a
    refine ⟨?_, fun y hy => ?_⟩
    · rcases h1 with h1 | h1
      · rw [h1]; exact List.mem_cons_self ..
      · exact List.mem_cons_of_mem _ h1
    · rcases List.mem_cons.mp hy with rfl | hy
      · exact h2
      · exact h3 y hy
theorem ty_rel (rs : RS g m S H) (h : Rel g m S.length H d v) {a : String} (e : tyOf S d = some a) : TyX g.K H v (.type a) := by
  cases d with
  | non => cases e; rw [rel_non] at h; subst h; exact .base .non
  | bl _ => cases e; rw [rel_bl] at h; subst h; exact .base (.bl _)
  | int _ => cases e; rw [rel_int] at h; subst h; exact .base (.int _)
  | str _ => cases e; rw [rel_str] at h; obtain ⟨rfl, _⟩ := h; exact .base (.str _)
  | tup _ =>
    cases e
    rw [rel_tup] at h
    obtain ⟨a, vs, rfl, t | t | t, _⟩ := h
    · exact .base (.tup t.1)
    · rcases t.1 (fun _ => none) with (z | ⟨_, z⟩) | ⟨o, _, _, k, c, _⟩
      · cases z
      · cases z
      · exact .kTuple k c
    · obtain ⟨o, e, _⟩ := t
      exact .fTuple e
  | lst _ => cases e; rw [rel_lst] at h; obtain ⟨a, vs, rfl, ⟨t, _⟩, _⟩ := h; exact .base (.lst t)
  | scr _ =>
    cases e
    rw [rel_scr] at h
    obtain ⟨a, vs, rfl, t | t, _⟩ := h
    · obtain ⟨o, t, _⟩ := t
      exact .base (.frz t)
    · rcases t (fun _ => none) with (z | ⟨_, z⟩) | ⟨o, _, _, k, c, _⟩
      · cases z
      · cases z
      · exact .kList k c
  | ref i =>
    have e' : (match cellAt S i with | some (.lst _) => some "list" | _ => none) = some a := e
    split at e'
    · rename_i hz
      cases e'
      obtain ⟨a, rfl, _, vs, k, r⟩ := h.box rs hz
      exact .base (.lst k)
    · cases e'
  | ins _ _ => cases e
  | ty _ => cases e
  | ntp _ => cases e
  | exv _ _ _ => cases e
  | wtp _ => cases e
theorem len_rel (rs : RS g m S H) (h : Rel g m S.length H d v) {k : Nat} (e : lenR S d = some k) : LenV g.K v H k := by
  have seq : (seqOf S d).map (·.length) = some k → LenV g.K v H k := fun e => by
    obtain ⟨xs, hx, rfl⟩ := Option.map_eq_some_iff.mp e
    obtain ⟨a, vs, rfl, r, q⟩ := seqOf_sq rs h hx
    rcases q with q | q
    · exact .inl ⟨vs, q, r.length⟩
    · exact .inr ⟨vs, q, r.length⟩
  cases d with
  | str z => cases e; rw [rel_str] at h; obtain ⟨rfl, o⟩ := h; exact ⟨o.1, rfl⟩
  | non => exact seq e
  | bl _ => exact seq e
  | int _ => exact seq e
  | tup _ => exact seq e
  | lst _ => exact seq e
  | scr _ => exact seq e
  | ref _ => exact seq e
  | ins _ _ => exact seq e
  | ty _ => exact seq e
  | ntp _ => exact seq e
  | exv _ _ _ => exact seq e
  | wtp _ => exact seq e
theorem Rels.pairs : ∀ {ps : List (D × V)}, (∀ p ∈ ps, Rel g m n H p.1 p.2) → Rels g m n H (ps.map Prod.fst) (ps.map Prod.snd)
  | [], _ => Rels.nil
  | p :: ps, h => Rels.cons (h p (List.mem_cons_self ..)) (Rels.pairs fun q hq => h q (List.mem_cons_of_mem _ hq))
theorem Rels.zip : ∀ {xs : List D} {vs : List V}, Rels g m n H xs vs → ∀ p ∈ xs.zip vs, Rel g m n H p.1 p.2
  | [], _, _, p, hp => by cases hp
  | x :: xs, _, r, p, hp => by
    unfold Rels at r
    obtain ⟨w, ws, rfl, r1, r2⟩ := r
    rcases List.mem_cons.mp hp with rfl | hp
    · exact r1
    · exact Rels.zip r2 p hp
theorem map_fst_zip {α β : Type} : ∀ {xs : List α} {ys : List β}, xs.length = ys.length → (xs.zip ys).map Prod.fst = xs ∧ (xs.zip ys).map Prod.snd = ys
  | [], [], _ => ⟨rfl, rfl⟩
  | x :: xs, y :: ys, l => by
    obtain ⟨h1, h2⟩ := map_fst_zip (xs := xs) (ys := ys) (Nat.succ.inj l)
    exact ⟨by rw [List.zip_cons_cons, List.map_cons, h1], by rw [List.zip_cons_cons, List.map_cons, h2]⟩
  | [], _ :: _, l => by cases l
  | _ :: _, [], l => by cases l
theorem vals_each : ∀ {xs : List D} {vs : List V} {us : List Value}, xs.length = vs.length → Vals vs us → PySem.W.EachIs (fun (u : Value) (b : D × V) => RelV b.2 u) us (xs.zip vs)
  | [], [], _, _, r => by cases r; exact .nil
  | x :: xs, v :: vs, _, l, r => by
    cases r with
    | cons h t => exact .cons h (vals_each (Nat.succ.inj l) t)
  | [], _ :: _, _, l, _ => by cases l
  | _ :: _, [], _, l, _ => by cases l
theorem each_vals : ∀ {ps : List (D × V)} {us : List Value}, PySem.W.EachIs (fun (u : Value) (b : D × V) => RelV b.2 u) us ps → Vals (ps.map Prod.snd) us
  | [], _, .nil => .nil
  | p :: ps, _, .cons h t => .cons h (each_vals t)
theorem each_imp {α β : Type} {R R' : α → β → Prop} : ∀ {as : List α} {bs : List β}, PySem.W.EachIs R as bs → (∀ a b, b ∈ bs → R a b → R' a b) → PySem.W.EachIs R' as bs
  | _, _, .nil, _ => .nil
  | _, _, .cons h t, k => .cons (k _ _ (List.mem_cons_self ..) h) (each_imp t fun a b hb => k a b (List.mem_cons_of_mem _ hb))
theorem pys_map : ∀ xs : List D, D.pys xs = xs.map D.py
  | [] => rfl
  | x :: xs => by rw [D.pys, List.map_cons, pys_map xs]
theorem dps_mem : ∀ {xs : List D} {x : D}, x ∈ xs → x.dp ≤ D.dps xs
  | y :: ys, x, h => by
    rw [D.dps]
    rcases List.mem_cons.mp h with rfl | h
    · exact Nat.le_max_left _ _
    · exact Nat.le_trans (dps_mem h) (Nat.le_max_right _ _)
theorem fzs_mem : ∀ {xs : List D} {x : D}, D.fzs xs = true → x ∈ xs → x.fz = true
  | y :: ys, x, k, h => by
    simp only [D.fzs, Bool.and_eq_true] at k
    rcases List.mem_cons.mp h with rfl | h
    · exact k.1
    · exact fzs_mem k.2 h
/-- sorted of a list of data -/
def rSrtD (K : PySem.W.Frag) : List V → Hp → VK → Prop := fun zs H Q => ∃ (a : Addr) (vs : List V) (xs : List D), zs = [.ref a] ∧ SqL K H a vs ∧ xs.length = vs.length ∧ (∀ p ∈ xs.zip vs, Dp K H p.2 p.1.py) ∧ sortable (D.pys xs) ∧
  (∀ x ∈ xs, x.py.depth ≤ 60) ∧ ∀ p, H p = none → Q (.ref p) (upd H p (.lst (((xs.zip vs).mergeSort fun a b => leD a.1 b.1).map Prod.snd)))
theorem cr_srtD {k : Nat} (hr : Room k X.A) : CallR X (.builtin "sorted") (rSrtD X.K) := by
  intro pins s σ H zs us Q I r h
  obtain ⟨a, vs, xs, rfl, hs, hl, hd, so, dp, q⟩ := h
  obtain ⟨its, rv, hpl, hz⟩ := I.list hs
  rw [Vals.ref1 r]
  have e := vals_each hl rv
  have hmap : (xs.zip vs).map (fun b => b.1.py) = D.pys xs := by
    rw [pys_map]
    have := (map_fst_zip (xs := xs) (ys := vs) hl).1
    have h2 : (xs.zip vs).map (fun b => b.1.py) = ((xs.zip vs).map Prod.fst).map D.py := by rw [List.map_map]; rfl
    rw [h2, this]
  have un : X.A.units + 2 + 60 < cLine := by have := hr.un; omega
  refine PySem.W.sorted_data (bs := xs.zip vs) (enc := fun b => b.1.py) (R := fun u b => RelV b.2 u) hpl.isList e (each_imp e fun u b hb rb => ?_) (by rw [hmap]; exact so.1) (by rw [hmap]; exact so.2) (by rw [← e.length, ← rv.length]; exact hz) (fun b hb => ?_) fun out ho eo => ?_
  · exact Dp.reads I _ b.2 u (hd b hb) rb
  · have := dp b.1 (List.of_mem_zip hb).1
    omega
  · obtain ⟨ep, he'⟩ := PyProof.Rows.sortedAll_at s.heap its out.toArray
    have rv2 := each_vals eo
    have hlen : (((xs.zip vs).mergeSort fun a b => leD a.1 b.1).map Prod.snd).length ≤ sizeLine := by
      rw [List.length_map, List.length_mergeSort, List.length_zip, hl, Nat.min_self]
      exact hz
    exact ⟨.ref _, upd H (s.heap.objs.size + 1) (.lst (((xs.zip vs).mergeSort fun a b => leD a.1 b.1).map Prod.snd)), I.laid (t' := s.toks) (fun _ _ => PyProof.Rows.sortedAll_old) (Nat.le_succ _) ⟨hlen, out, ep, rv2, he'⟩, rfl, q _ (I.hok.fresh (Nat.le_succ _))⟩
theorem sort_fst : ∀ (ps : List (D × V)), (ps.mergeSort fun a b => leD a.1 b.1).map Prod.fst = sortD (ps.map Prod.fst) := fun ps => by
  unfold sortD
  exact List.map_mergeSort fun a _ b _ => rfl
def biOk : Bi → Bool
  | .sumS => false
  | .maxD => false
  | .sumLL => false
  | .str1 => false
  | .sortedR _ => false
  | .sortedT _ => false
  | .isc _ => false
  | _ => true
theorem cr_bi (hK : X.K = g.K) {k : Nat} (hr : Room k X.A) (hc : X.calm = true) (b : Bi) (ok : biOk b = true) : CallR X (biVal b) (rb g b) := by
  cases b with
  | len =>
    refine CallR.imp call_len fun zs H Q ⟨m, S, ds, W, rs, r, w⟩ => ?_
    replace w : WP g W (Rel g) m S.length H (biLen S ds) Q := w
    unfold biLen at w
    split at w
    · split at w
      · rename_i k hk
        obtain ⟨v, rfl, r1⟩ := r.one
        exact ⟨v, k, rfl, by rw [hK]; exact len_rel rs r1 hk, w.now rs (by rw [rel_int])⟩
      · exact w.err
    · exact w.err
  | abs =>
    refine CallR.imp call_abs fun zs H Q ⟨m, S, ds, W, rs, r, w⟩ => ?_
    replace w : WP g W (Rel g) m S.length H (biAbs S ds) Q := w
    unfold biAbs at w
    split at w
    · obtain ⟨v, rfl, r1⟩ := r.one
      rw [rel_int] at r1
      exact ⟨_, by rw [r1], w.now rs (by rw [rel_int])⟩
    · exact w.err
  | min2 =>
    refine CallR.imp (CallR.or (call_min2 hc) (call_minT hc)) fun zs H Q ⟨m, S, ds, W, rs, r, w⟩ => ?_
    replace w : WP g W (Rel g) m S.length H (biMin2 S ds) Q := w
    unfold biMin2 at w
    split at w
    · obtain ⟨v, u, rfl, r1, r2⟩ := r.two
      rw [rel_int] at r1 r2
      exact .inl ⟨_, _, by rw [r1, r2], w.now rs (by rw [rel_int])⟩
    · rename_i a b
      obtain ⟨v, u, rfl, r1, r2⟩ := r.two
      rw [rel_str] at r1 r2
      refine .inr ⟨a, b, by rw [r1.1, r2.1], w.now rs ?_⟩
      rw [rel_str]
      refine ⟨rfl, ?_⟩
      cases lessT b a
      · exact r1.2
      · exact r2.2
    · exact w.err
  | max2 =>
    refine CallR.imp (CallR.or (call_max2 hc) (call_maxT hc)) fun zs H Q ⟨m, S, ds, W, rs, r, w⟩ => ?_
    replace w : WP g W (Rel g) m S.length H (biMax2 S ds) Q := w
    unfold biMax2 at w
    split at w
    · obtain ⟨v, u, rfl, r1, r2⟩ := r.two
      rw [rel_int] at r1 r2
      exact .inl ⟨_, _, by rw [r1, r2], w.now rs (by rw [rel_int])⟩
    · rename_i a b
      obtain ⟨v, u, rfl, r1, r2⟩ := r.two
      rw [rel_str] at r1 r2
      refine .inr ⟨a, b, by rw [r1.1, r2.1], w.now rs ?_⟩
      rw [rel_str]
      refine ⟨rfl, ?_⟩
      cases lessT a b
      · exact r1.2
      · exact r2.2
    · exact w.err
  | minL =>
    refine CallR.imp (cr_min hc) fun zs H Q ⟨m, S, ds, W, rs, r, w⟩ => ?_
    replace w : WP g W (Rel g) m S.length H (biMinL S ds) Q := w
    unfold biMinL at w
    split at w
    · split at w
      · rename_i i hi
        obtain ⟨ns, h1, h2⟩ := Option.bind_eq_some_iff.mp hi
        obtain ⟨v, rfl, r1⟩ := r.one
        obtain ⟨a, rfl, q⟩ := ints_sq rs r1 h1
        obtain ⟨m1, m2⟩ := min_spec h2
        refine ⟨a, ns, rfl, by rw [hK]; exact q, List.length_pos_of_mem m1, fun j j1 j2 => w.now rs ?_⟩
        rw [rel_int, Int.le_antisymm (j2 _ m1) (m2 _ j1)]
      · exact w.err
    · exact w.err
  | maxL =>
    refine CallR.imp (cr_max hc) fun zs H Q ⟨m, S, ds, W, rs, r, w⟩ => ?_
    replace w : WP g W (Rel g) m S.length H (biMaxL S ds) Q := w
    unfold biMaxL at w
    split at w
    · split at w
      · rename_i i hi
        obtain ⟨ns, h1, h2⟩ := Option.bind_eq_some_iff.mp hi
        obtain ⟨v, rfl, r1⟩ := r.one
        obtain ⟨a, rfl, q⟩ := ints_sq rs r1 h1
        obtain ⟨m1, m2⟩ := max_spec h2
        refine ⟨a, ns, rfl, by rw [hK]; exact q, List.length_pos_of_mem m1, fun j j1 j2 => w.now rs ?_⟩
        rw [rel_int, Int.le_antisymm (m2 _ j1) (j2 _ m1)]
      · exact w.err
    · exact w.err
  | sumL =>
    refine CallR.imp (cr_sum hc) fun zs H Q ⟨m, S, ds, W, rs, r, w⟩ => ?_
    replace w : WP g W (Rel g) m S.length H (biSumL S ds) Q := w
    unfold biSumL at w
    split at w
    · split at w
      · rename_i ns hi
        obtain ⟨v, rfl, r1⟩ := r.one
        obtain ⟨a, rfl, q⟩ := ints_sq rs r1 hi
        exact ⟨a, ns, rfl, by rw [hK]; exact q, w.now rs (by rw [rel_int])⟩
      · exact w.err
    · exact w.err
  | sumS => cases ok
  | all =>
    refine CallR.imp (cr_all hc) fun zs H Q ⟨m, S, ds, W, rs, r, w⟩ => ?_
    replace w : WP g W (Rel g) m S.length H (biAll S ds) Q := w
    unfold biAll at w
    split at w
    · split at w
      · rename_i ns hi
        obtain ⟨v, rfl, r1⟩ := r.one
        obtain ⟨a, rfl, q⟩ := bls_sq rs r1 hi
        exact ⟨a, ns, rfl, by rw [hK]; exact q, w.now rs (by rw [rel_bl])⟩
      · exact w.err
    · exact w.err
  | any =>
    refine CallR.imp (cr_any hc) fun zs H Q ⟨m, S, ds, W, rs, r, w⟩ => ?_
    replace w : WP g W (Rel g) m S.length H (biAny S ds) Q := w
    unfold biAny at w
    split at w
    · split at w
      · rename_i ns hi
        obtain ⟨v, rfl, r1⟩ := r.one
        obtain ⟨a, rfl, q⟩ := bls_sq rs r1 hi
        exact ⟨a, ns, rfl, by rw [hK]; exact q, w.now rs (by rw [rel_bl])⟩
      · exact w.err
    · exact w.err
  | int1 =>
    refine CallR.imp call_int1 fun zs H Q ⟨m, S, ds, W, rs, r, w⟩ => ?_
    replace w : WP g W (Rel g) m S.length H (biInt S ds) Q := w
    unfold biInt at w
    split at w
    · obtain ⟨v, rfl, r1⟩ := r.one
      rw [rel_int] at r1
      exact .inl ⟨_, by rw [r1], w.now rs (by rw [rel_int])⟩
    · obtain ⟨v, rfl, r1⟩ := r.one
      rw [rel_bl] at r1
      exact .inr ⟨_, by rw [r1], w.now rs (by rw [rel_int])⟩
    · exact w.err
  | list1 box =>
    refine CallR.imp call_list_of fun zs H Q ⟨m, S, ds, W, rs, r, w⟩ => ?_
    replace w : WP g W (Rel g) m S.length H (biList box S ds) Q := w
    unfold biList at w
    split at w
    · split at w
      · rename_i xs hx
        obtain ⟨v, rfl, r1⟩ := r.one
        obtain ⟨a, vs, rfl, r2, q⟩ := seqOf_sq rs r1 hx
        exact ⟨a, vs, rfl, by rw [hK]; exact q, fun p hp => mkL_ok rs r2 w hp⟩
      · exact w.err
    · exact w.err
  | tuple1 =>
    refine CallR.imp call_tupleN fun zs H Q ⟨m, S, ds, W, rs, r, w⟩ => ?_
    replace w : WP g W (Rel g) m S.length H (biTuple S ds) Q := w
    unfold biTuple at w
    split at w
    · split at w
      · rename_i xs hx
        obtain ⟨v, rfl, r1⟩ := r.one
        obtain ⟨a, vs, rfl, r2, q⟩ := seqOf_rel rs r1 hx
        refine ⟨a, vs, rfl, ?_⟩
        rcases q with ⟨q, _⟩ | ⟨q, rfl⟩
        · exact .inl ⟨by rw [hK]; exact q, mkT_ok rs r2 w⟩
        · exact .inr ⟨by rw [hK]; exact q.sq, w.now rs r1⟩
      · exact w.err
    · exact w.err
  | sorted1 box =>
    refine CallR.imp (cr_srtD hr) fun zs H Q ⟨m, S, ds, W, rs, r, w⟩ => ?_
    replace w : WP g W (Rel g) m S.length H (biSorted box S ds) Q := w
    unfold biSorted at w
    split at w
    · split at w
      · rename_i xs hx
        obtain ⟨v, rfl, r1⟩ := r.one
        obtain ⟨a, vs, rfl, r2, q⟩ := lst_sq rs r1 hx
        obtain ⟨⟨c1, c2, c3⟩, w⟩ := w.ck
        have r3 : ∀ p ∈ xs.zip vs, Rel g m S.length H p.1 p.2 := r2.zip
        refine ⟨a, vs, xs, rfl, by rw [hK]; exact q, r2.length, fun p hp => ?_, c3, fun x hx => ?_, fun p hp => ?_⟩
        · rw [hK]
          exact (py_lay p.1 p.2 (fzs_mem c1 (List.of_mem_zip hp).1) (r3 p hp)).2
        · rw [py_depth x (fzs_mem c1 hx)]
          exact Nat.le_trans (dps_mem hx) c2
        · refine mkL_ok (box := box) rs ?_ w hp
          have e : sortD xs = ((xs.zip vs).mergeSort fun a b => leD a.1 b.1).map Prod.fst := by
            rw [sort_fst, (map_fst_zip r2.length).1]
          rw [e]
          exact Rels.pairs fun p hp => r3 p ((List.mergeSort_perm _ _).mem_iff.mp hp)
      · exact w.err
    · exact w.err
  | isi =>
    refine CallR.imp call_isi fun zs H Q ⟨m, S, ds, W, rs, r, w⟩ => ?_
    replace w : WP g W (Rel g) m S.length H (biIsi S ds) Q := w
    unfold biIsi at w
    split at w
    · split at w
      · rename_i b hb
        obtain ⟨v, u, rfl, r1, r2⟩ := r.two
        rw [rel_ty] at r2
        subst r2
        obtain ⟨a, h1, h2⟩ := Option.bind_eq_some_iff.mp hb
        exact ⟨v, _, _, _, b, rfl, .ty _, by rw [hK]; exact ty_rel rs r1 h1, kit_ty h2, w.now rs (by rw [rel_bl])⟩
      · exact w.err
    · exact w.err
  | isc c => cases ok
  | maxD => cases ok
  | sumLL => cases ok
  | str1 => cases ok
  | sortedR _ => cases ok
  | sortedT _ => cases ok
  | strp =>
    refine CallR.imp (call_str_int.or callStrStr) fun zs H Q ⟨m, S, ds, W, rs, r, w⟩ => ?_
    replace w : WP g W (Rel g) m S.length H (biStrp S ds) Q := w
    unfold biStrp at w
    split at w
    · obtain ⟨v, rfl, r1⟩ := r.one
      rw [rel_int] at r1
      obtain ⟨c, w⟩ := w.ck
      unfold biStrA at w
      obtain ⟨c2, w⟩ := w.ck
      exact .inl ⟨_, by rw [r1], c, w.now rs (by rw [rel_str]; exact ⟨rfl, c2⟩)⟩
    · obtain ⟨v, rfl, r1⟩ := r.one
      rw [rel_str] at r1
      exact .inr ⟨_, by rw [r1.1], w.now rs (by rw [rel_str]; exact ⟨rfl, r1.2⟩)⟩
    · exact w.err
  | intS =>
    refine CallR.imp call_int_str fun zs H Q ⟨m, S, ds, W, rs, r, w⟩ => ?_
    replace w : WP g W (Rel g) m S.length H (biIntS S ds) Q := w
    unfold biIntS at w
    split at w
    · split at w
      · rename_i n hn
        obtain ⟨c, w⟩ := w.ck
        obtain ⟨v, rfl, r1⟩ := r.one
        rw [rel_str] at r1
        exact ⟨_, n, by rw [r1.1], hn, c, w.now rs (by rw [rel_int])⟩
      · exact w.err
    · exact w.err
end
end Iv

/-! ### calls -/
namespace Iv
open PySem PySem.Spec PyProof.Rows L2
def okEs (es : List Expr) : Bool := es.all okE
theorem star_all : ∀ {es : List Expr} {env : PySem.Env} {pos : Pos}, okEs es = true → (backTo pos (starEach es env)).all (fun x => !x.1) = true ∧ (backTo pos (starEach es env)).any (·.1) = false
  | [], _, _, _ => ⟨rfl, rfl⟩
  | e :: es, env, pos, h => by
    unfold okEs at h
    rw [List.all_cons, Bool.and_eq_true] at h
    obtain ⟨h1, h2⟩ := star_all (env := env) (pos := pos) h.2
    rw [starEach_ok h.1]
    exact ⟨by show (!false && (backTo pos (starEach es env)).all (fun x => !x.1)) = true; rw [h1]; rfl, by show (false || (backTo pos (starEach es env)).any (·.1)) = false; rw [h2]; rfl⟩
def kwsNames : List Keyword → Option (List Str)
  | [] => some []
  | k :: ks => match k.arg with
    | some x => (kwsNames ks).map (x :: ·)
    | none => none
theorem kws_all : ∀ {kws : List Keyword} {ks : List Str} {env : PySem.Env} {pos : Pos}, kwsNames kws = some ks → (backToKw pos (keywordEach kws env)).all (·.1.isSome) = true ∧ (backToKw pos (keywordEach kws env)).filterMap (·.1) = ks ∧ (backToKw pos (keywordEach kws env)).any (·.1.isNone) = false
  | [], _, _, _, h => by cases h; exact ⟨rfl, rfl, rfl⟩
  | ⟨a, v, p⟩ :: kws, ks, env, pos, h => by
    cases a with
    | none => cases h
    | some x =>
      obtain ⟨ks', h1, rfl⟩ := Option.map_eq_some_iff.mp (show (kwsNames kws).map (x :: ·) = some ks from h)
      obtain ⟨a1, a2, a3⟩ := kws_all (env := env) (pos := pos) h1
      refine ⟨?_, ?_, ?_⟩
      · show (true && (backToKw pos (keywordEach kws env)).all (·.1.isSome)) = true
        rw [a1]
        rfl
      · show x :: (backToKw pos (keywordEach kws env)).filterMap (·.1) = x :: ks'
        rw [a2]
      · show (false || (backToKw pos (keywordEach kws env)).any (·.1.isNone)) = false
        rw [a3]
        rfl
theorem meth_eval {o : Expr} {name : Str} {apos pos : Pos} {args : List Expr} {kws : List Keyword} {ks : List Str} {env : PySem.Env} (ho : okE o = true) (ha : okEs args = true) (hk : kwsNames kws = some ks) (hn : args.length + kws.length < 28) (hl : (apos.endLine == pos.line) = true) :
    eval (.Call (.Attribute o name apos) args kws pos) env = (do
      let ov ← eval o env
      standAt apos.atName
      let (f, first) ← holding [ov] (getMethod ov name (do return (← importBound o env).getD true))
      callWith pos f first (backTo pos (starEach args env)) (backToKw pos (keywordEach kws env))) := by
  show (do
    let ov ← attributeBase o name env (eval o env)
    standAt apos.atName
    methodCall o name apos pos env ov (args.length + kws.length) (backTo pos (starEach args env)) (backToKw pos (keywordEach kws env))) = _
  rw [attrBase_ok ho]
  have hf : methodCallForm (args.length + kws.length) (backTo pos (starEach args env)) (backToKw pos (keywordEach kws env)) = true := by
    unfold methodCallForm
    rw [(star_all ha).1, (kws_all hk).1, Bool.true_and, Bool.true_and]
    refine decide_eq_true ?_
    split <;> omega
  unfold methodCall
  rw [hf]
  have hp : methodCallPos true o env apos pos = pure pos := by
    unfold methodCallPos
    rw [hl]
    rfl
  simp only [hp, pure_bind]
  rfl

section
variable {g : Gs} {W : L2.WX} {X : Cx} {F : CE} {e o : Expr} {es : List Expr} {ie io : E} {ies iks : List E} {kws : List Keyword} {ks : List Str} {p pos apos : Pos} {x name : Str} {m : Mp} {n : Nat} {H : Hp} {S : Sto} {σ : L2.St}
theorem k_nil : PK X [] (tEs g W (evs F [])) := by
  refine ⟨fun pos pins s σ H Q I ⟨m, ρ, S, rs, er, w⟩ => pk_nil.run pos pins s σ H Q I ?_⟩
  rw [evs] at w
  exact w.now rs Rels.nil
theorem k_cons {nm : Option Str} {kp : Pos} (ha : PE X e (tE g W (ev F ie))) (hr : PK X kws (tEs g W (evs F iks))) : PK X (⟨nm, e, kp⟩ :: kws) (tEs g W (evs F (ie :: iks))) := by
  refine ⟨fun pos pins s σ H Q I ⟨m, ρ, S, rs, er, w⟩ => (pk_cons ha hr).run pos pins s σ H Q I ?_⟩
  rw [evs] at w
  refine TI.step rs er w fun x H1 m1 S1 d x1 rs1 er1 r1 w => ?_
  refine TI.step (Ra := Rels g) rs1 er1 w fun ys H2 m2 S2 ds x2 rs2 er2 r2 w => ?_
  exact w.now rs2 (Rels.cons (Rel.mono x2 _ _ r1) r2)
theorem evs_append {ρ : Env} : ∀ {as bs : List E} {S : Sto}, evs F (as ++ bs) ρ S = (evs F as ρ S).bind fun xs S => (evs F bs ρ S).bind fun ys S => .ok (xs ++ ys) S
  | [], bs, S => by
    rw [List.nil_append, evs]
    simp only [R.bind_ok, List.nil_append]
    cases evs F bs ρ S <;> rfl
  | a :: as, bs, S => by
    rw [List.cons_append, evs, evs]
    cases ev F a ρ S with
    | ok x S1 =>
      simp only [R.bind_ok]
      rw [evs_append (as := as), R.bind_bind, R.bind_bind]
      cases evs F as ρ S1 with
      | ok xs S2 =>
        simp only [R.bind_ok]
        rw [R.bind_bind]
        cases evs F bs ρ S2 <;> rfl
      | _ => rfl
    | _ => rfl
theorem evs_length {ρ : Env} : ∀ {as : List E} {S : Sto} {ds : List D} {S' : Sto}, evs F as ρ S = .ok ds S' → ds.length = as.length
  | [], S, ds, S', h => by rw [evs] at h; cases h; rfl
  | a :: as, S, ds, S', h => by
    rw [evs] at h
    cases h1 : ev F a ρ S with
    | ok x S1 =>
      rw [h1] at h
      simp only [R.bind_ok] at h
      cases h2 : evs F as ρ S1 with
      | ok xs S2 =>
        rw [h2] at h
        simp only [R.bind_ok] at h
        cases h
        rw [List.length_cons, List.length_cons, evs_length h2]
      | exc _ _ => rw [h2] at h; cases h
      | err => rw [h2] at h; cases h
    | exc _ _ => rw [h1] at h; cases h
    | err => rw [h1] at h; cases h
/-! built-in functions -/
def biName : Bi → Str
  | .len => "len"
  | .abs => "abs"
  | .min2 => "min"
  | .max2 => "max"
  | .minL => "min"
  | .maxL => "max"
  | .sumL => "sum"
  | .sumS => "sum"
  | .all => "all"
  | .any => "any"
  | .int1 => "int"
  | .list1 _ => "list"
  | .tuple1 => "tuple"
  | .sorted1 _ => "sorted"
  | .isi => "isinstance"
  | .isc _ => "isinstance"
  | .maxD => "max"
  | .sumLL => "sum"
  | .str1 => "str"
  | .sortedR _ => "sorted"
  | .sortedT _ => "sorted"
  | .strp => "str"
  | .intS => "int"
theorem bi_boot (b : Bi) : bootBuiltins (biName b) = some (biVal b) := by
  cases b with
  | list1 _ => exact (by decide +kernel : bootBuiltins "list" = some (.type "list"))
  | sortedR _ => exact (by decide +kernel : bootBuiltins "sorted" = some (.builtin "sorted"))
  | sortedT _ => exact (by decide +kernel : bootBuiltins "sorted" = some (.builtin "sorted"))
  | sorted1 _ => exact (by decide +kernel : bootBuiltins "sorted" = some (.builtin "sorted"))
  | isc _ => exact (by decide +kernel : bootBuiltins "isinstance" = some (.builtin "isinstance"))
  | _ => decide +kernel
theorem bi_names (b : Bi) : biName b ≠ "__name__" ∧ (biName b == ("__debug__" : Str)) = false := by
  cases b with
  | list1 _ => exact (by decide +kernel : ("list" : Str) ≠ "__name__" ∧ (("list" : Str) == ("__debug__" : Str)) = false)
  | sortedR _ => exact (by decide +kernel : ("sorted" : Str) ≠ "__name__" ∧ (("sorted" : Str) == ("__debug__" : Str)) = false)
  | sortedT _ => exact (by decide +kernel : ("sorted" : Str) ≠ "__name__" ∧ (("sorted" : Str) == ("__debug__" : Str)) = false)
  | sorted1 _ => exact (by decide +kernel : ("sorted" : Str) ≠ "__name__" ∧ (("sorted" : Str) == ("__debug__" : Str)) = false)
  | isc _ => exact (by decide +kernel : ("isinstance" : Str) ≠ "__name__" ∧ (("isinstance" : Str) == ("__debug__" : Str)) = false)
  | _ => decide +kernel
theorem i_bi (hK : X.K = g.K) {k : Nat} (hr : Room k X.A) (hc : X.calm = true) (b : Bi) (ok : biOk b = true) (hg : Gl X (biName b)) (hm : X.mg (biName b) = none) (oks : okEs (e :: es) = true) (ha : PA X (e :: es) (tEs g W (evs F ies))) :
    PE X (.Call (.Name (biName b) p) (e :: es) [] pos) (tE g W (ev F (.bi b ies))) := by
  have oke : okE e = true ∧ okEs es = true := by unfold okEs at oks ⊢; rwa [List.all_cons, Bool.and_eq_true] at oks
  have key : ∀ σ H Q, tE g W (ev F (.bi b ies)) σ H Q → tCB (rb g b) (tEs g W (evs F ies)) σ H Q := fun σ H Q ⟨m, ρ, S, rs, er, w⟩ => by
    rw [ev] at w
    refine TI.step (Ra := Rels g) rs er w fun zs H1 m1 S1 ds x1 rs1 er1 r1 w => ?_
    exact ⟨m1, S1, ds, _, rs1, r1, w⟩
  have cr := cr_bi hK hr hc b ok
  have bo := bi_boot b
  obtain ⟨n1, n2⟩ := bi_names b
  refine PE.imp ?_ key
  have fin : (∃ id, biVal b = .builtin id) ∨ ∃ T, biVal b = .type T := by cases b <;> first | exact .inl ⟨_, rfl⟩ | exact .inr ⟨_, rfl⟩
  rcases fin with ⟨id, h⟩ | ⟨T, h⟩
  · rw [h] at cr bo
    exact pe_callB cr hg hm bo ha n1 n2 (starEach_ok oke.1) (star_all oke.2).2
  · rw [h] at cr bo
    exact pe_callTy cr hg hm bo ha n1 n2 (starEach_ok oke.1) (star_all oke.2).2
/-! methods of built-in classes -/
def rm (g : Gs) (mt : Bm) : V → List V → Hp → VK → Prop := fun v xs H Q => ∃ m S d ds W, RS g m S H ∧ Rel g m S.length H d v ∧ Rels g m S.length H ds xs ∧ WP g W (Rel g) m S.length H (bmR mt d ds S) Q
def bmTy : Bm → String
  | .append => "list"
  | .insert => "list"
  | .index => "list"
  | .count => "list"
  | .join => "str"
  | .sindex => "str"
  | .upper => "str"
  | .clear => "list"
  | .remove => "list"
  | .pop1 => "list"
  | .pop0 => "list"
  | .split => "str"
  | .part => "str"
theorem box_set {c : Cell} {a : Addr} {o' : HO} {i : Nat} {W : Value → Option Addr → Hp → Prop} {Q : VK} (rs : RS g m S H) (k : m i = some a) (w : WP g W (Rel g) m S.length H (.ok .non (setAt S i c)) Q) (hc : CellR g m S.length (upd H a o') a c) (nf : NoFz (H a) := by first | exact NoFz.of (u := .lst _) (by assumption) (fun _ _ z => nomatch z) | exact NoFz.of (u := .ins _ _ _) (by assumption) (fun _ _ z => nomatch z) | exact NoFz.of (u := .dK _) (by assumption) (fun _ _ z => nomatch z)) : Q .non (upd H a o') := by
  have l : (setAt S i c).length = S.length := by unfold setAt; rw [List.length_set]
  refine w m _ .non (by rw [l]; exact Ext.set rs k nf) (rs.set k hc) ?_
  rw [rel_non]
theorem mt_append' : MtR X "list.append" (rm g .append) := by
  refine MtR.imp mt_append fun v xs H Q ⟨m, S, d, ds, W, rs, r, rx, w⟩ => ?_
  replace w : WP g W (Rel g) m S.length H (bmAppend S d ds) Q := w
  unfold bmAppend at w
  split at w
  · split at w
    · split at w
      · rename_i hz
        obtain ⟨c, w⟩ := w.ck
        obtain ⟨y, rfl, ry⟩ := rx.one
        obtain ⟨a, rfl, k, vs, hv, rv⟩ := r.box rs hz
        refine ⟨a, vs, y, rfl, rfl, hv, by rw [← rv.length]; exact c, box_set rs k w ?_⟩
        have x := Ext.set (n := S.length) (o := .lst (vs ++ [y])) rs k
        exact ⟨_, upd_same, Rels.mono x _ _ (rv.append (Rels.cons ry Rels.nil))⟩
      · exact w.err
    · exact w.err
  · exact w.err
theorem mt_insert' : MtR X "list.insert" (rm g .insert) := by
  refine MtR.imp mt_insert fun v xs H Q ⟨m, S, d, ds, W, rs, r, rx, w⟩ => ?_
  replace w : WP g W (Rel g) m S.length H (bmInsert S d ds) Q := w
  unfold bmInsert at w
  split at w
  · split at w
    · split at w
      · rename_i hz
        obtain ⟨⟨c1, c2, c3⟩, w⟩ := w.ck
        obtain ⟨u, y, rfl, ru, ry⟩ := rx.two
        rw [rel_int] at ru
        subst ru
        obtain ⟨a, rfl, k, vs, hv, rv⟩ := r.box rs hz
        refine ⟨a, vs, _, y, rfl, rfl, hv, by rw [← rv.length]; exact c1, c2, c3, box_set rs k w ?_⟩
        refine ⟨_, upd_same, Rels.mono (Ext.set rs k) _ _ ?_⟩
        unfold insertAt
        exact ((rv.take _).append (Rels.cons ry Rels.nil)).append (rv.drop _)
      · exact w.err
    · exact w.err
  · exact w.err
theorem okS.list {l : List Nat} (h1 : l.length ≤ sizeLine) (h2 : ∀ c ∈ l, c < 1114112) : okS ⟨l.toArray⟩ := ⟨by show l.toArray.size ≤ _; rw [List.size_toArray]; exact h1, h2⟩
theorem bm_head {mt : Bm} {d : D} {v : V} (hK : X.K = g.K) (rs : RS g m S H) (r : Rel g m S.length H d v) (h : bmOk mt d S = true) : tyV X.K (bmTy mt) v H := by
  cases mt with
  | append =>
    cases d with
    | ref i =>
      have h' : (match cellAt S i with | some (.lst _) => true | _ => false) = true := h
      split at h'
      · rename_i hz
        obtain ⟨a, rfl, k, vs, hv, rv⟩ := r.box rs hz
        exact .inl ⟨rfl, vs, SqL.of hv⟩
      · cases h'
    | _ => cases h
  | insert =>
    cases d with
    | ref i =>
      have h' : (match cellAt S i with | some (.lst _) => true | _ => false) = true := h
      split at h'
      · rename_i hz
        obtain ⟨a, rfl, k, vs, hv, rv⟩ := r.box rs hz
        exact .inl ⟨rfl, vs, SqL.of hv⟩
      · cases h'
    | _ => cases h
  | remove =>
    cases d with
    | ref i =>
      have h' : (match cellAt S i with | some (.lst _) => true | _ => false) = true := h
      split at h'
      · rename_i hz
        obtain ⟨a, rfl, k, vs, hv, rv⟩ := r.box rs hz
        exact .inl ⟨rfl, vs, SqL.of hv⟩
      · cases h'
    | _ => cases h
  | pop1 =>
    cases d with
    | ref i =>
      have h' : (match cellAt S i with | some (.lst _) => true | _ => false) = true := h
      split at h'
      · rename_i hz
        obtain ⟨a, rfl, k, vs, hv, rv⟩ := r.box rs hz
        exact .inl ⟨rfl, vs, SqL.of hv⟩
      · cases h'
    | _ => cases h
  | pop0 =>
    cases d with
    | ref i =>
      have h' : (match cellAt S i with | some (.lst _) => true | _ => false) = true := h
      split at h'
      · rename_i hz
        obtain ⟨a, rfl, k, vs, hv, rv⟩ := r.box rs hz
        exact .inl ⟨rfl, vs, SqL.of hv⟩
      · cases h'
    | _ => cases h
  | index =>
    have h' : (lstOf S d).isSome = true := h
    obtain ⟨xs, hx⟩ := Option.isSome_iff_exists.mp h'
    obtain ⟨a, vs, rfl, rv, q⟩ := lst_sq rs r hx
    rw [hK]
    exact .inl ⟨rfl, vs, q⟩
  | count =>
    have h' : (lstOf S d).isSome = true := h
    obtain ⟨xs, hx⟩ := Option.isSome_iff_exists.mp h'
    obtain ⟨a, vs, rfl, rv, q⟩ := lst_sq rs r hx
    rw [hK]
    exact .inl ⟨rfl, vs, q⟩
  | clear =>
    cases d with
    | ref i =>
      have h' : (match cellAt S i with | some (.lst _) => true | _ => false) = true := h
      split at h'
      · rename_i hz
        obtain ⟨a, rfl, k, vs, hv, rv⟩ := r.box rs hz
        exact .inl ⟨rfl, vs, SqL.of hv⟩
      · cases h'
    | _ => cases h
  | join =>
    cases d with
    | str z => rw [rel_str] at r; obtain ⟨rfl, _⟩ := r; rfl
    | _ => cases h
  | sindex =>
    cases d with
    | str z => rw [rel_str] at r; obtain ⟨rfl, _⟩ := r; rfl
    | _ => cases h
  | split =>
    cases d with
    | str z => rw [rel_str] at r; obtain ⟨rfl, _⟩ := r; rfl
    | _ => cases h
  | part =>
    cases d with
    | str z => rw [rel_str] at r; obtain ⟨rfl, _⟩ := r; rfl
    | _ => cases h
  | _ => cases d <;> cases h
theorem i_bm {mt : Bm} (hK : X.K = g.K) {id : String} (pa : PlainAttrs (bmTy mt)) (slot : Slot (bmTy mt) name id) (hty : typeOf (.builtin id) = pure (.type "method_descriptor")) (hm : MtR X id (rm g mt)) (oko : okE o = true) (oks : okEs (e :: es) = true)
    (hl : (apos.endLine == pos.line) = true) (hn : (e :: es).length < 28) (ho : PE X o (tE g W (ev F io))) (ha : PA X (e :: es) (tEs g W (evs F ies))) : PE X (.Call (.Attribute o name apos) (e :: es) [] pos) (tE g W (ev F (.bm mt io ies))) := by
  have oke : okE e = true ∧ okEs es = true := by unfold okEs at oks ⊢; rwa [List.all_cons, Bool.and_eq_true] at oks
  refine PE.imp (pe_bm pa slot hty hm ho ha (attrBase_ok oko) ?_ hl (starEach_ok oke.1) (star_all oke.2).2) fun σ H Q ⟨m, ρ, S, rs, er, w⟩ => ?_
  · rw [(star_all oks).1]
    show (true && true && decide ((e :: es).length + 0 + 0 < 30)) = true
    rw [Bool.true_and, Bool.true_and]
    exact decide_eq_true (by omega)
  · rw [ev] at w
    refine TI.step rs er w fun v H1 m1 S1 d x1 rs1 er1 r1 w => ?_
    obtain ⟨c, w⟩ := w.ck
    refine ⟨bm_head hK rs1 r1 c, ?_⟩
    refine TI.step (Ra := Rels g) rs1 er1 w fun zs H2 m2 S2 ds x2 rs2 er2 r2 w => ?_
    exact ⟨m2, S2, d, ds, _, rs2, Rel.mono x2 _ _ r1, r2, w⟩
/-! freezing -/
theorem RelFs.lookup (hi : ∀ f, f ∈ (fs : List (Nat × D)).map (·.1) → g.fok f) : ∀ {fs' : List (Nat × D)} {gs : List (Str × V)} {f : Nat} {d : D}, (∀ f, f ∈ fs'.map (·.1) → g.fok f) → g.fok f → RelFs g m n H fs' gs → fs'.lookup f = some d → ∃ v, gs.lookup (g.fn f) = some v ∧ Rel g m n H d v
  | [], _, _, _, _, _, _, h => by cases h
  | (f', d') :: r, gs, f, d, ho, hf, rr, h => by
    unfold RelFs at rr
    obtain ⟨v, gr, rfl, r1, r2⟩ := rr
    rw [List.lookup_cons] at h
    rw [List.lookup_cons]
    by_cases hff : f = f'
    · subst hff
      rw [show (f == f) = true from beq_self_eq_true f] at h
      cases h
      rw [show (g.fn f == g.fn f) = true from beq_self_eq_true _]
      exact ⟨v, rfl, r1⟩
    · rw [show (f == f') = false from beq_eq_false_iff_ne.mpr hff] at h
      have hne : g.fn f ≠ g.fn f' := fun z => hff (g.finj _ _ hf (ho f' (List.mem_cons_self ..)) z)
      rw [show (g.fn f == g.fn f') = false from beq_eq_false_iff_ne.mpr hne]
      exact RelFs.lookup hi (fun f h => ho f (List.mem_cons_of_mem _ h)) hf r2 h
theorem frz_ok {d : D} {v : V} {W : Value → Option Addr → Hp → Prop} {Q : VK} (rs : RS g m S H) (r : Rel g m S.length H d v) (w : WP g W (Rel g) m S.length H (frzR d S) Q) : Q v H := by
  cases d with
  | ref i =>
    replace w : WP g W (Rel g) m S.length H (match cellAt S i with | some (.lst xs) => R.ok (D.lst xs) (S.set i none) | some (.ins c fs) => .ok (.ins c fs) (S.set i none) | _ => .err) Q := w
    split at w
    · rename_i xs hz
      obtain ⟨a, rfl, k, vs, hv, rv⟩ := r.box rs hz
      obtain ⟨rs', of⟩ := rs.del k
      refine w (mDel m i) H _ (by rw [List.length_set]; exact Ext.del) rs' ?_
      rw [List.length_set, rel_lst]
      exact ⟨a, vs, rfl, ⟨hv, of⟩, Rels.mono Ext.del _ _ rv⟩
    · rename_i c fs hz
      obtain ⟨a, rfl, k, dx, gs, hv, ok, rv⟩ := r.box rs hz
      obtain ⟨rs', of⟩ := rs.del k
      refine w (mDel m i) H _ (by rw [List.length_set]; exact Ext.del) rs' ?_
      rw [List.length_set, rel_ins]
      exact ⟨a, dx, gs, rfl, ⟨hv, of⟩, ok, RelFs.mono Ext.del _ _ rv⟩
    · exact w.err
  | _ => exact w.err
theorem i_frz (ha : PE X e (tE g W (ev F ie))) : PE X e (tE g W (ev F (.frz ie))) := by
  refine PE.imp ha fun σ H Q ⟨m, ρ, S, rs, er, w⟩ => ?_
  rw [ev] at w
  exact TI.step rs er w fun v H1 m1 S1 d x1 rs1 er1 r1 w => frz_ok rs1 r1 w
/-! attributes -/
theorem attr_ok {d : D} {v : V} {W : Value → Option Addr → Hp → Prop} {Q : VK} {f : Nat} (hK : X.K = g.K) (hf : g.fok f) (rs : RS g m S H) (r : Rel g m S.length H d v) (w : WP g W (Rel g) m S.length H (attrR d f S) Q) :
    ∃ a C dx fs y, v = .ref a ∧ H a = some (.ins C dx fs) ∧ Cls X.K C ∧ NoAttr X.K C (g.fn f) ∧ fs.lookup (g.fn f) = some y ∧ Q y H := by
  have go : ∀ {c : Nat} {fs : List (Nat × D)} {a dx : Addr} {gs : List (Str × V)}, v = .ref a → H a = some (.ins (g.ca c) dx gs) → insOk g c fs → RelFs g m S.length H fs gs → WP g W (Rel g) m S.length H (match fs.lookup f with | some d => .ok d S | none => .err) Q →
      ∃ a C dx fs y, v = .ref a ∧ H a = some (.ins C dx fs) ∧ Cls X.K C ∧ NoAttr X.K C (g.fn f) ∧ fs.lookup (g.fn f) = some y ∧ Q y H := by
    intro c fs a dx gs e hv ok rv w
    split at w
    · rename_i d' hd
      obtain ⟨y, hy, ry⟩ := RelFs.lookup (fs := fs) (fun f h => (ok.2.2 f h).1) (fun f h => (ok.2.2 f h).1) hf rv hd
      have hm : f ∈ fs.map (·.1) := by
        obtain ⟨l1, l2, e1, _⟩ := List.lookup_eq_some_iff.mp hd
        rw [e1]
        simp
      exact ⟨a, _, dx, gs, y, e, hv, by rw [hK]; exact ok.1, by rw [hK]; exact (ok.2.2 f hm).2, hy, w.now rs ry⟩
    · exact w.err
  cases d with
  | ins c fs =>
    rw [rel_ins] at r
    obtain ⟨a, dx, gs, e, ⟨hv, _⟩, ok, rv⟩ := r
    exact go e hv ok rv w
  | ref i =>
    replace w : WP g W (Rel g) m S.length H (match cellAt S i with | some (.ins _ fs) => (match fs.lookup f with | some d => R.ok d S | none => .err) | _ => .err) Q := w
    split at w
    · rename_i c fs hz
      obtain ⟨a, e, k, dx, gs, hv, ok, rv⟩ := r.box rs hz
      exact go e hv ok rv w
    · exact w.err
  | _ => exact w.err
theorem i_attr {f : Nat} (hK : X.K = g.K) (hf : g.fok f) (ok : okE e = true) (ha : PE X e (tE g W (ev F ie))) : PE X (.Attribute e (g.fn f) pos) (tE g W (ev F (.attr ie f))) := by
  refine PE.imp (pe_fld ha (attrBase_ok ok)) fun σ H Q ⟨m, ρ, S, rs, er, w⟩ => ?_
  rw [ev] at w
  refine TI.step rs er w fun v H1 m1 S1 d x1 rs1 er1 r1 w => ?_
  exact attr_ok hK hf rs1 r1 w
/-! own functions -/
def spF (g : Gs) (F : CE) (f np : Nat) : Sp := fun vs H Q E => vs.length = np ∧ ∃ m S ds, RS g m S H ∧ Rels g m S.length H ds vs ∧ WP g E (Rel g) m S.length H (F f ds S) Q
/-- how a call's values come to the parameters -/
structure Sig (g : Gs) (fd : FuncData) (ps : List Str) (n : Nat) (ks : List Str) (arr : List Ar) : Prop where
  ex : ∃ (gg : List Value → List Value → List Value) (gV : List V → List V → List V), KBn g.K fd ps n ks gg gV ∧ ∀ m N H ds vs zs ps', Rels g m N H ds (vs ++ zs) → vs.length = n → zs.length = ks.length → pick ds arr = some ps' → Rels g m N H ps' (gV vs zs) ∧ (gV vs zs).length = ps.length
theorem run_own {pins : List (Addr × Obj)} {s : Shared} {Q : VK} {us ws : List Value} {vs zs : List V} {k : Nat} {fa : Addr} {fd : FuncData} {ps : List Str} {sp : Sp} {gg : List Value → List Value → List Value} {gV : List V → List V → List V}
    (FO : FnOk X.prog X.w X.K X.mg X.base (L2.CX X.prog X.w) k fa fd ps sp) (hr : Room k X.A) (hb : KBn X.K fd ps n ks gg gV) (tk : Takes X W)
    (I : L2.Inv X pins σ H s) (r : Vals vs us) (rz : Vals zs ws) (l1 : vs.length = n) (l2 : zs.length = ks.length) (h : sp (gV vs zs) H Q (WE W σ)) : wpAny (model X.prog X.w) X.A (call (.ref fa) us (ks.zip ws)) (EP X pins σ Q) X.xe s := by
  have r2 := hb.rel r rz
  refine wpAny_call (codeAny_mono (FO.run X.A X.stack s H ⟨us, ks.zip ws⟩ (gg us ws) (gV vs zs) Q (WE W σ) hr I.env0 (hb.to s us ws I.kIn (r.length.symm.trans l1) (rz.length.symm.trans l2)) r2 h) fun r s' hq => ?_)
  cases r with
  | error e => exact passAt tk σ pins H s e s' I hq
  | ok fl =>
    cases fl with
    | ret u => exact I.after hq
    | next => exact False.elim hq
    | brk => exact False.elim hq
    | cont => exact False.elim hq
theorem own_args {fv : Value} {first : List Value} {K2 : List D → Sto → R D} {pins : List (Addr × Obj)} {s : Shared} {Q : VK} {ρ : Env} (hkp : PySem.W.keepIn X.K fv = true) (oks : okEs es = true) (hks : kwsNames kws = some ks) (hkl : iks.length = ks.length) (hel : es.length = ies.length)
    (ha : PA X es (tEs g W (evs F ies))) (hkw : PK X kws (tEs g W (evs F iks))) (I : L2.Inv X pins σ H s) (rs : RS g m S H) (er : EnvR g m S.length H ρ σ) (w : WP g (fun c d H' => W c d σ H') (Rel g) m S.length H ((evs F (ies ++ iks) ρ S).bind K2) Q)
    (fin : ∀ {s2 : Shared} {H2 : Hp} {m2 : Mp} {S2 : Sto} {as bs : List D} {vs zs : List V} {us ws : List Value}, L2.Inv X pins σ H2 s2 → Vals vs us → Vals zs ws → vs.length = ies.length → zs.length = ks.length → Ext m S.length H m2 S2.length H2 → RS g m2 S2 H2 → EnvR g m2 S2.length H2 ρ σ →
      Rels g m2 S2.length H2 (as ++ bs) (vs ++ zs) → WP g (fun c d H' => W c d σ H') (Rel g) m2 S2.length H2 (K2 (as ++ bs) S2) Q →
      wpAny (model X.prog X.w) X.A (call fv (first ++ us) (ks.zip ws)) (EP X pins σ Q) X.xe s2) :
    wpAny (model X.prog X.w) X.A (callWith pos fv first (backTo pos (starEach es X.env)) (backToKw pos (keywordEach kws X.env))) (EP X pins σ Q) X.xe s := by
  rw [evs_append, R.bind_bind] at w
  obtain ⟨k1, k2, k3⟩ := kws_all (env := X.env) (pos := pos) hks
  cases es with
  | nil =>
    refine PySem.W.callWith_KW0 (h₀ := X.base) I.ok.mod.kin hkp k1 ?_ (by rw [k3]; rfl)
    have e0 : ies = [] := List.length_eq_zero_iff.mp hel.symm
    subst e0
    rw [evs] at w
    simp only [R.bind_ok] at w
    rw [R.bind_bind] at w
    refine thn (hkw.run pos pins s σ H (fun zs H2 => ∃ m2 S2 bs, bs.length = iks.length ∧ Ext m S.length H m2 S2.length H2 ∧ RS g m2 S2 H2 ∧ EnvR g m2 S2.length H2 ρ σ ∧ Rels g m2 S2.length H2 bs zs ∧ WP g (fun c d H' => W c d σ H') (Rel g) m2 S2.length H2 (K2 ([] ++ bs) S2) Q) I ?_) fun ws s2 ⟨zs, H2, I2, rz, m2, S2, bs, lb, x2, rs2, er2, rb, w2⟩ => ⟨I2.kIn, ?_⟩
    · exact TI.stepE (Ra := Rels g) rs er w fun zs H2 m2 S2 bs e x2 rs2 er2 r2 w => ⟨m2, S2, bs, evs_length e, x2, rs2, er2, r2, w⟩
    · rw [k2]
      exact fin (us := []) (vs := []) (as := []) I2 .nil rz rfl ((rb.length.symm.trans lb).trans hkl) x2 rs2 er2 rb w2
  | cons e es =>
    have oke : okE e = true ∧ okEs es = true := by unfold okEs at oks ⊢; rwa [List.all_cons, Bool.and_eq_true] at oks
    refine PySem.W.callWith_KW (h₀ := X.base) I.ok.mod.kin hkp k1 ?_ (by rw [(star_all oks).2, k3]; rfl) (starEach_ok oke.1)
    refine thn (ha.run pos pins s σ H (fun vs H1 => ∃ m1 S1 as, as.length = ies.length ∧ Ext m S.length H m1 S1.length H1 ∧ RS g m1 S1 H1 ∧ EnvR g m1 S1.length H1 ρ σ ∧ Rels g m1 S1.length H1 as vs ∧ WP g (fun c d H' => W c d σ H') (Rel g) m1 S1.length H1 ((evs F iks ρ S1).bind fun ys S => K2 (as ++ ys) S) Q) I ?_) fun us s1 ⟨vs, H1, I1, rv, m1, S1, as, la, x1, rs1, er1, ra, w1⟩ => ?_
    · refine TI.stepE (Ra := Rels g) rs er w fun vs H1 m1 S1 as e x1 rs1 er1 r1 w => ⟨m1, S1, as, evs_length e, x1, rs1, er1, r1, ?_⟩
      rw [R.bind_bind] at w
      exact w
    · refine thn (hkw.run pos pins s1 σ H1 (fun zs H2 => ∃ m2 S2 bs, bs.length = iks.length ∧ Ext m1 S1.length H1 m2 S2.length H2 ∧ RS g m2 S2 H2 ∧ EnvR g m2 S2.length H2 ρ σ ∧ Rels g m2 S2.length H2 bs zs ∧ WP g (fun c d H' => W c d σ H') (Rel g) m2 S2.length H2 (K2 (as ++ bs) S2) Q) I1 ?_) fun ws s2 ⟨zs, H2, I2, rz, m2, S2, bs, lb, x2, rs2, er2, rb, w2⟩ => ⟨I2.kIn, ?_⟩
      · exact TI.stepE (Ra := Rels g) rs1 er1 w1 fun zs H2 m2 S2 bs e x2 rs2 er2 r2 w => ⟨m2, S2, bs, evs_length e, x2, rs2, er2, r2, w⟩
      · rw [k2]
        exact fin I2 rv rz (ra.length.symm.trans la) ((rb.length.symm.trans lb).trans hkl) (x1.trans x2) rs2 er2 ((Rels.mono x2 _ _ ra).append rb) w2
theorem i_call {k : Nat} {fa : Addr} {fd : FuncData} {ps : List Str} {f : Nat} {arr : List Ar} (hK : X.K = g.K) (FO : FnOk X.prog X.w X.K X.mg X.base (L2.CX X.prog X.w) k fa fd ps (spF g F f ps.length)) (hr : Room k X.A) (hg : Gl X x) (hm : X.mg x = some (.ref fa))
    (hkp : PySem.W.keepIn X.K (.ref fa) = true) (sg : Sig g fd ps ies.length ks arr) (tk : Takes X W) (hdb : (x == ("__debug__" : Str)) = false) (oks : okEs es = true) (hks : kwsNames kws = some ks) (hkl : iks.length = ks.length) (hel : es.length = ies.length)
    (ha : PA X es (tEs g W (evs F ies))) (hkw : PK X kws (tEs g W (evs F iks))) : PE X (.Call (.Name x p) es kws pos) (tE g W (ev F (.call f arr (ies ++ iks)))) := by
  obtain ⟨gg, gV, hb, hp⟩ := sg.ex
  rw [← hK] at hb
  refine ⟨fun pins s σ H Q I ⟨m, ρ, S, rs, er, w⟩ => ?_⟩
  rw [ev] at w
  refine wpAny_Call_Name_kw (ld_glob I hg hm ?_ hdb)
  refine own_args (first := []) hkp oks hks hkl hel ha hkw I rs er w fun I2 ru rz l1 l2 x2 rs2 er2 ra w => ?_
  unfold callR at w
  split at w
  · rename_i ps' hps
    obtain ⟨q1, q2⟩ := hp _ _ _ _ _ _ _ ra l1 l2 hps
    exact run_own FO hr hb tk I2 ru rz l1 l2 ⟨q2, _, _, ps', rs2, q1, w⟩
  · exact w.err
theorem noName {c : Nat} {fs : List (Nat × D)} {gs : List (Str × V)} {fa : Addr} (ok : insOk g c fs) (M : Meth g.K (g.ca c) name fa) : ∀ {fs' : List (Nat × D)}, (∀ f, f ∈ fs'.map (·.1) → f ∈ fs.map (·.1)) → ∀ {gs : List (Str × V)}, RelFs g m n H fs' gs → gs.lookup name = none
  | [], _, _, r => by unfold RelFs at r; rw [r]; rfl
  | (f, d) :: fs', h, _, r => by
    unfold RelFs at r
    obtain ⟨v, gr, rfl, _, r2⟩ := r
    rw [List.lookup_cons]
    have hne : name ≠ g.fn f := fun z => by
      have := (ok.2.2 f (h f (List.mem_cons_self ..))).2
      unfold NoAttr at this
      rw [← z, M.at_] at this
      cases this
    rw [show (name == g.fn f) = false from beq_eq_false_iff_ne.mpr hne]
    exact noName (gs := gs) ok M (fun f hf => h f (List.mem_cons_of_mem _ hf)) r2
/-- what the text says of a method of a class -/
structure MOk (g : Gs) (X : Cx) (F : CE) (name : Str) (c f n : Nat) (ks : List Str) (arr : List Ar) : Prop where
  ex : ∃ (k : Nat) (fa : Addr) (fd : FuncData) (ps : List Str), Meth g.K (g.ca c) name fa ∧ FnOk X.prog X.w X.K X.mg X.base (L2.CX X.prog X.w) k fa fd ps (spF g F f ps.length) ∧ Room k X.A ∧ Sig g fd ps (n + 1) ks arr
theorem cls_ok {d : D} {v : V} {c : Nat} (rs : RS g m S H) (r : Rel g m S.length H d v) (h : clsOf S d = some c) : ∃ a dx fs gs, v = .ref a ∧ H a = some (.ins (g.ca c) dx gs) ∧ insOk g c fs ∧ RelFs g m S.length H fs gs := by
  cases d with
  | ins c' fs =>
    cases h
    rw [rel_ins] at r
    obtain ⟨a, dx, gs, e, ⟨hv, _⟩, ok, rv⟩ := r
    exact ⟨a, dx, fs, gs, e, hv, ok, rv⟩
  | ref i =>
    replace h : (match cellAt S i with | some (.ins c _) => some c | _ => none) = some c := h
    split at h
    · rename_i c' fs hz
      cases h
      obtain ⟨a, e, k, dx, gs, hv, ok, rv⟩ := r.box rs hz
      exact ⟨a, dx, fs, gs, e, hv, ok, rv⟩
    · cases h
  | _ => cases h
theorem i_meth {ms : List (Nat × Nat × List Ar)} (hK : X.K = g.K) (hms : ∀ c f arr, ms.lookup c = some (f, arr) → MOk g X F name c f ies.length ks arr) (tk : Takes X W) (oko : okE o = true) (oks : okEs es = true) (hks : kwsNames kws = some ks) (hkl : iks.length = ks.length) (hel : es.length = ies.length)
    (hn : es.length + kws.length < 28) (hl : (apos.endLine == pos.line) = true) (ho : PE X o (tE g W (ev F io))) (ha : PA X es (tEs g W (evs F ies))) (hkw : PK X kws (tEs g W (evs F iks))) : PE X (.Call (.Attribute o name apos) es kws pos) (tE g W (ev F (.meth io ms (ies ++ iks)))) := by
  refine ⟨fun pins s σ H Q I ⟨m, ρ, S, rs, er, w⟩ => ?_⟩
  rw [ev] at w
  generalize hk3 : (fun x S => match (clsOf S x).bind fun c => ms.lookup c with
    | some (f, arr) => (evs F (ies ++ iks) ρ S).bind fun xs S => callR F f arr (x :: xs) S
    | none => .err : D → Sto → R D) = K3 at w
  refine PySem.W.methodCall_KW (thn (ho.run pins s σ H (fun v H1 => ∃ m1 S1 d, RS g m1 S1 H1 ∧ EnvR g m1 S1.length H1 ρ σ ∧ Rel g m1 S1.length H1 d v ∧ WP g (fun c d H' => W c d σ H') (Rel g) m1 S1.length H1 (K3 d S1) Q) I (TI.step rs er w fun v H1 m1 S1 d x1 rs1 er1 r1 w => ⟨m1, S1, d, rs1, er1, r1, w⟩)) fun u s1 ⟨v, H1, I1, rv, m1, S1, d, rs1, er1, r1, w⟩ => ?_) (meth_eval oko oks hks hn hl)
  subst hk3
  dsimp only at w
  split at w
  · rename_i f arr hc
    obtain ⟨c, h1, h2⟩ := Option.bind_eq_some_iff.mp hc
    obtain ⟨k, fa, fd, ps, M, FO, hr, sg⟩ := (hms c f arr h2).ex
    obtain ⟨a, dx, fs, gs, rfl, hv, ok, rfs⟩ := cls_ok rs1 r1 h1
    obtain rfl : u = Value.ref a := rv
    obtain ⟨gg, gV, hb, hp⟩ := sg.ex
    have M' := M
    rw [← hK] at hb M'
    refine getmeth_ok I1 hv (by rw [hK]; exact ok.1) M' (noName (gs := gs) ok M (fun _ h => h) rfs) ?_
    refine own_args (first := [.ref a]) M'.kp oks hks hkl hel ha hkw I1 rs1 er1 w fun I2 ru rz l1 l2 x2 rs2 er2 ra w => ?_
    unfold callR at w
    split at w
    · rename_i ps' hps
      obtain ⟨q1, q2⟩ := hp _ _ _ _ (.ref a :: _) _ _ (Rels.cons (Rel.mono x2 _ _ r1) ra) (by rw [List.length_cons, l1]) l2 hps
      exact run_own (us := .ref a :: _) (vs := .ref a :: _) FO hr hb tk I2 (.cons rfl ru) rz (by rw [List.length_cons, l1]) l2 ⟨q2, _, _, ps', rs2, q1, w⟩
    · exact w.err
  · exact w.err
theorem run_mk {pins : List (Addr × Obj)} {s : Shared} {Q : VK} {us ws : List Value} {vs zs : List V} {k : Nat} {C fa : Addr} {fd : FuncData} {ps : List Str} {sp : Sp} {gg : List Value → List Value → List Value} {gV : List V → List V → List V} (M : Mk X.K C fa)
    (FO : FnOk X.prog X.w X.K X.mg X.base (L2.CX X.prog X.w) k fa fd ps sp) (hr : Room (k + 1) X.A) (hb : KBn X.K fd ps (n + 1) ks gg gV) (tk : Takes X W) (I : L2.Inv X pins σ H s) (r : Vals vs us) (rz : Vals zs ws) (l1 : vs.length = n) (l2 : zs.length = ks.length)
    (h : ∀ x dx, H x = none → H dx = none → dx ≠ x → sp (gV (.ref x :: vs) zs) (upd (upd H dx (.own x)) x (.ins C dx [])) (fun v H2 => v = .non ∧ Q (.ref x) H2) (WE W σ)) :
    wpAny (model X.prog X.w) X.A (call (.ref C) us (ks.zip ws)) (EP X pins σ Q) X.xe s := by
  have hq := h (s.heap.objs.size + 1) s.heap.objs.size (I.hok.fresh (Nat.le_succ _)) (I.hok.fresh (Nat.le_refl _)) (Nat.ne_of_lt (Nat.lt_succ_self _))
  have I2 := Inv.made (C := C) I
  have r1 : Vals (V.ref (s.heap.objs.size + 1) :: vs) (Value.ref (s.heap.objs.size + 1) :: us) := .cons rfl r
  have e1 : (Value.ref (s.heap.objs.size + 1) :: us).length = n + 1 := r1.length.symm.trans (congrArg Nat.succ l1)
  refine wpAny_call (make_map (f := fa) I.kIn M.makes M.init (beq_iff_eq.mp M.fn) (codeAny_mono (FO.run _ X.stack _ _ ⟨Value.ref (s.heap.objs.size + 1) :: us, ks.zip ws⟩ (gg (Value.ref (s.heap.objs.size + 1) :: us) ws) _ _ (WE W σ) (hr.make C us (ks.zip ws))
    (I2.env0.make C us (ks.zip ws)) (hb.to _ (Value.ref (s.heap.objs.size + 1) :: us) ws I2.kIn e1 (rz.length.symm.trans l2)) (hb.rel r1 rz) hq) fun r s' hq' => ?_))
  cases r with
  | error e => exact passAt tk σ pins _ _ e s' I2 hq'
  | ok fl =>
    cases fl with
    | ret u =>
      obtain ⟨v, H', I3, rv, ev, q3⟩ := I2.after hq'
      subst ev
      exact ⟨rv, ⟨V.ref (s.heap.objs.size + 1), H', I3, rfl, q3⟩⟩
    | next => exact False.elim hq'
    | brk => exact False.elim hq'
    | cont => exact False.elim hq'
theorem i_make {k : Nat} {fa : Addr} {fd : FuncData} {ps : List Str} {c f : Nat} {fr : Bool} {arr : List Ar} (hK : X.K = g.K) (M : Mk g.K (g.ca c) fa) (cl : Cls g.K (g.ca c)) (FO : FnOk X.prog X.w X.K X.mg X.base (L2.CX X.prog X.w) k fa fd ps (spF g F f ps.length)) (hr : Room (k + 1) X.A) (hg : Gl X x) (hm : X.mg x = some (.ref (g.ca c)))
    (sg : Sig g fd ps (ies.length + 1) ks arr) (tk : Takes X W) (hdb : (x == ("__debug__" : Str)) = false) (oks : okEs es = true) (hks : kwsNames kws = some ks) (hkl : iks.length = ks.length) (hel : es.length = ies.length)
    (ha : PA X es (tEs g W (evs F ies))) (hkw : PK X kws (tEs g W (evs F iks))) : PE X (.Call (.Name x p) es kws pos) (tE g W (ev F (.make fr c f arr (ies ++ iks)))) := by
  obtain ⟨gg, gV, hb, hp⟩ := sg.ex
  have M' := M
  rw [← hK] at hb M'
  refine ⟨fun pins s σ H Q I ⟨m, ρ, S, rs, er, w⟩ => ?_⟩
  rw [ev] at w
  refine wpAny_Call_Name_kw (ld_glob I hg hm ?_ hdb)
  refine own_args (first := []) M'.kp oks hks hkl hel ha hkw I rs er w fun {s2 H2 m2 S2 as bs vs zs us ws} I2 ru rz l1 l2 x2 rs2 er2 ra w => ?_
  refine run_mk M' FO hr hb tk I2 ru rz l1 l2 fun y dx hy hd hne => ?_
  have hy1 : upd H2 dx (.own y) y = none := by rw [upd_ne (Ne.symm hne)]; exact hy
  have rs3 := rs2.laid (o := .own y) hd
  have x3 : Ext m2 S2.length H2 (mNew m2 S2.length y) (S2.length + 1) (upd (upd H2 dx (.own y)) y (.ins (g.ca c) dx [])) := (Ext.laid rs2 hd).trans (Ext.new rs3 hy1)
  have rs4 : RS g (mNew m2 S2.length y) (S2 ++ [some (.ins c [])]) (upd (upd H2 dx (.own y)) y (.ins (g.ca c) dx [])) := rs3.new hy1 ⟨dx, [], upd_same, ⟨cl, Nat.zero_le _, fun f hf => by cases hf⟩, by unfold RelFs; rfl⟩
  have ln : (S2 ++ [some (Cell.ins c [])]).length = S2.length + 1 := by rw [List.length_append, List.length_singleton]
  unfold makeR callR at w
  have rself : Rel g (mNew m2 S2.length y) (S2.length + 1) (upd (upd H2 dx (.own y)) y (.ins (g.ca c) dx [])) (.ref S2.length) (.ref y) := by
    rw [rel_ref]
    exact ⟨Nat.lt_succ_self _, y, rfl, fun b hb => by rw [mNew_same] at hb; cases hb; rfl⟩
  split at w
  · rename_i ps' hps
    obtain ⟨q1, q2⟩ := hp (mNew m2 S2.length y) (S2.length + 1) _ (.ref S2.length :: (as ++ bs)) (.ref y :: vs) zs ps' (Rels.cons rself (Rels.mono x3 _ _ ra)) (by rw [List.length_cons, l1]) l2 hps
    refine ⟨q2, _, _, ps', rs4, by rw [ln]; exact q1, ?_⟩
    rw [ln]
    have w1 := WP.bind (Ra := Rel g) (w.from x3)
    refine w1.imp fun v H4 ⟨m4, S4, r, x4, rs4, rr, w4⟩ => ?_
    split at w4
    · rw [rel_non] at rr
      refine ⟨rr, ?_⟩
      have rs5 : Rel g m4 S4.length H4 (.ref S2.length) (.ref y) := Rel.mono x4 _ _ rself
      cases fr with
      | true =>
        rw [if_pos rfl] at w4
        exact frz_ok rs4 rs5 w4
      | false =>
        rw [if_neg Bool.false_ne_true] at w4
        exact w4.now rs4 rs5
    · exact w4.err
  · exact WP.err (show WP g _ (Rel g) m2 S2.length H2 .err Q from w)
end
end Iv

/-! ### targets, walks, statements -/
namespace Iv
open PySem PySem.Spec PyProof.Rows L2
theorem WP.wish {α β : Type} {g : Gs} {W W' : Value → Option Addr → Hp → Prop} {Ra : Mp → Nat → Hp → α → β → Prop} {m : Mp} {n : Nat} {H : Hp} {r : R α} {Q : β → Hp → Prop} (h : WP g W Ra m n H r Q) (k : ∀ c d H, W c d H → W' c d H) : WP g W' Ra m n H r Q := by
  cases r with
  | ok a S' => exact h
  | exc x S' => exact fun m' H' c d y rs q => k c d H' (h m' H' c d y rs q)
  | err => exact h
theorem WP.ra {α β : Type} {g : Gs} {W : Value → Option Addr → Hp → Prop} {Ra Ra' : Mp → Nat → Hp → α → β → Prop} {m : Mp} {n : Nat} {H : Hp} {r : R α} {Q : β → Hp → Prop} (h : WP g W Ra m n H r Q) (k : ∀ m n H a b, Ra' m n H a b → Ra m n H a b) : WP g W Ra' m n H r Q := by
  cases r with
  | ok a S' => exact fun m' H' b x rs ra => h m' H' b x rs (k _ _ _ _ _ ra)
  | exc x S' => exact h
  | err => exact h
abbrev noW : Value → Option Addr → Hp → Prop := fun _ _ _ => False
/-- the other names' values stay -/
def Kept (vs : List Nat) (σ σ' : L2.St) : Prop := σ'.length = σ.length ∧ ∀ i, i ∉ vs → σ'[i]? = σ[i]?
theorem Kept.refl {vs : List Nat} {σ : L2.St} : Kept vs σ σ := ⟨rfl, fun _ _ => rfl⟩
theorem Kept.trans {vs : List Nat} {σ σ1 σ2 : L2.St} (h : Kept vs σ σ1) (k : Kept vs σ1 σ2) : Kept vs σ σ2 := ⟨k.1.trans h.1, fun i hi => (k.2 i hi).trans (h.2 i hi)⟩
theorem Kept.set {vs : List Nat} {σ : L2.St} {i : Nat} {v : Option V} (h : i ∈ vs) : Kept vs σ (σ.set i v) := ⟨List.length_set, fun j hj => List.getElem?_set_ne fun z => hj (by rw [← z]; exact h)⟩
theorem wipe_len (σ : L2.St) : ∀ vs : List Nat, (wipe σ vs).length = σ.length
  | [] => rfl
  | v :: vs => by
    unfold L2.wipe
    rw [List.length_set]
    exact wipe_len σ vs
theorem wipe_get (σ : L2.St) : ∀ (vs : List Nat) (i : Nat), i < σ.length → (wipe σ vs)[i]? = if i ∈ vs then some none else σ[i]?
  | [], i, _ => by rw [if_neg List.not_mem_nil]; rfl
  | v :: vs, i, h => by
    unfold L2.wipe
    by_cases e : i = v
    · rw [e, List.getElem?_set_self (by rw [wipe_len]; rw [← e]; exact h), if_pos (List.mem_cons_self ..)]
    · rw [List.getElem?_set_ne (Ne.symm e), wipe_get σ vs i h]
      simp [List.mem_cons, e]
theorem Kept.wiped {vs : List Nat} {σ σ' : L2.St} (h : Kept vs (wipe σ vs) σ') : wipe σ' vs = wipe σ vs := by
  have hl : σ'.length = σ.length := by rw [h.1, wipe_len]
  apply List.ext_getElem?
  intro i
  rcases Nat.lt_or_ge i σ.length with l | l
  · rw [wipe_get _ _ _ (by rw [hl]; exact l), wipe_get _ _ _ l]
    split
    · rfl
    · rename_i hi
      rw [h.2 i hi, wipe_get _ _ _ l, if_neg hi]
  · rw [List.getElem?_eq_none (by rw [wipe_len, hl]; exact l), List.getElem?_eq_none (by rw [wipe_len]; exact l)]
def EnvK (g : Gs) (vs : List Nat) (σ : L2.St) : Mp → Nat → Hp → Env → L2.St → Prop := fun m n H ρ' σ' => EnvR g m n H ρ' σ' ∧ Kept vs σ σ'
def TGv (g : Gs) (vs : List Nat) (f : D → Env → Sto → R Env) : TG := fun v σ H Q => ∃ m ρ S d, RS g m S H ∧ EnvR g m S.length H ρ σ ∧ Rel g m S.length H d v ∧ WP g noW (EnvK g vs σ) m S.length H (f d ρ S) Q
def TGvs (g : Gs) (vs : List Nat) (n : Nat) (f : List D → Env → Sto → R Env) : TGs := fun us σ H Q => ∃ m ρ S ds, RS g m S H ∧ EnvR g m S.length H ρ σ ∧ Rels g m S.length H ds us ∧ ds.length = n ∧ WP g noW (EnvK g vs σ) m S.length H (f ds ρ S) Q
def TGd (g : Gs) (f : D → Env → Sto → R Env) : TG := fun v σ H Q => ∃ m ρ S d, RS g m S H ∧ EnvR g m S.length H ρ σ ∧ Rel g m S.length H d v ∧ WP g noW (EnvR g) m S.length H (f d ρ S) Q
theorem PG.imp {X : Cx} {t : Expr} {u u' : TG} (h : PG X t u) (k : ∀ v σ H Q, u' v σ H Q → u v σ H Q) : PG X t u' := ⟨fun pins s σ H v w Q I r q => h.run pins s σ H v w Q I r (k v σ H Q q)⟩
theorem PGs.imp {X : Cx} {t : List Expr} {u u' : TGs} (h : PGs X t u) (k : ∀ v σ H Q, u' v σ H Q → u v σ H Q) : PGs X t u' := ⟨fun pins s σ H v w Q I r q => h.run pins s σ H v w Q I r (k v σ H Q q)⟩
theorem PG.or {X : Cx} {t : Expr} {u u' : TG} (h : PG X t u) (h' : PG X t u') : PG X t (fun v σ H Q => u v σ H Q ∨ u' v σ H Q) := ⟨fun pins s σ H v w Q I r q => q.elim (h.run pins s σ H v w Q I r) (h'.run pins s σ H v w Q I r)⟩
def noStar : Expr → Bool
  | .Starred _ _ => false
  | _ => true
theorem assignEach_ok {e : Expr} {es : List Expr} {env : PySem.Env} (h : noStar e = true) : assignEach (e :: es) env = (false, assign e env) :: assignEach es env := by
  cases e <;> first | rfl | (exact absurd h Bool.false_ne_true)
theorem assignEach_all : ∀ {es : List Expr} {env : PySem.Env}, es.all noStar = true → (assignEach es env).length = es.length ∧ (assignEach es env).findIdx? (·.1) = none
  | [], _, _ => ⟨rfl, rfl⟩
  | e :: es, env, h => by
    rw [List.all_cons, Bool.and_eq_true] at h
    obtain ⟨h1, h2⟩ := assignEach_all (env := env) h.2
    rw [assignEach_ok h.1]
    refine ⟨by rw [List.length_cons, List.length_cons, h1], ?_⟩
    rw [List.findIdx?_cons, h2]
    rfl
section
variable {g : Gs} {W : L2.WX} {X : Cx} {F : CE} {m : Mp} {n : Nat} {H : Hp} {S : Sto} {σ : L2.St} {ρ : Env} {pos : Pos}
theorem g_var {vs : List Nat} {i : Nat} {x : Str} (hv : i ∈ vs) (hN : X.N.Nodup) (hi : X.N[i]? = some x) (hx : Loc X.env.scope x) (hf : X.fn x = true ∨ X.env.scope.names.lookup x = some .local) : PG X (.Name x pos) (TGv g vs (asg F (.var i))) := by
  refine PG.imp (pg_name hN hi hx hf) fun v σ H Q ⟨m, ρ, S, d, rs, er, r, w⟩ => ?_
  rw [asg] at w
  exact w.now rs ⟨er.set r, Kept.set hv⟩
theorem gs_nil {vs : List Nat} : PGs X [] (TGvs g vs 0 (asgs F [])) := by
  refine PGs.imp pgs_nil fun us σ H Q ⟨m, ρ, S, ds, rs, er, r, l, w⟩ => ?_
  have : ds = [] := List.length_eq_zero_iff.mp l
  subst this
  unfold Rels at r
  rw [asgs] at w
  exact ⟨r, w.now rs ⟨er, Kept.refl⟩⟩
theorem gs_cons {vs : List Nat} {e : Expr} {es : List Expr} {t : Tg} {ts : List Tg} (ok : noStar e = true) (h1 : PG X e (TGv g vs (asg F t))) (h2 : PGs X es (TGvs g vs ts.length (asgs F ts))) : PGs X (e :: es) (TGvs g vs (t :: ts).length (asgs F (t :: ts))) := by
  refine PGs.imp (pgs_cons h1 h2 (by rw [assignEach_ok ok]; rfl)) fun us σ H Q ⟨m, ρ, S, ds, rs, er, r, l, w⟩ => ?_
  cases ds with
  | nil => cases l
  | cons d ds =>
    unfold Rels at r
    obtain ⟨v, vr, rfl, r1, r2⟩ := r
    rw [asgs] at w
    refine ⟨v, vr, rfl, m, ρ, S, d, rs, er, r1, (WP.bind (Ra := EnvK g vs σ) w).imp fun σ1 H1 ⟨m1, S1, ρ1, x1, rs1, ⟨er1, k1⟩, w1⟩ => ?_⟩
    exact ⟨m1, ρ1, S1, ds, rs1, er1, Rels.mono x1 _ _ r2, Nat.succ.inj l, w1.ra fun _ _ _ _ _ z => ⟨z.1, k1.trans z.2⟩⟩
theorem g_tup {vs : List Nat} {es : List Expr} {ts : List Tg} {k : Nat} (hK : X.K = g.K) (hc : X.calm = true) (ok : es.all noStar = true) (hl : es.length = ts.length) (h : PGs X es (TGvs g vs ts.length (asgs F ts))) : PG X (.Tuple es k pos) (TGv g vs (asg F (.tup ts))) := by
  obtain ⟨l1, l2⟩ := assignEach_all (env := X.env) ok
  refine PG.imp (PG.or (pg_tup hc h l1 l2) (pg_lst hc h l1 l2)) fun v σ H Q ⟨m, ρ, S, d, rs, er, r, w⟩ => ?_
  rw [asg] at w
  split at w
  · rename_i xs hx
    obtain ⟨c, w⟩ := w.ck
    obtain ⟨a, vs, rfl, rr, q⟩ := seqOf_sq rs r hx
    have lv : vs.length = es.length := by rw [← rr.length, c, hl]
    rw [hK]
    rcases q with q | q
    · exact .inr ⟨a, vs, rfl, q, lv, m, ρ, S, xs, rs, er, rr, c, w⟩
    · exact .inl ⟨a, vs, rfl, q, lv, m, ρ, S, xs, rs, er, rr, c, w⟩
  · exact w.err
theorem assign_sub_ok {o i : Expr} {env : PySem.Env} (h : okE i = true) : ∀ v, assign (.Subscript o i pos) env v = (do
      let ov ← holding [v] (eval o env)
      let iv ← holding [v, ov] (eval i env)
      standAt pos
      holding [v, ov, iv] (setItem ov iv v)
      release [v, ov, iv] []) := by
  intro v
  cases i <;> first | rfl | (exact absurd h Bool.false_ne_true)
theorem g_idx {vs : List Nat} {o i : Expr} {io ii : E} (ok : okE i = true) (ho : PE X o (tE g W (ev F io))) (hi : PE X i (tE g W (ev F ii))) : PG X (.Subscript o i pos) (TGv g vs (asg F (.idx io ii))) := by
  refine PG.imp (pg_sub ho hi set_list (assign_sub_ok ok)) fun v σ H Q ⟨m, ρ, S, d, rs, er, r, w⟩ => ?_
  rw [asg] at w
  refine ⟨m, ρ, S, rs, er, ((WP.bind (Ra := Rel g) w).wish fun _ _ _ z => z.elim).imp fun x H1 ⟨m1, S1, dx, x1, rs1, r1, w1⟩ => ?_⟩
  refine ⟨m1, ρ, S1, rs1, er.mono x1, ((WP.bind (Ra := Rel g) w1).wish fun _ _ _ z => z.elim).imp fun y H2 ⟨m2, S2, dy, x2, rs2, r2, w2⟩ => ?_⟩
  cases dx with
  | ref nn =>
    cases dy with
    | int kk =>
      replace w2 : WP g noW (EnvK g vs σ) m2 S2.length H2 ((match cellAt S2 nn with | some (.lst xs) => ck (0 ≤ kk ∧ kk < xs.length) (.ok () (setAt S2 nn (.lst (xs.set kk.toNat d)))) | _ => (.err : R Unit)).bind fun _ S => .ok ρ S) Q := w2
      split at w2
      · rename_i xs hz
        obtain ⟨a, rfl, k, vs, hv, rv⟩ := (Rel.mono x2 _ _ r1).box rs2 hz
        rw [rel_int] at r2
        unfold ck at w2
        split at w2
        · rename_i c
          simp only [R.bind_ok] at w2
          have hl := rv.length
          refine ⟨a, vs, kk, kk.toNat, rfl, r2, hv, ?_, ?_⟩
          · unfold ixN
            rw [if_pos c.1, if_pos (by omega)]
          · have xs' := Ext.set (n := S2.length) (o := .lst (vs.set kk.toNat v)) rs2 k
            have ln : (setAt S2 nn (.lst (xs.set kk.toNat d))).length = S2.length := by unfold setAt; rw [List.length_set]
            refine w2 m2 _ σ (by rw [ln]; exact xs') (rs2.set k ⟨_, upd_same, Rels.mono xs' _ _ (rv.set _ (Rel.mono (x1.trans x2) _ _ r))⟩) ?_
            rw [ln]
            exact ⟨er.mono ((x1.trans x2).trans xs'), Kept.refl⟩
        · exact w2.elim
      · exact w2.elim
    | _ => exact w2.elim
  | _ => cases dy <;> exact w2.elim
theorem putFd_mem {f f' : Nat} {d : D} : ∀ {fs : List (Nat × D)}, f' ∈ (putFd f d fs).map (·.1) → f' = f ∨ f' ∈ fs.map (·.1)
  | [], h => by
    rw [putFd] at h
    exact .inl (by simpa using h)
  | (g, e) :: r, h => by
    rw [putFd] at h
    split at h
    · exact .inr h
    · rw [List.map_cons] at h
      rcases List.mem_cons.mp h with h | h
      · exact .inr (by rw [h]; exact List.mem_cons_self ..)
      · rcases putFd_mem h with h | h
        · exact .inl h
        · exact .inr (List.mem_cons_of_mem _ h)
theorem putFd_length {f : Nat} {d : D} : ∀ {fs : List (Nat × D)}, (putFd f d fs).length ≤ fs.length + 1
  | [] => by rw [putFd]; exact Nat.le_refl _
  | (g, e) :: r => by
    rw [putFd]
    split
    · exact Nat.le_succ _
    · rw [List.length_cons, List.length_cons]
      exact Nat.succ_le_succ putFd_length
theorem RelFs.put {f : Nat} {d : D} {v : V} (hf : g.fok f) (r : Rel g m n H d v) : ∀ {fs : List (Nat × D)} {gs : List (Str × V)}, (∀ f, f ∈ fs.map (·.1) → g.fok f) → RelFs g m n H fs gs → RelFs g m n H (putFd f d fs) (putF (g.fn f) v gs)
  | [], _, _, rr => by
    unfold RelFs at rr
    rw [rr, putFd]
    show RelFs g m n H [(f, d)] [(g.fn f, v)]
    unfold RelFs
    exact ⟨v, [], rfl, r, by unfold RelFs; rfl⟩
  | (f', e) :: fs, _, ho, rr => by
    unfold RelFs at rr
    obtain ⟨w, gr, rfl, r1, r2⟩ := rr
    rw [putFd]
    unfold putF
    by_cases h : f' = f
    · subst h
      rw [if_pos rfl, if_pos rfl]
      unfold RelFs
      exact ⟨v, gr, rfl, r, r2⟩
    · rw [if_neg h, if_neg fun z => h (g.finj _ _ (ho f' (List.mem_cons_self ..)) hf z)]
      unfold RelFs
      exact ⟨w, _, rfl, r1, RelFs.put hf r (fun f h => ho f (List.mem_cons_of_mem _ h)) r2⟩
theorem pg_attr {o : Expr} {to : TE} {f : Str} (ho : PE X o to) : PG X (.Attribute o f pos) (fun v σ H Q => to σ H fun x H1 => ∃ a C dx fs, x = .ref a ∧ H1 a = some (.ins C dx fs) ∧ Cls X.K C ∧ NoAttr X.K C f ∧ fs.length < 1000 ∧ Q σ (upd H1 a (.ins C dx (putF f v fs)))) := by
  refine ⟨fun pins s σ H v u Q I r h => ?_⟩
  show wpAny _ _ (do
    let ov ← holding [u] (eval o X.env)
    standAt pos.atName
    holding [u, ov] (setAttr ov f u)
    release [u, ov] []) _ _ s
  refine wpAny_bind (wpAny_holding (thn (ho.run pins s σ H _ I h) fun ov s1 ⟨x, H1, I1, r1, a, C, dx, fs, ex, ea, c, na, l, q⟩ => ?_))
  subst ex
  obtain rfl : ov = Value.ref a := r1
  refine wpAny_bind (wpAny_standAt (wpAny_bind (wpAny_holding (setattr_ok I1 ea c na l r fun s2 I2 => ?_))))
  exact wpAny_release ⟨σ, _, I2, q⟩
theorem g_attr {vs : List Nat} {o : Expr} {io : E} {f : Nat} {cs : List Nat} (hK : X.K = g.K) (hf : g.fok f) (hcs : ∀ c ∈ cs, NoAttr g.K (g.ca c) (g.fn f)) (ho : PE X o (tE g W (ev F io))) : PG X (.Attribute o (g.fn f) pos) (TGv g vs (asg F (.attr io f cs))) := by
  refine PG.imp (pg_attr ho) fun v σ H Q ⟨m, ρ, S, d, rs, er, r, w⟩ => ?_
  rw [asg] at w
  refine ⟨m, ρ, S, rs, er, ((WP.bind (Ra := Rel g) w).wish fun _ _ _ z => z.elim).imp fun x H1 ⟨m1, S1, dx, x1, rs1, r1, w1⟩ => ?_⟩
  unfold sattrR at w1
  split at w1
  · split at w1
    · rename_i nn _ c fs hz
      obtain ⟨a, rfl, k, dx, gs, hv, ok, rv⟩ := r1.box rs1 hz
      unfold ck at w1
      split at w1
      · rename_i cc
        simp only [R.bind_ok] at w1
        have hgl : fs.length = gs.length := by
          clear w1 hv ok cc hz
          induction fs generalizing gs with
          | nil => unfold RelFs at rv; rw [rv]; rfl
          | cons p r ih =>
            obtain ⟨f1, d1⟩ := p
            unfold RelFs at rv
            obtain ⟨w, gr, rfl, _, r2⟩ := rv
            rw [List.length_cons, List.length_cons, ih gr r2]
        refine ⟨a, _, dx, gs, rfl, hv, by rw [hK]; exact ok.1, by rw [hK]; exact hcs c cc.1, by omega, ?_⟩
        have xs' := Ext.set (n := S1.length) (o := .ins (g.ca c) dx (putF (g.fn f) v gs)) rs1 k
        have ln : (setAt S1 nn (.ins c (putFd f d fs))).length = S1.length := by unfold setAt; rw [List.length_set]
        refine w1 m1 _ σ (by rw [ln]; exact xs') (rs1.set k ⟨dx, _, upd_same, ⟨ok.1, ?_, fun f' hf' => ?_⟩, RelFs.mono xs' _ _ (RelFs.put hf (Rel.mono x1 _ _ r) (fun f h => (ok.2.2 f h).1) rv)⟩) ?_
        · have := putFd_length (f := f) (d := d) (fs := fs)
          omega
        · rcases putFd_mem hf' with rfl | h
          · exact ⟨hf, hcs c cc.1⟩
          · exact ok.2.2 f' h
        · rw [ln]
          exact ⟨er.mono (x1.trans xs'), Kept.refl⟩
      · exact w1.elim
    · exact w1.elim
  · exact w1.elim

theorem g_any {vs : List Nat} {e : Expr} {f : D → Env → Sto → R Env} (h : PG X e (TGv g vs f)) : PG X e (TGd g f) := PG.imp h fun _ _ _ _ ⟨m, ρ, S, d, rs, er, r, w⟩ => ⟨m, ρ, S, d, rs, er, r, w.ra fun _ _ _ _ _ z => z.1⟩

/-! statements -/
def WS (g : Gs) (W : L2.WX) (m : Mp) (n : Nat) (H : Hp) (r : R Fl) (D : Ends) : Prop := match r with
  | .ok (.next ρ) S' => ∀ m' H' σ', Ext m n H m' S'.length H' → RS g m' S' H' → EnvR g m' S'.length H' ρ σ' → D.nx σ' H'
  | .ok (.brk ρ) S' => ∀ m' H' σ', Ext m n H m' S'.length H' → RS g m' S' H' → EnvR g m' S'.length H' ρ σ' → D.bk σ' H'
  | .ok (.cont ρ) S' => ∀ m' H' σ', Ext m n H m' S'.length H' → RS g m' S' H' → EnvR g m' S'.length H' ρ σ' → D.ct σ' H'
  | .ok (.ret d) S' => ∀ m' H' v, Ext m n H m' S'.length H' → RS g m' S' H' → Rel g m' S'.length H' d v → D.rt v H'
  | .ok (.raised x ρ) S' => ∀ m' H' σ' c d, Ext m n H m' S'.length H' → RS g m' S' H' → EnvR g m' S'.length H' ρ σ' → g.xr m' S'.length H' x c d → W c d σ' H'
  | _ => False
def TSd (g : Gs) (W : L2.WX) (f : Env → Sto → R Fl) : TS := fun D σ H => ∃ m ρ S, RS g m S H ∧ EnvR g m S.length H ρ σ ∧ WS g W m S.length H (f ρ S) D
variable {α β : Type} {Ra : Mp → Nat → Hp → α → β → Prop} {m1 : Mp} {n1 : Nat} {H1 : Hp} {D D' : Ends}
theorem WS.from {r : R Fl} (x : Ext m n H m1 n1 H1) (h : WS g W m n H r D) : WS g W m1 n1 H1 r D := by
  cases r with
  | ok f S' =>
    cases f with
    | next ρ => exact fun m' H' σ' y => h m' H' σ' (x.trans y)
    | brk ρ => exact fun m' H' σ' y => h m' H' σ' (x.trans y)
    | cont ρ => exact fun m' H' σ' y => h m' H' σ' (x.trans y)
    | ret d => exact fun m' H' v y => h m' H' v (x.trans y)
    | raised e ρ => exact fun m' H' σ' c d y => h m' H' σ' c d (x.trans y)
  | exc e S' => exact h
  | err => exact h
theorem WS.imp {r : R Fl} (h : WS g W m n H r D) (h1 : ∀ σ H, D.nx σ H → D'.nx σ H) (h2 : ∀ v H, D.rt v H → D'.rt v H) (h3 : ∀ σ H, D.bk σ H → D'.bk σ H) (h4 : ∀ σ H, D.ct σ H → D'.ct σ H) : WS g W m n H r D' := by
  cases r with
  | ok f S' =>
    cases f with
    | next ρ => exact fun m' H' σ' y a b => h1 _ _ (h m' H' σ' y a b)
    | brk ρ => exact fun m' H' σ' y a b => h3 _ _ (h m' H' σ' y a b)
    | cont ρ => exact fun m' H' σ' y a b => h4 _ _ (h m' H' σ' y a b)
    | ret d => exact fun m' H' v y a b => h2 _ _ (h m' H' v y a b)
    | raised e ρ => exact h
  | exc e S' => exact h
  | err => exact h
theorem WS.err {P : Prop} (h : WS g W m n H .err D) : P := False.elim h
theorem WS.next {ρ' : Env} {σ' : L2.St} (h : WS g W m S.length H (.ok (.next ρ') S) D) (rs : RS g m S H) (er : EnvR g m S.length H ρ' σ') : D.nx σ' H := h m H σ' Ext.refl rs er
theorem WS.go {r : R α} {f : α → Sto → R Fl} (rs : RS g m S H) (er : EnvR g m S.length H ρ σ) (h : WS g W m S.length H (r.go ρ f) D) :
    WP g (fun c d H' => W c d σ H') Ra m S.length H r (fun b H1 => ∃ m1 S1 a, Ext m S.length H m1 S1.length H1 ∧ RS g m1 S1 H1 ∧ EnvR g m1 S1.length H1 ρ σ ∧ Ra m1 S1.length H1 a b ∧ WS g W m1 S1.length H1 (f a S1) D) := by
  cases r with
  | ok a S' => exact fun m' H' b x rs ra => ⟨m', S', a, x, rs, er.mono x, ra, WS.from x h⟩
  | exc e S' => exact fun m' H' c d x rs q => h m' H' σ c d x rs (er.mono x) q
  | err => exact h
theorem WS.fl {r : R Fl} {f : Env → Sto → R Fl} (h : WS g W m n H (r.fl f) D) : WS g W m n H r { D with nx := fun σ' H' => ∃ m' ρ' S', RS g m' S' H' ∧ EnvR g m' S'.length H' ρ' σ' ∧ WS g W m' S'.length H' (f ρ' S') D } := by
  cases r with
  | ok w S' =>
    cases w with
    | next ρ => exact fun m' H' σ' x rs er => ⟨m', ρ, S', rs, er, WS.from x h⟩
    | brk ρ => exact h
    | cont ρ => exact h
    | ret d => exact h
    | raised e ρ => exact h
  | exc e S' => exact h.elim
  | err => exact h.elim
theorem WS.turn {r : R Fl} {f : Env → Sto → R Fl} {N : L2.St → Hp → Prop} (h : WS g W m n H (r.turn f) D) (hN : ∀ m' ρ' S' σ' H', Ext m n H m' S'.length H' → RS g m' S' H' → EnvR g m' S'.length H' ρ' σ' → WS g W m' S'.length H' (f ρ' S') D → N σ' H') :
    WS g W m n H r { D with nx := N, ct := N, bk := D.nx } := by
  cases r with
  | ok w S' =>
    cases w with
    | next ρ => exact fun m' H' σ' x rs er => hN m' ρ S' σ' H' x rs er (WS.from x h)
    | brk ρ => exact h
    | cont ρ => exact fun m' H' σ' x rs er => hN m' ρ S' σ' H' x rs er (WS.from x h)
    | ret d => exact h
    | raised e ρ => exact h
  | exc e S' => exact h.elim
  | err => exact h.elim
theorem WS.ck {c : Prop} [Decidable c] {r : R Fl} (h : WS g W m n H (ck c r) D) : c ∧ WS g W m n H r D := by
  unfold Iv.ck at h
  by_cases hc : c
  · rw [if_pos hc] at h
    exact ⟨hc, h⟩
  · rw [if_neg hc] at h
    exact h.elim
theorem PS.imp {X : Cx} {st : Stmt} {t t' : TS} (h : PS X st t) (k : ∀ D σ H, t' D σ H → t D σ H) : PS X st t' := ⟨fun pins s σ H D I q => h.run pins s σ H D I (k D σ H q)⟩
theorem PSs.imp {X : Cx} {st : List Stmt} {t t' : TS} (h : PSs X st t) (k : ∀ D σ H, t' D σ H → t D σ H) : PSs X st t' := ⟨fun pins s σ H D I q => h.run pins s σ H D I (k D σ H q)⟩
abbrev tS (g : Gs) (W : L2.WX) (f : Env → Sto → R Fl) : TS := TSd g W f
theorem s_nil : PSs X [] (tS g W (exs F [])) := by
  refine PSs.imp pss_nil fun D σ H ⟨m, ρ, S, rs, er, w⟩ => ?_
  rw [exs] at w
  exact w.next rs er
theorem s_cons {st : Stmt} {sts : List Stmt} {i : St} {is : List St} (h1 : PS X st (tS g W (ex F i))) (h2 : PSs X sts (tS g W (exs F is))) : PSs X (st :: sts) (tS g W (exs F (i :: is))) := by
  refine PSs.imp (pss_cons h1 h2) fun D σ H ⟨m, ρ, S, rs, er, w⟩ => ?_
  rw [exs] at w
  exact ⟨m, ρ, S, rs, er, w.fl⟩
def notComp : Expr → Bool
  | .ListComp _ _ _ _ => false
  | .SetComp _ _ _ _ => false
  | .DictComp _ _ _ _ _ => false
  | _ => true
theorem swaps_ok {e : Expr} {t : Option Expr} {l : Nat} {env : PySem.Env} (h : notComp e = true) : swapsWith e t l env = pure false := by
  cases e <;> first | rfl | (exact absurd h Bool.false_ne_true)
theorem s_expr {e : Expr} {ie : E} (ok : notComp e = true) (he : PE X e (tE g W (ev F ie))) : PS X (.Expr e pos) (tS g W (ex F (.expr ie))) := by
  refine PS.imp (ps_expr he (swaps_ok ok)) fun D σ H ⟨m, ρ, S, rs, er, w⟩ => ?_
  rw [ex] at w
  refine ⟨m, ρ, S, rs, er, (WS.go (Ra := Rel g) rs er w).imp fun v H1 ⟨m1, S1, d, x1, rs1, er1, r1, w1⟩ => w1.next rs1 er1⟩
theorem s_ret {e : Expr} {ie : E} (he : PE X e (tE g W (ev F ie))) : PS X (.Return (some e) pos) (tS g W (ex F (.ret ie))) := by
  refine PS.imp (ps_ret he) fun D σ H ⟨m, ρ, S, rs, er, w⟩ => ?_
  rw [ex] at w
  refine ⟨m, ρ, S, rs, er, (WS.go (Ra := Rel g) rs er w).imp fun v H1 ⟨m1, S1, d, x1, rs1, er1, r1, w1⟩ => w1 m1 H1 v Ext.refl rs1 r1⟩
theorem s_ite {c : Expr} {a b : List Stmt} {ic : E} {ia ib : List St} (hc : PT X c (tT g W (evT F ic))) (ha : PSs X a (tS g W (exs F ia))) (hb : PSs X b (tS g W (exs F ib))) : PS X (.If c a b pos) (tS g W (ex F (.ite ic ia ib))) := by
  refine PS.imp (ps_if hc ha hb) fun D σ H ⟨m, ρ, S, rs, er, w⟩ => ?_
  rw [ex] at w
  refine ⟨m, ρ, S, rs, er, (WS.go (Ra := RelB) rs er w).imp fun k H1 ⟨m1, S1, d, x1, rs1, er1, r1, w1⟩ => ?_⟩
  cases r1
  cases k with
  | true =>
    rw [if_pos rfl] at w1 ⊢
    exact ⟨m1, ρ, S1, rs1, er1, w1⟩
  | false =>
    rw [if_neg Bool.false_ne_true] at w1 ⊢
    exact ⟨m1, ρ, S1, rs1, er1, w1⟩
theorem asg_end {t : Tg} {d : Iv.D} {v : V} {Q : L2.St → Hp → Prop} (rs : RS g m S H) (er : EnvR g m S.length H ρ σ) (r : Rel g m S.length H d v) (w : WS g W m S.length H ((asg F t d ρ S).st fun ρ S => .ok (.next ρ) S) D) (hQ : ∀ σ H, D.nx σ H → Q σ H) : TGd g (asg F t) v σ H Q := by
  refine ⟨m, ρ, S, d, rs, er, r, ?_⟩
  cases h : asg F t d ρ S with
  | ok ρ1 S1 =>
    rw [h] at w
    exact fun m' H' σ' x rs' er' => hQ _ _ (w m' H' σ' x rs' er')
  | exc e S1 => rw [h] at w; exact w.elim
  | err => rw [h] at w; exact w.elim
theorem s_asg {tg e : Expr} {t : Tg} {ie : E} (he : PE X e (tE g W (ev F ie))) (hg : PG X tg (TGd g (asg F t))) (ok : noStar tg = true) (hs : swapsWithSole [tg] e pos.line X.env = pure false) (hw : swappedStores [tg] e X.env = pure none) : PS X (.Assign [tg] e pos) (tS g W (ex F (.asg t ie))) := by
  refine PS.imp (ps_asg he hg hs hw (by rw [assignEach_ok ok]; rfl)) fun D σ H ⟨m, ρ, S, rs, er, w⟩ => ?_
  rw [ex] at w
  refine ⟨m, ρ, S, rs, er, (WS.go (Ra := Rel g) rs er w).imp fun v H1 ⟨m1, S1, d, x1, rs1, er1, r1, w1⟩ => asg_end rs1 er1 r1 w1 fun _ _ z => z⟩
theorem op_augI {op : Bop} (hop : op = .add ∨ op = .sub ∨ op = .mul) : PIp X (opOf op) (r2 g (augR op)) := by
  rcases hop with rfl | rfl | rfl
  · refine OpR.imp (f := inplaceOp .Add) (iop_add.or (iop_add_str.or iop_ext)) fun x y H Q ⟨m, S, d, e, W, rs, rd, re, w⟩ => ?_
    cases d with
    | int i =>
      cases e with
      | int j =>
        rw [rel_int] at rd re
        exact .inl ⟨i, j, rd, re, w.now rs (by rw [rel_int])⟩
      | _ => exact w.elim
    | str a =>
      cases e with
      | str b =>
        obtain ⟨c, w⟩ := (show WP g W (Rel g) m S.length H (ck (a.length + b.length ≤ sizeLine) (.ok (.str (a ++ b)) S)) Q from w).ck
        rw [rel_str] at rd re
        exact .inr (.inl ⟨a, b, rd.1, re.1, c, w.now rs (by rw [rel_str]; exact ⟨rfl, rd.2.append re.2 c⟩)⟩)
      | _ => exact w.elim
    | ref i =>
      replace w : WP g W (Rel g) m S.length H (match cellAt S i, unbox S e with | some (.lst xs), .lst ys => ck (xs.length + ys.length ≤ sizeLine ∧ isRef e = false) (.ok (.ref i) (setAt S i (.lst (xs ++ ys)))) | _, _ => .err) Q := by
        cases e <;> exact w
      split at w
      · rename_i xs ys hz hy
        obtain ⟨⟨c1, c2⟩, w⟩ := w.ck
        obtain ⟨a, rfl, k, vs, hv, rv⟩ := rd.box rs hz
        obtain ⟨b, ws, rfl, kb, rb⟩ := unbox_rel rs re hy
        rw [rv.length, rb.length] at c1
        refine .inr (.inr ⟨a, b, vs, ws, rfl, rfl, hv, kb, c1, ?_⟩)
        have x := Ext.set (n := S.length) (o := .lst (vs ++ ws)) rs k
        have ln : (setAt S i (.lst (xs ++ ys))).length = S.length := by unfold setAt; rw [List.length_set]
        refine w m _ _ (by rw [ln]; exact x) (rs.set k ⟨_, upd_same, Rels.mono x _ _ (rv.append rb)⟩) ?_
        rw [ln]
        exact Rel.mono x _ _ rd
      · exact w.err
    | _ => exact w.elim
  · refine OpR.imp (f := inplaceOp .Sub) iop_sub fun x y H Q ⟨m, S, d, e, W, rs, rd, re, w⟩ => ?_
    cases d with
    | int i =>
      cases e with
      | int j =>
        rw [rel_int] at rd re
        exact ⟨i, j, rd, re, w.now rs (by rw [rel_int])⟩
      | _ => exact w.elim
    | _ => cases e <;> exact w.elim
  · refine OpR.imp (f := inplaceOp .Mult) iop_mul fun x y H Q ⟨m, S, d, e, W, rs, rd, re, w⟩ => ?_
    cases d with
    | int i =>
      cases e with
      | int j =>
        obtain ⟨c, w⟩ := (show WP g W (Rel g) m S.length H (ck (mulOk i j) (.ok (.int (i * j)) S)) Q from w).ck
        rw [rel_int] at rd re
        exact ⟨i, j, rd, re, c, w.now rs (by rw [rel_int])⟩
      | _ => exact w.elim
    | _ => cases e <;> exact w.elim
theorem s_aug {i : Nat} {x : Str} {e : Expr} {ie : E} {op : Bop} {p2 : Pos} (hN : X.N.Nodup) (hi : X.N[i]? = some x) (hx : Loc X.env.scope x) (hf : X.fn x = true ∨ X.env.scope.names.lookup x = some .local) (hop : op = .add ∨ op = .sub ∨ op = .mul) (he : PE X e (tE g W (ev F ie))) : PS X (.AugAssign (.Name x p2) (opOf op) e pos) (tS g W (ex F (.aug i op ie))) := by
  refine PS.imp (ps_aug hN hi hx he (op_augI (g := g) hop) hf) fun D σ H ⟨m, ρ, S, rs, er, w⟩ => ?_
  rw [ex] at w
  split at w
  · rename_i d hd
    obtain ⟨v, hv, rv⟩ := er.2 i d hd
    have w1 := WS.go (Ra := Rel g) rs er w
    refine ⟨v, hv, m, ρ, S, rs, er, (WP.bind (Ra := Rel g) w1).imp fun y H1 ⟨m1, S1, dy, x1, rs1, r1, w2⟩ => ?_⟩
    exact ⟨m1, S1, d, dy, _, rs1, Rel.mono x1 _ _ rv, r1, w2.imp fun z H2 ⟨m2, S2, dz, x2, rs2, er2, r2, w3⟩ => w3.next rs2 (er2.set r2)⟩
  · exact w.err
/-! loops -/
def ItR (g : Gs) (m : Mp) (n : Nat) (H : Hp) (w : Src × List Iv.D) (J : L2.It) : Prop :=
  ∀ m' S' H', ExtW m n H m' (List.length S') H' → Fz H H' → RS g m' S' H' → w.1.there S' →
    (∀ (i : Nat) (d : Iv.D), w.2[i]? = some d → J.go i H' ∧ ∀ x H'', J.yld i H' x H'' → RS g m' S' H'' ∧ Ext m' S'.length H' m' S'.length H'' ∧ Rel g m' S'.length H'' d x) ∧ J.stop w.2.length H'
abbrev tI (g : Gs) (W : L2.WX) (f : Env → Sto → R (Src × List Iv.D)) : L2.TI := TI g W (ItR g) f
theorem s_for {tg iter : Expr} {body : List Stmt} {t : Tg} {it : Iv.It} {ib : List St} (hp : PassesOwn (model X.prog X.w) X.A X.env X.xe) (hc : X.calm = true) (oki : okE iter = true) (hi : PI X tg iter (tI g W (evIt F it))) (hg : PG X tg (TGd g (asg F t))) (hb : PSs X body (tS g W (exs F ib))) :
    PS X (.For tg iter body [] pos) (tS g W (ex F (.for t it ib))) := by
  refine PS.imp (ps_for hp hc hi hg hb (folded_ok oki)) fun D σ H ⟨m, ρ, S, rs, er, w⟩ => ?_
  rw [ex] at w
  refine ⟨m, ρ, S, rs, er, (WS.go (Ra := ItR g) rs er w).imp fun J H1 ⟨m1, S1, ⟨src, items⟩, x1, rs1, er1, r1, w1⟩ => ?_⟩
  generalize hstep : (fun d ρ S => (asg F t d ρ S).st fun ρ S => exs F ib ρ S : Iv.D → Env → Sto → R Fl) = step at w1
  refine ⟨fun i μ σ' H' => μ = items.length - i ∧ i ≤ items.length ∧ ∃ m' ρ' S', Ext m1 S1.length H1 m' S'.length H' ∧ RS g m' S' H' ∧ EnvR g m' S'.length H' ρ' σ' ∧ WS g W m' S'.length H' (forLoop src step (items.drop i) ρ' S') D, ⟨_, rfl, Nat.zero_le _, m1, ρ, S1, Ext.refl, rs1, er1, by rw [List.drop_zero]; exact w1⟩, ?_⟩
  rintro i μ σ' H' ⟨rfl, hi, m', ρ', S', x', rs', er', w'⟩
  cases hd : items.drop i with
  | nil =>
    have e : i = items.length := by
      have := List.drop_eq_nil_iff.mp hd
      omega
    rw [hd, forLoop] at w'
    obtain ⟨c, w'⟩ := w'.ck
    obtain ⟨_, st⟩ := r1 m' S' H' x'.w x'.fz rs' c
    refine .inl ⟨by rw [e]; exact st, w'.next rs' er'⟩
  | cons d ds =>
    rw [hd, forLoop] at w'
    obtain ⟨c, w'⟩ := w'.ck
    obtain ⟨go, _⟩ := r1 m' S' H' x'.w x'.fz rs' c
    have hlt : i < items.length := by
      rcases Nat.lt_or_ge i items.length with h | h
      · exact h
      · rw [List.drop_eq_nil_iff.mpr h] at hd
        cases hd
    rw [List.drop_eq_getElem_cons hlt] at hd
    injection hd with hd1 hd2
    obtain ⟨g1, g2⟩ := go i d (by rw [List.getElem?_eq_getElem hlt, hd1])
    refine .inr ⟨g1, _, fun σ2 H2 h2 => ⟨items.length - (i + 1), by omega, h2⟩, fun x H'' y => ?_⟩
    obtain ⟨rs'', x'', rx⟩ := g2 x H'' y
    have w'' := w'.from x''
    refine ⟨m', ρ', S', d, rs'', er'.mono x'', rx, ?_⟩
    rw [← hstep] at w''
    dsimp only at w''
    cases ha : asg F t d ρ' S' with
    | ok ρ2 S2 =>
      rw [ha] at w''
      simp only [R.st_ok] at w''
      intro m3 H3 σ3 x3 rs3 er3
      refine ⟨m3, ρ2, S2, rs3, er3, (w''.from x3).turn fun m4 ρ4 S4 σ4 H4 x4 rs4 er4 w4 => ?_⟩
      exact ⟨rfl, hlt, m4, ρ4, S4, ((x'.trans x'').trans x3).trans x4, rs4, er4, by rw [hd2, ← hstep]; exact w4⟩
    | exc e S2 => rw [ha] at w''; exact w''.elim
    | err => rw [ha] at w''; exact w''.elim
end
end Iv

/-! ### walks -/
namespace Iv
open PySem PySem.Spec PyProof.Rows L2
section
variable {g : Gs} {W : L2.WX} {X : Cx} {F : CE} {m : Mp} {n : Nat} {H : Hp} {S : Sto} {σ : L2.St} {ρ : Env} {pos : Pos} {a : Addr} {xs : List Iv.D} {src : Src}
theorem walk_seq {d : Iv.D} (e : walkOf S d = some (src, xs)) : (∃ z, d = .str z) ∨ src.there S ∧ ∀ S', src.there S' → seqOf S' d = some xs := by
  cases d with
  | str z => exact .inl ⟨z, rfl⟩
  | tup zs => cases e; exact .inr ⟨trivial, fun _ _ => rfl⟩
  | lst zs => cases e; exact .inr ⟨trivial, fun _ _ => rfl⟩
  | scr zs => cases e; exact .inr ⟨trivial, fun _ _ => rfl⟩
  | ref i =>
    replace e : (match cellAt S i with | some (.lst xs) => some (Src.box i xs, xs) | _ => none) = some (src, xs) := e
    split at e
    · rename_i zs hz
      cases e
      refine .inr ⟨hz, fun S' h => ?_⟩
      replace h : cellAt S' i = some (.lst xs) := h
      rw [seqOf_ref, h]
    · cases e
  | _ => cases e
theorem Ext.same : Ext m n H m n H := Ext.refl
/-- a walk that makes nothing -/
theorem itr_still {J : L2.It} (h : ∀ m' S' H', ExtW m n H m' (List.length S') H' → RS g m' S' H' → src.there S' → ∃ vs, Rels g m' S'.length H' xs vs ∧ (∀ (i : Nat) (v : V), vs[i]? = some v → J.go i H' ∧ ∀ x H'', J.yld i H' x H'' → H'' = H' ∧ x = v) ∧ J.stop vs.length H') : ItR g m n H (src, xs) J := by
  intro m' S' H' x _ rs c
  obtain ⟨vs, r, k, st⟩ := h m' S' H' x rs c
  refine ⟨fun i d e => ?_, by rw [r.length]; exact st⟩
  obtain ⟨v, hv, rv⟩ := r.get e
  obtain ⟨k1, k2⟩ := k i v hv
  refine ⟨k1, fun y H'' q => ?_⟩
  obtain ⟨rfl, rfl⟩ := k2 y H'' q
  exact ⟨rs, Ext.refl, rv⟩
theorem itr_list (h : ∀ m' S' H', ExtW m n H m' (List.length S') H' → RS g m' S' H' → src.there S' → ∃ vs, SqL g.K H' a vs ∧ Rels g m' S'.length H' xs vs) : ItR g m n H (src, xs) (Itl g.K a) := by
  refine itr_still fun m' S' H' x rs c => ?_
  obtain ⟨vs, q, r⟩ := h m' S' H' x rs c
  refine ⟨vs, r, fun i v e => ⟨⟨vs, v, q, e⟩, fun y H'' z => ⟨z.1, ?_⟩⟩, ⟨vs, q, Nat.le_refl _⟩⟩
  have := z.2 vs q
  rw [e] at this
  cases this
  rfl
theorem itr_tup (h : ∀ m' S' H', ExtW m n H m' (List.length S') H' → RS g m' S' H' → src.there S' → ∃ vs, SqT g.K H' a vs ∧ Rels g m' S'.length H' xs vs) : ItR g m n H (src, xs) (Itt g.K a) := by
  refine itr_still fun m' S' H' x rs c => ?_
  obtain ⟨vs, q, r⟩ := h m' S' H' x rs c
  refine ⟨vs, r, fun i v e => ⟨⟨vs, v, q, e⟩, fun y H'' z => ⟨z.1, ?_⟩⟩, ⟨vs, q, Nat.le_refl _⟩⟩
  have := z.2 vs q
  rw [e] at this
  cases this
  rfl
theorem itr_str {z : Str} (ok : okS z) : ItR g m n H (.fix, z.cps.toList.map fun c => .str ⟨#[c]⟩) (Its z) := by
  intro m' S' H' x _ rs _
  refine ⟨fun i d e => ?_, by show z.cps.size ≤ _; rw [List.length_map, Array.length_toList]; exact Nat.le_refl _⟩
  rw [List.getElem?_map] at e
  obtain ⟨c, hc, rfl⟩ := Option.map_eq_some_iff.mp e
  have hi : i < z.cps.size := by
    have := (List.getElem?_eq_some_iff.mp hc).1
    rwa [Array.length_toList] at this
  refine ⟨hi, fun y H'' ⟨q1, c', q2, q3⟩ => ?_⟩
  subst q1
  rw [← Array.getElem?_toList, hc] at q2
  cases q2
  refine ⟨rs, Ext.refl, ?_⟩
  rw [rel_str]
  refine ⟨q3, by show 1 ≤ sizeLine; decide, fun u hu => ?_⟩
  have : u = c := by simpa using hu
  subst this
  exact ok.2 u (List.mem_of_getElem? hc)
theorem itr_rng {lo : Int} {k : Nat} : ItR g m n H (.fix, rngD lo k) (Itr lo k) := by
  intro m' S' H' x _ rs _
  refine ⟨fun i d e => ?_, by show k ≤ _; rw [rngD, List.length_map, List.length_range]; exact Nat.le_refl _⟩
  rw [rngD, List.getElem?_map] at e
  obtain ⟨j, hj, rfl⟩ := Option.map_eq_some_iff.mp e
  obtain ⟨hl, e2⟩ := List.getElem?_eq_some_iff.mp hj
  rw [List.getElem_range] at e2
  subst e2
  rw [List.length_range] at hl
  refine ⟨hl, fun y H'' ⟨q1, q2⟩ => ?_⟩
  subst q1
  exact ⟨rs, Ext.refl, by rw [rel_int]; exact q2⟩
theorem seq_list {d : Iv.D} {v : V} {H1 : Hp} {S1 : Sto} (rs : RS g m S H) (r : Rel g m S.length H d v) (hd : ∀ zs, d ≠ .tup zs) (e : seqOf S d = some xs) : ∃ a vs, v = .ref a ∧ Rels g m S.length H xs vs ∧ SqL g.K H a vs := by
  obtain ⟨a, vs, h, rr, k⟩ := seqOf_rel rs r e
  rcases k with ⟨k, _⟩ | ⟨_, k⟩
  · exact ⟨a, vs, h, rr, k⟩
  · exact absurd k (hd _)
theorem seq_tup {v : V} (rs : RS g m S H) (r : Rel g m S.length H (.tup xs) v) : ∃ a vs, v = .ref a ∧ Rels g m S.length H xs vs ∧ SqT g.K H a vs := by
  rw [rel_tup] at r
  obtain ⟨a, vs, h, k, rr⟩ := r
  exact ⟨a, vs, h, rr, k.sq⟩
/-- a new pair: its object told, or not both texts -/
def PairNew (g : Gs) (H : Hp) (T : Addr) (v w : V) (H'' : Hp) : Prop := (∃ o, NewT o ∧ H'' = upd H T (.frz o (.tup [v, w]))) ∨ (H'' = upd H T (.tup [v, w]) ∧ MixV g [v, w])
theorem PairNew.rel {d e : Iv.D} {T : Addr} {v w : V} {H2 : Hp} (q2 : H T = none) (h : PairNew g H T v w H2) (rs : RS g m S H) (rv : Rel g m S.length H d v) (rw' : Rel g m S.length H e w) :
    RS g m S H2 ∧ Ext m S.length H m S.length H2 ∧ Rel g m S.length H2 (.tup [d, e]) (.ref T) := by
  rcases h with ⟨o, ho, rfl⟩ | ⟨rfl, k⟩
  · refine ⟨rs.laid q2, Ext.laid rs q2, ?_⟩
    rw [rel_tup]
    exact ⟨T, _, rfl, .inr (.inr ⟨o, upd_same, ho.1, ho.2, Off.free rs q2⟩), Rels.cons (Rel.mono (Ext.laid rs q2) _ _ rv) (Rels.cons (Rel.mono (Ext.laid rs q2) _ _ rw') Rels.nil)⟩
  · refine ⟨rs.laid q2, Ext.laid rs q2, ?_⟩
    rw [rel_tup]
    exact ⟨T, _, rfl, .inl ⟨upd_same, Off.free rs q2, k⟩, Rels.cons (Rel.mono (Ext.laid rs q2) _ _ rv) (Rels.cons (Rel.mono (Ext.laid rs q2) _ _ rw') Rels.nil)⟩
theorem rel_notS {d : Iv.D} {v : V} (h : isS d = false) (r : Rel g m n H d v) : ∀ s, v ≠ .str s := by
  intro s e
  subst e
  cases d with
  | str x => cases h
  | non => unfold Rel at r; cases r
  | bl b => rw [rel_bl] at r; cases r
  | int b => rw [rel_int] at r; cases r
  | ty b => unfold Rel at r; cases r
  | tup b => rw [rel_tup] at r; obtain ⟨_, _, e, _⟩ := r; cases e
  | lst b => unfold Rel at r; obtain ⟨_, _, e, _⟩ := r; cases e
  | scr b => unfold Rel at r; obtain ⟨_, _, e, _⟩ := r; cases e
  | ntp b => unfold Rel at r; obtain ⟨_, _, e, _⟩ := r; cases e
  | ref b => unfold Rel at r; obtain ⟨_, _, e, _⟩ := r; cases e
  | ins b c => unfold Rel at r; obtain ⟨_, _, _, e, _⟩ := r; cases e
  | wtp b => unfold Rel at r; obtain ⟨_, _, e, _⟩ := r; cases e
  | exv b c d => unfold Rel at r; obtain ⟨_, _, e, _⟩ := r; cases e
theorem mix2 (hw : g.weak = true) {d e : Iv.D} {v w : V} (h : (!(isS d && isS e)) = true) (rv : Rel g m n H d v) (rw' : Rel g m n H e w) : MixV g [v, w] := by
  refine ⟨hw, fun _ => ?_⟩
  cases hd : isS d with
  | false => exact ⟨v, by simp, rel_notS hd rv⟩
  | true =>
    cases he : isS e with
    | false => exact ⟨w, by simp, rel_notS he rw'⟩
    | true => rw [hd, he] at h; cases h
theorem mixZ_get (hwk : g.weak = true) {ys : List Iv.D} {vs ws : List V} (h : mixZ xs ys = true) (r1 : Rels g m n H xs vs) (r2 : Rels g m n H ys ws) {i : Nat} {v w : V} (hv : vs[i]? = some v) (hw : ws[i]? = some w) : MixV g [v, w] := by
  unfold mixZ at h
  rw [List.all_eq_true] at h
  have l1 : i < vs.length := (List.getElem?_eq_some_iff.mp hv).1
  have l2 : i < ws.length := (List.getElem?_eq_some_iff.mp hw).1
  have k1 : i < xs.length := by rw [r1.length]; exact l1
  have k2 : i < ys.length := by rw [r2.length]; exact l2
  obtain ⟨v', hv', rv⟩ := r1.get (List.getElem?_eq_getElem k1)
  obtain ⟨w', hw', rw'⟩ := r2.get (List.getElem?_eq_getElem k2)
  rw [hv] at hv'
  rw [hw] at hw'
  cases hv'
  cases hw'
  have hm : ((xs[i], ys[i]) : Iv.D × Iv.D) ∈ xs.zip ys := by
    refine List.mem_of_getElem? (i := i) ?_
    rw [List.getElem?_zip_eq_some]
    exact ⟨List.getElem?_eq_getElem k1, List.getElem?_eq_getElem k2⟩
  exact mix2 hwk (h _ hm) rv rw'
theorem evs1 {ie : E} : evs F [ie] ρ S = (ev F ie ρ S).bind fun x S => .ok [x] S := by
  rw [evs]
  rfl
theorem evs2 {ie ie2 : E} : evs F [ie, ie2] ρ S = (ev F ie ρ S).bind fun x S => (ev F ie2 ρ S).bind fun y S => .ok [x, y] S := by
  rw [evs]
  congr 1
  funext x S
  rw [evs1, R.bind_bind]
  rfl
theorem PI.imp {tg iter : Expr} {t t' : L2.TI} (h : PI X tg iter t) (k : ∀ σ H R, t' σ H R → t σ H R) : PI X tg iter t' := ⟨fun pins s σ H R I q => h.run pins s σ H R I (k σ H R q)⟩
theorem there_now {d : Iv.D} (e : walkOf S d = some (src, xs)) (hs : ∀ z, d ≠ .str z) : seqOf S d = some xs ∧ ∀ S', src.there S' → seqOf S' d = some xs := by
  rcases walk_seq e with ⟨z, h⟩ | ⟨h, k⟩
  · exact absurd h (hs z)
  · exact ⟨k S h, k⟩
theorem itr_of_list {d : Iv.D} (rs : RS g m S H) (r : Rel g m S.length H d (.ref a)) (hd : ∀ zs, d ≠ .tup zs) (k : ∀ S', src.there S' → seqOf S' d = some xs) :
    ∀ m' S' H', ExtW m S.length H m' (List.length S') H' → RS g m' S' H' → src.there S' → ∃ vs, SqL g.K H' a vs ∧ Rels g m' S'.length H' xs vs := by
  intro m' S' H' x rs' c
  obtain ⟨a', vs, e, rr, q⟩ := seq_list (H1 := H) (S1 := S) rs' (Rel.monoW x _ _ r) hd (k S' c)
  cases e
  exact ⟨vs, q, rr⟩
theorem w_e {tg e : Expr} {ie : E} (hK : X.K = g.K) (he : PE X e (tE g W (ev F ie))) : PI X tg e (tI g W (evIt F (.e ie))) := by
  refine ⟨fun pins s σ H R I ⟨m, ρ, S, rs, er, w⟩ => ?_⟩
  rw [evIt] at w
  refine thn (he.run pins s σ H (fun v H1 => ∃ m1 S1 d, RS g m1 S1 H1 ∧ Rel g m1 S1.length H1 d v ∧ WP g (fun c d H' => W c d σ H') (ItR g) m1 S1.length H1 (match walkOf S1 d with | some w => .ok w S1 | none => .err) R) I (TI.step rs er w fun v H1 m1 S1 d x1 rs1 er1 r1 w => ⟨m1, S1, d, rs1, r1, w⟩)) fun u s1 ⟨v, H1, I1, rv, m1, S1, d, rs1, r1, w⟩ => ?_
  cases hw : walkOf S1 d with
  | none => rw [hw] at w; exact w.err
  | some p =>
    obtain ⟨src, xs⟩ := p
    rw [hw] at w
    by_cases hs : ∃ z, d = .str z
    · obtain ⟨z, rfl⟩ := hs
      cases hw
      rw [rel_str] at r1
      obtain ⟨rfl, ok⟩ := r1
      obtain ⟨t, rfl⟩ := rv
      have q := w.now rs1 (itr_str ok)
      by_cases ha : z.cps.all (· < 128) = true
      · exact wpAny_pyIter_ascii ha (pi_one (tk := s1.toks) I1 _ (turn_str _ z t _ (.inl rfl)) ⟨_, Heap.get?_push_size _ rfl, rfl, rfl⟩ q)
      · have ha : z.cps.all (· < 128) = false := by simpa using ha
        exact wpAny_pyIter_wide ha (pi_one (tk := s1.toks) I1 _ (turn_str _ z t _ (.inr rfl)) ⟨_, Heap.get?_push_size _ rfl, rfl, rfl⟩ q)
    · have hs' : ∀ z, d ≠ .str z := fun z h => hs ⟨z, h⟩
      obtain ⟨e0, k⟩ := there_now hw hs'
      by_cases ht : ∃ zs, d = .tup zs
      · obtain ⟨zs, rfl⟩ := ht
        cases hw
        obtain ⟨a, vs, rfl, rr, q⟩ := seq_tup rs1 r1
        obtain rfl : u = Value.ref a := rv
        rw [← hK] at q
        obtain ⟨its, _, p, _⟩ := I1.tuple q
        have qq := w.now rs1 (itr_tup (a := a) fun m' S' H' x rs' _ => by
          obtain ⟨a', vs', e, rr', q'⟩ := seq_tup rs' (Rel.monoW x _ _ r1)
          cases e
          exact ⟨vs', q', rr'⟩)
        rw [← hK] at qq
        exact wpAny_pyIter_tuple (show s1.heap.IsTuple a its.toArray from p) (pi_one (tk := s1.toks) I1 _ (turn_tuple a _) ⟨_, Heap.get?_push_size _ rfl, rfl, rfl⟩ qq)
      · have hd : ∀ zs, d ≠ .tup zs := fun z h => ht ⟨z, h⟩
        obtain ⟨a, vs, rfl, rr, q⟩ := seq_list (H1 := H) (S1 := S) rs1 r1 hd e0
        obtain rfl : u = Value.ref a := rv
        rw [← hK] at q
        obtain ⟨its, _, p, _⟩ := I1.list q
        have qq := w.now rs1 (itr_list (itr_of_list rs1 r1 hd k))
        rw [← hK] at qq
        exact wpAny_pyIter_list p.isList (pi_one (tk := s1.toks) I1 _ (turn_list a _) ⟨_, Heap.get?_push_size _ rfl, rfl, rfl⟩ qq)
theorem w_rng1 {tg e : Expr} {ie : E} {p : Pos} (hg : Gl X "range") (hm : X.mg "range" = none) (ok : okE e = true) (ha : PA X [e] (tEs g W (evs F [ie]))) : PI X tg (.Call (.Name "range" p) [e] [] pos) (tI g W (evIt F (.rng1 ie))) := by
  refine PI.imp (pi_range1 hg hm ha (by rw [starEach_ok ok]; rfl)) fun σ H R ⟨m, ρ, S, rs, er, w⟩ => ?_
  rw [evIt] at w
  refine ⟨m, ρ, S, rs, er, ?_⟩
  show WP g _ (Rels g) m S.length H (evs F [ie] ρ S) _
  rw [evs1]
  cases hh : ev F ie ρ S with
  | ok d S1 =>
    rw [hh] at w
    simp only [Iv.R.bind_ok] at w ⊢
    intro m' H' vs x rs' r
    obtain ⟨v, rfl, rv⟩ := Rels.one r
    have w := w.from x
    split at w
    · obtain ⟨c, w⟩ := w.ck
      rw [rel_int] at rv
      exact ⟨_, by rw [rv], c.1, c.2, w.now rs' itr_rng⟩
    · exact w.err
  | exc x S1 => rw [hh] at w; exact w
  | err => rw [hh] at w; exact w
end
end Iv

/-! ### comprehensions -/
namespace Iv
open PySem PySem.Spec PyProof.Rows L2
abbrev noX : L2.WX := fun _ _ _ _ => False
section
variable {g : Gs} {W : L2.WX} {X : Cx} {F : CE} {m m' : Mp} {n : Nat} {H H' : Hp} {S S' : Sto} {σ : L2.St} {ρ : Env} {pos : Pos}
theorem RS.turn (rs : RS g m S H) (x : ExtW m S.length H m' S.length H') (hb : m'.box = m.box) (hc : ∀ i a, m i = some a → H' a = H a) (hh : ∀ a, m'.hid a → (∃ o, H' a = some o) ∧ ∀ i, m' i ≠ some a) (ht : ∀ p ∈ g.tabs, m'.hid p.1 ∧ H' p.1 = H p.1) : RS g m' S H' := by
  refine ⟨fun i a k => ?_, fun i c k nh => ?_, fun i j a h k => ?_, hh, rs.hotS, fun p hp => ⟨(ht p hp).1, (rs.tabs p hp).2.monoW x (ht p hp).2⟩⟩
  · rw [hb] at k
    obtain ⟨c, e, q⟩ := rs.dom i a k
    exact ⟨c, e, q.monoW x (hc i a k)⟩
  · rw [hb]
    exact rs.all i c k nh
  · rw [hb] at h k
    exact rs.inj i j a h k
/-- a new list that only its owner sees -/
def mHide (m : Mp) (a : Addr) : Mp := ⟨m.box, fun b => m.hid b ∨ b = a⟩
theorem Ext.hide {D : Addr} {o : HO} (rs : RS g m S H) (e : H D = none) : Ext m S.length H (mHide m D) S.length (upd H D o) :=
  ⟨Nat.le_refl _, fun _ _ _ e => e, fun b ob k f => ⟨by rw [upd_ne (ne_of_none k e)]; exact k, f.1, fun h => h.elim f.2 fun z => by rw [z, e] at k; cases k⟩, fun b h => ⟨.inl h, .inl (upd_ne fun z => (Off.free rs e).2 (by rw [← z]; exact h))⟩, Fz.upd (NoFz.none e)⟩
theorem RS.hide {D : Addr} {o : HO} (rs : RS g m S H) (e : H D = none) : RS g (mHide m D) S (upd H D o) := by
  refine RS.turn rs (Ext.hide rs e).w rfl (fun i a k => upd_ne fun z => (Off.free rs e).1 i (by rw [← z]; exact k)) (fun a h => ?_) fun p hp => ⟨.inl (rs.tabs p hp).1, upd_ne fun z => (Off.free rs e).2 (by rw [← z]; exact (rs.tabs p hp).1)⟩
  by_cases z : a = D
  · rw [z, upd_same]
    exact ⟨⟨_, rfl⟩, (Off.free rs e).1⟩
  · rw [upd_ne z]
    exact rs.hidS a (h.elim id fun q => absurd q z)
/-- the owner writes -/
theorem Ext.own {m1 : Mp} {H1 : Hp} {D : Addr} {o : HO} (x : Ext m1 n H1 m S.length H) (e : H1 D = none) (rs1 : ¬ m1.hid D) : Ext m1 n H1 m S.length (upd H D o) :=
  ⟨x.le, x.old, fun b ob k f => let ⟨k', f'⟩ := x.keep b ob k f; ⟨by rw [upd_ne (ne_of_none k e)]; exact k', f'⟩, fun b h => let ⟨h', k'⟩ := x.hid b h; ⟨h', by unfold SameT; rw [upd_ne fun z => rs1 (by rw [← z]; exact h)]; exact k'⟩, fun b ob u k => by rw [upd_ne fun z => by rw [z, e] at k; cases k]; exact x.fz b ob u k⟩
theorem ExtW.own {D : Addr} {o : HO} (hd : m.hid D) : ExtW m n H m n (upd H D o) :=
  ⟨Nat.le_refl _, fun _ _ _ e => e, fun b ob k f => ⟨by rw [upd_ne fun z => f.2 (by rw [z]; exact hd)]; exact k, f⟩⟩
theorem RS.own {D : Addr} {o u : HO} (rs : RS g m S H) (hd : m.hid D) (e : H D = some u) (nt : ∀ ps, u ≠ .tbl ps := by intro _ z; cases z) : RS g m S (upd H D o) := by
  refine RS.turn rs (ExtW.own hd) rfl (fun i a k => upd_ne fun z => (rs.hidS D hd).2 i (by rw [← z]; exact k)) (fun a h => ?_) fun p hp => ⟨(rs.tabs p hp).1, upd_ne fun z => by
    obtain ⟨_, ps, h1, _⟩ := rs.tabs p hp
    rw [z, e] at h1
    cases h1
    exact nt _ rfl⟩
  by_cases z : a = D
  · rw [z, upd_same]
    exact ⟨⟨_, rfl⟩, (rs.hidS D hd).2⟩
  · rw [upd_ne z]
    exact rs.hidS a h
theorem lc_end {box : Bool} {m1 : Mp} {H1 : Hp} {S1 : Sto} {D : Addr} {vs : List V} {ys : List Iv.D} {Q : VK} {W' : Value → Option Addr → Hp → Prop} (rs1 : RS g m1 S1 H1) (hD : H1 D = none) (x : Ext m1 S1.length H1 m' S'.length H') (hd : m'.hid D) (rs' : RS g m' S' H') (e : H' D = some (.lst vs)) (r : Rels g m' S'.length H' ys vs)
    (w : WP g W' (Rel g) m1 S1.length H1 (mkL box ys S') Q) : Q (.ref D) H' := by
  have n1 : ¬ m1.hid D := (Off.free rs1 hD).2
  cases box with
  | false =>
    have xw : ExtW m' S'.length H' ⟨m'.box, m1.hid⟩ S'.length H' := ⟨Nat.le_refl _, fun _ _ _ e => e, fun a o e f => ⟨e, f.1, fun h => f.2 (x.hid a h).1⟩⟩
    refine w ⟨m'.box, m1.hid⟩ H' (.ref D) ⟨x.le, x.old, fun a o e f => let ⟨e', f'⟩ := x.keep a o e f; ⟨e', f'.1, f.2⟩, fun a h => ⟨h, (x.hid a h).2⟩, x.fz⟩ (rs'.turn xw rfl (fun _ _ _ => rfl) (fun a h => rs'.hidS a (x.hid a h).1) fun p hp => ⟨(rs1.tabs p hp).1, rfl⟩) ?_
    rw [rel_lst]
    exact ⟨D, vs, rfl, ⟨e, (rs'.hidS D hd).2, n1⟩, Rels.monoW xw _ _ r⟩
  | true =>
    have ln : (S' ++ [some (Cell.lst ys)]).length = S'.length + 1 := by rw [List.length_append, List.length_singleton]
    have xw : ExtW m' S'.length H' (mNew ⟨m'.box, m1.hid⟩ S'.length D) (S'.length + 1) H' := by
      refine ⟨Nat.le_succ _, fun i b l k => ?_, fun a o e f => ⟨e, fun i k => ?_, fun h => f.2 (x.hid a h).1⟩⟩
      · rw [mNew_ne (Nat.ne_of_lt l)] at k
        exact k
      · by_cases hi : i = S'.length
        · rw [hi, mNew_same] at k
          cases k
          exact f.2 hd
        · rw [mNew_ne hi] at k
          exact f.1 i k
    refine w (mNew ⟨m'.box, m1.hid⟩ S'.length D) H' (.ref D) ?_ ?_ ?_
    · rw [ln]
      refine ⟨Nat.le_succ_of_le x.le, fun i b l k => ?_, fun a o k f => ?_, fun a h => ⟨h, (x.hid a h).2⟩, x.fz⟩
      · rw [mNew_ne (Nat.ne_of_lt (Nat.lt_of_lt_of_le l x.le))] at k
        exact x.old i b l k
      · obtain ⟨k', f'⟩ := x.keep a o k f
        refine ⟨k', fun i q => ?_, f.2⟩
        by_cases hi : i = S'.length
        · rw [hi, mNew_same] at q
          cases q
          rw [hD] at k
          cases k
        · rw [mNew_ne hi] at q
          exact f'.1 i q
    · refine ⟨fun i b k => ?_, fun i c k nh => ?_, fun i j b h1 h2 => ?_, fun b h => ?_, fun i k => ?_, fun p hp => ⟨(rs1.tabs p hp).1, (rs'.tabs p hp).2.monoW xw rfl⟩⟩
      · rw [ln]
        by_cases hi : i = S'.length
        · subst hi
          rw [mNew_same] at k
          cases k
          exact ⟨_, cellAt_push, vs, e, Rels.monoW xw _ _ r⟩
        · rw [mNew_ne hi] at k
          obtain ⟨c, h, q⟩ := rs'.dom i b k
          exact ⟨c, by rw [cellAt_push_lt (rs'.lt k)]; exact h, q.monoW xw rfl⟩
      · by_cases hi : i = S'.length
        · exact ⟨D, by rw [hi, mNew_same]⟩
        · have hl := cellAt_lt k
          rw [ln] at hl
          have hl' : i < S'.length := by omega
          rw [cellAt_push_lt hl'] at k
          rw [mNew_ne hi]
          exact rs'.all i c k nh
      · by_cases hi : i = S'.length
        · by_cases hj : j = S'.length
          · rw [hi, hj]
          · rw [hi, mNew_same] at h1
            rw [mNew_ne hj] at h2
            cases h1
            exact absurd h2 ((rs'.hidS D hd).2 j)
        · by_cases hj : j = S'.length
          · rw [hj, mNew_same] at h2
            rw [mNew_ne hi] at h1
            cases h2
            exact absurd h1 ((rs'.hidS D hd).2 i)
          · rw [mNew_ne hi] at h1
            rw [mNew_ne hj] at h2
            exact rs'.inj i j b h1 h2
      · obtain ⟨q1, q2⟩ := rs'.hidS b (x.hid b h).1
        refine ⟨q1, fun i k => ?_⟩
        by_cases hi : i = S'.length
        · rw [hi, mNew_same] at k
          cases k
          exact n1 h
        · rw [mNew_ne hi] at k
          exact q2 i k
      · by_cases hi : i = S'.length
        · rw [hi, cellAt_push] at k
          cases k
        · have hl := cellAt_lt k
          rw [ln] at hl
          rw [cellAt_push_lt (by omega)] at k
          exact rs'.hotS i k
    · rw [rel_ref, ln]
      exact ⟨Nat.lt_succ_self _, D, rfl, fun b hb => by rw [mNew_same] at hb; cases hb; rfl⟩
theorem lcLoop_form {src : Src} {step : Iv.D → Sto → R (List Iv.D)} : ∀ {items : List Iv.D} {S : Sto}, (∃ ys S', lcLoop src step items S = .ok ys S') ∨ lcLoop src step items S = .err
  | [], S => by
    rw [lcLoop]
    unfold ck
    split
    · exact .inl ⟨_, _, rfl⟩
    · exact .inr rfl
  | d :: ds, S => by
    rw [lcLoop]
    unfold ck
    split
    · cases step d S with
      | ok xs S1 =>
        dsimp only
        rcases lcLoop_form (src := src) (step := step) (items := ds) (S := S1) with ⟨ys, S2, h⟩ | h
        · rw [h]; exact .inl ⟨_, _, rfl⟩
        · rw [h]; exact .inr rfl
      | exc _ _ => exact .inr rfl
      | err => exact .inr rfl
    · exact .inr rfl
theorem lcLoop_nil {src : Src} {step : Iv.D → Sto → R (List Iv.D)} {rest : List Iv.D} {Sf : Sto} (h : lcLoop src step [] S = .ok rest Sf) : src.there S ∧ rest = [] ∧ Sf = S := by
  rw [lcLoop] at h
  unfold ck at h
  split at h
  · rename_i c
    injection h with h1 h2
    exact ⟨c, h1.symm, h2.symm⟩
  · cases h
theorem lcLoop_cons {src : Src} {step : Iv.D → Sto → R (List Iv.D)} {d : Iv.D} {ds rest : List Iv.D} {Sf : Sto} (h : lcLoop src step (d :: ds) S = .ok rest Sf) : src.there S ∧ ∃ xs S1 r2, step d S = .ok xs S1 ∧ lcLoop src step ds S1 = .ok r2 Sf ∧ rest = xs ++ r2 := by
  rw [lcLoop] at h
  unfold ck at h
  split at h
  · rename_i c
    refine ⟨c, ?_⟩
    cases hs : step d S with
    | ok xs S1 =>
      rw [hs] at h
      dsimp only at h
      cases hl : lcLoop src step ds S1 with
      | ok r2 S2 =>
        rw [hl] at h
        dsimp only at h
        injection h with h1 h2
        subst h2
        exact ⟨xs, S1, r2, rfl, hl, h1.symm⟩
      | exc _ _ => rw [hl] at h; cases h
      | err => rw [hl] at h; cases h
    | exc _ _ => rw [hs] at h; cases h
    | err => rw [hs] at h; cases h
  · cases h
theorem bind_ok {α β : Type} {r : R α} {f : α → Sto → R β} {b : β} (h : r.bind f = .ok b S') : ∃ a S1, r = .ok a S1 ∧ f a S1 = .ok b S' := by
  cases r with
  | ok a S1 => exact ⟨a, S1, rfl, h⟩
  | exc _ _ => cases h
  | err => cases h
variable {own : List Nat} {t : Tg} {it : Iv.It} {iifs : List E} {ie : E} {box : Bool}
noncomputable abbrev lcStep (F : CE) (own : List Nat) (t : Tg) (iifs : List E) (ie : E) (ρ : Env) : Iv.D → Sto → R (List Iv.D) := fun d S => (asg F t d (wipeE ρ own) S).bind fun ρ1 S => (evIfs F iifs ρ1 S).bind fun k S => if k = true then (ev F ie ρ1 S).bind fun y S => .ok [y] S else .ok [] S
theorem drop_cons {α : Type} {l ds : List α} {d : α} {i : Nat} (h : l.drop i = d :: ds) : i < l.length ∧ l[i]? = some d ∧ l.drop (i + 1) = ds := by
  have hlt : i < l.length := by
    rcases Nat.lt_or_ge i l.length with q | q
    · exact q
    · rw [List.drop_eq_nil_iff.mpr q] at h
      cases h
  rw [List.drop_eq_getElem_cons hlt] at h
  injection h with h1 h2
  exact ⟨hlt, by rw [List.getElem?_eq_getElem hlt, h1], h2⟩
theorem lc_body {Q : VK} (rs : RS g m S H) (er : EnvR g m S.length H ρ σ) (w : WP g (fun c d H' => W c d σ H') (Rel g) m S.length H (ev F (.lc box own t it iifs ie) ρ S) Q) :
    tLc (tI g W (evIt F it)) (TGv g own (asg F t)) (tT g noX (evIfs F iifs)) (tE g noX (ev F ie)) own σ H Q := by
  rw [ev] at w
  refine TI.step (Ra := ItR g) rs er w fun J H1 m1 S1 ⟨src, items⟩ x1 rs1 er1 it1 w => ?_
  intro D hD
  dsimp only at w
  rcases lcLoop_form (src := src) (step := lcStep F own t iifs ie ρ) (items := items) (S := S1) with ⟨ys, Sf, hL⟩ | hL
  · rw [hL] at w
    obtain ⟨hy, w⟩ := (show WP g _ (Rel g) m1 S1.length H1 (ck (ys.length ≤ sizeLine) (mkL box ys Sf)) Q from w).ck
    have n1 : ¬ m1.hid D := (Off.free rs1 hD).2
    refine ⟨fun i μ H' => μ = items.length - i ∧ i ≤ items.length ∧ ∃ m' S' acc vs rest, Ext m1 S1.length H1 m' (List.length S') H' ∧ m'.hid D ∧ RS g m' S' H' ∧ H' D = some (.lst vs) ∧ Rels g m' S'.length H' acc vs ∧ lcLoop src (lcStep F own t iifs ie ρ) (items.drop i) S' = .ok rest Sf ∧ acc ++ rest = ys,
      ⟨_, rfl, Nat.zero_le _, mHide m1 D, S1, [], [], ys, Ext.hide rs1 hD, .inr rfl, rs1.hide hD, upd_same, Rels.nil, by rw [List.drop_zero]; exact hL, rfl⟩, ?_⟩
    rintro i μ H' ⟨rfl, hi, m', S', acc, vs, rest, x', hd', rs', e', ra, hl, hs⟩
    cases hdr : items.drop i with
    | nil =>
      have e : i = items.length := by
        have := List.drop_eq_nil_iff.mp hdr
        omega
      rw [hdr] at hl
      obtain ⟨c, rfl, rfl⟩ := lcLoop_nil hl
      rw [List.append_nil] at hs
      subst hs
      obtain ⟨_, st⟩ := it1 m' _ H' x'.w x'.fz rs' c
      exact .inl ⟨by rw [e]; exact st, lc_end rs1 hD x' hd' rs' e' ra w⟩
    | cons d ds =>
      rw [hdr] at hl
      obtain ⟨c, xs, S2, r2, hstep, hl2, rfl⟩ := lcLoop_cons hl
      obtain ⟨hlt, hget, hds⟩ := drop_cons hdr
      obtain ⟨g1, g2⟩ := (it1 m' S' H' x'.w x'.fz rs' c).1 i d hget
      refine .inr ⟨g1, _, fun H2 h2 => ⟨items.length - (i + 1), by omega, h2⟩, fun v H'' yv => ?_⟩
      obtain ⟨rs'', x'', rx⟩ := g2 v H'' yv
      have x3 := x'.trans x''
      have e3 : H'' D = some (.lst vs) := (x''.hid D hd').2.trans e'
      have ra3 := Rels.mono x'' _ _ ra
      refine ⟨m', wipeE ρ own, S', d, rs'', (er1.mono x3).wiped own, rx, ?_⟩
      obtain ⟨ρ1, Sa, ha, hstep⟩ := bind_ok hstep
      rw [ha]
      intro m4 H4 σ4 x4 rs4 ⟨er4, k4⟩
      refine ⟨k4.wiped, m4, ρ1, Sa, rs4, er4, ?_⟩
      obtain ⟨k, Sb, hk, hstep⟩ := bind_ok hstep
      rw [hk]
      intro m5 H5 b x5 rs5 rb
      cases rb
      have x5' := (x3.trans x4).trans x5
      have e5 : H5 D = some (.lst vs) := (((x4.trans x5).hid D (x''.hid D hd').1).2).trans e3
      have hd5 : m5.hid D := ((x4.trans x5).hid D (x''.hid D hd').1).1
      have ra5 := Rels.mono (x4.trans x5) _ _ ra3
      cases k with
      | false =>
        rw [if_neg Bool.false_ne_true] at hstep ⊢
        injection hstep with q1 q2
        subst q1 q2
        exact ⟨rfl, hlt, m5, Sb, acc, vs, r2, x5', hd5, rs5, e5, ra5, by rw [hds]; exact hl2, by rw [← hs]; rfl⟩
      | true =>
        rw [if_pos rfl] at hstep ⊢
        refine ⟨m5, ρ1, Sb, rs5, er4.mono x5, ?_⟩
        obtain ⟨y, Sc, hyv, hstep⟩ := bind_ok hstep
        injection hstep with q1 q2
        subst q1 q2
        rw [hyv]
        intro m6 H6 yv x6 rs6 r6
        have e6 : H6 D = some (.lst vs) := (x6.hid D hd5).2.trans e5
        have hd6 : m6.hid D := (x6.hid D hd5).1
        have hlen : vs.length < sizeLine := by
          rw [← ra.length]
          have : (acc ++ ([y] ++ r2)).length ≤ sizeLine := by rw [hs]; exact hy
          simp only [List.length_append, List.length_cons, List.length_nil] at this
          omega
        refine ⟨vs, e6, hlen, rfl, hlt, m6, Sc, acc ++ [y], vs ++ [yv], r2, (x5'.trans x6).own hD n1, hd6, rs6.own hd6 e6, upd_same, Rels.append (Rels.monoW (ExtW.own hd6) _ _ (Rels.mono x6 _ _ ra5)) (Rels.cons (Rel.monoW (ExtW.own hd6) _ _ r6) Rels.nil), by rw [hds]; exact hl2, by rw [← hs, List.append_assoc]⟩
  · rw [hL] at w
    exact w.err
theorem ifs_nil : PTs X [] (tT g W (evIfs F [])) := by
  refine ⟨fun pins s σ H Q I ⟨m, ρ, S, rs, er, w⟩ => pts_nil.run pins s σ H Q I ?_⟩
  rw [evIfs] at w
  exact w.now rs rfl
theorem ifs_one {c : Expr} {ic : E} (hc : PT X c (tT g W (evT F ic))) : PTs X [c] (tT g W (evIfs F [ic])) := by
  refine ⟨fun pins s σ H Q I ⟨m, ρ, S, rs, er, w⟩ => (pts_one hc).run pins s σ H Q I ?_⟩
  have w : WP g (fun c d H' => W c d σ H') RelB m S.length H (evIfs F [ic] ρ S) Q := w
  rw [evIfs, ← R.bind_bind] at w
  refine TI.step (Ra := RelB) (f := evT F ic) rs er w fun k H1 m1 S1 d x1 rs1 er1 r1 w => ?_
  cases r1
  cases k with
  | true =>
    rw [if_pos rfl, evIfs] at w
    exact w.now rs1 rfl
  | false =>
    rw [if_neg Bool.false_ne_true] at w
    exact w.now rs1 rfl
theorem i_lc {elt tg iter : Expr} {ifs : List Expr} {scope : Scope} {own : List (Str × Nat)} (hc : X.calm = true) (hN : X.N.Nodup) (oki : okE iter = true) (hi : PI X tg iter (tI g W (evIt F it))) (ok : BlkOk X.N X.env.scope scope own)
    (hg : ∀ (s : Shared) (H : Hp) (C : Addr) (cl : List (Str × Addr)) (fp : List Addr), PG (X.blk s H scope (compEnvC scope cl C X.env) fp) tg (TGv g (own.map (·.2)) (asg F t)))
    (ht : ∀ (s : Shared) (H : Hp) (C : Addr) (cl : List (Str × Addr)) (fp : List Addr), PTs (X.blk s H scope (compEnvC scope cl C X.env) fp) ifs (tT g noX (evIfs F iifs)))
    (he : ∀ (s : Shared) (H : Hp) (C : Addr) (cl : List (Str × Addr)) (fp : List Addr), PE (X.blk s H scope (compEnvC scope cl C X.env) fp) elt (tE g noX (ev F ie))) :
    PE X (.ListComp elt [⟨tg, iter, ifs, 0⟩] scope pos) (tE g W (ev F (.lc box (own.map (·.2)) t it iifs ie))) :=
  PE.imp (pe_lc hc hN hi ok hg ht he (folded_ok oki)) fun σ H Q ⟨m, ρ, S, rs, er, w⟩ => lc_body rs er w
theorem s_setLc {i : Nat} {y : Str} {py spos : Pos} {elt tg iter : Expr} {ifs : List Expr} {scope : Scope} {own : List (Str × Nat)} (hc : X.calm = true) (hN : X.N.Nodup) (hy : X.N[i]? = some y) (hyl : X.env.scope.names.lookup y = some .local)
    (hsw : swapsWith (.ListComp elt [⟨tg, iter, ifs, 0⟩] scope pos) (some (.Name y py)) spos.line X.env = pure true) (oki : okE iter = true) (hi : PI X tg iter (tI g W (evIt F it))) (ok : BlkOk X.N X.env.scope scope own)
    (hg : ∀ (s : Shared) (H : Hp) (C : Addr) (cl : List (Str × Addr)) (fp : List Addr), PG (X.blk s H scope (compEnvC scope cl C X.env) fp) tg (TGv g (own.map (·.2)) (asg F t)))
    (ht : ∀ (s : Shared) (H : Hp) (C : Addr) (cl : List (Str × Addr)) (fp : List Addr), PTs (X.blk s H scope (compEnvC scope cl C X.env) fp) ifs (tT g noX (evIfs F iifs)))
    (he : ∀ (s : Shared) (H : Hp) (C : Addr) (cl : List (Str × Addr)) (fp : List Addr), PE (X.blk s H scope (compEnvC scope cl C X.env) fp) elt (tE g noX (ev F ie))) :
    PS X (.Assign [.Name y py] (.ListComp elt [⟨tg, iter, ifs, 0⟩] scope pos) spos) (tS g W (ex F (.asg (.var i) (.lc box (own.map (·.2)) t it iifs ie)))) := by
  refine PS.imp (ps_setLc hc hN hy hyl hsw hi ok hg ht he (folded_ok oki)) fun D σ H ⟨m, ρ, S, rs, er, w⟩ => ?_
  rw [ex] at w
  have q := WS.go (Ra := Rel g) rs er w
  refine lc_body (ρ := ρ) rs er (q.imp fun v H1 ⟨m1, S1, d, x1, rs1, er1, r1, w1⟩ => ?_)
  rw [asg] at w1
  exact w1.next rs1 (er1.set r1)
end
end Iv

/-! ### sum from a start, ranges as tuples, two names at once -/
namespace Iv
open PySem PySem.Spec PyProof.Rows L2
theorem args_sumS (a v : Value) : argsOk "sum" ⟨[a], [(Str.ofString "start", v)]⟩ := by unfold argsOk; kernel_rfl
section
variable {prog : Program} {w : World} {A : Around} {E : Value → Shared → Prop} {s : Shared}
theorem callTreeKw {id : String} {b : Builtin} {args : List Value} {kw : List (Str × Value)} {Q : Value → Shared → Prop} (hk : builtinKind id = none) (hp : plainId id = true) (hb : entryFor table id = some b) (ha : argsOk id ⟨args, kw⟩)
    (hc : wpAny (model prog w) A.in1 (b ⟨args, kw⟩) (fun fin s' => match fin with
      | .done f => (match (Except.ok f : Result) with | .ok (.ret v) => Q v s' | .ok _ => False | .error e => E e s')
      | .again c' => c'.quiet = true ∧ codeAny (model prog w) A c' (fun r s' => match r with | .ok (.ret v) => Q v s' | .ok _ => False | .error e => E e s') s') E s) : wpAny (model prog w) A (call (.builtin id) args kw) Q E s := by
  refine wpAny_call (codeAny_call_builtin hp hb ?_)
  simp only [checkBuiltinCall, hk]
  cases hsig : Manifest.signature? id with
  | none => exact wpAny_pure hc
  | some sig =>
    have hx : Bind.checkArgs id sig ⟨args, kw⟩ = pure () := by simpa only [argsOk, hsig] using ha
    exact wpAny_of_eq hx hc
theorem walks_shift {I : Addr} {fp wr : List Addr} {n : Nat} {P : Nat → Value → Prop} {St : Nat → Heap → Prop} (W : Walks prog w A I fp wr n P St) (st : Int) :
    Walks prog w A I fp wr (n + 1) (fun i v => match i with | 0 => ∃ t, v = .int st t | i + 1 => P i v) (fun i h => match i with | 0 => False | i + 1 => St i h) where
  sub := W.sub
  frame := fun i h h' s k => match i, s with
    | 0, s => s
    | i + 1, s => W.frame i h h' s k
  item := fun i s Q E hi st hQ => match i, hi, st, hQ with
    | 0, _, st, _ => st.elim
    | i + 1, hi, st, hQ => W.item i s Q E (Nat.lt_of_succ_lt_succ hi) st hQ
  done := fun s Q E st hQ => W.done s Q E st hQ
  self := fun i s Q E st hQ => match i, st with
    | 0, st => st.elim
    | i + 1, st => W.self i s Q E st hQ
theorem preSum_shift (val : Nat → Int) (st : Int) : ∀ n, preSum (fun i => match i with | 0 => st | i + 1 => val i) (n + 1) = st + preSum val n
  | 0 => by simp [preSum]
  | n + 1 => by
    show preSum _ (n + 1) + val n = st + (preSum val n + val n)
    rw [preSum_shift val st n]
    omega
theorem sumS_walk {x : Value} {Q : Value → Shared → Prop} {st : Int} {tk0 : Tok}
    (h : wpAny (model prog w) A.in1 (pyIter x) (fun it s₂ => ∃ I fp wr n P St val, it = .ref I ∧ Walks prog w A.in1 I fp wr n P St ∧ St 0 s₂.heap ∧ (∀ b ∈ fp, b < s₂.heap.objs.size) ∧
      (∀ i v, P i v → ∃ t, v = .int (val i) t) ∧
      ∀ h' tk t', (∀ b o, b ∉ wr → s₂.heap.get? b = some o → h'.get? b = some o) → Q (.int (st + preSum val n) t') { s₂ with heap := h', toks := tk }) E s) :
    wpAny (model prog w) A (call (.builtin "sum") [x] [(Str.ofString "start", .int st tk0)]) Q E s := by
  refine callTreeKw F.kind_sum F.plain_sum F.entry_sum (args_sumS _ _) ?_
  unfold Builtin.«sum»
  simp only [List.length_cons, List.length_nil]
  rw [if_neg (by decide)]
  refine wpAny_bind (wpAny_of_eq (show Builtin.Builtins.bindParams "sum" ["start"] 0 ⟨[], [(Str.ofString "start", .int st tk0)]⟩ = pure [some (.int st tk0)] from rfl) ?_)
  refine wpAny_bind (wpAny_mono h (fun it s₂ h₂ => ?_) fun _ _ e => e)
  obtain ⟨I, fp, wr, n, P, St, val, rfl, W, hst, hfp, hval, hQ⟩ := h₂
  have rest : ∀ (tks : Nat) (tk1 : Tok) (stage : Int), (stage = 0 ∨ stage = 2) → wpAny (model prog w) A.in1 (do
      for (ty, what, hint) in [("str", "strings", "''"), ("bytes", "bytes", "b''"), ("bytearray", "bytearray", "b''")] do
        if ← isInstance (.int st tk1) (.type ty) then
          rule "sum.start-refused"; raiseError "TypeError" s!"sum() can't sum {what} [use {hint}.join(seq) instead]"
      again (.builtin "sum.loop" ⟨[.ref I, ← newList [.int st tk1], rawInt stage, rawInt 0], []⟩)) (fun fin s' => match fin with
      | .done f => (match (Except.ok f : Result) with | .ok (.ret v) => Q v s' | .ok _ => False | .error e => E e s')
      | .again c' => c'.quiet = true ∧ codeAny (model prog w) A c' (fun r s' => match r with | .ok (.ret v) => Q v s' | .ok _ => False | .error e => E e s') s') E { s₂ with toks := tks } := by
    intro tks tk1 stage hs
    simp only [List.forIn_cons, List.forIn_nil]
    refine wpAny_bind (wpAny_bind (wpAny_bind (wpAny_isInstance (T := "int") (b := false) (typeIs_int _ _ _) PySem.sub_int_str ?_)))
    simp only [Bool.false_eq_true, if_false]
    refine wpAny_pure (wpAny_bind (wpAny_bind (wpAny_isInstance (T := "int") (b := false) (typeIs_int _ _ _) PySem.sub_int_bytes ?_)))
    simp only [Bool.false_eq_true, if_false]
    refine wpAny_pure (wpAny_bind (wpAny_bind (wpAny_isInstance (T := "int") (b := false) (typeIs_int _ _ _) PySem.sub_int_bytearray ?_)))
    simp only [Bool.false_eq_true, if_false]
    refine wpAny_pure (wpAny_pure ?_)
    refine wpAny_bind (wpAny_newObj_type ?_)
    have hSf : s₂.heap.objs.size ∉ fp := fun hm => Nat.lt_irrefl _ (hfp _ hm)
    refine wpAny_pure ⟨plainId_quiet F.plain_sum_loop _, codeAny_sum_loopG (walks_shift W st) (fun i => match i with | 0 => st | i + 1 => val i) (fun i v => match i with | 0 => fun h => h | i + 1 => hval i v) s₂.heap.objs.size hSf n 1 _ tk1 0 stage hs (by omega) (by omega)
      (W.frame _ _ _ hst fun b _ o e => Heap.get?_push_of_some _ e) (by rw [show preSum (fun i => match i with | 0 => st | i + 1 => val i) 1 = st by simp [preSum]]; exact Heap.get?_push_size _ rfl) fun h' tk t' hk => ?_⟩
    have q := hQ h' tk t' fun b o hbw e => hk b o hbw (Nat.ne_of_lt (Heap.lt_size e)) (Heap.get?_push_of_some _ e)
    rw [preSum_shift]
    exact q
  dsimp only
  split
  · refine wpAny_bind (wpAny_rule (wpAny_bind (wpAny_mkInt (wpAny_bind (wpAny_pure ?_)))))
    exact rest _ _ 0 (.inl rfl)
  · refine wpAny_bind (wpAny_pure ?_)
    exact rest s₂.toks _ 2 (.inr rfl)
theorem sumS_raw {l : Addr} {its : List Value} {ns : List Int} {Q : Value → Shared → Prop} {st : Int} {tk0 : Tok} (hh : A.handled = none) (hl : s.heap.IsList l its.toArray) (hi : IntsAre its ns)
    (h : ∀ h' tk t', (∀ b o, s.heap.get? b = some o → h'.get? b = some o) → Q (.int (st + ns.sum) t') { s with heap := h', toks := tk }) : wpAny (model prog w) A (call (.builtin "sum") [.ref l] [(Str.ofString "start", .int st tk0)]) Q E s := by
  obtain ⟨xs, e⟩ := hi.allInts.items
  have hn : numsOf (intItems xs).toList = ns := by rw [← e]; exact hi.numsOf
  rw [nums_intItems] at hn
  rw [e] at hl
  refine sumS_walk (iter_intList hl fun s₂ e st hfp hlI => ?_)
  subst e
  refine ⟨_, _, _, _, _, _, numAt xs, rfl, Walks.list (A := A.in1) hh _ l hlI (intItems xs), st, hfp, (fun _ _ => intItems_at), fun h' tk t' hk => ?_⟩
  have := h h' tk t' (old_kept hk)
  rw [← hn] at this
  rw [preSum_eq, List.take_of_length_le (by simp [intItems])]
  exact this
end
section
variable {g : Gs} {W : L2.WX} {X : Cx} {F : CE} {p pos : Pos} {a b e : Expr} {ia ib ie : E}
def rSumS (K : PySem.W.Frag) : List V → List V → Hp → VK → Prop := fun vs zs H Q => ∃ (a : Addr) (ns : List Int) (i : Int), vs = [V.ref a] ∧ zs = [V.int i] ∧ SqL K H a (ns.map V.int) ∧ Q (.int (i + ns.sum)) H
theorem cr_sumS (hc : X.calm = true) : CallRK X (.builtin "sum") [Str.ofString "start"] (rSumS X.K) := by
  intro pins s σ H vs zs us ws Q I r rz h
  obtain ⟨a, ns, i, rfl, rfl, hs, q⟩ := h
  obtain ⟨its, rv, hl, _⟩ := I.list hs
  rw [Vals.ref1 r]
  cases rz with
  | cons r1 r2 =>
    cases r2
    obtain ⟨t, rfl⟩ := r1
    exact sumS_raw (I.ok.hd hc) hl.isList rv.ints fun h' tk t' hk => ⟨.int _, H, I.kept hk, ⟨_, rfl⟩, q⟩
theorem ints_rels {m : Mp} {n : Nat} {H : Hp} : ∀ {xs : List Iv.D} {vs : List V} {ns : List Int}, intsD xs = some ns → Rels g m n H xs vs → vs = ns.map V.int
  | [], vs, ns, h, r => by
    cases h
    unfold Rels at r
    exact r
  | x :: xs, vs, ns, h, r => by
    unfold Rels at r
    obtain ⟨w, ws, rfl, r1, r2⟩ := r
    cases x with
    | int i =>
      obtain ⟨ms, hm, rfl⟩ := Option.map_eq_some_iff.mp (show (intsD xs).map (i :: ·) = some ns from h)
      rw [rel_int] at r1
      rw [r1, ints_rels hm r2]
      rfl
    | _ => cases h
theorem i_sumS {kp : Pos} (hg : Gl X "sum") (hm : X.mg "sum" = none) (oke : okE e = true) (he : PA X [e] (tEs g W (evs F [ie]))) (ha : PE X a (tE g W (ev F ia))) (hK : X.K = g.K := by rfl) (hc : X.calm = true := by rfl) :
    PE X (.Call (.Name "sum" p) [e] [⟨some "start", a, kp⟩] pos) (tE g W (ev F (.bi .sumS [ie, ia]))) := by
  have hk : PK X [⟨some "start", a, kp⟩] (tEs g W (evs F [ia])) := k_cons ha k_nil
  refine PE.imp (pe_callBK (cr_sumS hc) hg hm (by decide +kernel) he hk (by decide) (by decide) (by rw [starEach_ok oke]; rfl) (by rw [starEach_ok oke]; rfl) (by rfl) (by rfl) (by rfl)) fun σ H Q ⟨m, ρ, S, rs, er, w⟩ => ?_
  rw [ev, evs2, R.bind_bind] at w
  refine ⟨m, ρ, S, rs, er, ?_⟩
  rw [evs1]
  cases hh : ev F ie ρ S with
  | ok d S1 =>
    rw [hh] at w
    simp only [R.bind_ok] at w ⊢
    intro m1 H1 vs x rs1 r1
    obtain ⟨v, rfl, rv⟩ := Rels.one r1
    have w := w.from x
    refine ⟨m1, ρ, S1, rs1, er.mono x, ?_⟩
    rw [evs1]
    cases hh2 : ev F ia ρ S1 with
    | ok d2 S2 =>
      rw [hh2] at w
      simp only [R.bind_ok] at w ⊢
      intro m2 H2 zs x2 rs2 r2
      obtain ⟨z, rfl, rz⟩ := Rels.one r2
      have w := w.from x2
      have rv2 := Rel.mono x2 _ _ rv
      cases d2 with
      | int i =>
        replace w : WP g (fun c d H' => W c d σ H') (Rel g) m2 S2.length H2 (match intsOf S2 d with | some ns => R.ok (D.int (i + ns.sum)) S2 | none => .err) Q := w
        cases hi : intsOf S2 d with
        | none => rw [hi] at w; exact w.err
        | some ns =>
          rw [hi] at w
          unfold intsOf at hi
          obtain ⟨xs, hx, hn⟩ := Option.bind_eq_some_iff.mp hi
          have hd : (∀ zs, d ≠ .tup zs) ∧ seqOf S2 d = some xs := by
            cases d <;> first | (cases hx; done) | exact ⟨fun _ h => (by cases h), hx⟩
          obtain ⟨q, us, rfl, rr, sq⟩ := seq_list (H1 := H) (S1 := S) rs2 rv2 hd.1 hd.2
          rw [ints_rels hn rr, ← hK] at sq
          rw [rel_int] at rz
          exact ⟨q, ns, i, rfl, by rw [rz], sq, w.now rs2 (by rw [rel_int])⟩
      | _ => exact w.err
    | exc x2 S2 => rw [hh2] at w; exact w
    | err => rw [hh2] at w; exact w
  | exc x S1 => rw [hh] at w; exact w
  | err => rw [hh] at w; exact w
theorem rels_rg {m : Mp} {n : Nat} {H : Hp} {i j : Int} : Rels g m n H (rngD i (j - i).toNat) (rgV i j) := by
  refine Rels.of (by rw [rgV_length, rngD, List.length_map, List.length_range]) fun k d v h1 h2 => ?_
  rw [rngD, List.getElem?_map] at h1
  unfold rgV at h2
  rw [List.getElem?_map] at h2
  obtain ⟨a, ha, rfl⟩ := Option.map_eq_some_iff.mp h1
  obtain ⟨b, hb, rfl⟩ := Option.map_eq_some_iff.mp h2
  rw [ha] at hb
  cases hb
  rw [rel_int]
theorem seqOf_tup {S : Sto} {xs : List Iv.D} : seqOf S (.tup xs) = some xs := rfl
theorem s_par2 {i j : Nat} {x y : Str} {px py pt : Pos} {kt k2 : Nat} {pt2 : Pos} (hN : X.N.Nodup) (ha : PA X [a, b] (tEs g W (evs F [ia, ib]))) (hi : X.N[i]? = some x := by rfl) (hj : X.N[j]? = some y := by rfl) (hij : i ≠ j := by decide)
    (hx : X.env.scope.names.lookup x = some .local := by rfl) (hy : X.env.scope.names.lookup y = some .local := by rfl) (hw : swappedStores [.Tuple [.Name x px, .Name y py] kt pt] (.Tuple [a, b] k2 pt2) X.env = pure (some [x, y]) := by rfl) (hc : X.calm = true := by rfl) :
    PS X (.Assign [.Tuple [.Name x px, .Name y py] kt pt] (.Tuple [a, b] k2 pt2) pos) (tS g W (ex F (.asg (.tup [.var i, .var j]) (.tup [ia, ib])))) := by
  refine PS.imp (ps_par hc hN hi hj hij hx hy ha hw) fun D σ H ⟨m, ρ, S, rs, er, w⟩ => ?_
  rw [ex, ev] at w
  cases hh : evs F [ia, ib] ρ S with
  | ok xs S1 =>
    have hl := evs_length hh
    match xs, hl with
    | [d, e], _ =>
      refine ⟨m, ρ, S, rs, er, ?_⟩
      rw [hh] at w ⊢
      intro m1 H1 vs x1 rs1 r1
      obtain ⟨v, v2, rfl, rv, rv2⟩ := Rels.two r1
      refine ⟨v, v2, rfl, ?_⟩
      have w : WS g W m S.length H ((ck (2 ≤ sizeLine) (R.ok (Iv.D.tup [d, e]) S1)).go ρ fun d S => (asg F (.tup [.var i, .var j]) d ρ S).st fun ρ S => .ok (.next ρ) S) D := w
      rw [ck_of (by decide), R.go_ok, asg, seqOf_tup] at w
      have w : WS g W m S.length H ((ck (2 = 2) (asgs F [.var i, .var j] [d, e] ρ S1)).st fun ρ S => .ok (.next ρ) S) D := w
      rw [ck_of rfl, asgs, asg, R.bind_ok, asgs, asg, R.bind_ok, asgs] at w
      exact w m1 H1 _ x1 rs1 (((er.mono x1).set rv).set rv2)
  | exc x S1 =>
    refine ⟨m, ρ, S, rs, er, ?_⟩
    rw [hh] at w ⊢
    exact fun m' H' c d x rs' q => w m' H' σ c d x rs' (er.mono x) q
  | err => rw [hh] at w; exact w.elim
end
end Iv

/-! ### zip(.., strict=True) -/
namespace Wz
open PySem
open PySem.Sem (wp)
open Builtin.SmallTypes (nextOrEnd nextOf)
section
variable {prog : Program} {w : World} {A : Around} {E : Value → Shared → Prop} {s : Shared} {z ti tu j1 j2 : Addr} {fa fb : List Addr} {m1 m2 i : Nat} {Pa Pb : Nat → Value → Prop} {Sa Sb : Nat → Heap → Prop} {u1 u2 : Value}
end
end Wz
namespace Wz
open PySem
open PySem.Sem (wp)
open Builtin.SmallTypes (nextOrEnd nextOf)
abbrev hT (h : Heap) (o1 o2 : Obj) : Heap := ((h.push o1).push o2).push { cls := .type "tuple", data := .seq #[.ref h.objs.size, .ref (h.push o1).objs.size] }
abbrev hU (h : Heap) (o1 o2 : Obj) : Heap := (hT h o1 o2).push { cls := .type "tuple", data := .seq #[.none, .none] }
abbrev hZ (h : Heap) (o1 o2 : Obj) : Heap := (hU h o1 o2).push { cls := .type "zip", data := .fields #[.none, .bool false, .bool true, .ref ((h.push o1).push o2).objs.size, .ref (hT h o1 o2).objs.size] }
section
variable {prog : Program} {w : World} {A : Around} {E : Value → Shared → Prop} {s : Shared}
end
end Wz
/-! ### the same for lists (true) and tuples (false) in any mix, in the hand layer -/
namespace Wz
open PySem PySem.Spec PyProof.Rows L2
def AtI (k : Bool) (h : Heap) (it l : Addr) (i : Nat) : Prop := match k with
  | true => h.IsListIter it l i
  | false => h.IsTupleIter it l i
def OfI (k : Bool) (h : Heap) (l : Addr) (xs : Array Value) : Prop := match k with
  | true => h.IsList l xs
  | false => h.IsTuple l xs
def Sq (k : Bool) (K : PySem.W.Frag) (H : Hp) (a : Addr) (xs : List V) : Prop := match k with
  | true => SqL K H a xs
  | false => SqT K H a xs
def objI (k : Bool) (l : Addr) : Obj := match k with
  | true => { cls := .type "list_iterator", data := .fields #[.ref l, .int 0 0] }
  | false => { cls := .type "tuple_iterator", data := .fields #[.ref l, .int 0 0] }
theorem AtI.obj {k : Bool} {h : Heap} {it l : Addr} {i : Nat} (x : AtI k h it l i) : ∃ o, h.get? it = some o ∧ ∀ v, o.data ≠ .cell v := by
  cases k with
  | true => obtain ⟨o, e, _, d⟩ := x; exact ⟨o, e, fun v q => by rw [d] at q; cases q⟩
  | false => obtain ⟨o, e, _, d⟩ := x; exact ⟨o, e, fun v q => by rw [d] at q; cases q⟩
theorem AtI.to {k : Bool} {h h' : Heap} {it l : Addr} {i : Nat} (x : AtI k h it l i) (f : ∀ o, h.get? it = some o → h'.get? it = some o) : AtI k h' it l i := by
  cases k with
  | true => exact Heap.IsListIter.at x f
  | false => exact Heap.IsTupleIter.at x f
theorem AtI.lt {k : Bool} {h : Heap} {it l : Addr} {i : Nat} (x : AtI k h it l i) : it < h.objs.size := by
  obtain ⟨o, e, _⟩ := x.obj
  exact Heap.lt_size e
theorem draws {k : Bool} {prog : Program} {w : World} {A : Around} (hh : A.handled = none) (it l : Addr) (ne : l ≠ it) (xs : Array Value) :
    Draws prog w A it [it, l] xs.size (fun i v => xs[i]? = some v) (fun i h => AtI k h it l i ∧ OfI k h l xs) := by
  cases k with
  | true => exact Draws.list hh it l ne xs
  | false => exact Draws.tuple hh it l ne xs
theorem AtI.fresh {k : Bool} {h : Heap} {it l : Addr} (e : h.get? it = some (objI k l)) : AtI k h it l 0 := by
  cases k with
  | true => exact ⟨_, e, rfl, rfl⟩
  | false => exact ⟨_, e, rfl, rfl⟩
section
variable {X : Cx} {pins : List (Addr × Obj)} {σ : L2.St} {H : Hp} {s : Shared}
theorem OfI.lt {k : Bool} {h : Heap} {a : Addr} {xs : Array Value} (x : OfI k h a xs) : a < h.objs.size := by
  cases k with
  | true => obtain ⟨o, e, _⟩ := x; exact Heap.lt_size e
  | false => obtain ⟨o, e, _⟩ := x; exact Heap.lt_size e
end
structure Lie (z ti tu j1 j2 a b : Addr) : Prop where
  sep : ZipSep2 z ti tu j1 j2 [j1, a] [j2, b]
  aj : a ≠ j1
  bj : b ≠ j2
theorem nn {a b : Nat} (h : ¬ a = b) : ¬ @Eq Addr a b := h
theorem no {a b c : Nat} (h : ¬ a = b) (h' : ¬ a = c) : ¬ (@Eq Addr a b ∨ @Eq Addr a c) := fun q => q.elim h h'
end Wz
namespace Wz
open PySem PySem.Spec PyProof.Rows L2
section
variable {prog : Program} {w : World} {A : Around} {E : Value → Shared → Prop} {s : Shared}
end
end Wz
namespace Wz
open PySem PySem.Spec PyProof.Rows L2
/-! as it computes -/
end Wz

/-! ### zip -/
namespace Iv
open PySem PySem.Spec PyProof.Rows L2
section
variable {g : Gs} {W : L2.WX} {X : Cx} {F : CE} {m : Mp} {n : Nat} {H : Hp} {S : Sto} {pos : Pos} {xs ys : List Iv.D}
theorem seq_k {d : Iv.D} {v : V} (rs : RS g m S H) (r : Rel g m S.length H d v) (e : seqOf S d = some xs) : ∃ a vs, v = .ref a ∧ Rels g m S.length H xs vs ∧ Wz.Sq (kOf d) g.K H a vs := by
  by_cases hd : ∃ zs, d = .tup zs
  · obtain ⟨zs, rfl⟩ := hd
    cases e
    obtain ⟨a, vs, h, rr, q⟩ := seq_tup rs r
    exact ⟨a, vs, h, rr, q⟩
  · obtain ⟨a, vs, h, rr, q⟩ := seq_list (H1 := H) (S1 := S) rs r (fun zs z => hd ⟨zs, z⟩) e
    have hk : kOf d = true := by cases d <;> first | rfl | exact absurd ⟨_, rfl⟩ hd
    rw [hk]
    exact ⟨a, vs, h, rr, q⟩
theorem fix_seq {d : Iv.D} (h : isRef d = false) {S' : Sto} : seqOf S' d = seqOf S d := by
  cases d <;> first | rfl | cases h
theorem itr_two {J : L2.It} (h : ∀ m' S' H', ExtW m n H m' (List.length S') H' → RS g m' S' H' → ∃ vs ws, Rels g m' S'.length H' xs vs ∧ Rels g m' S'.length H' ys ws ∧
    (∀ (i : Nat) (v w : V), vs[i]? = some v → ws[i]? = some w → J.go i H' ∧ ∀ x H'', J.yld i H' x H'' → ∃ T, x = .ref T ∧ H' T = none ∧ PairNew g H' T v w H'') ∧ J.stop (min vs.length ws.length) H') : ItR g m n H (.fix, zipD xs ys) J := by
  intro m' S' H' x _ rs _
  obtain ⟨vs, ws, r1, r2, k, st⟩ := h m' S' H' x rs
  refine ⟨fun i d e => ?_, ?_⟩
  · rw [zipD, List.getElem?_map] at e
    obtain ⟨p, hp, rfl⟩ := Option.map_eq_some_iff.mp e
    obtain ⟨p1, p2⟩ := p
    rw [List.getElem?_zip_eq_some] at hp
    obtain ⟨v, hv, rv⟩ := r1.get hp.1
    obtain ⟨w, hw, rw'⟩ := r2.get hp.2
    obtain ⟨k1, k2⟩ := k i v w hv hw
    refine ⟨k1, fun y H'' q => ?_⟩
    obtain ⟨T, q1, q2, q3⟩ := k2 y H'' q
    subst q1
    exact q3.rel q2 rs rv rw'
  · have e : (zipD xs ys).length = min vs.length ws.length := by rw [zipD, List.length_map, List.length_zip, r1.length, r2.length]
    show J.stop (zipD xs ys).length H'
    rw [e]
    exact st
theorem w_zip {e e2 : Expr} {ie ie2 : E} {elts : List Expr} {kk : Nat} {tpos p : Pos} (hg : Gl X "zip") (hm : X.mg "zip" = none) (ok : okE e = true) (ok2 : okE e2 = true) (ha : PA X [e, e2] (tEs g W (evs F [ie, ie2]))) (hK : X.K = g.K := by rfl) (hwk : g.weak = true := by rfl) :
    PI X (.Tuple elts kk tpos) (.Call (.Name "zip" p) [e, e2] [] pos) (tI g W (evIt F (.zip false ie ie2))) := by
  refine PI.imp (RZ.pi_zipA hg hm ha (starEach_ok ok) (by rw [starEach_ok ok2]; rfl)) fun σ H R ⟨m, ρ, S, rs, er, w⟩ => ?_
  rw [evIt] at w
  refine ⟨m, ρ, S, rs, er, ?_⟩
  show WP g _ (Rels g) m S.length H (evs F [ie, ie2] ρ S) _
  rw [evs2]
  cases hh : ev F ie ρ S with
  | ok d S1 =>
    rw [hh] at w
    simp only [Iv.R.bind_ok] at w ⊢
    cases hh2 : ev F ie2 ρ S1 with
    | ok d2 S2 =>
      rw [hh2] at w
      simp only [Iv.R.bind_ok] at w ⊢
      intro m2 H2 vs x2 rs2 r2
      obtain ⟨v, v2, rfl, rv, rv2⟩ := Rels.two r2
      have w := w.from x2
      cases h1 : seqOf S2 d with
      | none => rw [h1] at w; exact w.err
      | some xs =>
        cases h2 : seqOf S2 d2 with
        | none => rw [h1, h2] at w; exact w.err
        | some ys =>
          rw [h1, h2] at w
          obtain ⟨⟨_, c2, c3, c4⟩, w⟩ := w.ck
          have cm : mixZ xs ys = true := c4.elim (fun z => by cases z) (·.2)
          have c4 : kOf d = kOf d2 := c4.elim (fun z => by cases z) (·.1)
          obtain ⟨a, us, rfl, ra, sa⟩ := seq_k rs2 rv h1
          obtain ⟨b, ws, rfl, rb, sb⟩ := seq_k rs2 rv2 h2
          have go : ∀ m' S' H', ExtW m2 S2.length H2 m' (List.length S') H' → RS g m' S' H' → ∃ us' ws', Rels g m' S'.length H' xs us' ∧ Rels g m' S'.length H' ys ws' ∧ Wz.Sq (kOf d) g.K H' a us' ∧ Wz.Sq (kOf d) g.K H' b ws' := by
            intro m' S' H' x rs'
            obtain ⟨a', us', e1, ra', sa'⟩ := seq_k rs' (Rel.monoW x _ _ rv) ((fix_seq (S := S2) c2).trans h1)
            cases e1
            obtain ⟨b', ws', e2, rb', sb'⟩ := seq_k rs' (Rel.monoW x _ _ rv2) ((fix_seq (S := S2) c3).trans h2)
            cases e2
            rw [← c4] at sb'
            exact ⟨us', ws', ra', rb', sa', sb'⟩
          rw [hK]
          rw [← c4] at sb
          refine ⟨a, b, us, ws, rfl, ?_⟩
          cases hk : kOf d with
          | true =>
            rw [hk] at sa sb go
            refine .inl ⟨sa, sb, w.now rs2 (itr_two fun m' S' H' x rs' => ?_)⟩
            obtain ⟨us', ws', ra', rb', sa', sb'⟩ := go m' S' H' x rs'
            refine ⟨us', ws', ra', rb', fun i v w hv hw => ⟨⟨us', ws', v, w, sa', sb', hv, hw⟩, fun y H'' ⟨T, y1, y2, f1, f2, f3, f4, f5⟩ => ?_⟩, ⟨us', ws', sa', sb', by omega⟩⟩
            have g1 := f4 us' sa'
            have g2 := f5 ws' sb'
            rw [hv] at g1
            rw [hw] at g2
            cases g1
            cases g2
            exact ⟨T, f1, f2, .inr ⟨f3, mixZ_get hwk cm ra' rb' hv hw⟩⟩
          | false =>
            rw [hk] at sa sb go
            refine .inr ⟨sa, sb, w.now rs2 (itr_two fun m' S' H' x rs' => ?_)⟩
            obtain ⟨us', ws', ra', rb', sa', sb'⟩ := go m' S' H' x rs'
            refine ⟨us', ws', ra', rb', fun i v w hv hw => ⟨⟨us', ws', v, w, sa', sb', hv, hw⟩, fun y H'' ⟨T, y1, y2, f1, f2, f3, f4, f5⟩ => ?_⟩, ⟨us', ws', sa', sb', by omega⟩⟩
            have g1 := f4 us' sa'
            have g2 := f5 ws' sb'
            rw [hv] at g1
            rw [hw] at g2
            cases g1
            cases g2
            exact ⟨T, f1, f2, .inr ⟨f3, mixZ_get hwk cm ra' rb' hv hw⟩⟩
    | exc x S1 => rw [hh2] at w; exact w
    | err => rw [hh2] at w; exact w
  | exc x S1 => rw [hh] at w; exact w
  | err => rw [hh] at w; exact w
end
end Iv

/-! ### t[::-1] of a tuple -/
namespace Wr
open PySem PySem.Spec PyProof.Rows L2 HT
section
variable {prog : Program} {w : World} {A : Around} {E : Value → Shared → Prop} {s : Shared}
end
end Wr
namespace Iv
open PySem PySem.Spec PyProof.Rows L2
section
variable {g : Gs} {W : L2.WX} {X : Cx} {F : CE} {a : Expr} {ia : E} {pos : Pos}
theorem PE.or {X : Cx} {e : Expr} {t t' : TE} (h : PE X e t) (h' : PE X e t') : PE X e (fun σ H Q => t σ H Q ∨ t' σ H Q) := ⟨fun pins s σ H Q I q => q.elim (h.run pins s σ H Q I) (h'.run pins s σ H Q I)⟩
end
end Iv

/-! ### a list from end to end by a step that is reckoned: 1 or -1 -/
namespace Iv
open PySem PySem.Spec PyProof.Rows L2
section
variable {X : Cx} {a st : Expr} {ta ts : TE} {pos p2 : Pos}
end
section
variable {g : Gs} {W : L2.WX} {X : Cx} {F : CE} {a st : Expr} {ia ib : E} {pos p2 : Pos}
end
end Iv

/-! ### defs, calls -/
namespace Iv
open PySem PySem.Spec PyProof.Rows L2
section
variable {P : Program} {w : World} {K : PySem.W.Frag} {mg : Str → Option Value} {base : Heap} {g : Gs} {T : List Fn}
theorem fn_zero {fa : Addr} {fd : FuncData} {ps : List Str} {j f : Nat} {x qual : Str} {st : Stmt} {dv0 : List V} {kws : List (Str × V)} {N : List Str} (F : FunD K x qual (defArgs st) (defBody st) (defScope st) dv0 kws fa fd) (S : FnScope N ps (defScope st)) : FnOk P w K mg base (L2.CX P w) (j + 1) fa fd ps (spF g (callN T 0) f ps.length) :=
  fn_ok F S (fun _ _ _ _ h => h.1) fun _ _ _ _ _ _ _ _ _ ⟨_, _, _, _, _, _, w⟩ => False.elim w
theorem start_env {m : Mp} {n : Nat} {H : Hp} {ds : List Iv.D} {vs : List V} {N : List Str} (r : Rels g m n H ds vs) : EnvR g m n H (ds.map some ++ List.replicate (N.length - ds.length) none) (L2.start N vs) := by
  have l := r.length
  refine ⟨?_, fun i d e => ?_⟩
  · unfold L2.start
    simp only [List.length_append, List.length_map, List.length_replicate, l]
  · rcases Nat.lt_or_ge i ds.length with h | h
    · rw [List.getElem?_append_left (by rw [List.length_map]; exact h), List.getElem?_map] at e
      obtain ⟨d', hd, q⟩ := Option.map_eq_some_iff.mp e
      cases q
      obtain ⟨v, hv, rv⟩ := r.get hd
      refine ⟨v, ?_, rv⟩
      unfold L2.start
      rw [List.getElem?_append_left (by rw [List.length_map, ← l]; exact h), List.getElem?_map, hv]
      rfl
    · rw [List.getElem?_append_right (by rw [List.length_map]; exact h), List.getElem?_replicate] at e
      split at e <;> cases e
theorem fn_step {fa : Addr} {fd : FuncData} {N ps : List Str} {j k f : Nat} {x qual : Str} {st : Stmt} {dv0 : List V} {kws : List (Str × V)} {body : List Iv.St} (hT : T[f]? = some ⟨ps.length, N.length, body⟩)
    (F : FunD K x qual (defArgs st) (defBody st) (defScope st) dv0 kws fa fd) (S : FnScope N ps (defScope st))
    (hb : ∀ (cdv : Value) (A : Around) (outer : List PySem.Env) (s : Shared) (H : Hp) (E : XK), Room j (A.deeper (envOfC qual (defScope st) s.heap.objs.size fa cdv)) →
      PSs (cxOf (L2.CX P w) P w K mg base N qual (defScope st) fa cdv A outer s H E) (defBody st) (tS g (fun c d _ H => E c d H) (exs (callN T k) body))) :
    FnOk P w K mg base (L2.CX P w) (j + 1) fa fd ps (spF g (callN T (k + 1)) f ps.length) := by
  refine fn_ok F S (fun _ _ _ _ h => h.1) fun cdv A outer s H vs Q E hr ⟨hl, m, S0, ds, rs, r, wp⟩ => ⟨_, hb cdv A outer s H E hr, ?_⟩
  unfold callN at wp
  rw [hT] at wp
  obtain ⟨_, wp⟩ := (show WP g E (Rel g) m S0.length H (ck (ds.length = ps.length) (run (callN T k) N.length body ds S0)) Q from wp).ck
  refine ⟨m, _, S0, rs, start_env (N := N) r, ?_⟩
  unfold run at wp
  cases hx : exs (callN T k) body (ds.map some ++ List.replicate (N.length - ds.length) none) S0 with
  | ok fl S' =>
    rw [hx] at wp
    cases fl with
    | next ρ => exact fun m' H' σ' x rs' er => wp m' H' .non x rs' (by rw [rel_non])
    | brk ρ => exact wp.elim
    | cont ρ => exact wp.elim
    | ret d => exact fun m' H' v x rs' rv => wp m' H' v x rs' rv
    | raised e ρ => exact fun m' H' σ' c d x rs' er xr => wp m' H' c d x rs' xr
  | exc e S' => rw [hx] at wp; exact wp.elim
  | err => rw [hx] at wp; exact wp.elim

/-! how arguments come to parameters -/
def gat {α : Type} (js : List Nat) (l : List α) : List α := js.filterMap (l[·]?)
theorem gat_vals {us : List Value} {vs : List V} (r : Vals vs us) : ∀ js : List Nat, Vals (gat js vs) (gat js us)
  | [] => .nil
  | j :: js => by
    have ih := gat_vals r js
    unfold gat at ih ⊢
    have l := r.length
    cases h : vs[j]? with
    | none =>
      have h2 : us[j]? = none := by
        rw [List.getElem?_eq_none_iff] at h ⊢
        rw [← l]
        exact h
      rw [List.filterMap_cons_none h, List.filterMap_cons_none h2]
      exact ih
    | some v =>
      obtain ⟨u, hu, ru⟩ := r.get h
      rw [List.filterMap_cons_some h, List.filterMap_cons_some hu]
      exact .cons ru ih
theorem gat_rels {m : Mp} {n : Nat} {H : Hp} {ds : List Iv.D} {vs : List V} (r : Rels g m n H ds vs) : ∀ {js : List Nat} {ps' : List Iv.D}, pick ds (js.map .a) = some ps' → Rels g m n H ps' (gat js vs) ∧ (gat js vs).length = js.length
  | [], ps', h => by
    cases h
    exact ⟨Rels.nil, rfl⟩
  | j :: js, ps', h => by
    rw [List.map_cons, pick] at h
    split at h
    · rename_i d hd
      obtain ⟨qs, hq, rfl⟩ := Option.map_eq_some_iff.mp h
      obtain ⟨v, hv, rv⟩ := r.get hd
      obtain ⟨i1, i2⟩ := gat_rels r hq
      unfold gat at i1 i2 ⊢
      rw [List.filterMap_cons_some hv]
      exact ⟨Rels.cons rv i1, by rw [List.length_cons, List.length_cons, i2]⟩
    · cases h
theorem sig_all {fa : Addr} {fd : FuncData} {ps ks : List Str} {n : Nat} {js : List Nat} {x qual : Str} {params : Arguments} {body : List Stmt} {scope : Scope} {kws : List (Str × V)} (F : FunD g.K x qual params body scope [] kws fa fd) (hl : js.length = ps.length)
    (h : ∀ (kV doc pm : Value) (an : Option Addr) (cdv ct : Value) (us ws : List Value), us.length = n → ws.length = ks.length → bindArgs (PySem.W.fnOf x qual params body scope .none kV doc pm an cdv ct) ⟨us, ks.zip ws⟩ = pure (ps.zip (gat js (us ++ ws)))) : Sig g fd ps n ks (js.map .a) := by
  obtain ⟨oc, od, dV, kV, doc, pm, an, cdv, ct, osl, rfl, lk, hcd, hD, hK⟩ := F.ex
  rcases hD with ⟨_, rfl⟩ | ⟨e, _⟩
  · refine ⟨fun us ws => gat js (us ++ ws), fun vs zs => gat js (vs ++ zs), ⟨fun s us ws X l1 l2 => .of_eq (h kV doc pm an cdv ct us ws l1 l2), fun r1 r2 => gat_vals (r1.append r2) js⟩, fun m N H ds vs zs ps' r l1 l2 hp => ?_⟩
    obtain ⟨q1, q2⟩ := gat_rels r hp
    exact ⟨q1, q2.trans hl⟩
  · exact absurd rfl e
/-- a def as it is called -/
structure Fo (g : Gs) (P : Program) (w : World) (K : PySem.W.Frag) (mg : Str → Option Value) (base : Heap) (F : CE) (j : Nat) (fa : Addr) (f : Nat) (sigs : List (Nat × List Str × List Ar)) : Prop where
  ex : ∃ (fd : FuncData) (ps : List Str), FnOk P w K mg base (L2.CX P w) j fa fd ps (spF g F f ps.length) ∧ (∀ s ∈ sigs, Sig g fd ps s.1 s.2.1 s.2.2) ∧ PySem.W.keepIn K (.ref fa) = true
end
section
variable {g : Gs} {W : L2.WX} {X : Cx} {F : CE} {es : List Expr} {kws : List Keyword} {ies iks : List E} {ks : List Str} {x : Str} {p pos : Pos}
theorem j_call {j k : Nat} {fa : Addr} {f : Nat} {arr : List Ar} {sigs : List (Nat × List Str × List Ar)} (fo : Fo g X.prog X.w X.K X.mg X.base F k fa f sigs) (hm : X.mg x = some (.ref fa)) (tk : Takes X W) (hr : Room j X.A) (ie : List E) (hie : ie = ies ++ iks) (ha : PA X es (tEs g W (evs F ies))) (hkw : PK X kws (tEs g W (evs F iks)))
    (hs : (ies.length, ks, arr) ∈ sigs) (hK : X.K = g.K := by rfl) (hg : Gl X x := by rfl) (hj : k ≤ j := by omega) (hdb : (x == ("__debug__" : Str)) = false := by decide) (oks : okEs es = true := by rfl) (hks : kwsNames kws = some ks := by rfl) (hkl : iks.length = ks.length := by rfl) (hel : es.length = ies.length := by rfl) :
    PE X (.Call (.Name x p) es kws pos) (tE g W (ev F (.call f arr ie))) := by
  subst hie
  obtain ⟨fd, ps, FO, sg, kp⟩ := fo.ex
  exact i_call hK FO (hr.mono hj) hg hm kp (sg _ hs) tk hdb oks hks hkl hel ha hkw
end
end Iv

/-! ### constants, the end -/
namespace Iv
open PySem PySem.Spec PyProof.Rows L2
section
variable {g : Gs} {W : L2.WX} {X : Cx} {F : CE} {x : Str} {p pos : Pos}
theorem c_int {i : Int} {j : Nat} : PE X (.Constant (.int i) j pos) (tE g W (ev F (.con (.int i)))) := i_con pe_int fun _ _ _ => by rw [rel_int]
theorem c_bl {b : Bool} {j : Nat} : PE X (.Constant (.bool b) j pos) (tE g W (ev F (.con (.bl b)))) := i_con pe_bl fun _ _ _ => by rw [rel_bl]
theorem c_non {j : Nat} : PE X (.Constant .none j pos) (tE g W (ev F (.con .non))) := i_con pe_non fun _ _ _ => by rw [rel_non]
theorem c_gI {i : Int} (h : ∃ t, X.mg x = some (.int i t)) (hg : Gl X x := by rfl) (hd : (x == ("__debug__" : Str)) = false := by decide) : PE X (.Name x pos) (tE g W (ev F (.con (.int i)))) := by
  obtain ⟨t, e⟩ := h
  exact i_con (v := .int i) (pe_glob hg e ⟨t, rfl⟩ hd) fun _ _ _ => by rw [rel_int]
theorem c_gT {n : String} (hm : X.mg x = none) (hv : bootBuiltins x = some (.type n)) (hg : Gl X x := by rfl) (hn : x ≠ "__name__" := by decide) (hd : (x == ("__debug__" : Str)) = false := by decide) : PE X (.Name x pos) (tE g W (ev F (.con (.ty n)))) :=
  i_con (v := .ty n) (pe_bltn hg hm hv rfl hn hd) fun _ _ _ => by rw [rel_ty]
theorem j_var {i : Nat} (hN : X.N[i]? = some x := by rfl) (hv : Vis X.env.scope x := by first | exact Or.inl rfl | exact Or.inr (Or.inl rfl) | exact Or.inr (Or.inr rfl)) (hd : (x == ("__debug__" : Str)) = false := by decide) (hcd : (x == ("__classdict__" : Str)) = false := by decide) :
    PE X (.Name x pos) (tE g W (ev F (.var i))) := i_var hN hv hd hcd
theorem j_bi {e : Expr} {es : List Expr} {ies : List E} {k : Nat} {nm : Str} (b : Bi) (hr : Room k X.A) (hm : X.mg nm = none) (ha : PA X (e :: es) (tEs g W (evs F ies))) (hnm : biName b = nm := by rfl) (hK : X.K = g.K := by rfl) (hc : X.calm = true := by rfl) (ok : biOk b = true := by rfl) (hg : Gl X nm := by rfl) (oks : okEs (e :: es) = true := by rfl) :
    PE X (.Call (.Name nm p) (e :: es) [] pos) (tE g W (ev F (.bi b ies))) := by
  subst hnm
  exact i_bi hK hr hc b ok hg hm oks ha
theorem j_g {vs : List Nat} {i : Nat} (hN : X.N.Nodup) (hv : i ∈ vs := by decide) (hi : X.N[i]? = some x := by rfl) (hx : Loc X.env.scope x := by first | exact Or.inl rfl | exact Or.inr rfl) (hf : X.fn x = true ∨ X.env.scope.names.lookup x = some .local := by first | exact Or.inl rfl | exact Or.inr rfl) :
    PG X (.Name x pos) (TGv g vs (asg F (.var i))) := g_var hv hN hi hx hf
def noSwap : Expr → Expr → Bool
  | .Tuple _ _ _, .Tuple _ _ _ => false
  | .List _ _, .Tuple _ _ _ => false
  | _, _ => true
theorem pure_none {tg v : Expr} {env : PySem.Env} (h : noSwap tg v = true) : swappedStores [tg] v env = pure none := by
  cases tg with
  | Tuple _ _ _ => cases v <;> first | rfl | (exact absurd h Bool.false_ne_true)
  | List _ _ => cases v <;> first | rfl | (exact absurd h Bool.false_ne_true)
  | _ => rfl
theorem j_asg {tg e : Expr} {t : Tg} {ie : E} (vs : List Nat) (he : PE X e (tE g W (ev F ie))) (hg : PG X tg (TGv g vs (asg F t))) (ok : noStar tg = true := by rfl) (hs : notComp e = true := by rfl) (hw : noSwap tg e = true := by rfl) : PS X (.Assign [tg] e pos) (tS g W (ex F (.asg t ie))) :=
  s_asg he (g_any hg) ok (swaps_ok hs) (pure_none hw)
end
section
variable {P : Program} {w : World} {K : PySem.W.Frag} {mg : Str → Option Value} {base : Heap} {g : Gs} {T : List Fn}
theorem rels_ints {m : Mp} {n : Nat} {H : Hp} : ∀ ns : List Int, Rels g m n H (ns.map Iv.D.int) (ns.map V.int)
  | [] => Rels.nil
  | i :: r => Rels.cons (by rw [rel_int]) (rels_ints r)
end
end Iv

/-! ### defaults; join -/
namespace Iv
open PySem PySem.Spec PyProof.Rows L2 TL
section
variable {g : Gs} {X : Cx} {F : CE}
/-- an argument's place, or a default's -/
def arOf (n : Nat) (dd : List Iv.D) (j : Nat) : Ar := if j < n then .a j else .d (dd.getD (j - n) .non)
theorem pick_dfl {n : Nat} {dd ds : List Iv.D} (hn : ds.length = n) : ∀ {js : List Nat} {ps : List Iv.D}, (∀ j ∈ js, j < n + dd.length) → pick ds (js.map (arOf n dd)) = some ps → pick (ds ++ dd) (js.map .a) = some ps
  | [], ps, _, h => h
  | j :: js, ps, hj, h => by
    rw [List.map_cons] at h ⊢
    have hj0 := hj j (List.mem_cons_self ..)
    have ih := fun qs => pick_dfl (js := js) (ps := qs) hn fun i hi => hj i (List.mem_cons_of_mem _ hi)
    by_cases hlt : j < n
    · rw [show arOf n dd j = .a j from if_pos hlt, pick] at h
      split at h
      · rename_i d hd
        obtain ⟨qs, hq, rfl⟩ := Option.map_eq_some_iff.mp h
        rw [pick, List.getElem?_append_left (by rw [hn]; exact hlt), hd]
        exact Option.map_eq_some_iff.mpr ⟨qs, ih qs hq, rfl⟩
      · cases h
    · rw [show arOf n dd j = .d (dd.getD (j - n) .non) from if_neg hlt, pick] at h
      obtain ⟨qs, hq, rfl⟩ := Option.map_eq_some_iff.mp h
      have hd : dd[j - n]? = some (dd.getD (j - n) .non) := by
        have : j - n < dd.length := by omega
        rw [List.getD_eq_getElem?_getD, List.getElem?_eq_getElem this]
        rfl
      rw [pick, List.getElem?_append_right (by omega), hn, hd]
      exact Option.map_eq_some_iff.mpr ⟨qs, ih qs hq, rfl⟩
theorem sig_dfl {fa : Addr} {fd : FuncData} {ps ks : List Str} {n : Nat} {js : List Nat} {x qual : Str} {params : Arguments} {body : List Stmt} {scope : Scope} {dvs : List V} {kws : List (Str × V)} (dd : List Iv.D) (F : FunD g.K x qual params body scope dvs kws fa fd) (hd : dvs ≠ []) (hl : js.length = ps.length)
    (hj : ∀ j ∈ js, j < n + ks.length + dd.length) (hdd : ∀ m n H, Rels g m n H dd dvs)
    (h : ∀ (T : Addr) (kV doc pm : Value) (an : Option Addr) (cdv ct : Value) (us ws its : List Value), us.length = n → ws.length = ks.length → its.length = dvs.length →
      ∃ k, bindArgs (PySem.W.fnOf x qual params body scope (.ref T) kV doc pm an cdv ct) ⟨us, ks.zip ws⟩ = seqItems? (.ref T) >>= k ∧ k (some its.toArray) = pure (ps.zip (gat js (us ++ ws ++ its)))) : Sig g fd ps n ks (js.map (arOf (n + ks.length) dd)) := by
  obtain ⟨oc, od, dV, kV, doc, pm, an, cdv, ct, osl, rfl, lk, hcd, hD, hK⟩ := F.ex
  rcases hD with ⟨e, _⟩ | ⟨_, T, o, its, mm, rfl, lT, oT, rT⟩
  · exact absurd e hd
  · refine ⟨fun us ws => gat js (us ++ ws ++ its), fun vs zs => gat js (vs ++ zs ++ dvs), ⟨fun s us ws X l1 l2 => ?_, fun r1 r2 => gat_vals ((r1.append r2).append rT) js⟩, fun m N H ds vs zs ps' r l1 l2 hp => ?_⟩
    · obtain ⟨k, e1, e2⟩ := h T kV doc pm an cdv ct us ws its l1 l2 rT.length.symm
      refine BindsTo.of_looks fun M => ?_
      rw [e1]
      exact looks_items X lT oT (.of_pure e2)
    · have ln : ds.length = n + ks.length := by rw [r.length, List.length_append, l1, l2]
      obtain ⟨q1, q2⟩ := gat_rels (r.append (hdd m N H)) (pick_dfl ln (fun j hj' => hj j hj') hp)
      exact ⟨q1, q2.trans hl⟩
end
end Iv

/-! ### range with a step, zip of boxes, isinstance of several, keyword-only defaults, classes -/
namespace Iv
open PySem PySem.Spec PyProof.Rows L2
section
variable {g : Gs} {W : L2.WX} {X : Cx} {F : CE} {m : Mp} {n : Nat} {H : Hp} {S : Sto} {ρ : Env} {pos : Pos} {xs ys : List Iv.D}
/-! isinstance(x, (T, ..)) -/
end
section
variable {g : Gs}
/-- as sig_dfl, with keyword-only defaults (ms: those that lack at this call) -/
theorem sig_kw0 {fa : Addr} {fd : FuncData} {ps ks : List Str} {n : Nat} {js : List Nat} {x qual : Str} {params : Arguments} {body : List Stmt} {scope : Scope} {kws : List (Str × V)} (dd : List Iv.D) (ms : List (Str × V)) (F : FunD g.K x qual params body scope [] kws fa fd) (hk : kws ≠ []) (hms : ∀ q ∈ ms, q ∈ kws) (hl : js.length = ps.length)
    (hj : ∀ j ∈ js, j < n + ks.length + dd.length) (hdd : ∀ m n H, Rels g m n H dd (ms.map (·.2)))
    (h : ∀ (D : Addr) (doc pm : Value) (an : Option Addr) (cdv ct : Value) (us mv ws : List Value), us.length = n → mv.length = ms.length → ws.length = ks.length →
      KwChain D ((ms.map (·.1)).zip mv) (bindArgs (PySem.W.fnOf x qual params body scope .none (.ref D) doc pm an cdv ct) ⟨us, ks.zip ws⟩) (ps.zip (gat js (us ++ ws ++ mv)))) : Sig g fd ps n ks (js.map (arOf (n + ks.length) dd)) := by
  obtain ⟨oc, od, dV, kV, doc, pm, an, cdv, ct, osl, rfl, lk, hcd, hD, hK⟩ := F.ex
  rcases hD with ⟨_, rfl⟩ | ⟨e, _⟩
  · rcases hK with e | ⟨D, rfl, hq⟩
    · exact absurd e hk
    · obtain ⟨mv, hlm, rk, hks⟩ := kwd_vals (ms := ms) fun q hm => hq q (hms q hm)
      refine ⟨fun us ws => gat js (us ++ ws ++ mv), fun vs zs => gat js (vs ++ zs ++ ms.map (·.2)), ⟨fun s us ws X l1 l2 => BindsTo.of_looks fun M => KwChain.looks X hks (h D doc pm an cdv ct us mv ws l1 hlm l2), fun r1 r2 => gat_vals ((r1.append r2).append rk) js⟩, fun m N H ds vs zs ps' r l1 l2 hp => ?_⟩
      have ln : ds.length = n + ks.length := by rw [r.length, List.length_append, l1, l2]
      obtain ⟨q1, q2⟩ := gat_rels (r.append (hdd m N H)) (pick_dfl ln (fun j hj' => hj j hj') hp)
      exact ⟨q1, q2.trans hl⟩
  · exact absurd rfl e
end
/-! classes -/
section
variable {g : Gs} {W : L2.WX} {X : Cx} {F : CE} {o : Expr} {es : List Expr} {kws : List Keyword} {io : E} {ies iks : List E} {ks : List Str} {x name : Str} {p pos apos : Pos}
theorem j_attr {e : Expr} {ie : E} {f : Nat} {nm : Str} (hf : g.fok f) (ha : PE X e (tE g W (ev F ie))) (hnm : g.fn f = nm := by rfl) (hK : X.K = g.K := by rfl) (ok : okE e = true := by rfl) : PE X (.Attribute e nm pos) (tE g W (ev F (.attr ie f))) := by
  subst hnm
  exact i_attr hK hf ok ha
theorem j_gattr {vs : List Nat} {f : Nat} {cs : List Nat} {nm : Str} (hf : g.fok f) (hcs : ∀ c ∈ cs, NoAttr g.K (g.ca c) (g.fn f)) (ho : PE X o (tE g W (ev F io))) (hnm : g.fn f = nm := by rfl) (hK : X.K = g.K := by rfl) : PG X (.Attribute o nm pos) (TGv g vs (asg F (.attr io f cs))) := by
  subst hnm
  exact g_attr hK hf hcs ho
theorem rel_tupK {m : Mp} {n : Nat} {H : Hp} {a : Addr} (h : ∀ H, SqT g.K H a []) : Rel g m n H (.tup []) (.ref a) := by
  rw [rel_tup]
  exact ⟨a, [], rfl, .inr (.inl ⟨h, .inl rfl⟩), Rels.nil⟩
theorem j_make {j k c f : Nat} {fa : Addr} {fr : Bool} {arr : List Ar} {sigs : List (Nat × List Str × List Ar)} (fo : Fo g X.prog X.w X.K X.mg X.base F k fa f sigs) (M : Mk g.K (g.ca c) fa) (cl : Cls g.K (g.ca c)) (hm : X.mg x = some (.ref (g.ca c))) (tk : Takes X W) (hr : Room j X.A) (ie : List E) (hie : ie = ies ++ iks) (ha : PA X es (tEs g W (evs F ies))) (hkw : PK X kws (tEs g W (evs F iks)))
    (hs : (ies.length + 1, ks, arr) ∈ sigs) (hK : X.K = g.K := by rfl) (hg : Gl X x := by rfl) (hj : k + 1 ≤ j := by omega) (hdb : (x == ("__debug__" : Str)) = false := by decide) (oks : okEs es = true := by rfl) (hks : kwsNames kws = some ks := by rfl) (hkl : iks.length = ks.length := by rfl) (hel : es.length = ies.length := by rfl) :
    PE X (.Call (.Name x p) es kws pos) (tE g W (ev F (.make fr c f arr ie))) := by
  subst hie
  obtain ⟨fd, ps, FO, sg, kp⟩ := fo.ex
  exact i_make hK M cl FO (hr.mono hj) hg hm (sg _ hs) tk hdb oks hks hkl hel ha hkw
theorem mok_of {j k c f n : Nat} {fa : Addr} {arr : List Ar} {sigs : List (Nat × List Str × List Ar)} (fo : Fo g X.prog X.w X.K X.mg X.base F k fa f sigs) (M : Meth g.K (g.ca c) name fa) (hr : Room j X.A) (hs : (n + 1, ks, arr) ∈ sigs) (hj : k ≤ j := by omega) : MOk g X F name c f n ks arr := by
  obtain ⟨fd, ps, FO, sg, kp⟩ := fo.ex
  exact ⟨k, fa, fd, ps, M, FO, hr.mono hj, sg _ hs⟩
theorem mok1 {c f n : Nat} {arr : List Ar} (h : MOk g X F name c f n ks arr) : ∀ c' f' arr', [(c, f, arr)].lookup c' = some (f', arr') → MOk g X F name c' f' n ks arr' := by
  intro c' f' arr' e
  rw [List.lookup_cons] at e
  by_cases hc : c' = c
  · subst hc
    rw [show (c' == c') = true from beq_self_eq_true c'] at e
    cases e
    exact h
  · rw [show (c' == c) = false from beq_eq_false_iff_ne.mpr hc] at e
    cases e
theorem j_meth {ms : List (Nat × Nat × List Ar)} (hms : ∀ c f arr, ms.lookup c = some (f, arr) → MOk g X F name c f ies.length ks arr) (tk : Takes X W) (ie : List E) (hie : ie = ies ++ iks) (ho : PE X o (tE g W (ev F io))) (ha : PA X es (tEs g W (evs F ies))) (hkw : PK X kws (tEs g W (evs F iks)))
    (hK : X.K = g.K := by rfl) (oko : okE o = true := by rfl) (oks : okEs es = true := by rfl) (hks : kwsNames kws = some ks := by rfl) (hkl : iks.length = ks.length := by rfl) (hel : es.length = ies.length := by rfl)
    (hn : es.length + kws.length < 28 := by decide) (hl : (apos.endLine == pos.line) = true := by rfl) : PE X (.Call (.Attribute o name apos) es kws pos) (tE g W (ev F (.meth io ms ie))) := by
  subst hie
  exact i_meth hK hms tk oko oks hks hkl hel hn hl ho ha hkw
end
end Iv
/-! ### the head, with one more Bool -/

/-! ### sum(lists, []) -/
namespace Iv
open PySem PySem.Spec PyProof.Rows L2
section
variable {prog : Program} {w : World} {A : Around} {E : Value → Shared → Prop} {s : Shared}
end
end Iv
namespace Iv
open PySem PySem.Spec PyProof.Rows L2
section
variable {g : Gs} {W : L2.WX} {X : Cx} {F : CE} {m : Mp} {n : Nat} {H : Hp} {S : Sto} {ρ : Env} {p pos apos : Pos} {e o : Expr} {es : List Expr} {ie io : E} {σ : L2.St}
/-! max(.., default=i) -/
def rMaxDf (K : PySem.W.Frag) : List V → List V → Hp → VK → Prop := fun vs zs H Q => ∃ (a : Addr) (ns : List Int) (i : Int), vs = [V.ref a] ∧ zs = [V.int i] ∧ SqL K H a (ns.map V.int) ∧ Q (.int (match maxI ns with | some j => j | none => i)) H
theorem dp_ints {K : PySem.W.Frag} : ∀ ns : List Int, DpAll K H (ns.map V.int) (ns.map PyData.int)
  | [] => .nil
  | n :: ns => .cons (.int n) (dp_ints ns)
theorem maxI_fold (n : Int) (ns : List Int) : maxI (n :: ns) = some (ns.foldl max n) := by
  have e : ∀ (ns : List Int) (n : Int), ns.foldl (fun m x => if m < x then x else m) n = ns.foldl max n := by
    intro ns
    induction ns with
    | nil => intro n; rfl
    | cons x ns ih =>
      intro n
      rw [List.foldl_cons, List.foldl_cons, ih]
      congr 1
      rw [Int.max_def]
      split <;> split <;> omega
  show some (ns.foldl (fun m x => if m < x then x else m) n) = _
  rw [e]
theorem cr_maxDf {k : Nat} (hc : X.calm = true) (hr : Room k X.A) : CallRK X (.builtin "max") [Str.ofString "default"] (rMaxDf X.K) := by
  intro pins s σ H vs zs us ws Q I r rz h
  obtain ⟨a, ns, i, rfl, rfl, hs, q⟩ := h
  obtain ⟨its, rv, hl, _⟩ := I.list hs
  rw [Vals.ref1 r]
  cases rz with
  | cons r1 r2 =>
    cases r2
    obtain ⟨t, rfl⟩ := r1
    obtain ⟨as, ra⟩ := Dp.readsAll I (ns.map PyData.int) (ns.map V.int) its (dp_ints ns) rv
    refine PySem.W.max_list_default (I.ok.hd hc) hl.isList ra (PySem.W.alikeAll_datum ns) (by rw [PySem.W.depth_ints]; have := hr.un; omega) (fun e h' tk hk => ?_) fun y ys j v h' tk bs e hv rd hk => ?_
    · have e0 : ns = [] := List.map_eq_nil_iff.mp e
      subst e0
      exact ⟨.int i, H, I.kept hk, ⟨t, rfl⟩, q⟩
    · cases ns with
      | nil => cases e
      | cons n ns =>
        rw [List.map_cons] at e
        injection e with e1 e2
        subst e1 e2
        rw [PySem.W.maxD_ints] at rd
        rw [maxI_fold] at q
        cases rd
        exact ⟨.int _, H, I.kept hk, ⟨_, rfl⟩, q⟩
theorem i_maxD {a : Expr} {ia : E} {kp : Pos} {k : Nat} (hr : Room k X.A) (hm : X.mg "max" = none) (he : PA X [e] (tEs g W (evs F [ie]))) (ha : PE X a (tE g W (ev F ia))) (oke : okE e = true := by rfl) (hg : Gl X "max" := by rfl) (hK : X.K = g.K := by rfl) (hc : X.calm = true := by rfl) :
    PE X (.Call (.Name "max" p) [e] [⟨some "default", a, kp⟩] pos) (tE g W (ev F (.bi .maxD [ie, ia]))) := by
  have hk : PK X [⟨some "default", a, kp⟩] (tEs g W (evs F [ia])) := k_cons ha k_nil
  refine PE.imp (pe_callBK (cr_maxDf hc hr) hg hm (by decide +kernel) he hk (by decide) (by decide) (by rw [starEach_ok oke]; rfl) (by rw [starEach_ok oke]; rfl) (by rfl) (by rfl) (by rfl)) fun σ H Q ⟨m, ρ, S, rs, er, w⟩ => ?_
  rw [ev, evs2, R.bind_bind] at w
  refine ⟨m, ρ, S, rs, er, ?_⟩
  rw [evs1]
  cases hh : ev F ie ρ S with
  | ok d S1 =>
    rw [hh] at w
    simp only [R.bind_ok] at w ⊢
    intro m1 H1 vs x rs1 r1
    obtain ⟨v, rfl, rv⟩ := Rels.one r1
    have w := w.from x
    refine ⟨m1, ρ, S1, rs1, er.mono x, ?_⟩
    rw [evs1]
    cases hh2 : ev F ia ρ S1 with
    | ok d2 S2 =>
      rw [hh2] at w
      simp only [R.bind_ok] at w ⊢
      intro m2 H2 zs x2 rs2 r2
      obtain ⟨v2, rfl, rv2⟩ := Rels.one r2
      have w := w.from x2
      cases d2 with
      | int i' =>
        have w2 : WP g (fun c d H' => W c d σ H') (Rel g) m2 S2.length H2 (match intsOf S2 d with | some ns => .ok (.int (match maxI ns with | some i => i | none => i')) S2 | none => .err) Q := w
        cases hns : intsOf S2 d with
        | none => rw [hns] at w2; exact w2.elim
        | some ns =>
          rw [hns] at w2
          obtain ⟨b, rfl, q⟩ := ints_sq rs2 (Rel.mono x2 _ _ rv) hns
          rw [rel_int] at rv2
          exact ⟨b, ns, _, rfl, by rw [rv2], by rw [hK]; exact q, w2.now rs2 (by rw [rel_int])⟩
      | _ => exact False.elim w
    | exc x S1 => rw [hh2] at w; exact w
    | err => rw [hh2] at w; exact w
  | exc x S1 => rw [hh] at w; exact w
  | err => rw [hh] at w; exact w
end
end Iv
namespace Iv
open PySem PySem.Spec PyProof.Rows L2
section
variable {g : Gs} {W : L2.WX} {X : Cx} {F : CE} {m : Mp} {n : Nat} {H : Hp} {S : Sto} {ρ : Env} {p pos apos : Pos} {e o : Expr} {es : List Expr} {ie io : E} {σ : L2.St}
theorem Rels.eraseIdx {xs : List Iv.D} {vs : List V} (r : Rels g m n H xs vs) (j : Nat) : Rels g m n H (xs.eraseIdx j) (vs.eraseIdx j) := by
  rw [List.eraseIdx_eq_take_drop_succ, List.eraseIdx_eq_take_drop_succ]
  exact (r.take j).append (r.drop (j + 1))
/-! a, b, *rest = .. -/
theorem star_all1 {es : List Expr} {t : Expr} {sp : Pos} {env : PySem.Env} (ok : es.all noStar = true) : (assignEach (es ++ [.Starred t sp]) env).length = es.length + 1 ∧ (assignEach (es ++ [.Starred t sp]) env).findIdx? (·.1) = some es.length ∧ (assignEach (es ++ [.Starred t sp]) env).map (·.2) = (assignEach es env).map (·.2) ++ [assign t env] := by
  induction es with
  | nil => exact ⟨rfl, rfl, rfl⟩
  | cons e es ih =>
    rw [List.all_cons, Bool.and_eq_true] at ok
    obtain ⟨h1, h2, h3⟩ := ih ok.2
    have e1 : assignEach ((e :: es) ++ [.Starred t sp]) env = (false, assign e env) :: assignEach (es ++ [.Starred t sp]) env := assignEach_ok ok.1
    have e2 : assignEach (e :: es) env = (false, assign e env) :: assignEach es env := assignEach_ok ok.1
    rw [e1, e2]
    refine ⟨by rw [List.length_cons, h1, List.length_cons], ?_, by rw [List.map_cons, h3]; rfl⟩
    rw [List.findIdx?_cons, h2]
    rfl
section
variable {prog : Program} {w : World} {A : Around} {E : Value → Shared → Prop} {s : Shared}
theorem star_itemsL {l : Addr} {items : Array Value} {i : Nat} {Q : List Value → Shared → Prop} (hl : s.heap.IsList l items) (hh : A.handled = none) (hn : i ≤ items.size) (hz : items.size ≤ 16384)
    (h : ∀ (h' : Heap) (tk : Nat), (∀ b o, s.heap.get? b = some o → h'.get? b = some o) → Q (items.toList.take i ++ [.ref h'.objs.size]) { s with heap := h'.push { cls := .type "list", data := .seq (items.toList.drop i).toArray }, toks := tk }) : wpAny (model prog w) A (unpackItems (.ref l) (i + 1) (some i)) Q E s := by
  have hlt : l ≠ s.heap.objs.size := by obtain ⟨o, ho, _⟩ := hl; exact Nat.ne_of_lt (Heap.lt_size ho)
  unfold unpackItems
  refine wpAny_bind ?_
  unfold notIterableAtAll
  refine wpAny_bind (wpAny_specialOf hl.typeIs slot_list_iter.lookup ?_)
  refine wpAny_pure ?_
  simp only [Bool.false_eq_true, if_false]
  refine wpAny_bind (wpAny_holding (wpAny_pyIter_list hl ?_))
  refine wpAny_bind (wpAny_holding (PySem.W.kun_draw hlt i 0 _ _ ⟨_, Heap.get?_push_size _ rfl, rfl, rfl⟩ (hl.push _) (by omega) fun h₁ hit₁ hs₁ => ?_))
  have hl₁ : h₁.IsList l items := (hl.push _).extBut hs₁.extBut hlt
  rw [Nat.zero_add] at hit₁
  obtain ⟨oi, hoi, _⟩ := id hit₁
  obtain ⟨ol, hol, _⟩ := id hl₁
  rw [List.drop_zero]
  have hfl : (items.toList.take i).length = i := by rw [List.length_take, Array.length_toList]; omega
  rw [if_neg (show ¬ ((items.toList.take i).length < i) by rw [hfl]; omega)]
  refine wpAny_bind (wpAny_holding (PySem.W.kun_collect (s := { s with heap := h₁ }) (T := "list_iterator") (.inr (.inr (.inl rfl))) (Walks.list (A := A.in1) hh s.heap.objs.size l hlt items) (fun j u st => st.1.typeIs) (k := i) (by omega) ⟨hit₁, hl₁⟩ (Heap.lt_size hoi) (Heap.lt_size hol) (fun h₂ tk hk => ?_) (by rw [sizeLine_eq]; omega)))
  have hrl : (items.toList.drop i).length = items.size - i := by rw [List.length_drop, Array.length_toList]
  have hmid : (items.toList.drop i).length - (i + 1 - 1 - i) = (items.toList.drop i).length := by omega
  show wpAny _ _ (if (items.toList.drop i).length < i + 1 - 1 - i then _ else _) _ _ _
  rw [if_neg (by omega)]
  show wpAny _ _ (newList ((items.toList.drop i).take ((items.toList.drop i).length - (i + 1 - 1 - i))) >>= fun d => pure (items.toList.take i ++ [d] ++ (items.toList.drop i).drop ((items.toList.drop i).length - (i + 1 - 1 - i)))) _ _ _
  rw [hmid, List.take_length, List.drop_length]
  have he : ∀ b o, s.heap.get? b = some o → h₂.get? b = some o := fun b o e => hk b o (Nat.ne_of_lt (Heap.lt_size e)) (hs₁.extBut b o (Nat.ne_of_lt (Heap.lt_size e)) (Heap.get?_push_of_some _ e))
  refine wpAny_bind (wpAny_newObj_type ?_ (by show (items.toList.drop i).toArray.size ≤ _; rw [List.size_toArray, hrl, sizeLine_eq]; omega))
  refine wpAny_pure ?_
  rw [List.append_nil]
  exact h h₂ tk he
theorem star_itemsT {l : Addr} {items : Array Value} {i : Nat} {Q : List Value → Shared → Prop} (hl : IsTup s.heap l items) (hh : A.handled = none) (hn : i ≤ items.size) (hz : items.size ≤ 16384)
    (h : ∀ (h' : Heap) (tk : Nat), (∀ b o, s.heap.get? b = some o → h'.get? b = some o) → Q (items.toList.take i ++ [.ref h'.objs.size]) { s with heap := h'.push { cls := .type "list", data := .seq (items.toList.drop i).toArray }, toks := tk }) : wpAny (model prog w) A (unpackItems (.ref l) (i + 1) (some i)) Q E s := by
  have hlt : l ≠ s.heap.objs.size := by obtain ⟨o, ho, _⟩ := hl; exact Nat.ne_of_lt (Heap.lt_size ho)
  unfold unpackItems
  refine wpAny_bind ?_
  unfold notIterableAtAll
  refine wpAny_bind (wpAny_specialOf hl.typeIs slot_tuple_iter.lookup ?_)
  refine wpAny_pure ?_
  simp only [Bool.false_eq_true, if_false]
  refine wpAny_bind (wpAny_holding (iter_tuple hl ?_))
  refine wpAny_bind (wpAny_holding (draw_tuple hlt i 0 _ _ ⟨_, Heap.get?_push_size _ rfl, rfl, rfl⟩ (hl.push _) (by omega) fun h₁ hit₁ hs₁ => ?_))
  have hl₁ : IsTup h₁ l items := (hl.push _).extBut hs₁.extBut hlt
  rw [Nat.zero_add] at hit₁
  obtain ⟨oi, hoi, _⟩ := id hit₁
  obtain ⟨ol, hol, _⟩ := id hl₁
  rw [List.drop_zero]
  have hfl : (items.toList.take i).length = i := by rw [List.length_take, Array.length_toList]; omega
  rw [if_neg (show ¬ ((items.toList.take i).length < i) by rw [hfl]; omega)]
  refine wpAny_bind (wpAny_holding (PySem.W.kun_collect (s := { s with heap := h₁ }) (T := "tuple_iterator") (.inr (.inr (.inr rfl))) (Walks.tuple (A := A.in1) hh s.heap.objs.size l hlt items) (fun j u st => st.1.typeIs) (k := i) (by omega) ⟨hit₁, hl₁⟩ (Heap.lt_size hoi) (Heap.lt_size hol) (fun h₂ tk hk => ?_) (by rw [sizeLine_eq]; omega)))
  have hrl : (items.toList.drop i).length = items.size - i := by rw [List.length_drop, Array.length_toList]
  have hmid : (items.toList.drop i).length - (i + 1 - 1 - i) = (items.toList.drop i).length := by omega
  show wpAny _ _ (if (items.toList.drop i).length < i + 1 - 1 - i then _ else _) _ _ _
  rw [if_neg (by omega)]
  show wpAny _ _ (newList ((items.toList.drop i).take ((items.toList.drop i).length - (i + 1 - 1 - i))) >>= fun d => pure (items.toList.take i ++ [d] ++ (items.toList.drop i).drop ((items.toList.drop i).length - (i + 1 - 1 - i)))) _ _ _
  rw [hmid, List.take_length, List.drop_length]
  have he : ∀ b o, s.heap.get? b = some o → h₂.get? b = some o := fun b o e => hk b o (Nat.ne_of_lt (Heap.lt_size e)) (hs₁.extBut b o (Nat.ne_of_lt (Heap.lt_size e)) (Heap.get?_push_of_some _ e))
  refine wpAny_bind (wpAny_newObj_type ?_ (by show (items.toList.drop i).toArray.size ≤ _; rw [List.size_toArray, hrl, sizeLine_eq]; omega))
  refine wpAny_pure ?_
  rw [List.append_nil]
  exact h h₂ tk he
end
theorem pgs_star {t : Expr} {tg : TG} {sp : Pos} (h1 : PG X t tg) : PGs X [.Starred t sp] (gCons tg gNil) := by
  refine ⟨fun pins s σ H vs us Q I r h => ?_⟩
  obtain ⟨v, vr, e1, h⟩ := h
  subst e1
  cases r with
  | cons r rr =>
    show wpAny _ _ (assignInOrder [assign t X.env] _) _ _ s
    refine assignInOrder_cons (thn (h1.run pins s σ H _ _ _ I r h) fun _ s1 ⟨σ1, H1, I1, q1⟩ => ?_)
    exact pgs_nil.run pins s1 σ1 H1 _ _ Q I1 rr q1
theorem gs_star {vs : List Nat} {t : Expr} {tg : Tg} {sp : Pos} (h1 : PG X t (TGv g vs (asg F tg))) : PGs X [.Starred t sp] (TGvs g vs [tg].length (asgs F [tg])) := by
  refine PGs.imp (pgs_star h1) fun us σ H Q ⟨m, ρ, S, ds, rs, er, r, l, w⟩ => ?_
  cases ds with
  | nil => cases l
  | cons d ds =>
    have hds : ds = [] := List.length_eq_zero_iff.mp (Nat.succ.inj l)
    subst hds
    obtain ⟨v, rfl, r1⟩ := r.one
    rw [asgs] at w
    refine ⟨v, [], rfl, m, ρ, S, d, rs, er, r1, (WP.bind (Ra := EnvK g vs σ) w).imp fun σ1 H1 ⟨m1, S1, ρ1, x1, rs1, ⟨er1, k1⟩, w1⟩ => ⟨rfl, ?_⟩⟩
    rw [asgs] at w1
    exact w1.now rs1 ⟨er1, k1⟩
theorem gs_cons' {vs : List Nat} {e : Expr} {es : List Expr} {t : Tg} {ts : List Tg} (ok : noStar e = true) (h1 : PG X e (TGv g vs (asg F t))) (h2 : PGs X es (TGvs g vs ts.length (asgs F ts))) : PGs X (e :: es) (TGvs g vs (t :: ts).length (asgs F (t :: ts))) := gs_cons ok h1 h2
def gStar (K : PySem.W.Frag) (n : Nat) (t : TGs) : TG := fun v σ H Q => ∃ a xs, v = .ref a ∧ (SqT K H a xs ∨ SqL K H a xs) ∧ n ≤ xs.length ∧ xs.length ≤ 16384 ∧ ∀ p, H p = none → t (xs.take n ++ [.ref p]) σ (upd H p (.lst (xs.drop n))) Q
theorem pg_star {es pre : List Expr} {st : Expr} {sp : Pos} {k : Nat} {t : TGs} (hc : X.calm = true) (h : PGs X es t) (hes : es = pre ++ [.Starred st sp]) (ok : pre.all noStar = true) : PG X (.Tuple es k pos) (gStar X.K pre.length t) := by
  refine ⟨fun pins s σ H v u Q I r hw => ?_⟩
  obtain ⟨a, xs, e1, hq, hl, hz, hw⟩ := hw
  subst e1
  cases r
  obtain ⟨n1, n2, _⟩ := star_all1 (t := st) (sp := sp) (env := X.env) ok
  rw [← hes] at n1 n2
  rw [PyProof.Rows.assign_Tuple]
  refine wpAny_bind (wpAny_standAt ?_)
  unfold unpack
  rw [n1, n2]
  have fin : ∀ (its : List Value), Vals xs its → ∀ (h' : Heap) (tk : Nat), (∀ b o, s.heap.get? b = some o → h'.get? b = some o) → wpAny (model X.prog X.w) X.A (assignInOrder ((assignEach es X.env).map (·.2)) (its.take pre.length ++ [.ref h'.objs.size])) (fun _ s' => ∃ σ' H', Inv X pins σ' H' s' ∧ Q σ' H') X.xe { s with heap := h'.push { cls := .type "list", data := .seq (its.drop pre.length).toArray }, toks := tk } := by
    intro its rv h' tk hk
    have I1 : Inv X pins σ H { s with heap := h', toks := tk } := I.kept hk
    have I2 := I1.lnew (its := its.drop pre.length) (t' := tk) (rv.drop pre.length) (by rw [List.length_drop, sizeLine_eq]; omega)
    exact h.run pins _ σ _ (xs.take pre.length ++ [.ref h'.objs.size]) _ Q I2 (Vals.append (rv.take _) (.cons (show RelV (V.ref h'.objs.size) (Value.ref h'.objs.size) from rfl) .nil)) (hw _ (I1.fresh))
  rcases hq with hq | hq
  · obtain ⟨its, rv, ht, _⟩ := I.tuple hq
    refine wpAny_bind (wpAny_holding (star_itemsT ht (I.ok.hd hc) (by rw [List.size_toArray, ← rv.length]; exact hl) (by rw [List.size_toArray, ← rv.length]; exact hz) fun h' tk hk => ?_))
    exact fin its rv h' tk hk
  · obtain ⟨its, rv, hpl, _⟩ := I.list hq
    refine wpAny_bind (wpAny_holding (star_itemsL hpl.isList (I.ok.hd hc) (by rw [List.size_toArray, ← rv.length]; exact hl) (by rw [List.size_toArray, ← rv.length]; exact hz) fun h' tk hk => ?_))
    exact fin its rv h' tk hk
theorem g_tups {vs : List Nat} {es : List Expr} {st : Expr} {sp : Pos} {ts : List Tg} {k : Nat} (h : PGs X es (TGvs g vs ts.length (asgs F ts))) (hlast : es.getLast? = some (.Starred st sp) := by rfl) (ok : es.dropLast.all noStar = true := by rfl) (hl : ts.length = es.dropLast.length + 1 := by rfl) (hK : X.K = g.K := by rfl) (hc : X.calm = true := by rfl) : PG X (.Tuple es k pos) (TGv g vs (asg F (.tups ts))) := by
  obtain ⟨pre, hpre⟩ : ∃ pre, pre = es.dropLast := ⟨_, rfl⟩
  have hes : es = pre ++ [.Starred st sp] := by
    rw [hpre]
    have hne : es ≠ [] := fun z => by rw [z] at hlast; cases hlast
    have e1 := List.dropLast_concat_getLast hne
    rw [List.getLast?_eq_some_getLast hne] at hlast
    rw [← Option.some.inj hlast]
    exact e1.symm
  rw [← hpre] at ok hl
  refine PG.imp (pg_star hc h hes ok) fun v σ H Q ⟨m, ρ, S, d, rs, er, r, w⟩ => ?_
  rw [asg] at w
  split at w
  · rename_i xs hx
    obtain ⟨⟨c1, c2, c3⟩, w⟩ := w.ck
    obtain ⟨a, vs', rfl, rr, q⟩ := seqOf_sq rs r hx
    have e1 : ts.length - 1 = pre.length := by omega
    rw [e1] at w
    refine ⟨a, vs', rfl, by rw [hK]; exact q.symm, by rw [← rr.length]; omega, by rw [← rr.length]; exact c3, fun p hp => ?_⟩
    have rs2 := rs.laid (o := .lst (vs'.drop pre.length)) hp
    have x2 : Ext m S.length H m S.length (upd H p (.lst (vs'.drop pre.length))) := Ext.laid rs hp
    refine ⟨m, ρ, S, _, rs2, er.mono x2, (Rels.mono x2 _ _ (rr.take pre.length)).append (Rels.cons ?_ Rels.nil), ?_, w.from x2⟩
    · rw [rel_lst]
      exact ⟨p, _, rfl, ⟨upd_same, Off.free rs hp⟩, Rels.mono x2 _ _ (rr.drop _)⟩
    · rw [List.length_append, List.length_singleton, List.length_take]
      omega
  · exact w.err
/-! xs[a:b] = ys -/
end
end Iv

/-! ### comprehensions over two walks; str.index; enumerate(start=) -/
namespace Iv
open PySem PySem.Spec PyProof.Rows L2
section
variable {g : Gs} {W : L2.WX} {X : Cx} {F : CE} {m m' : Mp} {n : Nat} {H H' : Hp} {S S' : Sto} {σ : L2.St} {ρ : Env} {pos : Pos}
theorem ExtW.refl : ExtW m n H m n H := (Ext.refl (m := m) (n := n) (H := H)).w
theorem ExtW.trans {m1 m2 m3 : Mp} {n1 n2 n3 : Nat} {H1 H2 H3 : Hp} (x : ExtW m1 n1 H1 m2 n2 H2) (y : ExtW m2 n2 H2 m3 n3 H3) : ExtW m1 n1 H1 m3 n3 H3 :=
  ⟨Nat.le_trans x.le y.le, fun i a l e => x.old i a l (y.old i a (Nat.lt_of_lt_of_le l x.le) e), fun a o e f => let ⟨e', f'⟩ := x.keep a o e f; y.keep a o e' f'⟩
theorem EnvR.monoW {m1 : Mp} {n1 : Nat} {H1 : Hp} (x : ExtW m n H m1 n1 H1) (h : EnvR g m n H ρ σ) : EnvR g m1 n1 H1 ρ σ := ⟨h.1, fun i d e => let ⟨v, e1, r⟩ := h.2 i d e; ⟨v, e1, Rel.monoW x d v r⟩⟩
variable {own own1 : List Nat} {t t1 : Tg} {it it1 : Iv.It} {iifs iifs1 : List E} {ie : E} {box : Bool}
noncomputable abbrev lcStepB (F : CE) (own own1 : List Nat) (t : Tg) (iifs : List E) (t1 : Tg) (it1 : Iv.It) (iifs1 : List E) (ie : E) (ρ : Env) : Iv.D → Sto → R (List Iv.D) := fun d S => (asg F t d (wipeE ρ own) S).bind fun ρ1 S => (evIfs F iifs ρ1 S).bind fun k S => if k = true then
        (evIt F it1 ρ1 S).bind fun w1 S => lcLoop w1.1 (lcStep F own1 t1 iifs1 ie ρ1) w1.2 S
        else .ok [] S
/-! str.index -/
end
end Iv

/-! ### enumerate(list, start=c) -/
namespace We
open PySem PySem.Spec PyProof.Rows L2
end We
namespace Iv
open PySem PySem.Spec PyProof.Rows L2
section
variable {g : Gs} {W : L2.WX} {X : Cx} {F : CE} {m : Mp} {n : Nat} {H : Hp} {S : Sto} {σ : L2.St} {ρ : Env} {pos : Pos} {a : Addr} {xs : List Iv.D} {src : Src}
end
end Iv

/-! ### str(list), str(tuple) where no repr is under way; the law's own call -/
namespace Wg
open PySem PySem.Spec PyProof.Rows L2
end Wg
namespace Iv
open PySem PySem.Spec PyProof.Rows L2
section
variable {g : Gs} {W : L2.WX} {X : Cx} {F : CE} {m : Mp} {H : Hp} {S : Sto} {ρ : Env} {p pos : Pos} {e : Expr} {ie : E} {σ : L2.St} {d : Iv.D} {v : V}
end
section
variable {P : Program} {w : World} {K : PySem.W.Frag} {mg : Str → Option Value} {base : Heap} {g : Gs} {T : List Fn}
end
end Iv

/-! ### dicts whose keys are ints and texts -/
namespace Iv
open PySem PySem.Spec PyProof.Rows L2
section
variable {g : Gs} {W : L2.WX} {X : Cx} {F : CE} {m m1 m2 : Mp} {n n1 n2 : Nat} {H H1 H2 : Hp} {S S' : Sto} {σ : L2.St} {ρ : Env} {pos : Pos} {k : Key} {d : Iv.D} {v : V} {ds : List (Key × Iv.D)} {ws : List (Key × V)}
theorem DGet.rd {a : Addr} {kws : List (Key × V)} (e : Rd H a (.dK kws)) : DGet H a (kV k) (valV kws k) := .inl ⟨kws, k, e, rfl, rfl⟩
end
end Iv

/-! ### sorted(d), dict comprehensions -/
namespace Iv
open PySem PySem.Spec PyProof.Rows L2
section
variable {g : Gs} {W : L2.WX} {X : Cx} {F : CE} {m m1 m2 m' : Mp} {n n1 n2 : Nat} {H H1 H2 H' : Hp} {S S' : Sto} {σ : L2.St} {ρ : Env} {pos : Pos} {k : Key} {d : Iv.D} {v : V} {ds : List (Key × Iv.D)} {ws : List (Key × V)}
theorem srtI_eq {ns ys : List Int} (p : ys.Perm ns) (h : ys.Pairwise (· ≤ ·)) : ys = srtI ns := by
  have q : (srtI ns).Perm ns := List.mergeSort_perm ns _
  have w : (srtI ns).Pairwise (· ≤ ·) := (List.pairwise_mergeSort (le := fun a b : Int => decide (a ≤ b)) (fun a b c h1 h2 => by simp only [decide_eq_true_eq] at *; omega) (fun a b => by simp only [Bool.or_eq_true, decide_eq_true_eq]; omega) ns).imp fun {a b} h => by simpa using h
  exact List.Perm.eq_of_pairwise (le := (· ≤ ·)) (fun a b _ _ h1 h2 => by omega) h w (p.trans q.symm)
end
end Iv

/-! ### dicts that are walked; tries that raise nothing, raise, augmented attributes -/
namespace Iv
open PySem PySem.Spec PyProof.Rows L2
section
variable {g : Gs} {W : L2.WX} {X : Cx} {F : CE} {m m1 m2 : Mp} {n n1 n2 : Nat} {H H1 H2 : Hp} {S S' S2 : Sto} {σ : L2.St} {ρ : Env} {pos : Pos} {k : Key} {d : Iv.D} {v : V} {kvs kvs' : List (Key × Iv.D)} {kws kws' : List (Key × V)} {a : Addr} {o : Obj}
theorem setAt_len {i : Nat} {c : Cell} : (setAt S i c).length = S.length := by unfold setAt; rw [List.length_set]
theorem s_stuck {st : Stmt} : PS X st (tS g W (ex F .raise)) := by
  refine ⟨fun pins s σ D H I ⟨m, ρ, S, rs, er, w⟩ => ?_⟩
  rw [ex] at w
  exact w.elim
end
end Iv

/-! ### set comprehensions of ints, of ints and texts: how many, sorted -/
namespace Ws
open PySem PySem.Spec PyProof.Rows L2
/-- the machine's empty set -/
abbrev bareSet (w : World) : Obj := { cls := .type "set", dict := none, data := .set #[] 0 (.fresh 0 0 (!w.params.followText "set-order")) }
def rAddG {κ : Type} [DecidableEq κ] (kv : κ → V) (SO : Addr → (κ → Bool) → Nat → HO) : V → List V → Hp → VK → Prop := fun x xs H Q => ∃ (a : Addr) (k : κ) (T : κ → Bool) (n : Nat), x = V.ref a ∧ xs = [kv k] ∧ H a = some (SO a T n) ∧ n + 1 < scanBound ∧
  Q .non (upd H a (SO a (fun j => T j || decide (j = k)) (if T k = true then n else n + 1)))
/-- what a kind of sets must have -/
structure SetLike (P : Program) (w : World) {κ : Type} [DecidableEq κ] (kv : κ → V) (SO : Addr → (κ → Bool) → Nat → HO) : Prop where
  fresh : ∀ (H : Hp) (h : Heap), ObjOk P w H (h.push (bareSet w)) h.objs.size (SO h.objs.size (fun _ => false) 0)
  add : ∀ Y : Cx, Y.prog = P → Y.w = w → MtR Y "set.add" (rAddG kv SO)
  nt : ∀ D T n ps, SO D T n ≠ .tbl ps
section
variable {X : Cx} {κ : Type} [DecidableEq κ] {kv : κ → V} {SO : Addr → (κ → Bool) → Nat → HO}
end
end Ws

/-! ### comprehensions of dicts and sets, in the evaluator -/
namespace Iv
open PySem PySem.Spec PyProof.Rows L2
section
variable {g : Gs} {W : L2.WX} {X : Cx} {F : CE} {m m1 m' : Mp} {n : Nat} {H H1 H' : Hp} {S S1 S' : Sto} {σ : L2.St} {ρ : Env} {pos : Pos} {D : Addr} {own : List Nat} {t : Tg} {it : Iv.It} {iifs : List E} {ie ik : E}
/-! how many -/
/-! {k: v for ..} -/
noncomputable abbrev dcStep (F : CE) (own : List Nat) (t : Tg) (iifs : List E) (ik ie : E) (ρ : Env) : Iv.D → Sto → R (List Iv.D) := fun d S => (asg F t d (wipeE ρ own) S).bind fun ρ1 S => (evIfs F iifs ρ1 S).bind fun b S => if b = true then (ev F ik ρ1 S).bind fun y S => (ev F ie ρ1 S).bind fun z S => .ok [.tup [y, z]] S else .ok [] S
/-! name = {..: .. for ..}, the name a local -/
/-! displays -/
/-! k in d -/
/-! l.count(x) -/
/-! a module's tuple -/
end
end Iv

/-! ### rules: len of a dict, a module's written dicts -/
namespace L2
open PySem PySem.Spec PyProof.Rows
section
variable {X : Cx}
end
end L2
namespace Iv
open PySem PySem.Spec PyProof.Rows L2
section
variable {g : Gs} {W : L2.WX} {X : Cx} {F : CE} {b e : Expr} {ib ie : E} {x : Str} {p q pos : Pos}
end
end Iv

/-! ### dict(pairs) -/
namespace Iv
open PySem PySem.Spec PyProof.Rows L2
section
variable {g : Gs} {W : L2.WX} {X : Cx} {F : CE} {e : Expr} {ie : E} {p q pos : Pos} {m : Mp} {n : Nat} {S : Sto} {H : Hp}
end
end Iv

/-! ### sorted(d, reverse=True); d == {} -/
namespace L2
open PySem PySem.Spec PyProof.Rows
section
variable {X : Cx}
end
end L2
namespace Iv
open PySem PySem.Spec PyProof.Rows L2
section
variable {g : Gs} {W : L2.WX} {X : Cx} {F : CE} {e : Expr} {ie : E} {p q pos : Pos} {m : Mp} {n : Nat} {S : Sto} {H : Hp}
end
end Iv

/-! ### rules: split, partition; D.get(k, d) of a module's written dict -/
namespace Iv
open PySem PySem.Spec PyProof.Rows L2
section
variable {X : Cx} {e f : Expr} {x : Str} {p apos cpos : Pos} {ty tx : TE} {a : Addr} {ks : List Str}
end
section
variable {g : Gs} {W : L2.WX} {X : Cx} {F : CE} {b f : Expr} {ib jf : E} {x : Str} {p apos cpos : Pos}
end
end Iv

/-! ### dict(t), t a tuple that tuple() made, of pairs -/
namespace Iv
open PySem PySem.Spec PyProof.Rows L2
section
variable {prog : Program} {w : World} {A : Around} {E : Value → Shared → Prop}
end
section
variable {g : Gs} {W : L2.WX} {X : Cx} {F : CE} {e : Expr} {ie : E} {p q pos : Pos} {m : Mp} {n : Nat} {S : Sto} {H : Hp}
end
end Iv

/-! ### exceptions of the program's classes over ValueError, by the library's own rules (OexC, pe_veinit, ps_ost, pmk_oex) -/
namespace Iv
open PySem PySem.Spec PyProof.Rows L2
end Iv

/-! ### exceptions: the evaluator's rules -/
namespace Iv
open PySem PySem.Spec PyProof.Rows L2
section
variable {P : Program} {w : World} {K : PySem.W.Frag} {mg : Str → Option Value} {base : Heap}
end
section
variable {g : Gs} {W : L2.WX} {X : Cx} {F : CE} {e : Expr} {ie : E} {x : Str} {p pos pos' : Pos}
end
/-! ### the caught exception -/
def Gs.at (g : Gs) (h : Hot) : Gs := { g with hot := some h }
section
variable {g : Gs} {m m1 : Mp} {n n1 : Nat} {H H1 : Hp} {h : Hot}
mutual
theorem rel_hin (hn : n ≤ h.id) : ∀ (d : D) (v : V), Rel g m n H d v → Rel (g.at h) m n H d v
  | .non, _, r => by unfold Rel at r ⊢; exact r
  | .bl _, _, r => by unfold Rel at r ⊢; exact r
  | .int _, _, r => by unfold Rel at r ⊢; exact r
  | .str _, _, r => by unfold Rel at r ⊢; exact r
  | .ty _, _, r => by unfold Rel at r ⊢; exact r
  | .ref _, _, r => by unfold Rel at r ⊢; exact r
  | .tup xs, _, r => by
    unfold Rel at r ⊢
    obtain ⟨a, vs, e, t, q⟩ := r
    exact ⟨a, vs, e, t, rels_hin hn xs vs q⟩
  | .lst xs, _, r => by
    unfold Rel at r ⊢
    obtain ⟨a, vs, e, t, q⟩ := r
    exact ⟨a, vs, e, t, rels_hin hn xs vs q⟩
  | .scr xs, _, r => by
    unfold Rel at r ⊢
    obtain ⟨a, vs, e, t, q⟩ := r
    exact ⟨a, vs, e, t, rels_hin hn xs vs q⟩
  | .ntp xs, _, r => by
    unfold Rel at r ⊢
    obtain ⟨a, vs, e, t, q⟩ := r
    exact ⟨a, vs, e, t, rels_hin hn xs vs q⟩
  | .wtp xs, _, r => by
    unfold Rel at r ⊢
    obtain ⟨a, vs, e, t, q⟩ := r
    exact ⟨a, vs, e, t, rels_hin hn xs vs q⟩
  | .ins c fs, _, r => by
    unfold Rel at r ⊢
    obtain ⟨a, dx, gs, e, t, k, q⟩ := r
    exact ⟨a, dx, gs, e, t, k, relFs_hin hn fs gs q⟩
  | .exv i c fs, _, r => by
    unfold Rel at r ⊢
    obtain ⟨l, a, e, _⟩ := r
    refine ⟨l, a, e, fun h' hh hi => ?_⟩
    cases hh
    omega
theorem rels_hin (hn : n ≤ h.id) : ∀ (ds : List D) (vs : List V), Rels g m n H ds vs → Rels (g.at h) m n H ds vs
  | [], _, r => by unfold Rels at r ⊢; exact r
  | d :: ds, _, r => by
    unfold Rels at r ⊢
    obtain ⟨w, ws, e, r, q⟩ := r
    exact ⟨w, ws, e, rel_hin hn d w r, rels_hin hn ds ws q⟩
theorem relFs_hin (hn : n ≤ h.id) : ∀ (ds : List (Nat × D)) (vs : List (Str × V)), RelFs g m n H ds vs → RelFs (g.at h) m n H ds vs
  | [], _, r => by unfold RelFs at r ⊢; exact r
  | (f, d) :: ds, _, r => by
    unfold RelFs at r ⊢
    obtain ⟨w, ws, e, r, q⟩ := r
    exact ⟨w, ws, e, rel_hin hn d w r, relFs_hin hn ds ws q⟩
end
mutual
theorem rel_out (h0 : g.hot = none) : ∀ (d : D) (v : V), Rel (g.at h) m n H d v → Rel g m n H d v
  | .non, _, r => by unfold Rel at r ⊢; exact r
  | .bl _, _, r => by unfold Rel at r ⊢; exact r
  | .int _, _, r => by unfold Rel at r ⊢; exact r
  | .str _, _, r => by unfold Rel at r ⊢; exact r
  | .ty _, _, r => by unfold Rel at r ⊢; exact r
  | .ref _, _, r => by unfold Rel at r ⊢; exact r
  | .tup xs, _, r => by
    unfold Rel at r ⊢
    obtain ⟨a, vs, e, t, q⟩ := r
    exact ⟨a, vs, e, t, rels_out h0 xs vs q⟩
  | .lst xs, _, r => by
    unfold Rel at r ⊢
    obtain ⟨a, vs, e, t, q⟩ := r
    exact ⟨a, vs, e, t, rels_out h0 xs vs q⟩
  | .scr xs, _, r => by
    unfold Rel at r ⊢
    obtain ⟨a, vs, e, t, q⟩ := r
    exact ⟨a, vs, e, t, rels_out h0 xs vs q⟩
  | .ntp xs, _, r => by
    unfold Rel at r ⊢
    obtain ⟨a, vs, e, t, q⟩ := r
    exact ⟨a, vs, e, t, rels_out h0 xs vs q⟩
  | .wtp xs, _, r => by
    unfold Rel at r ⊢
    obtain ⟨a, vs, e, t, q⟩ := r
    exact ⟨a, vs, e, t, rels_out h0 xs vs q⟩
  | .ins c fs, _, r => by
    unfold Rel at r ⊢
    obtain ⟨a, dx, gs, e, t, k, q⟩ := r
    exact ⟨a, dx, gs, e, t, k, relFs_out h0 fs gs q⟩
  | .exv i c fs, _, r => by
    unfold Rel at r ⊢
    obtain ⟨l, a, e, _⟩ := r
    refine ⟨l, a, e, fun h' hh hi => ?_⟩
    rw [h0] at hh
    cases hh
theorem rels_out (h0 : g.hot = none) : ∀ (ds : List D) (vs : List V), Rels (g.at h) m n H ds vs → Rels g m n H ds vs
  | [], _, r => by unfold Rels at r ⊢; exact r
  | d :: ds, _, r => by
    unfold Rels at r ⊢
    obtain ⟨w, ws, e, r, q⟩ := r
    exact ⟨w, ws, e, rel_out h0 d w r, rels_out h0 ds ws q⟩
theorem relFs_out (h0 : g.hot = none) : ∀ (ds : List (Nat × D)) (vs : List (Str × V)), RelFs (g.at h) m n H ds vs → RelFs g m n H ds vs
  | [], _, r => by unfold RelFs at r ⊢; exact r
  | (f, d) :: ds, _, r => by
    unfold RelFs at r ⊢
    obtain ⟨w, ws, e, r, q⟩ := r
    exact ⟨w, ws, e, rel_out h0 d w r, relFs_out h0 ds ws q⟩
end
variable {S : Sto} {ρ : Env} {σ : L2.St}
theorem EnvR.out (h0 : g.hot = none) (er : EnvR (g.at h) m n H ρ σ) : EnvR g m n H ρ σ := ⟨er.1, fun i d e => let ⟨v, e1, r⟩ := er.2 i d e; ⟨v, e1, rel_out h0 d v r⟩⟩
end
section
variable {g : Gs} {W : L2.WX} {X : Cx} {F : CE} {x nm : Str} {c : Value} {i : Nat} {body suite : List Stmt} {b₀ : Stmt} {np pos pos' : Pos} {ib ih : List St} {yes no : List Nat}
end
/-! ### isinstance(e, C), e.f within the suite -/
section
variable {X : Cx} {a Dc : Addr} {oe : Obj} {cls : Value} {d : Option Addr} {pn : List (Addr × Obj)}
end
theorem CallR.or {X : Cx} {f : Value} {r r' : List V → Hp → VK → Prop} (h : CallR X f r) (h' : CallR X f r') : CallR X f (fun xs H Q => r xs H Q ∨ r' xs H Q) :=
  fun pins s σ H xs us Q I rx q => q.elim (h pins s σ H xs us Q I rx) (h' pins s σ H xs us Q I rx)
theorem CallR.ex {ι : Type} {X : Cx} {f : Value} {r : ι → List V → Hp → VK → Prop} {p : ι → Prop} (h : ∀ i, p i → CallR X f (r i)) : CallR X f (fun xs H Q => ∃ i, p i ∧ r i xs H Q) :=
  fun pins s σ H xs us Q I rx ⟨i, hp, q⟩ => h i hp pins s σ H xs us Q I rx q
section
variable {g : Gs} {W : L2.WX} {X : Cx} {F : CE} {a : Addr} {oe : Obj} {cls : Value} {d : Option Addr} {pn : List (Addr × Obj)} {e ce : Expr} {ces : List Expr} {ie : E} {p pos tpos : Pos} {id : Nat} {yes no : List Nat} {c : V} {cv : Value} {cs : List V} {us : List Value}
end
end Iv

/-! ### looks at exception classes -/
namespace Iv
open PySem PySem.Spec PyProof.Rows L2
/-! ### isinstance(x, C), C a class of the program that is no exception -/
structure Exc0 (K : PySem.W.Frag) (C : Addr) (tl : List Value) (newId : String) : Prop where
  q : PySem.W.excIn K C tl newId = true
  kC : PySem.W.keepIn K (.ref C) = true
  exC : PySem.W.subIn K (.ref C) (.type "BaseException") = some true
  tyC : PySem.W.typeIn K (.ref C) = some (.type "type")
structure Exc1 (K : PySem.W.Frag) (C : Addr) (f : Str) (fI : Addr) : Prop where
  T : OexC K C
  no : PySem.W.findIn K (.ref C) f = some none
  iC : PySem.W.findIn K (.ref C) "__init__" = some (some (.ref fI))
  tI : PySem.W.typeIn K (.ref fI) = some (.type "function")
  vV : PySem.W.findCls K (.type "ValueError") (.type "type") "__init__" = some (.val (.builtin "ValueError.__init__"))
theorem Exc0.all {K : PySem.W.Frag} {C : Addr} {tl : List Value} {newId : String} (x : Exc0 K C tl newId) : PySem.W.excIn K C tl newId = true ∧ PySem.W.keepIn K (.ref C) = true ∧
    PySem.W.subIn K (.ref C) (.type "BaseException") = some true ∧ PySem.W.typeIn K (.ref C) = some (.type "type") := ⟨x.q, x.kC, x.exC, x.tyC⟩
section
variable {g : Gs} {W : L2.WX} {X : Cx} {F : CE} {e ce : Expr} {ie : E} {p pos : Pos} {c : Nat} {ks : List Nat}
end
end Iv
/-! ### t.count(x) of a tuple of texts; (x,) * 2 -/
namespace Iv
open PySem PySem.Spec PyProof.Rows L2
section
variable {X : Cx}
end
section
variable {g : Gs} {W : L2.WX} {X : Cx} {F : CE} {m : Mp} {n : Nat} {H : Hp} {S : Sto} {pos : Pos}
/-! t.count(x) of any tuple, where the run tells each tuple's object -/
/-! a == b by an own __eq__ -/
theorem WP.noExc {V0 : Value → Option Addr → Hp → Prop} {r : R Iv.D} {Q : VK} (h : WP g V0 (Rel g) m n H (Iv.noExc r) Q) : WP g (fun _ _ _ => False) (Rel g) m n H r Q := by
  unfold Iv.noExc at h
  split at h
  · exact h
  · exact h.elim
end
end Iv

/-! ### sorted(.., key=lambda x: ..) -/
namespace Iv
open PySem PySem.Spec PyProof.Rows L2
section
variable {g : Gs} {m : Mp} {S : Sto} {H : Hp}
/-- a code object has been written into a table -/
theorem RS.grow {P c : Addr} {q : Str} {ps more : Array Value} (rs : RS g m S H) (hP : H P = some (.tbl ps)) (hm : (P, q) ∈ g.tabs) (hu : ∀ p ∈ g.tabs, p.1 = P → p.2 = q) (hc : H c = none) (ht : TriplesOk (ps ++ more).toList)
    (ha : ∀ (pos : Pos) (cv : Value), codeAmong pos (ps ++ more).toList = some cv → cv = .ref c ∨ codeAmong pos ps.toList = some cv) :
    RS g m S (upd (upd H P (.tbl (ps ++ more))) c (LamX.CodeO c q)) ∧ Ext m S.length H m S.length (upd (upd H P (.tbl (ps ++ more))) c (LamX.CodeO c q)) := by
  have hid : m.hid P := (rs.tabs _ hm).1
  have nPc : P ≠ c := ne_of_none hP hc
  have at_ : ∀ b, b ≠ P → b ≠ c → upd (upd H P (.tbl (ps ++ more))) c (LamX.CodeO c q) b = H b := fun b h1 h2 => by rw [upd_ne h2, upd_ne h1]
  have atP : upd (upd H P (.tbl (ps ++ more))) c (LamX.CodeO c q) P = some (.tbl (ps ++ more)) := by rw [upd_ne nPc, upd_same]
  have x : Ext m S.length H m S.length (upd (upd H P (.tbl (ps ++ more))) c (LamX.CodeO c q)) := by
    refine ⟨Nat.le_refl _, fun _ _ _ e => e, fun b o e f => ⟨?_, f⟩, fun b h => ⟨h, ?_⟩, fun b o u e => ?_⟩
    · rw [at_ b (fun z => f.2 (by rw [z]; exact hid)) (ne_of_none e hc)]
      exact e
    · by_cases z : b = P
      · rw [z]
        exact .inr ⟨ps, more, hP, atP⟩
      · obtain ⟨o, e⟩ := (rs.hidS b h).1
        exact .inl (at_ b z (ne_of_none e hc))
    · rw [at_ b (fun z => by rw [z, hP] at e; cases e) (ne_of_none e hc)]
      exact e
  refine ⟨⟨fun i a k => ?_, rs.all, rs.inj, fun a h => ⟨?_, (rs.hidS a h).2⟩, rs.hotS, fun p hp => ⟨(rs.tabs p hp).1, ?_⟩⟩, x⟩
  · obtain ⟨c', e, r⟩ := rs.dom i a k
    exact ⟨c', e, r.monoW x.w (at_ a (fun z => (rs.hidS P hid).2 i (by rw [← z]; exact k)) fun z => (Off.free rs hc).1 i (by rw [← z]; exact k))⟩
  · by_cases z : a = P
    · rw [z]
      exact ⟨_, atP⟩
    · obtain ⟨o, e⟩ := (rs.hidS a h).1
      exact ⟨o, by rw [at_ a z (ne_of_none e hc)]; exact e⟩
  · by_cases z : p.1 = P
    · obtain ⟨_, ps', e1, e2, e3⟩ := rs.tabs p hp
      rw [z, hP] at e1
      cases e1
      refine ⟨ps ++ more, by rw [z]; exact atP, ht, fun pos cv hcv => ?_⟩
      rcases ha pos cv hcv with e | e
      · exact ⟨c, e, by rw [hu p hp z]; exact upd_same, Off.free rs hc⟩
      · obtain ⟨c0, q1, q2, q3⟩ := e3 pos cv e
        obtain ⟨q4, q5⟩ := x.keep _ _ q2 q3
        exact ⟨c0, q1, q4, q5⟩
    · obtain ⟨_, ps', e1, _⟩ := rs.tabs p hp
      exact (rs.tabs p hp).2.monoW x.w (at_ p.1 z (ne_of_none e1 hc))
end
section
variable {g : Gs} {m : Mp} {S : Sto} {H : Hp} {X : Cx} {pins : List (Addr × Obj)} {σ : L2.St} {s : Shared}
/-- the lambda is made -/
theorem lam_make {c P : Addr} {q : Str} {params : Arguments} {body : Expr} {scope : Scope} {pos : Pos} {E : Value → Shared → Prop} {Q : Value → Shared → Prop} (I : Inv X pins σ H s) (rs : RS g m S H) (TB : LamX.TabB X.base X.mg c P) (hcode : X.env.code = .ref c)
    (hq : q = X.env.qual ++ "<lambda>") (hm : (P, q) ∈ g.tabs) (hu : ∀ p ∈ g.tabs, p.1 = P → p.2 = q) (hdef : defaultsOf params X.env = ([], [])) (hfree : ∀ y ∈ scope.names, y.2 = .free → ∃ c, X.env.cells.lookup y.1 = some c)
    (h : ∀ (f c' : Addr) (pm ctv : Value) (H1 : Hp) (s' : Shared), Inv X pins σ H1 s' → RS g m S H1 → Ext m S.length H m S.length H1 →
      s'.heap.get? f = some (PySem.W.kla_obj "<lambda>" q params body scope (cloFrom X.env.cells scope.names []) pm c' ctv) → H1 f = none → s.heap.objs.size ≤ f → H1 c' = some (LamX.CodeO c' q) → Off m c' → (∀ b o, s.heap.get? b = some o → o.cls ≠ .none → s'.heap.get? b = some o) → Q (.ref f) s') :
    wpAny (model X.prog X.w) X.A (eval (.Lambda params body scope pos) X.env) Q E s := by
  subst hq
  obtain ⟨_, ps, hP, ht, ha⟩ := rs.tabs _ hm
  dsimp only at hP ha
  have bP : s.heap.BuiltinsAt X.mg P := TB.bm.keeps I.bk
  have hP' : s.heap.get? P = some { cls := .none, data := .fields ps } := I.hok P _ hP
  refine PySem.W.kla_eval hdef ?_
  cases hc : codeAmong pos ps.toList with
  | some cv =>
    obtain ⟨c', rfl, hco, hof⟩ := ha pos cv hc
    exact PySem.W.kla_makeFunctionHit (mg := X.mg) (c := c) (P := P) (ps := ps) (closure_ok hfree) I.ok.glob (I.mod.glob.keeps I.bk) hcode (TB.code.keeps I.bk) hP' ht hc bP fun ctv h' tk hx hsz =>
      h h'.objs.size c' ((X.mg "__name__").getD .none) ctv H _ (I.kept fun b o e => Heap.get?_push_of_some _ (hx b o e)) rs Ext.refl (Heap.get?_push_size _ rfl) (I.hok.fresh hsz) hsz hco hof fun b o e _ => Heap.get?_push_of_some _ (hx b o e)
  | none =>
    refine PySem.W.kla_makeFunction (mg := X.mg) (c := c) (P := P) (ps := ps) (closure_ok hfree) I.ok.glob (I.mod.glob.keeps I.bk) hcode (TB.code.keeps I.bk) hP' ht hc TB.gP bP fun c' ctv h' tk hx hge hlt hrec htb => ?_
    obtain ⟨c2, oc, vs, t, e2, hoc, hd, hv⟩ := hrec
    cases e2
    have nC : H c' = none := I.hok.fresh hge
    have eL : (ps ++ #[rawInt pos.line, rawInt pos.col, Value.ref c']).toList = ps.toList ++ [rawInt pos.line, rawInt pos.col, .ref c'] := by simp
    have hsz : s.heap.objs.size ≤ h'.objs.size := Nat.le_trans hge (Nat.le_of_lt hlt)
    have I1 := LamX.inv_table (t' := tk) (more := #[rawInt pos.line, rawInt pos.col, .ref c']) (h' := h'.push (PySem.W.kla_obj "<lambda>" (X.env.qual ++ "<lambda>") params body scope (cloFrom X.env.cells scope.names []) ((X.mg "__name__").getD .none) c' ctv)) I hP
      (fun b o hb e => Heap.get?_push_of_some _ (hx b o hb e)) (Heap.get?_push_of_some _ htb) hge ⟨oc, vs, t, Heap.get?_push_of_some _ hoc, hd, hv⟩
    obtain ⟨rs1, x1⟩ := rs.grow (more := #[rawInt pos.line, rawInt pos.col, .ref c']) hP hm hu nC (by rw [eL]; exact PySem.TriplesOk_snoc _ _ _ _ ht) fun p cv hcv => by
      rw [eL] at hcv
      exact (LamX.among_app _ ht hcv).symm
    refine h h'.objs.size c' ((X.mg "__name__").getD .none) ctv _ _ I1 rs1 x1 (Heap.get?_push_size _ rfl) ?_ hsz upd_same (Off.free rs nC) fun b o e n => Heap.get?_push_of_some _ (hx b o (fun z => n (by rw [z, hP'] at e; cases e; rfl)) e)
    rw [upd_ne (Nat.ne_of_gt hlt), upd_ne (Nat.ne_of_gt (Nat.lt_of_lt_of_le (Heap.lt_size hP') hsz))]
    exact I.hok.fresh hsz
end
/-- the lambda is called -/
theorem lam_run {CX : CXT} {P : Program} {w : World} {K : PySem.W.Frag} {mg : Str → Option Value} {base : Heap} {N ps fr : List Str} {F : NdefX.NF} {f : Addr} {A : Around} {outer : List PySem.Env} {s : Shared} {H : Hp} {E : XK} {us : List Value} {vs : List V} {ws : List (Option V)} {Q : VK} {te : TE}
    {body : Expr} {pm ctv : Value} (S : NdefX.NScope N ps fr F.scope) (hdp : A.depth < recursionLimit) (hh : A.handled = none) (e0 : Env0 P w K mg base A outer s H)
    (ho : s.heap.get? f = some (PySem.W.kla_obj F.name F.qual F.params body F.scope F.cl pm F.c ctv)) (hc : H F.c = some (LamX.CodeO F.c F.qual)) (C : NdefX.CellsAt F.cl fr ws s.heap H)
    (hb : bindArgs (PySem.W.kla_fn F.name F.qual F.params body F.scope F.cl pm (.ref F.c) ctv) ⟨us, []⟩ = pure (ps.zip us)) (r : Vals vs us) (hl : vs.length = ps.length)
    (hbody : PE (NdefX.ncx CX P w K mg base N F f A outer s H E) body te) (q : te (NdefX.startF N vs ws) H Q) :
    codeAny (model P w) A (.call (.ref f) ⟨us, []⟩) (CR CX outer P w H s Q E) s := by
  have lim : s.heap.NoLimit := e0.mod.nolimit.keeps fun b o e => (e0.bs b o e).1
  refine PySem.W.kla_callFunE hdp ho rfl S.co S.gen rfl (NdefX.codeO_at e0.hok hc) ?_
  rw [hb]
  refine wpAny_pure (wpAny_newFunctionEnv S.nocell (fun ⟨n, _⟩ hy => S.par n (List.of_mem_zip hy).1) (fun h₁ hns hsb => ⟨lim.fresh _ hsb, ?_⟩) S.kind)
  show codeAny _ _ (.expr body (NdefX.envF F f s.heap.objs.size)) _ _
  have I : Inv (NdefX.ncx CX P w K mg base N F f A outer s H E) [] (NdefX.startF N vs ws) H { s with heap := h₁, toks := s.toks + (ps.zip us).length } :=
    NdefX.inv_startN S hh e0 hl r C hns fun b o e => hsb.extBut b o (Nat.ne_of_lt (Heap.lt_size e)) (Heap.get?_push_of_some _ e)
  refine PySem.W.kla_codeExpr (wpAny_mono (hbody.run [] _ _ H Q I q) (fun v s' hq => ?_) fun e s' hq => hq)
  obtain ⟨v', H', J, rv, q⟩ := hq
  exact ⟨v', H', J.os, J.bare, J.base, J.hok, rv, q⟩
section
variable {g : Gs} {m : Mp} {n : Nat} {S : Sto} {H : Hp} {ρ : Env} {σ : L2.St} {js : List Nat} {d : Iv.D} {v : V}
theorem keyEnv_rel {N : List Str} (er : EnvR g m n H ρ σ) (r : Rel g m n H d v) (hN : N.length = js.length + 1) : EnvR g m n H (keyEnv ρ js d) (NdefX.startF N [v] (js.map (NdefX.slotAt σ))) := by
  have e : NdefX.startF N [v] (js.map (NdefX.slotAt σ)) = some v :: js.map (NdefX.slotAt σ) := by
    unfold NdefX.startF
    simp [hN]
  rw [e]
  refine ⟨by unfold keyEnv; simp, fun i d' h => ?_⟩
  unfold keyEnv at h
  cases i with
  | zero =>
    cases h
    exact ⟨v, rfl, r⟩
  | succ i =>
    rw [List.getElem?_cons_succ, List.getElem?_map] at h
    obtain ⟨j, hj, e2⟩ := Option.map_eq_some_iff.mp h
    have e3 : ρ[j]? = some (some d') := by
      cases q : ρ[j]? with
      | none => rw [q] at e2; cases e2
      | some o => rw [q] at e2; exact congrArg some e2
    obtain ⟨v', e4, r'⟩ := er.2 j d' e3
    exact ⟨v', by rw [List.getElem?_cons_succ, List.getElem?_map, hj]; exact congrArg some (NdefX.slotAt_of e4), r'⟩
theorem pys_zip {ks : List Iv.D} {vs : List V} (hl : ks.length = vs.length) : (ks.zip vs).map (fun b => b.1.py) = D.pys ks := by
  rw [pys_map]
  have := (map_fst_zip (xs := ks) (ys := vs) hl).1
  have h2 : (ks.zip vs).map (fun b => b.1.py) = ((ks.zip vs).map Prod.fst).map D.py := by rw [List.map_map]; rfl
  rw [h2, this]
end
end Iv

namespace Iv
open PySem PySem.Spec PyProof.Rows L2
/-- what a lambda's calls want -/
structure LamK (X : Cx) (g : Gs) (Fc : CE) (k : Nat) (F : NdefX.NF) (N fr : List Str) (p : Str) (js : List Nat) (body : Expr) (key : E) (f : Addr) (pm ctv : Value) : Prop where
  sc : NdefX.NScope N [p] fr F.scope
  cp : NdefX.Caps X F.cl fr js
  len : N.length = js.length + 1
  bind : ∀ us : List Value, us.length = 1 → bindArgs (PySem.W.kla_fn F.name F.qual F.params body F.scope F.cl pm (.ref F.c) ctv) ⟨us, []⟩ = pure ([p].zip us)
  body : ∀ (A : Around) (outer : List PySem.Env) (s : Shared) (H : Hp), Room k (A.deeper (NdefX.envF F f s.heap.objs.size)) → PE (NdefX.ncx C8.CX0 X.prog X.w X.K X.mg X.base N F f A outer s H C8.E0) body (tE g noX (ev Fc key))
noncomputable abbrev keyStep (Fc : CE) (key : E) (ρ : Env) (js : List Nat) : Iv.D → Sto → R (List Iv.D) := fun d S => (ev Fc key (keyEnv ρ js d) S).bind fun y S => .ok [y] S
section
variable {X : Cx} {g : Gs} {Fc : CE} {k : Nat} {F : NdefX.NF} {N fr : List Str} {p : Str} {js : List Nat} {body : Expr} {key : E} {f : Addr} {pm ctv : Value} {pins : List (Addr × Obj)} {σ : L2.St} {H : Hp} {s : Shared} {ρ : Env} {S : Sto} {m : Mp}
theorem pin_cell {q : Addr × Obj} (I : Inv X pins σ H s) (hq : q ∈ X.pn ++ pins) : ∀ x c, X.env.cells.lookup x = some c → c ≠ q.1 := fun x c e z => by
  obtain ⟨v, o, ho, hd⟩ := I.cell x c e
  obtain ⟨h1, _, _, _, h5⟩ := I.pin q hq
  rw [z, h1] at ho
  cases ho
  exact h5 v hd
theorem each_vals3 : ∀ {ps : List ((Iv.D × V) × Iv.D)} {us : List Value}, PySem.W.EachIs (fun (u : Value) (b : (Iv.D × V) × Iv.D) => RelV b.1.2 u) us ps → Vals (ps.map fun b => b.1.2) us
  | [], _, .nil => .nil
  | p :: ps, _, .cons h t => .cons h (each_vals3 t)
theorem zip3 : ∀ {xs : List Iv.D} {vs : List V} {ks : List Iv.D}, xs.length = vs.length → ((xs.zip vs).zip ks).map (fun b => (b.1.1, b.2)) = xs.zip ks
  | [], [], _, _ => by simp
  | x :: xs, v :: vs, [], _ => by simp
  | x :: xs, v :: vs, k :: ks, l => by
    rw [List.zip_cons_cons, List.zip_cons_cons, List.zip_cons_cons, List.map_cons, zip3 (Nat.succ.inj l)]
/-- one call -/
theorem key_turn (LK : LamK X g Fc k F N fr p js body key f pm ctv) (hr : Room (k + 1) X.A) (I : Inv X pins σ H s) (rs : RS g m S H) (er : EnvR g m S.length H ρ σ) (ho : s.heap.get? f = some (PySem.W.kla_obj F.name F.qual F.params body F.scope F.cl pm F.c ctv)) (hc : H F.c = some (LamX.CodeO F.c F.qual))
    {d y : Iv.D} {v : V} {u : Value} {S2 : Sto} (r : Rel g m S.length H d v) (ru : RelV v u) (hy : ev Fc key (keyEnv ρ js d) S = .ok y S2) {E' : Value → Shared → Prop} :
    wpAny (model X.prog X.w) X.A.in1.in1 (call (.ref f) [u]) (EP X pins σ fun z H' => ∃ m', Ext m S.length H m' S2.length H' ∧ RS g m' S2 H' ∧ Rel g m' S2.length H' y z) E' s := by
  have hr2 : Room k (X.A.in1.in1.deeper (NdefX.envF F f s.heap.objs.size)) := ⟨hr.hd, by have := hr.dp; show X.A.depth + 1 + 3 * k + 5 < _; omega, by have := hr.un; show X.A.units + 1 + 1 + 3 + 16 * k + 200 < _; omega⟩
  refine wpAny_call (codeAny_mono (lam_run (CX := C8.CX0) (E := C8.E0) (Q := fun z H' => ∃ m', Ext m S.length H m' S2.length H' ∧ RS g m' S2 H' ∧ Rel g m' S2.length H' y z) (vs := [v]) (us := [u]) LK.sc hr.depth hr.hd I.env0.in1.in1 ho hc (NdefX.cells_of I LK.cp) (LK.bind [u] rfl) (.cons ru .nil) rfl (LK.body _ _ _ _ hr2) ⟨m, _, S, rs, keyEnv_rel er r LK.len, ?_⟩) fun rr s' hq => ?_)
  · rw [hy]
    exact fun m' H' z x rs' r' => ⟨m', x, rs', r'⟩
  · cases rr with
    | error e => exact (show False from hq).elim
    | ok fl =>
      cases fl with
      | ret w => exact I.after hq
      | next => exact False.elim hq
      | brk => exact False.elim hq
      | cont => exact False.elim hq
/-- the list's own items back, by the keys -/
theorem key_rest {a kS : Addr} {e1 : Nat} {us : List Value} {vs : List V} {xs : List Iv.D} {box : Bool} {Q : VK} {Wx : Value → Option Addr → Hp → Prop} {E' : Value → Shared → Prop} (LK : LamK X g Fc k F N fr p js body key f pm ctv) (hK : X.K = g.K) (hr : Room (k + 1) X.A)
    (I : Inv X ((kS, seqObj "list" #[] 0) :: (a, seqObj "list" #[] e1) :: (f, PySem.W.kla_obj F.name F.qual F.params body F.scope F.cl pm F.c ctv) :: pins) σ H s) (hka : kS ≠ a) (hkf : kS ≠ f) (haf : a ≠ f) (hk0 : X.s_0.heap.objs.size ≤ kS) (ha0 : X.s_0.heap.objs.size ≤ a)
    (hkp : ∀ q ∈ X.pn ++ pins, q.1 ≠ kS) (hap : ∀ q ∈ X.pn ++ pins, q.1 ≠ a) (rs : RS g m S H) (er : EnvR g m S.length H ρ σ) (hc : H F.c = some (LamX.CodeO F.c F.qual) ∧ Off m F.c) (rx : Rels g m S.length H xs vs) (rv : Vals vs us)
    (w : WP g Wx (Rel g) m S.length H ((lcLoop .fix (keyStep Fc key ρ js) xs S).bind fun ks S => keysR box xs ks S) Q) :
    wpAny (model X.prog X.w) X.A.in1.in1 (ksk_rest a (.ref f) false us.toArray e1 (.ref kS)) (fun fin s' => fin = .done (.ret .none) ∧ EP X pins σ Q (.ref a) s') E' s := by
  rcases (lcLoop_form (src := .fix) (step := keyStep Fc key ρ js) (items := xs) (S := S)).symm with hL | ⟨ys, Sf, hL⟩
  · rw [hL] at w
    exact w.err
  rw [hL] at w
  obtain ⟨⟨c1, c2, c3, c4, c5⟩, w⟩ := (show WP g Wx (Rel g) m S.length H (keysR box xs ys Sf) Q from w).ck
  have lxv := rx.length
  have lvu := rv.length
  unfold ksk_rest
  refine wpAny_bind (wpAny_rule ?_)
  rw [List.forIn_toArray]
  refine wpAny_bind (ksk_fold (fun i s' => ∃ (kA : Array Value) (e : Nat) (H' : Hp) (m' : Mp) (S' : Sto) (ks r2 : List Iv.D) (kvs : List V), Inv X ((kS, seqObj "list" kA e) :: (a, seqObj "list" #[] e1) :: (f, PySem.W.kla_obj F.name F.qual F.params body F.scope F.cl pm F.c ctv) :: pins) σ H' s' ∧
      Ext m S.length H m' S'.length H' ∧ RS g m' S' H' ∧ Rels g m' S'.length H' ks kvs ∧ Vals kvs kA.toList ∧ ks.length = i ∧ lcLoop .fix (keyStep Fc key ρ js) (xs.drop i) S' = .ok r2 Sf ∧ ks ++ r2 = ys) us 0 s
    ⟨#[], 0, H, m, S, [], ys, [], I, Ext.refl, rs, Rels.nil, .nil, rfl, hL, rfl⟩ ?step ?done)
  case step =>
    rintro j u s' hu ⟨kA, e, H', m', S', ks, r2, kvs, I', x', rs', rk, rkv, hlen, hl, hys⟩
    rw [Nat.zero_add] at hlen hl ⊢
    have hj : j < us.length := (List.getElem?_eq_some_iff.mp hu).1
    cases hd : xs.drop j with
    | nil =>
      rw [List.drop_eq_nil_iff] at hd
      omega
    | cons d ds =>
      obtain ⟨_, hget, hds⟩ := drop_cons hd
      rw [hd] at hl
      obtain ⟨_, z1, S2, r3, hstep, hl3, hr2⟩ := lcLoop_cons hl
      obtain ⟨y, S3, hy, hz⟩ := bind_ok hstep
      injection hz with hz1 hz2
      subst hz1 hz2
      obtain ⟨v, hv, rdv⟩ := rx.get hget
      obtain ⟨u', hu', ruv⟩ := rv.get hv
      rw [hu] at hu'
      cases hu'
      have nk := (I'.pin (kS, seqObj "list" kA e) (by simp)).1
      have hco := (x'.keep _ _ hc.1 hc.2).1
      have hz : kA.size ≤ xs.length := by
        have h1 : kvs.length = kA.size := rkv.length.trans (Array.length_toList ..)
        have h2 : ks.length = kvs.length := rk.length
        have h3 : xs.length = vs.length := lxv
        have h4 : vs.length = us.length := lvu
        omega
      refine wpAny_bind (wpAny_attempt (wpAny_mono (key_turn (E' := fun _ _ => False) LK hr I' rs' (er.mono x') (I'.pin (f, _) (by simp)).1 hco (Rel.mono x' _ _ rdv) ruv hy) (fun u2 s2 he => ?_) fun _ _ hF => hF.elim))
      obtain ⟨z, H2, I2, rz, m2, x2, rs2, r2z⟩ := he
      try dsimp only
      have pk := I2.pin (kS, seqObj "list" kA e) (by simp)
      dsimp only at pk
      have s1 := Heap.SameBut.update s2.heap kS (Obj.mapSeq (·.push u2))
      obtain ⟨c', hc'⟩ : ∃ c2, (s2.heap.update kS (Obj.mapSeq (·.push u2))).get? kS = some (seqObj "list" (kA.push u2) c2) := ⟨_, get?_update_seq pk.1 (·.push u2)⟩
      refine wpAny_bind (listUpdate_at pk.1 rfl ?_ (Nat.le_trans hz c2) (Nat.le_trans (Nat.le_of_eq (Array.size_push ..)) (Nat.succ_le_succ (Nat.le_trans hz c2))))
      have sub : ∀ q ∈ (a, seqObj "list" #[] e1) :: (f, PySem.W.kla_obj F.name F.qual F.params body F.scope F.cl pm F.c ctv) :: pins, q ∈ X.pn ++ ((kS, seqObj "list" kA e) :: (a, seqObj "list" #[] e1) :: (f, PySem.W.kla_obj F.name F.qual F.params body F.scope F.cl pm F.c ctv) :: pins) := fun q hq => List.mem_append_right _ (List.mem_cons_of_mem _ hq)
      have J : Inv X ((a, seqObj "list" #[] e1) :: (f, PySem.W.kla_obj F.name F.qual F.params body F.scope F.cl pm F.c ctv) :: pins) σ H2 s2 := I2.pins_of fun q hq => I2.pin q (sub q hq)
      have J2 : Inv X ((a, seqObj "list" #[] e1) :: (f, PySem.W.kla_obj F.name F.qual F.params body F.scope F.cl pm F.c ctv) :: pins) σ H2 { s2 with heap := s2.heap.update kS (Obj.mapSeq (·.push u2)), toks := s2.toks } :=
        J.turned (it := kS) (fun b o hb eb => (s1.2 b hb).trans eb) pk.2.1 pk.2.2.1 (.inr hk0) (pin_cell I2 (q := (kS, seqObj "list" kA e)) (by simp)) fun q hq => by
          rcases List.mem_append.mp hq with hq | hq
          · exact hkp q (List.mem_append_left _ hq)
          · rcases List.mem_cons.mp hq with rfl | hq
            · exact hka.symm
            · rcases List.mem_cons.mp hq with rfl | hq
              · exact hkf.symm
              · exact hkp q (List.mem_append_right _ hq)
      have J3 : Inv X ((kS, seqObj "list" (kA.push u2) c') :: (a, seqObj "list" #[] e1) :: (f, PySem.W.kla_obj F.name F.qual F.params body F.scope F.cl pm F.c ctv) :: pins) σ H2 { s2 with heap := s2.heap.update kS (Obj.mapSeq (·.push u2)), toks := s2.toks } :=
        J2.pins_of fun q hq => by
          rcases List.mem_cons.mp hq with rfl | hq
          · exact ⟨hc', pk.2.1, pk.2.2.1, pk.2.2.2.1, fun v z => by cases z⟩
          · exact J2.pin q (List.mem_append_right _ hq)
      refine wpAny_pure ⟨rfl, kA.push u2, c', H2, m2, S3, ks ++ [y], r3, kvs ++ [z], J3, x'.trans x2, rs2, (Rels.mono x2 _ _ rk).append (Rels.cons r2z Rels.nil), ?_, by rw [List.length_append, hlen]; rfl, by rw [hds]; exact hl3, by rw [← hys, hr2, List.append_assoc]⟩
      have ea : (kA.push u2).toList = kA.toList ++ [u2] := by simp
      rw [ea]
      exact rkv.append (.cons rz .nil)
  case done =>
    rintro s' ⟨kA, e, H', m', T, ks, r2, kvs, I', x', rs', rk, rkv, hlen, hl, hys⟩
    rw [Nat.zero_add] at hlen hl
    rw [List.drop_eq_nil_iff.mpr (by omega)] at hl
    obtain ⟨_, q1, q2⟩ := lcLoop_nil hl
    subst q1 q2
    rw [List.append_nil] at hys
    subst hys
    have pk := I'.pin (kS, seqObj "list" kA e) (by simp)
    have pa := I'.pin (a, seqObj "list" #[] e1) (by simp)
    dsimp only at pk pa
    have lk := rk.length
    have lkv := rkv.length
    have lusx : us.length = xs.length := by omega
    have hk : PySem.W.EachIs (fun v d => ∃ as, Reads s'.heap v d as) kA.toList (D.pys ks) := by
      have e := vals_each lk rkv
      rw [← pys_zip lk]
      refine PySem.W.each_map (R := fun v d => ∃ as, Reads s'.heap v d as) (fun b : Iv.D × V => b.1.py) (each_imp e fun u b hb rb => ?_)
      have h1 := (py_lay b.1 b.2 (fzs_mem c3 (List.of_mem_zip hb).1) (rk.zip b hb)).2
      rw [← hK] at h1
      exact Dp.reads I' _ b.2 u h1 rb
    have hsz : kA.size = us.length := by
      have h1 : kvs.length = kA.size := lkv.trans (Array.length_toList ..)
      have h2 : ks.length = kvs.length := lk
      omega
    have hZ : us.length ≤ sizeLine := by omega
    have un : X.A.in1.in1.units + 60 < cLine := by
      have := hr.un
      show X.A.units + 1 + 1 + 60 < cLine
      omega
    have hu : ∀ d, d ∈ D.pys ks → X.A.in1.in1.units + d.depth < cLine := fun d hd => by
      rw [pys_map] at hd
      obtain ⟨b, hb, rfl⟩ := List.mem_map.mp hd
      have h1 := dps_mem hb
      rw [← py_depth b (fzs_mem c3 hb)] at h1
      omega
    try dsimp only
    refine wpAny_bind (listItems_at pk.1 rfl ?_)
    have nT : ∀ b, (if b = kS then some (HO.own 0) else none : Option HO) = none → b ≠ kS := fun b z q => by rw [if_pos q] at z; cases z
    refine PySem.W.keyH_end (κ := PySem.W.dataKind s'.heap (D.pys ks)) (h₁ := hidT s'.heap fun b => if b = kS then some (.own 0) else none) (fun b o _ eb => (of_hidT eb).1) ?_ pk.1 pa.1 hka (PySem.W.SortsAt.data hk c5.1 c5.2 hu) hsz hZ fun h' tk c kp ha' => ?_
    · cases q : (hidT s'.heap fun b => if b = kS then some (.own 0) else none).get? kS with
      | none => rfl
      | some o => exact absurd rfl (nT kS (of_hidT q).2)
    refine ⟨rfl, ?_⟩
    have all : ∀ b o, b ≠ a → b ≠ kS → s'.heap.get? b = some o → h'.get? b = some o := fun b o h1 h2 eb => kp b o h1 (hidT_get eb (if_neg h2))
    have hbs : ((xs.zip vs).zip ks).map (fun b => b.2.py) = D.pys ks := by
      rw [pys_map]
      have h1 := (map_fst_zip (xs := xs.zip vs) (ys := ks) (by rw [List.length_zip]; omega)).2
      have h2 : ((xs.zip vs).zip ks).map (fun b => b.2.py) = (((xs.zip vs).zip ks).map Prod.snd).map D.py := by rw [List.map_map]; rfl
      rw [h2, h1]
    have eU : PySem.W.EachIs (fun (u : Value) (b : (Iv.D × V) × Iv.D) => RelV b.1.2 u) us ((xs.zip vs).zip ks) := by
      have e0 := vals_each lxv rv
      have e1 : ((xs.zip vs).zip ks).map Prod.fst = xs.zip vs := (map_fst_zip (by rw [List.length_zip]; omega)).1
      rw [← e1] at e0
      exact PySem.W.each_of_map (R := fun (u : Value) (b : Iv.D × V) => RelV b.2 u) Prod.fst e0
    have KO : PySem.W.KeyedOut false (((xs.zip vs).zip ks).map fun b => b.2.py) us (PySem.W.sortVals (PySem.W.dataKind s'.heap (D.pys ks)) false kA.toList us) := by
      rw [hbs]
      exact ⟨s'.heap, kA.toList, c5.1, rfl, hk⟩
    have eO := PySem.W.keyedOut_each (R := fun (u : Value) (b : (Iv.D × V) × Iv.D) => RelV b.1.2 u) (fun b => b.2.py) KO eU
    have perm := List.mergeSort_perm ((xs.zip vs).zip ks) (PySem.W.dataLe false fun b => b.2.py)
    have rO := each_vals3 eO
    have lO : ((((xs.zip vs).zip ks).mergeSort (PySem.W.dataLe false fun b => b.2.py)).map fun b => b.1.2).length ≤ sizeLine := by
      rw [List.length_map, List.length_mergeSort, List.length_zip, List.length_zip]
      omega
    have rD : Rels g m' Sf.length H' (((xs.zip ks).mergeSort (PySem.W.dataLe false fun p => p.2.py)).map Prod.fst) ((((xs.zip vs).zip ks).mergeSort (PySem.W.dataLe false fun b => b.2.py)).map fun b => b.1.2) := by
      have e4 : (((xs.zip vs).zip ks).mergeSort (PySem.W.dataLe false fun b => b.2.py)).map (fun b => (b.1.1, b.2)) = (xs.zip ks).mergeSort (PySem.W.dataLe false fun p => p.2.py) := by
        rw [← zip3 (xs := xs) (vs := vs) (ks := ks) lxv]
        exact List.map_mergeSort fun a _ b _ => rfl
      rw [← e4, List.map_map]
      have q : ∀ b ∈ (((xs.zip vs).zip ks).mergeSort (PySem.W.dataLe false fun b => b.2.py)).map Prod.fst, Rel g m' Sf.length H' b.1 b.2 := fun b hb => by
        obtain ⟨t, ht, rfl⟩ := List.mem_map.mp hb
        exact Rel.mono x' _ _ (rx.zip _ (List.of_mem_zip (perm.mem_iff.mp ht)).1)
      have q2 := Rels.pairs q
      rw [List.map_map, List.map_map] at q2
      exact q2
    have J0 : Inv X pins σ H' s' := I'.pins_of fun q hq => I'.pin q (List.mem_append_right _ (List.mem_cons_of_mem _ (List.mem_cons_of_mem _ (List.mem_cons_of_mem _ hq))))
    have nn : ∀ b u, H' b = some u → b ≠ a ∧ b ≠ kS := fun b u e => ⟨ne_of_none e pa.2.1, ne_of_none e pk.2.1⟩
    have hch : ∀ b, b ∉ [kS, a] → b ≠ a ∧ b ≠ kS := fun b hb => ⟨fun z => hb (by simp [z]), fun z => hb (by simp [z])⟩
    have J1 : Inv X pins σ (upd H' a (.lst ((((xs.zip vs).zip ks).mergeSort (PySem.W.dataLe false fun b => b.2.py)).map fun b => b.1.2))) { s' with heap := h', gens := s'.gens, drawn := s'.drawn, toks := tk } := by
      refine J0.step (ch := [kS, a]) (fun b hb => ?_) (fun b o _ _ hc' eb _ => all b o (hch b hc').1 (hch b hc').2 eb) (fun b o _ _ hc' eb _ => ⟨o.slots, all b o (hch b hc').1 (hch b hc').2 eb⟩) (fun b o hc' _ e => by rw [upd_ne (hch b hc').1]; exact e)
        (fun b o hc' eb => ⟨o, all b o (hch b hc').1 (hch b hc').2 eb⟩) (fun b zs e => by rw [upd_ne (nn b _ e).1]; exact e) (fun b o u e => by rw [upd_ne (nn b _ e).1]; exact e) (fun b zs e => ⟨#[], by rw [upd_ne (nn b _ e).1, e]; simp⟩) (fun mm hm => ?_) (fun b u e => ?_) J0.bare
      · rcases List.mem_cons.mp hb with rfl | hb
        · exact ⟨.inr hk0, pk.2.2.1, pin_cell I' (q := (b, seqObj "list" kA e)) (by simp), hkp⟩
        · rw [List.mem_singleton.mp hb]
          exact ⟨.inr ha0, pa.2.2.1, pin_cell I' (q := (a, seqObj "list" #[] e1)) (by simp), hap⟩
      · obtain ⟨o, es, ep, ho, r⟩ := hm
        exact ⟨o, es, ep, all _ o pa.2.2.1.symm pk.2.2.1.symm ho, r⟩
      · by_cases hb : b = a
        · subst hb
          rw [upd_same] at e
          cases e
          exact ⟨lO, _, c, rO, ha'⟩
        · rw [upd_ne hb] at e
          refine (J0.hok b u e).stay (fun d v hd q => ?_) (fun d q => by rw [upd_ne (nn d _ q).1]; exact q) fun d zs q => by rw [upd_ne (nn d _ q).1]; exact q
          rcases hd with z | z
          · rw [z] at q ⊢
            exact all b v (nn b _ e).1 (nn b _ e).2 q
          · exact all d v (nn d _ z).1 (nn d _ z).2 q
    exact ⟨.ref a, _, J1, rfl, mkL_ok rs' rD (WP.from x' w) pa.2.1⟩
end
end Iv

namespace Iv
open PySem PySem.Spec PyProof.Rows L2
section
variable {X : Cx} {g : Gs} {Fc : CE} {k : Nat} {F : NdefX.NF} {N fr : List Str} {p : Str} {js : List Nat} {body : Expr} {key : E} {f : Addr} {pm ctv : Value} {pins : List (Addr × Obj)} {σ : L2.St} {H : Hp} {s : Shared} {ρ : Env} {S : Sto} {m : Mp} {us : List Value} {vs : List V} {xs : List Iv.D} {box : Bool} {Q : VK}
  {Wx : Value → Option Addr → Hp → Prop} {E' : Value → Shared → Prop}
theorem key_tree {a : Addr} {n : Nat} (LK : LamK X g Fc k F N fr p js body key f pm ctv) (hK : X.K = g.K) (hr : Room (k + 1) X.A) (hZ : us.length ≤ sizeLine)
    (I : Inv X ((f, PySem.W.kla_obj F.name F.qual F.params body F.scope F.cl pm F.c ctv) :: pins) σ H s) (ha : s.heap.get? a = some (seqObj "list" us.toArray n)) (na : H a = none) (aL : a ≠ X.env.locals) (aF : a ∉ X.fs) (haf : a ≠ f) (ha0 : X.s_0.heap.objs.size ≤ a)
    (hap : ∀ q ∈ X.pn ++ pins, q.1 ≠ a) (rs : RS g m S H) (er : EnvR g m S.length H ρ σ) (hc : H F.c = some (LamX.CodeO F.c F.qual) ∧ Off m F.c) (rx : Rels g m S.length H xs vs) (rv : Vals vs us)
    (w : WP g Wx (Rel g) m S.length H ((lcLoop .fix (keyStep Fc key ρ js) xs S).bind fun ks S => keysR box xs ks S) Q) :
    wpAny (model X.prog X.w) X.A.in1.in1 (ksk_tree a (.ref f) false) (fun fin s' => fin = .done (.ret .none) ∧ EP X pins σ Q (.ref a) s') E' s := by
  have hlt : a < s.heap.objs.size := Heap.lt_size ha
  have s1 := Heap.SameBut.update s.heap a (Obj.mapSeq fun _ => (#[] : Array Value))
  obtain ⟨e1, ho1⟩ : ∃ e1, (s.heap.update a (Obj.mapSeq fun _ => (#[] : Array Value))).get? a = some (seqObj "list" #[] e1) := ⟨_, get?_update_seq ha fun _ => #[]⟩
  have hkS : ((s.heap.update a (Obj.mapSeq fun _ => (#[] : Array Value))).push (seqObj "tuple" us.toArray 0)).objs.size = s.heap.objs.size + 1 := by rw [Heap.size_push, Heap.size_update]
  have aC : ∀ x c, X.env.cells.lookup x = some c → c ≠ a := fun x c e z => by
    obtain ⟨v, o, ho, hd⟩ := I.cell x c e
    rw [z, ha] at ho
    cases ho
    cases hd
  unfold ksk_tree
  refine wpAny_bind (listItems_at ha rfl ?_)
  refine wpAny_bind (listUpdate_at ha rfl ?_ (by rw [List.size_toArray]; exact hZ) (Nat.zero_le _))
  refine wpAny_bind (seqEpoch_at ho1 rfl ?_)
  refine wpAny_bind (wpAny_newTuple ?_ hZ)
  refine wpAny_bind (wpAny_newList ?_ (Nat.zero_le _))
  refine wpAny_holding ?_
  have I1 : Inv X ((f, PySem.W.kla_obj F.name F.qual F.params body F.scope F.cl pm F.c ctv) :: pins) σ H { s with heap := s.heap.update a (Obj.mapSeq fun _ => (#[] : Array Value)), toks := s.toks } :=
    I.turned (it := a) (fun b o hb eb => (s1.2 b hb).trans eb) na aL (.inr ha0) aC fun q hq => by
      rcases List.mem_append.mp hq with hq | hq
      · exact hap q (List.mem_append_left _ hq)
      · rcases List.mem_cons.mp hq with rfl | hq
        · exact haf.symm
        · exact hap q (List.mem_append_right _ hq)
  have up : ∀ b o, (s.heap.update a (Obj.mapSeq fun _ => (#[] : Array Value))).get? b = some o → (((s.heap.update a (Obj.mapSeq fun _ => (#[] : Array Value))).push (seqObj "tuple" us.toArray 0)).push (seqObj "list" #[] 0)).get? b = some o := fun b o eb => Heap.get?_push_of_some _ (Heap.get?_push_of_some _ eb)
  have I2 : Inv X ((f, PySem.W.kla_obj F.name F.qual F.params body F.scope F.cl pm F.c ctv) :: pins) σ H { s with heap := ((s.heap.update a (Obj.mapSeq fun _ => (#[] : Array Value))).push (seqObj "tuple" us.toArray 0)).push (seqObj "list" #[] 0), toks := s.toks } := I1.kept (t' := s.toks) up
  have pinLt : ∀ q ∈ X.pn ++ ((f, PySem.W.kla_obj F.name F.qual F.params body F.scope F.cl pm F.c ctv) :: pins), q.1 < s.heap.objs.size := fun q hq => Heap.lt_size (I.pin q hq).1
  have I3 : Inv X ((s.heap.objs.size + 1, seqObj "list" #[] 0) :: (a, seqObj "list" #[] e1) :: (f, PySem.W.kla_obj F.name F.qual F.params body F.scope F.cl pm F.c ctv) :: pins) σ H { s with heap := ((s.heap.update a (Obj.mapSeq fun _ => (#[] : Array Value))).push (seqObj "tuple" us.toArray 0)).push (seqObj "list" #[] 0), toks := s.toks } :=
    I2.pins_of fun q hq => by
      rcases List.mem_cons.mp hq with rfl | hq
      · exact ⟨by rw [← hkS]; exact Heap.get?_push_size _ rfl, I.hok.fresh (Nat.le_succ _), Nat.ne_of_gt (Nat.lt_succ_of_lt I.lt), I.nofs (Nat.le_succ _), fun v z => by cases z⟩
      · rcases List.mem_cons.mp hq with rfl | hq
        · exact ⟨up _ _ ho1, na, aL, aF, fun v z => by cases z⟩
        · exact I2.pin q (List.mem_append_right _ hq)
  have q := key_rest (kS := s.heap.objs.size + 1) (E' := E') LK hK hr I3 (Nat.ne_of_gt (Nat.lt_succ_of_lt hlt)) (Nat.ne_of_gt (Nat.lt_succ_of_lt (pinLt _ (List.mem_append_right _ List.mem_cons_self)))) haf (Nat.le_trans I.sz (Nat.le_succ _)) ha0
    (fun q hq => Nat.ne_of_lt (Nat.lt_succ_of_lt (pinLt q ((List.mem_append.mp hq).elim (fun z => List.mem_append_left _ z) fun z => List.mem_append_right _ (List.mem_cons_of_mem _ z))))) hap rs er hc rx rv w
  rw [← hkS] at q
  exact q
/-- .. xs a range -/
theorem key_range {r : Addr} {n : Int} {t u v : Tok} (LK : LamK X g Fc k F N fr p js body key f pm ctv) (hK : X.K = g.K) (hr : Room (k + 1) X.A) (hb : smallI n ∧ n.toNat ≤ 2 ^ 24) (I : Inv X ((f, PySem.W.kla_obj F.name F.qual F.params body F.scope F.cl pm F.c ctv) :: pins) σ H s) (hrg : IsRange s.heap r 0 n 1 t u v)
    (rs : RS g m S H) (er : EnvR g m S.length H ρ σ) (hc : H F.c = some (LamX.CodeO F.c F.qual) ∧ Off m F.c)
    (w : WP g Wx (Rel g) m S.length H ((lcLoop .fix (keyStep Fc key ρ js) (rngD 0 n.toNat) S).bind fun ks S => keysR box (rngD 0 n.toNat) ks S) Q) :
    wpAny (model X.prog X.w) X.A (call (.builtin "sorted") [.ref r] [(Str.ofString "key", .ref f)]) (EP X pins σ Q) E' s := by
  have e0 : (n - 0).toNat = n.toNat := by rw [Int.sub_zero]
  refine call_function_entry_kw kind_sorted plain_sorted entry_sorted (ksk_s1 _ _) ?_
  unfold Builtin.«sorted»
  refine wpAny_bind (m := checkCount "sorted" 1 1 _) (wpAny_pure ?_)
  refine wpAny_bind (collect_range (n := n.toNat) hr.hd hrg (small_one (by omega) (by omega) hb.1.1 hb.1.2) (by rw [rangeSize_nat, e0]) hb.2 fun h' tk acc hk hi => ?_)
  have rv : Vals (rgV 0 n) acc.toList := vals_rg (by rw [e0]; exact hi)
  have hZ : acc.toList.length ≤ sizeLine := by
    have h1 := rv.length
    rw [rgV_length] at h1
    have := hb.2
    rw [sizeLine_eq]
    omega
  refine wpAny_bind (wpAny_newList ?_ hZ)
  have hoL : (h'.push (seqObj "list" acc.toList.toArray 0)).get? h'.objs.size = some (seqObj "list" acc.toList.toArray 0) := Heap.get?_push_size _ rfl
  have I1 : Inv X ((f, PySem.W.kla_obj F.name F.qual F.params body F.scope F.cl pm F.c ctv) :: pins) σ H { s with heap := h', toks := tk } := I.kept (t' := tk) hk
  have I2 : Inv X ((f, PySem.W.kla_obj F.name F.qual F.params body F.scope F.cl pm F.c ctv) :: pins) σ H { s with heap := h'.push (seqObj "list" acc.toList.toArray 0), toks := tk } := I1.kept (t' := tk) fun _ _ eb => Heap.get?_push_of_some _ eb
  have pinLt : ∀ q ∈ X.pn ++ ((f, PySem.W.kla_obj F.name F.qual F.params body F.scope F.cl pm F.c ctv) :: pins), q.1 < h'.objs.size := fun q hq => Heap.lt_size (I1.pin q hq).1
  refine wpAny_bind (wpAny_holding (wpAny_call_entry_kw slot_list_sort ⟨_, hoL, rfl⟩ entry_list_sort ?_ (ksk_l1 _ _)))
  show wpAny (model X.prog X.w) X.A.in1.in1 (Builtin.«list.sort» ⟨[.ref h'.objs.size], [(Str.ofString "key", .ref f)]⟩) _ _ _
  rw [ksk_t1]
  refine wpAny_mono (key_tree LK hK hr hZ I2 hoL (I1.hok.fresh (Nat.le_refl _)) (Nat.ne_of_gt I1.lt) (I1.nofs (Nat.le_refl _)) (Nat.ne_of_gt (pinLt _ (List.mem_append_right _ List.mem_cons_self))) I1.sz
    (fun q hq => Nat.ne_of_lt (pinLt q ((List.mem_append.mp hq).elim (fun z => List.mem_append_left _ z) fun z => List.mem_append_right _ (List.mem_cons_of_mem _ z)))) rs er hc (by have z := rels_rg (g := g) (m := m) (n := S.length) (H := H) (i := 0) (j := n); rw [e0] at z; exact z) rv w) (fun fin s' h => ?_) fun _ _ h => h
  obtain ⟨rfl, q⟩ := h
  exact ⟨_, rfl, wpAny_pure ⟨_, rfl, q⟩⟩
end
abbrev LF (X : Cx) (params : Arguments) (scope : Scope) (c' : Addr) : NdefX.NF := ⟨"<lambda>", X.env.qual ++ "<lambda>", params, [], scope, cloFrom X.env.cells scope.names [], c'⟩
/-- what is written about a lambda -/
structure LamW (X : Cx) (g : Gs) (Fc : CE) (k : Nat) (N fr : List Str) (x : Str) (js : List Nat) (params : Arguments) (body : Expr) (scope : Scope) (key : E) : Prop where
  sc : NdefX.NScope N [x] fr scope
  fre : ∀ y ∈ scope.names, y.2 = .free → X.env.scope.names.lookup y.1 = some .cell ∨ X.env.scope.names.lookup y.1 = some .free
  frm : ∀ y ∈ fr, (y, NameKind.free) ∈ scope.names
  jsn : js.map (fun j => X.N[j]?) = fr.map some
  len : N.length = js.length + 1
  bind : ∀ (c' : Addr) (pm ctv : Value) (us : List Value), us.length = 1 → bindArgs (PySem.W.kla_fn "<lambda>" (X.env.qual ++ "<lambda>") params body scope (cloFrom X.env.cells scope.names []) pm (.ref c') ctv) ⟨us, []⟩ = pure ([x].zip us)
  dfl : defaultsOf params X.env = ([], [])
  body : ∀ (c' f : Addr) (A : Around) (outer : List PySem.Env) (s : Shared) (H : Hp), Room k (A.deeper (NdefX.envF (LF X params scope c') f s.heap.objs.size)) → PE (NdefX.ncx C8.CX0 X.prog X.w X.K X.mg X.base N (LF X params scope c') f A outer s H C8.E0) body (tE g noX (ev Fc key))
theorem fre_by {X : Cx} {sc0 scope : Scope} (h : X.env.scope = sc0) (d : (scope.names.all fun y => !decide (y.2 = .free) || decide (sc0.names.lookup y.1 = some .cell) || decide (sc0.names.lookup y.1 = some .free)) = true) : ∀ y ∈ scope.names, y.2 = .free → X.env.scope.names.lookup y.1 = some .cell ∨ X.env.scope.names.lookup y.1 = some .free := fun y hy e => by
  have q := List.all_eq_true.mp d y hy
  simp only [Bool.or_eq_true, Bool.not_eq_true', decide_eq_true_eq, decide_eq_false_iff_not] at q
  rw [h]
  rcases q with (q | q) | q
  · exact absurd e q
  · exact .inl q
  · exact .inr q
section
variable {X : Cx} {g : Gs} {W : L2.WX} {Fc : CE} {k : Nat} {N fr : List Str} {x : Str} {js : List Nat} {params : Arguments} {body : Expr} {scope : Scope} {key ia : E} {a : Expr} {c P : Addr} {box : Bool} {p pos kp lpos p2 pos2 : Pos}
theorem LamW.has (L : LamW X g Fc k N fr x js params body scope key) (ok : X.Ok) : ∀ y ∈ scope.names, y.2 = .free → ∃ c, X.env.cells.lookup y.1 = some c := fun y hy e => (L.fre y hy e).elim (fun z => ok.has _ (.inl z)) fun z => ok.has _ (.inr z)
theorem LamW.at (L : LamW X g Fc k N fr x js params body scope key) (ok : X.Ok) (c' f : Addr) (pm ctv : Value) : LamK X g Fc k (LF X params scope c') N fr x js body key f pm ctv :=
  ⟨L.sc, NdefX.Caps.made ok L.fre L.frm L.jsn, L.len, L.bind c' pm ctv, fun A outer s H hr => L.body c' f A outer s H hr⟩
theorem pin_lam {pins : List (Addr × Obj)} {σ : L2.St} {H : Hp} {s : Shared} {f : Addr} {o : Obj} (I : Inv X pins σ H s) (ho : s.heap.get? f = some o) (n : H f = none) (h1 : f ≠ X.env.locals) (h2 : f ∉ X.fs) (h3 : ∀ v, o.data ≠ .cell v) : Inv X ((f, o) :: pins) σ H s :=
  I.pins_of fun q hq => by
    rcases List.mem_cons.mp hq with rfl | hq
    · exact ⟨ho, n, h1, h2, h3⟩
    · exact I.pin q (List.mem_append_right _ hq)
/-- the lambda as the keyword -/
theorem key_kw {pins : List (Addr × Obj)} {σ : L2.St} {H : Hp} {s : Shared} {m : Mp} {S : Sto} {Q : List Value → Shared → Prop} {E' : Value → Shared → Prop} (L : LamW X g Fc k N fr x js params body scope key) (TB : LamX.TabB X.base X.mg c P) (hcode : X.env.code = .ref c) (hmT : (P, X.env.qual ++ "<lambda>") ∈ g.tabs) (hu : ∀ q ∈ g.tabs, q.1 = P → q.2 = X.env.qual ++ "<lambda>")
    (I : Inv X pins σ H s) (rs : RS g m S H)
    (h : ∀ (f c' : Addr) (pm ctv : Value) (H1 : Hp) (s' : Shared), LamK X g Fc k (LF X params scope c') N fr x js body key f pm ctv → Inv X ((f, PySem.W.kla_obj "<lambda>" (X.env.qual ++ "<lambda>") params body scope (cloFrom X.env.cells scope.names []) pm c' ctv) :: pins) σ H1 s' → RS g m S H1 → Ext m S.length H m S.length H1 →
      (H1 c' = some (LamX.CodeO c' (X.env.qual ++ "<lambda>")) ∧ Off m c') → (∀ b o, s.heap.get? b = some o → o.cls ≠ .none → s'.heap.get? b = some o) → Q [.ref f] s') :
    wpAny (model X.prog X.w) X.A (evalAll ((backToKw pos (keywordEach [⟨some "key", .Lambda params body scope lpos, kp⟩] X.env)).map (·.2))) Q E' s := by
  show wpAny _ _ (evalAll [(do let v ← eval (.Lambda params body scope lpos) X.env; standAt pos; pure v)]) _ _ s
  refine wpAny_evalAll_cons (wpAny_bind (lam_make I rs TB hcode rfl hmT hu L.dfl (L.has I.ok) fun f c' pm ctv H1 s' I1 rs1 x1 hf nf hsz hco hof hk => wpAny_bind (wpAny_standAt (wpAny_pure ?_))))
  exact wpAny_evalAll_nil (h f c' pm ctv H1 s' (L.at I.ok c' f pm ctv) (pin_lam I1 hf nf (Nat.ne_of_gt (Nat.lt_of_lt_of_le I.lt hsz)) (I.nofs hsz) fun v z => by cases z) rs1 x1 ⟨hco, hof⟩ hk)
theorem i_sortKr (L : LamW X g Fc k N fr x js params body scope key) (TB : LamX.TabB X.base X.mg c P) (hcode : X.env.code = .ref c) (hmT : (P, X.env.qual ++ "<lambda>") ∈ g.tabs) (hu : ∀ q ∈ g.tabs, q.1 = P → q.2 = X.env.qual ++ "<lambda>")
    (hr : Room (k + 1) X.A) (hg : Gl X "sorted") (hm : X.mg "sorted" = none) (hg2 : Gl X "range") (hm2 : X.mg "range" = none) (oke : okE a = true) (ha : PE X a (tE g W (ev Fc ia))) (hK : X.K = g.K := by rfl) :
    PE X (.Call (.Name "sorted" p) [.Call (.Name "range" p2) [a] [] pos2] [⟨some "key", .Lambda params body scope lpos, kp⟩] pos) (tE g W (ev Fc (.sortKr box ia js key))) := by
  refine ⟨fun pins s σ H Q I ⟨m, ρ, S, rs, er, w⟩ => ?_⟩
  rw [ev] at w
  refine wpAny_Call_Name_kw (ld_blt I hg hm (u := .builtin "sorted") (by decide +kernel) ?_ (by decide) (by decide))
  refine PyProof.Rows.callWith_kw (Calls.spliced_cons (thn (prg_1 (pos := pos2) (p := p2) hg2 hm2 ha (starEach_ok oke) pins s σ H (fun lo n H1 => ∃ m1 S1, lo = 0 ∧ Ext m S.length H m1 S1.length H1 ∧ RS g m1 S1 H1 ∧ (smallI n ∧ n.toNat ≤ 2 ^ 24) ∧
    WP g (fun c d H' => W c d σ H') (Rel g) m1 S1.length H1 ((lcLoop .fix (keyStep Fc key ρ js) (rngD 0 n.toNat) S1).bind fun ks S => keysR box (rngD 0 n.toNat) ks S) Q) I ?_) fun u s1 ⟨r, lo, n, t, t2, t3, H1, e1, hrg, I1, m1, S1, e2, x1, rs1, hb, w1⟩ => ?_)) (by rfl) (by rfl) (by rfl) (by rfl)
  · refine TI.step rs er w fun b H1 m1 S1 d x1 rs1 er1 r1 w1 => ?_
    cases d with
    | int n =>
      rw [rel_int] at r1
      obtain ⟨hb, w1⟩ := w1.ck
      exact ⟨n, r1, m1, S1, rfl, x1, rs1, hb, w1⟩
    | _ => exact w1.err
  subst e1 e2
  refine Calls.spliced_nil ?_
  refine key_kw L TB hcode hmT hu I1 rs1 fun f c' pm ctv H2 s2 LK I2 rs2 x2 hc hk => ?_
  exact key_range LK hK hr hb I2 (hk _ _ hrg (by intro z; cases z)) rs2 ((er.mono x1).mono x2) hc (w1.from x2)
end
end Iv

namespace Iv
open PySem PySem.Spec PyProof.Rows L2
section
variable {P : Program} {w : World} {K : PySem.W.Frag} {mg : Str → Option Value} {base : Heap} {g : Gs} {T : List Fn}
/-- fn_step where the def's code object is named -/
theorem fn_stepC {fa : Addr} {fd : FuncData} {N ps : List Str} {j k f : Nat} {x qual : Str} {st : Stmt} {dv0 : List V} {kws : List (Str × V)} {body : List Iv.St} {p : He.Defn} (hf : He.fAd K p = fa) (hT : T[f]? = some ⟨ps.length, N.length, body⟩)
    (F : FunD K x qual (defArgs st) (defBody st) (defScope st) dv0 kws fa fd) (S : FnScope N ps (defScope st))
    (hb : ∀ (A : Around) (outer : List PySem.Env) (s : Shared) (H : Hp) (E : XK), Room j (A.deeper (envOfC qual (defScope st) s.heap.objs.size fa (.ref (He.codeOf K p)))) →
      PSs (cxOf (L2.CX P w) P w K mg base N qual (defScope st) fa (.ref (He.codeOf K p)) A outer s H E) (defBody st) (tS g (fun c d _ H => E c d H) (exs (callN T k) body))) :
    FnOk P w K mg base (L2.CX P w) (j + 1) fa fd ps (spF g (callN T (k + 1)) f ps.length) := by
  obtain ⟨oc, od, dV, kV, doc, pm, an, cdv, ct, osl, rfl, lk, hcd, _, _⟩ := F.ex
  obtain ⟨c, rfl⟩ := He.codeIn_ref hcd
  have e : He.codeOf K p = c := He.codeOf_eq (by rw [hf]; exact lk) rfl
  subst e
  refine fn_of lk hcd S (fun _ _ _ _ h => h.1) fun A outer s H vs Q E hr ⟨hl, m, S0, ds, rs, r, wp⟩ => ⟨_, hb A outer s H E hr, ?_⟩
  unfold callN at wp
  rw [hT] at wp
  obtain ⟨_, wp⟩ := (show WP g E (Rel g) m S0.length H (ck (ds.length = ps.length) (run (callN T k) N.length body ds S0)) Q from wp).ck
  refine ⟨m, _, S0, rs, start_env (N := N) r, ?_⟩
  unfold run at wp
  cases hx : exs (callN T k) body (ds.map some ++ List.replicate (N.length - ds.length) none) S0 with
  | err => rw [hx] at wp; exact wp.elim
  | exc e S' => rw [hx] at wp; exact wp.elim
  | ok fl S' =>
    rw [hx] at wp
    cases fl with
    | raised e ρ => exact fun m' H' σ' c d x rs' er xr => wp m' H' c d x rs' xr
    | ret d => exact fun m' H' v x rs' rv => wp m' H' v x rs' rv
    | next ρ => exact fun m' H' σ' x rs' er => wp m' H' .non x rs' (by rw [rel_non])
    | brk ρ => exact wp.elim
    | cont ρ => exact wp.elim
/-- a list that the run holds is locked -/
theorem lock_list {CX : CXT} {k : Nat} {fa a : Addr} {fd : FuncData} {ps : List Str} {sp : Sp} {A : Around} {outer : List PySem.Env} {s : Shared} {H : Hp} {args : Args} {us : List Value} {vs : List V} {Q : VK} {E : XK} {xs : List V} (FO : FnOk P w K mg base CX k fa fd ps sp) (hr : Room k A) (e0 : Env0 P w K mg base A outer s H)
    (hb : BindsTo s fd args (ps.zip us)) (r : Vals vs us) (ha : H a = some (.lst xs)) (hX : ∀ H1 e s', ¬ CX outer H1 s E e s')
    (q : ∀ o, sp vs (upd H a (.frz o (.lst xs))) Q E) : codeAny (model P w) A (.call (.ref fa) args) (CR CX outer P w H s Q E) s := by
  obtain ⟨hl, its, n, rv, ho⟩ := e0.hok a _ ha
  have nb : ∀ b u, H b = some u → b ≠ a → upd H a (.frz { cls := .type "list", data := .seq its.toArray n } (.lst xs)) b = some u := fun b u e h => by rw [upd_ne h]; exact e
  have nn : ∀ b, H b = none → upd H a (.frz { cls := .type "list", data := .seq its.toArray n } (.lst xs)) b = none := fun b e => by rw [upd_ne (fun z => by rw [z, ha] at e; cases e)]; exact e
  have e1 : Env0 P w K mg base A outer s (upd H a (.frz { cls := .type "list", data := .seq its.toArray n } (.lst xs))) := by
    refine ⟨e0.frames, e0.mod, fun b o e => ⟨(e0.bs b o e).1, nn b (e0.bs b o e).2⟩, e0.bsz, e0.funs, fun b hb => nn b (e0.frf b hb), fun b u e => ?_, e0.bare⟩
    by_cases z : b = a
    · rw [z, upd_same] at e
      cases e
      rw [z]
      exact ⟨ho, hl, its, n, rv, ho⟩
    · rw [upd_ne z] at e
      refine (e0.hok b u e).stay (fun d v _ q => q) (fun d q => ?_) fun d zs q => ?_
      · rw [upd_ne (fun z => by rw [z, ha] at q; cases q)]
        exact q
      · rw [upd_ne (fun z => by rw [z, ha] at q; cases q)]
        exact q
  refine codeAny_mono (FO.run A outer s _ args us vs Q E hr e1 hb r (q _)) fun rr s' hq => ?_
  cases rr with
  | error e => exact absurd hq (hX _ _ _)
  | ok fl =>
    cases fl with
    | next => exact False.elim hq
    | brk => exact False.elim hq
    | cont => exact False.elim hq
    | ret u =>
      obtain ⟨v, H', os, bare, un, hok, rv', q⟩ := hq
      refine ⟨v, H', os, bare, ⟨fun b o e n => un.keep b o e (nn b n), fun b o e n => un.slot b o e (nn b n), fun b o e n => un.free b o e (nn b n), un.there, fun b zs e => un.tups b zs (nb b _ e fun z => by rw [z, ha] at e; cases e), fun b o u e => un.frzs b o u (nb b _ e fun z => by rw [z, ha] at e; cases e), fun b zs e => un.tbls b zs (nb b _ e fun z => by rw [z, ha] at e; cases e)⟩, hok, rv', q⟩
def spT (K : PySem.W.Frag) (ts : List Addr) : Sp := fun vs H Q E => ∃ (a : Addr) (ns : List Int), vs = [.ref a] ∧ SqL K H a (ns.map V.int) ∧ ns.length ≤ 63 ∧ (∀ p ∈ ts, H p = some (.tbl #[])) ∧ (∀ H', Q (.bl true) H') ∧ E = fun _ _ _ => False
theorem fn_endT {fa : Addr} {fd : FuncData} {x : Str} {j k f : Nat} (hK : g.K = K) (FO : FnOk P w K mg base (L2.CX P w) j fa fd [x] (spF g (callN T k) f 1)) (h : ∀ ns : List Int, ns.length ≤ 63 → ∃ S, callN T k f [.scr (ns.map .int)] [] = .ok (.bl true) S) :
    FnOk P w K mg base L2.CX0 j fa fd [x] (spT K (g.tabs.map (·.1))) := by
  have FO2 : FnOk P w K mg base L2.CX0 j fa fd [x] (fun vs H Q E => ∃ (a : Addr) (ns : List Int), vs = [.ref a] ∧ (SqL K H a (ns.map V.int) ∧ H a ≠ some (.lst (ns.map V.int))) ∧ ns.length ≤ 63 ∧ (∀ p ∈ g.tabs.map (·.1), H p = some (.tbl #[])) ∧ (∀ H', Q (.bl true) H') ∧ E = fun _ _ _ => False) := by
    refine ⟨fun vs H Q E ⟨a, ns, e, _⟩ => by rw [e]; rfl, fun A outer s H args us vs Q E hr e0 bt rv ⟨a, ns, e, ⟨sq, nl⟩, hl, ht, q, hE⟩ => ?_⟩
    subst e
    have tb : ∀ p ∈ g.tabs, H p.1 = some (.tbl #[]) := fun p hp => ht p.1 (List.mem_map.mpr ⟨p, hp, rfl⟩)
    refine codeAny_mono (FO.run A outer s H args us [.ref a] Q (fun _ _ _ => False) hr e0 bt rv ⟨rfl, ⟨fun _ => none, fun b => b ∈ g.tabs.map (·.1)⟩, [], [.scr (ns.map .int)], ?_, ?_, ?_⟩) fun r s' q' => ?_
    · refine ⟨fun i a e => (by cases e), fun i c e _ => (by unfold cellAt at e; cases e), fun i j a e => (by cases e), fun a z => ⟨⟨_, ht a z⟩, fun i e => by cases e⟩, fun i e => (by unfold cellAt at e; cases e), fun p hp => ⟨List.mem_map.mpr ⟨p, hp, rfl⟩, #[], tb p hp, True.intro, fun pos cv z => by simp [codeAmong] at z⟩⟩
    · refine Rels.cons ?_ Rels.nil
      rw [rel_scr]
      refine ⟨a, ns.map .int, rfl, ?_, rels_ints ns⟩
      rw [← hK] at sq
      rcases sq with (e | ⟨o, e⟩) | z
      · exact absurd e nl
      · exact .inl ⟨o, e, ⟨fun i z => (by cases z), fun z => by rw [ht a z] at e; cases e⟩⟩
      · exact .inr fun H' => .inr z
    · obtain ⟨S, hS⟩ := h ns hl
      rw [hS]
      intro m' H' b x rs' r
      rw [rel_bl] at r
      rw [r]
      exact q H'
    · cases r with
      | error e =>
        obtain ⟨_, _, _, _, _, _, _, _, _, _, _, _, z⟩ := q'
        exact z
      | ok fl =>
        cases fl with
        | ret u => exact q'
        | next => exact q'
        | brk => exact q'
        | cont => exact q'
  refine ⟨fun vs H Q E ⟨a, ns, e, _⟩ => by rw [e]; rfl, fun A outer s H args us vs Q E hr e0 bt rv ⟨a, ns, e, sq, hl, ht, q, hE⟩ => ?_⟩
  by_cases c : H a = some (.lst (ns.map V.int))
  · refine lock_list FO2 hr e0 bt rv c (fun _ _ _ z => z) fun o => ⟨a, ns, e, ⟨.inl (.inr ⟨o, upd_same⟩), by rw [upd_same]; intro z; cases z⟩, hl, fun p hp => ?_, q, hE⟩
    rw [upd_ne (fun z => by have := ht p hp; rw [z, c] at this; cases this)]
    exact ht p hp
  · exact FO2.run A outer s H args us vs Q E hr e0 bt rv ⟨a, ns, e, ⟨sq, c⟩, hl, ht, q, hE⟩
end
end Iv

/-! ### sorted of a tuple of ints -/
namespace Iv
open PySem PySem.Spec PyProof.Rows L2
section
variable {X : Cx} {g : Gs} {W : L2.WX} {F : CE} {box : Bool} {e : Expr} {ie : E} {p pos : Pos} {prog : Program} {w : World} {A : Around} {s : Shared}
theorem collect_tuple {E' : Value → Shared → Prop} {l : Addr} {vs : List Value} {Q : List Value → Shared → Prop} (hl : IsTup s.heap l vs.toArray) (hz : vs.length ≤ sizeLine)
    (h : Q vs { s with heap := (s.heap.push (seqObj "list" #[] 0)).update s.heap.objs.size (Obj.mapSeq (· ++ vs.toArray)) }) : wpAny (model prog w) A (collect (.ref l)) Q E' s := by
  obtain ⟨o, ho, hc, n, hd⟩ := id hl
  unfold collect
  refine wpAny_bind (wpAny_runValue (codeAny_builtin F.entry_proto_collect ?_))
  rw [Around.under_plainId F.plain_proto_collect _]
  show wpAny _ A.in1 (newList [] >>= fun l' => again (.builtin "list.__iadd__" ⟨[l', .ref l], []⟩)) _ _ s
  refine wpAny_bind (wpAny_newObj_type ?_)
  refine wpAny_pure ⟨plainId_quiet F.plain_list_iadd _, codeAny_builtin F.entry_list_iadd ?_⟩
  rw [Around.under_plainId F.plain_list_iadd _]
  show wpAny _ A.in1 (Builtin.List.listExtendWith (.ref s.heap.objs.size) (.ref l) (.ref s.heap.objs.size)) _ _ _
  have hS : (s.heap.push { cls := .type "list", data := .seq ([] : List Value).toArray }).get? s.heap.objs.size = some { cls := .type "list", data := .seq #[] 0 } := Heap.get?_push_size _ rfl
  obtain ⟨c2, hc2⟩ : ∃ c2, ((s.heap.push (seqObj "list" #[] 0)).update s.heap.objs.size (Obj.mapSeq (· ++ vs.toArray))).get? s.heap.objs.size = some (seqObj "list" (#[] ++ vs.toArray) c2) := ⟨_, get?_update_seq hS (· ++ vs.toArray)⟩
  refine wpAny_mono (wpAny_extend_seq (A := A) (R := fun rr s' => rr = .ok (.ret (.ref s.heap.objs.size)) ∧ s' = { s with heap := (s.heap.push (seqObj "list" #[] 0)).update s.heap.objs.size (Obj.mapSeq (· ++ vs.toArray)) })
    (s := { s with heap := s.heap.push { cls := .type "list", data := .seq ([] : List Value).toArray } }) s.heap.objs.size l _ 0 (.inr rfl) hS (Heap.get?_push_of_some _ ho) hc hd ⟨rfl, rfl⟩ (by rw [List.size_toArray]; exact hz)) (fun fin s' h' => ?_) (fun e s' h' => absurd h'.1 (by simp))
  cases fin with
  | done f =>
    obtain ⟨e1, e2⟩ := h'
    cases e1
    subst e2
    show wpAny _ A (load s.heap.objs.size >>= _) _ _ _
    refine wpAny_bind (wpAny_load hc2 (wpAny_pure ?_))
    simpa using h
  | again c' =>
    refine ⟨h'.1, codeAny_mono h'.2 fun rr s'' hr' => ?_⟩
    obtain ⟨e1, e2⟩ := hr'
    subst e1 e2
    show wpAny _ A (load s.heap.objs.size >>= _) _ _ _
    refine wpAny_bind (wpAny_load hc2 (wpAny_pure ?_))
    simpa using h
def rSrtT (K : PySem.W.Frag) : List V → Hp → VK → Prop := fun zs H Q => ∃ (a : Addr) (ns : List Int), zs = [.ref a] ∧ SqT K H a (ns.map V.int) ∧ ns.length < 64 ∧ ∀ p, H p = none → Q (.ref p) (upd H p (.lst ((srtI ns).map V.int)))
theorem cr_srtT : CallR X (.builtin "sorted") (rSrtT X.K) := by
  intro pins s σ H zs us Q I r h
  obtain ⟨a, ns, rfl, hs, hl, q⟩ := h
  obtain ⟨its, rv, hpl, hz⟩ := I.tuple hs
  rw [Vals.ref1 r]
  have hI : IntsAre its ns := rv.ints
  have hz' : its.length ≤ sizeLine := by rw [← rv.length]; exact hz
  have hl' : its.length < 64 := by have := rv.length; rw [List.length_map] at this; omega
  refine Calls.call_function_entry kind_sorted plain_sorted entry_sorted (args_sorted1 _) ?_
  unfold Builtin.«sorted»
  refine wpAny_bind (m := checkCount "sorted" 1 1 _) (wpAny_pure ?_)
  refine wpAny_bind (collect_tuple hpl hz' ?_)
  refine wpAny_bind (wpAny_newList ?_ hz')
  have hsz : ((s.heap.push (seqObj "list" #[] 0)).update s.heap.objs.size (Obj.mapSeq (· ++ its.toArray))).objs.size = s.heap.objs.size + 1 := by
    rw [Heap.size_update, Heap.size_push]
  show wpAny _ _ _ _ _ { s with heap := PySem.W.copyHeap s.heap its }
  rw [hsz]
  refine wpAny_bind (wpAny_holding (wpAny_call_entry slot_list_sort ⟨_, PySem.W.copyHeap_at s.heap its, rfl⟩ entry_list_sort (list_sort_tree (s := { s with heap := PySem.W.copyHeap s.heap its }) (PySem.W.copyHeap_at s.heap its) hI hl' fun out ns' hO hp hP => ⟨.none, rfl, wpAny_pure ⟨_, rfl, ?_⟩⟩) (args_list_sort _)))
  obtain ⟨c, hc⟩ := sortedHeap_at (vs := its) (out := out) (PySem.W.copyHeap_at s.heap its)
  have keep : ∀ b o, s.heap.get? b = some o → (sortedHeap (PySem.W.copyHeap s.heap its) (s.heap.objs.size + 1) its out).get? b = some o := fun b o eb => by
    have e1 := PySem.W.copyHeap_old (vs := its) eb
    exact (sortedHeap_old (Nat.ne_of_lt (Nat.lt_succ_of_lt (Heap.lt_size eb))) (Heap.lt_size e1)).trans e1
  refine ⟨.ref _, upd H (s.heap.objs.size + 1) (.lst ((srtI ns).map V.int)), I.laid (t' := s.toks) keep (Nat.le_succ _) ⟨?_, out.toList, c, ?_, ?_⟩, rfl, q _ (I.hok.fresh (Nat.le_succ _))⟩
  · rw [List.length_map, ← srtI_eq hp hP, hp.length_eq]
    have : (64 : Nat) ≤ sizeLine := by rw [sizeLine_eq]; omega
    omega
  · rw [← srtI_eq hp hP]
    exact vals_of_ints hO
  · exact hc
theorem i_sortT (hg : Gl X "sorted") (hm : X.mg "sorted" = none) (oke : okE e = true) (he : PE X e (tE g W (ev F ie))) (hK : X.K = g.K := by rfl) : PE X (.Call (.Name "sorted" p) [e] [] pos) (tE g W (ev F (.bi (.sortedT box) [ie]))) := by
  refine PE.imp (pe_callB cr_srtT hg hm (by decide +kernel) (a_cons oke he a_nil : PA X [e] (tEs g W (evs F [ie]))) (by decide) (by decide) (starEach_ok oke) (by rfl)) fun σ H Q ⟨m, ρ, S, rs, er, w⟩ => ?_
  rw [ev] at w
  refine TI.step (Ra := Rels g) rs er w fun zs H1 m1 S1 ds x1 rs1 er1 r1 w => ?_
  replace w : WP g _ (Rel g) m1 S1.length H1 (biSortedT box S1 ds) Q := w
  unfold biSortedT at w
  split at w
  · rename_i xs
    obtain ⟨v, rfl, rv⟩ := r1.one
    split at w
    · rename_i ns hn
      obtain ⟨hl, w⟩ := w.ck
      obtain ⟨a, vs, rfl, r2, q⟩ := seqOf_rel rs1 rv rfl
      rcases q with ⟨_, q⟩ | ⟨q, _⟩
      · exact absurd rfl (q xs)
      · have hv := ints_rel r2 hn
        subst hv
        exact ⟨a, ns, rfl, by rw [hK]; exact q.sq, hl, fun p hp => mkL_ok rs1 (rels_ints _) w hp⟩
    · exact w.err
  · exact w.err
end
end Iv

/-! ### *a, b = xs; xs.pop() -/
namespace Iv
open PySem PySem.Spec PyProof.Rows L2
section
variable {prog : Program} {w : World} {A : Around} {E : Value → Shared → Prop} {s : Shared}
theorem star_itemsF {l : Addr} {items : Array Value} {Q : List Value → Shared → Prop} (hl : s.heap.IsList l items) (hh : A.handled = none) (hn : 1 ≤ items.size) (hz : items.size ≤ 16384)
    (h : ∀ (h' : Heap) (tk : Nat), (∀ b o, s.heap.get? b = some o → h'.get? b = some o) → Q (.ref h'.objs.size :: items.toList.drop (items.size - 1)) { s with heap := h'.push { cls := .type "list", data := .seq (items.toList.take (items.size - 1)).toArray }, toks := tk }) : wpAny (model prog w) A (unpackItems (.ref l) 2 (some 0)) Q E s := by
  have hlt : l ≠ s.heap.objs.size := by obtain ⟨o, ho, _⟩ := hl; exact Nat.ne_of_lt (Heap.lt_size ho)
  unfold unpackItems
  refine wpAny_bind ?_
  unfold notIterableAtAll
  refine wpAny_bind (wpAny_specialOf hl.typeIs slot_list_iter.lookup ?_)
  refine wpAny_pure ?_
  simp only [Bool.false_eq_true, if_false]
  refine wpAny_bind (wpAny_holding (wpAny_pyIter_list hl ?_))
  refine wpAny_bind (wpAny_holding (PySem.W.kun_draw hlt 0 0 _ _ ⟨_, Heap.get?_push_size _ rfl, rfl, rfl⟩ (hl.push _) (by omega) fun h₁ hit₁ hs₁ => ?_))
  have hl₁ : h₁.IsList l items := (hl.push _).extBut hs₁.extBut hlt
  rw [Nat.zero_add] at hit₁
  obtain ⟨oi, hoi, _⟩ := id hit₁
  obtain ⟨ol, hol, _⟩ := id hl₁
  rw [List.drop_zero]
  rw [if_neg (show ¬ ((items.toList.take 0).length < 0) by omega)]
  refine wpAny_bind (wpAny_holding (PySem.W.kun_collect (s := { s with heap := h₁ }) (T := "list_iterator") (.inr (.inr (.inl rfl))) (Walks.list (A := A.in1) hh s.heap.objs.size l hlt items) (fun j u st => st.1.typeIs) (k := 0) (by omega) ⟨hit₁, hl₁⟩ (Heap.lt_size hoi) (Heap.lt_size hol) (fun h₂ tk hk => ?_) (by rw [sizeLine_eq]; omega)))
  have hrl : (items.toList.drop 0).length = items.size := by rw [List.drop_zero, Array.length_toList]
  show wpAny _ _ (if (items.toList.drop 0).length < 2 - 1 - 0 then _ else _) _ _ _
  rw [if_neg (by omega)]
  show wpAny _ _ (newList ((items.toList.drop 0).take ((items.toList.drop 0).length - (2 - 1 - 0))) >>= fun d => pure (items.toList.take 0 ++ [d] ++ (items.toList.drop 0).drop ((items.toList.drop 0).length - (2 - 1 - 0)))) _ _ _
  rw [hrl, show items.size - (2 - 1 - 0) = items.size - 1 from rfl, List.drop_zero, List.take_zero]
  have he : ∀ b o, s.heap.get? b = some o → h₂.get? b = some o := fun b o e => hk b o (Nat.ne_of_lt (Heap.lt_size e)) (hs₁.extBut b o (Nat.ne_of_lt (Heap.lt_size e)) (Heap.get?_push_of_some _ e))
  refine wpAny_bind (wpAny_newObj_type ?_ (by show (items.toList.take (items.size - 1)).toArray.size ≤ _; rw [List.size_toArray, List.length_take, sizeLine_eq]; omega))
  refine wpAny_pure ?_
  exact h h₂ tk he
end
section
variable {X : Cx} {g : Gs} {W : L2.WX} {F : CE} {m : Mp} {S : Sto} {H : Hp} {pos : Pos}
def gStarF (K : PySem.W.Frag) (t : TGs) : TG := fun v σ H Q => ∃ a xs, v = .ref a ∧ SqL K H a xs ∧ 1 ≤ xs.length ∧ xs.length ≤ 16384 ∧ ∀ p, H p = none → t (.ref p :: xs.drop (xs.length - 1)) σ (upd H p (.lst (xs.take (xs.length - 1)))) Q
theorem pg_starF {st e2 : Expr} {sp : Pos} {k : Nat} {t : TGs} (hc : X.calm = true) (h : PGs X [.Starred st sp, e2] t) (ok : noStar e2 = true) : PG X (.Tuple [.Starred st sp, e2] k pos) (gStarF X.K t) := by
  refine ⟨fun pins s σ H v u Q I r hw => ?_⟩
  obtain ⟨a, xs, e1, hq, hl, hz, hw⟩ := hw
  subst e1
  cases r
  have ea : assignEach [e2] X.env = [(false, assign e2 X.env)] := assignEach_ok ok
  have eb : assignEach [.Starred st sp, e2] X.env = (true, assign st X.env) :: assignEach [e2] X.env := rfl
  have n1 : (assignEach [.Starred st sp, e2] X.env).length = 2 := by rw [eb, ea]; rfl
  have n2 : (assignEach [.Starred st sp, e2] X.env).findIdx? (·.1) = some 0 := by rw [eb]; rfl
  rw [PyProof.Rows.assign_Tuple]
  refine wpAny_bind (wpAny_standAt ?_)
  unfold unpack
  rw [n1, n2]
  obtain ⟨its, rv, hpl, _⟩ := I.list hq
  have ln := rv.length
  refine wpAny_bind (wpAny_holding (star_itemsF hpl.isList (I.ok.hd hc) (by rw [List.size_toArray, ← ln]; exact hl) (by rw [List.size_toArray, ← ln]; exact hz) fun h' tk hk => ?_))
  have es : its.toArray.size = xs.length := by rw [List.size_toArray, ← ln]
  rw [es]
  have I1 : Inv X pins σ H { s with heap := h', toks := tk } := I.kept hk
  have I2 := I1.lnew (its := its.take (xs.length - 1)) (t' := tk) (rv.take _) (by rw [List.length_take, sizeLine_eq]; omega)
  exact h.run pins _ σ _ (.ref h'.objs.size :: xs.drop (xs.length - 1)) _ Q I2 (.cons (show RelV (V.ref h'.objs.size) (Value.ref h'.objs.size) from rfl) (rv.drop _)) (hw _ (I1.fresh))
theorem g_tupf {vs : List Nat} {st e2 : Expr} {sp : Pos} {ts : List Tg} {k : Nat} {box : Bool} (h : PGs X [.Starred st sp, e2] (TGvs g vs ts.length (asgs F ts))) (ok : noStar e2 = true := by rfl) (hK : X.K = g.K := by rfl) (hc : X.calm = true := by rfl) : PG X (.Tuple [.Starred st sp, e2] k pos) (TGv g vs (asg F (.tupf box ts))) := by
  refine PG.imp (pg_starF hc h ok) fun v σ H Q ⟨m, ρ, S, d, rs, er, r, w⟩ => ?_
  rw [asg] at w
  split at w
  · rename_i xs hx
    obtain ⟨⟨c0, c1, c2⟩, w⟩ := w.ck
    obtain ⟨a, vs', rfl, rr, q⟩ := lst_sq rs r hx
    have lr := rr.length
    refine ⟨a, vs', rfl, by rw [hK]; exact q, by omega, by omega, fun p hp => ?_⟩
    rw [← lr]
    cases box with
    | false =>
      have rs2 := rs.laid (o := .lst (vs'.take (xs.length - 1))) hp
      have x2 : Ext m S.length H m S.length (upd H p (.lst (vs'.take (xs.length - 1)))) := Ext.laid rs hp
      refine ⟨m, ρ, S, .lst (xs.take (xs.length - 1)) :: xs.drop (xs.length - 1), rs2, er.mono x2, Rels.cons ?_ (Rels.mono x2 _ _ (rr.drop _)), ?_, w.from x2⟩
      · rw [rel_lst]
        exact ⟨p, _, rfl, ⟨upd_same, Off.free rs hp⟩, Rels.mono x2 _ _ (rr.take _)⟩
      · rw [List.length_cons, List.length_drop]
        omega
    | true =>
      have x := Ext.new (o := HO.lst (vs'.take (xs.length - 1))) rs hp
      have l : (S ++ [some (Cell.lst (xs.take (xs.length - 1)))]).length = S.length + 1 := by rw [List.length_append, List.length_singleton]
      refine ⟨mNew m S.length p, ρ, S ++ [some (Cell.lst (xs.take (xs.length - 1)))], .ref S.length :: xs.drop (xs.length - 1), rs.new hp ⟨_, upd_same, Rels.mono x _ _ (rr.take _)⟩, ?_, ?_, ?_, ?_⟩
      · rw [l]
        exact er.mono x
      · rw [l]
        refine Rels.cons ?_ (Rels.mono x _ _ (rr.drop _))
        rw [rel_ref]
        exact ⟨by omega, p, rfl, fun b hb => by
          have : mNew m S.length p S.length = some p := mNew_same
          rw [this] at hb
          exact (Option.some.inj hb).symm⟩
      · rw [List.length_cons, List.length_drop]
        omega
      · rw [l]
        exact WP.from x (by
          have w' : WP g noW (EnvK g vs σ) m S.length H (asgs F ts (.ref S.length :: xs.drop (xs.length - 1)) ρ (S ++ [some (Cell.lst (xs.take (xs.length - 1)))])) Q := w
          exact w')
  · exact w.err
theorem pgs_starC {t : Expr} {es : List Expr} {tg : TG} {tr : TGs} {sp : Pos} (h1 : PG X t tg) (h2 : PGs X es tr) : PGs X (.Starred t sp :: es) (gCons tg tr) := by
  refine ⟨fun pins s σ H vs us Q I r h => ?_⟩
  obtain ⟨v, vr, e1, h⟩ := h
  subst e1
  cases r with
  | cons r rr =>
    show wpAny _ _ (assignInOrder (assign t X.env :: (assignEach es X.env).map (·.2)) _) _ _ s
    refine assignInOrder_cons (thn (h1.run pins s σ H _ _ _ I r h) fun _ s1 ⟨σ1, H1, I1, q1⟩ => ?_)
    exact h2.run pins s1 σ1 H1 _ _ Q I1 rr q1
theorem gs_starC {vs : List Nat} {e : Expr} {es : List Expr} {t : Tg} {ts : List Tg} {sp : Pos} (h1 : PG X e (TGv g vs (asg F t))) (h2 : PGs X es (TGvs g vs ts.length (asgs F ts))) : PGs X (.Starred e sp :: es) (TGvs g vs (t :: ts).length (asgs F (t :: ts))) := by
  refine PGs.imp (pgs_starC h1 h2) fun us σ H Q ⟨m, ρ, S, ds, rs, er, r, l, w⟩ => ?_
  cases ds with
  | nil => cases l
  | cons d ds =>
    unfold Rels at r
    obtain ⟨v, vr, rfl, r1, r2⟩ := r
    rw [asgs] at w
    refine ⟨v, vr, rfl, m, ρ, S, d, rs, er, r1, (WP.bind (Ra := EnvK g vs σ) w).imp fun σ1 H1 ⟨m1, S1, ρ1, x1, rs1, ⟨er1, k1⟩, w1⟩ => ?_⟩
    exact ⟨m1, ρ1, S1, ds, rs1, er1, Rels.mono x1 _ _ r2, Nat.succ.inj l, w1.ra fun _ _ _ _ _ z => ⟨z.1, k1.trans z.2⟩⟩
end
end Iv
/-! ### xs == [], xs != [] -/
namespace Iv
open PySem PySem.Spec PyProof.Rows L2
section
variable {X : Cx} {g : Gs} {W : L2.WX} {F : CE} {a : Expr} {ia : E} {p2 pos : Pos} {k j : Nat}
def rNil (K : PySem.W.Frag) (neg : Bool) : R2 := fun x y H Q => ∃ (a b : Addr) (xs : List V), x = .ref a ∧ y = .ref b ∧ SqL K H a xs ∧ H b = some (.lst []) ∧ Q (.bl (if neg = true then !xs.isEmpty else xs.isEmpty)) H
theorem op_eqNil (hr : Room k X.A) : OpR X (compareOp .Eq) (rNil X.K false) := by
  intro pins s σ H x y v u Q I rx ry h
  obtain ⟨a, b, xs, rfl, rfl, sq, hb, q⟩ := h
  cases rx
  cases ry
  obtain ⟨its, rv, hp, _⟩ := I.list sq
  obtain ⟨its2, rv2, hp2, _⟩ := I.list (SqL.of hb)
  have e2 : its2 = [] := by have := rv2.length; exact List.eq_nil_of_length_eq_zero this.symm
  subst e2
  have ln := rv.length
  have hu : X.A.units < cLine := hr.units0
  refine (show wpAny (model X.prog X.w) X.A (richCompare .Eq (.ref a) (.ref b)) (EP X pins σ Q) X.xe s from ?_)
  cases xs with
  | nil =>
    have e1 : its = [] := List.eq_nil_of_length_eq_zero ln.symm
    subst e1
    exact PySem.SeqAt.RcAt.lists (e := fun _ => true) hp.isList hp2.isList rfl hu (fun j h _ => absurd h (by simp)) X.prog X.w _ _ ⟨.bl true, H, I, rfl, q⟩
  | cons x xs => exact PySem.SeqAt.RcAt.lists_lengths hp.isList hp2.isList (by rw [List.size_toArray, List.size_toArray, ← ln]; rfl) hu X.prog X.w _ _ ⟨.bl false, H, I, rfl, q⟩
theorem op_neNil (hr : Room k X.A) : OpR X (compareOp .NotEq) (rNil X.K true) := by
  intro pins s σ H x y v u Q I rx ry h
  obtain ⟨a, b, xs, rfl, rfl, sq, hb, q⟩ := h
  cases rx
  cases ry
  obtain ⟨its, rv, hp, _⟩ := I.list sq
  obtain ⟨its2, rv2, hp2, _⟩ := I.list (SqL.of hb)
  have e2 : its2 = [] := by have := rv2.length; exact List.eq_nil_of_length_eq_zero this.symm
  subst e2
  have ln := rv.length
  have hu : X.A.units < cLine := hr.units0
  refine (show wpAny (model X.prog X.w) X.A (richCompare .NotEq (.ref a) (.ref b)) (EP X pins σ Q) X.xe s from ?_)
  cases xs with
  | nil =>
    have e1 : its = [] := List.eq_nil_of_length_eq_zero ln.symm
    subst e1
    exact PySem.SeqAt.RcNeAt.lists (e := fun _ => true) hp.isList hp2.isList rfl hu (fun j h _ => absurd h (by simp)) X.prog X.w _ _ ⟨.bl false, H, I, rfl, q⟩
  | cons x xs => exact PySem.SeqAt.RcNeAt.lists_lengths hp.isList hp2.isList (by rw [List.size_toArray, List.size_toArray, ← ln]; rfl) hu X.prog X.w _ _ ⟨.bl true, H, I, rfl, q⟩
theorem t_isnil_ {op : CmpOp} {neg : Bool} (hK : X.K = g.K) (ho : OpR X (compareOp op) (rNil X.K neg)) (hm : behindInMarks op (.List [] p2) = false) (ha : PE X a (tE g W (ev F ia))) : PT X (.Compare a [op] [.List [] p2] pos) (tT g W fun ρ S => (ev F (.isnil neg ia) ρ S).bind fun z S => tru z S) := by
  refine PT.imp (pt_cmpR ho ha (pe_lst pa_nil) hm) fun σ H Q ⟨m, ρ, S, rs, er, w⟩ => ?_
  dsimp only at w
  rw [ev, R.bind_bind] at w
  unfold tTest
  refine TI.step rs er w fun x H1 m1 S1 d x1 rs1 er1 r1 w => ?_
  refine ⟨Nat.zero_le _, fun p hp => ?_⟩
  have rs2 := rs1.laid (o := .lst []) hp
  have x2 : Ext m1 S1.length H1 m1 S1.length (upd H1 p (.lst [])) := Ext.laid rs1 hp
  split at w
  · rename_i xs hx
    obtain ⟨c, vs, rfl, rx, sq⟩ := lst_sq rs2 (Rel.mono x2 _ _ r1) hx
    have e : vs.isEmpty = xs.isEmpty := by
      have := rx.length
      cases xs <;> cases vs <;> first | rfl | simp at this
    refine ⟨c, p, vs, rfl, rfl, by rw [hK]; exact sq, upd_same, _, rfl, ?_⟩
    rw [e]
    exact (w.from x2).now rs2 rfl
  · exact w.err
theorem t_isnil (hr : Room k X.A) (ha : PE X a (tE g W (ev F ia))) (hK : X.K = g.K := by rfl) : PT X (.Compare a [.Eq] [.List [] p2] pos) (tT g W fun ρ S => (ev F (.isnil false ia) ρ S).bind fun z S => tru z S) := t_isnil_ hK (op_eqNil hr) rfl ha
theorem t_isnilN (hr : Room k X.A) (ha : PE X a (tE g W (ev F ia))) (hK : X.K = g.K := by rfl) : PT X (.Compare a [.NotEq] [.List [] p2] pos) (tT g W fun ρ S => (ev F (.isnil true ia) ρ S).bind fun z S => tru z S) := t_isnil_ hK (op_neNil hr) rfl ha
end
end Iv

/-! ### plain laws: tools -/
namespace Iv
open PySem
-- setAt_len stands in N8
theorem cellAt_set1 {S : Sto} {n : Nat} {c : Cell} (h : n < S.length) : cellAt (setAt S n c) n = some c := by
  unfold cellAt setAt
  rw [List.getElem?_set_self h]
  rfl
theorem cellAt_set_ne1 {S : Sto} {n i : Nat} {c : Cell} (h : i ≠ n) : cellAt (setAt S n c) i = cellAt S i := by
  unfold cellAt setAt
  rw [List.getElem?_set_ne (Ne.symm h)]
theorem cellAt_del_ne1 {S : Sto} {n i : Nat} (h : i ≠ n) : cellAt (S.set n none) i = cellAt S i := by
  unfold cellAt
  rw [List.getElem?_set_ne (Ne.symm h)]
theorem callN_at {T : List Fn} {k f : Nat} {d : Fn} {ds : List D} {S : Sto} (h : T[f]? = some d) (hl : ds.length = d.np) : callN T (k + 1) f ds S = run (callN T k) d.n d.body ds S := by
  unfold callN
  rw [h]
  exact ck_of hl
/-- all boxes but bs stay -/
structure Keep (bs : List Nat) (S S' : Sto) : Prop where
  le : S.length ≤ S'.length
  eq : ∀ i, i < S.length → i ∉ bs → cellAt S' i = cellAt S i
theorem Keep.refl {bs : List Nat} {S : Sto} : Keep bs S S := ⟨Nat.le_refl _, fun _ _ _ => rfl⟩
theorem Keep.trans {bs : List Nat} {S S1 S2 : Sto} (h : Keep bs S S1) (k : Keep bs S1 S2) : Keep bs S S2 := ⟨Nat.le_trans h.le k.le, fun i l n => (k.eq i (Nat.lt_of_lt_of_le l h.le) n).trans (h.eq i l n)⟩
theorem Keep.mono {bs cs : List Nat} {S S' : Sto} (h : Keep bs S S') (k : ∀ b ∈ bs, b ∈ cs) : Keep cs S S' := ⟨h.le, fun i l n => h.eq i l fun z => n (k i z)⟩
theorem Keep.set {b : Nat} {S : Sto} {c : Cell} : Keep [b] S (setAt S b c) := ⟨Nat.le_of_eq setAt_len.symm, fun i _ n => cellAt_set_ne1 fun z => n (by rw [z]; exact List.mem_singleton.mpr rfl)⟩
theorem Keep.push {bs : List Nat} {S : Sto} {c : Option Cell} : Keep bs S (S ++ [c]) := ⟨by rw [List.length_append]; exact Nat.le_add_right _ _, fun i l _ => cellAt_push_lt l⟩
theorem Keep.del {bs : List Nat} {S S' : Sto} {n : Nat} (h : Keep bs S S') (l : S.length ≤ n) : Keep bs S (S'.set n none) := ⟨by rw [List.length_set]; exact h.le, fun i il ni => (cellAt_del_ne1 (by omega)).trans (h.eq i il ni)⟩
theorem Keep.own {bs : List Nat} {S S' : Sto} {n : Nat} {c : Cell} (h : Keep bs S S') (l : S.length ≤ n) : Keep bs S (setAt S' n c) := ⟨by rw [setAt_len]; exact h.le, fun i il ni => (cellAt_set_ne1 (by omega)).trans (h.eq i il ni)⟩
theorem forLoop_inv {step : D → Env → Sto → R Fl} {src : Src} {items : List D} {ρ : Env} {S : Sto} (Inv : Nat → Env → Sto → Prop) (h0 : Inv 0 ρ S) (ht : ∀ i ρ S, Inv i ρ S → src.there S)
    (hs : ∀ i d ρ S, items[i]? = some d → Inv i ρ S → ∃ ρ' S', (step d ρ S = .ok (.next ρ') S' ∨ step d ρ S = .ok (.cont ρ') S') ∧ Inv (i + 1) ρ' S') :
    ∃ ρ' S', forLoop src step items ρ S = .ok (.next ρ') S' ∧ Inv items.length ρ' S' := by
  have go : ∀ (n i : Nat) (ρ : Env) (S : Sto), items.length - i = n → i ≤ items.length → Inv i ρ S → ∃ ρ' S', forLoop src step (items.drop i) ρ S = .ok (.next ρ') S' ∧ Inv items.length ρ' S' := by
    intro n
    induction n with
    | zero =>
      intro i ρ S hn hi hI
      have e : i = items.length := by omega
      subst e
      rw [List.drop_length, forLoop, ck_of (ht _ _ _ hI)]
      exact ⟨ρ, S, rfl, hI⟩
    | succ n ih =>
      intro i ρ S hn hi hI
      have hlt : i < items.length := by omega
      rw [List.drop_eq_getElem_cons hlt, forLoop, ck_of (ht _ _ _ hI)]
      obtain ⟨ρ', S', h, hI'⟩ := hs i _ ρ S (List.getElem?_eq_getElem hlt) hI
      rcases h with h | h
      · rw [h, R.turn_next]
        exact ih (i + 1) ρ' S' (by omega) hlt hI'
      · rw [h, R.turn_cont]
        exact ih (i + 1) ρ' S' (by omega) hlt hI'
  exact go _ 0 ρ S rfl (Nat.zero_le _) h0
theorem lcLoop_inv {step : D → Sto → R (List D)} {src : Src} {items : List D} {S : Sto} (Inv : Nat → List D → Sto → Prop) (h0 : Inv 0 [] S) (ht : ∀ i ys S, Inv i ys S → src.there S)
    (hs : ∀ i d ys S, items[i]? = some d → Inv i ys S → ∃ zs S', step d S = .ok zs S' ∧ Inv (i + 1) (ys ++ zs) S') :
    ∃ ys S', lcLoop src step items S = .ok ys S' ∧ Inv items.length ys S' := by
  have go : ∀ (n i : Nat) (acc : List D) (S : Sto), items.length - i = n → i ≤ items.length → Inv i acc S → ∃ ys S', lcLoop src step (items.drop i) S = .ok ys S' ∧ Inv items.length (acc ++ ys) S' := by
    intro n
    induction n with
    | zero =>
      intro i acc S hn hi hI
      have e : i = items.length := by omega
      subst e
      rw [List.drop_length, lcLoop, ck_of (ht _ _ _ hI)]
      exact ⟨[], S, rfl, by rw [List.append_nil]; exact hI⟩
    | succ n ih =>
      intro i acc S hn hi hI
      have hlt : i < items.length := by omega
      rw [List.drop_eq_getElem_cons hlt, lcLoop, ck_of (ht _ _ _ hI)]
      obtain ⟨zs, S', h, hI'⟩ := hs i _ acc S (List.getElem?_eq_getElem hlt) hI
      obtain ⟨ys, S2, h2, hI2⟩ := ih (i + 1) (acc ++ zs) S' (by omega) hlt hI'
      rw [h]
      dsimp only
      rw [h2]
      exact ⟨zs ++ ys, S2, rfl, by rw [← List.append_assoc]; exact hI2⟩
  obtain ⟨ys, S', h, hI⟩ := go _ 0 [] S rfl (Nat.zero_le _) h0
  exact ⟨ys, S', h, by rw [List.nil_append] at hI; exact hI⟩
end Iv
namespace Iv
open PySem
section
variable {F : CE} {st : St} {sts : List St} {ρ ρ' : Env} {S S' : Sto} {d : D} {r : R Fl}
theorem exs_next (h : ex F st ρ S = .ok (.next ρ') S') : exs F (st :: sts) ρ S = exs F sts ρ' S' := by
  rw [exs, h]
  rfl
theorem exs_ret (h : ex F st ρ S = .ok (.ret d) S') : exs F (st :: sts) ρ S = .ok (.ret d) S' := by
  rw [exs, h]
  rfl
theorem run_ret {n : Nat} {body : List St} {ds : List D} (h : exs F body (ds.map some ++ List.replicate (n - ds.length) none) S = .ok (.ret d) S') : Iv.run F n body ds S = .ok d S' := by
  unfold Iv.run
  rw [h]
end
end Iv
namespace Iv
open PySem
theorem lcLoop_enc {α : Type} {step : D → Sto → R (List D)} {enc : α → D} {f : α → List D} {S : Sto} : ∀ {items : List α}, (∀ a ∈ items, step (enc a) S = .ok (f a) S) → lcLoop .fix step (items.map enc) S = .ok (items.flatMap f) S
  | [], _ => by
    rw [List.map_nil, lcLoop]
    exact ck_of (show Src.fix.there S from trivial)
  | d :: ds, h => by
    rw [List.map_cons, lcLoop, ck_of (show Src.fix.there S from trivial), h d (List.mem_cons_self ..)]
    dsimp only
    rw [lcLoop_enc fun e he => h e (List.mem_cons_of_mem _ he)]
    rfl
theorem ev_lc {F : CE} {box : Bool} {own : List Nat} {tg : Tg} {it : It} {ifs : List E} {elt : E} {ρ : Env} {S S1 S2 : Sto} {src : Src} {items ys : List D} (hi : evIt F it ρ S = .ok (src, items) S1) (hl : lcLoop src (lcStep F own tg ifs elt ρ) items S1 = .ok ys S2) (c : ys.length ≤ sizeLine) :
    ev F (.lc box own tg it ifs elt) ρ S = mkL box ys S2 := by
  rw [ev, hi]
  simp only [R.bind_ok]
  have hl' : lcLoop src (fun d S => (asg F tg d (wipeE ρ own) S).bind fun ρ1 S => (evIfs F ifs ρ1 S).bind fun k S => if k = true then (ev F elt ρ1 S).bind fun y S => .ok [y] S else .ok [] S) items S1 = .ok ys S2 := hl
  rw [hl']
  exact ck_of c
theorem ev_bi1 {F : CE} {b : Bi} {e : E} {ρ : Env} {S S1 : Sto} {x : D} (h : ev F e ρ S = .ok x S1) : ev F (.bi b [e]) ρ S = biR b [x] S1 := by
  rw [ev, evs1, h]
  rfl
theorem ev_bi2 {F : CE} {b : Bi} {e e' : E} {ρ : Env} {S S1 S2 : Sto} {x y : D} (h : ev F e ρ S = .ok x S1) (h' : ev F e' ρ S1 = .ok y S2) : ev F (.bi b [e, e']) ρ S = biR b [x, y] S2 := by
  rw [ev, evs2, h]
  simp only [R.bind_ok]
  rw [h']
  rfl
theorem ex_ret {F : CE} {e : E} {ρ : Env} {S S1 : Sto} {x : D} (h : ev F e ρ S = .ok x S1) : ex F (.ret e) ρ S = .ok (.ret x) S1 := by
  rw [ex, h]
  rfl
theorem ex_asg {F : CE} {i : Nat} {e : E} {ρ : Env} {S S1 : Sto} {x : D} (h : ev F e ρ S = .ok x S1) : ex F (.asg (.var i) e) ρ S = .ok (.next (ρ.set i (some x))) S1 := by
  rw [ex, h, R.go_ok, asg]
  rfl
theorem ev_var {F : CE} {i : Nat} {ρ : Env} {S : Sto} {d : D} (h : ρ[i]? = some (some d)) : ev F (.var i) ρ S = .ok d S := by
  rw [ev, h]
theorem ev_call1 {F : CE} {f : Nat} {arr : List Ar} {es : List E} {ρ : Env} {S S1 : Sto} {ds ps : List D} (h : evs F es ρ S = .ok ds S1) (hp : pick ds arr = some ps) : ev F (.call f arr es) ρ S = F f ps S1 := by
  rw [ev, h]
  simp only [R.bind_ok]
  unfold callR
  rw [hp]
theorem flat_if {α : Type} (p : α → Bool) (f : α → D) : ∀ l : List α, (l.flatMap fun a => if p a = true then [f a] else []) = (l.filter p).map f
  | [] => rfl
  | a :: l => by
    rw [List.flatMap_cons, flat_if p f l, List.filter_cons]
    cases p a <;> rfl
theorem flat_one {α β : Type} (f : α → β) : ∀ l : List α, (l.flatMap fun x => [f x]) = l.map f
  | [] => rfl
  | a :: l => by
    rw [List.flatMap_cons, flat_one f l]
    rfl
theorem blsD_map {α : Type} (f : α → Bool) : ∀ l : List α, blsD (l.map fun x => D.bl (f x)) = some (l.map f)
  | [] => rfl
  | i :: l => by
    rw [List.map_cons, blsD, blsD_map f l]
    rfl
theorem intsD_map {α : Type} (f : α → Int) : ∀ l : List α, intsD (l.map fun x => D.int (f x)) = some (l.map f)
  | [] => rfl
  | i :: l => by
    rw [List.map_cons, intsD, intsD_map f l]
    rfl
theorem eqv_int {a b : Int} : D.eqv (.int a) (.int b) = (a == b) := by simp [D.eqv]
theorem fzs_int : ∀ l : List Int, D.fzs (l.map .int) = true
  | [] => by simp [D.fzs]
  | i :: l => by simp [D.fzs, D.fz, fzs_int l]
theorem dps_int : ∀ l : List Int, D.dps (l.map .int) = 0
  | [] => by simp [D.dps]
  | i :: l => by simp [D.dps, D.dp, dps_int l]
theorem any_int (x : Int) : ∀ l : List Int, (l.map D.int).any (fun z => z.eqv (.int x)) = l.contains x
  | [] => rfl
  | i :: l => by
    rw [List.map_cons, List.any_cons, any_int x l, eqv_int, List.contains_cons]
    congr 1
    rw [Bool.eq_iff_iff, beq_iff_eq, beq_iff_eq]
    exact eq_comm
theorem in_ints {x : Int} {l : List Int} {S : Sto} : cmpR .isIn (.int x) (.tup (l.map .int)) S = .ok (.bl (l.contains x)) S := by
  show ck ((D.int x).fz = true ∧ (D.int x).dp ≤ 63 ∧ D.fzs (l.map .int) = true ∧ D.dps (l.map .int) ≤ 63) (R.ok (D.bl ((l.map D.int).any fun z => z.eqv (.int x))) S) = _
  rw [any_int]
  exact ck_of ⟨by simp [D.fz], by simp [D.dp], fzs_int l, by rw [dps_int]; omega⟩
mutual
theorem eqv_self : ∀ d : D, d.fz = true → d.eqv d = true
  | .non, _ => by simp [D.eqv]
  | .bl _, _ => by simp [D.eqv]
  | .int _, _ => by simp [D.eqv]
  | .str _, _ => by simp [D.eqv]
  | .tup xs, h => by simp only [D.eqv]; exact eqvs_self xs (by simpa [D.fz] using h)
  | .lst xs, h => by simp only [D.eqv]; exact eqvs_self xs (by simpa [D.fz] using h)
  | .scr xs, h => by simp only [D.eqv]; exact eqvs_self xs (by simpa [D.fz] using h)
  | .ref _, h => by simp [D.fz] at h
  | .ins _ _, h => by simp [D.fz] at h
  | .ty _, h => by simp [D.fz] at h
theorem eqvs_self : ∀ ds : List D, D.fzs ds = true → D.eqvs ds ds = true
  | [], _ => by simp [D.eqvs]
  | d :: ds, h => by
    simp only [D.fzs, Bool.and_eq_true] at h
    simp only [D.eqvs, Bool.and_eq_true]
    exact ⟨eqv_self d h.1, eqvs_self ds h.2⟩
end
end Iv
namespace Iv
open PySem
theorem lcLoop_map {α : Type} {step : D → Sto → R (List D)} {enc : α → D} {f : α → D} {S : Sto} {items : List α} (h : ∀ a ∈ items, step (enc a) S = .ok [f a] S) : lcLoop .fix step (items.map enc) S = .ok (items.map f) S :=
  (lcLoop_enc (f := fun a => [f a]) h).trans (by rw [flat_one])
theorem lcLoop_filter {α : Type} {step : D → Sto → R (List D)} {enc : α → D} {p : α → Bool} {f : α → D} {S : Sto} {items : List α} (h : ∀ a ∈ items, step (enc a) S = .ok (if p a = true then [f a] else []) S) : lcLoop .fix step (items.map enc) S = .ok ((items.filter p).map f) S :=
  (lcLoop_enc (f := fun a => if p a = true then [f a] else []) h).trans (by rw [flat_if])
theorem bi_all {α : Type} {l : List α} {f : α → Bool} {S : Sto} : biR .all [.lst (l.map fun x => .bl (f x))] S = .ok (.bl (l.all f)) S := by
  show (match (some (l.map fun x => D.bl (f x))).bind blsD with | some bs => R.ok (D.bl (bs.all id)) S | none => .err) = _
  rw [Option.bind_some, blsD_map]
  show R.ok (D.bl ((l.map f).all id)) S = _
  rw [List.all_map]
  rfl
theorem bi_minL {α : Type} {l : List α} {f : α → Int} {S : Sto} {m : Int} (h : minI (l.map f) = some m) : biR .minL [.lst (l.map fun x => .int (f x))] S = .ok (.int m) S := by
  show (match ((some (l.map fun x => D.int (f x))).bind intsD).bind minI with | some i => R.ok (D.int i) S | none => .err) = _
  rw [Option.bind_some, intsD_map, Option.bind_some, h]
theorem bi_sumL {α : Type} {l : List α} {f : α → Int} {S : Sto} : biR .sumL [.lst (l.map fun x => .int (f x))] S = .ok (.int (l.map f).sum) S := by
  show (match (some (l.map fun x => D.int (f x))).bind intsD with | some i => R.ok (D.int i.sum) S | none => .err) = _
  rw [Option.bind_some, intsD_map]
theorem bi_sumS {α : Type} {l : List α} {f : α → Int} {S : Sto} {s : Int} : biR .sumS [.lst (l.map fun x => .int (f x)), .int s] S = .ok (.int (s + (l.map f).sum)) S := by
  show (match (some (l.map fun x => D.int (f x))).bind intsD with | some i => R.ok (D.int (s + i.sum)) S | none => .err) = _
  rw [Option.bind_some, intsD_map]
end Iv
namespace Iv
open PySem
noncomputable abbrev forStep (F : CE) (t : Tg) (body : List St) : D → Env → Sto → R Fl := fun d ρ S => (asg F t d ρ S).st fun ρ S => exs F body ρ S
theorem ex_for {F : CE} {t : Tg} {it : It} {body : List St} {ρ : Env} {S S1 : Sto} {src : Src} {items : List D} (h : evIt F it ρ S = .ok (src, items) S1) : ex F (.for t it body) ρ S = forLoop src (forStep F t body) items ρ S1 := by
  rw [ex, h]
  rfl
theorem forStep_var {F : CE} {i : Nat} {body : List St} {d : D} {ρ : Env} {S : Sto} : forStep F (.var i) body d ρ S = exs F body (ρ.set i (some d)) S := by
  unfold forStep
  rw [asg]
  rfl
theorem exs_end {F : CE} {ρ : Env} {S : Sto} : exs F [] ρ S = .ok (.next ρ) S := by rw [exs]
theorem get_map {α β : Type} {f : α → β} {l : List α} {i : Nat} {b : β} (h : (l.map f)[i]? = some b) : ∃ a, l[i]? = some a ∧ b = f a := by
  rw [List.getElem?_map] at h
  obtain ⟨a, ha, e⟩ := Option.map_eq_some_iff.mp h
  exact ⟨a, ha, e.symm⟩
theorem rng_get {lo : Int} {n i : Nat} {d : D} (h : (rngD lo n)[i]? = some d) : d = .int (lo + i) ∧ i < n := by
  unfold rngD at h
  obtain ⟨j, hj, rfl⟩ := get_map h
  obtain ⟨hl, e⟩ := List.getElem?_eq_some_iff.mp hj
  rw [List.getElem_range] at e
  rw [List.length_range] at hl
  subst e
  exact ⟨rfl, hl⟩
theorem rng_len {lo : Int} {n : Nat} : (rngD lo n).length = n := by
  unfold rngD
  rw [List.length_map, List.length_range]
end Iv
namespace Iv
open PySem
section
variable {F : CE} {a b : E} {ρ ρ' : Env} {S S1 S2 S3 : Sto} {x y z : D}
theorem ev_bin {box : Bool} {op : Bop} (h : ev F a ρ S = .ok x S1) (h' : ev F b ρ S1 = .ok y S2) : ev F (.bin box op a b) ρ S = binR box op x y S2 := by
  rw [ev, h]
  simp only [R.bind_ok]
  rw [h']
  rfl
theorem ev_cmp {op : Cop} (h : ev F a ρ S = .ok x S1) (h' : ev F b ρ S1 = .ok y S2) : ev F (.cmp op a b) ρ S = cmpR op x y S2 := by
  rw [ev, h]
  simp only [R.bind_ok]
  rw [h']
  rfl
theorem ev_idx (h : ev F a ρ S = .ok x S1) (h' : ev F b ρ S1 = .ok y S2) : ev F (.idx a b) ρ S = idxR x y S2 := by
  rw [ev, h]
  simp only [R.bind_ok]
  rw [h']
  rfl
theorem ex_ite {c : E} {p q : List St} {k : Bool} {r : R Fl} (h : ev F c ρ S = .ok (.bl k) S1) (hr : (if k = true then exs F p ρ S1 else exs F q ρ S1) = r) : ex F (.ite c p q) ρ S = r := by
  rw [ex, h, R.bind_ok]
  exact hr
theorem ex_expr (h : ev F a ρ S = .ok x S1) : ex F (.expr a) ρ S = .ok (.next ρ) S1 := by
  rw [ex, h]
  rfl
theorem exs_one {st : St} {f : Fl} (h : ex F st ρ S = .ok f S1) : exs F [st] ρ S = .ok f S1 := by
  rw [exs, h]
  cases f <;> simp [exs]
end
end Iv
namespace Iv
theorem Keep.fresh {bs cs : List Nat} {S S' : Sto} (h : Keep cs S S') (k : ∀ b ∈ cs, b ∈ bs ∨ S.length ≤ b) : Keep bs S S' :=
  ⟨h.le, fun i l n => h.eq i l fun z => (k i z).elim n fun q => by omega⟩
end Iv
namespace Iv
open PySem
theorem ev_tup {F : CE} {es : List E} {ρ : Env} {S S1 : Sto} {ds : List D} (h : evs F es ρ S = .ok ds S1) (l : ds.length ≤ 1000) : ev F (.tup es) ρ S = .ok (.tup ds) S1 := by
  rw [ev, h, R.bind_ok]
  exact ck_of (Nat.le_trans l (by decide))
theorem ev_lst {F : CE} {box : Bool} {es : List E} {ρ : Env} {S S1 : Sto} {ds : List D} (h : evs F es ρ S = .ok ds S1) (l : ds.length ≤ 1000) : ev F (.lst box es) ρ S = mkL box ds S1 := by
  rw [ev, h, R.bind_ok]
  exact ck_of (Nat.le_trans l (by decide))
theorem evs_nil {F : CE} {ρ : Env} {S : Sto} : evs F [] ρ S = .ok [] S := by rw [evs]
theorem evs_cons {F : CE} {e : E} {es : List E} {ρ : Env} {S S1 S2 : Sto} {d : D} {ds : List D} (h : ev F e ρ S = .ok d S1) (h' : evs F es ρ S1 = .ok ds S2) : evs F (e :: es) ρ S = .ok (d :: ds) S2 := by
  rw [evs, h, R.bind_ok, h']
  rfl
theorem evIt_rng1 {F : CE} {e : E} {ρ : Env} {S S1 : Sto} {i : Int} (h : ev F e ρ S = .ok (.int i) S1) (hi : smallI i) : evIt F (.rng1 e) ρ S = .ok (.fix, rngD 0 i.toNat) S1 := by
  rw [evIt, h, R.bind_ok]
  exact ck_of hi
end Iv
namespace Iv
open PySem
theorem fzs_map {α : Type} {f : α → D} : ∀ {l : List α}, (∀ a ∈ l, (f a).fz = true) → D.fzs (l.map f) = true
  | [], _ => by simp [D.fzs]
  | a :: l, h => by
    rw [List.map_cons]
    simp only [D.fzs, Bool.and_eq_true]
    exact ⟨h a (List.mem_cons_self ..), fzs_map fun b hb => h b (List.mem_cons_of_mem _ hb)⟩
theorem dps_map {α : Type} {f : α → D} {n : Nat} : ∀ {l : List α}, (∀ a ∈ l, (f a).dp ≤ n) → D.dps (l.map f) ≤ n
  | [], _ => by simp [D.dps]
  | a :: l, h => by
    rw [List.map_cons]
    simp only [D.dps]
    exact Nat.max_le.mpr ⟨h a (List.mem_cons_self ..), dps_map fun b hb => h b (List.mem_cons_of_mem _ hb)⟩
end Iv

/-! ### plain laws: more tools (deep ==, walks of boxes, classes) -/
namespace Iv
open PySem
theorem fzs_get {xs : List D} (h : D.fzs xs = true) : ∀ d ∈ xs, d.fz = true := by
  induction xs with
  | nil => intro d hd; cases hd
  | cons x xs ih =>
    simp only [D.fzs, Bool.and_eq_true] at h
    intro d hd
    rcases List.mem_cons.mp hd with rfl | hd
    · exact h.1
    · exact ih h.2 d hd
theorem fzs_of {xs : List D} (h : ∀ d ∈ xs, d.fz = true) : D.fzs xs = true := by
  have := fzs_map (f := id) h
  rwa [List.map_id] at this
theorem deep_fz {S : Sto} : ∀ (k : Nat) {d : D}, d.fz = true → deep k S d = d
  | 0, _, _ => rfl
  | k + 1, d, h => by
    have go : ∀ xs : List D, D.fzs xs = true → xs.map (deep k S) = xs := fun xs hx => by
      conv => rhs; rw [← List.map_id xs]
      exact List.map_congr_left fun x hm => deep_fz k (fzs_get hx x hm)
    cases d with
    | tup xs => rw [deep, go xs (by simpa [D.fz] using h)]
    | lst xs => rw [deep, go xs (by simpa [D.fz] using h)]
    | ref n => cases h
    | _ => rfl
mutual
/-- no list or tuple is longer -/
def D.wd (n : Nat) : D → Bool
  | .tup xs => decide (xs.length ≤ n) && D.wds n xs
  | .lst xs => decide (xs.length ≤ n) && D.wds n xs
  | .scr xs => decide (xs.length ≤ n) && D.wds n xs
  | _ => true
def D.wds (n : Nat) : List D → Bool
  | [] => true
  | x :: xs => x.wd n && D.wds n xs
end
/-- x, read through its boxes, is the frozen d -/
structure Is (S : Sto) (x d : D) : Prop where
  eq : deep 8 S x = d
  fz : d.fz = true
theorem Is.of {S : Sto} {d : D} (h : d.fz = true) : Is S d d := ⟨deep_fz 8 h, h⟩
theorem Is.ref {S : Sto} {n : Nat} {xs ds : List D} (hc : cellAt S n = some (.lst xs)) (hl : xs.length = ds.length) (h : ∀ (i : Nat) (x d : D), xs[i]? = some x → ds[i]? = some d → deep 7 S x = d ∧ d.fz = true) : Is S (.ref n) (.lst ds) := by
  have e : xs.map (deep 7 S) = ds := by
    refine List.ext_getElem? fun i => ?_
    rw [List.getElem?_map]
    by_cases hi : i < xs.length
    · rw [List.getElem?_eq_getElem hi, List.getElem?_eq_getElem (hl ▸ hi)]
      exact congrArg some (h i _ _ (List.getElem?_eq_getElem hi) (List.getElem?_eq_getElem (hl ▸ hi))).1
    · rw [List.getElem?_eq_none (by omega), List.getElem?_eq_none (by omega)]
      rfl
  refine ⟨?_, ?_⟩
  · show (match cellAt S n with | some (.lst xs) => D.lst (xs.map (deep 7 S)) | _ => .ref n) = _
    rw [hc]
    dsimp only
    rw [e]
  · rw [D.fz]
    refine fzs_of fun d hd => ?_
    obtain ⟨i, hi, rfl⟩ := List.mem_iff_getElem.mp hd
    exact (h i _ _ (List.getElem?_eq_getElem (hl ▸ hi)) (List.getElem?_eq_getElem hi)).2
section
variable {F : CE} {a b c : E} {ρ : Env} {S S1 S2 S3 : Sto} {x y z d : D}
theorem attr_ref {n f cl : Nat} {fs : List (Nat × D)} (hc : cellAt S n = some (.ins cl fs)) (h : fs.lookup f = some d) : attrR (.ref n) f S = .ok d S := by
  unfold attrR
  dsimp only
  rw [hc]
  dsimp only
  rw [h]
end
end Iv
namespace Iv
open PySem
section
variable {F : CE} {ρ ρ' : Env} {S S1 S2 : Sto} {d : D} {e c : E} {t : Tg} {body : List St}
end
end Iv
namespace Iv
open PySem
section
variable {F : CE} {ρ ρ' : Env} {S S1 S2 : Sto} {d : D} {o : E} {es : List E}
theorem seqOf_box {S : Sto} {p : Nat} {xs : List D} (h : cellAt S p = some (.lst xs)) : seqOf S (.ref p) = some xs := by rw [seqOf_ref, h]
end
end Iv
namespace Iv
open PySem
theorem cls_ref {S : Sto} {n cl : Nat} {fs : List (Nat × D)} (h : cellAt S n = some (.ins cl fs)) : clsOf S (.ref n) = some cl := by
  show (match cellAt S n with | some (.ins c _) => some c | _ => none) = _
  rw [h]
theorem walk_box {S : Sto} {n : Nat} {xs : List D} (h : cellAt S n = some (.lst xs)) : walkOf S (.ref n) = some (.box n xs, xs) := by
  show (match cellAt S n with | some (.lst xs) => some (Src.box n xs, xs) | _ => none) = _
  rw [h]
end Iv
namespace Iv
open PySem
theorem lcLoop_encS {α : Type} {step : D → Sto → R (List D)} {enc : α → D} {f : α → List D} {S : Sto} {src : Src} (ht : src.there S) : ∀ {items : List α}, (∀ a ∈ items, step (enc a) S = .ok (f a) S) → lcLoop src step (items.map enc) S = .ok (items.flatMap f) S
  | [], _ => by
    rw [List.map_nil, lcLoop]
    exact ck_of ht
  | d :: ds, h => by
    rw [List.map_cons, lcLoop, ck_of ht, h d (List.mem_cons_self ..)]
    dsimp only
    rw [lcLoop_encS ht fun e he => h e (List.mem_cons_of_mem _ he)]
    rfl
section
variable {F : CE} {ρ ρ' : Env} {S S1 S2 S3 : Sto} {d x : D} {a b o : E} {body : List St} {t : Tg}
theorem walkL_box {S : Sto} {n : Nat} {xs : List D} (h : cellAt S n = some (.lst xs)) : walkL S (.ref n) = some (.box n xs, xs) := walk_box h
theorem eq_nil {n : Nat} {xs : List D} (h : cellAt S n = some (.lst xs)) (hf : D.fzs xs = true) (hd : D.dps xs ≤ 60) : cmpR .eq (.ref n) (.lst []) S = .ok (.bl xs.isEmpty) S := by
  have e : unbox S (.ref n) = .lst xs := by rw [unbox_ref, h]
  show ck ((unbox S (.ref n)).fz = true ∧ (D.lst []).fz = true ∧ (unbox S (.ref n)).dp ≤ 64 ∧ (D.lst []).dp ≤ 64) (R.ok (D.bl ((unbox S (.ref n)).eqv (.lst []))) S) = _
  rw [e]
  have e2 : (D.lst xs).eqv (.lst []) = xs.isEmpty := by cases xs <;> simp [D.eqv, D.eqvs]
  rw [e2]
  exact ck_of ⟨by rw [D.fz]; exact hf, by simp [D.fz, D.fzs], by rw [D.dp]; omega, by simp [D.dp, D.dps]⟩
end
end Iv

/-! ### running programs over data: what must hold ahead -/
namespace Iv
open PySem
@[irreducible] def Ru {α : Type} (r : R α) (Q : α → Sto → Prop) (E : Exc → Sto → Prop) : Prop := match r with
  | .ok a S => Q a S
  | .exc x S => E x S
  | .err => False
abbrev noE : Exc → Sto → Prop := fun _ _ => False
/-- a step of the run backwards, found by its form -/
class Stp1 (p : Prop) (q : outParam Prop) : Prop where
  h : q → p
theorem stp1 {p q : Prop} [s : Stp1 p q] (h : q) : p := s.h h
class Res {α : Type} (r : R α) (r' : outParam (R α)) : Prop where
  h : r = r'
instance (priority := low) {α : Type} {r r' : R α} {Q : α → Sto → Prop} {E : Exc → Sto → Prop} [h : Res r r'] : Stp1 (Ru r Q E) (Ru r' Q E) := ⟨fun q => h.h ▸ q⟩
section
variable {α β : Type} {r r' : R α} {f : α → Sto → R β} {Q : β → Sto → Prop} {Qa : α → Sto → Prop} {E : Exc → Sto → Prop} {a : α} {x : Exc} {S S' : Sto}
theorem ru_ok : Ru (.ok a S) Qa E = Qa a S := by unfold Ru; rfl
instance  : Stp1 (Ru (.ok a S) Qa E) (Qa a S) := ⟨ru_ok.mpr⟩
theorem ru_exc : Ru (.exc x S : R α) Qa E = E x S := by unfold Ru; rfl
theorem ru_err : Ru (.err : R α) Qa E = False := by unfold Ru; rfl
theorem ru_bind : Ru (r.bind f) Q E = Ru r (fun a S => Ru (f a S) Q E) E := by cases r <;> simp only [ru_ok, ru_exc, ru_err, R.bind_ok, R.bind_err, R.bind_exc, R.go_ok, R.go_err, R.go_exc]
theorem ru_ck {c : Prop} [Decidable c] : Ru (ck c r) Qa E = (c ∧ Ru r Qa E) := by
  unfold ck
  split
  · rename_i h
    exact propext ⟨fun q => ⟨h, q⟩, fun q => q.2⟩
  · rename_i h
    rw [ru_err]; exact propext ⟨fun q => q.elim, fun q => absurd q.1 h⟩
theorem ru_ite {c : Prop} [Decidable c] : Ru (if c then r else r') Qa E = if c then Ru r Qa E else Ru r' Qa E := by split <;> rfl
theorem ru_go {f : α → Sto → R Fl} {Q : Fl → Sto → Prop} {ρ : Env} : Ru (r.go ρ f) Q E = Ru r (fun a S => Ru (f a S) Q E) (fun x S => Q (.raised x ρ) S) := by cases r <;> simp only [ru_ok, ru_exc, ru_err, R.bind_ok, R.bind_err, R.bind_exc, R.go_ok, R.go_err, R.go_exc]
theorem ru_st : Ru (r.st f) Q E = Ru r (fun a S => Ru (f a S) Q E) noE := by
  cases r with
  | ok a S => rw [R.st_ok, ru_ok]
  | exc x S => rw [ru_exc, show (R.exc x S).st f = .err from rfl, ru_err]
  | err => rw [R.st_err, ru_err, ru_err]
def flQ (f : Env → Sto → R Fl) (Q : Fl → Sto → Prop) (E : Exc → Sto → Prop) (w : Fl) (S : Sto) : Prop := match w with
  | .next ρ => Ru (f ρ S) Q E
  | w => Q w S
theorem ru_fl {r : R Fl} {f : Env → Sto → R Fl} {Q : Fl → Sto → Prop} : Ru (r.fl f) Q E = Ru r (flQ f Q E) noE := by
  cases r with
  | ok w S =>
    rw [ru_ok]
    cases w <;> simp only [R.fl_next, R.fl_ret, R.fl_brk, R.fl_cont, R.fl_raised, ru_ok, flQ]
  | exc x S => rw [ru_exc, show (R.exc x S).fl f = .err from rfl, ru_err]
  | err => rw [R.fl_err, ru_err, ru_err]
def turnQ (K : Env → Sto → Prop) (Q : Fl → Sto → Prop) (w : Fl) (S : Sto) : Prop := match w with
  | .next ρ => K ρ S
  | .cont ρ => K ρ S
  | .brk ρ => Q (.next ρ) S
  | w => Q w S
theorem ru_turn {r : R Fl} {f : Env → Sto → R Fl} {Q : Fl → Sto → Prop} : Ru (r.turn f) Q E = Ru r (turnQ (fun ρ S => Ru (f ρ S) Q E) Q) noE := by
  cases r with
  | ok w S =>
    rw [ru_ok]
    cases w <;> simp only [R.turn_next, R.turn_ret, R.turn_brk, R.turn_cont, R.turn_raised, ru_ok, turnQ]
  | exc x S => rw [ru_exc, show (R.exc x S).turn f = .err from rfl, ru_err]
  | err => rw [show (R.err : R Fl).turn f = .err from rfl, ru_err, ru_err]
theorem Ru.imp {Q Q' : α → Sto → Prop} {E E' : Exc → Sto → Prop} (h : Ru r Q E) (k : ∀ a S, Q a S → Q' a S) (e : ∀ x S, E x S → E' x S) : Ru r Q' E' := by
  cases r with
  | ok a S => rw [ru_ok] at h ⊢; exact k _ _ h
  | exc x S => rw [ru_exc] at h ⊢; exact e _ _ h
  | err => rw [ru_err] at h; exact h.elim
/-- by what a call is known to do -/
theorem Ru.use {Q Q' : α → Sto → Prop} {E : Exc → Sto → Prop} (h : Ru r Q noE) (k : ∀ a S, Q a S → Q' a S) : Ru r Q' E := h.imp k fun _ _ h => h.elim
theorem Ru.ex (h : Ru r Qa noE) : ∃ a S', r = .ok a S' ∧ Qa a S' := by
  cases r with
  | ok a S => rw [ru_ok] at h; exact ⟨a, S, rfl, h⟩
  | exc x S => rw [ru_exc] at h; exact h.elim
  | err => rw [ru_err] at h; exact h.elim
theorem Ru.eq (h : r = .ok a S) (q : Qa a S) : Ru r Qa E := by rw [h, ru_ok]; exact q
theorem Ru.is {d : α} (h : Ru r (fun a S' => a = d ∧ S' = S) noE) : r = .ok d S := by
  obtain ⟨a, S', e, rfl, rfl⟩ := h.ex
  exact e
end
section
variable {F : CE} {Q : D → Sto → Prop} {Qs : List D → Sto → Prop} {Qf : Fl → Sto → Prop} {Qe : Env → Sto → Prop} {Qb : Bool → Sto → Prop} {Qi : Src × List D → Sto → Prop} {Qo : Option Int → Sto → Prop} {E : Exc → Sto → Prop} {ρ : Env} {S : Sto} {a b c e i : Iv.E} {d x : D} {es ifs : List Iv.E} {box : Bool} {own own1 : List Nat} {t t1 : Tg} {ts : List Tg} {it it1 : It} {st : St} {sts body els : List St}
theorem ru_var {j : Nat} (h : ρ[j]? = some (some d)) : Ru (ev F (.var j) ρ S) Q E = Q d S := by rw [ev, h, ru_ok]
theorem ru_con : Ru (ev F (.con d) ρ S) Q E = Q d S := by rw [ev, ru_ok]
instance  : Stp1 (Ru (ev F (.con d) ρ S) Q E) (Q d S) := ⟨ru_con.mpr⟩
theorem ru_bin {op : Bop} : Ru (ev F (.bin box op a b) ρ S) Q E = Ru (ev F a ρ S) (fun x S => Ru (ev F b ρ S) (fun y S => Ru (binR box op x y S) Q E) E) E := by rw [ev]; simp only [ru_bind]
instance {op : Bop} : Stp1 (Ru (ev F (.bin box op a b) ρ S) Q E) (Ru (ev F a ρ S) (fun x S => Ru (ev F b ρ S) (fun y S => Ru (binR box op x y S) Q E) E) E) := ⟨ru_bin.mpr⟩
def negR (x : D) (S : Sto) : R D := match x with
  | .int i => .ok (.int (-i)) S
  | _ => .err
theorem ru_neg : Ru (ev F (.neg a) ρ S) Q E = Ru (ev F a ρ S) (fun x S => Ru (negR x S) Q E) E := by rw [ev, ru_bind]; rfl
instance  : Stp1 (Ru (ev F (.neg a) ρ S) Q E) (Ru (ev F a ρ S) (fun x S => Ru (negR x S) Q E) E) := ⟨ru_neg.mpr⟩
theorem ru_not : Ru (ev F (.not a) ρ S) Q E = Ru (ev F a ρ S) (fun x S => Ru (tru x S) (fun k S => Q (.bl (!k)) S) E) E := by rw [ev]; simp only [ru_bind, ru_ok]
instance  : Stp1 (Ru (ev F (.not a) ρ S) Q E) (Ru (ev F a ρ S) (fun x S => Ru (tru x S) (fun k S => Q (.bl (!k)) S) E) E) := ⟨ru_not.mpr⟩
theorem ru_cmp {op : Cop} : Ru (ev F (.cmp op a b) ρ S) Q E = Ru (ev F a ρ S) (fun x S => Ru (ev F b ρ S) (fun y S => Ru (cmpR op x y S) Q E) E) E := by rw [ev]; simp only [ru_bind]
instance {op : Cop} : Stp1 (Ru (ev F (.cmp op a b) ρ S) Q E) (Ru (ev F a ρ S) (fun x S => Ru (ev F b ρ S) (fun y S => Ru (cmpR op x y S) Q E) E) E) := ⟨ru_cmp.mpr⟩
theorem ru_chain {op op' : Cop} : Ru (ev F (.chain op op' a b c) ρ S) Q E = Ru (ev F a ρ S) (fun x S => Ru (ev F b ρ S) (fun y S => Ru (cmpR op x y S) (fun z S => Ru (tru z S) (fun k S => if k = true then Ru (ev F c ρ S) (fun w S => Ru (cmpR op' y w S) Q E) E else Q (.bl false) S) E) E) E) E := by
  rw [ev]; simp only [ru_bind, ru_ite, ru_ok]
instance {op op' : Cop} : Stp1 (Ru (ev F (.chain op op' a b c) ρ S) Q E) (Ru (ev F a ρ S) (fun x S => Ru (ev F b ρ S) (fun y S => Ru (cmpR op x y S) (fun z S => Ru (tru z S) (fun k S => if k = true then Ru (ev F c ρ S) (fun w S => Ru (cmpR op' y w S) Q E) E else Q (.bl false) S) E) E) E) E) := ⟨ru_chain.mpr⟩
theorem ru_and : Ru (ev F (.and a b) ρ S) Q E = Ru (ev F a ρ S) (fun x S => Ru (tru x S) (fun k S => if k = true then Ru (ev F b ρ S) Q E else Q x S) E) E := by rw [ev]; simp only [ru_bind, ru_ite, ru_ok]
instance  : Stp1 (Ru (ev F (.and a b) ρ S) Q E) (Ru (ev F a ρ S) (fun x S => Ru (tru x S) (fun k S => if k = true then Ru (ev F b ρ S) Q E else Q x S) E) E) := ⟨ru_and.mpr⟩
theorem ru_or : Ru (ev F (.or a b) ρ S) Q E = Ru (ev F a ρ S) (fun x S => Ru (tru x S) (fun k S => if k = true then Q x S else Ru (ev F b ρ S) Q E) E) E := by rw [ev]; simp only [ru_bind, ru_ite, ru_ok]
instance  : Stp1 (Ru (ev F (.or a b) ρ S) Q E) (Ru (ev F a ρ S) (fun x S => Ru (tru x S) (fun k S => if k = true then Q x S else Ru (ev F b ρ S) Q E) E) E) := ⟨ru_or.mpr⟩
theorem ru_ife : Ru (ev F (.ife c a b) ρ S) Q E = Ru (ev F c ρ S) (fun x S => Ru (tru x S) (fun k S => if k = true then Ru (ev F a ρ S) Q E else Ru (ev F b ρ S) Q E) E) E := by rw [ev]; simp only [ru_bind, ru_ite]
instance  : Stp1 (Ru (ev F (.ife c a b) ρ S) Q E) (Ru (ev F c ρ S) (fun x S => Ru (tru x S) (fun k S => if k = true then Ru (ev F a ρ S) Q E else Ru (ev F b ρ S) Q E) E) E) := ⟨ru_ife.mpr⟩
theorem ru_tup : Ru (ev F (.tup es) ρ S) Q E = Ru (evs F es ρ S) (fun xs S => xs.length ≤ sizeLine ∧ Q (.tup xs) S) E := by rw [ev]; simp only [ru_bind, ru_ck, ru_ok]
instance  : Stp1 (Ru (ev F (.tup es) ρ S) Q E) (Ru (evs F es ρ S) (fun xs S => xs.length ≤ sizeLine ∧ Q (.tup xs) S) E) := ⟨ru_tup.mpr⟩
theorem ru_lst : Ru (ev F (.lst box es) ρ S) Q E = Ru (evs F es ρ S) (fun xs S => xs.length ≤ sizeLine ∧ Ru (mkL box xs S) Q E) E := by rw [ev]; simp only [ru_bind, ru_ck]
instance  : Stp1 (Ru (ev F (.lst box es) ρ S) Q E) (Ru (evs F es ρ S) (fun xs S => xs.length ≤ sizeLine ∧ Ru (mkL box xs S) Q E) E) := ⟨ru_lst.mpr⟩
theorem ru_idx : Ru (ev F (.idx a i) ρ S) Q E = Ru (ev F a ρ S) (fun x S => Ru (ev F i ρ S) (fun y S => Ru (idxR x y S) Q E) E) E := by rw [ev]; simp only [ru_bind]
instance  : Stp1 (Ru (ev F (.idx a i) ρ S) Q E) (Ru (ev F a ρ S) (fun x S => Ru (ev F i ρ S) (fun y S => Ru (idxR x y S) Q E) E) E) := ⟨ru_idx.mpr⟩
theorem ru_slc {lo hi : Option Iv.E} : Ru (ev F (.slc box a lo hi) ρ S) Q E = Ru (ev F a ρ S) (fun x S => Ru (evp F lo ρ S) (fun l S => Ru (evp F hi ρ S) (fun h S => Ru (slcR box x l h S) Q E) E) E) E := by rw [ev]; simp only [ru_bind]
instance {lo hi : Option Iv.E} : Stp1 (Ru (ev F (.slc box a lo hi) ρ S) Q E) (Ru (ev F a ρ S) (fun x S => Ru (evp F lo ρ S) (fun l S => Ru (evp F hi ρ S) (fun h S => Ru (slcR box x l h S) Q E) E) E) E) := ⟨ru_slc.mpr⟩
def revR (box : Bool) (x : D) (S : Sto) : R D := match x with
  | .tup xs => .ok (.tup xs.reverse) S
  | _ => match seqOf S x with
    | some xs => mkL box xs.reverse S
    | none => .err
theorem ru_rev : Ru (ev F (.rev box a) ρ S) Q E = Ru (ev F a ρ S) (fun x S => Ru (revR box x S) Q E) E := by rw [ev, ru_bind]; rfl
instance  : Stp1 (Ru (ev F (.rev box a) ρ S) Q E) (Ru (ev F a ρ S) (fun x S => Ru (revR box x S) Q E) E) := ⟨ru_rev.mpr⟩
theorem ru_lc : Ru (ev F (.lc box own t it ifs e) ρ S) Q E = Ru (evIt F it ρ S) (fun w S => Ru (lcLoop w.1 (lcStep F own t ifs e ρ) w.2 S) (fun ys S => ys.length ≤ sizeLine ∧ Ru (mkL box ys S) Q E) E) E := by rw [ev]; simp only [ru_bind, ru_ck]
instance  : Stp1 (Ru (ev F (.lc box own t it ifs e) ρ S) Q E) (Ru (evIt F it ρ S) (fun w S => Ru (lcLoop w.1 (lcStep F own t ifs e ρ) w.2 S) (fun ys S => ys.length ≤ sizeLine ∧ Ru (mkL box ys S) Q E) E) E) := ⟨ru_lc.mpr⟩
theorem ru_lc2 {ifs1 : List Iv.E} : Ru (ev F (.lc2 box own own1 t it ifs t1 it1 ifs1 e) ρ S) Q E = Ru (evIt F it ρ S) (fun w S => Ru (lcLoop w.1 (lcStepB F own own1 t ifs t1 it1 ifs1 e ρ) w.2 S) (fun ys S => ys.length ≤ sizeLine ∧ Ru (mkL box ys S) Q E) E) E := by rw [ev]; simp only [ru_bind, ru_ck]
instance {ifs1 : List Iv.E} : Stp1 (Ru (ev F (.lc2 box own own1 t it ifs t1 it1 ifs1 e) ρ S) Q E) (Ru (evIt F it ρ S) (fun w S => Ru (lcLoop w.1 (lcStepB F own own1 t ifs t1 it1 ifs1 e ρ) w.2 S) (fun ys S => ys.length ≤ sizeLine ∧ Ru (mkL box ys S) Q E) E) E) := ⟨ru_lc2.mpr⟩
theorem ru_call {f : Nat} {arr : List Ar} : Ru (ev F (.call f arr es) ρ S) Q E = Ru (evs F es ρ S) (fun xs S => Ru (callR F f arr xs S) Q E) E := by rw [ev]; simp only [ru_bind]
instance {f : Nat} {arr : List Ar} : Stp1 (Ru (ev F (.call f arr es) ρ S) Q E) (Ru (evs F es ρ S) (fun xs S => Ru (callR F f arr xs S) Q E) E) := ⟨ru_call.mpr⟩
noncomputable def methR (F : CE) (ms : List (Nat × Nat × List Ar)) (es : List Iv.E) (ρ : Env) (x : D) (o : Option (Nat × List Ar)) (S : Sto) : R D := match o with
  | some (f, arr) => (evs F es ρ S).bind fun xs S => callR F f arr (x :: xs) S
  | none => .err
theorem ru_meth {ms : List (Nat × Nat × List Ar)} : Ru (ev F (.meth a ms es) ρ S) Q E = Ru (ev F a ρ S) (fun x S => Ru (methR F ms es ρ x ((clsOf S x).bind fun c => ms.lookup c) S) Q E) E := by rw [ev, ru_bind]; congr 1 <;> (funext x S; cases ((clsOf S x).bind fun c => ms.lookup c) <;> rfl)
instance {ms : List (Nat × Nat × List Ar)} : Stp1 (Ru (ev F (.meth a ms es) ρ S) Q E) (Ru (ev F a ρ S) (fun x S => Ru (methR F ms es ρ x ((clsOf S x).bind fun c => ms.lookup c) S) Q E) E) := ⟨ru_meth.mpr⟩
theorem ru_methR {ms : List (Nat × Nat × List Ar)} {f : Nat} {arr : List Ar} : Ru (methR F ms es ρ x (some (f, arr)) S) Q E = Ru (evs F es ρ S) (fun xs S => Ru (callR F f arr (x :: xs) S) Q E) E := ru_bind
theorem ru_make {fr : Bool} {cl f : Nat} {arr : List Ar} : Ru (ev F (.make fr cl f arr es) ρ S) Q E = Ru (evs F es ρ S) (fun xs S => Ru (makeR F fr cl f arr xs S) Q E) E := by rw [ev]; simp only [ru_bind]
instance {fr : Bool} {cl f : Nat} {arr : List Ar} : Stp1 (Ru (ev F (.make fr cl f arr es) ρ S) Q E) (Ru (evs F es ρ S) (fun xs S => Ru (makeR F fr cl f arr xs S) Q E) E) := ⟨ru_make.mpr⟩
theorem ru_makeR {cl f : Nat} {arr : List Ar} {ds : List D} : Ru (makeR F false cl f arr ds S) Q E = Ru (callR F f arr (.ref S.length :: ds) (S ++ [some (.ins cl [])])) (fun r S1 => r = .non ∧ Q (.ref S.length) S1) E := by
  unfold makeR
  rw [ru_bind]
  congr 1
  funext r S1
  cases r with
  | non => dsimp only; rw [if_neg Bool.false_ne_true, ru_ok]; exact propext ⟨fun h => ⟨rfl, h⟩, fun h => h.2⟩
  | _ => dsimp only; rw [ru_err]; exact propext ⟨fun h => h.elim, fun h => by cases h.1⟩
theorem ru_attr {f : Nat} : Ru (ev F (.attr a f) ρ S) Q E = Ru (ev F a ρ S) (fun x S => Ru (attrR x f S) Q E) E := by rw [ev]; simp only [ru_bind]
instance {f : Nat} : Stp1 (Ru (ev F (.attr a f) ρ S) Q E) (Ru (ev F a ρ S) (fun x S => Ru (attrR x f S) Q E) E) := ⟨ru_attr.mpr⟩
theorem ru_bi {bi : Bi} : Ru (ev F (.bi bi es) ρ S) Q E = Ru (evs F es ρ S) (fun xs S => Ru (biR bi xs S) Q E) E := by rw [ev]; simp only [ru_bind]
instance {bi : Bi} : Stp1 (Ru (ev F (.bi bi es) ρ S) Q E) (Ru (evs F es ρ S) (fun xs S => Ru (biR bi xs S) Q E) E) := ⟨ru_bi.mpr⟩
theorem ru_bm {bm : Bm} : Ru (ev F (.bm bm a es) ρ S) Q E = Ru (ev F a ρ S) (fun x S => bmOk bm x S = true ∧ Ru (evs F es ρ S) (fun xs S => Ru (bmR bm x xs S) Q E) E) E := by rw [ev]; simp only [ru_bind, ru_ck]
instance {bm : Bm} : Stp1 (Ru (ev F (.bm bm a es) ρ S) Q E) (Ru (ev F a ρ S) (fun x S => bmOk bm x S = true ∧ Ru (evs F es ρ S) (fun xs S => Ru (bmR bm x xs S) Q E) E) E) := ⟨ru_bm.mpr⟩
theorem ru_frz : Ru (ev F (.frz a) ρ S) Q E = Ru (ev F a ρ S) (fun x S => Ru (frzR x S) Q E) E := by rw [ev]; simp only [ru_bind]
instance  : Stp1 (Ru (ev F (.frz a) ρ S) Q E) (Ru (ev F a ρ S) (fun x S => Ru (frzR x S) Q E) E) := ⟨ru_frz.mpr⟩
def isitR (ts : List String) (o : Option Bool) (S : Sto) : R D := match o with
  | some b => ck (ts.length ≤ 100) (.ok (.bl b) S)
  | none => .err
theorem ru_isit {ts : List String} : Ru (ev F (.isit a ts) ρ S) Q E = Ru (ev F a ρ S) (fun x S => Ru (isitR ts (isiT S x ts) S) Q E) E := by rw [ev, ru_bind]; congr 1 <;> (funext x S; cases isiT S x ts <;> rfl)
instance {ts : List String} : Stp1 (Ru (ev F (.isit a ts) ρ S) Q E) (Ru (ev F a ρ S) (fun x S => Ru (isitR ts (isiT S x ts) S) Q E) E) := ⟨ru_isit.mpr⟩
theorem ru_isitR {ts : List String} {b : Bool} : Ru (isitR ts (some b) S) Q E = (ts.length ≤ 100 ∧ Q (.bl b) S) := by unfold isitR; rw [ru_ck, ru_ok]
theorem ru_evs0 : Ru (evs F [] ρ S) Qs E = Qs [] S := by rw [evs, ru_ok]
instance  : Stp1 (Ru (evs F [] ρ S) Qs E) (Qs [] S) := ⟨ru_evs0.mpr⟩
theorem ru_evs1 : Ru (evs F (e :: es) ρ S) Qs E = Ru (ev F e ρ S) (fun x S => Ru (evs F es ρ S) (fun xs S => Qs (x :: xs) S) E) E := by rw [evs]; simp only [ru_bind, ru_ok]
instance  : Stp1 (Ru (evs F (e :: es) ρ S) Qs E) (Ru (ev F e ρ S) (fun x S => Ru (evs F es ρ S) (fun xs S => Qs (x :: xs) S) E) E) := ⟨ru_evs1.mpr⟩
theorem ru_evp0 : Ru (evp F none ρ S) Qo E = Qo none S := by rw [evp, ru_ok]
instance  : Stp1 (Ru (evp F none ρ S) Qo E) (Qo none S) := ⟨ru_evp0.mpr⟩
def intR (x : D) (S : Sto) : R (Option Int) := match x with
  | .int i => .ok (some i) S
  | _ => .err
theorem ru_evp1 : Ru (evp F (some e) ρ S) Qo E = Ru (ev F e ρ S) (fun x S => Ru (intR x S) Qo E) E := by rw [evp, ru_bind]; rfl
instance  : Stp1 (Ru (evp F (some e) ρ S) Qo E) (Ru (ev F e ρ S) (fun x S => Ru (intR x S) Qo E) E) := ⟨ru_evp1.mpr⟩
theorem ru_intR {j : Int} : Ru (intR (.int j) S) Qo E = Qo (some j) S := ru_ok
instance {j : Int} : Stp1 (Ru (intR (.int j) S) Qo E) (Qo (some j) S) := ⟨ru_intR.mpr⟩
theorem ru_ifs0 : Ru (evIfs F [] ρ S) Qb E = Qb true S := by rw [evIfs, ru_ok]
instance  : Stp1 (Ru (evIfs F [] ρ S) Qb E) (Qb true S) := ⟨ru_ifs0.mpr⟩
theorem ru_ifs1 : Ru (evIfs F (e :: es) ρ S) Qb E = Ru (ev F e ρ S) (fun x S => Ru (tru x S) (fun k S => if k = true then Ru (evIfs F es ρ S) Qb E else Qb false S) E) E := by rw [evIfs]; simp only [ru_bind, ru_ite, ru_ok]
instance  : Stp1 (Ru (evIfs F (e :: es) ρ S) Qb E) (Ru (ev F e ρ S) (fun x S => Ru (tru x S) (fun k S => if k = true then Ru (evIfs F es ρ S) Qb E else Qb false S) E) E) := ⟨ru_ifs1.mpr⟩
def oR {α : Type} (o : Option α) (S : Sto) : R α := match o with
  | some w => .ok w S
  | none => .err
theorem ru_oR {α : Type} {w : α} {Qx : α → Sto → Prop} : Ru (oR (some w) S) Qx E = Qx w S := ru_ok
theorem ru_itE : Ru (evIt F (.e a) ρ S) Qi E = Ru (ev F a ρ S) (fun x S => Ru (oR (walkOf S x) S) Qi E) E := by rw [evIt, ru_bind]; congr 1 <;> (funext x S; cases walkOf S x <;> rfl)
instance  : Stp1 (Ru (evIt F (.e a) ρ S) Qi E) (Ru (ev F a ρ S) (fun x S => Ru (oR (walkOf S x) S) Qi E) E) := ⟨ru_itE.mpr⟩
def rng1R (x : D) (S : Sto) : R (Src × List D) := match x with
  | .int j => ck (smallI j) (.ok (.fix, rngD 0 j.toNat) S)
  | _ => .err
theorem ru_rng1 : Ru (evIt F (.rng1 a) ρ S) Qi E = Ru (ev F a ρ S) (fun x S => Ru (rng1R x S) Qi E) E := by rw [evIt, ru_bind]; rfl
instance  : Stp1 (Ru (evIt F (.rng1 a) ρ S) Qi E) (Ru (ev F a ρ S) (fun x S => Ru (rng1R x S) Qi E) E) := ⟨ru_rng1.mpr⟩
theorem ru_rng1R {j : Int} : Ru (rng1R (.int j) S) Qi E = (smallI j ∧ Qi (.fix, rngD 0 j.toNat) S) := by unfold rng1R; rw [ru_ck, ru_ok]
def rng2R (x y : D) (S : Sto) : R (Src × List D) := match x, y with
  | .int i, .int j => ck (smallI i ∧ smallI j) (.ok (.fix, rngD i (j - i).toNat) S)
  | _, _ => .err
theorem ru_rng2 : Ru (evIt F (.rng2 a b) ρ S) Qi E = Ru (ev F a ρ S) (fun x S => Ru (ev F b ρ S) (fun y S => Ru (rng2R x y S) Qi E) E) E := by rw [evIt]; simp only [ru_bind]; rfl
instance  : Stp1 (Ru (evIt F (.rng2 a b) ρ S) Qi E) (Ru (ev F a ρ S) (fun x S => Ru (ev F b ρ S) (fun y S => Ru (rng2R x y S) Qi E) E) E) := ⟨ru_rng2.mpr⟩
theorem ru_rng2R {i j : Int} : Ru (rng2R (.int i) (.int j) S) Qi E = ((smallI i ∧ smallI j) ∧ Qi (.fix, rngD i (j - i).toNat) S) := by unfold rng2R; rw [ru_ck, ru_ok]
def enumR (o : Option (Src × List D)) (i : Option Int) (S : Sto) : R (Src × List D) := match o with
  | some w => ck (i = none) (.ok (w.1, enumD 0 w.2) S)
  | none => .err
theorem ru_enum : Ru (evIt F (.enum none a) ρ S) Qi E = Ru (ev F a ρ S) (fun x S => Ru (enumR (walkL S x) none S) Qi E) E := by rw [evIt]; simp only [ru_bind, ru_evp0]; congr 1 <;> (funext x S; cases walkL S x <;> rfl)
instance  : Stp1 (Ru (evIt F (.enum none a) ρ S) Qi E) (Ru (ev F a ρ S) (fun x S => Ru (enumR (walkL S x) none S) Qi E) E) := ⟨ru_enum.mpr⟩
theorem ru_enumR {w : Src × List D} : Ru (enumR (some w) none S) Qi E = Qi (w.1, enumD 0 w.2) S := by
  unfold enumR
  rw [ru_ck, ru_ok]
  exact propext ⟨fun h => h.2, fun h => ⟨rfl, h⟩⟩
def enumSR (o : Option (Src × List D)) (y : D) (S : Sto) : R (Src × List D) := match o, y with
  | some w, .int i => ck (smallI i) (.ok (w.1, enumD i w.2) S)
  | _, _ => .err
theorem ru_enumS : Ru (evIt F (.enumS a b) ρ S) Qi E = Ru (ev F a ρ S) (fun x S => Ru (ev F b ρ S) (fun y S => Ru (enumSR (walkL S x) y S) Qi E) E) E := by rw [evIt]; simp only [ru_bind]; congr 1 <;> (funext x S; congr 1 <;> (funext y S; cases walkL S x <;> cases y <;> rfl))
instance  : Stp1 (Ru (evIt F (.enumS a b) ρ S) Qi E) (Ru (ev F a ρ S) (fun x S => Ru (ev F b ρ S) (fun y S => Ru (enumSR (walkL S x) y S) Qi E) E) E) := ⟨ru_enumS.mpr⟩
theorem ru_enumSR {w : Src × List D} {j : Int} : Ru (enumSR (some w) (.int j) S) Qi E = (smallI j ∧ Qi (w.1, enumD j w.2) S) := by unfold enumSR; rw [ru_ck, ru_ok]
def zipR (strict : Bool) (x y : D) (o o' : Option (List D)) (S : Sto) : R (Src × List D) := match o, o' with
  | some xs, some ys => ck ((strict = true → xs.length = ys.length) ∧ isRef x = false ∧ isRef y = false ∧ (strict = true ∨ kOf x = kOf y ∧ mixZ xs ys = true)) (.ok (.fix, zipD xs ys) S)
  | _, _ => .err
theorem ru_zip {strict : Bool} : Ru (evIt F (.zip strict a b) ρ S) Qi E = Ru (ev F a ρ S) (fun x S => Ru (ev F b ρ S) (fun y S => Ru (zipR strict x y (seqOf S x) (seqOf S y) S) Qi E) E) E := by rw [evIt]; simp only [ru_bind]; congr 1 <;> (funext x S; congr 1 <;> (funext y S; cases seqOf S x <;> cases seqOf S y <;> rfl))
instance {strict : Bool} : Stp1 (Ru (evIt F (.zip strict a b) ρ S) Qi E) (Ru (ev F a ρ S) (fun x S => Ru (ev F b ρ S) (fun y S => Ru (zipR strict x y (seqOf S x) (seqOf S y) S) Qi E) E) E) := ⟨ru_zip.mpr⟩
theorem ru_zipR {strict : Bool} {x y : D} {xs ys : List D} : Ru (zipR strict x y (some xs) (some ys) S) Qi E = (((strict = true → xs.length = ys.length) ∧ isRef x = false ∧ isRef y = false ∧ (strict = true ∨ kOf x = kOf y ∧ mixZ xs ys = true)) ∧ Qi (.fix, zipD xs ys) S) := by unfold zipR; rw [ru_ck, ru_ok]
theorem ru_aVar {j : Nat} : Ru (asg F (.var j) d ρ S) Qe E = Qe (ρ.set j (some d)) S := by rw [asg, ru_ok]
instance {j : Nat} : Stp1 (Ru (asg F (.var j) d ρ S) Qe E) (Qe (ρ.set j (some d)) S) := ⟨ru_aVar.mpr⟩
noncomputable def tupA (F : CE) (ts : List Tg) (ρ : Env) (o : Option (List D)) (S : Sto) : R Env := match o with
  | some xs => ck (xs.length = ts.length) (asgs F ts xs ρ S)
  | none => .err
theorem ru_aTup : Ru (asg F (.tup ts) d ρ S) Qe E = Ru (tupA F ts ρ (seqOf S d) S) Qe E := by rw [asg]; cases seqOf S d <;> rfl
instance  : Stp1 (Ru (asg F (.tup ts) d ρ S) Qe E) (Ru (tupA F ts ρ (seqOf S d) S) Qe E) := ⟨ru_aTup.mpr⟩
theorem ru_tupA {xs : List D} : Ru (tupA F ts ρ (some xs) S) Qe E = (xs.length = ts.length ∧ Ru (asgs F ts xs ρ S) Qe E) := ru_ck
noncomputable def tupsA (F : CE) (ts : List Tg) (ρ : Env) (o : Option (List D)) (S : Sto) : R Env := match o with
  | some xs => ck (1 ≤ ts.length ∧ ts.length ≤ xs.length + 1 ∧ xs.length ≤ 16384) (asgs F ts (xs.take (ts.length - 1) ++ [.lst (xs.drop (ts.length - 1))]) ρ S)
  | none => .err
theorem ru_aTups : Ru (asg F (.tups ts) d ρ S) Qe E = Ru (tupsA F ts ρ (seqOf S d) S) Qe E := by rw [asg]; cases seqOf S d <;> rfl
instance  : Stp1 (Ru (asg F (.tups ts) d ρ S) Qe E) (Ru (tupsA F ts ρ (seqOf S d) S) Qe E) := ⟨ru_aTups.mpr⟩
theorem ru_tupsA {xs : List D} : Ru (tupsA F ts ρ (some xs) S) Qe E = ((1 ≤ ts.length ∧ ts.length ≤ xs.length + 1 ∧ xs.length ≤ 16384) ∧ Ru (asgs F ts (xs.take (ts.length - 1) ++ [.lst (xs.drop (ts.length - 1))]) ρ S) Qe E) := ru_ck
theorem ru_aIdx : Ru (asg F (.idx a i) d ρ S) Qe E = Ru (ev F a ρ S) (fun x S => Ru (ev F i ρ S) (fun y S => Ru (sidxR x y d S) (fun _ S => Qe ρ S) E) E) E := by rw [asg]; simp only [ru_bind, ru_ok]
instance  : Stp1 (Ru (asg F (.idx a i) d ρ S) Qe E) (Ru (ev F a ρ S) (fun x S => Ru (ev F i ρ S) (fun y S => Ru (sidxR x y d S) (fun _ S => Qe ρ S) E) E) E) := ⟨ru_aIdx.mpr⟩
theorem ru_aAttr {f : Nat} {cs : List Nat} : Ru (asg F (.attr a f cs) d ρ S) Qe E = Ru (ev F a ρ S) (fun x S => Ru (sattrR x f cs d S) (fun _ S => Qe ρ S) E) E := by rw [asg]; simp only [ru_bind, ru_ok]
instance {f : Nat} {cs : List Nat} : Stp1 (Ru (asg F (.attr a f cs) d ρ S) Qe E) (Ru (ev F a ρ S) (fun x S => Ru (sattrR x f cs d S) (fun _ S => Qe ρ S) E) E) := ⟨ru_aAttr.mpr⟩
theorem ru_aSlc : Ru (asg F (.slc a b c) d ρ S) Qe E = Ru (ev F a ρ S) (fun x S => Ru (ev F b ρ S) (fun l S => Ru (ev F c ρ S) (fun h S => Ru (sslcR x l h d S) (fun _ S => Qe ρ S) E) E) E) E := by rw [asg]; simp only [ru_bind, ru_ok]
instance  : Stp1 (Ru (asg F (.slc a b c) d ρ S) Qe E) (Ru (ev F a ρ S) (fun x S => Ru (ev F b ρ S) (fun l S => Ru (ev F c ρ S) (fun h S => Ru (sslcR x l h d S) (fun _ S => Qe ρ S) E) E) E) E) := ⟨ru_aSlc.mpr⟩
theorem ru_as0 : Ru (asgs F [] [] ρ S) Qe E = Qe ρ S := by rw [asgs, ru_ok]
instance  : Stp1 (Ru (asgs F [] [] ρ S) Qe E) (Qe ρ S) := ⟨ru_as0.mpr⟩
theorem ru_as1 {ds : List D} : Ru (asgs F (t :: ts) (d :: ds) ρ S) Qe E = Ru (asg F t d ρ S) (fun ρ S => Ru (asgs F ts ds ρ S) Qe E) E := by rw [asgs]; simp only [ru_bind]
instance {ds : List D} : Stp1 (Ru (asgs F (t :: ts) (d :: ds) ρ S) Qe E) (Ru (asg F t d ρ S) (fun ρ S => Ru (asgs F ts ds ρ S) Qe E) E) := ⟨ru_as1.mpr⟩
theorem ru_sExpr : Ru (ex F (.expr e) ρ S) Qf E = Ru (ev F e ρ S) (fun _ S => Qf (.next ρ) S) (fun x S => Qf (.raised x ρ) S) := by rw [ex]; simp only [ru_go, ru_ok]
instance  : Stp1 (Ru (ex F (.expr e) ρ S) Qf E) (Ru (ev F e ρ S) (fun _ S => Qf (.next ρ) S) (fun x S => Qf (.raised x ρ) S)) := ⟨ru_sExpr.mpr⟩
theorem ru_sAsg : Ru (ex F (.asg t e) ρ S) Qf E = Ru (ev F e ρ S) (fun d S => Ru (asg F t d ρ S) (fun ρ S => Qf (.next ρ) S) noE) (fun x S => Qf (.raised x ρ) S) := by rw [ex]; simp only [ru_go, ru_st, ru_ok]
instance  : Stp1 (Ru (ex F (.asg t e) ρ S) Qf E) (Ru (ev F e ρ S) (fun d S => Ru (asg F t d ρ S) (fun ρ S => Qf (.next ρ) S) noE) (fun x S => Qf (.raised x ρ) S)) := ⟨ru_sAsg.mpr⟩
theorem ru_sAug {op : Bop} {j : Nat} (h : ρ[j]? = some (some d)) : Ru (ex F (.aug j op e) ρ S) Qf E = Ru (ev F e ρ S) (fun y S => Ru (augR op d y S) (fun z S => Qf (.next (ρ.set j (some z))) S) (fun x S => Qf (.raised x ρ) S)) (fun x S => Qf (.raised x ρ) S) := by
  rw [ex, h]; simp only [ru_go, ru_bind, ru_ok]
theorem ru_sIte : Ru (ex F (.ite c body els) ρ S) Qf E = Ru (ev F c ρ S) (fun x S => Ru (tru x S) (fun k S => if k = true then Ru (exs F body ρ S) Qf E else Ru (exs F els ρ S) Qf E) (fun x S => Qf (.raised x ρ) S)) (fun x S => Qf (.raised x ρ) S) := by
  rw [ex]; simp only [ru_go, ru_bind, ru_ite]
theorem ru_sFor : Ru (ex F (.for t it body) ρ S) Qf E = Ru (evIt F it ρ S) (fun w S => Ru (forLoop w.1 (forStep F t body) w.2 ρ S) Qf E) (fun x S => Qf (.raised x ρ) S) := by rw [ex]; simp only [ru_go]
instance  : Stp1 (Ru (ex F (.for t it body) ρ S) Qf E) (Ru (evIt F it ρ S) (fun w S => Ru (forLoop w.1 (forStep F t body) w.2 ρ S) Qf E) (fun x S => Qf (.raised x ρ) S)) := ⟨ru_sFor.mpr⟩
theorem ru_sRet : Ru (ex F (.ret e) ρ S) Qf E = Ru (ev F e ρ S) (fun d S => Qf (.ret d) S) (fun x S => Qf (.raised x ρ) S) := by rw [ex]; simp only [ru_go, ru_ok]
instance  : Stp1 (Ru (ex F (.ret e) ρ S) Qf E) (Ru (ev F e ρ S) (fun d S => Qf (.ret d) S) (fun x S => Qf (.raised x ρ) S)) := ⟨ru_sRet.mpr⟩
theorem ru_sRetN : Ru (ex F .retN ρ S) Qf E = Qf (.ret .non) S := by rw [ex, ru_ok]
instance  : Stp1 (Ru (ex F .retN ρ S) Qf E) (Qf (.ret .non) S) := ⟨ru_sRetN.mpr⟩
theorem ru_sBrk : Ru (ex F .brk ρ S) Qf E = Qf (.brk ρ) S := by rw [ex, ru_ok]
instance  : Stp1 (Ru (ex F .brk ρ S) Qf E) (Qf (.brk ρ) S) := ⟨ru_sBrk.mpr⟩
theorem ru_sCont : Ru (ex F .cont ρ S) Qf E = Qf (.cont ρ) S := by rw [ex, ru_ok]
instance  : Stp1 (Ru (ex F .cont ρ S) Qf E) (Qf (.cont ρ) S) := ⟨ru_sCont.mpr⟩
theorem ru_sPass : Ru (ex F .pass ρ S) Qf E = Qf (.next ρ) S := by rw [ex, ru_ok]
instance  : Stp1 (Ru (ex F .pass ρ S) Qf E) (Qf (.next ρ) S) := ⟨ru_sPass.mpr⟩
def nxQ (F : CE) (sts : List St) (Q : Fl → Sto → Prop) (E : Exc → Sto → Prop) (w : Fl) (S : Sto) : Prop := match w with
  | .next ρ => Ru (exs F sts ρ S) Q E
  | w => Q w S
theorem ru_exs0 : Ru (exs F [] ρ S) Qf E = Qf (.next ρ) S := by rw [exs, ru_ok]
instance  : Stp1 (Ru (exs F [] ρ S) Qf E) (Qf (.next ρ) S) := ⟨ru_exs0.mpr⟩
theorem ru_exs1 : Ru (exs F (st :: sts) ρ S) Qf E = Ru (ex F st ρ S) (nxQ F sts Qf E) noE := by
  rw [exs, ru_fl]
  congr 1 <;> (funext w S; cases w <;> rfl)
instance  : Stp1 (Ru (exs F (st :: sts) ρ S) Qf E) (Ru (ex F st ρ S) (nxQ F sts Qf E) noE) := ⟨ru_exs1.mpr⟩
theorem nx_next : nxQ F sts Qf E (.next ρ) S = Ru (exs F sts ρ S) Qf E := rfl
instance  : Stp1 (nxQ F sts Qf E (.next ρ) S) (Ru (exs F sts ρ S) Qf E) := ⟨nx_next.mpr⟩
theorem nx_ret : nxQ F sts Qf E (.ret d) S = Qf (.ret d) S := rfl
instance  : Stp1 (nxQ F sts Qf E (.ret d) S) (Qf (.ret d) S) := ⟨nx_ret.mpr⟩
theorem nx_brk : nxQ F sts Qf E (.brk ρ) S = Qf (.brk ρ) S := rfl
instance  : Stp1 (nxQ F sts Qf E (.brk ρ) S) (Qf (.brk ρ) S) := ⟨nx_brk.mpr⟩
theorem nx_cont : nxQ F sts Qf E (.cont ρ) S = Qf (.cont ρ) S := rfl
instance  : Stp1 (nxQ F sts Qf E (.cont ρ) S) (Qf (.cont ρ) S) := ⟨nx_cont.mpr⟩
theorem nx_raised {y : Exc} : nxQ F sts Qf E (.raised y ρ) S = Qf (.raised y ρ) S := rfl
instance {y : Exc} : Stp1 (nxQ F sts Qf E (.raised y ρ) S) (Qf (.raised y ρ) S) := ⟨nx_raised.mpr⟩
theorem turn_next {K : Env → Sto → Prop} : turnQ K Qf (.next ρ) S = K ρ S := rfl
instance {K : Env → Sto → Prop} : Stp1 (turnQ K Qf (.next ρ) S) (K ρ S) := ⟨turn_next.mpr⟩
theorem turn_cont {K : Env → Sto → Prop} : turnQ K Qf (.cont ρ) S = K ρ S := rfl
instance {K : Env → Sto → Prop} : Stp1 (turnQ K Qf (.cont ρ) S) (K ρ S) := ⟨turn_cont.mpr⟩
theorem turn_brk {K : Env → Sto → Prop} : turnQ K Qf (.brk ρ) S = Qf (.next ρ) S := rfl
instance {K : Env → Sto → Prop} : Stp1 (turnQ K Qf (.brk ρ) S) (Qf (.next ρ) S) := ⟨turn_brk.mpr⟩
theorem turn_ret {K : Env → Sto → Prop} : turnQ K Qf (.ret d) S = Qf (.ret d) S := rfl
instance {K : Env → Sto → Prop} : Stp1 (turnQ K Qf (.ret d) S) (Qf (.ret d) S) := ⟨turn_ret.mpr⟩
theorem turn_raised {K : Env → Sto → Prop} {y : Exc} : turnQ K Qf (.raised y ρ) S = Qf (.raised y ρ) S := rfl
instance {K : Env → Sto → Prop} {y : Exc} : Stp1 (turnQ K Qf (.raised y ρ) S) (Qf (.raised y ρ) S) := ⟨turn_raised.mpr⟩
/-- a def's end -/
def runQ (Q : D → Sto → Prop) (E : Exc → Sto → Prop) (w : Fl) (S : Sto) : Prop := match w with
  | .ret d => Q d S
  | .next _ => Q .non S
  | .raised x _ => E x S
  | _ => False
theorem run_qret : runQ Q E (.ret d) S = Q d S := rfl
instance  : Stp1 (runQ Q E (.ret d) S) (Q d S) := ⟨run_qret.mpr⟩
theorem run_qnext : runQ Q E (.next ρ) S = Q .non S := rfl
instance  : Stp1 (runQ Q E (.next ρ) S) (Q .non S) := ⟨run_qnext.mpr⟩
theorem run_qraised {y : Exc} : runQ Q E (.raised y ρ) S = E y S := rfl
instance {y : Exc} : Stp1 (runQ Q E (.raised y ρ) S) (E y S) := ⟨run_qraised.mpr⟩
theorem ru_run {n : Nat} {ds : List D} : Ru (Iv.run F n body ds S) Q E = Ru (exs F body (ds.map some ++ List.replicate (n - ds.length) none) S) (runQ Q E) noE := by
  unfold Iv.run
  cases exs F body (ds.map some ++ List.replicate (n - ds.length) none) S with
  | ok w S => cases w <;> simp only [ru_ok, ru_exc, ru_err, runQ]
  | exc x S => rw [ru_exc, ru_err]
  | err => rw [ru_err, ru_err]
/-- a def is gone into -/
theorem Ru.def {T : List Fn} {k f : Nat} {fn : Fn} {ds : List D} (h : T[f]? = some fn) (hl : ds.length = fn.np) (w : Ru (exs (callN T k) fn.body (ds.map some ++ List.replicate (fn.n - ds.length) none) S) (runQ Q E) noE) : Ru (callN T (k + 1) f ds S) Q E := by
  rw [callN_at h hl, ru_run]
  exact w
/-- loops -/
theorem Ru.for {src : Src} {step : D → Env → Sto → R Fl} {items : List D} (Inv : Nat → Env → Sto → Prop) (h0 : Inv 0 ρ S) (ht : ∀ i ρ S, Inv i ρ S → src.there S)
    (hs : ∀ i d ρ S, items[i]? = some d → Inv i ρ S → Ru (step d ρ S) (turnQ (Inv (i + 1)) Qf) noE) (he : ∀ ρ S, Inv items.length ρ S → Qf (.next ρ) S) : Ru (forLoop src step items ρ S) Qf E := by
  have go : ∀ (n i : Nat) (ρ : Env) (S : Sto), items.length - i = n → i ≤ items.length → Inv i ρ S → Ru (forLoop src step (items.drop i) ρ S) Qf E := by
    intro n
    induction n with
    | zero =>
      intro i ρ S hn hi hI
      have e : i = items.length := by omega
      subst e
      rw [List.drop_length, forLoop, ck_of (ht _ _ _ hI), ru_ok]
      exact he _ _ hI
    | succ n ih =>
      intro i ρ S hn hi hI
      have hlt : i < items.length := by omega
      rw [List.drop_eq_getElem_cons hlt, forLoop, ck_of (ht _ _ _ hI), ru_turn]
      refine (hs i _ ρ S (List.getElem?_eq_getElem hlt) hI).imp (fun w S' q => ?_) fun _ _ h => h
      cases w with
      | next ρ' => exact ih (i + 1) ρ' S' (by omega) hlt q
      | cont ρ' => exact ih (i + 1) ρ' S' (by omega) hlt q
      | brk ρ' => exact q
      | ret d => exact q
      | raised x ρ' => exact q
  exact go _ 0 ρ S rfl (Nat.zero_le _) h0
theorem Ru.lc {src : Src} {step : D → Sto → R (List D)} {items : List D} (Inv : Nat → List D → Sto → Prop) (h0 : Inv 0 [] S) (ht : ∀ i ys S, Inv i ys S → src.there S)
    (hs : ∀ i d ys S, items[i]? = some d → Inv i ys S → Ru (step d S) (fun zs S' => Inv (i + 1) (ys ++ zs) S') noE) (he : ∀ ys S, Inv items.length ys S → Qs ys S) : Ru (lcLoop src step items S) Qs E := by
  obtain ⟨ys, S', e, h⟩ := lcLoop_inv (step := step) Inv h0 ht fun i d ys S hd hI => by
    obtain ⟨zs, S', e, h⟩ := (hs i d ys S hd hI).ex
    exact ⟨zs, S', e, h⟩
  rw [e, ru_ok]
  exact he _ _ h
/-- each item by itself, the store as it was -/
theorem Ru.lcp {src : Src} {step : D → Sto → R (List D)} {items : List D} (f : D → List D) (ht : src.there S) (hs : ∀ d ∈ items, Ru (step d S) (fun zs S' => zs = f d ∧ S' = S) noE) (he : Qs (items.flatMap f) S) : Ru (lcLoop src step items S) Qs E := by
  refine Ru.lc (fun i ys S' => ys = (items.take i).flatMap f ∧ S' = S) ⟨by rw [List.take_zero]; rfl, rfl⟩ (fun i ys S' h => by rw [h.2]; exact ht) (fun i d ys S' hd ⟨h1, h2⟩ => ?_) fun ys S' ⟨h1, h2⟩ => by rw [h1, h2, List.take_length]; exact he
  subst h2
  refine (hs d (List.mem_of_getElem? hd)).imp (fun zs S2 ⟨q1, q2⟩ => ⟨?_, q2⟩) fun _ _ h => h
  rw [h1, q1, List.take_succ, hd, List.flatMap_append]
  simp
theorem Ru.lcm {src : Src} {step : D → Sto → R (List D)} {α : Type} {items : List α} (enc : α → D) (f : α → List D) (ht : src.there S) (hs : ∀ a ∈ items, Ru (step (enc a) S) (fun zs S' => zs = f a ∧ S' = S) noE) (he : Qs (items.flatMap f) S) : Ru (lcLoop src step (items.map enc) S) Qs E := by
  rw [lcLoop_encS ht fun a ha => (hs a ha).is, ru_ok]
  exact he
theorem ru_step : Ru (forStep F t body d ρ S) Qf E = Ru (asg F t d ρ S) (fun ρ S => Ru (exs F body ρ S) Qf E) noE := ru_st
instance  : Stp1 (Ru (forStep F t body d ρ S) Qf E) (Ru (asg F t d ρ S) (fun ρ S => Ru (exs F body ρ S) Qf E) noE) := ⟨ru_step.mpr⟩
theorem ru_lcStep : Ru (lcStep F own t ifs e ρ d S) Qs E = Ru (asg F t d (wipeE ρ own) S) (fun ρ1 S => Ru (evIfs F ifs ρ1 S) (fun k S => if k = true then Ru (ev F e ρ1 S) (fun y S => Qs [y] S) E else Qs [] S) E) E := by
  unfold lcStep
  simp only [ru_bind, ru_ite, ru_ok]
instance  : Stp1 (Ru (lcStep F own t ifs e ρ d S) Qs E) (Ru (asg F t d (wipeE ρ own) S) (fun ρ1 S => Ru (evIfs F ifs ρ1 S) (fun k S => if k = true then Ru (ev F e ρ1 S) (fun y S => Qs [y] S) E else Qs [] S) E) E) := ⟨ru_lcStep.mpr⟩
theorem ru_lcStepB {ifs1 : List Iv.E} : Ru (lcStepB F own own1 t ifs t1 it1 ifs1 e ρ d S) Qs E = Ru (asg F t d (wipeE ρ own) S) (fun ρ1 S => Ru (evIfs F ifs ρ1 S) (fun k S => if k = true then Ru (evIt F it1 ρ1 S) (fun w S => Ru (lcLoop w.1 (lcStep F own1 t1 ifs1 e ρ1) w.2 S) Qs E) E else Qs [] S) E) E := by
  unfold lcStepB
  simp only [ru_bind, ru_ite, ru_ok]
instance {ifs1 : List Iv.E} : Stp1 (Ru (lcStepB F own own1 t ifs t1 it1 ifs1 e ρ d S) Qs E) (Ru (asg F t d (wipeE ρ own) S) (fun ρ1 S => Ru (evIfs F ifs ρ1 S) (fun k S => if k = true then Ru (evIt F it1 ρ1 S) (fun w S => Ru (lcLoop w.1 (lcStep F own1 t1 ifs1 e ρ1) w.2 S) Qs E) E else Qs [] S) E) E) := ⟨ru_lcStepB.mpr⟩
end
/-! what operators tell -/
section
variable {S : Sto} {i j : Int} {z z' : Str} {xs ys : List D} {b : Bool} {d : D} {n m : Nat} {Q : D → Sto → Prop} {E : Exc → Sto → Prop}
theorem bin_addI {box : Bool} : binR box .add (.int i) (.int j) S = .ok (.int (i + j)) S := rfl
instance {box : Bool} : Res (binR box .add (.int i) (.int j) S) (.ok (.int (i + j)) S) := ⟨bin_addI⟩
theorem bin_subI {box : Bool} : binR box .sub (.int i) (.int j) S = .ok (.int (i - j)) S := rfl
instance {box : Bool} : Res (binR box .sub (.int i) (.int j) S) (.ok (.int (i - j)) S) := ⟨bin_subI⟩
theorem bin_mulI {box : Bool} : binR box .mul (.int i) (.int j) S = ck (mulOk i j) (.ok (.int (i * j)) S) := rfl
theorem bin_divI {box : Bool} : binR box .div (.int i) (.int j) S = ck (0 < j ∧ j < 1073741824) (.ok (.int (i / j)) S) := rfl
theorem bin_modI {box : Bool} : binR box .mod (.int i) (.int j) S = ck (0 < j) (.ok (.int (i % j)) S) := rfl
theorem bin_addT {box : Bool} : binR box .add (.tup xs) (.tup ys) S = ck (xs.length + ys.length ≤ sizeLine) (.ok (.tup (xs ++ ys)) S) := rfl
theorem neg_I : negR (.int i) S = .ok (.int (-i)) S := rfl
instance  : Res (negR (.int i) S) (.ok (.int (-i)) S) := ⟨neg_I⟩
theorem tru_b : tru (.bl b) S = .ok b S := rfl
instance  : Res (tru (.bl b) S) (.ok b S) := ⟨tru_b⟩
theorem tru_i : tru (.int i) S = .ok (i != 0) S := rfl
instance  : Res (tru (.int i) S) (.ok (i != 0) S) := ⟨tru_i⟩
theorem cmp_ltI : cmpR .lt (.int i) (.int j) S = .ok (.bl (decide (i < j))) S := rfl
instance  : Res (cmpR .lt (.int i) (.int j) S) (.ok (.bl (decide (i < j))) S) := ⟨cmp_ltI⟩
theorem cmp_leI : cmpR .le (.int i) (.int j) S = .ok (.bl (decide (i ≤ j))) S := rfl
instance  : Res (cmpR .le (.int i) (.int j) S) (.ok (.bl (decide (i ≤ j))) S) := ⟨cmp_leI⟩
theorem cmp_gtI : cmpR .gt (.int i) (.int j) S = .ok (.bl (decide (j < i))) S := rfl
instance  : Res (cmpR .gt (.int i) (.int j) S) (.ok (.bl (decide (j < i))) S) := ⟨cmp_gtI⟩
theorem cmp_geI : cmpR .ge (.int i) (.int j) S = .ok (.bl (decide (j ≤ i))) S := rfl
instance  : Res (cmpR .ge (.int i) (.int j) S) (.ok (.bl (decide (j ≤ i))) S) := ⟨cmp_geI⟩
theorem cmp_isN : cmpR .isN d .non S = .ok (.bl (match d with | .non => true | _ => false)) S := rfl
instance  : Res (cmpR .isN d .non S) (.ok (.bl (match d with | .non => true | _ => false)) S) := ⟨cmp_isN⟩
theorem cmp_notN : cmpR .notN d .non S = .ok (.bl (match d with | .non => false | _ => true)) S := rfl
instance  : Res (cmpR .notN d .non S) (.ok (.bl (match d with | .non => false | _ => true)) S) := ⟨cmp_notN⟩
theorem cmp_isB {b' : Bool} : cmpR .isN (.bl b) (.bl b') S = .ok (.bl (decide (b = b'))) S := rfl
instance {b' : Bool} : Res (cmpR .isN (.bl b) (.bl b') S) (.ok (.bl (decide (b = b'))) S) := ⟨cmp_isB⟩
theorem cmp_eqI : cmpR .eq (.int i) (.int j) S = .ok (.bl (i == j)) S := by
  show ck ((unbox S (.int i)).fz = true ∧ (unbox S (.int j)).fz = true ∧ (unbox S (.int i)).dp ≤ 64 ∧ (unbox S (.int j)).dp ≤ 64) (R.ok (D.bl ((unbox S (.int i)).eqv (unbox S (.int j)))) S) = _
  rw [ck_of ⟨by simp [unbox, D.fz], by simp [unbox, D.fz], by simp [unbox, D.dp], by simp [unbox, D.dp]⟩]
  simp only [unbox, eqv_int]
instance  : Res (cmpR .eq (.int i) (.int j) S) (.ok (.bl (i == j)) S) := ⟨cmp_eqI⟩
theorem cmp_neI : cmpR .ne (.int i) (.int j) S = .ok (.bl (!(i == j))) S := by
  show ck ((unbox S (.int i)).fz = true ∧ (unbox S (.int j)).fz = true ∧ (unbox S (.int i)).dp ≤ 64 ∧ (unbox S (.int j)).dp ≤ 64) (R.ok (D.bl (!((unbox S (.int i)).eqv (unbox S (.int j))))) S) = _
  rw [ck_of ⟨by simp [unbox, D.fz], by simp [unbox, D.fz], by simp [unbox, D.dp], by simp [unbox, D.dp]⟩]
  simp only [unbox, eqv_int]
instance  : Res (cmpR .ne (.int i) (.int j) S) (.ok (.bl (!(i == j))) S) := ⟨cmp_neI⟩
theorem eqv_str : D.eqv (.str z) (.str z') = (z == z') := by simp [D.eqv]
theorem cmp_eqS : cmpR .eq (.str z) (.str z') S = .ok (.bl (z == z')) S := by
  show ck ((unbox S (.str z)).fz = true ∧ (unbox S (.str z')).fz = true ∧ (unbox S (.str z)).dp ≤ 64 ∧ (unbox S (.str z')).dp ≤ 64) (R.ok (D.bl ((unbox S (.str z)).eqv (unbox S (.str z')))) S) = _
  rw [ck_of ⟨by simp [unbox, D.fz], by simp [unbox, D.fz], by simp [unbox, D.dp], by simp [unbox, D.dp]⟩]
  simp only [unbox, eqv_str]
instance  : Res (cmpR .eq (.str z) (.str z') S) (.ok (.bl (z == z')) S) := ⟨cmp_eqS⟩
theorem cmp_neS : cmpR .ne (.str z) (.str z') S = .ok (.bl (!(z == z'))) S := by
  show ck ((unbox S (.str z)).fz = true ∧ (unbox S (.str z')).fz = true ∧ (unbox S (.str z)).dp ≤ 64 ∧ (unbox S (.str z')).dp ≤ 64) (R.ok (D.bl (!((unbox S (.str z)).eqv (unbox S (.str z'))))) S) = _
  rw [ck_of ⟨by simp [unbox, D.fz], by simp [unbox, D.fz], by simp [unbox, D.dp], by simp [unbox, D.dp]⟩]
  simp only [unbox, eqv_str]
instance  : Res (cmpR .ne (.str z) (.str z') S) (.ok (.bl (!(z == z'))) S) := ⟨cmp_neS⟩
theorem unbox_fz1 (h : d.fz = true) : unbox S d = d := by cases d <;> first | rfl | cases h
/-- == of frozen things -/
theorem ru_eq {x y : D} (fx : x.fz = true) (fy : y.fz = true) : Ru (cmpR .eq x y S) Q E = ((x.dp ≤ 64 ∧ y.dp ≤ 64) ∧ Q (.bl (x.eqv y)) S) := by
  show Ru (ck ((unbox S x).fz = true ∧ (unbox S y).fz = true ∧ (unbox S x).dp ≤ 64 ∧ (unbox S y).dp ≤ 64) (R.ok (D.bl ((unbox S x).eqv (unbox S y))) S)) Q E = _
  rw [unbox_fz1 fx, unbox_fz1 fy, ru_ck, ru_ok]
  exact propext ⟨fun ⟨⟨_, _, a⟩, b⟩ => ⟨a, b⟩, fun ⟨a, b⟩ => ⟨⟨fx, fy, a⟩, b⟩⟩
theorem ru_ne {x y : D} (fx : x.fz = true) (fy : y.fz = true) : Ru (cmpR .ne x y S) Q E = ((x.dp ≤ 64 ∧ y.dp ≤ 64) ∧ Q (.bl (!(x.eqv y))) S) := by
  show Ru (ck ((unbox S x).fz = true ∧ (unbox S y).fz = true ∧ (unbox S x).dp ≤ 64 ∧ (unbox S y).dp ≤ 64) (R.ok (D.bl (!((unbox S x).eqv (unbox S y)))) S)) Q E = _
  rw [unbox_fz1 fx, unbox_fz1 fy, ru_ck, ru_ok]
  exact propext ⟨fun ⟨⟨_, _, a⟩, b⟩ => ⟨a, b⟩, fun ⟨a, b⟩ => ⟨⟨fx, fy, a⟩, b⟩⟩
theorem ru_eqd {x y x' y' : D} (ex : deep 8 S x = x') (ey : deep 8 S y = y') : Ru (cmpR .eqd x y S) Q E = ((x'.fz = true ∧ y'.fz = true ∧ x'.dp ≤ 64 ∧ y'.dp ≤ 64) ∧ Q (.bl (x'.eqv y')) S) := by
  subst ex ey
  show Ru (ck _ _) Q E = _
  rw [ru_ck, ru_ok]
theorem ru_ned {x y x' y' : D} (ex : deep 8 S x = x') (ey : deep 8 S y = y') : Ru (cmpR .ned x y S) Q E = ((x'.fz = true ∧ y'.fz = true ∧ x'.dp ≤ 64 ∧ y'.dp ≤ 64) ∧ Q (.bl (!(x'.eqv y'))) S) := by
  subst ex ey
  show Ru (ck _ _) Q E = _
  rw [ru_ck, ru_ok]
theorem cmp_eqdI : cmpR .eqd (.int i) (.int j) S = .ok (.bl (i == j)) S := by
  refine Ru.is ?_
  rw [ru_eqd (x' := .int i) (y' := .int j) rfl rfl, eqv_int]
  exact ⟨⟨by simp [D.fz], by simp [D.fz], by simp [D.dp], by simp [D.dp]⟩, rfl, rfl⟩
instance  : Res (cmpR .eqd (.int i) (.int j) S) (.ok (.bl (i == j)) S) := ⟨cmp_eqdI⟩
theorem cmp_nedI : cmpR .ned (.int i) (.int j) S = .ok (.bl (!(i == j))) S := by
  refine Ru.is ?_
  rw [ru_ned (x' := .int i) (y' := .int j) rfl rfl, eqv_int]
  exact ⟨⟨by simp [D.fz], by simp [D.fz], by simp [D.dp], by simp [D.dp]⟩, rfl, rfl⟩
instance  : Res (cmpR .ned (.int i) (.int j) S) (.ok (.bl (!(i == j))) S) := ⟨cmp_nedI⟩
theorem idx_tup0 {x : D} : idxR (.tup (x :: xs)) (.int 0) S = .ok x S := rfl
instance {x : D} : Res (idxR (.tup (x :: xs)) (.int 0) S) (.ok x S) := ⟨idx_tup0⟩
theorem idx_tup1 {x y : D} : idxR (.tup (x :: y :: xs)) (.int 1) S = .ok y S := rfl
instance {x y : D} : Res (idxR (.tup (x :: y :: xs)) (.int 1) S) (.ok y S) := ⟨idx_tup1⟩
theorem idx_tup2 {x y z : D} : idxR (.tup (x :: y :: z :: xs)) (.int 2) S = .ok z S := rfl
instance {x y z : D} : Res (idxR (.tup (x :: y :: z :: xs)) (.int 2) S) (.ok z S) := ⟨idx_tup2⟩
theorem idx_lst0 {x : D} : idxR (.lst (x :: xs)) (.int 0) S = .ok x S := rfl
instance {x : D} : Res (idxR (.lst (x :: xs)) (.int 0) S) (.ok x S) := ⟨idx_lst0⟩
theorem idx_lst1 {x y : D} : idxR (.lst (x :: y :: xs)) (.int 1) S = .ok y S := rfl
instance {x y : D} : Res (idxR (.lst (x :: y :: xs)) (.int 1) S) (.ok y S) := ⟨idx_lst1⟩
theorem idx_tup3 {x y z w : D} : idxR (.tup (x :: y :: z :: w :: xs)) (.int 3) S = .ok w S := rfl
instance {x y z w : D} : Res (idxR (.tup (x :: y :: z :: w :: xs)) (.int 3) S) (.ok w S) := ⟨idx_tup3⟩
theorem bi_lenT : biR .len [.tup xs] S = .ok (.int (xs.length : Nat)) S := rfl
instance  : Res (biR .len [.tup xs] S) (.ok (.int (xs.length : Nat)) S) := ⟨bi_lenT⟩
theorem bi_lenL : biR .len [.lst xs] S = .ok (.int (xs.length : Nat)) S := rfl
instance  : Res (biR .len [.lst xs] S) (.ok (.int (xs.length : Nat)) S) := ⟨bi_lenL⟩
theorem bi_lenC : biR .len [.scr xs] S = .ok (.int (xs.length : Nat)) S := rfl
instance  : Res (biR .len [.scr xs] S) (.ok (.int (xs.length : Nat)) S) := ⟨bi_lenC⟩
theorem bi_lenS : biR .len [.str z] S = .ok (.int (z.length : Nat)) S := rfl
instance  : Res (biR .len [.str z] S) (.ok (.int (z.length : Nat)) S) := ⟨bi_lenS⟩
theorem bi_lenB (h : cellAt S n = some (.lst xs)) : biR .len [.ref n] S = .ok (.int (xs.length : Nat)) S := by
  show (match (seqOf S (.ref n)).map (·.length) with | some n => R.ok (D.int (n : Nat)) S | none => .err) = _
  rw [seqOf_box h]
  rfl
theorem bi_tupT : biR .tuple1 [.tup xs] S = .ok (.tup xs) S := rfl
instance  : Res (biR .tuple1 [.tup xs] S) (.ok (.tup xs) S) := ⟨bi_tupT⟩
theorem bi_tupL : biR .tuple1 [.lst xs] S = .ok (.tup xs) S := rfl
instance  : Res (biR .tuple1 [.lst xs] S) (.ok (.tup xs) S) := ⟨bi_tupL⟩
theorem bi_listB {box : Bool} (h : cellAt S n = some (.lst xs)) : biR (.list1 box) [.ref n] S = mkL box xs S := by
  show (match seqOf S (.ref n) with | some xs => mkL box xs S | none => .err) = _
  rw [seqOf_box h]
theorem bi_min2 : biR .min2 [.int i, .int j] S = .ok (.int (if j < i then j else i)) S := rfl
instance  : Res (biR .min2 [.int i, .int j] S) (.ok (.int (if j < i then j else i)) S) := ⟨bi_min2⟩
theorem bi_max2 : biR .max2 [.int i, .int j] S = .ok (.int (if j > i then j else i)) S := rfl
instance  : Res (biR .max2 [.int i, .int j] S) (.ok (.int (if j > i then j else i)) S) := ⟨bi_max2⟩
theorem bi_abs : biR .abs [.int i] S = .ok (.int (if i < 0 then -i else i)) S := rfl
instance  : Res (biR .abs [.int i] S) (.ok (.int (if i < 0 then -i else i)) S) := ⟨bi_abs⟩
theorem bi_intI : biR .int1 [.int i] S = .ok (.int i) S := rfl
instance  : Res (biR .int1 [.int i] S) (.ok (.int i) S) := ⟨bi_intI⟩
theorem bi_intB : biR .int1 [.bl b] S = .ok (.int (if b then 1 else 0)) S := rfl
instance  : Res (biR .int1 [.bl b] S) (.ok (.int (if b then 1 else 0)) S) := ⟨bi_intB⟩
theorem mk_lst : mkL false xs S = .ok (.lst xs) S := rfl
instance  : Res (mkL false xs S) (.ok (.lst xs) S) := ⟨mk_lst⟩
theorem at_ref {c f : Nat} {fs : List (Nat × D)} (hc : cellAt S n = some (.ins c fs)) (hl : fs.lookup f = some d) : attrR (.ref n) f S = .ok d S := attr_ref hc hl
theorem at_put {c f : Nat} {cs : List Nat} {fs : List (Nat × D)} (hc : cellAt S n = some (.ins c fs)) : sattrR (.ref n) f cs d S = ck (c ∈ cs ∧ fs.length < 900) (.ok () (setAt S n (.ins c (putFd f d fs)))) := by
  unfold sattrR
  dsimp only
  rw [hc]
theorem bm_okA (h : cellAt S n = some (.lst xs)) : bmOk .append (.ref n) S = true := by unfold bmOk; dsimp only; rw [h]
theorem bm_okI (h : cellAt S n = some (.lst xs)) : bmOk .insert (.ref n) S = true := by unfold bmOk; dsimp only; rw [h]
theorem bm_okR (h : cellAt S n = some (.lst xs)) : bmOk .remove (.ref n) S = true := by unfold bmOk; dsimp only; rw [h]
theorem bm_okP (h : cellAt S n = some (.lst xs)) : bmOk .pop1 (.ref n) S = true := by unfold bmOk; dsimp only; rw [h]
theorem bm_okC (h : cellAt S n = some (.lst xs)) : bmOk .clear (.ref n) S = true := by unfold bmOk; dsimp only; rw [h]
theorem bm_append (h : cellAt S n = some (.lst xs)) : bmR .append (.ref n) [d] S = ck (xs.length < sizeLine) (.ok .non (setAt S n (.lst (xs ++ [d])))) := by
  show (match cellAt S n with | some (.lst xs) => ck (xs.length < sizeLine) (R.ok D.non (setAt S n (.lst (xs ++ [d])))) | _ => .err) = _
  rw [h]
theorem cell_setS {c : Cell} (h : (cellAt S n).isSome = true) : cellAt (setAt S n c) n = some c := by
  refine cellAt_set1 ?_
  obtain ⟨c', h⟩ := Option.isSome_iff_exists.mp h
  exact cellAt_lt h
theorem cell_push {c : Option Cell} : cellAt (S ++ [c]) S.length = c := cellAt_push
end
end Iv
/-! the same as steps backwards (for the tactic in sx.txt) -/
namespace Iv
open PySem L2
section
variable {F : CE} {Q : D → Sto → Prop} {Qs : List D → Sto → Prop} {Qf : Fl → Sto → Prop} {Qe : Env → Sto → Prop} {Qb : Bool → Sto → Prop} {Qu : Unit → Sto → Prop} {Qi : Src × List D → Sto → Prop} {Qo : Option Int → Sto → Prop} {E : Exc → Sto → Prop} {ρ : Env} {S : Sto} {a b c e : Iv.E} {d x y : D} {es ifs : List Iv.E} {box : Bool} {own own1 : List Nat} {t t1 : Tg} {ts : List Tg} {it it1 : It} {st : St} {sts body els : List St} {i j : Int} {z z' : Str} {xs ys ds ps : List D} {n m k f : Nat} {A B : Prop} {kb : Bool} {fs : List (Nat × D)} {arr : List Ar} {cl : Nat}
theorem r_var (h : ρ[n]? = some (some d)) (q : Q d S) : Ru (ev F (.var n) ρ S) Q E := by rw [ru_var h]; exact q
theorem r_aug {op : Bop} (h : ρ[n]? = some (some d)) (q : Ru (ev F e ρ S) (fun y S => Ru (augR op d y S) (fun z S => Qf (.next (ρ.set n (some z))) S) (fun x S => Qf (.raised x ρ) S)) (fun x S => Qf (.raised x ρ) S)) : Ru (ex F (.aug n op e) ρ S) Qf E := by rw [ru_sAug h]; exact q
theorem r_tupA (h : seqOf S d = some xs) (hl : xs.length = ts.length) (q : Ru (asgs F ts xs ρ S) Qe E) : Ru (tupA F ts ρ (seqOf S d) S) Qe E := by rw [h, ru_tupA]; exact ⟨hl, q⟩
theorem r_tupsA (h : seqOf S d = some xs) (hl : Nat.ble 1 ts.length = true) (hl2 : Nat.ble ts.length (xs.length + 1) = true) (hl3 : Nat.ble xs.length 1000 = true) (q : Ru (asgs F ts (xs.take (ts.length - 1) ++ [.lst (xs.drop (ts.length - 1))]) ρ S) Qe E) : Ru (tupsA F ts ρ (seqOf S d) S) Qe E := by
  rw [h, ru_tupsA]
  exact ⟨⟨Nat.le_of_ble_eq_true hl, Nat.le_of_ble_eq_true hl2, Nat.le_trans (Nat.le_of_ble_eq_true hl3) (by decide)⟩, q⟩
theorem r_callR (h : pick ds arr = some ps) (q : Ru (F f ps S) Q E) : Ru (callR F f arr ds S) Q E := by unfold callR; rw [h]; exact q
theorem sz_of (h : Nat.ble n 1000 = true) : n ≤ sizeLine := Nat.le_trans (Nat.le_of_ble_eq_true h) (by decide)
theorem sz_le (h : n ≤ 1000) : n ≤ sizeLine := Nat.le_trans h (by decide)
theorem r_sz (h : Nat.ble n 1000 = true) (q : A) : n ≤ sizeLine ∧ A := ⟨sz_of h, q⟩
theorem r_itet (h : kb = true) (q : A) : if kb = true then A else B := by rw [if_pos h]; exact q
theorem r_itef (h : kb = false) (q : B) : if kb = true then A else B := by rw [if_neg (by rw [h]; exact Bool.false_ne_true)]; exact q
theorem r_mulI (c : mulOk i j) (q : Q (.int (i * j)) S) : Ru (binR box .mul (.int i) (.int j) S) Q E := by rw [bin_mulI, ru_ck, ru_ok]; exact ⟨c, q⟩
theorem r_divI (c : 0 < j ∧ j < 1073741824) (q : Q (.int (i / j)) S) : Ru (binR box .div (.int i) (.int j) S) Q E := by rw [bin_divI, ru_ck, ru_ok]; exact ⟨c, q⟩
theorem r_modI (c : 0 < j) (q : Q (.int (i % j)) S) : Ru (binR box .mod (.int i) (.int j) S) Q E := by rw [bin_modI, ru_ck, ru_ok]; exact ⟨c, q⟩
theorem r_addT (c : Nat.ble (xs.length + ys.length) 1000 = true) (q : Q (.tup (xs ++ ys)) S) : Ru (binR box .add (.tup xs) (.tup ys) S) Q E := by rw [bin_addT, ru_ck, ru_ok]; exact ⟨sz_of c, q⟩
theorem r_at (hc : cellAt S n = some (.ins cl fs)) (hl : fs.lookup f = some d) (q : Q d S) : Ru (attrR (.ref n) f S) Q E := Ru.eq (at_ref hc hl) q
theorem r_atI (hl : fs.lookup f = some d) (q : Q d S) : Ru (attrR (.ins cl fs) f S) Q E := by
  refine Ru.eq (a := d) (S := S) ?_ q
  show (match fs.lookup f with | some d => R.ok d S | none => .err) = _
  rw [hl]
theorem r_meth {ms : List (Nat × Nat × List Ar)} (hc : cellAt S n = some (.ins cl fs)) (hm : ms.lookup cl = some (f, arr)) (q : Ru (evs F es ρ S) (fun xs S => Ru (callR F f arr (.ref n :: xs) S) Q E) E) : Ru (methR F ms es ρ (.ref n) ((clsOf S (.ref n)).bind fun c => ms.lookup c) S) Q E := by
  rw [cls_ref hc, Option.bind_some, hm, ru_methR]
  exact q
theorem r_methI {ms : List (Nat × Nat × List Ar)} (hm : ms.lookup cl = some (f, arr)) (q : Ru (evs F es ρ S) (fun xs S => Ru (callR F f arr (.ins cl fs :: xs) S) Q E) E) : Ru (methR F ms es ρ (.ins cl fs) ((clsOf S (.ins cl fs)).bind fun c => ms.lookup c) S) Q E := by
  show Ru (methR F ms es ρ (.ins cl fs) ((some cl).bind fun c => ms.lookup c) S) Q E
  rw [Option.bind_some, hm, ru_methR]
  exact q
theorem r_oR {α : Type} {o : Option α} {w : α} {Qx : α → Sto → Prop} (h : o = some w) (q : Qx w S) : Ru (oR o S) Qx E := by rw [h, ru_oR]; exact q
theorem r_walkB {Qx : Src × List D → Sto → Prop} (h : cellAt S n = some (.lst xs)) (q : Qx (.box n xs, xs) S) : Ru (oR (walkOf S (.ref n)) S) Qx E := r_oR (walk_box h) q
theorem r_enumR {o : Option (Src × List D)} {w : Src × List D} (h : o = some w) (q : Qi (w.1, enumD 0 w.2) S) : Ru (enumR o none S) Qi E := by rw [h, ru_enumR]; exact q
theorem r_enumB (h : cellAt S n = some (.lst xs)) (q : Qi (.box n xs, enumD 0 xs) S) : Ru (enumR (walkL S (.ref n)) none S) Qi E := r_enumR (walkL_box h) q
theorem r_enumSR {o : Option (Src × List D)} {w : Src × List D} (h : o = some w) (c : smallI j) (q : Qi (w.1, enumD j w.2) S) : Ru (enumSR o (.int j) S) Qi E := by rw [h, ru_enumSR]; exact ⟨c, q⟩
theorem r_enumSB (h : cellAt S n = some (.lst xs)) (c : smallI j) (q : Qi (.box n xs, enumD j xs) S) : Ru (enumSR (walkL S (.ref n)) (.int j) S) Qi E := r_enumSR (walkL_box h) c q
theorem r_rng1R (c : smallI j) (q : Qi (.fix, rngD 0 j.toNat) S) : Ru (rng1R (.int j) S) Qi E := by rw [ru_rng1R]; exact ⟨c, q⟩
theorem r_rng2R (c : smallI i ∧ smallI j) (q : Qi (.fix, rngD i (j - i).toNat) S) : Ru (rng2R (.int i) (.int j) S) Qi E := by rw [ru_rng2R]; exact ⟨c, q⟩
theorem r_isitR {tys : List String} {o : Option Bool} (h : o = some kb) (hl : Nat.ble tys.length 100 = true) (q : Q (.bl kb) S) : Ru (isitR tys o S) Q E := by rw [h, ru_isitR]; exact ⟨Nat.le_of_ble_eq_true hl, q⟩
theorem r_isi {ty : String} (h : (tyOf S x).bind (fun a => kitB a ty) = some kb) (q : Q (.bl kb) S) : Ru (biR .isi [x, .ty ty] S) Q E := by
  refine Ru.eq (a := .bl kb) (S := S) ?_ q
  show (match (tyOf S x).bind fun a => kitB a ty with | some b => R.ok (D.bl b) S | none => .err) = _
  rw [h]
theorem r_listB (h : cellAt S n = some (.lst xs)) (q : Ru (mkL box xs S) Q E) : Ru (biR (.list1 box) [.ref n] S) Q E := by rw [bi_listB h]; exact q
theorem r_listL (q : Ru (mkL box xs S) Q E) : Ru (biR (.list1 box) [.lst xs] S) Q E := q
instance  : Stp1 (Ru (biR (.list1 box) [.lst xs] S) Q E) (Ru (mkL box xs S) Q E) := ⟨r_listL⟩
theorem r_listT (q : Ru (mkL box xs S) Q E) : Ru (biR (.list1 box) [.tup xs] S) Q E := q
instance  : Stp1 (Ru (biR (.list1 box) [.tup xs] S) Q E) (Ru (mkL box xs S) Q E) := ⟨r_listT⟩
theorem r_lenB (h : cellAt S n = some (.lst xs)) (q : Q (.int (xs.length : Nat)) S) : Ru (biR .len [.ref n] S) Q E := Ru.eq (bi_lenB h) q
theorem r_slcL {lo hi : Option Int} (q : Ru (mkL box (cutD xs lo hi) S) Q E) : Ru (slcR box (.lst xs) lo hi S) Q E := q
instance {lo hi : Option Int} : Stp1 (Ru (slcR box (.lst xs) lo hi S) Q E) (Ru (mkL box (cutD xs lo hi) S) Q E) := ⟨r_slcL⟩
theorem r_slcT {lo hi : Option Int} (q : Q (.tup (cutD xs lo hi)) S) : Ru (slcR box (.tup xs) lo hi S) Q E := Ru.eq rfl q
instance {lo hi : Option Int} : Stp1 (Ru (slcR box (.tup xs) lo hi S) Q E) (Q (.tup (cutD xs lo hi)) S) := ⟨r_slcT⟩
theorem r_slcB {lo hi : Option Int} (h : cellAt S n = some (.lst xs)) (q : Ru (mkL box (cutD xs lo hi) S) Q E) : Ru (slcR box (.ref n) lo hi S) Q E := by
  show Ru (match seqOf S (.ref n) with | some xs => mkL box (cutD xs lo hi) S | none => .err) Q E
  rw [seqOf_box h]
  exact q
/-- a new box -/
theorem r_new (q : ∀ S' n, n = S.length → cellAt S' n = some (.lst xs) → Keep [] S S' → Q (.ref n) S') : Ru (mkL true xs S) Q E := Ru.eq rfl (q _ _ rfl cell_push Keep.push)
theorem r_put {cs : List Nat} (h : cellAt S n = some (.ins cl fs)) (hc : cl ∈ cs) (hl : fs.length < 900) (q : ∀ S', S'.length = S.length → cellAt S' n = some (.ins cl (putFd f d fs)) → Keep [n] S S' → Qu () S') : Ru (sattrR (.ref n) f cs d S) Qu E := by
  rw [at_put h, ru_ck, ru_ok]
  exact ⟨⟨hc, hl⟩, q _ setAt_len (cell_setS (by rw [h]; rfl)) Keep.set⟩
theorem r_make (q : ∀ S' n, n = S.length → cellAt S' n = some (.ins cl []) → Keep [] S S' → Ru (callR F f arr (.ref n :: ds) S') (fun r S1 => r = .non ∧ Q (.ref n) S1) E) : Ru (makeR F false cl f arr ds S) Q E := by
  rw [ru_makeR]
  exact q _ _ rfl cell_push Keep.push
/-- ways join behind a statement -/
theorem Ru.join (P : Env → Sto → Prop) (h : Ru (Iv.ex F st ρ S) (fun w S' => ∃ ρ', w = .next ρ' ∧ P ρ' S') noE) (q : ∀ ρ' S', P ρ' S' → Ru (exs F sts ρ' S') Qf E) : Ru (Iv.ex F st ρ S) (nxQ F sts Qf E) noE := by
  refine h.imp (fun w S' ⟨ρ', e, p⟩ => ?_) fun _ _ h => h
  rw [e]
  exact q ρ' S' p
end
instance {α : Type} {l : List α} {f : α → Bool} {S : Sto} : Res (biR .all [.lst (l.map fun x => .bl (f x))] S) (.ok (.bl (l.all f)) S) := ⟨bi_all⟩
end Iv

/-! ### dicts and sets, backwards -/
namespace Iv
open PySem L2
section
variable {F : CE} {Q : D → Sto → Prop} {Qs : List D → Sto → Prop} {Qe : Env → Sto → Prop} {Qu : Unit → Sto → Prop} {E : Exc → Sto → Prop} {ρ : Env} {S : Sto} {a b c e e2 : Iv.E} {d x y : D} {ifs : List Iv.E} {own : List Nat} {t : Tg} {it : It} {n : Nat} {κ : L2.Key} {kvs : List (L2.Key × D)} {ys : List D} {neg : Bool} {Qi : Src × List D → Sto → Prop} {S' : Sto}
theorem ru_slst {box : Bool} : Ru (ev F (.slst box a b) ρ S) Q E = Ru (ev F a ρ S) (fun x S => Ru (ev F b ρ S) (fun y S => Ru (slstR box x y S) Q E) E) E := by rw [ev]; simp only [ru_bind]
instance {box : Bool} : Stp1 (Ru (ev F (.slst box a b) ρ S) Q E) (Ru (ev F a ρ S) (fun x S => Ru (ev F b ρ S) (fun y S => Ru (slstR box x y S) Q E) E) E) := ⟨ru_slst.mpr⟩
theorem ru_dnew : Ru (ev F .dnew ρ S) Q E = Q (.ref S.length) (S ++ [some (.dct [])]) := by rw [ev, ru_ok]
instance  : Stp1 (Ru (ev F .dnew ρ S) Q E) (Q (.ref S.length) (S ++ [some (.dct [])])) := ⟨ru_dnew.mpr⟩
theorem ru_didx : Ru (ev F (.didx a b) ρ S) Q E = Ru (ev F a ρ S) (fun x S => Ru (ev F b ρ S) (fun y S => Ru (didxR x y S) Q E) E) E := by rw [ev]; simp only [ru_bind]
instance  : Stp1 (Ru (ev F (.didx a b) ρ S) Q E) (Ru (ev F a ρ S) (fun x S => Ru (ev F b ρ S) (fun y S => Ru (didxR x y S) Q E) E) E) := ⟨ru_didx.mpr⟩
theorem ru_din : Ru (ev F (.din neg a b) ρ S) Q E = Ru (ev F a ρ S) (fun y S => Ru (ev F b ρ S) (fun x S => Ru (dinR neg y x S) Q E) E) E := by rw [ev]; simp only [ru_bind]
instance  : Stp1 (Ru (ev F (.din neg a b) ρ S) Q E) (Ru (ev F a ρ S) (fun y S => Ru (ev F b ρ S) (fun x S => Ru (dinR neg y x S) Q E) E) E) := ⟨ru_din.mpr⟩
theorem ru_dget2 : Ru (ev F (.dget2 a b c) ρ S) Q E = Ru (ev F a ρ S) (fun x S => (drdOf S x).isSome = true ∧ Ru (ev F b ρ S) (fun y S => Ru (ev F c ρ S) (fun v S => Ru (dget2R x y v S) Q E) E) E) E := by rw [ev]; simp only [ru_bind, ru_ck]
instance  : Stp1 (Ru (ev F (.dget2 a b c) ρ S) Q E) (Ru (ev F a ρ S) (fun x S => (drdOf S x).isSome = true ∧ Ru (ev F b ρ S) (fun y S => Ru (ev F c ρ S) (fun v S => Ru (dget2R x y v S) Q E) E) E) E) := ⟨ru_dget2.mpr⟩
theorem ru_dpop : Ru (ev F (.dpop a b) ρ S) Q E = Ru (ev F a ρ S) (fun x S => (dctOf S x).isSome = true ∧ Ru (ev F b ρ S) (fun y S => Ru (dpopR x y S) Q E) E) E := by rw [ev]; simp only [ru_bind, ru_ck]
instance  : Stp1 (Ru (ev F (.dpop a b) ρ S) Q E) (Ru (ev F a ρ S) (fun x S => (dctOf S x).isSome = true ∧ Ru (ev F b ρ S) (fun y S => Ru (dpopR x y S) Q E) E) E) := ⟨ru_dpop.mpr⟩
theorem ru_dsort {box : Bool} : Ru (ev F (.dsort box a) ρ S) Q E = Ru (ev F a ρ S) (fun x S => Ru (dsortR box x S) Q E) E := by rw [ev]; simp only [ru_bind]
instance {box : Bool} : Stp1 (Ru (ev F (.dsort box a) ρ S) Q E) (Ru (ev F a ρ S) (fun x S => Ru (dsortR box x S) Q E) E) := ⟨ru_dsort.mpr⟩
theorem ru_dcomp : Ru (ev F (.dcomp own t it ifs e e2) ρ S) Q E = Ru (evIt F it ρ S) (fun w S => Ru (lcLoop w.1 (dcStep F own t ifs e e2 ρ) w.2 S) (fun ys S => Ru (mkDct ys S) Q E) E) E := by rw [ev]; simp only [ru_bind]
instance  : Stp1 (Ru (ev F (.dcomp own t it ifs e e2) ρ S) Q E) (Ru (evIt F it ρ S) (fun w S => Ru (lcLoop w.1 (dcStep F own t ifs e e2 ρ) w.2 S) (fun ys S => Ru (mkDct ys S) Q E) E) E) := ⟨ru_dcomp.mpr⟩
theorem ru_dcStep : Ru (dcStep F own t ifs e e2 ρ d S) Qs E = Ru (asg F t d (wipeE ρ own) S) (fun ρ1 S => Ru (evIfs F ifs ρ1 S) (fun k S => if k = true then Ru (ev F e ρ1 S) (fun y S => Ru (ev F e2 ρ1 S) (fun z S => Qs [.tup [y, z]] S) E) E else Qs [] S) E) E := by
  unfold dcStep
  simp only [ru_bind, ru_ite, ru_ok]
instance  : Stp1 (Ru (dcStep F own t ifs e e2 ρ d S) Qs E) (Ru (asg F t d (wipeE ρ own) S) (fun ρ1 S => Ru (evIfs F ifs ρ1 S) (fun k S => if k = true then Ru (ev F e ρ1 S) (fun y S => Ru (ev F e2 ρ1 S) (fun z S => Qs [.tup [y, z]] S) E) E else Qs [] S) E) E) := ⟨ru_dcStep.mpr⟩
theorem ru_lenSC : Ru (ev F (.lenSC own t it ifs e) ρ S) Q E = Ru (evIt F it ρ S) (fun w S => Ru (lcLoop w.1 (lcStep F own t ifs e ρ) w.2 S) (fun ys S => Ru (lenSCR ys S) Q E) E) E := by rw [ev]; simp only [ru_bind]
instance  : Stp1 (Ru (ev F (.lenSC own t it ifs e) ρ S) Q E) (Ru (evIt F it ρ S) (fun w S => Ru (lcLoop w.1 (lcStep F own t ifs e ρ) w.2 S) (fun ys S => Ru (lenSCR ys S) Q E) E) E) := ⟨ru_lenSC.mpr⟩
theorem ru_sortSC : Ru (ev F (.sortSC own t it ifs e) ρ S) Q E = Ru (evIt F it ρ S) (fun w S => Ru (lcLoop w.1 (lcStep F own t ifs e ρ) w.2 S) (fun ys S => Ru (sortSCR ys S) Q E) E) E := by rw [ev]; simp only [ru_bind]
instance  : Stp1 (Ru (ev F (.sortSC own t it ifs e) ρ S) Q E) (Ru (evIt F it ρ S) (fun w S => Ru (lcLoop w.1 (lcStep F own t ifs e ρ) w.2 S) (fun ys S => Ru (sortSCR ys S) Q E) E) E) := ⟨ru_sortSC.mpr⟩
theorem ru_aDidx : Ru (asg F (.didx a b) d ρ S) Qe E = Ru (ev F a ρ S) (fun x S => Ru (ev F b ρ S) (fun y S => Ru (dputR x y d S) (fun _ S => Qe ρ S) E) E) E := by rw [asg]; simp only [ru_bind, ru_ok]
instance  : Stp1 (Ru (asg F (.didx a b) d ρ S) Qe E) (Ru (ev F a ρ S) (fun x S => Ru (ev F b ρ S) (fun y S => Ru (dputR x y d S) (fun _ S => Qe ρ S) E) E) E) := ⟨ru_aDidx.mpr⟩
theorem ru_lenS : Ru (ev F (.lenS a) ρ S) Q E = Ru (ev F a ρ S) (fun x S => Ru (lenSR (seqOf S x) S) Q E) E := by rw [ev]; simp only [ru_bind]
instance  : Stp1 (Ru (ev F (.lenS a) ρ S) Q E) (Ru (ev F a ρ S) (fun x S => Ru (lenSR (seqOf S x) S) Q E) E) := ⟨ru_lenS.mpr⟩
theorem ru_sortS : Ru (ev F (.sortS a) ρ S) Q E = Ru (ev F a ρ S) (fun x S => Ru (sortSR (seqOf S x) S) Q E) E := by rw [ev]; simp only [ru_bind]
instance  : Stp1 (Ru (ev F (.sortS a) ρ S) Q E) (Ru (ev F a ρ S) (fun x S => Ru (sortSR (seqOf S x) S) Q E) E) := ⟨ru_sortS.mpr⟩
theorem dct_ref (h : cellAt S n = some (.dct kvs)) : dctOf S (.ref n) = some (n, kvs) := by unfold dctOf; dsimp only; rw [h]
theorem dct_some (h : cellAt S n = some (.dct kvs)) : (dctOf S (.ref n)).isSome = true := by rw [dct_ref h]; rfl
theorem drd_ref (h : cellAt S n = some (.dct kvs)) : drdOf S (.ref n) = some kvs := by unfold drdOf; dsimp only; rw [h]
theorem drd_some (h : cellAt S n = some (.dct kvs)) : (drdOf S (.ref n)).isSome = true := by rw [drd_ref h]; rfl
theorem dlk_ref (h : cellAt S n = some (.dlk kvs)) : dlkOf S (.ref n) = some (n, kvs) := by unfold dlkOf; dsimp only; rw [h]
/-! walked dicts, made tuples, displays, tries that raise nothing, o.f op= e -/
def itemsR (o : Option (Nat × List (L2.Key × D))) (S : Sto) : R (Src × List D) := match o with
  | some p => ck (mixK p.2 = true) (.ok (Src.dlk p.1 p.2, p.2.map fun kv => D.tup [keyV kv.1, kv.2]) S)
  | none => .err
theorem ru_items : Ru (evIt F (.items a) ρ S) Qi E = Ru (ev F a ρ S) (fun x S => Ru (itemsR (dlkOf S x) S) Qi E) E := by
  rw [evIt, ru_bind]
  congr 1 <;> (funext x S; cases dlkOf S x <;> rfl)
instance  : Stp1 (Ru (evIt F (.items a) ρ S) Qi E) (Ru (ev F a ρ S) (fun x S => Ru (itemsR (dlkOf S x) S) Qi E) E) := ⟨ru_items.mpr⟩
theorem ru_keys : Ru (evIt F (.keys a) ρ S) Qi E = Ru (ev F a ρ S) (fun x S => Ru (oR ((dlkOf S x).map fun p => (Src.dlk p.1 p.2, p.2.map fun kv => keyV kv.1)) S) Qi E) E := by
  rw [evIt, ru_bind]
  congr 1 <;> (funext x S; cases dlkOf S x <;> rfl)
instance  : Stp1 (Ru (evIt F (.keys a) ρ S) Qi E) (Ru (ev F a ρ S) (fun x S => Ru (oR ((dlkOf S x).map fun p => (Src.dlk p.1 p.2, p.2.map fun kv => keyV kv.1)) S) Qi E) E) := ⟨ru_keys.mpr⟩
theorem r_itemsB (h : cellAt S n = some (.dlk kvs)) (mk : mixK kvs = true) (q : Qi (.dlk n kvs, kvs.map fun kv => .tup [keyV kv.1, kv.2]) S) : Ru (itemsR (dlkOf S (.ref n)) S) Qi E := by
  rw [dlk_ref h]
  unfold itemsR
  dsimp only
  rw [ru_ck, ru_ok]
  exact ⟨mk, q⟩
theorem r_keysB (h : cellAt S n = some (.dlk kvs)) (q : Qi (.dlk n kvs, kvs.map fun kv => keyV kv.1) S) : Ru (oR ((dlkOf S (.ref n)).map fun p => (Src.dlk p.1 p.2, p.2.map fun kv => keyV kv.1)) S) Qi E := by
  rw [dlk_ref h]
  exact ru_ok ▸ q
def ntupR (o : Option (List D)) (S : Sto) : R D := match o with
  | some xs => .ok (.ntp xs) S
  | none => .err
theorem ru_ntup : Ru (ev F (.ntup a) ρ S) Q E = Ru (ev F a ρ S) (fun x S => Ru (ntupR (lstOf S x) S) Q E) E := by
  rw [ev, ru_bind]
  congr 1 <;> (funext x S; cases lstOf S x <;> rfl)
instance  : Stp1 (Ru (ev F (.ntup a) ρ S) Q E) (Ru (ev F a ρ S) (fun x S => Ru (ntupR (lstOf S x) S) Q E) E) := ⟨ru_ntup.mpr⟩
theorem r_ntupL (q : Q (.ntp ys) S) : Ru (ntupR (lstOf S (.lst ys)) S) Q E := ru_ok ▸ q
instance  : Stp1 (Ru (ntupR (lstOf S (.lst ys)) S) Q E) (Q (.ntp ys) S) := ⟨r_ntupL⟩
def untupR (x : D) (S : Sto) : R D := match x with
  | .ntp xs => .ok (.tup xs) S
  | _ => .err
theorem ru_untup : Ru (ev F (.untup a) ρ S) Q E = Ru (ev F a ρ S) (fun x S => Ru (untupR x S) Q E) E := by
  rw [ev, ru_bind]
  congr 1 <;> (funext x S; cases x <;> rfl)
instance  : Stp1 (Ru (ev F (.untup a) ρ S) Q E) (Ru (ev F a ρ S) (fun x S => Ru (untupR x S) Q E) E) := ⟨ru_untup.mpr⟩
theorem r_untup (q : Q (.tup ys) S) : Ru (untupR (.ntp ys) S) Q E := ru_ok ▸ q
instance  : Stp1 (Ru (untupR (.ntp ys) S) Q E) (Q (.tup ys) S) := ⟨r_untup⟩
theorem ru_tidx : Ru (ev F (.tidx a b) ρ S) Q E = Ru (ev F a ρ S) (fun x S => isNtp x = true ∧ Ru (ev F b ρ S) (fun y S => Ru (tidxR x y S) Q E) E) E := by
  rw [ev]
  simp only [ru_bind, ru_ck]
instance  : Stp1 (Ru (ev F (.tidx a b) ρ S) Q E) (Ru (ev F a ρ S) (fun x S => isNtp x = true ∧ Ru (ev F b ρ S) (fun y S => Ru (tidxR x y S) Q E) E) E) := ⟨ru_tidx.mpr⟩
theorem ru_blk {b : List St} {Qf : Fl → Sto → Prop} : Ru (ex F (.blk b) ρ S) Qf E = Ru (exs F b ρ S) Qf E := by rw [ex]
instance {b : List St} {Qf : Fl → Sto → Prop} : Stp1 (Ru (ex F (.blk b) ρ S) Qf E) (Ru (exs F b ρ S) Qf E) := ⟨ru_blk.mpr⟩
noncomputable def faugQ (F : CE) (f : Nat) (op : Bop) (e : Iv.E) (ρ : Env) (o : Option (Nat × Nat × List (Nat × D))) (S : Sto) : R Unit := match o with
  | some p => match p.2.2.lookup f with
    | some old => (ev F e ρ S).bind fun y S => (augR op old y S).bind fun z S => faugPut p.1 p.2.1 f z S
    | none => .err
  | none => .err
theorem ru_faug {f : Nat} {op : Bop} {Qf : Fl → Sto → Prop} : Ru (ex F (.faug a f op e) ρ S) Qf E = Ru (ev F a ρ S) (fun x S => Ru (faugQ F f op e ρ (insOf S x) S) (fun _ S => Qf (.next ρ) S) (fun x S => Qf (.raised x ρ) S)) (fun x S => Qf (.raised x ρ) S) := by
  rw [ex, ru_go, ru_bind]
  simp only [ru_ok]
  rfl
instance {f : Nat} {op : Bop} {Qf : Fl → Sto → Prop} : Stp1 (Ru (ex F (.faug a f op e) ρ S) Qf E) (Ru (ev F a ρ S) (fun x S => Ru (faugQ F f op e ρ (insOf S x) S) (fun _ S => Qf (.next ρ) S) (fun x S => Qf (.raised x ρ) S)) (fun x S => Qf (.raised x ρ) S)) := ⟨ru_faug.mpr⟩
/-! len of a dict, a module's written dicts -/
def dlenR (x : D) (S : Sto) : R D := match dctOf S x with
  | some p => .ok (.int (p.2.length : Nat)) S
  | none => .err
theorem ru_dlen : Ru (ev F (.dlen a) ρ S) Q E = Ru (ev F a ρ S) (fun x S => Ru (dlenR x S) Q E) E := by
  rw [ev, ru_bind]
  rfl
instance  : Stp1 (Ru (ev F (.dlen a) ρ S) Q E) (Ru (ev F a ρ S) (fun x S => Ru (dlenR x S) Q E) E) := ⟨ru_dlen.mpr⟩
theorem r_dlen (h : cellAt S n = some (.dct kvs)) (q : Q (.int (kvs.length : Nat)) S) : Ru (dlenR (.ref n) S) Q E := by
  unfold dlenR
  rw [dct_ref h]
  exact ru_ok ▸ q
theorem ru_klook {ks : List (Str × Int)} : Ru (ev F (.klook ks a) ρ S) Q E = Ru (ev F a ρ S) (fun y S => Ru (klookR ks y S) Q E) E := by rw [ev, ru_bind]
instance {ks : List (Str × Int)} : Stp1 (Ru (ev F (.klook ks a) ρ S) Q E) (Ru (ev F a ρ S) (fun y S => Ru (klookR ks y S) Q E) E) := ⟨ru_klook.mpr⟩
theorem ru_kget {ks : List (Str × Int)} : Ru (ev F (.kget ks a b) ρ S) Q E = Ru (ev F a ρ S) (fun y S => Ru (ev F b ρ S) (fun z S => Ru (kgetR ks y z S) Q E) E) E := by rw [ev]; simp only [ru_bind]
instance {ks : List (Str × Int)} : Stp1 (Ru (ev F (.kget ks a b) ρ S) Q E) (Ru (ev F a ρ S) (fun y S => Ru (ev F b ρ S) (fun z S => Ru (kgetR ks y z S) Q E) E) E) := ⟨ru_kget.mpr⟩
theorem r_klook {ks : List (Str × Int)} {z : Str} {i : Int} (h : ks.lookup z = some i) (q : Q (.int i) S) : Ru (klookR ks (.str z) S) Q E := by
  unfold klookR
  dsimp only
  rw [h]
  exact ru_ok ▸ q
theorem r_kget {ks : List (Str × Int)} {z : Str} {i : Int} (h : ks.lookup z = some i) (q : Q (.int i) S) : Ru (kgetR ks (.str z) d S) Q E := by
  unfold kgetR
  dsimp only
  rw [h]
  exact ru_ok ▸ q
def zipwR (x y : D) (o o' : Option (List D)) (S : Sto) : R (Src × List D) := match o, o' with
  | some xs, some ys => ck (isRef x = false ∧ isRef y = false ∧ kOf x = kOf y) (.ok (.fix, zipWD xs ys) S)
  | _, _ => .err
theorem ru_zipw : Ru (evIt F (.zipw a b) ρ S) Qi E = Ru (ev F a ρ S) (fun x S => Ru (ev F b ρ S) (fun y S => Ru (zipwR x y (seqOf S x) (seqOf S y) S) Qi E) E) E := by rw [evIt]; simp only [ru_bind]; congr 1 <;> (funext x S; congr 1 <;> (funext y S; cases seqOf S x <;> cases seqOf S y <;> rfl))
instance : Stp1 (Ru (evIt F (.zipw a b) ρ S) Qi E) (Ru (ev F a ρ S) (fun x S => Ru (ev F b ρ S) (fun y S => Ru (zipwR x y (seqOf S x) (seqOf S y) S) Qi E) E) E) := ⟨ru_zipw.mpr⟩
theorem ru_aTupw {ts : List Tg} {xs : List D} : Ru (asg F (.tupw ts) (.wtp xs) ρ S) Qe E = (xs.length = ts.length ∧ Ru (asgs F ts xs ρ S) Qe E) := by rw [asg]; exact ru_ck
theorem r_tupw {ts : List Tg} {xs : List D} (h : xs.length = ts.length) (q : Ru (asgs F ts xs ρ S) Qe E) : Ru (asg F (.tupw ts) (.wtp xs) ρ S) Qe E := ru_aTupw ▸ ⟨h, q⟩
theorem r_ktup {ks : List Str} (h : Nat.ble ks.length 1000 = true) (q : Q (.tup (ks.map .str)) S) : Ru (ev F (.ktup ks) ρ S) Q E := by
  rw [ev, ru_ck, ru_ok]
  exact ⟨Nat.le_of_ble_eq_true h, q⟩
theorem ru_dsortD {box : Bool} : Ru (ev F (.dsortD box a) ρ S) Q E = Ru (ev F a ρ S) (fun x S => Ru (dsortDR box x S) Q E) E := by rw [ev, ru_bind]
instance {box : Bool} : Stp1 (Ru (ev F (.dsortD box a) ρ S) Q E) (Ru (ev F a ρ S) (fun x S => Ru (dsortDR box x S) Q E) E) := ⟨ru_dsortD.mpr⟩
theorem ru_deq0 : Ru (ev F (.deq0 a) ρ S) Q E = Ru (ev F a ρ S) (fun x S => Ru (deq0R x S) Q E) E := by rw [ev, ru_bind]
instance  : Stp1 (Ru (ev F (.deq0 a) ρ S) Q E) (Ru (ev F a ρ S) (fun x S => Ru (deq0R x S) Q E) E) := ⟨ru_deq0.mpr⟩
theorem ru_dpairs : Ru (ev F (.dpairs a) ρ S) Q E = Ru (ev F a ρ S) (fun x S => Ru (dpairsR (lstOf S x) S) Q E) E := by rw [ev, ru_bind]
instance  : Stp1 (Ru (ev F (.dpairs a) ρ S) Q E) (Ru (ev F a ρ S) (fun x S => Ru (dpairsR (lstOf S x) S) Q E) E) := ⟨ru_dpairs.mpr⟩
theorem ru_dpairsT : Ru (ev F (.dpairsT a) ρ S) Q E = Ru (ev F a ρ S) (fun x S => Ru (dpairsR (ntpOf x) S) Q E) E := by rw [ev, ru_bind]
instance  : Stp1 (Ru (ev F (.dpairsT a) ρ S) Q E) (Ru (ev F a ρ S) (fun x S => Ru (dpairsR (ntpOf x) S) Q E) E) := ⟨ru_dpairsT.mpr⟩
theorem r_strpS {x : Str} (q : Q (.str x) S) : Ru (biR .strp [.str x] S) Q E := ru_ok ▸ q
instance {x : Str} : Stp1 (Ru (biR .strp [.str x] S) Q E) (Q (.str x) S) := ⟨r_strpS⟩
theorem r_slcS {z : Str} {lo hi : Option Int} (q : Q (.str (L2.cutS z lo hi)) S) : Ru (slcR box (.str z) lo hi S) Q E := ru_ok ▸ q
instance {z : Str} {lo hi : Option Int} : Stp1 (Ru (slcR box (.str z) lo hi S) Q E) (Q (.str (L2.cutS z lo hi)) S) := ⟨r_slcS⟩
theorem bi_any {α : Type} {l : List α} {f : α → Bool} {S : Sto} : biR .any [.lst (l.map fun x => .bl (f x))] S = .ok (.bl (l.any f)) S := by
  show (match (some (l.map fun x => D.bl (f x))).bind blsD with | some bs => R.ok (D.bl (bs.any id)) S | none => .err) = _
  rw [Option.bind_some, blsD_map]
  show R.ok (D.bl ((l.map f).any id)) S = _
  rw [List.any_map]
  rfl
end
end Iv

/-! ### backwards: exceptions; t.count, (x,) * 2 -/
namespace Iv
open PySem L2
section
variable {F : CE} {a b e : E} {ρ : Env} {S : Sto} {x y d : D} {Q : D → Sto → Prop} {Qf : Fl → Sto → Prop} {E : Exc → Sto → Prop} {ys : List D} {n c : Nat} {fs : List (Nat × D)}
theorem ru_tcnt : Ru (ev F (.tcnt a b) ρ S) Q E = Ru (ev F a ρ S) (fun x S => isTx x = true ∧ Ru (ev F b ρ S) (fun y S => Ru (tcntR x y S) Q E) E) E := by
  rw [ev]
  simp only [ru_bind, ru_ck]
instance : Stp1 (Ru (ev F (.tcnt a b) ρ S) Q E) (Ru (ev F a ρ S) (fun x S => isTx x = true ∧ Ru (ev F b ρ S) (fun y S => Ru (tcntR x y S) Q E) E) E) := ⟨ru_tcnt.mpr⟩
theorem ru_tcnta : Ru (ev F (.tcnta a b) ρ S) Q E = Ru (ev F a ρ S) (fun x S => isTu x = true ∧ Ru (ev F b ρ S) (fun y S => Ru (tcntaR x y S) Q E) E) E := by
  rw [ev]
  simp only [ru_bind, ru_ck]
instance : Stp1 (Ru (ev F (.tcnta a b) ρ S) Q E) (Ru (ev F a ρ S) (fun x S => isTu x = true ∧ Ru (ev F b ρ S) (fun y S => Ru (tcntaR x y S) Q E) E) E) := ⟨ru_tcnta.mpr⟩
theorem ru_twice : Ru (ev F (.twice a) ρ S) Q E = Ru (ev F a ρ S) (fun x S => Ru (twiceR x S) Q E) E := by rw [ev, ru_bind]
instance : Stp1 (Ru (ev F (.twice a) ρ S) Q E) (Ru (ev F a ρ S) (fun x S => Ru (twiceR x S) Q E) E) := ⟨ru_twice.mpr⟩
theorem r_twice (q : Q (.tup [d, d]) S) : Ru (twiceR (.tup [d]) S) Q E := ru_ok ▸ q
instance : Stp1 (Ru (twiceR (.tup [d]) S) Q E) (Q (.tup [d, d]) S) := ⟨r_twice⟩
/-! raising -/
theorem ru_raise0 : Ru (ex F (.raise0 c) ρ S) Qf E = Qf (.raised ⟨c, []⟩ ρ) S := by rw [ex, ru_ok]
instance : Stp1 (Ru (ex F (.raise0 c) ρ S) Qf E) (Qf (.raised ⟨c, []⟩ ρ) S) := ⟨ru_raise0.mpr⟩
theorem ru_raise1 {f : Nat} : Ru (ex F (.raise1 c f e) ρ S) Qf E = Ru (ev F e ρ S) (fun d S => Qf (.raised ⟨c, [(f, d)]⟩ ρ) S) (fun x S => Qf (.raised x ρ) S) := by rw [ex]; simp only [ru_go, ru_ok]
instance {f : Nat} : Stp1 (Ru (ex F (.raise1 c f e) ρ S) Qf E) (Ru (ev F e ρ S) (fun d S => Qf (.raised ⟨c, [(f, d)]⟩ ρ) S) (fun x S => Qf (.raised x ρ) S)) := ⟨ru_raise1.mpr⟩
/-! catching -/
/-- the end of an except suite -/
def endQ (i : Option Nat) (n : Nat) (Qf : Fl → Sto → Prop) (w : Fl) (S : Sto) : Prop := cellAt S n = some .hot ∧ match w with
  | .next ρ => Qf (.next (setO ρ i none)) (S.set n none)
  | .brk ρ => Qf (.brk (setO ρ i none)) (S.set n none)
  | .cont ρ => Qf (.cont (setO ρ i none)) (S.set n none)
  | .ret d => Qf (.ret d) (S.set n none)
  | .raised _ _ => False
theorem end_ret {i : Option Nat} (h : cellAt S n = some .hot) (q : Qf (.ret d) (S.set n none)) : endQ i n Qf (.ret d) S := ⟨h, q⟩
theorem end_next {i : Option Nat} (h : cellAt S n = some .hot) (q : Qf (.next (setO ρ i none)) (S.set n none)) : endQ i n Qf (.next ρ) S := ⟨h, q⟩
theorem ru_end {i : Option Nat} {r : R Fl} (h : Ru r (endQ i n Qf) noE) : Ru (endH i n r) Qf E := by
  cases r with
  | ok w S =>
    rw [ru_ok] at h
    obtain ⟨h1, h2⟩ := h
    unfold endH
    dsimp only
    rw [h1]
    dsimp only
    cases w with
    | next ρ => exact ru_ok ▸ h2
    | brk ρ => exact ru_ok ▸ h2
    | cont ρ => exact ru_ok ▸ h2
    | ret d => exact ru_ok ▸ h2
    | raised y ρ => exact h2.elim
  | exc y S => rw [ru_exc] at h; exact h.elim
  | err => rw [ru_err] at h; exact h.elim
/-- behind a try's body -/
def tryQ (F : CE) (yes no : List Nat) (i : Option Nat) (hb : List St) (Qf : Fl → Sto → Prop) (w : Fl) (S : Sto) : Prop := match w with
  | .raised y ρ => (y.c ∈ yes ∧ Ru (exs F hb (setO ρ i (some (.exv S.length y.c y.fs))) (S ++ [some .hot])) (endQ i S.length Qf) noE) ∨ (y.c ∉ yes ∧ y.c ∈ no ∧ Qf (.raised y ρ) S)
  | w => Qf w S
theorem r_tryx {yes no : List Nat} {i : Option Nat} {body hb : List St} (h : Ru (exs F body ρ S) (tryQ F yes no i hb Qf) noE) : Ru (ex F (.tryx body yes no i hb) ρ S) Qf E := by
  rw [ex]
  cases hr : exs F body ρ S with
  | ok w S1 =>
    rw [hr, ru_ok] at h
    cases w with
    | raised y ρ1 =>
      unfold tryR
      dsimp only
      rcases h with ⟨h1, h2⟩ | ⟨h1, h2, h3⟩
      · rw [if_pos h1]
        exact ru_end h2
      · rw [if_neg h1, ru_ck, ru_ok]
        exact ⟨h2, h3⟩
    | next ρ1 => exact ru_ok ▸ h
    | brk ρ1 => exact ru_ok ▸ h
    | cont ρ1 => exact ru_ok ▸ h
    | ret d => exact ru_ok ▸ h
  | exc y S1 => rw [hr, ru_exc] at h; exact h.elim
  | err => rw [hr, ru_err] at h; exact h.elim
instance {yes no : List Nat} {i : Option Nat} {body hb : List St} : Stp1 (Ru (ex F (.tryx body yes no i hb) ρ S) Qf E) (Ru (exs F body ρ S) (tryQ F yes no i hb Qf) noE) := ⟨r_tryx⟩
section
variable {yes no : List Nat} {i : Option Nat} {hb : List St}
instance : Stp1 (tryQ F yes no i hb Qf (.next ρ) S) (Qf (.next ρ) S) := ⟨fun h => h⟩
instance : Stp1 (tryQ F yes no i hb Qf (.brk ρ) S) (Qf (.brk ρ) S) := ⟨fun h => h⟩
instance : Stp1 (tryQ F yes no i hb Qf (.cont ρ) S) (Qf (.cont ρ) S) := ⟨fun h => h⟩
instance : Stp1 (tryQ F yes no i hb Qf (.ret d) S) (Qf (.ret d) S) := ⟨fun h => h⟩
end
/-! the caught one is looked at -/
theorem ru_isx {yes no : List Nat} : Ru (ev F (.isx a yes no) ρ S) Q E = Ru (ev F a ρ S) (fun x S => Ru (isxR yes no x S) Q E) E := by rw [ev, ru_bind]
instance {yes no : List Nat} : Stp1 (Ru (ev F (.isx a yes no) ρ S) Q E) (Ru (ev F a ρ S) (fun x S => Ru (isxR yes no x S) Q E) E) := ⟨ru_isx.mpr⟩
theorem r_isxY {yes no : List Nat} (h : cellAt S n = some .hot) (hc : c ∈ yes) (q : Q (.bl true) S) : Ru (isxR yes no (.exv n c fs) S) Q E := by
  unfold isxR
  dsimp only
  rw [h]
  dsimp only
  rw [if_pos hc]
  exact ru_ok ▸ q
theorem r_isxN {yes no : List Nat} (h : cellAt S n = some .hot) (hc : c ∉ yes) (hn : c ∈ no) (q : Q (.bl false) S) : Ru (isxR yes no (.exv n c fs) S) Q E := by
  unfold isxR
  dsimp only
  rw [h]
  dsimp only
  rw [if_neg hc, ru_ck, ru_ok]
  exact ⟨hn, q⟩
theorem ru_xfd {f : Nat} : Ru (ev F (.xfd a c f) ρ S) Q E = Ru (ev F a ρ S) (fun x S => Ru (xfdR c f x S) Q E) E := by rw [ev, ru_bind]
instance {f : Nat} : Stp1 (Ru (ev F (.xfd a c f) ρ S) Q E) (Ru (ev F a ρ S) (fun x S => Ru (xfdR c f x S) Q E) E) := ⟨ru_xfd.mpr⟩
theorem r_xfd {f : Nat} (h : cellAt S n = some .hot) (q : Q d S) : Ru (xfdR c f (.exv n c [(f, d)]) S) Q E := by
  unfold xfdR
  dsimp only
  rw [h]
  dsimp only
  rw [ru_ck, ru_ok]
  exact ⟨⟨rfl, rfl⟩, q⟩
theorem ru_isO {ks : List Nat} : Ru (ev F (.isO a c ks) ρ S) Q E = Ru (ev F a ρ S) (fun x S => Ru (isOR c ks x S) Q E) E := by rw [ev, ru_bind]
instance {ks : List Nat} : Stp1 (Ru (ev F (.isO a c ks) ρ S) Q E) (Ru (ev F a ρ S) (fun x S => Ru (isOR c ks x S) Q E) E) := ⟨ru_isO.mpr⟩
theorem ru_eqo {f : Nat} {arr : List Ar} : Ru (ev F (.eqo a b c f arr) ρ S) Q E = Ru (ev F a ρ S) (fun x S => Ru (ev F b ρ S) (fun y S => (clsOf S x = some c ∧ clsOf S y = some c) ∧ Ru (noExc (callR F f arr [x, y] S)) Q E) E) E := by
  rw [ev]
  simp only [ru_bind, ru_ck]
instance {f : Nat} {arr : List Ar} : Stp1 (Ru (ev F (.eqo a b c f arr) ρ S) Q E) (Ru (ev F a ρ S) (fun x S => Ru (ev F b ρ S) (fun y S => (clsOf S x = some c ∧ clsOf S y = some c) ∧ Ru (noExc (callR F f arr [x, y] S)) Q E) E) E) := ⟨ru_eqo.mpr⟩
end
end Iv

namespace Wk
open PySem PySem.Spec PyProof.Rows L2 Iv
theorem sc_is_whole : FnScope ["thing", "low", "high"] ["thing", "low", "high"] (defScope s_is_whole) := ⟨rfl, rfl, rfl, by decide +kernel, rfl, by decide +kernel, by decide +kernel⟩
theorem sc_is_number : FnScope ["thing"] ["thing"] (defScope s_is_number) := ⟨rfl, rfl, rfl, by decide +kernel, rfl, by decide +kernel, by decide +kernel⟩
theorem sc_are_rising : FnScope ["thing", "many", "one", "other"] ["thing", "many"] (defScope s_are_rising) := ⟨rfl, rfl, rfl, by decide +kernel, rfl, by decide +kernel, by decide +kernel⟩
theorem sc_least : FnScope ["offers", "chosen", "touched", "needs", "need"] ["offers", "chosen"] (defScope s_least) := ⟨rfl, rfl, rfl, by decide +kernel, rfl, by decide +kernel, by decide +kernel⟩
theorem sc_size_of : FnScope ["task", "chosen", "items", "keeps", "sizes", "design"] ["task", "chosen"] (defScope s_size_of) := ⟨rfl, rfl, rfl, by decide +kernel, rfl, by decide +kernel, by decide +kernel⟩
theorem sc_asked_of : FnScope ["task", "chosen", "start", "weight", "offers"] ["task", "chosen", "start"] (defScope s_asked_of) := ⟨rfl, rfl, rfl, by decide +kernel, rfl, by decide +kernel, by decide +kernel⟩
theorem sc_total : FnScope ["task", "chosen", "items", "keeps", "sizes", "design"] ["task", "chosen"] (defScope s_total) := ⟨rfl, rfl, rfl, by decide +kernel, rfl, by decide +kernel, by decide +kernel⟩
theorem sc_Road_init : FnScope ["self", "task", "taken", "out"] ["self", "task", "taken", "out"] (defScope s_Road_init) := ⟨rfl, rfl, rfl, by decide +kernel, rfl, by decide +kernel, by decide +kernel⟩
theorem sc_Road_on : FnScope ["self", "design", "is_in"] ["self", "design", "is_in"] (defScope s_Road_on) := ⟨rfl, rfl, rfl, by decide +kernel, rfl, by decide +kernel, by decide +kernel⟩
theorem sc_Road_least_total : FnScope ["self", "items", "keeps", "sizes", "let", "design"] ["self"] (defScope s_Road_least_total) := ⟨rfl, rfl, rfl, by decide +kernel, rfl, by decide +kernel, by decide +kernel⟩
theorem sc_Road_is_closed : FnScope ["self", "room", "bound"] ["self", "room", "bound"] (defScope s_Road_is_closed) := ⟨rfl, rfl, rfl, by decide +kernel, rfl, by decide +kernel, by decide +kernel⟩
theorem sc_best_behind : FnScope ["road", "order", "room", "best", "first", "rest"] ["road", "order", "room", "best"] (defScope s_best_behind) := ⟨rfl, rfl, rfl, by decide +kernel, rfl, by decide +kernel, by decide +kernel⟩
theorem sc_paper_of : FnScope ["road", "order", "room", "bound", "first", "rest", "inside"] ["road", "order", "room", "bound"] (defScope s_paper_of) := ⟨rfl, rfl, rfl, by decide +kernel, rfl, by decide +kernel, by decide +kernel⟩
theorem sc_best : FnScope ["task", "room", "items", "keeps", "sizes", "order", "bound", "chosen"] ["task", "room"] (defScope s_best) := ⟨rfl, rfl, rfl, by decide +kernel, rfl, by decide +kernel, by decide +kernel⟩
theorem sc_roads_of : FnScope ["task", "paper", "waiting", "found", "design", "road"] ["task", "paper"] (defScope s_roads_of) := ⟨rfl, rfl, rfl, by decide +kernel, rfl, by decide +kernel, by decide +kernel⟩
theorem sc_look_form : FnScope ["task", "thing", "chosen", "told", "paper", "one"] ["task", "thing"] (defScope s_look_form) := ⟨rfl, rfl, rfl, by decide +kernel, rfl, by decide +kernel, by decide +kernel⟩
theorem sc_look_best : FnScope ["task", "thing", "room", "chosen", "told", "paper", "road"] ["task", "thing", "room"] (defScope s_look_best) := ⟨rfl, rfl, rfl, by decide +kernel, rfl, by decide +kernel, by decide +kernel⟩
theorem sc_l_bag : FnScope ["_law_script", "_law_at", "_law_cell", "_law_great", "_law_primes"] ["_law_script", "_law_at"] (defScope s_l_bag) := ⟨rfl, rfl, rfl, by decide +kernel, rfl, by decide +kernel, by decide +kernel⟩
theorem sc_l_take : FnScope ["_law_bag_here", "_law_many", "_law_digit"] ["_law_bag_here", "_law_many"] (defScope s_l_take) := ⟨rfl, rfl, rfl, by decide +kernel, rfl, by decide +kernel, by decide +kernel⟩
theorem sc_l_offers : FnScope ["_law_bag_here", "_law_many", "_law_great", "_law_top", "_law_found", "_law_k", "_law_needs"] ["_law_bag_here", "_law_many", "_law_great"] (defScope s_l_offers) := ⟨rfl, rfl, rfl, by decide +kernel, rfl, by decide +kernel, by decide +kernel⟩
theorem sc_l_task : FnScope ["_law_bag_here", "_law_other", "_law_many", "_law_great", "_law_items", "_law_k", "_law_dear", "_law_keeps", "_law_wide"] ["_law_bag_here", "_law_other", "_law_many"] (defScope s_l_task) := ⟨rfl, rfl, rfl, by decide +kernel, rfl, by decide +kernel, by decide +kernel⟩
theorem sc_l_room : FnScope ["_law_bag_here", "_law_task_here", "_law_whole"] ["_law_bag_here", "_law_task_here"] (defScope s_l_room) := ⟨rfl, rfl, rfl, by decide +kernel, rfl, by decide +kernel, by decide +kernel⟩
theorem sc_l_least : FnScope ["_law_given", "_law_wide", "_law_told"] ["_law_given", "_law_wide"] (defScope s_l_least) := ⟨rfl, rfl, rfl, by decide +kernel, rfl, by decide +kernel, by decide +kernel⟩
theorem sc_l_right : FnScope ["_law_bag_here", "_law_given", "_law_wide", "_law_items", "_law_keeps", "_law_sizes", "_law_few", "_law_many", "_law_narrow", "_law_more", "_law_longer", "_law_weight", "_law_some", "_law_cheaper", "_law_often", "_law_times", "_law_keep", "_law_size", "_law_k"] ["_law_bag_here", "_law_given", "_law_wide"] (defScope s_l_right) := ⟨rfl, rfl, rfl, by decide +kernel, rfl, by decide +kernel, by decide +kernel⟩
theorem sc_law : FnScope ["_law_script", "_law_k", "_law_bag_here", "_law_other", "_law_given"] ["_law_script"] (defScope s_law) := ⟨rfl, rfl, rfl, by decide +kernel, rfl, by decide +kernel, by decide +kernel⟩
abbrev cs (K : PySem.W.Frag) : List (Addr × Addr) := [He.cT K ("best", none)]
structure Txt (K : PySem.W.Frag) (mg : Str → Option Value) : Prop where
  d_NoProof_init : ∃ fd, FunD K "__init__" "NoProof.__init__" (defArgs s_NoProof_init) (defBody s_NoProof_init) (defScope s_NoProof_init) [] [] (He.ma K (He.ga K "NoProof") "__init__") fd
  d_is_whole : ∃ fd, FunD K "is_whole" "is_whole" (defArgs s_is_whole) (defBody s_is_whole) (defScope s_is_whole) [(.int (-999)), (.int (999))] [] (He.ga K "is_whole") fd
  m_is_whole : mg "is_whole" = some (.ref (He.ga K "is_whole"))
  d_is_number : ∃ fd, FunD K "is_number" "is_number" (defArgs s_is_number) (defBody s_is_number) (defScope s_is_number) [] [] (He.ga K "is_number") fd
  m_is_number : mg "is_number" = some (.ref (He.ga K "is_number"))
  d_are_rising : ∃ fd, FunD K "are_rising" "are_rising" (defArgs s_are_rising) (defBody s_are_rising) (defScope s_are_rising) [] [] (He.ga K "are_rising") fd
  m_are_rising : mg "are_rising" = some (.ref (He.ga K "are_rising"))
  d_least : ∃ fd, FunD K "least" "least" (defArgs s_least) (defBody s_least) (defScope s_least) [] [] (He.ga K "least") fd
  m_least : mg "least" = some (.ref (He.ga K "least"))
  d_size_of : ∃ fd, FunD K "size_of" "size_of" (defArgs s_size_of) (defBody s_size_of) (defScope s_size_of) [] [] (He.ga K "size_of") fd
  m_size_of : mg "size_of" = some (.ref (He.ga K "size_of"))
  d_asked_of : ∃ fd, FunD K "asked_of" "asked_of" (defArgs s_asked_of) (defBody s_asked_of) (defScope s_asked_of) [] [("start", (.int (0)))] (He.ga K "asked_of") fd
  m_asked_of : mg "asked_of" = some (.ref (He.ga K "asked_of"))
  d_total : ∃ fd, FunD K "total" "total" (defArgs s_total) (defBody s_total) (defScope s_total) [] [] (He.ga K "total") fd
  m_total : mg "total" = some (.ref (He.ga K "total"))
  d_Road_init : ∃ fd, FunD K "__init__" "Road.__init__" (defArgs s_Road_init) (defBody s_Road_init) (defScope s_Road_init) [(.ref (He.dflAt ("Road", some "__init__") 0 K)), (.ref (He.dflAt ("Road", some "__init__") 1 K))] [] (He.ma K (He.ga K "Road") "__init__") fd
  d_Road_on : ∃ fd, FunD K "on" "Road.on" (defArgs s_Road_on) (defBody s_Road_on) (defScope s_Road_on) [] [] (He.ma K (He.ga K "Road") "on") fd
  d_Road_least_total : ∃ fd, FunD K "least_total" "Road.least_total" (defArgs s_Road_least_total) (defBody s_Road_least_total) (defScope s_Road_least_total) [] [] (He.ma K (He.ga K "Road") "least_total") fd
  d_Road_is_closed : ∃ fd, FunD K "is_closed" "Road.is_closed" (defArgs s_Road_is_closed) (defBody s_Road_is_closed) (defScope s_Road_is_closed) [] [] (He.ma K (He.ga K "Road") "is_closed") fd
  d_best_behind : ∃ fd, FunD K "best_behind" "best_behind" (defArgs s_best_behind) (defBody s_best_behind) (defScope s_best_behind) [] [] (He.ga K "best_behind") fd
  m_best_behind : mg "best_behind" = some (.ref (He.ga K "best_behind"))
  d_paper_of : ∃ fd, FunD K "paper_of" "paper_of" (defArgs s_paper_of) (defBody s_paper_of) (defScope s_paper_of) [] [] (He.ga K "paper_of") fd
  m_paper_of : mg "paper_of" = some (.ref (He.ga K "paper_of"))
  d_best : ∃ fd, FunD K "best" "best" (defArgs s_best) (defBody s_best) (defScope s_best) [] [] (He.ga K "best") fd
  m_best : mg "best" = some (.ref (He.ga K "best"))
  d_roads_of : ∃ fd, FunD K "roads_of" "roads_of" (defArgs s_roads_of) (defBody s_roads_of) (defScope s_roads_of) [] [] (He.ga K "roads_of") fd
  m_roads_of : mg "roads_of" = some (.ref (He.ga K "roads_of"))
  d_look_form : ∃ fd, FunD K "look_form" "look_form" (defArgs s_look_form) (defBody s_look_form) (defScope s_look_form) [] [] (He.ga K "look_form") fd
  m_look_form : mg "look_form" = some (.ref (He.ga K "look_form"))
  d_look_best : ∃ fd, FunD K "look_best" "look_best" (defArgs s_look_best) (defBody s_look_best) (defScope s_look_best) [] [] (He.ga K "look_best") fd
  m_look_best : mg "look_best" = some (.ref (He.ga K "look_best"))
  d_l_bag : ∃ fd, FunD K "_law_bag" "_law_bag" (defArgs s_l_bag) (defBody s_l_bag) (defScope s_l_bag) [] [] (He.ga K "_law_bag") fd
  m_l_bag : mg "_law_bag" = some (.ref (He.ga K "_law_bag"))
  d_l_take : ∃ fd, FunD K "_law_take" "_law_take" (defArgs s_l_take) (defBody s_l_take) (defScope s_l_take) [] [] (He.ga K "_law_take") fd
  m_l_take : mg "_law_take" = some (.ref (He.ga K "_law_take"))
  d_l_offers : ∃ fd, FunD K "_law_offers" "_law_offers" (defArgs s_l_offers) (defBody s_l_offers) (defScope s_l_offers) [] [] (He.ga K "_law_offers") fd
  m_l_offers : mg "_law_offers" = some (.ref (He.ga K "_law_offers"))
  d_l_task : ∃ fd, FunD K "_law_task" "_law_task" (defArgs s_l_task) (defBody s_l_task) (defScope s_l_task) [] [] (He.ga K "_law_task") fd
  m_l_task : mg "_law_task" = some (.ref (He.ga K "_law_task"))
  d_l_total : ∃ fd, FunD K "_law_total" "_law_total" (defArgs s_l_total) (defBody s_l_total) (defScope s_l_total) [] [] (He.ga K "_law_total") fd
  m_l_total : mg "_law_total" = some (.ref (He.ga K "_law_total"))
  d_l_room : ∃ fd, FunD K "_law_room" "_law_room" (defArgs s_l_room) (defBody s_l_room) (defScope s_l_room) [] [] (He.ga K "_law_room") fd
  m_l_room : mg "_law_room" = some (.ref (He.ga K "_law_room"))
  d_l_least : ∃ fd, FunD K "_law_least" "_law_least" (defArgs s_l_least) (defBody s_l_least) (defScope s_l_least) [] [] (He.ga K "_law_least") fd
  m_l_least : mg "_law_least" = some (.ref (He.ga K "_law_least"))
  d_l_right : ∃ fd, FunD K "_law_right" "_law_right" (defArgs s_l_right) (defBody s_l_right) (defScope s_l_right) [] [] (He.ga K "_law_right") fd
  m_l_right : mg "_law_right" = some (.ref (He.ga K "_law_right"))
  d_law : ∃ fd, FunD K "law" "law" (defArgs s_law) (defBody s_law) (defScope s_law) [] [] (He.ga K "law") fd
  m_law : mg "law" = some (.ref (He.ga K "law"))
  m_NoProof : mg "NoProof" = some (.ref (He.ga K "NoProof"))
  m_Road : mg "Road" = some (.ref (He.ga K "Road"))
  cl_Road : Cls K (He.ga K "Road")
  na_Road_out : NoAttr K (He.ga K "Road") "out"
  na_Road_taken : NoAttr K (He.ga K "Road") "taken"
  na_Road_task : NoAttr K (He.ga K "Road") "task"
  mk_Road : Mk K (He.ga K "Road") (He.ma K (He.ga K "Road") "__init__")
  me_Road_on : Meth K (He.ga K "Road") "on" (He.ma K (He.ga K "Road") "on")
  me_Road_least_total : Meth K (He.ga K "Road") "least_total" (He.ma K (He.ga K "Road") "least_total")
  me_Road_is_closed : Meth K (He.ga K "Road") "is_closed" (He.ma K (He.ga K "Road") "is_closed")
  g_LEAST_NUMBER : ∃ t, mg "LEAST_NUMBER" = some (.int (-999) t)
  g_MOST_NUMBER : ∃ t, mg "MOST_NUMBER" = some (.int 999 t)
  g_CLOSED : ∃ t, mg "CLOSED" = some (.int (-1) t)
  n_Exception : mg "Exception" = none
  n_abs : mg "abs" = none
  n_all : mg "all" = none
  n_any : mg "any" = none
  n_bool : mg "bool" = none
  n_int : mg "int" = none
  n_isinstance : mg "isinstance" = none
  n_len : mg "len" = none
  n_list : mg "list" = none
  n_max : mg "max" = none
  n_min : mg "min" = none
  n_range : mg "range" = none
  n_sorted : mg "sorted" = none
  n_sum : mg "sum" = none
  n_tuple : mg "tuple" = none
  n_zip : mg "zip" = none
  e_Road_init_0 : ∀ H, SqT K H (He.dflAt ("Road", some "__init__") 0 K) []
  e_Road_init_1 : ∀ H, SqT K H (He.dflAt ("Road", some "__init__") 1 K) []
/-! ### the programs -/
abbrev p_is_whole : List Iv.St := [(.ret (.and (.bi (.isi) [(.var 0), (.con (.ty "int"))]) (.and (.not (.bi (.isi) [(.var 0), (.con (.ty "bool"))])) (.chain .le .le (.var 1) (.var 0) (.var 2)))))]
abbrev p_is_number : List Iv.St := [(.ret (.and (.bi (.isi) [(.var 0), (.con (.ty "int"))]) (.not (.bi (.isi) [(.var 0), (.con (.ty "bool"))]))))]
abbrev p_are_rising : List Iv.St := [(.ite (.not (.bi (.all) [(.lc false [2] (.var 2) (.e (.var 0)) [] (.call 0 [.a 0, .a 1, .a 2] [(.var 2), (.con (.int 0)), (.bin false .sub (.var 1) (.con (.int 1)))]))])) [(.ret (.con (.bl false)))] []),
  (.ret (.bi (.all) [(.lc false [2, 3] (.tup [(.var 2), (.var 3)]) (.zip false (.var 0) (.slc false (.var 0) (some (.con (.int 1))) none)) [] (.cmp .lt (.var 2) (.var 3)))]))]
abbrev p_least : List Iv.St := [(.ret (.bi (.minL) [(.lc false [2, 3] (.tup [(.var 2), (.var 3)]) (.e (.var 0)) [(.bi (.all) [(.lc false [4] (.var 4) (.e (.var 3)) [] (.cmp .isIn (.var 4) (.var 1)))])] (.var 2))]))]
abbrev p_size_of : List Iv.St := [(.asg (.tup [(.var 2), (.var 3), (.var 4)]) (.var 0)),
  (.ret (.bi (.sumL) [(.lc false [5] (.var 5) (.e (.var 1)) [] (.idx (.var 4) (.var 5)))]))]
abbrev p_asked_of : List Iv.St := [(.ret (.bi .sumS [(.lc false [3, 4] (.tup [(.var 3), (.var 4)]) (.e (.idx (.var 0) (.con (.int 0)))) [] (.bin false .mul (.var 3) (.call 3 [.a 0, .a 1] [(.var 4), (.var 1)]))), (.var 2)]))]
abbrev p_total : List Iv.St := [(.asg (.tup [(.var 2), (.var 3), (.var 4)]) (.var 0)),
  (.ret (.call 5 [.a 0, .a 1, .a 2] [(.var 0), (.var 1), (.bi (.sumL) [(.lc false [5] (.var 5) (.e (.var 1)) [] (.idx (.var 3) (.var 5)))])]))]
abbrev p_Road_init : List Iv.St := [(.asg (.attr (.var 0) 2 [0]) (.var 1)),
  (.asg (.attr (.var 0) 1 [0]) (.var 2)),
  (.asg (.attr (.var 0) 0 [0]) (.var 3))]
abbrev p_Road_on : List Iv.St := [(.ite (.var 2) [(.ret (.make false 0 7 [.a 0, .a 1, .a 2, .a 3] [(.attr (.var 0) 2), (.bin false .add (.attr (.var 0) 1) (.tup [(.var 1)])), (.attr (.var 0) 0)]))] []),
  (.ret (.make false 0 7 [.a 0, .a 1, .a 2, .a 3] [(.attr (.var 0) 2), (.attr (.var 0) 1), (.bin false .add (.attr (.var 0) 0) (.tup [(.var 1)]))]))]
abbrev p_Road_least_total : List Iv.St := [(.asg (.tup [(.var 1), (.var 2), (.var 3)]) (.attr (.var 0) 2)),
  (.asg (.var 4) (.lc false [5] (.var 5) (.rng1 (.bi (.len) [(.var 2)])) [(.cmp .notIn (.var 5) (.attr (.var 0) 0))] (.var 5))),
  (.ret (.call 5 [.a 0, .a 1, .a 2] [(.attr (.var 0) 2), (.var 4), (.bi (.sumL) [(.lc false [5] (.var 5) (.e (.attr (.var 0) 1)) [] (.idx (.var 2) (.var 5)))])]))]
abbrev p_Road_is_closed : List Iv.St := [(.ret (.or (.cmp .gt (.call 4 [.a 0, .a 1] [(.attr (.var 0) 2), (.attr (.var 0) 1)]) (.var 1)) (.cmp .ge (.meth (.var 0) [(0, 9, [.a 0])] []) (.var 2))))]
abbrev p_best_behind : List Iv.St := [(.ite (.meth (.var 0) [(0, 10, [.a 0, .a 1, .a 2])] [(.var 2), (.idx (.var 3) (.con (.int 0)))]) [(.ret (.var 3))] []),
  (.ite (.cmp .eq (.var 1) (.lst false [])) [(.ret (.tup [(.call 6 [.a 0, .a 1] [(.attr (.var 0) 2), (.attr (.var 0) 1)]), (.bi (.tuple1) [(.bi (.sortedT false) [(.attr (.var 0) 1)])])]))] []),
  (.asg (.tups [(.var 4), (.var 5)]) (.var 1)),
  (.asg (.var 3) (.call 11 [.a 0, .a 1, .a 2, .a 3] [(.meth (.var 0) [(0, 8, [.a 0, .a 1, .a 2])] [(.var 4), (.con (.bl true))]), (.var 5), (.var 2), (.var 3)])),
  (.ret (.call 11 [.a 0, .a 1, .a 2, .a 3] [(.meth (.var 0) [(0, 8, [.a 0, .a 1, .a 2])] [(.var 4), (.con (.bl false))]), (.var 5), (.var 2), (.var 3)]))]
abbrev p_paper_of : List Iv.St := [(.ite (.meth (.var 0) [(0, 10, [.a 0, .a 1, .a 2])] [(.var 2), (.var 3)]) [(.ret (.lst true [(.con (.int (-1)))]))] []),
  (.asg (.tups [(.var 4), (.var 5)]) (.var 1)),
  (.asg (.var 6) (.call 12 [.a 0, .a 1, .a 2, .a 3] [(.meth (.var 0) [(0, 8, [.a 0, .a 1, .a 2])] [(.var 4), (.con (.bl true))]), (.var 5), (.var 2), (.var 3)])),
  (.ret (.bin true .add (.bin false .add (.lst false [(.var 4)]) (.var 6)) (.call 12 [.a 0, .a 1, .a 2, .a 3] [(.meth (.var 0) [(0, 8, [.a 0, .a 1, .a 2])] [(.var 4), (.con (.bl false))]), (.var 5), (.var 2), (.var 3)])))]
abbrev p_best : List Iv.St := [(.asg (.tup [(.var 2), (.var 3), (.var 4)]) (.var 0)),
  (.asg (.var 5) (.sortKr false (.bi (.len) [(.var 3)]) [4, 3] (.tup [(.bin false .sub (.neg (.idx (.var 2) (.var 0))) (.idx (.var 1) (.var 0))), (.var 0)]))),
  (.asg (.tup [(.var 6), (.var 7)]) (.call 11 [.a 0, .a 1, .a 2, .a 3] [(.make false 0 7 [.a 0, .a 1, .d (.tup []), .d (.tup [])] [(.var 0)]), (.var 5), (.var 1), (.tup [(.call 6 [.a 0, .a 1] [(.var 0), (.tup [])]), (.tup [])])])),
  (.ret (.tup [(.var 7), (.var 6), (.call 12 [.a 0, .a 1, .a 2, .a 3] [(.make false 0 7 [.a 0, .a 1, .d (.tup []), .d (.tup [])] [(.var 0)]), (.var 5), (.var 1), (.var 6)])]))]
abbrev p_roads_of : List Iv.St := [(.asg (.var 2) (.lst true [(.make false 0 7 [.a 0, .a 1, .d (.tup []), .d (.tup [])] [(.var 0)])])),
  (.asg (.var 3) (.lst true [])),
  (.for (.var 4) (.e (.var 1)) [(.ite (.isnil false (.var 2)) [.raise] []),
  (.asg (.tupf true [(.var 2), (.var 5)]) (.var 2)),
  (.ite (.cmp .eq (.var 4) (.con (.int (-1)))) [(.expr (.bm .append (.var 3) [(.var 5)]))] [(.ite (.or (.not (.call 0 [.a 0, .a 1, .a 2] [(.var 4), (.con (.int 0)), (.bin false .sub (.bi (.len) [(.idx (.var 0) (.con (.int 1)))]) (.con (.int 1)))])) (.or (.cmp .isIn (.var 4) (.attr (.var 5) 1)) (.cmp .isIn (.var 4) (.attr (.var 5) 0)))) [.raise] [(.aug 2 .add (.lst false [(.meth (.var 5) [(0, 8, [.a 0, .a 1, .a 2])] [(.var 4), (.con (.bl false))]), (.meth (.var 5) [(0, 8, [.a 0, .a 1, .a 2])] [(.var 4), (.con (.bl true))])]))])])]),
  (.ite (.isnil true (.var 2)) [.raise] []),
  (.ret (.frz (.var 3)))]
abbrev p_look_form : List Iv.St := [(.ite (.or (.not (.bi (.isi) [(.var 1), (.con (.ty "tuple"))])) (.cmp .ne (.bi (.len) [(.var 1)]) (.con (.int 3)))) [.raise] []),
  (.asg (.tup [(.var 2), (.var 3), (.var 4)]) (.var 1)),
  (.ite (.or (.not (.bi (.isi) [(.var 2), (.con (.ty "tuple"))])) (.not (.call 2 [.a 0, .a 1] [(.var 2), (.bi (.len) [(.idx (.var 0) (.con (.int 1)))])]))) [.raise] []),
  (.ite (.or (.not (.call 1 [.a 0] [(.var 3)])) (.or (.not (.bi (.isi) [(.var 4), (.con (.ty "list"))])) (.not (.bi (.all) [(.lc false [5] (.var 5) (.e (.var 4)) [] (.call 1 [.a 0] [(.var 5)]))])))) [.raise] [])]
abbrev p_look_best : List Iv.St := [(.expr (.call 15 [.a 0, .a 1] [(.var 0), (.var 1)])),
  (.asg (.tup [(.var 3), (.var 4), (.var 5)]) (.var 1)),
  (.ite (.cmp .gt (.call 4 [.a 0, .a 1] [(.var 0), (.var 3)]) (.var 2)) [.raise] []),
  (.ite (.cmp .ne (.var 4) (.call 6 [.a 0, .a 1] [(.var 0), (.var 3)])) [.raise] []),
  (.ite (.not (.bi (.all) [(.lc false [6] (.var 6) (.e (.call 14 [.a 0, .a 1] [(.var 0), (.var 5)])) [] (.meth (.var 6) [(0, 10, [.a 0, .a 1, .a 2])] [(.var 2), (.var 4)]))])) [.raise] [])]
abbrev p_l_bag : List Iv.St := [(.asg (.var 2) (.con (.int 0))),
  (.ite (.cmp .gt (.bi (.len) [(.var 0)]) (.con (.int 0))) [(.asg (.var 2) (.idx (.var 0) (.bin false .mod (.var 1) (.bi (.len) [(.var 0)]))))] []),
  (.asg (.var 3) (.con (.int 0))),
  (.ite (.and (.cmp .ge (.bi (.abs) [(.var 2)]) (.bin false .pow (.con (.int 10)) (.con (.int 18)))) (.cmp .lt (.var 1) (.bi (.len) [(.var 0)]))) [(.asg (.var 3) (.bi (.abs) [(.var 2)]))] []),
  (.asg (.var 4) (.tup [(.con (.int 2147483629)), (.con (.int 2147483587)), (.con (.int 2147483579)), (.con (.int 2147483563)), (.con (.int 2147483549)), (.con (.int 2147483543)), (.con (.int 2147483497)), (.con (.int 2147483489))])),
  (.ret (.lst true [(.var 3), (.bin false .mod (.bin false .pow (.bin false .add (.bin false .add (.bin false .mod (.var 2) (.con (.int 2147483647))) (.bin false .mul (.con (.int 104729)) (.var 1))) (.con (.int 7))) (.con (.int 5))) (.idx (.var 4) (.bin false .mod (.var 1) (.con (.int 8)))))]))]
abbrev p_l_take : List Iv.St := [(.ite (.cmp .gt (.idx (.var 0) (.con (.int 0))) (.con (.int 0))) [(.asg (.var 2) (.bin false .mod (.idx (.var 0) (.con (.int 0))) (.var 1))),
  (.asg (.idx (.var 0) (.con (.int 0))) (.bin false .div (.idx (.var 0) (.con (.int 0))) (.var 1))),
  (.ret (.var 2))] []),
  (.asg (.idx (.var 0) (.con (.int 1))) (.bin false .mod (.bin false .add (.bin false .mul (.idx (.var 0) (.con (.int 1))) (.con (.int 48271))) (.con (.int 11))) (.con (.int 2147483647)))),
  (.ret (.bin false .mod (.bin false .mod (.bin false .pow (.bin false .div (.idx (.var 0) (.con (.int 1))) (.con (.int 8))) (.con (.int 3))) (.con (.int 2147483629))) (.var 1)))]
abbrev p_l_offers : List Iv.St := [(.asg (.var 3) (.call 18 [.a 0, .a 1] [(.var 0), (.var 2)])),
  (.asg (.var 4) (.lst true [(.tup [(.var 3), (.tup [])])])),
  (.for (.var 5) (.rng1 (.bin false .mul (.call 18 [.a 0, .a 1] [(.var 0), (.idx (.tup [(.con (.int 2)), (.con (.int 6)), (.con (.int 12))]) (.call 18 [.a 0, .a 1] [(.var 0), (.con (.int 3))]))]) (.bi (.int1) [(.cmp .gt (.var 1) (.con (.int 0)))]))) [(.asg (.var 6) (.lst true [(.call 18 [.a 0, .a 1] [(.var 0), (.var 1)])])),
  (.ite (.and (.cmp .gt (.var 1) (.con (.int 1))) (.cmp .eq (.call 18 [.a 0, .a 1] [(.var 0), (.con (.int 3))]) (.con (.int 0)))) [(.expr (.bm .append (.var 6) [(.bin false .mod (.bin false .add (.bin false .add (.idx (.var 6) (.con (.int 0))) (.con (.int 1))) (.call 18 [.a 0, .a 1] [(.var 0), (.bin false .sub (.var 1) (.con (.int 1)))])) (.var 1))]))] []),
  (.expr (.bm .insert (.var 4) [(.call 18 [.a 0, .a 1] [(.var 0), (.bin false .add (.bi (.len) [(.var 4)]) (.con (.int 1)))]), (.tup [(.call 18 [.a 0, .a 1] [(.var 0), (.bin false .add (.var 3) (.con (.int 2)))]), (.bi (.tuple1) [(.bi (.sorted1 false) [(.var 6)])])])]))]),
  (.ret (.frz (.var 4)))]
abbrev p_l_task : List Iv.St := [(.asg (.var 3) (.idx (.tup [(.con (.int 20)), (.con (.int 200)), (.con (.int 10000))]) (.call 18 [.a 0, .a 1] [(.var 0), (.con (.int 3))]))),
  (.asg (.var 4) (.lst true [])),
  (.for (.var 5) (.rng1 (.idx (.tup [(.con (.int 3)), (.con (.int 6)), (.con (.int 12)), (.con (.int 1)), (.con (.int 0))]) (.call 18 [.a 0, .a 1] [(.var 0), (.con (.int 5))]))) [(.expr (.bm .append (.var 4) [(.tup [(.bin false .add (.con (.int 1)) (.call 18 [.a 0, .a 1] [(.var 1), (.idx (.tup [(.con (.int 3)), (.con (.int 100))]) (.call 18 [.a 0, .a 1] [(.var 0), (.con (.int 2))]))])), (.call 19 [.a 0, .a 1, .a 2] [(.var 1), (.var 2), (.var 3)])])]))]),
  (.asg (.var 6) (.idx (.tup [(.con (.int 5)), (.con (.int 100)), (.bin false .add (.bin false .pow (.con (.int 10)) (.con (.int 7))) (.con (.int 1))), (.con (.int 1))]) (.call 18 [.a 0, .a 1] [(.var 0), (.con (.int 4))]))),
  (.asg (.var 7) (.lc false [5] (.var 5) (.rng1 (.var 2)) [] (.call 18 [.a 0, .a 1] [(.var 0), (.var 6)]))),
  (.asg (.var 8) (.idx (.tup [(.con (.int 6)), (.con (.int 40)), (.bin false .add (.bin false .pow (.con (.int 10)) (.con (.int 7))) (.con (.int 1)))]) (.call 18 [.a 0, .a 1] [(.var 0), (.con (.int 3))]))),
  (.ret (.tup [(.frz (.var 4)), (.var 7), (.lc false [5] (.var 5) (.rng1 (.var 2)) [] (.call 18 [.a 0, .a 1] [(.var 1), (.var 8)]))]))]
abbrev p_l_room : List Iv.St := [(.asg (.var 2) (.bi (.sumL) [(.idx (.var 1) (.con (.int 2)))])),
  (.ret (.idx (.tup [(.call 18 [.a 0, .a 1] [(.var 0), (.bin false .add (.var 2) (.con (.int 1)))]), (.var 2), (.con (.int 0)), (.call 18 [.a 0, .a 1] [(.var 0), (.bin false .add (.bin false .pow (.con (.int 10)) (.con (.int 9))) (.con (.int 1)))])]) (.call 18 [.a 0, .a 1] [(.var 0), (.con (.int 4))])))]
abbrev p_l_least : List Iv.St := [(.asg (.var 2) (.call 13 [.a 0, .a 1] [(.var 0), (.var 1)])),
  (.ite (.or (.cmp .notN (.call 16 [.a 0, .a 1, .a 2] [(.var 0), (.var 2), (.var 1)]) (.con .non)) (.cmp .ne (.call 6 [.a 0, .a 1] [(.var 0), (.idx (.var 2) (.con (.int 0)))]) (.idx (.var 2) (.con (.int 1))))) [(.ret (.con .non))] []),
  (.ret (.idx (.var 2) (.con (.int 1))))]
abbrev p_l_right : List Iv.St := [(.asg (.tup [(.var 3), (.var 4), (.var 5)]) (.var 1)),
  (.asg (.tup [(.var 6), (.var 7)]) (.tup [(.call 22 [.a 0, .a 1] [(.var 1), (.var 2)]), (.bi (.len) [(.var 4)])])),
  (.asg (.var 8) (.call 22 [.a 0, .a 1] [(.var 1), (.bin false .div (.var 2) (.con (.int 2)))])),
  (.ite (.or (.cmp .isN (.var 6) (.con .non)) (.or (.cmp .isN (.var 8) (.con .non)) (.or (.cmp .gt (.var 6) (.var 8)) (.cmp .gt (.var 6) (.call 6 [.a 0, .a 1] [(.var 1), (.tup [])]))))) [(.ret (.con (.bl false)))] []),
  (.ite (.bi (.any) [(.lc false [18] (.var 18) (.rng1 (.var 7)) [] (.and (.cmp .le (.idx (.var 5) (.var 18)) (.var 2)) (.cmp .lt (.call 6 [.a 0, .a 1] [(.var 1), (.tup [(.var 18)])]) (.var 6))))]) [(.ret (.con (.bl false)))] []),
  (.asg (.var 9) (.call 19 [.a 0, .a 1, .a 2] [(.var 0), (.var 7), (.con (.int 20))])),
  (.asg (.var 10) (.tup [(.bin false .add (.slc false (.var 3) none (some (.con (.int 11)))) (.lst false [(.tup [(.bin false .add (.con (.int 1)) (.call 18 [.a 0, .a 1] [(.var 0), (.con (.int 100))])), (.var 9)])])), (.var 4), (.var 5)])),
  (.ite (.cmp .lt (.call 22 [.a 0, .a 1] [(.var 10), (.var 2)]) (.call 22 [.a 0, .a 1] [(.tup [(.slc false (.var 3) none (some (.con (.int 11)))), (.var 4), (.var 5)]), (.var 2)])) [(.ret (.con (.bl false)))] []),
  (.ite (.cmp .ne (.var 3) (.lst false [])) [(.asg (.tup [(.var 11), (.var 12)]) (.idx (.var 3) (.con (.int 0)))),
  (.asg (.var 13) (.bin false .add (.lst false [(.tup [(.var 11), (.bin false .add (.var 12) (.lst false [(.tup [(.bin false .div (.idx (.idx (.var 12) (.con (.int 0))) (.con (.int 0))) (.con (.int 2))), (.tup [(.call 18 [.a 0, .a 1] [(.var 0), (.var 7)])])])]))])]) (.slc false (.var 3) (some (.con (.int 1))) none))),
  (.ite (.cmp .gt (.call 22 [.a 0, .a 1] [(.tup [(.var 13), (.var 4), (.var 5)]), (.var 2)]) (.var 6)) [(.ret (.con (.bl false)))] [])] []),
  (.asg (.var 14) (.bin false .add (.con (.int 1)) (.call 18 [.a 0, .a 1] [(.var 0), (.con (.int 3))]))),
  (.ite (.and (.cmp .le (.bin false .mul (.bi .maxD [(.lc false [11, 12] (.tup [(.var 11), (.var 12)]) (.e (.var 3)) [] (.var 11)), (.con (.int 0))]) (.var 14)) (.con (.int 100))) (.cmp .le (.bin false .mul (.bi (.maxL) [(.var 4)]) (.var 14)) (.bin false .pow (.con (.int 10)) (.con (.int 7))))) [(.asg (.var 15) (.tup [(.lc false [11, 12] (.tup [(.var 11), (.var 12)]) (.e (.var 3)) [] (.tup [(.bin false .mul (.var 11) (.var 14)), (.var 12)])), (.lc false [16] (.var 16) (.e (.var 4)) [] (.bin false .mul (.var 14) (.var 16))), (.var 5)])),
  (.ite (.cmp .ne (.call 22 [.a 0, .a 1] [(.var 15), (.var 2)]) (.bin false .mul (.var 14) (.var 6))) [(.ret (.con (.bl false)))] [])] []),
  (.ite (.and (.cmp .lt (.var 7) (.con (.int 7))) (.cmp .lt (.var 2) (.bin false .pow (.con (.int 10)) (.con (.int 7))))) [(.for (.tup [(.var 16), (.var 17)]) (.e (.tup [(.tup [(.con (.int 0)), (.con (.int 0))]), (.tup [(.con (.int 0)), (.bin false .add (.var 2) (.con (.int 1)))]), (.tup [(.con (.int 5)), (.con (.int 0))])])) [(.ite (.cmp .ne (.call 22 [.a 0, .a 1] [(.tup [(.var 3), (.bin false .add (.var 4) (.lst false [(.var 16)])), (.bin false .add (.var 5) (.lst false [(.var 17)]))]), (.var 2)]) (.var 6)) [(.ret (.con (.bl false)))] [])])] []),
  (.ret (.con (.bl true)))]
abbrev p_law : List Iv.St := [(.for (.var 1) (.rng1 (.bi (.max2) [(.con (.int 2)), (.bi (.min2) [(.con (.int 3)), (.bin false .div (.bi (.len) [(.var 0)]) (.con (.int 2)))])])) [(.asg (.tup [.var 2, .var 3]) (.tup [(.call 17 [.a 0, .a 1] [(.var 0), (.bin false .mul (.con (.int 2)) (.var 1))]), (.call 17 [.a 0, .a 1] [(.var 0), (.bin false .add (.bin false .mul (.con (.int 2)) (.var 1)) (.con (.int 1)))])])),
  (.asg (.var 4) (.call 20 [.a 0, .a 1, .a 2] [(.var 2), (.var 3), (.idx (.tup [(.con (.int 4)), (.con (.int 6)), (.con (.int 3)), (.con (.int 8)), (.con (.int 1))]) (.call 18 [.a 0, .a 1] [(.var 2), (.con (.int 5))]))])),
  (.ite (.not (.call 23 [.a 0, .a 1, .a 2] [(.var 2), (.var 4), (.call 21 [.a 0, .a 1] [(.var 2), (.var 4)])])) [(.ret (.con (.bl false)))] [])]),
  (.ret (.con (.bl true)))]
abbrev Tb : List Fn := [⟨3, 3, p_is_whole⟩, ⟨1, 1, p_is_number⟩, ⟨2, 4, p_are_rising⟩, ⟨2, 5, p_least⟩, ⟨2, 6, p_size_of⟩, ⟨3, 5, p_asked_of⟩, ⟨2, 6, p_total⟩, ⟨4, 4, p_Road_init⟩, ⟨3, 3, p_Road_on⟩, ⟨1, 6, p_Road_least_total⟩, ⟨3, 3, p_Road_is_closed⟩, ⟨4, 6, p_best_behind⟩, ⟨4, 7, p_paper_of⟩, ⟨2, 8, p_best⟩, ⟨2, 6, p_roads_of⟩, ⟨2, 6, p_look_form⟩, ⟨3, 7, p_look_best⟩, ⟨2, 5, p_l_bag⟩, ⟨2, 3, p_l_take⟩, ⟨3, 7, p_l_offers⟩, ⟨3, 9, p_l_task⟩, ⟨2, 3, p_l_room⟩, ⟨2, 3, p_l_least⟩, ⟨3, 19, p_l_right⟩, ⟨1, 5, p_law⟩]
abbrev sg_is_whole : List (Nat × List Str × List Ar) := [(3, [], [.a 0, .a 1, .a 2])]
abbrev sg_is_number : List (Nat × List Str × List Ar) := [(1, [], [.a 0])]
abbrev sg_are_rising : List (Nat × List Str × List Ar) := [(2, [], [.a 0, .a 1])]
abbrev sg_least : List (Nat × List Str × List Ar) := [(2, [], [.a 0, .a 1])]
abbrev sg_size_of : List (Nat × List Str × List Ar) := [(2, [], [.a 0, .a 1])]
abbrev sg_asked_of : List (Nat × List Str × List Ar) := [(2, ["start"], [.a 0, .a 1, .a 2])]
abbrev sg_total : List (Nat × List Str × List Ar) := [(2, [], [.a 0, .a 1])]
abbrev sg_Road_init : List (Nat × List Str × List Ar) := [(4, [], [.a 0, .a 1, .a 2, .a 3]), (2, [], [.a 0, .a 1, .d (.tup []), .d (.tup [])])]
abbrev sg_Road_on : List (Nat × List Str × List Ar) := [(2, ["is_in"], [.a 0, .a 1, .a 2])]
abbrev sg_Road_least_total : List (Nat × List Str × List Ar) := [(1, [], [.a 0])]
abbrev sg_Road_is_closed : List (Nat × List Str × List Ar) := [(3, [], [.a 0, .a 1, .a 2])]
abbrev sg_best_behind : List (Nat × List Str × List Ar) := [(4, [], [.a 0, .a 1, .a 2, .a 3])]
abbrev sg_paper_of : List (Nat × List Str × List Ar) := [(4, [], [.a 0, .a 1, .a 2, .a 3])]
abbrev sg_best : List (Nat × List Str × List Ar) := [(1, ["room"], [.a 0, .a 1])]
abbrev sg_roads_of : List (Nat × List Str × List Ar) := [(2, [], [.a 0, .a 1])]
abbrev sg_look_form : List (Nat × List Str × List Ar) := [(2, [], [.a 0, .a 1])]
abbrev sg_look_best : List (Nat × List Str × List Ar) := [(2, ["room"], [.a 0, .a 1, .a 2])]
abbrev sg_l_bag : List (Nat × List Str × List Ar) := [(2, [], [.a 0, .a 1])]
abbrev sg_l_take : List (Nat × List Str × List Ar) := [(2, [], [.a 0, .a 1])]
abbrev sg_l_offers : List (Nat × List Str × List Ar) := [(3, [], [.a 0, .a 1, .a 2])]
abbrev sg_l_task : List (Nat × List Str × List Ar) := [(3, [], [.a 0, .a 1, .a 2])]
abbrev sg_l_room : List (Nat × List Str × List Ar) := [(2, [], [.a 0, .a 1])]
abbrev sg_l_least : List (Nat × List Str × List Ar) := [(2, [], [.a 0, .a 1])]
abbrev sg_l_right : List (Nat × List Str × List Ar) := [(3, [], [.a 0, .a 1, .a 2])]
abbrev sg_law : List (Nat × List Str × List Ar) := [(1, [], [.a 0])]
abbrev fnL : List Str := ["out", "taken", "task", "where"]
abbrev gs (K : PySem.W.Frag) : Gs := { K := K, ca := fun c => ([He.ga K "Road", He.ga K "NoProof"] : List Addr).getD c 0, fn := fun f => fnL.getD f "", fok := fun f => f < 4, finj := fun f f' h h' => (by decide +kernel : ∀ f, f < 4 → ∀ f', f' < 4 → fnL.getD f "" = fnL.getD f' "" → f = f') f h f' h', tabs := [((He.cT K ("best", none)).2, ("best" : Str) ++ ".<locals>." ++ "<lambda>")] }
section
variable {P : Program} {w : World} {K : PySem.W.Frag} {mg : Str → Option Value} {base : Heap}
theorem sgs_is_whole (T : Txt K mg) {fd : FuncData} (F : FunD K "is_whole" "is_whole" (defArgs s_is_whole) (defBody s_is_whole) (defScope s_is_whole) [(.int (-999)), (.int (999))] [] (He.ga K "is_whole") fd) : ∀ s ∈ sg_is_whole, Sig (gs K) fd ["thing", "low", "high"] s.1 s.2.1 s.2.2 := fun s hs => match s, hs with
  | _, .head _ => sig_dfl (g := gs K) (js := [0, 1, 2]) [(.int (-999)), (.int (999))] F (by simp) rfl (by decide) (fun _ _ _ => (Rels.cons (by rw [rel_int]) (Rels.cons (by rw [rel_int]) Rels.nil))) fun _ _ _ _ _ _ _ us ws its hl hl2 hl3 => match us, hl, ws, hl2, its, hl3 with | [_, _, _], _, [], _, [_, _], _ => ⟨_, rfl, rfl⟩
theorem sgs_is_number (T : Txt K mg) {fd : FuncData} (F : FunD K "is_number" "is_number" (defArgs s_is_number) (defBody s_is_number) (defScope s_is_number) [] [] (He.ga K "is_number") fd) : ∀ s ∈ sg_is_number, Sig (gs K) fd ["thing"] s.1 s.2.1 s.2.2 := fun s hs => match s, hs with
  | _, .head _ => sig_all (g := gs K) (js := [0]) F rfl fun _ _ _ _ _ _ us ws hl hl2 => match us, hl, ws, hl2 with | [_], _, [], _ => rfl
theorem sgs_are_rising (T : Txt K mg) {fd : FuncData} (F : FunD K "are_rising" "are_rising" (defArgs s_are_rising) (defBody s_are_rising) (defScope s_are_rising) [] [] (He.ga K "are_rising") fd) : ∀ s ∈ sg_are_rising, Sig (gs K) fd ["thing", "many"] s.1 s.2.1 s.2.2 := fun s hs => match s, hs with
  | _, .head _ => sig_all (g := gs K) (js := [0, 1]) F rfl fun _ _ _ _ _ _ us ws hl hl2 => match us, hl, ws, hl2 with | [_, _], _, [], _ => rfl
theorem sgs_least (T : Txt K mg) {fd : FuncData} (F : FunD K "least" "least" (defArgs s_least) (defBody s_least) (defScope s_least) [] [] (He.ga K "least") fd) : ∀ s ∈ sg_least, Sig (gs K) fd ["offers", "chosen"] s.1 s.2.1 s.2.2 := fun s hs => match s, hs with
  | _, .head _ => sig_all (g := gs K) (js := [0, 1]) F rfl fun _ _ _ _ _ _ us ws hl hl2 => match us, hl, ws, hl2 with | [_, _], _, [], _ => rfl
theorem sgs_size_of (T : Txt K mg) {fd : FuncData} (F : FunD K "size_of" "size_of" (defArgs s_size_of) (defBody s_size_of) (defScope s_size_of) [] [] (He.ga K "size_of") fd) : ∀ s ∈ sg_size_of, Sig (gs K) fd ["task", "chosen"] s.1 s.2.1 s.2.2 := fun s hs => match s, hs with
  | _, .head _ => sig_all (g := gs K) (js := [0, 1]) F rfl fun _ _ _ _ _ _ us ws hl hl2 => match us, hl, ws, hl2 with | [_, _], _, [], _ => rfl
theorem sgs_asked_of (T : Txt K mg) {fd : FuncData} (F : FunD K "asked_of" "asked_of" (defArgs s_asked_of) (defBody s_asked_of) (defScope s_asked_of) [] [("start", (.int (0)))] (He.ga K "asked_of") fd) : ∀ s ∈ sg_asked_of, Sig (gs K) fd ["task", "chosen", "start"] s.1 s.2.1 s.2.2 := fun s hs => match s, hs with
  | _, .head _ => sig_kw0 (g := gs K) (js := [0, 1, 2]) [] [] F (by simp) (by simp) rfl (by decide) (fun _ _ _ => Rels.nil) fun _ _ _ _ _ _ us mv ws hl hl2 hl3 => match us, hl, mv, hl2, ws, hl3 with | [_, _], _, [], _, [_], _ => rfl
theorem sgs_total (T : Txt K mg) {fd : FuncData} (F : FunD K "total" "total" (defArgs s_total) (defBody s_total) (defScope s_total) [] [] (He.ga K "total") fd) : ∀ s ∈ sg_total, Sig (gs K) fd ["task", "chosen"] s.1 s.2.1 s.2.2 := fun s hs => match s, hs with
  | _, .head _ => sig_all (g := gs K) (js := [0, 1]) F rfl fun _ _ _ _ _ _ us ws hl hl2 => match us, hl, ws, hl2 with | [_, _], _, [], _ => rfl
theorem sgs_Road_init (T : Txt K mg) {fd : FuncData} (F : FunD K "__init__" "Road.__init__" (defArgs s_Road_init) (defBody s_Road_init) (defScope s_Road_init) [(.ref (He.dflAt ("Road", some "__init__") 0 K)), (.ref (He.dflAt ("Road", some "__init__") 1 K))] [] (He.ma K (He.ga K "Road") "__init__") fd) : ∀ s ∈ sg_Road_init, Sig (gs K) fd ["self", "task", "taken", "out"] s.1 s.2.1 s.2.2 := fun s hs => match s, hs with
  | _, .head _ => sig_dfl (g := gs K) (js := [0, 1, 2, 3]) [(.tup []), (.tup [])] F (by simp) rfl (by decide) (fun _ _ _ => (Rels.cons ((rel_tupK T.e_Road_init_0)) (Rels.cons ((rel_tupK T.e_Road_init_1)) Rels.nil))) fun _ _ _ _ _ _ _ us ws its hl hl2 hl3 => match us, hl, ws, hl2, its, hl3 with | [_, _, _, _], _, [], _, [_, _], _ => ⟨_, rfl, rfl⟩
  | _, .tail _ (.head _) => sig_dfl (g := gs K) (js := [0, 1, 2, 3]) [(.tup []), (.tup [])] F (by simp) rfl (by decide) (fun _ _ _ => (Rels.cons ((rel_tupK T.e_Road_init_0)) (Rels.cons ((rel_tupK T.e_Road_init_1)) Rels.nil))) fun _ _ _ _ _ _ _ us ws its hl hl2 hl3 => match us, hl, ws, hl2, its, hl3 with | [_, _], _, [], _, [_, _], _ => ⟨_, rfl, rfl⟩
theorem sgs_Road_on (T : Txt K mg) {fd : FuncData} (F : FunD K "on" "Road.on" (defArgs s_Road_on) (defBody s_Road_on) (defScope s_Road_on) [] [] (He.ma K (He.ga K "Road") "on") fd) : ∀ s ∈ sg_Road_on, Sig (gs K) fd ["self", "design", "is_in"] s.1 s.2.1 s.2.2 := fun s hs => match s, hs with
  | _, .head _ => sig_all (g := gs K) (js := [0, 1, 2]) F rfl fun _ _ _ _ _ _ us ws hl hl2 => match us, hl, ws, hl2 with | [_, _], _, [_], _ => rfl
theorem sgs_Road_least_total (T : Txt K mg) {fd : FuncData} (F : FunD K "least_total" "Road.least_total" (defArgs s_Road_least_total) (defBody s_Road_least_total) (defScope s_Road_least_total) [] [] (He.ma K (He.ga K "Road") "least_total") fd) : ∀ s ∈ sg_Road_least_total, Sig (gs K) fd ["self"] s.1 s.2.1 s.2.2 := fun s hs => match s, hs with
  | _, .head _ => sig_all (g := gs K) (js := [0]) F rfl fun _ _ _ _ _ _ us ws hl hl2 => match us, hl, ws, hl2 with | [_], _, [], _ => rfl
theorem sgs_Road_is_closed (T : Txt K mg) {fd : FuncData} (F : FunD K "is_closed" "Road.is_closed" (defArgs s_Road_is_closed) (defBody s_Road_is_closed) (defScope s_Road_is_closed) [] [] (He.ma K (He.ga K "Road") "is_closed") fd) : ∀ s ∈ sg_Road_is_closed, Sig (gs K) fd ["self", "room", "bound"] s.1 s.2.1 s.2.2 := fun s hs => match s, hs with
  | _, .head _ => sig_all (g := gs K) (js := [0, 1, 2]) F rfl fun _ _ _ _ _ _ us ws hl hl2 => match us, hl, ws, hl2 with | [_, _, _], _, [], _ => rfl
theorem sgs_best_behind (T : Txt K mg) {fd : FuncData} (F : FunD K "best_behind" "best_behind" (defArgs s_best_behind) (defBody s_best_behind) (defScope s_best_behind) [] [] (He.ga K "best_behind") fd) : ∀ s ∈ sg_best_behind, Sig (gs K) fd ["road", "order", "room", "best"] s.1 s.2.1 s.2.2 := fun s hs => match s, hs with
  | _, .head _ => sig_all (g := gs K) (js := [0, 1, 2, 3]) F rfl fun _ _ _ _ _ _ us ws hl hl2 => match us, hl, ws, hl2 with | [_, _, _, _], _, [], _ => rfl
theorem sgs_paper_of (T : Txt K mg) {fd : FuncData} (F : FunD K "paper_of" "paper_of" (defArgs s_paper_of) (defBody s_paper_of) (defScope s_paper_of) [] [] (He.ga K "paper_of") fd) : ∀ s ∈ sg_paper_of, Sig (gs K) fd ["road", "order", "room", "bound"] s.1 s.2.1 s.2.2 := fun s hs => match s, hs with
  | _, .head _ => sig_all (g := gs K) (js := [0, 1, 2, 3]) F rfl fun _ _ _ _ _ _ us ws hl hl2 => match us, hl, ws, hl2 with | [_, _, _, _], _, [], _ => rfl
theorem sgs_best (T : Txt K mg) {fd : FuncData} (F : FunD K "best" "best" (defArgs s_best) (defBody s_best) (defScope s_best) [] [] (He.ga K "best") fd) : ∀ s ∈ sg_best, Sig (gs K) fd ["task", "room"] s.1 s.2.1 s.2.2 := fun s hs => match s, hs with
  | _, .head _ => sig_all (g := gs K) (js := [0, 1]) F rfl fun _ _ _ _ _ _ us ws hl hl2 => match us, hl, ws, hl2 with | [_], _, [_], _ => rfl
theorem sgs_roads_of (T : Txt K mg) {fd : FuncData} (F : FunD K "roads_of" "roads_of" (defArgs s_roads_of) (defBody s_roads_of) (defScope s_roads_of) [] [] (He.ga K "roads_of") fd) : ∀ s ∈ sg_roads_of, Sig (gs K) fd ["task", "paper"] s.1 s.2.1 s.2.2 := fun s hs => match s, hs with
  | _, .head _ => sig_all (g := gs K) (js := [0, 1]) F rfl fun _ _ _ _ _ _ us ws hl hl2 => match us, hl, ws, hl2 with | [_, _], _, [], _ => rfl
theorem sgs_look_form (T : Txt K mg) {fd : FuncData} (F : FunD K "look_form" "look_form" (defArgs s_look_form) (defBody s_look_form) (defScope s_look_form) [] [] (He.ga K "look_form") fd) : ∀ s ∈ sg_look_form, Sig (gs K) fd ["task", "thing"] s.1 s.2.1 s.2.2 := fun s hs => match s, hs with
  | _, .head _ => sig_all (g := gs K) (js := [0, 1]) F rfl fun _ _ _ _ _ _ us ws hl hl2 => match us, hl, ws, hl2 with | [_, _], _, [], _ => rfl
theorem sgs_look_best (T : Txt K mg) {fd : FuncData} (F : FunD K "look_best" "look_best" (defArgs s_look_best) (defBody s_look_best) (defScope s_look_best) [] [] (He.ga K "look_best") fd) : ∀ s ∈ sg_look_best, Sig (gs K) fd ["task", "thing", "room"] s.1 s.2.1 s.2.2 := fun s hs => match s, hs with
  | _, .head _ => sig_all (g := gs K) (js := [0, 1, 2]) F rfl fun _ _ _ _ _ _ us ws hl hl2 => match us, hl, ws, hl2 with | [_, _], _, [_], _ => rfl
theorem sgs_l_bag (T : Txt K mg) {fd : FuncData} (F : FunD K "_law_bag" "_law_bag" (defArgs s_l_bag) (defBody s_l_bag) (defScope s_l_bag) [] [] (He.ga K "_law_bag") fd) : ∀ s ∈ sg_l_bag, Sig (gs K) fd ["_law_script", "_law_at"] s.1 s.2.1 s.2.2 := fun s hs => match s, hs with
  | _, .head _ => sig_all (g := gs K) (js := [0, 1]) F rfl fun _ _ _ _ _ _ us ws hl hl2 => match us, hl, ws, hl2 with | [_, _], _, [], _ => rfl
theorem sgs_l_take (T : Txt K mg) {fd : FuncData} (F : FunD K "_law_take" "_law_take" (defArgs s_l_take) (defBody s_l_take) (defScope s_l_take) [] [] (He.ga K "_law_take") fd) : ∀ s ∈ sg_l_take, Sig (gs K) fd ["_law_bag_here", "_law_many"] s.1 s.2.1 s.2.2 := fun s hs => match s, hs with
  | _, .head _ => sig_all (g := gs K) (js := [0, 1]) F rfl fun _ _ _ _ _ _ us ws hl hl2 => match us, hl, ws, hl2 with | [_, _], _, [], _ => rfl
theorem sgs_l_offers (T : Txt K mg) {fd : FuncData} (F : FunD K "_law_offers" "_law_offers" (defArgs s_l_offers) (defBody s_l_offers) (defScope s_l_offers) [] [] (He.ga K "_law_offers") fd) : ∀ s ∈ sg_l_offers, Sig (gs K) fd ["_law_bag_here", "_law_many", "_law_great"] s.1 s.2.1 s.2.2 := fun s hs => match s, hs with
  | _, .head _ => sig_all (g := gs K) (js := [0, 1, 2]) F rfl fun _ _ _ _ _ _ us ws hl hl2 => match us, hl, ws, hl2 with | [_, _, _], _, [], _ => rfl
theorem sgs_l_task (T : Txt K mg) {fd : FuncData} (F : FunD K "_law_task" "_law_task" (defArgs s_l_task) (defBody s_l_task) (defScope s_l_task) [] [] (He.ga K "_law_task") fd) : ∀ s ∈ sg_l_task, Sig (gs K) fd ["_law_bag_here", "_law_other", "_law_many"] s.1 s.2.1 s.2.2 := fun s hs => match s, hs with
  | _, .head _ => sig_all (g := gs K) (js := [0, 1, 2]) F rfl fun _ _ _ _ _ _ us ws hl hl2 => match us, hl, ws, hl2 with | [_, _, _], _, [], _ => rfl
theorem sgs_l_room (T : Txt K mg) {fd : FuncData} (F : FunD K "_law_room" "_law_room" (defArgs s_l_room) (defBody s_l_room) (defScope s_l_room) [] [] (He.ga K "_law_room") fd) : ∀ s ∈ sg_l_room, Sig (gs K) fd ["_law_bag_here", "_law_task_here"] s.1 s.2.1 s.2.2 := fun s hs => match s, hs with
  | _, .head _ => sig_all (g := gs K) (js := [0, 1]) F rfl fun _ _ _ _ _ _ us ws hl hl2 => match us, hl, ws, hl2 with | [_, _], _, [], _ => rfl
theorem sgs_l_least (T : Txt K mg) {fd : FuncData} (F : FunD K "_law_least" "_law_least" (defArgs s_l_least) (defBody s_l_least) (defScope s_l_least) [] [] (He.ga K "_law_least") fd) : ∀ s ∈ sg_l_least, Sig (gs K) fd ["_law_given", "_law_wide"] s.1 s.2.1 s.2.2 := fun s hs => match s, hs with
  | _, .head _ => sig_all (g := gs K) (js := [0, 1]) F rfl fun _ _ _ _ _ _ us ws hl hl2 => match us, hl, ws, hl2 with | [_, _], _, [], _ => rfl
theorem sgs_l_right (T : Txt K mg) {fd : FuncData} (F : FunD K "_law_right" "_law_right" (defArgs s_l_right) (defBody s_l_right) (defScope s_l_right) [] [] (He.ga K "_law_right") fd) : ∀ s ∈ sg_l_right, Sig (gs K) fd ["_law_bag_here", "_law_given", "_law_wide"] s.1 s.2.1 s.2.2 := fun s hs => match s, hs with
  | _, .head _ => sig_all (g := gs K) (js := [0, 1, 2]) F rfl fun _ _ _ _ _ _ us ws hl hl2 => match us, hl, ws, hl2 with | [_, _, _], _, [], _ => rfl
theorem sgs_law (T : Txt K mg) {fd : FuncData} (F : FunD K "law" "law" (defArgs s_law) (defBody s_law) (defScope s_law) [] [] (He.ga K "law") fd) : ∀ s ∈ sg_law, Sig (gs K) fd ["_law_script"] s.1 s.2.1 s.2.2 := fun s hs => match s, hs with
  | _, .head _ => sig_all (g := gs K) (js := [0]) F rfl fun _ _ _ _ _ _ us ws hl hl2 => match us, hl, ws, hl2 with | [_], _, [], _ => rfl
structure All (P : Program) (w : World) (K : PySem.W.Frag) (mg : Str → Option Value) (base : Heap) (k : Nat) : Prop where
  f_is_whole : Fo (gs K) P w K mg base (callN Tb k) (2 * k + 2) (He.ga K "is_whole") 0 sg_is_whole
  f_is_number : Fo (gs K) P w K mg base (callN Tb k) (2 * k + 2) (He.ga K "is_number") 1 sg_is_number
  f_are_rising : Fo (gs K) P w K mg base (callN Tb k) (2 * k + 2) (He.ga K "are_rising") 2 sg_are_rising
  f_least : Fo (gs K) P w K mg base (callN Tb k) (2 * k + 2) (He.ga K "least") 3 sg_least
  f_size_of : Fo (gs K) P w K mg base (callN Tb k) (2 * k + 2) (He.ga K "size_of") 4 sg_size_of
  f_asked_of : Fo (gs K) P w K mg base (callN Tb k) (2 * k + 2) (He.ga K "asked_of") 5 sg_asked_of
  f_total : Fo (gs K) P w K mg base (callN Tb k) (2 * k + 2) (He.ga K "total") 6 sg_total
  f_Road_init : Fo (gs K) P w K mg base (callN Tb k) (2 * k + 2) (He.ma K (He.ga K "Road") "__init__") 7 sg_Road_init
  f_Road_on : Fo (gs K) P w K mg base (callN Tb k) (2 * k + 2) (He.ma K (He.ga K "Road") "on") 8 sg_Road_on
  f_Road_least_total : Fo (gs K) P w K mg base (callN Tb k) (2 * k + 2) (He.ma K (He.ga K "Road") "least_total") 9 sg_Road_least_total
  f_Road_is_closed : Fo (gs K) P w K mg base (callN Tb k) (2 * k + 2) (He.ma K (He.ga K "Road") "is_closed") 10 sg_Road_is_closed
  f_best_behind : Fo (gs K) P w K mg base (callN Tb k) (2 * k + 2) (He.ga K "best_behind") 11 sg_best_behind
  f_paper_of : Fo (gs K) P w K mg base (callN Tb k) (2 * k + 2) (He.ga K "paper_of") 12 sg_paper_of
  f_best : Fo (gs K) P w K mg base (callN Tb k) (2 * k + 2) (He.ga K "best") 13 sg_best
  f_roads_of : Fo (gs K) P w K mg base (callN Tb k) (2 * k + 2) (He.ga K "roads_of") 14 sg_roads_of
  f_look_form : Fo (gs K) P w K mg base (callN Tb k) (2 * k + 2) (He.ga K "look_form") 15 sg_look_form
  f_look_best : Fo (gs K) P w K mg base (callN Tb k) (2 * k + 2) (He.ga K "look_best") 16 sg_look_best
  f_l_bag : Fo (gs K) P w K mg base (callN Tb k) (2 * k + 2) (He.ga K "_law_bag") 17 sg_l_bag
  f_l_take : Fo (gs K) P w K mg base (callN Tb k) (2 * k + 2) (He.ga K "_law_take") 18 sg_l_take
  f_l_offers : Fo (gs K) P w K mg base (callN Tb k) (2 * k + 2) (He.ga K "_law_offers") 19 sg_l_offers
  f_l_task : Fo (gs K) P w K mg base (callN Tb k) (2 * k + 2) (He.ga K "_law_task") 20 sg_l_task
  f_l_room : Fo (gs K) P w K mg base (callN Tb k) (2 * k + 2) (He.ga K "_law_room") 21 sg_l_room
  f_l_least : Fo (gs K) P w K mg base (callN Tb k) (2 * k + 2) (He.ga K "_law_least") 22 sg_l_least
  f_l_right : Fo (gs K) P w K mg base (callN Tb k) (2 * k + 2) (He.ga K "_law_right") 23 sg_l_right
  f_law : Fo (gs K) P w K mg base (callN Tb k) (2 * k + 2) (He.ga K "law") 24 sg_law
theorem b_is_whole (T : Txt K mg) {k : Nat} (A : All P w K mg base k) {cdv : Value} {C : Around} {outer : List PySem.Env} {s : Shared} {H : Hp} {E : XK} (hr : Room (2 * k + 3) (C.deeper (envOfC "is_whole" (defScope s_is_whole) s.heap.objs.size (He.ga K "is_whole") cdv))) :
    PSs (cxOf (L2.CX P w) P w K mg base ["thing", "low", "high"] "is_whole" (defScope s_is_whole) (He.ga K "is_whole") cdv C outer s H E) (defBody s_is_whole) (tS (gs K) (fun c d _ H => E c d H) (exs (callN Tb k) p_is_whole)) := by
  have tk : Takes (cxOf (L2.CX P w) P w K mg base ["thing", "low", "high"] "is_whole" (defScope s_is_whole) (He.ga K "is_whole") cdv C outer s H E) (fun c d _ H => E c d H) := takes_of rfl rfl rfl rfl
  have pp : PassesOwn (model (cxOf (L2.CX P w) P w K mg base ["thing", "low", "high"] "is_whole" (defScope s_is_whole) (He.ga K "is_whole") cdv C outer s H E).prog (cxOf (L2.CX P w) P w K mg base ["thing", "low", "high"] "is_whole" (defScope s_is_whole) (He.ga K "is_whole") cdv C outer s H E).w) (cxOf (L2.CX P w) P w K mg base ["thing", "low", "high"] "is_whole" (defScope s_is_whole) (He.ga K "is_whole") cdv C outer s H E).A (cxOf (L2.CX P w) P w K mg base ["thing", "low", "high"] "is_whole" (defScope s_is_whole) (He.ga K "is_whole") cdv C outer s H E).env (cxOf (L2.CX P w) P w K mg base ["thing", "low", "high"] "is_whole" (defScope s_is_whole) (He.ga K "is_whole") cdv C outer s H E).xe := passes_of rfl
  exact (s_cons (s_ret (i_and rfl (j_bi (.isi) hr T.n_isinstance (a_cons rfl j_var (a_cons rfl (c_gT (n := "int") T.n_int (by decide +kernel)) a_nil))) (i_and rfl (i_not rfl (j_bi (.isi) hr T.n_isinstance (a_cons rfl j_var (a_cons rfl (c_gT (n := "bool") T.n_bool (by decide +kernel)) a_nil)))) (pe_one (i_chain (op := .le) (op' := .le) rfl hr rfl j_var j_var j_var)))))
    s_nil)
theorem b_is_number (T : Txt K mg) {k : Nat} (A : All P w K mg base k) {cdv : Value} {C : Around} {outer : List PySem.Env} {s : Shared} {H : Hp} {E : XK} (hr : Room (2 * k + 3) (C.deeper (envOfC "is_number" (defScope s_is_number) s.heap.objs.size (He.ga K "is_number") cdv))) :
    PSs (cxOf (L2.CX P w) P w K mg base ["thing"] "is_number" (defScope s_is_number) (He.ga K "is_number") cdv C outer s H E) (defBody s_is_number) (tS (gs K) (fun c d _ H => E c d H) (exs (callN Tb k) p_is_number)) := by
  have tk : Takes (cxOf (L2.CX P w) P w K mg base ["thing"] "is_number" (defScope s_is_number) (He.ga K "is_number") cdv C outer s H E) (fun c d _ H => E c d H) := takes_of rfl rfl rfl rfl
  have pp : PassesOwn (model (cxOf (L2.CX P w) P w K mg base ["thing"] "is_number" (defScope s_is_number) (He.ga K "is_number") cdv C outer s H E).prog (cxOf (L2.CX P w) P w K mg base ["thing"] "is_number" (defScope s_is_number) (He.ga K "is_number") cdv C outer s H E).w) (cxOf (L2.CX P w) P w K mg base ["thing"] "is_number" (defScope s_is_number) (He.ga K "is_number") cdv C outer s H E).A (cxOf (L2.CX P w) P w K mg base ["thing"] "is_number" (defScope s_is_number) (He.ga K "is_number") cdv C outer s H E).env (cxOf (L2.CX P w) P w K mg base ["thing"] "is_number" (defScope s_is_number) (He.ga K "is_number") cdv C outer s H E).xe := passes_of rfl
  exact (s_cons (s_ret (i_and rfl (j_bi (.isi) hr T.n_isinstance (a_cons rfl j_var (a_cons rfl (c_gT (n := "int") T.n_int (by decide +kernel)) a_nil))) (pe_one (i_not rfl (j_bi (.isi) hr T.n_isinstance (a_cons rfl j_var (a_cons rfl (c_gT (n := "bool") T.n_bool (by decide +kernel)) a_nil)))))))
    s_nil)
theorem b_are_rising (T : Txt K mg) {k : Nat} (A : All P w K mg base k) {cdv : Value} {C : Around} {outer : List PySem.Env} {s : Shared} {H : Hp} {E : XK} (hr : Room (2 * k + 3) (C.deeper (envOfC "are_rising" (defScope s_are_rising) s.heap.objs.size (He.ga K "are_rising") cdv))) :
    PSs (cxOf (L2.CX P w) P w K mg base ["thing", "many", "one", "other"] "are_rising" (defScope s_are_rising) (He.ga K "are_rising") cdv C outer s H E) (defBody s_are_rising) (tS (gs K) (fun c d _ H => E c d H) (exs (callN Tb k) p_are_rising)) := by
  have tk : Takes (cxOf (L2.CX P w) P w K mg base ["thing", "many", "one", "other"] "are_rising" (defScope s_are_rising) (He.ga K "are_rising") cdv C outer s H E) (fun c d _ H => E c d H) := takes_of rfl rfl rfl rfl
  have pp : PassesOwn (model (cxOf (L2.CX P w) P w K mg base ["thing", "many", "one", "other"] "are_rising" (defScope s_are_rising) (He.ga K "are_rising") cdv C outer s H E).prog (cxOf (L2.CX P w) P w K mg base ["thing", "many", "one", "other"] "are_rising" (defScope s_are_rising) (He.ga K "are_rising") cdv C outer s H E).w) (cxOf (L2.CX P w) P w K mg base ["thing", "many", "one", "other"] "are_rising" (defScope s_are_rising) (He.ga K "are_rising") cdv C outer s H E).A (cxOf (L2.CX P w) P w K mg base ["thing", "many", "one", "other"] "are_rising" (defScope s_are_rising) (He.ga K "are_rising") cdv C outer s H E).env (cxOf (L2.CX P w) P w K mg base ["thing", "many", "one", "other"] "are_rising" (defScope s_are_rising) (He.ga K "are_rising") cdv C outer s H E).xe := passes_of rfl
  exact (s_cons (s_ite (t_not (t_val rfl rfl (j_bi (.all) hr T.n_all (a_cons rfl (i_lc (own := [("one", 2)]) rfl sc_are_rising.nd rfl (w_e rfl j_var) (blkOk_by (by kernel_rfl)) (fun _ _ _ _ _ => (j_g sc_are_rising.nd)) (fun _ _ _ _ _ => ifs_nil) (fun _ _ _ _ _ => (j_call (ies := [(.var 2), (.con (.int 0)), (.bin false .sub (.var 1) (.con (.int 1)))]) (iks := []) (ks := []) (arr := [.a 0, .a 1, .a 2]) A.f_is_whole T.m_is_whole takes0 hr _ rfl (a_cons rfl j_var (a_cons rfl c_int (a_cons rfl (i_bin (op := .sub) rfl j_var c_int) a_nil))) k_nil (.head _)))) a_nil))))
      (s_cons (s_ret c_bl)
    s_nil)
      s_nil)
    (s_cons (s_ret (j_bi (.all) hr T.n_all (a_cons rfl (i_lc (own := [("one", 2), ("other", 3)]) rfl sc_are_rising.nd rfl (w_zip rfl T.n_zip rfl rfl (a_cons rfl j_var (a_cons rfl (i_slc rfl j_var (p_some c_int) p_none) a_nil))) (blkOk_by (by kernel_rfl)) (fun _ _ _ _ _ => (g_tup rfl rfl rfl rfl (gs_cons rfl (j_g sc_are_rising.nd) (gs_cons rfl (j_g sc_are_rising.nd) gs_nil)))) (fun _ _ _ _ _ => ifs_nil) (fun _ _ _ _ _ => (i_cmp (op := .lt) rfl hr rfl j_var j_var))) a_nil)))
    s_nil))
theorem b_least (T : Txt K mg) {k : Nat} (A : All P w K mg base k) {cdv : Value} {C : Around} {outer : List PySem.Env} {s : Shared} {H : Hp} {E : XK} (hr : Room (2 * k + 3) (C.deeper (envOfC "least" (defScope s_least) s.heap.objs.size (He.ga K "least") cdv))) :
    PSs (cxOf (L2.CX P w) P w K mg base ["offers", "chosen", "touched", "needs", "need"] "least" (defScope s_least) (He.ga K "least") cdv C outer s H E) (defBody s_least) (tS (gs K) (fun c d _ H => E c d H) (exs (callN Tb k) p_least)) := by
  have tk : Takes (cxOf (L2.CX P w) P w K mg base ["offers", "chosen", "touched", "needs", "need"] "least" (defScope s_least) (He.ga K "least") cdv C outer s H E) (fun c d _ H => E c d H) := takes_of rfl rfl rfl rfl
  have pp : PassesOwn (model (cxOf (L2.CX P w) P w K mg base ["offers", "chosen", "touched", "needs", "need"] "least" (defScope s_least) (He.ga K "least") cdv C outer s H E).prog (cxOf (L2.CX P w) P w K mg base ["offers", "chosen", "touched", "needs", "need"] "least" (defScope s_least) (He.ga K "least") cdv C outer s H E).w) (cxOf (L2.CX P w) P w K mg base ["offers", "chosen", "touched", "needs", "need"] "least" (defScope s_least) (He.ga K "least") cdv C outer s H E).A (cxOf (L2.CX P w) P w K mg base ["offers", "chosen", "touched", "needs", "need"] "least" (defScope s_least) (He.ga K "least") cdv C outer s H E).env (cxOf (L2.CX P w) P w K mg base ["offers", "chosen", "touched", "needs", "need"] "least" (defScope s_least) (He.ga K "least") cdv C outer s H E).xe := passes_of rfl
  exact (s_cons (s_ret (j_bi (.minL) hr T.n_min (a_cons rfl (i_lc (own := [("touched", 2), ("needs", 3)]) rfl sc_least.nd rfl (w_e rfl j_var) (blkOk_by (by kernel_rfl)) (fun _ _ _ _ _ => (g_tup rfl rfl rfl rfl (gs_cons rfl (j_g sc_least.nd) (gs_cons rfl (j_g sc_least.nd) gs_nil)))) (fun _ _ _ _ _ => (ifs_one (t_val rfl rfl (j_bi (.all) hr T.n_all (a_cons rfl (i_lc (own := [("need", 4)]) rfl sc_least.nd rfl (w_e rfl j_var) (blkOk_by (by kernel_rfl)) (fun _ _ _ _ _ => (j_g sc_least.nd)) (fun _ _ _ _ _ => ifs_nil) (fun _ _ _ _ _ => (i_cmp (op := .isIn) rfl hr rfl j_var j_var))) a_nil))))) (fun _ _ _ _ _ => j_var)) a_nil)))
    s_nil)
theorem b_size_of (T : Txt K mg) {k : Nat} (A : All P w K mg base k) {cdv : Value} {C : Around} {outer : List PySem.Env} {s : Shared} {H : Hp} {E : XK} (hr : Room (2 * k + 3) (C.deeper (envOfC "size_of" (defScope s_size_of) s.heap.objs.size (He.ga K "size_of") cdv))) :
    PSs (cxOf (L2.CX P w) P w K mg base ["task", "chosen", "items", "keeps", "sizes", "design"] "size_of" (defScope s_size_of) (He.ga K "size_of") cdv C outer s H E) (defBody s_size_of) (tS (gs K) (fun c d _ H => E c d H) (exs (callN Tb k) p_size_of)) := by
  have tk : Takes (cxOf (L2.CX P w) P w K mg base ["task", "chosen", "items", "keeps", "sizes", "design"] "size_of" (defScope s_size_of) (He.ga K "size_of") cdv C outer s H E) (fun c d _ H => E c d H) := takes_of rfl rfl rfl rfl
  have pp : PassesOwn (model (cxOf (L2.CX P w) P w K mg base ["task", "chosen", "items", "keeps", "sizes", "design"] "size_of" (defScope s_size_of) (He.ga K "size_of") cdv C outer s H E).prog (cxOf (L2.CX P w) P w K mg base ["task", "chosen", "items", "keeps", "sizes", "design"] "size_of" (defScope s_size_of) (He.ga K "size_of") cdv C outer s H E).w) (cxOf (L2.CX P w) P w K mg base ["task", "chosen", "items", "keeps", "sizes", "design"] "size_of" (defScope s_size_of) (He.ga K "size_of") cdv C outer s H E).A (cxOf (L2.CX P w) P w K mg base ["task", "chosen", "items", "keeps", "sizes", "design"] "size_of" (defScope s_size_of) (He.ga K "size_of") cdv C outer s H E).env (cxOf (L2.CX P w) P w K mg base ["task", "chosen", "items", "keeps", "sizes", "design"] "size_of" (defScope s_size_of) (He.ga K "size_of") cdv C outer s H E).xe := passes_of rfl
  exact (s_cons (j_asg [2, 3, 4] j_var (g_tup rfl rfl rfl rfl (gs_cons rfl (j_g sc_size_of.nd) (gs_cons rfl (j_g sc_size_of.nd) (gs_cons rfl (j_g sc_size_of.nd) gs_nil)))))
    (s_cons (s_ret (j_bi (.sumL) hr T.n_sum (a_cons rfl (i_lc (own := [("design", 5)]) rfl sc_size_of.nd rfl (w_e rfl j_var) (blkOk_by (by kernel_rfl)) (fun _ _ _ _ _ => (j_g sc_size_of.nd)) (fun _ _ _ _ _ => ifs_nil) (fun _ _ _ _ _ => (i_idx rfl rfl j_var j_var))) a_nil)))
    s_nil))
theorem b_asked_of (T : Txt K mg) {k : Nat} (A : All P w K mg base k) {cdv : Value} {C : Around} {outer : List PySem.Env} {s : Shared} {H : Hp} {E : XK} (hr : Room (2 * k + 3) (C.deeper (envOfC "asked_of" (defScope s_asked_of) s.heap.objs.size (He.ga K "asked_of") cdv))) :
    PSs (cxOf (L2.CX P w) P w K mg base ["task", "chosen", "start", "weight", "offers"] "asked_of" (defScope s_asked_of) (He.ga K "asked_of") cdv C outer s H E) (defBody s_asked_of) (tS (gs K) (fun c d _ H => E c d H) (exs (callN Tb k) p_asked_of)) := by
  have tk : Takes (cxOf (L2.CX P w) P w K mg base ["task", "chosen", "start", "weight", "offers"] "asked_of" (defScope s_asked_of) (He.ga K "asked_of") cdv C outer s H E) (fun c d _ H => E c d H) := takes_of rfl rfl rfl rfl
  have pp : PassesOwn (model (cxOf (L2.CX P w) P w K mg base ["task", "chosen", "start", "weight", "offers"] "asked_of" (defScope s_asked_of) (He.ga K "asked_of") cdv C outer s H E).prog (cxOf (L2.CX P w) P w K mg base ["task", "chosen", "start", "weight", "offers"] "asked_of" (defScope s_asked_of) (He.ga K "asked_of") cdv C outer s H E).w) (cxOf (L2.CX P w) P w K mg base ["task", "chosen", "start", "weight", "offers"] "asked_of" (defScope s_asked_of) (He.ga K "asked_of") cdv C outer s H E).A (cxOf (L2.CX P w) P w K mg base ["task", "chosen", "start", "weight", "offers"] "asked_of" (defScope s_asked_of) (He.ga K "asked_of") cdv C outer s H E).env (cxOf (L2.CX P w) P w K mg base ["task", "chosen", "start", "weight", "offers"] "asked_of" (defScope s_asked_of) (He.ga K "asked_of") cdv C outer s H E).xe := passes_of rfl
  exact (s_cons (s_ret (i_sumS rfl T.n_sum rfl (a_cons rfl (i_lc (own := [("weight", 3), ("offers", 4)]) rfl sc_asked_of.nd rfl (w_e rfl (i_idx rfl rfl j_var c_int)) (blkOk_by (by kernel_rfl)) (fun _ _ _ _ _ => (g_tup rfl rfl rfl rfl (gs_cons rfl (j_g sc_asked_of.nd) (gs_cons rfl (j_g sc_asked_of.nd) gs_nil)))) (fun _ _ _ _ _ => ifs_nil) (fun _ _ _ _ _ => (i_bin (op := .mul) rfl j_var (j_call (ies := [(.var 4), (.var 1)]) (iks := []) (ks := []) (arr := [.a 0, .a 1]) A.f_least T.m_least takes0 hr _ rfl (a_cons rfl j_var (a_cons rfl j_var a_nil)) k_nil (.head _))))) a_nil) j_var))
    s_nil)
theorem b_total (T : Txt K mg) {k : Nat} (A : All P w K mg base k) {cdv : Value} {C : Around} {outer : List PySem.Env} {s : Shared} {H : Hp} {E : XK} (hr : Room (2 * k + 3) (C.deeper (envOfC "total" (defScope s_total) s.heap.objs.size (He.ga K "total") cdv))) :
    PSs (cxOf (L2.CX P w) P w K mg base ["task", "chosen", "items", "keeps", "sizes", "design"] "total" (defScope s_total) (He.ga K "total") cdv C outer s H E) (defBody s_total) (tS (gs K) (fun c d _ H => E c d H) (exs (callN Tb k) p_total)) := by
  have tk : Takes (cxOf (L2.CX P w) P w K mg base ["task", "chosen", "items", "keeps", "sizes", "design"] "total" (defScope s_total) (He.ga K "total") cdv C outer s H E) (fun c d _ H => E c d H) := takes_of rfl rfl rfl rfl
  have pp : PassesOwn (model (cxOf (L2.CX P w) P w K mg base ["task", "chosen", "items", "keeps", "sizes", "design"] "total" (defScope s_total) (He.ga K "total") cdv C outer s H E).prog (cxOf (L2.CX P w) P w K mg base ["task", "chosen", "items", "keeps", "sizes", "design"] "total" (defScope s_total) (He.ga K "total") cdv C outer s H E).w) (cxOf (L2.CX P w) P w K mg base ["task", "chosen", "items", "keeps", "sizes", "design"] "total" (defScope s_total) (He.ga K "total") cdv C outer s H E).A (cxOf (L2.CX P w) P w K mg base ["task", "chosen", "items", "keeps", "sizes", "design"] "total" (defScope s_total) (He.ga K "total") cdv C outer s H E).env (cxOf (L2.CX P w) P w K mg base ["task", "chosen", "items", "keeps", "sizes", "design"] "total" (defScope s_total) (He.ga K "total") cdv C outer s H E).xe := passes_of rfl
  exact (s_cons (j_asg [2, 3, 4] j_var (g_tup rfl rfl rfl rfl (gs_cons rfl (j_g sc_total.nd) (gs_cons rfl (j_g sc_total.nd) (gs_cons rfl (j_g sc_total.nd) gs_nil)))))
    (s_cons (s_ret (j_call (ies := [(.var 0), (.var 1)]) (iks := [(.bi (.sumL) [(.lc false [5] (.var 5) (.e (.var 1)) [] (.idx (.var 3) (.var 5)))])]) (ks := ["start"]) (arr := [.a 0, .a 1, .a 2]) A.f_asked_of T.m_asked_of tk hr _ rfl (a_cons rfl j_var (a_cons rfl j_var a_nil)) (k_cons (j_bi (.sumL) hr T.n_sum (a_cons rfl (i_lc (own := [("design", 5)]) rfl sc_total.nd rfl (w_e rfl j_var) (blkOk_by (by kernel_rfl)) (fun _ _ _ _ _ => (j_g sc_total.nd)) (fun _ _ _ _ _ => ifs_nil) (fun _ _ _ _ _ => (i_idx rfl rfl j_var j_var))) a_nil)) k_nil) (.head _)))
    s_nil))
theorem b_Road_init (T : Txt K mg) {k : Nat} (A : All P w K mg base k) {cdv : Value} {C : Around} {outer : List PySem.Env} {s : Shared} {H : Hp} {E : XK} (hr : Room (2 * k + 3) (C.deeper (envOfC "Road.__init__" (defScope s_Road_init) s.heap.objs.size (He.ma K (He.ga K "Road") "__init__") cdv))) :
    PSs (cxOf (L2.CX P w) P w K mg base ["self", "task", "taken", "out"] "Road.__init__" (defScope s_Road_init) (He.ma K (He.ga K "Road") "__init__") cdv C outer s H E) (defBody s_Road_init) (tS (gs K) (fun c d _ H => E c d H) (exs (callN Tb k) p_Road_init)) := by
  have tk : Takes (cxOf (L2.CX P w) P w K mg base ["self", "task", "taken", "out"] "Road.__init__" (defScope s_Road_init) (He.ma K (He.ga K "Road") "__init__") cdv C outer s H E) (fun c d _ H => E c d H) := takes_of rfl rfl rfl rfl
  have pp : PassesOwn (model (cxOf (L2.CX P w) P w K mg base ["self", "task", "taken", "out"] "Road.__init__" (defScope s_Road_init) (He.ma K (He.ga K "Road") "__init__") cdv C outer s H E).prog (cxOf (L2.CX P w) P w K mg base ["self", "task", "taken", "out"] "Road.__init__" (defScope s_Road_init) (He.ma K (He.ga K "Road") "__init__") cdv C outer s H E).w) (cxOf (L2.CX P w) P w K mg base ["self", "task", "taken", "out"] "Road.__init__" (defScope s_Road_init) (He.ma K (He.ga K "Road") "__init__") cdv C outer s H E).A (cxOf (L2.CX P w) P w K mg base ["self", "task", "taken", "out"] "Road.__init__" (defScope s_Road_init) (He.ma K (He.ga K "Road") "__init__") cdv C outer s H E).env (cxOf (L2.CX P w) P w K mg base ["self", "task", "taken", "out"] "Road.__init__" (defScope s_Road_init) (He.ma K (He.ga K "Road") "__init__") cdv C outer s H E).xe := passes_of rfl
  exact (s_cons (j_asg [] j_var (j_gattr (W := noX) (f := 2) (show (2 : Nat) < 4 by decide) (List.forall_mem_cons.mpr ⟨T.na_Road_task, (fun _ h => nomatch h)⟩) j_var))
    (s_cons (j_asg [] j_var (j_gattr (W := noX) (f := 1) (show (1 : Nat) < 4 by decide) (List.forall_mem_cons.mpr ⟨T.na_Road_taken, (fun _ h => nomatch h)⟩) j_var))
    (s_cons (j_asg [] j_var (j_gattr (W := noX) (f := 0) (show (0 : Nat) < 4 by decide) (List.forall_mem_cons.mpr ⟨T.na_Road_out, (fun _ h => nomatch h)⟩) j_var))
    s_nil)))
theorem b_Road_on (T : Txt K mg) {k : Nat} (A : All P w K mg base k) {cdv : Value} {C : Around} {outer : List PySem.Env} {s : Shared} {H : Hp} {E : XK} (hr : Room (2 * k + 3) (C.deeper (envOfC "Road.on" (defScope s_Road_on) s.heap.objs.size (He.ma K (He.ga K "Road") "on") cdv))) :
    PSs (cxOf (L2.CX P w) P w K mg base ["self", "design", "is_in"] "Road.on" (defScope s_Road_on) (He.ma K (He.ga K "Road") "on") cdv C outer s H E) (defBody s_Road_on) (tS (gs K) (fun c d _ H => E c d H) (exs (callN Tb k) p_Road_on)) := by
  have tk : Takes (cxOf (L2.CX P w) P w K mg base ["self", "design", "is_in"] "Road.on" (defScope s_Road_on) (He.ma K (He.ga K "Road") "on") cdv C outer s H E) (fun c d _ H => E c d H) := takes_of rfl rfl rfl rfl
  have pp : PassesOwn (model (cxOf (L2.CX P w) P w K mg base ["self", "design", "is_in"] "Road.on" (defScope s_Road_on) (He.ma K (He.ga K "Road") "on") cdv C outer s H E).prog (cxOf (L2.CX P w) P w K mg base ["self", "design", "is_in"] "Road.on" (defScope s_Road_on) (He.ma K (He.ga K "Road") "on") cdv C outer s H E).w) (cxOf (L2.CX P w) P w K mg base ["self", "design", "is_in"] "Road.on" (defScope s_Road_on) (He.ma K (He.ga K "Road") "on") cdv C outer s H E).A (cxOf (L2.CX P w) P w K mg base ["self", "design", "is_in"] "Road.on" (defScope s_Road_on) (He.ma K (He.ga K "Road") "on") cdv C outer s H E).env (cxOf (L2.CX P w) P w K mg base ["self", "design", "is_in"] "Road.on" (defScope s_Road_on) (He.ma K (He.ga K "Road") "on") cdv C outer s H E).xe := passes_of rfl
  exact (s_cons (s_ite (t_val rfl rfl j_var)
      (s_cons (s_ret (j_make (c := 0) (ies := [(.attr (.var 0) 2), (.bin false .add (.attr (.var 0) 1) (.tup [(.var 1)])), (.attr (.var 0) 0)]) (iks := []) (ks := []) (arr := [.a 0, .a 1, .a 2, .a 3]) A.f_Road_init T.mk_Road T.cl_Road T.m_Road tk hr _ rfl (a_cons rfl (j_attr (f := 2) (show (2 : Nat) < 4 by decide) j_var) (a_cons rfl (i_bin (op := .add) rfl (j_attr (f := 1) (show (1 : Nat) < 4 by decide) j_var) (i_tup (a_cons rfl j_var a_nil))) (a_cons rfl (j_attr (f := 0) (show (0 : Nat) < 4 by decide) j_var) a_nil))) k_nil (.head _)))
    s_nil)
      s_nil)
    (s_cons (s_ret (j_make (c := 0) (ies := [(.attr (.var 0) 2), (.attr (.var 0) 1), (.bin false .add (.attr (.var 0) 0) (.tup [(.var 1)]))]) (iks := []) (ks := []) (arr := [.a 0, .a 1, .a 2, .a 3]) A.f_Road_init T.mk_Road T.cl_Road T.m_Road tk hr _ rfl (a_cons rfl (j_attr (f := 2) (show (2 : Nat) < 4 by decide) j_var) (a_cons rfl (j_attr (f := 1) (show (1 : Nat) < 4 by decide) j_var) (a_cons rfl (i_bin (op := .add) rfl (j_attr (f := 0) (show (0 : Nat) < 4 by decide) j_var) (i_tup (a_cons rfl j_var a_nil))) a_nil))) k_nil (.head _)))
    s_nil))
theorem b_Road_least_total (T : Txt K mg) {k : Nat} (A : All P w K mg base k) {cdv : Value} {C : Around} {outer : List PySem.Env} {s : Shared} {H : Hp} {E : XK} (hr : Room (2 * k + 3) (C.deeper (envOfC "Road.least_total" (defScope s_Road_least_total) s.heap.objs.size (He.ma K (He.ga K "Road") "least_total") cdv))) :
    PSs (cxOf (L2.CX P w) P w K mg base ["self", "items", "keeps", "sizes", "let", "design"] "Road.least_total" (defScope s_Road_least_total) (He.ma K (He.ga K "Road") "least_total") cdv C outer s H E) (defBody s_Road_least_total) (tS (gs K) (fun c d _ H => E c d H) (exs (callN Tb k) p_Road_least_total)) := by
  have tk : Takes (cxOf (L2.CX P w) P w K mg base ["self", "items", "keeps", "sizes", "let", "design"] "Road.least_total" (defScope s_Road_least_total) (He.ma K (He.ga K "Road") "least_total") cdv C outer s H E) (fun c d _ H => E c d H) := takes_of rfl rfl rfl rfl
  have pp : PassesOwn (model (cxOf (L2.CX P w) P w K mg base ["self", "items", "keeps", "sizes", "let", "design"] "Road.least_total" (defScope s_Road_least_total) (He.ma K (He.ga K "Road") "least_total") cdv C outer s H E).prog (cxOf (L2.CX P w) P w K mg base ["self", "items", "keeps", "sizes", "let", "design"] "Road.least_total" (defScope s_Road_least_total) (He.ma K (He.ga K "Road") "least_total") cdv C outer s H E).w) (cxOf (L2.CX P w) P w K mg base ["self", "items", "keeps", "sizes", "let", "design"] "Road.least_total" (defScope s_Road_least_total) (He.ma K (He.ga K "Road") "least_total") cdv C outer s H E).A (cxOf (L2.CX P w) P w K mg base ["self", "items", "keeps", "sizes", "let", "design"] "Road.least_total" (defScope s_Road_least_total) (He.ma K (He.ga K "Road") "least_total") cdv C outer s H E).env (cxOf (L2.CX P w) P w K mg base ["self", "items", "keeps", "sizes", "let", "design"] "Road.least_total" (defScope s_Road_least_total) (He.ma K (He.ga K "Road") "least_total") cdv C outer s H E).xe := passes_of rfl
  exact (s_cons (j_asg [1, 2, 3] (j_attr (f := 2) (show (2 : Nat) < 4 by decide) j_var) (g_tup rfl rfl rfl rfl (gs_cons rfl (j_g sc_Road_least_total.nd) (gs_cons rfl (j_g sc_Road_least_total.nd) (gs_cons rfl (j_g sc_Road_least_total.nd) gs_nil)))))
    (s_cons (s_setLc (i := 4) (own := [("design", 5)]) rfl sc_Road_least_total.nd rfl rfl (sw_true rfl rfl rfl (by decide +kernel)) rfl (w_rng1 (by rfl) T.n_range rfl (a_cons rfl (j_bi (.len) hr T.n_len (a_cons rfl j_var a_nil)) a_nil)) (blkOk_by (by kernel_rfl)) (fun _ _ _ _ _ => (j_g sc_Road_least_total.nd)) (fun _ _ _ _ _ => (ifs_one (t_cmp (op := .notIn) rfl hr rfl j_var (j_attr (f := 0) (show (0 : Nat) < 4 by decide) j_var)))) (fun _ _ _ _ _ => j_var))
    (s_cons (s_ret (j_call (ies := [(.attr (.var 0) 2), (.var 4)]) (iks := [(.bi (.sumL) [(.lc false [5] (.var 5) (.e (.attr (.var 0) 1)) [] (.idx (.var 2) (.var 5)))])]) (ks := ["start"]) (arr := [.a 0, .a 1, .a 2]) A.f_asked_of T.m_asked_of tk hr _ rfl (a_cons rfl (j_attr (f := 2) (show (2 : Nat) < 4 by decide) j_var) (a_cons rfl j_var a_nil)) (k_cons (j_bi (.sumL) hr T.n_sum (a_cons rfl (i_lc (own := [("design", 5)]) rfl sc_Road_least_total.nd rfl (w_e rfl (j_attr (f := 1) (show (1 : Nat) < 4 by decide) j_var)) (blkOk_by (by kernel_rfl)) (fun _ _ _ _ _ => (j_g sc_Road_least_total.nd)) (fun _ _ _ _ _ => ifs_nil) (fun _ _ _ _ _ => (i_idx rfl rfl j_var j_var))) a_nil)) k_nil) (.head _)))
    s_nil)))
theorem b_Road_is_closed (T : Txt K mg) {k : Nat} (A : All P w K mg base k) {cdv : Value} {C : Around} {outer : List PySem.Env} {s : Shared} {H : Hp} {E : XK} (hr : Room (2 * k + 3) (C.deeper (envOfC "Road.is_closed" (defScope s_Road_is_closed) s.heap.objs.size (He.ma K (He.ga K "Road") "is_closed") cdv))) :
    PSs (cxOf (L2.CX P w) P w K mg base ["self", "room", "bound"] "Road.is_closed" (defScope s_Road_is_closed) (He.ma K (He.ga K "Road") "is_closed") cdv C outer s H E) (defBody s_Road_is_closed) (tS (gs K) (fun c d _ H => E c d H) (exs (callN Tb k) p_Road_is_closed)) := by
  have tk : Takes (cxOf (L2.CX P w) P w K mg base ["self", "room", "bound"] "Road.is_closed" (defScope s_Road_is_closed) (He.ma K (He.ga K "Road") "is_closed") cdv C outer s H E) (fun c d _ H => E c d H) := takes_of rfl rfl rfl rfl
  have pp : PassesOwn (model (cxOf (L2.CX P w) P w K mg base ["self", "room", "bound"] "Road.is_closed" (defScope s_Road_is_closed) (He.ma K (He.ga K "Road") "is_closed") cdv C outer s H E).prog (cxOf (L2.CX P w) P w K mg base ["self", "room", "bound"] "Road.is_closed" (defScope s_Road_is_closed) (He.ma K (He.ga K "Road") "is_closed") cdv C outer s H E).w) (cxOf (L2.CX P w) P w K mg base ["self", "room", "bound"] "Road.is_closed" (defScope s_Road_is_closed) (He.ma K (He.ga K "Road") "is_closed") cdv C outer s H E).A (cxOf (L2.CX P w) P w K mg base ["self", "room", "bound"] "Road.is_closed" (defScope s_Road_is_closed) (He.ma K (He.ga K "Road") "is_closed") cdv C outer s H E).env (cxOf (L2.CX P w) P w K mg base ["self", "room", "bound"] "Road.is_closed" (defScope s_Road_is_closed) (He.ma K (He.ga K "Road") "is_closed") cdv C outer s H E).xe := passes_of rfl
  exact (s_cons (s_ret (i_or rfl (i_cmp (op := .gt) rfl hr rfl (j_call (ies := [(.attr (.var 0) 2), (.attr (.var 0) 1)]) (iks := []) (ks := []) (arr := [.a 0, .a 1]) A.f_size_of T.m_size_of tk hr _ rfl (a_cons rfl (j_attr (f := 2) (show (2 : Nat) < 4 by decide) j_var) (a_cons rfl (j_attr (f := 1) (show (1 : Nat) < 4 by decide) j_var) a_nil)) k_nil (.head _)) j_var) (pe_one (i_cmp (op := .ge) rfl hr rfl (j_meth (ms := [(0, 9, [.a 0])]) (ies := []) (iks := []) (ks := []) (mok1 (mok_of A.f_Road_least_total T.me_Road_least_total hr (.head _))) tk _ rfl j_var a_nil k_nil) j_var))))
    s_nil)
theorem b_best_behind (T : Txt K mg) {k : Nat} (A : All P w K mg base k) {cdv : Value} {C : Around} {outer : List PySem.Env} {s : Shared} {H : Hp} {E : XK} (hr : Room (2 * k + 3) (C.deeper (envOfC "best_behind" (defScope s_best_behind) s.heap.objs.size (He.ga K "best_behind") cdv))) :
    PSs (cxOf (L2.CX P w) P w K mg base ["road", "order", "room", "best", "first", "rest"] "best_behind" (defScope s_best_behind) (He.ga K "best_behind") cdv C outer s H E) (defBody s_best_behind) (tS (gs K) (fun c d _ H => E c d H) (exs (callN Tb k) p_best_behind)) := by
  have tk : Takes (cxOf (L2.CX P w) P w K mg base ["road", "order", "room", "best", "first", "rest"] "best_behind" (defScope s_best_behind) (He.ga K "best_behind") cdv C outer s H E) (fun c d _ H => E c d H) := takes_of rfl rfl rfl rfl
  have pp : PassesOwn (model (cxOf (L2.CX P w) P w K mg base ["road", "order", "room", "best", "first", "rest"] "best_behind" (defScope s_best_behind) (He.ga K "best_behind") cdv C outer s H E).prog (cxOf (L2.CX P w) P w K mg base ["road", "order", "room", "best", "first", "rest"] "best_behind" (defScope s_best_behind) (He.ga K "best_behind") cdv C outer s H E).w) (cxOf (L2.CX P w) P w K mg base ["road", "order", "room", "best", "first", "rest"] "best_behind" (defScope s_best_behind) (He.ga K "best_behind") cdv C outer s H E).A (cxOf (L2.CX P w) P w K mg base ["road", "order", "room", "best", "first", "rest"] "best_behind" (defScope s_best_behind) (He.ga K "best_behind") cdv C outer s H E).env (cxOf (L2.CX P w) P w K mg base ["road", "order", "room", "best", "first", "rest"] "best_behind" (defScope s_best_behind) (He.ga K "best_behind") cdv C outer s H E).xe := passes_of rfl
  exact (s_cons (s_ite (t_val rfl rfl (j_meth (ms := [(0, 10, [.a 0, .a 1, .a 2])]) (ies := [(.var 2), (.idx (.var 3) (.con (.int 0)))]) (iks := []) (ks := []) (mok1 (mok_of A.f_Road_is_closed T.me_Road_is_closed hr (.head _))) tk _ rfl j_var (a_cons rfl j_var (a_cons rfl (i_idx rfl rfl j_var c_int) a_nil)) k_nil))
      (s_cons (s_ret j_var)
    s_nil)
      s_nil)
    (s_cons (s_ite (t_cmp (op := .eq) rfl hr rfl j_var (i_lst a_nil))
      (s_cons (s_ret (i_tup (a_cons rfl (j_call (ies := [(.attr (.var 0) 2), (.attr (.var 0) 1)]) (iks := []) (ks := []) (arr := [.a 0, .a 1]) A.f_total T.m_total tk hr _ rfl (a_cons rfl (j_attr (f := 2) (show (2 : Nat) < 4 by decide) j_var) (a_cons rfl (j_attr (f := 1) (show (1 : Nat) < 4 by decide) j_var) a_nil)) k_nil (.head _)) (a_cons rfl (j_bi (.tuple1) hr T.n_tuple (a_cons rfl (i_sortT (by rfl) T.n_sorted rfl (j_attr (f := 1) (show (1 : Nat) < 4 by decide) j_var)) a_nil)) a_nil))))
    s_nil)
      s_nil)
    (s_cons (j_asg [4, 5] j_var (g_tups (gs_cons' rfl (j_g sc_best_behind.nd) (gs_star (j_g sc_best_behind.nd)))))
    (s_cons (j_asg [3] (j_call (ies := [(.meth (.var 0) [(0, 8, [.a 0, .a 1, .a 2])] [(.var 4), (.con (.bl true))]), (.var 5), (.var 2), (.var 3)]) (iks := []) (ks := []) (arr := [.a 0, .a 1, .a 2, .a 3]) A.f_best_behind T.m_best_behind tk hr _ rfl (a_cons rfl (j_meth (ms := [(0, 8, [.a 0, .a 1, .a 2])]) (ies := [(.var 4)]) (iks := [(.con (.bl true))]) (ks := ["is_in"]) (mok1 (mok_of A.f_Road_on T.me_Road_on hr (.head _))) tk _ rfl j_var (a_cons rfl j_var a_nil) (k_cons c_bl k_nil)) (a_cons rfl j_var (a_cons rfl j_var (a_cons rfl j_var a_nil)))) k_nil (.head _)) (j_g sc_best_behind.nd))
    (s_cons (s_ret (j_call (ies := [(.meth (.var 0) [(0, 8, [.a 0, .a 1, .a 2])] [(.var 4), (.con (.bl false))]), (.var 5), (.var 2), (.var 3)]) (iks := []) (ks := []) (arr := [.a 0, .a 1, .a 2, .a 3]) A.f_best_behind T.m_best_behind tk hr _ rfl (a_cons rfl (j_meth (ms := [(0, 8, [.a 0, .a 1, .a 2])]) (ies := [(.var 4)]) (iks := [(.con (.bl false))]) (ks := ["is_in"]) (mok1 (mok_of A.f_Road_on T.me_Road_on hr (.head _))) tk _ rfl j_var (a_cons rfl j_var a_nil) (k_cons c_bl k_nil)) (a_cons rfl j_var (a_cons rfl j_var (a_cons rfl j_var a_nil)))) k_nil (.head _)))
    s_nil)))))
theorem b_paper_of (T : Txt K mg) {k : Nat} (A : All P w K mg base k) {cdv : Value} {C : Around} {outer : List PySem.Env} {s : Shared} {H : Hp} {E : XK} (hr : Room (2 * k + 3) (C.deeper (envOfC "paper_of" (defScope s_paper_of) s.heap.objs.size (He.ga K "paper_of") cdv))) :
    PSs (cxOf (L2.CX P w) P w K mg base ["road", "order", "room", "bound", "first", "rest", "inside"] "paper_of" (defScope s_paper_of) (He.ga K "paper_of") cdv C outer s H E) (defBody s_paper_of) (tS (gs K) (fun c d _ H => E c d H) (exs (callN Tb k) p_paper_of)) := by
  have tk : Takes (cxOf (L2.CX P w) P w K mg base ["road", "order", "room", "bound", "first", "rest", "inside"] "paper_of" (defScope s_paper_of) (He.ga K "paper_of") cdv C outer s H E) (fun c d _ H => E c d H) := takes_of rfl rfl rfl rfl
  have pp : PassesOwn (model (cxOf (L2.CX P w) P w K mg base ["road", "order", "room", "bound", "first", "rest", "inside"] "paper_of" (defScope s_paper_of) (He.ga K "paper_of") cdv C outer s H E).prog (cxOf (L2.CX P w) P w K mg base ["road", "order", "room", "bound", "first", "rest", "inside"] "paper_of" (defScope s_paper_of) (He.ga K "paper_of") cdv C outer s H E).w) (cxOf (L2.CX P w) P w K mg base ["road", "order", "room", "bound", "first", "rest", "inside"] "paper_of" (defScope s_paper_of) (He.ga K "paper_of") cdv C outer s H E).A (cxOf (L2.CX P w) P w K mg base ["road", "order", "room", "bound", "first", "rest", "inside"] "paper_of" (defScope s_paper_of) (He.ga K "paper_of") cdv C outer s H E).env (cxOf (L2.CX P w) P w K mg base ["road", "order", "room", "bound", "first", "rest", "inside"] "paper_of" (defScope s_paper_of) (He.ga K "paper_of") cdv C outer s H E).xe := passes_of rfl
  exact (s_cons (s_ite (t_val rfl rfl (j_meth (ms := [(0, 10, [.a 0, .a 1, .a 2])]) (ies := [(.var 2), (.var 3)]) (iks := []) (ks := []) (mok1 (mok_of A.f_Road_is_closed T.me_Road_is_closed hr (.head _))) tk _ rfl j_var (a_cons rfl j_var (a_cons rfl j_var a_nil)) k_nil))
      (s_cons (s_ret (i_lst (a_cons rfl (c_gI T.g_CLOSED) a_nil)))
    s_nil)
      s_nil)
    (s_cons (j_asg [4, 5] j_var (g_tups (gs_cons' rfl (j_g sc_paper_of.nd) (gs_star (j_g sc_paper_of.nd)))))
    (s_cons (j_asg [6] (j_call (ies := [(.meth (.var 0) [(0, 8, [.a 0, .a 1, .a 2])] [(.var 4), (.con (.bl true))]), (.var 5), (.var 2), (.var 3)]) (iks := []) (ks := []) (arr := [.a 0, .a 1, .a 2, .a 3]) A.f_paper_of T.m_paper_of tk hr _ rfl (a_cons rfl (j_meth (ms := [(0, 8, [.a 0, .a 1, .a 2])]) (ies := [(.var 4)]) (iks := [(.con (.bl true))]) (ks := ["is_in"]) (mok1 (mok_of A.f_Road_on T.me_Road_on hr (.head _))) tk _ rfl j_var (a_cons rfl j_var a_nil) (k_cons c_bl k_nil)) (a_cons rfl j_var (a_cons rfl j_var (a_cons rfl j_var a_nil)))) k_nil (.head _)) (j_g sc_paper_of.nd))
    (s_cons (s_ret (i_bin (op := .add) rfl (i_bin (op := .add) rfl (i_lst (a_cons rfl j_var a_nil)) j_var) (j_call (ies := [(.meth (.var 0) [(0, 8, [.a 0, .a 1, .a 2])] [(.var 4), (.con (.bl false))]), (.var 5), (.var 2), (.var 3)]) (iks := []) (ks := []) (arr := [.a 0, .a 1, .a 2, .a 3]) A.f_paper_of T.m_paper_of tk hr _ rfl (a_cons rfl (j_meth (ms := [(0, 8, [.a 0, .a 1, .a 2])]) (ies := [(.var 4)]) (iks := [(.con (.bl false))]) (ks := ["is_in"]) (mok1 (mok_of A.f_Road_on T.me_Road_on hr (.head _))) tk _ rfl j_var (a_cons rfl j_var a_nil) (k_cons c_bl k_nil)) (a_cons rfl j_var (a_cons rfl j_var (a_cons rfl j_var a_nil)))) k_nil (.head _))))
    s_nil))))
theorem b_best (T : Txt K mg) {k : Nat} (A : All P w K mg base k) (TB : LamX.TabB base mg (He.cT K ("best", none)).1 (He.cT K ("best", none)).2) {C : Around} {outer : List PySem.Env} {s : Shared} {H : Hp} {E : XK} (hr : Room (2 * k + 3) (C.deeper (envOfC "best" (defScope s_best) s.heap.objs.size (He.ga K "best") (.ref (He.codeOf K ("best", none)))))) :
    PSs (cxOf (L2.CX P w) P w K mg base ["task", "room", "items", "keeps", "sizes", "order", "bound", "chosen"] "best" (defScope s_best) (He.ga K "best") (.ref (He.codeOf K ("best", none))) C outer s H E) (defBody s_best) (tS (gs K) (fun c d _ H => E c d H) (exs (callN Tb k) p_best)) := by
  have tk : Takes (cxOf (L2.CX P w) P w K mg base ["task", "room", "items", "keeps", "sizes", "order", "bound", "chosen"] "best" (defScope s_best) (He.ga K "best") (.ref (He.codeOf K ("best", none))) C outer s H E) (fun c d _ H => E c d H) := takes_of rfl rfl rfl rfl
  have pp : PassesOwn (model (cxOf (L2.CX P w) P w K mg base ["task", "room", "items", "keeps", "sizes", "order", "bound", "chosen"] "best" (defScope s_best) (He.ga K "best") (.ref (He.codeOf K ("best", none))) C outer s H E).prog (cxOf (L2.CX P w) P w K mg base ["task", "room", "items", "keeps", "sizes", "order", "bound", "chosen"] "best" (defScope s_best) (He.ga K "best") (.ref (He.codeOf K ("best", none))) C outer s H E).w) (cxOf (L2.CX P w) P w K mg base ["task", "room", "items", "keeps", "sizes", "order", "bound", "chosen"] "best" (defScope s_best) (He.ga K "best") (.ref (He.codeOf K ("best", none))) C outer s H E).A (cxOf (L2.CX P w) P w K mg base ["task", "room", "items", "keeps", "sizes", "order", "bound", "chosen"] "best" (defScope s_best) (He.ga K "best") (.ref (He.codeOf K ("best", none))) C outer s H E).env (cxOf (L2.CX P w) P w K mg base ["task", "room", "items", "keeps", "sizes", "order", "bound", "chosen"] "best" (defScope s_best) (He.ga K "best") (.ref (He.codeOf K ("best", none))) C outer s H E).xe := passes_of rfl
  exact (s_cons (j_asg [2, 3, 4] j_var (g_tup rfl rfl rfl rfl (gs_cons rfl (j_g sc_best.nd) (gs_cons rfl (j_g sc_best.nd) (gs_cons rfl (j_g sc_best.nd) gs_nil)))))
    (s_cons (j_asg [5] (i_sortKr (N := ["design", "sizes", "keeps"]) (fr := ["sizes", "keeps"]) (x := "design") (js := [4, 3]) ⟨NdefX.nscope_by (by decide +kernel), fre_by (sc0 := defScope s_best) rfl (by decide +kernel), (by decide +kernel), rfl, rfl, (fun _ _ _ us h => match us, h with | [_], _ => rfl), rfl, fun _ _ _ _ _ _ hr => (i_tup (a_cons rfl (i_bin (op := .sub) rfl (i_neg (i_idx rfl rfl j_var j_var)) (i_idx rfl rfl j_var j_var)) (a_cons rfl j_var a_nil)))⟩ TB rfl (.head _) (List.forall_mem_singleton.mpr fun _ => rfl) hr (by rfl) T.n_sorted (by rfl) T.n_range rfl (j_bi (.len) hr T.n_len (a_cons rfl j_var a_nil))) (j_g sc_best.nd))
    (s_cons (j_asg [6, 7] (j_call (ies := [(.make false 0 7 [.a 0, .a 1, .d (.tup []), .d (.tup [])] [(.var 0)]), (.var 5), (.var 1), (.tup [(.call 6 [.a 0, .a 1] [(.var 0), (.tup [])]), (.tup [])])]) (iks := []) (ks := []) (arr := [.a 0, .a 1, .a 2, .a 3]) A.f_best_behind T.m_best_behind tk hr _ rfl (a_cons rfl (j_make (c := 0) (ies := [(.var 0)]) (iks := []) (ks := []) (arr := [.a 0, .a 1, .d (.tup []), .d (.tup [])]) A.f_Road_init T.mk_Road T.cl_Road T.m_Road tk hr _ rfl (a_cons rfl j_var a_nil) k_nil (.tail _ (.head _))) (a_cons rfl j_var (a_cons rfl j_var (a_cons rfl (i_tup (a_cons rfl (j_call (ies := [(.var 0), (.tup [])]) (iks := []) (ks := []) (arr := [.a 0, .a 1]) A.f_total T.m_total tk hr _ rfl (a_cons rfl j_var (a_cons rfl (i_tup a_nil) a_nil)) k_nil (.head _)) (a_cons rfl (i_tup a_nil) a_nil))) a_nil)))) k_nil (.head _)) (g_tup rfl rfl rfl rfl (gs_cons rfl (j_g sc_best.nd) (gs_cons rfl (j_g sc_best.nd) gs_nil))))
    (s_cons (s_ret (i_tup (a_cons rfl j_var (a_cons rfl j_var (a_cons rfl (j_call (ies := [(.make false 0 7 [.a 0, .a 1, .d (.tup []), .d (.tup [])] [(.var 0)]), (.var 5), (.var 1), (.var 6)]) (iks := []) (ks := []) (arr := [.a 0, .a 1, .a 2, .a 3]) A.f_paper_of T.m_paper_of tk hr _ rfl (a_cons rfl (j_make (c := 0) (ies := [(.var 0)]) (iks := []) (ks := []) (arr := [.a 0, .a 1, .d (.tup []), .d (.tup [])]) A.f_Road_init T.mk_Road T.cl_Road T.m_Road tk hr _ rfl (a_cons rfl j_var a_nil) k_nil (.tail _ (.head _))) (a_cons rfl j_var (a_cons rfl j_var (a_cons rfl j_var a_nil)))) k_nil (.head _)) a_nil)))))
    s_nil))))
theorem b_roads_of (T : Txt K mg) {k : Nat} (A : All P w K mg base k) {cdv : Value} {C : Around} {outer : List PySem.Env} {s : Shared} {H : Hp} {E : XK} (hr : Room (2 * k + 3) (C.deeper (envOfC "roads_of" (defScope s_roads_of) s.heap.objs.size (He.ga K "roads_of") cdv))) :
    PSs (cxOf (L2.CX P w) P w K mg base ["task", "paper", "waiting", "found", "design", "road"] "roads_of" (defScope s_roads_of) (He.ga K "roads_of") cdv C outer s H E) (defBody s_roads_of) (tS (gs K) (fun c d _ H => E c d H) (exs (callN Tb k) p_roads_of)) := by
  have tk : Takes (cxOf (L2.CX P w) P w K mg base ["task", "paper", "waiting", "found", "design", "road"] "roads_of" (defScope s_roads_of) (He.ga K "roads_of") cdv C outer s H E) (fun c d _ H => E c d H) := takes_of rfl rfl rfl rfl
  have pp : PassesOwn (model (cxOf (L2.CX P w) P w K mg base ["task", "paper", "waiting", "found", "design", "road"] "roads_of" (defScope s_roads_of) (He.ga K "roads_of") cdv C outer s H E).prog (cxOf (L2.CX P w) P w K mg base ["task", "paper", "waiting", "found", "design", "road"] "roads_of" (defScope s_roads_of) (He.ga K "roads_of") cdv C outer s H E).w) (cxOf (L2.CX P w) P w K mg base ["task", "paper", "waiting", "found", "design", "road"] "roads_of" (defScope s_roads_of) (He.ga K "roads_of") cdv C outer s H E).A (cxOf (L2.CX P w) P w K mg base ["task", "paper", "waiting", "found", "design", "road"] "roads_of" (defScope s_roads_of) (He.ga K "roads_of") cdv C outer s H E).env (cxOf (L2.CX P w) P w K mg base ["task", "paper", "waiting", "found", "design", "road"] "roads_of" (defScope s_roads_of) (He.ga K "roads_of") cdv C outer s H E).xe := passes_of rfl
  exact (s_cons (j_asg [2] (i_lst (a_cons rfl (j_make (c := 0) (ies := [(.var 0)]) (iks := []) (ks := []) (arr := [.a 0, .a 1, .d (.tup []), .d (.tup [])]) A.f_Road_init T.mk_Road T.cl_Road T.m_Road tk hr _ rfl (a_cons rfl j_var a_nil) k_nil (.tail _ (.head _))) a_nil)) (j_g sc_roads_of.nd))
    (s_cons (j_asg [3] (i_lst a_nil) (j_g sc_roads_of.nd))
    (s_cons (s_for pp rfl rfl (w_e rfl j_var) (g_any (vs := [4]) (j_g sc_roads_of.nd))
      (s_cons (s_ite (t_isnil hr j_var)
      (s_cons s_stuck
    s_nil)
      s_nil)
    (s_cons (j_asg [2, 5] j_var (g_tupf (gs_starC (j_g sc_roads_of.nd) (gs_cons' rfl (j_g sc_roads_of.nd) gs_nil))))
    (s_cons (s_ite (t_cmp (op := .eq) rfl hr rfl j_var (c_gI T.g_CLOSED))
      (s_cons (s_expr rfl (i_bm (mt := .append) rfl PySem.F.plainAttrs_list PySem.F.slot_list_append PySem.F.type_list_append mt_append' rfl rfl rfl (by decide) j_var (a_cons rfl j_var a_nil)))
    s_nil)
      (s_cons (s_ite (PW.pt (w_or (t_not (t_val rfl rfl (j_call (ies := [(.var 4), (.con (.int 0)), (.bin false .sub (.bi (.len) [(.idx (.var 0) (.con (.int 1)))]) (.con (.int 1)))]) (iks := []) (ks := []) (arr := [.a 0, .a 1, .a 2]) A.f_is_whole T.m_is_whole tk hr _ rfl (a_cons rfl j_var (a_cons rfl c_int (a_cons rfl (i_bin (op := .sub) rfl (j_bi (.len) hr T.n_len (a_cons rfl (i_idx rfl rfl j_var c_int) a_nil)) c_int) a_nil))) k_nil (.head _)))) (w_or (t_cmp (op := .isIn) rfl hr rfl j_var (j_attr (f := 1) (show (1 : Nat) < 4 by decide) j_var)) (pw_or1 (t_cmp (op := .isIn) rfl hr rfl j_var (j_attr (f := 0) (show (0 : Nat) < 4 by decide) j_var))))))
      (s_cons s_stuck
    s_nil)
      (s_cons (s_aug (i := 2) (op := .add) sc_roads_of.nd rfl (.inl rfl) (.inr rfl) (.inl rfl) (i_lst (a_cons rfl (j_meth (ms := [(0, 8, [.a 0, .a 1, .a 2])]) (ies := [(.var 4)]) (iks := [(.con (.bl false))]) (ks := ["is_in"]) (mok1 (mok_of A.f_Road_on T.me_Road_on hr (.head _))) tk _ rfl j_var (a_cons rfl j_var a_nil) (k_cons c_bl k_nil)) (a_cons rfl (j_meth (ms := [(0, 8, [.a 0, .a 1, .a 2])]) (ies := [(.var 4)]) (iks := [(.con (.bl true))]) (ks := ["is_in"]) (mok1 (mok_of A.f_Road_on T.me_Road_on hr (.head _))) tk _ rfl j_var (a_cons rfl j_var a_nil) (k_cons c_bl k_nil)) a_nil))))
    s_nil))
    s_nil))
    s_nil))))
    (s_cons (s_ite (t_isnilN hr j_var)
      (s_cons s_stuck
    s_nil)
      s_nil)
    (s_cons (s_ret (i_frz j_var))
    s_nil)))))
theorem b_look_form (T : Txt K mg) {k : Nat} (A : All P w K mg base k) {cdv : Value} {C : Around} {outer : List PySem.Env} {s : Shared} {H : Hp} {E : XK} (hr : Room (2 * k + 3) (C.deeper (envOfC "look_form" (defScope s_look_form) s.heap.objs.size (He.ga K "look_form") cdv))) :
    PSs (cxOf (L2.CX P w) P w K mg base ["task", "thing", "chosen", "told", "paper", "one"] "look_form" (defScope s_look_form) (He.ga K "look_form") cdv C outer s H E) (defBody s_look_form) (tS (gs K) (fun c d _ H => E c d H) (exs (callN Tb k) p_look_form)) := by
  have tk : Takes (cxOf (L2.CX P w) P w K mg base ["task", "thing", "chosen", "told", "paper", "one"] "look_form" (defScope s_look_form) (He.ga K "look_form") cdv C outer s H E) (fun c d _ H => E c d H) := takes_of rfl rfl rfl rfl
  have pp : PassesOwn (model (cxOf (L2.CX P w) P w K mg base ["task", "thing", "chosen", "told", "paper", "one"] "look_form" (defScope s_look_form) (He.ga K "look_form") cdv C outer s H E).prog (cxOf (L2.CX P w) P w K mg base ["task", "thing", "chosen", "told", "paper", "one"] "look_form" (defScope s_look_form) (He.ga K "look_form") cdv C outer s H E).w) (cxOf (L2.CX P w) P w K mg base ["task", "thing", "chosen", "told", "paper", "one"] "look_form" (defScope s_look_form) (He.ga K "look_form") cdv C outer s H E).A (cxOf (L2.CX P w) P w K mg base ["task", "thing", "chosen", "told", "paper", "one"] "look_form" (defScope s_look_form) (He.ga K "look_form") cdv C outer s H E).env (cxOf (L2.CX P w) P w K mg base ["task", "thing", "chosen", "told", "paper", "one"] "look_form" (defScope s_look_form) (He.ga K "look_form") cdv C outer s H E).xe := passes_of rfl
  exact (s_cons (s_ite (PW.pt (w_or (t_not (t_val rfl rfl (j_bi (.isi) hr T.n_isinstance (a_cons rfl j_var (a_cons rfl (c_gT (n := "tuple") T.n_tuple (by decide +kernel)) a_nil))))) (pw_or1 (t_cmp (op := .ne) rfl hr rfl (j_bi (.len) hr T.n_len (a_cons rfl j_var a_nil)) c_int))))
      (s_cons s_stuck
    s_nil)
      s_nil)
    (s_cons (j_asg [2, 3, 4] j_var (g_tup rfl rfl rfl rfl (gs_cons rfl (j_g sc_look_form.nd) (gs_cons rfl (j_g sc_look_form.nd) (gs_cons rfl (j_g sc_look_form.nd) gs_nil)))))
    (s_cons (s_ite (PW.pt (w_or (t_not (t_val rfl rfl (j_bi (.isi) hr T.n_isinstance (a_cons rfl j_var (a_cons rfl (c_gT (n := "tuple") T.n_tuple (by decide +kernel)) a_nil))))) (pw_or1 (t_not (t_val rfl rfl (j_call (ies := [(.var 2), (.bi (.len) [(.idx (.var 0) (.con (.int 1)))])]) (iks := []) (ks := []) (arr := [.a 0, .a 1]) A.f_are_rising T.m_are_rising tk hr _ rfl (a_cons rfl j_var (a_cons rfl (j_bi (.len) hr T.n_len (a_cons rfl (i_idx rfl rfl j_var c_int) a_nil)) a_nil)) k_nil (.head _)))))))
      (s_cons s_stuck
    s_nil)
      s_nil)
    (s_cons (s_ite (PW.pt (w_or (t_not (t_val rfl rfl (j_call (ies := [(.var 3)]) (iks := []) (ks := []) (arr := [.a 0]) A.f_is_number T.m_is_number tk hr _ rfl (a_cons rfl j_var a_nil) k_nil (.head _)))) (w_or (t_not (t_val rfl rfl (j_bi (.isi) hr T.n_isinstance (a_cons rfl j_var (a_cons rfl (c_gT (n := "list") T.n_list (by decide +kernel)) a_nil))))) (pw_or1 (t_not (t_val rfl rfl (j_bi (.all) hr T.n_all (a_cons rfl (i_lc (own := [("one", 5)]) rfl sc_look_form.nd rfl (w_e rfl j_var) (blkOk_by (by kernel_rfl)) (fun _ _ _ _ _ => (j_g sc_look_form.nd)) (fun _ _ _ _ _ => ifs_nil) (fun _ _ _ _ _ => (j_call (ies := [(.var 5)]) (iks := []) (ks := []) (arr := [.a 0]) A.f_is_number T.m_is_number takes0 hr _ rfl (a_cons rfl j_var a_nil) k_nil (.head _)))) a_nil))))))))
      (s_cons s_stuck
    s_nil)
      s_nil)
    s_nil))))
theorem b_look_best (T : Txt K mg) {k : Nat} (A : All P w K mg base k) {cdv : Value} {C : Around} {outer : List PySem.Env} {s : Shared} {H : Hp} {E : XK} (hr : Room (2 * k + 3) (C.deeper (envOfC "look_best" (defScope s_look_best) s.heap.objs.size (He.ga K "look_best") cdv))) :
    PSs (cxOf (L2.CX P w) P w K mg base ["task", "thing", "room", "chosen", "told", "paper", "road"] "look_best" (defScope s_look_best) (He.ga K "look_best") cdv C outer s H E) (defBody s_look_best) (tS (gs K) (fun c d _ H => E c d H) (exs (callN Tb k) p_look_best)) := by
  have tk : Takes (cxOf (L2.CX P w) P w K mg base ["task", "thing", "room", "chosen", "told", "paper", "road"] "look_best" (defScope s_look_best) (He.ga K "look_best") cdv C outer s H E) (fun c d _ H => E c d H) := takes_of rfl rfl rfl rfl
  have pp : PassesOwn (model (cxOf (L2.CX P w) P w K mg base ["task", "thing", "room", "chosen", "told", "paper", "road"] "look_best" (defScope s_look_best) (He.ga K "look_best") cdv C outer s H E).prog (cxOf (L2.CX P w) P w K mg base ["task", "thing", "room", "chosen", "told", "paper", "road"] "look_best" (defScope s_look_best) (He.ga K "look_best") cdv C outer s H E).w) (cxOf (L2.CX P w) P w K mg base ["task", "thing", "room", "chosen", "told", "paper", "road"] "look_best" (defScope s_look_best) (He.ga K "look_best") cdv C outer s H E).A (cxOf (L2.CX P w) P w K mg base ["task", "thing", "room", "chosen", "told", "paper", "road"] "look_best" (defScope s_look_best) (He.ga K "look_best") cdv C outer s H E).env (cxOf (L2.CX P w) P w K mg base ["task", "thing", "room", "chosen", "told", "paper", "road"] "look_best" (defScope s_look_best) (He.ga K "look_best") cdv C outer s H E).xe := passes_of rfl
  exact (s_cons (s_expr rfl (j_call (ies := [(.var 0), (.var 1)]) (iks := []) (ks := []) (arr := [.a 0, .a 1]) A.f_look_form T.m_look_form tk hr _ rfl (a_cons rfl j_var (a_cons rfl j_var a_nil)) k_nil (.head _)))
    (s_cons (j_asg [3, 4, 5] j_var (g_tup rfl rfl rfl rfl (gs_cons rfl (j_g sc_look_best.nd) (gs_cons rfl (j_g sc_look_best.nd) (gs_cons rfl (j_g sc_look_best.nd) gs_nil)))))
    (s_cons (s_ite (t_cmp (op := .gt) rfl hr rfl (j_call (ies := [(.var 0), (.var 3)]) (iks := []) (ks := []) (arr := [.a 0, .a 1]) A.f_size_of T.m_size_of tk hr _ rfl (a_cons rfl j_var (a_cons rfl j_var a_nil)) k_nil (.head _)) j_var)
      (s_cons s_stuck
    s_nil)
      s_nil)
    (s_cons (s_ite (t_cmp (op := .ne) rfl hr rfl j_var (j_call (ies := [(.var 0), (.var 3)]) (iks := []) (ks := []) (arr := [.a 0, .a 1]) A.f_total T.m_total tk hr _ rfl (a_cons rfl j_var (a_cons rfl j_var a_nil)) k_nil (.head _)))
      (s_cons s_stuck
    s_nil)
      s_nil)
    (s_cons (s_ite (t_not (t_val rfl rfl (j_bi (.all) hr T.n_all (a_cons rfl (i_lc (own := [("road", 6)]) rfl sc_look_best.nd rfl (w_e rfl (j_call (ies := [(.var 0), (.var 5)]) (iks := []) (ks := []) (arr := [.a 0, .a 1]) A.f_roads_of T.m_roads_of tk hr _ rfl (a_cons rfl j_var (a_cons rfl j_var a_nil)) k_nil (.head _))) (blkOk_by (by kernel_rfl)) (fun _ _ _ _ _ => (j_g sc_look_best.nd)) (fun _ _ _ _ _ => ifs_nil) (fun _ _ _ _ _ => (j_meth (ms := [(0, 10, [.a 0, .a 1, .a 2])]) (ies := [(.var 2), (.var 4)]) (iks := []) (ks := []) (mok1 (mok_of A.f_Road_is_closed T.me_Road_is_closed hr (.head _))) takes0 _ rfl j_var (a_cons rfl j_var (a_cons rfl j_var a_nil)) k_nil))) a_nil))))
      (s_cons s_stuck
    s_nil)
      s_nil)
    s_nil)))))
theorem b_l_bag (T : Txt K mg) {k : Nat} (A : All P w K mg base k) {cdv : Value} {C : Around} {outer : List PySem.Env} {s : Shared} {H : Hp} {E : XK} (hr : Room (2 * k + 3) (C.deeper (envOfC "_law_bag" (defScope s_l_bag) s.heap.objs.size (He.ga K "_law_bag") cdv))) :
    PSs (cxOf (L2.CX P w) P w K mg base ["_law_script", "_law_at", "_law_cell", "_law_great", "_law_primes"] "_law_bag" (defScope s_l_bag) (He.ga K "_law_bag") cdv C outer s H E) (defBody s_l_bag) (tS (gs K) (fun c d _ H => E c d H) (exs (callN Tb k) p_l_bag)) := by
  have tk : Takes (cxOf (L2.CX P w) P w K mg base ["_law_script", "_law_at", "_law_cell", "_law_great", "_law_primes"] "_law_bag" (defScope s_l_bag) (He.ga K "_law_bag") cdv C outer s H E) (fun c d _ H => E c d H) := takes_of rfl rfl rfl rfl
  have pp : PassesOwn (model (cxOf (L2.CX P w) P w K mg base ["_law_script", "_law_at", "_law_cell", "_law_great", "_law_primes"] "_law_bag" (defScope s_l_bag) (He.ga K "_law_bag") cdv C outer s H E).prog (cxOf (L2.CX P w) P w K mg base ["_law_script", "_law_at", "_law_cell", "_law_great", "_law_primes"] "_law_bag" (defScope s_l_bag) (He.ga K "_law_bag") cdv C outer s H E).w) (cxOf (L2.CX P w) P w K mg base ["_law_script", "_law_at", "_law_cell", "_law_great", "_law_primes"] "_law_bag" (defScope s_l_bag) (He.ga K "_law_bag") cdv C outer s H E).A (cxOf (L2.CX P w) P w K mg base ["_law_script", "_law_at", "_law_cell", "_law_great", "_law_primes"] "_law_bag" (defScope s_l_bag) (He.ga K "_law_bag") cdv C outer s H E).env (cxOf (L2.CX P w) P w K mg base ["_law_script", "_law_at", "_law_cell", "_law_great", "_law_primes"] "_law_bag" (defScope s_l_bag) (He.ga K "_law_bag") cdv C outer s H E).xe := passes_of rfl
  exact (s_cons (j_asg [2] c_int (j_g sc_l_bag.nd))
    (s_cons (s_ite (t_cmp (op := .gt) rfl hr rfl (j_bi (.len) hr T.n_len (a_cons rfl j_var a_nil)) c_int)
      (s_cons (j_asg [2] (i_idx rfl rfl j_var (i_bin (op := .mod) rfl j_var (j_bi (.len) hr T.n_len (a_cons rfl j_var a_nil)))) (j_g sc_l_bag.nd))
    s_nil)
      s_nil)
    (s_cons (j_asg [3] c_int (j_g sc_l_bag.nd))
    (s_cons (s_ite (PW.pt (w_and (t_cmp (op := .ge) rfl hr rfl (j_bi (.abs) hr T.n_abs (a_cons rfl j_var a_nil)) (i_bin (op := .pow) rfl c_int c_int)) (pw_and1 (t_cmp (op := .lt) rfl hr rfl j_var (j_bi (.len) hr T.n_len (a_cons rfl j_var a_nil))))))
      (s_cons (j_asg [3] (j_bi (.abs) hr T.n_abs (a_cons rfl j_var a_nil)) (j_g sc_l_bag.nd))
    s_nil)
      s_nil)
    (s_cons (j_asg [4] (i_tup (a_cons rfl c_int (a_cons rfl c_int (a_cons rfl c_int (a_cons rfl c_int (a_cons rfl c_int (a_cons rfl c_int (a_cons rfl c_int (a_cons rfl c_int a_nil))))))))) (j_g sc_l_bag.nd))
    (s_cons (s_ret (i_lst (a_cons rfl j_var (a_cons rfl (i_bin (op := .mod) rfl (i_bin (op := .pow) rfl (i_bin (op := .add) rfl (i_bin (op := .add) rfl (i_bin (op := .mod) rfl j_var c_int) (i_bin (op := .mul) rfl c_int j_var)) c_int) c_int) (i_idx rfl rfl j_var (i_bin (op := .mod) rfl j_var c_int))) a_nil))))
    s_nil))))))
theorem b_l_take (T : Txt K mg) {k : Nat} (A : All P w K mg base k) {cdv : Value} {C : Around} {outer : List PySem.Env} {s : Shared} {H : Hp} {E : XK} (hr : Room (2 * k + 3) (C.deeper (envOfC "_law_take" (defScope s_l_take) s.heap.objs.size (He.ga K "_law_take") cdv))) :
    PSs (cxOf (L2.CX P w) P w K mg base ["_law_bag_here", "_law_many", "_law_digit"] "_law_take" (defScope s_l_take) (He.ga K "_law_take") cdv C outer s H E) (defBody s_l_take) (tS (gs K) (fun c d _ H => E c d H) (exs (callN Tb k) p_l_take)) := by
  have tk : Takes (cxOf (L2.CX P w) P w K mg base ["_law_bag_here", "_law_many", "_law_digit"] "_law_take" (defScope s_l_take) (He.ga K "_law_take") cdv C outer s H E) (fun c d _ H => E c d H) := takes_of rfl rfl rfl rfl
  have pp : PassesOwn (model (cxOf (L2.CX P w) P w K mg base ["_law_bag_here", "_law_many", "_law_digit"] "_law_take" (defScope s_l_take) (He.ga K "_law_take") cdv C outer s H E).prog (cxOf (L2.CX P w) P w K mg base ["_law_bag_here", "_law_many", "_law_digit"] "_law_take" (defScope s_l_take) (He.ga K "_law_take") cdv C outer s H E).w) (cxOf (L2.CX P w) P w K mg base ["_law_bag_here", "_law_many", "_law_digit"] "_law_take" (defScope s_l_take) (He.ga K "_law_take") cdv C outer s H E).A (cxOf (L2.CX P w) P w K mg base ["_law_bag_here", "_law_many", "_law_digit"] "_law_take" (defScope s_l_take) (He.ga K "_law_take") cdv C outer s H E).env (cxOf (L2.CX P w) P w K mg base ["_law_bag_here", "_law_many", "_law_digit"] "_law_take" (defScope s_l_take) (He.ga K "_law_take") cdv C outer s H E).xe := passes_of rfl
  exact (s_cons (s_ite (t_cmp (op := .gt) rfl hr rfl (i_idx rfl rfl j_var c_int) c_int)
      (s_cons (j_asg [2] (i_bin (op := .mod) rfl (i_idx rfl rfl j_var c_int) j_var) (j_g sc_l_take.nd))
    (s_cons (j_asg [] (i_bin (op := .div) rfl (i_idx rfl rfl j_var c_int) j_var) (g_idx (W := noX) rfl j_var c_int))
    (s_cons (s_ret j_var)
    s_nil)))
      s_nil)
    (s_cons (j_asg [] (i_bin (op := .mod) rfl (i_bin (op := .add) rfl (i_bin (op := .mul) rfl (i_idx rfl rfl j_var c_int) c_int) c_int) c_int) (g_idx (W := noX) rfl j_var c_int))
    (s_cons (s_ret (i_bin (op := .mod) rfl (i_bin (op := .mod) rfl (i_bin (op := .pow) rfl (i_bin (op := .div) rfl (i_idx rfl rfl j_var c_int) c_int) c_int) c_int) j_var))
    s_nil)))
theorem b_l_offers (T : Txt K mg) {k : Nat} (A : All P w K mg base k) {cdv : Value} {C : Around} {outer : List PySem.Env} {s : Shared} {H : Hp} {E : XK} (hr : Room (2 * k + 3) (C.deeper (envOfC "_law_offers" (defScope s_l_offers) s.heap.objs.size (He.ga K "_law_offers") cdv))) :
    PSs (cxOf (L2.CX P w) P w K mg base ["_law_bag_here", "_law_many", "_law_great", "_law_top", "_law_found", "_law_k", "_law_needs"] "_law_offers" (defScope s_l_offers) (He.ga K "_law_offers") cdv C outer s H E) (defBody s_l_offers) (tS (gs K) (fun c d _ H => E c d H) (exs (callN Tb k) p_l_offers)) := by
  have tk : Takes (cxOf (L2.CX P w) P w K mg base ["_law_bag_here", "_law_many", "_law_great", "_law_top", "_law_found", "_law_k", "_law_needs"] "_law_offers" (defScope s_l_offers) (He.ga K "_law_offers") cdv C outer s H E) (fun c d _ H => E c d H) := takes_of rfl rfl rfl rfl
  have pp : PassesOwn (model (cxOf (L2.CX P w) P w K mg base ["_law_bag_here", "_law_many", "_law_great", "_law_top", "_law_found", "_law_k", "_law_needs"] "_law_offers" (defScope s_l_offers) (He.ga K "_law_offers") cdv C outer s H E).prog (cxOf (L2.CX P w) P w K mg base ["_law_bag_here", "_law_many", "_law_great", "_law_top", "_law_found", "_law_k", "_law_needs"] "_law_offers" (defScope s_l_offers) (He.ga K "_law_offers") cdv C outer s H E).w) (cxOf (L2.CX P w) P w K mg base ["_law_bag_here", "_law_many", "_law_great", "_law_top", "_law_found", "_law_k", "_law_needs"] "_law_offers" (defScope s_l_offers) (He.ga K "_law_offers") cdv C outer s H E).A (cxOf (L2.CX P w) P w K mg base ["_law_bag_here", "_law_many", "_law_great", "_law_top", "_law_found", "_law_k", "_law_needs"] "_law_offers" (defScope s_l_offers) (He.ga K "_law_offers") cdv C outer s H E).env (cxOf (L2.CX P w) P w K mg base ["_law_bag_here", "_law_many", "_law_great", "_law_top", "_law_found", "_law_k", "_law_needs"] "_law_offers" (defScope s_l_offers) (He.ga K "_law_offers") cdv C outer s H E).xe := passes_of rfl
  exact (s_cons (j_asg [3] (j_call (ies := [(.var 0), (.var 2)]) (iks := []) (ks := []) (arr := [.a 0, .a 1]) A.f_l_take T.m_l_take tk hr _ rfl (a_cons rfl j_var (a_cons rfl j_var a_nil)) k_nil (.head _)) (j_g sc_l_offers.nd))
    (s_cons (j_asg [4] (i_lst (a_cons rfl (i_tup (a_cons rfl j_var (a_cons rfl (i_tup a_nil) a_nil))) a_nil)) (j_g sc_l_offers.nd))
    (s_cons (s_for pp rfl rfl (w_rng1 (by rfl) T.n_range rfl (a_cons rfl (i_bin (op := .mul) rfl (j_call (ies := [(.var 0), (.idx (.tup [(.con (.int 2)), (.con (.int 6)), (.con (.int 12))]) (.call 18 [.a 0, .a 1] [(.var 0), (.con (.int 3))]))]) (iks := []) (ks := []) (arr := [.a 0, .a 1]) A.f_l_take T.m_l_take tk hr _ rfl (a_cons rfl j_var (a_cons rfl (i_idx rfl rfl (i_tup (a_cons rfl c_int (a_cons rfl c_int (a_cons rfl c_int a_nil)))) (j_call (ies := [(.var 0), (.con (.int 3))]) (iks := []) (ks := []) (arr := [.a 0, .a 1]) A.f_l_take T.m_l_take tk hr _ rfl (a_cons rfl j_var (a_cons rfl c_int a_nil)) k_nil (.head _))) a_nil)) k_nil (.head _)) (j_bi (.int1) hr T.n_int (a_cons rfl (i_cmp (op := .gt) rfl hr rfl j_var c_int) a_nil))) a_nil)) (g_any (vs := [5]) (j_g sc_l_offers.nd))
      (s_cons (j_asg [6] (i_lst (a_cons rfl (j_call (ies := [(.var 0), (.var 1)]) (iks := []) (ks := []) (arr := [.a 0, .a 1]) A.f_l_take T.m_l_take tk hr _ rfl (a_cons rfl j_var (a_cons rfl j_var a_nil)) k_nil (.head _)) a_nil)) (j_g sc_l_offers.nd))
    (s_cons (s_ite (PW.pt (w_and (t_cmp (op := .gt) rfl hr rfl j_var c_int) (pw_and1 (t_cmp (op := .eq) rfl hr rfl (j_call (ies := [(.var 0), (.con (.int 3))]) (iks := []) (ks := []) (arr := [.a 0, .a 1]) A.f_l_take T.m_l_take tk hr _ rfl (a_cons rfl j_var (a_cons rfl c_int a_nil)) k_nil (.head _)) c_int))))
      (s_cons (s_expr rfl (i_bm (mt := .append) rfl PySem.F.plainAttrs_list PySem.F.slot_list_append PySem.F.type_list_append mt_append' rfl rfl rfl (by decide) j_var (a_cons rfl (i_bin (op := .mod) rfl (i_bin (op := .add) rfl (i_bin (op := .add) rfl (i_idx rfl rfl j_var c_int) c_int) (j_call (ies := [(.var 0), (.bin false .sub (.var 1) (.con (.int 1)))]) (iks := []) (ks := []) (arr := [.a 0, .a 1]) A.f_l_take T.m_l_take tk hr _ rfl (a_cons rfl j_var (a_cons rfl (i_bin (op := .sub) rfl j_var c_int) a_nil)) k_nil (.head _))) j_var) a_nil)))
    s_nil)
      s_nil)
    (s_cons (s_expr rfl (i_bm (mt := .insert) rfl PySem.F.plainAttrs_list PySem.F.slot_list_insert PySem.F.type_list_insert mt_insert' rfl rfl rfl (by decide) j_var (a_cons rfl (j_call (ies := [(.var 0), (.bin false .add (.bi (.len) [(.var 4)]) (.con (.int 1)))]) (iks := []) (ks := []) (arr := [.a 0, .a 1]) A.f_l_take T.m_l_take tk hr _ rfl (a_cons rfl j_var (a_cons rfl (i_bin (op := .add) rfl (j_bi (.len) hr T.n_len (a_cons rfl j_var a_nil)) c_int) a_nil)) k_nil (.head _)) (a_cons rfl (i_tup (a_cons rfl (j_call (ies := [(.var 0), (.bin false .add (.var 3) (.con (.int 2)))]) (iks := []) (ks := []) (arr := [.a 0, .a 1]) A.f_l_take T.m_l_take tk hr _ rfl (a_cons rfl j_var (a_cons rfl (i_bin (op := .add) rfl j_var c_int) a_nil)) k_nil (.head _)) (a_cons rfl (j_bi (.tuple1) hr T.n_tuple (a_cons rfl (j_bi (.sorted1 false) hr T.n_sorted (a_cons rfl j_var a_nil)) a_nil)) a_nil))) a_nil))))
    s_nil))))
    (s_cons (s_ret (i_frz j_var))
    s_nil))))
theorem b_l_task (T : Txt K mg) {k : Nat} (A : All P w K mg base k) {cdv : Value} {C : Around} {outer : List PySem.Env} {s : Shared} {H : Hp} {E : XK} (hr : Room (2 * k + 3) (C.deeper (envOfC "_law_task" (defScope s_l_task) s.heap.objs.size (He.ga K "_law_task") cdv))) :
    PSs (cxOf (L2.CX P w) P w K mg base ["_law_bag_here", "_law_other", "_law_many", "_law_great", "_law_items", "_law_k", "_law_dear", "_law_keeps", "_law_wide"] "_law_task" (defScope s_l_task) (He.ga K "_law_task") cdv C outer s H E) (defBody s_l_task) (tS (gs K) (fun c d _ H => E c d H) (exs (callN Tb k) p_l_task)) := by
  have tk : Takes (cxOf (L2.CX P w) P w K mg base ["_law_bag_here", "_law_other", "_law_many", "_law_great", "_law_items", "_law_k", "_law_dear", "_law_keeps", "_law_wide"] "_law_task" (defScope s_l_task) (He.ga K "_law_task") cdv C outer s H E) (fun c d _ H => E c d H) := takes_of rfl rfl rfl rfl
  have pp : PassesOwn (model (cxOf (L2.CX P w) P w K mg base ["_law_bag_here", "_law_other", "_law_many", "_law_great", "_law_items", "_law_k", "_law_dear", "_law_keeps", "_law_wide"] "_law_task" (defScope s_l_task) (He.ga K "_law_task") cdv C outer s H E).prog (cxOf (L2.CX P w) P w K mg base ["_law_bag_here", "_law_other", "_law_many", "_law_great", "_law_items", "_law_k", "_law_dear", "_law_keeps", "_law_wide"] "_law_task" (defScope s_l_task) (He.ga K "_law_task") cdv C outer s H E).w) (cxOf (L2.CX P w) P w K mg base ["_law_bag_here", "_law_other", "_law_many", "_law_great", "_law_items", "_law_k", "_law_dear", "_law_keeps", "_law_wide"] "_law_task" (defScope s_l_task) (He.ga K "_law_task") cdv C outer s H E).A (cxOf (L2.CX P w) P w K mg base ["_law_bag_here", "_law_other", "_law_many", "_law_great", "_law_items", "_law_k", "_law_dear", "_law_keeps", "_law_wide"] "_law_task" (defScope s_l_task) (He.ga K "_law_task") cdv C outer s H E).env (cxOf (L2.CX P w) P w K mg base ["_law_bag_here", "_law_other", "_law_many", "_law_great", "_law_items", "_law_k", "_law_dear", "_law_keeps", "_law_wide"] "_law_task" (defScope s_l_task) (He.ga K "_law_task") cdv C outer s H E).xe := passes_of rfl
  exact (s_cons (j_asg [3] (i_idx rfl rfl (i_tup (a_cons rfl c_int (a_cons rfl c_int (a_cons rfl c_int a_nil)))) (j_call (ies := [(.var 0), (.con (.int 3))]) (iks := []) (ks := []) (arr := [.a 0, .a 1]) A.f_l_take T.m_l_take tk hr _ rfl (a_cons rfl j_var (a_cons rfl c_int a_nil)) k_nil (.head _))) (j_g sc_l_task.nd))
    (s_cons (j_asg [4] (i_lst a_nil) (j_g sc_l_task.nd))
    (s_cons (s_for pp rfl rfl (w_rng1 (by rfl) T.n_range rfl (a_cons rfl (i_idx rfl rfl (i_tup (a_cons rfl c_int (a_cons rfl c_int (a_cons rfl c_int (a_cons rfl c_int (a_cons rfl c_int a_nil)))))) (j_call (ies := [(.var 0), (.con (.int 5))]) (iks := []) (ks := []) (arr := [.a 0, .a 1]) A.f_l_take T.m_l_take tk hr _ rfl (a_cons rfl j_var (a_cons rfl c_int a_nil)) k_nil (.head _))) a_nil)) (g_any (vs := [5]) (j_g sc_l_task.nd))
      (s_cons (s_expr rfl (i_bm (mt := .append) rfl PySem.F.plainAttrs_list PySem.F.slot_list_append PySem.F.type_list_append mt_append' rfl rfl rfl (by decide) j_var (a_cons rfl (i_tup (a_cons rfl (i_bin (op := .add) rfl c_int (j_call (ies := [(.var 1), (.idx (.tup [(.con (.int 3)), (.con (.int 100))]) (.call 18 [.a 0, .a 1] [(.var 0), (.con (.int 2))]))]) (iks := []) (ks := []) (arr := [.a 0, .a 1]) A.f_l_take T.m_l_take tk hr _ rfl (a_cons rfl j_var (a_cons rfl (i_idx rfl rfl (i_tup (a_cons rfl c_int (a_cons rfl c_int a_nil))) (j_call (ies := [(.var 0), (.con (.int 2))]) (iks := []) (ks := []) (arr := [.a 0, .a 1]) A.f_l_take T.m_l_take tk hr _ rfl (a_cons rfl j_var (a_cons rfl c_int a_nil)) k_nil (.head _))) a_nil)) k_nil (.head _))) (a_cons rfl (j_call (ies := [(.var 1), (.var 2), (.var 3)]) (iks := []) (ks := []) (arr := [.a 0, .a 1, .a 2]) A.f_l_offers T.m_l_offers tk hr _ rfl (a_cons rfl j_var (a_cons rfl j_var (a_cons rfl j_var a_nil))) k_nil (.head _)) a_nil))) a_nil)))
    s_nil))
    (s_cons (j_asg [6] (i_idx rfl rfl (i_tup (a_cons rfl c_int (a_cons rfl c_int (a_cons rfl (i_bin (op := .add) rfl (i_bin (op := .pow) rfl c_int c_int) c_int) (a_cons rfl c_int a_nil))))) (j_call (ies := [(.var 0), (.con (.int 4))]) (iks := []) (ks := []) (arr := [.a 0, .a 1]) A.f_l_take T.m_l_take tk hr _ rfl (a_cons rfl j_var (a_cons rfl c_int a_nil)) k_nil (.head _))) (j_g sc_l_task.nd))
    (s_cons (s_setLc (i := 7) (own := [("_law_k", 5)]) rfl sc_l_task.nd rfl rfl (sw_true rfl rfl rfl (by decide +kernel)) rfl (w_rng1 (by rfl) T.n_range rfl (a_cons rfl j_var a_nil)) (blkOk_by (by kernel_rfl)) (fun _ _ _ _ _ => (j_g sc_l_task.nd)) (fun _ _ _ _ _ => ifs_nil) (fun _ _ _ _ _ => (j_call (ies := [(.var 0), (.var 6)]) (iks := []) (ks := []) (arr := [.a 0, .a 1]) A.f_l_take T.m_l_take takes0 hr _ rfl (a_cons rfl j_var (a_cons rfl j_var a_nil)) k_nil (.head _))))
    (s_cons (j_asg [8] (i_idx rfl rfl (i_tup (a_cons rfl c_int (a_cons rfl c_int (a_cons rfl (i_bin (op := .add) rfl (i_bin (op := .pow) rfl c_int c_int) c_int) a_nil)))) (j_call (ies := [(.var 0), (.con (.int 3))]) (iks := []) (ks := []) (arr := [.a 0, .a 1]) A.f_l_take T.m_l_take tk hr _ rfl (a_cons rfl j_var (a_cons rfl c_int a_nil)) k_nil (.head _))) (j_g sc_l_task.nd))
    (s_cons (s_ret (i_tup (a_cons rfl (i_frz j_var) (a_cons rfl j_var (a_cons rfl (i_lc (own := [("_law_k", 5)]) rfl sc_l_task.nd rfl (w_rng1 (by rfl) T.n_range rfl (a_cons rfl j_var a_nil)) (blkOk_by (by kernel_rfl)) (fun _ _ _ _ _ => (j_g sc_l_task.nd)) (fun _ _ _ _ _ => ifs_nil) (fun _ _ _ _ _ => (j_call (ies := [(.var 1), (.var 8)]) (iks := []) (ks := []) (arr := [.a 0, .a 1]) A.f_l_take T.m_l_take takes0 hr _ rfl (a_cons rfl j_var (a_cons rfl j_var a_nil)) k_nil (.head _)))) a_nil)))))
    s_nil)))))))
theorem b_l_room (T : Txt K mg) {k : Nat} (A : All P w K mg base k) {cdv : Value} {C : Around} {outer : List PySem.Env} {s : Shared} {H : Hp} {E : XK} (hr : Room (2 * k + 3) (C.deeper (envOfC "_law_room" (defScope s_l_room) s.heap.objs.size (He.ga K "_law_room") cdv))) :
    PSs (cxOf (L2.CX P w) P w K mg base ["_law_bag_here", "_law_task_here", "_law_whole"] "_law_room" (defScope s_l_room) (He.ga K "_law_room") cdv C outer s H E) (defBody s_l_room) (tS (gs K) (fun c d _ H => E c d H) (exs (callN Tb k) p_l_room)) := by
  have tk : Takes (cxOf (L2.CX P w) P w K mg base ["_law_bag_here", "_law_task_here", "_law_whole"] "_law_room" (defScope s_l_room) (He.ga K "_law_room") cdv C outer s H E) (fun c d _ H => E c d H) := takes_of rfl rfl rfl rfl
  have pp : PassesOwn (model (cxOf (L2.CX P w) P w K mg base ["_law_bag_here", "_law_task_here", "_law_whole"] "_law_room" (defScope s_l_room) (He.ga K "_law_room") cdv C outer s H E).prog (cxOf (L2.CX P w) P w K mg base ["_law_bag_here", "_law_task_here", "_law_whole"] "_law_room" (defScope s_l_room) (He.ga K "_law_room") cdv C outer s H E).w) (cxOf (L2.CX P w) P w K mg base ["_law_bag_here", "_law_task_here", "_law_whole"] "_law_room" (defScope s_l_room) (He.ga K "_law_room") cdv C outer s H E).A (cxOf (L2.CX P w) P w K mg base ["_law_bag_here", "_law_task_here", "_law_whole"] "_law_room" (defScope s_l_room) (He.ga K "_law_room") cdv C outer s H E).env (cxOf (L2.CX P w) P w K mg base ["_law_bag_here", "_law_task_here", "_law_whole"] "_law_room" (defScope s_l_room) (He.ga K "_law_room") cdv C outer s H E).xe := passes_of rfl
  exact (s_cons (j_asg [2] (j_bi (.sumL) hr T.n_sum (a_cons rfl (i_idx rfl rfl j_var c_int) a_nil)) (j_g sc_l_room.nd))
    (s_cons (s_ret (i_idx rfl rfl (i_tup (a_cons rfl (j_call (ies := [(.var 0), (.bin false .add (.var 2) (.con (.int 1)))]) (iks := []) (ks := []) (arr := [.a 0, .a 1]) A.f_l_take T.m_l_take tk hr _ rfl (a_cons rfl j_var (a_cons rfl (i_bin (op := .add) rfl j_var c_int) a_nil)) k_nil (.head _)) (a_cons rfl j_var (a_cons rfl c_int (a_cons rfl (j_call (ies := [(.var 0), (.bin false .add (.bin false .pow (.con (.int 10)) (.con (.int 9))) (.con (.int 1)))]) (iks := []) (ks := []) (arr := [.a 0, .a 1]) A.f_l_take T.m_l_take tk hr _ rfl (a_cons rfl j_var (a_cons rfl (i_bin (op := .add) rfl (i_bin (op := .pow) rfl c_int c_int) c_int) a_nil)) k_nil (.head _)) a_nil))))) (j_call (ies := [(.var 0), (.con (.int 4))]) (iks := []) (ks := []) (arr := [.a 0, .a 1]) A.f_l_take T.m_l_take tk hr _ rfl (a_cons rfl j_var (a_cons rfl c_int a_nil)) k_nil (.head _))))
    s_nil))
theorem b_l_least (T : Txt K mg) {k : Nat} (A : All P w K mg base k) {cdv : Value} {C : Around} {outer : List PySem.Env} {s : Shared} {H : Hp} {E : XK} (hr : Room (2 * k + 3) (C.deeper (envOfC "_law_least" (defScope s_l_least) s.heap.objs.size (He.ga K "_law_least") cdv))) :
    PSs (cxOf (L2.CX P w) P w K mg base ["_law_given", "_law_wide", "_law_told"] "_law_least" (defScope s_l_least) (He.ga K "_law_least") cdv C outer s H E) (defBody s_l_least) (tS (gs K) (fun c d _ H => E c d H) (exs (callN Tb k) p_l_least)) := by
  have tk : Takes (cxOf (L2.CX P w) P w K mg base ["_law_given", "_law_wide", "_law_told"] "_law_least" (defScope s_l_least) (He.ga K "_law_least") cdv C outer s H E) (fun c d _ H => E c d H) := takes_of rfl rfl rfl rfl
  have pp : PassesOwn (model (cxOf (L2.CX P w) P w K mg base ["_law_given", "_law_wide", "_law_told"] "_law_least" (defScope s_l_least) (He.ga K "_law_least") cdv C outer s H E).prog (cxOf (L2.CX P w) P w K mg base ["_law_given", "_law_wide", "_law_told"] "_law_least" (defScope s_l_least) (He.ga K "_law_least") cdv C outer s H E).w) (cxOf (L2.CX P w) P w K mg base ["_law_given", "_law_wide", "_law_told"] "_law_least" (defScope s_l_least) (He.ga K "_law_least") cdv C outer s H E).A (cxOf (L2.CX P w) P w K mg base ["_law_given", "_law_wide", "_law_told"] "_law_least" (defScope s_l_least) (He.ga K "_law_least") cdv C outer s H E).env (cxOf (L2.CX P w) P w K mg base ["_law_given", "_law_wide", "_law_told"] "_law_least" (defScope s_l_least) (He.ga K "_law_least") cdv C outer s H E).xe := passes_of rfl
  exact (s_cons (j_asg [2] (j_call (ies := [(.var 0)]) (iks := [(.var 1)]) (ks := ["room"]) (arr := [.a 0, .a 1]) A.f_best T.m_best tk hr _ rfl (a_cons rfl j_var a_nil) (k_cons j_var k_nil) (.head _)) (j_g sc_l_least.nd))
    (s_cons (s_ite (PW.pt (w_or (t_cmp (op := .notN) rfl hr rfl (j_call (ies := [(.var 0), (.var 2)]) (iks := [(.var 1)]) (ks := ["room"]) (arr := [.a 0, .a 1, .a 2]) A.f_look_best T.m_look_best tk hr _ rfl (a_cons rfl j_var (a_cons rfl j_var a_nil)) (k_cons j_var k_nil) (.head _)) c_non) (pw_or1 (t_cmp (op := .ne) rfl hr rfl (j_call (ies := [(.var 0), (.idx (.var 2) (.con (.int 0)))]) (iks := []) (ks := []) (arr := [.a 0, .a 1]) A.f_total T.m_total tk hr _ rfl (a_cons rfl j_var (a_cons rfl (i_idx rfl rfl j_var c_int) a_nil)) k_nil (.head _)) (i_idx rfl rfl j_var c_int)))))
      (s_cons (s_ret c_non)
    s_nil)
      s_nil)
    (s_cons (s_ret (i_idx rfl rfl j_var c_int))
    s_nil)))
theorem b_l_right (T : Txt K mg) {k : Nat} (A : All P w K mg base k) {cdv : Value} {C : Around} {outer : List PySem.Env} {s : Shared} {H : Hp} {E : XK} (hr : Room (2 * k + 3) (C.deeper (envOfC "_law_right" (defScope s_l_right) s.heap.objs.size (He.ga K "_law_right") cdv))) :
    PSs (cxOf (L2.CX P w) P w K mg base ["_law_bag_here", "_law_given", "_law_wide", "_law_items", "_law_keeps", "_law_sizes", "_law_few", "_law_many", "_law_narrow", "_law_more", "_law_longer", "_law_weight", "_law_some", "_law_cheaper", "_law_often", "_law_times", "_law_keep", "_law_size", "_law_k"] "_law_right" (defScope s_l_right) (He.ga K "_law_right") cdv C outer s H E) (defBody s_l_right) (tS (gs K) (fun c d _ H => E c d H) (exs (callN Tb k) p_l_right)) := by
  have tk : Takes (cxOf (L2.CX P w) P w K mg base ["_law_bag_here", "_law_given", "_law_wide", "_law_items", "_law_keeps", "_law_sizes", "_law_few", "_law_many", "_law_narrow", "_law_more", "_law_longer", "_law_weight", "_law_some", "_law_cheaper", "_law_often", "_law_times", "_law_keep", "_law_size", "_law_k"] "_law_right" (defScope s_l_right) (He.ga K "_law_right") cdv C outer s H E) (fun c d _ H => E c d H) := takes_of rfl rfl rfl rfl
  have pp : PassesOwn (model (cxOf (L2.CX P w) P w K mg base ["_law_bag_here", "_law_given", "_law_wide", "_law_items", "_law_keeps", "_law_sizes", "_law_few", "_law_many", "_law_narrow", "_law_more", "_law_longer", "_law_weight", "_law_some", "_law_cheaper", "_law_often", "_law_times", "_law_keep", "_law_size", "_law_k"] "_law_right" (defScope s_l_right) (He.ga K "_law_right") cdv C outer s H E).prog (cxOf (L2.CX P w) P w K mg base ["_law_bag_here", "_law_given", "_law_wide", "_law_items", "_law_keeps", "_law_sizes", "_law_few", "_law_many", "_law_narrow", "_law_more", "_law_longer", "_law_weight", "_law_some", "_law_cheaper", "_law_often", "_law_times", "_law_keep", "_law_size", "_law_k"] "_law_right" (defScope s_l_right) (He.ga K "_law_right") cdv C outer s H E).w) (cxOf (L2.CX P w) P w K mg base ["_law_bag_here", "_law_given", "_law_wide", "_law_items", "_law_keeps", "_law_sizes", "_law_few", "_law_many", "_law_narrow", "_law_more", "_law_longer", "_law_weight", "_law_some", "_law_cheaper", "_law_often", "_law_times", "_law_keep", "_law_size", "_law_k"] "_law_right" (defScope s_l_right) (He.ga K "_law_right") cdv C outer s H E).A (cxOf (L2.CX P w) P w K mg base ["_law_bag_here", "_law_given", "_law_wide", "_law_items", "_law_keeps", "_law_sizes", "_law_few", "_law_many", "_law_narrow", "_law_more", "_law_longer", "_law_weight", "_law_some", "_law_cheaper", "_law_often", "_law_times", "_law_keep", "_law_size", "_law_k"] "_law_right" (defScope s_l_right) (He.ga K "_law_right") cdv C outer s H E).env (cxOf (L2.CX P w) P w K mg base ["_law_bag_here", "_law_given", "_law_wide", "_law_items", "_law_keeps", "_law_sizes", "_law_few", "_law_many", "_law_narrow", "_law_more", "_law_longer", "_law_weight", "_law_some", "_law_cheaper", "_law_often", "_law_times", "_law_keep", "_law_size", "_law_k"] "_law_right" (defScope s_l_right) (He.ga K "_law_right") cdv C outer s H E).xe := passes_of rfl
  exact (s_cons (j_asg [3, 4, 5] j_var (g_tup rfl rfl rfl rfl (gs_cons rfl (j_g sc_l_right.nd) (gs_cons rfl (j_g sc_l_right.nd) (gs_cons rfl (j_g sc_l_right.nd) gs_nil)))))
    (s_cons (s_asg (i_tup (a_cons rfl (j_call (ies := [(.var 1), (.var 2)]) (iks := []) (ks := []) (arr := [.a 0, .a 1]) A.f_l_least T.m_l_least tk hr _ rfl (a_cons rfl j_var (a_cons rfl j_var a_nil)) k_nil (.head _)) (a_cons rfl (j_bi (.len) hr T.n_len (a_cons rfl j_var a_nil)) a_nil))) (g_any (vs := [6, 7]) (g_tup rfl rfl rfl rfl (gs_cons rfl (j_g sc_l_right.nd) (gs_cons rfl (j_g sc_l_right.nd) gs_nil)))) rfl (by rfl) (by rfl))
    (s_cons (j_asg [8] (j_call (ies := [(.var 1), (.bin false .div (.var 2) (.con (.int 2)))]) (iks := []) (ks := []) (arr := [.a 0, .a 1]) A.f_l_least T.m_l_least tk hr _ rfl (a_cons rfl j_var (a_cons rfl (i_bin (op := .div) rfl j_var c_int) a_nil)) k_nil (.head _)) (j_g sc_l_right.nd))
    (s_cons (s_ite (PW.pt (w_or (t_cmp (op := .isN) rfl hr rfl j_var c_non) (w_or (t_cmp (op := .isN) rfl hr rfl j_var c_non) (w_or (t_cmp (op := .gt) rfl hr rfl j_var j_var) (pw_or1 (t_cmp (op := .gt) rfl hr rfl j_var (j_call (ies := [(.var 1), (.tup [])]) (iks := []) (ks := []) (arr := [.a 0, .a 1]) A.f_total T.m_total tk hr _ rfl (a_cons rfl j_var (a_cons rfl (i_tup a_nil) a_nil)) k_nil (.head _))))))))
      (s_cons (s_ret c_bl)
    s_nil)
      s_nil)
    (s_cons (s_ite (t_val rfl rfl (j_bi (.any) hr T.n_any (a_cons rfl (i_lc (own := [("_law_k", 18)]) rfl sc_l_right.nd rfl (w_rng1 (by rfl) T.n_range rfl (a_cons rfl j_var a_nil)) (blkOk_by (by kernel_rfl)) (fun _ _ _ _ _ => (j_g sc_l_right.nd)) (fun _ _ _ _ _ => ifs_nil) (fun _ _ _ _ _ => (i_and rfl (i_cmp (op := .le) rfl hr rfl (i_idx rfl rfl j_var j_var) j_var) (pe_one (i_cmp (op := .lt) rfl hr rfl (j_call (ies := [(.var 1), (.tup [(.var 18)])]) (iks := []) (ks := []) (arr := [.a 0, .a 1]) A.f_total T.m_total takes0 hr _ rfl (a_cons rfl j_var (a_cons rfl (i_tup (a_cons rfl j_var a_nil)) a_nil)) k_nil (.head _)) j_var))))) a_nil)))
      (s_cons (s_ret c_bl)
    s_nil)
      s_nil)
    (s_cons (j_asg [9] (j_call (ies := [(.var 0), (.var 7), (.con (.int 20))]) (iks := []) (ks := []) (arr := [.a 0, .a 1, .a 2]) A.f_l_offers T.m_l_offers tk hr _ rfl (a_cons rfl j_var (a_cons rfl j_var (a_cons rfl c_int a_nil))) k_nil (.head _)) (j_g sc_l_right.nd))
    (s_cons (j_asg [10] (i_tup (a_cons rfl (i_bin (op := .add) rfl (i_slc rfl j_var p_none (p_some c_int)) (i_lst (a_cons rfl (i_tup (a_cons rfl (i_bin (op := .add) rfl c_int (j_call (ies := [(.var 0), (.con (.int 100))]) (iks := []) (ks := []) (arr := [.a 0, .a 1]) A.f_l_take T.m_l_take tk hr _ rfl (a_cons rfl j_var (a_cons rfl c_int a_nil)) k_nil (.head _))) (a_cons rfl j_var a_nil))) a_nil))) (a_cons rfl j_var (a_cons rfl j_var a_nil)))) (j_g sc_l_right.nd))
    (s_cons (s_ite (t_cmp (op := .lt) rfl hr rfl (j_call (ies := [(.var 10), (.var 2)]) (iks := []) (ks := []) (arr := [.a 0, .a 1]) A.f_l_least T.m_l_least tk hr _ rfl (a_cons rfl j_var (a_cons rfl j_var a_nil)) k_nil (.head _)) (j_call (ies := [(.tup [(.slc false (.var 3) none (some (.con (.int 11)))), (.var 4), (.var 5)]), (.var 2)]) (iks := []) (ks := []) (arr := [.a 0, .a 1]) A.f_l_least T.m_l_least tk hr _ rfl (a_cons rfl (i_tup (a_cons rfl (i_slc rfl j_var p_none (p_some c_int)) (a_cons rfl j_var (a_cons rfl j_var a_nil)))) (a_cons rfl j_var a_nil)) k_nil (.head _)))
      (s_cons (s_ret c_bl)
    s_nil)
      s_nil)
    (s_cons (s_ite (t_cmp (op := .ne) rfl hr rfl j_var (i_lst a_nil))
      (s_cons (j_asg [11, 12] (i_idx rfl rfl j_var c_int) (g_tup rfl rfl rfl rfl (gs_cons rfl (j_g sc_l_right.nd) (gs_cons rfl (j_g sc_l_right.nd) gs_nil))))
    (s_cons (j_asg [13] (i_bin (op := .add) rfl (i_lst (a_cons rfl (i_tup (a_cons rfl j_var (a_cons rfl (i_bin (op := .add) rfl j_var (i_lst (a_cons rfl (i_tup (a_cons rfl (i_bin (op := .div) rfl (i_idx rfl rfl (i_idx rfl rfl j_var c_int) c_int) c_int) (a_cons rfl (i_tup (a_cons rfl (j_call (ies := [(.var 0), (.var 7)]) (iks := []) (ks := []) (arr := [.a 0, .a 1]) A.f_l_take T.m_l_take tk hr _ rfl (a_cons rfl j_var (a_cons rfl j_var a_nil)) k_nil (.head _)) a_nil)) a_nil))) a_nil))) a_nil))) a_nil)) (i_slc rfl j_var (p_some c_int) p_none)) (j_g sc_l_right.nd))
    (s_cons (s_ite (t_cmp (op := .gt) rfl hr rfl (j_call (ies := [(.tup [(.var 13), (.var 4), (.var 5)]), (.var 2)]) (iks := []) (ks := []) (arr := [.a 0, .a 1]) A.f_l_least T.m_l_least tk hr _ rfl (a_cons rfl (i_tup (a_cons rfl j_var (a_cons rfl j_var (a_cons rfl j_var a_nil)))) (a_cons rfl j_var a_nil)) k_nil (.head _)) j_var)
      (s_cons (s_ret c_bl)
    s_nil)
      s_nil)
    s_nil)))
      s_nil)
    (s_cons (j_asg [14] (i_bin (op := .add) rfl c_int (j_call (ies := [(.var 0), (.con (.int 3))]) (iks := []) (ks := []) (arr := [.a 0, .a 1]) A.f_l_take T.m_l_take tk hr _ rfl (a_cons rfl j_var (a_cons rfl c_int a_nil)) k_nil (.head _))) (j_g sc_l_right.nd))
    (s_cons (s_ite (PW.pt (w_and (t_cmp (op := .le) rfl hr rfl (i_bin (op := .mul) rfl (i_maxD hr T.n_max (a_cons rfl (i_lc (own := [("_law_weight", 11), ("_law_some", 12)]) rfl sc_l_right.nd rfl (w_e rfl j_var) (blkOk_by (by kernel_rfl)) (fun _ _ _ _ _ => (g_tup rfl rfl rfl rfl (gs_cons rfl (j_g sc_l_right.nd) (gs_cons rfl (j_g sc_l_right.nd) gs_nil)))) (fun _ _ _ _ _ => ifs_nil) (fun _ _ _ _ _ => j_var)) a_nil) c_int) j_var) c_int) (pw_and1 (t_cmp (op := .le) rfl hr rfl (i_bin (op := .mul) rfl (j_bi (.maxL) hr T.n_max (a_cons rfl j_var a_nil)) j_var) (i_bin (op := .pow) rfl c_int c_int)))))
      (s_cons (j_asg [15] (i_tup (a_cons rfl (i_lc (own := [("_law_weight", 11), ("_law_some", 12)]) rfl sc_l_right.nd rfl (w_e rfl j_var) (blkOk_by (by kernel_rfl)) (fun _ _ _ _ _ => (g_tup rfl rfl rfl rfl (gs_cons rfl (j_g sc_l_right.nd) (gs_cons rfl (j_g sc_l_right.nd) gs_nil)))) (fun _ _ _ _ _ => ifs_nil) (fun _ _ _ _ _ => (i_tup (a_cons rfl (i_bin (op := .mul) rfl j_var j_var) (a_cons rfl j_var a_nil))))) (a_cons rfl (i_lc (own := [("_law_keep", 16)]) rfl sc_l_right.nd rfl (w_e rfl j_var) (blkOk_by (by kernel_rfl)) (fun _ _ _ _ _ => (j_g sc_l_right.nd)) (fun _ _ _ _ _ => ifs_nil) (fun _ _ _ _ _ => (i_bin (op := .mul) rfl j_var j_var))) (a_cons rfl j_var a_nil)))) (j_g sc_l_right.nd))
    (s_cons (s_ite (t_cmp (op := .ne) rfl hr rfl (j_call (ies := [(.var 15), (.var 2)]) (iks := []) (ks := []) (arr := [.a 0, .a 1]) A.f_l_least T.m_l_least tk hr _ rfl (a_cons rfl j_var (a_cons rfl j_var a_nil)) k_nil (.head _)) (i_bin (op := .mul) rfl j_var j_var))
      (s_cons (s_ret c_bl)
    s_nil)
      s_nil)
    s_nil))
      s_nil)
    (s_cons (s_ite (PW.pt (w_and (t_cmp (op := .lt) rfl hr rfl j_var c_int) (pw_and1 (t_cmp (op := .lt) rfl hr rfl j_var (i_bin (op := .pow) rfl c_int c_int)))))
      (s_cons (s_for pp rfl rfl (w_e rfl (i_tup (a_cons rfl (i_tup (a_cons rfl c_int (a_cons rfl c_int a_nil))) (a_cons rfl (i_tup (a_cons rfl c_int (a_cons rfl (i_bin (op := .add) rfl j_var c_int) a_nil))) (a_cons rfl (i_tup (a_cons rfl c_int (a_cons rfl c_int a_nil))) a_nil))))) (g_any (vs := [16, 17]) (g_tup rfl rfl rfl rfl (gs_cons rfl (j_g sc_l_right.nd) (gs_cons rfl (j_g sc_l_right.nd) gs_nil))))
      (s_cons (s_ite (t_cmp (op := .ne) rfl hr rfl (j_call (ies := [(.tup [(.var 3), (.bin false .add (.var 4) (.lst false [(.var 16)])), (.bin false .add (.var 5) (.lst false [(.var 17)]))]), (.var 2)]) (iks := []) (ks := []) (arr := [.a 0, .a 1]) A.f_l_least T.m_l_least tk hr _ rfl (a_cons rfl (i_tup (a_cons rfl j_var (a_cons rfl (i_bin (op := .add) rfl j_var (i_lst (a_cons rfl j_var a_nil))) (a_cons rfl (i_bin (op := .add) rfl j_var (i_lst (a_cons rfl j_var a_nil))) a_nil)))) (a_cons rfl j_var a_nil)) k_nil (.head _)) j_var)
      (s_cons (s_ret c_bl)
    s_nil)
      s_nil)
    s_nil))
    s_nil)
      s_nil)
    (s_cons (s_ret c_bl)
    s_nil)))))))))))))
theorem b_law (T : Txt K mg) {k : Nat} (A : All P w K mg base k) {cdv : Value} {C : Around} {outer : List PySem.Env} {s : Shared} {H : Hp} {E : XK} (hr : Room (2 * k + 3) (C.deeper (envOfC "law" (defScope s_law) s.heap.objs.size (He.ga K "law") cdv))) :
    PSs (cxOf (L2.CX P w) P w K mg base ["_law_script", "_law_k", "_law_bag_here", "_law_other", "_law_given"] "law" (defScope s_law) (He.ga K "law") cdv C outer s H E) (defBody s_law) (tS (gs K) (fun c d _ H => E c d H) (exs (callN Tb k) p_law)) := by
  have tk : Takes (cxOf (L2.CX P w) P w K mg base ["_law_script", "_law_k", "_law_bag_here", "_law_other", "_law_given"] "law" (defScope s_law) (He.ga K "law") cdv C outer s H E) (fun c d _ H => E c d H) := takes_of rfl rfl rfl rfl
  have pp : PassesOwn (model (cxOf (L2.CX P w) P w K mg base ["_law_script", "_law_k", "_law_bag_here", "_law_other", "_law_given"] "law" (defScope s_law) (He.ga K "law") cdv C outer s H E).prog (cxOf (L2.CX P w) P w K mg base ["_law_script", "_law_k", "_law_bag_here", "_law_other", "_law_given"] "law" (defScope s_law) (He.ga K "law") cdv C outer s H E).w) (cxOf (L2.CX P w) P w K mg base ["_law_script", "_law_k", "_law_bag_here", "_law_other", "_law_given"] "law" (defScope s_law) (He.ga K "law") cdv C outer s H E).A (cxOf (L2.CX P w) P w K mg base ["_law_script", "_law_k", "_law_bag_here", "_law_other", "_law_given"] "law" (defScope s_law) (He.ga K "law") cdv C outer s H E).env (cxOf (L2.CX P w) P w K mg base ["_law_script", "_law_k", "_law_bag_here", "_law_other", "_law_given"] "law" (defScope s_law) (He.ga K "law") cdv C outer s H E).xe := passes_of rfl
  exact (s_cons (s_for pp rfl rfl (w_rng1 (by rfl) T.n_range rfl (a_cons rfl (j_bi (.max2) hr T.n_max (a_cons rfl c_int (a_cons rfl (j_bi (.min2) hr T.n_min (a_cons rfl c_int (a_cons rfl (i_bin (op := .div) rfl (j_bi (.len) hr T.n_len (a_cons rfl j_var a_nil)) c_int) a_nil))) a_nil))) a_nil)) (g_any (vs := [1]) (j_g sc_law.nd))
      (s_cons (s_par2 (i := 2) (j := 3) sc_law.nd (a_cons rfl (j_call (ies := [(.var 0), (.bin false .mul (.con (.int 2)) (.var 1))]) (iks := []) (ks := []) (arr := [.a 0, .a 1]) A.f_l_bag T.m_l_bag tk hr _ rfl (a_cons rfl j_var (a_cons rfl (i_bin (op := .mul) rfl c_int j_var) a_nil)) k_nil (.head _)) (a_cons rfl (j_call (ies := [(.var 0), (.bin false .add (.bin false .mul (.con (.int 2)) (.var 1)) (.con (.int 1)))]) (iks := []) (ks := []) (arr := [.a 0, .a 1]) A.f_l_bag T.m_l_bag tk hr _ rfl (a_cons rfl j_var (a_cons rfl (i_bin (op := .add) rfl (i_bin (op := .mul) rfl c_int j_var) c_int) a_nil)) k_nil (.head _)) a_nil)))
    (s_cons (j_asg [4] (j_call (ies := [(.var 2), (.var 3), (.idx (.tup [(.con (.int 4)), (.con (.int 6)), (.con (.int 3)), (.con (.int 8)), (.con (.int 1))]) (.call 18 [.a 0, .a 1] [(.var 2), (.con (.int 5))]))]) (iks := []) (ks := []) (arr := [.a 0, .a 1, .a 2]) A.f_l_task T.m_l_task tk hr _ rfl (a_cons rfl j_var (a_cons rfl j_var (a_cons rfl (i_idx rfl rfl (i_tup (a_cons rfl c_int (a_cons rfl c_int (a_cons rfl c_int (a_cons rfl c_int (a_cons rfl c_int a_nil)))))) (j_call (ies := [(.var 2), (.con (.int 5))]) (iks := []) (ks := []) (arr := [.a 0, .a 1]) A.f_l_take T.m_l_take tk hr _ rfl (a_cons rfl j_var (a_cons rfl c_int a_nil)) k_nil (.head _))) a_nil))) k_nil (.head _)) (j_g sc_law.nd))
    (s_cons (s_ite (t_not (t_val rfl rfl (j_call (ies := [(.var 2), (.var 4), (.call 21 [.a 0, .a 1] [(.var 2), (.var 4)])]) (iks := []) (ks := []) (arr := [.a 0, .a 1, .a 2]) A.f_l_right T.m_l_right tk hr _ rfl (a_cons rfl j_var (a_cons rfl j_var (a_cons rfl (j_call (ies := [(.var 2), (.var 4)]) (iks := []) (ks := []) (arr := [.a 0, .a 1]) A.f_l_room T.m_l_room tk hr _ rfl (a_cons rfl j_var (a_cons rfl j_var a_nil)) k_nil (.head _)) a_nil))) k_nil (.head _))))
      (s_cons (s_ret c_bl)
    s_nil)
      s_nil)
    s_nil))))
    (s_cons (s_ret c_bl)
    s_nil))
theorem all_ok (T : Txt K mg) (TB : ∀ p ∈ cs K, LamX.TabB base mg p.1 p.2) : ∀ k, All P w K mg base k
  | 0 => ⟨let ⟨fd, F⟩ := T.d_is_whole; ⟨fd, ["thing", "low", "high"], fn_zero F sc_is_whole, sgs_is_whole T F, F.kp⟩,
    let ⟨fd, F⟩ := T.d_is_number; ⟨fd, ["thing"], fn_zero F sc_is_number, sgs_is_number T F, F.kp⟩,
    let ⟨fd, F⟩ := T.d_are_rising; ⟨fd, ["thing", "many"], fn_zero F sc_are_rising, sgs_are_rising T F, F.kp⟩,
    let ⟨fd, F⟩ := T.d_least; ⟨fd, ["offers", "chosen"], fn_zero F sc_least, sgs_least T F, F.kp⟩,
    let ⟨fd, F⟩ := T.d_size_of; ⟨fd, ["task", "chosen"], fn_zero F sc_size_of, sgs_size_of T F, F.kp⟩,
    let ⟨fd, F⟩ := T.d_asked_of; ⟨fd, ["task", "chosen", "start"], fn_zero F sc_asked_of, sgs_asked_of T F, F.kp⟩,
    let ⟨fd, F⟩ := T.d_total; ⟨fd, ["task", "chosen"], fn_zero F sc_total, sgs_total T F, F.kp⟩,
    let ⟨fd, F⟩ := T.d_Road_init; ⟨fd, ["self", "task", "taken", "out"], fn_zero F sc_Road_init, sgs_Road_init T F, F.kp⟩,
    let ⟨fd, F⟩ := T.d_Road_on; ⟨fd, ["self", "design", "is_in"], fn_zero F sc_Road_on, sgs_Road_on T F, F.kp⟩,
    let ⟨fd, F⟩ := T.d_Road_least_total; ⟨fd, ["self"], fn_zero F sc_Road_least_total, sgs_Road_least_total T F, F.kp⟩,
    let ⟨fd, F⟩ := T.d_Road_is_closed; ⟨fd, ["self", "room", "bound"], fn_zero F sc_Road_is_closed, sgs_Road_is_closed T F, F.kp⟩,
    let ⟨fd, F⟩ := T.d_best_behind; ⟨fd, ["road", "order", "room", "best"], fn_zero F sc_best_behind, sgs_best_behind T F, F.kp⟩,
    let ⟨fd, F⟩ := T.d_paper_of; ⟨fd, ["road", "order", "room", "bound"], fn_zero F sc_paper_of, sgs_paper_of T F, F.kp⟩,
    let ⟨fd, F⟩ := T.d_best; ⟨fd, ["task", "room"], fn_zero F sc_best, sgs_best T F, F.kp⟩,
    let ⟨fd, F⟩ := T.d_roads_of; ⟨fd, ["task", "paper"], fn_zero F sc_roads_of, sgs_roads_of T F, F.kp⟩,
    let ⟨fd, F⟩ := T.d_look_form; ⟨fd, ["task", "thing"], fn_zero F sc_look_form, sgs_look_form T F, F.kp⟩,
    let ⟨fd, F⟩ := T.d_look_best; ⟨fd, ["task", "thing", "room"], fn_zero F sc_look_best, sgs_look_best T F, F.kp⟩,
    let ⟨fd, F⟩ := T.d_l_bag; ⟨fd, ["_law_script", "_law_at"], fn_zero F sc_l_bag, sgs_l_bag T F, F.kp⟩,
    let ⟨fd, F⟩ := T.d_l_take; ⟨fd, ["_law_bag_here", "_law_many"], fn_zero F sc_l_take, sgs_l_take T F, F.kp⟩,
    let ⟨fd, F⟩ := T.d_l_offers; ⟨fd, ["_law_bag_here", "_law_many", "_law_great"], fn_zero F sc_l_offers, sgs_l_offers T F, F.kp⟩,
    let ⟨fd, F⟩ := T.d_l_task; ⟨fd, ["_law_bag_here", "_law_other", "_law_many"], fn_zero F sc_l_task, sgs_l_task T F, F.kp⟩,
    let ⟨fd, F⟩ := T.d_l_room; ⟨fd, ["_law_bag_here", "_law_task_here"], fn_zero F sc_l_room, sgs_l_room T F, F.kp⟩,
    let ⟨fd, F⟩ := T.d_l_least; ⟨fd, ["_law_given", "_law_wide"], fn_zero F sc_l_least, sgs_l_least T F, F.kp⟩,
    let ⟨fd, F⟩ := T.d_l_right; ⟨fd, ["_law_bag_here", "_law_given", "_law_wide"], fn_zero F sc_l_right, sgs_l_right T F, F.kp⟩,
    let ⟨fd, F⟩ := T.d_law; ⟨fd, ["_law_script"], fn_zero F sc_law, sgs_law T F, F.kp⟩⟩
  | k + 1 => ⟨let ⟨fd, F⟩ := T.d_is_whole; ⟨fd, ["thing", "low", "high"], fn_step (j := 2 * k + 3) (k := k) rfl F sc_is_whole fun _ _ _ _ _ _ hr => b_is_whole T (all_ok T TB k) hr, sgs_is_whole T F, F.kp⟩,
    let ⟨fd, F⟩ := T.d_is_number; ⟨fd, ["thing"], fn_step (j := 2 * k + 3) (k := k) rfl F sc_is_number fun _ _ _ _ _ _ hr => b_is_number T (all_ok T TB k) hr, sgs_is_number T F, F.kp⟩,
    let ⟨fd, F⟩ := T.d_are_rising; ⟨fd, ["thing", "many"], fn_step (j := 2 * k + 3) (k := k) rfl F sc_are_rising fun _ _ _ _ _ _ hr => b_are_rising T (all_ok T TB k) hr, sgs_are_rising T F, F.kp⟩,
    let ⟨fd, F⟩ := T.d_least; ⟨fd, ["offers", "chosen"], fn_step (j := 2 * k + 3) (k := k) rfl F sc_least fun _ _ _ _ _ _ hr => b_least T (all_ok T TB k) hr, sgs_least T F, F.kp⟩,
    let ⟨fd, F⟩ := T.d_size_of; ⟨fd, ["task", "chosen"], fn_step (j := 2 * k + 3) (k := k) rfl F sc_size_of fun _ _ _ _ _ _ hr => b_size_of T (all_ok T TB k) hr, sgs_size_of T F, F.kp⟩,
    let ⟨fd, F⟩ := T.d_asked_of; ⟨fd, ["task", "chosen", "start"], fn_step (j := 2 * k + 3) (k := k) rfl F sc_asked_of fun _ _ _ _ _ _ hr => b_asked_of T (all_ok T TB k) hr, sgs_asked_of T F, F.kp⟩,
    let ⟨fd, F⟩ := T.d_total; ⟨fd, ["task", "chosen"], fn_step (j := 2 * k + 3) (k := k) rfl F sc_total fun _ _ _ _ _ _ hr => b_total T (all_ok T TB k) hr, sgs_total T F, F.kp⟩,
    let ⟨fd, F⟩ := T.d_Road_init; ⟨fd, ["self", "task", "taken", "out"], fn_step (j := 2 * k + 3) (k := k) rfl F sc_Road_init fun _ _ _ _ _ _ hr => b_Road_init T (all_ok T TB k) hr, sgs_Road_init T F, F.kp⟩,
    let ⟨fd, F⟩ := T.d_Road_on; ⟨fd, ["self", "design", "is_in"], fn_step (j := 2 * k + 3) (k := k) rfl F sc_Road_on fun _ _ _ _ _ _ hr => b_Road_on T (all_ok T TB k) hr, sgs_Road_on T F, F.kp⟩,
    let ⟨fd, F⟩ := T.d_Road_least_total; ⟨fd, ["self"], fn_step (j := 2 * k + 3) (k := k) rfl F sc_Road_least_total fun _ _ _ _ _ _ hr => b_Road_least_total T (all_ok T TB k) hr, sgs_Road_least_total T F, F.kp⟩,
    let ⟨fd, F⟩ := T.d_Road_is_closed; ⟨fd, ["self", "room", "bound"], fn_step (j := 2 * k + 3) (k := k) rfl F sc_Road_is_closed fun _ _ _ _ _ _ hr => b_Road_is_closed T (all_ok T TB k) hr, sgs_Road_is_closed T F, F.kp⟩,
    let ⟨fd, F⟩ := T.d_best_behind; ⟨fd, ["road", "order", "room", "best"], fn_step (j := 2 * k + 3) (k := k) rfl F sc_best_behind fun _ _ _ _ _ _ hr => b_best_behind T (all_ok T TB k) hr, sgs_best_behind T F, F.kp⟩,
    let ⟨fd, F⟩ := T.d_paper_of; ⟨fd, ["road", "order", "room", "bound"], fn_step (j := 2 * k + 3) (k := k) rfl F sc_paper_of fun _ _ _ _ _ _ hr => b_paper_of T (all_ok T TB k) hr, sgs_paper_of T F, F.kp⟩,
    let ⟨fd, F⟩ := T.d_best; ⟨fd, ["task", "room"], fn_stepC (p := ("best", none)) rfl (j := 2 * k + 3) (k := k) rfl F sc_best fun _ _ _ _ _ hr => b_best T (all_ok T TB k) (TB _ (.head _)) hr, sgs_best T F, F.kp⟩,
    let ⟨fd, F⟩ := T.d_roads_of; ⟨fd, ["task", "paper"], fn_step (j := 2 * k + 3) (k := k) rfl F sc_roads_of fun _ _ _ _ _ _ hr => b_roads_of T (all_ok T TB k) hr, sgs_roads_of T F, F.kp⟩,
    let ⟨fd, F⟩ := T.d_look_form; ⟨fd, ["task", "thing"], fn_step (j := 2 * k + 3) (k := k) rfl F sc_look_form fun _ _ _ _ _ _ hr => b_look_form T (all_ok T TB k) hr, sgs_look_form T F, F.kp⟩,
    let ⟨fd, F⟩ := T.d_look_best; ⟨fd, ["task", "thing", "room"], fn_step (j := 2 * k + 3) (k := k) rfl F sc_look_best fun _ _ _ _ _ _ hr => b_look_best T (all_ok T TB k) hr, sgs_look_best T F, F.kp⟩,
    let ⟨fd, F⟩ := T.d_l_bag; ⟨fd, ["_law_script", "_law_at"], fn_step (j := 2 * k + 3) (k := k) rfl F sc_l_bag fun _ _ _ _ _ _ hr => b_l_bag T (all_ok T TB k) hr, sgs_l_bag T F, F.kp⟩,
    let ⟨fd, F⟩ := T.d_l_take; ⟨fd, ["_law_bag_here", "_law_many"], fn_step (j := 2 * k + 3) (k := k) rfl F sc_l_take fun _ _ _ _ _ _ hr => b_l_take T (all_ok T TB k) hr, sgs_l_take T F, F.kp⟩,
    let ⟨fd, F⟩ := T.d_l_offers; ⟨fd, ["_law_bag_here", "_law_many", "_law_great"], fn_step (j := 2 * k + 3) (k := k) rfl F sc_l_offers fun _ _ _ _ _ _ hr => b_l_offers T (all_ok T TB k) hr, sgs_l_offers T F, F.kp⟩,
    let ⟨fd, F⟩ := T.d_l_task; ⟨fd, ["_law_bag_here", "_law_other", "_law_many"], fn_step (j := 2 * k + 3) (k := k) rfl F sc_l_task fun _ _ _ _ _ _ hr => b_l_task T (all_ok T TB k) hr, sgs_l_task T F, F.kp⟩,
    let ⟨fd, F⟩ := T.d_l_room; ⟨fd, ["_law_bag_here", "_law_task_here"], fn_step (j := 2 * k + 3) (k := k) rfl F sc_l_room fun _ _ _ _ _ _ hr => b_l_room T (all_ok T TB k) hr, sgs_l_room T F, F.kp⟩,
    let ⟨fd, F⟩ := T.d_l_least; ⟨fd, ["_law_given", "_law_wide"], fn_step (j := 2 * k + 3) (k := k) rfl F sc_l_least fun _ _ _ _ _ _ hr => b_l_least T (all_ok T TB k) hr, sgs_l_least T F, F.kp⟩,
    let ⟨fd, F⟩ := T.d_l_right; ⟨fd, ["_law_bag_here", "_law_given", "_law_wide"], fn_step (j := 2 * k + 3) (k := k) rfl F sc_l_right fun _ _ _ _ _ _ hr => b_l_right T (all_ok T TB k) hr, sgs_l_right T F, F.kp⟩,
    let ⟨fd, F⟩ := T.d_law; ⟨fd, ["_law_script"], fn_step (j := 2 * k + 3) (k := k) rfl F sc_law fun _ _ _ _ _ _ hr => b_law T (all_ok T TB k) hr, sgs_law T F, F.kp⟩⟩
end
end Wk
namespace Wk
open PySem Iv
local macro_rules | `(tactic| and_intros) => `(tactic| repeat (first
  | with_reducible refine stp1 ?_
  | ((with_reducible apply r_var); (· exact rfl))
  | with_reducible refine (ru_sIte).mpr ?_
  | ((with_reducible apply r_callR); (· exact rfl))
  | ((with_reducible apply r_itet); (· first | exact rfl | assumption))
  | ((with_reducible apply r_itef); (· first | exact rfl | assumption))
  | ((with_reducible apply r_sz); (· exact rfl))
  | ((with_reducible apply r_at); (· assumption); (· exact rfl))
  | ((with_reducible apply r_atI); (· exact rfl))
  | ((with_reducible apply r_meth); (· assumption); (· exact rfl))
  | ((with_reducible apply r_methI); (· exact rfl))
  | ((with_reducible apply r_tupA); (· exact rfl); (· exact rfl))
  | ((with_reducible apply r_tupsA); (· exact rfl); (· rfl); (· exact rfl); (· exact rfl))
  | ((with_reducible apply r_aug); (· exact rfl))
  | ((with_reducible apply r_modI); (· first | assumption | omega))
  | ((with_reducible apply r_mulI); (· first | exact .inr (by decide) | exact .inl (by decide) | (unfold mulOk; omega)))
  | ((with_reducible apply r_divI); (· first | assumption | omega))
  | ((with_reducible apply r_addT); (· exact rfl))
  | ((with_reducible apply r_walkB); (· assumption))
  | ((with_reducible apply r_enumB); (· assumption))
  | ((with_reducible apply r_oR); (· exact rfl))
  | ((with_reducible apply r_enumR); (· exact rfl))
  | ((with_reducible apply r_enumSB); (· assumption); (· (unfold smallI; omega)))
  | ((with_reducible apply r_enumSR); (· exact rfl); (· (unfold smallI; omega)))
  | ((with_reducible apply r_rng1R); (· (unfold smallI; omega)))
  | ((with_reducible apply r_rng2R); (· (unfold smallI; omega)))
  | ((with_reducible apply r_isitR); (· exact rfl); (· exact rfl))
  | ((with_reducible apply r_isi); (· exact rfl))
  | ((with_reducible apply r_lenB); (· assumption))
  | ((with_reducible apply r_itemsB); (· assumption); (· first | assumption | rfl))
  | ((with_reducible apply r_keysB); (· assumption))
  | ((with_reducible apply r_isxY); (· assumption); (· decide))
  | ((with_reducible apply r_isxN); (· assumption); (· decide); (· decide))
  | ((with_reducible apply r_xfd); (· assumption))
  | ((with_reducible apply end_ret); (· assumption))
  | ((with_reducible apply end_next); (· assumption))
  | ((with_reducible apply r_dlen); (· assumption))
  | ((with_reducible apply r_klook); (· exact rfl))
  | ((with_reducible apply r_kget); (· exact rfl))
  | ((with_reducible apply r_tupw); (· exact rfl))
  | ((with_reducible apply r_ktup); (· exact rfl))
  | ((with_reducible apply r_slcB); (· assumption))
  | ((with_reducible apply r_listB); (· assumption))
  | ((with_reducible apply And.intro); (· first | exact bm_okA ‹_› | exact bm_okI ‹_› | exact bm_okR ‹_› | exact bm_okP ‹_› | exact bm_okC ‹_› | exact dct_some ‹_› | exact drd_some ‹_› | exact (show isNtp (.ntp _) = true from rfl) | exact (show bmOk .join (.str _) _ = true from rfl) | exact (show bmOk .split (.str _) _ = true from rfl) | exact (show bmOk .part (.str _) _ = true from rfl)))))
local macro_rules | `(tactic| subst_eqs) => `(tactic| repeat (first
  | with_reducible refine stp1 ?_
  | ((with_reducible apply r_var); (· exact rfl))
  | ((with_reducible apply r_callR); (· exact rfl))
  | ((with_reducible apply r_itet); (· first | exact rfl | assumption))
  | ((with_reducible apply r_itef); (· first | exact rfl | assumption))
  | ((with_reducible apply r_sz); (· exact rfl))
  | ((with_reducible apply r_at); (· assumption); (· exact rfl))
  | ((with_reducible apply r_atI); (· exact rfl))
  | ((with_reducible apply r_meth); (· assumption); (· exact rfl))
  | ((with_reducible apply r_methI); (· exact rfl))
  | ((with_reducible apply r_tupA); (· exact rfl); (· exact rfl))
  | ((with_reducible apply r_tupsA); (· exact rfl); (· rfl); (· exact rfl); (· exact rfl))
  | ((with_reducible apply r_aug); (· exact rfl))
  | ((with_reducible apply r_modI); (· first | assumption | omega))
  | ((with_reducible apply r_mulI); (· first | exact .inr (by decide) | exact .inl (by decide) | (unfold mulOk; omega)))
  | ((with_reducible apply r_divI); (· first | assumption | omega))
  | ((with_reducible apply r_addT); (· exact rfl))
  | ((with_reducible apply r_walkB); (· assumption))
  | ((with_reducible apply r_enumB); (· assumption))
  | ((with_reducible apply r_oR); (· exact rfl))
  | ((with_reducible apply r_enumR); (· exact rfl))
  | ((with_reducible apply r_enumSB); (· assumption); (· (unfold smallI; omega)))
  | ((with_reducible apply r_enumSR); (· exact rfl); (· (unfold smallI; omega)))
  | ((with_reducible apply r_rng1R); (· (unfold smallI; omega)))
  | ((with_reducible apply r_rng2R); (· (unfold smallI; omega)))
  | ((with_reducible apply r_isitR); (· exact rfl); (· exact rfl))
  | ((with_reducible apply r_isi); (· exact rfl))
  | ((with_reducible apply r_lenB); (· assumption))
  | ((with_reducible apply r_itemsB); (· assumption); (· first | assumption | rfl))
  | ((with_reducible apply r_keysB); (· assumption))
  | ((with_reducible apply r_isxY); (· assumption); (· decide))
  | ((with_reducible apply r_isxN); (· assumption); (· decide); (· decide))
  | ((with_reducible apply r_xfd); (· assumption))
  | ((with_reducible apply end_ret); (· assumption))
  | ((with_reducible apply end_next); (· assumption))
  | ((with_reducible apply r_dlen); (· assumption))
  | ((with_reducible apply r_klook); (· exact rfl))
  | ((with_reducible apply r_kget); (· exact rfl))
  | ((with_reducible apply r_tupw); (· exact rfl))
  | ((with_reducible apply r_ktup); (· exact rfl))
  | ((with_reducible apply r_slcB); (· assumption))
  | ((with_reducible apply r_listB); (· assumption))
  | ((with_reducible apply And.intro); (· first | exact bm_okA ‹_› | exact bm_okI ‹_› | exact bm_okR ‹_› | exact bm_okP ‹_› | exact bm_okC ‹_› | exact dct_some ‹_› | exact drd_some ‹_› | exact (show isNtp (.ntp _) = true from rfl) | exact (show bmOk .join (.str _) _ = true from rfl) | exact (show bmOk .split (.str _) _ = true from rfl) | exact (show bmOk .part (.str _) _ = true from rfl)))))

section
/-! ### what the programs tell -/
def BagAt (S : Sto) (b : Nat) : Prop := ∃ g r : Int, cellAt S b = some (.lst [.int g, .int r]) ∧ 0 ≤ g ∧ 0 ≤ r ∧ r < 2147483647
theorem BagAt.keep {S S' : Sto} {b : Nat} {bs : List Nat} (h : BagAt S b) (k : Keep bs S S') (n : b ∉ bs) : BagAt S' b := by
  obtain ⟨g, r, e, q⟩ := h
  exact ⟨g, r, (k.eq b (cellAt_lt e) n).trans e, q⟩
theorem BagAt.lt {S : Sto} {b : Nat} (h : BagAt S b) : b < S.length := by
  obtain ⟨g, r, e, q⟩ := h
  exact cellAt_lt e
theorem take_ok {k b : Nat} {n : Int} {S : Sto} (hb : BagAt S b) (n0 : 0 < n) (n1 : n < 1073741824) : ∃ (d : Int) (S' : Sto), callN Tb (k + 1) 18 [.ref b, .int n] S = .ok (.int d) S' ∧ 0 ≤ d ∧ d < n ∧ Keep [b] S S' ∧ BagAt S' b := by
  obtain ⟨g, r, e, g0, r0, r1⟩ := hb
  have hl := cellAt_lt e
  rw [callN_at (d := ⟨2, 3, p_l_take⟩) rfl rfl]
  unfold Iv.run
  by_cases hg : 0 < g
  · simp [exs, ex, ev, asg, tru, truR, cmpR, idxR, seqOf, e, atD, binR, sidxR, hg, n0, n1, ck]
    exact ⟨_, _, ⟨rfl, rfl⟩, Int.emod_nonneg _ (by omega), Int.emod_lt_of_pos _ n0, Keep.set, _, _, cellAt_set1 hl, Int.ediv_nonneg g0 (by omega), r0, r1⟩
  · have m1 : mulOk r 48271 := .inr ⟨by omega, by omega⟩
    have m2 : ((r * 48271 + 11) % 2147483647 / 8).natAbs < 18446744073709551616 := by omega
    simp [exs, ex, ev, asg, tru, truR, cmpR, idxR, seqOf, e, atD, binR, addR, sidxR, hg, n0, n1, ck, m1, m2, cellAt_set1 hl]
    exact ⟨_, _, ⟨rfl, rfl⟩, Int.emod_nonneg _ (by omega), Int.emod_lt_of_pos _ n0, Keep.set, _, _, cellAt_set1 hl, g0, by omega, by omega⟩
theorem bag_ok {k : Nat} {ns : List Int} {i : Int} {S : Sto} (i0 : 0 ≤ i) (i1 : i < 1000) : ∃ (c : Cell), callN Tb (k + 1) 17 [.scr (ns.map .int), .int i] S = .ok (.ref S.length) (S ++ [some c]) ∧ BagAt (S ++ [some c]) S.length := by
  rw [callN_at (d := ⟨2, 5, p_l_bag⟩) rfl rfl]
  obtain ⟨cell, h2⟩ : ∃ cell : Int, ex (callN Tb k) (p_l_bag.getD 1 .pass) [some (.scr (ns.map .int)), some (.int i), some (.int 0), none, none] S = .ok (.next [some (.scr (ns.map .int)), some (.int i), some (.int cell), none, none]) S := by
    by_cases h : 0 < ns.length
    · have e1 : 0 ≤ i % (ns.length : Int) := Int.emod_nonneg _ (by omega)
      have e2 : i % (ns.length : Int) < ns.length := Int.emod_lt_of_pos _ (by omega)
      have e3 : (i % (ns.length : Int)).toNat < ns.length := by omega
      simp [exs, ex, ev, evs, evp, evIt, evIfs, asg, asgs, tru, truR, cmpR, idxR, seqOf, atD, binR, addR, sidxR, biR, biLen, lenR, biAbs, biMin2, biMax2, biInt, biTuple, biList, ck, mkL, walkOf, walkL, callR, pick, h, e1, List.getElem?_eq_getElem e3]
    · simp [exs, ex, ev, evs, evp, evIt, evIfs, asg, asgs, tru, truR, cmpR, idxR, seqOf, atD, binR, addR, sidxR, biR, biLen, lenR, biAbs, biMin2, biMax2, biInt, biTuple, biList, ck, mkL, walkOf, walkL, callR, pick, h]
  obtain ⟨great, hg, h4⟩ : ∃ great : Int, 0 ≤ great ∧ ex (callN Tb k) (p_l_bag.getD 3 .pass) [some (.scr (ns.map .int)), some (.int i), some (.int cell), some (.int 0), none] S = .ok (.next [some (.scr (ns.map .int)), some (.int i), some (.int cell), some (.int great), none]) S := by
    by_cases h : 1000000000000000000 ≤ (if cell < 0 then -cell else cell)
    · by_cases h' : i < ns.length
      · refine ⟨if cell < 0 then -cell else cell, by split <;> omega, ?_⟩
        simp [exs, ex, ev, evs, evp, evIt, evIfs, asg, asgs, tru, truR, cmpR, idxR, seqOf, atD, binR, addR, sidxR, biR, biLen, lenR, biAbs, biMin2, biMax2, biInt, biTuple, biList, ck, mkL, walkOf, walkL, callR, pick, h, h']
      · refine ⟨0, by omega, ?_⟩
        simp [exs, ex, ev, evs, evp, evIt, evIfs, asg, asgs, tru, truR, cmpR, idxR, seqOf, atD, binR, addR, sidxR, biR, biLen, lenR, biAbs, biMin2, biMax2, biInt, biTuple, biList, ck, mkL, walkOf, walkL, callR, pick, h, h']
    · refine ⟨0, by omega, ?_⟩
      simp [exs, ex, ev, evs, evp, evIt, evIfs, asg, asgs, tru, truR, cmpR, idxR, seqOf, atD, binR, addR, sidxR, biR, biLen, lenR, biAbs, biMin2, biMax2, biInt, biTuple, biList, ck, mkL, walkOf, walkL, callR, pick, h]
  have c0 : 0 ≤ cell % 2147483647 := Int.emod_nonneg _ (by omega)
  have c1 : cell % 2147483647 < 2147483647 := Int.emod_lt_of_pos _ (by omega)
  have m1 : mulOk 104729 i := .inl ⟨by omega, by omega⟩
  have m2 : (cell % 2147483647 + 104729 * i + 7).natAbs < 18446744073709551616 := by omega
  have i8 : 0 ≤ i % 8 ∧ i % 8 < 8 := ⟨Int.emod_nonneg _ (by omega), Int.emod_lt_of_pos _ (by omega)⟩
  obtain ⟨p, hp, p0, p1⟩ : ∃ p : Int, ([2147483629, 2147483587, 2147483579, 2147483563, 2147483549, 2147483543, 2147483497, 2147483489] : List Int)[(i % 8).toNat]? = some p ∧ 0 < p ∧ p < 2147483647 := by
    have : (i % 8).toNat < 8 := by omega
    generalize (i % 8).toNat = j at this
    match j, this with
    | 0, _ => exact ⟨_, rfl, by omega, by omega⟩
    | 1, _ => exact ⟨_, rfl, by omega, by omega⟩
    | 2, _ => exact ⟨_, rfl, by omega, by omega⟩
    | 3, _ => exact ⟨_, rfl, by omega, by omega⟩
    | 4, _ => exact ⟨_, rfl, by omega, by omega⟩
    | 5, _ => exact ⟨_, rfl, by omega, by omega⟩
    | 6, _ => exact ⟨_, rfl, by omega, by omega⟩
    | 7, _ => exact ⟨_, rfl, by omega, by omega⟩
    | j + 8, h => omega
  have hp' : ([.int 2147483629, .int 2147483587, .int 2147483579, .int 2147483563, .int 2147483549, .int 2147483543, .int 2147483497, .int 2147483489] : List D)[(i % 8).toNat]? = some (.int p) := by
    have := congrArg (Option.map D.int) hp
    rw [← List.getElem?_map] at this
    exact this
  have hq : ∀ h, ([.int 2147483629, .int 2147483587, .int 2147483579, .int 2147483563, .int 2147483549, .int 2147483543, .int 2147483497, .int 2147483489] : List D)[(i % 8).toNat]'h = .int p := fun h => (List.getElem?_eq_some_iff.mp hp').2
  have sz : (8 : Nat) ≤ sizeLine ∧ (2 : Nat) ≤ sizeLine := by decide
  refine ⟨.lst [.int great, .int ((cell % 2147483647 + 104729 * i + 7) ^ 5 % p)], run_ret ?_, great, _, cellAt_push, hg, Int.emod_nonneg _ (by omega), Int.lt_trans (Int.emod_lt_of_pos _ p0) p1⟩
  refine (exs_next (ρ' := [some (.scr (ns.map .int)), some (.int i), some (.int 0), none, none]) (S' := S) (by simp [exs, ex, ev, evs, evp, evIt, evIfs, asg, asgs, tru, truR, cmpR, idxR, seqOf, atD, binR, addR, sidxR, biR, biLen, lenR, biAbs, biMin2, biMax2, biInt, biTuple, biList, ck, mkL, walkOf, walkL, callR, pick])).trans ?_
  refine (exs_next h2).trans ?_
  refine (exs_next (ρ' := [some (.scr (ns.map .int)), some (.int i), some (.int cell), some (.int 0), none]) (S' := S) (by simp [exs, ex, ev, evs, evp, evIt, evIfs, asg, asgs, tru, truR, cmpR, idxR, seqOf, atD, binR, addR, sidxR, biR, biLen, lenR, biAbs, biMin2, biMax2, biInt, biTuple, biList, ck, mkL, walkOf, walkL, callR, pick])).trans ?_
  refine (exs_next h4).trans ?_
  simp [exs, ex, ev, evs, evp, evIt, evIfs, asg, asgs, tru, truR, cmpR, idxR, seqOf, atD, binR, addR, sidxR, biR, biLen, lenR, biAbs, biMin2, biMax2, biInt, biTuple, biList, ck, mkL, walkOf, walkL, callR, pick, sz, m1, m2, i8, p0, hp', hq]
/-! ### offers, items, tasks -/
abbrev Offer := Int × List Int
def enO (o : Offer) : D := .tup [.int o.1, .tup (o.2.map .int)]
abbrev Item := Int × List Offer
def enI (x : Item) : D := .tup [.int x.1, .lst (x.2.map enO)]
def met (chosen : List Int) (o : Offer) : Bool := o.2.all fun n => chosen.contains n
def leastOf (chosen : List Int) (os : List Offer) : Option Int := minI ((os.filter (met chosen)).map (·.1))
/-! the subject: least, asked_of, total -/
theorem least_ok {k : Nat} {os : List Offer} {ch : List Int} {C : D} {S : Sto} {m : Int} (hC : ∀ (x : Int) (S : Sto), cmpR .isIn (.int x) C S = .ok (.bl (ch.contains x)) S) (hm : leastOf ch os = some m) (lo : os.length ≤ 1000) (ln : ∀ o ∈ os, o.2.length ≤ 1000) : callN Tb (k + 1) 3 [.lst (os.map enO), C] S = .ok (.int m) S := by
  rw [callN_at (d := ⟨2, 5, p_least⟩) rfl rfl]
  have L : (1000 : Nat) ≤ sizeLine := by decide
  refine run_ret (exs_ret (ex_ret ((ev_bi1 (ev_lc (src := .fix) (items := os.map enO) (ys := ((os.filter (met ch)).map fun o => .int o.1)) (S1 := S) (S2 := S) (by simp [exs, ex, ev, evs, evp, evIt, evIfs, asg, asgs, tru, truR, cmpR, idxR, seqOf, atD, binR, addR, sidxR, biR, biLen, lenR, biAbs, biMin2, biMax2, biInt, biTuple, biList, ck, mkL, walkOf, walkL, callR, pick]) ?_ ?_)).trans (bi_minL hm))))
  · refine lcLoop_filter fun o ho => ?_
    obtain ⟨t, ns⟩ := o
    have h1 : ev (callN Tb k) (.lc false [4] (.var 4) (.e (.var 3)) [] (.cmp .isIn (.var 4) (.var 1))) [some (.lst (os.map enO)), some (C), some (.int t), some (.tup (ns.map .int)), none] S = .ok (.lst (ns.map fun x => .bl (ch.contains x))) S := by
      refine (ev_lc (src := .fix) (items := ns.map .int) (ys := ns.map fun x => .bl (ch.contains x)) (S1 := S) (S2 := S) (by simp [exs, ex, ev, evs, evp, evIt, evIfs, asg, asgs, tru, truR, cmpR, idxR, seqOf, atD, binR, addR, sidxR, biR, biLen, lenR, biAbs, biMin2, biMax2, biInt, biTuple, biList, ck, mkL, walkOf, walkL, callR, pick]) (lcLoop_map fun x hx => ?_) ?_).trans rfl
      · unfold lcStep
        simp [asg, evIfs, ev, wipeE, hC]
      · rw [List.length_map]
        exact Nat.le_trans (ln _ ho) L
    have h2 := (ev_bi1 (b := .all) h1).trans bi_all
    unfold lcStep
    simp [asg, enO, seqOf, asgs, wipeE, ck, evIfs, h2, tru, truR, met]
    by_cases h : ∀ x, x ∈ ns → x ∈ ch
    · rw [if_pos h, if_pos h]
      simp [ev]
    · rw [if_neg h, if_neg h]
      rfl
  · rw [List.length_map]
    exact Nat.le_trans (Nat.le_trans (List.length_filter_le ..) lo) L
structure OkI (ch : List Int) (x : Item) : Prop where
  w0 : 0 ≤ x.1
  w1 : x.1 ≤ 1000
  lo : x.2.length ≤ 1000
  ln : ∀ o ∈ x.2, o.2.length ≤ 1000
  has : (leastOf ch x.2).isSome = true
def costOf (ch : List Int) (x : Item) : Int := x.1 * (leastOf ch x.2).getD 0
theorem OkI.at {ch : List Int} {x : Item} (h : OkI ch x) : leastOf ch x.2 = some ((leastOf ch x.2).getD 0) := by
  have := h.has
  cases q : leastOf ch x.2 with
  | none => rw [q] at this; cases this
  | some m => rfl
theorem OkI.mul {ch : List Int} {x : Item} (h : OkI ch x) (m : Int) : mulOk x.1 m := .inl ⟨by have := h.w0; omega, by have := h.w1; omega⟩
theorem asked_ok {k : Nat} {its : List Item} {ch : List Int} {C a b : D} {s : Int} {S : Sto} (hC : ∀ (x : Int) (S : Sto), cmpR .isIn (.int x) C S = .ok (.bl (ch.contains x)) S) (lo : its.length ≤ 1000) (hi : ∀ x ∈ its, OkI ch x) :
    callN Tb (k + 2) 5 [.tup [.lst (its.map enI), a, b], C, .int s] S = .ok (.int (s + (its.map (costOf ch)).sum)) S := by
  rw [callN_at (d := ⟨3, 5, p_asked_of⟩) rfl rfl]
  have L : (1000 : Nat) ≤ sizeLine := by decide
  refine run_ret (exs_ret (ex_ret ((ev_bi2 (x := .lst (its.map fun x => .int (costOf ch x))) (y := .int s) (S1 := S) (S2 := S) ?_ (by simp [exs, ex, ev, evs, evp, evIt, evIfs, asg, asgs, tru, truR, cmpR, idxR, seqOf, atD, binR, addR, sidxR, biR, biLen, lenR, biAbs, biMin2, biMax2, biInt, biTuple, biList, ck, mkL, walkOf, walkL, callR, pick])).trans bi_sumS)))
  refine (ev_lc (src := .fix) (items := its.map enI) (ys := its.map fun x => .int (costOf ch x)) (S1 := S) (S2 := S) (by simp [exs, ex, ev, evs, evp, evIt, evIfs, asg, asgs, tru, truR, cmpR, idxR, seqOf, atD, binR, addR, sidxR, biR, biLen, lenR, biAbs, biMin2, biMax2, biInt, biTuple, biList, ck, mkL, walkOf, walkL, callR, pick]) (lcLoop_map fun x hx => ?_) (by rw [List.length_map]; exact Nat.le_trans lo L)).trans rfl
  obtain ⟨w, os⟩ := x
  have q := hi _ hx
  have h1 := least_ok (k := k) (S := S) hC q.at q.lo q.ln
  have h2 := q.mul ((leastOf ch os).getD 0)
  unfold lcStep
  simp [asg, enI, seqOf, asgs, wipeE, ck, evIfs, ev, evs, callR, pick, h1, binR, h2, costOf]
def keepsOf (keeps : List Int) (ch : List Int) : Int := (ch.map fun d => keeps.getD d.toNat 0).sum
theorem keep_at {keeps : List Int} {d : Int} {S : Sto} (h0 : 0 ≤ d) (h1 : d.toNat < keeps.length) : idxR (.lst (keeps.map .int)) (.int d) S = .ok (.int (keeps.getD d.toNat 0)) S := by
  have e : ((keeps.map D.int)[d.toNat]?) = some (.int (keeps.getD d.toNat 0)) := by
    rw [List.getElem?_map, List.getElem?_eq_getElem h1, List.getD_eq_getElem?_getD, List.getElem?_eq_getElem h1]
    rfl
  show (match (if 0 ≤ d then (keeps.map D.int)[d.toNat]? else _) with | some d => R.ok d S | none => .err) = _
  rw [if_pos h0, e]
theorem total_ok {k : Nat} {its : List Item} {keeps ch : List Int} {b : D} {S : Sto} (lo : its.length ≤ 1000) (hi : ∀ x ∈ its, OkI ch x) (lc : ch.length ≤ 1000) (hc : ∀ d ∈ ch, 0 ≤ d ∧ d.toNat < keeps.length) :
    callN Tb (k + 3) 6 [.tup [.lst (its.map enI), .lst (keeps.map .int), b], .tup (ch.map .int)] S = .ok (.int (keepsOf keeps ch + (its.map (costOf ch)).sum)) S := by
  rw [callN_at (d := ⟨2, 6, p_total⟩) rfl rfl]
  have L : (1000 : Nat) ≤ sizeLine := by decide
  refine run_ret ((exs_next (ρ' := [some (.tup [.lst (its.map enI), .lst (keeps.map .int), b]), some (.tup (ch.map .int)), some (.lst (its.map enI)), some (.lst (keeps.map .int)), some b, none]) (S' := S) (by simp [exs, ex, ev, evs, evp, evIt, evIfs, asg, asgs, tru, truR, cmpR, idxR, seqOf, atD, binR, addR, sidxR, biR, biLen, lenR, biAbs, biMin2, biMax2, biInt, biTuple, biList, ck, mkL, walkOf, walkL, callR, pick])).trans ?_)
  refine exs_ret (ex_ret ?_)
  have h1 : ev (callN Tb (k + 2)) (.bi (.sumL) [(.lc false [5] (.var 5) (.e (.var 1)) [] (.idx (.var 3) (.var 5)))]) [some (.tup [.lst (its.map enI), .lst (keeps.map .int), b]), some (.tup (ch.map .int)), some (.lst (its.map enI)), some (.lst (keeps.map .int)), some b, none] S = .ok (.int (keepsOf keeps ch)) S := by
    refine (ev_bi1 (x := .lst (ch.map fun d => .int (keeps.getD d.toNat 0))) (S1 := S) ?_).trans bi_sumL
    refine (ev_lc (src := .fix) (items := ch.map .int) (ys := ch.map fun d => .int (keeps.getD d.toNat 0)) (S1 := S) (S2 := S) (by simp [exs, ex, ev, evs, evp, evIt, evIfs, asg, asgs, tru, truR, cmpR, idxR, seqOf, atD, binR, addR, sidxR, biR, biLen, lenR, biAbs, biMin2, biMax2, biInt, biTuple, biList, ck, mkL, walkOf, walkL, callR, pick]) (lcLoop_map fun x hx => ?_) (by rw [List.length_map]; exact Nat.le_trans lc L)).trans rfl
    obtain ⟨h0, h1⟩ := hc x hx
    unfold lcStep
    simp [asg, wipeE, evIfs, ev, keep_at h0 h1]
  refine (ev_call1 (S1 := S) (ds := [.tup [.lst (its.map enI), .lst (keeps.map .int), b], .tup (ch.map .int), .int (keepsOf keeps ch)]) ?_ rfl).trans (asked_ok (fun _ _ => in_ints) lo hi)
  rw [evs, ev_var (d := .tup [.lst (its.map enI), .lst (keeps.map .int), b]) rfl, R.bind_ok, evs, ev_var (d := .tup (ch.map .int)) rfl, R.bind_ok, evs, h1]
  rfl
/-! the law's own sum -/
end
section
/-! ### the law's makers -/
structure GoodOs (m : Int) (os : List Offer) : Prop where
  ln : ∀ o ∈ os, o.2.length ≤ 10 ∧ ∀ n ∈ o.2, 0 ≤ n ∧ n < m
  has : ∃ o ∈ os, o.2 = []
  nn : ∀ o ∈ os, 0 ≤ o.1
theorem insert_map {α : Type} (f : α → D) (xs : List α) (i : Int) (y : α) : insertAt (xs.map f) i (f y) = (xs.take i.toNat ++ [y] ++ xs.drop i.toNat).map f := by
  unfold insertAt
  simp [List.map_take, List.map_drop]
theorem mem_insert {α : Type} {xs : List α} {n : Nat} {y z : α} : z ∈ xs.take n ++ [y] ++ xs.drop n ↔ z ∈ xs ∨ z = y := by
  rw [List.append_assoc, List.mem_append, List.mem_append, List.mem_singleton]
  constructor
  · rintro (h | h | h)
    · exact .inl (List.mem_of_mem_take h)
    · exact .inr h
    · exact .inl (List.mem_of_mem_drop h)
  · rintro (h | h)
    · rw [← List.take_append_drop n xs, List.mem_append] at h
      rcases h with h | h
      · exact .inl h
      · exact .inr (.inr h)
    · exact .inr (.inl h)
theorem pys_ints : ∀ l : List Int, D.pys (l.map .int) = l.map .int
  | [] => by simp [D.pys]
  | i :: l => by
    rw [List.map_cons, D.pys, pys_ints l]
    simp [D.py]
def unI : D → Int
  | .int i => i
  | _ => 0
theorem sort_ints {l : List Int} {S : Sto} {x : D} (hx : lstOf S x = some (l.map .int)) : ∃ l' : List Int, l'.Perm l ∧ biR (.sorted1 false) [x] S = .ok (.lst (l'.map .int)) S := by
  have hp : (sortD (l.map D.int)).Perm (l.map D.int) := List.mergeSort_perm _ _
  obtain ⟨l', e, hl⟩ : ∃ l' : List Int, sortD (l.map D.int) = l'.map D.int ∧ l'.Perm l := by
    have hm : ∀ d ∈ sortD (l.map D.int), ∃ i, d = D.int i := fun d hd => by
      obtain ⟨i, _, rfl⟩ := List.mem_map.mp (hp.mem_iff.mp hd)
      exact ⟨i, rfl⟩
    have go : ∀ ds : List D, (∀ d ∈ ds, ∃ i, d = D.int i) → ∃ l' : List Int, ds = l'.map D.int := by
      intro ds
      induction ds with
      | nil => exact fun _ => ⟨[], rfl⟩
      | cons d ds ih =>
        intro h
        obtain ⟨i, rfl⟩ := h d (List.mem_cons_self ..)
        obtain ⟨l', rfl⟩ := ih fun d hd => h d (List.mem_cons_of_mem _ hd)
        exact ⟨i :: l', rfl⟩
    obtain ⟨l', e⟩ := go _ hm
    refine ⟨l', e, ?_⟩
    rw [e] at hp
    have h := hp.map unI
    rw [List.map_map, List.map_map] at h
    have e1 : ∀ l : List Int, l.map (unI ∘ D.int) = l := fun l => (List.map_congr_left fun _ _ => rfl).trans (List.map_id l)
    rw [e1, e1] at h
    exact h
  refine ⟨l', hl, ?_⟩
  show (match lstOf S x with | some xs => ck (D.fzs xs = true ∧ D.dps xs ≤ 60 ∧ sortable (D.pys xs)) (mkL false (sortD xs) S) | none => .err) = _
  rw [hx]
  show ck (D.fzs (l.map .int) = true ∧ D.dps (l.map .int) ≤ 60 ∧ sortable (D.pys (l.map .int))) (mkL false (sortD (l.map .int)) S) = _
  rw [e]
  refine ck_of ⟨fzs_int l, by rw [dps_int]; omega, ?_, .inr ?_⟩
  · rw [pys_ints]
    intro d hd d' hd'
    obtain ⟨i, _, rfl⟩ := List.mem_map.mp hd
    obtain ⟨j, _, rfl⟩ := List.mem_map.mp hd'
    rfl
  · rw [pys_ints]
    intro d hd
    obtain ⟨i, _, rfl⟩ := List.mem_map.mp hd
    exact ⟨by simp, fun xs => by simp⟩
theorem idx_ints {c : Int} {S : Sto} (l : List Int) (h0 : 0 ≤ c) (h1 : c < l.length) : ∃ q, q ∈ l ∧ idxR (.tup (l.map .int)) (.int c) S = .ok (.int q) S := by
  have hc : c.toNat < l.length := by omega
  refine ⟨l[c.toNat], List.getElem_mem hc, ?_⟩
  have e : (l.map D.int)[c.toNat]? = some (.int l[c.toNat]) := by rw [List.getElem?_map, List.getElem?_eq_getElem hc]; rfl
  show (match (if 0 ≤ c then (l.map D.int)[c.toNat]? else _) with | some d => R.ok d S | none => .err) = _
  rw [if_pos h0, e]
section
variable {k b vb : Nat} {n : Int} {ρ : Iv.Env} {S S1 : Sto} {e : E}
theorem ev_take (hv : ρ[vb]? = some (some (.ref b))) (he : ev (callN Tb (k + 1)) e ρ S = .ok (.int n) S1) (hb : BagAt S1 b) (n0 : 0 < n) (n1 : n < 1073741824) :
    ∃ d S', ev (callN Tb (k + 1)) (.call 18 [.a 0, .a 1] [.var vb, e]) ρ S = .ok (.int d) S' ∧ 0 ≤ d ∧ d < n ∧ Keep [b] S1 S' ∧ BagAt S' b := by
  obtain ⟨d, S', h, d0, d1, kp, bg⟩ := take_ok (k := k) hb n0 n1
  refine ⟨d, S', (ev_call1 (ds := [.ref b, .int n]) (S1 := S1) ?_ rfl).trans h, d0, d1, kp, bg⟩
  rw [evs2, ev_var hv, R.bind_ok, he]
  rfl
theorem ev_int {i : Int} {F : CE} : ev F (.con (.int i)) ρ S = .ok (.int i) S := by rw [ev]
theorem ev_ixt {F : CE} {c : Int} {q : Int} (l : List Int) {es : List E} (he : evs F es ρ S = .ok (l.map .int) S) (hl : l.length ≤ 1000) (hi : ev F e ρ S = .ok (.int c) S1) (hq : idxR (.tup (l.map .int)) (.int c) S1 = .ok (.int q) S1) : ev F (.idx (.tup es) e) ρ S = .ok (.int q) S1 := by
  refine (ev_idx (x := .tup (l.map .int)) (y := .int c) (S1 := S) (S2 := S1) ?_ hi).trans hq
  rw [ev, he, R.bind_ok]
  exact ck_of (by rw [List.length_map]; exact Nat.le_trans hl (by decide))
end
theorem offers_step {k b n0 : Nat} {m gr top : Int} {S : Sto} {os : List Offer} {v5 v6 : Option D} (hb : BagAt S b) (m0 : 0 < m) (m1 : m ≤ 20) (t0 : 0 ≤ top) (t1 : top < 10000) (hn : n0 ≠ b) (hc : cellAt S n0 = some (.lst (os.map enO))) (hl : os.length ≤ 100) (good : GoodOs m os) :
    ∃ os' S' v6', exs (callN Tb (k + 1)) [(.asg (.var 6) (.lst true [(.call 18 [.a 0, .a 1] [(.var 0), (.var 1)])])),
  (.ite (.and (.cmp .gt (.var 1) (.con (.int 1))) (.cmp .eq (.call 18 [.a 0, .a 1] [(.var 0), (.con (.int 3))]) (.con (.int 0)))) [(.expr (.bm .append (.var 6) [(.bin false .mod (.bin false .add (.bin false .add (.idx (.var 6) (.con (.int 0))) (.con (.int 1))) (.call 18 [.a 0, .a 1] [(.var 0), (.bin false .sub (.var 1) (.con (.int 1)))])) (.var 1))]))] []),
  (.expr (.bm .insert (.var 4) [(.call 18 [.a 0, .a 1] [(.var 0), (.bin false .add (.bi (.len) [(.var 4)]) (.con (.int 1)))]), (.tup [(.call 18 [.a 0, .a 1] [(.var 0), (.bin false .add (.var 3) (.con (.int 2)))]), (.bi (.tuple1) [(.bi (.sorted1 false) [(.var 6)])])])]))] [some (.ref b), some (.int m), some (.int gr), some (.int top), some (.ref n0), v5, v6] S = .ok (.next [some (.ref b), some (.int m), some (.int gr), some (.int top), some (.ref n0), v5, v6']) S' ∧ Keep [b, n0] S S' ∧ BagAt S' b ∧ cellAt S' n0 = some (.lst (os'.map enO)) ∧ os'.length = os.length + 1 ∧ GoodOs m os' := by
  have sz : (1 : Nat) ≤ sizeLine ∧ (2 : Nat) ≤ sizeLine ∧ (100 : Nat) < sizeLine := by decide
  have n0l := cellAt_lt hc
  obtain ⟨d, S1, h1, d0, d1, k1, b1⟩ := ev_take (k := k) (vb := 0) (ρ := [some (.ref b), some (.int m), some (.int gr), some (.int top), some (.ref n0), v5, v6]) (e := .var 1) rfl (ev_var rfl) hb m0 (by omega)
  have c1 : cellAt S1 n0 = some (.lst (os.map enO)) := (k1.eq n0 n0l (by simp [hn])).trans hc
  have n1l := cellAt_lt c1
  refine Exists.imp (fun os' => Exists.imp fun S' => Exists.imp fun v6' => And.imp_left fun (h : _ = _) => (exs_next (ex_asg (x := .ref S1.length) (S1 := S1 ++ [some (.lst [.int d])]) (by rw [ev, evs1, h1]; simp [ck, sz, mkL]))).trans h) ?_
  have k2 : Keep [] S1 (S1 ++ [some (.lst [.int d])]) := Keep.push
  have b2 := b1.keep k2 (by simp)
  have c2 := (k2.eq n0 n1l (by simp)).trans c1
  have x2 : cellAt (S1 ++ [some (.lst [.int d])]) S1.length = some (.lst ([d].map .int)) := cellAt_push
  have bl : b < S1.length := b1.lt
  generalize hS2 : S1 ++ [some (.lst [.int d])] = S2 at k2 b2 c2 x2
  show ∃ os' S' v6', exs _ _ [some (.ref b), some (.int m), some (.int gr), some (.int top), some (.ref n0), v5, some (.ref S1.length)] S2 = _ ∧ _
  obtain ⟨ns, S3, h3, k3, b3, x3, l3, r3⟩ : ∃ (ns : List Int) (S3 : Sto), ex (callN Tb (k + 1)) (.ite (.and (.cmp .gt (.var 1) (.con (.int 1))) (.cmp .eq (.call 18 [.a 0, .a 1] [(.var 0), (.con (.int 3))]) (.con (.int 0)))) [(.expr (.bm .append (.var 6) [(.bin false .mod (.bin false .add (.bin false .add (.idx (.var 6) (.con (.int 0))) (.con (.int 1))) (.call 18 [.a 0, .a 1] [(.var 0), (.bin false .sub (.var 1) (.con (.int 1)))])) (.var 1))]))] []) [some (.ref b), some (.int m), some (.int gr), some (.int top), some (.ref n0), v5, some (.ref S1.length)] S2 = .ok (.next [some (.ref b), some (.int m), some (.int gr), some (.int top), some (.ref n0), v5, some (.ref S1.length)]) S3 ∧ Keep [b, S1.length] S2 S3 ∧ BagAt S3 b ∧ cellAt S3 S1.length = some (.lst (ns.map .int)) ∧ ns.length ≤ 2 ∧ ∀ n ∈ ns, 0 ≤ n ∧ n < m := by
    by_cases hm : 1 < m
    · obtain ⟨c, S3, h3, e0, e1, k3, b3⟩ := ev_take (k := k) (vb := 0) (ρ := [some (.ref b), some (.int m), some (.int gr), some (.int top), some (.ref n0), v5, some (.ref S1.length)]) (e := .con (.int 3)) rfl ev_int b2 (by omega) (by omega)
      have x3 := (k3.eq S1.length (cellAt_lt x2) (by simp; omega)).trans x2
      have hcond : ev (callN Tb (k + 1)) (.and (.cmp .gt (.var 1) (.con (.int 1))) (.cmp .eq (.call 18 [.a 0, .a 1] [(.var 0), (.con (.int 3))]) (.con (.int 0)))) [some (.ref b), some (.int m), some (.int gr), some (.int top), some (.ref n0), v5, some (.ref S1.length)] S2 = .ok (.bl (c == 0)) S3 := by
        rw [ev, ev_cmp (x := .int m) (y := .int 1) (S1 := S2) (S2 := S2) (ev_var rfl) ev_int]
        simp [cmpR, hm, tru, truR]
        rw [ev_cmp (S1 := S3) (S2 := S3) h3 ev_int]
        simp [cmpR, eqD, ck, unbox, D.fz, D.dp, eqv_int]
      by_cases hc0 : c = 0
      · obtain ⟨c', S4, h4, e0', e1', k4, b4⟩ := ev_take (k := k) (vb := 0) (n := m - 1) (ρ := [some (.ref b), some (.int m), some (.int gr), some (.int top), some (.ref n0), v5, some (.ref S1.length)]) (e := .bin false .sub (.var 1) (.con (.int 1))) (S := S3) rfl ((ev_bin (x := .int m) (y := .int 1) (S1 := S3) (S2 := S3) (ev_var rfl) ev_int).trans rfl) b3 (by omega) (by omega)
        have x4 := (k4.eq S1.length (cellAt_lt x3) (by simp; omega)).trans x3
        refine ⟨[d, (d + 1 + c') % m], setAt S4 S1.length (.lst ([d, (d + 1 + c') % m].map .int)), ex_ite (k := true) (hcond.trans (by rw [hc0]; rfl)) ?_, ?_, ?_, cellAt_set1 (cellAt_lt x4), by simp, ?_⟩
        · rw [if_pos rfl]
          refine exs_one (ex_expr (x := .non) ?_)
          have q1 : ev (callN Tb (k + 1)) (.bin false .mod (.bin false .add (.bin false .add (.idx (.var 6) (.con (.int 0))) (.con (.int 1))) (.call 18 [.a 0, .a 1] [(.var 0), (.bin false .sub (.var 1) (.con (.int 1)))])) (.var 1)) [some (.ref b), some (.int m), some (.int gr), some (.int top), some (.ref n0), v5, some (.ref S1.length)] S3 = .ok (.int ((d + 1 + c') % m)) S4 := by
            refine (ev_bin (x := .int (d + 1 + c')) (y := .int m) (S1 := S4) (S2 := S4) ((ev_bin (x := .int (d + 1)) (S1 := S3) ?_ h4).trans rfl) (ev_var rfl)).trans (ck_of m0)
            refine (ev_bin (x := .int d) (y := .int 1) (S1 := S3) (S2 := S3) ?_ ev_int).trans rfl
            refine (ev_idx (x := .ref S1.length) (y := .int 0) (S1 := S3) (S2 := S3) (ev_var rfl) ev_int).trans ?_
            simp [idxR, seqOf, x3, atD]
          rw [ev, ev_var (d := .ref S1.length) rfl, R.bind_ok, ck_of (by simp [bmOk, x3]), evs1, q1]
          simp [bmR, bmAppend, x4, ck]
          omega
        · refine (Keep.trans (k3.mono (by simp)) (k4.mono (by simp))).trans (Keep.set.mono (by simp))
        · exact b4.keep (Keep.set (b := S1.length)) (by simp; omega)
        · intro n hn
          rcases List.mem_cons.mp hn with rfl | hn
          · exact ⟨d0, d1⟩
          · rw [List.mem_singleton.mp hn]
            exact ⟨Int.emod_nonneg _ (by omega), Int.emod_lt_of_pos _ m0⟩
      · refine ⟨[d], S3, ex_ite (k := false) (hcond.trans (by rw [beq_eq_false_iff_ne.mpr hc0])) ?_, k3.mono (by simp), b3, x3, by simp, ?_⟩
        · rw [if_neg Bool.false_ne_true, exs_end]
        · intro n hn
          rw [List.mem_singleton.mp hn]
          exact ⟨d0, d1⟩
    · refine ⟨[d], S2, ex_ite (k := false) (S1 := S2) ?_ ?_, Keep.refl, b2, x2, by simp, ?_⟩
      · rw [ev, ev_cmp (x := .int m) (y := .int 1) (S1 := S2) (S2 := S2) (ev_var rfl) ev_int]
        simp [cmpR, hm, tru, truR]
      · rw [if_neg Bool.false_ne_true, exs_end]
      · intro n hn
        rw [List.mem_singleton.mp hn]
        exact ⟨d0, d1⟩
  refine Exists.imp (fun os' => Exists.imp fun S' => Exists.imp fun v6' => And.imp_left fun (h : _ = _) => (exs_next h3).trans h) ?_
  have c3 := (k3.eq n0 (cellAt_lt c2) (by simp [hn]; omega)).trans c2
  obtain ⟨p, S4, h4, p0, p1, k4, b4⟩ := ev_take (k := k) (vb := 0) (n := (os.length : Int) + 1) (S1 := S3) (ρ := [some (.ref b), some (.int m), some (.int gr), some (.int top), some (.ref n0), v5, some (.ref S1.length)]) (e := .bin false .add (.bi (.len) [(.var 4)]) (.con (.int 1))) (S := S3) rfl
    ((ev_bin (x := .int os.length) (y := .int 1) (S1 := S3) (S2 := S3) ((ev_bi1 (b := .len) (x := .ref n0) (S1 := S3) (ev_var rfl)).trans (by simp [biR, biLen, lenR, seqOf, c3])) ev_int).trans rfl) b3 (by omega) (by omega)
  have x3' := x3
  have c4 := (k4.eq n0 (cellAt_lt c3) (by simp [hn])).trans c3
  have x4 := (k4.eq S1.length (cellAt_lt x3) (by simp; omega)).trans x3
  obtain ⟨u, S5, h5, u0, u1, k5, b5⟩ := ev_take (k := k) (vb := 0) (n := top + 2) (S1 := S4) (ρ := [some (.ref b), some (.int m), some (.int gr), some (.int top), some (.ref n0), v5, some (.ref S1.length)]) (e := .bin false .add (.var 3) (.con (.int 2))) (S := S4) rfl
    ((ev_bin (x := .int top) (y := .int 2) (S1 := S4) (S2 := S4) (ev_var rfl) ev_int).trans rfl) b4 (by omega) (by omega)
  have c5 := (k5.eq n0 (cellAt_lt c4) (by simp [hn])).trans c4
  have x5 := (k5.eq S1.length (cellAt_lt x4) (by simp; omega)).trans x4
  obtain ⟨l', pm, hsrt⟩ := sort_ints (S := S5) (x := .ref S1.length) (l := ns) (show seqOf S5 (.ref S1.length) = _ by simp [seqOf, x5])
  have hlen : l'.length ≤ 2 := by rw [pm.length_eq]; exact l3
  have htup : ev (callN Tb (k + 1)) (.tup [(.call 18 [.a 0, .a 1] [(.var 0), (.bin false .add (.var 3) (.con (.int 2)))]), (.bi (.tuple1) [(.bi (.sorted1 false) [(.var 6)])])]) [some (.ref b), some (.int m), some (.int gr), some (.int top), some (.ref n0), v5, some (.ref S1.length)] S4 = .ok (enO (u, l')) S5 := by
    rw [ev, evs2, h5, R.bind_ok, ev_bi1 (x := .lst (l'.map .int)) (S1 := S5) ((ev_bi1 (x := .ref S1.length) (S1 := S5) (ev_var rfl)).trans hsrt)]
    exact ck_of sz.2.1
  refine ⟨os.take p.toNat ++ [(u, l')] ++ os.drop p.toNat, setAt S5 n0 (.lst ((os.take p.toNat ++ [(u, l')] ++ os.drop p.toNat).map enO)), some (.ref S1.length), exs_one (ex_expr (x := .non) ?_), ?_, ?_, cellAt_set1 (cellAt_lt c5), ?_, ?_⟩
  · rw [ev, ev_var (d := .ref n0) rfl, R.bind_ok, ck_of (by simp [bmOk, c3]), evs2, h4, R.bind_ok, htup]
    show (match cellAt S5 n0 with | some (.lst xs) => ck (xs.length < sizeLine ∧ 0 ≤ p ∧ p < 2 ^ 63) (R.ok D.non (setAt S5 n0 (.lst (insertAt xs p (enO (u, l')))))) | _ => .err) = _
    rw [c5, ← insert_map]
    exact ck_of ⟨by rw [List.length_map]; omega, p0, by omega⟩
  · have kk : Keep [b, S1.length, n0] S (setAt S5 n0 (.lst ((os.take p.toNat ++ [(u, l')] ++ os.drop p.toNat).map enO))) := (k1.mono (by simp)).trans ((k2.mono (by simp)).trans ((k3.mono (by simp)).trans ((k4.mono (by simp)).trans ((k5.mono (by simp)).trans (Keep.set.mono (by simp))))))
    have := k1.le
    refine kk.fresh fun q hq => ?_
    rcases List.mem_cons.mp hq with rfl | hq
    · exact .inl (by simp)
    · rcases List.mem_cons.mp hq with rfl | hq
      · exact .inr this
      · exact .inl (List.mem_cons_of_mem _ hq)
  · exact b5.keep (Keep.set (b := n0)) (by simp; omega)
  · simp; omega
  · refine ⟨fun o ho => ?_, ?_, fun o ho => (mem_insert.mp ho).elim (good.nn o) fun e => by rw [e]; exact u0⟩
    · rcases mem_insert.mp ho with ho | rfl
      · exact good.ln o ho
      · exact ⟨by show l'.length ≤ 10; omega, fun n hn => r3 n (pm.mem_iff.mp hn)⟩
    · obtain ⟨o, ho, e⟩ := good.has
      exact ⟨o, mem_insert.mpr (.inl ho), e⟩
theorem offers_ok {k b : Nat} {m gr : Int} {S : Sto} (hb : BagAt S b) (m0 : 0 ≤ m) (m1 : m ≤ 20) (g0 : 0 < gr) (g1 : gr ≤ 10000) :
    ∃ os S', callN Tb (k + 2) 19 [.ref b, .int m, .int gr] S = .ok (.lst (List.map enO os)) S' ∧ Keep [b] S S' ∧ BagAt S' b ∧ GoodOs m os ∧ os.length ≤ 12 := by
  have sz : (1 : Nat) ≤ sizeLine ∧ (2 : Nat) ≤ sizeLine ∧ (0 : Nat) ≤ sizeLine := by decide
  rw [callN_at (d := ⟨3, 7, p_l_offers⟩) rfl rfl]
  obtain ⟨top, S1, h1, t0, t1, k1, b1⟩ := ev_take (k := k) (vb := 0) (ρ := [some (.ref b), some (.int m), some (.int gr), none, none, none, none]) (e := .var 2) rfl (ev_var rfl) hb g0 (by omega)
  refine Exists.imp (fun os => Exists.imp fun S' => And.imp_left fun (h : _ = _) => run_ret ((exs_next (ex_asg (x := .int top) (S1 := S1) h1)).trans h)) ?_
  show ∃ os S', exs _ _ [some (.ref b), some (.int m), some (.int gr), some (.int top), none, none, none] S1 = _ ∧ _
  have k2 : Keep [] S1 (S1 ++ [some (.lst ([(top, [])].map enO))]) := Keep.push
  refine Exists.imp (fun os => Exists.imp fun S' => And.imp_left fun (h : _ = _) => (exs_next (ex_asg (x := .ref S1.length) (S1 := S1 ++ [some (.lst ([(top, [])].map enO))]) (by rw [ev]; simp [evs, ev, ck, sz, mkL, enO]))).trans h) ?_
  have b2 := b1.keep k2 (by simp)
  have c2 : cellAt (S1 ++ [some (.lst ([(top, [])].map enO))]) S1.length = some (.lst ([(top, [])].map enO)) := cellAt_push
  have bl : b < S1.length := b1.lt
  generalize S1 ++ [some (.lst ([(top, [])].map enO))] = S2 at k2 b2 c2
  show ∃ os S', exs _ _ [some (.ref b), some (.int m), some (.int gr), some (.int top), some (.ref S1.length), none, none] S2 = _ ∧ _
  obtain ⟨c, S3, h3, c0, c1, k3, b3⟩ := ev_take (k := k) (vb := 0) (ρ := [some (.ref b), some (.int m), some (.int gr), some (.int top), some (.ref S1.length), none, none]) (e := .con (.int 3)) rfl ev_int b2 (by omega) (by omega)
  obtain ⟨q, hq, hi⟩ := idx_ints (S := S3) [2, 6, 12] c0 (by simpa using c1)
  have hq' : 0 < q ∧ q ≤ 12 := by simp at hq; omega
  obtain ⟨z, S4, h4, z0, z1, k4, b4⟩ := ev_take (k := k) (vb := 0) (n := q) (S1 := S3) (ρ := [some (.ref b), some (.int m), some (.int gr), some (.int top), some (.ref S1.length), none, none]) (e := .idx (.tup [(.con (.int 2)), (.con (.int 6)), (.con (.int 12))]) (.call 18 [.a 0, .a 1] [(.var 0), (.con (.int 3))])) (S := S2) rfl
    (ev_ixt [2, 6, 12] (by simp [evs, ev]) (by simp) h3 hi) b3 hq'.1 (by omega)
  have c4 := (k4.eq S1.length (by have := k3.le; have := cellAt_lt c2; omega) (by simp; omega)).trans ((k3.eq S1.length (cellAt_lt c2) (by simp; omega)).trans c2)
  have hit : evIt (callN Tb (k + 1)) (.rng1 (.bin false .mul (.call 18 [.a 0, .a 1] [(.var 0), (.idx (.tup [(.con (.int 2)), (.con (.int 6)), (.con (.int 12))]) (.call 18 [.a 0, .a 1] [(.var 0), (.con (.int 3))]))]) (.bi (.int1) [(.cmp .gt (.var 1) (.con (.int 0)))]))) [some (.ref b), some (.int m), some (.int gr), some (.int top), some (.ref S1.length), none, none] S2 = .ok (.fix, rngD 0 (if 0 < m then z else 0).toNat) S4 := by
    have e1 : ev (callN Tb (k + 1)) (.bi (.int1) [(.cmp .gt (.var 1) (.con (.int 0)))]) [some (.ref b), some (.int m), some (.int gr), some (.int top), some (.ref S1.length), none, none] S4 = .ok (.int (if 0 < m then 1 else 0)) S4 := by
      refine (ev_bi1 (x := .bl (decide (0 < m))) (S1 := S4) ((ev_cmp (x := .int m) (y := .int 0) (S1 := S4) (S2 := S4) (ev_var rfl) ev_int).trans rfl)).trans ?_
      show R.ok (D.int (if decide (0 < m) = true then 1 else 0)) S4 = _
      simp
    have e2 := (ev_bin (box := false) (op := .mul) h4 e1).trans (show binR false .mul (.int z) (.int (if 0 < m then 1 else 0)) S4 = .ok (.int (if 0 < m then z else 0)) S4 from (by
      show ck (mulOk z (if 0 < m then 1 else 0)) _ = _
      rw [ck_of (.inl ⟨by omega, by omega⟩)]
      split <;> simp))
    rw [evIt, e2, R.bind_ok]
    exact ck_of (by unfold smallI; split <;> omega)
  generalize hN : (if 0 < m then z else 0).toNat = N at hit
  have hN1 : N ≤ 11 ∧ (0 < N → 0 < m) := by
    rw [← hN]
    split
    · exact ⟨by omega, fun _ => by assumption⟩
    · exact ⟨by omega, fun h => by omega⟩
  obtain ⟨ρ', S5, h5, os, v5, v6, rfl, kk, b5, c5, l5, g5⟩ := forLoop_inv (step := forStep (callN Tb (k + 1)) (.var 5) [(.asg (.var 6) (.lst true [(.call 18 [.a 0, .a 1] [(.var 0), (.var 1)])])),
  (.ite (.and (.cmp .gt (.var 1) (.con (.int 1))) (.cmp .eq (.call 18 [.a 0, .a 1] [(.var 0), (.con (.int 3))]) (.con (.int 0)))) [(.expr (.bm .append (.var 6) [(.bin false .mod (.bin false .add (.bin false .add (.idx (.var 6) (.con (.int 0))) (.con (.int 1))) (.call 18 [.a 0, .a 1] [(.var 0), (.bin false .sub (.var 1) (.con (.int 1)))])) (.var 1))]))] []),
  (.expr (.bm .insert (.var 4) [(.call 18 [.a 0, .a 1] [(.var 0), (.bin false .add (.bi (.len) [(.var 4)]) (.con (.int 1)))]), (.tup [(.call 18 [.a 0, .a 1] [(.var 0), (.bin false .add (.var 3) (.con (.int 2)))]), (.bi (.tuple1) [(.bi (.sorted1 false) [(.var 6)])])])]))]) (src := .fix) (items := rngD 0 N) (ρ := [some (.ref b), some (.int m), some (.int gr), some (.int top), some (.ref S1.length), none, none]) (S := S4)
    (fun i ρ S' => ∃ os v5 v6, ρ = [some (.ref b), some (.int m), some (.int gr), some (.int top), some (.ref S1.length), v5, v6] ∧ Keep [b, S1.length] S4 S' ∧ BagAt S' b ∧ cellAt S' S1.length = some (.lst (List.map enO os)) ∧ os.length = i + 1 ∧ GoodOs m os)
    ⟨[(top, [])], none, none, rfl, Keep.refl, b4, c4, rfl, ⟨fun o ho => by rw [List.mem_singleton.mp ho]; exact ⟨by simp, by simp⟩, ⟨_, List.mem_cons_self .., rfl⟩, fun o ho => by rw [List.mem_singleton.mp ho]; exact t0⟩⟩ (fun _ _ _ _ => trivial) (fun i d ρ S' hd ⟨os, v5, v6, hρ, kS, bS, cS, lS, gS⟩ => by
      subst hρ
      have hi := rng_get hd
      obtain ⟨os', S6, v6', h6, k6, b6, c6, l6, g6⟩ := offers_step (k := k) (gr := gr) (v5 := some d) (v6 := v6) bS (hN1.2 (by omega)) m1 t0 (by omega) (Nat.ne_of_gt bl) cS (by omega) gS
      exact ⟨_, S6, .inl (forStep_var.trans h6), os', some d, v6', rfl, kS.trans k6, b6, c6, by omega, g6⟩)
  rw [rng_len] at l5
  refine ⟨os, S5.set S1.length none, (exs_next ((ex_for hit).trans h5)).trans (exs_ret (ex_ret ?_)), ?_, ?_, g5, by omega⟩
  · rw [ev, ev_var (d := .ref S1.length) rfl, R.bind_ok]
    simp [frzR, c5]
  · have k14 : Keep [b, S1.length] S1 S5 := (k2.mono (by simp)).trans ((k3.mono (by simp)).trans ((k4.mono (by simp)).trans kk))
    exact k1.trans (Keep.del (k14.fresh fun q hq => by simp at hq; rcases hq with rfl | rfl; exact .inl (by simp); exact .inr (Nat.le_refl _)) (Nat.le_refl _))
  · obtain ⟨g, r, e, w⟩ := b5
    exact ⟨g, r, (cellAt_del_ne1 (by omega)).trans e, w⟩


end
section
/-! ### tasks, choices -/
theorem lc_takes {k b vb vn : Nat} {m n : Int} {ρ : Iv.Env} {S : Sto} (hl : ρ.length = 9) (h2 : ρ[2]? = some (some (.int m))) (hv : ρ[vb]? = some (some (.ref b))) (hn : ρ[vn]? = some (some (.int n))) (vb5 : vb ≠ 5) (vn5 : vn ≠ 5) (hb : BagAt S b) (m0 : 0 ≤ m) (m1 : m ≤ 20) (n0 : 0 < n) (n1 : n < 1073741824) :
    ∃ (l : List Int) (S' : Sto), ev (callN Tb (k + 1)) (.lc false [5] (.var 5) (.rng1 (.var 2)) [] (.call 18 [.a 0, .a 1] [(.var vb), (.var vn)])) ρ S = .ok (.lst (l.map .int)) S' ∧ l.length = m.toNat ∧ Keep [b] S S' ∧ BagAt S' b ∧ (∀ x ∈ l, 0 ≤ x ∧ x < n) := by
  obtain ⟨ys, S', h, l, rfl, hl', kk, bb, gg⟩ := lcLoop_inv (step := lcStep (callN Tb (k + 1)) [5] (.var 5) [] (.call 18 [.a 0, .a 1] [(.var vb), (.var vn)]) ρ) (src := .fix) (items := rngD 0 m.toNat) (S := S) (fun i ys S' => ∃ l : List Int, ys = l.map .int ∧ l.length = i ∧ Keep [b] S S' ∧ BagAt S' b ∧ (∀ x ∈ l, 0 ≤ x ∧ x < n)) ⟨[], rfl, rfl, Keep.refl, hb, fun x hx => by cases hx⟩ (fun _ _ _ _ => trivial) (fun i d ys S' hd ⟨l, hy, hl', kS, bS, gS⟩ => by
    subst hy
    obtain ⟨t, S2, ht, t0, t1, kt, bt⟩ := ev_take (k := k) (vb := vb) (n := n) (ρ := (ρ.set 5 none).set 5 (some d)) (e := .var vn) (S := S') (S1 := S') (by rw [List.getElem?_set_ne (Ne.symm vb5), List.getElem?_set_ne (Ne.symm vb5)]; exact hv) (ev_var (by rw [List.getElem?_set_ne (Ne.symm vn5), List.getElem?_set_ne (Ne.symm vn5)]; exact hn)) bS n0 n1
    refine ⟨[.int t], S2, ?_, l ++ [t], by simp, by simp [hl'], kS.trans kt, bt, fun x hx => (List.mem_append.mp hx).elim (gS x) fun h => by rw [List.mem_singleton.mp h]; exact ⟨t0, t1⟩⟩
    unfold lcStep
    rw [asg, R.bind_ok, evIfs, R.bind_ok, if_pos rfl]
    show (ev _ _ ((ρ.set 5 none).set 5 (some d)) S').bind _ = _
    rw [ht]
    rfl)
  rw [rng_len] at hl'
  refine ⟨l, S', (ev_lc (src := .fix) (evIt_rng1 (ev_var h2) (by unfold smallI; omega)) h (by rw [List.length_map, hl']; have : (20 : Nat) ≤ sizeLine := (by decide); omega)).trans rfl, hl', kk, bb, gg⟩
structure OkT (m : Int) (its : List Item) : Prop where
  len : its.length ≤ 12
  it : ∀ x ∈ its, 0 ≤ x.1 ∧ x.1 ≤ 1000 ∧ x.2.length ≤ 12 ∧ GoodOs m x.2
theorem task_ok {k b o : Nat} {m : Int} {S : Sto} (hb : BagAt S b) (ho : BagAt S o) (hbo : b ≠ o) (m0 : 0 ≤ m) (m1 : m ≤ 20) :
    ∃ its keeps sizes S', callN Tb (k + 3) 20 [.ref b, .ref o, .int m] S = .ok (.tup [.lst (List.map enI its), .lst (List.map .int keeps), .lst (List.map .int sizes)]) S' ∧ Keep [b, o] S S' ∧ BagAt S' b ∧ BagAt S' o ∧ OkT m its ∧ keeps.length = m.toNat ∧ sizes.length = m.toNat ∧ (∀ x ∈ keeps, 0 ≤ x ∧ x < 1073741824) ∧ (∀ x ∈ sizes, 0 ≤ x ∧ x ≤ 10000001) := by
  rw [callN_at (d := ⟨3, 9, p_l_task⟩) rfl rfl]
  obtain ⟨c, S1, h1, c0, c1, k1, b1⟩ := ev_take (k := k + 1) (vb := 0) (ρ := [some (.ref b), some (.ref o), some (.int m), none, none, none, none, none, none]) (e := .con (.int 3)) rfl ev_int hb (by omega) (by omega)
  obtain ⟨gr, hgr, i1⟩ := idx_ints (S := S1) [20, 200, 10000] c0 (by simpa using c1)
  have g1 : 0 < gr ∧ gr ≤ 10000 := by simp at hgr; omega
  have o1 := ho.keep k1 (by simp; omega)
  refine Exists.imp (fun _ => Exists.imp fun _ => Exists.imp fun _ => Exists.imp fun _ => And.imp_left fun (h : _ = _) => run_ret ((exs_next (ex_asg (ev_ixt [20, 200, 10000] (by simp [evs, ev]) (by simp) h1 i1))).trans h)) ?_
  show ∃ j1 j2 j3 S', exs _ _ [some (.ref b), some (.ref o), some (.int m), some (.int gr), none, none, none, none, none] S1 = _ ∧ _
  have k2 : Keep [] S1 (S1 ++ [some (.lst (([] : List Item).map enI))]) := Keep.push
  refine Exists.imp (fun _ => Exists.imp fun _ => Exists.imp fun _ => Exists.imp fun _ => And.imp_left fun (h : _ = _) => (exs_next (ex_asg (x := .ref S1.length) (S1 := S1 ++ [some (.lst (([] : List Item).map enI))]) ((ev_lst evs_nil (by simp)).trans rfl))).trans h) ?_
  have b2 := b1.keep k2 (by simp)
  have o2 := o1.keep k2 (by simp)
  have c2 : cellAt (S1 ++ [some (.lst (([] : List Item).map enI))]) S1.length = some (.lst (([] : List Item).map enI)) := cellAt_push
  have bl := b1.lt
  have ol := o1.lt
  generalize S1 ++ [some (.lst (([] : List Item).map enI))] = S2 at k2 b2 o2 c2
  show ∃ j1 j2 j3 S', exs _ _ [some (.ref b), some (.ref o), some (.int m), some (.int gr), some (.ref S1.length), none, none, none, none] S2 = _ ∧ _
  obtain ⟨q, S3, h3, q0, q1, k3, b3⟩ := ev_take (k := k + 1) (vb := 0) (ρ := [some (.ref b), some (.ref o), some (.int m), some (.int gr), some (.ref S1.length), none, none, none, none]) (e := .con (.int 5)) rfl ev_int b2 (by omega) (by omega)
  obtain ⟨N, hN, i3⟩ := idx_ints (S := S3) [3, 6, 12, 1, 0] q0 (by simpa using q1)
  have hN1 : 0 ≤ N ∧ N ≤ 12 := by simp at hN; omega
  have o3 := o2.keep k3 (by simp; omega)
  have c3 := (k3.eq S1.length (cellAt_lt c2) (by simp; omega)).trans c2
  have hit := evIt_rng1 (ev_ixt (e := .call 18 [.a 0, .a 1] [(.var 0), (.con (.int 5))]) (F := callN Tb (k + 1 + 1)) (es := [(.con (.int 3)), (.con (.int 6)), (.con (.int 12)), (.con (.int 1)), (.con (.int 0))]) [3, 6, 12, 1, 0] (by simp [evs, ev]) (by simp) h3 i3) (by unfold smallI; omega)
  obtain ⟨ρ', S4, h4, its, v5, rfl, k4, b4, o4, c4, l4, g4⟩ := forLoop_inv (step := forStep (callN Tb (k + 1 + 1)) (.var 5) [(.expr (.bm .append (.var 4) [(.tup [(.bin false .add (.con (.int 1)) (.call 18 [.a 0, .a 1] [(.var 1), (.idx (.tup [(.con (.int 3)), (.con (.int 100))]) (.call 18 [.a 0, .a 1] [(.var 0), (.con (.int 2))]))])), (.call 19 [.a 0, .a 1, .a 2] [(.var 1), (.var 2), (.var 3)])])]))]) (src := .fix) (items := rngD 0 N.toNat) (ρ := [some (.ref b), some (.ref o), some (.int m), some (.int gr), some (.ref S1.length), none, none, none, none]) (S := S3)
    (fun i ρ S' => ∃ its v5, ρ = [some (.ref b), some (.ref o), some (.int m), some (.int gr), some (.ref S1.length), v5, none, none, none] ∧ Keep [b, o, S1.length] S3 S' ∧ BagAt S' b ∧ BagAt S' o ∧ cellAt S' S1.length = some (.lst (List.map enI its)) ∧ its.length = i ∧ ∀ x ∈ its, 0 ≤ x.1 ∧ x.1 ≤ 1000 ∧ x.2.length ≤ 12 ∧ GoodOs m x.2)
    ⟨[], none, rfl, Keep.refl, b3, o3, c3, rfl, fun x hx => by cases hx⟩ (fun _ _ _ _ => trivial) (fun i d ρ S' hd ⟨its, v5, hρ, kS, bS, oS, cS, lS, gS⟩ => by
      subst hρ
      have hi := rng_get hd
      obtain ⟨x, T1, g1', x0, x1, kx, bx⟩ := ev_take (k := k + 1) (vb := 0) (ρ := [some (.ref b), some (.ref o), some (.int m), some (.int gr), some (.ref S1.length), some d, none, none, none]) (e := .con (.int 2)) rfl ev_int bS (by omega) (by omega)
      obtain ⟨y, hy, iy⟩ := idx_ints (S := T1) [3, 100] x0 (by simpa using x1)
      have hy1 : 0 < y ∧ y ≤ 100 := by simp at hy; omega
      have ox := oS.keep kx (by simp; omega)
      have cx := (kx.eq S1.length (cellAt_lt cS) (by simp; omega)).trans cS
      obtain ⟨w, T2, g2', w0, w1, kw, ow⟩ := ev_take (k := k + 1) (vb := 1) (n := y) (S := S') (S1 := T1) (ρ := [some (.ref b), some (.ref o), some (.int m), some (.int gr), some (.ref S1.length), some d, none, none, none]) (e := .idx (.tup [(.con (.int 3)), (.con (.int 100))]) (.call 18 [.a 0, .a 1] [(.var 0), (.con (.int 2))])) rfl (ev_ixt [3, 100] (by simp [evs, ev]) (by simp) g1' iy) ox hy1.1 (by omega)
      have bw := bx.keep kw (by simp; omega)
      have cw := (kw.eq S1.length (cellAt_lt cx) (by simp; omega)).trans cx
      obtain ⟨os, T3, g3', kf, of', gf, lf⟩ := offers_ok (k := k) ow m0 m1 g1.1 g1.2
      have bf := bw.keep kf (by simp; omega)
      have cf := (kf.eq S1.length (cellAt_lt cw) (by simp; omega)).trans cw
      have e1 : ev (callN Tb (k + 1 + 1)) (.tup [(.bin false .add (.con (.int 1)) (.call 18 [.a 0, .a 1] [(.var 1), (.idx (.tup [(.con (.int 3)), (.con (.int 100))]) (.call 18 [.a 0, .a 1] [(.var 0), (.con (.int 2))]))])), (.call 19 [.a 0, .a 1, .a 2] [(.var 1), (.var 2), (.var 3)])]) [some (.ref b), some (.ref o), some (.int m), some (.int gr), some (.ref S1.length), some d, none, none, none] S' = .ok (enI (1 + w, os)) T3 := by
        refine ev_tup (ds := [.int (1 + w), .lst (os.map enO)]) (evs_cons (S1 := T2) ((ev_bin (x := .int 1) (S1 := S') ev_int g2').trans rfl) (evs_cons (S1 := T3) ((ev_call1 (ds := [.ref o, .int m, .int gr]) (S1 := T2) ?_ rfl).trans g3') evs_nil)) (by simp)
        exact evs_cons (ev_var rfl) (evs_cons (ev_var rfl) (evs_cons (ev_var rfl) evs_nil))
      refine ⟨_, setAt T3 S1.length (.lst ((its ++ [(1 + w, os)]).map enI)), .inl (forStep_var.trans (exs_one (ex_expr (x := .non) ?_))), its ++ [(1 + w, os)], some d, rfl, ?_, ?_, ?_, cellAt_set1 (cellAt_lt cf), by simp [lS], fun z hz => ?_⟩
      · show ev _ _ [some (.ref b), some (.ref o), some (.int m), some (.int gr), some (.ref S1.length), some d, none, none, none] S' = _
        rw [ev, ev_var (d := .ref S1.length) rfl, R.bind_ok, ck_of (by simp [bmOk, cS]), evs1, e1]
        have : (20 : Nat) < sizeLine := by decide
        simp [bmR, bmAppend, cf, ck, enI]
        omega
      · exact kS.trans ((kx.mono (by simp)).trans ((kw.mono (by simp)).trans ((kf.mono (by simp)).trans (Keep.set.mono (by simp)))))
      · exact bf.keep (Keep.set (b := S1.length)) (by simp; omega)
      · exact of'.keep (Keep.set (b := S1.length)) (by simp; omega)
      · rcases List.mem_append.mp hz with hz | hz
        · exact gS z hz
        · rw [List.mem_singleton.mp hz]
          exact ⟨by show 0 ≤ 1 + w; omega, by show 1 + w ≤ 1000; omega, lf, gf⟩)
  refine Exists.imp (fun _ => Exists.imp fun _ => Exists.imp fun _ => Exists.imp fun _ => And.imp_left fun (h : _ = _) => (exs_next ((ex_for hit).trans h4)).trans h) ?_
  rw [rng_len] at l4
  obtain ⟨d1, S5, h5, d10, d11, k5, b5⟩ := ev_take (k := k + 1) (vb := 0) (ρ := [some (.ref b), some (.ref o), some (.int m), some (.int gr), some (.ref S1.length), v5, none, none, none]) (e := .con (.int 4)) rfl ev_int b4 (by omega) (by omega)
  obtain ⟨dear, hdear, i5⟩ := idx_ints (S := S5) [5, 100, 10000001, 1] d10 (by simpa using d11)
  have dd : 0 < dear ∧ dear < 1073741824 := by simp at hdear; omega
  have o5 := o4.keep k5 (by simp; omega)
  have c5 := (k5.eq S1.length (cellAt_lt c4) (by simp; omega)).trans c4
  refine Exists.imp (fun _ => Exists.imp fun _ => Exists.imp fun _ => Exists.imp fun _ => And.imp_left fun (h : _ = _) => (exs_next (ex_asg (ev_ixt [5, 100, 10000001, 1] (by simp [evs, ev, binR, ck, addR]) (by simp) h5 i5))).trans h) ?_
  show ∃ j1 j2 j3 S', exs _ _ [some (.ref b), some (.ref o), some (.int m), some (.int gr), some (.ref S1.length), v5, some (.int dear), none, none] S5 = _ ∧ _
  obtain ⟨keeps, S6, h6, l6, k6, b6, n6⟩ := lc_takes (k := k + 1) (vb := 0) (vn := 6) (ρ := [some (.ref b), some (.ref o), some (.int m), some (.int gr), some (.ref S1.length), v5, some (.int dear), none, none]) rfl rfl rfl rfl (by decide) (by decide) b5 m0 m1 dd.1 dd.2
  have o6 := o5.keep k6 (by simp; omega)
  have c6 := (k6.eq S1.length (cellAt_lt c5) (by simp; omega)).trans c5
  refine Exists.imp (fun _ => Exists.imp fun _ => Exists.imp fun _ => Exists.imp fun _ => And.imp_left fun (h : _ = _) => (exs_next (ex_asg h6)).trans h) ?_
  show ∃ j1 j2 j3 S', exs _ _ [some (.ref b), some (.ref o), some (.int m), some (.int gr), some (.ref S1.length), v5, some (.int dear), some (.lst (keeps.map .int)), none] S6 = _ ∧ _
  obtain ⟨d2, S7, h7, d20, d21, k7, b7⟩ := ev_take (k := k + 1) (vb := 0) (ρ := [some (.ref b), some (.ref o), some (.int m), some (.int gr), some (.ref S1.length), v5, some (.int dear), some (.lst (keeps.map .int)), none]) (e := .con (.int 3)) rfl ev_int b6 (by omega) (by omega)
  obtain ⟨wide, hwide, i7⟩ := idx_ints (S := S7) [6, 40, 10000001] d20 (by simpa using d21)
  have dw : 0 < wide ∧ wide ≤ 10000001 := by simp at hwide; omega
  have o7 := o6.keep k7 (by simp; omega)
  have c7 := (k7.eq S1.length (cellAt_lt c6) (by simp; omega)).trans c6
  refine Exists.imp (fun _ => Exists.imp fun _ => Exists.imp fun _ => Exists.imp fun _ => And.imp_left fun (h : _ = _) => (exs_next (ex_asg (ev_ixt [6, 40, 10000001] (by simp [evs, ev, binR, ck, addR]) (by simp) h7 i7))).trans h) ?_
  show ∃ j1 j2 j3 S', exs _ _ [some (.ref b), some (.ref o), some (.int m), some (.int gr), some (.ref S1.length), v5, some (.int dear), some (.lst (keeps.map .int)), some (.int wide)] S7 = _ ∧ _
  have o8 : BagAt (S7.set S1.length none) o := by
    obtain ⟨g, r, e, w⟩ := o7
    exact ⟨g, r, (cellAt_del_ne1 (by omega)).trans e, w⟩
  have b8 : BagAt (S7.set S1.length none) b := by
    obtain ⟨g, r, e, w⟩ := b7
    exact ⟨g, r, (cellAt_del_ne1 (by omega)).trans e, w⟩
  obtain ⟨sizes, S9, h9, l9, k9, o9, n9⟩ := lc_takes (k := k + 1) (vb := 1) (vn := 8) (ρ := [some (.ref b), some (.ref o), some (.int m), some (.int gr), some (.ref S1.length), v5, some (.int dear), some (.lst (keeps.map .int)), some (.int wide)]) rfl rfl rfl rfl (by decide) (by decide) o8 m0 m1 dw.1 (by omega)
  have b9 := b8.keep k9 (by simp; omega)
  refine ⟨its, keeps, sizes, S9, exs_ret (ex_ret (ev_tup (evs_cons (S1 := S7.set S1.length none) ?_ (evs_cons (ev_var rfl) (evs_cons h9 evs_nil))) (by simp))), ?_, b9, o9, ⟨by omega, g4⟩, l6, l9, fun x hx => ⟨(n6 x hx).1, by have := (n6 x hx).2; omega⟩, fun x hx => ⟨(n9 x hx).1, by have := (n9 x hx).2; omega⟩⟩
  · rw [ev, ev_var (d := .ref S1.length) rfl, R.bind_ok]
    simp [frzR, c7]
  · have kk : Keep [b, o, S1.length] S1 S7 := (k2.mono (by simp)).trans ((k3.mono (by simp)).trans (k4.trans ((k5.mono (by simp)).trans ((k6.mono (by simp)).trans (k7.mono (by simp))))))
    have k8 : Keep [b, o] S1 (S7.set S1.length none) := Keep.del (kk.fresh fun q hq => by simp at hq; rcases hq with rfl | rfl | rfl; exact .inl (by simp); exact .inl (by simp); exact .inr (Nat.le_refl _)) (Nat.le_refl _)
    exact (k1.mono (by simp)).trans (k8.trans (k9.mono (by simp)))


end
section
/-! ### branch and bound, in plain lists -/
abbrev Tot (its : List Item) (keeps ch : List Int) : Int := keepsOf keeps ch + (its.map (costOf ch)).sum
theorem met_mono {a b : List Int} (h : ∀ x ∈ a, x ∈ b) {o : Offer} (m : met a o = true) : met b o = true := by
  unfold met at m ⊢
  rw [List.all_eq_true] at m ⊢
  exact fun x hx => List.contains_iff_mem.mpr (h x (List.contains_iff_mem.mp (m x hx)))
theorem least_mono {a b : List Int} (h : ∀ x ∈ a, x ∈ b) {os : List Offer} {i j : Int} (hi : leastOf a os = some i) (hj : leastOf b os = some j) : j ≤ i := by
  obtain ⟨h1, _⟩ := Iv.min_spec hi
  obtain ⟨_, h2⟩ := Iv.min_spec hj
  obtain ⟨o, ho, rfl⟩ := List.mem_map.mp h1
  obtain ⟨o1, o2⟩ := List.mem_filter.mp ho
  exact h2 _ (List.mem_map.mpr ⟨o, List.mem_filter.mpr ⟨o1, met_mono h o2⟩, rfl⟩)
theorem cost_mono {a b : List Int} (h : ∀ x ∈ a, x ∈ b) {x : Item} (ha : OkI a x) (hb : OkI b x) : costOf b x ≤ costOf a x := by
  unfold costOf
  exact Int.mul_le_mul_of_nonneg_left (least_mono h ha.at hb.at) ha.w0
theorem sum_mono {α : Type} {f g : α → Int} : ∀ {l : List α}, (∀ x ∈ l, f x ≤ g x) → (l.map f).sum ≤ (l.map g).sum
  | [], _ => Int.le_refl _
  | x :: l, h => by
    rw [List.map_cons, List.map_cons, List.sum_cons, List.sum_cons]
    have h1 := h x (List.mem_cons_self ..)
    have h2 := sum_mono fun y hy => h y (List.mem_cons_of_mem _ hy)
    omega
theorem keeps_app (keeps a b : List Int) : keepsOf keeps (a ++ b) = keepsOf keeps a + keepsOf keeps b := by
  unfold keepsOf
  rw [List.map_append, List.sum_append]
theorem getD_nn {keeps : List Int} (h : ∀ x ∈ keeps, 0 ≤ x) (n : Nat) : 0 ≤ keeps.getD n 0 := by
  rw [List.getD_eq_getElem?_getD]
  cases e : keeps[n]? with
  | none => exact Int.le_refl _
  | some x => exact h x (List.mem_of_getElem? e)
theorem keeps_nn {keeps : List Int} (h : ∀ x ∈ keeps, 0 ≤ x) : ∀ a : List Int, 0 ≤ keepsOf keeps a
  | [] => Int.le_refl _
  | d :: r => by
    have h1 := keeps_nn h r
    have h2 := getD_nn h d.toNat
    unfold keepsOf at h1 ⊢
    rw [List.map_cons, List.sum_cons]
    omega
theorem sum_perm {a b : List Int} (p : a.Perm b) : a.sum = b.sum := by
  induction p with
  | nil => rfl
  | cons x _ ih => rw [List.sum_cons, List.sum_cons, ih]
  | swap x y l => simp only [List.sum_cons]; omega
  | trans _ _ h1 h2 => exact h1.trans h2
theorem keeps_perm {keeps a b : List Int} (p : a.Perm b) : keepsOf keeps a = keepsOf keeps b := sum_perm (p.map _)
theorem met_congr {a b : List Int} (h : ∀ x, x ∈ a ↔ x ∈ b) (o : Offer) : met a o = met b o := by
  have h1 := fun m => met_mono (fun x hx => (h x).mp hx) (o := o) m
  have h2 := fun m => met_mono (fun x hx => (h x).mpr hx) (o := o) m
  cases e : met a o <;> cases e2 : met b o <;> first | rfl | (rw [h1 e] at e2; cases e2) | (rw [h2 e2] at e; cases e)
theorem cost_congr {a b : List Int} (h : ∀ x, x ∈ a ↔ x ∈ b) : costOf a = costOf b := by
  funext x
  unfold costOf leastOf
  have e : (x.2.filter (met a)) = x.2.filter (met b) := List.filter_congr fun o _ => met_congr h o
  rw [e]
theorem Tot_perm {its : List Item} {keeps a b : List Int} (p : a.Perm b) : Tot its keeps a = Tot its keeps b := by
  unfold Tot
  rw [keeps_perm p, cost_congr fun x => p.mem_iff]
/-- the best set of a road, as the program finds it; m: how many designs -/
structure Job where
  its : List Item
  keeps : List Int
  sizes : List Int
  m : Nat
structure Job.Ok (j : Job) : Prop where
  k0 : ∀ x ∈ j.keeps, 0 ≤ x
  s0 : ∀ x ∈ j.sizes, 0 ≤ x
  lk : j.keeps.length = j.m
  ls : j.sizes.length = j.m
  it : ∀ ch, ∀ x ∈ j.its, OkI ch x
def Job.tot (j : Job) (ch : List Int) : Int := Tot j.its j.keeps ch
def Job.size (j : Job) (ch : List Int) : Int := keepsOf j.sizes ch
def Job.let_ (j : Job) (out : List Int) : List Int := ((List.range j.m).map fun (i : Nat) => (i : Int)).filter fun d => !out.contains d
def Job.low (j : Job) (taken out : List Int) : Int := keepsOf j.keeps taken + (j.its.map (costOf (j.let_ out))).sum
def Job.closed (j : Job) (taken out : List Int) (room bound : Int) : Bool := decide (j.size taken > room) || decide (j.low taken out ≥ bound)
def Job.bb (j : Job) (room : Int) : List Int → List Int → List Int → Int × List Int → Int × List Int
  | [], taken, out, best => if j.closed taken out room best.1 then best else (j.tot taken, srtI taken)
  | d :: rest, taken, out, best => if j.closed taken out room best.1 then best else j.bb room rest taken (out ++ [d]) (j.bb room rest (taken ++ [d]) out best)
/-- taken, left out and to come are all designs, each once -/
structure Job.Rd (j : Job) (order taken out : List Int) : Prop where
  mem : ∀ d, (d ∈ order ∨ d ∈ taken ∨ d ∈ out) ↔ (0 ≤ d ∧ d < j.m)
  to : ∀ d ∈ order, d ∉ taken ∧ d ∉ out
  tk : ∀ d ∈ taken, d ∉ out
  nd : order.Nodup
section
variable {j : Job} {order taken out rest : List Int} {d room b : Int}
theorem Job.Rd.take (r : j.Rd (d :: rest) taken out) : j.Rd rest (taken ++ [d]) out := by
  obtain ⟨h1, h2⟩ := List.nodup_cons.mp r.nd
  refine ⟨fun x => ?_, fun x hx => ⟨fun z => ?_, (r.to x (List.mem_cons_of_mem _ hx)).2⟩, fun x hx => ?_, h2⟩
  · rw [← r.mem x]
    simp only [List.mem_cons, List.mem_append, List.not_mem_nil, or_false]
    constructor
    · rintro (h | (h | h) | h)
      · exact .inl (.inr h)
      · exact .inr (.inl h)
      · exact .inl (.inl h)
      · exact .inr (.inr h)
    · rintro ((h | h) | h | h)
      · exact .inr (.inl (.inr h))
      · exact .inl h
      · exact .inr (.inl (.inl h))
      · exact .inr (.inr h)
  · rcases List.mem_append.mp z with z | z
    · exact (r.to x (List.mem_cons_of_mem _ hx)).1 z
    · rw [List.mem_singleton.mp z] at hx
      exact h1 hx
  · rcases List.mem_append.mp hx with z | z
    · exact r.tk x z
    · rw [List.mem_singleton.mp z]
      exact (r.to d (List.mem_cons_self ..)).2
theorem Job.Rd.leave (r : j.Rd (d :: rest) taken out) : j.Rd rest taken (out ++ [d]) := by
  obtain ⟨h1, h2⟩ := List.nodup_cons.mp r.nd
  refine ⟨fun x => ?_, fun x hx => ⟨(r.to x (List.mem_cons_of_mem _ hx)).1, fun z => ?_⟩, fun x hx z => ?_, h2⟩
  · rw [← r.mem x]
    simp only [List.mem_cons, List.mem_append, List.not_mem_nil, or_false]
    constructor
    · rintro (h | h | h | h)
      · exact .inl (.inr h)
      · exact .inr (.inl h)
      · exact .inr (.inr h)
      · exact .inl (.inl h)
    · rintro ((h | h) | h | h)
      · exact .inr (.inr (.inr h))
      · exact .inl h
      · exact .inr (.inl h)
      · exact .inr (.inr (.inl h))
  · rcases List.mem_append.mp z with z | z
    · exact (r.to x (List.mem_cons_of_mem _ hx)).2 z
    · rw [List.mem_singleton.mp z] at hx
      exact h1 hx
  · rcases List.mem_append.mp z with z | z
    · exact r.tk x hx z
    · rw [List.mem_singleton.mp z] at hx
      exact (r.to d (List.mem_cons_self ..)).1 hx
theorem mem_let {x : Int} : x ∈ j.let_ out ↔ (0 ≤ x ∧ x < j.m) ∧ x ∉ out := by
  unfold Job.let_
  rw [List.mem_filter]
  simp only [List.mem_map, List.mem_range, Bool.not_eq_true', List.contains_eq_mem, decide_eq_false_iff_not]
  constructor
  · rintro ⟨⟨i, hi, rfl⟩, h⟩
    exact ⟨⟨by omega, by omega⟩, h⟩
  · rintro ⟨⟨h1, h2⟩, h⟩
    exact ⟨⟨x.toNat, by omega, by omega⟩, h⟩
theorem low_le (ok : j.Ok) (r : j.Rd order taken out) {T : List Int} (hT : ∀ x ∈ T, x ∈ order) : j.low taken out ≤ j.tot (taken ++ T) := by
  unfold Job.low Job.tot Tot
  have h1 : ∀ x ∈ taken ++ T, x ∈ j.let_ out := fun x hx => by
    rcases List.mem_append.mp hx with z | z
    · exact mem_let.mpr ⟨(r.mem x).mp (.inr (.inl z)), r.tk x z⟩
    · exact mem_let.mpr ⟨(r.mem x).mp (.inl (hT x z)), (r.to x (hT x z)).2⟩
  have h2 : (j.its.map (costOf (j.let_ out))).sum ≤ (j.its.map (costOf (taken ++ T))).sum := sum_mono fun x hx => cost_mono h1 (ok.it _ x hx) (ok.it _ x hx)
  have h3 := keeps_nn ok.k0 T
  rw [keeps_app]
  omega
theorem size_le (ok : j.Ok) {T : List Int} : j.size taken ≤ j.size (taken ++ T) := by
  unfold Job.size
  have h3 := keeps_nn ok.s0 T
  rw [keeps_app]
  omega
theorem low_leaf (r : j.Rd [] taken out) : j.low taken out = j.tot taken := by
  unfold Job.low Job.tot Tot
  rw [cost_congr fun x => ?_]
  rw [mem_let, ← r.mem x]
  constructor
  · rintro ⟨h | h | h, n⟩
    · cases h
    · exact h
    · exact absurd h n
  · exact fun h => ⟨.inr (.inl h), r.tk x h⟩
/-- what is found -/
structure Job.Fd (j : Job) (room : Int) (order taken : List Int) (best res : Int × List Int) : Prop where
  le : res.1 ≤ best.1
  low : ∀ T, T.Sublist order → j.size (taken ++ T) ≤ room → res.1 ≤ j.tot (taken ++ T)
  was : res = best ∨ ∃ T, T.Sublist order ∧ j.size (taken ++ T) ≤ room ∧ res = (j.tot (taken ++ T), srtI (taken ++ T))
theorem bb_ok (ok : j.Ok) : ∀ (order taken out : List Int) (best : Int × List Int), j.Rd order taken out → j.Fd room order taken best (j.bb room order taken out best) := by
  have cl : ∀ (order taken out : List Int) (best : Int × List Int), j.Rd order taken out → j.closed taken out room best.1 = true → j.Fd room order taken best best := fun order taken out best r h => by
    refine ⟨Int.le_refl _, fun T hT hs => ?_, .inl rfl⟩
    unfold Job.closed at h
    rw [Bool.or_eq_true, decide_eq_true_eq, decide_eq_true_eq] at h
    rcases h with h | h
    · have := size_le (taken := taken) (T := T) ok
      omega
    · have := low_le ok r (T := T) fun x hx => hT.subset hx
      omega
  intro order
  induction order with
  | nil =>
    intro taken out best r
    unfold Job.bb
    by_cases h : j.closed taken out room best.1 = true
    · rw [if_pos h]
      exact cl _ _ _ _ r h
    · rw [if_neg h]
      unfold Job.closed at h
      rw [Bool.or_eq_true, decide_eq_true_eq, decide_eq_true_eq] at h
      rw [low_leaf r] at h
      refine ⟨by show j.tot taken ≤ best.1; omega, fun T hT hs => ?_, .inr ⟨[], List.Sublist.refl _, by rw [List.append_nil]; omega, by rw [List.append_nil]⟩⟩
      rw [List.sublist_nil.mp hT, List.append_nil]
      exact Int.le_refl _
  | cons d rest ih =>
    intro taken out best r
    unfold Job.bb
    by_cases h : j.closed taken out room best.1 = true
    · rw [if_pos h]
      exact cl _ _ _ _ r h
    · rw [if_neg h]
      have f1 := ih (taken ++ [d]) out best r.take
      have f2 := ih taken (out ++ [d]) (j.bb room rest (taken ++ [d]) out best) r.leave
      refine ⟨Int.le_trans f2.le f1.le, fun T hT hs => ?_, ?_⟩
      · cases hT with
        | cons _ hT => exact f2.low T hT hs
        | cons_cons _ hT =>
          rename_i T
          rw [show taken ++ d :: T = taken ++ [d] ++ T by simp] at hs ⊢
          exact Int.le_trans f2.le (f1.low T hT hs)
      · rcases f2.was with e | ⟨T, h1, h2, h3⟩
        · rw [e]
          rcases f1.was with e | ⟨T, h1, h2, h3⟩
          · exact .inl e
          · rw [show taken ++ [d] ++ T = taken ++ d :: T by simp] at h2 h3
            exact .inr ⟨d :: T, h1.cons_cons d, h2, h3⟩
        · exact .inr ⟨T, h1.cons d, h2, h3⟩
/-- the paper's leaves are closed -/
theorem leaf_closed (ok : j.Ok) (r : j.Rd [] taken out) (h : ∀ T, T.Sublist ([] : List Int) → j.size (taken ++ T) ≤ room → b ≤ j.tot (taken ++ T)) : j.closed taken out room b = true := by
  unfold Job.closed
  rw [Bool.or_eq_true, decide_eq_true_eq, decide_eq_true_eq, low_leaf r]
  have := h [] (List.Sublist.refl _)
  rw [List.append_nil] at this
  by_cases c : j.size taken ≤ room
  · exact .inr (this c)
  · exact .inl (by omega)
end


end
section
/-! ### a road, as the program has it -/
set_option maxHeartbeats 600000
abbrev enC (ch : List Int) : D := .tup (ch.map .int)
abbrev Job.enT (j : Job) : D := .tup [.lst (j.its.map enI), .lst (j.keeps.map .int), .lst (j.sizes.map .int)]
structure Job.Fit (j : Job) : Prop extends j.Ok where
  li : j.its.length ≤ 1000
  lm : j.m ≤ 20
def RoadAt (j : Job) (S : Sto) (r : Nat) (taken out : List Int) : Prop := cellAt S r = some (.ins 0 [(2, j.enT), (1, enC taken), (0, enC out)])
theorem RoadAt.keep {j : Job} {S S' : Sto} {r : Nat} {taken out : List Int} {bs : List Nat} (h : RoadAt j S r taken out) (k : Keep bs S S') (n : r ∉ bs) : RoadAt j S' r taken out := (k.eq r (cellAt_lt h) n).trans h
theorem in_intsL {x : Int} {l : List Int} {S : Sto} : cmpR .isIn (.int x) (.lst (l.map .int)) S = .ok (.bl (l.contains x)) S := by
  show ck ((D.int x).fz = true ∧ (D.int x).dp ≤ 63 ∧ D.fzs (l.map .int) = true ∧ D.dps (l.map .int) ≤ 63) (R.ok (D.bl ((l.map D.int).any fun z => z.eqv (.int x))) S) = _
  rw [any_int]
  exact ck_of ⟨by simp [D.fz], by simp [D.dp], fzs_int l, by rw [dps_int]; omega⟩
theorem nin_ints {x : Int} {l : List Int} {S : Sto} : cmpR .notIn (.int x) (.tup (l.map .int)) S = .ok (.bl (!l.contains x)) S := by
  show ck ((D.int x).fz = true ∧ (D.int x).dp ≤ 63 ∧ D.fzs (l.map .int) = true ∧ D.dps (l.map .int) ≤ 63) (R.ok (D.bl (!((l.map D.int).any fun z => z.eqv (.int x)))) S) = _
  rw [any_int]
  exact ck_of ⟨by simp [D.fz], by simp [D.dp], fzs_int l, by rw [dps_int]; omega⟩
theorem flat_oneD {α : Type} (f : α → D) : ∀ xs : List α, xs.flatMap (fun x => [f x]) = xs.map f
  | [] => rfl
  | x :: xs => by rw [List.flatMap_cons, flat_oneD f xs]; rfl
section
variable {k r : Nat} {j : Job} {taken out ch : List Int} {room b : Int} {S : Sto}
theorem sz_20 : (20 : Nat) ≤ sizeLine := by decide
theorem size_ok (f : j.Fit) (lc : ch.length ≤ 20) (hc : ∀ d ∈ ch, 0 ≤ d ∧ d.toNat < j.m) : callN Tb (k + 1) 4 [j.enT, enC ch] S = .ok (.int (j.size ch)) S := by
  refine Ru.is ?_
  refine Ru.def (fn := ⟨2, 6, p_size_of⟩) rfl rfl ?_; simp only [List.map_cons, List.map_nil, List.length_cons, List.length_nil, Nat.reduceAdd, Nat.reduceSub, List.replicate_succ, List.replicate_zero, List.cons_append, List.nil_append]
  and_intros
  refine Ru.lcm D.int (fun d => [.int (j.sizes.getD d.toNat 0)]) trivial (fun d hd => ?_) ?_
  · and_intros
    refine Ru.eq (keep_at (hc d hd).1 (by rw [f.ls]; exact (hc d hd).2)) ?_
    and_intros
    exact ⟨rfl, rfl⟩
  rw [flat_oneD]
  refine ⟨by rw [List.length_map]; exact Nat.le_trans lc sz_20, ?_⟩
  and_intros
  refine Ru.eq bi_sumL ?_
  exact ⟨rfl, rfl⟩
theorem low_ok (f : j.Fit) (h : RoadAt j S r taken out) (lt : taken.length ≤ 20) (ht : ∀ d ∈ taken, 0 ≤ d ∧ d.toNat < j.m) : callN Tb (k + 3) 9 [.ref r] S = .ok (.int (j.low taken out)) S := by
  refine Ru.is ?_
  have h' : cellAt S r = some (.ins 0 [(2, j.enT), (1, enC taken), (0, enC out)]) := h
  refine Ru.def (fn := ⟨1, 6, p_Road_least_total⟩) rfl rfl ?_; simp only [List.map_cons, List.map_nil, List.length_cons, List.length_nil, Nat.reduceAdd, Nat.reduceSub, List.replicate_succ, List.replicate_zero, List.cons_append, List.nil_append]
  and_intros
  have lk := f.lk
  have hm := f.lm
  rw [List.length_map, lk]
  and_intros
  have e0 : rngD 0 ((j.m : Int)).toNat = ((List.range j.m).map fun (i : Nat) => (i : Int)).map D.int := by
    unfold rngD
    rw [Int.toNat_natCast, List.map_map]
    exact List.map_congr_left fun i _ => by simp
  rw [e0]
  refine Ru.lcm D.int (fun d => if (!out.contains d) = true then [.int d] else []) trivial (fun d hd => ?_) ?_
  · and_intros
    refine Ru.eq nin_ints ?_
    cases q : out.contains d
    · and_intros
      exact ⟨by simp, rfl⟩
    · and_intros
      exact ⟨by simp, rfl⟩
  have e1 : ∀ l : List Int, (l.flatMap fun d => if (!out.contains d) = true then [D.int d] else []) = (l.filter fun d => !out.contains d).map D.int := by
    intro l
    induction l with
    | nil => rfl
    | cons x l ih =>
      rw [List.flatMap_cons, ih, List.filter_cons]
      cases out.contains x <;> rfl
  rw [e1]
  show _ ≤ _ ∧ _
  have e2 : (((List.range j.m).map fun (i : Nat) => (i : Int)).filter fun d => !out.contains d) = j.let_ out := rfl
  rw [e2]
  have l1 : (j.let_ out).length ≤ 20 := by
    unfold Job.let_
    refine Nat.le_trans (List.length_filter_le ..) ?_
    rw [List.length_map, List.length_range]
    exact hm
  refine ⟨by rw [List.length_map]; exact Nat.le_trans l1 sz_20, ?_⟩
  and_intros
  refine Ru.lcm D.int (fun d => [.int (j.keeps.getD d.toNat 0)]) trivial (fun d hd => ?_) ?_
  · and_intros
    refine Ru.eq (keep_at (ht d hd).1 (by rw [lk]; exact (ht d hd).2)) ?_
    and_intros
    exact ⟨rfl, rfl⟩
  rw [flat_oneD]
  refine ⟨by rw [List.length_map]; exact Nat.le_trans lt sz_20, ?_⟩
  and_intros
  refine Ru.eq bi_sumL ?_
  and_intros
  refine Ru.eq (asked_ok (k := k) (ch := j.let_ out) (fun _ _ => in_intsL) f.li (f.it _)) ?_
  exact ⟨rfl, rfl⟩
theorem closed_ok (f : j.Fit) (h : RoadAt j S r taken out) (lt : taken.length ≤ 20) (ht : ∀ d ∈ taken, 0 ≤ d ∧ d.toNat < j.m) : callN Tb (k + 4) 10 [.ref r, .int room, .int b] S = .ok (.bl (j.closed taken out room b)) S := by
  refine Ru.is ?_
  have h' : cellAt S r = some (.ins 0 [(2, j.enT), (1, enC taken), (0, enC out)]) := h
  refine Ru.def (fn := ⟨3, 3, p_Road_is_closed⟩) rfl rfl ?_; simp only [List.map_cons, List.map_nil, List.length_cons, List.length_nil, Nat.reduceAdd, Nat.reduceSub, List.replicate_succ, List.replicate_zero, List.cons_append, List.nil_append]
  and_intros
  refine Ru.eq (size_ok (k := k + 2) f lt ht) ?_
  and_intros
  unfold Job.closed
  cases q : decide (j.size taken > room)
  · and_intros
    refine Ru.eq (low_ok (k := k) f h lt ht) ?_
    and_intros
    exact ⟨rfl, rfl⟩
  · and_intros
    exact ⟨rfl, rfl⟩
theorem addC {d : Int} (h : taken.length < 20) : binR false .add (enC taken) (.tup [.int d]) S = .ok (enC (taken ++ [d])) S := by
  refine (show binR false .add (enC taken) (.tup [.int d]) S = ck ((taken.map D.int).length + 1 ≤ sizeLine) (.ok (.tup (taken.map D.int ++ [.int d])) S) from rfl).trans ?_
  rw [ck_of (by rw [List.length_map]; exact Nat.le_trans h sz_20)]
  simp [enC]
theorem rinit_ru {n : Nat} {Q : D → Sto → Prop} {E : Exc → Sto → Prop} (h : cellAt S n = some (.ins 0 [])) (q : ∀ S', RoadAt j S' n taken out → Keep [n] S S' → Q .non S') :
    Ru (callN Tb (k + 1) 7 [.ref n, j.enT, enC taken, enC out] S) Q E := by
  refine Ru.def (fn := ⟨4, 4, p_Road_init⟩) rfl rfl ?_; simp only [List.map_cons, List.map_nil, List.length_cons, List.length_nil, Nat.reduceAdd, Nat.reduceSub, List.replicate_succ, List.replicate_zero, List.cons_append, List.nil_append]
  and_intros
  refine r_put h (by decide) (by decide) fun S1 l1 c1 k1 => ?_
  and_intros
  refine r_put c1 (by decide) (by simp [putFd]) fun S2 l2 c2 k2 => ?_
  and_intros
  refine r_put c2 (by decide) (by simp [putFd]) fun S3 l3 c3 k3 => ?_
  and_intros
  exact q S3 c3 ((k1.trans k2).trans k3)
theorem on_ru (f : j.Fit) (h : RoadAt j S r taken out) (lt : taken.length < 20) (lo : out.length < 20) {d : Int} {t : Bool} {Q : D → Sto → Prop} {E : Exc → Sto → Prop}
    (q : ∀ S' n, S.length ≤ n → Keep [] S S' → RoadAt j S' n (if t then taken ++ [d] else taken) (if t then out else out ++ [d]) → Q (.ref n) S') : Ru (callN Tb (k + 2) 8 [.ref r, .int d, .bl t] S) Q E := by
  have h' : cellAt S r = some (.ins 0 [(2, j.enT), (1, enC taken), (0, enC out)]) := h
  refine Ru.def (fn := ⟨3, 3, p_Road_on⟩) rfl rfl ?_; simp only [List.map_cons, List.map_nil, List.length_cons, List.length_nil, Nat.reduceAdd, Nat.reduceSub, List.replicate_succ, List.replicate_zero, List.cons_append, List.nil_append]
  cases t with
  | true =>
    and_intros
    refine Ru.eq (addC lt) ?_
    and_intros
    refine r_make fun S1 n hn c1 k1 => ?_
    and_intros
    refine rinit_ru (k := k) c1 fun S2 R k2 => ⟨rfl, ?_⟩
    and_intros
    exact q S2 n (by omega) (((k1.mono (by simp)).trans k2).fresh fun y hy => .inr (by rw [List.mem_singleton.mp hy, hn]; exact Nat.le_refl _)) R
  | false =>
    and_intros
    refine Ru.eq (addC lo) ?_
    and_intros
    refine r_make fun S1 n hn c1 k1 => ?_
    and_intros
    refine rinit_ru (k := k) c1 fun S2 R k2 => ⟨rfl, ?_⟩
    and_intros
    exact q S2 n (by omega) (((k1.mono (by simp)).trans k2).fresh fun y hy => .inr (by rw [List.mem_singleton.mp hy, hn]; exact Nat.le_refl _)) R
end


end
section
/-! ### the best behind a road; the paper -/
set_option maxHeartbeats 800000
section
variable {k r : Nat} {j : Job} {taken out ch : List Int} {room b : Int} {S : Sto}
theorem tot_ok (f : j.Fit) (lc : ch.length ≤ 20) (hc : ∀ d ∈ ch, 0 ≤ d ∧ d.toNat < j.m) : callN Tb (k + 3) 6 [j.enT, enC ch] S = .ok (.int (j.tot ch)) S :=
  total_ok f.li (f.it _) (by omega) fun d hd => ⟨(hc d hd).1, by rw [f.lk]; exact (hc d hd).2⟩
theorem r_sortT {box : Bool} {ns : List Int} {Q : D → Sto → Prop} {E : Exc → Sto → Prop} (hl : ns.length < 64) (q : Ru (mkL box ((srtI ns).map .int) S) Q E) : Ru (biR (.sortedT box) [.tup (ns.map .int)] S) Q E := by
  have e : biR (.sortedT box) [.tup (ns.map .int)] S = mkL box ((srtI ns).map .int) S := by
    show biSortedT box S [.tup (ns.map .int)] = _
    unfold biSortedT
    have h := intsD_map (fun x : Int => x) ns
    rw [List.map_id'] at h
    simp only [h]
    exact ck_of hl
  rw [e]
  exact q
theorem eq_nil {xs : List Int} : cmpR .eq (.lst (xs.map .int)) (.lst []) S = .ok (.bl xs.isEmpty) S := by
  refine Ru.is ?_
  refine (ru_eq (by rw [D.fz]; exact fzs_int xs) (by rw [D.fz]; rfl)).mpr ⟨⟨by rw [D.dp, dps_int]; omega, by rw [D.dp]; simp [D.dps]⟩, ?_⟩
  cases xs with
  | nil => exact ⟨by simp [D.eqv, D.eqvs], rfl⟩
  | cons x xs => exact ⟨by simp [D.eqv, D.eqvs], rfl⟩
theorem in_rd {order : List Int} (f : j.Fit) (rd : j.Rd order taken out) : ∀ d ∈ taken, 0 ≤ d ∧ d.toNat < j.m := fun d hd => by
  have := (rd.mem d).mp (.inr (.inl hd))
  omega
theorem bb_ru (f : j.Fit) : ∀ (order taken out : List Int) (r : Nat) (S : Sto) (b : Int) (c : List Int), j.Rd order taken out → RoadAt j S r taken out → order.length + taken.length + out.length ≤ 20 → ∀ {Q : D → Sto → Prop} {E : Exc → Sto → Prop},
    (∀ S', Keep [] S S' → Q (.tup [.int (j.bb room order taken out (b, c)).1, enC (j.bb room order taken out (b, c)).2]) S') → Ru (callN Tb (k + order.length + 5) 11 [.ref r, .lst (order.map .int), .int room, .tup [.int b, enC c]] S) Q E := by
  intro order
  induction order with
  | nil =>
    intro taken out r S b c rd R hl Q E q
    have ht := in_rd f rd
    simp only [List.length_nil] at hl
    show Ru (callN Tb (k + 0 + 5) _ _ S) Q E
    refine Ru.def (fn := ⟨4, 6, p_best_behind⟩) rfl rfl ?_; simp only [List.map_cons, List.map_nil, List.length_cons, List.length_nil, Nat.reduceAdd, Nat.reduceSub, List.replicate_succ, List.replicate_zero, List.cons_append, List.nil_append]
    and_intros
    refine Ru.eq (closed_ok (k := k) f R (by omega) ht) ?_
    unfold Job.bb at q
    cases h : j.closed taken out room b with
    | true =>
      rw [if_pos (show j.closed taken out room (b, c).1 = true from h)] at q
      and_intros
      exact q S Keep.refl
    | false =>
      rw [if_neg (show ¬ j.closed taken out room (b, c).1 = true by rw [show (b, c).1 = b from rfl, h]; exact Bool.false_ne_true)] at q
      and_intros
      have R' : cellAt S r = some (.ins 0 [(2, j.enT), (1, enC taken), (0, enC out)]) := R
      refine Ru.eq (eq_nil (xs := [])) ?_
      and_intros
      refine Ru.eq (tot_ok (k := k + 1) f (by omega) ht) ?_
      and_intros
      refine r_sortT (by omega) ?_
      and_intros
      exact q S Keep.refl
  | cons d rest ih =>
    intro taken out r S b c rd R hl Q E q
    have ht := in_rd f rd
    simp only [List.length_cons] at hl
    show Ru (callN Tb (k + rest.length + 1 + 5) _ _ S) Q E
    refine Ru.def (fn := ⟨4, 6, p_best_behind⟩) rfl rfl ?_; simp only [List.map_cons, List.map_nil, List.length_cons, List.length_nil, Nat.reduceAdd, Nat.reduceSub, List.replicate_succ, List.replicate_zero, List.cons_append, List.nil_append]
    and_intros
    refine Ru.eq (closed_ok (k := k + rest.length + 1) f R (by omega) ht) ?_
    unfold Job.bb at q
    cases h : j.closed taken out room b with
    | true =>
      rw [if_pos (show j.closed taken out room (b, c).1 = true from h)] at q
      and_intros
      exact q S Keep.refl
    | false =>
      rw [if_neg (show ¬ j.closed taken out room (b, c).1 = true by rw [show (b, c).1 = b from rfl, h]; exact Bool.false_ne_true)] at q
      and_intros
      refine Ru.eq (eq_nil (xs := d :: rest)) ?_
      and_intros
      refine r_tupsA (xs := .int d :: rest.map .int) rfl rfl (by rfl) (Nat.ble_eq.mpr (by simp; omega)) ?_
      show Ru (asgs _ _ [D.int d, .lst (rest.map .int)] _ S) _ _
      and_intros
      have R' : cellAt S r = some (.ins 0 [(2, j.enT), (1, enC taken), (0, enC out)]) := R
      and_intros
      refine on_ru (k := k + rest.length + 3) (t := true) f R (by omega) (by omega) fun S1 n1 l1 k1 R1 => ?_
      and_intros
      refine ih (taken ++ [d]) out n1 S1 b c rd.take R1 (by rw [List.length_append]; simp; omega) fun S2 k2 => ?_
      and_intros
      have R2 := (R.keep k1 (by simp)).keep k2 (by simp)
      have R2' : cellAt S2 r = some (.ins 0 [(2, j.enT), (1, enC taken), (0, enC out)]) := R2
      and_intros
      refine on_ru (k := k + rest.length + 3) (t := false) f R2 (by omega) (by omega) fun S3 n3 l3 k3 R3 => ?_
      and_intros
      refine ih taken (out ++ [d]) n3 S3 _ _ rd.leave R3 (by rw [List.length_append]; simp; omega) fun S4 k4 => ?_
      and_intros
      exact q S4 (((k1.trans k2).trans k3).trans k4)
theorem r_addLB {box : Bool} {n : Nat} {xs ys : List D} {Q : D → Sto → Prop} {E : Exc → Sto → Prop} (h : cellAt S n = some (.lst ys)) (hl : xs.length + ys.length ≤ sizeLine) (q : Ru (mkL box (xs ++ ys) S) Q E) : Ru (binR box .add (.lst xs) (.ref n) S) Q E := by
  have e : binR box .add (.lst xs) (.ref n) S = mkL box (xs ++ ys) S := by
    show (match unbox S (.lst xs), unbox S (.ref n) with | .lst a, .lst b => ck (a.length + b.length ≤ sizeLine) (mkL box (a ++ b) S) | _, _ => .err) = _
    have u : unbox S (.ref n) = .lst ys := by simp [unbox, h]
    rw [u]
    exact ck_of hl
  rw [e]
  exact q
end


end
section
/-! ### best -/
set_option maxHeartbeats 800000
section
variable {k : Nat} {j : Job} {room : Int} {S : Sto}
theorem srtI_perm (l : List Int) : (srtI l).Perm l := List.mergeSort_perm ..
theorem srtI_le (l : List Int) : (srtI l).Pairwise (· ≤ ·) := by
  have h := List.pairwise_mergeSort (le := fun a b : Int => decide (a ≤ b)) (fun a b c h1 h2 => by simp at *; omega) (fun a b => by simp; omega) l
  exact h.imp fun h => by simpa using h
theorem srtI_strict {l : List Int} (h : l.Nodup) : (srtI l).Pairwise (· < ·) := by
  have h1 := srtI_le l
  have h2 : (srtI l).Nodup := (srtI_perm l).nodup_iff.mpr h
  refine (h1.and h2).imp fun ⟨a, b⟩ => ?_
  omega
def upTo (m : Nat) : List Int := (List.range m).map fun (i : Nat) => (i : Int)
theorem mem_upTo {m : Nat} {d : Int} : d ∈ upTo m ↔ 0 ≤ d ∧ d < m := by
  unfold upTo
  rw [List.mem_map]
  constructor
  · rintro ⟨i, hi, rfl⟩
    have := List.mem_range.mp hi
    omega
  · rintro ⟨h1, h2⟩
    exact ⟨d.toNat, List.mem_range.mpr (by omega), by omega⟩
theorem upTo_nd (m : Nat) : (upTo m).Nodup := by
  unfold upTo
  refine (List.pairwise_map).mpr (List.nodup_range.imp fun h z => h (by omega))
theorem rngD_upTo (m : Nat) : rngD 0 m = (upTo m).map D.int := by
  unfold rngD upTo
  rw [List.map_map]
  exact List.map_congr_left fun i _ => by simp
theorem zip_map2 {α : Type} (f g : α → D) : ∀ l : List α, (l.map f).zip (l.map g) = l.map fun x => (f x, g x)
  | [] => rfl
  | x :: l => by rw [List.map_cons, List.map_cons, List.zip_cons_cons, zip_map2 f g l]; rfl
theorem keys_ok {l : List Int} {g : Int → Int} (hl : l.length ≤ 1000) : ∃ o : List Int, o.Perm l ∧ keysR false (l.map .int) (l.map fun d => .tup [.int (g d), .int d]) S = .ok (.lst (o.map .int)) S := by
  refine ⟨l.mergeSort fun a b => PySem.W.dataLe false (fun p : D × D => p.2.py) (.int a, .tup [.int (g a), .int a]) (.int b, .tup [.int (g b), .int b]), List.mergeSort_perm .., ?_⟩
  have fz : D.fzs (l.map fun d => D.tup [.int (g d), .int d]) = true := by
    refine fzs_map fun d _ => ?_
    simp [D.fz, D.fzs]
  have dp : D.dps (l.map fun d => D.tup [.int (g d), .int d]) ≤ 60 := dps_map fun d _ => by simp [D.dp, D.dps]
  have so : sortable (D.pys (l.map fun d => D.tup [.int (g d), .int d])) := by
    rw [pys_map, List.map_map]
    refine ⟨fun a ha b hb => ?_, .inl fun a ha => ?_⟩
    · obtain ⟨x, _, rfl⟩ := List.mem_map.mp ha
      obtain ⟨y, _, rfl⟩ := List.mem_map.mp hb
      simp [D.py, D.pys, PySem.W.alike, PySem.W.alikeAll]
    · obtain ⟨x, _, rfl⟩ := List.mem_map.mp ha
      exact ⟨_, _, by simp only [Function.comp, D.py, D.pys]; rfl⟩
  unfold keysR
  refine (ck_of ⟨by rw [List.length_map, List.length_map], by rw [List.length_map]; exact sz_le hl, fz, dp, so⟩).trans ?_
  rw [zip_map2]
  have e : (l.map fun x => (D.int x, D.tup [.int (g x), .int x])).mergeSort (PySem.W.dataLe false fun p => p.2.py) = (l.mergeSort fun a b => PySem.W.dataLe false (fun p : D × D => p.2.py) (.int a, .tup [.int (g a), .int a]) (.int b, .tup [.int (g b), .int b])).map fun x => (D.int x, D.tup [.int (g x), .int x]) :=
    (List.map_mergeSort (f := fun x : Int => (D.int x, D.tup [.int (g x), .int x])) fun a _ b _ => rfl).symm
  rw [e, List.map_map]
  rfl
theorem rd_start {o : List Int} (h : o.Perm (upTo j.m)) : j.Rd o [] [] := by
  refine ⟨fun d => ?_, fun d _ => ⟨by simp, by simp⟩, (fun d hd => by cases hd), h.nodup_iff.mpr (upTo_nd _)⟩
  rw [h.mem_iff, mem_upTo]
  simp
/-- what best tells -/
structure Job.Best (j : Job) (room : Int) (c : List Int) (b : Int) : Prop where
  inc : c.Pairwise (· < ·)
  rng : ∀ d ∈ c, 0 ≤ d ∧ d < j.m
  fit : j.size c ≤ room
  tot : b = j.tot c
  low : ∀ ch : List Int, ch.Nodup → (∀ d ∈ ch, 0 ≤ d ∧ d < j.m) → j.size ch ≤ room → b ≤ j.tot ch
theorem best_is (f : j.Ok) (h0 : 0 ≤ room) {o : List Int} (h : o.Perm (upTo j.m)) {res : Int × List Int} (F : j.Fd room o [] (j.tot [], []) res) : j.Best room res.2 res.1 := by
  have rd := rd_start (j := j) h
  have low : ∀ ch : List Int, ch.Nodup → (∀ d ∈ ch, 0 ≤ d ∧ d < j.m) → j.size ch ≤ room → res.1 ≤ j.tot ch := fun ch nd hr hs => by
    have p : (o.filter fun d => ch.contains d).Perm ch := by
      refine (List.perm_ext_iff_of_nodup (rd.nd.filter _) nd).mpr fun d => ?_
      rw [List.mem_filter, h.mem_iff, mem_upTo, List.contains_iff_mem]
      exact ⟨fun z => z.2, fun z => ⟨hr d z, z⟩⟩
    have q := F.low _ List.filter_sublist (by
      show keepsOf j.sizes ([] ++ _) ≤ room
      rw [List.nil_append, keeps_perm p]
      exact hs)
    rw [List.nil_append, show j.tot (o.filter fun d => ch.contains d) = j.tot ch from Tot_perm p] at q
    exact q
  rcases F.was with e | ⟨T, hT, hs, e⟩
  · rw [e] at low ⊢
    exact ⟨List.Pairwise.nil, (fun d hd => by cases hd), h0, rfl, low⟩
  · rw [List.nil_append] at hs e
    rw [e] at low ⊢
    have p := srtI_perm T
    refine ⟨srtI_strict (rd.nd.sublist hT), fun d hd => ?_, ?_, ?_, low⟩
    · have := h.mem_iff.mp (hT.subset (p.mem_iff.mp hd))
      exact mem_upTo.mp this
    · show keepsOf j.sizes (srtI T) ≤ room
      rw [keeps_perm p]
      exact hs
    · exact (Tot_perm p).symm
end


end
section
/-! ### the paper, and how it is walked, in plain lists -/
abbrev Way := List Int × List Int
def Job.pap (j : Job) (room b : Int) : List Int → List Int → List Int → List Int
  | [], _, _ => [-1]
  | d :: rest, taken, out => if j.closed taken out room b then [-1] else d :: (j.pap room b rest (taken ++ [d]) out ++ j.pap room b rest taken (out ++ [d]))
/-- the roads that it closes -/
def Job.lv (j : Job) (room b : Int) : List Int → List Int → List Int → List Way
  | [], taken, out => [(taken, out)]
  | d :: rest, taken, out => if j.closed taken out room b then [(taken, out)] else j.lv room b rest (taken ++ [d]) out ++ j.lv room b rest taken (out ++ [d])
/-- one item of the paper; the road to be walked next stands first -/
def stp (m : Nat) : List Way × List Way → Int → Option (List Way × List Way)
  | ([], _), _ => none
  | (t :: r, fs), x => if x = -1 then some (r, fs ++ [t]) else if 0 ≤ x ∧ x < m ∧ x ∉ t.1 ∧ x ∉ t.2 then some ((t.1 ++ [x], t.2) :: (t.1, t.2 ++ [x]) :: r, fs) else none
def rn (m : Nat) (s : List Way × List Way) : List Int → Option (List Way × List Way)
  | [] => some s
  | x :: xs => (stp m s x).bind fun s => rn m s xs
section
variable {j : Job} {room b : Int} {m : Nat}
theorem rn_app (s : List Way × List Way) : ∀ (xs ys : List Int), rn m s (xs ++ ys) = (rn m s xs).bind fun s => rn m s ys := by
  intro xs
  induction xs generalizing s with
  | nil => intro ys; rfl
  | cons x xs ih =>
    intro ys
    rw [List.cons_append, rn, rn]
    cases stp m s x with
    | none => rfl
    | some s' => exact ih s' ys
theorem rn_take {s z : List Way × List Way} {l : List Int} (h : rn m s l = some z) (i : Nat) : ∃ s', rn m s (l.take i) = some s' := by
  rw [← List.take_append_drop i l, rn_app] at h
  cases e : rn m s (l.take i) with
  | none => rw [e] at h; cases h
  | some s' => exact ⟨s', rfl⟩
theorem rn_next {s s' z : List Way × List Way} {l : List Int} {i : Nat} {x : Int} (h : rn m s l = some z) (hs : rn m s (l.take i) = some s') (hx : l[i]? = some x) : ∃ s2, stp m s' x = some s2 ∧ rn m s (l.take (i + 1)) = some s2 := by
  obtain ⟨s2, h2⟩ := rn_take h (i + 1)
  rw [List.take_succ, hx, rn_app, hs] at h2
  have h3 : rn m s' [x] = some s2 := h2
  rw [rn] at h3
  cases e : stp m s' x with
  | none => rw [e] at h3; cases h3
  | some s3 =>
    rw [e] at h3
    have h4 : some s3 = some s2 := h3
    refine ⟨s2, h4, ?_⟩
    rw [List.take_succ, hx, rn_app, hs]
    exact h2
theorem rn_pap : ∀ (order taken out : List Int) (r fs : List Way) (rest : List Int), j.Rd order taken out → rn j.m ((taken, out) :: r, fs) (j.pap room b order taken out ++ rest) = rn j.m (r, fs ++ j.lv room b order taken out) rest := by
  have leaf : ∀ (taken out : List Int) (r fs : List Way) (rest : List Int), rn j.m ((taken, out) :: r, fs) ([-1] ++ rest) = rn j.m (r, fs ++ [(taken, out)]) rest := fun taken out r fs rest => by
    rw [List.singleton_append, rn, stp, if_pos rfl]
    rfl
  intro order
  induction order with
  | nil => intro taken out r fs rest _; rw [Job.pap, Job.lv]; exact leaf ..
  | cons d rest' ih =>
    intro taken out r fs rest rd
    rw [Job.pap, Job.lv]
    by_cases h : j.closed taken out room b = true
    · rw [if_pos h, if_pos h]
      exact leaf ..
    · rw [if_neg h, if_neg h]
      have hd := (rd.mem d).mp (.inl (List.mem_cons_self ..))
      have ht := rd.to d (List.mem_cons_self ..)
      rw [List.cons_append, rn, stp, if_neg (by omega), if_pos ⟨hd.1, hd.2, ht.1, ht.2⟩, Option.bind_some, List.append_assoc, ih _ _ _ _ _ rd.take, ih _ _ _ _ _ rd.leave, List.append_assoc]
theorem rn_all {order : List Int} (rd : j.Rd order [] []) : rn j.m ([([], [])], []) (j.pap room b order [] []) = some ([], j.lv room b order [] []) := by
  have h := rn_pap (room := room) (b := b) order [] [] [] [] [] rd
  rw [List.append_nil] at h
  rw [h, rn]
  rfl
theorem lv_closed (ok : j.Ok) : ∀ (order taken out : List Int), j.Rd order taken out → (∀ T, T.Sublist order → j.size (taken ++ T) ≤ room → b ≤ j.tot (taken ++ T)) → ∀ t ∈ j.lv room b order taken out, j.closed t.1 t.2 room b = true := by
  intro order
  induction order with
  | nil =>
    intro taken out rd hb t ht
    rw [Job.lv, List.mem_singleton] at ht
    rw [ht]
    exact leaf_closed ok rd hb
  | cons d rest ih =>
    intro taken out rd hb t ht
    rw [Job.lv] at ht
    by_cases h : j.closed taken out room b = true
    · rw [if_pos h, List.mem_singleton] at ht
      rw [ht]
      exact h
    · rw [if_neg h] at ht
      rcases List.mem_append.mp ht with ht | ht
      · refine ih _ _ rd.take (fun T hT hs => ?_) t ht
        have := hb (d :: T) (hT.cons_cons d)
        rw [show taken ++ d :: T = taken ++ [d] ++ T by simp] at this
        exact this hs
      · exact ih _ _ rd.leave (fun T hT hs => hb T (hT.cons d) hs) t ht
theorem pap_len : ∀ (order taken out : List Int), (j.pap room b order taken out).length + 1 ≤ 2 ^ (order.length + 1) := by
  intro order
  induction order with
  | nil => intro taken out; rw [Job.pap]; decide
  | cons d rest ih =>
    intro taken out
    have h1 := ih (taken ++ [d]) out
    have h2 := ih taken (out ++ [d])
    rw [Job.pap, List.length_cons, Nat.pow_succ 2 (rest.length + 1)]
    split
    · simp
      omega
    · rw [List.length_cons, List.length_append]
      omega
/-- a way's designs: each once, all in range -/
def Wy (m : Nat) (t : Way) : Prop := (t.1 ++ t.2).Nodup ∧ ∀ d ∈ t.1 ++ t.2, 0 ≤ d ∧ d < m
theorem wy_len {t : Way} (h : Wy m t) : t.1.length + t.2.length ≤ m := by
  have p : ((upTo m).filter fun d => (t.1 ++ t.2).contains d).Perm (t.1 ++ t.2) := by
    refine (List.perm_ext_iff_of_nodup ((upTo_nd m).filter _) h.1).mpr fun d => ?_
    rw [List.mem_filter, mem_upTo, List.contains_iff_mem]
    exact ⟨fun z => z.2, fun z => ⟨h.2 d z, z⟩⟩
  have l := p.length_eq
  have l2 : ((upTo m).filter fun d => (t.1 ++ t.2).contains d).length ≤ (upTo m).length := List.length_filter_le ..
  have l3 : (upTo m).length = m := by unfold upTo; rw [List.length_map, List.length_range]
  rw [List.length_append] at l
  omega
theorem wy_take {t : Way} {x : Int} (h : Wy m t) (h0 : 0 ≤ x) (h1 : x < m) (n1 : x ∉ t.1) (n2 : x ∉ t.2) : Wy m (t.1 ++ [x], t.2) ∧ Wy m (t.1, t.2 ++ [x]) := by
  have nx : x ∉ t.1 ++ t.2 := fun z => (List.mem_append.mp z).elim n1 n2
  have key : ∀ l : List Int, l.Perm (x :: (t.1 ++ t.2)) → l.Nodup ∧ ∀ d ∈ l, 0 ≤ d ∧ d < m := fun l p => by
    refine ⟨p.nodup_iff.mpr (List.nodup_cons.mpr ⟨nx, h.1⟩), fun d hd => ?_⟩
    rcases List.mem_cons.mp (p.mem_iff.mp hd) with e | hd
    · rw [e]; exact ⟨h0, h1⟩
    · exact h.2 d hd
  refine ⟨key _ ?_, key _ ?_⟩
  · show ((t.1 ++ [x]) ++ t.2).Perm _
    rw [List.append_assoc]
    exact List.perm_middle
  · show (t.1 ++ (t.2 ++ [x])).Perm _
    rw [← List.append_assoc]
    exact List.perm_append_singleton _ _
theorem stp_wy {s s' : List Way × List Way} {x : Int} (h : stp m s x = some s') (h1 : ∀ t ∈ s.1, Wy m t) (h2 : ∀ t ∈ s.2, Wy m t) : (∀ t ∈ s'.1, Wy m t) ∧ (∀ t ∈ s'.2, Wy m t) := by
  obtain ⟨ws, fs⟩ := s
  cases ws with
  | nil => cases h
  | cons t r =>
    have ht := h1 t (List.mem_cons_self ..)
    have hr : ∀ u ∈ r, Wy m u := fun u hu => h1 u (List.mem_cons_of_mem _ hu)
    rw [stp] at h
    split at h
    · cases h
      refine ⟨hr, fun u hu => ?_⟩
      rcases List.mem_append.mp hu with hu | hu
      · exact h2 u hu
      · rw [List.mem_singleton.mp hu]; exact ht
    · split at h
      · rename_i c
        cases h
        obtain ⟨w1, w2⟩ := wy_take ht c.1 c.2.1 c.2.2.1 c.2.2.2
        refine ⟨fun u hu => ?_, h2⟩
        rcases List.mem_cons.mp hu with e | hu
        · rw [e]; exact w1
        · rcases List.mem_cons.mp hu with e | hu
          · rw [e]; exact w2
          · exact hr u hu
      · cases h
theorem rn_wy {s : List Way × List Way} : ∀ {l : List Int} {s0 : List Way × List Way}, rn m s0 l = some s → (∀ t ∈ s0.1, Wy m t) → (∀ t ∈ s0.2, Wy m t) → (∀ t ∈ s.1, Wy m t) ∧ (∀ t ∈ s.2, Wy m t)
  | [], s0, h, h1, h2 => by cases h; exact ⟨h1, h2⟩
  | x :: xs, s0, h, h1, h2 => by
    rw [rn] at h
    cases e : stp m s0 x with
    | none => rw [e] at h; cases h
    | some s1 =>
      rw [e] at h
      obtain ⟨q1, q2⟩ := stp_wy e h1 h2
      exact rn_wy h q1 q2
theorem rn_len {s : List Way × List Way} : ∀ {l : List Int} {s0 : List Way × List Way}, rn m s0 l = some s → s.1.length ≤ s0.1.length + l.length ∧ s.2.length ≤ s0.2.length + l.length
  | [], s0, h => by cases h; exact ⟨Nat.le_refl _, Nat.le_refl _⟩
  | x :: xs, s0, h => by
    rw [rn] at h
    cases e : stp m s0 x with
    | none => rw [e] at h; cases h
    | some s1 =>
      rw [e] at h
      obtain ⟨q1, q2⟩ := rn_len (l := xs) (s0 := s1) h
      have e2 : s1.1.length ≤ s0.1.length + 1 ∧ s1.2.length ≤ s0.2.length + 1 := by
        obtain ⟨ws, fs⟩ := s0
        cases ws with
        | nil => cases e
        | cons t r =>
          rw [stp] at e
          split at e
          · cases e; simp; omega
          · split at e
            · cases e; simp
            · cases e
      rw [List.length_cons]
      omega
end


end
section
/-! ### paper_of, best: the paper told -/
set_option maxHeartbeats 800000
section
variable {k r : Nat} {j : Job} {taken out ch : List Int} {room b : Int} {S : Sto}
theorem pow2 : ∀ n : Nat, n ≤ 12 → 2 ^ n ≤ 4096 := by decide
theorem paper2_ru (f : j.Fit) : ∀ (order taken out : List Int) (r : Nat) (S : Sto), j.Rd order taken out → RoadAt j S r taken out → order.length + taken.length + out.length ≤ 11 → (∀ T, T.Sublist order → j.size (taken ++ T) ≤ room → b ≤ j.tot (taken ++ T)) → ∀ {Q : D → Sto → Prop} {E : Exc → Sto → Prop},
    (∀ S' n, S.length ≤ n → cellAt S' n = some (.lst ((j.pap room b order taken out).map .int)) → Keep [] S S' → Q (.ref n) S') → Ru (callN Tb (k + order.length + 5) 12 [.ref r, .lst (order.map .int), .int room, .int b] S) Q E := by
  intro order
  induction order with
  | nil =>
    intro taken out r S rd R hl hb Q E q
    have ht := in_rd f rd
    simp only [List.length_nil] at hl
    show Ru (callN Tb (k + 0 + 5) _ _ S) Q E
    refine Ru.def (fn := ⟨4, 7, p_paper_of⟩) rfl rfl ?_; simp only [List.map_cons, List.map_nil, List.length_cons, List.length_nil, Nat.reduceAdd, Nat.reduceSub, List.replicate_succ, List.replicate_zero, List.cons_append, List.nil_append]
    and_intros
    refine Ru.eq (closed_ok (k := k) f R (by omega) ht) ?_
    rw [leaf_closed f.toOk rd hb]
    and_intros
    refine r_new fun S1 n h1 h2 h3 => ?_
    and_intros
    exact q S1 n (by omega) h2 h3
  | cons d rest ih =>
    intro taken out r S rd R hl hb Q E q
    have ht := in_rd f rd
    simp only [List.length_cons] at hl
    rw [Job.pap] at q
    show Ru (callN Tb (k + rest.length + 1 + 5) _ _ S) Q E
    refine Ru.def (fn := ⟨4, 7, p_paper_of⟩) rfl rfl ?_; simp only [List.map_cons, List.map_nil, List.length_cons, List.length_nil, Nat.reduceAdd, Nat.reduceSub, List.replicate_succ, List.replicate_zero, List.cons_append, List.nil_append]
    and_intros
    refine Ru.eq (closed_ok (k := k + rest.length + 1) f R (by omega) ht) ?_
    cases h : j.closed taken out room b with
    | true =>
      rw [if_pos h] at q
      and_intros
      refine r_new fun S1 n h1 h2 h3 => ?_
      and_intros
      exact q S1 n (by omega) h2 h3
    | false =>
      rw [if_neg (by rw [h]; exact Bool.false_ne_true)] at q
      and_intros
      refine r_tupsA (xs := .int d :: rest.map .int) rfl rfl (by rfl) (Nat.ble_eq.mpr (by simp; omega)) ?_
      show Ru (asgs _ _ [D.int d, .lst (rest.map .int)] _ S) _ _
      and_intros
      have R' : cellAt S r = some (.ins 0 [(2, j.enT), (1, enC taken), (0, enC out)]) := R
      and_intros
      refine on_ru (k := k + rest.length + 3) (t := true) f R (by omega) (by omega) fun S1 n1 l1 k1 R1 => ?_
      and_intros
      refine ih (taken ++ [d]) out n1 S1 rd.take R1 (by rw [List.length_append]; simp; omega) (fun T hT hs => ?_) fun S2 n2 l2 c2 k2 => ?_
      · have := hb (d :: T) (hT.cons_cons d)
        rw [show taken ++ d :: T = taken ++ [d] ++ T by simp] at this
        exact this hs
      and_intros
      have s2 := pap_len (j := j) (room := room) (b := b) rest (taken ++ [d]) out
      have s4 := pap_len (j := j) (room := room) (b := b) rest taken (out ++ [d])
      have b4 := pow2 (rest.length + 1) (by omega)
      have b5 : (4096 * 2 + 1 : Nat) ≤ sizeLine := by decide
      refine r_addLB c2 (by simp; omega) ?_
      and_intros
      have R2 := (R.keep k1 (by simp)).keep k2 (by simp)
      have R2' : cellAt S2 r = some (.ins 0 [(2, j.enT), (1, enC taken), (0, enC out)]) := R2
      and_intros
      refine on_ru (k := k + rest.length + 3) (t := false) f R2 (by omega) (by omega) fun S3 n3 l3 k3 R3 => ?_
      and_intros
      refine ih taken (out ++ [d]) n3 S3 rd.leave R3 (by rw [List.length_append]; simp; omega) (fun T hT hs => hb T (hT.cons d) hs) fun S4 n4 l4 c4 k4 => ?_
      and_intros
      refine r_addLB c4 (by simp; omega) ?_
      refine r_new fun S5 n5 h5 c5 k5 => ?_
      and_intros
      refine q S5 n5 ?_ ?_ ((((k1.trans k2).trans k3).trans k4).trans k5)
      · have := k1.le
        have := k2.le
        have := k3.le
        have := k4.le
        omega
      · rw [c5]
        simp
theorem best2_ru (f : j.Fit) (hm : j.m ≤ 11) (h0 : 0 ≤ room) {Q : D → Sto → Prop} {E : Exc → Sto → Prop}
    (q : ∀ S' n o c b, Keep [] S S' → S.length ≤ n → j.Rd o [] [] → o.length = j.m → cellAt S' n = some (.lst ((j.pap room b o [] []).map .int)) → j.Best room c b → (∀ t ∈ j.lv room b o [] [], j.closed t.1 t.2 room b = true) → Q (.tup [enC c, .int b, .ref n]) S') : Ru (callN Tb (k + 19) 13 [j.enT, .int room] S) Q E := by
  have lk := f.lk
  refine Ru.def (fn := ⟨2, 8, p_best⟩) rfl rfl ?_; simp only [List.map_cons, List.map_nil, List.length_cons, List.length_nil, Nat.reduceAdd, Nat.reduceSub, List.replicate_succ, List.replicate_zero, List.cons_append, List.nil_append]
  and_intros
  rw [ev, ru_bind]
  and_intros
  rw [List.length_map, lk]
  refine ru_ck.mpr ⟨⟨by unfold smallI; omega, by rw [Int.toNat_natCast]; omega⟩, ?_⟩
  rw [Int.toNat_natCast, ru_bind, rngD_upTo]
  refine Ru.lcm D.int (fun d => [.tup [.int (-(j.keeps.getD d.toNat 0) - j.sizes.getD d.toNat 0), .int d]]) trivial (fun d hd => ?_) ?_
  · have hd := mem_upTo.mp hd
    show Ru ((ev _ _ [some (.int d), some (.lst (j.sizes.map .int)), some (.lst (j.keeps.map .int))] S).bind _) _ _
    rw [ru_bind]
    and_intros
    refine Ru.eq (keep_at hd.1 (by rw [lk]; omega)) ?_
    and_intros
    refine Ru.eq (keep_at hd.1 (by rw [f.ls]; omega)) ?_
    and_intros
    exact ⟨rfl, rfl⟩
  rw [flat_oneD]
  obtain ⟨o, po, eo⟩ := keys_ok (S := S) (l := upTo j.m) (g := fun d => -(j.keeps.getD d.toNat 0) - j.sizes.getD d.toNat 0) (by unfold upTo; rw [List.length_map, List.length_range]; omega)
  refine Ru.eq eo ?_
  have lo : o.length = j.m := by rw [po.length_eq]; unfold upTo; rw [List.length_map, List.length_range]
  have rd := rd_start (j := j) po
  and_intros
  refine r_make fun S1 n1 h1 c1 k1 => ?_
  and_intros
  refine rinit_ru (taken := []) (out := []) c1 fun S2 R2 k2 => ⟨rfl, ?_⟩
  and_intros
  refine Ru.eq (tot_ok (ch := []) f (by simp) (fun d hd => by cases hd)) ?_
  and_intros
  have e18 : k + 18 = (k + 2 + (11 - o.length)) + o.length + 5 := by omega
  rw [e18]
  refine bb_ru f o [] [] n1 S2 (j.tot []) [] rd R2 (by simp; omega) fun S3 k3 => ?_
  have F := bb_ok (room := room) f.toOk o [] [] (j.tot [], []) rd
  have B := best_is f.toOk h0 po F
  generalize j.bb room o [] [] (j.tot [], []) = res at F B
  obtain ⟨b, c⟩ := res
  rw [← e18]
  and_intros
  refine r_make fun S4 n4 h4 c4 k4 => ?_
  and_intros
  refine rinit_ru (taken := []) (out := []) c4 fun S5 R5 k5 => ⟨rfl, ?_⟩
  and_intros
  rw [e18]
  refine paper2_ru f o [] [] n4 S5 rd R5 (by simp; omega) F.low fun S6 n6 l6 c6 k6 => ?_
  rw [← e18]
  and_intros
  have l1 := k1.le
  have l2 := k2.le
  have l3 := k3.le
  have l4 := k4.le
  have l5 := k5.le
  have kA : Keep [] S S2 := ((k1.mono (by simp)).trans k2).fresh fun y hy => .inr (by rw [List.mem_singleton.mp hy, h1]; exact Nat.le_refl _)
  have kB : Keep [] S3 S5 := ((k4.mono (by simp)).trans k5).fresh fun y hy => .inr (by rw [List.mem_singleton.mp hy, h4]; exact Nat.le_refl _)
  exact q S6 n6 o c b (((kA.trans k3).trans kB).trans k6) (by omega) rd lo c6 B (lv_closed f.toOk o [] [] rd F.low)
end


end
section
/-! ### the law's rooms -/
set_option maxHeartbeats 800000
section
variable {k b : Nat} {j : Job} {room : Int} {S : Sto} {Q : D → Sto → Prop} {E : Exc → Sto → Prop}
theorem take_ru {n : Int} (hb : BagAt S b) (n0 : 0 < n) (n1 : n < 1073741824) (q : ∀ d S', 0 ≤ d → d < n → Keep [b] S S' → BagAt S' b → Q (.int d) S') : Ru (callN Tb (k + 1) 18 [.ref b, .int n] S) Q E := by
  obtain ⟨d, S', e, d0, d1, kk, bb⟩ := take_ok (k := k) hb n0 n1
  exact Ru.eq e (q d S' d0 d1 kk bb)
theorem sum_nn : ∀ {l : List Int}, (∀ x ∈ l, 0 ≤ x) → 0 ≤ l.sum
  | [], _ => by simp
  | x :: l, h => by
    have h1 := h x (List.mem_cons_self ..)
    have h2 := sum_nn (l := l) fun y hy => h y (List.mem_cons_of_mem _ hy)
    rw [List.sum_cons]
    omega
theorem sum_up {B : Int} : ∀ {l : List Int}, (∀ x ∈ l, x ≤ B) → l.sum ≤ l.length * B
  | [], _ => by simp
  | x :: l, h => by
    have h1 := h x (List.mem_cons_self ..)
    have h2 := sum_up (B := B) (l := l) fun y hy => h y (List.mem_cons_of_mem _ hy)
    rw [List.sum_cons, List.length_cons]
    have e : ((l.length + 1 : Nat) : Int) * B = l.length * B + B := by
      rw [Int.natCast_add, Int.add_mul]
      simp
    omega
theorem sumL_ok (l : List Int) : biR .sumL [.lst (l.map .int)] S = .ok (.int l.sum) S := by
  have h := bi_sumL (l := l) (f := fun x => x) (S := S)
  rw [List.map_id'] at h
  exact h
theorem room_ru (ls : j.sizes.length ≤ 11) (s0 : ∀ x ∈ j.sizes, 0 ≤ x ∧ x ≤ 10000001) (hb : BagAt S b) (q : ∀ room S', 0 ≤ room → Keep [b] S S' → BagAt S' b → Q (.int room) S') : Ru (callN Tb (k + 2) 21 [.ref b, j.enT] S) Q E := by
  have h0 := sum_nn fun x hx => (s0 x hx).1
  have h1 := sum_up (B := 10000001) fun x hx => (s0 x hx).2
  have h2 : j.sizes.sum ≤ 110000011 := by
    have : (j.sizes.length : Int) * 10000001 ≤ 11 * 10000001 := Int.mul_le_mul_of_nonneg_right (by omega) (by omega)
    omega
  refine Ru.def (fn := ⟨2, 3, p_l_room⟩) rfl rfl ?_; simp only [List.map_cons, List.map_nil, List.length_cons, List.length_nil, Nat.reduceAdd, Nat.reduceSub, List.replicate_succ, List.replicate_zero, List.cons_append, List.nil_append]
  and_intros
  refine Ru.eq (sumL_ok _) ?_
  and_intros
  refine take_ru (k := k) hb (by omega) (by omega) fun d1 S1 a1 a2 k1 b1 => ?_
  and_intros
  refine Ru.eq (show binR false .pow (.int 10) (.int 9) S1 = .ok (.int 1000000000) S1 from by simp [binR, ck]) ?_
  and_intros
  refine take_ru (k := k) b1 (by omega) (by omega) fun d2 S2 a3 a4 k2 b2 => ?_
  and_intros
  refine take_ru (k := k) b2 (by omega) (by omega) fun t S3 a5 a6 k3 b3 => ?_
  have kk := (k1.trans k2).trans k3
  have ht : t = 0 ∨ t = 1 ∨ t = 2 ∨ t = 3 := by omega
  rcases ht with rfl | rfl | rfl | rfl
  · refine Ru.eq (a := .int d1) (S := S3) rfl ?_
    and_intros
    exact q _ _ a1 kk b3
  · refine Ru.eq (a := .int j.sizes.sum) (S := S3) rfl ?_
    and_intros
    exact q _ _ h0 kk b3
  · refine Ru.eq (a := .int 0) (S := S3) rfl ?_
    and_intros
    exact q _ _ (Int.le_refl _) kk b3
  · refine Ru.eq (a := .int d2) (S := S3) rfl ?_
    and_intros
    exact q _ _ a3 kk b3
end


end
section
/-! ### roads_of -/
set_option maxHeartbeats 1000000
section
variable {k w n : Nat} {j : Job} {room b : Int} {S : Sto} {Q : D → Sto → Prop} {E : Exc → Sto → Prop} {xs ys : List D} {F : CE} {ρ : Iv.Env}
theorem isnil_ru {neg : Bool} {v : Nat} (hv : ρ[v]? = some (some (.ref w))) (hc : cellAt S w = some (.lst xs)) (q : Q (.bl (if neg = true then !xs.isEmpty else xs.isEmpty)) S) : Ru (ev F (.isnil neg (.var v)) ρ S) Q E := by
  refine Ru.eq (a := .bl (if neg = true then !xs.isEmpty else xs.isEmpty)) (S := S) ?_ q
  rw [ev, ev_var hv, R.bind_ok]
  have e : lstOf S (.ref w) = some xs := by
    show seqOf S (.ref w) = some xs
    rw [seqOf_ref, hc]
  rw [e]
theorem tupf_ru {ts : List Tg} {Qe : Iv.Env → Sto → Prop} (h2 : ts.length = 2) (hc : cellAt S w = some (.lst xs)) (h1 : 1 ≤ xs.length) (hl : xs.length ≤ 16384)
    (q : ∀ S' n, n = S.length → cellAt S' n = some (.lst (xs.take (xs.length - 1))) → Keep [] S S' → Ru (asgs F ts (D.ref n :: xs.drop (xs.length - 1)) ρ S') Qe E) : Ru (asg F (Tg.tupf true ts) (D.ref w) ρ S) Qe E := by
  rw [asg]
  have e : lstOf S (.ref w) = some xs := by
    show seqOf S (.ref w) = some xs
    rw [seqOf_ref, hc]
  rw [e]
  refine ru_ck.mpr ⟨⟨h2, h1, hl⟩, ?_⟩
  show Ru ((mkL true (xs.take (xs.length - 1)) S).bind _) _ _
  rw [ru_bind]
  exact Ru.eq rfl (q _ _ rfl cell_push Keep.push)
theorem augB_ru (h : cellAt S n = some (.lst xs)) (hl : xs.length + ys.length ≤ sizeLine) (q : ∀ S', S'.length = S.length → cellAt S' n = some (.lst (xs ++ ys)) → Keep [n] S S' → Q (.ref n) S') : Ru (augR Bop.add (D.ref n) (D.lst ys) S) Q E := by
  refine Ru.eq (a := .ref n) (S := setAt S n (.lst (xs ++ ys))) ?_ (q _ setAt_len (cell_setS (by rw [h]; rfl)) Keep.set)
  show (match cellAt S n, unbox S (.lst ys) with | some (.lst xs), .lst zs => ck (xs.length + zs.length ≤ sizeLine ∧ isRef (.lst ys) = false) (R.ok (D.ref n) (setAt S n (.lst (xs ++ zs)))) | _, _ => .err) = _
  rw [h]
  exact ck_of ⟨hl, rfl⟩
theorem appS_ru {d : D} (h : cellAt S n = some (.lst xs)) (hl : xs.length < sizeLine) (q : ∀ S', S'.length = S.length → cellAt S' n = some (.lst (xs ++ [d])) → Keep [n] S S' → Q .non S') : Ru (bmR .append (.ref n) [d] S) Q E := by
  rw [bm_append h, ru_ck, ru_ok]
  exact ⟨hl, q _ setAt_len (cell_setS (by rw [h]; rfl)) Keep.set⟩
/-- these boxes are these roads -/
def Rds (j : Job) (S : Sto) : List Nat → List Way → Prop
  | [], [] => True
  | n :: ns, t :: ts => RoadAt j S n t.1 t.2 ∧ Rds j S ns ts
  | _, _ => False
theorem Rds.len {S : Sto} : ∀ {ns : List Nat} {ts : List Way}, Rds j S ns ts → ns.length = ts.length
  | [], [], _ => rfl
  | n :: ns, t :: ts, h => congrArg (· + 1) (Rds.len h.2)
theorem Rds.mono {S S' : Sto} : ∀ {ns : List Nat} {ts : List Way}, Rds j S ns ts → (∀ n ∈ ns, ∀ c, cellAt S n = some c → cellAt S' n = some c) → Rds j S' ns ts
  | [], [], _, _ => trivial
  | n :: ns, t :: ts, h, k => ⟨k n (List.mem_cons_self ..) _ h.1, Rds.mono h.2 fun m hm => k m (List.mem_cons_of_mem _ hm)⟩
theorem Rds.snoc {S : Sto} {m : Nat} {u : Way} (hu : RoadAt j S m u.1 u.2) : ∀ {ns : List Nat} {ts : List Way}, Rds j S ns ts → Rds j S (ns ++ [m]) (ts ++ [u])
  | [], [], _ => ⟨hu, trivial⟩
  | n :: ns, t :: ts, h => ⟨h.1, Rds.snoc hu h.2⟩
theorem Rds.cell {S : Sto} : ∀ {ns : List Nat} {ts : List Way}, Rds j S ns ts → ∀ n ∈ ns, ∃ fs, cellAt S n = some (.ins 0 fs)
  | n :: ns, t :: ts, h, m, hm => by
    rcases List.mem_cons.mp hm with e | hm
    · rw [e]; exact ⟨_, h.1⟩
    · exact Rds.cell h.2 m hm
/-- a write to a list leaves them -/
theorem Rds.put {S S' : Sto} {ns : List Nat} {ts : List Way} {bs : List Nat} (h : Rds j S ns ts) (k : Keep bs S S') (hb : ∀ b ∈ bs, ∃ xs, cellAt S b = some (.lst xs)) : Rds j S' ns ts := h.mono fun n hn c hc => by
  refine (k.eq n (cellAt_lt hc) fun z => ?_).trans hc
  obtain ⟨xs, e⟩ := hb n z
  obtain ⟨fs, e2⟩ := h.cell n hn
  rw [e] at e2
  cases e2
theorem iswhole_ok {x lo hi : Int} (h0 : lo ≤ x) (h1 : x ≤ hi) : callN Tb (k + 1) 0 [.int x, .int lo, .int hi] S = .ok (.bl true) S := by
  refine Ru.is ?_
  refine Ru.def (fn := ⟨3, 3, p_is_whole⟩) rfl rfl ?_; simp only [List.map_cons, List.map_nil, List.length_cons, List.length_nil, Nat.reduceAdd, Nat.reduceSub, List.replicate_succ, List.replicate_zero, List.cons_append, List.nil_append]
  and_intros
  rw [if_pos (decide_eq_true h0)]
  and_intros
  exact ⟨by rw [decide_eq_true h1], rfl⟩
theorem lastW {m : Nat} {ns : List Nat} : ((m :: ns).reverse.map D.ref).take (((m :: ns).reverse.map D.ref).length - 1) = ns.reverse.map D.ref ∧ ((m :: ns).reverse.map D.ref).drop (((m :: ns).reverse.map D.ref).length - 1) = [.ref m] := by
  rw [List.reverse_cons, List.map_append, List.length_append]
  have e : (ns.reverse.map D.ref).length + (List.map D.ref [m]).length - 1 = (ns.reverse.map D.ref).length := by simp
  rw [e]
  exact ⟨List.take_left .., List.drop_left ..⟩
/-- one turn's state -/
structure RoadSt (j : Job) (S0 S : Sto) (w f : Nat) (stk fs : List Way) (ns ms : List Nat) : Prop where
  keep : Keep [] S0 S
  wc : cellAt S w = some (.lst (ns.reverse.map .ref))
  fc : cellAt S f = some (.lst (ms.map .ref))
  wf : w ≠ f
  w0 : S0.length ≤ w
  f0 : S0.length ≤ f
  rw : Rds j S ns stk
  rf : Rds j S ms fs
theorem roads_ru (f : j.Fit) (hm : j.m ≤ 11) {l : List Int} {fs : List Way} (hl : l.length ≤ 8192) (hr : rn j.m ([([], [])], []) l = some ([], fs)) {P : D} {src : Src} (hP : ∀ S', Keep [] S S' → walkOf S' P = some (src, l.map .int) ∧ src.there S')
    (q : ∀ S' ms, Keep [] S S' → Rds j S' ms fs → Q (.lst (ms.map .ref)) S') : Ru (callN Tb (k + 4) 14 [j.enT, P] S) Q E := by
  refine Ru.def (fn := ⟨2, 6, p_roads_of⟩) rfl rfl ?_; simp only [List.map_cons, List.map_nil, List.length_cons, List.length_nil, Nat.reduceAdd, Nat.reduceSub, List.replicate_succ, List.replicate_zero, List.cons_append, List.nil_append]
  and_intros
  refine r_make fun S1 n1 h1 c1 k1 => ?_
  and_intros
  refine rinit_ru (k := k + 2) (j := j) (taken := []) (out := []) c1 fun S2 R2 k2 => ⟨rfl, ?_⟩
  and_intros
  refine r_new fun S3 w h3 c3 k3 => ?_
  and_intros
  refine r_new fun S4 fo h4 c4 k4 => ?_
  and_intros
  have kk1 : Keep [] S S2 := ((k1.mono (by simp)).trans k2).fresh fun y hy => .inr (by rw [List.mem_singleton.mp hy, h1]; exact Nat.le_refl _)
  have kk : Keep [] S S4 := (kk1.trans k3).trans k4
  have lw := cellAt_lt c3
  refine r_oR (hP S4 kk).1 ?_
  have R4 : RoadAt j S4 n1 [] [] := (R2.keep k3 (by simp)).keep k4 (by simp)
  have st0 : RoadSt j S S4 w fo [([], [])] [] [n1] [] := ⟨kk, (k4.eq w lw (by simp)).trans c3, c4, by omega, by have := kk1.le; omega, by have := kk1.le; have := k3.le; omega, ⟨R4, trivial⟩, trivial⟩
  refine Ru.for (fun i ρ S' => ∃ stk gs ns ms w' v4 v5, rn j.m ([([], [])], []) (l.take i) = some (stk, gs) ∧ ρ = [some j.enT, some P, some (.ref w'), some (.ref fo), v4, v5] ∧ RoadSt j S S' w' fo stk gs ns ms) ⟨_, _, _, _, _, _, _, rfl, rfl, st0⟩ (fun i ρ S' ⟨_, _, _, _, _, _, _, _, _, st⟩ => (hP S' st.keep).2) (fun i d ρ S' hd ⟨stk, gs, ns, ms, w', v4, v5, hrn, hρ, st⟩ => ?_) fun ρ S' ⟨stk, gs, ns, ms, w', v4, v5, hrn, hρ, st⟩ => ?_
  · subst hρ
    obtain ⟨x, hx, rfl⟩ := get_map hd
    obtain ⟨s2, e1, e2⟩ := rn_next hr hrn hx
    have wy := (rn_wy hrn (fun t ht => by rw [List.mem_singleton.mp ht]; exact ⟨by simp, fun d hd => by cases hd⟩) (fun t ht => by cases ht)).1
    have ln := rn_len hrn
    have li : (l.take i).length ≤ 8192 := by rw [List.length_take]; omega
    cases stk with
    | nil => cases e1
    | cons t r =>
      cases ns with
      | nil => exact st.rw.elim
      | cons m ns =>
        have ls := st.rw.len
        have wt := wy_len (wy t (List.mem_cons_self ..))
        have b4 : (16384 : Nat) ≤ sizeLine := by decide
        and_intros
        refine isnil_ru rfl st.wc ?_
        have e0 : ((m :: ns).reverse.map D.ref).isEmpty = false := by rw [List.reverse_cons, List.map_append]; simp
        rw [e0]
        and_intros
        refine tupf_ru rfl st.wc (by simp) (by simp at ls ln ⊢; omega) fun S5 w5 h5 c5 k5 => ?_
        rw [lastW.1] at c5
        rw [lastW.2]
        have lf := cellAt_lt st.fc
        have f5 : cellAt S5 fo = some (.lst (ms.map .ref)) := (k5.eq fo lf (by simp)).trans st.fc
        have rw5 := st.rw.put k5 (fun b hb => by cases hb)
        have rf5 := st.rf.put k5 (fun b hb => by cases hb)
        have l5 := k5.le
        have l0 := st.keep.le
        and_intros
        by_cases hx1 : x = -1
        · rw [stp, if_pos hx1] at e1
          cases e1
          rw [if_pos (by simp [hx1])]
          and_intros
          have ll : ms.length ≤ 8192 := by have := st.rf.len; have := ln.2; simp at this; omega
          refine appS_ru f5 (by rw [List.length_map]; omega) fun S6 l6 c6 k6 => ?_
          have isl : ∀ b ∈ [fo], ∃ xs, cellAt S5 b = some (.lst xs) := fun b hb => by rw [List.mem_singleton.mp hb]; exact ⟨_, f5⟩
          have rw6 := rw5.put k6 isl
          have rf6 := rf5.put k6 isl
          have wne : w5 ≠ fo := by omega
          and_intros
          refine ⟨r, gs ++ [t], ns, ms ++ [m], w5, _, _, e2, rfl, ⟨?_, (k6.eq w5 (cellAt_lt c5) (by simp; omega)).trans c5, ?_, wne, by omega, st.f0, rw6.2, Rds.snoc rw6.1 rf6⟩⟩
          · exact (((st.keep.trans k5).mono (by simp)).trans k6).fresh fun y hy => .inr (by rw [List.mem_singleton.mp hy]; exact st.f0)
          · rw [c6, List.map_append]
            rfl
        · rw [stp, if_neg hx1] at e1
          split at e1
          · rename_i c
            cases e1
            have lk := f.lk
            have Rm : cellAt S5 m = some (.ins 0 [(2, j.enT), (1, enC t.1), (0, enC t.2)]) := rw5.1
            rw [if_neg (by simp [hx1])]
            and_intros
            rw [List.length_map, lk]
            refine Ru.eq (iswhole_ok (k := k + 2) c.1 (by omega)) ?_
            and_intros
            refine Ru.eq in_ints ?_
            rw [show t.1.contains x = false by rw [← Bool.not_eq_true, List.contains_iff_mem]; exact c.2.2.1]
            and_intros
            refine Ru.eq in_ints ?_
            rw [show t.2.contains x = false by rw [← Bool.not_eq_true, List.contains_iff_mem]; exact c.2.2.2]
            and_intros
            refine on_ru (k := k + 1) (t := false) f rw5.1 (by omega) (by omega) fun S6 a6 l6 k6 R6 => ?_
            have rw6 := rw5.put k6 (fun b hb => by cases hb)
            have rf6 := rf5.put k6 (fun b hb => by cases hb)
            have Rm6 : cellAt S6 m = some (.ins 0 [(2, j.enT), (1, enC t.1), (0, enC t.2)]) := rw6.1
            and_intros
            refine on_ru (k := k + 1) (t := true) f rw6.1 (by omega) (by omega) fun S7 a7 l7 k7 R7 => ?_
            have rw7 := rw6.put k7 (fun b hb => by cases hb)
            have rf7 := rf6.put k7 (fun b hb => by cases hb)
            have R67 : RoadAt j S7 a6 t.1 (t.2 ++ [x]) := RoadAt.keep R6 k7 (by simp)
            have w7 : cellAt S7 w5 = some (.lst (ns.reverse.map .ref)) := (k7.eq w5 (by have := k6.le; have := cellAt_lt c5; omega) (by simp)).trans ((k6.eq w5 (cellAt_lt c5) (by simp)).trans c5)
            have f7 : cellAt S7 fo = some (.lst (ms.map .ref)) := (k7.eq fo (by have := k6.le; have := cellAt_lt f5; omega) (by simp)).trans ((k6.eq fo (cellAt_lt f5) (by simp)).trans f5)
            and_intros
            refine augB_ru w7 (by simp at ls ln ⊢; omega) fun S8 l8 c8 k8 => ?_
            have isl : ∀ b ∈ [w5], ∃ xs, cellAt S7 b = some (.lst xs) := fun b hb => by rw [List.mem_singleton.mp hb]; exact ⟨_, w7⟩
            have rw8 : Rds j S7 (a7 :: a6 :: ns) ((t.1 ++ [x], t.2) :: (t.1, t.2 ++ [x]) :: r) := ⟨R7, R67, rw7.2⟩
            have wne : w5 ≠ fo := by omega
            and_intros
            refine ⟨_, gs, a7 :: a6 :: ns, ms, w5, _, _, e2, rfl, ⟨?_, ?_, (k8.eq fo (cellAt_lt f7) (by simp; omega)).trans f7, wne, by omega, st.f0, rw8.put k8 isl, rf7.put k8 isl⟩⟩
            · exact (((((st.keep.trans k5).trans k6).trans k7).mono (by simp)).trans k8).fresh fun y hy => .inr (by rw [List.mem_singleton.mp hy]; omega)
            · rw [c8, List.reverse_cons, List.reverse_cons, List.map_append, List.map_append, List.append_assoc]
              rfl
          · cases e1
  · subst hρ
    have el : l.take (l.map D.int).length = l := by rw [List.length_map, List.take_length]
    have hrn : rn j.m ([([], [])], []) (l.take (l.map D.int).length) = some (stk, gs) := hrn
    rw [el, hr] at hrn
    cases hrn
    cases ns with
    | cons n ns => exact st.rw.elim
    | nil =>
      and_intros
      refine isnil_ru rfl st.wc ?_
      and_intros
      refine Ru.eq (a := .lst (ms.map .ref)) (S := S'.set fo none) (by simp [frzR, st.fc]) ?_
      and_intros
      refine q _ ms (Keep.del st.keep st.f0) (st.rf.mono fun n hn c hc => ?_)
      obtain ⟨zs, hz⟩ := st.rf.cell n hn
      refine (cellAt_del_ne1 fun z => ?_).trans hc
      rw [z, st.fc] at hz
      cases hz
end


end
section
/-! ### look_best -/
set_option maxHeartbeats 1000000
section
variable {k n : Nat} {j : Job} {room b : Int} {S : Sto} {Q : D → Sto → Prop} {E : Exc → Sto → Prop} {c l : List Int} {P : D} {src : Src}
theorem number_ok {x : Int} : callN Tb (k + 1) 1 [.int x] S = .ok (.bl true) S := by
  refine Ru.is ?_
  refine Ru.def (fn := ⟨1, 1, p_is_number⟩) rfl rfl ?_; simp only [List.map_cons, List.map_nil, List.length_cons, List.length_nil, Nat.reduceAdd, Nat.reduceSub, List.replicate_succ, List.replicate_zero, List.cons_append, List.nil_append]
  and_intros
  exact ⟨rfl, rfl⟩
theorem zip_lt : ∀ {c : List Int}, c.Pairwise (· < ·) → ∀ p ∈ c.zip (c.drop 1), p.1 < p.2
  | [], _, p, hp => by cases hp
  | [x], _, p, hp => by cases hp
  | x :: y :: r, h, p, hp => by
    have h1 := (List.pairwise_cons.mp h).1
    have h2 := (List.pairwise_cons.mp h).2
    rw [List.drop_succ_cons, List.drop_zero, List.zip_cons_cons] at hp
    rcases List.mem_cons.mp hp with e | hp
    · rw [e]
      exact h1 y (List.mem_cons_self ..)
    · exact zip_lt h2 p hp
theorem cut1 : cutD (c.map D.int) (some 1) none = (c.drop 1).map D.int := by
  unfold cutD
  cases c with
  | nil => rfl
  | cons x r =>
    have e1 : HT.sIx (r.length + 1) 0 (some 1) = 1 := by
      unfold HT.sIx
      simp
    have e2 : HT.sIx (r.length + 1) (r.length + 1) none = r.length + 1 := rfl
    simp [e1, e2]
    exact List.take_of_length_le (by simp)
theorem zipMap (xs ys : List Int) : (xs.map D.int).zip (ys.map D.int) = (xs.zip ys).map fun p => (D.int p.1, D.int p.2) := by
  rw [List.zip_map]
  rfl
theorem rising_ok {m : Nat} (inc : c.Pairwise (· < ·)) (rng : ∀ d ∈ c, 0 ≤ d ∧ d < m) (lc : c.length ≤ 20) : callN Tb (k + 2) 2 [enC c, .int m] S = .ok (.bl true) S := by
  refine Ru.is ?_
  refine Ru.def (fn := ⟨2, 4, p_are_rising⟩) rfl rfl ?_; simp only [List.map_cons, List.map_nil, List.length_cons, List.length_nil, Nat.reduceAdd, Nat.reduceSub, List.replicate_succ, List.replicate_zero, List.cons_append, List.nil_append]
  and_intros
  refine Ru.lcm D.int (fun _ => [.bl true]) trivial (fun d hd => ?_) ?_
  · and_intros
    refine Ru.eq (iswhole_ok (k := k) (rng d hd).1 (by have := rng d hd; omega)) ?_
    and_intros
    exact ⟨rfl, rfl⟩
  rw [flat_oneD]
  refine ⟨by rw [List.length_map]; exact sz_le (by omega), ?_⟩
  and_intros
  rw [if_neg (by simp)]
  and_intros
  rw [cut1]
  show Ru (zipR false (enC c) (.tup ((c.drop 1).map .int)) (some (c.map .int)) (some ((c.drop 1).map .int)) S) _ _
  have mz : mixZ (c.map .int) ((c.drop 1).map .int) = true := by
    unfold mixZ
    rw [List.all_eq_true]
    intro p hp
    obtain ⟨i, _, e⟩ := List.mem_map.mp (List.of_mem_zip hp).1
    rw [← e]
    rfl
  refine ru_zipR.mpr ⟨⟨(fun h => by cases h), rfl, rfl, .inr ⟨rfl, mz⟩⟩, ?_⟩
  refine Ru.lcp (fun _ => [.bl true]) trivial (fun d hd => ?_) ?_
  · obtain ⟨p, hp, rfl⟩ := List.mem_map.mp hd
    rw [zipMap] at hp
    obtain ⟨⟨a, b⟩, hab, rfl⟩ := List.mem_map.mp hp
    have lt := zip_lt inc _ hab
    and_intros
    exact ⟨by rw [decide_eq_true lt], rfl⟩
  rw [flat_oneD]
  refine ⟨by rw [List.length_map]; unfold zipD; rw [List.length_map, List.length_zip, List.length_map, List.length_map, List.length_drop]; exact sz_le (by omega), ?_⟩
  and_intros
  exact ⟨by simp, rfl⟩
/-- a list of ints as the looks take it -/
structure Pap (S : Sto) (P : D) (l : List Int) (src : Src) : Prop where
  isi : ∀ S', Keep [] S S' → biR .isi [P, .ty "list"] S' = .ok (.bl true) S'
  walk : ∀ S', Keep [] S S' → walkOf S' P = some (src, l.map .int) ∧ src.there S'
theorem Pap.keep {S' : Sto} (h : Pap S P l src) (kk : Keep [] S S') : Pap S' P l src := ⟨fun S2 k2 => h.isi S2 (kk.trans k2), fun S2 k2 => h.walk S2 (kk.trans k2)⟩
theorem isi_lst2 {n : Nat} {xs : List D} (h : cellAt S n = some (.lst xs)) : biR .isi [.ref n, .ty "list"] S = .ok (.bl true) S := by
  show biIsi S [.ref n, .ty "list"] = _
  simp [biIsi, tyOf, h]
  rfl
theorem pap_ref (h : cellAt S n = some (.lst (l.map .int))) : Pap S (.ref n) l (.box n (l.map .int)) :=
  ⟨fun S' k' => isi_lst2 ((k'.eq n (cellAt_lt h) (by simp)).trans h), fun S' k' => ⟨walk_box ((k'.eq n (cellAt_lt h) (by simp)).trans h), (k'.eq n (cellAt_lt h) (by simp)).trans h⟩⟩
theorem lookform_ru (f : j.Fit) (inc : c.Pairwise (· < ·)) (rng : ∀ d ∈ c, 0 ≤ d ∧ d < j.m) (lc : c.length ≤ 20) (hl : l.length ≤ 8192) (hP : Pap S P l src) (q : Q .non S) : Ru (callN Tb (k + 3) 15 [j.enT, .tup [enC c, .int b, P]] S) Q E := by
  have lk := f.lk
  have b4 : (8192 : Nat) ≤ sizeLine := by decide
  refine Ru.def (fn := ⟨2, 6, p_look_form⟩) rfl rfl ?_; simp only [List.map_cons, List.map_nil, List.length_cons, List.length_nil, Nat.reduceAdd, Nat.reduceSub, List.replicate_succ, List.replicate_zero, List.cons_append, List.nil_append]
  and_intros
  rw [List.length_map, lk]
  refine Ru.eq (rising_ok (k := k) inc rng lc) ?_
  and_intros
  refine Ru.eq number_ok ?_
  and_intros
  refine Ru.eq (hP.isi S Keep.refl) ?_
  and_intros
  refine r_oR (hP.walk S Keep.refl).1 ?_
  refine Ru.lcm D.int (fun _ => [.bl true]) (hP.walk S Keep.refl).2 (fun d hd => ?_) ?_
  · and_intros
    refine Ru.eq number_ok ?_
    and_intros
    exact ⟨rfl, rfl⟩
  rw [flat_oneD]
  refine ⟨by rw [List.length_map]; omega, ?_⟩
  and_intros
  rw [if_neg (by simp)]
  and_intros
  exact q
theorem Rds.each {S : Sto} : ∀ {ns : List Nat} {ts : List Way}, Rds j S ns ts → ∀ n ∈ ns, ∃ t ∈ ts, RoadAt j S n t.1 t.2
  | n :: ns, t :: ts, h, m, hm => by
    rcases List.mem_cons.mp hm with e | hm
    · rw [e]; exact ⟨t, List.mem_cons_self .., h.1⟩
    · obtain ⟨u, hu, R⟩ := Rds.each h.2 m hm
      exact ⟨u, List.mem_cons_of_mem _ hu, R⟩
theorem lookbest_ru (f : j.Fit) (hm : j.m ≤ 11) (B : j.Best room c b) (hl : l.length ≤ 8192) {fs : List Way} (hr : rn j.m ([([], [])], []) l = some ([], fs)) (hc : ∀ t ∈ fs, j.closed t.1 t.2 room b = true) (hP : Pap S P l src) (q : ∀ S', Keep [] S S' → Q .non S') :
    Ru (callN Tb (k + 6) 16 [j.enT, .tup [enC c, .int b, P], .int room] S) Q E := by
  have lc : c.length ≤ 11 := by
    have := wy_len (m := j.m) (t := (c, [])) ⟨by rw [List.append_nil]; exact B.inc.imp fun h => by omega, by rw [List.append_nil]; exact B.rng⟩
    simp at this
    omega
  have hc2 : ∀ d ∈ c, 0 ≤ d ∧ d.toNat < j.m := fun d hd => by have := B.rng d hd; omega
  have wy := (rn_wy hr (fun t ht => by rw [List.mem_singleton.mp ht]; exact ⟨by simp, fun d hd => by cases hd⟩) (fun t ht => by cases ht)).2
  have ln := (rn_len hr).2
  have b4 : (8192 : Nat) ≤ sizeLine := by decide
  refine Ru.def (fn := ⟨3, 7, p_look_best⟩) rfl rfl ?_; simp only [List.map_cons, List.map_nil, List.length_cons, List.length_nil, Nat.reduceAdd, Nat.reduceSub, List.replicate_succ, List.replicate_zero, List.cons_append, List.nil_append]
  and_intros
  refine lookform_ru (k := k + 2) f B.inc B.rng (by omega) hl hP ?_
  and_intros
  refine Ru.eq (size_ok (k := k + 4) f (by omega) hc2) ?_
  and_intros
  have hf := B.fit
  rw [if_neg (show ¬ decide (room < j.size c) = true by rw [decide_eq_true_eq]; omega)]
  and_intros
  refine Ru.eq (tot_ok (k := k + 2) f (by omega) hc2) ?_
  rw [← B.tot]
  and_intros
  rw [if_neg (show ¬ (!(b == b)) = true by simp)]
  and_intros
  refine roads_ru (k := k + 1) f hm hl hr hP.walk fun S1 ms k1 R => ?_
  and_intros
  have lm := R.len
  refine Ru.lcm D.ref (fun _ => [.bl true]) trivial (fun m hmm => ?_) ?_
  · obtain ⟨t, ht, Rm⟩ := R.each m hmm
    have wt := wy_len (wy t ht)
    have ct := closed_ok (k := k + 1) (room := room) (b := b) f Rm (by omega) fun d hd => by have := (wy t ht).2 d (List.mem_append_left _ hd); omega
    rw [hc t ht] at ct
    have Rm' : cellAt S1 m = some (.ins 0 [(2, j.enT), (1, enC t.1), (0, enC t.2)]) := Rm
    and_intros
    refine Ru.eq ct ?_
    and_intros
    exact ⟨rfl, rfl⟩
  rw [flat_oneD]
  refine ⟨by rw [List.length_map, lm]; simp at ln; omega, ?_⟩
  and_intros
  rw [if_neg (by simp)]
  and_intros
  exact q S1 k1
end


end
section
/-! ### how the least total moves with the task -/
set_option maxHeartbeats 800000
section
variable {j : Job} {room b b' : Int} {c c' : List Int}
theorem Job.Best.nd (B : j.Best room c b) : c.Nodup := B.inc.imp fun h => by omega
theorem best_room {room' : Int} (B : j.Best room c b) (B' : j.Best room' c' b') (h : room' ≤ room) : b ≤ b' := by
  rw [B'.tot]
  exact B.low c' B'.nd B'.rng (Int.le_trans B'.fit h)
theorem best_none (B : j.Best room c b) (h0 : 0 ≤ room) : b ≤ j.tot [] := B.low [] .nil (fun _ h => by cases h) h0
theorem best_one (B : j.Best room c b) {d : Int} (h0 : 0 ≤ d) (h1 : d < j.m) (hs : j.sizes.getD d.toNat 0 ≤ room) : b ≤ j.tot [d] := by
  refine B.low [d] (by simp) (fun x hx => by rw [List.mem_singleton.mp hx]; exact ⟨h0, h1⟩) ?_
  show ([d].map fun d => j.sizes.getD d.toNat 0).sum ≤ room
  simpa using hs
/-- another task of as many designs of the same sizes, nowhere dearer -/
theorem best_le {i : Job} (B : i.Best room c b) (B' : j.Best room c' b') (hm : j.m = i.m) (hs : j.sizes = i.sizes) (ht : ∀ ch, i.tot ch ≤ j.tot ch) : b ≤ b' := by
  have h := B.low c' B'.nd (fun d hd => by have := B'.rng d hd; omega) (by have := B'.fit; unfold Job.size at this ⊢; rw [← hs]; exact this)
  have := ht c'
  have := B'.tot
  omega
theorem best_times {i : Job} {n : Int} (B : i.Best room c b) (B' : j.Best room c' b') (hm : j.m = i.m) (hs : j.sizes = i.sizes) (n0 : 0 ≤ n) (ht : ∀ ch, j.tot ch = n * i.tot ch) : b' = n * b := by
  have h1 := B.low c' B'.nd (fun d hd => by have := B'.rng d hd; omega) (by have := B'.fit; unfold Job.size at this ⊢; rw [← hs]; exact this)
  have h2 := B'.low c B.nd (fun d hd => by have := B.rng d hd; omega) (by have := B.fit; unfold Job.size at this ⊢; rw [hs]; exact this)
  rw [ht c, ← B.tot] at h2
  have h3 : b' = n * i.tot c' := B'.tot.trans (ht c')
  have h4 := Int.mul_le_mul_of_nonneg_left h1 n0
  omega
theorem sum_times (n : Int) : ∀ l : List Int, (l.map fun x => n * x).sum = n * l.sum
  | [] => by simp
  | x :: l => by
    rw [List.map_cons, List.sum_cons, List.sum_cons, sum_times n l, Int.mul_add]
theorem keeps_times (n : Int) (keeps ch : List Int) : keepsOf (keeps.map fun x => n * x) ch = n * keepsOf keeps ch := by
  unfold keepsOf
  rw [← sum_times, List.map_map]
  refine congrArg List.sum (List.map_congr_left fun d _ => ?_)
  show (keeps.map fun x => n * x).getD d.toNat 0 = n * keeps.getD d.toNat 0
  rw [List.getD_eq_getElem?_getD, List.getD_eq_getElem?_getD, List.getElem?_map]
  cases keeps[d.toNat]? <;> simp
theorem tot_times (n : Int) (its : List Item) (keeps ch : List Int) : Tot (its.map fun x => (x.1 * n, x.2)) (keeps.map fun x => n * x) ch = n * Tot its keeps ch := by
  unfold Tot
  rw [keeps_times, Int.mul_add, ← sum_times, List.map_map, List.map_map]
  refine congrArg (n * keepsOf keeps ch + ·) (congrArg List.sum (List.map_congr_left fun x _ => ?_))
  show x.1 * n * _ = n * (x.1 * _)
  rw [Int.mul_comm x.1 n, Int.mul_assoc]
/-- one design more, that no offer needs -/
theorem keeps_more {keeps ch : List Int} {x : Int} (h : ∀ d ∈ ch, 0 ≤ d ∧ d < keeps.length) : keepsOf (keeps ++ [x]) ch = keepsOf keeps ch := by
  unfold keepsOf
  refine congrArg List.sum (List.map_congr_left fun d hd => ?_)
  have := h d hd
  rw [List.getD_eq_getElem?_getD, List.getD_eq_getElem?_getD, List.getElem?_append_left (by omega)]
theorem keeps_part {keeps : List Int} (h0 : ∀ x ∈ keeps, 0 ≤ x) (p : Int → Bool) : ∀ ch : List Int, keepsOf keeps (ch.filter p) ≤ keepsOf keeps ch
  | [] => Int.le_refl _
  | d :: r => by
    have h1 := keeps_part h0 p r
    have h2 := getD_nn h0 d.toNat
    unfold keepsOf at h1 ⊢
    rw [List.filter_cons]
    cases p d with
    | true => simp only [if_pos, List.map_cons, List.sum_cons]; omega
    | false => simp only [Bool.false_eq_true, if_false, List.map_cons, List.sum_cons]; omega
theorem cost_part {m : Nat} {ch : List Int} {x : Item} (h : ∀ o ∈ x.2, ∀ n ∈ o.2, 0 ≤ n ∧ n < m) : costOf (ch.filter fun d => decide (d < m)) x = costOf ch x := by
  unfold costOf leastOf
  have e : x.2.filter (met (ch.filter fun d => decide (d < m))) = x.2.filter (met ch) := List.filter_congr fun o ho => by
    unfold met
    rw [Bool.eq_iff_iff, List.all_eq_true, List.all_eq_true]
    refine ⟨fun q n hn => ?_, fun q n hn => ?_⟩
    · have := q n hn
      rw [List.contains_iff_mem, List.mem_filter] at this
      exact List.contains_iff_mem.mpr this.1
    · have r := h o ho n hn
      exact List.contains_iff_mem.mpr (List.mem_filter.mpr ⟨List.contains_iff_mem.mp (q n hn), decide_eq_true r.2⟩)
  rw [e]
theorem best_more {i : Job} {x y : Int} (B : i.Best room c b) (B' : j.Best room c' b') (f : j.Ok) (hi : j.its = i.its) (hk : j.keeps = i.keeps ++ [x]) (hs : j.sizes = i.sizes ++ [y]) (hm : j.m = i.m + 1) (lk : i.keeps.length = i.m) (ls : i.sizes.length = i.m)
    (nd : ∀ x ∈ i.its, ∀ o ∈ x.2, ∀ n ∈ o.2, 0 ≤ n ∧ n < i.m) : b' = b := by
  have r1 : ∀ d ∈ c, 0 ≤ d ∧ d < (i.m : Int) := B.rng
  have t1 : j.tot c = i.tot c := by
    unfold Job.tot Tot
    rw [hi, hk, keeps_more (by rw [lk]; exact r1)]
  have s1 : j.size c = i.size c := by
    unfold Job.size
    rw [hs, keeps_more (by rw [ls]; exact r1)]
  have h1 := B'.low c B.nd (fun d hd => by have := r1 d hd; omega) (by rw [s1]; exact B.fit)
  rw [t1, ← B.tot] at h1
  have r2 : ∀ d ∈ c'.filter fun d => decide (d < (i.m : Int)), 0 ≤ d ∧ d < (i.m : Int) := fun d hd => by
    obtain ⟨q1, q2⟩ := List.mem_filter.mp hd
    exact ⟨(B'.rng d q1).1, of_decide_eq_true q2⟩
  have s2 : i.size (c'.filter fun d => decide (d < (i.m : Int))) ≤ j.size c' := by
    have q := keeps_part f.s0 (fun d => decide (d < (i.m : Int))) c'
    unfold Job.size
    rw [hs] at q ⊢
    rw [keeps_more (by rw [ls]; exact r2)] at q
    exact q
  have t2 : i.tot (c'.filter fun d => decide (d < (i.m : Int))) ≤ j.tot c' := by
    have q := keeps_part f.k0 (fun d => decide (d < (i.m : Int))) c'
    unfold Job.tot Tot
    rw [hk] at q ⊢
    rw [keeps_more (by rw [lk]; exact r2)] at q
    have e : (i.its.map (costOf (c'.filter fun d => decide (d < (i.m : Int))))) = j.its.map (costOf c') := by
      rw [hi]
      exact List.map_congr_left fun x hx => cost_part (nd x hx)
    rw [e]
    omega
  have h2 := B.low _ (B'.nd.filter _) r2 (Int.le_trans s2 B'.fit)
  have := B'.tot
  omega
theorem tot_app (its : List Item) (keeps ch : List Int) (x : Item) : Tot (its ++ [x]) keeps ch = Tot its keeps ch + costOf ch x := by
  unfold Tot
  rw [List.map_append, List.sum_append]
  simp [Int.add_assoc]
theorem cost_nn {ch : List Int} {x : Item} (h : OkI ch x) (nn : ∀ o ∈ x.2, 0 ≤ o.1) : 0 ≤ costOf ch x := by
  obtain ⟨h1, _⟩ := Iv.min_spec h.at
  obtain ⟨o, ho, e⟩ := List.mem_map.mp h1
  have q : 0 ≤ (leastOf ch x.2).getD 0 := e ▸ nn o (List.mem_filter.mp ho).1
  exact Int.mul_nonneg h.w0 q
theorem tot_longer {its : List Item} {keeps ch : List Int} {x : Item} (h : OkI ch x) (nn : ∀ o ∈ x.2, 0 ≤ o.1) : Tot its keeps ch ≤ Tot (its ++ [x]) keeps ch := by
  rw [tot_app]
  have := cost_nn h nn
  omega
theorem cost_more {ch : List Int} {w : Int} {os : List Offer} {o : Offer} (h : OkI ch (w, os)) (h' : OkI ch (w, os ++ [o])) : costOf ch (w, os ++ [o]) ≤ costOf ch (w, os) := by
  obtain ⟨h1, _⟩ := Iv.min_spec h.at
  obtain ⟨_, h2⟩ := Iv.min_spec h'.at
  have q : (leastOf ch (os ++ [o])).getD 0 ≤ (leastOf ch os).getD 0 := by
    refine h2 _ ?_
    obtain ⟨p, hp, e⟩ := List.mem_map.mp h1
    show (leastOf ch os).getD 0 ∈ ((os ++ [o]).filter (met ch)).map (·.1)
    rw [← e]
    obtain ⟨p1, p2⟩ := List.mem_filter.mp hp
    exact List.mem_map.mpr ⟨p, List.mem_filter.mpr ⟨List.mem_append_left _ p1, p2⟩, rfl⟩
  exact Int.mul_le_mul_of_nonneg_left q h.w0
theorem tot_cheaper {its : List Item} {keeps ch : List Int} {w : Int} {os : List Offer} {o : Offer} (h : OkI ch (w, os)) (h' : OkI ch (w, os ++ [o])) : Tot ((w, os ++ [o]) :: its) keeps ch ≤ Tot ((w, os) :: its) keeps ch := by
  have := cost_more h h'
  unfold Tot
  rw [List.map_cons, List.map_cons, List.sum_cons, List.sum_cons]
  omega
end


end
section
/-! ### the law's least totals, and the tasks that it makes of one -/
set_option maxHeartbeats 800000
section
variable {k : Nat} {j : Job} {room : Int} {S : Sto} {Q : D → Sto → Prop} {E : Exc → Sto → Prop}
theorem least_ru (f : j.Fit) (hm : j.m ≤ 11) (h0 : 0 ≤ room) (q : ∀ S' c b, Keep [] S S' → j.Best room c b → Q (.int b) S') : Ru (callN Tb (k + 20) 22 [j.enT, .int room] S) Q E := by
  refine Ru.def (fn := ⟨2, 3, p_l_least⟩) rfl rfl ?_; simp only [List.map_cons, List.map_nil, List.length_cons, List.length_nil, Nat.reduceAdd, Nat.reduceSub, List.replicate_succ, List.replicate_zero, List.cons_append, List.nil_append]
  and_intros
  refine best2_ru (k := k) f hm h0 fun S1 n o c b k1 hn rd lo c1 B cl => ?_
  have lc := wy_len (m := j.m) (t := (c, [])) ⟨by rw [List.append_nil]; exact B.inc.imp fun h => by omega, by rw [List.append_nil]; exact B.rng⟩
  simp at lc
  have lp := pap_len (j := j) (room := room) (b := b) o [] []
  have p2 := pow2 (o.length + 1) (by omega)
  have ra := rn_all (room := room) (b := b) rd
  and_intros
  refine lookbest_ru (k := k + 13) f hm B (by omega) ra cl (pap_ref c1) fun S2 k2 => ?_
  and_intros
  refine Ru.eq (tot_ok (k := k + 16) f (by omega) fun d hd => by have := B.rng d hd; omega) ?_
  rw [← B.tot]
  and_intros
  rw [if_neg (show ¬ (!(b == b)) = true by simp)]
  and_intros
  exact q S2 c b (k1.trans k2) B
theorem minI_some {l : List Int} (h : l ≠ []) : (minI l).isSome = true := by
  cases l with
  | nil => exact absurd rfl h
  | cons i r => rfl
theorem has_least {os : List Offer} (ch : List Int) (g : ∃ o ∈ os, o.2 = []) : (leastOf ch os).isSome = true := by
  obtain ⟨o, ho, e⟩ := g
  refine minI_some fun z => ?_
  have : o.1 ∈ (os.filter (met ch)).map (·.1) := List.mem_map.mpr ⟨o, List.mem_filter.mpr ⟨ho, by unfold met; rw [e]; rfl⟩, rfl⟩
  rw [z] at this
  cases this
theorem okI_of {m : Int} {its : List Item} (ch : List Int) (t : OkT m its) : ∀ x ∈ its, OkI ch x := fun x hx => by
  obtain ⟨h1, h2, h3, h4⟩ := t.it x hx
  exact ⟨h1, h2, by omega, fun o ho => by have := (h4.ln o ho).1; omega, has_least ch h4.has⟩
/-- what the law's draws tell of a task -/
structure Job.Drawn (j : Job) : Prop where
  k0 : ∀ x ∈ j.keeps, 0 ≤ x ∧ x < 1073741824
  s0 : ∀ x ∈ j.sizes, 0 ≤ x ∧ x ≤ 10000001
  lk : j.keeps.length = j.m
  ls : j.sizes.length = j.m
  lm : j.m ≤ 8
  m1 : 1 ≤ j.m
  t : OkT j.m j.its
theorem Job.Drawn.fit (h : j.Drawn) : j.Fit :=
  { k0 := fun x hx => (h.k0 x hx).1, s0 := fun x hx => (h.s0 x hx).1, lk := h.lk, ls := h.ls, it := fun ch => okI_of ch h.t, li := by have := h.t.len; omega, lm := by have := h.lm; omega }
abbrev Job.short (j : Job) : Job := ⟨j.its.take 11, j.keeps, j.sizes, j.m⟩
abbrev Job.longer (j : Job) (w : Int) (more : List Offer) : Job := ⟨j.its.take 11 ++ [(w, more)], j.keeps, j.sizes, j.m⟩
abbrev Job.times (j : Job) (n : Int) : Job := ⟨j.its.map fun x => (x.1 * n, x.2), j.keeps.map fun x => n * x, j.sizes, j.m⟩
abbrev Job.more (j : Job) (x y : Int) : Job := ⟨j.its, j.keeps ++ [x], j.sizes ++ [y], j.m + 1⟩
theorem short_fit (h : j.Drawn) : j.short.Fit :=
  { h.fit with it := fun ch x hx => okI_of ch h.t x (List.mem_of_mem_take hx), li := by show (j.its.take 11).length ≤ 1000; rw [List.length_take]; omega }
theorem longer_fit (h : j.Drawn) {w : Int} {more : List Offer} (w0 : 0 ≤ w) (w1 : w ≤ 1000) (g : GoodOs j.m more) (lm : more.length ≤ 12) : (j.longer w more).Fit :=
  { h.fit with
    it := fun ch x hx => by
      rcases List.mem_append.mp hx with hx | hx
      · exact okI_of ch h.t x (List.mem_of_mem_take hx)
      · rw [List.mem_singleton.mp hx]
        exact ⟨w0, w1, by show more.length ≤ 1000; omega, fun o ho => by have := (g.ln o ho).1; omega, has_least ch g.has⟩
    li := by show (j.its.take 11 ++ [(w, more)]).length ≤ 1000; rw [List.length_append, List.length_take]; simp; omega }
theorem longer_le (h : j.Drawn) {w : Int} {more : List Offer} (w0 : 0 ≤ w) (w1 : w ≤ 1000) (g : GoodOs j.m more) (lm : more.length ≤ 12) (ch : List Int) : j.short.tot ch ≤ (j.longer w more).tot ch :=
  tot_longer (its := j.its.take 11) ((longer_fit h w0 w1 g lm).it ch (w, more) (List.mem_append_right _ (List.mem_singleton.mpr rfl))) g.nn
theorem times_fit (h : j.Drawn) {n : Int} (n0 : 0 ≤ n) (hw : ∀ x ∈ j.its, x.1 * n ≤ 1000) : (j.times n).Fit :=
  { h.fit with
    k0 := fun x hx => by
      obtain ⟨y, hy, rfl⟩ := List.mem_map.mp hx
      exact Int.mul_nonneg n0 (h.k0 y hy).1
    lk := by show (j.keeps.map _).length = j.m; rw [List.length_map]; exact h.lk
    it := fun ch x hx => by
      obtain ⟨y, hy, rfl⟩ := List.mem_map.mp hx
      have o := okI_of ch h.t y hy
      exact ⟨Int.mul_nonneg o.w0 n0, hw y hy, o.lo, o.ln, o.has⟩
    li := by show (j.its.map _).length ≤ 1000; rw [List.length_map]; have := h.t.len; omega }
theorem more_fit (h : j.Drawn) {x y : Int} (x0 : 0 ≤ x) (y0 : 0 ≤ y) : (j.more x y).Fit :=
  { k0 := fun z hz => (List.mem_append.mp hz).elim (fun q => (h.k0 z q).1) fun q => by rw [List.mem_singleton.mp q]; exact x0
    s0 := fun z hz => (List.mem_append.mp hz).elim (fun q => (h.s0 z q).1) fun q => by rw [List.mem_singleton.mp q]; exact y0
    lk := by show (j.keeps ++ [x]).length = j.m + 1; rw [List.length_append, h.lk]; rfl
    ls := by show (j.sizes ++ [y]).length = j.m + 1; rw [List.length_append, h.ls]; rfl
    it := fun ch => okI_of ch h.t
    li := by have := h.t.len; show j.its.length ≤ 1000; omega
    lm := by have := h.lm; show j.m + 1 ≤ 20; omega }
theorem Job.Drawn.nd (h : j.Drawn) : ∀ x ∈ j.its, ∀ o ∈ x.2, ∀ n ∈ o.2, 0 ≤ n ∧ n < j.m := fun x hx o ho n hn => by
  obtain ⟨_, _, _, g⟩ := h.t.it x hx
  exact (g.ln o ho).2 n hn
theorem cheaper_fit (h : j.Drawn) {w t n : Int} {os : List Offer} {r : List Item} (e : j.its = (w, os) :: r) : (Job.mk ((w, os ++ [(t, [n])]) :: r) j.keeps j.sizes j.m).Fit :=
  { h.fit with
    it := fun ch x hx => by
      rcases List.mem_cons.mp hx with rfl | hx
      · obtain ⟨q1, q2, q3, q4⟩ := h.t.it (w, os) (by rw [e]; exact List.mem_cons_self ..)
        have q3 : os.length ≤ 12 := q3
        obtain ⟨o, ho, eo⟩ := q4.has
        refine ⟨q1, q2, by show (os ++ [(t, [n])]).length ≤ 1000; simp; omega, fun p hp => ?_, has_least ch ⟨o, List.mem_append_left _ ho, eo⟩⟩
        rcases List.mem_append.mp hp with hp | hp
        · have := (q4.ln p hp).1
          omega
        · rw [List.mem_singleton.mp hp]
          show 1 ≤ 1000
          omega
      · exact okI_of ch h.t x (by rw [e]; exact List.mem_cons_of_mem _ hx)
    li := by have := h.t.len; rw [e] at this; exact Nat.le_trans (show r.length + 1 ≤ 12 from this) (by omega) }
theorem cheaper_le (h : j.Drawn) {w t n : Int} {os : List Offer} {r : List Item} (e : j.its = (w, os) :: r) (ch : List Int) : (Job.mk ((w, os ++ [(t, [n])]) :: r) j.keeps j.sizes j.m).tot ch ≤ j.tot ch := by
  have h1 := okI_of ch h.t (w, os) (by rw [e]; exact List.mem_cons_self ..)
  have h2 := (cheaper_fit (t := t) (n := n) h e).it ch (w, os ++ [(t, [n])]) (List.mem_cons_self ..)
  have q := tot_cheaper (its := r) (keeps := j.keeps) h1 h2
  unfold Job.tot
  rw [e]
  exact q
end


end
section
/-! ### l_right -/
set_option maxHeartbeats 1600000
theorem enO_fz (o : Offer) : (enO o).fz = true := by
  unfold enO
  simp [D.fz, D.fzs, fzs_int]
theorem enO_dp (o : Offer) : (enO o).dp ≤ 2 := by
  unfold enO
  simp [D.dp, D.dps, dps_int]
theorem enI_fz (x : Item) : (enI x).fz = true := by
  unfold enI
  simp [D.fz, D.fzs]
  exact fzs_map fun o _ => enO_fz o
theorem enI_dp (x : Item) : (enI x).dp ≤ 4 := by
  have h : D.dps (x.2.map enO) ≤ 2 := dps_map fun o _ => enO_dp o
  unfold enI
  simp [D.dp, D.dps]
  exact h
section
variable {k b : Nat} {j : Job} {room : Int} {S : Sto} {Q : D → Sto → Prop} {E : Exc → Sto → Prop}
theorem cut_take {xs : List D} {n : Nat} : cutD xs none (some (n : Int)) = xs.take n := by
  have e1 : HT.sIx xs.length xs.length (some (n : Int)) = min n xs.length := HT.sIx_nat ..
  have e2 : HT.sIx xs.length 0 none = 0 := rfl
  unfold cutD
  rw [e1, e2, List.drop_zero, Nat.sub_zero]
  by_cases h : n ≤ xs.length
  · rw [Nat.min_eq_left h]
  · rw [Nat.min_eq_right (by omega), List.take_of_length_le (Nat.le_refl _), List.take_of_length_le (by omega)]
theorem add_l {xs ys : List D} (hl : xs.length + ys.length ≤ sizeLine) : binR false .add (.lst xs) (.lst ys) S = .ok (.lst (xs ++ ys)) S := ck_of hl
theorem cut_one {x : D} {xs : List D} : cutD (x :: xs) (some 1) none = xs := by
  have e1 : HT.sIx (x :: xs).length 0 (some 1) = min 1 (x :: xs).length := HT.sIx_nat _ _ 1
  have e2 : HT.sIx (x :: xs).length (x :: xs).length none = (x :: xs).length := rfl
  unfold cutD
  rw [e1, e2, show min 1 (x :: xs).length = 1 from by simp]
  simp
theorem maxI_some {l : List Int} (h : l ≠ []) : ∃ i, maxI l = some i := by
  cases l with
  | nil => exact absurd rfl h
  | cons i r => exact ⟨_, rfl⟩
theorem maxL_is {l : List Int} {i : Int} (h : maxI l = some i) : biR .maxL [.lst (l.map .int)] S = .ok (.int i) S := by
  show (match ((some (l.map D.int)).bind intsD).bind maxI with | some i => R.ok (D.int i) S | none => .err) = _
  rw [Option.bind_some, intsD_map (f := fun x => x), List.map_id', Option.bind_some, h]
theorem maxD_is {α : Type} {l : List α} {f : α → Int} {d : Int} : biR .maxD [.lst (l.map fun x => .int (f x)), .int d] S = .ok (.int (match maxI (l.map f) with | some i => i | none => d)) S := by
  show (match (some (l.map fun x => D.int (f x))).bind intsD with | some ns => R.ok (D.int (match maxI ns with | some i => i | none => d)) S | none => .err) = _
  rw [Option.bind_some, intsD_map]
theorem pow7 : binR false .pow (.int 10) (.int 7) S = .ok (.int 10000000) S := by simp [binR, ck]
theorem right_ru (h : j.Drawn) (hb : BagAt S b) (h0 : 0 ≤ room) (q : ∀ S', Keep [b] S S' → BagAt S' b → Q (.bl true) S') : Ru (callN Tb (k + 21) 23 [.ref b, j.enT, .int room] S) Q E := by
  have f := h.fit
  have hm := h.lm
  have m1 := h.m1
  refine Ru.def (fn := ⟨3, 19, p_l_right⟩) rfl rfl ?_; simp only [List.map_cons, List.map_nil, List.length_cons, List.length_nil, Nat.reduceAdd, Nat.reduceSub, List.replicate_succ, List.replicate_zero, List.cons_append, List.nil_append]
  and_intros
  refine least_ru (k := k) f (by omega) h0 fun S1 c1 b1 k1 B1 => ?_
  and_intros
  rw [List.length_map, h.lk]
  and_intros
  refine least_ru (k := k) f (by omega) (by omega) fun S2 c2 b2 k2 B2 => ?_
  have l12 := best_room B1 B2 (by omega)
  and_intros
  rw [if_neg (show ¬ decide (b2 < b1) = true by rw [decide_eq_true_eq]; omega)]
  and_intros
  refine Ru.eq (tot_ok (ch := []) (k := k + 17) f (by simp) (fun d hd => by cases hd)) ?_
  have l10 := best_none B1 h0
  and_intros
  rw [if_neg (show ¬ decide (j.tot [] < b1) = true by rw [decide_eq_true_eq]; omega)]
  and_intros
  rw [Int.toNat_natCast, rngD_upTo]
  refine Ru.lcm D.int (fun _ => [.bl false]) trivial (fun d hd => ?_) ?_
  · have hd := mem_upTo.mp hd
    and_intros
    refine Ru.eq (keep_at hd.1 (by rw [h.ls]; omega)) ?_
    and_intros
    by_cases hs : j.sizes.getD d.toNat 0 ≤ room
    · rw [if_pos (show decide (j.sizes.getD d.toNat 0 ≤ room) = true from decide_eq_true hs)]
      and_intros
      refine Ru.eq (tot_ok (ch := [d]) (k := k + 17) f (by simp) (fun x hx => by rw [List.mem_singleton.mp hx]; omega)) ?_
      have l1 := best_one B1 hd.1 hd.2 hs
      and_intros
      exact ⟨by rw [decide_eq_false (by omega)], rfl⟩
    · rw [if_neg (show ¬ decide (j.sizes.getD d.toNat 0 ≤ room) = true by rw [decide_eq_true_eq]; exact hs)]
      and_intros
      exact ⟨by first | rfl | rw [decide_eq_false hs], rfl⟩
  rw [flat_oneD]
  refine ⟨by rw [List.length_map]; unfold upTo; rw [List.length_map, List.length_range]; exact sz_le (by omega), ?_⟩
  and_intros
  refine Ru.eq (a := .bl false) (S := S2) (by rw [bi_any (l := upTo j.m) (f := fun _ => false)]; simp) ?_
  and_intros
  have hb2 := hb.keep (k1.trans k2) (by simp)
  obtain ⟨more, S3, e3, k3, b3, g3, l3⟩ := offers_ok (k := k + 18) (m := j.m) (gr := 20) hb2 (by omega) (by omega) (by omega) (by omega)
  refine Ru.eq e3 ?_
  and_intros
  refine take_ru (k := k + 19) b3 (by omega) (by omega) fun w S4 w0 w1 k4 b4 => ?_
  and_intros
  have s4 : (1000 : Nat) ≤ sizeLine := by decide
  have li := h.t.len
  rw [show cutD (j.its.map enI) none (some 11) = (j.its.take 11).map enI from (cut_take (n := 11)).trans (List.map_take ..).symm]
  refine Ru.eq (add_l (by rw [List.length_map, List.length_take]; simp; omega)) ?_
  rw [show (j.its.take 11).map enI ++ [D.tup [.int (1 + w), .lst (more.map enO)]] = (j.its.take 11 ++ [(1 + w, more)]).map enI by rw [List.map_append]; rfl]
  and_intros
  have f3 := longer_fit h (w := 1 + w) (by omega) (by omega) g3 l3
  refine least_ru (j := j.longer (1 + w) more) (k := k) f3 (by show j.m ≤ 11; omega) h0 fun S5 c5 b5 k5 B5 => ?_
  and_intros
  rw [show cutD (j.its.map enI) none (some 11) = (j.its.take 11).map enI from (cut_take (n := 11)).trans (List.map_take ..).symm]
  refine least_ru (j := j.short) (k := k) (short_fit h) (by show j.m ≤ 11; omega) h0 fun S6 c6 b6 k6 B6 => ?_
  have l56 : b6 ≤ b5 := best_le (i := j.short) B6 B5 rfl rfl fun ch => longer_le h (w := 1 + w) (by omega) (by omega) g3 l3 ch
  and_intros
  rw [if_neg (show ¬ decide (b5 < b6) = true by rw [decide_eq_true_eq]; omega)]
  have kb6 : Keep [b] S S6 := (((((k1.trans k2).mono (by simp)).trans k3).trans k4).trans ((k5.trans k6).mono (by simp)))
  have hb6 := b4.keep (k5.trans k6) (by simp)
  have zf : (D.lst (j.its.map enI)).fz = true := by
    have q := fzs_map (f := enI) (l := j.its) fun x _ => enI_fz x
    simpa [D.fz] using q
  have zd : (D.lst (j.its.map enI)).dp ≤ 64 := by
    have q : D.dps (j.its.map enI) ≤ 4 := dps_map fun x _ => enI_dp x
    simp [D.dp]
    omega
  subst_eqs
  refine Ru.join (fun ρ' S' => (∃ v11 v12 v13, ρ' = [some (.ref b), some j.enT, some (.int room), some (.lst (j.its.map enI)), some (.lst (j.keeps.map .int)), some (.lst (j.sizes.map .int)), some (.int b1), some (.int j.m), some (.int b2), some (.lst (more.map enO)), some (j.longer (1 + w) more).enT, v11, v12, v13, none, none, none, none, none]) ∧ Keep [b] S S' ∧ BagAt S' b) ?_ fun ρ' S7 ⟨⟨v11, v12, v13, hρ⟩, k7, b7⟩ => ?_
  · and_intros
    rw [ru_ne zf (by simp [D.fz, D.fzs])]
    refine ⟨⟨zd, by simp [D.dp, D.dps]⟩, ?_⟩
    and_intros
    obtain hi | ⟨x, r, hi⟩ : j.its = [] ∨ ∃ x r, j.its = x :: r := by
      cases j.its with
      | nil => exact .inl rfl
      | cons x r => exact .inr ⟨x, r, rfl⟩
    · rw [if_neg (by rw [hi]; simp [D.eqv, D.eqvs])]
      and_intros
      exact ⟨_, rfl, ⟨_, _, _, rfl⟩, kb6, hb6⟩
    · obtain ⟨wt, os⟩ := x
      obtain ⟨_, _, lo, go⟩ := h.t.it (wt, os) (by rw [hi]; exact List.mem_cons_self ..)
      have lo : os.length ≤ 12 := lo
      have lr : r.length ≤ 12 := by rw [hi] at li; simp at li; omega
      rw [if_pos (by rw [hi]; simp [D.eqv, D.eqvs])]
      and_intros
      refine Ru.eq (a := .tup [.int wt, .lst (os.map enO)]) (S := S6) (by rw [hi]; rfl) ?_
      and_intros
      obtain ⟨t0, ns0, os0, e0⟩ : ∃ t0 ns0 os0, os = (t0, ns0) :: os0 := by
        obtain ⟨o, ho, _⟩ := go.has
        cases os with
        | nil => cases ho
        | cons o os0 => exact ⟨o.1, o.2, os0, rfl⟩
      refine Ru.eq (a := .tup [.int t0, .tup (ns0.map .int)]) (S := S6) (by rw [e0]; rfl) ?_
      and_intros
      refine take_ru (k := k + 19) hb6 (by omega) (by omega) fun n S7 n0 n1 k7 b7 => ?_
      and_intros
      refine Ru.eq (a := .lst ((os ++ [(t0 / 2, [n])]).map enO)) ((add_l (by rw [List.length_map]; simp; omega)).trans (by rw [List.map_append]; rfl)) ?_
      and_intros
      rw [show cutD (j.its.map enI) (some 1) none = r.map enI by rw [hi]; exact cut_one]
      refine Ru.eq (a := .lst (((wt, os ++ [(t0 / 2, [n])]) :: r).map enI)) ((add_l (by rw [List.length_map]; simp; omega)).trans rfl) ?_
      and_intros
      refine least_ru (j := ⟨(wt, os ++ [(t0 / 2, [n])]) :: r, j.keeps, j.sizes, j.m⟩) (k := k) (cheaper_fit h hi) (by show j.m ≤ 11; omega) h0 fun S8 c8 b8 k8 B8 => ?_
      have l8 : b8 ≤ b1 := best_le B8 B1 rfl rfl fun ch => cheaper_le h hi ch
      and_intros
      rw [if_neg (show ¬ decide (b1 < b8) = true by rw [decide_eq_true_eq]; omega)]
      and_intros
      exact ⟨_, rfl, ⟨_, _, _, rfl⟩, kb6.trans (k7.trans (k8.mono (by simp))), b7.keep k8 (by simp)⟩
  subst hρ
  and_intros
  refine take_ru (k := k + 19) b7 (by omega) (by omega) fun t S8 t0 t1 k8 b8 => ?_
  subst_eqs
  refine Ru.join (fun ρ' S' => (∃ v11 v12 v13 v14 v15, ρ' = [some (.ref b), some j.enT, some (.int room), some (.lst (j.its.map enI)), some (.lst (j.keeps.map .int)), some (.lst (j.sizes.map .int)), some (.int b1), some (.int j.m), some (.int b2), some (.lst (more.map enO)), some (j.longer (1 + w) more).enT, v11, v12, v13, v14, v15, none, none, none]) ∧ Keep [b] S S' ∧ BagAt S' b) ?_ fun ρ' S9 ⟨⟨v11, v12, v13, v14, v15, hρ⟩, k9, b9⟩ => ?_
  · and_intros
    refine Ru.lcm enI (fun x => [.int x.1]) trivial (fun x hx => ?_) ?_
    · obtain ⟨w', os'⟩ := x
      show Ru (lcStep _ _ _ _ _ _ (.tup [.int w', .lst (os'.map enO)]) _) _ _
      and_intros
      exact ⟨rfl, rfl⟩
    rw [flat_oneD]
    refine ⟨by rw [List.length_map]; exact sz_le (by omega), ?_⟩
    and_intros
    refine Ru.eq maxD_is ?_
    generalize hW : (match maxI (j.its.map fun x => x.1) with | some i => i | none => (0 : Int)) = mw
    and_intros
    obtain ⟨mk, hk⟩ : ∃ i, maxI j.keeps = some i := maxI_some fun z => by have := h.lk; rw [z] at this; simp at this; omega
    by_cases hw : mw * (1 + t) ≤ 100
    · rw [if_pos (decide_eq_true hw)]
      and_intros
      refine Ru.eq (maxL_is hk) ?_
      and_intros
      refine Ru.eq pow7 ?_
      and_intros
      by_cases hq : mk * (1 + t) ≤ 10000000
      · rw [if_pos (decide_eq_true hq)]
        and_intros
        have hwx : ∀ x ∈ j.its, x.1 * (1 + t) ≤ 1000 := fun x hx => by
          obtain ⟨i, hi⟩ := maxI_some (l := j.its.map fun x => x.1) (fun z => by rw [List.map_eq_nil_iff] at z; rw [z] at hx; cases hx)
          rw [hi] at hW
          have hW : i = mw := hW
          have l1 := (Iv.max_spec hi).2 x.1 (List.mem_map.mpr ⟨x, hx, rfl⟩)
          have l2 := Int.mul_le_mul_of_nonneg_right (c := 1 + t) (hW ▸ l1) (by omega)
          omega
        refine Ru.lcm enI (fun x => [.tup [.int (x.1 * (1 + t)), .lst (x.2.map enO)]]) trivial (fun x hx => ?_) ?_
        · obtain ⟨w', os'⟩ := x
          show Ru (lcStep _ _ _ _ _ _ (.tup [.int w', .lst (os'.map enO)]) _) _ _
          and_intros
          exact ⟨rfl, rfl⟩
        rw [flat_oneD]
        refine ⟨by rw [List.length_map]; exact sz_le (by omega), ?_⟩
        and_intros
        refine Ru.lcm D.int (fun x => [.int ((1 + t) * x)]) trivial (fun x hx => ?_) ?_
        · and_intros
          exact ⟨rfl, rfl⟩
        rw [flat_oneD]
        refine ⟨by rw [List.length_map, h.lk]; exact sz_le (by omega), ?_⟩
        and_intros
        rw [show (D.tup [.lst (j.its.map fun x => .tup [.int (x.1 * (1 + t)), .lst (x.2.map enO)]), .lst (j.keeps.map fun x => .int ((1 + t) * x)), .lst (j.sizes.map .int)]) = (j.times (1 + t)).enT by
          show _ = D.tup [.lst ((j.its.map fun x => (x.1 * (1 + t), x.2)).map enI), .lst ((j.keeps.map fun x => (1 + t) * x).map .int), .lst (j.sizes.map .int)]
          rw [List.map_map, List.map_map]
          rfl]
        refine least_ru (j := j.times (1 + t)) (k := k) (times_fit h (by omega) hwx) (by show j.m ≤ 11; omega) h0 fun S9 c9 b9 k9 B9 => ?_
        have l9 : b9 = (1 + t) * b1 := best_times B1 B9 rfl rfl (by omega) fun ch => tot_times ..
        and_intros
        rw [l9, if_neg (by simp)]
        and_intros
        exact ⟨_, rfl, ⟨_, _, _, _, _, rfl⟩, (k7.trans k8).trans (k9.mono (by simp)), b8.keep k9 (by simp)⟩
      · rw [if_neg fun z => hq (of_decide_eq_true z)]
        and_intros
        exact ⟨_, rfl, ⟨_, _, _, _, _, rfl⟩, k7.trans k8, b8⟩
    · rw [if_neg fun z => hw (of_decide_eq_true z)]
      and_intros
      rw [if_neg fun z => hw (of_decide_eq_true z)]
      and_intros
      exact ⟨_, rfl, ⟨_, _, _, _, _, rfl⟩, k7.trans k8, b8⟩
  subst hρ
  and_intros
  by_cases c7 : (j.m : Int) < 7
  · rw [if_pos (decide_eq_true c7)]
    and_intros
    refine Ru.eq pow7 ?_
    and_intros
    by_cases cr : room < 10000000
    · rw [if_pos (decide_eq_true cr)]
      and_intros
      refine Ru.for (fun _ ρ S' => (∃ v11 v12 v13 v14 v15 v16 v17, ρ = [some (.ref b), some j.enT, some (.int room), some (.lst (j.its.map enI)), some (.lst (j.keeps.map .int)), some (.lst (j.sizes.map .int)), some (.int b1), some (.int j.m), some (.int b2), some (.lst (more.map enO)), some (j.longer (1 + w) more).enT, v11, v12, v13, v14, v15, v16, v17, none]) ∧ Keep [b] S S' ∧ BagAt S' b) ⟨⟨_, _, _, _, _, _, _, rfl⟩, k9, b9⟩ (fun _ _ _ _ => trivial) (fun i d ρ S' hd ⟨⟨u11, u12, u13, u14, u15, u16, u17, hρ⟩, kS, bS⟩ => ?_) fun ρ S' ⟨⟨u11, u12, u13, u14, u15, u16, u17, hρ⟩, kS, bS⟩ => ?_
      · subst hρ
        obtain ⟨x, y, rfl, x0, y0⟩ : ∃ x y : Int, d = .tup [.int x, .int y] ∧ 0 ≤ x ∧ 0 ≤ y := by
          match i, hd with
          | 0, hd => cases hd; exact ⟨0, 0, rfl, by omega, by omega⟩
          | 1, hd => cases hd; exact ⟨0, room + 1, rfl, by omega, by omega⟩
          | 2, hd => cases hd; exact ⟨5, 0, rfl, by omega, by omega⟩
          | n + 3, hd => cases hd
        and_intros
        refine Ru.eq (a := .lst ((j.keeps ++ [x]).map .int)) ((add_l (by rw [List.length_map, h.lk]; simp; omega)).trans (by rw [List.map_append]; rfl)) ?_
        and_intros
        refine Ru.eq (a := .lst ((j.sizes ++ [y]).map .int)) ((add_l (by rw [List.length_map, h.ls]; simp; omega)).trans (by rw [List.map_append]; rfl)) ?_
        and_intros
        refine least_ru (j := j.more x y) (k := k) (more_fit h x0 y0) (by show j.m + 1 ≤ 11; omega) h0 fun S9 c9 b9 k9 B9 => ?_
        have l9 := best_more B1 B9 (more_fit h x0 y0).toOk rfl rfl rfl rfl h.lk h.ls h.nd
        and_intros
        rw [l9, if_neg (by simp)]
        and_intros
        exact ⟨⟨_, _, _, _, _, _, _, rfl⟩, kS.trans (k9.mono (by simp)), bS.keep k9 (by simp)⟩
      · subst hρ
        and_intros
        exact q _ kS bS
    · rw [if_neg fun z => cr (of_decide_eq_true z)]
      and_intros
      exact q _ k9 b9
  · rw [if_neg fun z => c7 (of_decide_eq_true z)]
    and_intros
    rw [if_neg fun z => c7 (of_decide_eq_true z)]
    and_intros
    exact q _ k9 b9
end


end
section
/-! ### the law -/
set_option maxHeartbeats 1600000
theorem told (ns : List Int) (hl : ns.length ≤ 63) : ∃ S, callN Tb 40 24 [.scr (ns.map .int)] [] = .ok (.bl true) S := by
  have key : Ru (callN Tb 40 24 [.scr (ns.map .int)] []) (fun d _ => d = .bl true) noE := by
    refine Ru.def (fn := ⟨1, 5, p_law⟩) rfl rfl ?_; simp only [List.map_cons, List.map_nil, List.length_cons, List.length_nil, Nat.reduceAdd, Nat.reduceSub, List.replicate_succ, List.replicate_zero, List.cons_append, List.nil_append]
    and_intros
    rw [List.length_map]
    generalize hM : Int.toNat (if (if 3 < ((ns.length : Nat) : Int) / 2 then 3 else ((ns.length : Nat) : Int) / 2) > 2 then (if 3 < ((ns.length : Nat) : Int) / 2 then 3 else ((ns.length : Nat) : Int) / 2) else 2) = M
    have hM2 : M ≤ 3 := by
      rw [← hM]
      split <;> split <;> omega
    refine Ru.for (fun _ ρ _ => ∃ v1 v2 v3 v4, ρ = [some (.scr (ns.map .int)), v1, v2, v3, v4]) ⟨_, _, _, _, rfl⟩ (fun _ _ _ _ => trivial) (fun i d ρ S hd ⟨v1, v2, v3, v4, hρ⟩ => ?_) fun ρ S _ => ?_
    · subst hρ
      obtain ⟨rfl, hi⟩ := rng_get hd
      have hi : i < 3 := by omega
      and_intros
      obtain ⟨c1, e1, b1⟩ := bag_ok (k := 38) (ns := ns) (i := 2 * (0 + (i : Int))) (S := S) (by omega) (by omega)
      refine Ru.eq e1 ?_
      and_intros
      obtain ⟨c2, e2, b2⟩ := bag_ok (k := 38) (ns := ns) (i := 2 * (0 + (i : Int)) + 1) (S := S ++ [some c1]) (by omega) (by omega)
      refine Ru.eq e2 ?_
      have k2 : Keep [] (S ++ [some c1]) (S ++ [some c1] ++ [some c2]) := Keep.push
      have b1' := b1.keep k2 (by simp)
      have l1 : (S ++ [some c1]).length = S.length + 1 := by simp
      rw [l1] at b2 ⊢
      generalize S ++ [some c1] ++ [some c2] = S2 at b1' b2
      and_intros
      refine take_ru (k := 38) b1' (by omega) (by omega) fun t S3 t0 t1 k3 b3 => ?_
      obtain ⟨m, hm, i3⟩ := idx_ints (S := S3) [4, 6, 3, 8, 1] t0 (by simpa using t1)
      have hm1 : 1 ≤ m ∧ m ≤ 8 := by simp at hm; omega
      have o3 := b2.keep k3 (by simp)
      refine Ru.eq i3 ?_
      and_intros
      obtain ⟨its, keeps, sizes, S4, h4, k4, b4, o4, t4, lk, ls, nk, nsz⟩ := task_ok (k := 36) (m := m) b3 o3 (by omega) (by omega) (by omega)
      refine Ru.eq h4 ?_
      and_intros
      obtain ⟨j, hj⟩ : ∃ j : Job, j = ⟨its, keeps, sizes, m.toNat⟩ := ⟨_, rfl⟩
      have ej : D.tup [.lst (its.map enI), .lst (keeps.map .int), .lst (sizes.map .int)] = j.enT := by rw [hj]
      have mm : ((m.toNat : Nat) : Int) = m := by omega
      have dj : j.Drawn := by
        rw [hj]
        exact { k0 := nk, s0 := nsz, lk := lk, ls := ls, lm := by show m.toNat ≤ 8; omega, m1 := by show 1 ≤ m.toNat; omega, t := by show OkT ((m.toNat : Nat) : Int) its; rw [mm]; exact t4 }
      have sj : j.sizes.length ≤ 11 := by rw [dj.ls]; have := dj.lm; omega
      rw [ej]
      refine room_ru (k := 37) sj dj.s0 b4 fun room S5 h0 k5 b5 => ?_
      and_intros
      refine right_ru (k := 18) dj b5 h0 fun S6 k6 b6 => ?_
      and_intros
      exact ⟨_, _, _, _, rfl⟩
    · and_intros
      rfl
  obtain ⟨d, S, e, rfl⟩ := key.ex
  exact ⟨S, e⟩


end
end Wk
namespace Wk
open PySem PySem.Spec PyProof.Rows L2 Iv
theorem txt_of {K : PySem.W.Frag} {w : World} {h : Heap} {mg : Str → Option Value} (X : K.In h) (G : h.Ns mainGlobals mg) (c : He.SaysX fa fn [] tf fex w h K) : Txt K mg :=
  ⟨c.t.d.def_ 0 rfl,
   c.t.d.def_ 1 rfl,
   He.glo_ok X G (c.t.d.fact 0 rfl),
   c.t.d.def_ 2 rfl,
   He.glo_ok X G (c.t.d.fact 1 rfl),
   c.t.d.def_ 3 rfl,
   He.glo_ok X G (c.t.d.fact 2 rfl),
   c.t.d.def_ 4 rfl,
   He.glo_ok X G (c.t.d.fact 3 rfl),
   c.t.d.def_ 5 rfl,
   He.glo_ok X G (c.t.d.fact 4 rfl),
   c.t.d.def_ 6 rfl,
   He.glo_ok X G (c.t.d.fact 5 rfl),
   c.t.d.def_ 7 rfl,
   He.glo_ok X G (c.t.d.fact 6 rfl),
   c.t.d.def_ 8 rfl,
   c.t.d.def_ 9 rfl,
   c.t.d.def_ 10 rfl,
   c.t.d.def_ 11 rfl,
   c.t.d.def_ 12 rfl,
   He.glo_ok X G (c.t.d.fact 7 rfl),
   c.t.d.def_ 13 rfl,
   He.glo_ok X G (c.t.d.fact 8 rfl),
   c.t.d.def_ 14 rfl,
   He.glo_ok X G (c.t.d.fact 9 rfl),
   c.t.d.def_ 15 rfl,
   He.glo_ok X G (c.t.d.fact 10 rfl),
   c.t.d.def_ 16 rfl,
   He.glo_ok X G (c.t.d.fact 11 rfl),
   c.t.d.def_ 17 rfl,
   He.glo_ok X G (c.t.d.fact 12 rfl),
   c.t.d.def_ 18 rfl,
   He.glo_ok X G (c.t.d.fact 13 rfl),
   c.t.d.def_ 19 rfl,
   He.glo_ok X G (c.t.d.fact 14 rfl),
   c.t.d.def_ 20 rfl,
   He.glo_ok X G (c.t.d.fact 15 rfl),
   c.t.d.def_ 21 rfl,
   He.glo_ok X G (c.t.d.fact 16 rfl),
   c.t.d.def_ 22 rfl,
   He.glo_ok X G (c.t.d.fact 17 rfl),
   c.t.d.def_ 23 rfl,
   He.glo_ok X G (c.t.d.fact 18 rfl),
   c.t.d.def_ 24 rfl,
   He.glo_ok X G (c.t.d.fact 19 rfl),
   c.t.d.def_ 25 rfl,
   He.glo_ok X G (c.t.d.fact 20 rfl),
   c.t.d.def_ 26 rfl,
   He.glo_ok X G (c.t.d.fact 21 rfl),
   He.glo_ok X G (c.t.d.fact 22 rfl),
   He.glo_ok X G (c.t.d.fact 23 rfl),
   He.cls_ok (c.t.d.fact 24 rfl),
   He.noat_ok (c.t.d.fact 25 rfl),
   He.noat_ok (c.t.d.fact 26 rfl),
   He.noat_ok (c.t.d.fact 27 rfl),
   He.mkr_ok (c.t.d.fact 28 rfl),
   He.meth_ok (c.t.d.fact 29 rfl),
   He.meth_ok (c.t.d.fact 30 rfl),
   He.meth_ok (c.t.d.fact 31 rfl),
   He.int_ok X G (c.t.d.fact 32 rfl),
   He.int_ok X G (c.t.d.fact 33 rfl),
   He.int_ok X G (c.t.d.fact 34 rfl),
   He.free_ok X G (c.t.d.fact 35 rfl),
   He.free_ok X G (c.t.d.fact 36 rfl),
   He.free_ok X G (c.t.d.fact 37 rfl),
   He.free_ok X G (c.t.d.fact 38 rfl),
   He.free_ok X G (c.t.d.fact 39 rfl),
   He.free_ok X G (c.t.d.fact 40 rfl),
   He.free_ok X G (c.t.d.fact 41 rfl),
   He.free_ok X G (c.t.d.fact 42 rfl),
   He.free_ok X G (c.t.d.fact 43 rfl),
   He.free_ok X G (c.t.d.fact 44 rfl),
   He.free_ok X G (c.t.d.fact 45 rfl),
   He.free_ok X G (c.t.d.fact 46 rfl),
   He.free_ok X G (c.t.d.fact 47 rfl),
   He.free_ok X G (c.t.d.fact 48 rfl),
   He.free_ok X G (c.t.d.fact 49 rfl),
   He.free_ok X G (c.t.d.fact 50 rfl),
   He.tupAtB_ok (List.all_eq_true.mp c.more _ (List.mem_of_getElem? (i := 0) rfl)),
   He.tupAtB_ok (List.all_eq_true.mp c.more _ (List.mem_of_getElem? (i := 1) rfl))⟩
theorem facts {P : Program} {w : World} {K : PySem.W.Frag} {h : Heap} {mg : Str → Option Value} {f : Addr} (X : K.In h) (G : h.Ns mainGlobals mg) (hfa : mg ("law" : Str) = some (.ref f)) (c : He.SaysX fa fn [] tf fex w h K) :
    ∃ fd : FuncData, (∀ (s : Shared) (v : Value), BindsTo s fd ⟨[v], []⟩ [("_law_script", v)]) ∧ ∀ base : Heap, K.In base → base.Ns mainGlobals mg → (∀ p ∈ cs K, LamX.TabB base mg p.1 p.2) → FnOk P w K mg base CX0 82 f fd ["_law_script"] (spT K ((gs K).tabs.map (·.1))) := by
  have T := txt_of X G c
  obtain ⟨fd, F⟩ := T.d_law
  have e := hfa.symm.trans T.m_law
  cases e
  have b := FunD.bindsA (ps := ["_law_script"]) F fun _ _ _ _ _ _ us hl => match us, hl with | [_], _ => rfl
  refine ⟨fd, fun s v => b s [v] rfl, fun base _ _ TB => ?_⟩
  have A := (all_ok (P := P) (w := w) (base := base) T TB 40)
  have FO := fn_step (P := P) (w := w) (K := K) (mg := mg) (base := base) (g := gs K) (T := Tb) (f := 24) (N := _) (j := 2 * 39 + 3) (k := 39) rfl F sc_law fun _ _ _ _ _ _ hr => b_law T (all_ok T TB 39) hr
  exact fn_endT (g := gs K) (k := 40) rfl FO told
end Wk
open PySem PySem.W PySem.Calls PyProof.Rows
theorem PySem.Challenge.cw_whatindex_k50_whole_best_holds : PySem.Challenge.rw_whatindex_k50_whole_best.Holds := by
  refine Wk.closed ?hc
  case hc =>
    refine LamX.walk_ofTsE (l := PySem.Challenge.rw_whatindex_k50_whole_best) (n := 63) (k := 82) (x := "_law_script") (CX := fun _ => L2.CX0) rfl (by decide) (by kernel_rfl) ⟨rfl, by decide, by decide⟩ ?F (fun _ _ _ _ _ z => z)
    intro w mg fa h Y G hmg0
    obtain ⟨K, KX, c⟩ := Y
    have hmg : mg ("law" : PySem.Str) = some (.ref fa) := by
      have e : (HandSHeadRun.topDef (OpenLaw.row PySem.Challenge.rw_whatindex_k50_whole_best).prog 30).name = ("law" : PySem.Str) := by kernel_rfl
      rw [← e]
      exact hmg0
    obtain ⟨fd, hb, hF⟩ := Wk.facts (P := (PySem.Challenge.rw_whatindex_k50_whole_best).prog) (w := w) KX G hmg c
    exact ⟨K, KX, fd, Wk.cs K, Iv.spT K ((Wk.gs K).tabs.map (·.1)), List.forall_mem_singleton.mpr (c.empty _ (.head _)), List.forall_mem_singleton.mpr (c.out _ (.head _)), List.forall_mem_singleton.mpr (PySem.W.codeHd_of_K KX (c.hd _ (.head _))), hb, fun H a ns hl _ hT hS => ⟨a, ns, rfl, hS, hl, List.forall_mem_singleton.mpr (hT _ (.head _)), fun _ => rfl, rfl⟩, hF⟩

