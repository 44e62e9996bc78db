import PyProof.Rows.All
import Wide.All
import OpenK.AllK
import Wide.FinOn
import KE.KStateDown
import Lean
import HandS.ForMost
import HandS.Walk
import HandS.IsInst
import HandS.Flow
import HandS.TupAny
import HandS.Replace
import HandS.Zip
import HandS.Codes
import HandS.SetFor
import HandS.Style
import HandS.Conv
import HandS.Text
import HandS.TupLe
import HandS.WordsExc
import HandS.Defaults
import HandS.Head0
import HandS.Head1
import HandS.Head2
import HandS.HeadEnd
import HandS.HeadHook1
import HandS.HeadHook2
import HandS.Deep
import HandS.RevTup
import HandS.Rev
import HandS.DictComp
import HandS.Strs
import HandS.SetKeys
import HandS.SetBool
import HandS.TryOnly
import HandS.TryMany
import HandS.ExcOwn
import HandS.ExcInit
import HandS.ExcBuiltin
import HandS.MakeKw
import HandS.MakeKwOnly
import HandS.RaiseOp
import HandS.SortKw
import KE.GoesZip
import KE.GoesMore
import KE.GoesEnumKw
import KE.SortData
import KE.SortKeyHeap
import KE.DataCmp
import KE.DataFind
import KE.DataMinMax
import KE.DatumOrd
import KE.KUnpackStar
import PySem.Challenge.RW_whatindex_k12_bits
set_option Elab.async false
set_option linter.all false
set_option maxRecDepth 100000
set_option maxHeartbeats 4000000
/-! ### data, stores, results -/
namespace Iv
open PySem

inductive D where
  | non | bl (b : Bool) | int (i : Int) | str (x : Str)
  | tup (xs : List D)
  /-- a list that nobody changes any more -/
  | lst (xs : List D)
  /-- a list that is only read (the script) -/
  | scr (xs : List D)
  /-- a box of the store -/
  | ref (n : Nat)
  /-- an instance that nobody changes any more -/
  | ins (c : Nat) (fs : List (Nat × D))
  /-- a built-in class -/
  | ty (n : String)
  deriving Inhabited

inductive Cell where
  | lst (xs : List D)
  | ins (c : Nat) (fs : List (Nat × D))
  | dct (kvs : List (L2.Key × D))
  deriving Inhabited

abbrev Sto := List (Option Cell)
abbrev Env := List (Option D)

structure Exc where
  c : Nat
  fs : List (Nat × D)

inductive R (α : Type) where
  | ok (a : α) (S : Sto)
  | exc (x : Exc) (S : Sto)
  | err

def R.bind {α β : Type} (r : R α) (f : α → Sto → R β) : R β := match r with
  | .ok a S => f a S
  | .exc x S => .exc x S
  | .err => .err
@[simp] theorem R.bind_ok {α β : Type} (a : α) (S : Sto) (f : α → Sto → R β) : (R.ok a S).bind f = f a S := rfl
@[simp] theorem R.bind_err {α β : Type} (f : α → Sto → R β) : (R.err : R α).bind f = .err := rfl
@[simp] theorem R.bind_exc {α β : Type} (x : Exc) (S : Sto) (f : α → Sto → R β) : (R.exc x S : R α).bind f = .exc x S := rfl

/-- what must hold, else nothing is told -/
def ck {α : Type} (c : Prop) [Decidable c] (r : R α) : R α := if c then r else .err
theorem ck_of {α : Type} {c : Prop} [Decidable c] {r : R α} (h : c) : ck c r = r := if_pos h

/-! ### frozen data as the library's data -/
mutual
def D.py : D → PyData
  | .non => .none
  | .bl b => .bool b
  | .int i => .int i
  | .str x => .str x
  | .tup xs => .tuple (D.pys xs)
  | .lst xs => .list (D.pys xs)
  | .scr xs => .list (D.pys xs)
  | _ => .none
def D.pys : List D → List PyData
  | [] => []
  | x :: xs => x.py :: D.pys xs
end
mutual
/-- frozen through and through -/
def D.fz : D → Bool
  | .non => true
  | .bl _ => true
  | .int _ => true
  | .str _ => true
  | .tup xs => D.fzs xs
  | .lst xs => D.fzs xs
  | .scr xs => D.fzs xs
  | _ => false
def D.fzs : List D → Bool
  | [] => true
  | x :: xs => x.fz && D.fzs xs
end
mutual
/-- == of frozen data -/
def D.eqv : D → D → Bool
  | .non, .non => true
  | .bl a, .bl b => a == b
  | .bl a, .int j => (if a then 1 else 0) == j
  | .int i, .bl b => i == (if b then 1 else 0)
  | .int i, .int j => i == j
  | .str x, .str y => x == y
  | .tup xs, .tup ys => D.eqvs xs ys
  | .lst xs, .lst ys => D.eqvs xs ys
  | .lst xs, .scr ys => D.eqvs xs ys
  | .scr xs, .lst ys => D.eqvs xs ys
  | .scr xs, .scr ys => D.eqvs xs ys
  | _, _ => false
def D.eqvs : List D → List D → Bool
  | [], [] => true
  | x :: xs, y :: ys => x.eqv y && D.eqvs xs ys
  | _, _ => false
end
mutual
/-- how deep -/
def D.dp : D → Nat
  | .tup xs => D.dps xs + 1
  | .lst xs => D.dps xs + 1
  | .scr xs => D.dps xs + 1
  | _ => 0
def D.dps : List D → Nat
  | [] => 0
  | x :: xs => max x.dp (D.dps xs)
end

/-! ### boxes -/
def cellAt (S : Sto) (n : Nat) : Option Cell := (S[n]?).join
/-- a list, or a tuple, as it stands -/
def seqOf (S : Sto) : D → Option (List D)
  | .tup xs => some xs
  | .lst xs => some xs
  | .scr xs => some xs
  | .ref n => match cellAt S n with
    | some (.lst xs) => some xs
    | _ => none
  | _ => none
/-- a box read as a frozen list -/
def unbox (S : Sto) : D → D
  | .ref n => match cellAt S n with
    | some (.lst xs) => .lst xs
    | _ => .ref n
  | d => d
/-- the same through and through -/
def deep : Nat → Sto → D → D
  | 0, _, d => d
  | k + 1, S, d => match d with
    | .tup xs => .tup (xs.map (deep k S))
    | .lst xs => .lst (xs.map (deep k S))
    | .ref n => match cellAt S n with
      | some (.lst xs) => .lst (xs.map (deep k S))
      | _ => .ref n
    | d => d
/-- a new list: a box, or frozen -/
def mkL (box : Bool) (xs : List D) (S : Sto) : R D := match box with
  | true => .ok (.ref S.length) (S ++ [some (.lst xs)])
  | false => .ok (.lst xs) S
def setAt (S : Sto) (n : Nat) (c : Cell) : Sto := S.set n (some c)

/-! ### what operators tell -/
def mulOk (i j : Int) : Prop := (-(2 ^ 64) < i ∧ i < 2 ^ 64) ∨ (-(2 ^ 64) < j ∧ j < 2 ^ 64)
instance (i j : Int) : Decidable (mulOk i j) := by unfold mulOk; infer_instance
inductive Bop where
  | add | sub | mul | div | mod | pow
def addR (box : Bool) (x y : D) (S : Sto) : R D := match x, y with
  | .int i, .int j => .ok (.int (i + j)) S
  | .str a, .str b => ck (a.length + b.length ≤ sizeLine) (.ok (.str (a ++ b)) S)
  | .tup a, .tup b => ck (a.length + b.length ≤ sizeLine) (.ok (.tup (a ++ b)) S)
  | _, _ => match unbox S x, unbox S y with
    | .lst a, .lst b => ck (a.length + b.length ≤ sizeLine) (mkL box (a ++ b) S)
    | _, _ => .err
def binR (box : Bool) (op : Bop) (x y : D) (S : Sto) : R D := match op with
  | .add => addR box x y S
  | .sub => match x, y with
    | .int i, .int j => .ok (.int (i - j)) S
    | _, _ => .err
  | .mul => match x, y with
    | .int i, .int j => ck (mulOk i j) (.ok (.int (i * j)) S)
    | .str z, .int j => ck (z.length ≤ 1000 ∧ 1 ≤ j ∧ j ≤ 1000) (.ok (.str (Txt.mul z j)) S)
    | _, _ => .err
  | .div => match x, y with
    | .int i, .int j => ck (0 < j ∧ j < 1073741824) (.ok (.int (i / j)) S)
    | _, _ => .err
  | .mod => match x, y with
    | .int i, .int j => ck (0 < j) (.ok (.int (i % j)) S)
    | _, _ => .err
  | .pow => match x, y with
    | .int i, .int j => ck (0 ≤ j ∧ j ≤ 1000000 ∧ i.natAbs < 2 ^ 64) (.ok (.int (i ^ j.toNat)) S)
    | _, _ => .err
/-- the truth of a value -/
def truR (S : Sto) : D → Option Bool
  | .non => some false
  | .bl b => some b
  | .int i => some (i != 0)
  | .str z => some ((z.length : Int) != 0)
  | d => (seqOf S d).map fun xs => !xs.isEmpty
def tru (d : D) (S : Sto) : R Bool := match truR S d with
  | some b => .ok b S
  | none => .err
inductive Cop where
  | eq | ne | lt | le | gt | ge | isN | notN | isIn | notIn
  /-- == and != of boxes that hold boxes -/
  | eqd | ned
def eqD (x y : D) (S : Sto) (k : Bool → R D) : R D := ck ((unbox S x).fz = true ∧ (unbox S y).fz = true ∧ (unbox S x).dp ≤ 64 ∧ (unbox S y).dp ≤ 64) (k ((unbox S x).eqv (unbox S y)))
def eqX (x y : D) (S : Sto) (k : Bool → R D) : R D := ck ((deep 8 S x).fz = true ∧ (deep 8 S y).fz = true ∧ (deep 8 S x).dp ≤ 64 ∧ (deep 8 S y).dp ≤ 64) (k ((deep 8 S x).eqv (deep 8 S y)))
def notNon : D → Bool
  | .non => false
  | _ => true
/-- x < y of alike data -/
def ltD (x y : D) : Bool := PySem.W.dataLt x.py y.py
def ordX (x y : D) (r : R D) : R D := ck (x.fz = true ∧ y.fz = true ∧ x.dp ≤ 60 ∧ y.dp ≤ 60 ∧ PySem.W.alike x.py y.py = true ∧ notNon x = true) r
def cmpR (op : Cop) (x y : D) (S : Sto) : R D := match op with
  | .eq => eqD x y S fun b => .ok (.bl b) S
  | .ne => eqD x y S fun b => .ok (.bl (!b)) S
  | .eqd => eqX x y S fun b => .ok (.bl b) S
  | .ned => eqX x y S fun b => .ok (.bl (!b)) S
  | .lt => match x, y with
    | .int i, .int j => .ok (.bl (decide (i < j))) S
    | _, _ => ordX x y (.ok (.bl (ltD x y)) S)
  | .le => match x, y with
    | .int i, .int j => .ok (.bl (decide (i ≤ j))) S
    | _, _ => ordX x y (.ok (.bl (!ltD y x)) S)
  | .gt => match x, y with
    | .int i, .int j => .ok (.bl (decide (j < i))) S
    | _, _ => .err
  | .ge => match x, y with
    | .int i, .int j => .ok (.bl (decide (j ≤ i))) S
    | _, _ => .err
  | .isN => match y with
    | .non => .ok (.bl (match x with | .non => true | _ => false)) S
    | .bl b => match x with
      | .bl a => .ok (.bl (decide (a = b))) S
      | _ => .err
    | _ => .err
  | .notN => match y with
    | .non => .ok (.bl (match x with | .non => false | _ => true)) S
    | .bl b => match x with
      | .bl a => .ok (.bl (!decide (a = b))) S
      | _ => .err
    | _ => .err
  | .isIn => inR x y S fun b => .ok (.bl b) S
  | .notIn => inR x y S fun b => .ok (.bl (!b)) S
where
  inR (x y : D) (S : Sto) (k : Bool → R D) : R D := match x, y with
    | .str a, .str b => match a.cps.toList with
      | [c] => k (decide (c ∈ b.cps.toList))
      | _ => .err
    | _, _ => match seqOf S y with
      | some ys => ck (x.fz = true ∧ x.dp ≤ 63 ∧ D.fzs ys = true ∧ D.dps ys ≤ 63) (k (ys.any fun z => z.eqv x))
      | none => .err
/-- an item by its place -/
def atD {α : Type} (xs : List α) (i : Int) : Option α := if 0 ≤ i then xs[i.toNat]? else if -(xs.length : Int) ≤ i then xs[(i + xs.length).toNat]? else none
def idxR (x y : D) (S : Sto) : R D := match y with
  | .int i => match x with
    | .str z => match atD z.cps.toList i with
      | some c => .ok (.str ⟨#[c]⟩) S
      | none => .err
    | _ => match seqOf S x with
      | some xs => match atD xs i with
        | some d => .ok d S
        | none => .err
      | none => .err
  | _ => .err
/-- the bounds of a slice -/
def cutD {α : Type} (xs : List α) (lo hi : Option Int) : List α := (xs.drop (HT.sIx xs.length 0 lo)).take (HT.sIx xs.length xs.length hi - HT.sIx xs.length 0 lo)
def slcR (box : Bool) (x : D) (lo hi : Option Int) (S : Sto) : R D := match x with
  | .tup xs => .ok (.tup (cutD xs lo hi)) S
  | .str z => .ok (.str (L2.cutS z lo hi)) S
  | _ => match seqOf S x with
    | some xs => mkL box (cutD xs lo hi) S
    | none => .err
end Iv

/-! ### programs over data -/
namespace Iv
open PySem L2

/-- where a parameter's value comes from: an argument, a default -/
inductive Ar where
  | a (j : Nat) | d (d : D)
inductive Bi where
  | len | abs | min2 | max2 | minL | maxL | sumL | sumS | all | any | int1 | list1 (box : Bool) | tuple1 | sorted1 (box : Bool) | isi | isc (c : Nat) | maxD | sumLL | str1 | sortedR (box : Bool)
inductive Bm where
  | append | insert | index | count | join | upper | clear | remove | pop1 | sindex

mutual
inductive E where
  | var (i : Nat)
  | con (d : D)
  | bin (box : Bool) (op : Bop) (a b : E)
  | neg (a : E) | not (a : E)
  | cmp (op : Cop) (a b : E)
  | chain (op op' : Cop) (a b c : E)
  | and (a b : E) | or (a b : E)
  | ife (c a b : E)
  | tup (es : List E)
  | lst (box : Bool) (es : List E)
  | idx (a i : E)
  | slc (box : Bool) (a : E) (lo hi : Option E)
  | rev (box : Bool) (a : E)
  | lc (box : Bool) (own : List Nat) (tg : Tg) (it : It) (ifs : List E) (elt : E)
  | lc2 (box : Bool) (own own1 : List Nat) (tg : Tg) (it : It) (ifs : List E) (tg1 : Tg) (it1 : It) (ifs1 : List E) (elt : E)
  | call (f : Nat) (arr : List Ar) (es : List E)
  | meth (o : E) (ms : List (Nat × Nat × List Ar)) (es : List E)
  | make (fr : Bool) (c f : Nat) (arr : List Ar) (es : List E)
  | attr (o : E) (f : Nat)
  | bi (b : Bi) (es : List E)
  | bm (m : Bm) (o : E) (es : List E)
  | frz (a : E)
  | trng (a b : E)
  /-- isinstance(a, (t, ..)) -/
  | isit (a : E) (ts : List String)
  | lrng (box : Bool) (a b : E)
  /-- dicts: {}, d[k], k in d, d.get(k, x), d.pop(k), sorted(d), {k: v for ..} -/
  | dnew
  | didx (o k : E)
  | din (neg : Bool) (k o : E)
  | dget2 (o k x : E)
  | dpop (o k : E)
  | dsort (box : Bool) (o : E)
  | dcomp (own : List Nat) (tg : Tg) (it : It) (ifs : List E) (k v : E)
  /-- len({..}), sorted({..}) of ints -/
  | lenSC (own : List Nat) (tg : Tg) (it : It) (ifs : List E) (elt : E)
  | sortSC (own : List Nat) (tg : Tg) (it : It) (ifs : List E) (elt : E)
  /-- len(set(a)), sorted(set(a)) -/
  | lenS (a : E)
  | sortS (a : E)
inductive It where
  | e (a : E)
  | rng1 (a : E) | rng2 (a b : E)
  | rng3 (a b c : E)
  | enum (s : Option E) (a : E)
  /-- enumerate(a, start=s) -/
  | enumS (a s : E)
  | zip (strict : Bool) (a b : E)
  /-- boxes may be walked -/
  | zipb (a b : E)
inductive Tg where
  | var (i : Nat)
  | tup (ts : List Tg)
  | idx (o i : E)
  | attr (o : E) (f : Nat) (cs : List Nat)
  /-- a, b, *rest -/
  | tups (ts : List Tg)
  /-- xs[a:b] -/
  | slc (o lo hi : E)
  /-- d[k] -/
  | didx (o k : E)
end
inductive St where
  | expr (e : E)
  | asg (t : Tg) (e : E)
  | aug (i : Nat) (op : Bop) (e : E)
  | ite (c : E) (a b : List St)
  | for (t : Tg) (it : It) (body : List St)
  | while (c : E) (body : List St)
  | ret (e : E) | retN | brk | cont | pass

abbrev CE := Nat → List D → Sto → R D

def pick (ds : List D) : List Ar → Option (List D)
  | [] => some []
  | .a j :: r => match ds[j]? with
    | some d => (pick ds r).map (d :: ·)
    | none => none
  | .d d :: r => (pick ds r).map (d :: ·)
def callR (F : CE) (f : Nat) (arr : List Ar) (ds : List D) (S : Sto) : R D := match pick ds arr with
  | some ps => F f ps S
  | none => .err

/-! ### built-in functions -/
def intsD : List D → Option (List Int)
  | [] => some []
  | .int i :: r => (intsD r).map (i :: ·)
  | _ => none
def blsD : List D → Option (List Bool)
  | [] => some []
  | .bl i :: r => (blsD r).map (i :: ·)
  | _ => none
def strsD : List D → Option (List Str)
  | [] => some []
  | .str i :: r => (strsD r).map (i :: ·)
  | _ => none
def lenR (S : Sto) : D → Option Nat
  | .str z => some z.length
  | d => (seqOf S d).map (·.length)
def minI : List Int → Option Int
  | [] => none
  | i :: r => some (r.foldl (fun m x => if x < m then x else m) i)
def maxI : List Int → Option Int
  | [] => none
  | i :: r => some (r.foldl (fun m x => if m < x then x else m) i)
def leD (a b : D) : Bool := PySem.W.dataLe false D.py a b
def sortD (xs : List D) : List D := xs.mergeSort leD
def leR (a b : D) : Bool := PySem.W.dataLe true D.py a b
def sortRD (xs : List D) : List D := xs.mergeSort leR
def sortable (ds : List PyData) : Prop := (∀ d ∈ ds, ∀ d' ∈ ds, PySem.W.alike d d' = true) ∧ ((∀ d, d ∈ ds → ∃ x r, d = .tuple (x :: r)) ∨ ∀ d, d ∈ ds → d ≠ .none ∧ ∀ xs, d ≠ .tuple xs)
noncomputable instance (ds : List PyData) : Decidable (sortable ds) := Classical.propDecidable _
/-- the built-in class of a value -/
def tyOf (S : Sto) : D → Option String
  | .non => some "NoneType"
  | .bl _ => some "bool"
  | .int _ => some "int"
  | .str _ => some "str"
  | .tup _ => some "tuple"
  | .lst _ => some "list"
  | .scr _ => some "list"
  | .ref n => match cellAt S n with
    | some (.lst _) => some "list"
    | _ => none
  | _ => none
def clsOf (S : Sto) : D → Option Nat
  | .ins c _ => some c
  | .ref n => match cellAt S n with
    | some (.ins c _) => some c
    | _ => none
  | _ => none
def biLen (S : Sto) : List D → R D
  | [x] => match lenR S x with
    | some n => .ok (.int n) S
    | none => .err
  | _ => .err
def biAbs (S : Sto) : List D → R D
  | [.int i] => .ok (.int (if i < 0 then -i else i)) S
  | _ => .err
def biMin2 (S : Sto) : List D → R D
  | [.int i, .int j] => .ok (.int (if j < i then j else i)) S
  | _ => .err
def biMax2 (S : Sto) : List D → R D
  | [.int i, .int j] => .ok (.int (if j > i then j else i)) S
  | _ => .err
/-- a list, not a tuple -/
def lstOf (S : Sto) : D → Option (List D)
  | .tup _ => none
  | d => seqOf S d
def intsOf (S : Sto) (x : D) : Option (List Int) := (lstOf S x).bind intsD
def biMinL (S : Sto) : List D → R D
  | [x] => match (intsOf S x).bind minI with
    | some i => .ok (.int i) S
    | none => .err
  | _ => .err
def biMaxL (S : Sto) : List D → R D
  | [x] => match (intsOf S x).bind maxI with
    | some i => .ok (.int i) S
    | none => .err
  | _ => .err
def biSumL (S : Sto) : List D → R D
  | [x] => match intsOf S x with
    | some ns => .ok (.int ns.sum) S
    | none => .err
  | _ => .err
def biSumS (S : Sto) : List D → R D
  | [x, .int i] => match intsOf S x with
    | some ns => .ok (.int (i + ns.sum)) S
    | none => .err
  | _ => .err
def biAll (S : Sto) : List D → R D
  | [x] => match (lstOf S x).bind blsD with
    | some bs => .ok (.bl (bs.all id)) S
    | none => .err
  | _ => .err
def biAny (S : Sto) : List D → R D
  | [x] => match (lstOf S x).bind blsD with
    | some bs => .ok (.bl (bs.any id)) S
    | none => .err
  | _ => .err
def biInt (S : Sto) : List D → R D
  | [.int i] => .ok (.int i) S
  | [.bl k] => .ok (.int (if k then 1 else 0)) S
  | _ => .err
def biList (box : Bool) (S : Sto) : List D → R D
  | [x] => match seqOf S x with
    | some xs => mkL box xs S
    | none => .err
  | _ => .err
def biTuple (S : Sto) : List D → R D
  | [x] => match seqOf S x with
    | some xs => .ok (.tup xs) S
    | none => .err
  | _ => .err
noncomputable def biSorted (box : Bool) (S : Sto) : List D → R D
  | [x] => match lstOf S x with
    | some xs => ck (D.fzs xs = true ∧ D.dps xs ≤ 60 ∧ sortable (D.pys xs)) (mkL box (sortD xs) S)
    | none => .err
  | _ => .err
noncomputable def biSortedR (box : Bool) (S : Sto) : List D → R D
  | [x, .bl true] => match lstOf S x with
    | some xs => ck (D.fzs xs = true ∧ D.dps xs ≤ 60 ∧ sortable (D.pys xs)) (mkL box (sortRD xs) S)
    | none => .err
  | _ => .err
def biMaxD (S : Sto) : List D → R D
  | [x, .int d] => match intsOf S x with
    | some ns => .ok (.int (match maxI ns with | some i => i | none => d)) S
    | none => .err
  | _ => .err
def lstsD (S : Sto) : List D → Option (List (List D))
  | [] => some []
  | x :: r => match unbox S x with
    | .lst ys => (lstsD S r).map (ys :: ·)
    | _ => none
def biSumLL (S : Sto) : List D → R D
  | [x, .lst []] => match (lstOf S x).bind (lstsD S) with
    | some ys => ck (ys.flatten.length ≤ 1000) (.ok (.lst ys.flatten) S)
    | none => .err
  | _ => .err
def biIsi (S : Sto) : List D → R D
  | [x, .ty n] => match (tyOf S x).bind fun a => kitB a n with
    | some b => .ok (.bl b) S
    | none => .err
  | _ => .err
/-- str() of a list or a tuple -/
def isSeqD : D → Bool
  | .tup _ => true
  | .lst _ => true
  | .scr _ => true
  | .ref _ => true
  | _ => false
/-- str() of what is no sequence -/
def strA : D → Option Str
  | .non => some "None"
  | .bl b => some (if b then "True" else "False")
  | .int i => if i.natAbs.log2 < 1920 then some (toString i) else none
  | .str z => some z
  | _ => none
def biStrA (S : Sto) (z : Str) : R D := ck (z.length ≤ sizeLine ∧ ∀ c ∈ z.cps.toList, c < 1114112) (.ok (.str z) S)
def biStr (S : Sto) : List D → R D
  | [x] => match strA x with
    | some z => biStrA S z
    | none => ck (isSeqD x = true ∧ (deep 8 S x).fz = true ∧ (deep 8 S x).dp ≤ 60 ∧ (deep 8 S x).py.showable = true ∧ (deep 8 S x).py.shown.length ≤ sizeLine ∧ ∀ c ∈ (deep 8 S x).py.shown.cps.toList, c < 1114112) (.ok (.str (deep 8 S x).py.shown) S)
  | _ => .err
noncomputable def biR (b : Bi) (ds : List D) (S : Sto) : R D := match b with
  | .len => biLen S ds
  | .abs => biAbs S ds
  | .min2 => biMin2 S ds
  | .max2 => biMax2 S ds
  | .minL => biMinL S ds
  | .maxL => biMaxL S ds
  | .sumL => biSumL S ds
  | .sumS => biSumS S ds
  | .all => biAll S ds
  | .any => biAny S ds
  | .int1 => biInt S ds
  | .list1 box => biList box S ds
  | .tuple1 => biTuple S ds
  | .sorted1 box => biSorted box S ds
  | .isi => biIsi S ds
  | .isc _ => .err
  | .maxD => biMaxD S ds
  | .sumLL => biSumLL S ds
  | .str1 => biStr S ds
  | .sortedR box => biSortedR box S ds
/-- is it a receiver for that method -/
def bmOk (m : Bm) (o : D) (S : Sto) : Bool := match m, o with
  | .append, .ref n => match cellAt S n with
    | some (.lst _) => true
    | _ => false
  | .insert, .ref n => match cellAt S n with
    | some (.lst _) => true
    | _ => false
  | .join, .str _ => true
  | .sindex, .str _ => true
  | .remove, .ref n => match cellAt S n with
    | some (.lst _) => true
    | _ => false
  | .pop1, .ref n => match cellAt S n with
    | some (.lst _) => true
    | _ => false
  | .index, d => (lstOf S d).isSome
  | .count, d => (lstOf S d).isSome
  | .clear, .ref n => match cellAt S n with
    | some (.lst _) => true
    | _ => false
  | _, _ => false
def insertAt (xs : List D) (i : Int) (y : D) : List D := xs.take i.toNat ++ [y] ++ xs.drop i.toNat
def bmAppend (S : Sto) (o : D) : List D → R D
  | [y] => match o with
    | .ref n => match cellAt S n with
      | some (.lst xs) => ck (xs.length < sizeLine) (.ok .non (setAt S n (.lst (xs ++ [y]))))
      | _ => .err
    | _ => .err
  | _ => .err
def bmInsert (S : Sto) (o : D) : List D → R D
  | [.int i, y] => match o with
    | .ref n => match cellAt S n with
      | some (.lst xs) => ck (xs.length < sizeLine ∧ 0 ≤ i ∧ i < 2 ^ 63) (.ok .non (setAt S n (.lst (insertAt xs i y))))
      | _ => .err
    | _ => .err
  | _ => .err
def bmJoin (S : Sto) (o : D) : List D → R D
  | [x] => match o with
    | .str a => match (seqOf S x).bind strsD with
      | some ys => ck ((ys.map (·.length)).sum + ys.length * a.length ≤ 16777216) (.ok (.str (Txt.join a ys)) S)
      | none => .err
    | _ => .err
  | _ => .err
def bmRemove (S : Sto) (o : D) : List D → R D
  | [y] => match o with
    | .ref n => match cellAt S n with
      | some (.lst xs) => match xs.findIdx? (fun z => z.eqv y) with
        | some j => ck (D.fzs xs = true ∧ y.fz = true ∧ D.dps xs ≤ 60 ∧ y.dp ≤ 60 ∧ xs.length ≤ sizeLine) (.ok .non (setAt S n (.lst (xs.eraseIdx j))))
        | none => .err
      | _ => .err
    | _ => .err
  | _ => .err
def bmPop (S : Sto) (o : D) : List D → R D
  | [.int i] => match o with
    | .ref n => match cellAt S n with
      | some (.lst xs) => match xs[i.toNat]? with
        | some d => ck (0 ≤ i ∧ i < 1000000) (.ok d (setAt S n (.lst (xs.eraseIdx i.toNat))))
        | none => .err
      | _ => .err
    | _ => .err
  | _ => .err
def bmIndex (S : Sto) (o : D) : List D → R D
  | [y] => match lstOf S o with
    | some xs => match xs.findIdx? (fun z => z.eqv y) with
      | some j => ck (D.fzs xs = true ∧ y.fz = true ∧ D.dps xs ≤ 60 ∧ y.dp ≤ 60) (.ok (.int (j : Nat)) S)
      | none => .err
    | none => .err
  | _ => .err
def bmCount (S : Sto) (o : D) : List D → R D
  | [y] => match lstOf S o with
    | some xs => ck (D.fzs xs = true ∧ y.fz = true ∧ D.dps xs ≤ 60 ∧ y.dp ≤ 60) (.ok (.int (xs.countP fun z => z.eqv y : Nat)) S)
    | none => .err
  | _ => .err
def bmSIndex (S : Sto) (o : D) : List D → R D
  | [.str b] => match o with
    | .str a => match Builtin.Str.occurrences a b 0 a.length 1 with
      | i :: _ => .ok (.int (i : Nat)) S
      | [] => .err
    | _ => .err
  | _ => .err
def bmClear (S : Sto) (o : D) : List D → R D
  | [] => match o with
    | .ref n => match cellAt S n with
      | some (.lst _) => .ok .non (setAt S n (.lst []))
      | _ => .err
    | _ => .err
  | _ => .err
def bmR (m : Bm) (o : D) (ds : List D) (S : Sto) : R D := match m with
  | .append => bmAppend S o ds
  | .insert => bmInsert S o ds
  | .join => bmJoin S o ds
  | .clear => bmClear S o ds
  | .remove => bmRemove S o ds
  | .pop1 => bmPop S o ds
  | .index => bmIndex S o ds
  | .count => bmCount S o ds
  | .sindex => bmSIndex S o ds
  | _ => .err

/-! ### dicts -/
def keyD : D → Option L2.Key
  | .int i => some (.inl i)
  | .str x => some (.inr x)
  | _ => none
def keyV : L2.Key → D
  | .inl i => .int i
  | .inr x => .str x
def dGet (kvs : List (L2.Key × D)) (k : L2.Key) : Option D := (kvs.find? fun kv => decide (kv.1 = k)).map (·.2)
def dPut (kvs : List (L2.Key × D)) (k : L2.Key) (v : D) : List (L2.Key × D) := if (kvs.any fun kv => decide (kv.1 = k)) = true then kvs.map (fun kv => if kv.1 = k then (kv.1, v) else kv) else kvs ++ [(k, v)]
def dDrop (kvs : List (L2.Key × D)) (k : L2.Key) : List (L2.Key × D) := kvs.filter fun kv => decide (kv.1 ≠ k)
def dctOf (S : Sto) : D → Option (Nat × List (L2.Key × D))
  | .ref n => match cellAt S n with
    | some (.dct kvs) => some (n, kvs)
    | _ => none
  | _ => none
def didxR (x y : D) (S : Sto) : R D := match dctOf S x, keyD y with
  | some p, some k => match dGet p.2 k with
    | some d => .ok d S
    | none => .err
  | _, _ => .err
def dinR (neg : Bool) (y x : D) (S : Sto) : R D := match dctOf S x, keyD y with
  | some p, some k => .ok (.bl (if neg then !(dGet p.2 k).isSome else (dGet p.2 k).isSome)) S
  | _, _ => .err
def dget2R (x y z : D) (S : Sto) : R D := match dctOf S x, keyD y with
  | some p, some k => .ok ((dGet p.2 k).getD z) S
  | _, _ => .err
def dpopR (x y : D) (S : Sto) : R D := match dctOf S x, keyD y with
  | some p, some k => match dGet p.2 k with
    | some d => .ok d (setAt S p.1 (.dct (dDrop p.2 k)))
    | none => .err
  | _, _ => .err
def dputR (x y d : D) (S : Sto) : R Unit := match dctOf S x, keyD y with
  | some p, some k => ck (p.2.length < sizeLine) (.ok () (setAt S p.1 (.dct (dPut p.2 k d))))
  | _, _ => .err
def intKs : List (L2.Key × D) → Option (List Int)
  | [] => some []
  | (.inl i, _) :: r => (intKs r).map (i :: ·)
  | _ => none
def strKs : List (L2.Key × D) → Option (List Str)
  | [] => some []
  | (.inr i, _) :: r => (strKs r).map (i :: ·)
  | _ => none
/-- ints, texts in order -/
def srtI (ns : List Int) : List Int := ns.mergeSort fun a b => decide (a ≤ b)
def srtS (ns : List Str) : List Str := ns.mergeSort fun a b => !decide (b.cps.toList < a.cps.toList)
def dsortR (box : Bool) (x : D) (S : Sto) : R D := match dctOf S x with
  | some p => match intKs p.2, strKs p.2 with
    | some ns, _ => ck (ns.length < 64) (mkL box ((srtI ns).map .int) S)
    | none, some ns => ck (ns.length < 64) (mkL box ((srtS ns).map .str) S)
    | none, none => .err
  | none => .err
/-- the pairs that a dict comprehension made -/
def pairsD : List D → Option (List (L2.Key × D))
  | [] => some []
  | .tup [k, v] :: r => match keyD k with
    | some k => (pairsD r).map ((k, v) :: ·)
    | none => none
  | _ => none
def mergeD (es : List (L2.Key × D)) : List (L2.Key × D) := es.foldl (fun acc kv => dPut acc kv.1 kv.2) []
def mkDct (ys : List D) (S : Sto) : R D := match pairsD ys with
  | some es => ck (ys.length < sizeLine) (.ok (.ref S.length) (S ++ [some (.dct (mergeD es))]))
  | none => .err
def keysD : List D → Option (List L2.Key)
  | [] => some []
  | d :: r => match keyD d with
    | some k => (keysD r).map (k :: ·)
    | none => none
/-- how many unlike ones -/
def manyK {κ : Type} [DecidableEq κ] (ks : List κ) : Nat := ks.eraseDups.length
def lenSCR (ys : List D) (S : Sto) : R D := match keysD ys with
  | some ks => ck (ys.length < 1000) (.ok (.int (manyK ks)) S)
  | none => .err
def nubK {κ : Type} [DecidableEq κ] (ks : List κ) : List κ := ks.eraseDups
def lenSR (o : Option (List D)) (S : Sto) : R D := match o with
  | some ys => lenSCR ys S
  | none => .err
def sortSR (o : Option (List D)) (S : Sto) : R D := match o with
  | some ys => match intsD ys, strsD ys with
    | some ns, _ => ck (ns.length < 64) (.ok (.lst ((srtI (nubK ns)).map .int)) S)
    | none, some zs => ck (zs.length < 64) (.ok (.lst ((srtS (nubK zs)).map .str)) S)
    | none, none => .err
  | none => .err
def sortSCR (ys : List D) (S : Sto) : R D := match intsD ys with
  | some ns => ck (ys.length < 64) (.ok (.lst ((srtI ns.eraseDups).map .int)) S)
  | none => .err

/-! ### walks -/
def isRef : D → Bool
  | .ref _ => true
  | _ => false
/-- a list's walk, or a tuple's -/
def kOf : D → Bool
  | .tup _ => false
  | _ => true
inductive Src where
  | fix | box (n : Nat) (xs : List D)
  | two (a b : Src)
def Src.there (s : Src) (S : Sto) : Prop := match s with
  | .fix => True
  | .box n xs => cellAt S n = some (.lst xs)
  | .two a b => a.there S ∧ b.there S
noncomputable instance (s : Src) (S : Sto) : Decidable (s.there S) := Classical.propDecidable _
def walkOf (S : Sto) : D → Option (Src × List D)
  | .tup xs => some (.fix, xs)
  | .lst xs => some (.fix, xs)
  | .scr xs => some (.fix, xs)
  | .str z => some (.fix, z.cps.toList.map fun c => .str ⟨#[c]⟩)
  | .ref n => match cellAt S n with
    | some (.lst xs) => some (.box n xs, xs)
    | _ => none
  | _ => none
/-- a list's walk, no tuple's -/
def walkL (S : Sto) : D → Option (Src × List D)
  | .tup _ => none
  | .str _ => none
  | d => walkOf S d
/-- a walk of a list or a tuple -/
def walkZ (S : Sto) : D → Option (Src × List D)
  | .str _ => none
  | d => walkOf S d
def rngS (lo c : Int) (n : Nat) : List D := (List.range n).map fun (i : Nat) => D.int (lo + (i : Int) * c)
def rngN (i j k : Int) : Nat := ((j - i + k - 1) / k).toNat
def isiT (S : Sto) (x : D) : List String → Option Bool
  | [] => some false
  | t :: ts => match (tyOf S x).bind fun a => kitB a t with
    | some true => some true
    | some false => isiT S x ts
    | none => none
def rngD (lo : Int) (n : Nat) : List D := (List.range n).map fun (i : Nat) => D.int (lo + i)
def enumD (s : Int) (xs : List D) : List D := xs.mapIdx fun i x => .tup [.int (s + i), x]
def zipD (xs ys : List D) : List D := (xs.zip ys).map fun p => .tup [p.1, p.2]
noncomputable def lcLoop (src : Src) (step : D → Sto → R (List D)) : List D → Sto → R (List D)
  | [], S => ck (src.there S) (.ok [] S)
  | d :: ds, S => ck (src.there S) (match step d S with
    | .ok xs S1 => match lcLoop src step ds S1 with
      | .ok ys S2 => .ok (xs ++ ys) S2
      | _ => .err
    | _ => .err)
def wipeE (ρ : Env) : List Nat → Env
  | [] => ρ
  | v :: vs => (wipeE ρ vs).set v none
def smallI (i : Int) : Prop := -(2 ^ 62) ≤ i ∧ i < 2 ^ 62
instance (i : Int) : Decidable (smallI i) := by unfold smallI; infer_instance
def attrR (o : D) (f : Nat) (S : Sto) : R D := match o with
  | .ins _ fs => match fs.lookup f with
    | some d => .ok d S
    | none => .err
  | .ref n => match cellAt S n with
    | some (.ins _ fs) => match fs.lookup f with
      | some d => .ok d S
      | none => .err
    | _ => .err
  | _ => .err
def putFd (f : Nat) (d : D) : List (Nat × D) → List (Nat × D)
  | [] => [(f, d)]
  | (g, e) :: r => if g = f then (g, d) :: r else (g, e) :: putFd f d r
def sattrR (o : D) (f : Nat) (cs : List Nat) (d : D) (S : Sto) : R Unit := match o with
  | .ref n => match cellAt S n with
    | some (.ins c fs) => ck (c ∈ cs ∧ fs.length < 900) (.ok () (setAt S n (.ins c (putFd f d fs))))
    | _ => .err
  | _ => .err
def sidxR (o i d : D) (S : Sto) : R Unit := match o, i with
  | .ref n, .int k => match cellAt S n with
    | some (.lst xs) => ck (0 ≤ k ∧ k < xs.length) (.ok () (setAt S n (.lst (xs.set k.toNat d))))
    | _ => .err
  | _, _ => .err
def sslcR (o l h d : D) (S : Sto) : R Unit := match o, l, h, d with
  | .ref n, .int i, .int j, .lst ys => match cellAt S n with
    | some (.lst xs) => ck (0 ≤ i ∧ i ≤ j ∧ j ≤ xs.length ∧ xs.length + ys.length ≤ sizeLine) (.ok () (setAt S n (.lst (xs.take i.toNat ++ ys ++ xs.drop j.toNat))))
    | _ => .err
  | _, _, _, _ => .err
def frzR (d : D) (S : Sto) : R D := match d with
  | .ref n => match cellAt S n with
    | some (.lst xs) => .ok (.lst xs) (S.set n none)
    | some (.ins c fs) => .ok (.ins c fs) (S.set n none)
    | _ => .err
  | _ => .err
/-- an instance is made: its box, what __init__ does, perhaps frozen -/
def makeR (F : CE) (fr : Bool) (c f : Nat) (arr : List Ar) (ds : List D) (S : Sto) : R D :=
  (callR F f arr (.ref S.length :: ds) (S ++ [some (.ins c [])])).bind fun r S1 => match r with
    | .non => if fr then frzR (.ref S.length) S1 else .ok (.ref S.length) S1
    | _ => .err

mutual
noncomputable def ev (F : CE) : E → Env → Sto → R D
  | .var i, ρ, S => match ρ[i]? with
    | some (some d) => .ok d S
    | _ => .err
  | .con d, _, S => .ok d S
  | .bin box op a b, ρ, S => (ev F a ρ S).bind fun x S => (ev F b ρ S).bind fun y S => binR box op x y S
  | .neg a, ρ, S => (ev F a ρ S).bind fun x S => match x with
    | .int i => .ok (.int (-i)) S
    | _ => .err
  | .not a, ρ, S => (ev F a ρ S).bind fun x S => (tru x S).bind fun b S => .ok (.bl (!b)) S
  | .cmp op a b, ρ, S => (ev F a ρ S).bind fun x S => (ev F b ρ S).bind fun y S => cmpR op x y S
  | .chain op op' a b c, ρ, S => (ev F a ρ S).bind fun x S => (ev F b ρ S).bind fun y S => (cmpR op x y S).bind fun z S => (tru z S).bind fun k S =>
      if k = true then (ev F c ρ S).bind fun w S => cmpR op' y w S else .ok (.bl false) S
  | .and a b, ρ, S => (ev F a ρ S).bind fun x S => (tru x S).bind fun k S => if k = true then ev F b ρ S else .ok x S
  | .or a b, ρ, S => (ev F a ρ S).bind fun x S => (tru x S).bind fun k S => if k = true then .ok x S else ev F b ρ S
  | .ife c a b, ρ, S => (ev F c ρ S).bind fun x S => (tru x S).bind fun k S => if k = true then ev F a ρ S else ev F b ρ S
  | .tup es, ρ, S => (evs F es ρ S).bind fun xs S => ck (xs.length ≤ sizeLine) (.ok (.tup xs) S)
  | .lst box es, ρ, S => (evs F es ρ S).bind fun xs S => ck (xs.length ≤ sizeLine) (mkL box xs S)
  | .idx a i, ρ, S => (ev F a ρ S).bind fun x S => (ev F i ρ S).bind fun y S => idxR x y S
  | .slc box a lo hi, ρ, S => (ev F a ρ S).bind fun x S => (evp F lo ρ S).bind fun l S => (evp F hi ρ S).bind fun h S => slcR box x l h S
  | .rev box a, ρ, S => (ev F a ρ S).bind fun x S => match x with
    | .tup xs => .ok (.tup xs.reverse) S
    | _ => match seqOf S x with
      | some xs => mkL box xs.reverse S
      | none => .err
  | .lc box own tg it ifs elt, ρ, S => (evIt F it ρ S).bind fun w S =>
      (lcLoop w.1 (fun d S => (asg F tg d (wipeE ρ own) S).bind fun ρ1 S => (evIfs F ifs ρ1 S).bind fun k S => if k = true then (ev F elt ρ1 S).bind fun y S => .ok [y] S else .ok [] S) w.2 S).bind fun ys S => ck (ys.length ≤ sizeLine) (mkL box ys S)
  | .lc2 box own own1 tg it ifs tg1 it1 ifs1 elt, ρ, S => (evIt F it ρ S).bind fun w S =>
      (lcLoop w.1 (fun d S => (asg F tg d (wipeE ρ own) S).bind fun ρ1 S => (evIfs F ifs ρ1 S).bind fun k S => if k = true then
        (evIt F it1 ρ1 S).bind fun w1 S => lcLoop w1.1 (fun d1 S => (asg F tg1 d1 (wipeE ρ1 own1) S).bind fun ρ2 S => (evIfs F ifs1 ρ2 S).bind fun k S => if k = true then (ev F elt ρ2 S).bind fun y S => .ok [y] S else .ok [] S) w1.2 S
        else .ok [] S) w.2 S).bind fun ys S => ck (ys.length ≤ sizeLine) (mkL box ys S)
  | .call f arr es, ρ, S => (evs F es ρ S).bind fun xs S => callR F f arr xs S
  | .meth o ms es, ρ, S => (ev F o ρ S).bind fun x S => match (clsOf S x).bind fun c => ms.lookup c with
    | some (f, arr) => (evs F es ρ S).bind fun xs S => callR F f arr (x :: xs) S
    | none => .err
  | .make fr c f arr es, ρ, S => (evs F es ρ S).bind fun xs S => makeR F fr c f arr xs S
  | .attr o f, ρ, S => (ev F o ρ S).bind fun x S => attrR x f S
  | .bi b es, ρ, S => (evs F es ρ S).bind fun xs S => biR b xs S
  | .bm m o es, ρ, S => (ev F o ρ S).bind fun x S => ck (bmOk m x S = true) ((evs F es ρ S).bind fun xs S => bmR m x xs S)
  | .frz a, ρ, S => (ev F a ρ S).bind fun x S => frzR x S
  | .trng a b, ρ, S => (ev F a ρ S).bind fun x S => (ev F b ρ S).bind fun y S => match x, y with
    | .int i, .int j => ck (smallI i ∧ smallI j ∧ (j - i).toNat ≤ 2 ^ 24) (.ok (.tup (rngD i (j - i).toNat)) S)
    | _, _ => .err
  | .isit a ts, ρ, S => (ev F a ρ S).bind fun x S => match isiT S x ts with
    | some b => ck (ts.length ≤ 100) (.ok (.bl b) S)
    | none => .err
  | .lrng box a b, ρ, S => (ev F a ρ S).bind fun x S => (ev F b ρ S).bind fun y S => match x, y with
    | .int i, .int j => ck (smallI i ∧ smallI j ∧ (j - i).toNat ≤ 2 ^ 24) (mkL box (rngD i (j - i).toNat) S)
    | _, _ => .err
  | .dnew, _, S => .ok (.ref S.length) (S ++ [some (.dct [])])
  | .didx o k, ρ, S => (ev F o ρ S).bind fun x S => (ev F k ρ S).bind fun y S => didxR x y S
  | .din neg k o, ρ, S => (ev F k ρ S).bind fun y S => (ev F o ρ S).bind fun x S => dinR neg y x S
  | .dget2 o k z, ρ, S => (ev F o ρ S).bind fun x S => ck ((dctOf S x).isSome = true) ((ev F k ρ S).bind fun y S => (ev F z ρ S).bind fun v S => dget2R x y v S)
  | .dpop o k, ρ, S => (ev F o ρ S).bind fun x S => ck ((dctOf S x).isSome = true) ((ev F k ρ S).bind fun y S => dpopR x y S)
  | .dsort box o, ρ, S => (ev F o ρ S).bind fun x S => dsortR box x S
  | .dcomp own tg it ifs k v, ρ, S => (evIt F it ρ S).bind fun w S =>
      (lcLoop w.1 (fun d S => (asg F tg d (wipeE ρ own) S).bind fun ρ1 S => (evIfs F ifs ρ1 S).bind fun b S => if b = true then (ev F k ρ1 S).bind fun y S => (ev F v ρ1 S).bind fun z S => .ok [.tup [y, z]] S else .ok [] S) w.2 S).bind fun ys S => mkDct ys S
  | .lenSC own tg it ifs elt, ρ, S => (evIt F it ρ S).bind fun w S =>
      (lcLoop w.1 (fun d S => (asg F tg d (wipeE ρ own) S).bind fun ρ1 S => (evIfs F ifs ρ1 S).bind fun b S => if b = true then (ev F elt ρ1 S).bind fun y S => .ok [y] S else .ok [] S) w.2 S).bind fun ys S => lenSCR ys S
  | .sortSC own tg it ifs elt, ρ, S => (evIt F it ρ S).bind fun w S =>
      (lcLoop w.1 (fun d S => (asg F tg d (wipeE ρ own) S).bind fun ρ1 S => (evIfs F ifs ρ1 S).bind fun b S => if b = true then (ev F elt ρ1 S).bind fun y S => .ok [y] S else .ok [] S) w.2 S).bind fun ys S => sortSCR ys S
  | .lenS a, ρ, S => (ev F a ρ S).bind fun x S => lenSR (seqOf S x) S
  | .sortS a, ρ, S => (ev F a ρ S).bind fun x S => sortSR (seqOf S x) S
noncomputable def evs (F : CE) : List E → Env → Sto → R (List D)
  | [], _, S => .ok [] S
  | e :: es, ρ, S => (ev F e ρ S).bind fun x S => (evs F es ρ S).bind fun xs S => .ok (x :: xs) S
noncomputable def evp (F : CE) : Option E → Env → Sto → R (Option Int)
  | none, _, S => .ok none S
  | some e, ρ, S => (ev F e ρ S).bind fun x S => match x with
    | .int i => .ok (some i) S
    | _ => .err
noncomputable def evIfs (F : CE) : List E → Env → Sto → R Bool
  | [], _, S => .ok true S
  | e :: es, ρ, S => (ev F e ρ S).bind fun x S => (tru x S).bind fun k S => if k = true then evIfs F es ρ S else .ok false S
noncomputable def evIt (F : CE) : It → Env → Sto → R (Src × List D)
  | .e a, ρ, S => (ev F a ρ S).bind fun x S => match walkOf S x with
    | some w => .ok w S
    | none => .err
  | .rng1 a, ρ, S => (ev F a ρ S).bind fun x S => match x with
    | .int j => ck (smallI j) (.ok (.fix, rngD 0 j.toNat) S)
    | _ => .err
  | .rng2 a b, ρ, S => (ev F a ρ S).bind fun x S => (ev F b ρ S).bind fun y S => match x, y with
    | .int i, .int j => ck (smallI i ∧ smallI j) (.ok (.fix, rngD i (j - i).toNat) S)
    | _, _ => .err
  | .rng3 a b c, ρ, S => (ev F a ρ S).bind fun x S => (ev F b ρ S).bind fun y S => (ev F c ρ S).bind fun z S => match x, y, z with
    | .int i, .int j, .int k => ck (smallI i ∧ smallI j ∧ i ≤ j ∧ 0 < k ∧ k < 1073741824) (.ok (.fix, rngS i k (rngN i j k)) S)
    | _, _, _ => .err
  | .zipb a b, ρ, S => (ev F a ρ S).bind fun x S => (ev F b ρ S).bind fun y S => match walkZ S x, walkZ S y with
    | some v, some w => ck (kOf x = kOf y) (.ok (.two v.1 w.1, zipD v.2 w.2) S)
    | _, _ => .err
  | .enum s a, ρ, S => (ev F a ρ S).bind fun x S => (evp F s ρ S).bind fun i S => match walkL S x with
    | some w => ck (i = none) (.ok (w.1, enumD 0 w.2) S)
    | none => .err
  | .enumS a s, ρ, S => (ev F a ρ S).bind fun x S => (ev F s ρ S).bind fun y S => match walkL S x, y with
    | some w, .int i => ck (smallI i) (.ok (w.1, enumD i w.2) S)
    | _, _ => .err
  | .zip strict a b, ρ, S => (ev F a ρ S).bind fun x S => (ev F b ρ S).bind fun y S => match seqOf S x, seqOf S y with
    | some xs, some ys => ck ((strict = true → xs.length = ys.length) ∧ isRef x = false ∧ isRef y = false ∧ (strict = true ∨ kOf x = kOf y)) (.ok (.fix, zipD xs ys) S)
    | _, _ => .err
noncomputable def asg (F : CE) : Tg → D → Env → Sto → R Env
  | .var i, d, ρ, S => .ok (ρ.set i (some d)) S
  | .tup ts, d, ρ, S => match seqOf S d with
    | some xs => ck (xs.length = ts.length) (asgs F ts xs ρ S)
    | none => .err
  | .tups ts, d, ρ, S => match seqOf S d with
    | some xs => ck (1 ≤ ts.length ∧ ts.length ≤ xs.length + 1 ∧ xs.length ≤ 16384) (asgs F ts (xs.take (ts.length - 1) ++ [.lst (xs.drop (ts.length - 1))]) ρ S)
    | none => .err
  | .slc o lo hi, d, ρ, S => (ev F o ρ S).bind fun x S => (ev F lo ρ S).bind fun l S => (ev F hi ρ S).bind fun h S => (sslcR x l h d S).bind fun _ S => .ok ρ S
  | .idx o i, d, ρ, S => (ev F o ρ S).bind fun x S => (ev F i ρ S).bind fun y S => (sidxR x y d S).bind fun _ S => .ok ρ S
  | .attr o f cs, d, ρ, S => (ev F o ρ S).bind fun x S => (sattrR x f cs d S).bind fun _ S => .ok ρ S
  | .didx o k, d, ρ, S => (ev F o ρ S).bind fun x S => (ev F k ρ S).bind fun y S => (dputR x y d S).bind fun _ S => .ok ρ S
noncomputable def asgs (F : CE) : List Tg → List D → Env → Sto → R Env
  | [], _, ρ, S => .ok ρ S
  | t :: ts, d :: ds, ρ, S => (asg F t d ρ S).bind fun ρ S => asgs F ts ds ρ S
  | _ :: _, [], _, _ => .err
end

/-! ### statements -/
inductive Fl where
  | next (ρ : Env) | ret (d : D) | brk (ρ : Env) | cont (ρ : Env) | raised (x : Exc) (ρ : Env)
/-- an expression's result within a statement: what is raised leaves it -/
def R.go {α : Type} (r : R α) (ρ : Env) (f : α → Sto → R Fl) : R Fl := match r with
  | .ok a S => f a S
  | .exc x S => .ok (.raised x ρ) S
  | .err => .err
@[simp] theorem R.go_ok {α : Type} (a : α) (S : Sto) (ρ : Env) (f : α → Sto → R Fl) : (R.ok a S).go ρ f = f a S := rfl
@[simp] theorem R.go_err {α : Type} (ρ : Env) (f : α → Sto → R Fl) : (R.err : R α).go ρ f = .err := rfl
@[simp] theorem R.go_exc {α : Type} (x : Exc) (S : Sto) (ρ : Env) (f : α → Sto → R Fl) : (R.exc x S : R α).go ρ f = .ok (.raised x ρ) S := rfl
/-- nothing is raised here -/
def R.st {α β : Type} (r : R α) (f : α → Sto → R β) : R β := match r with
  | .ok a S => f a S
  | _ => .err
@[simp] theorem R.st_ok {α β : Type} (a : α) (S : Sto) (f : α → Sto → R β) : (R.ok a S).st f = f a S := rfl
@[simp] theorem R.st_err {α β : Type} (f : α → Sto → R β) : (R.err : R α).st f = .err := rfl
/-- behind a statement -/
def R.fl (r : R Fl) (f : Env → Sto → R Fl) : R Fl := match r with
  | .ok (.next ρ) S => f ρ S
  | .ok w S => .ok w S
  | _ => .err
@[simp] theorem R.fl_next (ρ : Env) (S : Sto) (f : Env → Sto → R Fl) : (R.ok (.next ρ) S : R Fl).fl f = f ρ S := rfl
@[simp] theorem R.fl_ret (d : D) (S : Sto) (f : Env → Sto → R Fl) : (R.ok (.ret d) S : R Fl).fl f = .ok (.ret d) S := rfl
@[simp] theorem R.fl_brk (ρ : Env) (S : Sto) (f : Env → Sto → R Fl) : (R.ok (.brk ρ) S : R Fl).fl f = .ok (.brk ρ) S := rfl
@[simp] theorem R.fl_cont (ρ : Env) (S : Sto) (f : Env → Sto → R Fl) : (R.ok (.cont ρ) S : R Fl).fl f = .ok (.cont ρ) S := rfl
@[simp] theorem R.fl_raised (x : Exc) (ρ : Env) (S : Sto) (f : Env → Sto → R Fl) : (R.ok (.raised x ρ) S : R Fl).fl f = .ok (.raised x ρ) S := rfl
@[simp] theorem R.fl_err (f : Env → Sto → R Fl) : (R.err : R Fl).fl f = .err := rfl
/-- behind a turn of a loop -/
def R.turn (r : R Fl) (f : Env → Sto → R Fl) : R Fl := match r with
  | .ok (.next ρ) S => f ρ S
  | .ok (.cont ρ) S => f ρ S
  | .ok (.brk ρ) S => .ok (.next ρ) S
  | .ok w S => .ok w S
  | _ => .err
@[simp] theorem R.turn_next (ρ : Env) (S : Sto) (f : Env → Sto → R Fl) : (R.ok (.next ρ) S : R Fl).turn f = f ρ S := rfl
@[simp] theorem R.turn_cont (ρ : Env) (S : Sto) (f : Env → Sto → R Fl) : (R.ok (.cont ρ) S : R Fl).turn f = f ρ S := rfl
@[simp] theorem R.turn_brk (ρ : Env) (S : Sto) (f : Env → Sto → R Fl) : (R.ok (.brk ρ) S : R Fl).turn f = .ok (.next ρ) S := rfl
@[simp] theorem R.turn_ret (d : D) (S : Sto) (f : Env → Sto → R Fl) : (R.ok (.ret d) S : R Fl).turn f = .ok (.ret d) S := rfl
@[simp] theorem R.turn_raised (x : Exc) (ρ : Env) (S : Sto) (f : Env → Sto → R Fl) : (R.ok (.raised x ρ) S : R Fl).turn f = .ok (.raised x ρ) S := rfl
noncomputable def forLoop (src : Src) (step : D → Env → Sto → R Fl) : List D → Env → Sto → R Fl
  | [], ρ, S => ck (src.there S) (.ok (.next ρ) S)
  | d :: ds, ρ, S => ck (src.there S) ((step d ρ S).turn fun ρ1 S1 => forLoop src step ds ρ1 S1)
def whileLoop (test : Env → Sto → R Bool) (body : Env → Sto → R Fl) : Nat → Env → Sto → R Fl
  | 0, _, _ => .err
  | n + 1, ρ, S => (test ρ S).go ρ fun k S => if k = true then (body ρ S).turn fun ρ1 S1 => whileLoop test body n ρ1 S1 else .ok (.next ρ) S
def augR (op : Bop) (x y : D) (S : Sto) : R D := match op, x, y with
  | .add, .int i, .int j => .ok (.int (i + j)) S
  | .add, .str a, .str b => ck (a.length + b.length ≤ sizeLine) (.ok (.str (a ++ b)) S)
  | .add, .ref n, y => match cellAt S n, unbox S y with
    | some (.lst xs), .lst ys => ck (xs.length + ys.length ≤ sizeLine ∧ isRef y = false) (.ok (.ref n) (setAt S n (.lst (xs ++ ys))))
    | _, _ => .err
  | .sub, .int i, .int j => .ok (.int (i - j)) S
  | .mul, .int i, .int j => ck (mulOk i j) (.ok (.int (i * j)) S)
  | _, _, _ => .err
mutual
noncomputable def ex (F : CE) : St → Env → Sto → R Fl
  | .expr e, ρ, S => (ev F e ρ S).go ρ fun _ S => .ok (.next ρ) S
  | .asg t e, ρ, S => (ev F e ρ S).go ρ fun d S => (asg F t d ρ S).st fun ρ S => .ok (.next ρ) S
  | .aug i op e, ρ, S => match ρ[i]? with
    | some (some x) => ((ev F e ρ S).bind fun y S => augR op x y S).go ρ fun z S => .ok (.next (ρ.set i (some z))) S
    | _ => .err
  | .ite c a b, ρ, S => ((ev F c ρ S).bind fun x S => tru x S).go ρ fun k S => if k = true then exs F a ρ S else exs F b ρ S
  | .for t it body, ρ, S => (evIt F it ρ S).go ρ fun w S => forLoop w.1 (fun d ρ S => (asg F t d ρ S).st fun ρ S => exs F body ρ S) w.2 ρ S
  | .while c body, ρ, S => whileLoop (fun ρ S => (ev F c ρ S).bind fun x S => tru x S) (fun ρ S => exs F body ρ S) 1000000 ρ S
  | .ret e, ρ, S => (ev F e ρ S).go ρ fun d S => .ok (.ret d) S
  | .retN, _, S => .ok (.ret .non) S
  | .brk, ρ, S => .ok (.brk ρ) S
  | .cont, ρ, S => .ok (.cont ρ) S
  | .pass, ρ, S => .ok (.next ρ) S
noncomputable def exs (F : CE) : List St → Env → Sto → R Fl
  | [], ρ, S => .ok (.next ρ) S
  | st :: sts, ρ, S => (ex F st ρ S).fl fun ρ S => exs F sts ρ S
end
/-- a def's body on its parameters; n: how many slots -/
noncomputable def run (F : CE) (n : Nat) (body : List St) (ds : List D) (S : Sto) : R D :=
  match exs F body (ds.map some ++ List.replicate (n - ds.length) none) S with
    | .ok (.ret d) S => .ok d S
    | .ok (.next _) S => .ok .non S
    | .ok (.raised x _) S => .exc x S
    | _ => .err
structure Fn where
  np : Nat
  n : Nat
  body : List St
noncomputable def callN (T : List Fn) : Nat → CE
  | 0, _, _, _ => .err
  | k + 1, f, ds, S => match T[f]? with
    | some d => ck (ds.length = d.np) (run (callN T k) d.n d.body ds S)
    | none => .err
end Iv

/-! ### what stands for what -/
namespace Iv
open PySem PySem.Spec PyProof.Rows L2

/-- where the boxes stand; what nobody may look at meanwhile (the list that a comprehension makes) -/
structure Mp where
  box : Nat → Option Addr
  hid : Addr → Prop
instance : CoeFun Mp (fun _ => Nat → Option Addr) := ⟨Mp.box⟩
structure Gs where
  K : PySem.W.Frag
  ca : Nat → Addr
  fn : Nat → Str
  /-- the names of attributes that the program has -/
  fok : Nat → Prop
  finj : ∀ f f', fok f → fok f' → fn f = fn f' → f = f'
  xr : Mp → Nat → Hp → Exc → Value → Option Addr → Prop

/-- a text that the library's rules take -/
def okS (x : Str) : Prop := x.length ≤ sizeLine ∧ ∀ c ∈ x.cps.toList, c < 1114112
def Off (m : Mp) (a : Addr) : Prop := (∀ i, m i ≠ some a) ∧ ¬ m.hid a
def TupAt (g : Gs) (m : Mp) (H : Hp) (a : Addr) (vs : List V) : Prop := (H a = some (.tup vs) ∧ Off m a) ∨ ∀ H', SqT g.K H' a vs
def ScrAt (g : Gs) (m : Mp) (H : Hp) (a : Addr) (vs : List V) : Prop := (∃ o, H a = some (.frz o (.lst vs)) ∧ Off m a) ∨ ∀ H', SqL g.K H' a vs
def insOk (g : Gs) (c : Nat) (fs : List (Nat × D)) : Prop := Cls g.K (g.ca c) ∧ fs.length ≤ 900 ∧ ∀ f, f ∈ fs.map (·.1) → g.fok f ∧ NoAttr g.K (g.ca c) (g.fn f)
mutual
def Rel (g : Gs) (m : Mp) (n : Nat) (H : Hp) : D → V → Prop
  | .non, v => v = .non
  | .bl b, v => v = .bl b
  | .int i, v => v = .int i
  | .str x, v => v = .str x ∧ okS x
  | .tup xs, v => ∃ a vs, v = .ref a ∧ TupAt g m H a vs ∧ Rels g m n H xs vs
  | .lst xs, v => ∃ a vs, v = .ref a ∧ (H a = some (.lst vs) ∧ Off m a) ∧ Rels g m n H xs vs
  | .scr xs, v => ∃ a vs, v = .ref a ∧ ScrAt g m H a vs ∧ Rels g m n H xs vs
  | .ref i, v => i < n ∧ ∃ a, v = .ref a ∧ ∀ b, m i = some b → b = a
  | .ins c fs, v => ∃ a dx gs, v = .ref a ∧ (H a = some (.ins (g.ca c) dx gs) ∧ Off m a) ∧ insOk g c fs ∧ RelFs g m n H fs gs
  | .ty t, v => v = .ty t
def Rels (g : Gs) (m : Mp) (n : Nat) (H : Hp) : List D → List V → Prop
  | [], vs => vs = []
  | x :: xs, vs => ∃ w ws, vs = w :: ws ∧ Rel g m n H x w ∧ Rels g m n H xs ws
def RelFs (g : Gs) (m : Mp) (n : Nat) (H : Hp) : List (Nat × D) → List (Str × V) → Prop
  | [], gs => gs = []
  | (f, d) :: r, gs => ∃ v gr, gs = (g.fn f, v) :: gr ∧ Rel g m n H d v ∧ RelFs g m n H r gr
end
/-- more of the heap, other boxes -/
structure Ext (m : Mp) (n : Nat) (H : Hp) (m' : Mp) (n' : Nat) (H' : Hp) : Prop where
  le : n ≤ n'
  old : ∀ i a, i < n → m' i = some a → m i = some a
  keep : ∀ a o, H a = some o → Off m a → H' a = some o ∧ Off m' a
  hid : ∀ a, m.hid a → m'.hid a ∧ H' a = H a
/-- the same, whatever is hidden -/
structure ExtW (m : Mp) (n : Nat) (H : Hp) (m' : Mp) (n' : Nat) (H' : Hp) : Prop where
  le : n ≤ n'
  old : ∀ i a, i < n → m' i = some a → m i = some a
  keep : ∀ a o, H a = some o → Off m a → H' a = some o ∧ Off m' a
section
variable {g : Gs} {m m1 m2 m3 : Mp} {n n1 n2 n3 : Nat} {H H1 H2 H3 : Hp} {a b : Addr}
theorem Ext.w (x : Ext m1 n1 H1 m2 n2 H2) : ExtW m1 n1 H1 m2 n2 H2 := ⟨x.le, x.old, x.keep⟩
theorem Ext.refl : Ext m n H m n H := ⟨Nat.le_refl _, fun _ _ _ e => e, fun _ _ e o => ⟨e, o⟩, fun _ h => ⟨h, rfl⟩⟩
theorem Ext.trans (x : Ext m1 n1 H1 m2 n2 H2) (y : Ext m2 n2 H2 m3 n3 H3) : Ext m1 n1 H1 m3 n3 H3 :=
  ⟨Nat.le_trans x.le y.le, fun i a h e => x.old i a h (y.old i a (Nat.lt_of_lt_of_le h x.le) e), fun a o e f => let ⟨e1, f1⟩ := x.keep a o e f; y.keep a o e1 f1,
    fun a h => let ⟨h1, e1⟩ := x.hid a h; let ⟨h2, e2⟩ := y.hid a h1; ⟨h2, e2.trans e1⟩⟩
theorem TupAt.monoW {vs : List V} (x : ExtW m1 n1 H1 m2 n2 H2) (h : TupAt g m1 H1 a vs) : TupAt g m2 H2 a vs := by
  rcases h with ⟨e, o⟩ | h
  · exact .inl (x.keep _ _ e o)
  · exact .inr h
theorem ScrAt.monoW {vs : List V} (x : ExtW m1 n1 H1 m2 n2 H2) (h : ScrAt g m1 H1 a vs) : ScrAt g m2 H2 a vs := by
  rcases h with ⟨ob, e, o⟩ | h
  · exact .inl ⟨ob, x.keep _ _ e o⟩
  · exact .inr h
theorem TupAt.sq {vs : List V} (h : TupAt g m H a vs) : SqT g.K H a vs := by
  rcases h with ⟨e, _⟩ | h
  · exact .inl (.inl e)
  · exact h H
theorem ScrAt.sq {vs : List V} (h : ScrAt g m H a vs) : SqL g.K H a vs := by
  rcases h with ⟨o, e, _⟩ | h
  · exact .inl (.inr ⟨o, e⟩)
  · exact h H
mutual
theorem Rel.monoW (x : ExtW m1 n1 H1 m2 n2 H2) : ∀ (d : D) (v : V), Rel g m1 n1 H1 d v → Rel g m2 n2 H2 d v
  | .non, _, h => by unfold Rel at h ⊢; exact h
  | .bl _, _, h => by unfold Rel at h ⊢; exact h
  | .int _, _, h => by unfold Rel at h ⊢; exact h
  | .str _, _, h => by unfold Rel at h ⊢; exact h
  | .ty _, _, h => by unfold Rel at h ⊢; exact h
  | .tup xs, _, h => by
    unfold Rel at h ⊢
    obtain ⟨a, vs, e, t, r⟩ := h
    exact ⟨a, vs, e, t.monoW x, Rels.monoW x xs vs r⟩
  | .lst xs, _, h => by
    unfold Rel at h ⊢
    obtain ⟨a, vs, e, ⟨t, o⟩, r⟩ := h
    exact ⟨a, vs, e, x.keep _ _ t o, Rels.monoW x xs vs r⟩
  | .scr xs, _, h => by
    unfold Rel at h ⊢
    obtain ⟨a, vs, e, t, r⟩ := h
    exact ⟨a, vs, e, t.monoW x, Rels.monoW x xs vs r⟩
  | .ref i, _, h => by
    unfold Rel at h ⊢
    obtain ⟨l, a, e, q⟩ := h
    exact ⟨Nat.lt_of_lt_of_le l x.le, a, e, fun b hb => q b (x.old i b l hb)⟩
  | .ins c fs, _, h => by
    unfold Rel at h ⊢
    obtain ⟨a, dx, gs, e, ⟨t, o⟩, k, r⟩ := h
    exact ⟨a, dx, gs, e, x.keep _ _ t o, k, RelFs.monoW x fs gs r⟩
theorem Rels.monoW (x : ExtW m1 n1 H1 m2 n2 H2) : ∀ (ds : List D) (vs : List V), Rels g m1 n1 H1 ds vs → Rels g m2 n2 H2 ds vs
  | [], _, h => by unfold Rels at h ⊢; exact h
  | d :: ds, _, h => by
    unfold Rels at h ⊢
    obtain ⟨w, ws, e, r, q⟩ := h
    exact ⟨w, ws, e, Rel.monoW x d w r, Rels.monoW x ds ws q⟩
theorem RelFs.monoW (x : ExtW m1 n1 H1 m2 n2 H2) : ∀ (ds : List (Nat × D)) (vs : List (Str × V)), RelFs g m1 n1 H1 ds vs → RelFs g m2 n2 H2 ds vs
  | [], _, h => by unfold RelFs at h ⊢; exact h
  | (f, d) :: ds, _, h => by
    unfold RelFs at h ⊢
    obtain ⟨w, ws, e, r, q⟩ := h
    exact ⟨w, ws, e, Rel.monoW x d w r, RelFs.monoW x ds ws q⟩
end

theorem TupAt.mono {vs : List V} (x : Ext m1 n1 H1 m2 n2 H2) (h : TupAt g m1 H1 a vs) : TupAt g m2 H2 a vs := h.monoW x.w
theorem ScrAt.mono {vs : List V} (x : Ext m1 n1 H1 m2 n2 H2) (h : ScrAt g m1 H1 a vs) : ScrAt g m2 H2 a vs := h.monoW x.w
theorem Rel.mono (x : Ext m1 n1 H1 m2 n2 H2) (d : D) (v : V) (h : Rel g m1 n1 H1 d v) : Rel g m2 n2 H2 d v := Rel.monoW x.w d v h
theorem Rels.mono (x : Ext m1 n1 H1 m2 n2 H2) (ds : List D) (vs : List V) (h : Rels g m1 n1 H1 ds vs) : Rels g m2 n2 H2 ds vs := Rels.monoW x.w ds vs h
theorem RelFs.mono (x : Ext m1 n1 H1 m2 n2 H2) (ds : List (Nat × D)) (vs : List (Str × V)) (h : RelFs g m1 n1 H1 ds vs) : RelFs g m2 n2 H2 ds vs := RelFs.monoW x.w ds vs h

/-! lists of related things -/
theorem Rels.length : ∀ {ds : List D} {vs : List V}, Rels g m n H ds vs → ds.length = vs.length
  | [], _, h => by unfold Rels at h; rw [h]; rfl
  | d :: ds, _, h => by
    unfold Rels at h
    obtain ⟨w, ws, rfl, _, q⟩ := h
    rw [List.length_cons, List.length_cons, Rels.length q]
theorem Rels.get : ∀ {ds : List D} {vs : List V} {i : Nat} {d : D}, Rels g m n H ds vs → ds[i]? = some d → ∃ v, vs[i]? = some v ∧ Rel g m n H d v
  | [], _, _, _, _, e => by simp at e
  | x :: xs, _, 0, d, h, e => by
    unfold Rels at h
    obtain ⟨w, ws, rfl, r, _⟩ := h
    simp at e
    subst e
    exact ⟨w, rfl, r⟩
  | x :: xs, _, i + 1, d, h, e => by
    unfold Rels at h
    obtain ⟨w, ws, rfl, _, q⟩ := h
    simpa using Rels.get (i := i) q (by simpa using e)
theorem Rels.getV {ds : List D} {vs : List V} {i : Nat} {v : V} (h : Rels g m n H ds vs) (e : vs[i]? = some v) : ∃ d, ds[i]? = some d ∧ Rel g m n H d v := by
  have hl : i < vs.length := (List.getElem?_eq_some_iff.mp e).1
  have hd : i < ds.length := by rw [h.length]; exact hl
  obtain ⟨w, hw, r⟩ := h.get (List.getElem?_eq_getElem hd)
  rw [e] at hw
  cases hw
  exact ⟨_, List.getElem?_eq_getElem hd, r⟩
theorem Rels.nil : Rels g m n H [] [] := by unfold Rels; rfl
theorem Rels.cons {d : D} {v : V} {ds : List D} {vs : List V} (h : Rel g m n H d v) (r : Rels g m n H ds vs) : Rels g m n H (d :: ds) (v :: vs) := by
  unfold Rels
  exact ⟨v, vs, rfl, h, r⟩
theorem Rels.one {d : D} {vs : List V} (h : Rels g m n H [d] vs) : ∃ v, vs = [v] ∧ Rel g m n H d v := by
  unfold Rels at h
  obtain ⟨w, ws, rfl, r, q⟩ := h
  unfold Rels at q
  exact ⟨w, by rw [q], r⟩
theorem Rels.two {d e : D} {vs : List V} (h : Rels g m n H [d, e] vs) : ∃ v w, vs = [v, w] ∧ Rel g m n H d v ∧ Rel g m n H e w := by
  unfold Rels at h
  obtain ⟨w, ws, rfl, r, q⟩ := h
  obtain ⟨z, rfl, s⟩ := q.one
  exact ⟨w, z, rfl, r, s⟩
theorem Rels.append : ∀ {ds es : List D} {vs ws : List V}, Rels g m n H ds vs → Rels g m n H es ws → Rels g m n H (ds ++ es) (vs ++ ws)
  | [], _, _, _, h, r => by
    unfold Rels at h
    rw [h]
    exact r
  | d :: ds, _, _, _, h, r => by
    unfold Rels at h
    obtain ⟨w, ws, rfl, a, q⟩ := h
    exact Rels.cons a (Rels.append q r)
theorem Rels.take : ∀ {ds : List D} {vs : List V} (k : Nat), Rels g m n H ds vs → Rels g m n H (ds.take k) (vs.take k)
  | _, _, 0, _ => by rw [List.take_zero, List.take_zero]; exact Rels.nil
  | [], _, k + 1, h => by
    unfold Rels at h
    rw [h]
    exact Rels.nil
  | d :: ds, _, k + 1, h => by
    unfold Rels at h
    obtain ⟨w, ws, rfl, a, q⟩ := h
    exact Rels.cons a (Rels.take k q)
theorem Rels.drop : ∀ {ds : List D} {vs : List V} (k : Nat), Rels g m n H ds vs → Rels g m n H (ds.drop k) (vs.drop k)
  | _, _, 0, h => h
  | [], _, k + 1, h => by
    unfold Rels at h
    rw [h]
    exact Rels.nil
  | d :: ds, _, k + 1, h => by
    unfold Rels at h
    obtain ⟨w, ws, rfl, a, q⟩ := h
    exact Rels.drop k q
theorem Rels.reverse : ∀ {ds : List D} {vs : List V}, Rels g m n H ds vs → Rels g m n H ds.reverse vs.reverse
  | [], _, h => by
    unfold Rels at h
    rw [h]
    exact Rels.nil
  | d :: ds, _, h => by
    unfold Rels at h
    obtain ⟨w, ws, rfl, a, q⟩ := h
    rw [List.reverse_cons, List.reverse_cons]
    exact Rels.append (Rels.reverse q) (Rels.cons a Rels.nil)
theorem Rels.set : ∀ {ds : List D} {vs : List V} {d : D} {v : V} (k : Nat), Rels g m n H ds vs → Rel g m n H d v → Rels g m n H (ds.set k d) (vs.set k v)
  | [], _, _, _, k, h, _ => by
    unfold Rels at h
    rw [h]
    exact Rels.nil
  | x :: xs, _, _, _, 0, h, r => by
    unfold Rels at h
    obtain ⟨w, ws, rfl, a, q⟩ := h
    exact Rels.cons r q
  | x :: xs, _, _, _, k + 1, h, r => by
    unfold Rels at h
    obtain ⟨w, ws, rfl, a, q⟩ := h
    exact Rels.cons a (Rels.set k q r)
theorem Rels.of : ∀ {ds : List D} {vs : List V}, ds.length = vs.length → (∀ (i : Nat) (d : D) (v : V), ds[i]? = some d → vs[i]? = some v → Rel g m n H d v) → Rels g m n H ds vs
  | [], [], _, _ => Rels.nil
  | d :: ds, v :: vs, l, h => Rels.cons (h 0 d v rfl rfl) (Rels.of (Nat.succ.inj l) fun i d v a b => h (i + 1) d v (by simpa using a) (by simpa using b))
  | [], _ :: _, l, _ => by cases l
  | _ :: _, [], l, _ => by cases l

/-! the store and the heap -/
/-- a text key is one that the library's rules take -/
def okKey : L2.Key → Prop
  | .inl _ => True
  | .inr x => okS x
def RelKs (g : Gs) (m : Mp) (n : Nat) (H : Hp) : List (L2.Key × D) → List (L2.Key × V) → Prop
  | [], gs => gs = []
  | (k, d) :: r, gs => ∃ v gr, gs = (k, v) :: gr ∧ okKey k ∧ Rel g m n H d v ∧ RelKs g m n H r gr
theorem RelKs.monoW (x : ExtW m1 n1 H1 m2 n2 H2) : ∀ {ds : List (L2.Key × D)} {vs : List (L2.Key × V)}, RelKs g m1 n1 H1 ds vs → RelKs g m2 n2 H2 ds vs
  | [], _, h => h
  | (k, d) :: r, _, h => let ⟨v, gr, e, ok, q, q2⟩ := h; ⟨v, gr, e, ok, Rel.monoW x _ _ q, RelKs.monoW x q2⟩
def CellR (g : Gs) (m : Mp) (n : Nat) (H : Hp) (a : Addr) : Cell → Prop
  | .lst xs => ∃ vs, H a = some (.lst vs) ∧ Rels g m n H xs vs
  | .ins c fs => ∃ dx gs, H a = some (.ins (g.ca c) dx gs) ∧ insOk g c fs ∧ RelFs g m n H fs gs
  | .dct kvs => ∃ kws, H a = some (.dK kws) ∧ RelKs g m n H kvs kws
structure RS (g : Gs) (m : Mp) (S : Sto) (H : Hp) : Prop where
  dom : ∀ i a, m i = some a → ∃ c, cellAt S i = some c ∧ CellR g m S.length H a c
  all : ∀ i c, cellAt S i = some c → ∃ a, m i = some a
  inj : ∀ i j a, m i = some a → m j = some a → i = j
  hidS : ∀ a, m.hid a → (∃ o, H a = some o) ∧ ∀ i, m i ≠ some a
theorem CellR.monoW {c : Cell} (x : ExtW m1 n1 H1 m2 n2 H2) (e : H2 a = H1 a) (h : CellR g m1 n1 H1 a c) : CellR g m2 n2 H2 a c := by
  cases c with
  | lst xs =>
    obtain ⟨vs, k, r⟩ := h
    exact ⟨vs, e.trans k, Rels.monoW x _ _ r⟩
  | ins c fs =>
    obtain ⟨dx, gs, k, q, r⟩ := h
    exact ⟨dx, gs, e.trans k, q, RelFs.monoW x _ _ r⟩
  | dct kvs =>
    obtain ⟨kws, k, r⟩ := h
    exact ⟨kws, e.trans k, RelKs.monoW x r⟩
theorem CellR.mono {c : Cell} (x : Ext m1 n1 H1 m2 n2 H2) (e : H2 a = H1 a) (h : CellR g m1 n1 H1 a c) : CellR g m2 n2 H2 a c := h.monoW x.w e
theorem CellR.some {c : Cell} (h : CellR g m n H a c) : ∃ o, H a = some o ∧ Mut (some o) := by
  cases c with
  | lst xs => obtain ⟨vs, k, _⟩ := h; exact ⟨_, k, trivial⟩
  | ins c fs => obtain ⟨dx, gs, k, _⟩ := h; exact ⟨_, k, trivial⟩
  | dct kvs => obtain ⟨kws, k, _⟩ := h; exact ⟨_, k, trivial⟩
variable {S S1 S2 : Sto} {i j : Nat}
theorem RS.lt (r : RS g m S H) (e : m i = some a) : i < S.length := by
  obtain ⟨c, k, _⟩ := r.dom i a e
  unfold cellAt at k
  cases q : S[i]? with
  | none => rw [q] at k; cases k
  | some o => exact (List.getElem?_eq_some_iff.mp q).1
theorem RS.at (r : RS g m S H) {c : Cell} (e : cellAt S i = some c) : ∃ a, m i = some a ∧ CellR g m S.length H a c := by
  obtain ⟨a, h⟩ := r.all i c e
  obtain ⟨c', e', k⟩ := r.dom i a h
  rw [e] at e'
  cases e'
  exact ⟨a, h, k⟩
theorem Rel.box (r : RS g m S H) {c : Cell} {v : V} (h : Rel g m S.length H (.ref i) v) (e : cellAt S i = some c) : ∃ a, v = .ref a ∧ m i = some a ∧ CellR g m S.length H a c := by
  obtain ⟨a, k, q⟩ := r.at e
  unfold Rel at h
  obtain ⟨_, b, rfl, hb⟩ := h
  rw [← hb a k]
  exact ⟨a, rfl, k, q⟩
/-- nobody's box stands at a free place -/
theorem Off.free (r : RS g m S H) (e : H a = none) : Off m a := by
  refine ⟨fun i k => ?_, fun h => ?_⟩
  · obtain ⟨c, _, q⟩ := r.dom i a k
    obtain ⟨o', e', mu⟩ := q.some
    rw [e] at e'
    cases e'
  · obtain ⟨⟨o, q⟩, _⟩ := r.hidS a h
    rw [e] at q
    cases q
/-- a thing is laid that no box holds -/
theorem Ext.laid {o : HO} (r : RS g m S H) (e : H a = none) : Ext m n H m n (upd H a o) :=
  ⟨Nat.le_refl _, fun _ _ _ e => e, fun b ob k f => ⟨by rw [upd_ne (ne_of_none k e)]; exact k, f⟩, fun b h => ⟨h, upd_ne fun z => (Off.free r e).2 (by rw [← z]; exact h)⟩⟩
theorem RS.laid {o : HO} (r : RS g m S H) (e : H a = none) : RS g m S (upd H a o) :=
  ⟨fun i b k => let ⟨c, h, q⟩ := r.dom i b k; ⟨c, h, q.mono (Ext.laid r e) (upd_ne fun z => (Off.free r e).1 i (by rw [← z]; exact k))⟩, r.all, r.inj,
    fun b h => let ⟨⟨ob, k⟩, f⟩ := r.hidS b h; ⟨⟨ob, by rw [upd_ne (ne_of_none k e)]; exact k⟩, f⟩⟩
/-- a new box -/
def mNew (m : Mp) (n : Nat) (a : Addr) : Mp := ⟨fun i => if i = n then some a else m i, m.hid⟩
theorem mNew_same : mNew m n a n = some a := if_pos rfl
theorem mNew_ne (h : i ≠ n) : mNew m n a i = m i := if_neg h
theorem Ext.new {o : HO} (r : RS g m S H) (e : H a = none) : Ext m S.length H (mNew m S.length a) (S.length + 1) (upd H a o) := by
  refine ⟨Nat.le_succ _, fun i b l k => ?_, fun b ob k f => ⟨by rw [upd_ne (ne_of_none k e)]; exact k, fun i q => ?_, f.2⟩, fun b h => ⟨h, upd_ne fun z => (Off.free r e).2 (by rw [← z]; exact h)⟩⟩
  · rw [mNew_ne (Nat.ne_of_lt l)] at k
    exact k
  · by_cases hi : i = S.length
    · rw [hi, mNew_same] at q
      cases q
      rw [e] at k
      cases k
    · rw [mNew_ne hi] at q
      exact f.1 i q
theorem cellAt_push_lt {c : Option Cell} (h : i < S.length) : cellAt (S ++ [c]) i = cellAt S i := by
  unfold cellAt
  rw [List.getElem?_append_left h]
theorem cellAt_push {c : Option Cell} : cellAt (S ++ [c]) S.length = c := by
  unfold cellAt
  rw [List.getElem?_append_right (Nat.le_refl _), Nat.sub_self]
  cases c <;> rfl
theorem cellAt_lt {c : Cell} (h : cellAt S i = some c) : i < S.length := by
  unfold cellAt at h
  cases q : S[i]? with
  | none => rw [q] at h; cases h
  | some o => exact (List.getElem?_eq_some_iff.mp q).1
theorem RS.new {o : HO} {c : Cell} (r : RS g m S H) (e : H a = none) (hc : CellR g (mNew m S.length a) (S.length + 1) (upd H a o) a c) : RS g (mNew m S.length a) (S ++ [some c]) (upd H a o) := by
  have x := Ext.new (o := o) r e
  refine ⟨fun i b k => ?_, fun i c' k => ?_, fun i j b h1 h2 => ?_, fun b h => ?_⟩
  · rw [List.length_append, List.length_singleton]
    by_cases hi : i = S.length
    · subst hi
      rw [mNew_same] at k
      cases k
      exact ⟨c, cellAt_push, hc⟩
    · rw [mNew_ne hi] at k
      obtain ⟨c', h, q⟩ := r.dom i b k
      exact ⟨c', by rw [cellAt_push_lt (r.lt k)]; exact h, q.mono x (upd_ne fun z => (Off.free r e).1 i (by rw [← z]; exact k))⟩
  · by_cases hi : i = S.length
    · exact ⟨a, by rw [hi, mNew_same]⟩
    · have hl := cellAt_lt k
      rw [List.length_append, List.length_singleton] at hl
      have hl' : i < S.length := by omega
      rw [cellAt_push_lt hl'] at k
      rw [mNew_ne hi]
      exact r.all i c' k
  · by_cases hi : i = S.length
    · by_cases hj : j = S.length
      · rw [hi, hj]
      · rw [hi, mNew_same] at h1
        cases h1
        rw [mNew_ne hj] at h2
        exact absurd h2 ((Off.free r e).1 j)
    · rw [mNew_ne hi] at h1
      by_cases hj : j = S.length
      · rw [hj, mNew_same] at h2
        cases h2
        exact absurd h1 ((Off.free r e).1 i)
      · rw [mNew_ne hj] at h2
        exact r.inj i j b h1 h2
  · obtain ⟨⟨ob, k⟩, f⟩ := r.hidS b h
    refine ⟨⟨ob, by rw [upd_ne (ne_of_none k e)]; exact k⟩, fun i q => ?_⟩
    by_cases hi : i = S.length
    · rw [hi, mNew_same] at q
      cases q
      rw [e] at k
      cases k
    · rw [mNew_ne hi] at q
      exact f i q
/-- a box is changed -/
theorem Ext.set {o : HO} (r : RS g m S H) (k : m i = some a) : Ext m n H m n (upd H a o) :=
  ⟨Nat.le_refl _, fun _ _ _ e => e, fun b ob e f => ⟨by rw [upd_ne fun z => f.1 i (by rw [z]; exact k)]; exact e, f⟩, fun b h => ⟨h, upd_ne fun z => (r.hidS b h).2 i (by rw [z]; exact k)⟩⟩
theorem cellAt_set_same {c : Option Cell} (h : i < S.length) : cellAt (S.set i c) i = c := by
  unfold cellAt
  rw [List.getElem?_set_self h]
  cases c <;> rfl
theorem cellAt_set_ne {c : Option Cell} (h : j ≠ i) : cellAt (S.set i c) j = cellAt S j := by
  unfold cellAt
  rw [List.getElem?_set_ne (Ne.symm h)]
theorem RS.set {o : HO} {c : Cell} (r : RS g m S H) (k : m i = some a) (hc : CellR g m S.length (upd H a o) a c) : RS g m (setAt S i c) (upd H a o) := by
  have x := Ext.set (n := S.length) (o := o) r k
  unfold setAt
  refine ⟨fun j b h => ?_, fun j c' h => ?_, r.inj, fun b h => let ⟨⟨ob, q⟩, f⟩ := r.hidS b h; ⟨⟨ob, by rw [upd_ne fun z => f i (by rw [z]; exact k)]; exact q⟩, f⟩⟩
  · rw [List.length_set]
    by_cases hj : j = i
    · subst hj
      rw [k] at h
      cases h
      exact ⟨c, cellAt_set_same (r.lt k), hc⟩
    · obtain ⟨c', q, w⟩ := r.dom j b h
      exact ⟨c', by rw [cellAt_set_ne hj]; exact q, w.mono x (upd_ne fun z => hj (r.inj j i a (by rw [← z]; exact h) k))⟩
  · by_cases hj : j = i
    · exact ⟨a, by rw [hj]; exact k⟩
    · rw [cellAt_set_ne hj] at h
      exact r.all j c' h
/-- a box is given up: its thing stays as it is -/
def mDel (m : Mp) (i : Nat) : Mp := ⟨fun j => if j = i then none else m j, m.hid⟩
theorem mDel_same : mDel m i i = none := if_pos rfl
theorem mDel_ne (h : j ≠ i) : mDel m i j = m j := if_neg h
theorem Ext.del : Ext m n H (mDel m i) n H := by
  refine ⟨Nat.le_refl _, fun j b _ k => ?_, fun b o e f => ⟨e, fun j k => ?_, f.2⟩, fun b h => ⟨h, rfl⟩⟩
  · by_cases hj : j = i
    · rw [hj, mDel_same] at k
      cases k
    · rw [mDel_ne hj] at k
      exact k
  · by_cases hj : j = i
    · rw [hj, mDel_same] at k
      cases k
    · rw [mDel_ne hj] at k
      exact f.1 j k
theorem RS.del (r : RS g m S H) (k : m i = some a) : RS g (mDel m i) (S.set i none) H ∧ Off (mDel m i) a := by
  refine ⟨⟨fun j b h => ?_, fun j c' h => ?_, fun j l b h1 h2 => ?_, fun b h => ⟨(r.hidS b h).1, fun j q => ?_⟩⟩, fun j h => ?_, fun h => (r.hidS a h).2 i k⟩
  · rw [List.length_set]
    by_cases hj : j = i
    · rw [hj, mDel_same] at h
      cases h
    · rw [mDel_ne hj] at h
      obtain ⟨c, q, w⟩ := r.dom j b h
      exact ⟨c, by rw [cellAt_set_ne hj]; exact q, w.mono Ext.del rfl⟩
  · by_cases hj : j = i
    · rw [hj, cellAt_set_same (r.lt k)] at h
      cases h
    · rw [cellAt_set_ne hj] at h
      rw [mDel_ne hj]
      exact r.all j c' h
  · by_cases hj : j = i
    · rw [hj, mDel_same] at h1
      cases h1
    · by_cases hl : l = i
      · rw [hl, mDel_same] at h2
        cases h2
      · rw [mDel_ne hj] at h1
        rw [mDel_ne hl] at h2
        exact r.inj j l b h1 h2
  · by_cases hj : j = i
    · rw [hj, mDel_same] at q
      cases q
    · rw [mDel_ne hj] at q
      exact (r.hidS b h).2 j q
  · by_cases hj : j = i
    · rw [hj, mDel_same] at h
      cases h
    · rw [mDel_ne hj] at h
      exact hj (r.inj j i a h k)
end
end Iv

/-! ### results and their wishes; operators -/
namespace Iv
open PySem PySem.Spec PyProof.Rows L2

def WP {α β : Type} (g : Gs) (W : Value → Option Addr → Hp → Prop) (Rr : Mp → Nat → Hp → α → β → Prop) (m : Mp) (n : Nat) (H : Hp) (r : R α) (Q : β → Hp → Prop) : Prop := match r with
  | .ok a S' => ∀ m' H' b, Ext m n H m' S'.length H' → RS g m' S' H' → Rr m' S'.length H' a b → Q b H'
  | .exc x S' => ∀ m' H' c d, Ext m n H m' S'.length H' → RS g m' S' H' → g.xr m' S'.length H' x c d → W c d H'
  | .err => False
section
variable {α β γ δ : Type} {g : Gs} {W : Value → Option Addr → Hp → Prop} {Ra : Mp → Nat → Hp → α → β → Prop} {Rb : Mp → Nat → Hp → γ → δ → Prop} {m m1 : Mp} {n n1 : Nat} {H H1 : Hp} {S : Sto}
theorem WP.from {r : R α} {Q : β → Hp → Prop} (x : Ext m n H m1 n1 H1) (h : WP g W Ra m n H r Q) : WP g W Ra m1 n1 H1 r Q := by
  cases r with
  | ok a S' => exact fun m' H' b y => h m' H' b (x.trans y)
  | exc e S' => exact fun m' H' c d y => h m' H' c d (x.trans y)
  | err => exact h
theorem WP.bind {r : R α} {f : α → Sto → R γ} {Q : δ → Hp → Prop} (h : WP g W Rb m n H (r.bind f) Q) :
    WP g W Ra m n H r (fun b H1 => ∃ m1 S1 a, Ext m n H m1 S1.length H1 ∧ RS g m1 S1 H1 ∧ Ra m1 S1.length H1 a b ∧ WP g W Rb m1 S1.length H1 (f a S1) Q) := by
  cases r with
  | ok a S' => exact fun m' H' b x rs ra => ⟨m', S', a, x, rs, ra, WP.from x h⟩
  | exc e S' => exact h
  | err => exact h
theorem WP.now {a : α} {b : β} {Q : β → Hp → Prop} (h : WP g W Ra m S.length H (.ok a S) Q) (rs : RS g m S H) (ra : Ra m S.length H a b) : Q b H := h m H b Ext.refl rs ra
theorem WP.ck {c : Prop} [Decidable c] {r : R α} {Q : β → Hp → Prop} (h : WP g W Ra m n H (ck c r) Q) : c ∧ WP g W Ra m n H r Q := by
  unfold Iv.ck at h
  by_cases hc : c
  · rw [if_pos hc] at h
    exact ⟨hc, h⟩
  · rw [if_neg hc] at h
    exact h.elim
theorem WP.imp {r : R α} {Q Q' : β → Hp → Prop} (h : WP g W Ra m n H r Q) (k : ∀ b H', Q b H' → Q' b H') : WP g W Ra m n H r Q' := by
  cases r with
  | ok a S' => exact fun m' H' b x rs ra => k _ _ (h m' H' b x rs ra)
  | exc e S' => exact h
  | err => exact h
theorem WP.err {Q : β → Hp → Prop} {P : Prop} (h : WP g W Ra m n H .err Q) : P := False.elim h
end
section
variable {g : Gs} {m : Mp} {n : Nat} {H : Hp} {v : V}
theorem rel_non : Rel g m n H .non v = (v = .non) := by unfold Rel; rfl
theorem rel_bl {b : Bool} : Rel g m n H (.bl b) v = (v = .bl b) := by unfold Rel; rfl
theorem rel_int {i : Int} : Rel g m n H (.int i) v = (v = .int i) := by unfold Rel; rfl
theorem rel_str {x : Str} : Rel g m n H (.str x) v = (v = .str x ∧ okS x) := by unfold Rel; rfl
theorem rel_ty {x : String} : Rel g m n H (.ty x) v = (v = .ty x) := by unfold Rel; rfl
theorem rel_tup {xs : List D} : Rel g m n H (.tup xs) v = ∃ a vs, v = .ref a ∧ TupAt g m H a vs ∧ Rels g m n H xs vs := by rw [Rel]
theorem rel_lst {xs : List D} : Rel g m n H (.lst xs) v = ∃ a vs, v = .ref a ∧ (H a = some (.lst vs) ∧ Off m a) ∧ Rels g m n H xs vs := by rw [Rel]
theorem rel_scr {xs : List D} : Rel g m n H (.scr xs) v = ∃ a vs, v = .ref a ∧ ScrAt g m H a vs ∧ Rels g m n H xs vs := by rw [Rel]
theorem rel_ref {i : Nat} : Rel g m n H (.ref i) v = (i < n ∧ ∃ a, v = .ref a ∧ ∀ b, m i = some b → b = a) := by rw [Rel]
theorem rel_ins {c : Nat} {fs : List (Nat × D)} : Rel g m n H (.ins c fs) v = ∃ a dx gs, v = .ref a ∧ (H a = some (.ins (g.ca c) dx gs) ∧ Off m a) ∧ insOk g c fs ∧ RelFs g m n H fs gs := by rw [Rel]
end
theorem okS.ok {x : Str} (h : okS x) : PyData.strOk x = true := by
  unfold PyData.strOk
  rw [Array.all_eq_true']
  intro c hc
  exact decide_eq_true (h.2 c (Array.mem_toList_iff.mpr hc))
theorem OpR.imp {X : Cx} {f : Value → Value → Sem Value} {r r' : R2} (h : OpR X f r) (k : ∀ x y H Q, r' x y H Q → r x y H Q) : OpR X f r' :=
  fun pins s σ H x y v u Q I rx ry q => h pins s σ H x y v u Q I rx ry (k _ _ _ _ q)
theorem CallR.imp {X : Cx} {f : Value} {r r' : List V → Hp → VK → Prop} (h : CallR X f r) (k : ∀ xs H Q, r' xs H Q → r xs H Q) : CallR X f r' :=
  fun pins s σ H xs us Q I rx q => h pins s σ H xs us Q I rx (k _ _ _ q)
theorem MtR.imp {X : Cx} {id : String} {r r' : V → List V → Hp → VK → Prop} (h : MtR X id r) (k : ∀ x xs H Q, r' x xs H Q → r x xs H Q) : MtR X id r' :=
  fun pins s σ H x xs v us Q I rx rs q => h pins s σ H x xs v us Q I rx rs (k _ _ _ _ q)
theorem IxR.imp {X : Cx} {r r' : R2} (h : IxR X r) (k : ∀ x y H Q, r' x y H Q → r x y H Q) : IxR X r' :=
  fun value slice pins s σ H x y v u Q I rx ry q => h value slice pins s σ H x y v u Q I rx ry (k _ _ _ _ q)

section
variable {g : Gs} {W : Value → Option Addr → Hp → Prop} {m : Mp} {n : Nat} {H : Hp} {S : Sto} {Q : VK} {d e : D} {v x y : V} {xs ys : List D} {vs : List V}
theorem unbox_ref {i : Nat} : unbox S (.ref i) = match cellAt S i with
    | some (.lst xs) => .lst xs
    | _ => .ref i := rfl
theorem seqOf_ref {i : Nat} : seqOf S (.ref i) = match cellAt S i with
    | some (.lst xs) => some xs
    | _ => none := rfl
/-- a box or a frozen list, read -/
theorem unbox_rel (rs : RS g m S H) (h : Rel g m S.length H d v) (e : unbox S d = .lst xs) : ∃ a vs, v = .ref a ∧ H a = some (.lst vs) ∧ Rels g m S.length H xs vs := by
  cases d with
  | lst zs =>
    have e' : D.lst zs = D.lst xs := e
    cases e'
    rw [rel_lst] at h
    obtain ⟨a, vs, rfl, ⟨k, _⟩, r⟩ := h
    exact ⟨a, vs, rfl, k, r⟩
  | ref i =>
    rw [unbox_ref] at e
    split at e
    · rename_i zs hz
      cases e
      obtain ⟨a, rfl, _, vs, k, r⟩ := h.box rs hz
      exact ⟨a, vs, rfl, k, r⟩
    · cases e
  | _ => exact absurd e (by unfold unbox; intro z; cases z)
theorem seqOf_rel (rs : RS g m S H) (h : Rel g m S.length H d v) (e : seqOf S d = some xs) : ∃ a vs, v = .ref a ∧ Rels g m S.length H xs vs ∧
    ((SqL g.K H a vs ∧ ∀ zs, d ≠ .tup zs) ∨ (TupAt g m H a vs ∧ d = .tup xs)) := by
  cases d with
  | tup zs =>
    have e' : some zs = some xs := e
    cases e'
    rw [rel_tup] at h
    obtain ⟨a, vs, rfl, k, r⟩ := h
    exact ⟨a, vs, rfl, r, .inr ⟨k, rfl⟩⟩
  | lst zs =>
    have e' : some zs = some xs := e
    cases e'
    rw [rel_lst] at h
    obtain ⟨a, vs, rfl, ⟨k, _⟩, r⟩ := h
    exact ⟨a, vs, rfl, r, .inl ⟨SqL.of k, fun _ z => by cases z⟩⟩
  | scr zs =>
    have e' : some zs = some xs := e
    cases e'
    rw [rel_scr] at h
    obtain ⟨a, vs, rfl, k, r⟩ := h
    exact ⟨a, vs, rfl, r, .inl ⟨k.sq, fun _ z => by cases z⟩⟩
  | ref i =>
    rw [seqOf_ref] at e
    split at e
    · rename_i zs hz
      cases e
      obtain ⟨a, rfl, _, vs, k, r⟩ := h.box rs hz
      exact ⟨a, vs, rfl, r, .inl ⟨SqL.of k, fun _ z => by cases z⟩⟩
    · cases e
  | _ => exact absurd e (by unfold seqOf; intro z; cases z)
theorem seqOf_sq (rs : RS g m S H) (h : Rel g m S.length H d v) (e : seqOf S d = some xs) : ∃ a vs, v = .ref a ∧ Rels g m S.length H xs vs ∧ (SqL g.K H a vs ∨ SqT g.K H a vs) := by
  obtain ⟨a, vs, rfl, r, k⟩ := seqOf_rel rs h e
  refine ⟨a, vs, rfl, r, ?_⟩
  rcases k with ⟨k, _⟩ | ⟨k, _⟩
  · exact .inl k
  · exact .inr k.sq
/-- a new list, a new tuple -/
theorem mkL_ok {box : Bool} (rs : RS g m S H) (r : Rels g m S.length H xs vs) (w : WP g W (Rel g) m S.length H (mkL box xs S) Q) {p : Addr} (hp : H p = none) : Q (.ref p) (upd H p (.lst vs)) := by
  cases box with
  | false =>
    refine w m _ (.ref p) (Ext.laid rs hp) (rs.laid hp) ?_
    rw [rel_lst]
    exact ⟨p, vs, rfl, ⟨upd_same, Off.free rs hp⟩, Rels.mono (Ext.laid rs hp) _ _ r⟩
  | true =>
    have x := Ext.new (o := HO.lst vs) rs hp
    have l : (S ++ [some (Cell.lst xs)]).length = S.length + 1 := by rw [List.length_append, List.length_singleton]
    refine w (mNew m S.length p) _ (.ref p) (by rw [l]; exact x) (rs.new hp ⟨vs, upd_same, Rels.mono x _ _ r⟩) ?_
    rw [rel_ref, l]
    exact ⟨Nat.lt_succ_self _, p, rfl, fun b hb => by rw [mNew_same] at hb; cases hb; rfl⟩
theorem mkT_ok (rs : RS g m S H) (r : Rels g m S.length H xs vs) (w : WP g W (Rel g) m S.length H (.ok (.tup xs) S) Q) {p : Addr} (hp : H p = none) : Q (.ref p) (upd H p (.tup vs)) := by
  refine w m _ (.ref p) (Ext.laid rs hp) (rs.laid hp) ?_
  rw [rel_tup]
  exact ⟨p, vs, rfl, .inl ⟨upd_same, Off.free rs hp⟩, Rels.mono (Ext.laid rs hp) _ _ r⟩
theorem okS.append {a b : Str} (ha : okS a) (hb : okS b) (l : a.length + b.length ≤ sizeLine) : okS (a ++ b) := by
  refine ⟨by rw [PySem.Str.length_append]; exact l, fun c hc => ?_⟩
  have hc' : c ∈ (a.cps ++ b.cps).toList := hc
  rw [Array.toList_append] at hc'
  rcases List.mem_append.mp hc' with h | h
  · exact ha.2 c h
  · exact hb.2 c h
/-- two related things and what an operator tells of them -/
def r2 (g : Gs) (f : D → D → Sto → R D) : R2 := fun x y H Q => ∃ m S d e W, RS g m S H ∧ Rel g m S.length H d x ∧ Rel g m S.length H e y ∧ WP g W (Rel g) m S.length H (f d e S) Q
variable {X : Cx}
theorem op_addI (hK : X.K = g.K) {box : Bool} : OpR X (binaryOp .Add) (r2 g (addR box)) := by
  refine OpR.imp (op_add.or (op_add_str.or (op_catA.or op_cat))) fun x y H Q ⟨m, S, d, e, W, rs, rd, re, w⟩ => ?_
  unfold addR at w
  split at w
  · rw [rel_int] at rd re
    subst rd re
    exact .inl ⟨_, _, rfl, rfl, w.now rs (by rw [rel_int])⟩
  · rw [rel_str] at rd re
    obtain ⟨rfl, o1⟩ := rd
    obtain ⟨rfl, o2⟩ := re
    obtain ⟨c, w⟩ := w.ck
    exact .inr (.inl ⟨_, _, rfl, rfl, c, w.now rs (by rw [rel_str]; exact ⟨rfl, o1.append o2 c⟩)⟩)
  · rename_i as bs
    rw [rel_tup] at rd re
    obtain ⟨a, vs, rfl, ta, ra⟩ := rd
    obtain ⟨b, ws, rfl, tb, rb⟩ := re
    obtain ⟨c, w⟩ := w.ck
    rw [ra.length, rb.length] at c
    refine .inr (.inr (.inl ⟨a, b, vs, ws, rfl, rfl, by rw [hK]; exact ta.sq, by rw [hK]; exact tb.sq, c, fun z => ?_, fun _ z => ?_, fun _ _ p hp => mkT_ok rs (ra.append rb) w hp⟩))
    · subst z
      have : as = [] := List.length_eq_zero_iff.mp ra.length
      subst this
      exact w.now rs (by rw [rel_tup]; exact ⟨b, ws, rfl, tb, rb⟩)
    · subst z
      have : bs = [] := List.length_eq_zero_iff.mp rb.length
      subst this
      rw [List.append_nil] at w
      exact w.now rs (by rw [rel_tup]; exact ⟨a, vs, rfl, ta, ra⟩)
  · split at w
    · rename_i ha hb
      obtain ⟨a, vs, rfl, ka, ra⟩ := unbox_rel rs rd ha
      obtain ⟨b, ws, rfl, kb, rb⟩ := unbox_rel rs re hb
      obtain ⟨c, w⟩ := w.ck
      rw [ra.length, rb.length] at c
      exact .inr (.inr (.inr ⟨a, b, vs, ws, rfl, rfl, ka, kb, c, fun p hp => mkL_ok rs (ra.append rb) w hp⟩))
    · exact w.err
theorem op_I {f : Value → Value → Sem Value} {C : Int → Int → Prop} {k : Int → Int → Int} [∀ i j, Decidable (C i j)] {F : D → D → Sto → R D} (h : OpR X f (rI C fun i j => .int (k i j)))
    (hF : ∀ d e S, (∃ i j, d = .int i ∧ e = .int j ∧ F d e S = ck (C i j) (.ok (.int (k i j)) S)) ∨ F d e S = .err) : OpR X f (r2 g F) := by
  refine OpR.imp h fun x y H Q ⟨m, S, d, e, W, rs, rd, re, w⟩ => ?_
  rcases hF d e S with ⟨i, j, rfl, rfl, q⟩ | q
  · rw [q] at w
    rw [rel_int] at rd re
    obtain ⟨c, w⟩ := w.ck
    exact ⟨i, j, rd, re, c, w.now rs (by rw [rel_int])⟩
  · rw [q] at w
    exact w.err
theorem mulOk_small {z : Str} {j : Int} (h1 : z.length ≤ 1000) (h2 : 0 ≤ j) (h3 : j ≤ 1000) : PySem.MulOk z j := by
  refine ⟨by rw [decide_eq_false (by omega), decide_eq_false (by omega)]; rfl, fun a _ => ?_, fun a _ => ?_⟩
  · have : (9223372036854775 : Int) ≤ (2 ^ 63 - 1) / j := by
      refine (Int.le_ediv_iff_mul_le (by omega)).mpr ?_
      omega
    omega
  · unfold Builtin.Str.tooLong
    refine decide_eq_false (Nat.not_lt.mpr ?_)
    refine Nat.le_trans (Nat.mul_le_mul h1 (show j.toNat ≤ 1000 by omega)) (by decide)
theorem op_mulStr {X : Cx} : OpR X (binaryOp .Mult) (fun x y H Q => ∃ z j, x = .str z ∧ y = .int j ∧ PySem.MulOk z j ∧ Q (.str (Txt.mul z j)) H) := by
  intro pins s σ H x y v u Q I rx ry h
  obtain ⟨z, j, rfl, rfl, hz, q⟩ := h
  obtain ⟨t, rfl⟩ := rx
  obtain ⟨t', rfl⟩ := ry
  exact PySem.SB.mul hz (fun t' tk => ⟨.str (Txt.mul z j), H, I.tok _, ⟨_, rfl⟩, q⟩)
theorem mem_rep {c : Nat} {x : Array Nat} : ∀ (n : Nat) (acc : Array Nat), c ∈ ((List.replicate n x).foldl (· ++ ·) acc).toList → c ∈ acc.toList ∨ c ∈ x.toList
  | 0, acc, h => .inl h
  | n + 1, acc, h => by
    rw [List.replicate_succ, List.foldl_cons] at h
    rcases mem_rep n _ h with h | h
    · rw [Array.toList_append] at h
      exact List.mem_append.mp h
    · exact .inr h
theorem okS_mul {z : Str} {j : Int} (o : okS z) (h1 : z.length ≤ 1000) (h3 : j ≤ 1000) : okS (Txt.mul z j) := by
  refine ⟨Nat.le_trans (PyProof.Rows.len_mul_leN (L := 1000) (N := 1000) h1 h3) (by decide), fun c hc => ?_⟩
  unfold Txt.mul at hc
  split at hc
  · cases hc
  · split at hc
    · exact o.2 c hc
    · rcases mem_rep _ _ hc with h | h
      · cases h
      · exact o.2 c h
def opOf : Bop → Operator
  | .add => .Add
  | .sub => .Sub
  | .mul => .Mult
  | .div => .FloorDiv
  | .mod => .Mod
  | .pow => .Pow
theorem op_binI (hK : X.K = g.K) {box : Bool} (op : Bop) : OpR X (binaryOp (opOf op)) (r2 g (binR box op)) := by
  cases op with
  | add => exact op_addI hK
  | sub =>
    refine OpR.imp op_sub fun x y H Q ⟨m, S, d, e, W, rs, rd, re, w⟩ => ?_
    unfold binR at w
    simp only at w
    split at w
    · rw [rel_int] at rd re
      exact ⟨_, _, rd, re, w.now rs (by rw [rel_int])⟩
    · exact w.err
  | mul =>
    refine OpR.imp (op_mul.or op_mulStr) fun x y H Q ⟨m, S, d, e, W, rs, rd, re, w⟩ => ?_
    unfold binR at w
    simp only at w
    split at w
    · rw [rel_int] at rd re
      obtain ⟨c, w⟩ := w.ck
      exact .inl ⟨_, _, rd, re, c, w.now rs (by rw [rel_int])⟩
    · rw [rel_str] at rd
      rw [rel_int] at re
      obtain ⟨c, w⟩ := w.ck
      exact .inr ⟨_, _, rd.1, re, mulOk_small c.1 (by omega) c.2.2, w.now rs (by rw [rel_str]; exact ⟨rfl, okS_mul rd.2 c.1 c.2.2⟩)⟩
    · exact w.err
  | div =>
    refine op_I (C := fun i j => 0 < j ∧ j < 1073741824) op_fdiv fun d e S => ?_
    unfold binR
    simp only
    split
    · exact .inl ⟨_, _, rfl, rfl, rfl⟩
    · exact .inr rfl
  | mod =>
    refine op_I (C := fun i j => 0 < j) op_mod fun d e S => ?_
    unfold binR
    simp only
    split
    · exact .inl ⟨_, _, rfl, rfl, rfl⟩
    · exact .inr rfl
  | pow =>
    refine op_I (C := fun i j => 0 ≤ j ∧ j ≤ 1000000 ∧ i.natAbs < 2 ^ 64) op_pow fun d e S => ?_
    unfold binR
    simp only
    split
    · exact .inl ⟨_, _, rfl, rfl, rfl⟩
    · exact .inr rfl

/-! truth -/
def RelB : Mp → Nat → Hp → Bool → Bool → Prop := fun _ _ _ a b => b = a
theorem tru_seq {b : Bool} (rs : RS g m S H) (h : Rel g m S.length H d v) (e : (seqOf S d).map (fun xs => !xs.isEmpty) = some b) : TruV g.K v H b := by
  obtain ⟨xs, hx, rfl⟩ := Option.map_eq_some_iff.mp e
  obtain ⟨a, vs, rfl, r, k⟩ := seqOf_sq rs h hx
  have e : (!xs.isEmpty) = !vs.isEmpty := by
    have := r.length
    cases xs <;> cases vs <;> first | rfl | (simp at this)
  rcases k with k | k
  · exact .inl ⟨vs, k, e⟩
  · exact .inr (.inl ⟨vs, k, e⟩)
theorem tru_rel {R : Bool → Hp → Prop} (rs : RS g m S H) (h : Rel g m S.length H d v) (w : WP g W RelB m S.length H (tru d S) R) : ∃ k, TruV g.K v H k ∧ R k H := by
  unfold tru at w
  split at w
  · rename_i b hb
    refine ⟨b, ?_, w.now rs rfl⟩
    cases d with
    | non => cases hb; rw [rel_non] at h; subst h; rfl
    | bl k => cases hb; rw [rel_bl] at h; subst h; rfl
    | int i => cases hb; rw [rel_int] at h; subst h; rfl
    | str z => cases hb; rw [rel_str] at h; obtain ⟨rfl, o⟩ := h; exact ⟨o.1, rfl⟩
    | tup z => exact tru_seq rs h hb
    | lst z => exact tru_seq rs h hb
    | scr z => exact tru_seq rs h hb
    | ref z => exact tru_seq rs h hb
    | ins a b => exact tru_seq rs h hb
    | ty z => exact tru_seq rs h hb
  · exact w.err

/-! frozen data -/
mutual
theorem py_eqv : ∀ a b : D, a.fz = true → b.fz = true → PyData.eqv a.py b.py = a.eqv b
  | .non, b, _, hb => by cases b <;> first | (simp [D.fz] at hb; done) | (simp [D.py, D.eqv, PyData.eqv]; done)
  | .bl _, b, _, hb => by cases b <;> first | (simp [D.fz] at hb; done) | (simp [D.py, D.eqv, PyData.eqv]; done)
  | .int _, b, _, hb => by cases b <;> first | (simp [D.fz] at hb; done) | (simp [D.py, D.eqv, PyData.eqv]; done)
  | .str _, b, _, hb => by cases b <;> first | (simp [D.fz] at hb; done) | (simp [D.py, D.eqv, PyData.eqv]; done)
  | .tup xs, b, ha, hb => by
    cases b with
    | tup ys =>
      simp only [D.py, D.eqv, PyData.eqv]
      exact pys_eqv xs ys (by simpa [D.fz] using ha) (by simpa [D.fz] using hb)
    | _ => first | (simp [D.fz] at hb; done) | (simp [D.py, D.eqv, PyData.eqv]; done)
  | .lst xs, b, ha, hb => by
    cases b with
    | lst ys =>
      simp only [D.py, D.eqv, PyData.eqv]
      exact pys_eqv xs ys (by simpa [D.fz] using ha) (by simpa [D.fz] using hb)
    | scr ys =>
      simp only [D.py, D.eqv, PyData.eqv]
      exact pys_eqv xs ys (by simpa [D.fz] using ha) (by simpa [D.fz] using hb)
    | _ => first | (simp [D.fz] at hb; done) | (simp [D.py, D.eqv, PyData.eqv]; done)
  | .scr xs, b, ha, hb => by
    cases b with
    | lst ys =>
      simp only [D.py, D.eqv, PyData.eqv]
      exact pys_eqv xs ys (by simpa [D.fz] using ha) (by simpa [D.fz] using hb)
    | scr ys =>
      simp only [D.py, D.eqv, PyData.eqv]
      exact pys_eqv xs ys (by simpa [D.fz] using ha) (by simpa [D.fz] using hb)
    | _ => first | (simp [D.fz] at hb; done) | (simp [D.py, D.eqv, PyData.eqv]; done)
  | .ref _, _, ha, _ => by simp [D.fz] at ha
  | .ins _ _, _, ha, _ => by simp [D.fz] at ha
  | .ty _, _, ha, _ => by simp [D.fz] at ha
theorem pys_eqv : ∀ a b : List D, D.fzs a = true → D.fzs b = true → PyData.eqvAll (D.pys a) (D.pys b) = D.eqvs a b
  | [], b, _, _ => by cases b <;> simp [D.pys, D.eqvs, PyData.eqvAll]
  | x :: xs, [], _, _ => by simp [D.pys, D.eqvs, PyData.eqvAll]
  | x :: xs, y :: ys, ha, hb => by
    simp only [D.fzs, Bool.and_eq_true] at ha hb
    simp only [D.pys, D.eqvs, PyData.eqvAll]
    rw [py_eqv x y ha.1 hb.1, pys_eqv xs ys ha.2 hb.2]
end
mutual
theorem py_lay : ∀ (a : D) (v : V), a.fz = true → Rel g m n H a v → a.py.canLay0 = true ∧ Dp g.K H v a.py
  | .non, v, _, h => by rw [rel_non] at h; subst h; exact ⟨by simp [D.py, PyData.canLay0], .non⟩
  | .bl _, v, _, h => by rw [rel_bl] at h; subst h; exact ⟨by simp [D.py, PyData.canLay0], .bl _⟩
  | .int _, v, _, h => by rw [rel_int] at h; subst h; exact ⟨by simp [D.py, PyData.canLay0], .int _⟩
  | .str _, v, _, h => by rw [rel_str] at h; obtain ⟨rfl, o⟩ := h; exact ⟨by simp [D.py, PyData.canLay0, o.ok], .str _⟩
  | .tup xs, v, k, h => by
    rw [rel_tup] at h
    obtain ⟨a, vs, rfl, t, r⟩ := h
    obtain ⟨q1, q2⟩ := pys_lay xs vs (by simpa [D.fz] using k) r
    exact ⟨by simpa [D.py, PyData.canLay0] using q1, by rw [D.py]; exact .tup t.sq q2⟩
  | .lst xs, v, k, h => by
    rw [rel_lst] at h
    obtain ⟨a, vs, rfl, ⟨t, _⟩, r⟩ := h
    obtain ⟨q1, q2⟩ := pys_lay xs vs (by simpa [D.fz] using k) r
    exact ⟨by simpa [D.py, PyData.canLay0] using q1, by rw [D.py]; exact .lst (SqL.of t) q2⟩
  | .scr xs, v, k, h => by
    rw [rel_scr] at h
    obtain ⟨a, vs, rfl, t, r⟩ := h
    obtain ⟨q1, q2⟩ := pys_lay xs vs (by simpa [D.fz] using k) r
    exact ⟨by simpa [D.py, PyData.canLay0] using q1, by rw [D.py]; exact .lst t.sq q2⟩
  | .ref _, _, k, _ => by simp [D.fz] at k
  | .ins _ _, _, k, _ => by simp [D.fz] at k
  | .ty _, _, k, _ => by simp [D.fz] at k
theorem pys_lay : ∀ (a : List D) (vs : List V), D.fzs a = true → Rels g m n H a vs → PyData.canLayAll0 (D.pys a) = true ∧ DpAll g.K H vs (D.pys a)
  | [], vs, _, h => by unfold Rels at h; subst h; exact ⟨by simp [D.pys, PyData.canLayAll0], by rw [D.pys]; exact .nil⟩
  | x :: xs, vs, k, h => by
    unfold Rels at h
    obtain ⟨w, ws, rfl, r, q⟩ := h
    simp only [D.fzs, Bool.and_eq_true] at k
    obtain ⟨a1, a2⟩ := py_lay x w k.1 r
    obtain ⟨b1, b2⟩ := pys_lay xs ws k.2 q
    exact ⟨by simp [D.pys, PyData.canLayAll0, a1, b1], by rw [D.pys]; exact .cons a2 b2⟩
end
mutual
theorem py_depth : ∀ a : D, a.fz = true → a.py.depth = a.dp
  | .non, _ => by simp [D.py, D.dp, PyData.depth]
  | .bl _, _ => by simp [D.py, D.dp, PyData.depth]
  | .int _, _ => by simp [D.py, D.dp, PyData.depth]
  | .str _, _ => by simp [D.py, D.dp, PyData.depth]
  | .tup xs, k => by rw [D.py, D.dp, PyData.depth, pys_depth xs (by simpa [D.fz] using k)]
  | .lst xs, k => by rw [D.py, D.dp, PyData.depth, pys_depth xs (by simpa [D.fz] using k)]
  | .scr xs, k => by rw [D.py, D.dp, PyData.depth, pys_depth xs (by simpa [D.fz] using k)]
  | .ref _, k => by simp [D.fz] at k
  | .ins _ _, k => by simp [D.fz] at k
  | .ty _, k => by simp [D.fz] at k
theorem pys_depth : ∀ a : List D, D.fzs a = true → PyData.depthAll (D.pys a) = D.dps a
  | [], _ => by simp [D.pys, D.dps, PyData.depthAll]
  | x :: xs, k => by
    simp only [D.fzs, Bool.and_eq_true] at k
    rw [D.pys, D.dps, PyData.depthAll, py_depth x k.1, pys_depth xs k.2]
end
theorem py_shaped (k : d.fz = true) (h : Rel g m n H d v) (l : d.dp ≤ 64) : SeqAt.shaped d.py = true := by
  unfold SeqAt.shaped
  rw [(py_lay d v k h).1, py_depth d k, Bool.true_and]
  exact decide_eq_true l
theorem unbox_fz (rs : RS g m S H) (h : Rel g m S.length H d v) : Rel g m S.length H (unbox S d) v ∨ (unbox S d).fz = true → (unbox S d).fz = true → Dp g.K H v (unbox S d).py ∧ (unbox S d).py.canLay0 = true := by
  intro _ k
  cases e : unbox S d with
  | lst xs =>
    rw [e] at k
    obtain ⟨a, vs, rfl, t, r⟩ := unbox_rel rs h e
    obtain ⟨q1, q2⟩ := pys_lay xs vs (by simpa [D.fz] using k) r
    exact ⟨by rw [D.py]; exact .lst (SqL.of t) q2, by simpa [D.py, PyData.canLay0] using q1⟩
  | _ =>
    rw [e] at k
    have hd : unbox S d = d := by
      unfold unbox at e ⊢
      split at e
      · split at e
        · cases e
        · simp only [*]
      · rfl
    rw [hd] at e
    subst e
    obtain ⟨q1, q2⟩ := py_lay _ v k h
    exact ⟨q2, q1⟩
theorem deeps_lay {k : Nat} (ih : ∀ (d : D) (v : V), Rel g m S.length H d v → (deep k S d).fz = true → Dp g.K H v (deep k S d).py ∧ (deep k S d).py.canLay0 = true) : ∀ (xs : List D) (vs : List V), Rels g m S.length H xs vs → D.fzs (xs.map (deep k S)) = true → DpAll g.K H vs (D.pys (xs.map (deep k S))) ∧ PyData.canLayAll0 (D.pys (xs.map (deep k S))) = true
  | [], vs, h, _ => by unfold Rels at h; subst h; exact ⟨by rw [List.map_nil, D.pys]; exact .nil, by simp [D.pys, PyData.canLayAll0]⟩
  | x :: xs, vs, h, q => by
    unfold Rels at h
    obtain ⟨w, ws, rfl, r, rr⟩ := h
    rw [List.map_cons] at q ⊢
    simp only [D.fzs, Bool.and_eq_true] at q
    obtain ⟨a1, a2⟩ := ih x w r q.1
    obtain ⟨b1, b2⟩ := deeps_lay ih xs ws rr q.2
    exact ⟨by rw [D.pys]; exact .cons a1 b1, by simp [D.pys, PyData.canLayAll0, a2, b2]⟩
theorem deep_lay (rs : RS g m S H) : ∀ (k : Nat) (d : D) (v : V), Rel g m S.length H d v → (deep k S d).fz = true → Dp g.K H v (deep k S d).py ∧ (deep k S d).py.canLay0 = true
  | 0, d, v, h, q => let ⟨a, b⟩ := py_lay d v q h; ⟨b, a⟩
  | k + 1, d, v, h, q => by
    cases d with
    | tup xs =>
      rw [rel_tup] at h
      obtain ⟨a, vs, rfl, t, r⟩ := h
      rw [deep] at q ⊢
      obtain ⟨q1, q2⟩ := deeps_lay (fun d v => deep_lay rs k d v) xs vs r (by simpa [D.fz] using q)
      exact ⟨by rw [D.py]; exact .tup t.sq q1, by simpa [D.py, PyData.canLay0] using q2⟩
    | lst xs =>
      rw [rel_lst] at h
      obtain ⟨a, vs, rfl, ⟨t, _⟩, r⟩ := h
      rw [deep] at q ⊢
      obtain ⟨q1, q2⟩ := deeps_lay (fun d v => deep_lay rs k d v) xs vs r (by simpa [D.fz] using q)
      exact ⟨by rw [D.py]; exact .lst (SqL.of t) q1, by simpa [D.py, PyData.canLay0] using q2⟩
    | ref i =>
      have e : deep (k + 1) S (.ref i) = match cellAt S i with
        | some (.lst xs) => .lst (xs.map (deep k S))
        | _ => .ref i := rfl
      rw [e] at q ⊢
      split at q
      · rename_i xs hz
        obtain ⟨a, rfl, _, vs, t, r⟩ := h.box rs hz
        obtain ⟨q1, q2⟩ := deeps_lay (fun d v => deep_lay rs k d v) xs vs r (by simpa [D.fz] using q)
        exact ⟨by rw [D.py]; exact .lst (SqL.of t) q1, by simpa [D.py, PyData.canLay0] using q2⟩
      · cases q
    | _ =>
      obtain ⟨a, b⟩ := py_lay _ v (by simpa only [deep] using q) h
      exact ⟨by simpa only [deep] using b, by simpa only [deep] using a⟩
theorem op_eqX (hK : X.K = g.K) {k : Nat} (hr : Room k X.A) : OpR X (compareOp .Eq) (r2 g (cmpR .eqd)) := by
  refine OpR.imp (op_eqD (by have := hr.un; omega)) fun x y H Q ⟨m, S, d, e, W, rs, rd, re, w⟩ => ?_
  obtain ⟨⟨k1, k2, l1, l2⟩, w⟩ := (show WP g W (Rel g) m S.length H (ck _ _) Q from w).ck
  obtain ⟨p1, c1⟩ := deep_lay rs 8 _ _ rd k1
  obtain ⟨p2, c2⟩ := deep_lay rs 8 _ _ re k2
  refine ⟨_, _, by rw [hK]; exact p1, by rw [hK]; exact p2, ?_, ?_, ?_⟩
  · unfold SeqAt.shaped; rw [c1, py_depth _ k1, Bool.true_and]; exact decide_eq_true l1
  · unfold SeqAt.shaped; rw [c2, py_depth _ k2, Bool.true_and]; exact decide_eq_true l2
  · rw [py_eqv _ _ k1 k2]
    exact w.now rs (by rw [rel_bl])
theorem op_neX (hK : X.K = g.K) {k : Nat} (hr : Room k X.A) : OpR X (compareOp .NotEq) (r2 g (cmpR .ned)) := by
  refine OpR.imp (op_neD (by have := hr.un; omega)) fun x y H Q ⟨m, S, d, e, W, rs, rd, re, w⟩ => ?_
  obtain ⟨⟨k1, k2, l1, l2⟩, w⟩ := (show WP g W (Rel g) m S.length H (ck _ _) Q from w).ck
  obtain ⟨p1, c1⟩ := deep_lay rs 8 _ _ rd k1
  obtain ⟨p2, c2⟩ := deep_lay rs 8 _ _ re k2
  refine ⟨_, _, by rw [hK]; exact p1, by rw [hK]; exact p2, ?_, ?_, ?_⟩
  · unfold SeqAt.shaped; rw [c1, py_depth _ k1, Bool.true_and]; exact decide_eq_true l1
  · unfold SeqAt.shaped; rw [c2, py_depth _ k2, Bool.true_and]; exact decide_eq_true l2
  · rw [py_eqv _ _ k1 k2]
    exact w.now rs (by rw [rel_bl])
theorem op_eqI (hK : X.K = g.K) {k : Nat} (hr : Room k X.A) : OpR X (compareOp .Eq) (r2 g (cmpR .eq)) := by
  refine OpR.imp (op_eqD (by have := hr.un; omega)) fun x y H Q ⟨m, S, d, e, W, rs, rd, re, w⟩ => ?_
  obtain ⟨⟨k1, k2, l1, l2⟩, w⟩ := (show WP g W (Rel g) m S.length H (ck _ _) Q from w).ck
  obtain ⟨p1, c1⟩ := unbox_fz rs rd (.inr k1) k1
  obtain ⟨p2, c2⟩ := unbox_fz rs re (.inr k2) k2
  refine ⟨_, _, by rw [hK]; exact p1, by rw [hK]; exact p2, ?_, ?_, ?_⟩
  · unfold SeqAt.shaped; rw [c1, py_depth _ k1, Bool.true_and]; exact decide_eq_true l1
  · unfold SeqAt.shaped; rw [c2, py_depth _ k2, Bool.true_and]; exact decide_eq_true l2
  · rw [py_eqv _ _ k1 k2]
    exact w.now rs (by rw [rel_bl])
theorem op_neI (hK : X.K = g.K) {k : Nat} (hr : Room k X.A) : OpR X (compareOp .NotEq) (r2 g (cmpR .ne)) := by
  refine OpR.imp (op_neD (by have := hr.un; omega)) fun x y H Q ⟨m, S, d, e, W, rs, rd, re, w⟩ => ?_
  obtain ⟨⟨k1, k2, l1, l2⟩, w⟩ := (show WP g W (Rel g) m S.length H (ck _ _) Q from w).ck
  obtain ⟨p1, c1⟩ := unbox_fz rs rd (.inr k1) k1
  obtain ⟨p2, c2⟩ := unbox_fz rs re (.inr k2) k2
  refine ⟨_, _, by rw [hK]; exact p1, by rw [hK]; exact p2, ?_, ?_, ?_⟩
  · unfold SeqAt.shaped; rw [c1, py_depth _ k1, Bool.true_and]; exact decide_eq_true l1
  · unfold SeqAt.shaped; rw [c2, py_depth _ k2, Bool.true_and]; exact decide_eq_true l2
  · rw [py_eqv _ _ k1 k2]
    exact w.now rs (by rw [rel_bl])
end
end Iv

/-! ### operators, items, slices, built-in functions and methods -/
namespace Iv
open PySem PySem.Spec PyProof.Rows L2
section
variable {g : Gs} {W : Value → Option Addr → Hp → Prop} {m : Mp} {n : Nat} {H : Hp} {S : Sto} {Q : VK} {d e : D} {v x y : V} {xs ys : List D} {vs : List V} {X : Cx}
theorem okS.sign {c : Nat} {z : Str} (h : okS z) (hc : c ∈ z.cps.toList) : okS ⟨#[c]⟩ := ⟨by show 1 ≤ sizeLine; rw [sizeLine_eq]; omega, fun k hk => by
  have : k = c := by simpa using hk
  rw [this]
  exact h.2 c hc⟩
theorem rel_none (h : Rel g m n H d v) : decide (v = .non) = (match d with | .non => true | _ => false) := by
  cases d with
  | non => rw [rel_non] at h; subst h; rfl
  | bl _ => rw [rel_bl] at h; subst h; rfl
  | int _ => rw [rel_int] at h; subst h; rfl
  | str _ => rw [rel_str] at h; obtain ⟨rfl, _⟩ := h; rfl
  | ty _ => rw [rel_ty] at h; subst h; rfl
  | tup _ => rw [rel_tup] at h; obtain ⟨a, vs, rfl, _⟩ := h; rfl
  | lst _ => rw [rel_lst] at h; obtain ⟨a, vs, rfl, _⟩ := h; rfl
  | scr _ => rw [rel_scr] at h; obtain ⟨a, vs, rfl, _⟩ := h; rfl
  | ref _ => rw [rel_ref] at h; obtain ⟨_, a, rfl, _⟩ := h; rfl
  | ins _ _ => rw [rel_ins] at h; obtain ⟨a, _, _, rfl, _⟩ := h; rfl
theorem dps_lst (l : D.dps xs ≤ 63) : (D.lst xs).dp ≤ 64 := by rw [D.dp]; omega
theorem py_any (z : D) (kz : z.fz = true) : ∀ xs : List D, D.fzs xs = true → ((D.pys xs).any fun p => PyData.eqv p z.py) = xs.any fun p => p.eqv z
  | [], _ => rfl
  | a :: r, k => by
    simp only [D.fzs, Bool.and_eq_true] at k
    rw [D.pys, List.any_cons, List.any_cons, py_eqv a z k.1 kz, py_any z kz r k.2]
def rInT (K : PySem.W.Frag) (neg : Bool) : R2 := fun x y H Q => ∃ d ds, Dp K H x d ∧ (Dp K H y (.list ds) ∨ Dp K H y (.tuple ds)) ∧ SeqAt.shaped d = true ∧ SeqAt.shaped (.list ds) = true ∧ Q (.bl (if neg then !(ds.any fun z => PyData.eqv z d) else ds.any fun z => PyData.eqv z d)) H
theorem op_inT (hu : X.A.units + 65 < cLine) : OpR X (compareOp .In) (rInT X.K false) := by
  intro pins s σ H x y v u Q I rx ry h
  obtain ⟨d, ds, hd, he, sd, se, q⟩ := h
  obtain ⟨as, r1⟩ := Dp.reads I d x v hd rx
  rcases he with he | he
  · obtain ⟨bs, r2⟩ := Dp.reads I (.list ds) y u he ry
    exact SeqAt.in_list_reads r2 r1 (SeqAt.canLay_of_shaped se) (SeqAt.canLay_of_shaped sd) (room_in_shaped sd hu) ⟨.bl _, H, I, rfl, q⟩
  · obtain ⟨bs, r2⟩ := Dp.reads I (.tuple ds) y u he ry
    exact SeqAt.in_tuple_reads r2 r1 (SeqAt.canLay_of_shaped se) (SeqAt.canLay_of_shaped sd) (room_in_shaped sd hu) ⟨.bl _, H, I, rfl, q⟩
theorem op_notInT (hu : X.A.units + 65 < cLine) : OpR X (compareOp .NotIn) (rInT X.K true) := by
  intro pins s σ H x y v u Q I rx ry h
  obtain ⟨d, ds, hd, he, sd, se, q⟩ := h
  obtain ⟨as, r1⟩ := Dp.reads I d x v hd rx
  rcases he with he | he
  · obtain ⟨bs, r2⟩ := Dp.reads I (.list ds) y u he ry
    exact SeqAt.notIn_list_reads r2 r1 (SeqAt.canLay_of_shaped se) (SeqAt.canLay_of_shaped sd) (room_in_shaped sd hu) ⟨.bl _, H, I, rfl, q⟩
  · obtain ⟨bs, r2⟩ := Dp.reads I (.tuple ds) y u he ry
    exact SeqAt.notIn_tuple_reads r2 r1 (SeqAt.canLay_of_shaped se) (SeqAt.canLay_of_shaped sd) (room_in_shaped sd hu) ⟨.bl _, H, I, rfl, q⟩
theorem seq_dp (rs : RS g m S H) (h : Rel g m S.length H d v) (e : seqOf S d = some xs) (k : D.fzs xs = true) (l : D.dps xs ≤ 63) : (Dp g.K H v (.list (D.pys xs)) ∨ Dp g.K H v (.tuple (D.pys xs))) ∧ SeqAt.shaped (.list (D.pys xs)) = true := by
  obtain ⟨a, vs, rfl, r, q⟩ := seqOf_sq rs h e
  obtain ⟨q1, q2⟩ := pys_lay xs vs k r
  refine ⟨?_, ?_⟩
  · rcases q with q | q
    · exact .inl (.lst q q2)
    · exact .inr (.tup q q2)
  · unfold SeqAt.shaped
    rw [PyData.canLay0, q1, PyData.depth, pys_depth xs k, Bool.true_and]
    exact decide_eq_true (by omega)
theorem in_ok {k : Bool → R D} {neg : Bool} (rs : RS g m S H) (rd : Rel g m S.length H d x) (re : Rel g m S.length H e y) (w : WP g W (Rel g) m S.length H (cmpR.inR d e S k) Q)
    (hk : ∀ b, k b = .ok (.bl (if neg then !b else b)) S) : (∃ (c : Nat) (z : Str), x = .str ⟨#[c]⟩ ∧ y = .str z ∧ Q (.bl (if neg then !decide (c ∈ z.cps.toList) else decide (c ∈ z.cps.toList))) H) ∨ rInT g.K neg x y H Q := by
  unfold cmpR.inR at w
  split at w
  · rename_i a b
    rw [rel_str] at rd re
    split at w
    · rename_i c hc
      rw [hk] at w
      refine .inl ⟨c, b, ?_, re.1, w.now rs (by rw [rel_bl])⟩
      rw [rd.1]
      have : a.cps = #[c] := by
        apply Array.ext'
        simpa using hc
      cases a with
      | mk z =>
        have this : z = #[c] := this
        rw [this]
    · exact w.err
  · split at w
    · rename_i ys hy
      obtain ⟨⟨k1, l1, k2, l2⟩, w⟩ := w.ck
      rw [hk] at w
      obtain ⟨q1, q2⟩ := seq_dp rs re hy k2 l2
      refine .inr ⟨d.py, D.pys ys, (py_lay d x k1 rd).2, q1, py_shaped k1 rd (by omega), q2, ?_⟩
      rw [py_any d k1 ys k2]
      exact w.now rs (by rw [rel_bl])
    · exact w.err
def copOf : Cop → CmpOp
  | .eq => .Eq
  | .ne => .NotEq
  | .eqd => .Eq
  | .ned => .NotEq
  | .lt => .Lt
  | .le => .LtE
  | .gt => .Gt
  | .ge => .GtE
  | .isN => .Is
  | .notN => .IsNot
  | .isIn => .In
  | .notIn => .NotIn
def rLtX (K : PySem.W.Frag) : R2 := fun x y H Q => ∃ d e, Dp K H x d ∧ Dp K H y e ∧ PySem.W.alike d e = true ∧ d ≠ .none ∧ d.depth ≤ 60 ∧ Q (.bl (PySem.W.dataLt d e)) H
def rLeX (K : PySem.W.Frag) : R2 := fun x y H Q => ∃ d e, Dp K H x d ∧ Dp K H y e ∧ PySem.W.alike d e = true ∧ d ≠ .none ∧ d.depth ≤ 60 ∧ Q (.bl (!PySem.W.dataLt e d)) H
theorem op_ltX {k : Nat} (hr : Room k X.A) : OpR X (compareOp .Lt) (rLtX X.K) := by
  intro pins s σ H x y v u Q I rx ry h
  obtain ⟨d, e, hd, he, al, nn, dp, q⟩ := h
  obtain ⟨as, r1⟩ := Dp.reads I d x v hd rx
  obtain ⟨bs, r2⟩ := Dp.reads I e y u he ry
  exact PySem.W.lt_data r1 r2 al nn (by have := hr.un; have := Nat.min_le_left d.depth e.depth; omega) ⟨.bl _, H, I, rfl, q⟩
theorem op_leX {k : Nat} (hr : Room k X.A) : OpR X (compareOp .LtE) (rLeX X.K) := by
  intro pins s σ H x y v u Q I rx ry h
  obtain ⟨d, e, hd, he, al, nn, dp, q⟩ := h
  obtain ⟨as, r1⟩ := Dp.reads I d x v hd rx
  obtain ⟨bs, r2⟩ := Dp.reads I e y u he ry
  exact PySem.W.le_data r1 r2 al nn (by have := hr.un; have := Nat.min_le_left d.depth e.depth; omega) ⟨.bl _, H, I, rfl, q⟩
theorem notNon_py {d : D} (h : notNon d = true) (f : d.fz = true) : d.py ≠ .none := by
  cases d <;> first | (exact absurd h Bool.false_ne_true) | (exact absurd f Bool.false_ne_true) | (intro z; simp [D.py] at z)
theorem op_cmpI (hK : X.K = g.K) {k : Nat} (hr : Room k X.A) (op : Cop) : OpR X (compareOp (copOf op)) (r2 g (cmpR op)) := by
  cases op with
  | eq => exact op_eqI hK hr
  | ne => exact op_neI hK hr
  | eqd => exact op_eqX hK hr
  | ned => exact op_neX hK hr
  | lt =>
    refine OpR.imp (op_lt.or (op_ltX hr)) fun x y H Q ⟨m, S, d, e, W, rs, rd, re, w⟩ => ?_
    unfold cmpR at w
    simp only at w
    split at w
    · rw [rel_int] at rd re
      exact .inl ⟨_, _, rd, re, w.now rs (by rw [rel_bl])⟩
    · obtain ⟨⟨c1, c2, c3, c4, c5, c6⟩, w⟩ := w.ck
      exact .inr ⟨d.py, e.py, by rw [hK]; exact (py_lay d x c1 rd).2, by rw [hK]; exact (py_lay e y c2 re).2, c5, notNon_py c6 c1, by rw [py_depth d c1]; exact c3, w.now rs (by rw [rel_bl]; rfl)⟩
  | le =>
    refine OpR.imp (op_le.or (op_leX hr)) fun x y H Q ⟨m, S, d, e, W, rs, rd, re, w⟩ => ?_
    unfold cmpR at w
    simp only at w
    split at w
    · rw [rel_int] at rd re
      exact .inl ⟨_, _, rd, re, w.now rs (by rw [rel_bl])⟩
    · obtain ⟨⟨c1, c2, c3, c4, c5, c6⟩, w⟩ := w.ck
      exact .inr ⟨d.py, e.py, by rw [hK]; exact (py_lay d x c1 rd).2, by rw [hK]; exact (py_lay e y c2 re).2, c5, notNon_py c6 c1, by rw [py_depth d c1]; exact c3, w.now rs (by rw [rel_bl]; rfl)⟩
  | gt =>
    refine OpR.imp op_gt fun x y H Q ⟨m, S, d, e, W, rs, rd, re, w⟩ => ?_
    unfold cmpR at w
    simp only at w
    split at w
    · rw [rel_int] at rd re
      exact ⟨_, _, rd, re, w.now rs (by rw [rel_bl])⟩
    · exact w.err
  | ge =>
    refine OpR.imp op_ge fun x y H Q ⟨m, S, d, e, W, rs, rd, re, w⟩ => ?_
    unfold cmpR at w
    simp only at w
    split at w
    · rw [rel_int] at rd re
      exact ⟨_, _, rd, re, w.now rs (by rw [rel_bl])⟩
    · exact w.err
  | isN =>
    refine OpR.imp (op_isN.or op_isBl) fun x y H Q ⟨m, S, d, e, W, rs, rd, re, w⟩ => ?_
    unfold cmpR at w
    simp only at w
    split at w
    · rw [rel_non] at re
      refine .inl ⟨re, w.now rs ?_⟩
      rw [rel_bl, rel_none rd]
      cases d <;> rfl
    · split at w
      · rw [rel_bl] at rd re
        exact .inr ⟨_, _, rd, re, w.now rs (by rw [rel_bl])⟩
      · exact w.err
    · exact w.err
  | notN =>
    refine OpR.imp (op_notN.or op_notBl) fun x y H Q ⟨m, S, d, e, W, rs, rd, re, w⟩ => ?_
    unfold cmpR at w
    simp only at w
    split at w
    · rw [rel_non] at re
      refine .inl ⟨re, w.now rs ?_⟩
      rw [rel_bl, rel_none rd]
      cases d <;> rfl
    · split at w
      · rw [rel_bl] at rd re
        exact .inr ⟨_, _, rd, re, w.now rs (by rw [rel_bl])⟩
      · exact w.err
    · exact w.err
  | isIn =>
    refine OpR.imp (op_in_sign.or (op_inT (by have := hr.un; omega))) fun x y H Q ⟨m, S, d, e, W, rs, rd, re, w⟩ => ?_
    rw [hK]
    exact in_ok (neg := false) rs rd re w fun b => rfl
  | notIn =>
    refine OpR.imp (op_notIn_sign.or (op_notInT (by have := hr.un; omega))) fun x y H Q ⟨m, S, d, e, W, rs, rd, re, w⟩ => ?_
    rw [hK]
    exact in_ok (neg := true) rs rd re w fun b => rfl
theorem atD_atI {α : Type} {xs : List α} {i : Int} {a : α} (h : atD xs i = some a) : ∃ j, ixN xs.length i = some j ∧ xs[j]? = some a := by
  unfold atD at h
  unfold ixN
  split at h
  · rename_i h0
    have hl := (List.getElem?_eq_some_iff.mp h).1
    exact ⟨i.toNat, by rw [if_pos h0, if_pos (by omega)], h⟩
  · rename_i h0
    split at h
    · rename_i h1
      exact ⟨_, by rw [if_neg h0, if_pos h1], h⟩
    · cases h
theorem ix_I (hK : X.K = g.K) : IxR X (r2 g idxR) := by
  refine IxR.imp ix_seq fun x y H Q ⟨m, S, d, e, W, rs, rd, re, w⟩ => ?_
  unfold idxR at w
  split at w
  · rename_i i
    rw [rel_int] at re
    split at w
    · rename_i z
      split at w
      · rename_i c hc
        rw [rel_str] at rd
        obtain ⟨j, h1, h2⟩ := atD_atI hc
        refine .inr (.inr ⟨z, i, c, rd.1, re, rd.2.1, ?_, w.now rs (by rw [rel_str]; exact ⟨rfl, rd.2.sign (List.mem_of_getElem? h2)⟩)⟩)
        unfold atI
        rw [h1]
        exact h2
      · exact w.err
    · split at w
      · rename_i xs hx
        split at w
        · rename_i d' hd
          obtain ⟨j, h1, h2⟩ := atD_atI hd
          obtain ⟨a, vs, rfl, r, q⟩ := seqOf_sq rs rd hx
          obtain ⟨v, hv, rv⟩ := r.get h2
          have hat : atI vs i = some v := by
            unfold atI
            rw [← r.length, h1]
            exact hv
          rw [hK]
          rcases q with q | q
          · exact .inl ⟨a, vs, i, v, rfl, re, q, hat, w.now rs rv⟩
          · exact .inr (.inl ⟨a, vs, i, v, rfl, re, q, hat, w.now rs rv⟩)
        · exact w.err
      · exact w.err
  · exact w.err
theorem Rels.cut {lo hi : Option Int} (r : Rels g m n H xs vs) : Rels g m n H (cutD xs lo hi) (cutV vs lo hi) := by
  unfold cutD cutV
  rw [r.length]
  exact (r.drop _).take _
/-- slices: what is told of a thing and two bounds -/
def r3 (g : Gs) (box : Bool) : V → Option Int → Option Int → Hp → VK → Prop := fun x lo hi H Q => ∃ m S d W, RS g m S H ∧ Rel g m S.length H d x ∧ WP g W (Rel g) m S.length H (slcR box d lo hi S) Q
theorem SlR.imp {r r' : V → Option Int → Option Int → Hp → VK → Prop} (h : SlR X r) (k : ∀ x lo hi H Q, r' x lo hi H Q → r x lo hi H Q) : SlR X r' :=
  fun pins s σ H x v vl vu lo hi sl Q I rx hs pl pu q => h pins s σ H x v vl vu lo hi sl Q I rx hs pl pu (k _ _ _ _ _ q)
theorem cutS_mem {z : Str} {lo hi : Option Int} {c : Nat} (h : c ∈ (cutS z lo hi).cps.toList) : c ∈ z.cps.toList := by
  unfold cutS at h
  exact List.mem_of_mem_drop (List.mem_of_mem_take (by simpa using h))
theorem sl_I (hK : X.K = g.K) {box : Bool} : SlR X (r3 g box) := by
  refine SlR.imp (sl_tupA.or (sl_str.or sl_list)) fun x lo hi H Q ⟨m, S, d, W, rs, rd, w⟩ => ?_
  unfold slcR at w
  split at w
  · rename_i xs
    rw [rel_tup] at rd
    obtain ⟨a, vs, rfl, t, r⟩ := rd
    refine .inl ⟨a, vs, rfl, by rw [hK]; exact t.sq, fun ⟨h1, h2⟩ => ?_, fun _ p hp => mkT_ok rs r.cut w hp⟩
    have e : cutD xs lo hi = xs := by
      unfold cutD
      rw [r.length, h1, h2, List.drop_zero, Nat.sub_zero]
      exact List.take_of_length_le (Nat.le_of_eq r.length)
    rw [e] at w
    exact w.now rs (by rw [rel_tup]; exact ⟨a, vs, rfl, t, r⟩)
  · rw [rel_str] at rd
    exact .inr (.inl ⟨_, rd.1, rd.2.1, w.now rs (by rw [rel_str]; exact ⟨rfl, Nat.le_trans (cutS_length _ _ _) rd.2.1, fun c hc => rd.2.2 c (cutS_mem hc)⟩)⟩)
  · rename_i hn _
    split at w
    · rename_i xs hx
      obtain ⟨a, vs, rfl, r, q⟩ := seqOf_rel rs rd hx
      rcases q with ⟨q, _⟩ | ⟨_, q⟩
      · exact .inr (.inr ⟨a, vs, rfl, by rw [hK]; exact q, fun p hp => mkL_ok rs r.cut w hp⟩)
      · exact absurd q (hn _)
    · exact w.err
end
end Iv

/-! ### expressions -/
namespace Iv
open PySem PySem.Spec PyProof.Rows L2

def EnvR (g : Gs) (m : Mp) (n : Nat) (H : Hp) (ρ : Env) (σ : L2.St) : Prop := ρ.length = σ.length ∧ ∀ (i : Nat) (d : D), ρ[i]? = some (some d) → ∃ v, σ[i]? = some (some v) ∧ Rel g m n H d v
/-- a reading by what is told of the data -/
def TI {α β : Type} (g : Gs) (W : L2.WX) (Ra : Mp → Nat → Hp → α → β → Prop) (f : Env → Sto → R α) : L2.St → Hp → (β → Hp → Prop) → Prop := fun σ H Q =>
  ∃ m ρ S, RS g m S H ∧ EnvR g m S.length H ρ σ ∧ WP g (fun c d H' => W c d σ H') Ra m S.length H (f ρ S) Q
section
variable {α β γ δ : Type} {g : Gs} {W : L2.WX} {Ra : Mp → Nat → Hp → α → β → Prop} {Rb : Mp → Nat → Hp → γ → δ → Prop} {m m1 : Mp} {n n1 : Nat} {H H1 : Hp} {S : Sto} {ρ : Env} {σ : L2.St}
theorem EnvR.mono (x : Ext m n H m1 n1 H1) (h : EnvR g m n H ρ σ) : EnvR g m1 n1 H1 ρ σ := ⟨h.1, fun i d e => let ⟨v, e1, r⟩ := h.2 i d e; ⟨v, e1, Rel.mono x d v r⟩⟩
theorem EnvR.set {d : D} {v : V} {i : Nat} (h : EnvR g m n H ρ σ) (r : Rel g m n H d v) : EnvR g m n H (ρ.set i (some d)) (σ.set i (some v)) := by
  refine ⟨by rw [List.length_set, List.length_set]; exact h.1, fun j d' e => ?_⟩
  by_cases hj : j = i
  · subst hj
    have hl : j < (ρ.set j (some d)).length := (List.getElem?_eq_some_iff.mp e).1
    rw [List.length_set] at hl
    rw [List.getElem?_set_self hl] at e
    cases e
    exact ⟨v, List.getElem?_set_self (by rw [← h.1]; exact hl), r⟩
  · rw [List.getElem?_set_ne (Ne.symm hj)] at e
    obtain ⟨w, e1, r1⟩ := h.2 j d' e
    exact ⟨w, by rw [List.getElem?_set_ne (Ne.symm hj)]; exact e1, r1⟩
theorem EnvR.wiped (h : EnvR g m n H ρ σ) : ∀ vs : List Nat, EnvR g m n H (wipeE ρ vs) (wipe σ vs)
  | [] => h
  | v :: vs => by
    have ih := EnvR.wiped h vs
    refine ⟨by unfold wipeE L2.wipe; rw [List.length_set, List.length_set]; exact ih.1, fun j d e => ?_⟩
    unfold wipeE at e
    unfold L2.wipe
    by_cases hj : j = v
    · subst hj
      have hl : j < ((wipeE ρ vs).set j none).length := (List.getElem?_eq_some_iff.mp e).1
      rw [List.length_set] at hl
      rw [List.getElem?_set_self hl] at e
      cases e
    · rw [List.getElem?_set_ne (Ne.symm hj)] at e
      obtain ⟨w, e1, r1⟩ := ih.2 j d e
      exact ⟨w, by rw [List.getElem?_set_ne (Ne.symm hj)]; exact e1, r1⟩
theorem TI.step {f : Env → Sto → R α} {k : α → Sto → R γ} {Q : δ → Hp → Prop} (rs : RS g m S H) (er : EnvR g m S.length H ρ σ) (w : WP g (fun c d H' => W c d σ H') Rb m S.length H ((f ρ S).bind k) Q) {Q' : β → Hp → Prop}
    (h : ∀ b H1 m1 S1 a, Ext m S.length H m1 S1.length H1 → RS g m1 S1 H1 → EnvR g m1 S1.length H1 ρ σ → Ra m1 S1.length H1 a b → WP g (fun c d H' => W c d σ H') Rb m1 S1.length H1 (k a S1) Q → Q' b H1) : TI g W Ra f σ H Q' :=
  ⟨m, ρ, S, rs, er, (WP.bind (Ra := Ra) w).imp fun b H1 ⟨m1, S1, a, x, rs1, ra, w1⟩ => h b H1 m1 S1 a x rs1 (er.mono x) ra w1⟩
theorem WP.bindE {r : R α} {f : α → Sto → R γ} {Q : δ → Hp → Prop} {W : Value → Option Addr → Hp → Prop} (h : WP g W Rb m n H (r.bind f) Q) :
    WP g W Ra m n H r (fun b H1 => ∃ m1 S1 a, r = .ok a S1 ∧ Ext m n H m1 S1.length H1 ∧ RS g m1 S1 H1 ∧ Ra m1 S1.length H1 a b ∧ WP g W Rb m1 S1.length H1 (f a S1) Q) := by
  cases r with
  | ok a S' => exact fun m' H' b x rs ra => ⟨m', S', a, rfl, x, rs, ra, WP.from x h⟩
  | exc e S' => exact h
  | err => exact h
theorem TI.stepE {f : Env → Sto → R α} {k : α → Sto → R γ} {Q : δ → Hp → Prop} (rs : RS g m S H) (er : EnvR g m S.length H ρ σ) (w : WP g (fun c d H' => W c d σ H') Rb m S.length H ((f ρ S).bind k) Q) {Q' : β → Hp → Prop}
    (h : ∀ b H1 m1 S1 a, f ρ S = .ok a S1 → Ext m S.length H m1 S1.length H1 → RS g m1 S1 H1 → EnvR g m1 S1.length H1 ρ σ → Ra m1 S1.length H1 a b → WP g (fun c d H' => W c d σ H') Rb m1 S1.length H1 (k a S1) Q → Q' b H1) : TI g W Ra f σ H Q' :=
  ⟨m, ρ, S, rs, er, (WP.bindE (Ra := Ra) w).imp fun b H1 ⟨m1, S1, a, e, x, rs1, ra, w1⟩ => h b H1 m1 S1 a e x rs1 (er.mono x) ra w1⟩
theorem TI.last {f : Env → Sto → R α} {Q : β → Hp → Prop} (rs : RS g m S H) (er : EnvR g m S.length H ρ σ) (w : WP g (fun c d H' => W c d σ H') Ra m S.length H (f ρ S) Q) : TI g W Ra f σ H Q := ⟨m, ρ, S, rs, er, w⟩
theorem TI.imp {f : Env → Sto → R α} {Q Q' : β → Hp → Prop} (h : TI g W Ra f σ H Q) (k : ∀ b H', Q b H' → Q' b H') : TI g W Ra f σ H Q' :=
  let ⟨m, ρ, S, rs, er, w⟩ := h
  ⟨m, ρ, S, rs, er, w.imp k⟩
end
abbrev tE (g : Gs) (W : L2.WX) (f : Env → Sto → R D) : TE := TI g W (Rel g) f
abbrev tEs (g : Gs) (W : L2.WX) (f : Env → Sto → R (List D)) : TA := TI g W (Rels g) f
abbrev tT (g : Gs) (W : L2.WX) (f : Env → Sto → R Bool) : TT := TI g W RelB f
theorem PE.imp {X : Cx} {e : Expr} {t t' : TE} (h : PE X e t) (k : ∀ σ H Q, t' σ H Q → t σ H Q) : PE X e t' := ⟨fun pins s σ H Q I q => h.run pins s σ H Q I (k σ H Q q)⟩
theorem PT.imp {X : Cx} {e : Expr} {t t' : TT} (h : PT X e t) (k : ∀ σ H Q, t' σ H Q → t σ H Q) : PT X e t' := ⟨fun pins s σ H Q I q => h.run pins s σ H Q I (k σ H Q q)⟩
theorem PW.imp {X : Cx} {e : Expr} {t t' : TT} (h : PW X e t) (k : ∀ σ H Q, t' σ H Q → t σ H Q) : PW X e t' := ⟨fun wh pins s σ H Q I q => h.run wh pins s σ H Q I (k σ H Q q)⟩
theorem PA.imp {X : Cx} {e : List Expr} {t t' : TA} (h : PA X e t) (k : ∀ σ H Q, t' σ H Q → t σ H Q) : PA X e t' := ⟨fun pos pins s σ H Q I q => h.run pos pins s σ H Q I (k σ H Q q)⟩

/-! forms of expressions -/
def okE : Expr → Bool
  | .Starred _ _ => false
  | .Slice _ _ _ _ => false
  | .Set _ _ _ => false
  | .Call (.Name id _) [] [] _ => id != "super"
  | _ => true
def plainT : Expr → Bool
  | .UnaryOp .Not _ _ => false
  | .BoolOp _ _ _ => false
  | .IfExp _ _ _ _ => false
  | .Compare _ _ _ _ => false
  | _ => true
theorem starEach_ok {e : Expr} {es : List Expr} {env : PySem.Env} (h : okE e = true) : starEach (e :: es) env = (false, eval e env) :: starEach es env := by
  cases e <;> first | rfl | (exact absurd h Bool.false_ne_true)
theorem plainIx_ok {e : Expr} (h : okE e = true) : PlainIx e := by
  intro o i
  cases e <;> first | rfl | (exact absurd h Bool.false_ne_true)
theorem mark_ok {e : Expr} {op : CmpOp} (h : okE e = true) : behindInMarks op e = false := by
  cases e <;> first | rfl | (exact absurd h Bool.false_ne_true)
theorem isTrue_ok {e : Expr} (h : plainT e = true) {env : PySem.Env} (whole : Sem Value) : isTrue e env whole = (do let v ← whole; standAt e.pos; holding [v] (truthy v)) := by
  cases e with
  | UnaryOp op a p => cases op <;> first | rfl | (exact absurd h Bool.false_ne_true)
  | _ => first | rfl | (exact absurd h Bool.false_ne_true)
theorem attrBase_ok {o : Expr} {f : Str} {env : PySem.Env} (h : okE o = true) : attributeBase o f env (eval o env) = eval o env := by
  cases o with
  | Call fn as ks p =>
    cases fn with
    | Name id q =>
      cases as with
      | nil =>
        cases ks with
        | nil =>
          have h' : (id != "super") = true := h
          unfold attributeBase
          simp only [h', Bool.true_or, if_true]
        | cons _ _ => rfl
      | cons _ _ => rfl
    | _ => rfl
  | _ => rfl
theorem lastMarks_ok {b c : Expr} {op op' : CmpOp} (hc : okE c = true) : lastMarks [op, op'] [b, c] = false := by
  show lastMarks [op'] [c] = false
  show behindInMarks op' c = false
  exact mark_ok hc
theorem folded_ok {e : Expr} {env : PySem.Env} (h : okE e = true) (x : Value) : foldedSetIterable e env x = pure x := by
  cases e <;> first | rfl | (exact absurd h Bool.false_ne_true)

section
variable {g : Gs} {W : L2.WX} {X : Cx} {F : CE} {a b c : Expr} {ia ib ic : E} {pos : Pos}
theorem i_var {i : Nat} {x : Str} (hN : X.N[i]? = some x) (hv : Vis X.env.scope x) (hd : (x == ("__debug__" : Str)) = false) (hcd : (x == ("__classdict__" : Str)) = false) : PE X (.Name x pos) (tE g W (ev F (.var i))) := by
  refine PE.imp (pe_var hN hv hd hcd) fun σ H Q ⟨m, ρ, S, rs, er, w⟩ => ?_
  rw [ev] at w
  split at w
  · rename_i d hd
    obtain ⟨v, e, r⟩ := er.2 i d hd
    exact ⟨v, e, w.now rs r⟩
  · exact w.err
theorem i_con {e : Expr} {d : D} {v : V} (h : PE X e (tC v)) (r : ∀ m n H, Rel g m n H d v) : PE X e (tE g W (ev F (.con d))) := by
  refine PE.imp h fun σ H Q ⟨m, ρ, S, rs, er, w⟩ => ?_
  rw [ev] at w
  exact w.now rs (r _ _ _)
theorem i_bin (hK : X.K = g.K) {box : Bool} {op : Bop} (ha : PE X a (tE g W (ev F ia))) (hb : PE X b (tE g W (ev F ib))) : PE X (.BinOp a (opOf op) b pos) (tE g W (ev F (.bin box op ia ib))) := by
  refine PE.imp (pe_op (op_binI (box := box) hK op) ha hb) fun σ H Q ⟨m, ρ, S, rs, er, w⟩ => ?_
  rw [ev] at w
  refine TI.step rs er w fun x H1 m1 S1 d x1 rs1 er1 r1 w => ?_
  refine TI.step rs1 er1 w fun y H2 m2 S2 e x2 rs2 er2 r2 w => ?_
  exact ⟨m2, S2, d, e, _, rs2, Rel.mono x2 _ _ r1, r2, w⟩
theorem i_cmp (hK : X.K = g.K) {k : Nat} (hr : Room k X.A) {op : Cop} (ok : okE b = true) (ha : PE X a (tE g W (ev F ia))) (hb : PE X b (tE g W (ev F ib))) : PE X (.Compare a [copOf op] [b] pos) (tE g W (ev F (.cmp op ia ib))) := by
  refine PE.imp (pe_cmpR (op_cmpI hK hr op) ha hb (mark_ok ok)) fun σ H Q ⟨m, ρ, S, rs, er, w⟩ => ?_
  rw [ev] at w
  refine TI.step rs er w fun x H1 m1 S1 d x1 rs1 er1 r1 w => ?_
  refine TI.step rs1 er1 w fun y H2 m2 S2 e x2 rs2 er2 r2 w => ?_
  exact ⟨m2, S2, d, e, _, rs2, Rel.mono x2 _ _ r1, r2, w⟩
theorem eqD_form {x y : D} {S : Sto} {k : Bool → R D} : (∃ b, eqD x y S k = k b) ∨ eqD x y S k = .err := by
  unfold eqD ck
  split
  · exact .inl ⟨_, rfl⟩
  · exact .inr rfl
theorem eqX_form {x y : D} {S : Sto} {k : Bool → R D} : (∃ b, eqX x y S k = k b) ∨ eqX x y S k = .err := by
  unfold eqX ck
  split
  · exact .inl ⟨_, rfl⟩
  · exact .inr rfl
theorem inR_form {x y : D} {S : Sto} {k : Bool → R D} : (∃ b, cmpR.inR x y S k = k b) ∨ cmpR.inR x y S k = .err := by
  unfold cmpR.inR ck
  split
  · split
    · exact .inl ⟨_, rfl⟩
    · exact .inr rfl
  · split
    · split
      · exact .inl ⟨_, rfl⟩
      · exact .inr rfl
    · exact .inr rfl
theorem cmpR_form (op : Cop) (x y : D) (S : Sto) : (∃ b, cmpR op x y S = .ok (.bl b) S) ∨ cmpR op x y S = .err := by
  cases op with
  | eq =>
    rcases eqD_form (x := x) (y := y) (S := S) (k := fun b => .ok (.bl b) S) with ⟨b, h⟩ | h
    · exact .inl ⟨b, h⟩
    · exact .inr h
  | ne =>
    rcases eqD_form (x := x) (y := y) (S := S) (k := fun b => .ok (.bl (!b)) S) with ⟨b, h⟩ | h
    · exact .inl ⟨!b, h⟩
    · exact .inr h
  | eqd =>
    rcases eqX_form (x := x) (y := y) (S := S) (k := fun b => .ok (.bl b) S) with ⟨b, h⟩ | h
    · exact .inl ⟨b, h⟩
    · exact .inr h
  | ned =>
    rcases eqX_form (x := x) (y := y) (S := S) (k := fun b => .ok (.bl (!b)) S) with ⟨b, h⟩ | h
    · exact .inl ⟨!b, h⟩
    · exact .inr h
  | isIn =>
    rcases inR_form (x := x) (y := y) (S := S) (k := fun b => .ok (.bl b) S) with ⟨b, h⟩ | h
    · exact .inl ⟨b, h⟩
    · exact .inr h
  | notIn =>
    rcases inR_form (x := x) (y := y) (S := S) (k := fun b => .ok (.bl (!b)) S) with ⟨b, h⟩ | h
    · exact .inl ⟨!b, h⟩
    · exact .inr h
  | _ =>
    unfold cmpR
    simp only
    split <;> first | exact .inl ⟨_, rfl⟩ | exact .inr rfl | (split <;> first | exact .inl ⟨_, rfl⟩ | exact .inr rfl) | (unfold ordX ck; split <;> first | exact .inl ⟨_, rfl⟩ | exact .inr rfl)
theorem wp_bl {W' : Value → Option Addr → Hp → Prop} {m : Mp} {n : Nat} {H : Hp} {r : R D} {Q : Bool → Hp → Prop} (f : (∃ b S, r = .ok (.bl b) S) ∨ r = .err) (w : WP g W' RelB m n H (r.bind fun z S => tru z S) Q) : WP g W' (Rel g) m n H r fun x H' => ∃ k, x = .bl k ∧ Q k H' := by
  rcases f with ⟨b, S, rfl⟩ | rfl
  · intro m' H' v x rs r
    rw [rel_bl] at r
    exact ⟨b, r, w m' H' b x rs rfl⟩
  · exact w
theorem t_cmp (hK : X.K = g.K) {k : Nat} (hr : Room k X.A) {op : Cop} (ok : okE b = true) (ha : PE X a (tE g W (ev F ia))) (hb : PE X b (tE g W (ev F ib))) : PT X (.Compare a [copOf op] [b] pos) (tT g W fun ρ S => (ev F (.cmp op ia ib) ρ S).bind fun z S => tru z S) := by
  refine PT.imp (pt_cmpR (op_cmpI hK hr op) ha hb (mark_ok ok)) fun σ H Q ⟨m, ρ, S, rs, er, w⟩ => ?_
  dsimp only at w
  rw [ev] at w
  unfold tTest
  have bind3 : ∀ {α β γ : Type} (r : R α) (f : α → Sto → R β) (h : β → Sto → R γ), (r.bind f).bind h = r.bind fun x S => (f x S).bind h := fun r f h => by cases r <;> rfl
  rw [bind3] at w
  refine TI.step rs er w fun x H1 m1 S1 d x1 rs1 er1 r1 w => ?_
  rw [bind3] at w
  refine TI.step rs1 er1 w fun y H2 m2 S2 e x2 rs2 er2 r2 w => ?_
  refine ⟨m2, S2, d, e, _, rs2, Rel.mono x2 _ _ r1, r2, wp_bl ?_ w⟩
  rcases cmpR_form op d e S2 with ⟨b, h⟩ | h
  · exact .inl ⟨b, S2, h⟩
  · exact .inr h
theorem R.bind_bind {α β γ : Type} (r : R α) (f : α → Sto → R β) (h : β → Sto → R γ) : (r.bind f).bind h = r.bind fun x S => (f x S).bind h := by cases r <;> rfl
theorem tru_bl {b : Bool} {S : Sto} : tru (.bl b) S = .ok b S := rfl
theorem chain_body (hK : X.K = g.K) {op op' : Cop} {σ : L2.St} {H : Hp} {Q : VK} {m : Mp} {ρ : Env} {S : Sto} (rs : RS g m S H) (er : EnvR g m S.length H ρ σ) (w : WP g (fun c d H' => W c d σ H') (Rel g) m S.length H (ev F (.chain op op' ia ib ic) ρ S) Q) :
    tChain (r2 g (cmpR op)) (r2 g (cmpR op')) (tE g W (ev F ia)) (tE g W (ev F ib)) (tE g W (ev F ic)) σ H Q := by
  rw [ev] at w
  refine TI.step rs er w fun x H1 m1 S1 d x1 rs1 er1 r1 w => ?_
  refine TI.step rs1 er1 w fun y H2 m2 S2 e x2 rs2 er2 r2 w => ?_
  refine ⟨m2, S2, d, e, (fun c d H' => W c d σ H'), rs2, Rel.mono x2 _ _ r1, r2, ?_⟩
  rcases cmpR_form op d e S2 with ⟨b, h⟩ | h
  · rw [h] at w ⊢
    intro m3 H3 v x3 rs3 r3
    rw [rel_bl] at r3
    refine ⟨b, r3, ?_⟩
    simp only [R.bind_ok, tru_bl] at w
    have w := w.from x3
    cases b with
    | false =>
      rw [if_neg Bool.false_ne_true] at w ⊢
      exact w.now rs3 (by rw [rel_bl])
    | true =>
      rw [if_pos rfl] at w ⊢
      refine TI.step rs3 (er2.mono x3) w fun z H4 m4 S4 f x4 rs4 er4 r4 w => ?_
      exact ⟨m4, S4, e, f, _, rs4, Rel.mono (x3.trans x4) _ _ r2, r4, w⟩
  · rw [h] at w
    exact w.err
theorem i_chain (hK : X.K = g.K) {k : Nat} (hr : Room k X.A) {op op' : Cop} (ok : okE c = true) (ha : PE X a (tE g W (ev F ia))) (hb : PE X b (tE g W (ev F ib))) (hc : PE X c (tE g W (ev F ic))) :
    PE X (.Compare a [copOf op, copOf op'] [b, c] pos) (tE g W (ev F (.chain op op' ia ib ic))) :=
  PE.imp (pe_chain (op_cmpI hK hr op) (op_cmpI hK hr op') ha hb hc (lastMarks_ok ok)) fun σ H Q ⟨m, ρ, S, rs, er, w⟩ => chain_body hK rs er w
theorem chain_form {op op' : Cop} {ρ : Env} {S : Sto} : (∃ b S', ev F (.chain op op' ia ib ic) ρ S = .ok (.bl b) S') ∨ ev F (.chain op op' ia ib ic) ρ S = .err ∨ ∃ x S', ev F (.chain op op' ia ib ic) ρ S = .exc x S' := by
  rw [ev]
  cases ev F ia ρ S with
  | exc x S' => exact .inr (.inr ⟨_, _, rfl⟩)
  | err => exact .inr (.inl rfl)
  | ok x S1 =>
    simp only [R.bind_ok]
    cases ev F ib ρ S1 with
    | exc x S' => exact .inr (.inr ⟨_, _, rfl⟩)
    | err => exact .inr (.inl rfl)
    | ok y S2 =>
      simp only [R.bind_ok]
      rcases cmpR_form op x y S2 with ⟨b, h⟩ | h
      · rw [h]
        simp only [R.bind_ok, tru_bl]
        cases b with
        | false => exact .inl ⟨false, S2, rfl⟩
        | true =>
          rw [if_pos rfl]
          cases ev F ic ρ S2 with
          | exc x S' => exact .inr (.inr ⟨_, _, rfl⟩)
          | err => exact .inr (.inl rfl)
          | ok z S3 =>
            simp only [R.bind_ok]
            rcases cmpR_form op' y z S3 with ⟨b, h⟩ | h
            · exact .inl ⟨b, S3, h⟩
            · exact .inr (.inl h)
      · rw [h]
        exact .inr (.inl rfl)
theorem t_chain (hK : X.K = g.K) {k : Nat} (hr : Room k X.A) {op op' : Cop} (ok : okE c = true) (ha : PE X a (tE g W (ev F ia))) (hb : PE X b (tE g W (ev F ib))) (hc : PE X c (tE g W (ev F ic))) :
    PT X (.Compare a [copOf op, copOf op'] [b, c] pos) (tT g W fun ρ S => (ev F (.chain op op' ia ib ic) ρ S).bind fun z S => tru z S) := by
  refine PT.imp (pt_chain (op_cmpI hK hr op) (op_cmpI hK hr op') ha hb hc (lastMarks_ok ok)) fun σ H Q ⟨m, ρ, S, rs, er, w⟩ => ?_
  refine chain_body hK rs er ?_
  rcases chain_form (F := F) (ia := ia) (ib := ib) (ic := ic) (op := op) (op' := op') (ρ := ρ) (S := S) with ⟨b, S', h⟩ | h | ⟨x, S', h⟩
  · exact wp_bl (.inl ⟨b, S', h⟩) w
  · exact wp_bl (.inr h) w
  · dsimp only at w
    rw [h] at w ⊢
    exact w
/-! and, or, not, tests -/
theorem i_and (hK : X.K = g.K) {rest : List Expr} (ha : PE X a (tE g W (ev F ia))) (hb : PE X (.BoolOp .And (b :: rest) pos) (tE g W (ev F ib))) : PE X (.BoolOp .And (a :: b :: rest) pos) (tE g W (ev F (.and ia ib))) := by
  refine PE.imp (pe_andT ha hb) fun σ H Q ⟨m, ρ, S, rs, er, w⟩ => ?_
  rw [ev] at w
  refine TI.step rs er w fun x H1 m1 S1 d x1 rs1 er1 r1 w => ?_
  rw [hK]
  have w2 := WP.bind (Ra := RelB) w
  obtain ⟨k, tk, m2, S2, k', x2, rs2, rb, w3⟩ := tru_rel rs1 r1 w2
  cases rb
  refine ⟨k, tk, ?_⟩
  cases k with
  | true =>
    rw [if_pos rfl] at w3 ⊢
    exact TI.last rs2 (er1.mono x2) w3
  | false =>
    rw [if_neg Bool.false_ne_true] at w3 ⊢
    exact w3.now rs2 (Rel.mono x2 _ _ r1)
theorem i_or (hK : X.K = g.K) {rest : List Expr} (ha : PE X a (tE g W (ev F ia))) (hb : PE X (.BoolOp .Or (b :: rest) pos) (tE g W (ev F ib))) : PE X (.BoolOp .Or (a :: b :: rest) pos) (tE g W (ev F (.or ia ib))) := by
  refine PE.imp (pe_orT ha hb) fun σ H Q ⟨m, ρ, S, rs, er, w⟩ => ?_
  rw [ev] at w
  refine TI.step rs er w fun x H1 m1 S1 d x1 rs1 er1 r1 w => ?_
  rw [hK]
  have w2 := WP.bind (Ra := RelB) w
  obtain ⟨k, tk, m2, S2, k', x2, rs2, rb, w3⟩ := tru_rel rs1 r1 w2
  cases rb
  refine ⟨k, tk, ?_⟩
  cases k with
  | true =>
    rw [if_pos rfl] at w3 ⊢
    exact w3.now rs2 (Rel.mono x2 _ _ r1)
  | false =>
    rw [if_neg Bool.false_ne_true] at w3 ⊢
    exact TI.last rs2 (er1.mono x2) w3
theorem i_not (hK : X.K = g.K) (ha : PE X a (tE g W (ev F ia))) : PE X (.UnaryOp .Not a pos) (tE g W (ev F (.not ia))) := by
  refine PE.imp (pe_notT ha) fun σ H Q ⟨m, ρ, S, rs, er, w⟩ => ?_
  rw [ev] at w
  refine TI.step rs er w fun x H1 m1 S1 d x1 rs1 er1 r1 w => ?_
  rw [hK]
  have w2 := WP.bind (Ra := RelB) w
  obtain ⟨k, tk, m2, S2, k', x2, rs2, rb, w3⟩ := tru_rel rs1 r1 w2
  cases rb
  exact ⟨k, tk, w3.now rs2 (by rw [rel_bl])⟩
theorem i_neg (ha : PE X a (tE g W (ev F ia))) : PE X (.UnaryOp .USub a pos) (tE g W (ev F (.neg ia))) := by
  refine PE.imp (pe_un un_neg ha) fun σ H Q ⟨m, ρ, S, rs, er, w⟩ => ?_
  rw [ev] at w
  refine TI.step rs er w fun x H1 m1 S1 d x1 rs1 er1 r1 w => ?_
  split at w
  · rw [rel_int] at r1
    exact ⟨_, r1, w.now rs1 (by rw [rel_int])⟩
  · exact w.err
noncomputable abbrev evT (F : CE) (e : E) : Env → Sto → R Bool := fun ρ S => (ev F e ρ S).bind fun z S => tru z S
theorem t_val (hK : X.K = g.K) (pl : plainT a = true) (ha : PE X a (tE g W (ev F ia))) : PT X a (tT g W (evT F ia)) := by
  refine PT.imp (pt_truth ha fun wh => isTrue_ok pl wh) fun σ H Q ⟨m, ρ, S, rs, er, w⟩ => ?_
  refine TI.step rs er w fun x H1 m1 S1 d x1 rs1 er1 r1 w => ?_
  rw [hK]
  exact tru_rel rs1 r1 w
theorem t_not (ha : PT X a (tT g W (evT F ia))) : PT X (.UnaryOp .Not a pos) (tT g W (evT F (.not ia))) := by
  refine PT.imp (pt_not ha) fun σ H Q ⟨m, ρ, S, rs, er, w⟩ => ?_
  unfold evT at w
  rw [ev, R.bind_bind] at w
  have e : ((ev F ia ρ S).bind fun x S => ((tru x S).bind fun b S => R.ok (D.bl (!b)) S).bind fun z S => tru z S) = ((ev F ia ρ S).bind fun x S => tru x S).bind fun b S => R.ok (!b) S := by
    rw [R.bind_bind]
    congr 1
    funext x S
    rw [R.bind_bind]
    rfl
  rw [e] at w
  refine TI.step (Ra := RelB) (f := evT F ia) rs er w fun k H1 m1 S1 d x1 rs1 er1 r1 w => ?_
  cases r1
  exact w.now rs1 rfl
theorem w_and (ha : PT X a (tT g W (evT F ia))) {rest : List Expr} (hb : PW X (.BoolOp .And (b :: rest) pos) (tT g W (evT F ib))) : PW X (.BoolOp .And (a :: b :: rest) pos) (tT g W (evT F (.and ia ib))) := by
  refine PW.imp (pw_and ha hb) fun σ H Q ⟨m, ρ, S, rs, er, w⟩ => ?_
  have e : evT F (.and ia ib) ρ S = (evT F ia ρ S).bind fun k S => if k = true then evT F ib ρ S else .ok false S := by
    unfold evT
    rw [ev, R.bind_bind, R.bind_bind]
    congr 1
    funext x S
    rw [R.bind_bind]
    unfold tru
    cases h : truR S x with
    | none => rfl
    | some k =>
      simp only [R.bind_ok]
      cases k with
      | true => rfl
      | false =>
        rw [if_neg Bool.false_ne_true, if_neg Bool.false_ne_true, R.bind_ok, h]
  rw [e] at w
  refine TI.step (Ra := RelB) (f := evT F ia) rs er w fun k H1 m1 S1 d x1 rs1 er1 r1 w => ?_
  cases r1
  cases k with
  | true =>
    rw [if_pos rfl] at w ⊢
    exact TI.last rs1 er1 w
  | false =>
    rw [if_neg Bool.false_ne_true] at w ⊢
    exact w.now rs1 rfl
theorem w_or (ha : PT X a (tT g W (evT F ia))) {rest : List Expr} (hb : PW X (.BoolOp .Or (b :: rest) pos) (tT g W (evT F ib))) : PW X (.BoolOp .Or (a :: b :: rest) pos) (tT g W (evT F (.or ia ib))) := by
  refine PW.imp (pw_or ha hb) fun σ H Q ⟨m, ρ, S, rs, er, w⟩ => ?_
  have e : evT F (.or ia ib) ρ S = (evT F ia ρ S).bind fun k S => if k = true then .ok true S else evT F ib ρ S := by
    unfold evT
    rw [ev, R.bind_bind, R.bind_bind]
    congr 1
    funext x S
    rw [R.bind_bind]
    unfold tru
    cases h : truR S x with
    | none => rfl
    | some k =>
      simp only [R.bind_ok]
      cases k with
      | true => rw [if_pos rfl, if_pos rfl, R.bind_ok, h]
      | false => rfl
  rw [e] at w
  refine TI.step (Ra := RelB) (f := evT F ia) rs er w fun k H1 m1 S1 d x1 rs1 er1 r1 w => ?_
  cases r1
  cases k with
  | true =>
    rw [if_pos rfl] at w ⊢
    exact w.now rs1 rfl
  | false =>
    rw [if_neg Bool.false_ne_true] at w ⊢
    exact TI.last rs1 er1 w
theorem i_ife (hc : PT X c (tT g W (evT F ic))) (ha : PE X a (tE g W (ev F ia))) (hb : PE X b (tE g W (ev F ib))) : PE X (.IfExp c a b pos) (tE g W (ev F (.ife ic ia ib))) := by
  refine PE.imp (pe_ifExp hc ha hb) fun σ H Q ⟨m, ρ, S, rs, er, w⟩ => ?_
  rw [ev, ← R.bind_bind] at w
  refine TI.step (Ra := RelB) (f := evT F ic) rs er w fun k H1 m1 S1 d x1 rs1 er1 r1 w => ?_
  cases r1
  cases k with
  | true =>
    rw [if_pos rfl] at w ⊢
    exact TI.last rs1 er1 w
  | false =>
    rw [if_neg Bool.false_ne_true] at w ⊢
    exact TI.last rs1 er1 w
theorem t_ife (hc : PT X c (tT g W (evT F ic))) (ha : PT X a (tT g W (evT F ia))) (hb : PT X b (tT g W (evT F ib))) : PT X (.IfExp c a b pos) (tT g W (evT F (.ife ic ia ib))) := by
  have base : PT X (.IfExp c a b pos) (fun σ H Q => (tT g W (evT F ic)) σ H fun k H1 => if k = true then (tT g W (evT F ia)) σ H1 Q else (tT g W (evT F ib)) σ H1 Q) := by
    refine ⟨fun pins s σ H Q I h => ?_⟩
    show wpAny _ _ (do if ← isTrue c X.env (eval c X.env) then isTrue a X.env (eval a X.env) else isTrue b X.env (eval b X.env)) _ _ _
    refine wpAny_bind (thn (hc.run pins s σ H _ I h) fun k s1 ⟨H1, I1, q⟩ => ?_)
    cases k with
    | true => exact ha.run pins s1 σ H1 Q I1 q
    | false => exact hb.run pins s1 σ H1 Q I1 q
  refine PT.imp base fun σ H Q ⟨m, ρ, S, rs, er, w⟩ => ?_
  unfold evT at w
  rw [ev, R.bind_bind] at w
  have e : ((ev F ic ρ S).bind fun x S => ((tru x S).bind fun k S => if k = true then ev F ia ρ S else ev F ib ρ S).bind fun z S => tru z S) = (evT F ic ρ S).bind fun k S => if k = true then evT F ia ρ S else evT F ib ρ S := by
    unfold evT
    rw [R.bind_bind]
    congr 1
    funext x S
    rw [R.bind_bind]
    congr 1
    funext k S
    cases k <;> rfl
  rw [e] at w
  refine TI.step (Ra := RelB) (f := evT F ic) rs er w fun k H1 m1 S1 d x1 rs1 er1 r1 w => ?_
  cases r1
  cases k with
  | true =>
    rw [if_pos rfl] at w ⊢
    exact TI.last rs1 er1 w
  | false =>
    rw [if_neg Bool.false_ne_true] at w ⊢
    exact TI.last rs1 er1 w
/-! argument lists, displays, items, slices -/
theorem a_nil : PA X [] (tEs g W (evs F [])) := by
  refine PA.imp pa_nil fun σ H Q ⟨m, ρ, S, rs, er, w⟩ => ?_
  rw [evs] at w
  exact w.now rs Rels.nil
theorem a_cons {es : List Expr} {ies : List E} (ok : okE a = true) (ha : PE X a (tE g W (ev F ia))) (hr : PA X es (tEs g W (evs F ies))) : PA X (a :: es) (tEs g W (evs F (ia :: ies))) := by
  refine PA.imp (pa_cons ha hr (starEach_ok ok)) fun σ H Q ⟨m, ρ, S, rs, er, w⟩ => ?_
  rw [evs] at w
  refine TI.step rs er w fun x H1 m1 S1 d x1 rs1 er1 r1 w => ?_
  refine TI.step (Ra := Rels g) rs1 er1 w fun ys H2 m2 S2 ds x2 rs2 er2 r2 w => ?_
  exact w.now rs2 (Rels.cons (Rel.mono x2 _ _ r1) r2)
theorem i_tup {es : List Expr} {ies : List E} {k : Nat} (h : PA X es (tEs g W (evs F ies))) : PE X (.Tuple es k pos) (tE g W (ev F (.tup ies))) := by
  refine PE.imp (pe_tup h) fun σ H Q ⟨m, ρ, S, rs, er, w⟩ => ?_
  rw [ev] at w
  refine TI.step (Ra := Rels g) rs er w fun xs H1 m1 S1 ds x1 rs1 er1 r1 w => ?_
  obtain ⟨c, w⟩ := w.ck
  exact ⟨by rw [← r1.length]; exact c, fun p hp => mkT_ok rs1 r1 w hp⟩
theorem i_lst {es : List Expr} {ies : List E} {box : Bool} (h : PA X es (tEs g W (evs F ies))) : PE X (.List es pos) (tE g W (ev F (.lst box ies))) := by
  refine PE.imp (pe_lst h) fun σ H Q ⟨m, ρ, S, rs, er, w⟩ => ?_
  rw [ev] at w
  refine TI.step (Ra := Rels g) rs er w fun xs H1 m1 S1 ds x1 rs1 er1 r1 w => ?_
  obtain ⟨c, w⟩ := w.ck
  exact ⟨by rw [← r1.length]; exact c, fun p hp => mkL_ok rs1 r1 w hp⟩
theorem i_idx (hK : X.K = g.K) (ok : okE b = true) (ha : PE X a (tE g W (ev F ia))) (hb : PE X b (tE g W (ev F ib))) : PE X (.Subscript a b pos) (tE g W (ev F (.idx ia ib))) := by
  refine PE.imp (pe_ix (ix_I hK) ha hb (plainIx_ok ok)) fun σ H Q ⟨m, ρ, S, rs, er, w⟩ => ?_
  rw [ev] at w
  refine TI.step rs er w fun x H1 m1 S1 d x1 rs1 er1 r1 w => ?_
  refine TI.step rs1 er1 w fun y H2 m2 S2 e x2 rs2 er2 r2 w => ?_
  exact ⟨m2, S2, d, e, _, rs2, Rel.mono x2 _ _ r1, r2, w⟩
/-- a part of a slice: what is told, as an int -/
def RelI : Mp → Nat → Hp → Option Int → Option Int → Prop := fun _ _ _ a b => a = b
abbrev partT (g : Gs) (W : L2.WX) (F : CE) (o : Option E) : TO := TI g W RelI (evp F o)
theorem p_none : PO X none (partT g W F none) := by
  have h : PO X none tNoPart := po_none
  refine ⟨fun pins s σ H Q I ⟨m, ρ, S, rs, er, w⟩ => h.run pins s σ H Q I ?_⟩
  rw [evp.eq_def] at w
  exact WP.now (b := none) w rs rfl
theorem p_some (ha : PE X a (tE g W (ev F ia))) : PO X (some a) (partT g W F (some ia)) := by
  refine ⟨fun pins s σ H Q I ⟨m, ρ, S, rs, er, w⟩ => (po_some ha).run pins s σ H Q I ?_⟩
  rw [evp.eq_def] at w
  refine TI.step rs er w fun x H1 m1 S1 d x1 rs1 er1 r1 w => ?_
  split at w
  · rename_i j
    rw [rel_int] at r1
    exact ⟨j, r1, WP.now (b := some j) w rs1 rfl⟩
  · exact w.err
theorem i_slc (hK : X.K = g.K) {box : Bool} {lo hi : Option Expr} {il ih : Option E} {p2 : Pos} (ha : PE X a (tE g W (ev F ia))) (hl : PO X lo (partT g W F il)) (hh : PO X hi (partT g W F ih)) :
    PE X (.Subscript a (.Slice lo hi none p2) pos) (tE g W (ev F (.slc box ia il ih))) := by
  refine PE.imp (pe_slice (sl_I (box := box) hK) ha hl hh) fun σ H Q ⟨m, ρ, S, rs, er, w⟩ => ?_
  rw [ev] at w
  refine TI.step rs er w fun x H1 m1 S1 d x1 rs1 er1 r1 w => ?_
  refine TI.step (Ra := RelI) rs1 er1 w fun l H2 m2 S2 l' x2 rs2 er2 r2 w => ?_
  refine TI.step (Ra := RelI) rs2 er2 w fun u H3 m3 S3 u' x3 rs3 er3 r3 w => ?_
  cases r2
  cases r3
  exact ⟨m3, S3, d, _, rs3, Rel.mono (x2.trans x3) _ _ r1, w⟩
end
end Iv

/-! ### built-in functions, methods, calls -/
namespace Iv
open PySem PySem.Spec PyProof.Rows L2

/-- what a built-in function tells -/
def rb (g : Gs) (b : Bi) : List V → Hp → VK → Prop := fun xs H Q => ∃ m S ds W, RS g m S H ∧ Rels g m S.length H ds xs ∧ WP g W (Rel g) m S.length H (biR b ds S) Q
def biVal : Bi → Value
  | .len => .builtin "len"
  | .abs => .builtin "abs"
  | .min2 => .builtin "min"
  | .max2 => .builtin "max"
  | .minL => .builtin "min"
  | .maxL => .builtin "max"
  | .sumL => .builtin "sum"
  | .sumS => .builtin "sum"
  | .all => .builtin "all"
  | .any => .builtin "any"
  | .int1 => .type "int"
  | .list1 _ => .type "list"
  | .tuple1 => .type "tuple"
  | .sorted1 _ => .builtin "sorted"
  | .isi => .builtin "isinstance"
  | .isc _ => .builtin "isinstance"
  | .maxD => .builtin "max"
  | .sumLL => .builtin "sum"
  | .str1 => .type "str"
  | .sortedR _ => .builtin "sorted"
section
variable {g : Gs} {W : Value → Option Addr → Hp → Prop} {m : Mp} {n : Nat} {H : Hp} {S : Sto} {Q : VK} {d e : D} {v x y : V} {xs ys : List D} {vs : List V} {X : Cx}
theorem ints_rel : ∀ {xs : List D} {vs : List V} {ns : List Int}, Rels g m n H xs vs → intsD xs = some ns → vs = ns.map V.int
  | [], _, _, r, e => by unfold Rels at r; subst r; cases e; rfl
  | x :: xs, _, ns, r, e => by
    unfold Rels at r
    obtain ⟨w, ws, rfl, r1, r2⟩ := r
    cases x with
    | int i =>
      obtain ⟨ns', h1, rfl⟩ := Option.map_eq_some_iff.mp (show (intsD xs).map (i :: ·) = some ns from e)
      rw [rel_int] at r1
      rw [r1, ints_rel r2 h1]
      rfl
    | _ => cases e
theorem bls_rel : ∀ {xs : List D} {vs : List V} {ns : List Bool}, Rels g m n H xs vs → blsD xs = some ns → vs = ns.map V.bl
  | [], _, _, r, e => by unfold Rels at r; subst r; cases e; rfl
  | x :: xs, _, ns, r, e => by
    unfold Rels at r
    obtain ⟨w, ws, rfl, r1, r2⟩ := r
    cases x with
    | bl i =>
      obtain ⟨ns', h1, rfl⟩ := Option.map_eq_some_iff.mp (show (blsD xs).map (i :: ·) = some ns from e)
      rw [rel_bl] at r1
      rw [r1, bls_rel r2 h1]
      rfl
    | _ => cases e
theorem strs_rel : ∀ {xs : List D} {vs : List V} {ns : List Str}, Rels g m n H xs vs → strsD xs = some ns → vs = ns.map V.str ∧ ∀ z ∈ ns, okS z
  | [], _, _, r, e => by unfold Rels at r; subst r; cases e; exact ⟨rfl, fun _ h => by cases h⟩
  | x :: xs, _, ns, r, e => by
    unfold Rels at r
    obtain ⟨w, ws, rfl, r1, r2⟩ := r
    cases x with
    | str i =>
      obtain ⟨ns', h1, rfl⟩ := Option.map_eq_some_iff.mp (show (strsD xs).map (i :: ·) = some ns from e)
      rw [rel_str] at r1
      obtain ⟨h2, h3⟩ := strs_rel r2 h1
      refine ⟨by rw [r1.1, h2]; rfl, fun z hz => ?_⟩
      rcases List.mem_cons.mp hz with rfl | hz
      · exact r1.2
      · exact h3 z hz
    | _ => cases e
theorem lst_sq (rs : RS g m S H) (h : Rel g m S.length H d v) (e : lstOf S d = some xs) : ∃ a vs, v = .ref a ∧ Rels g m S.length H xs vs ∧ SqL g.K H a vs := by
  have e' : seqOf S d = some xs ∧ ∀ zs, d ≠ .tup zs := by
    cases d with
    | tup zs => cases e
    | _ => exact ⟨e, fun _ z => by cases z⟩
  obtain ⟨a, vs, rfl, r, q⟩ := seqOf_rel rs h e'.1
  rcases q with ⟨q, _⟩ | ⟨_, q⟩
  · exact ⟨a, vs, rfl, r, q⟩
  · exact absurd q (e'.2 _)
theorem ints_sq (rs : RS g m S H) (h : Rel g m S.length H d v) {ns : List Int} (e : intsOf S d = some ns) : ∃ a, v = .ref a ∧ SqL g.K H a (ns.map V.int) := by
  obtain ⟨xs, h1, h2⟩ := Option.bind_eq_some_iff.mp e
  obtain ⟨a, vs, rfl, r, q⟩ := lst_sq rs h h1
  rw [ints_rel r h2] at q
  exact ⟨a, rfl, q⟩
theorem bls_sq (rs : RS g m S H) (h : Rel g m S.length H d v) {ns : List Bool} (e : (lstOf S d).bind blsD = some ns) : ∃ a, v = .ref a ∧ SqL g.K H a (ns.map V.bl) := by
  obtain ⟨xs, h1, h2⟩ := Option.bind_eq_some_iff.mp e
  obtain ⟨a, vs, rfl, r, q⟩ := lst_sq rs h h1
  rw [bls_rel r h2] at q
  exact ⟨a, rfl, q⟩
theorem min_spec : ∀ {ns : List Int} {i : Int}, minI ns = some i → i ∈ ns ∧ ∀ y ∈ ns, i ≤ y := by
  have go : ∀ (r : List Int) (a : Int), (r.foldl (fun m x => if x < m then x else m) a = a ∨ r.foldl (fun m x => if x < m then x else m) a ∈ r) ∧ r.foldl (fun m x => if x < m then x else m) a ≤ a ∧ ∀ y ∈ r, r.foldl (fun m x => if x < m then x else m) a ≤ y := by
    intro r
    induction r with
    | nil => intro a; exact ⟨.inl rfl, Int.le_refl _, fun _ h => by cases h⟩
    | cons b r ih =>
      intro a
      rw [List.foldl_cons]
      obtain ⟨h1, h2, h3⟩ := ih (if b < a then b else a)
      refine ⟨?_, ?_, fun y hy => ?_⟩
      · rcases h1 with h1 | h1
        · rw [h1]
          split
          · exact .inr (List.mem_cons_self ..)
          · exact .inl rfl
        · exact .inr (List.mem_cons_of_mem _ h1)
      · refine Int.le_trans h2 ?_
        split <;> omega
      · rcases List.mem_cons.mp hy with rfl | hy
        · refine Int.le_trans h2 ?_
          split <;> omega
        · exact h3 y hy
  intro ns i h
  cases ns with
  | nil => cases h
  | cons a r =>
    cases h
    obtain ⟨h1, h2, h3⟩ := go r a
    refine ⟨?_, fun y hy => ?_⟩
    · rcases h1 with h1 | h1
      · rw [h1]; exact List.mem_cons_self ..
      · exact List.mem_cons_of_mem _ h1
    · rcases List.mem_cons.mp hy with rfl | hy
      · exact h2
      · exact h3 y hy
theorem max_spec : ∀ {ns : List Int} {i : Int}, maxI ns = some i → i ∈ ns ∧ ∀ y ∈ ns, y ≤ i := by
  have go : ∀ (r : List Int) (a : Int), (r.foldl (fun m x => if m < x then x else m) a = a ∨ r.foldl (fun m x => if m < x then x else m) a ∈ r) ∧ a ≤ r.foldl (fun m x => if m < x then x else m) a ∧ ∀ y ∈ r, y ≤ r.foldl (fun m x => if m < x then x else m) a := by
    intro r
    induction r with
    | nil => intro a; exact ⟨.inl rfl, Int.le_refl _, fun _ h => by cases h⟩
    | cons b r ih =>
      intro a
      rw [List.foldl_cons]
      obtain ⟨h1, h2, h3⟩ := ih (if a < b then b else a)
      refine ⟨?_, ?_, fun y hy => ?_⟩
      · rcases h1 with h1 | h1
        · rw [h1]
          split
          · exact .inr (List.mem_cons_self ..)
          · exact .inl rfl
        · exact .inr (List.mem_cons_of_mem _ h1)
      · refine Int.le_trans ?_ h2
        split <;> omega
      · rcases List.mem_cons.mp hy with rfl | hy
        · refine Int.le_trans ?_ h2
          split <;> omega
        · exact h3 y hy
  intro ns i h
  cases ns with
  | nil => cases h
  | cons a r =>
    cases h
    obtain ⟨h1, h2, h3⟩ := go r a
    refine ⟨?_, fun y hy => ?_⟩
    · rcases h1 with h1 | h1
      · rw [h1]; exact List.mem_cons_self ..
      · exact List.mem_cons_of_mem _ h1
    · rcases List.mem_cons.mp hy with rfl | hy
      · exact h2
      · exact h3 y hy
theorem ty_rel (rs : RS g m S H) (h : Rel g m S.length H d v) {a : String} (e : tyOf S d = some a) : TyX g.K H v (.type a) := by
  cases d with
  | non => cases e; rw [rel_non] at h; subst h; exact .base .non
  | bl _ => cases e; rw [rel_bl] at h; subst h; exact .base (.bl _)
  | int _ => cases e; rw [rel_int] at h; subst h; exact .base (.int _)
  | str _ => cases e; rw [rel_str] at h; obtain ⟨rfl, _⟩ := h; exact .base (.str _)
  | tup _ =>
    cases e
    rw [rel_tup] at h
    obtain ⟨a, vs, rfl, t | t, _⟩ := h
    · exact .base (.tup t.1)
    · rcases t (fun _ => none) with (z | ⟨_, z⟩) | ⟨o, _, _, k, c, _⟩
      · cases z
      · cases z
      · exact .kTuple k c
  | lst _ => cases e; rw [rel_lst] at h; obtain ⟨a, vs, rfl, ⟨t, _⟩, _⟩ := h; exact .base (.lst t)
  | scr _ =>
    cases e
    rw [rel_scr] at h
    obtain ⟨a, vs, rfl, t | t, _⟩ := h
    · obtain ⟨o, t, _⟩ := t
      exact .base (.frz t)
    · rcases t (fun _ => none) with (z | ⟨_, z⟩) | ⟨o, _, _, k, c, _⟩
      · cases z
      · cases z
      · exact .kList k c
  | ref i =>
    have e' : (match cellAt S i with | some (.lst _) => some "list" | _ => none) = some a := e
    split at e'
    · rename_i hz
      cases e'
      obtain ⟨a, rfl, _, vs, k, r⟩ := h.box rs hz
      exact .base (.lst k)
    · cases e'
  | ins _ _ => cases e
  | ty _ => cases e
theorem len_rel (rs : RS g m S H) (h : Rel g m S.length H d v) {k : Nat} (e : lenR S d = some k) : LenV g.K v H k := by
  have seq : (seqOf S d).map (·.length) = some k → LenV g.K v H k := fun e => by
    obtain ⟨xs, hx, rfl⟩ := Option.map_eq_some_iff.mp e
    obtain ⟨a, vs, rfl, r, q⟩ := seqOf_sq rs h hx
    rcases q with q | q
    · exact .inl ⟨vs, q, r.length⟩
    · exact .inr ⟨vs, q, r.length⟩
  cases d with
  | str z => cases e; rw [rel_str] at h; obtain ⟨rfl, o⟩ := h; exact ⟨o.1, rfl⟩
  | non => exact seq e
  | bl _ => exact seq e
  | int _ => exact seq e
  | tup _ => exact seq e
  | lst _ => exact seq e
  | scr _ => exact seq e
  | ref _ => exact seq e
  | ins _ _ => exact seq e
  | ty _ => exact seq e
theorem Rels.pairs : ∀ {ps : List (D × V)}, (∀ p ∈ ps, Rel g m n H p.1 p.2) → Rels g m n H (ps.map Prod.fst) (ps.map Prod.snd)
  | [], _ => Rels.nil
  | p :: ps, h => Rels.cons (h p (List.mem_cons_self ..)) (Rels.pairs fun q hq => h q (List.mem_cons_of_mem _ hq))
theorem Rels.zip : ∀ {xs : List D} {vs : List V}, Rels g m n H xs vs → ∀ p ∈ xs.zip vs, Rel g m n H p.1 p.2
  | [], _, _, p, hp => by cases hp
  | x :: xs, _, r, p, hp => by
    unfold Rels at r
    obtain ⟨w, ws, rfl, r1, r2⟩ := r
    rcases List.mem_cons.mp hp with rfl | hp
    · exact r1
    · exact Rels.zip r2 p hp
theorem map_fst_zip {α β : Type} : ∀ {xs : List α} {ys : List β}, xs.length = ys.length → (xs.zip ys).map Prod.fst = xs ∧ (xs.zip ys).map Prod.snd = ys
  | [], [], _ => ⟨rfl, rfl⟩
  | x :: xs, y :: ys, l => by
    obtain ⟨h1, h2⟩ := map_fst_zip (xs := xs) (ys := ys) (Nat.succ.inj l)
    exact ⟨by rw [List.zip_cons_cons, List.map_cons, h1], by rw [List.zip_cons_cons, List.map_cons, h2]⟩
  | [], _ :: _, l => by cases l
  | _ :: _, [], l => by cases l
theorem vals_each : ∀ {xs : List D} {vs : List V} {us : List Value}, xs.length = vs.length → Vals vs us → PySem.W.EachIs (fun (u : Value) (b : D × V) => RelV b.2 u) us (xs.zip vs)
  | [], [], _, _, r => by cases r; exact .nil
  | x :: xs, v :: vs, _, l, r => by
    cases r with
    | cons h t => exact .cons h (vals_each (Nat.succ.inj l) t)
  | [], _ :: _, _, l, _ => by cases l
  | _ :: _, [], _, l, _ => by cases l
theorem each_vals : ∀ {ps : List (D × V)} {us : List Value}, PySem.W.EachIs (fun (u : Value) (b : D × V) => RelV b.2 u) us ps → Vals (ps.map Prod.snd) us
  | [], _, .nil => .nil
  | p :: ps, _, .cons h t => .cons h (each_vals t)
theorem each_imp {α β : Type} {R R' : α → β → Prop} : ∀ {as : List α} {bs : List β}, PySem.W.EachIs R as bs → (∀ a b, b ∈ bs → R a b → R' a b) → PySem.W.EachIs R' as bs
  | _, _, .nil, _ => .nil
  | _, _, .cons h t, k => .cons (k _ _ (List.mem_cons_self ..) h) (each_imp t fun a b hb => k a b (List.mem_cons_of_mem _ hb))
theorem pys_map : ∀ xs : List D, D.pys xs = xs.map D.py
  | [] => rfl
  | x :: xs => by rw [D.pys, List.map_cons, pys_map xs]
theorem dps_mem : ∀ {xs : List D} {x : D}, x ∈ xs → x.dp ≤ D.dps xs
  | y :: ys, x, h => by
    rw [D.dps]
    rcases List.mem_cons.mp h with rfl | h
    · exact Nat.le_max_left _ _
    · exact Nat.le_trans (dps_mem h) (Nat.le_max_right _ _)
theorem fzs_mem : ∀ {xs : List D} {x : D}, D.fzs xs = true → x ∈ xs → x.fz = true
  | y :: ys, x, k, h => by
    simp only [D.fzs, Bool.and_eq_true] at k
    rcases List.mem_cons.mp h with rfl | h
    · exact k.1
    · exact fzs_mem k.2 h
/-- sorted of a list of data -/
def rSrtD (K : PySem.W.Frag) : List V → Hp → VK → Prop := fun zs H Q => ∃ (a : Addr) (vs : List V) (xs : List D), zs = [.ref a] ∧ SqL K H a vs ∧ xs.length = vs.length ∧ (∀ p ∈ xs.zip vs, Dp K H p.2 p.1.py) ∧ sortable (D.pys xs) ∧
  (∀ x ∈ xs, x.py.depth ≤ 60) ∧ ∀ p, H p = none → Q (.ref p) (upd H p (.lst (((xs.zip vs).mergeSort fun a b => leD a.1 b.1).map Prod.snd)))
theorem cr_srtD {k : Nat} (hr : Room k X.A) : CallR X (.builtin "sorted") (rSrtD X.K) := by
  intro pins s σ H zs us Q I r h
  obtain ⟨a, vs, xs, rfl, hs, hl, hd, so, dp, q⟩ := h
  obtain ⟨its, rv, hpl, hz⟩ := I.list hs
  rw [Vals.ref1 r]
  have e := vals_each hl rv
  have hmap : (xs.zip vs).map (fun b => b.1.py) = D.pys xs := by
    rw [pys_map]
    have := (map_fst_zip (xs := xs) (ys := vs) hl).1
    have h2 : (xs.zip vs).map (fun b => b.1.py) = ((xs.zip vs).map Prod.fst).map D.py := by rw [List.map_map]; rfl
    rw [h2, this]
  have un : X.A.units + 2 + 60 < cLine := by have := hr.un; omega
  refine PySem.W.sorted_data (bs := xs.zip vs) (enc := fun b => b.1.py) (R := fun u b => RelV b.2 u) hpl.isList e (each_imp e fun u b hb rb => ?_) (by rw [hmap]; exact so.1) (by rw [hmap]; exact so.2) (by rw [← e.length, ← rv.length]; exact hz) (fun b hb => ?_) fun out ho eo => ?_
  · exact Dp.reads I _ b.2 u (hd b hb) rb
  · have := dp b.1 (List.of_mem_zip hb).1
    omega
  · obtain ⟨ep, he'⟩ := PyProof.Rows.sortedAll_at s.heap its out.toArray
    have rv2 := each_vals eo
    have hlen : (((xs.zip vs).mergeSort fun a b => leD a.1 b.1).map Prod.snd).length ≤ sizeLine := by
      rw [List.length_map, List.length_mergeSort, List.length_zip, hl, Nat.min_self]
      exact hz
    exact ⟨.ref _, upd H (s.heap.objs.size + 1) (.lst (((xs.zip vs).mergeSort fun a b => leD a.1 b.1).map Prod.snd)), I.laid (t' := s.toks) (fun _ _ => PyProof.Rows.sortedAll_old) (Nat.le_succ _) ⟨hlen, out, ep, rv2, he'⟩, rfl, q _ (I.hok.fresh (Nat.le_succ _))⟩
theorem sort_fst : ∀ (ps : List (D × V)), (ps.mergeSort fun a b => leD a.1 b.1).map Prod.fst = sortD (ps.map Prod.fst) := fun ps => by
  unfold sortD
  exact List.map_mergeSort fun a _ b _ => rfl
def biOk : Bi → Bool
  | .sumS => false
  | .maxD => false
  | .sumLL => false
  | .str1 => false
  | .sortedR _ => false
  | .isc _ => false
  | _ => true
theorem cr_bi (hK : X.K = g.K) {k : Nat} (hr : Room k X.A) (hc : X.calm = true) (b : Bi) (ok : biOk b = true) : CallR X (biVal b) (rb g b) := by
  cases b with
  | len =>
    refine CallR.imp call_len fun zs H Q ⟨m, S, ds, W, rs, r, w⟩ => ?_
    replace w : WP g W (Rel g) m S.length H (biLen S ds) Q := w
    unfold biLen at w
    split at w
    · split at w
      · rename_i k hk
        obtain ⟨v, rfl, r1⟩ := r.one
        exact ⟨v, k, rfl, by rw [hK]; exact len_rel rs r1 hk, w.now rs (by rw [rel_int])⟩
      · exact w.err
    · exact w.err
  | abs =>
    refine CallR.imp call_abs fun zs H Q ⟨m, S, ds, W, rs, r, w⟩ => ?_
    replace w : WP g W (Rel g) m S.length H (biAbs S ds) Q := w
    unfold biAbs at w
    split at w
    · obtain ⟨v, rfl, r1⟩ := r.one
      rw [rel_int] at r1
      exact ⟨_, by rw [r1], w.now rs (by rw [rel_int])⟩
    · exact w.err
  | min2 =>
    refine CallR.imp (call_min2 hc) fun zs H Q ⟨m, S, ds, W, rs, r, w⟩ => ?_
    replace w : WP g W (Rel g) m S.length H (biMin2 S ds) Q := w
    unfold biMin2 at w
    split at w
    · obtain ⟨v, u, rfl, r1, r2⟩ := r.two
      rw [rel_int] at r1 r2
      exact ⟨_, _, by rw [r1, r2], w.now rs (by rw [rel_int])⟩
    · exact w.err
  | max2 =>
    refine CallR.imp (call_max2 hc) fun zs H Q ⟨m, S, ds, W, rs, r, w⟩ => ?_
    replace w : WP g W (Rel g) m S.length H (biMax2 S ds) Q := w
    unfold biMax2 at w
    split at w
    · obtain ⟨v, u, rfl, r1, r2⟩ := r.two
      rw [rel_int] at r1 r2
      exact ⟨_, _, by rw [r1, r2], w.now rs (by rw [rel_int])⟩
    · exact w.err
  | minL =>
    refine CallR.imp (cr_min hc) fun zs H Q ⟨m, S, ds, W, rs, r, w⟩ => ?_
    replace w : WP g W (Rel g) m S.length H (biMinL S ds) Q := w
    unfold biMinL at w
    split at w
    · split at w
      · rename_i i hi
        obtain ⟨ns, h1, h2⟩ := Option.bind_eq_some_iff.mp hi
        obtain ⟨v, rfl, r1⟩ := r.one
        obtain ⟨a, rfl, q⟩ := ints_sq rs r1 h1
        obtain ⟨m1, m2⟩ := min_spec h2
        refine ⟨a, ns, rfl, by rw [hK]; exact q, List.length_pos_of_mem m1, fun j j1 j2 => w.now rs ?_⟩
        rw [rel_int, Int.le_antisymm (j2 _ m1) (m2 _ j1)]
      · exact w.err
    · exact w.err
  | maxL =>
    refine CallR.imp (cr_max hc) fun zs H Q ⟨m, S, ds, W, rs, r, w⟩ => ?_
    replace w : WP g W (Rel g) m S.length H (biMaxL S ds) Q := w
    unfold biMaxL at w
    split at w
    · split at w
      · rename_i i hi
        obtain ⟨ns, h1, h2⟩ := Option.bind_eq_some_iff.mp hi
        obtain ⟨v, rfl, r1⟩ := r.one
        obtain ⟨a, rfl, q⟩ := ints_sq rs r1 h1
        obtain ⟨m1, m2⟩ := max_spec h2
        refine ⟨a, ns, rfl, by rw [hK]; exact q, List.length_pos_of_mem m1, fun j j1 j2 => w.now rs ?_⟩
        rw [rel_int, Int.le_antisymm (m2 _ j1) (j2 _ m1)]
      · exact w.err
    · exact w.err
  | sumL =>
    refine CallR.imp (cr_sum hc) fun zs H Q ⟨m, S, ds, W, rs, r, w⟩ => ?_
    replace w : WP g W (Rel g) m S.length H (biSumL S ds) Q := w
    unfold biSumL at w
    split at w
    · split at w
      · rename_i ns hi
        obtain ⟨v, rfl, r1⟩ := r.one
        obtain ⟨a, rfl, q⟩ := ints_sq rs r1 hi
        exact ⟨a, ns, rfl, by rw [hK]; exact q, w.now rs (by rw [rel_int])⟩
      · exact w.err
    · exact w.err
  | sumS => cases ok
  | all =>
    refine CallR.imp (cr_all hc) fun zs H Q ⟨m, S, ds, W, rs, r, w⟩ => ?_
    replace w : WP g W (Rel g) m S.length H (biAll S ds) Q := w
    unfold biAll at w
    split at w
    · split at w
      · rename_i ns hi
        obtain ⟨v, rfl, r1⟩ := r.one
        obtain ⟨a, rfl, q⟩ := bls_sq rs r1 hi
        exact ⟨a, ns, rfl, by rw [hK]; exact q, w.now rs (by rw [rel_bl])⟩
      · exact w.err
    · exact w.err
  | any =>
    refine CallR.imp (cr_any hc) fun zs H Q ⟨m, S, ds, W, rs, r, w⟩ => ?_
    replace w : WP g W (Rel g) m S.length H (biAny S ds) Q := w
    unfold biAny at w
    split at w
    · split at w
      · rename_i ns hi
        obtain ⟨v, rfl, r1⟩ := r.one
        obtain ⟨a, rfl, q⟩ := bls_sq rs r1 hi
        exact ⟨a, ns, rfl, by rw [hK]; exact q, w.now rs (by rw [rel_bl])⟩
      · exact w.err
    · exact w.err
  | int1 =>
    refine CallR.imp call_int1 fun zs H Q ⟨m, S, ds, W, rs, r, w⟩ => ?_
    replace w : WP g W (Rel g) m S.length H (biInt S ds) Q := w
    unfold biInt at w
    split at w
    · obtain ⟨v, rfl, r1⟩ := r.one
      rw [rel_int] at r1
      exact .inl ⟨_, by rw [r1], w.now rs (by rw [rel_int])⟩
    · obtain ⟨v, rfl, r1⟩ := r.one
      rw [rel_bl] at r1
      exact .inr ⟨_, by rw [r1], w.now rs (by rw [rel_int])⟩
    · exact w.err
  | list1 box =>
    refine CallR.imp call_list_of fun zs H Q ⟨m, S, ds, W, rs, r, w⟩ => ?_
    replace w : WP g W (Rel g) m S.length H (biList box S ds) Q := w
    unfold biList at w
    split at w
    · split at w
      · rename_i xs hx
        obtain ⟨v, rfl, r1⟩ := r.one
        obtain ⟨a, vs, rfl, r2, q⟩ := seqOf_sq rs r1 hx
        exact ⟨a, vs, rfl, by rw [hK]; exact q, fun p hp => mkL_ok rs r2 w hp⟩
      · exact w.err
    · exact w.err
  | tuple1 =>
    refine CallR.imp call_tuple_of fun zs H Q ⟨m, S, ds, W, rs, r, w⟩ => ?_
    replace w : WP g W (Rel g) m S.length H (biTuple S ds) Q := w
    unfold biTuple at w
    split at w
    · split at w
      · rename_i xs hx
        obtain ⟨v, rfl, r1⟩ := r.one
        obtain ⟨a, vs, rfl, r2, q⟩ := seqOf_rel rs r1 hx
        refine ⟨a, vs, rfl, ?_⟩
        rcases q with ⟨q, _⟩ | ⟨q, rfl⟩
        · exact .inl ⟨by rw [hK]; exact q, fun p hp => mkT_ok rs r2 w hp⟩
        · exact .inr ⟨by rw [hK]; exact q.sq, w.now rs r1⟩
      · exact w.err
    · exact w.err
  | sorted1 box =>
    refine CallR.imp (cr_srtD hr) fun zs H Q ⟨m, S, ds, W, rs, r, w⟩ => ?_
    replace w : WP g W (Rel g) m S.length H (biSorted box S ds) Q := w
    unfold biSorted at w
    split at w
    · split at w
      · rename_i xs hx
        obtain ⟨v, rfl, r1⟩ := r.one
        obtain ⟨a, vs, rfl, r2, q⟩ := lst_sq rs r1 hx
        obtain ⟨⟨c1, c2, c3⟩, w⟩ := w.ck
        have r3 : ∀ p ∈ xs.zip vs, Rel g m S.length H p.1 p.2 := r2.zip
        refine ⟨a, vs, xs, rfl, by rw [hK]; exact q, r2.length, fun p hp => ?_, c3, fun x hx => ?_, fun p hp => ?_⟩
        · rw [hK]
          exact (py_lay p.1 p.2 (fzs_mem c1 (List.of_mem_zip hp).1) (r3 p hp)).2
        · rw [py_depth x (fzs_mem c1 hx)]
          exact Nat.le_trans (dps_mem hx) c2
        · refine mkL_ok (box := box) rs ?_ w hp
          have e : sortD xs = ((xs.zip vs).mergeSort fun a b => leD a.1 b.1).map Prod.fst := by
            rw [sort_fst, (map_fst_zip r2.length).1]
          rw [e]
          exact Rels.pairs fun p hp => r3 p ((List.mergeSort_perm _ _).mem_iff.mp hp)
      · exact w.err
    · exact w.err
  | isi =>
    refine CallR.imp call_isi fun zs H Q ⟨m, S, ds, W, rs, r, w⟩ => ?_
    replace w : WP g W (Rel g) m S.length H (biIsi S ds) Q := w
    unfold biIsi at w
    split at w
    · split at w
      · rename_i b hb
        obtain ⟨v, u, rfl, r1, r2⟩ := r.two
        rw [rel_ty] at r2
        subst r2
        obtain ⟨a, h1, h2⟩ := Option.bind_eq_some_iff.mp hb
        exact ⟨v, _, _, _, b, rfl, .ty _, by rw [hK]; exact ty_rel rs r1 h1, kit_ty h2, w.now rs (by rw [rel_bl])⟩
      · exact w.err
    · exact w.err
  | isc c => cases ok
  | maxD => cases ok
  | sumLL => cases ok
  | str1 => cases ok
  | sortedR _ => cases ok
end
end Iv

/-! ### calls -/
namespace Iv
open PySem PySem.Spec PyProof.Rows L2
def okEs (es : List Expr) : Bool := es.all okE
theorem star_all : ∀ {es : List Expr} {env : PySem.Env} {pos : Pos}, okEs es = true → (backTo pos (starEach es env)).all (fun x => !x.1) = true ∧ (backTo pos (starEach es env)).any (·.1) = false
  | [], _, _, _ => ⟨rfl, rfl⟩
  | e :: es, env, pos, h => by
    unfold okEs at h
    rw [List.all_cons, Bool.and_eq_true] at h
    obtain ⟨h1, h2⟩ := star_all (env := env) (pos := pos) h.2
    rw [starEach_ok h.1]
    exact ⟨by show (!false && (backTo pos (starEach es env)).all (fun x => !x.1)) = true; rw [h1]; rfl, by show (false || (backTo pos (starEach es env)).any (·.1)) = false; rw [h2]; rfl⟩
theorem star_cons {e : Expr} {es : List Expr} {env : PySem.Env} {pos : Pos} (h : okE e = true) : backTo pos (starEach (e :: es) env) = (false, eval e env) :: backTo pos (starEach es env) := by
  rw [starEach_ok h]
  rfl
def kwsNames : List Keyword → Option (List Str)
  | [] => some []
  | k :: ks => match k.arg with
    | some x => (kwsNames ks).map (x :: ·)
    | none => none
theorem kws_all : ∀ {kws : List Keyword} {ks : List Str} {env : PySem.Env} {pos : Pos}, kwsNames kws = some ks → (backToKw pos (keywordEach kws env)).all (·.1.isSome) = true ∧ (backToKw pos (keywordEach kws env)).filterMap (·.1) = ks ∧ (backToKw pos (keywordEach kws env)).any (·.1.isNone) = false
  | [], _, _, _, h => by cases h; exact ⟨rfl, rfl, rfl⟩
  | ⟨a, v, p⟩ :: kws, ks, env, pos, h => by
    cases a with
    | none => cases h
    | some x =>
      obtain ⟨ks', h1, rfl⟩ := Option.map_eq_some_iff.mp (show (kwsNames kws).map (x :: ·) = some ks from h)
      obtain ⟨a1, a2, a3⟩ := kws_all (env := env) (pos := pos) h1
      refine ⟨?_, ?_, ?_⟩
      · show (true && (backToKw pos (keywordEach kws env)).all (·.1.isSome)) = true
        rw [a1]
        rfl
      · show x :: (backToKw pos (keywordEach kws env)).filterMap (·.1) = x :: ks'
        rw [a2]
      · show (false || (backToKw pos (keywordEach kws env)).any (·.1.isNone)) = false
        rw [a3]
        rfl
theorem meth_eval {o : Expr} {name : Str} {apos pos : Pos} {args : List Expr} {kws : List Keyword} {ks : List Str} {env : PySem.Env} (ho : okE o = true) (ha : okEs args = true) (hk : kwsNames kws = some ks) (hn : args.length + kws.length < 28) (hl : (apos.endLine == pos.line) = true) :
    eval (.Call (.Attribute o name apos) args kws pos) env = (do
      let ov ← eval o env
      standAt apos.atName
      let (f, first) ← holding [ov] (getMethod ov name (do return (← importBound o env).getD true))
      callWith pos f first (backTo pos (starEach args env)) (backToKw pos (keywordEach kws env))) := by
  show (do
    let ov ← attributeBase o name env (eval o env)
    standAt apos.atName
    methodCall o name apos pos env ov (args.length + kws.length) (backTo pos (starEach args env)) (backToKw pos (keywordEach kws env))) = _
  rw [attrBase_ok ho]
  have hf : methodCallForm (args.length + kws.length) (backTo pos (starEach args env)) (backToKw pos (keywordEach kws env)) = true := by
    unfold methodCallForm
    rw [(star_all ha).1, (kws_all hk).1, Bool.true_and, Bool.true_and]
    refine decide_eq_true ?_
    split <;> omega
  unfold methodCall
  rw [hf]
  have hp : methodCallPos true o env apos pos = pure pos := by
    unfold methodCallPos
    rw [hl]
    rfl
  simp only [hp, pure_bind]
  rfl

section
variable {g : Gs} {W : L2.WX} {X : Cx} {F : CE} {e o : Expr} {es : List Expr} {ie io : E} {ies iks : List E} {kws : List Keyword} {ks : List Str} {p pos apos : Pos} {x name : Str} {m : Mp} {n : Nat} {H : Hp} {S : Sto} {σ : L2.St}
theorem k_nil : PK X [] (tEs g W (evs F [])) := by
  refine ⟨fun pos pins s σ H Q I ⟨m, ρ, S, rs, er, w⟩ => pk_nil.run pos pins s σ H Q I ?_⟩
  rw [evs] at w
  exact w.now rs Rels.nil
theorem k_cons {nm : Option Str} {kp : Pos} (ha : PE X e (tE g W (ev F ie))) (hr : PK X kws (tEs g W (evs F iks))) : PK X (⟨nm, e, kp⟩ :: kws) (tEs g W (evs F (ie :: iks))) := by
  refine ⟨fun pos pins s σ H Q I ⟨m, ρ, S, rs, er, w⟩ => (pk_cons ha hr).run pos pins s σ H Q I ?_⟩
  rw [evs] at w
  refine TI.step rs er w fun x H1 m1 S1 d x1 rs1 er1 r1 w => ?_
  refine TI.step (Ra := Rels g) rs1 er1 w fun ys H2 m2 S2 ds x2 rs2 er2 r2 w => ?_
  exact w.now rs2 (Rels.cons (Rel.mono x2 _ _ r1) r2)
theorem evs_append {ρ : Env} : ∀ {as bs : List E} {S : Sto}, evs F (as ++ bs) ρ S = (evs F as ρ S).bind fun xs S => (evs F bs ρ S).bind fun ys S => .ok (xs ++ ys) S
  | [], bs, S => by
    rw [List.nil_append, evs]
    simp only [R.bind_ok, List.nil_append]
    cases evs F bs ρ S <;> rfl
  | a :: as, bs, S => by
    rw [List.cons_append, evs, evs]
    cases ev F a ρ S with
    | ok x S1 =>
      simp only [R.bind_ok]
      rw [evs_append (as := as), R.bind_bind, R.bind_bind]
      cases evs F as ρ S1 with
      | ok xs S2 =>
        simp only [R.bind_ok]
        rw [R.bind_bind]
        cases evs F bs ρ S2 <;> rfl
      | _ => rfl
    | _ => rfl
theorem evs_length {ρ : Env} : ∀ {as : List E} {S : Sto} {ds : List D} {S' : Sto}, evs F as ρ S = .ok ds S' → ds.length = as.length
  | [], S, ds, S', h => by rw [evs] at h; cases h; rfl
  | a :: as, S, ds, S', h => by
    rw [evs] at h
    cases h1 : ev F a ρ S with
    | ok x S1 =>
      rw [h1] at h
      simp only [R.bind_ok] at h
      cases h2 : evs F as ρ S1 with
      | ok xs S2 =>
        rw [h2] at h
        simp only [R.bind_ok] at h
        cases h
        rw [List.length_cons, List.length_cons, evs_length h2]
      | exc _ _ => rw [h2] at h; cases h
      | err => rw [h2] at h; cases h
    | exc _ _ => rw [h1] at h; cases h
    | err => rw [h1] at h; cases h
/-! built-in functions -/
def biName : Bi → Str
  | .len => "len"
  | .abs => "abs"
  | .min2 => "min"
  | .max2 => "max"
  | .minL => "min"
  | .maxL => "max"
  | .sumL => "sum"
  | .sumS => "sum"
  | .all => "all"
  | .any => "any"
  | .int1 => "int"
  | .list1 _ => "list"
  | .tuple1 => "tuple"
  | .sorted1 _ => "sorted"
  | .isi => "isinstance"
  | .isc _ => "isinstance"
  | .maxD => "max"
  | .sumLL => "sum"
  | .str1 => "str"
  | .sortedR _ => "sorted"
theorem bi_boot (b : Bi) : bootBuiltins (biName b) = some (biVal b) := by
  cases b with
  | list1 _ => exact (by decide +kernel : bootBuiltins "list" = some (.type "list"))
  | sortedR _ => exact (by decide +kernel : bootBuiltins "sorted" = some (.builtin "sorted"))
  | sorted1 _ => exact (by decide +kernel : bootBuiltins "sorted" = some (.builtin "sorted"))
  | isc _ => exact (by decide +kernel : bootBuiltins "isinstance" = some (.builtin "isinstance"))
  | _ => decide +kernel
theorem bi_names (b : Bi) : biName b ≠ "__name__" ∧ (biName b == ("__debug__" : Str)) = false := by
  cases b with
  | list1 _ => exact (by decide +kernel : ("list" : Str) ≠ "__name__" ∧ (("list" : Str) == ("__debug__" : Str)) = false)
  | sortedR _ => exact (by decide +kernel : ("sorted" : Str) ≠ "__name__" ∧ (("sorted" : Str) == ("__debug__" : Str)) = false)
  | sorted1 _ => exact (by decide +kernel : ("sorted" : Str) ≠ "__name__" ∧ (("sorted" : Str) == ("__debug__" : Str)) = false)
  | isc _ => exact (by decide +kernel : ("isinstance" : Str) ≠ "__name__" ∧ (("isinstance" : Str) == ("__debug__" : Str)) = false)
  | _ => decide +kernel
theorem i_bi (hK : X.K = g.K) {k : Nat} (hr : Room k X.A) (hc : X.calm = true) (b : Bi) (ok : biOk b = true) (hg : Gl X (biName b)) (hm : X.mg (biName b) = none) (oks : okEs (e :: es) = true) (ha : PA X (e :: es) (tEs g W (evs F ies))) :
    PE X (.Call (.Name (biName b) p) (e :: es) [] pos) (tE g W (ev F (.bi b ies))) := by
  have oke : okE e = true ∧ okEs es = true := by unfold okEs at oks ⊢; rwa [List.all_cons, Bool.and_eq_true] at oks
  have key : ∀ σ H Q, tE g W (ev F (.bi b ies)) σ H Q → tCB (rb g b) (tEs g W (evs F ies)) σ H Q := fun σ H Q ⟨m, ρ, S, rs, er, w⟩ => by
    rw [ev] at w
    refine TI.step (Ra := Rels g) rs er w fun zs H1 m1 S1 ds x1 rs1 er1 r1 w => ?_
    exact ⟨m1, S1, ds, _, rs1, r1, w⟩
  have cr := cr_bi hK hr hc b ok
  have bo := bi_boot b
  obtain ⟨n1, n2⟩ := bi_names b
  refine PE.imp ?_ key
  have fin : (∃ id, biVal b = .builtin id) ∨ ∃ T, biVal b = .type T := by cases b <;> first | exact .inl ⟨_, rfl⟩ | exact .inr ⟨_, rfl⟩
  rcases fin with ⟨id, h⟩ | ⟨T, h⟩
  · rw [h] at cr bo
    exact pe_callB cr hg hm bo ha n1 n2 (starEach_ok oke.1) (star_all oke.2).2
  · rw [h] at cr bo
    exact pe_callTy cr hg hm bo ha n1 n2 (starEach_ok oke.1) (star_all oke.2).2
/-! methods of built-in classes -/
def rm (g : Gs) (mt : Bm) : V → List V → Hp → VK → Prop := fun v xs H Q => ∃ m S d ds W, RS g m S H ∧ Rel g m S.length H d v ∧ Rels g m S.length H ds xs ∧ WP g W (Rel g) m S.length H (bmR mt d ds S) Q
def bmTy : Bm → String
  | .append => "list"
  | .insert => "list"
  | .index => "list"
  | .count => "list"
  | .join => "str"
  | .sindex => "str"
  | .upper => "str"
  | .clear => "list"
  | .remove => "list"
  | .pop1 => "list"
theorem box_set {c : Cell} {a : Addr} {o' : HO} {i : Nat} {W : Value → Option Addr → Hp → Prop} {Q : VK} (rs : RS g m S H) (k : m i = some a) (w : WP g W (Rel g) m S.length H (.ok .non (setAt S i c)) Q) (hc : CellR g m S.length (upd H a o') a c) : Q .non (upd H a o') := by
  have l : (setAt S i c).length = S.length := by unfold setAt; rw [List.length_set]
  refine w m _ .non (by rw [l]; exact Ext.set rs k) (rs.set k hc) ?_
  rw [rel_non]
theorem mt_append' : MtR X "list.append" (rm g .append) := by
  refine MtR.imp mt_append fun v xs H Q ⟨m, S, d, ds, W, rs, r, rx, w⟩ => ?_
  replace w : WP g W (Rel g) m S.length H (bmAppend S d ds) Q := w
  unfold bmAppend at w
  split at w
  · split at w
    · split at w
      · rename_i hz
        obtain ⟨c, w⟩ := w.ck
        obtain ⟨y, rfl, ry⟩ := rx.one
        obtain ⟨a, rfl, k, vs, hv, rv⟩ := r.box rs hz
        refine ⟨a, vs, y, rfl, rfl, hv, by rw [← rv.length]; exact c, box_set rs k w ?_⟩
        have x := Ext.set (n := S.length) (o := .lst (vs ++ [y])) rs k
        exact ⟨_, upd_same, Rels.mono x _ _ (rv.append (Rels.cons ry Rels.nil))⟩
      · exact w.err
    · exact w.err
  · exact w.err
theorem mt_insert' : MtR X "list.insert" (rm g .insert) := by
  refine MtR.imp mt_insert fun v xs H Q ⟨m, S, d, ds, W, rs, r, rx, w⟩ => ?_
  replace w : WP g W (Rel g) m S.length H (bmInsert S d ds) Q := w
  unfold bmInsert at w
  split at w
  · split at w
    · split at w
      · rename_i hz
        obtain ⟨⟨c1, c2, c3⟩, w⟩ := w.ck
        obtain ⟨u, y, rfl, ru, ry⟩ := rx.two
        rw [rel_int] at ru
        subst ru
        obtain ⟨a, rfl, k, vs, hv, rv⟩ := r.box rs hz
        refine ⟨a, vs, _, y, rfl, rfl, hv, by rw [← rv.length]; exact c1, c2, c3, box_set rs k w ?_⟩
        refine ⟨_, upd_same, Rels.mono (Ext.set rs k) _ _ ?_⟩
        unfold insertAt
        exact ((rv.take _).append (Rels.cons ry Rels.nil)).append (rv.drop _)
      · exact w.err
    · exact w.err
  · exact w.err
theorem mt_clear' : MtR X "list.clear" (rm g .clear) := by
  refine MtR.imp mt_clear fun v xs H Q ⟨m, S, d, ds, W, rs, r, rx, w⟩ => ?_
  replace w : WP g W (Rel g) m S.length H (bmClear S d ds) Q := w
  unfold bmClear at w
  split at w
  · split at w
    · split at w
      · rename_i hz
        have e : xs = [] := by unfold Rels at rx; exact rx
        obtain ⟨a, rfl, k, vs, hv, rv⟩ := r.box rs hz
        exact ⟨a, vs, rfl, e, hv, box_set rs k w ⟨[], upd_same, Rels.nil⟩⟩
      · exact w.err
    · exact w.err
  · exact w.err
theorem okS.list {l : List Nat} (h1 : l.length ≤ sizeLine) (h2 : ∀ c ∈ l, c < 1114112) : okS ⟨l.toArray⟩ := ⟨by show l.toArray.size ≤ _; rw [List.size_toArray]; exact h1, h2⟩
theorem bm_head {mt : Bm} {d : D} {v : V} (hK : X.K = g.K) (rs : RS g m S H) (r : Rel g m S.length H d v) (h : bmOk mt d S = true) : tyV X.K (bmTy mt) v H := by
  cases mt with
  | append =>
    cases d with
    | ref i =>
      have h' : (match cellAt S i with | some (.lst _) => true | _ => false) = true := h
      split at h'
      · rename_i hz
        obtain ⟨a, rfl, k, vs, hv, rv⟩ := r.box rs hz
        exact .inl ⟨rfl, vs, SqL.of hv⟩
      · cases h'
    | _ => cases h
  | insert =>
    cases d with
    | ref i =>
      have h' : (match cellAt S i with | some (.lst _) => true | _ => false) = true := h
      split at h'
      · rename_i hz
        obtain ⟨a, rfl, k, vs, hv, rv⟩ := r.box rs hz
        exact .inl ⟨rfl, vs, SqL.of hv⟩
      · cases h'
    | _ => cases h
  | remove =>
    cases d with
    | ref i =>
      have h' : (match cellAt S i with | some (.lst _) => true | _ => false) = true := h
      split at h'
      · rename_i hz
        obtain ⟨a, rfl, k, vs, hv, rv⟩ := r.box rs hz
        exact .inl ⟨rfl, vs, SqL.of hv⟩
      · cases h'
    | _ => cases h
  | pop1 =>
    cases d with
    | ref i =>
      have h' : (match cellAt S i with | some (.lst _) => true | _ => false) = true := h
      split at h'
      · rename_i hz
        obtain ⟨a, rfl, k, vs, hv, rv⟩ := r.box rs hz
        exact .inl ⟨rfl, vs, SqL.of hv⟩
      · cases h'
    | _ => cases h
  | index =>
    have h' : (lstOf S d).isSome = true := h
    obtain ⟨xs, hx⟩ := Option.isSome_iff_exists.mp h'
    obtain ⟨a, vs, rfl, rv, q⟩ := lst_sq rs r hx
    rw [hK]
    exact .inl ⟨rfl, vs, q⟩
  | count =>
    have h' : (lstOf S d).isSome = true := h
    obtain ⟨xs, hx⟩ := Option.isSome_iff_exists.mp h'
    obtain ⟨a, vs, rfl, rv, q⟩ := lst_sq rs r hx
    rw [hK]
    exact .inl ⟨rfl, vs, q⟩
  | clear =>
    cases d with
    | ref i =>
      have h' : (match cellAt S i with | some (.lst _) => true | _ => false) = true := h
      split at h'
      · rename_i hz
        obtain ⟨a, rfl, k, vs, hv, rv⟩ := r.box rs hz
        exact .inl ⟨rfl, vs, SqL.of hv⟩
      · cases h'
    | _ => cases h
  | join =>
    cases d with
    | str z => rw [rel_str] at r; obtain ⟨rfl, _⟩ := r; rfl
    | _ => cases h
  | sindex =>
    cases d with
    | str z => rw [rel_str] at r; obtain ⟨rfl, _⟩ := r; rfl
    | _ => cases h
  | _ => cases d <;> cases h
theorem i_bm {mt : Bm} (hK : X.K = g.K) {id : String} (pa : PlainAttrs (bmTy mt)) (slot : Slot (bmTy mt) name id) (hty : typeOf (.builtin id) = pure (.type "method_descriptor")) (hm : MtR X id (rm g mt)) (oko : okE o = true) (oks : okEs (e :: es) = true)
    (hl : (apos.endLine == pos.line) = true) (hn : (e :: es).length < 28) (ho : PE X o (tE g W (ev F io))) (ha : PA X (e :: es) (tEs g W (evs F ies))) : PE X (.Call (.Attribute o name apos) (e :: es) [] pos) (tE g W (ev F (.bm mt io ies))) := by
  have oke : okE e = true ∧ okEs es = true := by unfold okEs at oks ⊢; rwa [List.all_cons, Bool.and_eq_true] at oks
  refine PE.imp (pe_bm pa slot hty hm ho ha (attrBase_ok oko) ?_ hl (starEach_ok oke.1) (star_all oke.2).2) fun σ H Q ⟨m, ρ, S, rs, er, w⟩ => ?_
  · rw [(star_all oks).1]
    show (true && true && decide ((e :: es).length + 0 + 0 < 30)) = true
    rw [Bool.true_and, Bool.true_and]
    exact decide_eq_true (by omega)
  · rw [ev] at w
    refine TI.step rs er w fun v H1 m1 S1 d x1 rs1 er1 r1 w => ?_
    obtain ⟨c, w⟩ := w.ck
    refine ⟨bm_head hK rs1 r1 c, ?_⟩
    refine TI.step (Ra := Rels g) rs1 er1 w fun zs H2 m2 S2 ds x2 rs2 er2 r2 w => ?_
    exact ⟨m2, S2, d, ds, _, rs2, Rel.mono x2 _ _ r1, r2, w⟩
theorem i_bm0 {mt : Bm} (hK : X.K = g.K) {id : String} (pa : PlainAttrs (bmTy mt)) (slot : Slot (bmTy mt) name id) (hty : typeOf (.builtin id) = pure (.type "method_descriptor")) (hm : MtR X id (rm g mt)) (oko : okE o = true)
    (hl : (apos.endLine == pos.line) = true) (ho : PE X o (tE g W (ev F io))) : PE X (.Call (.Attribute o name apos) [] [] pos) (tE g W (ev F (.bm mt io []))) := by
  refine PE.imp (pe_bm0 pa slot hty hm ho (attrBase_ok oko) hl) fun σ H Q ⟨m, ρ, S, rs, er, w⟩ => ?_
  rw [ev] at w
  refine TI.step rs er w fun v H1 m1 S1 d x1 rs1 er1 r1 w => ?_
  obtain ⟨c, w⟩ := w.ck
  rw [evs] at w
  simp only [R.bind_ok] at w
  exact ⟨bm_head hK rs1 r1 c, m1, S1, d, [], _, rs1, r1, Rels.nil, w⟩
/-! freezing -/
theorem RelFs.lookup (hi : ∀ f, f ∈ (fs : List (Nat × D)).map (·.1) → g.fok f) : ∀ {fs' : List (Nat × D)} {gs : List (Str × V)} {f : Nat} {d : D}, (∀ f, f ∈ fs'.map (·.1) → g.fok f) → g.fok f → RelFs g m n H fs' gs → fs'.lookup f = some d → ∃ v, gs.lookup (g.fn f) = some v ∧ Rel g m n H d v
  | [], _, _, _, _, _, _, h => by cases h
  | (f', d') :: r, gs, f, d, ho, hf, rr, h => by
    unfold RelFs at rr
    obtain ⟨v, gr, rfl, r1, r2⟩ := rr
    rw [List.lookup_cons] at h
    rw [List.lookup_cons]
    by_cases hff : f = f'
    · subst hff
      rw [show (f == f) = true from beq_self_eq_true f] at h
      cases h
      rw [show (g.fn f == g.fn f) = true from beq_self_eq_true _]
      exact ⟨v, rfl, r1⟩
    · rw [show (f == f') = false from beq_eq_false_iff_ne.mpr hff] at h
      have hne : g.fn f ≠ g.fn f' := fun z => hff (g.finj _ _ hf (ho f' (List.mem_cons_self ..)) z)
      rw [show (g.fn f == g.fn f') = false from beq_eq_false_iff_ne.mpr hne]
      exact RelFs.lookup hi (fun f h => ho f (List.mem_cons_of_mem _ h)) hf r2 h
theorem frz_ok {d : D} {v : V} {W : Value → Option Addr → Hp → Prop} {Q : VK} (rs : RS g m S H) (r : Rel g m S.length H d v) (w : WP g W (Rel g) m S.length H (frzR d S) Q) : Q v H := by
  cases d with
  | ref i =>
    replace w : WP g W (Rel g) m S.length H (match cellAt S i with | some (.lst xs) => R.ok (D.lst xs) (S.set i none) | some (.ins c fs) => .ok (.ins c fs) (S.set i none) | _ => .err) Q := w
    split at w
    · rename_i xs hz
      obtain ⟨a, rfl, k, vs, hv, rv⟩ := r.box rs hz
      obtain ⟨rs', of⟩ := rs.del k
      refine w (mDel m i) H _ (by rw [List.length_set]; exact Ext.del) rs' ?_
      rw [List.length_set, rel_lst]
      exact ⟨a, vs, rfl, ⟨hv, of⟩, Rels.mono Ext.del _ _ rv⟩
    · rename_i c fs hz
      obtain ⟨a, rfl, k, dx, gs, hv, ok, rv⟩ := r.box rs hz
      obtain ⟨rs', of⟩ := rs.del k
      refine w (mDel m i) H _ (by rw [List.length_set]; exact Ext.del) rs' ?_
      rw [List.length_set, rel_ins]
      exact ⟨a, dx, gs, rfl, ⟨hv, of⟩, ok, RelFs.mono Ext.del _ _ rv⟩
    · exact w.err
  | _ => exact w.err
theorem i_frz (ha : PE X e (tE g W (ev F ie))) : PE X e (tE g W (ev F (.frz ie))) := by
  refine PE.imp ha fun σ H Q ⟨m, ρ, S, rs, er, w⟩ => ?_
  rw [ev] at w
  exact TI.step rs er w fun v H1 m1 S1 d x1 rs1 er1 r1 w => frz_ok rs1 r1 w
/-! attributes -/
theorem attr_ok {d : D} {v : V} {W : Value → Option Addr → Hp → Prop} {Q : VK} {f : Nat} (hK : X.K = g.K) (hf : g.fok f) (rs : RS g m S H) (r : Rel g m S.length H d v) (w : WP g W (Rel g) m S.length H (attrR d f S) Q) :
    ∃ a C dx fs y, v = .ref a ∧ H a = some (.ins C dx fs) ∧ Cls X.K C ∧ NoAttr X.K C (g.fn f) ∧ fs.lookup (g.fn f) = some y ∧ Q y H := by
  have go : ∀ {c : Nat} {fs : List (Nat × D)} {a dx : Addr} {gs : List (Str × V)}, v = .ref a → H a = some (.ins (g.ca c) dx gs) → insOk g c fs → RelFs g m S.length H fs gs → WP g W (Rel g) m S.length H (match fs.lookup f with | some d => .ok d S | none => .err) Q →
      ∃ a C dx fs y, v = .ref a ∧ H a = some (.ins C dx fs) ∧ Cls X.K C ∧ NoAttr X.K C (g.fn f) ∧ fs.lookup (g.fn f) = some y ∧ Q y H := by
    intro c fs a dx gs e hv ok rv w
    split at w
    · rename_i d' hd
      obtain ⟨y, hy, ry⟩ := RelFs.lookup (fs := fs) (fun f h => (ok.2.2 f h).1) (fun f h => (ok.2.2 f h).1) hf rv hd
      have hm : f ∈ fs.map (·.1) := by
        obtain ⟨l1, l2, e1, _⟩ := List.lookup_eq_some_iff.mp hd
        rw [e1]
        simp
      exact ⟨a, _, dx, gs, y, e, hv, by rw [hK]; exact ok.1, by rw [hK]; exact (ok.2.2 f hm).2, hy, w.now rs ry⟩
    · exact w.err
  cases d with
  | ins c fs =>
    rw [rel_ins] at r
    obtain ⟨a, dx, gs, e, ⟨hv, _⟩, ok, rv⟩ := r
    exact go e hv ok rv w
  | ref i =>
    replace w : WP g W (Rel g) m S.length H (match cellAt S i with | some (.ins _ fs) => (match fs.lookup f with | some d => R.ok d S | none => .err) | _ => .err) Q := w
    split at w
    · rename_i c fs hz
      obtain ⟨a, e, k, dx, gs, hv, ok, rv⟩ := r.box rs hz
      exact go e hv ok rv w
    · exact w.err
  | _ => exact w.err
theorem i_attr {f : Nat} (hK : X.K = g.K) (hf : g.fok f) (ok : okE e = true) (ha : PE X e (tE g W (ev F ie))) : PE X (.Attribute e (g.fn f) pos) (tE g W (ev F (.attr ie f))) := by
  refine PE.imp (pe_fld ha (attrBase_ok ok)) fun σ H Q ⟨m, ρ, S, rs, er, w⟩ => ?_
  rw [ev] at w
  refine TI.step rs er w fun v H1 m1 S1 d x1 rs1 er1 r1 w => ?_
  exact attr_ok hK hf rs1 r1 w
/-! own functions -/
def spF (g : Gs) (F : CE) (f np : Nat) : Sp := fun vs H Q E => vs.length = np ∧ ∃ m S ds, RS g m S H ∧ Rels g m S.length H ds vs ∧ WP g E (Rel g) m S.length H (F f ds S) Q
/-- how a call's values come to the parameters -/
structure Sig (g : Gs) (fd : FuncData) (ps : List Str) (n : Nat) (ks : List Str) (arr : List Ar) : Prop where
  ex : ∃ (gg : List Value → List Value → List Value) (gV : List V → List V → List V), KBn g.K fd ps n ks gg gV ∧ ∀ m N H ds vs zs ps', Rels g m N H ds (vs ++ zs) → vs.length = n → zs.length = ks.length → pick ds arr = some ps' → Rels g m N H ps' (gV vs zs) ∧ (gV vs zs).length = ps.length
theorem run_own {pins : List (Addr × Obj)} {s : Shared} {Q : VK} {us ws : List Value} {vs zs : List V} {k : Nat} {fa : Addr} {fd : FuncData} {ps : List Str} {sp : Sp} {gg : List Value → List Value → List Value} {gV : List V → List V → List V}
    (FO : FnOk X.prog X.w X.K X.mg X.base (L2.CX X.prog X.w) k fa fd ps sp) (hr : Room k X.A) (hb : KBn X.K fd ps n ks gg gV) (tk : Takes X W)
    (I : L2.Inv X pins σ H s) (r : Vals vs us) (rz : Vals zs ws) (l1 : vs.length = n) (l2 : zs.length = ks.length) (h : sp (gV vs zs) H Q (WE W σ)) : wpAny (model X.prog X.w) X.A (call (.ref fa) us (ks.zip ws)) (EP X pins σ Q) X.xe s := by
  have r2 := hb.rel r rz
  refine wpAny_call (codeAny_mono (FO.run X.A X.stack s H ⟨us, ks.zip ws⟩ (gg us ws) (gV vs zs) Q (WE W σ) hr I.env0 (hb.to s us ws I.kIn (r.length.symm.trans l1) (rz.length.symm.trans l2)) r2 h) fun r s' hq => ?_)
  cases r with
  | error e => exact passAt tk σ pins H s e s' I hq
  | ok fl =>
    cases fl with
    | ret u => exact I.after hq
    | next => exact False.elim hq
    | brk => exact False.elim hq
    | cont => exact False.elim hq
theorem own_args {fv : Value} {first : List Value} {K2 : List D → Sto → R D} {pins : List (Addr × Obj)} {s : Shared} {Q : VK} {ρ : Env} (hkp : PySem.W.keepIn X.K fv = true) (oks : okEs es = true) (hks : kwsNames kws = some ks) (hkl : iks.length = ks.length) (hel : es.length = ies.length)
    (ha : PA X es (tEs g W (evs F ies))) (hkw : PK X kws (tEs g W (evs F iks))) (I : L2.Inv X pins σ H s) (rs : RS g m S H) (er : EnvR g m S.length H ρ σ) (w : WP g (fun c d H' => W c d σ H') (Rel g) m S.length H ((evs F (ies ++ iks) ρ S).bind K2) Q)
    (fin : ∀ {s2 : Shared} {H2 : Hp} {m2 : Mp} {S2 : Sto} {as bs : List D} {vs zs : List V} {us ws : List Value}, L2.Inv X pins σ H2 s2 → Vals vs us → Vals zs ws → vs.length = ies.length → zs.length = ks.length → Ext m S.length H m2 S2.length H2 → RS g m2 S2 H2 → EnvR g m2 S2.length H2 ρ σ →
      Rels g m2 S2.length H2 (as ++ bs) (vs ++ zs) → WP g (fun c d H' => W c d σ H') (Rel g) m2 S2.length H2 (K2 (as ++ bs) S2) Q →
      wpAny (model X.prog X.w) X.A (call fv (first ++ us) (ks.zip ws)) (EP X pins σ Q) X.xe s2) :
    wpAny (model X.prog X.w) X.A (callWith pos fv first (backTo pos (starEach es X.env)) (backToKw pos (keywordEach kws X.env))) (EP X pins σ Q) X.xe s := by
  rw [evs_append, R.bind_bind] at w
  obtain ⟨k1, k2, k3⟩ := kws_all (env := X.env) (pos := pos) hks
  cases es with
  | nil =>
    refine PySem.W.callWith_KW0 (h₀ := X.base) I.ok.mod.kin hkp k1 ?_ (by rw [k3]; rfl)
    have e0 : ies = [] := List.length_eq_zero_iff.mp hel.symm
    subst e0
    rw [evs] at w
    simp only [R.bind_ok] at w
    rw [R.bind_bind] at w
    refine thn (hkw.run pos pins s σ H (fun zs H2 => ∃ m2 S2 bs, bs.length = iks.length ∧ Ext m S.length H m2 S2.length H2 ∧ RS g m2 S2 H2 ∧ EnvR g m2 S2.length H2 ρ σ ∧ Rels g m2 S2.length H2 bs zs ∧ WP g (fun c d H' => W c d σ H') (Rel g) m2 S2.length H2 (K2 ([] ++ bs) S2) Q) I ?_) fun ws s2 ⟨zs, H2, I2, rz, m2, S2, bs, lb, x2, rs2, er2, rb, w2⟩ => ⟨I2.kIn, ?_⟩
    · exact TI.stepE (Ra := Rels g) rs er w fun zs H2 m2 S2 bs e x2 rs2 er2 r2 w => ⟨m2, S2, bs, evs_length e, x2, rs2, er2, r2, w⟩
    · rw [k2]
      exact fin (us := []) (vs := []) (as := []) I2 .nil rz rfl ((rb.length.symm.trans lb).trans hkl) x2 rs2 er2 rb w2
  | cons e es =>
    have oke : okE e = true ∧ okEs es = true := by unfold okEs at oks ⊢; rwa [List.all_cons, Bool.and_eq_true] at oks
    refine PySem.W.callWith_KW (h₀ := X.base) I.ok.mod.kin hkp k1 ?_ (by rw [(star_all oks).2, k3]; rfl) (starEach_ok oke.1)
    refine thn (ha.run pos pins s σ H (fun vs H1 => ∃ m1 S1 as, as.length = ies.length ∧ Ext m S.length H m1 S1.length H1 ∧ RS g m1 S1 H1 ∧ EnvR g m1 S1.length H1 ρ σ ∧ Rels g m1 S1.length H1 as vs ∧ WP g (fun c d H' => W c d σ H') (Rel g) m1 S1.length H1 ((evs F iks ρ S1).bind fun ys S => K2 (as ++ ys) S) Q) I ?_) fun us s1 ⟨vs, H1, I1, rv, m1, S1, as, la, x1, rs1, er1, ra, w1⟩ => ?_
    · refine TI.stepE (Ra := Rels g) rs er w fun vs H1 m1 S1 as e x1 rs1 er1 r1 w => ⟨m1, S1, as, evs_length e, x1, rs1, er1, r1, ?_⟩
      rw [R.bind_bind] at w
      exact w
    · refine thn (hkw.run pos pins s1 σ H1 (fun zs H2 => ∃ m2 S2 bs, bs.length = iks.length ∧ Ext m1 S1.length H1 m2 S2.length H2 ∧ RS g m2 S2 H2 ∧ EnvR g m2 S2.length H2 ρ σ ∧ Rels g m2 S2.length H2 bs zs ∧ WP g (fun c d H' => W c d σ H') (Rel g) m2 S2.length H2 (K2 (as ++ bs) S2) Q) I1 ?_) fun ws s2 ⟨zs, H2, I2, rz, m2, S2, bs, lb, x2, rs2, er2, rb, w2⟩ => ⟨I2.kIn, ?_⟩
      · exact TI.stepE (Ra := Rels g) rs1 er1 w1 fun zs H2 m2 S2 bs e x2 rs2 er2 r2 w => ⟨m2, S2, bs, evs_length e, x2, rs2, er2, r2, w⟩
      · rw [k2]
        exact fin I2 rv rz (ra.length.symm.trans la) ((rb.length.symm.trans lb).trans hkl) (x1.trans x2) rs2 er2 ((Rels.mono x2 _ _ ra).append rb) w2
theorem i_call {k : Nat} {fa : Addr} {fd : FuncData} {ps : List Str} {f : Nat} {arr : List Ar} (hK : X.K = g.K) (FO : FnOk X.prog X.w X.K X.mg X.base (L2.CX X.prog X.w) k fa fd ps (spF g F f ps.length)) (hr : Room k X.A) (hg : Gl X x) (hm : X.mg x = some (.ref fa))
    (hkp : PySem.W.keepIn X.K (.ref fa) = true) (sg : Sig g fd ps ies.length ks arr) (tk : Takes X W) (hdb : (x == ("__debug__" : Str)) = false) (oks : okEs es = true) (hks : kwsNames kws = some ks) (hkl : iks.length = ks.length) (hel : es.length = ies.length)
    (ha : PA X es (tEs g W (evs F ies))) (hkw : PK X kws (tEs g W (evs F iks))) : PE X (.Call (.Name x p) es kws pos) (tE g W (ev F (.call f arr (ies ++ iks)))) := by
  obtain ⟨gg, gV, hb, hp⟩ := sg.ex
  rw [← hK] at hb
  refine ⟨fun pins s σ H Q I ⟨m, ρ, S, rs, er, w⟩ => ?_⟩
  rw [ev] at w
  refine wpAny_Call_Name_kw (ld_glob I hg hm ?_ hdb)
  refine own_args (first := []) hkp oks hks hkl hel ha hkw I rs er w fun I2 ru rz l1 l2 x2 rs2 er2 ra w => ?_
  unfold callR at w
  split at w
  · rename_i ps' hps
    obtain ⟨q1, q2⟩ := hp _ _ _ _ _ _ _ ra l1 l2 hps
    exact run_own FO hr hb tk I2 ru rz l1 l2 ⟨q2, _, _, ps', rs2, q1, w⟩
  · exact w.err
theorem noName {c : Nat} {fs : List (Nat × D)} {gs : List (Str × V)} {fa : Addr} (ok : insOk g c fs) (M : Meth g.K (g.ca c) name fa) : ∀ {fs' : List (Nat × D)}, (∀ f, f ∈ fs'.map (·.1) → f ∈ fs.map (·.1)) → ∀ {gs : List (Str × V)}, RelFs g m n H fs' gs → gs.lookup name = none
  | [], _, _, r => by unfold RelFs at r; rw [r]; rfl
  | (f, d) :: fs', h, _, r => by
    unfold RelFs at r
    obtain ⟨v, gr, rfl, _, r2⟩ := r
    rw [List.lookup_cons]
    have hne : name ≠ g.fn f := fun z => by
      have := (ok.2.2 f (h f (List.mem_cons_self ..))).2
      unfold NoAttr at this
      rw [← z, M.at_] at this
      cases this
    rw [show (name == g.fn f) = false from beq_eq_false_iff_ne.mpr hne]
    exact noName (gs := gs) ok M (fun f hf => h f (List.mem_cons_of_mem _ hf)) r2
/-- what the text says of a method of a class -/
structure MOk (g : Gs) (X : Cx) (F : CE) (name : Str) (c f n : Nat) (ks : List Str) (arr : List Ar) : Prop where
  ex : ∃ (k : Nat) (fa : Addr) (fd : FuncData) (ps : List Str), Meth g.K (g.ca c) name fa ∧ FnOk X.prog X.w X.K X.mg X.base (L2.CX X.prog X.w) k fa fd ps (spF g F f ps.length) ∧ Room k X.A ∧ Sig g fd ps (n + 1) ks arr
theorem cls_ok {d : D} {v : V} {c : Nat} (rs : RS g m S H) (r : Rel g m S.length H d v) (h : clsOf S d = some c) : ∃ a dx fs gs, v = .ref a ∧ H a = some (.ins (g.ca c) dx gs) ∧ insOk g c fs ∧ RelFs g m S.length H fs gs := by
  cases d with
  | ins c' fs =>
    cases h
    rw [rel_ins] at r
    obtain ⟨a, dx, gs, e, ⟨hv, _⟩, ok, rv⟩ := r
    exact ⟨a, dx, fs, gs, e, hv, ok, rv⟩
  | ref i =>
    replace h : (match cellAt S i with | some (.ins c _) => some c | _ => none) = some c := h
    split at h
    · rename_i c' fs hz
      cases h
      obtain ⟨a, e, k, dx, gs, hv, ok, rv⟩ := r.box rs hz
      exact ⟨a, dx, fs, gs, e, hv, ok, rv⟩
    · cases h
  | _ => cases h
theorem i_meth {ms : List (Nat × Nat × List Ar)} (hK : X.K = g.K) (hms : ∀ c f arr, ms.lookup c = some (f, arr) → MOk g X F name c f ies.length ks arr) (tk : Takes X W) (oko : okE o = true) (oks : okEs es = true) (hks : kwsNames kws = some ks) (hkl : iks.length = ks.length) (hel : es.length = ies.length)
    (hn : es.length + kws.length < 28) (hl : (apos.endLine == pos.line) = true) (ho : PE X o (tE g W (ev F io))) (ha : PA X es (tEs g W (evs F ies))) (hkw : PK X kws (tEs g W (evs F iks))) : PE X (.Call (.Attribute o name apos) es kws pos) (tE g W (ev F (.meth io ms (ies ++ iks)))) := by
  refine ⟨fun pins s σ H Q I ⟨m, ρ, S, rs, er, w⟩ => ?_⟩
  rw [ev] at w
  generalize hk3 : (fun x S => match (clsOf S x).bind fun c => ms.lookup c with
    | some (f, arr) => (evs F (ies ++ iks) ρ S).bind fun xs S => callR F f arr (x :: xs) S
    | none => .err : D → Sto → R D) = K3 at w
  refine PySem.W.methodCall_KW (thn (ho.run pins s σ H (fun v H1 => ∃ m1 S1 d, RS g m1 S1 H1 ∧ EnvR g m1 S1.length H1 ρ σ ∧ Rel g m1 S1.length H1 d v ∧ WP g (fun c d H' => W c d σ H') (Rel g) m1 S1.length H1 (K3 d S1) Q) I (TI.step rs er w fun v H1 m1 S1 d x1 rs1 er1 r1 w => ⟨m1, S1, d, rs1, er1, r1, w⟩)) fun u s1 ⟨v, H1, I1, rv, m1, S1, d, rs1, er1, r1, w⟩ => ?_) (meth_eval oko oks hks hn hl)
  subst hk3
  dsimp only at w
  split at w
  · rename_i f arr hc
    obtain ⟨c, h1, h2⟩ := Option.bind_eq_some_iff.mp hc
    obtain ⟨k, fa, fd, ps, M, FO, hr, sg⟩ := (hms c f arr h2).ex
    obtain ⟨a, dx, fs, gs, rfl, hv, ok, rfs⟩ := cls_ok rs1 r1 h1
    obtain rfl : u = Value.ref a := rv
    obtain ⟨gg, gV, hb, hp⟩ := sg.ex
    have M' := M
    rw [← hK] at hb M'
    refine getmeth_ok I1 hv (by rw [hK]; exact ok.1) M' (noName (gs := gs) ok M (fun _ h => h) rfs) ?_
    refine own_args (first := [.ref a]) M'.kp oks hks hkl hel ha hkw I1 rs1 er1 w fun I2 ru rz l1 l2 x2 rs2 er2 ra w => ?_
    unfold callR at w
    split at w
    · rename_i ps' hps
      obtain ⟨q1, q2⟩ := hp _ _ _ _ (.ref a :: _) _ _ (Rels.cons (Rel.mono x2 _ _ r1) ra) (by rw [List.length_cons, l1]) l2 hps
      exact run_own (us := .ref a :: _) (vs := .ref a :: _) FO hr hb tk I2 (.cons rfl ru) rz (by rw [List.length_cons, l1]) l2 ⟨q2, _, _, ps', rs2, q1, w⟩
    · exact w.err
  · exact w.err
theorem run_mk {pins : List (Addr × Obj)} {s : Shared} {Q : VK} {us ws : List Value} {vs zs : List V} {k : Nat} {C fa : Addr} {fd : FuncData} {ps : List Str} {sp : Sp} {gg : List Value → List Value → List Value} {gV : List V → List V → List V} (M : Mk X.K C fa)
    (FO : FnOk X.prog X.w X.K X.mg X.base (L2.CX X.prog X.w) k fa fd ps sp) (hr : Room (k + 1) X.A) (hb : KBn X.K fd ps (n + 1) ks gg gV) (tk : Takes X W) (I : L2.Inv X pins σ H s) (r : Vals vs us) (rz : Vals zs ws) (l1 : vs.length = n) (l2 : zs.length = ks.length)
    (h : ∀ x dx, H x = none → H dx = none → dx ≠ x → sp (gV (.ref x :: vs) zs) (upd (upd H dx (.own x)) x (.ins C dx [])) (fun v H2 => v = .non ∧ Q (.ref x) H2) (WE W σ)) :
    wpAny (model X.prog X.w) X.A (call (.ref C) us (ks.zip ws)) (EP X pins σ Q) X.xe s := by
  have hq := h (s.heap.objs.size + 1) s.heap.objs.size (I.hok.fresh (Nat.le_succ _)) (I.hok.fresh (Nat.le_refl _)) (Nat.ne_of_lt (Nat.lt_succ_self _))
  have I2 := Inv.made (C := C) I
  have r1 : Vals (V.ref (s.heap.objs.size + 1) :: vs) (Value.ref (s.heap.objs.size + 1) :: us) := .cons rfl r
  have e1 : (Value.ref (s.heap.objs.size + 1) :: us).length = n + 1 := r1.length.symm.trans (congrArg Nat.succ l1)
  refine wpAny_call (make_map (f := fa) I.kIn M.makes M.init (beq_iff_eq.mp M.fn) (codeAny_mono (FO.run _ X.stack _ _ ⟨Value.ref (s.heap.objs.size + 1) :: us, ks.zip ws⟩ (gg (Value.ref (s.heap.objs.size + 1) :: us) ws) _ _ (WE W σ) (hr.make C us (ks.zip ws))
    (I2.env0.make C us (ks.zip ws)) (hb.to _ (Value.ref (s.heap.objs.size + 1) :: us) ws I2.kIn e1 (rz.length.symm.trans l2)) (hb.rel r1 rz) hq) fun r s' hq' => ?_))
  cases r with
  | error e => exact passAt tk σ pins _ _ e s' I2 hq'
  | ok fl =>
    cases fl with
    | ret u =>
      obtain ⟨v, H', I3, rv, ev, q3⟩ := I2.after hq'
      subst ev
      exact ⟨rv, ⟨V.ref (s.heap.objs.size + 1), H', I3, rfl, q3⟩⟩
    | next => exact False.elim hq'
    | brk => exact False.elim hq'
    | cont => exact False.elim hq'
theorem i_make {k : Nat} {fa : Addr} {fd : FuncData} {ps : List Str} {c f : Nat} {fr : Bool} {arr : List Ar} (hK : X.K = g.K) (M : Mk g.K (g.ca c) fa) (cl : Cls g.K (g.ca c)) (FO : FnOk X.prog X.w X.K X.mg X.base (L2.CX X.prog X.w) k fa fd ps (spF g F f ps.length)) (hr : Room (k + 1) X.A) (hg : Gl X x) (hm : X.mg x = some (.ref (g.ca c)))
    (sg : Sig g fd ps (ies.length + 1) ks arr) (tk : Takes X W) (hdb : (x == ("__debug__" : Str)) = false) (oks : okEs es = true) (hks : kwsNames kws = some ks) (hkl : iks.length = ks.length) (hel : es.length = ies.length)
    (ha : PA X es (tEs g W (evs F ies))) (hkw : PK X kws (tEs g W (evs F iks))) : PE X (.Call (.Name x p) es kws pos) (tE g W (ev F (.make fr c f arr (ies ++ iks)))) := by
  obtain ⟨gg, gV, hb, hp⟩ := sg.ex
  have M' := M
  rw [← hK] at hb M'
  refine ⟨fun pins s σ H Q I ⟨m, ρ, S, rs, er, w⟩ => ?_⟩
  rw [ev] at w
  refine wpAny_Call_Name_kw (ld_glob I hg hm ?_ hdb)
  refine own_args (first := []) M'.kp oks hks hkl hel ha hkw I rs er w fun {s2 H2 m2 S2 as bs vs zs us ws} I2 ru rz l1 l2 x2 rs2 er2 ra w => ?_
  refine run_mk M' FO hr hb tk I2 ru rz l1 l2 fun y dx hy hd hne => ?_
  have hy1 : upd H2 dx (.own y) y = none := by rw [upd_ne (Ne.symm hne)]; exact hy
  have rs3 := rs2.laid (o := .own y) hd
  have x3 : Ext m2 S2.length H2 (mNew m2 S2.length y) (S2.length + 1) (upd (upd H2 dx (.own y)) y (.ins (g.ca c) dx [])) := (Ext.laid rs2 hd).trans (Ext.new rs3 hy1)
  have rs4 : RS g (mNew m2 S2.length y) (S2 ++ [some (.ins c [])]) (upd (upd H2 dx (.own y)) y (.ins (g.ca c) dx [])) := rs3.new hy1 ⟨dx, [], upd_same, ⟨cl, Nat.zero_le _, fun f hf => by cases hf⟩, by unfold RelFs; rfl⟩
  have ln : (S2 ++ [some (Cell.ins c [])]).length = S2.length + 1 := by rw [List.length_append, List.length_singleton]
  unfold makeR callR at w
  have rself : Rel g (mNew m2 S2.length y) (S2.length + 1) (upd (upd H2 dx (.own y)) y (.ins (g.ca c) dx [])) (.ref S2.length) (.ref y) := by
    rw [rel_ref]
    exact ⟨Nat.lt_succ_self _, y, rfl, fun b hb => by rw [mNew_same] at hb; cases hb; rfl⟩
  split at w
  · rename_i ps' hps
    obtain ⟨q1, q2⟩ := hp (mNew m2 S2.length y) (S2.length + 1) _ (.ref S2.length :: (as ++ bs)) (.ref y :: vs) zs ps' (Rels.cons rself (Rels.mono x3 _ _ ra)) (by rw [List.length_cons, l1]) l2 hps
    refine ⟨q2, _, _, ps', rs4, by rw [ln]; exact q1, ?_⟩
    rw [ln]
    have w1 := WP.bind (Ra := Rel g) (w.from x3)
    refine w1.imp fun v H4 ⟨m4, S4, r, x4, rs4, rr, w4⟩ => ?_
    split at w4
    · rw [rel_non] at rr
      refine ⟨rr, ?_⟩
      have rs5 : Rel g m4 S4.length H4 (.ref S2.length) (.ref y) := Rel.mono x4 _ _ rself
      cases fr with
      | true =>
        rw [if_pos rfl] at w4
        exact frz_ok rs4 rs5 w4
      | false =>
        rw [if_neg Bool.false_ne_true] at w4
        exact w4.now rs4 rs5
    · exact w4.err
  · exact WP.err (show WP g _ (Rel g) m2 S2.length H2 .err Q from w)
end
end Iv

/-! ### targets, walks, statements -/
namespace Iv
open PySem PySem.Spec PyProof.Rows L2
theorem WP.wish {α β : Type} {g : Gs} {W W' : Value → Option Addr → Hp → Prop} {Ra : Mp → Nat → Hp → α → β → Prop} {m : Mp} {n : Nat} {H : Hp} {r : R α} {Q : β → Hp → Prop} (h : WP g W Ra m n H r Q) (k : ∀ c d H, W c d H → W' c d H) : WP g W' Ra m n H r Q := by
  cases r with
  | ok a S' => exact h
  | exc x S' => exact fun m' H' c d y rs q => k c d H' (h m' H' c d y rs q)
  | err => exact h
theorem WP.ra {α β : Type} {g : Gs} {W : Value → Option Addr → Hp → Prop} {Ra Ra' : Mp → Nat → Hp → α → β → Prop} {m : Mp} {n : Nat} {H : Hp} {r : R α} {Q : β → Hp → Prop} (h : WP g W Ra m n H r Q) (k : ∀ m n H a b, Ra' m n H a b → Ra m n H a b) : WP g W Ra' m n H r Q := by
  cases r with
  | ok a S' => exact fun m' H' b x rs ra => h m' H' b x rs (k _ _ _ _ _ ra)
  | exc x S' => exact h
  | err => exact h
abbrev noW : Value → Option Addr → Hp → Prop := fun _ _ _ => False
/-- the other names' values stay -/
def Kept (vs : List Nat) (σ σ' : L2.St) : Prop := σ'.length = σ.length ∧ ∀ i, i ∉ vs → σ'[i]? = σ[i]?
theorem Kept.refl {vs : List Nat} {σ : L2.St} : Kept vs σ σ := ⟨rfl, fun _ _ => rfl⟩
theorem Kept.trans {vs : List Nat} {σ σ1 σ2 : L2.St} (h : Kept vs σ σ1) (k : Kept vs σ1 σ2) : Kept vs σ σ2 := ⟨k.1.trans h.1, fun i hi => (k.2 i hi).trans (h.2 i hi)⟩
theorem Kept.set {vs : List Nat} {σ : L2.St} {i : Nat} {v : Option V} (h : i ∈ vs) : Kept vs σ (σ.set i v) := ⟨List.length_set, fun j hj => List.getElem?_set_ne fun z => hj (by rw [← z]; exact h)⟩
theorem wipe_len (σ : L2.St) : ∀ vs : List Nat, (wipe σ vs).length = σ.length
  | [] => rfl
  | v :: vs => by
    unfold L2.wipe
    rw [List.length_set]
    exact wipe_len σ vs
theorem wipe_get (σ : L2.St) : ∀ (vs : List Nat) (i : Nat), i < σ.length → (wipe σ vs)[i]? = if i ∈ vs then some none else σ[i]?
  | [], i, _ => by rw [if_neg List.not_mem_nil]; rfl
  | v :: vs, i, h => by
    unfold L2.wipe
    by_cases e : i = v
    · rw [e, List.getElem?_set_self (by rw [wipe_len]; rw [← e]; exact h), if_pos (List.mem_cons_self ..)]
    · rw [List.getElem?_set_ne (Ne.symm e), wipe_get σ vs i h]
      simp [List.mem_cons, e]
theorem Kept.wiped {vs : List Nat} {σ σ' : L2.St} (h : Kept vs (wipe σ vs) σ') : wipe σ' vs = wipe σ vs := by
  have hl : σ'.length = σ.length := by rw [h.1, wipe_len]
  apply List.ext_getElem?
  intro i
  rcases Nat.lt_or_ge i σ.length with l | l
  · rw [wipe_get _ _ _ (by rw [hl]; exact l), wipe_get _ _ _ l]
    split
    · rfl
    · rename_i hi
      rw [h.2 i hi, wipe_get _ _ _ l, if_neg hi]
  · rw [List.getElem?_eq_none (by rw [wipe_len, hl]; exact l), List.getElem?_eq_none (by rw [wipe_len]; exact l)]
def EnvK (g : Gs) (vs : List Nat) (σ : L2.St) : Mp → Nat → Hp → Env → L2.St → Prop := fun m n H ρ' σ' => EnvR g m n H ρ' σ' ∧ Kept vs σ σ'
def TGv (g : Gs) (vs : List Nat) (f : D → Env → Sto → R Env) : TG := fun v σ H Q => ∃ m ρ S d, RS g m S H ∧ EnvR g m S.length H ρ σ ∧ Rel g m S.length H d v ∧ WP g noW (EnvK g vs σ) m S.length H (f d ρ S) Q
def TGvs (g : Gs) (vs : List Nat) (n : Nat) (f : List D → Env → Sto → R Env) : TGs := fun us σ H Q => ∃ m ρ S ds, RS g m S H ∧ EnvR g m S.length H ρ σ ∧ Rels g m S.length H ds us ∧ ds.length = n ∧ WP g noW (EnvK g vs σ) m S.length H (f ds ρ S) Q
def TGd (g : Gs) (f : D → Env → Sto → R Env) : TG := fun v σ H Q => ∃ m ρ S d, RS g m S H ∧ EnvR g m S.length H ρ σ ∧ Rel g m S.length H d v ∧ WP g noW (EnvR g) m S.length H (f d ρ S) Q
theorem PG.imp {X : Cx} {t : Expr} {u u' : TG} (h : PG X t u) (k : ∀ v σ H Q, u' v σ H Q → u v σ H Q) : PG X t u' := ⟨fun pins s σ H v w Q I r q => h.run pins s σ H v w Q I r (k v σ H Q q)⟩
theorem PGs.imp {X : Cx} {t : List Expr} {u u' : TGs} (h : PGs X t u) (k : ∀ v σ H Q, u' v σ H Q → u v σ H Q) : PGs X t u' := ⟨fun pins s σ H v w Q I r q => h.run pins s σ H v w Q I r (k v σ H Q q)⟩
theorem PG.or {X : Cx} {t : Expr} {u u' : TG} (h : PG X t u) (h' : PG X t u') : PG X t (fun v σ H Q => u v σ H Q ∨ u' v σ H Q) := ⟨fun pins s σ H v w Q I r q => q.elim (h.run pins s σ H v w Q I r) (h'.run pins s σ H v w Q I r)⟩
def noStar : Expr → Bool
  | .Starred _ _ => false
  | _ => true
theorem assignEach_ok {e : Expr} {es : List Expr} {env : PySem.Env} (h : noStar e = true) : assignEach (e :: es) env = (false, assign e env) :: assignEach es env := by
  cases e <;> first | rfl | (exact absurd h Bool.false_ne_true)
theorem assignEach_all : ∀ {es : List Expr} {env : PySem.Env}, es.all noStar = true → (assignEach es env).length = es.length ∧ (assignEach es env).findIdx? (·.1) = none
  | [], _, _ => ⟨rfl, rfl⟩
  | e :: es, env, h => by
    rw [List.all_cons, Bool.and_eq_true] at h
    obtain ⟨h1, h2⟩ := assignEach_all (env := env) h.2
    rw [assignEach_ok h.1]
    refine ⟨by rw [List.length_cons, List.length_cons, h1], ?_⟩
    rw [List.findIdx?_cons, h2]
    rfl
section
variable {g : Gs} {W : L2.WX} {X : Cx} {F : CE} {m : Mp} {n : Nat} {H : Hp} {S : Sto} {σ : L2.St} {ρ : Env} {pos : Pos}
theorem g_var {vs : List Nat} {i : Nat} {x : Str} (hv : i ∈ vs) (hN : X.N.Nodup) (hi : X.N[i]? = some x) (hx : Loc X.env.scope x) (hf : X.fn x = true ∨ X.env.scope.names.lookup x = some .local) : PG X (.Name x pos) (TGv g vs (asg F (.var i))) := by
  refine PG.imp (pg_name hN hi hx hf) fun v σ H Q ⟨m, ρ, S, d, rs, er, r, w⟩ => ?_
  rw [asg] at w
  exact w.now rs ⟨er.set r, Kept.set hv⟩
theorem gs_nil {vs : List Nat} : PGs X [] (TGvs g vs 0 (asgs F [])) := by
  refine PGs.imp pgs_nil fun us σ H Q ⟨m, ρ, S, ds, rs, er, r, l, w⟩ => ?_
  have : ds = [] := List.length_eq_zero_iff.mp l
  subst this
  unfold Rels at r
  rw [asgs] at w
  exact ⟨r, w.now rs ⟨er, Kept.refl⟩⟩
theorem gs_cons {vs : List Nat} {e : Expr} {es : List Expr} {t : Tg} {ts : List Tg} (ok : noStar e = true) (h1 : PG X e (TGv g vs (asg F t))) (h2 : PGs X es (TGvs g vs ts.length (asgs F ts))) : PGs X (e :: es) (TGvs g vs (t :: ts).length (asgs F (t :: ts))) := by
  refine PGs.imp (pgs_cons h1 h2 (by rw [assignEach_ok ok]; rfl)) fun us σ H Q ⟨m, ρ, S, ds, rs, er, r, l, w⟩ => ?_
  cases ds with
  | nil => cases l
  | cons d ds =>
    unfold Rels at r
    obtain ⟨v, vr, rfl, r1, r2⟩ := r
    rw [asgs] at w
    refine ⟨v, vr, rfl, m, ρ, S, d, rs, er, r1, (WP.bind (Ra := EnvK g vs σ) w).imp fun σ1 H1 ⟨m1, S1, ρ1, x1, rs1, ⟨er1, k1⟩, w1⟩ => ?_⟩
    exact ⟨m1, ρ1, S1, ds, rs1, er1, Rels.mono x1 _ _ r2, Nat.succ.inj l, w1.ra fun _ _ _ _ _ z => ⟨z.1, k1.trans z.2⟩⟩
theorem g_tup {vs : List Nat} {es : List Expr} {ts : List Tg} {k : Nat} (hK : X.K = g.K) (hc : X.calm = true) (ok : es.all noStar = true) (hl : es.length = ts.length) (h : PGs X es (TGvs g vs ts.length (asgs F ts))) : PG X (.Tuple es k pos) (TGv g vs (asg F (.tup ts))) := by
  obtain ⟨l1, l2⟩ := assignEach_all (env := X.env) ok
  refine PG.imp (PG.or (pg_tup hc h l1 l2) (pg_lst hc h l1 l2)) fun v σ H Q ⟨m, ρ, S, d, rs, er, r, w⟩ => ?_
  rw [asg] at w
  split at w
  · rename_i xs hx
    obtain ⟨c, w⟩ := w.ck
    obtain ⟨a, vs, rfl, rr, q⟩ := seqOf_sq rs r hx
    have lv : vs.length = es.length := by rw [← rr.length, c, hl]
    rw [hK]
    rcases q with q | q
    · exact .inr ⟨a, vs, rfl, q, lv, m, ρ, S, xs, rs, er, rr, c, w⟩
    · exact .inl ⟨a, vs, rfl, q, lv, m, ρ, S, xs, rs, er, rr, c, w⟩
  · exact w.err
theorem assign_sub_ok {o i : Expr} {env : PySem.Env} (h : okE i = true) : ∀ v, assign (.Subscript o i pos) env v = (do
      let ov ← holding [v] (eval o env)
      let iv ← holding [v, ov] (eval i env)
      standAt pos
      holding [v, ov, iv] (setItem ov iv v)
      release [v, ov, iv] []) := by
  intro v
  cases i <;> first | rfl | (exact absurd h Bool.false_ne_true)
theorem g_idx {vs : List Nat} {o i : Expr} {io ii : E} (ok : okE i = true) (ho : PE X o (tE g W (ev F io))) (hi : PE X i (tE g W (ev F ii))) : PG X (.Subscript o i pos) (TGv g vs (asg F (.idx io ii))) := by
  refine PG.imp (pg_sub ho hi set_list (assign_sub_ok ok)) fun v σ H Q ⟨m, ρ, S, d, rs, er, r, w⟩ => ?_
  rw [asg] at w
  refine ⟨m, ρ, S, rs, er, ((WP.bind (Ra := Rel g) w).wish fun _ _ _ z => z.elim).imp fun x H1 ⟨m1, S1, dx, x1, rs1, r1, w1⟩ => ?_⟩
  refine ⟨m1, ρ, S1, rs1, er.mono x1, ((WP.bind (Ra := Rel g) w1).wish fun _ _ _ z => z.elim).imp fun y H2 ⟨m2, S2, dy, x2, rs2, r2, w2⟩ => ?_⟩
  cases dx with
  | ref nn =>
    cases dy with
    | int kk =>
      replace w2 : WP g noW (EnvK g vs σ) m2 S2.length H2 ((match cellAt S2 nn with | some (.lst xs) => ck (0 ≤ kk ∧ kk < xs.length) (.ok () (setAt S2 nn (.lst (xs.set kk.toNat d)))) | _ => (.err : R Unit)).bind fun _ S => .ok ρ S) Q := w2
      split at w2
      · rename_i xs hz
        obtain ⟨a, rfl, k, vs, hv, rv⟩ := (Rel.mono x2 _ _ r1).box rs2 hz
        rw [rel_int] at r2
        unfold ck at w2
        split at w2
        · rename_i c
          simp only [R.bind_ok] at w2
          have hl := rv.length
          refine ⟨a, vs, kk, kk.toNat, rfl, r2, hv, ?_, ?_⟩
          · unfold ixN
            rw [if_pos c.1, if_pos (by omega)]
          · have xs' := Ext.set (n := S2.length) (o := .lst (vs.set kk.toNat v)) rs2 k
            have ln : (setAt S2 nn (.lst (xs.set kk.toNat d))).length = S2.length := by unfold setAt; rw [List.length_set]
            refine w2 m2 _ σ (by rw [ln]; exact xs') (rs2.set k ⟨_, upd_same, Rels.mono xs' _ _ (rv.set _ (Rel.mono (x1.trans x2) _ _ r))⟩) ?_
            rw [ln]
            exact ⟨er.mono ((x1.trans x2).trans xs'), Kept.refl⟩
        · exact w2.elim
      · exact w2.elim
    | _ => exact w2.elim
  | _ => cases dy <;> exact w2.elim
theorem putFd_mem {f f' : Nat} {d : D} : ∀ {fs : List (Nat × D)}, f' ∈ (putFd f d fs).map (·.1) → f' = f ∨ f' ∈ fs.map (·.1)
  | [], h => by
    rw [putFd] at h
    exact .inl (by simpa using h)
  | (g, e) :: r, h => by
    rw [putFd] at h
    split at h
    · exact .inr h
    · rw [List.map_cons] at h
      rcases List.mem_cons.mp h with h | h
      · exact .inr (by rw [h]; exact List.mem_cons_self ..)
      · rcases putFd_mem h with h | h
        · exact .inl h
        · exact .inr (List.mem_cons_of_mem _ h)
theorem putFd_length {f : Nat} {d : D} : ∀ {fs : List (Nat × D)}, (putFd f d fs).length ≤ fs.length + 1
  | [] => by rw [putFd]; exact Nat.le_refl _
  | (g, e) :: r => by
    rw [putFd]
    split
    · exact Nat.le_succ _
    · rw [List.length_cons, List.length_cons]
      exact Nat.succ_le_succ putFd_length
theorem RelFs.put {f : Nat} {d : D} {v : V} (hf : g.fok f) (r : Rel g m n H d v) : ∀ {fs : List (Nat × D)} {gs : List (Str × V)}, (∀ f, f ∈ fs.map (·.1) → g.fok f) → RelFs g m n H fs gs → RelFs g m n H (putFd f d fs) (putF (g.fn f) v gs)
  | [], _, _, rr => by
    unfold RelFs at rr
    rw [rr, putFd]
    show RelFs g m n H [(f, d)] [(g.fn f, v)]
    unfold RelFs
    exact ⟨v, [], rfl, r, by unfold RelFs; rfl⟩
  | (f', e) :: fs, _, ho, rr => by
    unfold RelFs at rr
    obtain ⟨w, gr, rfl, r1, r2⟩ := rr
    rw [putFd]
    unfold putF
    by_cases h : f' = f
    · subst h
      rw [if_pos rfl, if_pos rfl]
      unfold RelFs
      exact ⟨v, gr, rfl, r, r2⟩
    · rw [if_neg h, if_neg fun z => h (g.finj _ _ (ho f' (List.mem_cons_self ..)) hf z)]
      unfold RelFs
      exact ⟨w, _, rfl, r1, RelFs.put hf r (fun f h => ho f (List.mem_cons_of_mem _ h)) r2⟩
theorem pg_attr {o : Expr} {to : TE} {f : Str} (ho : PE X o to) : PG X (.Attribute o f pos) (fun v σ H Q => to σ H fun x H1 => ∃ a C dx fs, x = .ref a ∧ H1 a = some (.ins C dx fs) ∧ Cls X.K C ∧ NoAttr X.K C f ∧ fs.length < 1000 ∧ Q σ (upd H1 a (.ins C dx (putF f v fs)))) := by
  refine ⟨fun pins s σ H v u Q I r h => ?_⟩
  show wpAny _ _ (do
    let ov ← holding [u] (eval o X.env)
    standAt pos.atName
    holding [u, ov] (setAttr ov f u)
    release [u, ov] []) _ _ s
  refine wpAny_bind (wpAny_holding (thn (ho.run pins s σ H _ I h) fun ov s1 ⟨x, H1, I1, r1, a, C, dx, fs, ex, ea, c, na, l, q⟩ => ?_))
  subst ex
  obtain rfl : ov = Value.ref a := r1
  refine wpAny_bind (wpAny_standAt (wpAny_bind (wpAny_holding (setattr_ok I1 ea c na l r fun s2 I2 => ?_))))
  exact wpAny_release ⟨σ, _, I2, q⟩
theorem g_attr {vs : List Nat} {o : Expr} {io : E} {f : Nat} {cs : List Nat} (hK : X.K = g.K) (hf : g.fok f) (hcs : ∀ c ∈ cs, NoAttr g.K (g.ca c) (g.fn f)) (ho : PE X o (tE g W (ev F io))) : PG X (.Attribute o (g.fn f) pos) (TGv g vs (asg F (.attr io f cs))) := by
  refine PG.imp (pg_attr ho) fun v σ H Q ⟨m, ρ, S, d, rs, er, r, w⟩ => ?_
  rw [asg] at w
  refine ⟨m, ρ, S, rs, er, ((WP.bind (Ra := Rel g) w).wish fun _ _ _ z => z.elim).imp fun x H1 ⟨m1, S1, dx, x1, rs1, r1, w1⟩ => ?_⟩
  unfold sattrR at w1
  split at w1
  · split at w1
    · rename_i nn _ c fs hz
      obtain ⟨a, rfl, k, dx, gs, hv, ok, rv⟩ := r1.box rs1 hz
      unfold ck at w1
      split at w1
      · rename_i cc
        simp only [R.bind_ok] at w1
        have hgl : fs.length = gs.length := by
          clear w1 hv ok cc hz
          induction fs generalizing gs with
          | nil => unfold RelFs at rv; rw [rv]; rfl
          | cons p r ih =>
            obtain ⟨f1, d1⟩ := p
            unfold RelFs at rv
            obtain ⟨w, gr, rfl, _, r2⟩ := rv
            rw [List.length_cons, List.length_cons, ih gr r2]
        refine ⟨a, _, dx, gs, rfl, hv, by rw [hK]; exact ok.1, by rw [hK]; exact hcs c cc.1, by omega, ?_⟩
        have xs' := Ext.set (n := S1.length) (o := .ins (g.ca c) dx (putF (g.fn f) v gs)) rs1 k
        have ln : (setAt S1 nn (.ins c (putFd f d fs))).length = S1.length := by unfold setAt; rw [List.length_set]
        refine w1 m1 _ σ (by rw [ln]; exact xs') (rs1.set k ⟨dx, _, upd_same, ⟨ok.1, ?_, fun f' hf' => ?_⟩, RelFs.mono xs' _ _ (RelFs.put hf (Rel.mono x1 _ _ r) (fun f h => (ok.2.2 f h).1) rv)⟩) ?_
        · have := putFd_length (f := f) (d := d) (fs := fs)
          omega
        · rcases putFd_mem hf' with rfl | h
          · exact ⟨hf, hcs c cc.1⟩
          · exact ok.2.2 f' h
        · rw [ln]
          exact ⟨er.mono (x1.trans xs'), Kept.refl⟩
      · exact w1.elim
    · exact w1.elim
  · exact w1.elim

theorem g_any {vs : List Nat} {e : Expr} {f : D → Env → Sto → R Env} (h : PG X e (TGv g vs f)) : PG X e (TGd g f) := PG.imp h fun _ _ _ _ ⟨m, ρ, S, d, rs, er, r, w⟩ => ⟨m, ρ, S, d, rs, er, r, w.ra fun _ _ _ _ _ z => z.1⟩

/-! statements -/
def WS (g : Gs) (W : L2.WX) (m : Mp) (n : Nat) (H : Hp) (r : R Fl) (D : Ends) : Prop := match r with
  | .ok (.next ρ) S' => ∀ m' H' σ', Ext m n H m' S'.length H' → RS g m' S' H' → EnvR g m' S'.length H' ρ σ' → D.nx σ' H'
  | .ok (.brk ρ) S' => ∀ m' H' σ', Ext m n H m' S'.length H' → RS g m' S' H' → EnvR g m' S'.length H' ρ σ' → D.bk σ' H'
  | .ok (.cont ρ) S' => ∀ m' H' σ', Ext m n H m' S'.length H' → RS g m' S' H' → EnvR g m' S'.length H' ρ σ' → D.ct σ' H'
  | .ok (.ret d) S' => ∀ m' H' v, Ext m n H m' S'.length H' → RS g m' S' H' → Rel g m' S'.length H' d v → D.rt v H'
  | .ok (.raised x ρ) S' => ∀ m' H' σ' c d, Ext m n H m' S'.length H' → RS g m' S' H' → EnvR g m' S'.length H' ρ σ' → g.xr m' S'.length H' x c d → W c d σ' H'
  | _ => False
def TSd (g : Gs) (W : L2.WX) (f : Env → Sto → R Fl) : TS := fun D σ H => ∃ m ρ S, RS g m S H ∧ EnvR g m S.length H ρ σ ∧ WS g W m S.length H (f ρ S) D
variable {α β : Type} {Ra : Mp → Nat → Hp → α → β → Prop} {m1 : Mp} {n1 : Nat} {H1 : Hp} {D D' : Ends}
theorem WS.from {r : R Fl} (x : Ext m n H m1 n1 H1) (h : WS g W m n H r D) : WS g W m1 n1 H1 r D := by
  cases r with
  | ok f S' =>
    cases f with
    | next ρ => exact fun m' H' σ' y => h m' H' σ' (x.trans y)
    | brk ρ => exact fun m' H' σ' y => h m' H' σ' (x.trans y)
    | cont ρ => exact fun m' H' σ' y => h m' H' σ' (x.trans y)
    | ret d => exact fun m' H' v y => h m' H' v (x.trans y)
    | raised e ρ => exact fun m' H' σ' c d y => h m' H' σ' c d (x.trans y)
  | exc e S' => exact h
  | err => exact h
theorem WS.imp {r : R Fl} (h : WS g W m n H r D) (h1 : ∀ σ H, D.nx σ H → D'.nx σ H) (h2 : ∀ v H, D.rt v H → D'.rt v H) (h3 : ∀ σ H, D.bk σ H → D'.bk σ H) (h4 : ∀ σ H, D.ct σ H → D'.ct σ H) : WS g W m n H r D' := by
  cases r with
  | ok f S' =>
    cases f with
    | next ρ => exact fun m' H' σ' y a b => h1 _ _ (h m' H' σ' y a b)
    | brk ρ => exact fun m' H' σ' y a b => h3 _ _ (h m' H' σ' y a b)
    | cont ρ => exact fun m' H' σ' y a b => h4 _ _ (h m' H' σ' y a b)
    | ret d => exact fun m' H' v y a b => h2 _ _ (h m' H' v y a b)
    | raised e ρ => exact h
  | exc e S' => exact h
  | err => exact h
theorem WS.err {P : Prop} (h : WS g W m n H .err D) : P := False.elim h
theorem WS.next {ρ' : Env} {σ' : L2.St} (h : WS g W m S.length H (.ok (.next ρ') S) D) (rs : RS g m S H) (er : EnvR g m S.length H ρ' σ') : D.nx σ' H := h m H σ' Ext.refl rs er
theorem WS.go {r : R α} {f : α → Sto → R Fl} (rs : RS g m S H) (er : EnvR g m S.length H ρ σ) (h : WS g W m S.length H (r.go ρ f) D) :
    WP g (fun c d H' => W c d σ H') Ra m S.length H r (fun b H1 => ∃ m1 S1 a, Ext m S.length H m1 S1.length H1 ∧ RS g m1 S1 H1 ∧ EnvR g m1 S1.length H1 ρ σ ∧ Ra m1 S1.length H1 a b ∧ WS g W m1 S1.length H1 (f a S1) D) := by
  cases r with
  | ok a S' => exact fun m' H' b x rs ra => ⟨m', S', a, x, rs, er.mono x, ra, WS.from x h⟩
  | exc e S' => exact fun m' H' c d x rs q => h m' H' σ c d x rs (er.mono x) q
  | err => exact h
theorem WS.fl {r : R Fl} {f : Env → Sto → R Fl} (h : WS g W m n H (r.fl f) D) : WS g W m n H r { D with nx := fun σ' H' => ∃ m' ρ' S', RS g m' S' H' ∧ EnvR g m' S'.length H' ρ' σ' ∧ WS g W m' S'.length H' (f ρ' S') D } := by
  cases r with
  | ok w S' =>
    cases w with
    | next ρ => exact fun m' H' σ' x rs er => ⟨m', ρ, S', rs, er, WS.from x h⟩
    | brk ρ => exact h
    | cont ρ => exact h
    | ret d => exact h
    | raised e ρ => exact h
  | exc e S' => exact h.elim
  | err => exact h.elim
theorem WS.turn {r : R Fl} {f : Env → Sto → R Fl} {N : L2.St → Hp → Prop} (h : WS g W m n H (r.turn f) D) (hN : ∀ m' ρ' S' σ' H', Ext m n H m' S'.length H' → RS g m' S' H' → EnvR g m' S'.length H' ρ' σ' → WS g W m' S'.length H' (f ρ' S') D → N σ' H') :
    WS g W m n H r { D with nx := N, ct := N, bk := D.nx } := by
  cases r with
  | ok w S' =>
    cases w with
    | next ρ => exact fun m' H' σ' x rs er => hN m' ρ S' σ' H' x rs er (WS.from x h)
    | brk ρ => exact h
    | cont ρ => exact fun m' H' σ' x rs er => hN m' ρ S' σ' H' x rs er (WS.from x h)
    | ret d => exact h
    | raised e ρ => exact h
  | exc e S' => exact h.elim
  | err => exact h.elim
theorem WS.ck {c : Prop} [Decidable c] {r : R Fl} (h : WS g W m n H (ck c r) D) : c ∧ WS g W m n H r D := by
  unfold Iv.ck at h
  by_cases hc : c
  · rw [if_pos hc] at h
    exact ⟨hc, h⟩
  · rw [if_neg hc] at h
    exact h.elim
theorem PS.imp {X : Cx} {st : Stmt} {t t' : TS} (h : PS X st t) (k : ∀ D σ H, t' D σ H → t D σ H) : PS X st t' := ⟨fun pins s σ H D I q => h.run pins s σ H D I (k D σ H q)⟩
theorem PSs.imp {X : Cx} {st : List Stmt} {t t' : TS} (h : PSs X st t) (k : ∀ D σ H, t' D σ H → t D σ H) : PSs X st t' := ⟨fun pins s σ H D I q => h.run pins s σ H D I (k D σ H q)⟩
abbrev tS (g : Gs) (W : L2.WX) (f : Env → Sto → R Fl) : TS := TSd g W f
theorem s_nil : PSs X [] (tS g W (exs F [])) := by
  refine PSs.imp pss_nil fun D σ H ⟨m, ρ, S, rs, er, w⟩ => ?_
  rw [exs] at w
  exact w.next rs er
theorem s_cons {st : Stmt} {sts : List Stmt} {i : St} {is : List St} (h1 : PS X st (tS g W (ex F i))) (h2 : PSs X sts (tS g W (exs F is))) : PSs X (st :: sts) (tS g W (exs F (i :: is))) := by
  refine PSs.imp (pss_cons h1 h2) fun D σ H ⟨m, ρ, S, rs, er, w⟩ => ?_
  rw [exs] at w
  exact ⟨m, ρ, S, rs, er, w.fl⟩
def notComp : Expr → Bool
  | .ListComp _ _ _ _ => false
  | .SetComp _ _ _ _ => false
  | .DictComp _ _ _ _ _ => false
  | _ => true
theorem swaps_ok {e : Expr} {t : Option Expr} {l : Nat} {env : PySem.Env} (h : notComp e = true) : swapsWith e t l env = pure false := by
  cases e <;> first | rfl | (exact absurd h Bool.false_ne_true)
theorem s_expr {e : Expr} {ie : E} (ok : notComp e = true) (he : PE X e (tE g W (ev F ie))) : PS X (.Expr e pos) (tS g W (ex F (.expr ie))) := by
  refine PS.imp (ps_expr he (swaps_ok ok)) fun D σ H ⟨m, ρ, S, rs, er, w⟩ => ?_
  rw [ex] at w
  refine ⟨m, ρ, S, rs, er, (WS.go (Ra := Rel g) rs er w).imp fun v H1 ⟨m1, S1, d, x1, rs1, er1, r1, w1⟩ => w1.next rs1 er1⟩
theorem s_ret {e : Expr} {ie : E} (he : PE X e (tE g W (ev F ie))) : PS X (.Return (some e) pos) (tS g W (ex F (.ret ie))) := by
  refine PS.imp (ps_ret he) fun D σ H ⟨m, ρ, S, rs, er, w⟩ => ?_
  rw [ex] at w
  refine ⟨m, ρ, S, rs, er, (WS.go (Ra := Rel g) rs er w).imp fun v H1 ⟨m1, S1, d, x1, rs1, er1, r1, w1⟩ => w1 m1 H1 v Ext.refl rs1 r1⟩
theorem s_retN : PS X (.Return none pos) (tS g W (ex F .retN)) := by
  refine PS.imp ps_retN fun D σ H ⟨m, ρ, S, rs, er, w⟩ => ?_
  rw [ex] at w
  exact w m H .non Ext.refl rs (by rw [rel_non])
theorem s_brk : PS X (.Break pos) (tS g W (ex F .brk)) := by
  refine PS.imp ps_break fun D σ H ⟨m, ρ, S, rs, er, w⟩ => ?_
  rw [ex] at w
  exact w m H σ Ext.refl rs er
theorem s_cont : PS X (.Continue pos) (tS g W (ex F .cont)) := by
  refine PS.imp ps_continue fun D σ H ⟨m, ρ, S, rs, er, w⟩ => ?_
  rw [ex] at w
  exact w m H σ Ext.refl rs er
theorem s_pass : PS X (.Pass pos) (tS g W (ex F .pass)) := by
  refine PS.imp ps_pass fun D σ H ⟨m, ρ, S, rs, er, w⟩ => ?_
  rw [ex] at w
  exact w.next rs er
theorem s_doc {x : Str} {j : Nat} {p2 : Pos} : PS X (.Expr (.Constant (.str x) j p2) pos) (tS g W (ex F .pass)) := by
  refine PS.imp ps_doc fun D σ H ⟨m, ρ, S, rs, er, w⟩ => ?_
  rw [ex] at w
  exact w.next rs er
theorem s_ite {c : Expr} {a b : List Stmt} {ic : E} {ia ib : List St} (hc : PT X c (tT g W (evT F ic))) (ha : PSs X a (tS g W (exs F ia))) (hb : PSs X b (tS g W (exs F ib))) : PS X (.If c a b pos) (tS g W (ex F (.ite ic ia ib))) := by
  refine PS.imp (ps_if hc ha hb) fun D σ H ⟨m, ρ, S, rs, er, w⟩ => ?_
  rw [ex] at w
  refine ⟨m, ρ, S, rs, er, (WS.go (Ra := RelB) rs er w).imp fun k H1 ⟨m1, S1, d, x1, rs1, er1, r1, w1⟩ => ?_⟩
  cases r1
  cases k with
  | true =>
    rw [if_pos rfl] at w1 ⊢
    exact ⟨m1, ρ, S1, rs1, er1, w1⟩
  | false =>
    rw [if_neg Bool.false_ne_true] at w1 ⊢
    exact ⟨m1, ρ, S1, rs1, er1, w1⟩
theorem asg_end {t : Tg} {d : Iv.D} {v : V} {Q : L2.St → Hp → Prop} (rs : RS g m S H) (er : EnvR g m S.length H ρ σ) (r : Rel g m S.length H d v) (w : WS g W m S.length H ((asg F t d ρ S).st fun ρ S => .ok (.next ρ) S) D) (hQ : ∀ σ H, D.nx σ H → Q σ H) : TGd g (asg F t) v σ H Q := by
  refine ⟨m, ρ, S, d, rs, er, r, ?_⟩
  cases h : asg F t d ρ S with
  | ok ρ1 S1 =>
    rw [h] at w
    exact fun m' H' σ' x rs' er' => hQ _ _ (w m' H' σ' x rs' er')
  | exc e S1 => rw [h] at w; exact w.elim
  | err => rw [h] at w; exact w.elim
theorem s_asg {tg e : Expr} {t : Tg} {ie : E} (he : PE X e (tE g W (ev F ie))) (hg : PG X tg (TGd g (asg F t))) (ok : noStar tg = true) (hs : swapsWithSole [tg] e pos.line X.env = pure false) (hw : swappedStores [tg] e X.env = pure none) : PS X (.Assign [tg] e pos) (tS g W (ex F (.asg t ie))) := by
  refine PS.imp (ps_asg he hg hs hw (by rw [assignEach_ok ok]; rfl)) fun D σ H ⟨m, ρ, S, rs, er, w⟩ => ?_
  rw [ex] at w
  refine ⟨m, ρ, S, rs, er, (WS.go (Ra := Rel g) rs er w).imp fun v H1 ⟨m1, S1, d, x1, rs1, er1, r1, w1⟩ => asg_end rs1 er1 r1 w1 fun _ _ z => z⟩
theorem op_augI {op : Bop} (hop : op = .add ∨ op = .sub ∨ op = .mul) : PIp X (opOf op) (r2 g (augR op)) := by
  rcases hop with rfl | rfl | rfl
  · refine OpR.imp (f := inplaceOp .Add) (iop_add.or (iop_add_str.or iop_ext)) fun x y H Q ⟨m, S, d, e, W, rs, rd, re, w⟩ => ?_
    cases d with
    | int i =>
      cases e with
      | int j =>
        rw [rel_int] at rd re
        exact .inl ⟨i, j, rd, re, w.now rs (by rw [rel_int])⟩
      | _ => exact w.elim
    | str a =>
      cases e with
      | str b =>
        obtain ⟨c, w⟩ := (show WP g W (Rel g) m S.length H (ck (a.length + b.length ≤ sizeLine) (.ok (.str (a ++ b)) S)) Q from w).ck
        rw [rel_str] at rd re
        exact .inr (.inl ⟨a, b, rd.1, re.1, c, w.now rs (by rw [rel_str]; exact ⟨rfl, rd.2.append re.2 c⟩)⟩)
      | _ => exact w.elim
    | ref i =>
      replace w : WP g W (Rel g) m S.length H (match cellAt S i, unbox S e with | some (.lst xs), .lst ys => ck (xs.length + ys.length ≤ sizeLine ∧ isRef e = false) (.ok (.ref i) (setAt S i (.lst (xs ++ ys)))) | _, _ => .err) Q := by
        cases e <;> exact w
      split at w
      · rename_i xs ys hz hy
        obtain ⟨⟨c1, c2⟩, w⟩ := w.ck
        obtain ⟨a, rfl, k, vs, hv, rv⟩ := rd.box rs hz
        obtain ⟨b, ws, rfl, kb, rb⟩ := unbox_rel rs re hy
        rw [rv.length, rb.length] at c1
        refine .inr (.inr ⟨a, b, vs, ws, rfl, rfl, hv, kb, c1, ?_⟩)
        have x := Ext.set (n := S.length) (o := .lst (vs ++ ws)) rs k
        have ln : (setAt S i (.lst (xs ++ ys))).length = S.length := by unfold setAt; rw [List.length_set]
        refine w m _ _ (by rw [ln]; exact x) (rs.set k ⟨_, upd_same, Rels.mono x _ _ (rv.append rb)⟩) ?_
        rw [ln]
        exact Rel.mono x _ _ rd
      · exact w.err
    | _ => exact w.elim
  · refine OpR.imp (f := inplaceOp .Sub) iop_sub fun x y H Q ⟨m, S, d, e, W, rs, rd, re, w⟩ => ?_
    cases d with
    | int i =>
      cases e with
      | int j =>
        rw [rel_int] at rd re
        exact ⟨i, j, rd, re, w.now rs (by rw [rel_int])⟩
      | _ => exact w.elim
    | _ => cases e <;> exact w.elim
  · refine OpR.imp (f := inplaceOp .Mult) iop_mul fun x y H Q ⟨m, S, d, e, W, rs, rd, re, w⟩ => ?_
    cases d with
    | int i =>
      cases e with
      | int j =>
        obtain ⟨c, w⟩ := (show WP g W (Rel g) m S.length H (ck (mulOk i j) (.ok (.int (i * j)) S)) Q from w).ck
        rw [rel_int] at rd re
        exact ⟨i, j, rd, re, c, w.now rs (by rw [rel_int])⟩
      | _ => exact w.elim
    | _ => cases e <;> exact w.elim
theorem s_aug {i : Nat} {x : Str} {e : Expr} {ie : E} {op : Bop} {p2 : Pos} (hN : X.N.Nodup) (hi : X.N[i]? = some x) (hx : Loc X.env.scope x) (hf : X.fn x = true ∨ X.env.scope.names.lookup x = some .local) (hop : op = .add ∨ op = .sub ∨ op = .mul) (he : PE X e (tE g W (ev F ie))) : PS X (.AugAssign (.Name x p2) (opOf op) e pos) (tS g W (ex F (.aug i op ie))) := by
  refine PS.imp (ps_aug hN hi hx he (op_augI (g := g) hop) hf) fun D σ H ⟨m, ρ, S, rs, er, w⟩ => ?_
  rw [ex] at w
  split at w
  · rename_i d hd
    obtain ⟨v, hv, rv⟩ := er.2 i d hd
    have w1 := WS.go (Ra := Rel g) rs er w
    refine ⟨v, hv, m, ρ, S, rs, er, (WP.bind (Ra := Rel g) w1).imp fun y H1 ⟨m1, S1, dy, x1, rs1, r1, w2⟩ => ?_⟩
    exact ⟨m1, S1, d, dy, _, rs1, Rel.mono x1 _ _ rv, r1, w2.imp fun z H2 ⟨m2, S2, dz, x2, rs2, er2, r2, w3⟩ => w3.next rs2 (er2.set r2)⟩
  · exact w.err
/-! loops -/
def ItR (g : Gs) (m : Mp) (n : Nat) (H : Hp) (w : Src × List Iv.D) (J : L2.It) : Prop :=
  ∀ m' S' H', ExtW m n H m' (List.length S') H' → RS g m' S' H' → w.1.there S' →
    (∀ (i : Nat) (d : Iv.D), w.2[i]? = some d → J.go i H' ∧ ∀ x H'', J.yld i H' x H'' → RS g m' S' H'' ∧ Ext m' S'.length H' m' S'.length H'' ∧ Rel g m' S'.length H'' d x) ∧ J.stop w.2.length H'
abbrev tI (g : Gs) (W : L2.WX) (f : Env → Sto → R (Src × List Iv.D)) : L2.TI := TI g W (ItR g) f
theorem s_for {tg iter : Expr} {body : List Stmt} {t : Tg} {it : Iv.It} {ib : List St} (hp : PassesOwn (model X.prog X.w) X.A X.env X.xe) (hc : X.calm = true) (oki : okE iter = true) (hi : PI X tg iter (tI g W (evIt F it))) (hg : PG X tg (TGd g (asg F t))) (hb : PSs X body (tS g W (exs F ib))) :
    PS X (.For tg iter body [] pos) (tS g W (ex F (.for t it ib))) := by
  refine PS.imp (ps_for hp hc hi hg hb (folded_ok oki)) fun D σ H ⟨m, ρ, S, rs, er, w⟩ => ?_
  rw [ex] at w
  refine ⟨m, ρ, S, rs, er, (WS.go (Ra := ItR g) rs er w).imp fun J H1 ⟨m1, S1, ⟨src, items⟩, x1, rs1, er1, r1, w1⟩ => ?_⟩
  generalize hstep : (fun d ρ S => (asg F t d ρ S).st fun ρ S => exs F ib ρ S : Iv.D → Env → Sto → R Fl) = step at w1
  refine ⟨fun i μ σ' H' => μ = items.length - i ∧ i ≤ items.length ∧ ∃ m' ρ' S', Ext m1 S1.length H1 m' S'.length H' ∧ RS g m' S' H' ∧ EnvR g m' S'.length H' ρ' σ' ∧ WS g W m' S'.length H' (forLoop src step (items.drop i) ρ' S') D, ⟨_, rfl, Nat.zero_le _, m1, ρ, S1, Ext.refl, rs1, er1, by rw [List.drop_zero]; exact w1⟩, ?_⟩
  rintro i μ σ' H' ⟨rfl, hi, m', ρ', S', x', rs', er', w'⟩
  cases hd : items.drop i with
  | nil =>
    have e : i = items.length := by
      have := List.drop_eq_nil_iff.mp hd
      omega
    rw [hd, forLoop] at w'
    obtain ⟨c, w'⟩ := w'.ck
    obtain ⟨_, st⟩ := r1 m' S' H' x'.w rs' c
    refine .inl ⟨by rw [e]; exact st, w'.next rs' er'⟩
  | cons d ds =>
    rw [hd, forLoop] at w'
    obtain ⟨c, w'⟩ := w'.ck
    obtain ⟨go, _⟩ := r1 m' S' H' x'.w rs' c
    have hlt : i < items.length := by
      rcases Nat.lt_or_ge i items.length with h | h
      · exact h
      · rw [List.drop_eq_nil_iff.mpr h] at hd
        cases hd
    rw [List.drop_eq_getElem_cons hlt] at hd
    injection hd with hd1 hd2
    obtain ⟨g1, g2⟩ := go i d (by rw [List.getElem?_eq_getElem hlt, hd1])
    refine .inr ⟨g1, _, fun σ2 H2 h2 => ⟨items.length - (i + 1), by omega, h2⟩, fun x H'' y => ?_⟩
    obtain ⟨rs'', x'', rx⟩ := g2 x H'' y
    have w'' := w'.from x''
    refine ⟨m', ρ', S', d, rs'', er'.mono x'', rx, ?_⟩
    rw [← hstep] at w''
    dsimp only at w''
    cases ha : asg F t d ρ' S' with
    | ok ρ2 S2 =>
      rw [ha] at w''
      simp only [R.st_ok] at w''
      intro m3 H3 σ3 x3 rs3 er3
      refine ⟨m3, ρ2, S2, rs3, er3, (w''.from x3).turn fun m4 ρ4 S4 σ4 H4 x4 rs4 er4 w4 => ?_⟩
      exact ⟨rfl, hlt, m4, ρ4, S4, ((x'.trans x'').trans x3).trans x4, rs4, er4, by rw [hd2, ← hstep]; exact w4⟩
    | exc e S2 => rw [ha] at w''; exact w''.elim
    | err => rw [ha] at w''; exact w''.elim
theorem s_while {c : Expr} {body : List Stmt} {ic : E} {ib : List St} (hp : PassesOwn (model X.prog X.w) X.A X.env X.xe) (hc : PT X c (tT g W (evT F ic))) (hb : PSs X body (tS g W (exs F ib))) : PS X (.While c body [] pos) (tS g W (ex F (.while ic ib))) := by
  refine PS.imp (ps_while hp hc hb) fun D σ H ⟨m, ρ, S, rs, er, w⟩ => ?_
  rw [ex] at w
  refine ⟨fun μ σ' H' => ∃ m' ρ' S', RS g m' S' H' ∧ EnvR g m' S'.length H' ρ' σ' ∧ WS g W m' S'.length H' (whileLoop (fun ρ S => (ev F ic ρ S).bind fun x S => tru x S) (fun ρ S => exs F ib ρ S) μ ρ' S') D, ⟨1000000, m, ρ, S, rs, er, w⟩, ?_⟩
  rintro μ σ' H' ⟨m', ρ', S', rs', er', w'⟩
  cases μ with
  | zero => exact w'.elim
  | succ μ =>
    rw [whileLoop] at w'
    refine ⟨m', ρ', S', rs', er', (WS.go (Ra := RelB) rs' er' w').imp fun k H1 ⟨m1, S1, d, x1, rs1, er1, r1, w1⟩ => ?_⟩
    cases r1
    cases k with
    | true =>
      rw [if_pos rfl] at w1 ⊢
      refine ⟨_, fun σ2 H2 h2 => ⟨μ, Nat.lt_succ_self _, h2⟩, m1, ρ', S1, rs1, er1, w1.turn fun m4 ρ4 S4 σ4 H4 x4 rs4 er4 w4 => ?_⟩
      exact ⟨m4, ρ4, S4, rs4, er4, w4⟩
    | false =>
      rw [if_neg Bool.false_ne_true] at w1 ⊢
      exact w1.next rs1 er1
end
end Iv

/-! ### walks -/
namespace Iv
open PySem PySem.Spec PyProof.Rows L2
section
variable {g : Gs} {W : L2.WX} {X : Cx} {F : CE} {m : Mp} {n : Nat} {H : Hp} {S : Sto} {σ : L2.St} {ρ : Env} {pos : Pos} {a : Addr} {xs : List Iv.D} {src : Src}
theorem walk_seq {d : Iv.D} (e : walkOf S d = some (src, xs)) : (∃ z, d = .str z) ∨ src.there S ∧ ∀ S', src.there S' → seqOf S' d = some xs := by
  cases d with
  | str z => exact .inl ⟨z, rfl⟩
  | tup zs => cases e; exact .inr ⟨trivial, fun _ _ => rfl⟩
  | lst zs => cases e; exact .inr ⟨trivial, fun _ _ => rfl⟩
  | scr zs => cases e; exact .inr ⟨trivial, fun _ _ => rfl⟩
  | ref i =>
    replace e : (match cellAt S i with | some (.lst xs) => some (Src.box i xs, xs) | _ => none) = some (src, xs) := e
    split at e
    · rename_i zs hz
      cases e
      refine .inr ⟨hz, fun S' h => ?_⟩
      replace h : cellAt S' i = some (.lst xs) := h
      rw [seqOf_ref, h]
    · cases e
  | _ => cases e
theorem Ext.same : Ext m n H m n H := Ext.refl
/-- a walk that makes nothing -/
theorem itr_still {J : L2.It} (h : ∀ m' S' H', ExtW m n H m' (List.length S') H' → RS g m' S' H' → src.there S' → ∃ vs, Rels g m' S'.length H' xs vs ∧ (∀ (i : Nat) (v : V), vs[i]? = some v → J.go i H' ∧ ∀ x H'', J.yld i H' x H'' → H'' = H' ∧ x = v) ∧ J.stop vs.length H') : ItR g m n H (src, xs) J := by
  intro m' S' H' x rs c
  obtain ⟨vs, r, k, st⟩ := h m' S' H' x rs c
  refine ⟨fun i d e => ?_, by rw [r.length]; exact st⟩
  obtain ⟨v, hv, rv⟩ := r.get e
  obtain ⟨k1, k2⟩ := k i v hv
  refine ⟨k1, fun y H'' q => ?_⟩
  obtain ⟨rfl, rfl⟩ := k2 y H'' q
  exact ⟨rs, Ext.refl, rv⟩
theorem itr_list (h : ∀ m' S' H', ExtW m n H m' (List.length S') H' → RS g m' S' H' → src.there S' → ∃ vs, SqL g.K H' a vs ∧ Rels g m' S'.length H' xs vs) : ItR g m n H (src, xs) (Itl g.K a) := by
  refine itr_still fun m' S' H' x rs c => ?_
  obtain ⟨vs, q, r⟩ := h m' S' H' x rs c
  refine ⟨vs, r, fun i v e => ⟨⟨vs, v, q, e⟩, fun y H'' z => ⟨z.1, ?_⟩⟩, ⟨vs, q, Nat.le_refl _⟩⟩
  have := z.2 vs q
  rw [e] at this
  cases this
  rfl
theorem itr_tup (h : ∀ m' S' H', ExtW m n H m' (List.length S') H' → RS g m' S' H' → src.there S' → ∃ vs, SqT g.K H' a vs ∧ Rels g m' S'.length H' xs vs) : ItR g m n H (src, xs) (Itt g.K a) := by
  refine itr_still fun m' S' H' x rs c => ?_
  obtain ⟨vs, q, r⟩ := h m' S' H' x rs c
  refine ⟨vs, r, fun i v e => ⟨⟨vs, v, q, e⟩, fun y H'' z => ⟨z.1, ?_⟩⟩, ⟨vs, q, Nat.le_refl _⟩⟩
  have := z.2 vs q
  rw [e] at this
  cases this
  rfl
theorem itr_str {z : Str} (ok : okS z) : ItR g m n H (.fix, z.cps.toList.map fun c => .str ⟨#[c]⟩) (Its z) := by
  intro m' S' H' x rs _
  refine ⟨fun i d e => ?_, by show z.cps.size ≤ _; rw [List.length_map, Array.length_toList]; exact Nat.le_refl _⟩
  rw [List.getElem?_map] at e
  obtain ⟨c, hc, rfl⟩ := Option.map_eq_some_iff.mp e
  have hi : i < z.cps.size := by
    have := (List.getElem?_eq_some_iff.mp hc).1
    rwa [Array.length_toList] at this
  refine ⟨hi, fun y H'' ⟨q1, c', q2, q3⟩ => ?_⟩
  subst q1
  rw [← Array.getElem?_toList, hc] at q2
  cases q2
  refine ⟨rs, Ext.refl, ?_⟩
  rw [rel_str]
  refine ⟨q3, by show 1 ≤ sizeLine; decide, fun u hu => ?_⟩
  have : u = c := by simpa using hu
  subst this
  exact ok.2 u (List.mem_of_getElem? hc)
theorem itr_rng {lo : Int} {k : Nat} : ItR g m n H (.fix, rngD lo k) (Itr lo k) := by
  intro m' S' H' x rs _
  refine ⟨fun i d e => ?_, by show k ≤ _; rw [rngD, List.length_map, List.length_range]; exact Nat.le_refl _⟩
  rw [rngD, List.getElem?_map] at e
  obtain ⟨j, hj, rfl⟩ := Option.map_eq_some_iff.mp e
  obtain ⟨hl, e2⟩ := List.getElem?_eq_some_iff.mp hj
  rw [List.getElem_range] at e2
  subst e2
  rw [List.length_range] at hl
  refine ⟨hl, fun y H'' ⟨q1, q2⟩ => ?_⟩
  subst q1
  exact ⟨rs, Ext.refl, by rw [rel_int]; exact q2⟩
theorem seq_list {d : Iv.D} {v : V} {H1 : Hp} {S1 : Sto} (rs : RS g m S H) (r : Rel g m S.length H d v) (hd : ∀ zs, d ≠ .tup zs) (e : seqOf S d = some xs) : ∃ a vs, v = .ref a ∧ Rels g m S.length H xs vs ∧ SqL g.K H a vs := by
  obtain ⟨a, vs, h, rr, k⟩ := seqOf_rel rs r e
  rcases k with ⟨k, _⟩ | ⟨_, k⟩
  · exact ⟨a, vs, h, rr, k⟩
  · exact absurd k (hd _)
theorem seq_tup {v : V} (rs : RS g m S H) (r : Rel g m S.length H (.tup xs) v) : ∃ a vs, v = .ref a ∧ Rels g m S.length H xs vs ∧ SqT g.K H a vs := by
  rw [rel_tup] at r
  obtain ⟨a, vs, h, k, rr⟩ := r
  exact ⟨a, vs, h, rr, k.sq⟩
theorem itr_enum (h : ∀ m' S' H', ExtW m n H m' (List.length S') H' → RS g m' S' H' → src.there S' → ∃ vs, SqL g.K H' a vs ∧ Rels g m' S'.length H' xs vs) : ItR g m n H (src, enumD 0 xs) (Ite g.K a) := by
  intro m' S' H' x rs c
  obtain ⟨vs, q, r⟩ := h m' S' H' x rs c
  refine ⟨fun i d e => ?_, ⟨vs, q, by show vs.length ≤ List.length _; rw [enumD, List.length_mapIdx, r.length]; exact Nat.le_refl _⟩⟩
  rw [enumD, List.getElem?_mapIdx] at e
  obtain ⟨d', hd, rfl⟩ := Option.map_eq_some_iff.mp e
  obtain ⟨v, hv, rv⟩ := r.get hd
  refine ⟨⟨vs, v, q, hv⟩, fun y H'' ⟨T, y', q1, q2, q3, q4⟩ => ?_⟩
  have hy := q4 vs q
  rw [hv] at hy
  cases hy
  subst q1 q3
  refine ⟨rs.laid q2, Ext.laid rs q2, ?_⟩
  rw [rel_tup]
  refine ⟨T, _, rfl, .inl ⟨upd_same, Off.free rs q2⟩, Rels.cons ?_ (Rels.cons (Rel.mono (Ext.laid rs q2) _ _ rv) Rels.nil)⟩
  rw [rel_int, Int.zero_add]
theorem itr_pair {J : L2.It} {ys : List Iv.D} (hl : xs.length = ys.length) (h : ∀ m' S' H', ExtW m n H m' (List.length S') H' → RS g m' S' H' → ∃ vs ws, Rels g m' S'.length H' xs vs ∧ Rels g m' S'.length H' ys ws ∧
    (∀ (i : Nat) (v w : V), vs[i]? = some v → ws[i]? = some w → J.go i H' ∧ ∀ x H'', J.yld i H' x H'' → ∃ T, x = .ref T ∧ H' T = none ∧ H'' = upd H' T (.tup [v, w])) ∧ (vs.length = ws.length → J.stop vs.length H')) : ItR g m n H (.fix, zipD xs ys) J := by
  intro m' S' H' x rs _
  obtain ⟨vs, ws, r1, r2, k, st⟩ := h m' S' H' x rs
  have l : vs.length = ws.length := by rw [← r1.length, ← r2.length, hl]
  refine ⟨fun i d e => ?_, ?_⟩
  · rw [zipD, List.getElem?_map] at e
    obtain ⟨p, hp, rfl⟩ := Option.map_eq_some_iff.mp e
    obtain ⟨p1, p2⟩ := p
    rw [List.getElem?_zip_eq_some] at hp
    obtain ⟨v, hv, rv⟩ := r1.get hp.1
    obtain ⟨w, hw, rw'⟩ := r2.get hp.2
    obtain ⟨k1, k2⟩ := k i v w hv hw
    refine ⟨k1, fun y H'' q => ?_⟩
    obtain ⟨T, q1, q2, q3⟩ := k2 y H'' q
    subst q1 q3
    refine ⟨rs.laid q2, Ext.laid rs q2, ?_⟩
    rw [rel_tup]
    exact ⟨T, _, rfl, .inl ⟨upd_same, Off.free rs q2⟩, Rels.cons (Rel.mono (Ext.laid rs q2) _ _ rv) (Rels.cons (Rel.mono (Ext.laid rs q2) _ _ rw') Rels.nil)⟩
  · have : (zipD xs ys).length = vs.length := by
      have := r2.length
      rw [zipD, List.length_map, List.length_zip, hl, Nat.min_self]
      omega
    show J.stop (zipD xs ys).length H'
    rw [this]
    exact st l
theorem evs1 {ie : E} : evs F [ie] ρ S = (ev F ie ρ S).bind fun x S => .ok [x] S := by
  rw [evs]
  rfl
theorem evs2 {ie ie2 : E} : evs F [ie, ie2] ρ S = (ev F ie ρ S).bind fun x S => (ev F ie2 ρ S).bind fun y S => .ok [x, y] S := by
  rw [evs]
  congr 1
  funext x S
  rw [evs1, R.bind_bind]
  rfl
theorem PI.imp {tg iter : Expr} {t t' : L2.TI} (h : PI X tg iter t) (k : ∀ σ H R, t' σ H R → t σ H R) : PI X tg iter t' := ⟨fun pins s σ H R I q => h.run pins s σ H R I (k σ H R q)⟩
theorem there_now {d : Iv.D} (e : walkOf S d = some (src, xs)) (hs : ∀ z, d ≠ .str z) : seqOf S d = some xs ∧ ∀ S', src.there S' → seqOf S' d = some xs := by
  rcases walk_seq e with ⟨z, h⟩ | ⟨h, k⟩
  · exact absurd h (hs z)
  · exact ⟨k S h, k⟩
theorem itr_of_list {d : Iv.D} (rs : RS g m S H) (r : Rel g m S.length H d (.ref a)) (hd : ∀ zs, d ≠ .tup zs) (k : ∀ S', src.there S' → seqOf S' d = some xs) :
    ∀ m' S' H', ExtW m S.length H m' (List.length S') H' → RS g m' S' H' → src.there S' → ∃ vs, SqL g.K H' a vs ∧ Rels g m' S'.length H' xs vs := by
  intro m' S' H' x rs' c
  obtain ⟨a', vs, e, rr, q⟩ := seq_list (H1 := H) (S1 := S) rs' (Rel.monoW x _ _ r) hd (k S' c)
  cases e
  exact ⟨vs, q, rr⟩
theorem w_e {tg e : Expr} {ie : E} (hK : X.K = g.K) (he : PE X e (tE g W (ev F ie))) : PI X tg e (tI g W (evIt F (.e ie))) := by
  refine ⟨fun pins s σ H R I ⟨m, ρ, S, rs, er, w⟩ => ?_⟩
  rw [evIt] at w
  refine thn (he.run pins s σ H (fun v H1 => ∃ m1 S1 d, RS g m1 S1 H1 ∧ Rel g m1 S1.length H1 d v ∧ WP g (fun c d H' => W c d σ H') (ItR g) m1 S1.length H1 (match walkOf S1 d with | some w => .ok w S1 | none => .err) R) I (TI.step rs er w fun v H1 m1 S1 d x1 rs1 er1 r1 w => ⟨m1, S1, d, rs1, r1, w⟩)) fun u s1 ⟨v, H1, I1, rv, m1, S1, d, rs1, r1, w⟩ => ?_
  cases hw : walkOf S1 d with
  | none => rw [hw] at w; exact w.err
  | some p =>
    obtain ⟨src, xs⟩ := p
    rw [hw] at w
    by_cases hs : ∃ z, d = .str z
    · obtain ⟨z, rfl⟩ := hs
      cases hw
      rw [rel_str] at r1
      obtain ⟨rfl, ok⟩ := r1
      obtain ⟨t, rfl⟩ := rv
      have q := w.now rs1 (itr_str ok)
      by_cases ha : z.cps.all (· < 128) = true
      · exact wpAny_pyIter_ascii ha (pi_one (tk := s1.toks) I1 _ (turn_str _ z t _ (.inl rfl)) ⟨_, Heap.get?_push_size _ rfl, rfl, rfl⟩ q)
      · have ha : z.cps.all (· < 128) = false := by simpa using ha
        exact wpAny_pyIter_wide ha (pi_one (tk := s1.toks) I1 _ (turn_str _ z t _ (.inr rfl)) ⟨_, Heap.get?_push_size _ rfl, rfl, rfl⟩ q)
    · have hs' : ∀ z, d ≠ .str z := fun z h => hs ⟨z, h⟩
      obtain ⟨e0, k⟩ := there_now hw hs'
      by_cases ht : ∃ zs, d = .tup zs
      · obtain ⟨zs, rfl⟩ := ht
        cases hw
        obtain ⟨a, vs, rfl, rr, q⟩ := seq_tup rs1 r1
        obtain rfl : u = Value.ref a := rv
        rw [← hK] at q
        obtain ⟨its, _, p, _⟩ := I1.tuple q
        have qq := w.now rs1 (itr_tup (a := a) fun m' S' H' x rs' _ => by
          obtain ⟨a', vs', e, rr', q'⟩ := seq_tup rs' (Rel.monoW x _ _ r1)
          cases e
          exact ⟨vs', q', rr'⟩)
        rw [← hK] at qq
        exact wpAny_pyIter_tuple (show s1.heap.IsTuple a its.toArray from p) (pi_one (tk := s1.toks) I1 _ (turn_tuple a _) ⟨_, Heap.get?_push_size _ rfl, rfl, rfl⟩ qq)
      · have hd : ∀ zs, d ≠ .tup zs := fun z h => ht ⟨z, h⟩
        obtain ⟨a, vs, rfl, rr, q⟩ := seq_list (H1 := H) (S1 := S) rs1 r1 hd e0
        obtain rfl : u = Value.ref a := rv
        rw [← hK] at q
        obtain ⟨its, _, p, _⟩ := I1.list q
        have qq := w.now rs1 (itr_list (itr_of_list rs1 r1 hd k))
        rw [← hK] at qq
        exact wpAny_pyIter_list p.isList (pi_one (tk := s1.toks) I1 _ (turn_list a _) ⟨_, Heap.get?_push_size _ rfl, rfl, rfl⟩ qq)
theorem w_rng1 {tg e : Expr} {ie : E} {p : Pos} (hg : Gl X "range") (hm : X.mg "range" = none) (ok : okE e = true) (ha : PA X [e] (tEs g W (evs F [ie]))) : PI X tg (.Call (.Name "range" p) [e] [] pos) (tI g W (evIt F (.rng1 ie))) := by
  refine PI.imp (pi_range1 hg hm ha (by rw [starEach_ok ok]; rfl)) fun σ H R ⟨m, ρ, S, rs, er, w⟩ => ?_
  rw [evIt] at w
  refine ⟨m, ρ, S, rs, er, ?_⟩
  show WP g _ (Rels g) m S.length H (evs F [ie] ρ S) _
  rw [evs1]
  cases hh : ev F ie ρ S with
  | ok d S1 =>
    rw [hh] at w
    simp only [Iv.R.bind_ok] at w ⊢
    intro m' H' vs x rs' r
    obtain ⟨v, rfl, rv⟩ := Rels.one r
    have w := w.from x
    split at w
    · obtain ⟨c, w⟩ := w.ck
      rw [rel_int] at rv
      exact ⟨_, by rw [rv], c.1, c.2, w.now rs' itr_rng⟩
    · exact w.err
  | exc x S1 => rw [hh] at w; exact w
  | err => rw [hh] at w; exact w
theorem w_rng2 {tg e e2 : Expr} {ie ie2 : E} {p : Pos} (hg : Gl X "range") (hm : X.mg "range" = none) (ok : okE e = true) (ok2 : okE e2 = true) (ha : PA X [e, e2] (tEs g W (evs F [ie, ie2]))) : PI X tg (.Call (.Name "range" p) [e, e2] [] pos) (tI g W (evIt F (.rng2 ie ie2))) := by
  refine PI.imp (pi_range2 hg hm ha (by rw [starEach_ok ok, starEach_ok ok2]; rfl) (by rw [starEach_ok ok2]; rfl)) fun σ H R ⟨m, ρ, S, rs, er, w⟩ => ?_
  rw [evIt] at w
  refine ⟨m, ρ, S, rs, er, ?_⟩
  show WP g _ (Rels g) m S.length H (evs F [ie, ie2] ρ S) _
  rw [evs2]
  cases hh : ev F ie ρ S with
  | ok d S1 =>
    rw [hh] at w
    simp only [Iv.R.bind_ok] at w ⊢
    cases hh2 : ev F ie2 ρ S1 with
    | ok d2 S2 =>
      rw [hh2] at w
      simp only [Iv.R.bind_ok] at w ⊢
      intro m' H' vs x rs' r
      obtain ⟨v, v2, rfl, rv, rv2⟩ := Rels.two r
      have w := w.from x
      split at w
      · obtain ⟨c, w⟩ := w.ck
        rw [rel_int] at rv rv2
        exact ⟨_, _, by rw [rv, rv2], ⟨c.1.1, c.1.2, c.2.1, c.2.2⟩, w.now rs' itr_rng⟩
      · exact w.err
    | exc x S1 => rw [hh2] at w; exact w
    | err => rw [hh2] at w; exact w
  | exc x S1 => rw [hh] at w; exact w
  | err => rw [hh] at w; exact w
theorem w_enum {e : Expr} {ie : E} {elts : List Expr} {kk : Nat} {tpos p : Pos} (hK : X.K = g.K) (hg : Gl X "enumerate") (hm : X.mg "enumerate" = none) (ok : okE e = true) (ha : PA X [e] (tEs g W (evs F [ie]))) : PI X (.Tuple elts kk tpos) (.Call (.Name "enumerate" p) [e] [] pos) (tI g W (evIt F (.enum none ie))) := by
  refine PI.imp (pi_enum hg hm ha (by rw [starEach_ok ok]; rfl)) fun σ H R ⟨m, ρ, S, rs, er, w⟩ => ?_
  rw [evIt] at w
  refine ⟨m, ρ, S, rs, er, ?_⟩
  show WP g _ (Rels g) m S.length H (evs F [ie] ρ S) _
  rw [evs1]
  cases hh : ev F ie ρ S with
  | ok d S1 =>
    rw [hh] at w
    simp only [Iv.R.bind_ok, evp] at w
    replace w : WP g (fun c d H' => W c d σ H') (ItR g) m S.length H (match walkL S1 d with | some w => ck ((none : Option Int) = none) (.ok (w.1, enumD 0 w.2) S1) | none => .err) R := w
    intro m' H' vs x rs' r
    obtain ⟨v, rfl, rv⟩ := Rels.one r
    replace w := w.from x
    cases hw : walkL S1 d with
    | none => rw [hw] at w; exact w.err
    | some pp =>
      obtain ⟨src, xs⟩ := pp
      rw [hw] at w
      obtain ⟨_, w⟩ := w.ck
      have hd : ∀ zs, d ≠ .tup zs := fun zs h => by subst h; cases hw
      have hs : ∀ zs, d ≠ .str zs := fun zs h => by subst h; cases hw
      have hw' : walkOf S1 d = some (src, xs) := by
        cases d <;> first | exact hw | cases hw
      obtain ⟨e0, k⟩ := there_now hw' hs
      obtain ⟨a, vs, rfl, rr, q⟩ := seq_list (H1 := H) (S1 := S) rs' rv hd e0
      have qq := w.now rs' (itr_enum (itr_of_list rs' rv hd k))
      rw [← hK] at q qq
      exact ⟨a, vs, rfl, q, qq⟩
  | exc x S1 => rw [hh] at w; exact w
  | err => rw [hh] at w; exact w
end
end Iv

/-! ### comprehensions -/
namespace Iv
open PySem PySem.Spec PyProof.Rows L2
abbrev noX : L2.WX := fun _ _ _ _ => False
section
variable {g : Gs} {W : L2.WX} {X : Cx} {F : CE} {m m' : Mp} {n : Nat} {H H' : Hp} {S S' : Sto} {σ : L2.St} {ρ : Env} {pos : Pos}
theorem RS.turn (rs : RS g m S H) (x : ExtW m S.length H m' S.length H') (hb : m'.box = m.box) (hc : ∀ i a, m i = some a → H' a = H a) (hh : ∀ a, m'.hid a → (∃ o, H' a = some o) ∧ ∀ i, m' i ≠ some a) : RS g m' S H' := by
  refine ⟨fun i a k => ?_, fun i c k => ?_, fun i j a h k => ?_, hh⟩
  · rw [hb] at k
    obtain ⟨c, e, q⟩ := rs.dom i a k
    exact ⟨c, e, q.monoW x (hc i a k)⟩
  · rw [hb]
    exact rs.all i c k
  · rw [hb] at h k
    exact rs.inj i j a h k
/-- a new list that only its owner sees -/
def mHide (m : Mp) (a : Addr) : Mp := ⟨m.box, fun b => m.hid b ∨ b = a⟩
theorem Ext.hide {D : Addr} {o : HO} (rs : RS g m S H) (e : H D = none) : Ext m S.length H (mHide m D) S.length (upd H D o) :=
  ⟨Nat.le_refl _, fun _ _ _ e => e, fun b ob k f => ⟨by rw [upd_ne (ne_of_none k e)]; exact k, f.1, fun h => h.elim f.2 fun z => by rw [z, e] at k; cases k⟩, fun b h => ⟨.inl h, upd_ne fun z => (Off.free rs e).2 (by rw [← z]; exact h)⟩⟩
theorem RS.hide {D : Addr} {o : HO} (rs : RS g m S H) (e : H D = none) : RS g (mHide m D) S (upd H D o) := by
  refine RS.turn rs (Ext.hide rs e).w rfl (fun i a k => upd_ne fun z => (Off.free rs e).1 i (by rw [← z]; exact k)) fun a h => ?_
  by_cases z : a = D
  · rw [z, upd_same]
    exact ⟨⟨_, rfl⟩, (Off.free rs e).1⟩
  · rw [upd_ne z]
    exact rs.hidS a (h.elim id fun q => absurd q z)
/-- the owner writes -/
theorem Ext.own {m1 : Mp} {H1 : Hp} {D : Addr} {o : HO} (x : Ext m1 n H1 m S.length H) (e : H1 D = none) (rs1 : ¬ m1.hid D) : Ext m1 n H1 m S.length (upd H D o) :=
  ⟨x.le, x.old, fun b ob k f => let ⟨k', f'⟩ := x.keep b ob k f; ⟨by rw [upd_ne (ne_of_none k e)]; exact k', f'⟩, fun b h => let ⟨h', k'⟩ := x.hid b h; ⟨h', by rw [upd_ne fun z => rs1 (by rw [← z]; exact h)]; exact k'⟩⟩
theorem ExtW.own {D : Addr} {o : HO} (hd : m.hid D) : ExtW m n H m n (upd H D o) :=
  ⟨Nat.le_refl _, fun _ _ _ e => e, fun b ob k f => ⟨by rw [upd_ne fun z => f.2 (by rw [z]; exact hd)]; exact k, f⟩⟩
theorem RS.own {D : Addr} {o : HO} (rs : RS g m S H) (hd : m.hid D) : RS g m S (upd H D o) := by
  refine RS.turn rs (ExtW.own hd) rfl (fun i a k => upd_ne fun z => (rs.hidS D hd).2 i (by rw [← z]; exact k)) fun a h => ?_
  by_cases z : a = D
  · rw [z, upd_same]
    exact ⟨⟨_, rfl⟩, (rs.hidS D hd).2⟩
  · rw [upd_ne z]
    exact rs.hidS a h
theorem lc_end {box : Bool} {m1 : Mp} {H1 : Hp} {S1 : Sto} {D : Addr} {vs : List V} {ys : List Iv.D} {Q : VK} {W' : Value → Option Addr → Hp → Prop} (rs1 : RS g m1 S1 H1) (hD : H1 D = none) (x : Ext m1 S1.length H1 m' S'.length H') (hd : m'.hid D) (rs' : RS g m' S' H') (e : H' D = some (.lst vs)) (r : Rels g m' S'.length H' ys vs)
    (w : WP g W' (Rel g) m1 S1.length H1 (mkL box ys S') Q) : Q (.ref D) H' := by
  have n1 : ¬ m1.hid D := (Off.free rs1 hD).2
  cases box with
  | false =>
    have xw : ExtW m' S'.length H' ⟨m'.box, m1.hid⟩ S'.length H' := ⟨Nat.le_refl _, fun _ _ _ e => e, fun a o e f => ⟨e, f.1, fun h => f.2 (x.hid a h).1⟩⟩
    refine w ⟨m'.box, m1.hid⟩ H' (.ref D) ⟨x.le, x.old, fun a o e f => let ⟨e', f'⟩ := x.keep a o e f; ⟨e', f'.1, f.2⟩, fun a h => ⟨h, (x.hid a h).2⟩⟩ (rs'.turn xw rfl (fun _ _ _ => rfl) fun a h => rs'.hidS a (x.hid a h).1) ?_
    rw [rel_lst]
    exact ⟨D, vs, rfl, ⟨e, (rs'.hidS D hd).2, n1⟩, Rels.monoW xw _ _ r⟩
  | true =>
    have ln : (S' ++ [some (Cell.lst ys)]).length = S'.length + 1 := by rw [List.length_append, List.length_singleton]
    have xw : ExtW m' S'.length H' (mNew ⟨m'.box, m1.hid⟩ S'.length D) (S'.length + 1) H' := by
      refine ⟨Nat.le_succ _, fun i b l k => ?_, fun a o e f => ⟨e, fun i k => ?_, fun h => f.2 (x.hid a h).1⟩⟩
      · rw [mNew_ne (Nat.ne_of_lt l)] at k
        exact k
      · by_cases hi : i = S'.length
        · rw [hi, mNew_same] at k
          cases k
          exact f.2 hd
        · rw [mNew_ne hi] at k
          exact f.1 i k
    refine w (mNew ⟨m'.box, m1.hid⟩ S'.length D) H' (.ref D) ?_ ?_ ?_
    · rw [ln]
      refine ⟨Nat.le_succ_of_le x.le, fun i b l k => ?_, fun a o k f => ?_, fun a h => ⟨h, (x.hid a h).2⟩⟩
      · rw [mNew_ne (Nat.ne_of_lt (Nat.lt_of_lt_of_le l x.le))] at k
        exact x.old i b l k
      · obtain ⟨k', f'⟩ := x.keep a o k f
        refine ⟨k', fun i q => ?_, f.2⟩
        by_cases hi : i = S'.length
        · rw [hi, mNew_same] at q
          cases q
          rw [hD] at k
          cases k
        · rw [mNew_ne hi] at q
          exact f'.1 i q
    · refine ⟨fun i b k => ?_, fun i c k => ?_, fun i j b h1 h2 => ?_, fun b h => ?_⟩
      · rw [ln]
        by_cases hi : i = S'.length
        · subst hi
          rw [mNew_same] at k
          cases k
          exact ⟨_, cellAt_push, vs, e, Rels.monoW xw _ _ r⟩
        · rw [mNew_ne hi] at k
          obtain ⟨c, h, q⟩ := rs'.dom i b k
          exact ⟨c, by rw [cellAt_push_lt (rs'.lt k)]; exact h, q.monoW xw rfl⟩
      · by_cases hi : i = S'.length
        · exact ⟨D, by rw [hi, mNew_same]⟩
        · have hl := cellAt_lt k
          rw [ln] at hl
          have hl' : i < S'.length := by omega
          rw [cellAt_push_lt hl'] at k
          rw [mNew_ne hi]
          exact rs'.all i c k
      · by_cases hi : i = S'.length
        · by_cases hj : j = S'.length
          · rw [hi, hj]
          · rw [hi, mNew_same] at h1
            rw [mNew_ne hj] at h2
            cases h1
            exact absurd h2 ((rs'.hidS D hd).2 j)
        · by_cases hj : j = S'.length
          · rw [hj, mNew_same] at h2
            rw [mNew_ne hi] at h1
            cases h2
            exact absurd h1 ((rs'.hidS D hd).2 i)
          · rw [mNew_ne hi] at h1
            rw [mNew_ne hj] at h2
            exact rs'.inj i j b h1 h2
      · obtain ⟨q1, q2⟩ := rs'.hidS b (x.hid b h).1
        refine ⟨q1, fun i k => ?_⟩
        by_cases hi : i = S'.length
        · rw [hi, mNew_same] at k
          cases k
          exact n1 h
        · rw [mNew_ne hi] at k
          exact q2 i k
    · rw [rel_ref, ln]
      exact ⟨Nat.lt_succ_self _, D, rfl, fun b hb => by rw [mNew_same] at hb; cases hb; rfl⟩
theorem lcLoop_form {src : Src} {step : Iv.D → Sto → R (List Iv.D)} : ∀ {items : List Iv.D} {S : Sto}, (∃ ys S', lcLoop src step items S = .ok ys S') ∨ lcLoop src step items S = .err
  | [], S => by
    rw [lcLoop]
    unfold ck
    split
    · exact .inl ⟨_, _, rfl⟩
    · exact .inr rfl
  | d :: ds, S => by
    rw [lcLoop]
    unfold ck
    split
    · cases step d S with
      | ok xs S1 =>
        dsimp only
        rcases lcLoop_form (src := src) (step := step) (items := ds) (S := S1) with ⟨ys, S2, h⟩ | h
        · rw [h]; exact .inl ⟨_, _, rfl⟩
        · rw [h]; exact .inr rfl
      | exc _ _ => exact .inr rfl
      | err => exact .inr rfl
    · exact .inr rfl
theorem lcLoop_nil {src : Src} {step : Iv.D → Sto → R (List Iv.D)} {rest : List Iv.D} {Sf : Sto} (h : lcLoop src step [] S = .ok rest Sf) : src.there S ∧ rest = [] ∧ Sf = S := by
  rw [lcLoop] at h
  unfold ck at h
  split at h
  · rename_i c
    injection h with h1 h2
    exact ⟨c, h1.symm, h2.symm⟩
  · cases h
theorem lcLoop_cons {src : Src} {step : Iv.D → Sto → R (List Iv.D)} {d : Iv.D} {ds rest : List Iv.D} {Sf : Sto} (h : lcLoop src step (d :: ds) S = .ok rest Sf) : src.there S ∧ ∃ xs S1 r2, step d S = .ok xs S1 ∧ lcLoop src step ds S1 = .ok r2 Sf ∧ rest = xs ++ r2 := by
  rw [lcLoop] at h
  unfold ck at h
  split at h
  · rename_i c
    refine ⟨c, ?_⟩
    cases hs : step d S with
    | ok xs S1 =>
      rw [hs] at h
      dsimp only at h
      cases hl : lcLoop src step ds S1 with
      | ok r2 S2 =>
        rw [hl] at h
        dsimp only at h
        injection h with h1 h2
        subst h2
        exact ⟨xs, S1, r2, rfl, hl, h1.symm⟩
      | exc _ _ => rw [hl] at h; cases h
      | err => rw [hl] at h; cases h
    | exc _ _ => rw [hs] at h; cases h
    | err => rw [hs] at h; cases h
  · cases h
theorem bind_ok {α β : Type} {r : R α} {f : α → Sto → R β} {b : β} (h : r.bind f = .ok b S') : ∃ a S1, r = .ok a S1 ∧ f a S1 = .ok b S' := by
  cases r with
  | ok a S1 => exact ⟨a, S1, rfl, h⟩
  | exc _ _ => cases h
  | err => cases h
variable {own : List Nat} {t : Tg} {it : Iv.It} {iifs : List E} {ie : E} {box : Bool}
noncomputable abbrev lcStep (F : CE) (own : List Nat) (t : Tg) (iifs : List E) (ie : E) (ρ : Env) : Iv.D → Sto → R (List Iv.D) := fun d S => (asg F t d (wipeE ρ own) S).bind fun ρ1 S => (evIfs F iifs ρ1 S).bind fun k S => if k = true then (ev F ie ρ1 S).bind fun y S => .ok [y] S else .ok [] S
theorem drop_cons {α : Type} {l ds : List α} {d : α} {i : Nat} (h : l.drop i = d :: ds) : i < l.length ∧ l[i]? = some d ∧ l.drop (i + 1) = ds := by
  have hlt : i < l.length := by
    rcases Nat.lt_or_ge i l.length with q | q
    · exact q
    · rw [List.drop_eq_nil_iff.mpr q] at h
      cases h
  rw [List.drop_eq_getElem_cons hlt] at h
  injection h with h1 h2
  exact ⟨hlt, by rw [List.getElem?_eq_getElem hlt, h1], h2⟩
theorem lc_body {Q : VK} (rs : RS g m S H) (er : EnvR g m S.length H ρ σ) (w : WP g (fun c d H' => W c d σ H') (Rel g) m S.length H (ev F (.lc box own t it iifs ie) ρ S) Q) :
    tLc (tI g W (evIt F it)) (TGv g own (asg F t)) (tT g noX (evIfs F iifs)) (tE g noX (ev F ie)) own σ H Q := by
  rw [ev] at w
  refine TI.step (Ra := ItR g) rs er w fun J H1 m1 S1 ⟨src, items⟩ x1 rs1 er1 it1 w => ?_
  intro D hD
  dsimp only at w
  rcases lcLoop_form (src := src) (step := lcStep F own t iifs ie ρ) (items := items) (S := S1) with ⟨ys, Sf, hL⟩ | hL
  · rw [hL] at w
    obtain ⟨hy, w⟩ := (show WP g _ (Rel g) m1 S1.length H1 (ck (ys.length ≤ sizeLine) (mkL box ys Sf)) Q from w).ck
    have n1 : ¬ m1.hid D := (Off.free rs1 hD).2
    refine ⟨fun i μ H' => μ = items.length - i ∧ i ≤ items.length ∧ ∃ m' S' acc vs rest, Ext m1 S1.length H1 m' (List.length S') H' ∧ m'.hid D ∧ RS g m' S' H' ∧ H' D = some (.lst vs) ∧ Rels g m' S'.length H' acc vs ∧ lcLoop src (lcStep F own t iifs ie ρ) (items.drop i) S' = .ok rest Sf ∧ acc ++ rest = ys,
      ⟨_, rfl, Nat.zero_le _, mHide m1 D, S1, [], [], ys, Ext.hide rs1 hD, .inr rfl, rs1.hide hD, upd_same, Rels.nil, by rw [List.drop_zero]; exact hL, rfl⟩, ?_⟩
    rintro i μ H' ⟨rfl, hi, m', S', acc, vs, rest, x', hd', rs', e', ra, hl, hs⟩
    cases hdr : items.drop i with
    | nil =>
      have e : i = items.length := by
        have := List.drop_eq_nil_iff.mp hdr
        omega
      rw [hdr] at hl
      obtain ⟨c, rfl, rfl⟩ := lcLoop_nil hl
      rw [List.append_nil] at hs
      subst hs
      obtain ⟨_, st⟩ := it1 m' _ H' x'.w rs' c
      exact .inl ⟨by rw [e]; exact st, lc_end rs1 hD x' hd' rs' e' ra w⟩
    | cons d ds =>
      rw [hdr] at hl
      obtain ⟨c, xs, S2, r2, hstep, hl2, rfl⟩ := lcLoop_cons hl
      obtain ⟨hlt, hget, hds⟩ := drop_cons hdr
      obtain ⟨g1, g2⟩ := (it1 m' S' H' x'.w rs' c).1 i d hget
      refine .inr ⟨g1, _, fun H2 h2 => ⟨items.length - (i + 1), by omega, h2⟩, fun v H'' yv => ?_⟩
      obtain ⟨rs'', x'', rx⟩ := g2 v H'' yv
      have x3 := x'.trans x''
      have e3 : H'' D = some (.lst vs) := (x''.hid D hd').2.trans e'
      have ra3 := Rels.mono x'' _ _ ra
      refine ⟨m', wipeE ρ own, S', d, rs'', (er1.mono x3).wiped own, rx, ?_⟩
      obtain ⟨ρ1, Sa, ha, hstep⟩ := bind_ok hstep
      rw [ha]
      intro m4 H4 σ4 x4 rs4 ⟨er4, k4⟩
      refine ⟨k4.wiped, m4, ρ1, Sa, rs4, er4, ?_⟩
      obtain ⟨k, Sb, hk, hstep⟩ := bind_ok hstep
      rw [hk]
      intro m5 H5 b x5 rs5 rb
      cases rb
      have x5' := (x3.trans x4).trans x5
      have e5 : H5 D = some (.lst vs) := (((x4.trans x5).hid D (x''.hid D hd').1).2).trans e3
      have hd5 : m5.hid D := ((x4.trans x5).hid D (x''.hid D hd').1).1
      have ra5 := Rels.mono (x4.trans x5) _ _ ra3
      cases k with
      | false =>
        rw [if_neg Bool.false_ne_true] at hstep ⊢
        injection hstep with q1 q2
        subst q1 q2
        exact ⟨rfl, hlt, m5, Sb, acc, vs, r2, x5', hd5, rs5, e5, ra5, by rw [hds]; exact hl2, by rw [← hs]; rfl⟩
      | true =>
        rw [if_pos rfl] at hstep ⊢
        refine ⟨m5, ρ1, Sb, rs5, er4.mono x5, ?_⟩
        obtain ⟨y, Sc, hyv, hstep⟩ := bind_ok hstep
        injection hstep with q1 q2
        subst q1 q2
        rw [hyv]
        intro m6 H6 yv x6 rs6 r6
        have e6 : H6 D = some (.lst vs) := (x6.hid D hd5).2.trans e5
        have hd6 : m6.hid D := (x6.hid D hd5).1
        have hlen : vs.length < sizeLine := by
          rw [← ra.length]
          have : (acc ++ ([y] ++ r2)).length ≤ sizeLine := by rw [hs]; exact hy
          simp only [List.length_append, List.length_cons, List.length_nil] at this
          omega
        refine ⟨vs, e6, hlen, rfl, hlt, m6, Sc, acc ++ [y], vs ++ [yv], r2, (x5'.trans x6).own hD n1, hd6, rs6.own hd6, upd_same, Rels.append (Rels.monoW (ExtW.own hd6) _ _ (Rels.mono x6 _ _ ra5)) (Rels.cons (Rel.monoW (ExtW.own hd6) _ _ r6) Rels.nil), by rw [hds]; exact hl2, by rw [← hs, List.append_assoc]⟩
  · rw [hL] at w
    exact w.err
theorem ifs_nil : PTs X [] (tT g W (evIfs F [])) := by
  refine ⟨fun pins s σ H Q I ⟨m, ρ, S, rs, er, w⟩ => pts_nil.run pins s σ H Q I ?_⟩
  rw [evIfs] at w
  exact w.now rs rfl
theorem ifs_one {c : Expr} {ic : E} (hc : PT X c (tT g W (evT F ic))) : PTs X [c] (tT g W (evIfs F [ic])) := by
  refine ⟨fun pins s σ H Q I ⟨m, ρ, S, rs, er, w⟩ => (pts_one hc).run pins s σ H Q I ?_⟩
  have w : WP g (fun c d H' => W c d σ H') RelB m S.length H (evIfs F [ic] ρ S) Q := w
  rw [evIfs, ← R.bind_bind] at w
  refine TI.step (Ra := RelB) (f := evT F ic) rs er w fun k H1 m1 S1 d x1 rs1 er1 r1 w => ?_
  cases r1
  cases k with
  | true =>
    rw [if_pos rfl, evIfs] at w
    exact w.now rs1 rfl
  | false =>
    rw [if_neg Bool.false_ne_true] at w
    exact w.now rs1 rfl
theorem i_lc {elt tg iter : Expr} {ifs : List Expr} {scope : Scope} {own : List (Str × Nat)} (hc : X.calm = true) (hN : X.N.Nodup) (oki : okE iter = true) (hi : PI X tg iter (tI g W (evIt F it))) (ok : BlkOk X.N X.env.scope scope own)
    (hg : ∀ (s : Shared) (H : Hp) (C : Addr) (cl : List (Str × Addr)) (fp : List Addr), PG (X.blk s H scope (compEnvC scope cl C X.env) fp) tg (TGv g (own.map (·.2)) (asg F t)))
    (ht : ∀ (s : Shared) (H : Hp) (C : Addr) (cl : List (Str × Addr)) (fp : List Addr), PTs (X.blk s H scope (compEnvC scope cl C X.env) fp) ifs (tT g noX (evIfs F iifs)))
    (he : ∀ (s : Shared) (H : Hp) (C : Addr) (cl : List (Str × Addr)) (fp : List Addr), PE (X.blk s H scope (compEnvC scope cl C X.env) fp) elt (tE g noX (ev F ie))) :
    PE X (.ListComp elt [⟨tg, iter, ifs, 0⟩] scope pos) (tE g W (ev F (.lc box (own.map (·.2)) t it iifs ie))) :=
  PE.imp (pe_lc hc hN hi ok hg ht he (folded_ok oki)) fun σ H Q ⟨m, ρ, S, rs, er, w⟩ => lc_body rs er w
theorem s_setLc {i : Nat} {y : Str} {py spos : Pos} {elt tg iter : Expr} {ifs : List Expr} {scope : Scope} {own : List (Str × Nat)} (hc : X.calm = true) (hN : X.N.Nodup) (hy : X.N[i]? = some y) (hyl : X.env.scope.names.lookup y = some .local)
    (hsw : swapsWith (.ListComp elt [⟨tg, iter, ifs, 0⟩] scope pos) (some (.Name y py)) spos.line X.env = pure true) (oki : okE iter = true) (hi : PI X tg iter (tI g W (evIt F it))) (ok : BlkOk X.N X.env.scope scope own)
    (hg : ∀ (s : Shared) (H : Hp) (C : Addr) (cl : List (Str × Addr)) (fp : List Addr), PG (X.blk s H scope (compEnvC scope cl C X.env) fp) tg (TGv g (own.map (·.2)) (asg F t)))
    (ht : ∀ (s : Shared) (H : Hp) (C : Addr) (cl : List (Str × Addr)) (fp : List Addr), PTs (X.blk s H scope (compEnvC scope cl C X.env) fp) ifs (tT g noX (evIfs F iifs)))
    (he : ∀ (s : Shared) (H : Hp) (C : Addr) (cl : List (Str × Addr)) (fp : List Addr), PE (X.blk s H scope (compEnvC scope cl C X.env) fp) elt (tE g noX (ev F ie))) :
    PS X (.Assign [.Name y py] (.ListComp elt [⟨tg, iter, ifs, 0⟩] scope pos) spos) (tS g W (ex F (.asg (.var i) (.lc box (own.map (·.2)) t it iifs ie)))) := by
  refine PS.imp (ps_setLc hc hN hy hyl hsw hi ok hg ht he (folded_ok oki)) fun D σ H ⟨m, ρ, S, rs, er, w⟩ => ?_
  rw [ex] at w
  have q := WS.go (Ra := Rel g) rs er w
  refine lc_body (ρ := ρ) rs er (q.imp fun v H1 ⟨m1, S1, d, x1, rs1, er1, r1, w1⟩ => ?_)
  rw [asg] at w1
  exact w1.next rs1 (er1.set r1)
end
end Iv

/-! ### sum from a start, ranges as tuples, two names at once -/
namespace Iv
open PySem PySem.Spec PyProof.Rows L2
theorem args_sumS (a v : Value) : argsOk "sum" ⟨[a], [(Str.ofString "start", v)]⟩ := by unfold argsOk; kernel_rfl
section
variable {prog : Program} {w : World} {A : Around} {E : Value → Shared → Prop} {s : Shared}
theorem callTreeKw {id : String} {b : Builtin} {args : List Value} {kw : List (Str × Value)} {Q : Value → Shared → Prop} (hk : builtinKind id = none) (hp : plainId id = true) (hb : entryFor table id = some b) (ha : argsOk id ⟨args, kw⟩)
    (hc : wpAny (model prog w) A.in1 (b ⟨args, kw⟩) (fun fin s' => match fin with
      | .done f => (match (Except.ok f : Result) with | .ok (.ret v) => Q v s' | .ok _ => False | .error e => E e s')
      | .again c' => c'.quiet = true ∧ codeAny (model prog w) A c' (fun r s' => match r with | .ok (.ret v) => Q v s' | .ok _ => False | .error e => E e s') s') E s) : wpAny (model prog w) A (call (.builtin id) args kw) Q E s := by
  refine wpAny_call (codeAny_call_builtin hp hb ?_)
  simp only [checkBuiltinCall, hk]
  cases hsig : Manifest.signature? id with
  | none => exact wpAny_pure hc
  | some sig =>
    have hx : Bind.checkArgs id sig ⟨args, kw⟩ = pure () := by simpa only [argsOk, hsig] using ha
    exact wpAny_of_eq hx hc
theorem walks_shift {I : Addr} {fp wr : List Addr} {n : Nat} {P : Nat → Value → Prop} {St : Nat → Heap → Prop} (W : Walks prog w A I fp wr n P St) (st : Int) :
    Walks prog w A I fp wr (n + 1) (fun i v => match i with | 0 => ∃ t, v = .int st t | i + 1 => P i v) (fun i h => match i with | 0 => False | i + 1 => St i h) where
  sub := W.sub
  frame := fun i h h' s k => match i, s with
    | 0, s => s
    | i + 1, s => W.frame i h h' s k
  item := fun i s Q E hi st hQ => match i, hi, st, hQ with
    | 0, _, st, _ => st.elim
    | i + 1, hi, st, hQ => W.item i s Q E (Nat.lt_of_succ_lt_succ hi) st hQ
  done := fun s Q E st hQ => W.done s Q E st hQ
  self := fun i s Q E st hQ => match i, st with
    | 0, st => st.elim
    | i + 1, st => W.self i s Q E st hQ
theorem preSum_shift (val : Nat → Int) (st : Int) : ∀ n, preSum (fun i => match i with | 0 => st | i + 1 => val i) (n + 1) = st + preSum val n
  | 0 => by simp [preSum]
  | n + 1 => by
    show preSum _ (n + 1) + val n = st + (preSum val n + val n)
    rw [preSum_shift val st n]
    omega
theorem sumS_walk {x : Value} {Q : Value → Shared → Prop} {st : Int} {tk0 : Tok}
    (h : wpAny (model prog w) A.in1 (pyIter x) (fun it s₂ => ∃ I fp wr n P St val, it = .ref I ∧ Walks prog w A.in1 I fp wr n P St ∧ St 0 s₂.heap ∧ (∀ b ∈ fp, b < s₂.heap.objs.size) ∧
      (∀ i v, P i v → ∃ t, v = .int (val i) t) ∧
      ∀ h' tk t', (∀ b o, b ∉ wr → s₂.heap.get? b = some o → h'.get? b = some o) → Q (.int (st + preSum val n) t') { s₂ with heap := h', toks := tk }) E s) :
    wpAny (model prog w) A (call (.builtin "sum") [x] [(Str.ofString "start", .int st tk0)]) Q E s := by
  refine callTreeKw F.kind_sum F.plain_sum F.entry_sum (args_sumS _ _) ?_
  unfold Builtin.«sum»
  simp only [List.length_cons, List.length_nil]
  rw [if_neg (by decide)]
  refine wpAny_bind (wpAny_of_eq (show Builtin.Builtins.bindParams "sum" ["start"] 0 ⟨[], [(Str.ofString "start", .int st tk0)]⟩ = pure [some (.int st tk0)] from rfl) ?_)
  refine wpAny_bind (wpAny_mono h (fun it s₂ h₂ => ?_) fun _ _ e => e)
  obtain ⟨I, fp, wr, n, P, St, val, rfl, W, hst, hfp, hval, hQ⟩ := h₂
  have rest : ∀ (tks : Nat) (tk1 : Tok) (stage : Int), (stage = 0 ∨ stage = 2) → wpAny (model prog w) A.in1 (do
      for (ty, what, hint) in [("str", "strings", "''"), ("bytes", "bytes", "b''"), ("bytearray", "bytearray", "b''")] do
        if ← isInstance (.int st tk1) (.type ty) then
          rule "sum.start-refused"; raiseError "TypeError" s!"sum() can't sum {what} [use {hint}.join(seq) instead]"
      again (.builtin "sum.loop" ⟨[.ref I, ← newList [.int st tk1], rawInt stage, rawInt 0], []⟩)) (fun fin s' => match fin with
      | .done f => (match (Except.ok f : Result) with | .ok (.ret v) => Q v s' | .ok _ => False | .error e => E e s')
      | .again c' => c'.quiet = true ∧ codeAny (model prog w) A c' (fun r s' => match r with | .ok (.ret v) => Q v s' | .ok _ => False | .error e => E e s') s') E { s₂ with toks := tks } := by
    intro tks tk1 stage hs
    simp only [List.forIn_cons, List.forIn_nil]
    refine wpAny_bind (wpAny_bind (wpAny_bind (wpAny_isInstance (T := "int") (b := false) (typeIs_int _ _ _) PySem.sub_int_str ?_)))
    simp only [Bool.false_eq_true, if_false]
    refine wpAny_pure (wpAny_bind (wpAny_bind (wpAny_isInstance (T := "int") (b := false) (typeIs_int _ _ _) PySem.sub_int_bytes ?_)))
    simp only [Bool.false_eq_true, if_false]
    refine wpAny_pure (wpAny_bind (wpAny_bind (wpAny_isInstance (T := "int") (b := false) (typeIs_int _ _ _) PySem.sub_int_bytearray ?_)))
    simp only [Bool.false_eq_true, if_false]
    refine wpAny_pure (wpAny_pure ?_)
    refine wpAny_bind (wpAny_newObj_type ?_)
    have hSf : s₂.heap.objs.size ∉ fp := fun hm => Nat.lt_irrefl _ (hfp _ hm)
    refine wpAny_pure ⟨plainId_quiet F.plain_sum_loop _, codeAny_sum_loopG (walks_shift W st) (fun i => match i with | 0 => st | i + 1 => val i) (fun i v => match i with | 0 => fun h => h | i + 1 => hval i v) s₂.heap.objs.size hSf n 1 _ tk1 0 stage hs (by omega) (by omega)
      (W.frame _ _ _ hst fun b _ o e => Heap.get?_push_of_some _ e) (by rw [show preSum (fun i => match i with | 0 => st | i + 1 => val i) 1 = st by simp [preSum]]; exact Heap.get?_push_size _ rfl) fun h' tk t' hk => ?_⟩
    have q := hQ h' tk t' fun b o hbw e => hk b o hbw (Nat.ne_of_lt (Heap.lt_size e)) (Heap.get?_push_of_some _ e)
    rw [preSum_shift]
    exact q
  dsimp only
  split
  · refine wpAny_bind (wpAny_rule (wpAny_bind (wpAny_mkInt (wpAny_bind (wpAny_pure ?_)))))
    exact rest _ _ 0 (.inl rfl)
  · refine wpAny_bind (wpAny_pure ?_)
    exact rest s₂.toks _ 2 (.inr rfl)
theorem sumS_raw {l : Addr} {its : List Value} {ns : List Int} {Q : Value → Shared → Prop} {st : Int} {tk0 : Tok} (hh : A.handled = none) (hl : s.heap.IsList l its.toArray) (hi : IntsAre its ns)
    (h : ∀ h' tk t', (∀ b o, s.heap.get? b = some o → h'.get? b = some o) → Q (.int (st + ns.sum) t') { s with heap := h', toks := tk }) : wpAny (model prog w) A (call (.builtin "sum") [.ref l] [(Str.ofString "start", .int st tk0)]) Q E s := by
  obtain ⟨xs, e⟩ := hi.allInts.items
  have hn : numsOf (intItems xs).toList = ns := by rw [← e]; exact hi.numsOf
  rw [nums_intItems] at hn
  rw [e] at hl
  refine sumS_walk (iter_intList hl fun s₂ e st hfp hlI => ?_)
  subst e
  refine ⟨_, _, _, _, _, _, numAt xs, rfl, Walks.list (A := A.in1) hh _ l hlI (intItems xs), st, hfp, (fun _ _ => intItems_at), fun h' tk t' hk => ?_⟩
  have := h h' tk t' (old_kept hk)
  rw [← hn] at this
  rw [preSum_eq, List.take_of_length_le (by simp [intItems])]
  exact this
end
section
variable {g : Gs} {W : L2.WX} {X : Cx} {F : CE} {p pos : Pos} {a b e : Expr} {ia ib ie : E}
def rSumS (K : PySem.W.Frag) : List V → List V → Hp → VK → Prop := fun vs zs H Q => ∃ (a : Addr) (ns : List Int) (i : Int), vs = [V.ref a] ∧ zs = [V.int i] ∧ SqL K H a (ns.map V.int) ∧ Q (.int (i + ns.sum)) H
theorem cr_sumS (hc : X.calm = true) : CallRK X (.builtin "sum") [Str.ofString "start"] (rSumS X.K) := by
  intro pins s σ H vs zs us ws Q I r rz h
  obtain ⟨a, ns, i, rfl, rfl, hs, q⟩ := h
  obtain ⟨its, rv, hl, _⟩ := I.list hs
  rw [Vals.ref1 r]
  cases rz with
  | cons r1 r2 =>
    cases r2
    obtain ⟨t, rfl⟩ := r1
    exact sumS_raw (I.ok.hd hc) hl.isList rv.ints fun h' tk t' hk => ⟨.int _, H, I.kept hk, ⟨_, rfl⟩, q⟩
theorem ints_rels {m : Mp} {n : Nat} {H : Hp} : ∀ {xs : List Iv.D} {vs : List V} {ns : List Int}, intsD xs = some ns → Rels g m n H xs vs → vs = ns.map V.int
  | [], vs, ns, h, r => by
    cases h
    unfold Rels at r
    exact r
  | x :: xs, vs, ns, h, r => by
    unfold Rels at r
    obtain ⟨w, ws, rfl, r1, r2⟩ := r
    cases x with
    | int i =>
      obtain ⟨ms, hm, rfl⟩ := Option.map_eq_some_iff.mp (show (intsD xs).map (i :: ·) = some ns from h)
      rw [rel_int] at r1
      rw [r1, ints_rels hm r2]
      rfl
    | _ => cases h
theorem i_sumS {kp : Pos} (hg : Gl X "sum") (hm : X.mg "sum" = none) (oke : okE e = true) (he : PA X [e] (tEs g W (evs F [ie]))) (ha : PE X a (tE g W (ev F ia))) (hK : X.K = g.K := by rfl) (hc : X.calm = true := by rfl) :
    PE X (.Call (.Name "sum" p) [e] [⟨some "start", a, kp⟩] pos) (tE g W (ev F (.bi .sumS [ie, ia]))) := by
  have hk : PK X [⟨some "start", a, kp⟩] (tEs g W (evs F [ia])) := k_cons ha k_nil
  refine PE.imp (pe_callBK (cr_sumS hc) hg hm (by decide +kernel) he hk (by decide) (by decide) (by rw [starEach_ok oke]; rfl) (by rw [starEach_ok oke]; rfl) (by rfl) (by rfl) (by rfl)) fun σ H Q ⟨m, ρ, S, rs, er, w⟩ => ?_
  rw [ev, evs2, R.bind_bind] at w
  refine ⟨m, ρ, S, rs, er, ?_⟩
  rw [evs1]
  cases hh : ev F ie ρ S with
  | ok d S1 =>
    rw [hh] at w
    simp only [R.bind_ok] at w ⊢
    intro m1 H1 vs x rs1 r1
    obtain ⟨v, rfl, rv⟩ := Rels.one r1
    have w := w.from x
    refine ⟨m1, ρ, S1, rs1, er.mono x, ?_⟩
    rw [evs1]
    cases hh2 : ev F ia ρ S1 with
    | ok d2 S2 =>
      rw [hh2] at w
      simp only [R.bind_ok] at w ⊢
      intro m2 H2 zs x2 rs2 r2
      obtain ⟨z, rfl, rz⟩ := Rels.one r2
      have w := w.from x2
      have rv2 := Rel.mono x2 _ _ rv
      cases d2 with
      | int i =>
        replace w : WP g (fun c d H' => W c d σ H') (Rel g) m2 S2.length H2 (match intsOf S2 d with | some ns => R.ok (D.int (i + ns.sum)) S2 | none => .err) Q := w
        cases hi : intsOf S2 d with
        | none => rw [hi] at w; exact w.err
        | some ns =>
          rw [hi] at w
          unfold intsOf at hi
          obtain ⟨xs, hx, hn⟩ := Option.bind_eq_some_iff.mp hi
          have hd : (∀ zs, d ≠ .tup zs) ∧ seqOf S2 d = some xs := by
            cases d <;> first | (cases hx; done) | exact ⟨fun _ h => (by cases h), hx⟩
          obtain ⟨q, us, rfl, rr, sq⟩ := seq_list (H1 := H) (S1 := S) rs2 rv2 hd.1 hd.2
          rw [ints_rels hn rr, ← hK] at sq
          rw [rel_int] at rz
          exact ⟨q, ns, i, rfl, by rw [rz], sq, w.now rs2 (by rw [rel_int])⟩
      | _ => exact w.err
    | exc x2 S2 => rw [hh2] at w; exact w
    | err => rw [hh2] at w; exact w
  | exc x S1 => rw [hh] at w; exact w
  | err => rw [hh] at w; exact w
/-- sorted of a list of data, downwards -/
def rSrtR (K : PySem.W.Frag) : List V → List V → Hp → VK → Prop := fun us zs H Q => ∃ (a : Addr) (vs : List V) (xs : List D), us = [.ref a] ∧ zs = [V.bl true] ∧ SqL K H a vs ∧ xs.length = vs.length ∧ (∀ p ∈ xs.zip vs, Dp K H p.2 p.1.py) ∧ sortable (D.pys xs) ∧
  (∀ x ∈ xs, x.py.depth ≤ 60) ∧ ∀ p, H p = none → Q (.ref p) (upd H p (.lst (((xs.zip vs).mergeSort fun a b => leR a.1 b.1).map Prod.snd)))
theorem cr_srtR {k : Nat} (hr : Room k X.A) : CallRK X (.builtin "sorted") [Str.ofString "reverse"] (rSrtR X.K) := by
  intro pins s σ H vs1 zs us ws Q I r rz h
  obtain ⟨a, vs, xs, rfl, rfl, hs, hl, hd, so, dp, q⟩ := h
  obtain ⟨its, rv, hpl, hz⟩ := I.list hs
  rw [Vals.ref1 r]
  cases rz with
  | cons r1 r2 =>
    cases r2
    have r1 : _ = Value.bool true := r1
    subst r1
    have e := vals_each hl rv
    have hmap : (xs.zip vs).map (fun b => b.1.py) = D.pys xs := by
      rw [pys_map]
      have := (map_fst_zip (xs := xs) (ys := vs) hl).1
      have h2 : (xs.zip vs).map (fun b => b.1.py) = ((xs.zip vs).map Prod.fst).map D.py := by rw [List.map_map]; rfl
      rw [h2, this]
    have un : X.A.units + 2 + 60 < cLine := by have := hr.un; omega
    refine PySem.W.sorted_rev_data (b := true) (bs := xs.zip vs) (enc := fun b => b.1.py) (R := fun u b => RelV b.2 u) hpl.isList e (each_imp e fun u b hb rb => ?_) (by rw [hmap]; exact so.1) (by rw [hmap]; exact so.2) (by rw [← e.length, ← rv.length]; exact hz) (fun b hb => ?_) fun out ho eo => ?_
    · exact Dp.reads I _ b.2 u (hd b hb) rb
    · have := dp b.1 (List.of_mem_zip hb).1
      omega
    · obtain ⟨ep, he'⟩ := PyProof.Rows.sortedAll_at s.heap its out.toArray
      have rv2 := each_vals eo
      have hlen : (((xs.zip vs).mergeSort fun a b => leR a.1 b.1).map Prod.snd).length ≤ sizeLine := by
        rw [List.length_map, List.length_mergeSort, List.length_zip, hl, Nat.min_self]
        exact hz
      exact ⟨.ref _, upd H (s.heap.objs.size + 1) (.lst (((xs.zip vs).mergeSort fun a b => leR a.1 b.1).map Prod.snd)), I.laid (t' := s.toks) (fun _ _ => PyProof.Rows.sortedAll_old) (Nat.le_succ _) ⟨hlen, out, ep, rv2, he'⟩, rfl, q _ (I.hok.fresh (Nat.le_succ _))⟩
theorem sortR_fst : ∀ (ps : List (D × V)), (ps.mergeSort fun a b => leR a.1 b.1).map Prod.fst = sortRD (ps.map Prod.fst) := fun ps => by
  unfold sortRD
  exact List.map_mergeSort fun a _ b _ => rfl
theorem i_sortR {box : Bool} {kp : Pos} {k : Nat} (hr : Room k X.A) (hg : Gl X "sorted") (hm : X.mg "sorted" = none) (oke : okE e = true) (he : PA X [e] (tEs g W (evs F [ie]))) (ha : PE X a (tE g W (ev F ia))) (hK : X.K = g.K := by rfl) (hc : X.calm = true := by rfl) :
    PE X (.Call (.Name "sorted" p) [e] [⟨some "reverse", a, kp⟩] pos) (tE g W (ev F (.bi (.sortedR box) [ie, ia]))) := by
  have hk : PK X [⟨some "reverse", a, kp⟩] (tEs g W (evs F [ia])) := k_cons ha k_nil
  refine PE.imp (pe_callBK (cr_srtR hr) hg hm (by decide +kernel) he hk (by decide) (by decide) (by rw [starEach_ok oke]; rfl) (by rw [starEach_ok oke]; rfl) (by rfl) (by rfl) (by rfl)) fun σ H Q ⟨m, ρ, S, rs, er, w⟩ => ?_
  rw [ev, evs2, R.bind_bind] at w
  refine ⟨m, ρ, S, rs, er, ?_⟩
  rw [evs1]
  cases hh : ev F ie ρ S with
  | ok d S1 =>
    rw [hh] at w
    simp only [R.bind_ok] at w ⊢
    intro m1 H1 vs x rs1 r1
    obtain ⟨v, rfl, rv⟩ := Rels.one r1
    have w := w.from x
    refine ⟨m1, ρ, S1, rs1, er.mono x, ?_⟩
    rw [evs1]
    cases hh2 : ev F ia ρ S1 with
    | ok d2 S2 =>
      rw [hh2] at w
      simp only [R.bind_ok] at w ⊢
      intro m2 H2 zs x2 rs2 r2
      obtain ⟨z, rfl, rz⟩ := Rels.one r2
      have w := w.from x2
      have rv2 := Rel.mono x2 _ _ rv
      have w2 : WP g (fun c d H' => W c d σ H') (Rel g) m2 S2.length H2 (biSortedR box S2 [d, d2]) Q := w
      clear w
      unfold biSortedR at w2
      split at w2
      · rename_i heq
        injection heq with e1 e2
        injection e2 with e2 _
        subst e1 e2
        rw [rel_bl] at rz
        split at w2
        · rename_i xs hx
          obtain ⟨a, vs, rfl, r3, q⟩ := lst_sq rs2 rv2 hx
          obtain ⟨⟨c1, c2, c3⟩, w2⟩ := w2.ck
          have r4 : ∀ p ∈ xs.zip vs, Rel g m2 S2.length H2 p.1 p.2 := r3.zip
          refine ⟨a, vs, xs, rfl, by rw [rz], by rw [hK]; exact q, r3.length, fun p hp => ?_, c3, fun x hx => ?_, fun p hp => ?_⟩
          · rw [hK]
            exact (py_lay p.1 p.2 (fzs_mem c1 (List.of_mem_zip hp).1) (r4 p hp)).2
          · rw [py_depth x (fzs_mem c1 hx)]
            exact Nat.le_trans (dps_mem hx) c2
          · refine mkL_ok (box := box) rs2 ?_ w2 hp
            have e : sortRD xs = ((xs.zip vs).mergeSort fun a b => leR a.1 b.1).map Prod.fst := by
              rw [sortR_fst, (map_fst_zip r3.length).1]
            rw [e]
            exact Rels.pairs fun p hp => r4 p ((List.mergeSort_perm _ _).mem_iff.mp hp)
        · exact w2.err
      · exact w2.err
    | exc x2 S2 => rw [hh2] at w; exact w
    | err => rw [hh2] at w; exact w
  | exc x S1 => rw [hh] at w; exact w
  | err => rw [hh] at w; exact w
theorem rels_rg {m : Mp} {n : Nat} {H : Hp} {i j : Int} : Rels g m n H (rngD i (j - i).toNat) (rgV i j) := by
  refine Rels.of (by rw [rgV_length, rngD, List.length_map, List.length_range]) fun k d v h1 h2 => ?_
  rw [rngD, List.getElem?_map] at h1
  unfold rgV at h2
  rw [List.getElem?_map] at h2
  obtain ⟨a, ha, rfl⟩ := Option.map_eq_some_iff.mp h1
  obtain ⟨b, hb, rfl⟩ := Option.map_eq_some_iff.mp h2
  rw [ha] at hb
  cases hb
  rw [rel_int]
theorem i_trng1 {p2 pos2 : Pos} (hg : Gl X "tuple") (hm : X.mg "tuple" = none) (hg2 : Gl X "range") (hm2 : X.mg "range" = none) (ok : okE a = true) (ha : PE X a (tE g W (ev F ia))) (hc : X.calm = true := by rfl) :
    PE X (.Call (.Name "tuple" p) [.Call (.Name "range" p2) [a] [] pos2] [] pos) (tE g W (ev F (.trng (.con (.int 0)) ia))) := by
  refine PE.imp (pe_tupRg hc hg hm (prg_1 hg2 hm2 ha (starEach_ok ok)) (by rfl)) fun σ H Q ⟨m, ρ, S, rs, er, w⟩ => ?_
  rw [ev, ev] at w
  simp only [R.bind_ok] at w
  refine TI.step rs er w fun v H1 m1 S1 d x1 rs1 er1 r1 w => ?_
  cases d with
  | int j =>
    rw [rel_int] at r1
    obtain ⟨c, w⟩ := (show WP g _ (Rel g) m1 S1.length H1 (ck (smallI 0 ∧ smallI j ∧ (j - 0).toNat ≤ 2 ^ 24) (.ok (.tup (rngD 0 (j - 0).toNat)) S1)) Q from w).ck
    exact ⟨j, r1, ⟨c.1.1, c.1.2, c.2.1.1, c.2.1.2, c.2.2⟩, fun q hq => mkT_ok rs1 rels_rg w hq⟩
  | _ => exact w.err
theorem i_trng2 {p2 pos2 : Pos} (hg : Gl X "tuple") (hm : X.mg "tuple" = none) (hg2 : Gl X "range") (hm2 : X.mg "range" = none) (ok : okE a = true) (ok2 : okE b = true) (ha : PE X a (tE g W (ev F ia))) (hb : PE X b (tE g W (ev F ib))) (hc : X.calm = true := by rfl) :
    PE X (.Call (.Name "tuple" p) [.Call (.Name "range" p2) [a, b] [] pos2] [] pos) (tE g W (ev F (.trng ia ib))) := by
  refine PE.imp (pe_tupRg hc hg hm (prg_2 hg2 hm2 ha hb (starEach_ok ok) (starEach_ok ok2) (by rw [starEach_ok ok2]; rfl)) (by rfl)) fun σ H Q ⟨m, ρ, S, rs, er, w⟩ => ?_
  rw [ev] at w
  refine TI.step rs er w fun v H1 m1 S1 d x1 rs1 er1 r1 w => ?_
  refine TI.step rs1 er1 w fun v2 H2 m2 S2 d2 x2 rs2 er2 r2 w => ?_
  cases d with
  | int i =>
    cases d2 with
    | int j =>
      rw [rel_int] at r1 r2
      obtain ⟨c, w⟩ := (show WP g _ (Rel g) m2 S2.length H2 (ck (smallI i ∧ smallI j ∧ (j - i).toNat ≤ 2 ^ 24) (.ok (.tup (rngD i (j - i).toNat)) S2)) Q from w).ck
      exact ⟨i, j, r1, r2, ⟨c.1.1, c.1.2, c.2.1.1, c.2.1.2, c.2.2⟩, fun q hq => mkT_ok rs2 rels_rg w hq⟩
    | _ => exact w.err
  | _ => exact w.err
theorem seqOf_tup {S : Sto} {xs : List Iv.D} : seqOf S (.tup xs) = some xs := rfl
theorem s_par2 {i j : Nat} {x y : Str} {px py pt : Pos} {kt k2 : Nat} {pt2 : Pos} (hN : X.N.Nodup) (ha : PA X [a, b] (tEs g W (evs F [ia, ib]))) (hi : X.N[i]? = some x := by rfl) (hj : X.N[j]? = some y := by rfl) (hij : i ≠ j := by decide)
    (hx : X.env.scope.names.lookup x = some .local := by rfl) (hy : X.env.scope.names.lookup y = some .local := by rfl) (hw : swappedStores [.Tuple [.Name x px, .Name y py] kt pt] (.Tuple [a, b] k2 pt2) X.env = pure (some [x, y]) := by rfl) (hc : X.calm = true := by rfl) :
    PS X (.Assign [.Tuple [.Name x px, .Name y py] kt pt] (.Tuple [a, b] k2 pt2) pos) (tS g W (ex F (.asg (.tup [.var i, .var j]) (.tup [ia, ib])))) := by
  refine PS.imp (ps_par hc hN hi hj hij hx hy ha hw) fun D σ H ⟨m, ρ, S, rs, er, w⟩ => ?_
  rw [ex, ev] at w
  cases hh : evs F [ia, ib] ρ S with
  | ok xs S1 =>
    have hl := evs_length hh
    match xs, hl with
    | [d, e], _ =>
      refine ⟨m, ρ, S, rs, er, ?_⟩
      rw [hh] at w ⊢
      intro m1 H1 vs x1 rs1 r1
      obtain ⟨v, v2, rfl, rv, rv2⟩ := Rels.two r1
      refine ⟨v, v2, rfl, ?_⟩
      have w : WS g W m S.length H ((ck (2 ≤ sizeLine) (R.ok (Iv.D.tup [d, e]) S1)).go ρ fun d S => (asg F (.tup [.var i, .var j]) d ρ S).st fun ρ S => .ok (.next ρ) S) D := w
      rw [ck_of (by decide), R.go_ok, asg, seqOf_tup] at w
      have w : WS g W m S.length H ((ck (2 = 2) (asgs F [.var i, .var j] [d, e] ρ S1)).st fun ρ S => .ok (.next ρ) S) D := w
      rw [ck_of rfl, asgs, asg, R.bind_ok, asgs, asg, R.bind_ok, asgs] at w
      exact w m1 H1 _ x1 rs1 (((er.mono x1).set rv).set rv2)
  | exc x S1 =>
    refine ⟨m, ρ, S, rs, er, ?_⟩
    rw [hh] at w ⊢
    exact fun m' H' c d x rs' q => w m' H' σ c d x rs' (er.mono x) q
  | err => rw [hh] at w; exact w.elim
theorem Rels.three {g : Gs} {m : Mp} {n : Nat} {d e f : Iv.D} {H : Hp} {vs : List V} (h : Rels g m n H [d, e, f] vs) : ∃ u v w, vs = [u, v, w] ∧ Rel g m n H d u ∧ Rel g m n H e v ∧ Rel g m n H f w := by
  unfold Rels at h
  obtain ⟨w, ws, rfl, r, q⟩ := h
  obtain ⟨z, u, rfl, s, t⟩ := q.two
  exact ⟨w, z, u, rfl, r, s, t⟩
theorem s_par3 {i j l : Nat} {x y z : Str} {a b c : Expr} {ia ib ic : Iv.E} {px py pz pt : Pos} {kt k2 : Nat} {pt2 : Pos} (hN : X.N.Nodup) (ha : PA X [a, b, c] (tEs g W (evs F [ia, ib, ic]))) (hi : X.N[i]? = some x := by rfl) (hj : X.N[j]? = some y := by rfl) (hl : X.N[l]? = some z := by rfl) (hij : i ≠ j := by decide) (hil : i ≠ l := by decide) (hjl : j ≠ l := by decide)
    (hx : X.env.scope.names.lookup x = some .local := by rfl) (hy : X.env.scope.names.lookup y = some .local := by rfl) (hz : X.env.scope.names.lookup z = some .local := by rfl) (hw : swappedStores [.Tuple [.Name x px, .Name y py, .Name z pz] kt pt] (.Tuple [a, b, c] k2 pt2) X.env = pure (some [x, y, z]) := by rfl) (hs : swapsWithSole [.Tuple [.Name x px, .Name y py, .Name z pz] kt pt] (.Tuple [a, b, c] k2 pt2) pos.line X.env = pure false := by rfl) (hc : X.calm = true := by rfl) :
    PS X (.Assign [.Tuple [.Name x px, .Name y py, .Name z pz] kt pt] (.Tuple [a, b, c] k2 pt2) pos) (tS g W (ex F (.asg (.tup [.var i, .var j, .var l]) (.tup [ia, ib, ic])))) := by
  refine PS.imp (ps_par3 hc hN hi hj hl hij hil hjl hx hy hz ha hw hs) fun D σ H ⟨m, ρ, S, rs, er, w⟩ => ?_
  rw [ex, ev] at w
  cases hh : evs F [ia, ib, ic] ρ S with
  | ok xs S1 =>
    have hl := evs_length hh
    match xs, hl with
    | [d, e, f], _ =>
      refine ⟨m, ρ, S, rs, er, ?_⟩
      rw [hh] at w ⊢
      intro m1 H1 vs x1 rs1 r1
      obtain ⟨v, v2, v3, rfl, rv, rv2, rv3⟩ := Rels.three r1
      refine ⟨v, v2, v3, rfl, ?_⟩
      have w : WS g W m S.length H ((ck (3 ≤ sizeLine) (R.ok (Iv.D.tup [d, e, f]) S1)).go ρ fun d S => (asg F (.tup [.var i, .var j, .var l]) d ρ S).st fun ρ S => .ok (.next ρ) S) D := w
      rw [ck_of (by decide), R.go_ok, asg, seqOf_tup] at w
      have w : WS g W m S.length H ((ck (3 = 3) (asgs F [.var i, .var j, .var l] [d, e, f] ρ S1)).st fun ρ S => .ok (.next ρ) S) D := w
      rw [ck_of rfl, asgs, asg, R.bind_ok, asgs, asg, R.bind_ok, asgs, asg, R.bind_ok, asgs] at w
      exact w m1 H1 _ x1 rs1 ((((er.mono x1).set rv).set rv2).set rv3)
  | exc x S1 =>
    refine ⟨m, ρ, S, rs, er, ?_⟩
    rw [hh] at w ⊢
    exact fun m' H' c d x rs' q => w m' H' σ c d x rs' (er.mono x) q
  | err => rw [hh] at w; exact w.elim
end
end Iv

/-! ### zip(.., strict=True) -/
namespace Wz
open PySem
open PySem.Sem (wp)
open Builtin.SmallTypes (nextOrEnd nextOf)
/-- a zip that is strict, as it stands -/
abbrev ZS (h : Heap) (z ti tu : Addr) (v0 : Value) : Prop := h.get? z = some { cls := .type "zip", dict := none, data := .fields #[v0, .bool false, .bool true, .ref ti, .ref tu], slots := #[] }
section
variable {prog : Program} {w : World} {A : Around} {E : Value → Shared → Prop} {s : Shared} {z ti tu j1 j2 : Addr} {fa fb : List Addr} {m1 m2 i : Nat} {Pa Pb : Nat → Value → Prop} {Sa Sb : Nat → Heap → Prop} {u1 u2 : Value}
theorem noe_item {n : Nat} {P : Nat → Value → Prop} {St : Nat → Heap → Prop} {it : Addr} {fp : List Addr} {Q : Option Value → Shared → Prop} (D : Draws prog w A it fp n P St) (st : St i s.heap) (hi : i < n)
    (q : ∀ v h' tk, P i v → St (i + 1) h' → Heap.SameBut it s.heap h' → Q (some v) { s with heap := h', toks := tk }) : wpAny (model prog w) A (nextOrEnd (.ref it)) Q E s := by
  unfold nextOrEnd
  exact wpAny_bind (wpAny_attempt (D.item i s _ _ hi st fun v h' tk p sn hs => wpAny_pure (q v h' tk p sn hs)))
theorem noe_end {n : Nat} {P : Nat → Value → Prop} {St : Nat → Heap → Prop} {it : Addr} {fp : List Addr} {Q : Option Value → Shared → Prop} (D : Draws prog w A it fp n P St) (st : St n s.heap)
    (q : ∀ h', Heap.ExtBut it s.heap h' → Q none { s with heap := h' }) : wpAny (model prog w) A (nextOrEnd (.ref it)) Q E s := by
  unfold nextOrEnd
  refine wpAny_bind (wpAny_attempt (D.done s _ _ st fun h' e hs he => ?_))
  obtain ⟨o, ho, hc⟩ := he
  exact wpAny_bind (wpAny_isInstance (T := "StopIteration") (b := true) ⟨o, ho, hc⟩ isSubtype_stop (wpAny_pure (q h' hs)))
theorem zs_item {Q : Value → Shared → Prop} (S : ZipSep2 z ti tu j1 j2 fa fb) (Da : Draws prog w A j1 fa m1 Pa Sa) (Db : Draws prog w A j2 fb m2 Pb Sb)
    (hz : ZS s.heap z ti tu .none) (ht : IsTupOf2 s.heap ti (.ref j1) (.ref j2)) (hu : IsTupOf2 s.heap tu u1 u2) (sa : Sa i s.heap) (sb : Sb i s.heap) (la : i < m1) (lb : i < m2)
    (q : ∀ x y h' tk, Pa i x → Pb i y → ZS h' z ti tu (rawInt s.heap.objs.size) → IsTupOf2 h' tu x y → Sa (i + 1) h' → Sb (i + 1) h' → IsTupOf2 h' s.heap.objs.size x y → h'.objs.size = s.heap.objs.size + 1 →
      (∀ c o, c ≠ z → c ≠ tu → c ≠ j1 → c ≠ j2 → s.heap.get? c = some o → h'.get? c = some o) → Q (.ref s.heap.objs.size) { s with heap := h', toks := tk }) :
    wpAny (model prog w) A (Builtin.«zip.__next__» ⟨[.ref z], []⟩) (fun fin s' => ∃ v, fin = .done (.ret v) ∧ Q v s') E s := by
  obtain ⟨hp, g, d, t0, os⟩ := s
  show wpAny _ _ (field (.ref z) 2 >>= _) _ _ _
  refine wpAny_bind (wpAny_field hz rfl (x := .bool true) rfl ?_)
  show wpAny _ _ (field (.ref z) 3 >>= _) _ _ _
  refine wpAny_bind (wpAny_field hz rfl (x := .ref ti) rfl ?_)
  refine wpAny_bind (wpAny_seqItems ht rfl ?_)
  show wpAny _ _ (Builtin.SmallTypes.ownedTupleIsFree (.ref z) >>= _) _ _ _
  refine wpAny_bind ?_
  unfold Builtin.SmallTypes.ownedTupleIsFree
  refine wpAny_bind (wpAny_field hz rfl (x := .none) rfl (wpAny_pure ?_))
  simp only [if_true]
  refine wpAny_bind (wpAny_rule ?_)
  refine wpAny_bind (wpAny_field hz rfl (x := .ref tu) rfl ?_)
  refine wpAny_bind (wpAny_setField_rec hz (by simp) fun g0 hz0 hs0 => ?_)
  replace hz0 : ZS g0 z ti tu .ellipsis := hz0
  replace hs0 : Heap.SameBut z hp g0 := hs0
  refine wpAny_bind ?_
  simp only [List.zipIdx_cons, List.zipIdx_nil, List.forIn_cons, List.forIn_nil]
  refine wpAny_bind (wpAny_bind (wpAny_onRaise ?_))
  show wpAny _ _ (nextOrEnd (.ref j1)) _ _ ⟨g0, g, d, t0, os⟩
  refine noe_item Da (Da.over sa hs0 S.zf1) la fun x1 p1 k1 hx1 sn1 hp1 => ?_
  replace hp1 : Heap.SameBut j1 g0 p1 := hp1
  have hv1 : IsTupOf2 p1 tu u1 u2 := hp1.extBut _ _ S.Ti1 (hs0.extBut _ _ S.TOz hu)
  refine wpAny_bind (wpAny_seqItems (s := ⟨p1, g, d, k1, os⟩) hv1 rfl ?_)
  refine wpAny_bind (updateSeq_IsTupOf2 (s := ⟨p1, g, d, k1, os⟩) hv1 fun g1 ha1 hs1 => ?_)
  replace ha1 : IsTupOf2 g1 tu x1 u2 := ha1
  replace hs1 : Heap.SameBut tu p1 g1 := hs1
  refine wpAny_bind (wpAny_letGo (wpAny_pure ?_))
  refine wpAny_bind (wpAny_bind (wpAny_onRaise ?_))
  show wpAny _ _ (nextOrEnd (.ref j2)) _ _ ⟨g1, g, d, k1, os⟩
  refine noe_item Db (Db.over (Db.over (Db.over sb hs0 S.zf2) hp1 S.sep1_2) hs1 S.Tf2) lb fun x2 p2 k2 hx2 sn2 hp2 => ?_
  replace hp2 : Heap.SameBut j2 g1 p2 := hp2
  have hv2 : IsTupOf2 p2 tu x1 u2 := hp2.extBut _ _ S.Ti2 ha1
  refine wpAny_bind (wpAny_seqItems (s := ⟨p2, g, d, k2, os⟩) hv2 rfl ?_)
  refine wpAny_bind (updateSeq_IsTupOf2 (s := ⟨p2, g, d, k2, os⟩) hv2 fun g2 ha2 hs2 => ?_)
  replace ha2 : IsTupOf2 g2 tu x1 x2 := ha2
  replace hs2 : Heap.SameBut tu p2 g2 := hs2
  refine wpAny_bind (wpAny_letGo (wpAny_pure (wpAny_pure ?_)))
  refine wpAny_bind (wpAny_seqItems (s := ⟨g2, g, d, k2, os⟩) ha2 rfl ?_)
  refine wpAny_bind (wpAny_newTuple ?_)
  have ez : g2.objs.size = hp.objs.size := by rw [hs2.1, hp2.1, hs1.1, hp1.1, hs0.1]
  have zz : ZS g2 z ti tu .ellipsis := (hs2.extBut _ _ S.TOz.symm (hp2.extBut _ _ S.zi2 (hs1.extBut _ _ S.TOz.symm (hp1.extBut _ _ S.zi1 hz0))))
  have kk : ∀ c o, c ≠ z → c ≠ tu → c ≠ j1 → c ≠ j2 → hp.get? c = some o → g2.get? c = some o := fun c o cz cT c1 c2 e =>
    (hs2.extBut _ _ cT (hp2.extBut _ _ c2 (hs1.extBut _ _ cT (hp1.extBut _ _ c1 (hs0.extBut _ _ cz e)))))
  have r1 : Sa (i + 1) g2 := (Da.over (Da.over (Da.over sn1 hs1 S.Tf1) hp2 S.sep2_1) hs2 S.Tf1)
  have r2 : Sb (i + 1) g2 := (Db.over sn2 hs2 S.Tf2)
  have zl : z < g2.objs.size := Heap.lt_size zz
  show wpAny _ _ (Builtin.SmallTypes.ownedTupleHandOut (.ref z) (.ref g2.objs.size) >>= _) _ _ ⟨g2.push { cls := .type "tuple", data := .seq #[x1, x2] }, g, d, k2, os⟩
  refine wpAny_bind ?_
  unfold Builtin.SmallTypes.ownedTupleHandOut
  have z6 : ZS (g2.push { cls := .type "tuple", data := .seq #[x1, x2] }) z ti tu .ellipsis := Heap.get?_push_of_some _ zz
  refine wpAny_bind (wpAny_setField_rec z6 (by simp) fun h7 z7 s7 => ?_)
  replace z7 : ZS h7 z ti tu (rawInt g2.objs.size) := z7
  refine wpAny_setField_rec z7 (by simp) fun h8 z8 s8 => ?_
  replace z8 : ZS h8 z ti tu (rawInt g2.objs.size) := z8
  replace s7 : Heap.SameBut z (g2.push { cls := .type "tuple", data := .seq #[x1, x2] }) h7 := s7
  replace s8 : Heap.SameBut z h7 h8 := s8
  have up : ∀ c o, c ≠ z → g2.get? c = some o → h8.get? c = some o := fun c o c1 e => s8.extBut _ _ c1 (s7.extBut _ _ c1 (Heap.get?_push_of_some _ e))
  have t8 : IsTupOf2 h8 g2.objs.size x1 x2 := s8.extBut _ _ (Nat.ne_of_gt zl) (s7.extBut _ _ (Nat.ne_of_gt zl) (Heap.get?_push_size _ rfl))
  have l8 : h8.objs.size = g2.objs.size + 1 := by rw [s8.1, s7.1, Heap.size_push]
  rw [ez] at z8 t8 l8
  refine wpAny_pure ⟨_, rfl, ?_⟩
  show Q (.ref g2.objs.size) ⟨h8, g, d, k2, os⟩
  rw [ez]
  exact q x1 x2 h8 k2 hx1 hx2 z8 (up _ _ S.TOz ha2) (Da.frame _ _ _ r1 fun b hb o e => up b o (fun q => S.zf1 (q ▸ hb)) e) (Db.frame _ _ _ r2 fun b hb o e => up b o (fun q => S.zf2 (q ▸ hb)) e) t8 l8 fun c o cz cT c1 c2 e => up c o cz (kk c o cz cT c1 c2 e)
/-- both end together -/
theorem zs_end {Q : Fin → Shared → Prop} (hh : A.handled = none) (S : ZipSep2 z ti tu j1 j2 fa fb) (Da : Draws prog w A j1 fa i Pa Sa) (Db : Draws prog w A j2 fb i Pb Sb)
    (hz : ZS s.heap z ti tu .none) (ht : IsTupOf2 s.heap ti (.ref j1) (.ref j2)) (hu : IsTupOf2 s.heap tu u1 u2) (sa : Sa i s.heap) (sb : Sb i s.heap)
    (q : ∀ h' tk e, (∀ c o, c ≠ z → c ≠ tu → c ≠ j1 → c ≠ j2 → s.heap.get? c = some o → h'.get? c = some o) → (∃ o, h'.get? e = some o ∧ o.cls = .type "StopIteration") → E (.ref e) { s with heap := h', toks := tk }) :
    wpAny (model prog w) A (Builtin.«zip.__next__» ⟨[.ref z], []⟩) Q E s := by
  obtain ⟨hp, g, d, t0, os⟩ := s
  show wpAny _ _ (field (.ref z) 2 >>= _) _ _ _
  refine wpAny_bind (wpAny_field hz rfl (x := .bool true) rfl ?_)
  show wpAny _ _ (field (.ref z) 3 >>= _) _ _ _
  refine wpAny_bind (wpAny_field hz rfl (x := .ref ti) rfl ?_)
  refine wpAny_bind (wpAny_seqItems ht rfl ?_)
  show wpAny _ _ (Builtin.SmallTypes.ownedTupleIsFree (.ref z) >>= _) _ _ _
  refine wpAny_bind ?_
  unfold Builtin.SmallTypes.ownedTupleIsFree
  refine wpAny_bind (wpAny_field hz rfl (x := .none) rfl (wpAny_pure ?_))
  simp only [if_true]
  refine wpAny_bind (wpAny_rule ?_)
  refine wpAny_bind (wpAny_field hz rfl (x := .ref tu) rfl ?_)
  refine wpAny_bind (wpAny_setField_rec hz (by simp) fun g0 hz0 hs0 => ?_)
  replace hz0 : ZS g0 z ti tu .ellipsis := hz0
  replace hs0 : Heap.SameBut z hp g0 := hs0
  refine wpAny_bind ?_
  simp only [List.zipIdx_cons, List.zipIdx_nil, List.forIn_cons, List.forIn_nil]
  refine wpAny_bind (wpAny_bind (wpAny_onRaise ?_))
  show wpAny _ _ (nextOrEnd (.ref j1)) _ _ ⟨g0, g, d, t0, os⟩
  refine noe_end Da (Da.over sa hs0 S.zf1) fun p1 hp1 => ?_
  replace hp1 : Heap.ExtBut j1 g0 p1 := hp1
  have hz1 : ZS p1 z ti tu .ellipsis := hp1 _ _ S.zi1 hz0
  refine wpAny_bind (wpAny_setField_rec (s := ⟨p1, g, d, t0, os⟩) hz1 (by simp) fun g1 hz2 hs1 => ?_)
  replace hs1 : Heap.SameBut z p1 g1 := hs1
  refine wpAny_bind ?_
  show wpAny _ _ (_ >>= _) _ _ _
  refine wpAny_bind ?_
  simp only [List.drop_succ_cons, List.drop_zero, List.zipIdx_cons, List.zipIdx_nil, List.forIn_cons, List.forIn_nil]
  refine wpAny_bind (wpAny_bind (noe_end Db (Db.over (Db.frame _ _ _ (Db.over sb hs0 S.zf2) fun b hb o e => hp1 b o (fun x => S.sep1_2 (x ▸ hb)) e) hs1 S.zf2) fun p2 hp2 => ?_))
  replace hp2 : Heap.ExtBut j2 g1 p2 := hp2
  simp only [Option.isSome_none, Bool.false_eq_true, if_false]
  refine wpAny_pure (wpAny_pure ?_)
  refine wpAny_bind (wpAny_rule ?_)
  show wpAny _ _ (newExc (.type "StopIteration") [] >>= _) _ _ ⟨p2, g, d, t0, os⟩
  refine wpAny_bind ?_
  simp only [newExc, newTuple]
  refine wpAny_bind (wpAny_newObj_type ?_ (by size_fits))
  refine wpAny_bind (m := firstArgMember _ _) (wpAny_of_eq (a := Value.none) (by first | rfl | (simp only [firstArgMember]; rfl)) ?_)
  refine wpAny_newObj_type ?_ (by size_fits)
  simp only [raiseNew]
  refine wpAny_bind (wpAny_handled ?_)
  first | rw [show A.in1.handled = none from hh] | rw [hh]
  refine wpAny_bind (wpAny_pure (wpAny_throw ?_))
  refine q _ _ _ (fun c o cz cT c1 c2 e => ?_) ⟨_, Heap.get?_push_size _ rfl, rfl⟩
  exact Heap.get?_push_of_some _ (Heap.get?_push_of_some _ (hp2 _ _ c2 (hs1.extBut _ _ cz (hp1 _ _ c1 (hs0.extBut _ _ cz e)))))
theorem zs_next_item {Q : Option Value → Shared → Prop} (S : ZipSep2 z ti tu j1 j2 fa fb) (Da : Draws prog w A.in1 j1 fa m1 Pa Sa) (Db : Draws prog w A.in1 j2 fb m2 Pb Sb)
    (hz : ZS s.heap z ti tu .none) (ht : IsTupOf2 s.heap ti (.ref j1) (.ref j2)) (hu : IsTupOf2 s.heap tu u1 u2) (sa : Sa i s.heap) (sb : Sb i s.heap) (la : i < m1) (lb : i < m2)
    (q : ∀ x y h' tk, Pa i x → Pb i y → ZS h' z ti tu (rawInt s.heap.objs.size) → IsTupOf2 h' tu x y → Sa (i + 1) h' → Sb (i + 1) h' → IsTupOf2 h' s.heap.objs.size x y → h'.objs.size = s.heap.objs.size + 1 →
      (∀ c o, c ≠ z → c ≠ tu → c ≠ j1 → c ≠ j2 → s.heap.get? c = some o → h'.get? c = some o) → Q (some (.ref s.heap.objs.size)) { s with heap := h', toks := tk }) :
    wpAny (model prog w) A (pyNext (.ref z)) Q E s := by
  have it : s.TypeIs (.ref z) "zip" := ⟨_, hz, rfl⟩
  unfold pyNext
  exact wpAny_bind (wpAny_attempt (wpAny_callSpecial?_slot (name := Str.ofString "__next__") it F.slot_zip_next (wpAny_call_entry F.slot_zip_next it F.entry_zip_next
    (zs_item S Da Db hz ht hu sa sb la lb fun x y h' tk y1 y2 b1 b2 d1 d2 b5 b6 b7 => wpAny_pure (q x y h' tk y1 y2 b1 b2 d1 d2 b5 b6 b7)) (F.args_zip_next_1 _))))
theorem zs_next_end {Q : Option Value → Shared → Prop} (hh : A.handled = none) (S : ZipSep2 z ti tu j1 j2 fa fb) (Da : Draws prog w A.in1 j1 fa i Pa Sa) (Db : Draws prog w A.in1 j2 fb i Pb Sb)
    (hz : ZS s.heap z ti tu .none) (ht : IsTupOf2 s.heap ti (.ref j1) (.ref j2)) (hu : IsTupOf2 s.heap tu u1 u2) (sa : Sa i s.heap) (sb : Sb i s.heap)
    (q : ∀ h' tk, (∀ c o, c ≠ z → c ≠ tu → c ≠ j1 → c ≠ j2 → s.heap.get? c = some o → h'.get? c = some o) → Q none { s with heap := h', toks := tk }) : wpAny (model prog w) A (pyNext (.ref z)) Q E s := by
  have it : s.TypeIs (.ref z) "zip" := ⟨_, hz, rfl⟩
  unfold pyNext
  refine wpAny_bind (wpAny_attempt (wpAny_callSpecial?_slot (name := Str.ofString "__next__") it F.slot_zip_next (wpAny_call_entry F.slot_zip_next it F.entry_zip_next
    (zs_end hh S Da Db hz ht hu sa sb fun h' tk e hk he => ?_) (F.args_zip_next_1 _))))
  obtain ⟨o, ho, hc⟩ := he
  exact wpAny_bind (wpAny_isInstance (T := "StopIteration") (b := true) ⟨o, ho, hc⟩ isSubtype_stop (wpAny_pure (q _ _ hk)))
end
end Wz
namespace Wz
open PySem
open PySem.Sem (wp)
open Builtin.SmallTypes (nextOrEnd nextOf)
theorem tc_zip (a b c : Value) : checkTypeCall "zip" ⟨[a, b], [(Str.ofString "strict", c)]⟩ = pure () := by kernel_rfl
theorem nc_zip (a b c : Value) : checkBuiltinCall "zip.__new__" ⟨[.type "zip", a, b], [(Str.ofString "strict", c)]⟩ = pure () := by kernel_rfl
theorem oi_zip (o a b c : Value) : argsOk "object.__init__" ⟨[o, a, b], [(Str.ofString "strict", c)]⟩ := by unfold argsOk; kernel_rfl
abbrev hT (h : Heap) (o1 o2 : Obj) : Heap := ((h.push o1).push o2).push { cls := .type "tuple", data := .seq #[.ref h.objs.size, .ref (h.push o1).objs.size] }
abbrev hU (h : Heap) (o1 o2 : Obj) : Heap := (hT h o1 o2).push { cls := .type "tuple", data := .seq #[.none, .none] }
abbrev hZ (h : Heap) (o1 o2 : Obj) : Heap := (hU h o1 o2).push { cls := .type "zip", data := .fields #[.none, .bool false, .bool true, .ref ((h.push o1).push o2).objs.size, .ref (hT h o1 o2).objs.size] }
theorem meets_zipStrict {v1 v2 : Value} {o1 o2 : Obj} {H1 H2 : Heap → Prop} (B1 : Begins v1 o1 H1) (B2 : Begins v2 o2 H2) :
    Meets (Builtin.«zip.__new__» ⟨[.type "zip", v1, v2], [(Str.ofString "strict", .bool true)]⟩) (fun _ R s => (H1 s.heap ∧ H2 s.heap) ∧ R (.ok (.ret (.ref (hU s.heap o1 o2).objs.size))) { s with heap := hZ s.heap o1 o2 }) :=
  .of_wp fun prog w A R s h => by
    obtain ⟨hp, g, d, tk, os⟩ := s; obtain ⟨⟨h1, h2⟩, h⟩ := h
    have isub := sub_zip
    have w1 : ∀ {A' : Around} {E : Value → Shared → Prop} {Q : Value → Shared → Prop}, Q (.ref hp.objs.size) ⟨hp.push o1, g, d, tk, os⟩ → wpAny (model prog w) A' (pyIter v1) Q E ⟨hp, g, d, tk, os⟩ :=
      fun q => B1.iter prog w _ _ ⟨hp, g, d, tk, os⟩ _ h1 q
    have w2 : ∀ {A' : Around} {E : Value → Shared → Prop} {Q : Value → Shared → Prop}, Q (.ref (hp.push o1).objs.size) ⟨(hp.push o1).push o2, g, d, tk, os⟩ → wpAny (model prog w) A' (pyIter v2) Q E ⟨hp.push o1, g, d, tk, os⟩ :=
      fun q => B2.iter prog w _ _ ⟨hp.push o1, g, d, tk, os⟩ _ (B2.keeps _ _ h2 fun b o' e => Heap.get?_push_of_some _ e) q
    have e1 : (Str.ofString "strict" != ("strict" : Str)) = false := by decide +kernel
    have e2 : (Str.ofString "strict" == ("strict" : Str)) = true := by decide +kernel
    wp_walk using w1, w2
    exact ⟨_, rfl, h⟩
section
variable {prog : Program} {w : World} {A : Around} {E : Value → Shared → Prop} {s : Shared}
theorem zs_begins {v1 v2 : Value} {o1 o2 : Obj} {H1 H2 : Heap → Prop} {Q : Value → Shared → Prop} (B1 : Begins v1 o1 H1) (B2 : Begins v2 o2 H2) (h1 : H1 s.heap) (h2 : H2 s.heap)
    (q : ∀ h', ZS h' (s.heap.objs.size + 4) (s.heap.objs.size + 2) (s.heap.objs.size + 3) .none → IsTupOf2 h' (s.heap.objs.size + 2) (.ref s.heap.objs.size) (.ref (s.heap.objs.size + 1)) →
      IsTupOf2 h' (s.heap.objs.size + 3) .none .none → h'.get? s.heap.objs.size = some o1 → h'.get? (s.heap.objs.size + 1) = some o2 → (∀ c o, s.heap.get? c = some o → h'.get? c = some o) → Q (.ref (s.heap.objs.size + 4)) { s with heap := h' }) :
    wpAny (model prog w) A (call (.type "zip") [v1, v2] [(Str.ofString "strict", .bool true)]) Q E s := by
  refine callType_newKw F.called_zip (by decide) (tc_zip _ _ _) (nc_zip _ _ _) (fun o => oi_zip o _ _ _) F.entry_zip_new (meets_zipStrict B1 B2) ⟨⟨h1, h2⟩, ?_⟩
  have y1 : (s.heap.push o1).objs.size = s.heap.objs.size + 1 := by rw [Heap.size_push]
  have y2 : ((s.heap.push o1).push o2).objs.size = s.heap.objs.size + 2 := by rw [Heap.size_push, y1]
  have yT : (hT s.heap o1 o2).objs.size = s.heap.objs.size + 3 := by rw [Heap.size_push, y2]
  have yU : (hU s.heap o1 o2).objs.size = s.heap.objs.size + 4 := by rw [Heap.size_push, yT]
  have aZ : (hZ s.heap o1 o2).get? (hU s.heap o1 o2).objs.size = some _ := Heap.get?_push_size _ rfl
  have aU : (hZ s.heap o1 o2).get? (hT s.heap o1 o2).objs.size = some _ := Heap.get?_push_of_some _ (Heap.get?_push_size _ rfl)
  have aT : (hZ s.heap o1 o2).get? ((s.heap.push o1).push o2).objs.size = some _ := Heap.get?_push_of_some _ (Heap.get?_push_of_some _ (Heap.get?_push_size _ rfl))
  have a1 : (hZ s.heap o1 o2).get? s.heap.objs.size = some o1 := Heap.get?_push_of_some _ (Heap.get?_push_of_some _ (Heap.get?_push_of_some _ (Heap.get?_push_of_some _ (Heap.get?_push_size _ B1.free))))
  have a2 : (hZ s.heap o1 o2).get? (s.heap.push o1).objs.size = some o2 := Heap.get?_push_of_some _ (Heap.get?_push_of_some _ (Heap.get?_push_of_some _ (Heap.get?_push_size _ B2.free)))
  rw [yU, yT, y2] at aZ
  rw [yT] at aU
  rw [y2, y1] at aT
  rw [y1] at a2
  show _ ∧ _
  rw [yU]
  exact ⟨⟨_, aZ, rfl⟩, q _ aZ aT aU a1 a2 fun c o e => Heap.get?_push_of_some _ (Heap.get?_push_of_some _ (Heap.get?_push_of_some _ (Heap.get?_push_of_some _ (Heap.get?_push_of_some _ e))))⟩
end
end Wz
/-! ### the same for lists (true) and tuples (false) in any mix, in the hand layer -/
namespace Wz
open PySem PySem.Spec PyProof.Rows L2
def AtI (k : Bool) (h : Heap) (it l : Addr) (i : Nat) : Prop := match k with
  | true => h.IsListIter it l i
  | false => h.IsTupleIter it l i
def OfI (k : Bool) (h : Heap) (l : Addr) (xs : Array Value) : Prop := match k with
  | true => h.IsList l xs
  | false => h.IsTuple l xs
def Sq (k : Bool) (K : PySem.W.Frag) (H : Hp) (a : Addr) (xs : List V) : Prop := match k with
  | true => SqL K H a xs
  | false => SqT K H a xs
def objI (k : Bool) (l : Addr) : Obj := match k with
  | true => { cls := .type "list_iterator", data := .fields #[.ref l, .int 0 0] }
  | false => { cls := .type "tuple_iterator", data := .fields #[.ref l, .int 0 0] }
theorem AtI.obj {k : Bool} {h : Heap} {it l : Addr} {i : Nat} (x : AtI k h it l i) : ∃ o, h.get? it = some o ∧ ∀ v, o.data ≠ .cell v := by
  cases k with
  | true => obtain ⟨o, e, _, d⟩ := x; exact ⟨o, e, fun v q => by rw [d] at q; cases q⟩
  | false => obtain ⟨o, e, _, d⟩ := x; exact ⟨o, e, fun v q => by rw [d] at q; cases q⟩
theorem AtI.to {k : Bool} {h h' : Heap} {it l : Addr} {i : Nat} (x : AtI k h it l i) (f : ∀ o, h.get? it = some o → h'.get? it = some o) : AtI k h' it l i := by
  cases k with
  | true => exact Heap.IsListIter.at x f
  | false => exact Heap.IsTupleIter.at x f
theorem AtI.lt {k : Bool} {h : Heap} {it l : Addr} {i : Nat} (x : AtI k h it l i) : it < h.objs.size := by
  obtain ⟨o, e, _⟩ := x.obj
  exact Heap.lt_size e
theorem draws {k : Bool} {prog : Program} {w : World} {A : Around} (hh : A.handled = none) (it l : Addr) (ne : l ≠ it) (xs : Array Value) :
    Draws prog w A it [it, l] xs.size (fun i v => xs[i]? = some v) (fun i h => AtI k h it l i ∧ OfI k h l xs) := by
  cases k with
  | true => exact Draws.list hh it l ne xs
  | false => exact Draws.tuple hh it l ne xs
theorem begins (k : Bool) (l : Addr) (xs : Array Value) : Begins (.ref l) (objI k l) fun h => OfI k h l xs := by
  cases k with
  | true => exact begins_list l xs
  | false => exact begins_tuple l xs
theorem AtI.fresh {k : Bool} {h : Heap} {it l : Addr} (e : h.get? it = some (objI k l)) : AtI k h it l 0 := by
  cases k with
  | true => exact ⟨_, e, rfl, rfl⟩
  | false => exact ⟨_, e, rfl, rfl⟩
section
variable {X : Cx} {pins : List (Addr × Obj)} {σ : L2.St} {H : Hp} {s : Shared}
theorem sq_of (I : Inv X pins σ H s) {k : Bool} {a : Addr} {xs : List V} (h : Sq k X.K H a xs) : ∃ its : List Value, Vals xs its ∧ OfI k s.heap a its.toArray := by
  cases k with
  | true => obtain ⟨its, r, p, _⟩ := I.list h; exact ⟨its, r, p.isList⟩
  | false => obtain ⟨its, r, p, _⟩ := I.tuple h; exact ⟨its, r, p⟩
theorem sq_inj (I : Inv X pins σ H s) {k : Bool} {a : Addr} {xs ys : List V} (h : Sq k X.K H a xs) (h' : Sq k X.K H a ys) : xs = ys := by
  cases k with
  | true => exact I.list_inj h h'
  | false => exact I.tuple_inj h h'
theorem OfI.lt {k : Bool} {h : Heap} {a : Addr} {xs : Array Value} (x : OfI k h a xs) : a < h.objs.size := by
  cases k with
  | true => obtain ⟨o, e, _⟩ := x; exact Heap.lt_size e
  | false => obtain ⟨o, e, _⟩ := x; exact Heap.lt_size e
end
/-- the two walk together and end together, the items in new pairs -/
def ItS (K : PySem.W.Frag) (k1 k2 : Bool) (a b : Addr) : It where
  go := fun i H => ∃ xs ys x y, Sq k1 K H a xs ∧ Sq k2 K H b ys ∧ xs[i]? = some x ∧ ys[i]? = some y
  yld := fun i H v H' => ∃ T x y, v = .ref T ∧ H T = none ∧ H' = upd H T (.tup [x, y]) ∧ (∀ xs, Sq k1 K H a xs → xs[i]? = some x) ∧ ∀ ys, Sq k2 K H b ys → ys[i]? = some y
  stop := fun i H => ∃ xs ys : List V, Sq k1 K H a xs ∧ Sq k2 K H b ys ∧ xs.length = i ∧ ys.length = i
structure Lie (z ti tu j1 j2 a b : Addr) : Prop where
  sep : ZipSep2 z ti tu j1 j2 [j1, a] [j2, b]
  aj : a ≠ j1
  bj : b ≠ j2
theorem nn {a b : Nat} (h : ¬ a = b) : ¬ @Eq Addr a b := h
theorem no {a b c : Nat} (h : ¬ a = b) (h' : ¬ a = c) : ¬ (@Eq Addr a b ∨ @Eq Addr a c) := fun q => q.elim h h'
theorem lie (n a b : Nat) (h1 : a < n) (h2 : b < n) : Lie (n + 4) (n + 2) (n + 3) n (n + 1) a b := by
  refine ⟨⟨?_, ?_, ?_, ?_, ?_, ?_, ?_, ?_, ?_, ?_, ?_, ?_, ?_⟩, ?_, ?_⟩ <;> (simp only [List.mem_cons, List.not_mem_nil, or_false, true_or, ne_eq]; try (first | exact nn (by omega) | exact no (by omega) (by omega)))
end Wz
namespace Wz
open PySem PySem.Spec PyProof.Rows L2
section
variable {prog : Program} {w : World} {A : Around} {E : Value → Shared → Prop} {s : Shared}
theorem zs_go {elts : List Expr} {kk : Nat} {pos : Pos} {z ti tu T : Addr} {Q : Unit → Shared → Prop} (hz : ZS s.heap z ti tu (rawInt T))
    (q : ∀ h', ZS h' z ti tu .none → Heap.SameBut z s.heap h' → Q () { s with heap := h' }) : wpAny (model prog w) A (letOwnedTupleGo (.Tuple elts kk pos) (.ref z) (.ref T)) Q E s := by
  unfold letOwnedTupleGo
  refine wpAny_bind (wpAny_load hz ?_)
  show wpAny _ _ (if ((_ : List String).contains "zip" && (#[rawInt T, .bool false, .bool true, .ref ti, .ref tu] : Array Value)[0]? == some (rawInt T)) = true then _ else _) Q E s
  rw [if_pos (by simp)]
  refine wpAny_bind (wpAny_rule ?_)
  exact wpAny_setField_rec hz (by simp) fun h' a b => q h' a b
theorem zs_self {z ti tu : Addr} {v0 : Value} {Q : Value → Shared → Prop} (hz : ZS s.heap z ti tu v0) (q : Q (.ref z) s) : wpAny (model prog w) A (pyIter (.ref z)) Q E s := by
  have it : s.TypeIs (.ref z) "zip" := ⟨_, hz, rfl⟩
  refine wpAny_pyIter_slot it F.slot_zip_iter (wpAny_call_entry F.slot_zip_iter it F.entry_zip_iter ?_ (F.args_zip_iter_1 _))
  exact wpAny_pure ⟨_, rfl, "zip", _, it, F.slot_zip_next.lookup, q⟩
end
theorem turnS {P : Program} {w : World} {K : PySem.W.Frag} {elts : List Expr} {kk : Nat} {tpos : Pos} {k1 k2 : Bool} {a b z ti tu j1 j2 : Addr} (D : Lie z ti tu j1 j2 a b) :
    Turn P w K (.Tuple elts kk tpos) (ItS K k1 k2 a b) [z, ti, tu, j1, j2] z (fun i h => ZS h z ti tu .none ∧ IsTupOf2 h ti (.ref j1) (.ref j2) ∧ (∃ x y, IsTupOf2 h tu x y) ∧ AtI k1 h j1 a i ∧ AtI k2 h j2 b i) := by
  have five : ∀ {R : Addr → Prop}, R z → R ti → R tu → R j1 → R j2 → ∀ c ∈ [z, ti, tu, j1, j2], R c := fun r1 r2 r3 r4 r5 c hc => by
    simp only [List.mem_cons, List.not_mem_nil, or_false] at hc
    rcases hc with rfl | rfl | rfl | rfl | rfl <;> assumption
  have out : ∀ {c : Addr}, c ∉ [z, ti, tu, j1, j2] → c ≠ z ∧ c ≠ tu ∧ c ≠ j1 ∧ c ≠ j2 := fun hc => by
    simp only [List.mem_cons, List.not_mem_nil, or_false, not_or] at hc
    exact ⟨hc.1, hc.2.2.1, hc.2.2.2.1, hc.2.2.2.2⟩
  refine ⟨List.mem_cons_self .., fun i h st => ?_, fun i h h' st f => ?_, ?_, ?_, fun A i s Q E st q => zs_self st.1 q⟩
  · obtain ⟨hz, ht, ⟨x, y, hu⟩, h1, h2⟩ := st
    exact five ⟨_, hz, fun v q => nomatch q⟩ ⟨_, ht, fun v q => nomatch q⟩ ⟨_, hu, fun v q => nomatch q⟩ h1.obj h2.obj
  · obtain ⟨hz, ht, ⟨x, y, hu⟩, h1, h2⟩ := st
    exact ⟨f z (by simp) _ hz, f ti (by simp) _ ht, ⟨x, y, f tu (by simp) _ hu⟩, h1.to fun o => f j1 (by simp) o, h2.to fun o => f j2 (by simp) o⟩
  · rintro X rfl rfl rfl hc i pins s σ H E I hf ⟨hz, ht, ⟨x0, y0, hu⟩, h1, h2⟩ ⟨xs, ys, x, y, qx, qy, hx, hy⟩
    obtain ⟨us, r1, o1⟩ := sq_of I qx
    obtain ⟨ws, r2, o2⟩ := sq_of I qy
    obtain ⟨u, eu, ru⟩ := r1.get hx
    obtain ⟨v, ev, rv⟩ := r2.get hy
    have hh : X.A.in1.handled = none := I.ok.hd hc
    have zl : z < s.heap.objs.size := Heap.lt_size hz
    have lu : i < us.toArray.size := by simpa using (List.getElem?_eq_some_iff.mp eu).1
    have lv : i < ws.toArray.size := by simpa using (List.getElem?_eq_some_iff.mp ev).1
    refine zs_next_item D.sep (draws hh j1 a D.aj us.toArray) (draws hh j2 b D.bj ws.toArray) hz ht hu ⟨h1, o1⟩ ⟨h2, o2⟩ lu lv fun x1 y1 h' tk ex ey z' u' a' b' t' sz f => ?_
    have ex' : x1 = u := by
      have e : us[i]? = some x1 := by simpa using ex
      exact Option.some.inj (e.symm.trans eu)
    have ey' : y1 = v := by
      have e : ws[i]? = some y1 := by simpa using ey
      exact Option.some.inj (e.symm.trans ev)
    subst ex' ey'
    refine ⟨_, rfl, zs_go (s := { s with heap := h', toks := tk }) z' fun h2' z2 sb => ?_⟩
    have t2 : h2'.get? s.heap.objs.size = some { cls := .type "tuple", data := .seq #[x1, y1] } := (sb.2 _ (Nat.ne_of_gt zl)).trans t'
    have new : ObjOk X.prog X.w (upd H s.heap.objs.size (.tup [x, y])) h2' s.heap.objs.size (.tup [x, y]) := ⟨by show 2 ≤ sizeLine; decide, [x1, y1], .cons ru (.cons rv .nil), ⟨_, t2, rfl, _, rfl⟩⟩
    have I2 : Inv X pins σ (upd H s.heap.objs.size (.tup [x, y])) { s with heap := h2', toks := tk } :=
      I.turnedNew (t' := tk) (ch := [z, ti, tu, j1, j2]) (fun c o hb q => (sb.2 c (out hb).1).trans (f c o (out hb).1 (out hb).2.1 (out hb).2.2.1 (out hb).2.2.2 q)) hf (Nat.le_refl _) new
    refine ⟨.ref s.heap.objs.size, _, I2, rfl, ⟨_, x, y, rfl, I.hok.fresh (Nat.le_refl _), rfl, fun l hl => by rw [sq_inj I hl qx]; exact hx, fun l hl => by rw [sq_inj I hl qy]; exact hy⟩, ⟨z2, (sb.2 _ D.sep.TIz).trans (f _ _ D.sep.TIz D.sep.TITO D.sep.TIi1 D.sep.TIi2 ht), ⟨x1, y1, (sb.2 _ D.sep.TOz).trans u'⟩, ?_, ?_⟩, ?_⟩
    · exact a'.1.to fun o q => (sb.2 _ D.sep.zi1.symm).trans q
    · exact b'.1.to fun o q => (sb.2 _ D.sep.zi2.symm).trans q
    · have lt := five (R := fun c => c < s.heap.objs.size) zl (Heap.lt_size ht) (Heap.lt_size hu) h1.lt h2.lt
      intro c hcm
      rw [upd_ne (Nat.ne_of_lt (lt c hcm))]
      exact (hf c hcm).1
  · rintro X rfl rfl rfl hc i pins s σ H E I hf ⟨hz, ht, ⟨x0, y0, hu⟩, h1, h2⟩ ⟨xs, ys, qx, qy, lx, ly⟩
    obtain ⟨us, r1, o1⟩ := sq_of I qx
    obtain ⟨ws, r2, o2⟩ := sq_of I qy
    have hh : X.A.in1.handled = none := I.ok.hd hc
    have e1 : us.toArray.size = i := by rw [List.size_toArray, ← r1.length, lx]
    have e2 : ws.toArray.size = i := by rw [List.size_toArray, ← r2.length, ly]
    refine zs_next_end (I.ok.hd hc) D.sep (e1 ▸ draws hh j1 a D.aj us.toArray) (e2 ▸ draws hh j2 b D.bj ws.toArray) hz ht hu ⟨h1, o1⟩ ⟨h2, o2⟩ fun h' tk f => ⟨rfl, ?_⟩
    exact I.turnedL (t' := tk) (ch := [z, ti, tu, j1, j2]) (fun c o hb q => f c o (out hb).1 (out hb).2.1 (out hb).2.2.1 (out hb).2.2.2 q) hf
end Wz
namespace Wz
open PySem PySem.Spec PyProof.Rows L2
theorem callWith_tyKw {M : Model} {A : Around} {E : Value → Shared → Prop} {s : Shared} {pos : Pos} {n : String} {args : List (Bool × Sem Value)} {kws : List (Option Str × Sem Value)} {Q : Value → Shared → Prop} (hp : (args.any (·.1) || kws.any (·.1.isNone)) = false)
    (q : wpAny M A (evalArgs (.type n) true args kws) (fun g s1 => wpAny M A (call (.type n) g.pos g.kw) Q E s1) E s) : wpAny M A (callWith pos (.type n) [] args kws) Q E s := by
  unfold callWith
  refine wpAny_bind (wpAny_holding (wpAny_mono q (fun g s1 q1 => wpAny_bind (wpAny_standAt ?_)) fun _ _ e => e))
  simp only [hp]
  refine wpAny_bind (wpAny_pure ?_)
  exact wpAny_bind (wpAny_mono q1 (fun r s2 hr => wpAny_bind (wpAny_holding (wpAny_point (wpAny_pure hr)))) fun _ _ e => e)
def kSt (K : PySem.W.Frag) (R : It → Hp → Prop) (a b : V) (H : Hp) : Prop := ∃ k1 k2 p q xs ys, a = .ref p ∧ b = .ref q ∧ Sq k1 K H p xs ∧ Sq k2 K H q ys ∧ xs.length = ys.length ∧ R (ItS K k1 k2 p q) H
/-- zip(a, b, strict=True): one length -/
def iZipS (K : PySem.W.Frag) (ta tk : TA) : TI := fun σ H R => ta σ H fun vs H1 => tk σ H1 fun zs H2 => ∃ a b, vs = [a, b] ∧ zs = [.bl true] ∧ kSt K R a b H2
theorem k_zipS {X : Cx} {K : PySem.W.Frag} {e e2 : Expr} {kws : List Keyword} {ta tk : TA} {p pos tpos : Pos} {elts : List Expr} {kk : Nat} (h : X.K = K) (hg : Gl X "zip") (hm : X.mg "zip" = none) (ha : PA X [e, e2] ta) (hk : PK X kws tk)
    (hall : (backToKw pos (keywordEach kws X.env)).all (·.1.isSome) = true := by rfl) (hks : (backToKw pos (keywordEach kws X.env)).filterMap (·.1) = [Str.ofString "strict"] := by rfl)
    (he : starEach [e, e2] X.env = (false, eval e X.env) :: starEach [e2] X.env := by rfl) (hpl : ((backTo pos (starEach [e, e2] X.env)).any (·.1) || (backToKw pos (keywordEach kws X.env)).any (·.1.isNone)) = false := by rfl) :
    PI X (.Tuple elts kk tpos) (.Call (.Name "zip" p) [e, e2] kws pos) (iZipS K ta tk) := by
  subst h
  refine ⟨fun pins s σ H R I h => ?_⟩
  refine wpAny_Call_Name_kw (ld_blt I hg hm PyProof.Rows.boot_zip (callWith_tyKw hpl (PyProof.Rows.evalArgs_kw2 hall (thn (ha.run pos pins s σ H _ I h) fun us s1 ⟨vs, H1, I1, r1, q1⟩ => ?_) he)))
  refine thn (hk.run pos pins s1 σ H1 _ I1 q1) fun ws s2 ⟨zs, H2, I2, r2, q2⟩ => ?_
  rw [hks]
  obtain ⟨_, _, rfl, rfl, k1, k2, p, q, xs, ys, rfl, rfl, sx, sy, len, fin⟩ := q2
  cases r1 with
  | cons ra r1 =>
    cases r1 with
    | cons rb r1 =>
      cases r1
      cases ra
      cases rb
      cases r2 with
      | cons rk r2 =>
        cases r2
        cases rk
        obtain ⟨us, v1, o1⟩ := sq_of I2 sx
        obtain ⟨ws, v2, o2⟩ := sq_of I2 sy
        have old : ∀ c, c ∈ [s2.heap.objs.size + 4, s2.heap.objs.size + 2, s2.heap.objs.size + 3, s2.heap.objs.size, s2.heap.objs.size + 1] → FpOk X pins H2 c := fun c hc => by
          have le : s2.heap.objs.size ≤ c := by
            simp only [List.mem_cons, List.not_mem_nil, or_false] at hc
            rcases hc with rfl | rfl | rfl | rfl | rfl
            · exact Nat.le_add_right _ _
            · exact Nat.le_add_right _ _
            · exact Nat.le_add_right _ _
            · exact Nat.le_refl _
            · exact Nat.le_add_right _ _
          exact I2.fpOk le (I2.hok.fresh le)
        refine zs_begins (begins k1 p us.toArray) (begins k2 q ws.toArray) o1 o2 fun h' hz ht hu h1 h2 f => zs_self hz ?_
        have I3 : Inv X pins σ H2 { s2 with heap := h' } := I2.kept (t' := s2.toks) f
        exact ⟨_, _, _, _, H2, rfl, I3, turnS (lie s2.heap.objs.size p q o1.lt o2.lt), ⟨hz, ht, ⟨_, _, hu⟩, AtI.fresh h1, AtI.fresh h2⟩, old, fin⟩
/-! as it computes -/
end Wz

/-! ### zip -/
namespace Iv
open PySem PySem.Spec PyProof.Rows L2
section
variable {g : Gs} {W : L2.WX} {X : Cx} {F : CE} {m : Mp} {n : Nat} {H : Hp} {S : Sto} {pos : Pos} {xs ys : List Iv.D}
theorem seq_k {d : Iv.D} {v : V} (rs : RS g m S H) (r : Rel g m S.length H d v) (e : seqOf S d = some xs) : ∃ a vs, v = .ref a ∧ Rels g m S.length H xs vs ∧ Wz.Sq (kOf d) g.K H a vs := by
  by_cases hd : ∃ zs, d = .tup zs
  · obtain ⟨zs, rfl⟩ := hd
    cases e
    obtain ⟨a, vs, h, rr, q⟩ := seq_tup rs r
    exact ⟨a, vs, h, rr, q⟩
  · obtain ⟨a, vs, h, rr, q⟩ := seq_list (H1 := H) (S1 := S) rs r (fun zs z => hd ⟨zs, z⟩) e
    have hk : kOf d = true := by cases d <;> first | rfl | exact absurd ⟨_, rfl⟩ hd
    rw [hk]
    exact ⟨a, vs, h, rr, q⟩
theorem fix_seq {d : Iv.D} (h : isRef d = false) {S' : Sto} : seqOf S' d = seqOf S d := by
  cases d <;> first | rfl | cases h
theorem itr_two {J : L2.It} (h : ∀ m' S' H', ExtW m n H m' (List.length S') H' → RS g m' S' H' → ∃ vs ws, Rels g m' S'.length H' xs vs ∧ Rels g m' S'.length H' ys ws ∧
    (∀ (i : Nat) (v w : V), vs[i]? = some v → ws[i]? = some w → J.go i H' ∧ ∀ x H'', J.yld i H' x H'' → ∃ T, x = .ref T ∧ H' T = none ∧ H'' = upd H' T (.tup [v, w])) ∧ J.stop (min vs.length ws.length) H') : ItR g m n H (.fix, zipD xs ys) J := by
  intro m' S' H' x rs _
  obtain ⟨vs, ws, r1, r2, k, st⟩ := h m' S' H' x rs
  refine ⟨fun i d e => ?_, ?_⟩
  · rw [zipD, List.getElem?_map] at e
    obtain ⟨p, hp, rfl⟩ := Option.map_eq_some_iff.mp e
    obtain ⟨p1, p2⟩ := p
    rw [List.getElem?_zip_eq_some] at hp
    obtain ⟨v, hv, rv⟩ := r1.get hp.1
    obtain ⟨w, hw, rw'⟩ := r2.get hp.2
    obtain ⟨k1, k2⟩ := k i v w hv hw
    refine ⟨k1, fun y H'' q => ?_⟩
    obtain ⟨T, q1, q2, q3⟩ := k2 y H'' q
    subst q1 q3
    refine ⟨rs.laid q2, Ext.laid rs q2, ?_⟩
    rw [rel_tup]
    exact ⟨T, _, rfl, .inl ⟨upd_same, Off.free rs q2⟩, Rels.cons (Rel.mono (Ext.laid rs q2) _ _ rv) (Rels.cons (Rel.mono (Ext.laid rs q2) _ _ rw') Rels.nil)⟩
  · have e : (zipD xs ys).length = min vs.length ws.length := by rw [zipD, List.length_map, List.length_zip, r1.length, r2.length]
    show J.stop (zipD xs ys).length H'
    rw [e]
    exact st
theorem w_zipS {e e2 : Expr} {ie ie2 : E} {kws : List Keyword} {elts : List Expr} {kk : Nat} {tpos p : Pos} (hg : Gl X "zip") (hm : X.mg "zip" = none) (ok : okE e = true) (ok2 : okE e2 = true) (ha : PA X [e, e2] (tEs g W (evs F [ie, ie2]))) (hk : PK X kws (tEs g W (evs F [.con (.bl true)])))
    (hks : kwsNames kws = some [Str.ofString "strict"] := by rfl) (hK : X.K = g.K := by rfl) : PI X (.Tuple elts kk tpos) (.Call (.Name "zip" p) [e, e2] kws pos) (tI g W (evIt F (.zip true ie ie2))) := by
  obtain ⟨q1, q2, q3⟩ := kws_all (env := X.env) (pos := pos) hks
  refine PI.imp (Wz.k_zipS rfl hg hm ha hk q1 q2 (starEach_ok ok) (by rw [q3, starEach_ok ok, starEach_ok ok2]; rfl)) fun σ H R ⟨m, ρ, S, rs, er, w⟩ => ?_
  rw [evIt] at w
  refine ⟨m, ρ, S, rs, er, ?_⟩
  show WP g _ (Rels g) m S.length H (evs F [ie, ie2] ρ S) _
  rw [evs2]
  cases hh : ev F ie ρ S with
  | ok d S1 =>
    rw [hh] at w
    simp only [Iv.R.bind_ok] at w ⊢
    cases hh2 : ev F ie2 ρ S1 with
    | ok d2 S2 =>
      rw [hh2] at w
      simp only [Iv.R.bind_ok] at w ⊢
      intro m1 H1 vs x1 rs1 r1
      obtain ⟨v, v2, rfl, rv, rv2⟩ := Rels.two r1
      refine ⟨m1, ρ, S2, rs1, er.mono x1, ?_⟩
      show WP g _ (Rels g) m1 S2.length H1 (evs F [.con (.bl true)] ρ S2) _
      rw [evs1, ev]
      simp only [Iv.R.bind_ok]
      intro m2 H2 zs x2 rs2 r2
      obtain ⟨z, rfl, rz⟩ := Rels.one r2
      rw [rel_bl] at rz
      have w := (w.from x1).from x2
      have rv := Rel.mono x2 _ _ rv
      have rv2 := Rel.mono x2 _ _ rv2
      cases h1 : seqOf S2 d with
      | none => rw [h1] at w; exact w.err
      | some xs =>
        cases h2 : seqOf S2 d2 with
        | none => rw [h1, h2] at w; exact w.err
        | some ys =>
          rw [h1, h2] at w
          obtain ⟨⟨c1, c2, c3, _⟩, w⟩ := w.ck
          obtain ⟨a, us, rfl, ra, sa⟩ := seq_k rs2 rv h1
          obtain ⟨b, ws, rfl, rb, sb⟩ := seq_k rs2 rv2 h2
          have hl : us.length = ws.length := by rw [← ra.length, ← rb.length]; exact c1 trivial
          refine ⟨_, _, rfl, by rw [rz], kOf d, kOf d2, a, b, us, ws, rfl, rfl, by rw [hK]; exact sa, by rw [hK]; exact sb, hl, w.now rs2 (itr_two fun m' S' H' x rs' => ?_)⟩
          obtain ⟨a', us', e1, ra', sa'⟩ := seq_k rs' (Rel.monoW x _ _ rv) ((fix_seq (S := S2) c2).trans h1)
          cases e1
          obtain ⟨b', ws', e2, rb', sb'⟩ := seq_k rs' (Rel.monoW x _ _ rv2) ((fix_seq (S := S2) c3).trans h2)
          cases e2
          rw [hK]
          have hl' : us'.length = ws'.length := by rw [← ra'.length, ← rb'.length]; exact c1 trivial
          refine ⟨us', ws', ra', rb', fun i v w hv hw => ⟨⟨us', ws', v, w, sa', sb', hv, hw⟩, fun y H'' ⟨T, y1, y2, f1, f2, f3, f4, f5⟩ => ?_⟩, ⟨us', ws', sa', sb', by rw [hl', Nat.min_self], by rw [hl', Nat.min_self]⟩⟩
          have g1 := f4 us' sa'
          have g2 := f5 ws' sb'
          rw [hv] at g1
          rw [hw] at g2
          cases g1
          cases g2
          exact ⟨T, f1, f2, f3⟩
    | exc x S1 => rw [hh2] at w; exact w
    | err => rw [hh2] at w; exact w
  | exc x S1 => rw [hh] at w; exact w
  | err => rw [hh] at w; exact w
theorem w_zip {e e2 : Expr} {ie ie2 : E} {elts : List Expr} {kk : Nat} {tpos p : Pos} (hg : Gl X "zip") (hm : X.mg "zip" = none) (ok : okE e = true) (ok2 : okE e2 = true) (ha : PA X [e, e2] (tEs g W (evs F [ie, ie2]))) (hK : X.K = g.K := by rfl) :
    PI X (.Tuple elts kk tpos) (.Call (.Name "zip" p) [e, e2] [] pos) (tI g W (evIt F (.zip false ie ie2))) := by
  refine PI.imp (RZ.pi_zipA hg hm ha (starEach_ok ok) (by rw [starEach_ok ok2]; rfl)) fun σ H R ⟨m, ρ, S, rs, er, w⟩ => ?_
  rw [evIt] at w
  refine ⟨m, ρ, S, rs, er, ?_⟩
  show WP g _ (Rels g) m S.length H (evs F [ie, ie2] ρ S) _
  rw [evs2]
  cases hh : ev F ie ρ S with
  | ok d S1 =>
    rw [hh] at w
    simp only [Iv.R.bind_ok] at w ⊢
    cases hh2 : ev F ie2 ρ S1 with
    | ok d2 S2 =>
      rw [hh2] at w
      simp only [Iv.R.bind_ok] at w ⊢
      intro m2 H2 vs x2 rs2 r2
      obtain ⟨v, v2, rfl, rv, rv2⟩ := Rels.two r2
      have w := w.from x2
      cases h1 : seqOf S2 d with
      | none => rw [h1] at w; exact w.err
      | some xs =>
        cases h2 : seqOf S2 d2 with
        | none => rw [h1, h2] at w; exact w.err
        | some ys =>
          rw [h1, h2] at w
          obtain ⟨⟨_, c2, c3, c4⟩, w⟩ := w.ck
          have c4 : kOf d = kOf d2 := c4.elim (fun z => by cases z) id
          obtain ⟨a, us, rfl, ra, sa⟩ := seq_k rs2 rv h1
          obtain ⟨b, ws, rfl, rb, sb⟩ := seq_k rs2 rv2 h2
          have go : ∀ m' S' H', ExtW m2 S2.length H2 m' (List.length S') H' → RS g m' S' H' → ∃ us' ws', Rels g m' S'.length H' xs us' ∧ Rels g m' S'.length H' ys ws' ∧ Wz.Sq (kOf d) g.K H' a us' ∧ Wz.Sq (kOf d) g.K H' b ws' := by
            intro m' S' H' x rs'
            obtain ⟨a', us', e1, ra', sa'⟩ := seq_k rs' (Rel.monoW x _ _ rv) ((fix_seq (S := S2) c2).trans h1)
            cases e1
            obtain ⟨b', ws', e2, rb', sb'⟩ := seq_k rs' (Rel.monoW x _ _ rv2) ((fix_seq (S := S2) c3).trans h2)
            cases e2
            rw [← c4] at sb'
            exact ⟨us', ws', ra', rb', sa', sb'⟩
          rw [hK]
          rw [← c4] at sb
          refine ⟨a, b, us, ws, rfl, ?_⟩
          cases hk : kOf d with
          | true =>
            rw [hk] at sa sb go
            refine .inl ⟨sa, sb, w.now rs2 (itr_two fun m' S' H' x rs' => ?_)⟩
            obtain ⟨us', ws', ra', rb', sa', sb'⟩ := go m' S' H' x rs'
            refine ⟨us', ws', ra', rb', fun i v w hv hw => ⟨⟨us', ws', v, w, sa', sb', hv, hw⟩, fun y H'' ⟨T, y1, y2, f1, f2, f3, f4, f5⟩ => ?_⟩, ⟨us', ws', sa', sb', by omega⟩⟩
            have g1 := f4 us' sa'
            have g2 := f5 ws' sb'
            rw [hv] at g1
            rw [hw] at g2
            cases g1
            cases g2
            exact ⟨T, f1, f2, f3⟩
          | false =>
            rw [hk] at sa sb go
            refine .inr ⟨sa, sb, w.now rs2 (itr_two fun m' S' H' x rs' => ?_)⟩
            obtain ⟨us', ws', ra', rb', sa', sb'⟩ := go m' S' H' x rs'
            refine ⟨us', ws', ra', rb', fun i v w hv hw => ⟨⟨us', ws', v, w, sa', sb', hv, hw⟩, fun y H'' ⟨T, y1, y2, f1, f2, f3, f4, f5⟩ => ?_⟩, ⟨us', ws', sa', sb', by omega⟩⟩
            have g1 := f4 us' sa'
            have g2 := f5 ws' sb'
            rw [hv] at g1
            rw [hw] at g2
            cases g1
            cases g2
            exact ⟨T, f1, f2, f3⟩
    | exc x S1 => rw [hh2] at w; exact w
    | err => rw [hh2] at w; exact w
  | exc x S1 => rw [hh] at w; exact w
  | err => rw [hh] at w; exact w
end
end Iv

/-! ### t[::-1] of a tuple -/
namespace Wr
open PySem PySem.Spec PyProof.Rows L2 HT
section
variable {prog : Program} {w : World} {A : Around} {E : Value → Shared → Prop} {s : Shared}
theorem applied_back {sl : Addr} {vl vu vs : Value} {n : Nat} {Q : Int × Int × Nat → Shared → Prop} (hs : s.heap.IsSliceOf sl vl vu vs) (pl : IsPart vl none) (pu : IsPart vu none) (ps : IsPart vs (some (-1)))
    (h : Q ((n : Int) - 1, -1, n) s) : wpAny (model prog w) A (Builtin.Slice.sliceApplied (.ref sl) (pure (n : Int))) Q E s := by
  obtain ⟨os, hos, _, hds⟩ := id hs
  unfold Builtin.Slice.sliceApplied Builtin.Slice.sliceFields
  refine wpAny_bind (wpAny_bind (wpAny_field hos hds (x := vl) rfl (wpAny_bind (wpAny_field hos hds (x := vu) rfl (wpAny_bind (wpAny_field hos hds (x := vs) rfl (wpAny_pure ?_)))))))
  refine wpAny_bind (slicePart_ ps ?_)
  show wpAny _ _ (if ((-1 : Int) == 0) = true then _ else _) _ _ s
  rw [if_neg (show ¬ ((-1 : Int) == 0) = true by decide)]
  refine wpAny_bind (slicePart_ pl (wpAny_bind (slicePart_ pu (wpAny_bind (wpAny_pure ?_)))))
  have e : Builtin.Slice.sliceAdjust none none (-1) (n : Int) = ((n : Int) - 1, -1) := rfl
  have e2 : Builtin.Slice.slicePlaces ((n : Int) - 1) (-1) (-1) = n := by
    unfold Builtin.Slice.slicePlaces
    rw [if_neg (show ¬ (-1 : Int) > 0 by decide), show - (-1 : Int) = 1 from rfl, Int.ediv_one]
    split <;> omega
  show wpAny _ _ (match Builtin.Slice.sliceAdjust none none (-1) (n : Int) with | (lo, hi) => pure (lo, (-1 : Int), Builtin.Slice.slicePlaces lo hi (-1))) _ _ s
  rw [e]
  show wpAny _ _ (pure ((n : Int) - 1, (-1 : Int), Builtin.Slice.slicePlaces ((n : Int) - 1) (-1) (-1))) _ _ s
  rw [e2]
  exact wpAny_pure h
theorem pick_back (xs : Array Value) : ((List.range xs.size).filterMap fun (k : Nat) => xs[(((xs.size : Nat) : Int) - 1 + (k : Int) * -1).toNat]?).toArray = xs.toList.reverse.toArray := by
  congr 1
  apply List.ext_getElem?
  intro i
  have key : ∀ m, m ≤ xs.size → ((List.range m).filterMap fun (k : Nat) => xs[(((xs.size : Nat) : Int) - 1 + (k : Int) * -1).toNat]?) = (xs.toList.reverse).take m := by
    intro m
    induction m with
    | zero => intro _; simp
    | succ m ih =>
      intro hm
      rw [List.range_succ, List.filterMap_append, ih (by omega), List.take_add_one]
      congr 1
      have e1 : ((((xs.size : Nat) : Int) - 1 + (m : Int) * -1).toNat) = xs.size - 1 - m := by omega
      have e2 : xs.toList.reverse[m]? = xs[xs.size - 1 - m]? := by
        rw [List.getElem?_reverse (by rw [Array.length_toList]; omega), Array.length_toList, Array.getElem?_toList]
      have e3 : xs.size - 1 - m < xs.size := by omega
      rw [e2, List.filterMap_cons, e1, Array.getElem?_eq_getElem e3]
      rfl
  rw [key xs.size (Nat.le_refl _), List.take_of_length_le (by rw [List.length_reverse, Array.length_toList]; exact Nat.le_refl _)]
theorem getItem_back {t sl : Addr} {items : Array Value} {vl vu vs : Value} {Q : Value → Shared → Prop} (ht : IsTup s.heap t items) (hs : s.heap.IsSliceOf sl vl vu vs) (pl : IsPart vl none) (pu : IsPart vu none) (ps : IsPart vs (some (-1)))
    (h : Q (.ref s.heap.objs.size) { s with heap := s.heap.push { cls := .type "tuple", data := .seq items.toList.reverse.toArray } })
    (hsz : items.size ≤ sizeLine) : wpAny (model prog w) A (getItem (.ref t) (.ref sl)) Q E s := by
  have hok : sizeOk (.seq items.toList.reverse.toArray) := by
    show items.toList.reverse.toArray.size ≤ sizeLine
    rw [List.size_toArray, List.length_reverse, Array.length_toList]
    exact hsz
  obtain ⟨os, hos, hcs, _⟩ := id hs
  have hTs : s.TypeIs (.ref sl) "slice" := ⟨os, hos, hcs⟩
  unfold getItem
  try with_reducible refine wpAny_holding ?_
  first | refine wpAny_bind (wpAny_pure ?_) | skip
  refine wpAny_bind (wpAny_sequenceKey ht.typeIs (by decide) ?_)
  refine wpAny_bind (wpAny_callSpecial?_slot (name := Str.ofString "__getitem__") ht.typeIs PyProof.Rows.slot_tuple_getitem (wpAny_call_entry PyProof.Rows.slot_tuple_getitem ht.typeIs entry_tuple_getitem ?_ (args_tuple_getitem _ _)))
  show wpAny _ _ (Builtin.Tuple.tupleItemsOf (.ref t) >>= _) _ _ s
  refine wpAny_bind (tupleItemsOf_ ht (wpAny_bind (wpAny_typeOf hTs ?_)))
  rw [if_pos (by decide)]
  refine wpAny_bind (applied_back hs pl pu ps ?_)
  show wpAny _ _ (if (((items.size : Nat) : Int) - 1 == 0 && (-1 : Int) == 1 && items.size == items.size) = true then _ else _) _ _ s
  rw [if_neg (by simp), pick_back]
  first
    | exact wpAny_bind (m := Builtin.Tuple.tupleExact _) (wpAny_newObj_type (wpAny_pure ⟨_, rfl, wpAny_pure h⟩) hok)
    | exact wpAny_bind (wpAny_bind (m := Builtin.Tuple.tupleExact _) (wpAny_newObj_type (wpAny_pure (wpAny_pure ⟨_, rfl, wpAny_pure h⟩)) hok))
end
theorem pe_revK {X : Cx} {e : Expr} {te : TE} {k : Nat} {p1 p2 p3 pos : Pos} (he : PE X e te) : PE X (.Subscript e (.Slice none none (some (.UnaryOp .USub (.Constant (.int 1) k p1) p2)) p3) pos)
    (fun σ H Q => te σ H fun x H1 => ∃ a xs, x = .ref a ∧ SqT X.K H1 a xs ∧ ∀ l, H1 l = none → Q (.ref l) (upd H1 l (.tup xs.reverse))) := by
  refine ⟨fun pins s σ H Q I h => Subscript_ (thn (he.run pins s σ H _ I h) fun v s1 ⟨x, H1, I1, r1, a, xs, ex, hx, q⟩ => ?_)⟩
  subst ex
  cases r1
  have hst : PO X (some (.UnaryOp .USub (.Constant (.int 1) k p1) p2)) (tPart (tUn (rU fun i => .int (-i)) (tC (.int 1)))) := po_some (pe_un un_neg pe_int)
  refine wpAny_Slice (thn (po_none.run pins s1 σ H1 (fun o H2 => o = none ∧ H2 = H1) I1 ⟨rfl, rfl⟩) fun vl s2 ⟨l, H2, I2, pl, e1, e2⟩ => ?_)
  refine thn (po_none.run pins s2 σ H2 (fun o H3 => o = none ∧ H3 = H2) I2 ⟨rfl, rfl⟩) fun vu s3 ⟨u, H3, I3, pu, e3, e4⟩ => ?_
  refine thn (hst.run pins s3 σ H3 (fun o H4 => o = some (-1) ∧ H4 = H3) I3 ⟨1, rfl, -1, rfl, rfl, rfl⟩) fun vs s4 ⟨o, H4, I4, ps, e5, e6⟩ => ?_
  subst e1 e2 e3 e4 e5 e6
  have I5 : Inv X pins σ H4 { s4 with heap := s4.heap.push { cls := .type "slice", data := .fields #[vl, vu, vs] } } := I4.kept (t' := s4.toks) fun b ob q => Heap.get?_push_of_some _ q
  obtain ⟨its, r, ht, hz⟩ := I5.tuple hx
  have hlen := r.length
  show wpAny (model X.prog X.w) X.A (subscriptTail e (.Slice none none (some (.UnaryOp .USub (.Constant (.int 1) k p1) p2)) p3) (.ref a) (.ref s4.heap.objs.size)) (EP X pins σ Q) X.xe _
  refine tail_any (ops := [.ref a, .ref s4.heap.objs.size]) ht.typeIs PyProof.Rows.slot_tuple_getitem.lookup ?_ (by with_unfolding_all rfl)
  refine getItem_back ht (Heap.IsSliceOf.new _ vl vu vs) pl pu ps ?_ (by rw [List.size_toArray]; omega)
  refine ⟨.ref _, _, I5.laid (t' := s4.toks) (o := .tup xs.reverse) (fun b ob q => Heap.get?_push_of_some _ q) (Nat.le_refl _) ?_, rfl, q _ (I5.hok.fresh (Nat.le_refl _))⟩
  exact ⟨by rw [List.length_reverse]; exact hz, _, r.reverse, IsTup.new _ _⟩
end Wr
namespace Iv
open PySem PySem.Spec PyProof.Rows L2
section
variable {g : Gs} {W : L2.WX} {X : Cx} {F : CE} {a : Expr} {ia : E} {pos : Pos}
theorem PE.or {X : Cx} {e : Expr} {t t' : TE} (h : PE X e t) (h' : PE X e t') : PE X e (fun σ H Q => t σ H Q ∨ t' σ H Q) := ⟨fun pins s σ H Q I q => q.elim (h.run pins s σ H Q I) (h'.run pins s σ H Q I)⟩
theorem i_rev (hK : X.K = g.K) {box : Bool} {k : Nat} {p1 p2 p3 : Pos} (ha : PE X a (tE g W (ev F ia))) : PE X (.Subscript a (.Slice none none (some (.UnaryOp .USub (.Constant (.int 1) k p1) p2)) p3) pos) (tE g W (ev F (.rev box ia))) := by
  refine PE.imp (PE.or (Wr.pe_revK ha) (pe_revL ha)) fun σ H Q ⟨m, ρ, S, rs, er, w⟩ => ?_
  rw [ev] at w
  by_cases ht : ∃ xs S1, ev F ia ρ S = .ok (.tup xs) S1
  · obtain ⟨xs, S1, hh⟩ := ht
    refine .inl ⟨m, ρ, S, rs, er, ?_⟩
    rw [hh] at w ⊢
    intro m1 H1 v x rs1 r1
    obtain ⟨q, vs, rfl, rr, sq⟩ := seq_tup rs1 r1
    have w : WP g (fun c d H' => W c d σ H') (Rel g) m1 S1.length H1 (.ok (.tup xs.reverse) S1) Q := w.from x
    exact ⟨q, vs, rfl, by rw [hK]; exact sq, fun p hp => mkT_ok rs1 rr.reverse w hp⟩
  · refine .inr (TI.stepE rs er w fun x H1 m1 S1 d e0 x1 rs1 er1 r1 w => ?_)
    split at w
    · exact absurd ⟨_, _, e0⟩ ht
    · rename_i hn
      split at w
      · rename_i xs hx
        obtain ⟨q, vs, rfl, r, k⟩ := seqOf_rel rs1 r1 hx
        rcases k with ⟨k, _⟩ | ⟨_, k⟩
        · exact ⟨q, vs, rfl, by rw [hK]; exact k, fun p hp => mkL_ok rs1 r.reverse w hp⟩
        · exact absurd k (hn _)
      · exact w.err
end
end Iv

/-! ### defs, calls -/
namespace Iv
open PySem PySem.Spec PyProof.Rows L2
section
variable {P : Program} {w : World} {K : PySem.W.Frag} {mg : Str → Option Value} {base : Heap} {g : Gs} {T : List Fn}
theorem fn_zero {fa : Addr} {fd : FuncData} {ps : List Str} {j f : Nat} {x qual : Str} {st : Stmt} {dv0 : List V} {kws : List (Str × V)} {N : List Str} (F : FunD K x qual (defArgs st) (defBody st) (defScope st) dv0 kws fa fd) (S : FnScope N ps (defScope st)) : FnOk P w K mg base (L2.CX P w) (j + 1) fa fd ps (spF g (callN T 0) f ps.length) :=
  F.ok S (fun _ _ _ _ h => h.1) fun _ _ _ _ _ _ _ _ _ ⟨_, _, _, _, _, _, w⟩ => False.elim w
theorem start_env {m : Mp} {n : Nat} {H : Hp} {ds : List Iv.D} {vs : List V} {N : List Str} (r : Rels g m n H ds vs) : EnvR g m n H (ds.map some ++ List.replicate (N.length - ds.length) none) (L2.start N vs) := by
  have l := r.length
  refine ⟨?_, fun i d e => ?_⟩
  · unfold L2.start
    simp only [List.length_append, List.length_map, List.length_replicate, l]
  · rcases Nat.lt_or_ge i ds.length with h | h
    · rw [List.getElem?_append_left (by rw [List.length_map]; exact h), List.getElem?_map] at e
      obtain ⟨d', hd, q⟩ := Option.map_eq_some_iff.mp e
      cases q
      obtain ⟨v, hv, rv⟩ := r.get hd
      refine ⟨v, ?_, rv⟩
      unfold L2.start
      rw [List.getElem?_append_left (by rw [List.length_map, ← l]; exact h), List.getElem?_map, hv]
      rfl
    · rw [List.getElem?_append_right (by rw [List.length_map]; exact h), List.getElem?_replicate] at e
      split at e <;> cases e
theorem fn_step {fa : Addr} {fd : FuncData} {N ps : List Str} {j k f : Nat} {x qual : Str} {st : Stmt} {dv0 : List V} {kws : List (Str × V)} {body : List Iv.St} (hT : T[f]? = some ⟨ps.length, N.length, body⟩)
    (F : FunD K x qual (defArgs st) (defBody st) (defScope st) dv0 kws fa fd) (S : FnScope N ps (defScope st))
    (hb : ∀ (cdv : Value) (A : Around) (outer : List PySem.Env) (s : Shared) (H : Hp) (E : XK), Room j (A.deeper (envOfC qual (defScope st) s.heap.objs.size fa cdv)) →
      PSs (cxOf (L2.CX P w) P w K mg base N qual (defScope st) fa cdv A outer s H E) (defBody st) (tS g (fun c d _ H => E c d H) (exs (callN T k) body))) :
    FnOk P w K mg base (L2.CX P w) (j + 1) fa fd ps (spF g (callN T (k + 1)) f ps.length) := by
  refine F.ok S (fun _ _ _ _ h => h.1) fun cdv A outer s H vs Q E hr ⟨hl, m, S0, ds, rs, r, wp⟩ => ⟨_, hb cdv A outer s H E hr, ?_⟩
  unfold callN at wp
  rw [hT] at wp
  obtain ⟨_, wp⟩ := (show WP g E (Rel g) m S0.length H (ck (ds.length = ps.length) (run (callN T k) N.length body ds S0)) Q from wp).ck
  refine ⟨m, _, S0, rs, start_env (N := N) r, ?_⟩
  unfold run at wp
  cases hx : exs (callN T k) body (ds.map some ++ List.replicate (N.length - ds.length) none) S0 with
  | ok fl S' =>
    rw [hx] at wp
    cases fl with
    | next ρ => exact fun m' H' σ' x rs' er => wp m' H' .non x rs' (by rw [rel_non])
    | brk ρ => exact wp.elim
    | cont ρ => exact wp.elim
    | ret d => exact fun m' H' v x rs' rv => wp m' H' v x rs' rv
    | raised e ρ => exact fun m' H' σ' c d x rs' er xr => wp m' H' c d x rs' xr
  | exc e S' => rw [hx] at wp; exact wp.elim
  | err => rw [hx] at wp; exact wp.elim

/-! how arguments come to parameters -/
def gat {α : Type} (js : List Nat) (l : List α) : List α := js.filterMap (l[·]?)
theorem gat_vals {us : List Value} {vs : List V} (r : Vals vs us) : ∀ js : List Nat, Vals (gat js vs) (gat js us)
  | [] => .nil
  | j :: js => by
    have ih := gat_vals r js
    unfold gat at ih ⊢
    have l := r.length
    cases h : vs[j]? with
    | none =>
      have h2 : us[j]? = none := by
        rw [List.getElem?_eq_none_iff] at h ⊢
        rw [← l]
        exact h
      rw [List.filterMap_cons_none h, List.filterMap_cons_none h2]
      exact ih
    | some v =>
      obtain ⟨u, hu, ru⟩ := r.get h
      rw [List.filterMap_cons_some h, List.filterMap_cons_some hu]
      exact .cons ru ih
theorem gat_rels {m : Mp} {n : Nat} {H : Hp} {ds : List Iv.D} {vs : List V} (r : Rels g m n H ds vs) : ∀ {js : List Nat} {ps' : List Iv.D}, pick ds (js.map .a) = some ps' → Rels g m n H ps' (gat js vs) ∧ (gat js vs).length = js.length
  | [], ps', h => by
    cases h
    exact ⟨Rels.nil, rfl⟩
  | j :: js, ps', h => by
    rw [List.map_cons, pick] at h
    split at h
    · rename_i d hd
      obtain ⟨qs, hq, rfl⟩ := Option.map_eq_some_iff.mp h
      obtain ⟨v, hv, rv⟩ := r.get hd
      obtain ⟨i1, i2⟩ := gat_rels r hq
      unfold gat at i1 i2 ⊢
      rw [List.filterMap_cons_some hv]
      exact ⟨Rels.cons rv i1, by rw [List.length_cons, List.length_cons, i2]⟩
    · cases h
theorem sig_all {fa : Addr} {fd : FuncData} {ps ks : List Str} {n : Nat} {js : List Nat} {x qual : Str} {params : Arguments} {body : List Stmt} {scope : Scope} {kws : List (Str × V)} (F : FunD g.K x qual params body scope [] kws fa fd) (hl : js.length = ps.length)
    (h : ∀ (kV doc pm : Value) (an : Option Addr) (cdv ct : Value) (us ws : List Value), us.length = n → ws.length = ks.length → bindArgs (PySem.W.fnOf x qual params body scope .none kV doc pm an cdv ct) ⟨us, ks.zip ws⟩ = pure (ps.zip (gat js (us ++ ws)))) : Sig g fd ps n ks (js.map .a) := by
  obtain ⟨oc, od, dV, kV, doc, pm, an, cdv, ct, osl, rfl, lk, hcd, hD, hK⟩ := F.ex
  rcases hD with ⟨_, rfl⟩ | ⟨e, _⟩
  · refine ⟨fun us ws => gat js (us ++ ws), fun vs zs => gat js (vs ++ zs), ⟨fun s us ws X l1 l2 => .of_eq (h kV doc pm an cdv ct us ws l1 l2), fun r1 r2 => gat_vals (r1.append r2) js⟩, fun m N H ds vs zs ps' r l1 l2 hp => ?_⟩
    obtain ⟨q1, q2⟩ := gat_rels r hp
    exact ⟨q1, q2.trans hl⟩
  · exact absurd rfl e
/-- a def as it is called -/
structure Fo (g : Gs) (P : Program) (w : World) (K : PySem.W.Frag) (mg : Str → Option Value) (base : Heap) (F : CE) (j : Nat) (fa : Addr) (f : Nat) (sigs : List (Nat × List Str × List Ar)) : Prop where
  ex : ∃ (fd : FuncData) (ps : List Str), FnOk P w K mg base (L2.CX P w) j fa fd ps (spF g F f ps.length) ∧ (∀ s ∈ sigs, Sig g fd ps s.1 s.2.1 s.2.2) ∧ PySem.W.keepIn K (.ref fa) = true
end
section
variable {g : Gs} {W : L2.WX} {X : Cx} {F : CE} {es : List Expr} {kws : List Keyword} {ies iks : List E} {ks : List Str} {x : Str} {p pos : Pos}
theorem j_call {j k : Nat} {fa : Addr} {f : Nat} {arr : List Ar} {sigs : List (Nat × List Str × List Ar)} (fo : Fo g X.prog X.w X.K X.mg X.base F k fa f sigs) (hm : X.mg x = some (.ref fa)) (tk : Takes X W) (hr : Room j X.A) (ie : List E) (hie : ie = ies ++ iks) (ha : PA X es (tEs g W (evs F ies))) (hkw : PK X kws (tEs g W (evs F iks)))
    (hs : (ies.length, ks, arr) ∈ sigs) (hK : X.K = g.K := by rfl) (hg : Gl X x := by rfl) (hj : k ≤ j := by omega) (hdb : (x == ("__debug__" : Str)) = false := by decide) (oks : okEs es = true := by rfl) (hks : kwsNames kws = some ks := by rfl) (hkl : iks.length = ks.length := by rfl) (hel : es.length = ies.length := by rfl) :
    PE X (.Call (.Name x p) es kws pos) (tE g W (ev F (.call f arr ie))) := by
  subst hie
  obtain ⟨fd, ps, FO, sg, kp⟩ := fo.ex
  exact i_call hK FO (hr.mono hj) hg hm kp (sg _ hs) tk hdb oks hks hkl hel ha hkw
end
end Iv

/-! ### constants, the end -/
namespace Iv
open PySem PySem.Spec PyProof.Rows L2
section
variable {g : Gs} {W : L2.WX} {X : Cx} {F : CE} {x : Str} {p pos : Pos}
theorem c_int {i : Int} {j : Nat} : PE X (.Constant (.int i) j pos) (tE g W (ev F (.con (.int i)))) := i_con pe_int fun _ _ _ => by rw [rel_int]
theorem c_bl {b : Bool} {j : Nat} : PE X (.Constant (.bool b) j pos) (tE g W (ev F (.con (.bl b)))) := i_con pe_bl fun _ _ _ => by rw [rel_bl]
theorem c_non {j : Nat} : PE X (.Constant .none j pos) (tE g W (ev F (.con .non))) := i_con pe_non fun _ _ _ => by rw [rel_non]
theorem c_str {z : Str} {j : Nat} (h : okS z) : PE X (.Constant (.str z) j pos) (tE g W (ev F (.con (.str z)))) := i_con pe_str fun _ _ _ => by rw [rel_str]; exact ⟨rfl, h⟩
theorem c_gI {i : Int} (h : ∃ t, X.mg x = some (.int i t)) (hg : Gl X x := by rfl) (hd : (x == ("__debug__" : Str)) = false := by decide) : PE X (.Name x pos) (tE g W (ev F (.con (.int i)))) := by
  obtain ⟨t, e⟩ := h
  exact i_con (v := .int i) (pe_glob hg e ⟨t, rfl⟩ hd) fun _ _ _ => by rw [rel_int]
theorem c_gS {z : Str} (h : ∃ t, X.mg x = some (.str z t)) (ok : okS z) (hg : Gl X x := by rfl) (hd : (x == ("__debug__" : Str)) = false := by decide) : PE X (.Name x pos) (tE g W (ev F (.con (.str z)))) := by
  obtain ⟨t, e⟩ := h
  exact i_con (v := .str z) (pe_glob hg e ⟨t, rfl⟩ hd) fun _ _ _ => by rw [rel_str]; exact ⟨rfl, ok⟩
theorem c_gT {n : String} (hm : X.mg x = none) (hv : bootBuiltins x = some (.type n)) (hg : Gl X x := by rfl) (hn : x ≠ "__name__" := by decide) (hd : (x == ("__debug__" : Str)) = false := by decide) : PE X (.Name x pos) (tE g W (ev F (.con (.ty n)))) :=
  i_con (v := .ty n) (pe_bltn hg hm hv rfl hn hd) fun _ _ _ => by rw [rel_ty]
theorem okS_of {z : Str} (h : (decide (z.length ≤ 1000) && z.cps.toList.all (fun c => decide (c < 1114112))) = true) : okS z := by
  rw [Bool.and_eq_true, decide_eq_true_eq, List.all_eq_true] at h
  exact ⟨Nat.le_trans h.1 (by decide), fun c hc => of_decide_eq_true (h.2 c hc)⟩
theorem j_var {i : Nat} (hN : X.N[i]? = some x := by rfl) (hv : Vis X.env.scope x := by first | exact Or.inl rfl | exact Or.inr (Or.inl rfl) | exact Or.inr (Or.inr rfl)) (hd : (x == ("__debug__" : Str)) = false := by decide) (hcd : (x == ("__classdict__" : Str)) = false := by decide) :
    PE X (.Name x pos) (tE g W (ev F (.var i))) := i_var hN hv hd hcd
theorem j_bi {e : Expr} {es : List Expr} {ies : List E} {k : Nat} {nm : Str} (b : Bi) (hr : Room k X.A) (hm : X.mg nm = none) (ha : PA X (e :: es) (tEs g W (evs F ies))) (hnm : biName b = nm := by rfl) (hK : X.K = g.K := by rfl) (hc : X.calm = true := by rfl) (ok : biOk b = true := by rfl) (hg : Gl X nm := by rfl) (oks : okEs (e :: es) = true := by rfl) :
    PE X (.Call (.Name nm p) (e :: es) [] pos) (tE g W (ev F (.bi b ies))) := by
  subst hnm
  exact i_bi hK hr hc b ok hg hm oks ha
theorem j_g {vs : List Nat} {i : Nat} (hN : X.N.Nodup) (hv : i ∈ vs := by decide) (hi : X.N[i]? = some x := by rfl) (hx : Loc X.env.scope x := by first | exact Or.inl rfl | exact Or.inr rfl) (hf : X.fn x = true ∨ X.env.scope.names.lookup x = some .local := by first | exact Or.inl rfl | exact Or.inr rfl) :
    PG X (.Name x pos) (TGv g vs (asg F (.var i))) := g_var hv hN hi hx hf
def noSwap : Expr → Expr → Bool
  | .Tuple _ _ _, .Tuple _ _ _ => false
  | .List _ _, .Tuple _ _ _ => false
  | _, _ => true
theorem pure_none {tg v : Expr} {env : PySem.Env} (h : noSwap tg v = true) : swappedStores [tg] v env = pure none := by
  cases tg with
  | Tuple _ _ _ => cases v <;> first | rfl | (exact absurd h Bool.false_ne_true)
  | List _ _ => cases v <;> first | rfl | (exact absurd h Bool.false_ne_true)
  | _ => rfl
theorem j_asg {tg e : Expr} {t : Tg} {ie : E} (vs : List Nat) (he : PE X e (tE g W (ev F ie))) (hg : PG X tg (TGv g vs (asg F t))) (ok : noStar tg = true := by rfl) (hs : notComp e = true := by rfl) (hw : noSwap tg e = true := by rfl) : PS X (.Assign [tg] e pos) (tS g W (ex F (.asg t ie))) :=
  s_asg he (g_any hg) ok (swaps_ok hs) (pure_none hw)
end
section
variable {P : Program} {w : World} {K : PySem.W.Frag} {mg : Str → Option Value} {base : Heap} {g : Gs} {T : List Fn}
def spEnd (K : PySem.W.Frag) : Sp := fun vs H Q _ => ∃ (a : Addr) (ns : List Int), vs = [.ref a] ∧ SqL K H a (ns.map V.int) ∧ ns.length ≤ 63 ∧ Only H ∧ ∀ H', Q (.bl true) H'
theorem rels_ints {m : Mp} {n : Nat} {H : Hp} : ∀ ns : List Int, Rels g m n H (ns.map Iv.D.int) (ns.map V.int)
  | [] => Rels.nil
  | i :: r => Rels.cons (by rw [rel_int]) (rels_ints r)
theorem fn_end {fa : Addr} {fd : FuncData} {x : Str} {j k f : Nat} (hK : g.K = K) (FO : FnOk P w K mg base (L2.CX P w) j fa fd [x] (spF g (callN T k) f 1)) (h : ∀ ns : List Int, ns.length ≤ 63 → ∃ S, callN T k f [.scr (ns.map .int)] [] = .ok (.bl true) S) :
    FnOk P w K mg base L2.CX0 j fa fd [x] (spEnd K) := by
  refine ⟨fun vs H Q E ⟨a, ns, e, _⟩ => by rw [e]; rfl, fun A outer s H args us vs Q E hr e0 bt rv ⟨a, ns, e, sq, hl, on, q⟩ => ?_⟩
  subst e
  refine codeAny_mono (FO.run A outer s H args us [.ref a] Q (fun _ _ _ => False) hr e0 bt rv ⟨rfl, ⟨fun _ => none, fun _ => False⟩, [], [.scr (ns.map .int)], ?_, ?_, ?_⟩) fun r s' q' => ?_
  · refine ⟨fun i a e => (by cases e), fun i c e => ?_, fun i j a e => (by cases e), fun a z => False.elim z⟩
    unfold cellAt at e
    cases e
  · refine Rels.cons ?_ Rels.nil
    rw [rel_scr]
    refine ⟨a, ns.map .int, rfl, ?_, rels_ints ns⟩
    rw [← hK] at sq
    rcases sq with (e | ⟨o, e⟩) | z
    · rcases on a with e' | ⟨o, xs, e'⟩
      · rw [e] at e'; cases e'
      · rw [e] at e'; cases e'
    · exact .inl ⟨o, e, ⟨fun i z => (by cases z), fun z => z⟩⟩
    · exact .inr fun H' => .inr z
  · obtain ⟨S, hS⟩ := h ns hl
    rw [hS]
    intro m' H' b x rs' r
    rw [rel_bl] at r
    rw [r]
    exact q H'
  · cases r with
    | error e =>
      obtain ⟨_, _, _, _, _, _, _, _, _, _, _, _, z⟩ := q'
      exact z
    | ok fl =>
      cases fl with
      | ret u => exact q'
      | next => exact q'
      | brk => exact q'
      | cont => exact q'
end
end Iv

/-! ### defaults; join -/
namespace Iv
open PySem PySem.Spec PyProof.Rows L2 TL
section
variable {g : Gs} {X : Cx} {F : CE}
/-- an argument's place, or a default's -/
def arOf (n : Nat) (dd : List Iv.D) (j : Nat) : Ar := if j < n then .a j else .d (dd.getD (j - n) .non)
theorem pick_dfl {n : Nat} {dd ds : List Iv.D} (hn : ds.length = n) : ∀ {js : List Nat} {ps : List Iv.D}, (∀ j ∈ js, j < n + dd.length) → pick ds (js.map (arOf n dd)) = some ps → pick (ds ++ dd) (js.map .a) = some ps
  | [], ps, _, h => h
  | j :: js, ps, hj, h => by
    rw [List.map_cons] at h ⊢
    have hj0 := hj j (List.mem_cons_self ..)
    have ih := fun qs => pick_dfl (js := js) (ps := qs) hn fun i hi => hj i (List.mem_cons_of_mem _ hi)
    by_cases hlt : j < n
    · rw [show arOf n dd j = .a j from if_pos hlt, pick] at h
      split at h
      · rename_i d hd
        obtain ⟨qs, hq, rfl⟩ := Option.map_eq_some_iff.mp h
        rw [pick, List.getElem?_append_left (by rw [hn]; exact hlt), hd]
        exact Option.map_eq_some_iff.mpr ⟨qs, ih qs hq, rfl⟩
      · cases h
    · rw [show arOf n dd j = .d (dd.getD (j - n) .non) from if_neg hlt, pick] at h
      obtain ⟨qs, hq, rfl⟩ := Option.map_eq_some_iff.mp h
      have hd : dd[j - n]? = some (dd.getD (j - n) .non) := by
        have : j - n < dd.length := by omega
        rw [List.getD_eq_getElem?_getD, List.getElem?_eq_getElem this]
        rfl
      rw [pick, List.getElem?_append_right (by omega), hn, hd]
      exact Option.map_eq_some_iff.mpr ⟨qs, ih qs hq, rfl⟩
theorem sig_dfl {fa : Addr} {fd : FuncData} {ps ks : List Str} {n : Nat} {js : List Nat} {x qual : Str} {params : Arguments} {body : List Stmt} {scope : Scope} {dvs : List V} {kws : List (Str × V)} (dd : List Iv.D) (F : FunD g.K x qual params body scope dvs kws fa fd) (hd : dvs ≠ []) (hl : js.length = ps.length)
    (hj : ∀ j ∈ js, j < n + ks.length + dd.length) (hdd : ∀ m n H, Rels g m n H dd dvs)
    (h : ∀ (T : Addr) (kV doc pm : Value) (an : Option Addr) (cdv ct : Value) (us ws its : List Value), us.length = n → ws.length = ks.length → its.length = dvs.length →
      ∃ k, bindArgs (PySem.W.fnOf x qual params body scope (.ref T) kV doc pm an cdv ct) ⟨us, ks.zip ws⟩ = seqItems? (.ref T) >>= k ∧ k (some its.toArray) = pure (ps.zip (gat js (us ++ ws ++ its)))) : Sig g fd ps n ks (js.map (arOf (n + ks.length) dd)) := by
  obtain ⟨oc, od, dV, kV, doc, pm, an, cdv, ct, osl, rfl, lk, hcd, hD, hK⟩ := F.ex
  rcases hD with ⟨e, _⟩ | ⟨_, T, o, its, mm, rfl, lT, oT, rT⟩
  · exact absurd e hd
  · refine ⟨fun us ws => gat js (us ++ ws ++ its), fun vs zs => gat js (vs ++ zs ++ dvs), ⟨fun s us ws X l1 l2 => ?_, fun r1 r2 => gat_vals ((r1.append r2).append rT) js⟩, fun m N H ds vs zs ps' r l1 l2 hp => ?_⟩
    · obtain ⟨k, e1, e2⟩ := h T kV doc pm an cdv ct us ws its l1 l2 rT.length.symm
      refine BindsTo.of_looks fun M => ?_
      rw [e1]
      exact looks_items X lT oT (.of_pure e2)
    · have ln : ds.length = n + ks.length := by rw [r.length, List.length_append, l1, l2]
      obtain ⟨q1, q2⟩ := gat_rels (r.append (hdd m N H)) (pick_dfl ln (fun j hj' => hj j hj') hp)
      exact ⟨q1, q2.trans hl⟩
theorem strs_rels {m : Mp} {n : Nat} {H : Hp} : ∀ {xs : List Iv.D} {vs : List V} {ss : List Str}, strsD xs = some ss → Rels g m n H xs vs → vs = ss.map V.str ∧ ∀ s ∈ ss, okS s
  | [], vs, ss, h, r => by
    cases h
    unfold Rels at r
    exact ⟨r, fun s hs => by cases hs⟩
  | x :: xs, vs, ss, h, r => by
    unfold Rels at r
    obtain ⟨w, ws, rfl, r1, r2⟩ := r
    cases x with
    | str z =>
      obtain ⟨ms, hm, rfl⟩ := Option.map_eq_some_iff.mp (show (strsD xs).map (z :: ·) = some ss from h)
      rw [rel_str] at r1
      obtain ⟨i1, i2⟩ := strs_rels hm r2
      refine ⟨by rw [r1.1, i1]; rfl, fun s hs => ?_⟩
      rcases List.mem_cons.mp hs with rfl | hs
      · exact r1.2
      · exact i2 s hs
    | _ => cases h
theorem joinL_mem {S : List Nat} {c : Nat} : ∀ {ps : List (List Nat)}, c ∈ joinL S ps → c ∈ S ∨ ∃ p ∈ ps, c ∈ p
  | [], h => by cases h
  | [p], h => .inr ⟨p, List.mem_cons_self .., h⟩
  | p :: q :: r, h => by
    unfold joinL at h
    rcases List.mem_append.mp h with h | h
    · exact .inr ⟨p, List.mem_cons_self .., h⟩
    · rcases List.mem_append.mp h with h | h
      · exact .inl h
      · rcases joinL_mem h with h | ⟨u, hu, h⟩
        · exact .inl h
        · exact .inr ⟨u, List.mem_cons_of_mem _ hu, h⟩
theorem joinL_len {S : List Nat} : ∀ ps : List (List Nat), (joinL S ps).length ≤ (ps.map List.length).sum + ps.length * S.length
  | [] => Nat.zero_le _
  | [p] => by simp [joinL]
  | p :: q :: r => by
    have ih := joinL_len (S := S) (q :: r)
    unfold joinL
    simp only [List.length_append, List.map_cons, List.sum_cons, List.length_cons, Nat.succ_mul] at ih ⊢
    omega
theorem okS_join {a : Str} {ys : List Str} (ha : okS a) (hy : ∀ s ∈ ys, okS s) (hl : (ys.map (·.length)).sum + ys.length * a.length ≤ 16777216) : okS (Txt.join a ys) := by
  have e : (Txt.join a ys).cps.toList = joinL (tl a) (ys.map tl) := by rw [join_eq]; exact tl_join a ys
  constructor
  · have h := joinL_len (S := tl a) (ys.map tl)
    rw [← e, List.length_map, List.map_map] at h
    have h1 : (Txt.join a ys).length = (Txt.join a ys).cps.toList.length := rfl
    have h2 : (ys.map (List.length ∘ tl)) = ys.map (·.length) := rfl
    have h3 : (tl a).length = a.length := rfl
    rw [h2, h3] at h
    rw [h1, sizeLine_eq]
    omega
  · intro c hc
    rw [e] at hc
    rcases joinL_mem hc with h | ⟨p, hp, h⟩
    · exact ha.2 c h
    · obtain ⟨s, hs, rfl⟩ := List.mem_map.mp hp
      exact (hy s hs).2 c h
theorem mt_join' (hK : X.K = g.K) : MtR X "str.join" (rm g .join) := by
  refine MtR.imp mt_join fun v xs H Q ⟨m, S, d, ds, W, rs, r, rx, w⟩ => ?_
  replace w : WP g W (Rel g) m S.length H (bmJoin S d ds) Q := w
  unfold bmJoin at w
  split at w
  · split at w
    · rename_i a
      split at w
      · rename_i ys hy
        obtain ⟨c, w⟩ := w.ck
        obtain ⟨zs, hz, hs⟩ := Option.bind_eq_some_iff.mp hy
        obtain ⟨y, rfl, ry⟩ := rx.one
        rw [rel_str] at r
        obtain ⟨p, vs, rfl, rr, q⟩ := seqOf_sq rs ry hz
        obtain ⟨e, ok⟩ := strs_rels hs rr
        rw [e, ← hK] at q
        exact ⟨a, p, ys, r.1, rfl, q, c, w.now rs (by rw [rel_str]; exact ⟨rfl, okS_join r.2 ok c⟩)⟩
      · exact w.err
    · exact w.err
  · exact w.err
end
end Iv

/-! ### range with a step, zip of boxes, isinstance of several, keyword-only defaults, classes -/
namespace Iv
open PySem PySem.Spec PyProof.Rows L2
section
variable {g : Gs} {W : L2.WX} {X : Cx} {F : CE} {m : Mp} {n : Nat} {H : Hp} {S : Sto} {ρ : Env} {pos : Pos} {xs ys : List Iv.D}
theorem size_up {i j k : Int} (h : i ≤ j) (hk : 0 < k) : Builtin.Range.rangeSize i j k = (rngN i j k : Nat) := by
  unfold Builtin.Range.rangeSize rngN
  rw [if_pos hk]
  have e : ∀ z : Int, (z - 1 + 1 * k) / k = (z - 1) / k + 1 := fun z => Int.add_mul_ediv_right _ _ (by omega)
  split
  · have h1 : j - i + k - 1 = (j - i - 1) + 1 * k := by omega
    rw [h1, e]
    have : 0 ≤ (j - i - 1) / k := Int.ediv_nonneg (by omega) (by omega)
    omega
  · have h0 : j - i + k - 1 = k - 1 := by omega
    rw [h0, Int.ediv_eq_zero_of_lt (by omega) (by omega)]
    rfl
theorem small_up {i j k : Int} (hi : smallI i) (hj : smallI j) (h : i ≤ j) (hk : 0 < k) (hk2 : k < 1073741824) : Builtin.Range.small i j k = true := by
  have hs : Builtin.Range.rangeSize i j k ≤ j - i := by
    rw [size_up h hk]
    unfold rngN
    have h1 : (j - i + k - 1) / k ≤ j - i := by
      by_cases hz : j - i = 0
      · rw [hz, Int.ediv_eq_zero_of_lt (by omega) (by omega)]
        exact Int.le_refl _
      · refine Int.ediv_le_of_le_mul hk ?_
        have : (j - i - 1) * (k - 1) ≥ 0 := Int.mul_nonneg (by omega) (by omega)
        have e2 : (j - i - 1) * (k - 1) = (j - i) * k - (j - i) - k + 1 := by
          rw [Int.sub_mul, Int.mul_sub, Int.one_mul, Int.mul_one]
          omega
        omega
    omega
  unfold smallI at hi hj
  unfold Builtin.Range.small
  simp only [Builtin.Range.rangeFitsLong, Bool.and_eq_true, Bool.or_eq_true, decide_eq_true_eq, beq_iff_eq, hk, if_true]
  have h0 : 0 ≤ Builtin.Range.rangeSize i j k := by rw [size_up h hk]; omega
  omega
theorem evs3 {ie ie2 ie3 : E} : evs F [ie, ie2, ie3] ρ S = (ev F ie ρ S).bind fun x S => (ev F ie2 ρ S).bind fun y S => (ev F ie3 ρ S).bind fun z S => .ok [x, y, z] S := by
  rw [evs]
  congr 1
  funext x S
  rw [evs2, R.bind_bind]
  congr 1
  funext y S
  rw [R.bind_bind]
  rfl
theorem itr_rngS {lo c : Int} {k : Nat} : ItR g m n H (.fix, rngS lo c k) (Itc lo c k) := by
  intro m' S' H' x rs _
  refine ⟨fun i d e => ?_, by show k ≤ _; rw [rngS, List.length_map, List.length_range]; exact Nat.le_refl _⟩
  rw [rngS, List.getElem?_map] at e
  obtain ⟨j, hj, rfl⟩ := Option.map_eq_some_iff.mp e
  obtain ⟨hl, e2⟩ := List.getElem?_eq_some_iff.mp hj
  rw [List.getElem_range] at e2
  subst e2
  rw [List.length_range] at hl
  refine ⟨hl, fun y H'' ⟨q1, q2⟩ => ?_⟩
  subst q1
  exact ⟨rs, Ext.refl, by rw [rel_int]; exact q2⟩
theorem w_rng3 {tg e e2 e3 : Expr} {ie ie2 ie3 : E} {p : Pos} (hg : Gl X "range") (hm : X.mg "range" = none) (ok : okE e = true) (ok2 : okE e2 = true) (ok3 : okE e3 = true) (ha : PA X [e, e2, e3] (tEs g W (evs F [ie, ie2, ie3]))) : PI X tg (.Call (.Name "range" p) [e, e2, e3] [] pos) (tI g W (evIt F (.rng3 ie ie2 ie3))) := by
  refine PI.imp (pi_range3 hg hm ha (starEach_ok ok) (by rw [starEach_ok ok2, starEach_ok ok3]; rfl)) fun σ H R ⟨m, ρ, S, rs, er, w⟩ => ?_
  rw [evIt] at w
  refine ⟨m, ρ, S, rs, er, ?_⟩
  show WP g _ (Rels g) m S.length H (evs F [ie, ie2, ie3] ρ S) _
  rw [evs3]
  cases hh : ev F ie ρ S with
  | ok d S1 =>
    rw [hh] at w
    simp only [Iv.R.bind_ok] at w ⊢
    cases hh2 : ev F ie2 ρ S1 with
    | ok d2 S2 =>
      rw [hh2] at w
      simp only [Iv.R.bind_ok] at w ⊢
      cases hh3 : ev F ie3 ρ S2 with
      | ok d3 S3 =>
        rw [hh3] at w
        simp only [Iv.R.bind_ok] at w ⊢
        intro m' H' vs x rs' r
        have r0 := r
        unfold Rels at r0
        obtain ⟨v, vs', rfl, rv, r1⟩ := r0
        obtain ⟨v2, v3, rfl, rv2, rv3⟩ := Rels.two r1
        have w := w.from x
        split at w
        · obtain ⟨c, w⟩ := w.ck
          rw [rel_int] at rv rv2 rv3
          exact ⟨_, _, _, _, by rw [rv, rv2, rv3], ⟨by omega, by omega, small_up c.1 c.2.1 c.2.2.1 c.2.2.2.1 c.2.2.2.2, size_up c.2.2.1 c.2.2.2.1⟩, w.now rs' itr_rngS⟩
        · exact w.err
      | exc x S1 => rw [hh3] at w; exact w
      | err => rw [hh3] at w; exact w
    | exc x S1 => rw [hh2] at w; exact w
    | err => rw [hh2] at w; exact w
  | exc x S1 => rw [hh] at w; exact w
  | err => rw [hh] at w; exact w
theorem walkZ_of {d : Iv.D} {p : Src × List Iv.D} (h : walkZ S d = some p) : walkOf S d = some p ∧ ∀ z, d ≠ .str z := by
  cases d <;> first | (exact ⟨h, fun _ z => by cases z⟩) | cases h
theorem itr_twoB {J : L2.It} {src : Src} (h : ∀ m' S' H', ExtW m n H m' (List.length S') H' → RS g m' S' H' → src.there S' → ∃ vs ws, Rels g m' S'.length H' xs vs ∧ Rels g m' S'.length H' ys ws ∧
    (∀ (i : Nat) (v w : V), vs[i]? = some v → ws[i]? = some w → J.go i H' ∧ ∀ x H'', J.yld i H' x H'' → ∃ T, x = .ref T ∧ H' T = none ∧ H'' = upd H' T (.tup [v, w])) ∧ J.stop (min vs.length ws.length) H') : ItR g m n H (src, zipD xs ys) J := by
  intro m' S' H' x rs c
  obtain ⟨vs, ws, r1, r2, k, st⟩ := h m' S' H' x rs c
  refine ⟨fun i d e => ?_, ?_⟩
  · rw [zipD, List.getElem?_map] at e
    obtain ⟨p, hp, rfl⟩ := Option.map_eq_some_iff.mp e
    obtain ⟨p1, p2⟩ := p
    rw [List.getElem?_zip_eq_some] at hp
    obtain ⟨v, hv, rv⟩ := r1.get hp.1
    obtain ⟨w, hw, rw'⟩ := r2.get hp.2
    obtain ⟨k1, k2⟩ := k i v w hv hw
    refine ⟨k1, fun y H'' q => ?_⟩
    obtain ⟨T, q1, q2, q3⟩ := k2 y H'' q
    subst q1 q3
    refine ⟨rs.laid q2, Ext.laid rs q2, ?_⟩
    rw [rel_tup]
    exact ⟨T, _, rfl, .inl ⟨upd_same, Off.free rs q2⟩, Rels.cons (Rel.mono (Ext.laid rs q2) _ _ rv) (Rels.cons (Rel.mono (Ext.laid rs q2) _ _ rw') Rels.nil)⟩
  · have e : (zipD xs ys).length = min vs.length ws.length := by rw [zipD, List.length_map, List.length_zip, r1.length, r2.length]
    show J.stop (zipD xs ys).length H'
    rw [e]
    exact st
theorem w_zipb {e e2 : Expr} {ie ie2 : E} {elts : List Expr} {kk : Nat} {tpos p : Pos} (hg : Gl X "zip") (hm : X.mg "zip" = none) (ok : okE e = true) (ok2 : okE e2 = true) (ha : PA X [e, e2] (tEs g W (evs F [ie, ie2]))) (hK : X.K = g.K := by rfl) :
    PI X (.Tuple elts kk tpos) (.Call (.Name "zip" p) [e, e2] [] pos) (tI g W (evIt F (.zipb ie ie2))) := by
  refine PI.imp (RZ.pi_zipA hg hm ha (starEach_ok ok) (by rw [starEach_ok ok2]; rfl)) fun σ H R ⟨m, ρ, S, rs, er, w⟩ => ?_
  rw [evIt] at w
  refine ⟨m, ρ, S, rs, er, ?_⟩
  show WP g _ (Rels g) m S.length H (evs F [ie, ie2] ρ S) _
  rw [evs2]
  cases hh : ev F ie ρ S with
  | ok d S1 =>
    rw [hh] at w
    simp only [Iv.R.bind_ok] at w ⊢
    cases hh2 : ev F ie2 ρ S1 with
    | ok d2 S2 =>
      rw [hh2] at w
      simp only [Iv.R.bind_ok] at w ⊢
      intro m2 H2 vs x2 rs2 r2
      obtain ⟨v, v2, rfl, rv, rv2⟩ := Rels.two r2
      have w := w.from x2
      cases h1 : walkZ S2 d with
      | none => rw [h1] at w; exact w.err
      | some p1 =>
        obtain ⟨s1, xs⟩ := p1
        cases h2 : walkZ S2 d2 with
        | none => rw [h1, h2] at w; exact w.err
        | some p2 =>
          obtain ⟨s2, ys⟩ := p2
          rw [h1, h2] at w
          obtain ⟨c4, w⟩ := w.ck
          obtain ⟨a1, a2⟩ := walkZ_of h1
          obtain ⟨b1, b2⟩ := walkZ_of h2
          obtain ⟨e1, k1⟩ := there_now a1 a2
          obtain ⟨e2, k2⟩ := there_now b1 b2
          obtain ⟨a, us, rfl, ra, sa⟩ := seq_k rs2 rv e1
          obtain ⟨b, ws, rfl, rb, sb⟩ := seq_k rs2 rv2 e2
          have go : ∀ m' S' H', ExtW m2 S2.length H2 m' (List.length S') H' → RS g m' S' H' → (Src.two s1 s2).there S' → ∃ us' ws', Rels g m' S'.length H' xs us' ∧ Rels g m' S'.length H' ys ws' ∧ Wz.Sq (kOf d) g.K H' a us' ∧ Wz.Sq (kOf d) g.K H' b ws' := by
            intro m' S' H' x rs' c
            obtain ⟨a', us', e1, ra', sa'⟩ := seq_k rs' (Rel.monoW x _ _ rv) (k1 S' c.1)
            cases e1
            obtain ⟨b', ws', e2, rb', sb'⟩ := seq_k rs' (Rel.monoW x _ _ rv2) (k2 S' c.2)
            cases e2
            rw [← c4] at sb'
            exact ⟨us', ws', ra', rb', sa', sb'⟩
          rw [hK]
          rw [← c4] at sb
          refine ⟨a, b, us, ws, rfl, ?_⟩
          cases hk : kOf d with
          | true =>
            rw [hk] at sa sb go
            refine .inl ⟨sa, sb, w.now rs2 (itr_twoB fun m' S' H' x rs' c => ?_)⟩
            obtain ⟨us', ws', ra', rb', sa', sb'⟩ := go m' S' H' x rs' c
            refine ⟨us', ws', ra', rb', fun i v w hv hw => ⟨⟨us', ws', v, w, sa', sb', hv, hw⟩, fun y H'' ⟨T, y1, y2, f1, f2, f3, f4, f5⟩ => ?_⟩, ⟨us', ws', sa', sb', by omega⟩⟩
            have g1 := f4 us' sa'
            have g2 := f5 ws' sb'
            rw [hv] at g1
            rw [hw] at g2
            cases g1
            cases g2
            exact ⟨T, f1, f2, f3⟩
          | false =>
            rw [hk] at sa sb go
            refine .inr ⟨sa, sb, w.now rs2 (itr_twoB fun m' S' H' x rs' c => ?_)⟩
            obtain ⟨us', ws', ra', rb', sa', sb'⟩ := go m' S' H' x rs' c
            refine ⟨us', ws', ra', rb', fun i v w hv hw => ⟨⟨us', ws', v, w, sa', sb', hv, hw⟩, fun y H'' ⟨T, y1, y2, f1, f2, f3, f4, f5⟩ => ?_⟩, ⟨us', ws', sa', sb', by omega⟩⟩
            have g1 := f4 us' sa'
            have g2 := f5 ws' sb'
            rw [hv] at g1
            rw [hw] at g2
            cases g1
            cases g2
            exact ⟨T, f1, f2, f3⟩
    | exc x S1 => rw [hh2] at w; exact w
    | err => rw [hh2] at w; exact w
  | exc x S1 => rw [hh] at w; exact w
  | err => rw [hh] at w; exact w
/-! isinstance(x, (T, ..)) -/
def tTys (ns : List String) : TA := fun _ H Q => Q (ns.map V.ty) H
theorem ty_nil : PA X [] (tTys []) := pa_nil
theorem ty_cons {n : String} {x : Str} {es : List Expr} {ns : List String} {p : Pos} (hm : X.mg x = none) (hv : bootBuiltins x = some (.type n)) (hr : PA X es (tTys ns)) (hg : Gl X x := by rfl) (hn : x ≠ "__name__" := by decide) (hd : (x == ("__debug__" : Str)) = false := by decide) : PA X (.Name x p :: es) (tTys (n :: ns)) :=
  PA.imp (pa_cons (pe_bltn (v := .ty n) hg hm hv rfl hn hd) hr (starEach_ok rfl)) fun σ H Q q => q
theorem isiT_any {K : PySem.W.Frag} {x : Iv.D} {t : String} (ht : tyOf S x = some t) : ∀ {ns : List String} {b : Bool}, isiT S x ns = some b → PySem.W.kitAny K (.type t) (ns.map Value.type) = some b
  | [], b, h => by cases h; rfl
  | n :: ns, b, h => by
    unfold isiT at h
    rw [ht] at h
    simp only [Option.bind_some] at h
    cases hk : kitB t n with
    | none => rw [hk] at h; cases h
    | some r =>
      rw [hk] at h
      rw [List.map_cons]
      cases r with
      | true =>
        cases h
        exact kitAny_cons (kit_ty hk) (fun z => by cases z) fun _ => rfl
      | false => exact kitAny_cons (kit_ty hk) (fun _ => isiT_any ht h) fun z => by cases z
theorem clsv_tys : ∀ ns : List String, Paired ClsV (ns.map V.ty) (ns.map Value.type)
  | [] => .nil
  | _ :: ns => .cons (.ty _) (clsv_tys ns)
theorem i_isit {e : Expr} {ie : E} {ts : List Expr} {ns : List String} {j : Nat} {p tp : Pos} (hm : X.mg "isinstance" = none) (he : PE X e (tE g W (ev F ie))) (ht : PA X ts (tTys ns)) (hne : ns ≠ []) (oke : okE e = true := by rfl) (hK : X.K = g.K := by rfl) (hg : Gl X "isinstance" := by rfl) :
    PE X (.Call (.Name "isinstance" p) [e, .Tuple ts j tp] [] pos) (tE g W (ev F (.isit ie ns))) := by
  refine PE.imp (pe_callB call_isiT hg hm (by decide +kernel) (pa_cons he (pa_cons (pe_tup ht) pa_nil (starEach_ok rfl)) (starEach_ok oke)) (by decide) (by decide) (starEach_ok oke) (by rw [starEach_ok rfl]; rfl)) fun σ H Q ⟨m, ρ, S, rs, er, w⟩ => ?_
  rw [ev] at w
  refine TI.step rs er w fun x H1 m1 S1 d x1 rs1 er1 r1 w => ?_
  split at w
  · rename_i b hb
    obtain ⟨c, w⟩ := w.ck
    refine ⟨by rw [List.length_map, sizeLine_eq]; omega, fun q hq => ?_⟩
    have rs2 := rs1.laid (o := .tup (ns.map V.ty)) hq
    have x2 : Ext m1 S1.length H1 m1 S1.length (upd H1 q (.tup (ns.map V.ty))) := Ext.laid rs1 hq
    have r2 := Rel.mono x2 _ _ r1
    cases hty : tyOf S1 d with
    | none =>
      cases ns with
      | nil => exact absurd rfl hne
      | cons n0 ns =>
        unfold isiT at hb
        rw [hty] at hb
        cases hb
    | some t =>
      refine ⟨x, q, _, _, _, b, rfl, upd_same, clsv_tys ns, by rw [hK]; exact ty_rel rs2 r2 hty, isiT_any hty hb, ?_⟩
      exact (w.from x2).now rs2 (by rw [rel_bl])
  · exact w.err
end
section
variable {g : Gs}
/-- as sig_dfl, with keyword-only defaults (ms: those that lack at this call) -/
theorem sig_kw0 {fa : Addr} {fd : FuncData} {ps ks : List Str} {n : Nat} {js : List Nat} {x qual : Str} {params : Arguments} {body : List Stmt} {scope : Scope} {kws : List (Str × V)} (dd : List Iv.D) (ms : List (Str × V)) (F : FunD g.K x qual params body scope [] kws fa fd) (hk : kws ≠ []) (hms : ∀ q ∈ ms, q ∈ kws) (hl : js.length = ps.length)
    (hj : ∀ j ∈ js, j < n + ks.length + dd.length) (hdd : ∀ m n H, Rels g m n H dd (ms.map (·.2)))
    (h : ∀ (D : Addr) (doc pm : Value) (an : Option Addr) (cdv ct : Value) (us mv ws : List Value), us.length = n → mv.length = ms.length → ws.length = ks.length →
      KwChain D ((ms.map (·.1)).zip mv) (bindArgs (PySem.W.fnOf x qual params body scope .none (.ref D) doc pm an cdv ct) ⟨us, ks.zip ws⟩) (ps.zip (gat js (us ++ ws ++ mv)))) : Sig g fd ps n ks (js.map (arOf (n + ks.length) dd)) := by
  obtain ⟨oc, od, dV, kV, doc, pm, an, cdv, ct, osl, rfl, lk, hcd, hD, hK⟩ := F.ex
  rcases hD with ⟨_, rfl⟩ | ⟨e, _⟩
  · rcases hK with e | ⟨D, rfl, hq⟩
    · exact absurd e hk
    · obtain ⟨mv, hlm, rk, hks⟩ := kwd_vals (ms := ms) fun q hm => hq q (hms q hm)
      refine ⟨fun us ws => gat js (us ++ ws ++ mv), fun vs zs => gat js (vs ++ zs ++ ms.map (·.2)), ⟨fun s us ws X l1 l2 => BindsTo.of_looks fun M => KwChain.looks X hks (h D doc pm an cdv ct us mv ws l1 hlm l2), fun r1 r2 => gat_vals ((r1.append r2).append rk) js⟩, fun m N H ds vs zs ps' r l1 l2 hp => ?_⟩
      have ln : ds.length = n + ks.length := by rw [r.length, List.length_append, l1, l2]
      obtain ⟨q1, q2⟩ := gat_rels (r.append (hdd m N H)) (pick_dfl ln (fun j hj' => hj j hj') hp)
      exact ⟨q1, q2.trans hl⟩
  · exact absurd rfl e
theorem sig_kw {fa : Addr} {fd : FuncData} {ps ks : List Str} {n : Nat} {js : List Nat} {x qual : Str} {params : Arguments} {body : List Stmt} {scope : Scope} {dvs : List V} {kws : List (Str × V)} (dd : List Iv.D) (ms : List (Str × V)) (F : FunD g.K x qual params body scope dvs kws fa fd) (hd : dvs ≠ []) (hk : kws ≠ []) (hms : ∀ q ∈ ms, q ∈ kws) (hl : js.length = ps.length)
    (hj : ∀ j ∈ js, j < n + ks.length + dd.length) (hdd : ∀ m n H, Rels g m n H dd (dvs ++ ms.map (·.2)))
    (h : ∀ (T D : Addr) (doc pm : Value) (an : Option Addr) (cdv ct : Value) (us its mv ws : List Value), us.length = n → its.length = dvs.length → mv.length = ms.length → ws.length = ks.length →
      ∃ k, bindArgs (PySem.W.fnOf x qual params body scope (.ref T) (.ref D) doc pm an cdv ct) ⟨us, ks.zip ws⟩ = seqItems? (.ref T) >>= k ∧ KwChain D ((ms.map (·.1)).zip mv) (k (some its.toArray)) (ps.zip (gat js (us ++ ws ++ (its ++ mv))))) : Sig g fd ps n ks (js.map (arOf (n + ks.length) dd)) := by
  obtain ⟨oc, od, dV, kV, doc, pm, an, cdv, ct, osl, rfl, lk, hcd, hD, hK⟩ := F.ex
  rcases hD with ⟨e, _⟩ | ⟨_, T, o, its, mm, rfl, lT, oT, rT⟩
  · exact absurd e hd
  · rcases hK with e | ⟨D, rfl, hq⟩
    · exact absurd e hk
    · obtain ⟨mv, hlm, rk, hks⟩ := kwd_vals (ms := ms) fun q hm => hq q (hms q hm)
      refine ⟨fun us ws => gat js (us ++ ws ++ (its ++ mv)), fun vs zs => gat js (vs ++ zs ++ (dvs ++ ms.map (·.2))), ⟨fun s us ws X l1 l2 => ?_, fun r1 r2 => gat_vals ((r1.append r2).append (rT.append rk)) js⟩, fun m N H ds vs zs ps' r l1 l2 hp => ?_⟩
      · obtain ⟨k, e1, e2⟩ := h T D doc pm an cdv ct us its mv ws l1 rT.length.symm hlm l2
        refine BindsTo.of_looks fun M => ?_
        rw [e1]
        exact looks_items X lT oT (KwChain.looks X hks e2)
      · have ln : ds.length = n + ks.length := by rw [r.length, List.length_append, l1, l2]
        obtain ⟨q1, q2⟩ := gat_rels (r.append (hdd m N H)) (pick_dfl ln (fun j hj' => hj j hj') hp)
        exact ⟨q1, q2.trans hl⟩
end
/-! classes -/
section
variable {g : Gs} {W : L2.WX} {X : Cx} {F : CE} {o : Expr} {es : List Expr} {kws : List Keyword} {io : E} {ies iks : List E} {ks : List Str} {x name : Str} {p pos apos : Pos}
theorem j_attr {e : Expr} {ie : E} {f : Nat} {nm : Str} (hf : g.fok f) (ha : PE X e (tE g W (ev F ie))) (hnm : g.fn f = nm := by rfl) (hK : X.K = g.K := by rfl) (ok : okE e = true := by rfl) : PE X (.Attribute e nm pos) (tE g W (ev F (.attr ie f))) := by
  subst hnm
  exact i_attr hK hf ok ha
theorem j_gattr {vs : List Nat} {f : Nat} {cs : List Nat} {nm : Str} (hf : g.fok f) (hcs : ∀ c ∈ cs, NoAttr g.K (g.ca c) (g.fn f)) (ho : PE X o (tE g W (ev F io))) (hnm : g.fn f = nm := by rfl) (hK : X.K = g.K := by rfl) : PG X (.Attribute o nm pos) (TGv g vs (asg F (.attr io f cs))) := by
  subst hnm
  exact g_attr hK hf hcs ho
theorem rel_tupK {m : Mp} {n : Nat} {H : Hp} {a : Addr} (h : ∀ H, SqT g.K H a []) : Rel g m n H (.tup []) (.ref a) := by
  rw [rel_tup]
  exact ⟨a, [], rfl, .inr h, Rels.nil⟩
theorem j_make {j k c f : Nat} {fa : Addr} {fr : Bool} {arr : List Ar} {sigs : List (Nat × List Str × List Ar)} (fo : Fo g X.prog X.w X.K X.mg X.base F k fa f sigs) (M : Mk g.K (g.ca c) fa) (cl : Cls g.K (g.ca c)) (hm : X.mg x = some (.ref (g.ca c))) (tk : Takes X W) (hr : Room j X.A) (ie : List E) (hie : ie = ies ++ iks) (ha : PA X es (tEs g W (evs F ies))) (hkw : PK X kws (tEs g W (evs F iks)))
    (hs : (ies.length + 1, ks, arr) ∈ sigs) (hK : X.K = g.K := by rfl) (hg : Gl X x := by rfl) (hj : k + 1 ≤ j := by omega) (hdb : (x == ("__debug__" : Str)) = false := by decide) (oks : okEs es = true := by rfl) (hks : kwsNames kws = some ks := by rfl) (hkl : iks.length = ks.length := by rfl) (hel : es.length = ies.length := by rfl) :
    PE X (.Call (.Name x p) es kws pos) (tE g W (ev F (.make fr c f arr ie))) := by
  subst hie
  obtain ⟨fd, ps, FO, sg, kp⟩ := fo.ex
  exact i_make hK M cl FO (hr.mono hj) hg hm (sg _ hs) tk hdb oks hks hkl hel ha hkw
theorem mok_of {j k c f n : Nat} {fa : Addr} {arr : List Ar} {sigs : List (Nat × List Str × List Ar)} (fo : Fo g X.prog X.w X.K X.mg X.base F k fa f sigs) (M : Meth g.K (g.ca c) name fa) (hr : Room j X.A) (hs : (n + 1, ks, arr) ∈ sigs) (hj : k ≤ j := by omega) : MOk g X F name c f n ks arr := by
  obtain ⟨fd, ps, FO, sg, kp⟩ := fo.ex
  exact ⟨k, fa, fd, ps, M, FO, hr.mono hj, sg _ hs⟩
theorem mok1 {c f n : Nat} {arr : List Ar} (h : MOk g X F name c f n ks arr) : ∀ c' f' arr', [(c, f, arr)].lookup c' = some (f', arr') → MOk g X F name c' f' n ks arr' := by
  intro c' f' arr' e
  rw [List.lookup_cons] at e
  by_cases hc : c' = c
  · subst hc
    rw [show (c' == c') = true from beq_self_eq_true c'] at e
    cases e
    exact h
  · rw [show (c' == c) = false from beq_eq_false_iff_ne.mpr hc] at e
    cases e
theorem j_meth {ms : List (Nat × Nat × List Ar)} (hms : ∀ c f arr, ms.lookup c = some (f, arr) → MOk g X F name c f ies.length ks arr) (tk : Takes X W) (ie : List E) (hie : ie = ies ++ iks) (ho : PE X o (tE g W (ev F io))) (ha : PA X es (tEs g W (evs F ies))) (hkw : PK X kws (tEs g W (evs F iks)))
    (hK : X.K = g.K := by rfl) (oko : okE o = true := by rfl) (oks : okEs es = true := by rfl) (hks : kwsNames kws = some ks := by rfl) (hkl : iks.length = ks.length := by rfl) (hel : es.length = ies.length := by rfl)
    (hn : es.length + kws.length < 28 := by decide) (hl : (apos.endLine == pos.line) = true := by rfl) : PE X (.Call (.Attribute o name apos) es kws pos) (tE g W (ev F (.meth io ms ie))) := by
  subst hie
  exact i_meth hK hms tk oko oks hks hkl hel hn hl ho ha hkw
end
end Iv
/-! ### the head, with one more Bool -/
namespace He
open PySem PySem.Spec PyProof.Rows L2
/-- the default of a keyword-only parameter, if it is an object -/
def kwAt (f : Str × Option Str) (x : Str) (K : PySem.W.Frag) : Addr := match K.lookup (fAd K f) with
  | some ⟨_, _, .func fd, _⟩ => (match fd.kwdefaults with
    | .ref D => (match PySem.W.nsIn K D x with
      | some (some (.ref a)) => a
      | _ => 0)
    | _ => 0)
  | _ => 0
/-- a tuple of these stands at a -/
def tupAtB (K : PySem.W.Frag) (a : Addr) (vs : List Dv) : Bool := match K.lookup a with
  | some ⟨.type c, _, .seq its _, _⟩ => decide (c = "tuple") && (decide (its.size ≤ sizeLine) && relAll (vs.map (Dv.v K)) its.toList)
  | _ => false
theorem tupAtB_ok {K : PySem.W.Frag} {a : Addr} {vs : List Dv} (h : tupAtB K a vs = true) (H : Hp) : SqT K H a (vs.map (Dv.v K)) := by
  unfold tupAtB at h
  cases q : K.lookup a with
  | none => rw [q] at h; cases h
  | some o =>
    obtain ⟨oc, od, dt, osl⟩ := o
    rw [q] at h
    cases oc with
    | type c =>
      cases dt with
      | seq its n =>
        obtain ⟨h1, h2⟩ := ba (show (decide (c = "tuple") && (decide (its.size ≤ sizeLine) && relAll (vs.map (Dv.v K)) its.toList)) = true from h)
        obtain ⟨h3, h4⟩ := ba h2
        exact .inr ⟨_, its, n, q, congrArg Value.type (of_decide_eq_true h1), rfl, of_decide_eq_true h3, relAll_ok h4⟩
      | _ => cases h
    | _ => cases dt <;> cases h
abbrev AlB : Type := AlD × Bool
def obsB (fa : List Fa) (fn : List DefD) (ex : PySem.W.Frag → Bool) (K : PySem.W.Frag) : AlB := (obsD fa fn K, ex K)
def obsBG (n : Nat) (fa : List Fa) (fn : List DefD) (ex : PySem.W.Frag → Bool) (g : Addr → Option Obj) : AlB := obsB fa fn ex (frG g (asD g n))
structure SaysB (fa : List Fa) (fn : List DefD) (ex : PySem.W.Frag → Bool) (K : PySem.W.Frag) : Prop where
  d : SaysD fa fn K
  more : ex K = true
def hookB (n : Nat) (fa : List Fa) (fn : List DefD) (ex : PySem.W.Frag → Bool) : PySem.W.Hook where
  α := AlB
  obs := fun s => obsBG n fa fn ex s.heap.get?
  val := fun _ => (valD fn, true)
  says := fun _ h => ∃ K : PySem.W.Frag, K.In h ∧ SaysB fa fn ex K
  of := fun _ _ e => ⟨_, frG_in, congrArg (fun z : AlB => z.1) e, congrArg (fun z : AlB => z.2) e⟩
  keeps := fun _ _ _ ⟨K, hK, c⟩ k => ⟨K, PySem.W.Frag.In.keeps hK k, c⟩
theorem obsBG_eq {n : Nat} {fa : List Fa} {fn : List DefD} {ex : PySem.W.Frag → Bool} {g : Addr → Option Obj} {s : Shared} (h : ∀ a, g a = s.heap.get? a) : obsBG n fa fn ex g = (hookB n fa fn ex).obs s := by
  have e : g = s.heap.get? := funext h
  rw [e] <;> rfl
end He

/-! ### sum(lists, []) -/
namespace Iv
open PySem PySem.Spec PyProof.Rows L2
section
variable {prog : Program} {w : World} {A : Around} {E : Value → Shared → Prop} {s : Shared}
theorem args_sum2 (a v : Value) : argsOk "sum" ⟨[a, v], []⟩ := by unfold argsOk; kernel_rfl
theorem sum_ll_loop {R : Result → Shared → Prop} {I : Addr} {fp wr : List Addr} {n : Nat} {P : Nat → Value → Prop} {St : Nat → Heap → Prop} {LL : List (List Value)} {h0 : Heap} {S : Addr} (W : Walks prog w A.in1 I fp wr n P St) (hn : n = LL.length)
    (hval : ∀ i v, P i v → ∃ L b c, LL[i]? = some L ∧ v = .ref b ∧ b ∉ wr ∧ b ≠ S ∧ PySem.IsL h0 b L.toArray c) (hSf : S ∉ fp) (hS0 : h0.objs.size ≤ S) (hfp : ∀ b ∈ fp, b < h0.objs.size) :
    ∀ (k i : Nat) (s : Shared) (T : Addr) (its : List Value) (c c' : Nat), n - i = k → i ≤ n → St i s.heap → PySem.IsL s.heap S #[.ref T] c' → PySem.IsL s.heap T its.toArray c → T ∉ wr → T ≠ S → (∀ b o, b ∉ wr → h0.get? b = some o → s.heap.get? b = some o) → h0.objs.size ≤ s.heap.objs.size → (its ++ (LL.drop i).flatten).length ≤ sizeLine →
    (∀ h' tk T' c1, (∀ b o, b ∉ wr → h0.get? b = some o → h'.get? b = some o) → PySem.IsL h' T' (its ++ (LL.drop i).flatten).toArray c1 → ((T' = T ∧ i = n) ∨ h0.objs.size ≤ T') → R (.ok (.ret (.ref T'))) { s with heap := h', toks := tk }) →
    codeAny (model prog w) A (.builtin "sum.loop" ⟨[.ref I, .ref S, rawInt 2, rawInt 0], []⟩) R s := by
  have hSw : S ∉ wr := fun h => hSf (W.sub _ h)
  have hwr : ∀ b ∈ wr, b < h0.objs.size := fun b hb => hfp b (W.sub _ hb)
  intro k
  induction k with
  | zero =>
    intro i s T its c c' hk hi hst hS hT hTw hTS hold hsz hl hR
    have hin : i = n := by omega
    have hd : LL.drop i = [] := List.drop_eq_nil_of_le (by omega)
    refine codeAny_builtin F.entry_sum_loop ?_
    rw [Around.under_plainId F.plain_sum_loop _]
    show wpAny _ A.in1 (seqItems? (.ref S) >>= _) _ _ s
    refine wpAny_bind (wpAny_seqItems hS rfl ?_)
    show wpAny _ A.in1 (tryCatch (pyNext (.ref I)) _ >>= _) _ _ s
    refine wpAny_bind (wpAny_tryCatch (W.done s _ _ (hin ▸ hst) fun h' tk hk' => ?_))
    refine wpAny_pure (hR h' tk T c (fun b o hbw e => hk' b o hbw (hold b o hbw e)) ?_ (.inl ⟨rfl, hin⟩))
    rw [hd, List.flatten_nil, List.append_nil]
    exact hk' T _ hTw hT
  | succ k ih =>
    intro i s T its c c' hk hi hst hS hT hTw hTS hold hsz hl hR
    have hlt : i < n := by omega
    have hil : i < LL.length := by omega
    refine codeAny_builtin F.entry_sum_loop ?_
    rw [Around.under_plainId F.plain_sum_loop _]
    show wpAny _ A.in1 (seqItems? (.ref S) >>= _) _ _ s
    refine wpAny_bind (wpAny_seqItems hS rfl ?_)
    show wpAny _ A.in1 (tryCatch (pyNext (.ref I)) _ >>= _) _ _ s
    refine wpAny_bind (wpAny_tryCatch (W.item i s _ _ hlt hst fun v h' tk hP hst' hk' => ?_))
    obtain ⟨L, b, cb, hL, rfl, hbw, hbS, hb0⟩ := hval i v hP
    have e0 : LL[i] = L := Option.some.inj ((List.getElem?_eq_getElem hil).symm.trans hL)
    have hd : LL.drop i = L :: LL.drop (i + 1) := by rw [List.drop_eq_getElem_cons hil, e0]
    rw [hd, List.flatten_cons] at hl hR
    have hS' : PySem.IsL h' S #[.ref T] c' := hk' S _ hSw hS
    have hT' : PySem.IsL h' T its.toArray c := hk' T _ hTw hT
    have hb' : PySem.IsL h' b L.toArray cb := hk' b _ hbw (hold b _ hbw hb0)
    have hsz' : h0.objs.size ≤ h'.objs.size := Nat.le_trans hS0 (Nat.le_of_lt (Heap.lt_size hS'))
    show wpAny _ A.in1 ((holding [Value.ref b] (binaryOp .Add (.ref T) (.ref b))).attempt >>= _) _ _ _
    refine wpAny_bind (wpAny_attempt (wpAny_holding (PySem.P.add_list hT' hb' ?_ (by rw [List.size_toArray, List.size_toArray]; simp only [List.length_append] at hl; omega))))
    show wpAny _ A.in1 (updateSeq S (fun _ => #[.ref h'.objs.size]) >>= _) _ _ _
    have ea : its.toArray ++ L.toArray = (its ++ L).toArray := by simp
    rw [ea]
    have hS1 : PySem.IsL (h'.push { cls := .type "list", data := .seq (its ++ L).toArray }) S #[.ref T] c' := Heap.get?_push_of_some _ hS'
    refine wpAny_bind (wpAny_updateSeq hS1 rfl ?_)
    have hS2 := Heap.get?_update_self (Obj.mapSeq fun _ => #[Value.ref h'.objs.size]) hS1 rfl
    refine wpAny_bind (wpAny_letGo ?_)
    refine wpAny_bind (wpAny_updateSeq hS2 rfl ?_)
    have hne : S ≠ h'.objs.size := Nat.ne_of_lt (Heap.lt_size hS')
    have up : ∀ b o, b ≠ S → h'.get? b = some o → (((h'.push { cls := .type "list", data := .seq (its ++ L).toArray }).update S (Obj.mapSeq fun _ => #[Value.ref h'.objs.size])).update S (Obj.mapSeq fun _ => #[Value.ref h'.objs.size])).get? b = some o := fun b o hb e =>
      (Heap.get?_update_other _ _ (Ne.symm hb)).trans ((Heap.get?_update_other _ _ (Ne.symm hb)).trans (Heap.get?_push_of_some _ e))
    have hS3 : PySem.IsL (((h'.push { cls := .type "list", data := .seq (its ++ L).toArray }).update S (Obj.mapSeq fun _ => #[Value.ref h'.objs.size])).update S (Obj.mapSeq fun _ => #[Value.ref h'.objs.size])) S #[.ref h'.objs.size] c' := Heap.get?_update_self _ hS2 rfl
    have hN : PySem.IsL (((h'.push { cls := .type "list", data := .seq (its ++ L).toArray }).update S (Obj.mapSeq fun _ => #[Value.ref h'.objs.size])).update S (Obj.mapSeq fun _ => #[Value.ref h'.objs.size])) h'.objs.size (its ++ L).toArray 0 :=
      (Heap.get?_update_other _ _ hne).trans ((Heap.get?_update_other _ _ hne).trans (Heap.get?_push_size _ rfl))
    refine wpAny_pure ⟨plainId_quiet F.plain_sum_loop _, ih (i + 1) _ h'.objs.size (its ++ L) 0 c' (by omega) hlt (W.frame _ _ _ hst' fun b hb o e => up b o (fun z => hSf (z ▸ hb)) e) hS3 hN (fun z => Nat.lt_irrefl _ (Nat.lt_of_lt_of_le (hwr _ z) hsz')) (Ne.symm hne) (fun b o hbw e => up b o (fun z => Nat.lt_irrefl _ (Nat.lt_of_lt_of_le (Heap.lt_size e) (z ▸ hS0))) (hk' b o hbw (hold b o hbw e))) ?_ (by rw [List.append_assoc]; exact hl) fun h'' tk'' T' c1 q1 q2 q3 => ?_⟩
    · exact Nat.le_trans hsz' (Nat.le_of_lt (Heap.lt_size hN))
    · refine hR h'' tk'' T' c1 q1 (by rw [← List.append_assoc]; exact q2) ?_
      rcases q3 with ⟨q3, _⟩ | q3
      · exact .inr (by rw [q3]; exact hsz')
      · exact .inr q3
theorem sum_ll {x T0 : Addr} {vs : List Value} {LL : List (List Value)} {c0 : Nat} {Q : Value → Shared → Prop} (hh : A.handled = none) (hx : s.heap.IsList x vs.toArray) (hl : vs.length = LL.length) (hv : ∀ (i : Nat) (v : Value), vs[i]? = some v → ∃ L b c, LL[i]? = some L ∧ v = .ref b ∧ PySem.IsL s.heap b L.toArray c)
    (hT : PySem.IsL s.heap T0 #[] c0) (hz : LL.flatten.length ≤ sizeLine)
    (h : ∀ h' tk T' c1, (∀ b o, s.heap.get? b = some o → h'.get? b = some o) → PySem.IsL h' T' LL.flatten.toArray c1 → ((T' = T0 ∧ LL = []) ∨ s.heap.objs.size ≤ T') → Q (.ref T') { s with heap := h', toks := tk }) :
    wpAny (model prog w) A (call (.builtin "sum") [.ref x, .ref T0]) Q E s := by
  refine call_function_tree F.kind_sum F.plain_sum F.entry_sum (args_sum2 _ _) ?_
  unfold Builtin.«sum»
  simp only [List.length_cons, List.length_nil]
  rw [if_neg (by decide)]
  refine wpAny_bind (wpAny_of_eq (show Builtin.Builtins.bindParams "sum" ["start"] 0 ⟨[.ref T0], []⟩ = pure [some (.ref T0)] from rfl) ?_)
  refine wpAny_bind (wpAny_pyIter_list hx ?_)
  have hxl : x ≠ s.heap.objs.size := by obtain ⟨o, ho, _⟩ := hx; exact Nat.ne_of_lt (Heap.lt_size ho)
  refine wpAny_bind (wpAny_pure ?_)
  have hTy : ∀ (h' : Heap) (tk : Nat), (∀ b o, s.heap.get? b = some o → h'.get? b = some o) → ({ s with heap := h', toks := tk } : Shared).TypeIs (.ref T0) "list" := fun h' tk k => ⟨_, k _ _ hT, rfl⟩
  have kp : ∀ b o, s.heap.get? b = some o → (s.heap.push { cls := .type "list_iterator", data := .fields #[.ref x, .int 0 0] }).get? b = some o := fun b o e => Heap.get?_push_of_some _ e
  simp only [List.forIn_cons, List.forIn_nil]
  refine wpAny_bind (wpAny_bind (wpAny_bind (wpAny_isInstance (T := "list") (b := false) (hTy _ s.toks kp) F.sub_list_str ?_)))
  simp only [Bool.false_eq_true, if_false]
  refine wpAny_pure (wpAny_bind (wpAny_bind (wpAny_isInstance (T := "list") (b := false) (hTy _ s.toks kp) F.sub_list_bytes ?_)))
  simp only [Bool.false_eq_true, if_false]
  refine wpAny_pure (wpAny_bind (wpAny_bind (wpAny_isInstance (T := "list") (b := false) (hTy _ s.toks kp) F.sub_list_bytearray ?_)))
  simp only [Bool.false_eq_true, if_false]
  refine wpAny_pure (wpAny_pure ?_)
  refine wpAny_bind (wpAny_newObj_type ?_)
  have hX := (hx.push { cls := .type "list_iterator", data := .fields #[.ref x, .int 0 0] })
  obtain ⟨ox, hox, _⟩ := id hx
  refine wpAny_pure ⟨plainId_quiet F.plain_sum_loop _, sum_ll_loop (LL := LL) (h0 := s.heap.push { cls := .type "list_iterator", data := .fields #[.ref x, .int 0 0] }) (Walks.list (A := A.in1) hh s.heap.objs.size x hxl vs.toArray) (by rw [List.size_toArray]; exact hl) (fun i v hi => ?_) (fun z => ?_) (Nat.le_refl _) (fun b hb => ?_) vs.toArray.size 0 _ T0 [] c0 0 (Nat.sub_zero _) (Nat.zero_le _) ⟨⟨_, Heap.get?_push_of_some _ (Heap.get?_push_size _ rfl), rfl, rfl⟩, hX.push _⟩ (Heap.get?_push_size _ rfl) (Heap.get?_push_of_some _ (kp _ _ hT)) (fun z => ?_) (fun z => ?_) (fun b o _ e => Heap.get?_push_of_some _ e) (by simp [Heap.size_push]) (by rw [List.drop_zero, List.nil_append]; exact hz) fun h' tk T' c1 q1 q2 q3 => ?_⟩
  · rw [List.getElem?_toArray] at hi
    obtain ⟨L, b, c, e1, e2, e3⟩ := hv i v hi
    have hlt := Heap.lt_size e3
    refine ⟨L, b, c, e1, e2, fun z => ?_, fun z => ?_, kp _ _ e3⟩
    · rw [List.mem_singleton.mp z] at hlt
      exact absurd hlt (Nat.lt_irrefl _)
    · rw [z, Heap.size_push] at hlt
      exact absurd hlt (Nat.not_lt.mpr (Nat.le_succ _))
  · rw [Heap.size_push] at z
    rcases List.mem_cons.mp z with z | z
    · exact absurd z (Nat.succ_ne_self _)
    · have h1 := List.mem_singleton.mp z
      have h2 := Heap.lt_size hox
      rw [← h1] at h2
      exact absurd h2 (Nat.not_lt.mpr (Nat.le_succ _))
  · rw [Heap.size_push]
    rcases List.mem_cons.mp hb with rfl | z
    · exact Nat.lt_succ_self _
    · rw [List.mem_singleton.mp z]
      exact Nat.lt_succ_of_lt (Heap.lt_size hox)
  · have := Heap.lt_size hT
    rw [List.mem_singleton.mp z] at this
    exact absurd this (Nat.lt_irrefl _)
  · have := Heap.lt_size hT
    rw [z, Heap.size_push] at this
    exact absurd this (Nat.not_lt.mpr (Nat.le_succ _))
  · rw [List.drop_zero, List.nil_append] at q2
    refine h h' tk T' c1 (fun b o e => q1 b o (fun z => ?_) (kp _ _ e)) q2 ?_
    · have := Heap.lt_size e
      rw [List.mem_singleton.mp z] at this
      exact absurd this (Nat.lt_irrefl _)
    · rcases q3 with ⟨z1, z2⟩ | z
      · exact .inl ⟨z1, List.length_eq_zero_iff.mp (by rw [← hl, ← List.size_toArray]; exact z2.symm)⟩
      · rw [Heap.size_push] at z
        exact .inr (Nat.le_trans (Nat.le_succ _) z)
end
end Iv
namespace Iv
open PySem PySem.Spec PyProof.Rows L2
section
variable {g : Gs} {W : L2.WX} {X : Cx} {F : CE} {m : Mp} {n : Nat} {H : Hp} {S : Sto} {ρ : Env} {p pos apos : Pos} {e o : Expr} {es : List Expr} {ie io : E} {σ : L2.St}
def rSLL (K : PySem.W.Frag) : List V → Hp → VK → Prop := fun zs H Q => ∃ (a t : Addr) (us : List V) (LL : List (List V)), zs = [.ref a, .ref t] ∧ SqL K H a us ∧ H t = some (.lst []) ∧ us.length = LL.length ∧ (∀ (i : Nat) (v : V), us[i]? = some v → ∃ b ys, LL[i]? = some ys ∧ v = .ref b ∧ H b = some (.lst ys)) ∧
  LL.flatten.length ≤ sizeLine ∧ (LL = [] → Q (.ref t) H) ∧ ∀ p, H p = none → Q (.ref p) (upd H p (.lst LL.flatten))
theorem ll_of {pins : List (Addr × Obj)} {s : Shared} (I : Inv X pins σ H s) : ∀ (us : List V) (LL : List (List V)) (its : List Value), Vals us its → us.length = LL.length → (∀ (i : Nat) (v : V), us[i]? = some v → ∃ b ys, LL[i]? = some ys ∧ v = .ref b ∧ H b = some (.lst ys)) →
    ∃ KK : List (List Value), KK.length = its.length ∧ (∀ (i : Nat) (v : Value), its[i]? = some v → ∃ L b c, KK[i]? = some L ∧ v = .ref b ∧ PySem.IsL s.heap b L.toArray c) ∧ Vals LL.flatten KK.flatten
  | [], [], its, r, _, _ => by
    cases r
    exact ⟨[], rfl, fun i v h => by simp at h, .nil⟩
  | [], _ :: _, _, _, l, _ => by cases l
  | _ :: _, [], _, _, l, _ => by cases l
  | u :: us, ys :: LL, its, r, l, h => by
    cases r with
    | cons r0 r =>
      rename_i w ws
      obtain ⟨KK, k1, k2, k3⟩ := ll_of I us LL ws r (Nat.succ.inj l) fun i v hv => by
        obtain ⟨b, zs, e1, e2, e3⟩ := h (i + 1) v (by simpa using hv)
        exact ⟨b, zs, by simpa using e1, e2, e3⟩
      obtain ⟨b, zs, e1, e2, e3⟩ := h 0 u rfl
      cases e1
      subst e2
      obtain ⟨_, its0, c, rv, _, e⟩ := I.lstM e3
      obtain rfl : w = Value.ref b := r0
      refine ⟨its0 :: KK, by rw [List.length_cons, List.length_cons, k1], fun i v hv => ?_, ?_⟩
      · cases i with
        | zero => cases hv; exact ⟨its0, b, c, rfl, rfl, e⟩
        | succ i =>
          obtain ⟨L, b', c', q1, q2, q3⟩ := k2 i v (by simpa using hv)
          exact ⟨L, b', c', by simpa using q1, q2, q3⟩
      · rw [List.flatten_cons, List.flatten_cons]
        exact rv.append k3
theorem cr_sumLL (hc : X.calm = true) : CallR X (.builtin "sum") (rSLL X.K) := by
  intro pins s σ H zs us Q I r h
  obtain ⟨a, t, vs, LL, rfl, hs, ht, hl, hv, hz, q0, q1⟩ := h
  obtain ⟨its, rv, hpl, _⟩ := I.list hs
  obtain ⟨u1, u2, rfl, r1, r2⟩ := vals2 r
  obtain rfl : u1 = Value.ref a := r1
  obtain rfl : u2 = Value.ref t := r2
  obtain ⟨_, its0, c0, rv0, _, e0⟩ := I.lstM ht
  cases rv0
  obtain ⟨KK, k1, k2, k3⟩ := ll_of I vs LL its rv hl hv
  refine sum_ll (I.ok.hd hc) hpl.isList k1.symm k2 e0 (by rw [← k3.length]; exact hz) fun h' tk T' c1 hk hT hw => ?_
  rcases hw with ⟨rfl, hKK⟩ | hw
  · subst hKK
    have : LL = [] := List.length_eq_zero_iff.mp (by rw [← hl, rv.length, ← k1]; rfl)
    exact ⟨.ref T', H, I.kept hk, rfl, q0 this⟩
  · exact ⟨.ref T', _, I.laid (t' := tk) (o := .lst LL.flatten) hk hw ⟨hz, KK.flatten, c1, k3, hT⟩, rfl, q1 T' (I.hok.fresh hw)⟩
theorem lstsD_rel (rs : RS g m S H) : ∀ {xs : List Iv.D} {us : List V} {ys : List (List Iv.D)}, lstsD S xs = some ys → Rels g m S.length H xs us → ∃ LL : List (List V), us.length = LL.length ∧ (∀ (i : Nat) (v : V), us[i]? = some v → ∃ b zs, LL[i]? = some zs ∧ v = .ref b ∧ H b = some (.lst zs)) ∧ Rels g m S.length H ys.flatten LL.flatten ∧ (ys = [] ↔ LL = [])
  | [], us, ys, h, r => by
    cases h
    unfold Rels at r
    subst r
    exact ⟨[], rfl, fun i v h => by simp at h, Rels.nil, ⟨fun _ => rfl, fun _ => rfl⟩⟩
  | x :: xs, us, ys, h, r => by
    unfold lstsD at h
    split at h
    · rename_i zs hz
      obtain ⟨ys', h1, rfl⟩ := Option.map_eq_some_iff.mp h
      unfold Rels at r
      obtain ⟨w, ws, rfl, r1, r2⟩ := r
      obtain ⟨LL, l1, l2, l3, _⟩ := lstsD_rel rs h1 r2
      obtain ⟨b, vs, rfl, hb, rz⟩ := unbox_rel rs r1 hz
      refine ⟨vs :: LL, by rw [List.length_cons, List.length_cons, l1], fun i v hv => ?_, ?_, ⟨fun z => (by cases z), fun z => (by cases z)⟩⟩
      · cases i with
        | zero => cases hv; exact ⟨b, vs, rfl, rfl, hb⟩
        | succ i =>
          obtain ⟨b', zs', q1, q2, q3⟩ := l2 i v (by simpa using hv)
          exact ⟨b', zs', by simpa using q1, q2, q3⟩
      · rw [List.flatten_cons, List.flatten_cons]
        exact Rels.append rz l3
    · cases h
theorem i_sumLL {lp : Pos} (hm : X.mg "sum" = none) (he : PA X [e, .List [] lp] (tEs g W (evs F [ie, .lst false []]))) (oke : okE e = true := by rfl) (hg : Gl X "sum" := by rfl) (hK : X.K = g.K := by rfl) (hc : X.calm = true := by rfl) :
    PE X (.Call (.Name "sum" p) [e, .List [] lp] [] pos) (tE g W (ev F (.bi .sumLL [ie, .lst false []]))) := by
  refine PE.imp (pe_callB (cr_sumLL hc) hg hm (by decide +kernel) he (by decide) (by decide) (starEach_ok oke) (by rw [starEach_ok rfl]; rfl)) fun σ H Q ⟨m, ρ, S, rs, er, w⟩ => ?_
  rw [ev] at w
  refine TI.step (Ra := Rels g) rs er w fun zs H1 m1 S1 ds x1 rs1 er1 r1 w => ?_
  replace w : WP g _ (Rel g) m1 S1.length H1 (biSumLL S1 ds) Q := w
  unfold biSumLL at w
  split at w
  · split at w
    · rename_i ys hy
      obtain ⟨c, w⟩ := w.ck
      obtain ⟨xs, h1, h2⟩ := Option.bind_eq_some_iff.mp hy
      obtain ⟨v, v2, rfl, ra, rb⟩ := Rels.two r1
      obtain ⟨a, us, rfl, rr, q⟩ := lst_sq rs1 ra h1
      have rb0 := rb
      rw [rel_lst] at rb
      obtain ⟨t, vs, rfl, ⟨ht, _⟩, rv⟩ := rb
      unfold Rels at rv
      subst rv
      obtain ⟨LL, l1, l2, l3, l4⟩ := lstsD_rel rs1 h2 rr
      refine ⟨a, t, us, LL, rfl, by rw [hK]; exact q, ht, l1, l2, by rw [← l3.length, sizeLine_eq]; omega, fun z => ?_, fun p hp => mkL_ok (box := false) rs1 l3 w hp⟩
      rw [l4.mpr z] at w
      exact w.now rs1 rb0
    · exact w.err
  · exact w.err
/-! max(.., default=i) -/
theorem args_maxD (a v : Value) : True := trivial
def rMaxDf (K : PySem.W.Frag) : List V → List V → Hp → VK → Prop := fun vs zs H Q => ∃ (a : Addr) (ns : List Int) (i : Int), vs = [V.ref a] ∧ zs = [V.int i] ∧ SqL K H a (ns.map V.int) ∧ Q (.int (match maxI ns with | some j => j | none => i)) H
theorem dp_ints {K : PySem.W.Frag} : ∀ ns : List Int, DpAll K H (ns.map V.int) (ns.map PyData.int)
  | [] => .nil
  | n :: ns => .cons (.int n) (dp_ints ns)
theorem maxI_fold (n : Int) (ns : List Int) : maxI (n :: ns) = some (ns.foldl max n) := by
  have e : ∀ (ns : List Int) (n : Int), ns.foldl (fun m x => if m < x then x else m) n = ns.foldl max n := by
    intro ns
    induction ns with
    | nil => intro n; rfl
    | cons x ns ih =>
      intro n
      rw [List.foldl_cons, List.foldl_cons, ih]
      congr 1
      rw [Int.max_def]
      split <;> split <;> omega
  show some (ns.foldl (fun m x => if m < x then x else m) n) = _
  rw [e]
theorem cr_maxDf {k : Nat} (hc : X.calm = true) (hr : Room k X.A) : CallRK X (.builtin "max") [Str.ofString "default"] (rMaxDf X.K) := by
  intro pins s σ H vs zs us ws Q I r rz h
  obtain ⟨a, ns, i, rfl, rfl, hs, q⟩ := h
  obtain ⟨its, rv, hl, _⟩ := I.list hs
  rw [Vals.ref1 r]
  cases rz with
  | cons r1 r2 =>
    cases r2
    obtain ⟨t, rfl⟩ := r1
    obtain ⟨as, ra⟩ := Dp.readsAll I (ns.map PyData.int) (ns.map V.int) its (dp_ints ns) rv
    refine PySem.W.max_list_default (I.ok.hd hc) hl.isList ra (PySem.W.alikeAll_datum ns) (by rw [PySem.W.depth_ints]; have := hr.un; omega) (fun e h' tk hk => ?_) fun y ys j v h' tk bs e hv rd hk => ?_
    · have e0 : ns = [] := List.map_eq_nil_iff.mp e
      subst e0
      exact ⟨.int i, H, I.kept hk, ⟨t, rfl⟩, q⟩
    · cases ns with
      | nil => cases e
      | cons n ns =>
        rw [List.map_cons] at e
        injection e with e1 e2
        subst e1 e2
        rw [PySem.W.maxD_ints] at rd
        rw [maxI_fold] at q
        cases rd
        exact ⟨.int _, H, I.kept hk, ⟨_, rfl⟩, q⟩
theorem i_maxD {a : Expr} {ia : E} {kp : Pos} {k : Nat} (hr : Room k X.A) (hm : X.mg "max" = none) (he : PA X [e] (tEs g W (evs F [ie]))) (ha : PE X a (tE g W (ev F ia))) (oke : okE e = true := by rfl) (hg : Gl X "max" := by rfl) (hK : X.K = g.K := by rfl) (hc : X.calm = true := by rfl) :
    PE X (.Call (.Name "max" p) [e] [⟨some "default", a, kp⟩] pos) (tE g W (ev F (.bi .maxD [ie, ia]))) := by
  have hk : PK X [⟨some "default", a, kp⟩] (tEs g W (evs F [ia])) := k_cons ha k_nil
  refine PE.imp (pe_callBK (cr_maxDf hc hr) hg hm (by decide +kernel) he hk (by decide) (by decide) (by rw [starEach_ok oke]; rfl) (by rw [starEach_ok oke]; rfl) (by rfl) (by rfl) (by rfl)) fun σ H Q ⟨m, ρ, S, rs, er, w⟩ => ?_
  rw [ev, evs2, R.bind_bind] at w
  refine ⟨m, ρ, S, rs, er, ?_⟩
  rw [evs1]
  cases hh : ev F ie ρ S with
  | ok d S1 =>
    rw [hh] at w
    simp only [R.bind_ok] at w ⊢
    intro m1 H1 vs x rs1 r1
    obtain ⟨v, rfl, rv⟩ := Rels.one r1
    have w := w.from x
    refine ⟨m1, ρ, S1, rs1, er.mono x, ?_⟩
    rw [evs1]
    cases hh2 : ev F ia ρ S1 with
    | ok d2 S2 =>
      rw [hh2] at w
      simp only [R.bind_ok] at w ⊢
      intro m2 H2 zs x2 rs2 r2
      obtain ⟨v2, rfl, rv2⟩ := Rels.one r2
      have w := w.from x2
      cases d2 with
      | int i' =>
        have w2 : WP g (fun c d H' => W c d σ H') (Rel g) m2 S2.length H2 (match intsOf S2 d with | some ns => .ok (.int (match maxI ns with | some i => i | none => i')) S2 | none => .err) Q := w
        cases hns : intsOf S2 d with
        | none => rw [hns] at w2; exact w2.elim
        | some ns =>
          rw [hns] at w2
          obtain ⟨b, rfl, q⟩ := ints_sq rs2 (Rel.mono x2 _ _ rv) hns
          rw [rel_int] at rv2
          exact ⟨b, ns, _, rfl, by rw [rv2], by rw [hK]; exact q, w2.now rs2 (by rw [rel_int])⟩
      | _ => exact False.elim w
    | exc x S1 => rw [hh2] at w; exact w
    | err => rw [hh2] at w; exact w
  | exc x S1 => rw [hh] at w; exact w
  | err => rw [hh] at w; exact w
end
end Iv
namespace Iv
open PySem PySem.Spec PyProof.Rows L2
section
variable {g : Gs} {W : L2.WX} {X : Cx} {F : CE} {m : Mp} {n : Nat} {H : Hp} {S : Sto} {ρ : Env} {p pos apos : Pos} {e o : Expr} {es : List Expr} {ie io : E} {σ : L2.St}
def rRemD (K : PySem.W.Frag) : V → List V → Hp → VK → Prop := fun x xs H Q => ∃ (l : Addr) (vs : List V) (y : V) (ds : List PyData) (d : PyData) (j : Nat), x = .ref l ∧ xs = [y] ∧ H l = some (.lst vs) ∧ DpAll K H vs ds ∧ Dp K H y d ∧ PyData.canLayAll0 ds = true ∧ d.canLay0 = true ∧
  d.depth ≤ 60 ∧ PySem.SeqAt.dataPlace ds d = some j ∧ Q .non (upd H l (.lst (vs.eraseIdx j)))
theorem mt_remD {k : Nat} (hr : Room k X.A) : MtR X "list.remove" (rRemD X.K) := by
  intro pins s σ H x xs v us Q I rx rxs h
  obtain ⟨l, vs, y, ds, d, j, rfl, rfl, hH, hds, hd, c1, c2, dp, hp, q⟩ := h
  cases rx
  obtain ⟨u, rfl, ru⟩ := rxs.one
  obtain ⟨z, its, n, r, hl, e⟩ := I.lstM hH
  obtain ⟨as, ra⟩ := Dp.readsAll I ds vs its hds r
  obtain ⟨bs, rb⟩ := Dp.reads I d y u hd ru
  refine PySem.SeqAt.remove_list_data (vs := its.toArray) (j := j) ⟨_, e, rfl, _, rfl⟩ ra rb (PyData.plainAll_of_canLay0 ds c1) (PyData.plain_of_canLay0 d c2) (by have := hr.un; have := Nat.min_le_right (PyData.depthAll ds) d.depth; omega) hp (by rw [List.size_toArray]; omega) ?_
  refine ⟨.non, _, I.lset (f := fun ys => ys.eraseIdxIfInBounds j) (its' := its.eraseIdx j) (t' := s.toks) hH e ?_ (r.eraseIdx j) (by rw [List.length_eraseIdx]; split <;> omega), rfl, q⟩
  rw [List.eraseIdxIfInBounds_toArray]
theorem place_py {y : Iv.D} (hy : y.fz = true) : ∀ xs : List Iv.D, D.fzs xs = true → PySem.SeqAt.dataPlace (D.pys xs) y.py = xs.findIdx? fun z => z.eqv y
  | [], _ => by rw [D.pys]; rfl
  | x :: xs, h => by
    simp only [D.fzs, Bool.and_eq_true] at h
    have ih := place_py hy xs h.2
    unfold PySem.SeqAt.dataPlace at ih ⊢
    rw [D.pys, List.findIdx?_cons, List.findIdx?_cons, py_eqv x y h.1 hy, ih]
theorem Rels.eraseIdx {xs : List Iv.D} {vs : List V} (r : Rels g m n H xs vs) (j : Nat) : Rels g m n H (xs.eraseIdx j) (vs.eraseIdx j) := by
  rw [List.eraseIdx_eq_take_drop_succ, List.eraseIdx_eq_take_drop_succ]
  exact (r.take j).append (r.drop (j + 1))
theorem mt_remove' {k : Nat} (hr : Room k X.A) (hK : X.K = g.K) : MtR X "list.remove" (rm g .remove) := by
  refine MtR.imp (mt_remD hr) fun v xs H Q ⟨m, S, d, ds, W, rs, r, rx, w⟩ => ?_
  replace w : WP g W (Rel g) m S.length H (bmRemove S d ds) Q := w
  unfold bmRemove at w
  split at w
  · rename_i y
    split at w
    · split at w
      · rename_i ys hz
        split at w
        · rename_i j hj
          obtain ⟨⟨c1, c2, c3, c4, c5⟩, w⟩ := w.ck
          obtain ⟨u, rfl, ru⟩ := rx.one
          obtain ⟨a, rfl, k, vs, hv, rv⟩ := r.box rs hz
          obtain ⟨p1, p2⟩ := pys_lay ys vs c1 rv
          obtain ⟨p3, p4⟩ := py_lay y u c2 ru
          rw [hK]
          refine ⟨a, vs, u, D.pys ys, y.py, j, rfl, rfl, hv, p2, p4, p1, p3, by rw [py_depth y c2]; exact c4, (place_py c2 ys c1).trans hj, box_set rs k w ⟨_, upd_same, Rels.mono (Ext.set rs k) _ _ (rv.eraseIdx j)⟩⟩
        · exact w.err
      · exact w.err
    · exact w.err
  · exact w.err
theorem mt_pop1' : MtR X "list.pop" (rm g .pop1) := by
  refine MtR.imp mt_popAt fun v xs H Q ⟨m, S, d, ds, W, rs, r, rx, w⟩ => ?_
  replace w : WP g W (Rel g) m S.length H (bmPop S d ds) Q := w
  unfold bmPop at w
  split at w
  · rename_i i
    split at w
    · split at w
      · rename_i nn _ ys hz
        split at w
        · rename_i y hy
          obtain ⟨⟨c1, c2⟩, w⟩ := w.ck
          obtain ⟨u, rfl, ru⟩ := rx.one
          rw [rel_int] at ru
          subst ru
          obtain ⟨a, rfl, k, vs, hv, rv⟩ := r.box rs hz
          obtain ⟨z, hz2, rz⟩ := rv.get hy
          have hl : i.toNat < vs.length := (List.getElem?_eq_some_iff.mp hz2).1
          refine ⟨a, vs, i, i.toNat, z, rfl, rfl, hv, by omega, by omega, ?_, hz2, ?_⟩
          · have e1 : (decide (0 ≤ i) && decide (i < (vs.length : Int))) = true := by simp; omega
            have e2 : ¬ i < 0 := by omega
            show (if (decide (0 ≤ (if i < 0 then i + vs.length else i)) && decide ((if i < 0 then i + vs.length else i) < (vs.length : Int))) = true then some (if i < 0 then i + vs.length else i).toNat else none) = _
            rw [if_neg e2, if_pos e1]
          · have x := Ext.set (n := S.length) (o := .lst (vs.eraseIdx i.toNat)) rs k
            have l : (setAt S nn (.lst (ys.eraseIdx i.toNat))).length = S.length := by unfold setAt; rw [List.length_set]
            exact w m _ z (by rw [l]; exact x) (rs.set k ⟨_, upd_same, Rels.mono x _ _ (rv.eraseIdx _)⟩) (by rw [l]; exact Rel.mono x _ _ rz)
        · exact w.err
      · exact w.err
    · exact w.err
  · exact w.err
theorem mt_index' {k : Nat} (hr : Room k X.A) (hK : X.K = g.K) : MtR X "list.index" (rm g .index) := by
  refine MtR.imp (mt_indexD (by have := hr.un; omega)) fun v xs H Q ⟨m, S, d, ds, W, rs, r, rx, w⟩ => ?_
  replace w : WP g W (Rel g) m S.length H (bmIndex S d ds) Q := w
  unfold bmIndex at w
  split at w
  · rename_i y
    split at w
    · rename_i ys hy
      split at w
      · rename_i j hj
        obtain ⟨⟨c1, c2, c3, c4⟩, w⟩ := w.ck
        obtain ⟨u, rfl, ru⟩ := rx.one
        obtain ⟨a, vs, rfl, rv, q⟩ := lst_sq rs r hy
        obtain ⟨p1, p2⟩ := pys_lay ys vs c1 rv
        obtain ⟨p3, p4⟩ := py_lay y u c2 ru
        obtain ⟨hlt, hz, hno⟩ := List.findIdx?_eq_some_iff_getElem.mp hj
        rw [hK]
        refine ⟨a, u, y.py, D.pys ys, j, ys[j].py, rfl, rfl, .lst q p2, p4, ?_, ?_, ?_, ?_, fun i z' hi hz' => ?_, w.now rs (by rw [rel_int])⟩
        · unfold SeqAt.shaped
          rw [PyData.canLay0, p1, PyData.depth, pys_depth ys c1, Bool.true_and]
          exact decide_eq_true (by omega)
        · exact py_shaped c2 ru (by omega)
        · rw [pys_map, List.getElem?_map, List.getElem?_eq_getElem hlt]
          rfl
        · rw [py_eqv _ _ (fzs_mem c1 (List.getElem_mem hlt)) c2]
          exact hz
        · rw [pys_map] at hz'
          obtain ⟨z, hz1, rfl⟩ := Option.map_eq_some_iff.mp ((List.getElem?_map ..).symm.trans hz')
          obtain ⟨hil, rfl⟩ := List.getElem?_eq_some_iff.mp hz1
          rw [py_eqv _ _ (fzs_mem c1 (List.getElem_mem hil)) c2]
          simpa using hno i hi
      · exact w.err
    · exact w.err
  · exact w.err
/-! a, b, *rest = .. -/
theorem star_all1 {es : List Expr} {t : Expr} {sp : Pos} {env : PySem.Env} (ok : es.all noStar = true) : (assignEach (es ++ [.Starred t sp]) env).length = es.length + 1 ∧ (assignEach (es ++ [.Starred t sp]) env).findIdx? (·.1) = some es.length ∧ (assignEach (es ++ [.Starred t sp]) env).map (·.2) = (assignEach es env).map (·.2) ++ [assign t env] := by
  induction es with
  | nil => exact ⟨rfl, rfl, rfl⟩
  | cons e es ih =>
    rw [List.all_cons, Bool.and_eq_true] at ok
    obtain ⟨h1, h2, h3⟩ := ih ok.2
    have e1 : assignEach ((e :: es) ++ [.Starred t sp]) env = (false, assign e env) :: assignEach (es ++ [.Starred t sp]) env := assignEach_ok ok.1
    have e2 : assignEach (e :: es) env = (false, assign e env) :: assignEach es env := assignEach_ok ok.1
    rw [e1, e2]
    refine ⟨by rw [List.length_cons, h1, List.length_cons], ?_, by rw [List.map_cons, h3]; rfl⟩
    rw [List.findIdx?_cons, h2]
    rfl
section
variable {prog : Program} {w : World} {A : Around} {E : Value → Shared → Prop} {s : Shared}
theorem star_itemsL {l : Addr} {items : Array Value} {i : Nat} {Q : List Value → Shared → Prop} (hl : s.heap.IsList l items) (hh : A.handled = none) (hn : i ≤ items.size) (hz : items.size ≤ 16384)
    (h : ∀ (h' : Heap) (tk : Nat), (∀ b o, s.heap.get? b = some o → h'.get? b = some o) → Q (items.toList.take i ++ [.ref h'.objs.size]) { s with heap := h'.push { cls := .type "list", data := .seq (items.toList.drop i).toArray }, toks := tk }) : wpAny (model prog w) A (unpackItems (.ref l) (i + 1) (some i)) Q E s := by
  have hlt : l ≠ s.heap.objs.size := by obtain ⟨o, ho, _⟩ := hl; exact Nat.ne_of_lt (Heap.lt_size ho)
  unfold unpackItems
  refine wpAny_bind ?_
  unfold notIterableAtAll
  refine wpAny_bind (wpAny_specialOf hl.typeIs slot_list_iter.lookup ?_)
  refine wpAny_pure ?_
  simp only [Bool.false_eq_true, if_false]
  refine wpAny_bind (wpAny_holding (wpAny_pyIter_list hl ?_))
  refine wpAny_bind (wpAny_holding (PySem.W.kun_draw hlt i 0 _ _ ⟨_, Heap.get?_push_size _ rfl, rfl, rfl⟩ (hl.push _) (by omega) fun h₁ hit₁ hs₁ => ?_))
  have hl₁ : h₁.IsList l items := (hl.push _).extBut hs₁.extBut hlt
  rw [Nat.zero_add] at hit₁
  obtain ⟨oi, hoi, _⟩ := id hit₁
  obtain ⟨ol, hol, _⟩ := id hl₁
  rw [List.drop_zero]
  have hfl : (items.toList.take i).length = i := by rw [List.length_take, Array.length_toList]; omega
  rw [if_neg (show ¬ ((items.toList.take i).length < i) by rw [hfl]; omega)]
  refine wpAny_bind (wpAny_holding (PySem.W.kun_collect (s := { s with heap := h₁ }) (T := "list_iterator") (.inr (.inr (.inl rfl))) (Walks.list (A := A.in1) hh s.heap.objs.size l hlt items) (fun j u st => st.1.typeIs) (k := i) (by omega) ⟨hit₁, hl₁⟩ (Heap.lt_size hoi) (Heap.lt_size hol) (fun h₂ tk hk => ?_) (by rw [sizeLine_eq]; omega)))
  have hrl : (items.toList.drop i).length = items.size - i := by rw [List.length_drop, Array.length_toList]
  have hmid : (items.toList.drop i).length - (i + 1 - 1 - i) = (items.toList.drop i).length := by omega
  show wpAny _ _ (if (items.toList.drop i).length < i + 1 - 1 - i then _ else _) _ _ _
  rw [if_neg (by omega)]
  show wpAny _ _ (newList ((items.toList.drop i).take ((items.toList.drop i).length - (i + 1 - 1 - i))) >>= fun d => pure (items.toList.take i ++ [d] ++ (items.toList.drop i).drop ((items.toList.drop i).length - (i + 1 - 1 - i)))) _ _ _
  rw [hmid, List.take_length, List.drop_length]
  have he : ∀ b o, s.heap.get? b = some o → h₂.get? b = some o := fun b o e => hk b o (Nat.ne_of_lt (Heap.lt_size e)) (hs₁.extBut b o (Nat.ne_of_lt (Heap.lt_size e)) (Heap.get?_push_of_some _ e))
  refine wpAny_bind (wpAny_newObj_type ?_ (by show (items.toList.drop i).toArray.size ≤ _; rw [List.size_toArray, hrl, sizeLine_eq]; omega))
  refine wpAny_pure ?_
  rw [List.append_nil]
  exact h h₂ tk he
theorem star_itemsT {l : Addr} {items : Array Value} {i : Nat} {Q : List Value → Shared → Prop} (hl : IsTup s.heap l items) (hh : A.handled = none) (hn : i ≤ items.size) (hz : items.size ≤ 16384)
    (h : ∀ (h' : Heap) (tk : Nat), (∀ b o, s.heap.get? b = some o → h'.get? b = some o) → Q (items.toList.take i ++ [.ref h'.objs.size]) { s with heap := h'.push { cls := .type "list", data := .seq (items.toList.drop i).toArray }, toks := tk }) : wpAny (model prog w) A (unpackItems (.ref l) (i + 1) (some i)) Q E s := by
  have hlt : l ≠ s.heap.objs.size := by obtain ⟨o, ho, _⟩ := hl; exact Nat.ne_of_lt (Heap.lt_size ho)
  unfold unpackItems
  refine wpAny_bind ?_
  unfold notIterableAtAll
  refine wpAny_bind (wpAny_specialOf hl.typeIs slot_tuple_iter.lookup ?_)
  refine wpAny_pure ?_
  simp only [Bool.false_eq_true, if_false]
  refine wpAny_bind (wpAny_holding (iter_tuple hl ?_))
  refine wpAny_bind (wpAny_holding (draw_tuple hlt i 0 _ _ ⟨_, Heap.get?_push_size _ rfl, rfl, rfl⟩ (hl.push _) (by omega) fun h₁ hit₁ hs₁ => ?_))
  have hl₁ : IsTup h₁ l items := (hl.push _).extBut hs₁.extBut hlt
  rw [Nat.zero_add] at hit₁
  obtain ⟨oi, hoi, _⟩ := id hit₁
  obtain ⟨ol, hol, _⟩ := id hl₁
  rw [List.drop_zero]
  have hfl : (items.toList.take i).length = i := by rw [List.length_take, Array.length_toList]; omega
  rw [if_neg (show ¬ ((items.toList.take i).length < i) by rw [hfl]; omega)]
  refine wpAny_bind (wpAny_holding (PySem.W.kun_collect (s := { s with heap := h₁ }) (T := "tuple_iterator") (.inr (.inr (.inr rfl))) (Walks.tuple (A := A.in1) hh s.heap.objs.size l hlt items) (fun j u st => st.1.typeIs) (k := i) (by omega) ⟨hit₁, hl₁⟩ (Heap.lt_size hoi) (Heap.lt_size hol) (fun h₂ tk hk => ?_) (by rw [sizeLine_eq]; omega)))
  have hrl : (items.toList.drop i).length = items.size - i := by rw [List.length_drop, Array.length_toList]
  have hmid : (items.toList.drop i).length - (i + 1 - 1 - i) = (items.toList.drop i).length := by omega
  show wpAny _ _ (if (items.toList.drop i).length < i + 1 - 1 - i then _ else _) _ _ _
  rw [if_neg (by omega)]
  show wpAny _ _ (newList ((items.toList.drop i).take ((items.toList.drop i).length - (i + 1 - 1 - i))) >>= fun d => pure (items.toList.take i ++ [d] ++ (items.toList.drop i).drop ((items.toList.drop i).length - (i + 1 - 1 - i)))) _ _ _
  rw [hmid, List.take_length, List.drop_length]
  have he : ∀ b o, s.heap.get? b = some o → h₂.get? b = some o := fun b o e => hk b o (Nat.ne_of_lt (Heap.lt_size e)) (hs₁.extBut b o (Nat.ne_of_lt (Heap.lt_size e)) (Heap.get?_push_of_some _ e))
  refine wpAny_bind (wpAny_newObj_type ?_ (by show (items.toList.drop i).toArray.size ≤ _; rw [List.size_toArray, hrl, sizeLine_eq]; omega))
  refine wpAny_pure ?_
  rw [List.append_nil]
  exact h h₂ tk he
end
theorem pgs_star {t : Expr} {tg : TG} {sp : Pos} (h1 : PG X t tg) : PGs X [.Starred t sp] (gCons tg gNil) := by
  refine ⟨fun pins s σ H vs us Q I r h => ?_⟩
  obtain ⟨v, vr, e1, h⟩ := h
  subst e1
  cases r with
  | cons r rr =>
    show wpAny _ _ (assignInOrder [assign t X.env] _) _ _ s
    refine assignInOrder_cons (thn (h1.run pins s σ H _ _ _ I r h) fun _ s1 ⟨σ1, H1, I1, q1⟩ => ?_)
    exact pgs_nil.run pins s1 σ1 H1 _ _ Q I1 rr q1
theorem gs_star {vs : List Nat} {t : Expr} {tg : Tg} {sp : Pos} (h1 : PG X t (TGv g vs (asg F tg))) : PGs X [.Starred t sp] (TGvs g vs [tg].length (asgs F [tg])) := by
  refine PGs.imp (pgs_star h1) fun us σ H Q ⟨m, ρ, S, ds, rs, er, r, l, w⟩ => ?_
  cases ds with
  | nil => cases l
  | cons d ds =>
    have hds : ds = [] := List.length_eq_zero_iff.mp (Nat.succ.inj l)
    subst hds
    obtain ⟨v, rfl, r1⟩ := r.one
    rw [asgs] at w
    refine ⟨v, [], rfl, m, ρ, S, d, rs, er, r1, (WP.bind (Ra := EnvK g vs σ) w).imp fun σ1 H1 ⟨m1, S1, ρ1, x1, rs1, ⟨er1, k1⟩, w1⟩ => ⟨rfl, ?_⟩⟩
    rw [asgs] at w1
    exact w1.now rs1 ⟨er1, k1⟩
theorem gs_cons' {vs : List Nat} {e : Expr} {es : List Expr} {t : Tg} {ts : List Tg} (ok : noStar e = true) (h1 : PG X e (TGv g vs (asg F t))) (h2 : PGs X es (TGvs g vs ts.length (asgs F ts))) : PGs X (e :: es) (TGvs g vs (t :: ts).length (asgs F (t :: ts))) := gs_cons ok h1 h2
def gStar (K : PySem.W.Frag) (n : Nat) (t : TGs) : TG := fun v σ H Q => ∃ a xs, v = .ref a ∧ (SqT K H a xs ∨ SqL K H a xs) ∧ n ≤ xs.length ∧ xs.length ≤ 16384 ∧ ∀ p, H p = none → t (xs.take n ++ [.ref p]) σ (upd H p (.lst (xs.drop n))) Q
theorem pg_star {es pre : List Expr} {st : Expr} {sp : Pos} {k : Nat} {t : TGs} (hc : X.calm = true) (h : PGs X es t) (hes : es = pre ++ [.Starred st sp]) (ok : pre.all noStar = true) : PG X (.Tuple es k pos) (gStar X.K pre.length t) := by
  refine ⟨fun pins s σ H v u Q I r hw => ?_⟩
  obtain ⟨a, xs, e1, hq, hl, hz, hw⟩ := hw
  subst e1
  cases r
  obtain ⟨n1, n2, _⟩ := star_all1 (t := st) (sp := sp) (env := X.env) ok
  rw [← hes] at n1 n2
  rw [PyProof.Rows.assign_Tuple]
  refine wpAny_bind (wpAny_standAt ?_)
  unfold unpack
  rw [n1, n2]
  have fin : ∀ (its : List Value), Vals xs its → ∀ (h' : Heap) (tk : Nat), (∀ b o, s.heap.get? b = some o → h'.get? b = some o) → wpAny (model X.prog X.w) X.A (assignInOrder ((assignEach es X.env).map (·.2)) (its.take pre.length ++ [.ref h'.objs.size])) (fun _ s' => ∃ σ' H', Inv X pins σ' H' s' ∧ Q σ' H') X.xe { s with heap := h'.push { cls := .type "list", data := .seq (its.drop pre.length).toArray }, toks := tk } := by
    intro its rv h' tk hk
    have I1 : Inv X pins σ H { s with heap := h', toks := tk } := I.kept hk
    have I2 := I1.lnew (its := its.drop pre.length) (t' := tk) (rv.drop pre.length) (by rw [List.length_drop, sizeLine_eq]; omega)
    exact h.run pins _ σ _ (xs.take pre.length ++ [.ref h'.objs.size]) _ Q I2 (Vals.append (rv.take _) (.cons (show RelV (V.ref h'.objs.size) (Value.ref h'.objs.size) from rfl) .nil)) (hw _ (I1.fresh))
  rcases hq with hq | hq
  · obtain ⟨its, rv, ht, _⟩ := I.tuple hq
    refine wpAny_bind (wpAny_holding (star_itemsT ht (I.ok.hd hc) (by rw [List.size_toArray, ← rv.length]; exact hl) (by rw [List.size_toArray, ← rv.length]; exact hz) fun h' tk hk => ?_))
    exact fin its rv h' tk hk
  · obtain ⟨its, rv, hpl, _⟩ := I.list hq
    refine wpAny_bind (wpAny_holding (star_itemsL hpl.isList (I.ok.hd hc) (by rw [List.size_toArray, ← rv.length]; exact hl) (by rw [List.size_toArray, ← rv.length]; exact hz) fun h' tk hk => ?_))
    exact fin its rv h' tk hk
theorem g_tups {vs : List Nat} {es : List Expr} {st : Expr} {sp : Pos} {ts : List Tg} {k : Nat} (h : PGs X es (TGvs g vs ts.length (asgs F ts))) (hlast : es.getLast? = some (.Starred st sp) := by rfl) (ok : es.dropLast.all noStar = true := by rfl) (hl : ts.length = es.dropLast.length + 1 := by rfl) (hK : X.K = g.K := by rfl) (hc : X.calm = true := by rfl) : PG X (.Tuple es k pos) (TGv g vs (asg F (.tups ts))) := by
  obtain ⟨pre, hpre⟩ : ∃ pre, pre = es.dropLast := ⟨_, rfl⟩
  have hes : es = pre ++ [.Starred st sp] := by
    rw [hpre]
    have hne : es ≠ [] := fun z => by rw [z] at hlast; cases hlast
    have e1 := List.dropLast_concat_getLast hne
    rw [List.getLast?_eq_some_getLast hne] at hlast
    rw [← Option.some.inj hlast]
    exact e1.symm
  rw [← hpre] at ok hl
  refine PG.imp (pg_star hc h hes ok) fun v σ H Q ⟨m, ρ, S, d, rs, er, r, w⟩ => ?_
  rw [asg] at w
  split at w
  · rename_i xs hx
    obtain ⟨⟨c1, c2, c3⟩, w⟩ := w.ck
    obtain ⟨a, vs', rfl, rr, q⟩ := seqOf_sq rs r hx
    have e1 : ts.length - 1 = pre.length := by omega
    rw [e1] at w
    refine ⟨a, vs', rfl, by rw [hK]; exact q.symm, by rw [← rr.length]; omega, by rw [← rr.length]; exact c3, fun p hp => ?_⟩
    have rs2 := rs.laid (o := .lst (vs'.drop pre.length)) hp
    have x2 : Ext m S.length H m S.length (upd H p (.lst (vs'.drop pre.length))) := Ext.laid rs hp
    refine ⟨m, ρ, S, _, rs2, er.mono x2, (Rels.mono x2 _ _ (rr.take pre.length)).append (Rels.cons ?_ Rels.nil), ?_, w.from x2⟩
    · rw [rel_lst]
      exact ⟨p, _, rfl, ⟨upd_same, Off.free rs hp⟩, Rels.mono x2 _ _ (rr.drop _)⟩
    · rw [List.length_append, List.length_singleton, List.length_take]
      omega
  · exact w.err
/-! xs[a:b] = ys -/
theorem pg_slc {lo hi : Expr} {to tl th : TE} {p2 : Pos} (ho : PE X o to) (hl : PE X lo tl) (hh : PE X hi th) : PG X (.Subscript o (.Slice (some lo) (some hi) none p2) pos) (fun v σ H Q => to σ H fun x H1 => tl σ H1 fun l H2 => th σ H2 fun h H3 => ∃ (a b : Addr) (xs ys : List V) (i j : Int), x = .ref a ∧ v = .ref b ∧ l = .int i ∧ h = .int j ∧ H3 a = some (.lst xs) ∧ H3 b = some (.lst ys) ∧ a ≠ b ∧
    0 ≤ i ∧ i ≤ j ∧ j ≤ xs.length ∧ xs.length + ys.length ≤ sizeLine ∧ Q σ (upd H3 a (.lst (xs.take i.toNat ++ ys ++ xs.drop j.toNat)))) := by
  refine ⟨fun pins s σ H v u Q I r q => ?_⟩
  show wpAny _ _ (do
    let ov ← holding [u] (eval o X.env)
    let iv ← holding [u, ov] (eval (.Slice (some lo) (some hi) none p2) X.env)
    standAt pos
    holding [u, ov, iv] (setItem ov iv u)
    release [iv, u, ov] []) _ _ s
  refine wpAny_bind (wpAny_holding (thn (ho.run pins s σ H _ I q) fun ov s1 ⟨x, H1, I1, r1, q1⟩ => ?_))
  refine wpAny_bind (wpAny_holding (wpAny_Slice ?_))
  rw [evalPart_some]
  refine thn (hl.run pins s1 σ H1 _ I1 q1) fun vl s2 ⟨l, H2, I2, rl, q2⟩ => ?_
  rw [evalPart_some]
  refine thn (hh.run pins s2 σ H2 _ I2 q2) fun vu s3 ⟨h, H3, I3, ru, q3⟩ => ?_
  rw [evalPart_none]
  refine wpAny_pure ?_
  obtain ⟨a, b, xs, ys, i, j, rfl, rfl, rfl, rfl, ha, hb, hne, h0, hij, hj, hz, q4⟩ := q3
  obtain rfl : ov = Value.ref a := r1
  obtain rfl : u = Value.ref b := r
  have I4 : L2.Inv X pins σ H3 { s3 with heap := s3.heap.push { cls := .type "slice", data := .fields #[vl, vu, .none] } } := I3.kept (t' := s3.toks) fun b ob q => Heap.get?_push_of_some _ q
  refine wpAny_bind (wpAny_standAt (wpAny_bind (wpAny_holding (set_slice I4 ha hb hne (Heap.IsSliceOf.new ..) rl ru h0 hij hj hz fun s' I5 => ?_))))
  exact wpAny_release ⟨σ, _, I5, q4⟩
theorem g_slc {vs : List Nat} {lo hi : Expr} {il ih : E} {p2 : Pos} (ho : PE X o (tE g W (ev F io))) (hl : PE X lo (tE g W (ev F il))) (hh : PE X hi (tE g W (ev F ih))) : PG X (.Subscript o (.Slice (some lo) (some hi) none p2) pos) (TGv g vs (asg F (.slc io il ih))) := by
  refine PG.imp (pg_slc ho hl hh) fun v σ H Q ⟨m, ρ, S, d, rs, er, rd, w⟩ => ?_
  rw [asg] at w
  refine ⟨m, ρ, S, rs, er, ((WP.bind (Ra := Rel g) w).wish fun _ _ _ z => z.elim).imp fun x H1 ⟨m1, S1, dx, x1, rs1, r1, w1⟩ => ?_⟩
  refine ⟨m1, ρ, S1, rs1, er.mono x1, ((WP.bind (Ra := Rel g) w1).wish fun _ _ _ z => z.elim).imp fun l H2 ⟨m2, S2, dl, x2, rs2, r2, w2⟩ => ?_⟩
  refine ⟨m2, ρ, S2, rs2, (er.mono x1).mono x2, ((WP.bind (Ra := Rel g) w2).wish fun _ _ _ z => z.elim).imp fun h H3 ⟨m3, S3, dh, x3, rs3, r3, w3⟩ => ?_⟩
  cases dx with
  | ref nn =>
    cases dl with
    | int i =>
      cases dh with
      | int j =>
        cases d with
        | lst ys =>
          replace w3 : WP g noW (EnvK g vs σ) m3 S3.length H3 ((match cellAt S3 nn with | some (.lst xs) => ck (0 ≤ i ∧ i ≤ j ∧ j ≤ xs.length ∧ xs.length + ys.length ≤ sizeLine) (.ok () (setAt S3 nn (.lst (xs.take i.toNat ++ ys ++ xs.drop j.toNat)))) | _ => (.err : R Unit)).bind fun _ S => .ok ρ S) Q := w3
          split at w3
          · rename_i xs hz
            unfold ck at w3
            split at w3
            · rename_i c
              obtain ⟨c1, c2, c3, c4⟩ := c
              simp only [R.bind_ok] at w3
              obtain ⟨a, rfl, k, vs', hv, rv⟩ := (Rel.mono (x2.trans x3) _ _ r1).box rs3 hz
              have rd3 := Rel.mono ((x1.trans x2).trans x3) _ _ rd
              rw [rel_lst] at rd3
              obtain ⟨b, us, rfl, ⟨hb, ob⟩, ru⟩ := rd3
              have ri := Rel.mono x3 _ _ r2
              rw [rel_int] at ri r3
              have lv := rv.length
              have lu := ru.length
              refine ⟨a, b, vs', us, i, j, rfl, rfl, ri, r3, hv, hb, fun z => ob.1 nn (by rw [← z]; exact k), c1, c2, by omega, by omega, ?_⟩
              have xs' := Ext.set (n := S3.length) (o := .lst (vs'.take i.toNat ++ us ++ vs'.drop j.toNat)) rs3 k
              have ln : (setAt S3 nn (.lst (xs.take i.toNat ++ ys ++ xs.drop j.toNat))).length = S3.length := by unfold setAt; rw [List.length_set]
              refine w3 m3 _ σ (by rw [ln]; exact xs') (rs3.set k ⟨_, upd_same, Rels.mono xs' _ _ (((rv.take _).append ru).append (rv.drop _))⟩) ?_
              rw [ln]
              exact ⟨er.mono (((x1.trans x2).trans x3).trans xs'), Kept.refl⟩
            · exact w3.elim
          · exact w3.elim
        | _ => exact w3.elim
      | _ => cases d <;> exact w3.elim
    | _ => cases dh <;> cases d <;> exact w3.elim
  | _ => cases dl <;> cases dh <;> cases d <;> exact w3.elim
end
end Iv

/-! ### comprehensions over two walks; str.index; enumerate(start=) -/
namespace Iv
open PySem PySem.Spec PyProof.Rows L2
section
variable {g : Gs} {W : L2.WX} {X : Cx} {F : CE} {m m' : Mp} {n : Nat} {H H' : Hp} {S S' : Sto} {σ : L2.St} {ρ : Env} {pos : Pos}
theorem ExtW.refl : ExtW m n H m n H := (Ext.refl (m := m) (n := n) (H := H)).w
theorem ExtW.trans {m1 m2 m3 : Mp} {n1 n2 n3 : Nat} {H1 H2 H3 : Hp} (x : ExtW m1 n1 H1 m2 n2 H2) (y : ExtW m2 n2 H2 m3 n3 H3) : ExtW m1 n1 H1 m3 n3 H3 :=
  ⟨Nat.le_trans x.le y.le, fun i a l e => x.old i a l (y.old i a (Nat.lt_of_lt_of_le l x.le) e), fun a o e f => let ⟨e', f'⟩ := x.keep a o e f; y.keep a o e' f'⟩
theorem EnvR.monoW {m1 : Mp} {n1 : Nat} {H1 : Hp} (x : ExtW m n H m1 n1 H1) (h : EnvR g m n H ρ σ) : EnvR g m1 n1 H1 ρ σ := ⟨h.1, fun i d e => let ⟨v, e1, r⟩ := h.2 i d e; ⟨v, e1, Rel.monoW x d v r⟩⟩
variable {own own1 : List Nat} {t t1 : Tg} {it it1 : Iv.It} {iifs iifs1 : List E} {ie : E} {box : Bool}
noncomputable abbrev lcStepB (F : CE) (own own1 : List Nat) (t : Tg) (iifs : List E) (t1 : Tg) (it1 : Iv.It) (iifs1 : List E) (ie : E) (ρ : Env) : Iv.D → Sto → R (List Iv.D) := fun d S => (asg F t d (wipeE ρ own) S).bind fun ρ1 S => (evIfs F iifs ρ1 S).bind fun k S => if k = true then
        (evIt F it1 ρ1 S).bind fun w1 S => lcLoop w1.1 (lcStep F own1 t1 iifs1 ie ρ1) w1.2 S
        else .ok [] S
theorem lc2_body {Q : VK} (rs : RS g m S H) (er : EnvR g m S.length H ρ σ) (w : WP g (fun c d H' => W c d σ H') (Rel g) m S.length H (ev F (.lc2 box own own1 t it iifs t1 it1 iifs1 ie) ρ S) Q) :
    tLc2 (tI g W (evIt F it)) (TGv g own (asg F t)) (tT g noX (evIfs F iifs)) (tI g noX (evIt F it1)) (TGv g own1 (asg F t1)) (tT g noX (evIfs F iifs1)) (tE g noX (ev F ie)) own own1 σ H Q := by
  rw [ev] at w
  refine TI.step (Ra := ItR g) rs er w fun J H1 m1 S1 ⟨src, items⟩ x1 rs1 er1 it1' w => ?_
  intro D hD
  dsimp only at w
  rcases lcLoop_form (src := src) (step := lcStepB F own own1 t iifs t1 it1 iifs1 ie ρ) (items := items) (S := S1) with ⟨ys, Sf, hL⟩ | hL
  · rw [hL] at w
    obtain ⟨hy, w⟩ := (show WP g _ (Rel g) m1 S1.length H1 (ck (ys.length ≤ sizeLine) (mkL box ys Sf)) Q from w).ck
    have n1 : ¬ m1.hid D := (Off.free rs1 hD).2
    refine ⟨fun i μ H' => μ = items.length - i ∧ i ≤ items.length ∧ ∃ m' S' acc vs rest, Ext m1 S1.length H1 m' (List.length S') H' ∧ m'.hid D ∧ RS g m' S' H' ∧ H' D = some (.lst vs) ∧ Rels g m' S'.length H' acc vs ∧ lcLoop src (lcStepB F own own1 t iifs t1 it1 iifs1 ie ρ) (items.drop i) S' = .ok rest Sf ∧ acc ++ rest = ys,
      ⟨_, rfl, Nat.zero_le _, mHide m1 D, S1, [], [], ys, Ext.hide rs1 hD, .inr rfl, rs1.hide hD, upd_same, Rels.nil, by rw [List.drop_zero]; exact hL, rfl⟩, ?_⟩
    rintro i μ H' ⟨rfl, hi, m', S', acc, vs, rest, x', hd', rs', e', ra, hl, hs⟩
    cases hdr : items.drop i with
    | nil =>
      have e : i = items.length := by
        have := List.drop_eq_nil_iff.mp hdr
        omega
      rw [hdr] at hl
      obtain ⟨c, rfl, rfl⟩ := lcLoop_nil hl
      rw [List.append_nil] at hs
      subst hs
      obtain ⟨_, st⟩ := it1' m' _ H' x'.w rs' c
      exact .inl ⟨by rw [e]; exact st, lc_end rs1 hD x' hd' rs' e' ra w⟩
    | cons d ds =>
      rw [hdr] at hl
      obtain ⟨c, xs, S2, r2, hstep, hl2, rfl⟩ := lcLoop_cons hl
      obtain ⟨hlt, hget, hds⟩ := drop_cons hdr
      obtain ⟨g1, g2⟩ := (it1' m' S' H' x'.w rs' c).1 i d hget
      refine .inr ⟨g1, _, fun H2 h2 => ⟨items.length - (i + 1), by omega, h2⟩, fun v H'' yv => ?_⟩
      obtain ⟨rs'', x'', rx⟩ := g2 v H'' yv
      have x3 := x'.trans x''
      have e3 : H'' D = some (.lst vs) := (x''.hid D hd').2.trans e'
      have ra3 := Rels.mono x'' _ _ ra
      refine ⟨m', wipeE ρ own, S', d, rs'', (er1.mono x3).wiped own, rx, ?_⟩
      obtain ⟨ρ1, Sa, ha, hstep⟩ := bind_ok hstep
      rw [ha]
      intro m4 H4 σ4 x4 rs4 ⟨er4, k4⟩
      refine ⟨k4.wiped, m4, ρ1, Sa, rs4, er4, ?_⟩
      obtain ⟨k, Sb, hk, hstep⟩ := bind_ok hstep
      rw [hk]
      intro m5 H5 b x5 rs5 rb
      cases rb
      have x5' := (x3.trans x4).trans x5
      have e5 : H5 D = some (.lst vs) := (((x4.trans x5).hid D (x''.hid D hd').1).2).trans e3
      have hd5 : m5.hid D := ((x4.trans x5).hid D (x''.hid D hd').1).1
      have ra5 := Rels.mono (x4.trans x5) _ _ ra3
      cases k with
      | false =>
        rw [if_neg Bool.false_ne_true] at hstep ⊢
        injection hstep with q1 q2
        subst q1 q2
        exact ⟨rfl, hlt, m5, Sb, acc, vs, r2, x5', hd5, rs5, e5, ra5, by rw [hds]; exact hl2, by rw [← hs]; rfl⟩
      | true =>
        rw [if_pos rfl] at hstep ⊢
        obtain ⟨⟨src1, items1⟩, Sc, hit, hstep⟩ := bind_ok hstep
        dsimp only at hstep
        refine ⟨m5, ρ1, Sb, rs5, er4.mono x5, ?_⟩
        rw [hit]
        intro m6 H6 J1 x6 rs6 it6
        have e6 : H6 D = some (.lst vs) := (x6.hid D hd5).2.trans e5
        have hd6 : m6.hid D := (x6.hid D hd5).1
        have er6 := (er4.mono x5).mono x6
        refine ⟨fun j μ H' => μ = items1.length - j ∧ j ≤ items1.length ∧ ∃ m' S' acc' vs' rest', ExtW m6 Sc.length H6 m' (List.length S') H' ∧ Ext m1 S1.length H1 m' (List.length S') H' ∧ m'.hid D ∧ RS g m' S' H' ∧ H' D = some (.lst vs') ∧ Rels g m' S'.length H' acc' vs' ∧ lcLoop src1 (lcStep F own1 t1 iifs1 ie ρ1) (items1.drop j) S' = .ok rest' S2 ∧ acc' ++ rest' = acc ++ xs,
          ⟨_, rfl, Nat.zero_le _, m6, Sc, acc, vs, xs, ExtW.refl, x5'.trans x6, hd6, rs6, e6, Rels.mono x6 _ _ ra5, by rw [List.drop_zero]; exact hstep, rfl⟩, ?_⟩
        rintro j μ H7 ⟨rfl, hj, m7, S7, acc7, vs7, rest7, xw7, x7, hd7, rs7, e7, ra7, hl7, hs7⟩
        cases hdr1 : items1.drop j with
        | nil =>
          have e : j = items1.length := by
            have := List.drop_eq_nil_iff.mp hdr1
            omega
          rw [hdr1] at hl7
          obtain ⟨c7, rfl, rfl⟩ := lcLoop_nil hl7
          rw [List.append_nil] at hs7
          obtain ⟨_, st⟩ := it6 m7 _ H7 xw7 rs7 c7
          exact .inl ⟨by rw [e]; exact st, rfl, hlt, m7, _, acc7, vs7, r2, x7, hd7, rs7, e7, ra7, by rw [hds]; exact hl2, by rw [hs7, List.append_assoc]; exact hs⟩
        | cons d1 ds1 =>
          rw [hdr1] at hl7
          obtain ⟨c7, ys1, S8, r3, hstep1, hl8, rfl⟩ := lcLoop_cons hl7
          obtain ⟨hlt1, hget1, hds1⟩ := drop_cons hdr1
          obtain ⟨g3, g4⟩ := (it6 m7 S7 H7 xw7 rs7 c7).1 j d1 hget1
          refine .inr ⟨g3, _, fun H2 h2 => ⟨items1.length - (j + 1), by omega, h2⟩, fun v1 H8 yv1 => ?_⟩
          obtain ⟨rs8, x8, rx1⟩ := g4 v1 H8 yv1
          have e8 : H8 D = some (.lst vs7) := (x8.hid D hd7).2.trans e7
          have hd8 : m7.hid D := hd7
          have ra8 := Rels.mono x8 _ _ ra7
          have xw8 := xw7.trans x8.w
          have x18 := x7.trans x8
          refine ⟨m7, wipeE ρ1 own1, S7, d1, rs8, (EnvR.monoW xw8 er6).wiped own1, rx1, ?_⟩
          obtain ⟨ρ2, Sd, ha1, hstep1⟩ := bind_ok hstep1
          rw [ha1]
          intro m9 H9 σ9 x9 rs9 ⟨er9, k9⟩
          refine ⟨k9.wiped, m9, ρ2, Sd, rs9, er9, ?_⟩
          obtain ⟨k', Se, hk1, hstep1⟩ := bind_ok hstep1
          rw [hk1]
          intro mA HA b1 xA rsA rbA
          cases rbA
          have x1A := (x18.trans x9).trans xA
          have xwA := xw8.trans ((x9.trans xA).w)
          have eA : HA D = some (.lst vs7) := (((x9.trans xA).hid D hd8).2).trans e8
          have hdA : mA.hid D := ((x9.trans xA).hid D hd8).1
          have raA := Rels.mono (x9.trans xA) _ _ ra8
          cases k' with
          | false =>
            rw [if_neg Bool.false_ne_true] at hstep1 ⊢
            injection hstep1 with q1 q2
            subst q1 q2
            exact ⟨rfl, hlt1, mA, Se, acc7, vs7, r3, xwA, x1A, hdA, rsA, eA, raA, by rw [hds1]; exact hl8, by rw [← hs7]; rfl⟩
          | true =>
            rw [if_pos rfl] at hstep1 ⊢
            refine ⟨mA, ρ2, Se, rsA, er9.mono xA, ?_⟩
            obtain ⟨y, Sg, hyv, hstep1⟩ := bind_ok hstep1
            injection hstep1 with q1 q2
            subst q1 q2
            rw [hyv]
            intro mB HB yv xB rsB rB
            have eB : HB D = some (.lst vs7) := (xB.hid D hdA).2.trans eA
            have hdB : mB.hid D := (xB.hid D hdA).1
            have hlen : vs7.length < sizeLine := by
              rw [← ra7.length]
              have l1 : (acc7 ++ ([y] ++ r3)).length = (acc ++ xs).length := by rw [hs7]
              have l2 : (acc ++ (xs ++ r2)).length ≤ sizeLine := by rw [hs]; exact hy
              simp only [List.length_append, List.length_cons, List.length_nil] at l1 l2
              omega
            refine ⟨vs7, eB, hlen, rfl, hlt1, mB, Sg, acc7 ++ [y], vs7 ++ [yv], r3, (xwA.trans xB.w).trans (ExtW.own hdB), (x1A.trans xB).own hD n1, hdB, rsB.own hdB, upd_same, Rels.append (Rels.monoW (ExtW.own hdB) _ _ (Rels.mono xB _ _ raA)) (Rels.cons (Rel.monoW (ExtW.own hdB) _ _ rB) Rels.nil), by rw [hds1]; exact hl8, by rw [← hs7, List.append_assoc]⟩
  · rw [hL] at w
    exact w.err
theorem i_lc2 {elt tg iter tg1 iter1 : Expr} {ifs ifs1 : List Expr} {scope : Scope} {own : List (Str × Nat)} (hc : X.calm = true) (hN : X.N.Nodup) (oki : okE iter = true) (oki1 : okE iter1 = true) (hi : PI X tg iter (tI g W (evIt F it))) (ok : BlkOk X.N X.env.scope scope own) (hv : ∀ i ∈ own1, i ∈ own.map (·.2))
    (hg : ∀ (s : Shared) (H : Hp) (C : Addr) (cl : List (Str × Addr)) (fp : List Addr), PG (X.blk s H scope (compEnvC scope cl C X.env) fp) tg (TGv g (own.map (·.2)) (asg F t)))
    (ht : ∀ (s : Shared) (H : Hp) (C : Addr) (cl : List (Str × Addr)) (fp : List Addr), PTs (X.blk s H scope (compEnvC scope cl C X.env) fp) ifs (tT g noX (evIfs F iifs)))
    (hi1 : ∀ (s : Shared) (H : Hp) (C : Addr) (cl : List (Str × Addr)) (fp : List Addr), PI (X.blk s H scope (compEnvC scope cl C X.env) fp) tg1 iter1 (tI g noX (evIt F it1)))
    (hg1 : ∀ (s : Shared) (H : Hp) (C : Addr) (cl : List (Str × Addr)) (fp : List Addr), PG (X.blk s H scope (compEnvC scope cl C X.env) fp) tg1 (TGv g own1 (asg F t1)))
    (ht1 : ∀ (s : Shared) (H : Hp) (C : Addr) (cl : List (Str × Addr)) (fp : List Addr), PTs (X.blk s H scope (compEnvC scope cl C X.env) fp) ifs1 (tT g noX (evIfs F iifs1)))
    (he : ∀ (s : Shared) (H : Hp) (C : Addr) (cl : List (Str × Addr)) (fp : List Addr), PE (X.blk s H scope (compEnvC scope cl C X.env) fp) elt (tE g noX (ev F ie))) :
    PE X (.ListComp elt [⟨tg, iter, ifs, 0⟩, ⟨tg1, iter1, ifs1, 0⟩] scope pos) (tE g W (ev F (.lc2 box (own.map (·.2)) own1 t it iifs t1 it1 iifs1 ie))) :=
  PE.imp (pe_lc2 hc hN hi ok hv hg ht hi1 hg1 ht1 he (folded_ok oki) (fun _ => folded_ok oki1)) fun σ H Q ⟨m, ρ, S, rs, er, w⟩ => lc2_body rs er w
/-! str.index -/
theorem mt_sindex' : MtR X "str.index" (rm g .sindex) := by
  refine MtR.imp mt_sindex fun v xs H Q ⟨m, S, d, ds, W, rs, r, rx, w⟩ => ?_
  replace w : WP g W (Rel g) m S.length H (bmSIndex S d ds) Q := w
  unfold bmSIndex at w
  split at w
  · rename_i b
    split at w
    · rename_i a
      split at w
      · rename_i i rest ho
        obtain ⟨u, rfl, ru⟩ := rx.one
        rw [rel_str] at r ru
        exact ⟨a, b, i, rest, r.1, by rw [ru.1], ho, w.now rs (by rw [rel_int])⟩
      · exact w.err
    · exact w.err
  · exact w.err
end
end Iv

/-! ### enumerate(list, start=c) -/
namespace We
open PySem PySem.Spec PyProof.Rows L2
/-- the list at a as it stands at each turn, numbers from c on -/
def ItC (K : PySem.W.Frag) (c : Int) (a : Addr) : It where
  go := fun i H => ∃ (xs : List V) (x : V), SqL K H a xs ∧ xs[i]? = some x
  yld := fun i H v H' => ∃ T x, v = .ref T ∧ H T = none ∧ H' = upd H T (.tup [.int (c + (i : Nat)), x]) ∧ ∀ xs, SqL K H a xs → xs[i]? = some x
  stop := fun i H => ∃ xs : List V, SqL K H a xs ∧ xs.length = i
theorem turnC {P : Program} {w : World} {K : PySem.W.Frag} {elts : List Expr} {kk : Nat} {tpos : Pos} (c : Int) {a e it : Addr} (hai : a ≠ it) (hae : a ≠ e) :
    Turn P w K (.Tuple elts kk tpos) (ItC K c a) [e, it] e (fun i h => (∃ old, IsEnum h e it (c + ((i : Nat) : Int)) old) ∧ h.IsListIter it a i ∧ e ≠ it) where
  mem := List.mem_cons_self ..
  obj := fun i h ⟨⟨old, he⟩, ⟨o, ho, _, hd⟩, _⟩ b hb => by
    rcases List.mem_cons.mp hb with rfl | hb
    · exact ⟨_, he, fun v q => nomatch q⟩
    · cases List.mem_singleton.mp hb
      exact ⟨o, ho, fun v q => by rw [hd] at q; cases q⟩
  keep := fun i h h' ⟨⟨old, he⟩, hi, hne⟩ k => ⟨⟨old, k e (List.mem_cons_self ..) _ he⟩, hi.at fun o q => k it (List.mem_cons_of_mem _ (List.mem_cons_self ..)) o q, hne⟩
  item := by
    intro X hP hw hK hc i pins s σ H E I hf ⟨⟨old, he⟩, hit, hne⟩ ⟨xs, x, hq, hx⟩
    subst hP hw hK
    obtain ⟨its, rv, p, hz⟩ := I.list hq
    obtain ⟨u, hu, ru⟩ := rv.get hx
    have le : e < s.heap.objs.size := Heap.lt_size he
    have li : it < s.heap.objs.size := let ⟨_, q, _⟩ := hit; Heap.lt_size q
    have hlt : i < its.toArray.size := by
      rw [List.size_toArray]
      exact (List.getElem?_eq_some_iff.mp hu).1
    have hin : e ∉ [it, a] := by
      simp only [List.mem_cons, List.not_mem_nil, or_false, not_or]
      exact ⟨hne, fun q => hae q.symm⟩
    refine wpAny_pyNext_enum_itemC (Wz.draws (k := true) (by exact I.ok.hd hc) it a hai its.toArray) he ⟨hit, p.isList⟩ hlt hne hin fun y h1 tk hy ho st1 hT hsz hk => ?_
    have ey : u = y := by
      have q : its[i]? = some y := by simpa using hy
      rw [hu] at q
      exact Option.some.inj q
    subst ey
    refine ⟨_, rfl, wpAny_letOwnedTupleGo_enum (s := { s with heap := h1, toks := tk + 1 }) ho fun h2 he2 sb => ?_⟩
    have hT2 := (sb.2 _ (Nat.ne_of_gt le)).trans hT
    have new : ObjOk X.prog X.w (upd H s.heap.objs.size (.tup [.int (c + (i : Nat)), x])) h2 s.heap.objs.size (.tup [.int (c + (i : Nat)), x]) :=
      ⟨show 2 ≤ sizeLine by decide, [.int (c + (i : Nat)) tk, u], .cons ⟨_, rfl⟩ (.cons ru .nil), ⟨_, hT2, rfl, _, rfl⟩⟩
    have I1 : Inv X pins σ (upd H s.heap.objs.size (.tup [.int (c + (i : Nat)), x])) { s with heap := h2, toks := tk + 1 } :=
      I.turnedNew (ch := [e, it]) (fun b ob hb q => (sb.2 b fun z => hb (by rw [z]; exact List.mem_cons_self ..)).trans (hk b ob (fun z => hb (by rw [z]; exact List.mem_cons_self ..)) (fun z => hb (by rw [z]; exact List.mem_cons_of_mem _ (List.mem_cons_self ..))) q)) hf (Nat.le_refl _) new
    refine ⟨.ref s.heap.objs.size, _, I1, rfl, ⟨_, x, rfl, I.hok.fresh (Nat.le_refl _), rfl, fun ys hy' => by rw [I.list_inj hy' hq]; exact hx⟩, ⟨⟨u, ?_⟩, Heap.IsListIter.at st1.1 fun o q => (sb.2 it (Ne.symm hne)).trans q, hne⟩, fun b hb => ?_⟩
    · rw [show c + ((i + 1 : Nat) : Int) = c + (i : Int) + 1 by omega]
      exact he2
    · have lb : b < s.heap.objs.size := by
        rcases List.mem_cons.mp hb with rfl | hb
        · exact le
        · cases List.mem_singleton.mp hb
          exact li
      rw [upd_ne (Nat.ne_of_lt lb)]
      exact (hf b hb).1
  done := by
    intro X hP hw hK hc i pins s σ H E I hf ⟨⟨old, he⟩, hit, hne⟩ ⟨xs, hq, hx⟩
    subst hP hw hK
    obtain ⟨its, rv, p, hz⟩ := I.list hq
    obtain ⟨f0, f1, f2, f3, f4, f5⟩ := hf it (List.mem_cons_of_mem _ (List.mem_cons_self ..))
    have el : i = its.toArray.size := by rw [List.size_toArray, ← rv.length, hx]
    exact wpAny_pyNext_enum_endD (n := its.toArray.size) (Wz.draws (k := true) (by exact I.ok.hd hc) it a hai its.toArray) he ⟨el ▸ hit, p.isList⟩ fun h' eb => ⟨rfl, I.turned (t' := s.toks) (fun b o hb q => eb b o hb q) f0 f1 f3 f4 f5⟩
  self := fun A i s Q E ⟨⟨_, he⟩, _⟩ h => wpAny_pyIter_enum he h
def iEnumC (K : PySem.W.Frag) (ta tk : TA) : TI := fun σ H R => ta σ H fun vs H1 => tk σ H1 fun zs H2 => ∃ a xs c, vs = [.ref a] ∧ zs = [.int c] ∧ -(2 ^ 63) ≤ c ∧ c < 2 ^ 63 ∧ SqL K H2 a xs ∧ R (ItC K c a) H2
theorem pi_enumC {X : Cx} {e : Expr} {kws : List Keyword} {ta tk : TA} {p pos tpos : Pos} {elts : List Expr} {kk : Nat} (hg : Gl X "enumerate") (hm : X.mg "enumerate" = none) (ha : PA X [e] ta) (hk : PK X kws tk)
    (hall : (backToKw pos (keywordEach kws X.env)).all (·.1.isSome) = true := by rfl) (hks : (backToKw pos (keywordEach kws X.env)).filterMap (·.1) = [Str.ofString "start"] := by rfl)
    (he : starEach [e] X.env = (false, eval e X.env) :: starEach [] X.env := by rfl) (hpl : ((backTo pos (starEach [e] X.env)).any (·.1) || (backToKw pos (keywordEach kws X.env)).any (·.1.isNone)) = false := by rfl) :
    PI X (.Tuple elts kk tpos) (.Call (.Name "enumerate" p) [e] kws pos) (iEnumC X.K ta tk) := by
  refine ⟨fun pins s σ H R I h => ?_⟩
  refine wpAny_Call_Name_kw (ld_blt I hg hm boot_enumerate (Wz.callWith_tyKw hpl (PyProof.Rows.evalArgs_kw2 hall (thn (ha.run pos pins s σ H _ I h) fun us s1 ⟨vs, H1, I1, r1, q1⟩ => ?_) he)))
  refine thn (hk.run pos pins s1 σ H1 _ I1 q1) fun ws s2 ⟨zs, H2, I2, r2, q2⟩ => ?_
  rw [hks]
  obtain ⟨a, xs, c, rfl, rfl, c0, c1, sx, fin⟩ := q2
  cases r1 with
  | cons ra r1 =>
    cases r1
    cases ra
    cases r2 with
    | cons rk r2 =>
      cases r2
      obtain ⟨t, rfl⟩ := rk
      obtain ⟨its, rv, pl, hz⟩ := I2.list sx
      have la : a < s2.heap.objs.size := let ⟨o, q, _⟩ := pl.isList; Heap.lt_size q
      refine enum_begins_start (Wz.begins true a its.toArray) pl.isList c0 c1 fun h' hen hit hsz hkp => wpAny_pyIter_enum hen ?_
      have I3 : Inv X pins σ H2 { s2 with heap := h' } := I2.kept (t' := s2.toks) hkp
      refine ⟨s2.heap.objs.size + 1, [s2.heap.objs.size + 1, s2.heap.objs.size], _, _, H2, rfl, I3, turnC c (Nat.ne_of_lt la) (Nat.ne_of_lt (Nat.lt_succ_of_lt la)), ⟨⟨.none, ?_⟩, Wz.AtI.fresh (k := true) hit, Nat.succ_ne_self _⟩, fun b hb => ?_, fin⟩
      · rw [show c + ((0 : Nat) : Int) = c by omega]
        exact hen
      · have lb : s2.heap.objs.size ≤ b := by
          rcases List.mem_cons.mp hb with rfl | hb
          · exact Nat.le_succ _
          · cases List.mem_singleton.mp hb
            exact Nat.le_refl _
        exact I2.fpOk lb (I2.hok.fresh lb)
end We
namespace Iv
open PySem PySem.Spec PyProof.Rows L2
section
variable {g : Gs} {W : L2.WX} {X : Cx} {F : CE} {m : Mp} {n : Nat} {H : Hp} {S : Sto} {σ : L2.St} {ρ : Env} {pos : Pos} {a : Addr} {xs : List Iv.D} {src : Src}
theorem itr_enumC {c : Int} (h : ∀ m' S' H', ExtW m n H m' (List.length S') H' → RS g m' S' H' → src.there S' → ∃ vs, SqL g.K H' a vs ∧ Rels g m' S'.length H' xs vs) : ItR g m n H (src, enumD c xs) (We.ItC g.K c a) := by
  intro m' S' H' x rs ct
  obtain ⟨vs, q, r⟩ := h m' S' H' x rs ct
  refine ⟨fun i d e => ?_, ⟨vs, q, by show vs.length = List.length _; rw [enumD, List.length_mapIdx, r.length]⟩⟩
  rw [enumD, List.getElem?_mapIdx] at e
  obtain ⟨d', hd, rfl⟩ := Option.map_eq_some_iff.mp e
  obtain ⟨v, hv, rv⟩ := r.get hd
  refine ⟨⟨vs, v, q, hv⟩, fun y H'' ⟨T, y', q1, q2, q3, q4⟩ => ?_⟩
  have hy := q4 vs q
  rw [hv] at hy
  cases hy
  subst q1 q3
  refine ⟨rs.laid q2, Ext.laid rs q2, ?_⟩
  rw [rel_tup]
  refine ⟨T, _, rfl, .inl ⟨upd_same, Off.free rs q2⟩, Rels.cons ?_ (Rels.cons (Rel.mono (Ext.laid rs q2) _ _ rv) Rels.nil)⟩
  rw [rel_int]
theorem w_enumS {e e2 : Expr} {ie ie2 : E} {elts : List Expr} {kk : Nat} {tpos p kp : Pos} (hm : X.mg "enumerate" = none) (ha : PA X [e] (tEs g W (evs F [ie]))) (h2 : PE X e2 (tE g W (ev F ie2))) (ok : okE e = true := by rfl) (hg : Gl X "enumerate" := by rfl) (hK : X.K = g.K := by rfl) : PI X (.Tuple elts kk tpos) (.Call (.Name "enumerate" p) [e] [⟨some "start", e2, kp⟩] pos) (tI g W (evIt F (.enumS ie ie2))) := by
  have hk : PK X [⟨some "start", e2, kp⟩] (tEs g W (evs F [ie2])) := k_cons h2 k_nil
  refine PI.imp (We.pi_enumC hg hm ha hk (by rfl) (by rfl) (by rw [starEach_ok ok]) (by rw [starEach_ok ok]; rfl)) fun σ H R ⟨m, ρ, S, rs, er, w⟩ => ?_
  rw [evIt] at w
  refine ⟨m, ρ, S, rs, er, ?_⟩
  rw [evs1]
  cases hh : ev F ie ρ S with
  | ok d S1 =>
    rw [hh] at w
    simp only [Iv.R.bind_ok] at w ⊢
    intro m1 H1 vs x rs1 r1
    obtain ⟨v, rfl, rv⟩ := Rels.one r1
    have w := w.from x
    refine ⟨m1, ρ, S1, rs1, er.mono x, ?_⟩
    rw [evs1]
    cases hh2 : ev F ie2 ρ S1 with
    | ok d2 S2 =>
      rw [hh2] at w
      simp only [Iv.R.bind_ok] at w ⊢
      intro m2 H2 zs x2 rs2 r2
      obtain ⟨v2, rfl, rv2⟩ := Rels.one r2
      have w := w.from x2
      cases hw : walkL S2 d with
      | none => rw [hw] at w; exact w.err
      | some pp =>
        obtain ⟨src, xs⟩ := pp
        rw [hw] at w
        cases d2 with
        | int c =>
          obtain ⟨hc, w⟩ := (show WP g (fun c d H' => W c d σ H') (ItR g) m2 S2.length H2 (ck (smallI c) (.ok (src, enumD c xs) S2)) R from w).ck
          have hd : ∀ zs, d ≠ .tup zs := fun zs h => by subst h; cases hw
          have hs : ∀ zs, d ≠ .str zs := fun zs h => by subst h; cases hw
          have hw' : walkOf S2 d = some (src, xs) := by
            cases d <;> first | exact hw | cases hw
          obtain ⟨e0, k⟩ := there_now hw' hs
          have rv' := Rel.mono x2 _ _ rv
          obtain ⟨a, vs, rfl, rr, q⟩ := seq_list (H1 := H) (S1 := S) rs2 rv' hd e0
          have qq := w.now rs2 (itr_enumC (c := c) (itr_of_list rs2 rv' hd k))
          rw [rel_int] at rv2
          rw [← hK] at q qq
          unfold smallI at hc
          exact ⟨a, vs, c, rfl, by rw [rv2], by omega, by omega, q, qq⟩
        | _ => exact w.err
    | exc x S1 => rw [hh2] at w; exact w
    | err => rw [hh2] at w; exact w
  | exc x S1 => rw [hh] at w; exact w
  | err => rw [hh] at w; exact w
end
end Iv

/-! ### str(list), str(tuple) where no repr is under way; the law's own call -/
namespace Wg
open PySem PySem.Spec PyProof.Rows L2
/-- what such a str() needs and tells -/
def rStr (K : PySem.W.Frag) : List V → Hp → VK → Prop := fun xs H Q => ∃ (a : Addr) (d : PyData), xs = [.ref a] ∧ Dp K H (.ref a) d ∧ d.canLay0 = true ∧ d.showable = true ∧ d.depth ≤ 60 ∧ d.shown.length ≤ sizeLine ∧ Q (.str d.shown) H
theorem cr_str {X : Cx} {k : Nat} (hr : Room k X.A) (hg : X.A.guards = some []) : CallR X (.type "str") (rStr X.K) := by
  intro pins s σ H xs us Q I r ⟨a, d, e, hd, hl, hs, hp, hz, q⟩
  subst e
  obtain ⟨u, rfl, ru⟩ := vals1 r
  obtain rfl : u = Value.ref a := ru
  obtain ⟨as, rd⟩ := Dp.reads I d (.ref a) (.ref a) hd rfl
  exact str_of_reads rd hs (PyData.noDict_hsm (PyData.hasDict_of_canLay d hl)) hg (by have := hr.un; omega) (fun _ _ z => z) (fun h' u tk hk => ⟨.str d.shown, H, I.kept (t' := tk) hk, ⟨u, rfl⟩, q⟩) hz
/-- the law's own promise: told where no repr is under way -/
structure FnG (P : Program) (w : World) (K : PySem.W.Frag) (mg : Str → Option Value) (base : Heap) (CX : CXT) (k : Nat) (f : Addr) (fd : FuncData) (ps : List Str) (sp : Sp) : Prop where
  run : ∀ (A : Around) (outer : List Env) (s : Shared) (H : Hp) (args : Args) (us : List Value) (vs : List V) (Q : VK) (E : XK), A.guards = some [] → Room k A → Env0 P w K mg base A outer s H → BindsTo s fd args (ps.zip us) → Vals vs us → sp vs H Q E →
    codeAny (model P w) A (.call (.ref f) args) (CR CX outer P w H s Q E) s
theorem fnG {P : Program} {w : World} {K : PySem.W.Frag} {mg : Str → Option Value} {base : Heap} {x qual : Str} {st : Stmt} {dvs : List V} {kws : List (Str × V)} {f : Addr} {fd : FuncData} {CX : CXT} {N ps : List Str} {k : Nat} {sp : Sp} (F : FunD K x qual (defArgs st) (defBody st) (defScope st) dvs kws f fd) (S : FnScope N ps (defScope st)) (len : ∀ vs H Q E, sp vs H Q E → vs.length = ps.length)
    (hb : ∀ (cdv : Value) (A : Around) (outer : List Env) (s : Shared) (H : Hp) (vs : List V) (Q : VK) (E : XK), (A.deeper (envOfC qual (defScope st) s.heap.objs.size f cdv)).guards = some [] → Room k (A.deeper (envOfC qual (defScope st) s.heap.objs.size f cdv)) → sp vs H Q E →
      ∃ t, PSs (cxOf CX P w K mg base N qual (defScope st) f cdv A outer s H E) (defBody st) t ∧ t { nx := fun _ H' => Q .non H', rt := Q } (start N vs) H) : FnG P w K mg base CX (k + 1) f fd ps sp := by
  obtain ⟨oc, od, dV, kV, doc, pm, an, cdv, ct, osl, rfl, lk, hcd, _, _⟩ := F.ex
  constructor
  intro A outer s H args us vs Q E hg hr e0 bt rv h
  have up : ∀ b o, base.get? b = some o → s.heap.get? b = some o := fun b o e => (e0.bs b o e).1
  have KX : K.In s.heap := e0.mod.kin.keeps up
  refine codeAny_call_function hr.depth (KX _ _ lk) rfl S.co S.gen rfl (PySem.W.codeRec_of KX hcd) (bt _ _ _ _ (wpAny_newFunctionEnv_cells S.kind (fun y hy => ?_) fun env he s1 x => ?_))
  · exact (S.par y.1 (List.of_mem_zip (show (y.1, y.2) ∈ _ from hy)).1).imp id fun q => ⟨q, PySem.W.cellsFrom_some _ _ _ (.inl q)⟩
  · subst he
    refine ⟨(e0.mod.nolimit.keeps up).keeps x.toInCall.keep, codeAny_func ?_⟩
    obtain ⟨t, ht, hq⟩ := hb cdv A outer s H vs Q E hg (hr.deeper _) h
    have I := inv_start (CX := CX) (E := E) (N := N) S hr.hd e0 (len _ _ _ _ h) rv x
    refine wpAny_mono (ht.run [] s1 (start N vs) H _ I hq) (fun fl s' z => ?_) fun _ _ z => z
    cases fl with
    | ret u => exact let ⟨v, _, H', J, r, q⟩ := z; ⟨v, H', J.os, J.bare, J.base, J.hok, r, q⟩
    | next => exact let ⟨_, H', J, q⟩ := z; ⟨V.non, H', J.os, J.bare, J.base, J.hok, rfl, q⟩
    | brk => exact let ⟨_, _, _, q⟩ := z; q.elim
    | cont => exact let ⟨_, _, _, q⟩ := z; q.elim
/-- the abstract heap at the law's call: the script, where it is no object of the module -/
def hp0 (K : PySem.W.Frag) (a : Addr) (vs : List Value) (ns : List Int) : Hp := fun b => if b = a ∧ K.lookup a = none then some (.frz { cls := .type "list", data := .seq vs.toArray } (.lst (ns.map V.int))) else none
theorem hp0_some {K : PySem.W.Frag} {a b : Addr} {vs : List Value} {ns : List Int} {u : HO} (h : hp0 K a vs ns b = some u) : b = a ∧ K.lookup a = none ∧ u = .frz { cls := .type "list", data := .seq vs.toArray } (.lst (ns.map V.int)) := by
  unfold hp0 at h
  split at h
  · rename_i c
    cases h
    exact ⟨c.1, c.2, rfl⟩
  · cases h
theorem law_callG {P : Program} {w : World} {K : PySem.W.Frag} {mg mb : Str → Option Value} {k : Nat} {fa a : Addr} {fd : FuncData} {x : Str} {s₁ : Shared} {vs : List Value} {ns : List Int} (KX : K.In s₁.heap) (hns : s₁.heap.Ns mainGlobals mg) (hb : s₁.heap.Ns builtinsNs mb) (hbb : ∀ x : Str, x ≠ "__name__" → mb x = bootBuiltins x) (hlim : s₁.heap.NoLimit) (hgn : s₁.gens = #[])
    (ha : s₁.heap.get? a = some { cls := .type "list", data := .seq vs.toArray }) (hi : IntsAre vs ns) (hl : ns.length ≤ 63) (hr : Room k callerA) (F : ∀ base : Heap, K.In base → base.Ns mainGlobals mg → FnG P w K mg base CX0 k fa fd [x] (Iv.spEnd K)) (bt : ∀ (s : Shared) (u : Value), BindsTo s fd ⟨[u], []⟩ [(x, u)]) :
    codeAny (model P w) callerA (.call (.ref fa) ⟨[.ref a], []⟩) (fun r s' => r = .ok (.ret (.bool true)) ∧ OldK s₁.heap s'.heap ∧ s'.os = s₁.os ∧ AllBare s'.gens) s₁ := by
  have rv := vals_ints hi
  have lv := hi.length
  have big : ns.length ≤ sizeLine := Nat.le_trans hl (by decide)
  generalize hH : hp0 K a vs ns = H
  have only : ∀ b u, H b = some u → b = a ∧ K.lookup a = none ∧ u = .frz { cls := .type "list", data := .seq vs.toArray } (.lst (ns.map V.int)) := fun b u e => hp0_some (by rw [hH]; exact e)
  have seen : ∀ {b o}, s₁.heap.get? b = some o → H b = none → (hidT s₁.heap H).get? b = some o := hidT_get
  have free : ∀ b, H b = none ∨ b = a ∧ K.lookup a = none := fun b => by
    cases e : H b with
    | none => exact .inl rfl
    | some u => exact .inr ⟨(only b u e).1, (only b u e).2.1⟩
  have ns2 : ∀ {b m}, s₁.heap.Ns b m → (hidT s₁.heap H).Ns b m := fun {b m} ⟨o, es, ep, e, d, q⟩ => ⟨o, es, ep, seen e ((free b).resolve_right fun z => by
    rw [z.1, ha] at e
    cases e
    cases d), d, q⟩
  have kin : K.In (hidT s₁.heap H) := fun b o e => seen (KX b o e) ((free b).resolve_right fun z => by
    rw [z.1, z.2] at e
    cases e)
  have hok : HOk P w H s₁.heap := fun b u e => by
    obtain ⟨rfl, _, rfl⟩ := only b u e
    exact ⟨ha, by rw [List.length_map]; exact big, vs, _, rv, ha⟩
  have md : Mod K mg (hidT s₁.heap H) := ⟨kin, ns2 hns, ⟨mb, ns2 hb, hbb⟩, hlim.imp fun _ z => ⟨ns2 z.1, z.2⟩⟩
  have e0 : Env0 P w K mg (hidT s₁.heap H) callerA [] s₁ H := ⟨rfl, md, fun _ _ e => of_hidT e, Nat.le_of_eq (hidT_size _ _), trivial, fun _ z => (absurd z (by simp [frs])), hok, .of_eq hgn⟩
  have on : Only H := fun b => by
    cases e : H b with
    | none => exact .inl rfl
    | some u => exact .inr ⟨_, _, by rw [(only b u e).2.2]⟩
  have sq : SqL K H a (ns.map V.int) := by
    cases e : K.lookup a with
    | none => exact .inl (.inr ⟨_, by rw [← hH]; exact if_pos ⟨rfl, e⟩⟩)
    | some o =>
      have q := KX a o e
      rw [ha] at q
      cases q
      exact .inr ⟨_, vs.toArray, _, e, rfl, rfl, rfl, by rw [List.size_toArray, lv]; exact big, by simpa using rv⟩
  refine codeAny_mono ((F _ kin (ns2 hns)).run callerA [] s₁ H ⟨[.ref a], []⟩ [.ref a] [.ref a] (fun v _ => v = .bl true) (fun _ _ _ => False) rfl hr e0 (bt s₁ _) (.cons rfl .nil) ⟨a, ns, rfl, sq, hl, on, fun _ => rfl⟩) fun r s' z => ?_
  cases r with
  | error e => exact z.elim
  | ok fl =>
    cases fl with
    | ret u =>
      obtain ⟨v, H', os, bare, un, hok', rv', q⟩ := z
      obtain rfl : v = V.bl true := q
      obtain rfl : u = Value.bool true := rv'
      refine ⟨rfl, OldK.of_keep fun b o e => ?_, os, bare⟩
      cases eb : H b with
      | none => exact un.keep b o e eb (fun z => absurd z (by simp [frs])) (by simp)
      | some u =>
        obtain ⟨rfl, _, rfl⟩ := only b u eb
        rw [ha] at e
        cases e
        exact (hok' b _ (un.frzs b _ _ eb)).1
    | next => exact z.elim
    | brk => exact z.elim
    | cont => exact z.elim
theorem walk_ofG {l : PySem.W.OpenLaw} {k : Nat} {q : Program} {loose : List Str} {XP : (Str → Option Value) → Heap → Prop} {YP : World → Heap → Prop} {d : DefRec} {x : Str} (hn : l.most = some 63) (hdf : d.params.defaults = []) (hr : Room k callerA)
    (F : ∀ (w : World) (mg : Str → Option Value) (fa : Addr) (h : Heap), YP w h → h.Ns mainGlobals mg → mg d.name = some (.ref fa) → ∃ (K : PySem.W.Frag) (fd : FuncData), K.In h ∧ (∀ (s : Shared) (u : Value), BindsTo s fd ⟨[u], []⟩ [(x, u)]) ∧ ∀ base : Heap, K.In base → base.Ns mainGlobals mg → FnG l.prog w K mg base CX0 k fa fd [x] (Iv.spEnd K)) :
    PySem.W.WalkO q loose XP YP l.row.toRowW d [] (fun f vs => PySem.call f vs) :=
  Att.attach_call hn hdf fun w _ _ mg _ fa _ _ _ _ _ _ _ G Y _ _ _ hmg hobj hi hlen hgn =>
    let ⟨_, _, KX, bt, hF⟩ := F w mg fa _ Y G.T.g hmg
    law_callG KX G.T.g G.T.b G.T.builtins G.T.nolimit hgn hobj hi hlen hr hF bt
end Wg
namespace Iv
open PySem PySem.Spec PyProof.Rows L2
section
variable {g : Gs} {W : L2.WX} {X : Cx} {F : CE} {m : Mp} {H : Hp} {S : Sto} {ρ : Env} {p pos : Pos} {e : Expr} {ie : E} {σ : L2.St} {d : Iv.D} {v : V}
theorem seqD_ref (rs : RS g m S H) (r : Rel g m S.length H d v) (h : isSeqD d = true) : ∃ a, v = .ref a := by
  cases d with
  | tup xs => rw [rel_tup] at r; obtain ⟨a, _, e, _⟩ := r; exact ⟨a, e⟩
  | lst xs => rw [rel_lst] at r; obtain ⟨a, _, e, _⟩ := r; exact ⟨a, e⟩
  | scr xs => rw [rel_scr] at r; obtain ⟨a, _, e, _⟩ := r; exact ⟨a, e⟩
  | ref i => rw [rel_ref] at r; obtain ⟨_, a, e, _⟩ := r; exact ⟨a, e⟩
  | _ => cases h
def strV : V → Option Str
  | .non => some "None"
  | .bl b => some (if b then "True" else "False")
  | .int i => if i.natAbs.log2 < 1920 then some (toString i) else none
  | .str z => some z
  | _ => none
theorem cr_strA : CallR X (.type "str") (fun xs H Q => ∃ x z, xs = [x] ∧ strV x = some z ∧ Q (.str z) H) := by
  intro pins s σ H xs us Q I r ⟨x, z, e, hz, q⟩
  subst e
  obtain ⟨u, rfl, ru⟩ := vals1 r
  cases x with
  | non =>
    cases ru
    cases hz
    exact PySem.P.str_of_none ⟨.str "None", H, I.tok _, ⟨_, rfl⟩, q⟩
  | bl b =>
    cases ru
    cases hz
    exact PySem.P.str_of_bool ⟨.str (if b then "True" else "False"), H, I.tok _, ⟨_, by cases b <;> rfl⟩, q⟩
  | int i =>
    obtain ⟨t, rfl⟩ := ru
    have hz' : (if i.natAbs.log2 < 1920 then some (toString i : Str) else none) = some z := hz
    by_cases h : i.natAbs.log2 < 1920
    · rw [if_pos h] at hz'
      cases hz'
      exact PySem.P.str_of_int h ⟨.str (toString i), H, I.tok _, ⟨_, rfl⟩, q⟩
    · rw [if_neg h] at hz'
      cases hz'
  | str y =>
    obtain ⟨t, rfl⟩ := ru
    cases hz
    exact PySem.P.str_of_str ⟨.str _, H, I, ⟨t, rfl⟩, q⟩
  | _ => cases hz
theorem strA_V {z : Str} (r : Rel g m S.length H d v) (h : strA d = some z) : strV v = some z := by
  cases d with
  | non => rw [rel_non] at r; subst r; exact h
  | bl b => rw [rel_bl] at r; subst r; exact h
  | int i => rw [rel_int] at r; subst r; exact h
  | str y => rw [rel_str] at r; obtain ⟨rfl, _⟩ := r; exact h
  | _ => cases h
theorem i_str {k : Nat} (hr : Room k X.A) (hg : X.A.guards = some []) (hm : X.mg "str" = none) (he : PA X [e] (tEs g W (evs F [ie]))) (oke : okE e = true := by rfl) (hgl : Gl X "str" := by rfl) (hK : X.K = g.K := by rfl) : PE X (.Call (.Name "str" p) [e] [] pos) (tE g W (ev F (.bi .str1 [ie]))) := by
  refine PE.imp (pe_callTy ((cr_strA (X := X)).or (Wg.cr_str hr hg)) hgl hm (by decide +kernel) he (by decide) (by decide) (starEach_ok oke) (by rfl)) fun σ H Q ⟨m, ρ, S, rs, er, w⟩ => ?_
  rw [ev] at w
  refine TI.step (Ra := Rels g) rs er w fun zs H1 m1 S1 ds x1 rs1 er1 r1 w => ?_
  replace w : WP g _ (Rel g) m1 S1.length H1 (biStr S1 ds) Q := w
  unfold biStr at w
  split at w
  · rename_i x
    obtain ⟨v, rfl, rv⟩ := r1.one
    split at w
    · rename_i z hz
      obtain ⟨⟨c5, c6⟩, w⟩ := w.ck
      exact .inl ⟨v, z, rfl, strA_V rv hz, w.now rs1 (by rw [rel_str]; exact ⟨rfl, c5, c6⟩)⟩
    · obtain ⟨⟨c1, c2, c3, c4, c5, c6⟩, w⟩ := w.ck
      obtain ⟨a, rfl⟩ := seqD_ref rs1 rv c1
      obtain ⟨p1, p2⟩ := deep_lay rs1 8 _ _ rv c2
      exact .inr ⟨a, _, rfl, by rw [hK]; exact p1, p2, c4, by rw [py_depth _ c2]; exact c3, c5, w.now rs1 (by rw [rel_str]; exact ⟨rfl, c5, c6⟩)⟩
  · exact w.err
end
section
variable {P : Program} {w : World} {K : PySem.W.Frag} {mg : Str → Option Value} {base : Heap} {g : Gs} {T : List Fn}
theorem fn_stepG {fa : Addr} {fd : FuncData} {N ps : List Str} {j k f : Nat} {x qual : Str} {st : Stmt} {dv0 : List V} {kws : List (Str × V)} {body : List Iv.St} (hT : T[f]? = some ⟨ps.length, N.length, body⟩)
    (F : FunD K x qual (defArgs st) (defBody st) (defScope st) dv0 kws fa fd) (S : FnScope N ps (defScope st))
    (hb : ∀ (cdv : Value) (A : Around) (outer : List PySem.Env) (s : Shared) (H : Hp) (E : XK), (A.deeper (envOfC qual (defScope st) s.heap.objs.size fa cdv)).guards = some [] → Room j (A.deeper (envOfC qual (defScope st) s.heap.objs.size fa cdv)) →
      PSs (cxOf (L2.CX P w) P w K mg base N qual (defScope st) fa cdv A outer s H E) (defBody st) (tS g (fun c d _ H => E c d H) (exs (callN T k) body))) :
    Wg.FnG P w K mg base (L2.CX P w) (j + 1) fa fd ps (spF g (callN T (k + 1)) f ps.length) := by
  refine Wg.fnG F S (fun _ _ _ _ h => h.1) fun cdv A outer s H vs Q E hg hr ⟨hl, m, S0, ds, rs, r, wp⟩ => ⟨_, hb cdv A outer s H E hg hr, ?_⟩
  unfold callN at wp
  rw [hT] at wp
  obtain ⟨_, wp⟩ := (show WP g E (Rel g) m S0.length H (ck (ds.length = ps.length) (run (callN T k) N.length body ds S0)) Q from wp).ck
  refine ⟨m, _, S0, rs, start_env (N := N) r, ?_⟩
  unfold run at wp
  cases hx : exs (callN T k) body (ds.map some ++ List.replicate (N.length - ds.length) none) S0 with
  | ok fl S' =>
    rw [hx] at wp
    cases fl with
    | next ρ => exact fun m' H' σ' x rs' er => wp m' H' .non x rs' (by rw [rel_non])
    | brk ρ => exact wp.elim
    | cont ρ => exact wp.elim
    | ret d => exact fun m' H' v x rs' rv => wp m' H' v x rs' rv
    | raised e ρ => exact fun m' H' σ' c d x rs' er xr => wp m' H' c d x rs' xr
  | exc e S' => rw [hx] at wp; exact wp.elim
  | err => rw [hx] at wp; exact wp.elim
theorem fn_endG {fa : Addr} {fd : FuncData} {x : Str} {j k f : Nat} (hK : g.K = K) (FO : Wg.FnG P w K mg base (L2.CX P w) j fa fd [x] (spF g (callN T k) f 1)) (h : ∀ ns : List Int, ns.length ≤ 63 → ∃ S, callN T k f [.scr (ns.map .int)] [] = .ok (.bl true) S) :
    Wg.FnG P w K mg base L2.CX0 j fa fd [x] (spEnd K) := by
  constructor
  intro A outer s H args us vs Q E hg hr e0 bt rv ⟨a, ns, e, sq, hl, on, q⟩
  subst e
  refine codeAny_mono (FO.run A outer s H args us [.ref a] Q (fun _ _ _ => False) hg hr e0 bt rv ⟨rfl, ⟨fun _ => none, fun _ => False⟩, [], [.scr (ns.map .int)], ⟨fun i a e => (by cases e), fun i c e => ?_, fun i j a e => (by cases e), fun a z => False.elim z⟩, Rels.cons ?_ Rels.nil, ?_⟩) fun r s' q' => ?_
  · unfold cellAt at e
    cases e
  · rw [rel_scr]
    refine ⟨a, ns.map .int, rfl, ?_, rels_ints ns⟩
    rw [← hK] at sq
    rcases sq with (e | ⟨o, e⟩) | z
    · rcases on a with e' | ⟨o, xs, e'⟩
      · rw [e] at e'; cases e'
      · rw [e] at e'; cases e'
    · exact .inl ⟨o, e, ⟨fun i z => (by cases z), fun z => z⟩⟩
    · exact .inr fun H' => .inr z
  · obtain ⟨S, hS⟩ := h ns hl
    rw [hS]
    intro m' H' b x rs' r
    rw [rel_bl] at r
    rw [r]
    exact q H'
  · cases r with
    | error e =>
      obtain ⟨_, _, _, _, _, _, _, _, _, _, _, _, z⟩ := q'
      exact z
    | ok fl =>
      cases fl with
      | ret u => exact q'
      | next => exact q'
      | brk => exact q'
      | cont => exact q'
end
end Iv

/-! ### dicts whose keys are ints and texts -/
namespace Iv
open PySem PySem.Spec PyProof.Rows L2
section
variable {g : Gs} {W : L2.WX} {X : Cx} {F : CE} {m m1 m2 : Mp} {n n1 n2 : Nat} {H H1 H2 : Hp} {S S' : Sto} {σ : L2.St} {ρ : Env} {pos : Pos} {k : Key} {d : Iv.D} {v : V} {ds : List (Key × Iv.D)} {ws : List (Key × V)}
theorem key_rel (e : keyD d = some k) (r : Rel g m n H d v) : v = kV k ∧ okKey k := by
  cases d with
  | int i => cases e; rw [rel_int] at r; exact ⟨r, trivial⟩
  | str x => cases e; rw [rel_str] at r; exact ⟨r.1, r.2⟩
  | _ => cases e
theorem key_back (ok : okKey k) : Rel g m n H (keyV k) (kV k) := by
  cases k with
  | inl i => show Rel g m n H (.int i) (.int i); rw [rel_int]
  | inr x => show Rel g m n H (.str x) (.str x); rw [rel_str]; exact ⟨rfl, ok⟩
theorem relKs_get : ∀ {ds : List (Key × Iv.D)} {ws : List (Key × V)}, RelKs g m n H ds ws → (∀ d, dGet ds k = some d → ∃ v, valV ws k = some v ∧ Rel g m n H d v) ∧ (dGet ds k = none → valV ws k = none)
  | [], ws, h => by
    have h : ws = [] := h
    subst h
    exact ⟨fun d e => (nomatch e), fun _ => rfl⟩
  | (k', d') :: r, ws, h => by
    obtain ⟨v', gr, rfl, ok, q, q2⟩ := h
    have ih := relKs_get q2
    by_cases e : k' = k
    · have e1 : dGet ((k', d') :: r) k = some d' := by unfold dGet; rw [List.find?_cons_of_pos (by simpa using e)]; rfl
      rw [e1, valV_pos (p := (k', v')) e]
      exact ⟨fun d ed => ⟨v', rfl, by cases ed; exact q⟩, fun z => (nomatch z)⟩
    · have e1 : dGet ((k', d') :: r) k = dGet r k := by unfold dGet; rw [List.find?_cons_of_neg (by simpa using e)]
      rw [e1, valV_neg (p := (k', v')) e]
      exact ih
theorem relKs_some (h : RelKs g m n H ds ws) : (dGet ds k).isSome = (valV ws k).isSome := by
  obtain ⟨a, b⟩ := relKs_get (k := k) h
  cases e : dGet ds k with
  | none => rw [b e]; rfl
  | some d => obtain ⟨v, hv, _⟩ := a d e; rw [hv]; rfl
theorem relKs_len : ∀ {ds : List (Key × Iv.D)} {ws : List (Key × V)}, RelKs g m n H ds ws → ds.length = ws.length ∧ ds.map (·.1) = ws.map (·.1)
  | [], ws, h => by
    have h : ws = [] := h
    subst h
    exact ⟨rfl, rfl⟩
  | (k', d') :: r, ws, h => by
    obtain ⟨v', gr, rfl, ok, q, q2⟩ := h
    obtain ⟨a, b⟩ := relKs_len q2
    exact ⟨by rw [List.length_cons, List.length_cons, a], by rw [List.map_cons, List.map_cons, b]⟩
theorem relKs_any : ∀ {ds : List (Key × Iv.D)} {ws : List (Key × V)}, RelKs g m n H ds ws → (ds.any fun kv => decide (kv.1 = k)) = (ws.any fun kv => decide (kv.1 = k))
  | [], ws, h => by
    have h : ws = [] := h
    subst h
    rfl
  | (k', d') :: r, ws, h => by
    obtain ⟨v', gr, rfl, ok, q, q2⟩ := h
    rw [List.any_cons, List.any_cons, relKs_any q2]
theorem relKs_app : ∀ {ds es : List (Key × Iv.D)} {ws vs : List (Key × V)}, RelKs g m n H ds ws → RelKs g m n H es vs → RelKs g m n H (ds ++ es) (ws ++ vs)
  | [], _, ws, _, h, q => by
    have h : ws = [] := h
    subst h
    exact q
  | (k', d') :: r, _, ws, _, h, q => by
    obtain ⟨v', gr, rfl, ok, q1, q2⟩ := h
    exact ⟨v', _, rfl, ok, q1, relKs_app q2 q⟩
theorem relKs_repl (rd : Rel g m n H d v) : ∀ {ds : List (Key × Iv.D)} {ws : List (Key × V)}, RelKs g m n H ds ws → RelKs g m n H (ds.map fun kv => if kv.1 = k then (kv.1, d) else kv) (ws.map fun kv => if kv.1 = k then (kv.1, v) else kv)
  | [], ws, h => by
    have h : ws = [] := h
    subst h
    rfl
  | (k', d') :: r, ws, h => by
    obtain ⟨v', gr, rfl, ok, q, q2⟩ := h
    have ih := relKs_repl rd q2
    rw [List.map_cons, List.map_cons]
    by_cases e : k' = k
    · rw [if_pos e, if_pos e]
      exact ⟨v, _, rfl, ok, rd, ih⟩
    · rw [if_neg e, if_neg e]
      exact ⟨v', _, rfl, ok, q, ih⟩
theorem relKs_put (ok : okKey k) (rd : Rel g m n H d v) (h : RelKs g m n H ds ws) : RelKs g m n H (dPut ds k d) (putK ws k v) := by
  unfold dPut putK
  rw [relKs_any h]
  split
  · exact relKs_repl rd h
  · exact relKs_app h ⟨v, [], rfl, ok, rd, rfl⟩
theorem relKs_drop : ∀ {ds : List (Key × Iv.D)} {ws : List (Key × V)}, RelKs g m n H ds ws → RelKs g m n H (dDrop ds k) (dropK ws k)
  | [], ws, h => by
    have h : ws = [] := h
    subst h
    rfl
  | (k', d') :: r, ws, h => by
    obtain ⟨v', gr, rfl, ok, q, q2⟩ := h
    have ih : RelKs g m n H (dDrop r k) (dropK gr k) := relKs_drop q2
    unfold dDrop dropK at ih ⊢
    rw [List.filter_cons, List.filter_cons]
    by_cases e : k' = k
    · rw [if_neg (by simpa using e), if_neg (by simpa using e)]
      exact ih
    · rw [if_pos (by simpa using e), if_pos (by simpa using e)]
      exact ⟨v', _, rfl, ok, q, ih⟩
theorem dct_at {p : Nat × List (Key × Iv.D)} (rs : RS g m S H) (r : Rel g m S.length H d v) (e : dctOf S d = some p) : d = .ref p.1 ∧ cellAt S p.1 = some (.dct p.2) ∧ ∃ a kws, v = .ref a ∧ m p.1 = some a ∧ H a = some (.dK kws) ∧ RelKs g m S.length H p.2 kws := by
  cases d with
  | ref i =>
    have e' : (match cellAt S i with | some (.dct kvs) => some (i, kvs) | _ => none) = some p := e
    split at e'
    · rename_i kvs hz
      cases e'
      obtain ⟨a, rfl, k, kws, hk, q⟩ := r.box rs hz
      exact ⟨rfl, hz, a, kws, rfl, k, hk, q⟩
    · cases e'
  | _ => cases e
theorem dct_is {p : Nat × List (Key × Iv.D)} (rs : RS g m S H) (r : Rel g m S.length H d v) (e : dctOf S d = some p) : ∃ a, v = .ref a ∧ IsD H a := by
  obtain ⟨_, _, a, kws, rfl, _, hk, _⟩ := dct_at rs r e
  exact ⟨a, rfl, .inl ⟨kws, .inl hk⟩⟩
theorem i_dnew : PE X (.Dict [] [] pos) (tE g W (ev F .dnew)) := by
  refine PE.imp pe_dnewK fun σ H Q ⟨m, ρ, S, rs, er, w⟩ => ?_
  rw [ev] at w
  intro p hp
  have ln : (S ++ [some (Cell.dct [])]).length = S.length + 1 := by rw [List.length_append, List.length_singleton]
  have hc : CellR g (mNew m S.length p) (S.length + 1) (upd H p (.dK [])) p (.dct []) := ⟨[], upd_same, rfl⟩
  refine w (mNew m S.length p) _ (.ref p) (by rw [ln]; exact Ext.new rs hp) (rs.new hp hc) ?_
  rw [rel_ref, ln]
  exact ⟨Nat.lt_succ_self _, p, rfl, fun b hb => by rw [mNew_same] at hb; cases hb; rfl⟩
theorem noSl_ok {i : Expr} (h : okE i = true) : NoSl i := by
  intro ov iv
  cases i <;> first | rfl | (exact absurd h Bool.false_ne_true)
theorem i_didx {o i : Expr} {io ii : E} {kk : Nat} (hr : Room kk X.A) (ok : okE i = true) (ho : PE X o (tE g W (ev F io))) (hi : PE X i (tE g W (ev F ii))) : PE X (.Subscript o i pos) (tE g W (ev F (.didx io ii))) := by
  refine PE.imp (pe_dget (by have := hr.un; omega) ho hi (noSl_ok ok)) fun σ H Q ⟨m, ρ, S, rs, er, w⟩ => ?_
  rw [ev] at w
  refine TI.step (Ra := Rel g) rs er w fun x H1 m1 S1 dx x1 rs1 er1 r1 w => ?_
  refine TI.step (Ra := Rel g) rs1 er1 w fun y H2 m2 S2 dy x2 rs2 er2 r2 w => ?_
  unfold didxR at w
  split at w
  · rename_i p k hp hk
    split at w
    · rename_i d' hd
      obtain ⟨_, _, a, kws, rfl, _, hka, q⟩ := dct_at rs2 (Rel.mono x2 _ _ r1) hp
      obtain ⟨rfl, _⟩ := key_rel hk r2
      obtain ⟨v', hv, rv⟩ := (relKs_get q).1 d' hd
      exact ⟨a, v', rfl, by rw [← hv]; exact DGet.k hka, w.now rs2 rv⟩
    · exact w.err
  · exact w.err
def dinOp : Bool → CmpOp
  | false => .In
  | true => .NotIn
theorem din_ok {o i : Expr} {io ii : E} {neg : Bool} {kk : Nat} (hr : Room kk X.A) (ho : PE X o (tE g W (ev F io))) (hi : PE X i (tE g W (ev F ii))) : PC X (dinOp neg) i o (fun σ H Q => TI g W (Rel g) (ev F (.din neg ii io)) σ H Q) := by
  have hu : X.A.units + 1 < cLine := by have := hr.un; omega
  have key : ∀ σ H (Q : VK), TI g W (Rel g) (ev F (.din neg ii io)) σ H Q → tE g W (ev F ii) σ H fun y H1 => tE g W (ev F io) σ H1 fun x H2 => ∃ a ov, x = .ref a ∧ DGet H2 a y ov ∧ Q (.bl (if neg then !ov.isSome else ov.isSome)) H2 := fun σ H Q ⟨m, ρ, S, rs, er, w⟩ => by
    rw [ev] at w
    refine TI.step (Ra := Rel g) rs er w fun y H1 m1 S1 dy x1 rs1 er1 r1 w => ?_
    refine TI.step (Ra := Rel g) rs1 er1 w fun x H2 m2 S2 dx x2 rs2 er2 r2 w => ?_
    unfold dinR at w
    split at w
    · rename_i p k hp hk
      obtain ⟨_, _, a, kws, rfl, _, hka, q⟩ := dct_at rs2 r2 hp
      obtain ⟨rfl, _⟩ := key_rel hk (Rel.mono x2 _ _ r1)
      rw [relKs_some q] at w
      exact ⟨a, _, rfl, DGet.k hka, w.now rs2 (by rw [rel_bl])⟩
    · exact w.err
  cases neg with
  | false => exact ⟨fun pins s σ H Q I q => (pc_din hu hi ho).run pins s σ H Q I (key σ H Q q)⟩
  | true => exact ⟨fun pins s σ H Q I q => (pc_dnotin hu hi ho).run pins s σ H Q I (key σ H Q q)⟩
theorem i_dget2 {o e f : Expr} {io ie jf : E} {apos cpos : Pos} {kk : Nat} (hr : Room kk X.A) (ho : PE X o (tE g W (ev F io))) (he : PE X e (tE g W (ev F ie))) (hf : PE X f (tE g W (ev F jf))) (M : M2 X o "get" apos e f cpos) : PE X (.Call (.Attribute o "get" apos) [e, f] [] cpos) (tE g W (ev F (.dget2 io ie jf))) := by
  refine PE.imp (pe_dget2 (by have := hr.un; omega) ho he hf M) fun σ H Q ⟨m, ρ, S, rs, er, w⟩ => ?_
  rw [ev] at w
  refine TI.step (Ra := Rel g) rs er w fun x H1 m1 S1 dx x1 rs1 er1 r1 w => ?_
  obtain ⟨c, w⟩ := w.ck
  obtain ⟨p0, hp0⟩ := Option.isSome_iff_exists.mp c
  obtain ⟨a, rfl, isd⟩ := dct_is rs1 r1 hp0
  refine ⟨a, rfl, isd, ?_⟩
  refine TI.step (Ra := Rel g) rs1 er1 w fun y H2 m2 S2 dy x2 rs2 er2 r2 w => ?_
  refine TI.step (Ra := Rel g) rs2 er2 w fun z H3 m3 S3 dz x3 rs3 er3 r3 w => ?_
  unfold dget2R at w
  split at w
  · rename_i p k hp hk
    obtain ⟨_, _, a', kws, ea, _, hka, q⟩ := dct_at rs3 (Rel.mono x3 _ _ (Rel.mono x2 _ _ r1)) hp
    cases ea
    obtain ⟨rfl, _⟩ := key_rel hk (Rel.mono x3 _ _ r2)
    refine ⟨_, DGet.k hka, w.now rs3 ?_⟩
    obtain ⟨q1, q2⟩ := relKs_get (k := k) q
    cases e : dGet p.2 k with
    | none => rw [q2 e]; exact r3
    | some d' =>
      obtain ⟨v', hv, rv⟩ := q1 d' e
      rw [hv]
      exact rv
  · exact w.err
theorem i_dpop {o e : Expr} {io ie : E} {apos cpos : Pos} (ho : PE X o (tE g W (ev F io))) (he : PE X e (tE g W (ev F ie))) (M : M1 X o "pop" apos e cpos) : PE X (.Call (.Attribute o "pop" apos) [e] [] cpos) (tE g W (ev F (.dpop io ie))) := by
  refine PE.imp (pe_dpop1 ho he M) fun σ H Q ⟨m, ρ, S, rs, er, w⟩ => ?_
  rw [ev] at w
  refine TI.step (Ra := Rel g) rs er w fun x H1 m1 S1 dx x1 rs1 er1 r1 w => ?_
  obtain ⟨c, w⟩ := w.ck
  obtain ⟨p0, hp0⟩ := Option.isSome_iff_exists.mp c
  obtain ⟨a, rfl, isd⟩ := dct_is rs1 r1 hp0
  refine ⟨a, rfl, isd, ?_⟩
  refine TI.step (Ra := Rel g) rs1 er1 w fun y H2 m2 S2 dy x2 rs2 er2 r2 w => ?_
  unfold dpopR at w
  split at w
  · rename_i p k hp hk
    split at w
    · rename_i d' hd
      obtain ⟨_, hz, a', kws, ea, hm, hka, q⟩ := dct_at rs2 (Rel.mono x2 _ _ r1) hp
      cases ea
      obtain ⟨rfl, _⟩ := key_rel hk r2
      obtain ⟨v', hv, rv⟩ := (relKs_get q).1 d' hd
      have xs' := Ext.set (n := S2.length) (o := .dK (dropK kws k)) rs2 hm
      have ln : (setAt S2 p.1 (.dct (dDrop p.2 k))).length = S2.length := by unfold setAt; rw [List.length_set]
      refine ⟨kws, k, v', hka, rfl, hv, w m2 _ _ (by rw [ln]; exact xs') (rs2.set hm ⟨_, upd_same, RelKs.monoW xs'.w (relKs_drop q)⟩) ?_⟩
      rw [ln]
      exact Rel.mono xs' _ _ rv
    · exact w.err
  · exact w.err
theorem set_dict {k : Nat} (hr : Room k X.A) : PSet X (fun x y v H Q => ∃ a H', x = .ref a ∧ DPut H a y v H' ∧ Q H') := by
  intro pins s σ H o i v ov iv u Q I ro ri rv h
  obtain ⟨a, H', rfl, dp, q⟩ := h
  cases ro
  exact d_setItem (by have := hr.un; omega) I dp ri rv fun s' I' => ⟨H', I', q⟩
theorem g_didx {vs : List Nat} {o i : Expr} {io ii : E} {kk : Nat} (hr : Room kk X.A) (ok : okE i = true) (ho : PE X o (tE g W (ev F io))) (hi : PE X i (tE g W (ev F ii))) : PG X (.Subscript o i pos) (TGv g vs (asg F (.didx io ii))) := by
  refine PG.imp (pg_sub ho hi (set_dict hr) (assign_sub_ok ok)) fun v σ H Q ⟨m, ρ, S, d, rs, er, r, w⟩ => ?_
  rw [asg] at w
  refine ⟨m, ρ, S, rs, er, ((WP.bind (Ra := Rel g) w).wish fun _ _ _ z => z.elim).imp fun x H1 ⟨m1, S1, dx, x1, rs1, r1, w1⟩ => ?_⟩
  refine ⟨m1, ρ, S1, rs1, er.mono x1, ((WP.bind (Ra := Rel g) w1).wish fun _ _ _ z => z.elim).imp fun y H2 ⟨m2, S2, dy, x2, rs2, r2, w2⟩ => ?_⟩
  unfold dputR at w2
  split at w2
  · rename_i p k hp hk
    unfold ck at w2
    split at w2
    · rename_i c
      simp only [R.bind_ok] at w2
      obtain ⟨_, hz, a, kws, rfl, hm, hka, q⟩ := dct_at rs2 (Rel.mono x2 _ _ r1) hp
      obtain ⟨rfl, okk⟩ := key_rel hk r2
      have xs' := Ext.set (n := S2.length) (o := .dK (putK kws k v)) rs2 hm
      have ln : (setAt S2 p.1 (.dct (dPut p.2 k d))).length = S2.length := by unfold setAt; rw [List.length_set]
      refine ⟨a, _, rfl, DPut.k hka (by rw [← (relKs_len q).1]; exact c), w2 m2 _ σ (by rw [ln]; exact xs') (rs2.set hm ⟨_, upd_same, RelKs.monoW xs'.w (relKs_put okk (Rel.mono (x1.trans x2) _ _ r) q)⟩) ?_⟩
      rw [ln]
      exact ⟨er.mono ((x1.trans x2).trans xs'), Kept.refl⟩
    · exact w2.elim
  · exact w2.elim
end
end Iv

/-! ### sorted(d), dict comprehensions -/
namespace Iv
open PySem PySem.Spec PyProof.Rows L2
section
variable {g : Gs} {W : L2.WX} {X : Cx} {F : CE} {m m1 m2 m' : Mp} {n n1 n2 : Nat} {H H1 H2 H' : Hp} {S S' : Sto} {σ : L2.St} {ρ : Env} {pos : Pos} {k : Key} {d : Iv.D} {v : V} {ds : List (Key × Iv.D)} {ws : List (Key × V)}
theorem srtI_eq {ns ys : List Int} (p : ys.Perm ns) (h : ys.Pairwise (· ≤ ·)) : ys = srtI ns := by
  have q : (srtI ns).Perm ns := List.mergeSort_perm ns _
  have w : (srtI ns).Pairwise (· ≤ ·) := (List.pairwise_mergeSort (le := fun a b : Int => decide (a ≤ b)) (fun a b c h1 h2 => by simp only [decide_eq_true_eq] at *; omega) (fun a b => by simp only [Bool.or_eq_true, decide_eq_true_eq]; omega) ns).imp fun {a b} h => by simpa using h
  exact List.Perm.eq_of_pairwise (le := (· ≤ ·)) (fun a b _ _ h1 h2 => by omega) h w (p.trans q.symm)
theorem intKs_keys : ∀ {ds : List (Key × Iv.D)} {ns : List Int}, intKs ds = some ns → ds.map (·.1) = ns.map Sum.inl
  | [], ns, h => by cases h; rfl
  | (.inl i, d) :: r, ns, h => by
    obtain ⟨ms, h1, rfl⟩ := Option.map_eq_some_iff.mp (show (intKs r).map (i :: ·) = some ns from h)
    rw [List.map_cons, List.map_cons, intKs_keys h1]
  | (.inr _, _) :: _, _, h => nomatch h
theorem strKs_keys : ∀ {ds : List (Key × Iv.D)} {ns : List Str}, strKs ds = some ns → ds.map (·.1) = ns.map Sum.inr
  | [], ns, h => by cases h; rfl
  | (.inr i, d) :: r, ns, h => by
    obtain ⟨ms, h1, rfl⟩ := Option.map_eq_some_iff.mp (show (strKs r).map (i :: ·) = some ns from h)
    rw [List.map_cons, List.map_cons, strKs_keys h1]
  | (.inl _, _) :: _, _, h => nomatch h
theorem relKs_ok : ∀ {ds : List (Key × Iv.D)} {ws : List (Key × V)}, RelKs g m n H ds ws → ∀ kv ∈ ds, okKey kv.1
  | [], _, _, _, hk => nomatch hk
  | (k', d') :: r, ws, h, kv, hk => by
    obtain ⟨v', gr, rfl, ok, q, q2⟩ := h
    rcases List.mem_cons.mp hk with rfl | hk
    · exact ok
    · exact relKs_ok q2 kv hk
theorem relsI : ∀ ns : List Int, Rels g m n H (ns.map .int) (ns.map V.int)
  | [] => Rels.nil
  | i :: r => Rels.cons (by rw [rel_int]) (relsI r)
theorem relsS : ∀ ns : List Str, (∀ z ∈ ns, okS z) → Rels g m n H (ns.map .str) (ns.map V.str)
  | [], _ => Rels.nil
  | i :: r, h => Rels.cons (by rw [rel_str]; exact ⟨rfl, h i (List.mem_cons_self ..)⟩) (relsS r fun z hz => h z (List.mem_cons_of_mem _ hz))
theorem str_le_total (a b : List Nat) : ¬ b < a ∨ ¬ a < b := by
  by_cases h : b < a
  · exact .inr fun q => List.lt_irrefl _ (List.lt_trans h q)
  · exact .inl h
theorem risingS_all : ∀ (l : List Str) (p : Str), risingS p l = true → (p :: l).Pairwise fun a b => ¬ b.cps.toList < a.cps.toList
  | [], p, _ => by simp
  | x :: r, p, h => by
    have h' : (!ltCps x.cps.toList p.cps.toList && risingS x r) = true := h
    rw [Bool.and_eq_true] at h'
    have ih := risingS_all r x h'.2
    have hx : ¬ x.cps.toList < p.cps.toList := by
      have := h'.1
      rw [PyProof.Rows.ltCps_eq] at this
      simpa using this
    refine List.pairwise_cons.mpr ⟨fun b hb => ?_, ih⟩
    rcases List.mem_cons.mp hb with rfl | hb
    · exact hx
    · have q := (List.pairwise_cons.mp ih).1 b hb
      exact fun z => q (Std.lt_of_lt_of_le z (Std.not_lt.mp hx))
theorem srtS_eq {ns ys : List Str} (p : ys.Perm ns) (h : sortedS ys = true) : ys = srtS ns := by
  have q : (srtS ns).Perm ns := List.mergeSort_perm ns _
  have w : (srtS ns).Pairwise (fun a b => ¬ b.cps.toList < a.cps.toList) := (List.pairwise_mergeSort (le := fun a b : Str => !decide (b.cps.toList < a.cps.toList)) (fun a b c h1 h2 => by
      simp only [Bool.not_eq_true', decide_eq_false_iff_not] at *
      exact fun z => h1 (Std.lt_of_le_of_lt (Std.not_lt.mp h2) z)) (fun a b => by
      simp only [Bool.or_eq_true, Bool.not_eq_true', decide_eq_false_iff_not]
      exact str_le_total _ _) ns).imp fun {a b} h => by simpa using h
  have w2 : ys.Pairwise (fun a b => ¬ b.cps.toList < a.cps.toList) := by
    cases ys with
    | nil => exact List.Pairwise.nil
    | cons x r => exact risingS_all r x h
  refine List.Perm.eq_of_pairwise (le := fun a b : Str => ¬ b.cps.toList < a.cps.toList) (fun a b _ _ h1 h2 => ?_) w2 w (p.trans q.symm)
  have e : a.cps.toList = b.cps.toList := Std.le_antisymm (Std.not_lt.mp h1) (Std.not_lt.mp h2)
  cases a; cases b
  rw [Str.mk.injEq]
  exact Array.ext' e
theorem i_dsort {box : Bool} {e : Expr} {ie : E} {p : Pos} (hg : Gl X "sorted") (hm : X.mg "sorted" = none) (oke : okE e = true) (he : PA X [e] (tEs g W (evs F [ie]))) (hc : X.calm = true := by rfl) :
    PE X (.Call (.Name "sorted" p) [e] [] pos) (tE g W (ev F (.dsort box ie))) := by
  refine PE.imp (pe_callB ((call_sortedDI hc).or (call_sortedD hc)) hg hm (by decide +kernel) he (by decide) (by decide) (starEach_ok oke)) fun σ H Q ⟨m, ρ, S, rs, er, w⟩ => ?_
  rw [ev] at w
  refine ⟨m, ρ, S, rs, er, ?_⟩
  rw [evs1]
  cases hh : ev F ie ρ S with
  | ok d S1 =>
    rw [hh] at w
    simp only [R.bind_ok] at w ⊢
    intro m1 H1 vs x rs1 r1
    obtain ⟨v, rfl, rv⟩ := Rels.one r1
    have w := w.from x
    unfold dsortR at w
    split at w
    · rename_i p' hp
      obtain ⟨_, _, a, kws, rfl, _, hka, q⟩ := dct_at rs1 rv hp
      have hk := (relKs_len q).2
      split at w
      · rename_i ns hn
        obtain ⟨c, w⟩ := w.ck
        refine .inl ⟨a, kws, ns, rfl, .inl hka, by rw [← hk]; exact intKs_keys hn, c, fun ys pp hp hs hn => ?_⟩
        rw [srtI_eq hp hs]
        exact mkL_ok (box := box) rs1 (relsI _) w hn
      · rename_i ns hn _
        obtain ⟨c, w⟩ := w.ck
        refine .inr ⟨a, kws, ns, rfl, .inl hka, by rw [← hk]; exact strKs_keys (by assumption), c, fun ys pp hp hs hn => ?_⟩
        rw [srtS_eq hp hs]
        refine mkL_ok (box := box) rs1 (relsS _ fun z hz => ?_) w hn
        have hz' : z ∈ ns := (List.mergeSort_perm ns _).mem_iff.mp hz
        have hz2 : Sum.inr z ∈ p'.2.map (·.1) := by
          rw [strKs_keys (ns := ns) (by assumption)]
          exact List.mem_map.mpr ⟨z, hz', rfl⟩
        obtain ⟨kv, hkv, e⟩ := List.mem_map.mp hz2
        have := relKs_ok q kv hkv
        rw [e] at this
        exact this
      · exact w.err
    · exact w.err
  | exc x S1 => rw [hh] at w; exact w
  | err => rw [hh] at w; exact w
end
end Iv

/-! ### set comprehensions of ints, of ints and texts: how many, sorted -/
namespace Ws
open PySem PySem.Spec PyProof.Rows L2
/-- the machine's empty set -/
abbrev bareSet (w : World) : Obj := { cls := .type "set", dict := none, data := .set #[] 0 (.fresh 0 0 (!w.params.followText "set-order")) }
def rAddG {κ : Type} [DecidableEq κ] (kv : κ → V) (SO : Addr → (κ → Bool) → Nat → HO) : V → List V → Hp → VK → Prop := fun x xs H Q => ∃ (a : Addr) (k : κ) (T : κ → Bool) (n : Nat), x = V.ref a ∧ xs = [kv k] ∧ H a = some (SO a T n) ∧ n + 1 < scanBound ∧
  Q .non (upd H a (SO a (fun j => T j || decide (j = k)) (if T k = true then n else n + 1)))
/-- what a kind of sets must have -/
structure SetLike (P : Program) (w : World) {κ : Type} [DecidableEq κ] (kv : κ → V) (SO : Addr → (κ → Bool) → Nat → HO) : Prop where
  fresh : ∀ (H : Hp) (h : Heap), ObjOk P w H (h.push (bareSet w)) h.objs.size (SO h.objs.size (fun _ => false) 0)
  add : ∀ Y : Cx, Y.prog = P → Y.w = w → MtR Y "set.add" (rAddG kv SO)
theorem like_ints (P : Program) (w : World) : SetLike P w V.int (SetO w) where
  fresh := fun H h => setO_new (setR_fresh w)
  add := fun Y hp hw => by subst hp hw; exact mt_sadd
theorem like_keys (P : Program) (w : World) : SetLike P w kV (SetK P w) where
  fresh := fun H h => setK_new ⟨_, #[], 0, _, Heap.get?_push_size _ rfl, ⟨rfl, rfl, rfl⟩, rfl, (fun e he => by simp at he), (fun k => by simp), (by decide), (by rfl), rfl⟩
  add := fun Y hp hw => by subst hp hw; exact mt_saddK
section
variable {X : Cx} {κ : Type} [DecidableEq κ] {kv : κ → V} {SO : Addr → (κ → Bool) → Nat → HO}
def tScG (kv : κ → V) (SO : Addr → (κ → Bool) → Nat → HO) (wi : TI) (g : TG) (tt : TT) (te : TE) (vs : List Nat) : TE := fun σ H Q => wi σ H fun J G1 => ∀ D, G1 D = none → ∃ W : Nat → Nat → Hp → Prop, (∃ μ, W 0 μ (upd G1 D (SO D (fun _ => false) 0))) ∧ ∀ i μ G, W i μ G →
  (J.stop i G ∧ Q (.ref D) G) ∨ (J.go i G ∧ ∃ Nx : Hp → Prop, (∀ G', Nx G' → ∃ μ', μ' < μ ∧ W (i + 1) μ' G') ∧ ∀ x G', J.yld i G x G' → g x (wipe σ vs) G' fun τ G2 => wipe τ vs = wipe σ vs ∧ tt τ G2 fun b G3 =>
    if b = true then te τ G3 fun y G4 => ∃ (k : κ) (T : κ → Bool) (c : Nat), y = kv k ∧ G4 D = some (SO D T c) ∧ c + 1 < scanBound ∧ Nx (upd G4 D (SO D (fun j => T j || decide (j = k)) (if T k = true then c else c + 1))) else Nx G3)
theorem pe_scG (sl : SetLike X.prog X.w kv SO) {elt tg iter : Expr} {ifs : List Expr} {scope : Scope} {own : List (PySem.Str × Nat)} {pos : Pos} {wi : TI} {g : TG} {tt : TT} {te : TE} (hc : X.calm = true) (hN : X.N.Nodup) (hi : PI X tg iter wi) (ok : BlkOk X.N X.env.scope scope own)
    (hg : ∀ (s : Shared) (H : Hp) (C : Addr) (cl : List (PySem.Str × Addr)) (fp : List Addr), PG (X.blk s H scope (compEnvC scope cl C X.env) fp) tg g) (ht : ∀ (s : Shared) (H : Hp) (C : Addr) (cl : List (PySem.Str × Addr)) (fp : List Addr), PTs (X.blk s H scope (compEnvC scope cl C X.env) fp) ifs tt)
    (he : ∀ (s : Shared) (H : Hp) (C : Addr) (cl : List (PySem.Str × Addr)) (fp : List Addr), PE (X.blk s H scope (compEnvC scope cl C X.env) fp) elt te) (hs : ∀ x, foldedSetIterable iter X.env x = pure x) :
    PE X (.SetComp elt [⟨tg, iter, ifs, 0⟩] scope pos) (tScG kv SO wi g tt te (own.map (·.2))) := by
  refine ⟨fun pins s0 σ H0 Q I0 rd => ?_⟩
  rw [PpSet.eval_SetComp]
  have free0 : ∀ z ∈ scope.names, z.2 = .free → ∃ c, X.env.cells.lookup z.1 = some c := fun z hz ez => (ok.free z hz ez).elim (fun q => I0.ok.has _ (.inl q)) fun q => I0.ok.has _ (.inr q)
  refine wpAny_comprehension_free (use := none) rfl hs (closure_ok free0) ok.kind (fun z hz ez => by rw [ok.uniq z hz, ez]) (thn (hi.run pins s0 σ H0 _ I0 rd) fun _ sA hA => thn hA fun _ sB hB => ?_)
  obtain ⟨ita, fp, tn, J, HB, rfl, IB, TB, stB, fB, rdB⟩ := hB
  refine PpSet.newSet_ok (newEnv_comp ?_)
  generalize eD : sB.heap.objs.size = D
  have newD : HB D = none := IB.hok.fresh (Nat.le_of_eq eD)
  obtain ⟨W, ⟨μ0, W0⟩, turns⟩ := rdB D newD
  generalize eC : ({ sB with heap := sB.heap.push (bareSet X.w) } : Shared) = sC
  have hpC : sC.heap = sB.heap.push (bareSet X.w) := by rw [← eC]
  have IC : Inv X pins σ (upd HB D (SO D (fun _ => false) 0)) sC := by
    rw [← eC]
    refine IB.laid (t' := sB.toks) (fun _ _ q => Heap.get?_push_of_some _ q) (Nat.le_of_eq eD) ?_
    rw [← eD]
    exact sl.fresh _ _
  have fC : ∀ c ∈ fp, FpOk X pins (upd HB D (SO D (fun _ => false) 0)) c ∧ c < sC.heap.objs.size := fun c hcm => by
    obtain ⟨oc, ec, _⟩ := TB.obj _ _ stB c hcm
    have lc := Heap.lt_size ec
    refine ⟨⟨by rw [upd_ne (by rw [← eD]; exact Nat.ne_of_lt lc)]; exact (fB c hcm).1, (fB c hcm).2⟩, ?_⟩
    rw [hpC, Heap.size_push]
    exact Nat.lt_succ_of_lt lc
  have stC : tn 0 sC.heap := TB.keep _ _ _ stB fun c _ oc q => by rw [hpC]; exact Heap.get?_push_of_some _ q
  have IE := block_start IC ok hN fC
  generalize eH : upd HB D (SO D (fun _ => false) 0) = HC at IC fC IE W0
  have rg := hg sC HC sC.heap.objs.size (cellsFrom (sC.heap.objs.size + 1) scope.names (cloFrom X.env.cells scope.names [])) fp
  have rt := ht sC HC sC.heap.objs.size (cellsFrom (sC.heap.objs.size + 1) scope.names (cloFrom X.env.cells scope.names [])) fp
  have re := he sC HC sC.heap.objs.size (cellsFrom (sC.heap.objs.size + 1) scope.names (cloFrom X.env.cells scope.names [])) fp
  show codeAny _ _ (.compStart (.SetComp elt [⟨tg, iter, ifs, 0⟩] scope pos) 0 (.ref ita) (.ref D) (compEnvC scope (cellsFrom (sC.heap.objs.size + 1) scope.names (cloFrom X.env.cells scope.names [])) sC.heap.objs.size X.env)) (compPost (model X.prog X.w) X.A X.xe none (EP X pins σ Q) (.ref D) sC.heap.objs.size) { sC with heap := pushCells (sC.heap.push { cls := .type "dict", data := .dict #[] }) scope.names }
  generalize eE : compEnvC scope (cellsFrom (sC.heap.objs.size + 1) scope.names (cloFrom X.env.cells scope.names [])) sC.heap.objs.size X.env = ce at IE rg rt re ⊢
  have locE : ce.locals = sC.heap.objs.size := by rw [← eE]; rfl
  generalize eS : ({ sC with heap := pushCells (sC.heap.push { cls := .type "dict", data := .dict #[] }) scope.names } : Shared) = sE at IE ⊢
  have stE : tn 0 sE.heap := TB.keep _ _ _ stC fun c _ oc q => by rw [← eS]; exact pushCells_keeps _ _ _ _ (Heap.get?_push_of_some _ q)
  have nilE : ∀ c ∈ fp, HC c = none := fun c hcm => (fC c hcm).1.1
  have keepF : ∀ {τ : L2.St} {G : Hp} {t : Shared}, Inv (X.blk sC HC scope ce fp) [] τ G t → (∀ c ∈ fp, G c = none) → ∀ c ∈ fp, FpOk (X.blk sC HC scope ce fp) [] G c := fun {τ G t} It nl c hcm =>
    ⟨nl c hcm, (It.ok.exf c hcm).1, It.ok.exfs c hcm, .inl hcm, fun x e q => (It.ok.exf c hcm).2 x e q, fun p hp => absurd (show p ∈ ([] : List (Addr × Obj)) ++ [] from hp) (by simp)⟩
  suffices loop : codeAny (model X.prog X.w) X.A (.compLoop (.SetComp elt [⟨tg, iter, ifs, 0⟩] scope pos) 0 (.ref ita) (.ref D) ce) (compPost (model X.prog X.w) X.A X.xe none (EP X pins σ Q) (.ref D) sC.heap.objs.size) sE from PpSet.codeAny_compStart_set loop (TB.self X.A 0 _ _ _ stE loop)
  refine PpSet.compLoopS_any (fun μ t => ∃ i G, Inv (X.blk sC HC scope ce fp) [] (wipe σ (own.map (·.2))) G t ∧ tn i t.heap ∧ (∀ c ∈ fp, G c = none) ∧ W i μ G) ?_ μ0 ⟨0, HC, IE, stE, nilE, W0⟩
  rintro μ sF ⟨i, GF, IF, stF, nilF, WF⟩
  rcases turns i μ GF WF with ⟨stp, fin⟩ | ⟨goes, Nx, down, step⟩
  · refine thnF (TB.done (X.blk sC HC scope ce fp) rfl rfl rfl hc i [] sF _ GF (fun _ _ => False) IF (keepF IF nilF) stF stp) fun r sG hG => ?_
    obtain ⟨rfl, IG⟩ := hG
    have back : Inv X pins σ GF sG := IC.call' (ch := fp) IG.os IG.base IG.hok IG.bare fun c hcm => ⟨(fC c hcm).1.2.2.2.1, (fC c hcm).1.2.1, (fC c hcm).1.2.2.2.2.1, (fC c hcm).1.2.2.2.2.2⟩
    have nilC : GF sC.heap.objs.size = none := by rw [← locE]; exact IG.free
    obtain ⟨mm, hns, _⟩ := IG.loc
    have hns : sG.heap.Ns ce.locals mm := hns
    rw [locE] at hns
    obtain ⟨f0, f1, f2, f3, f4, f5⟩ := IC.fpOk (Nat.le_refl _) nilC
    exact ⟨mm, hns, fun h'' sb => ⟨.ref D, GF, back.turned (t' := sG.toks) (fun c oc hcm q => (sb.2 c hcm).trans q) f0 f1 f3 f4 f5, rfl, fin⟩⟩
  · refine thnF (TB.item (X.blk sC HC scope ce fp) rfl rfl rfl hc i [] sF _ GF (fun _ _ => False) IF (keepF IF nilF) stF goes) fun r sG hG => ?_
    obtain ⟨u, rfl, hG⟩ := hG
    refine thnF hG fun _ sH ⟨x, GH, IH, rH, yH, stH, nilH⟩ => ?_
    refine thnF (rg.run _ sH _ GH x u _ (IH.pinned (keepF IH nilH) (TB.obj _ _ stH)) rH (step x GH yH)) fun _ sJ ⟨τ, GJ, IJ, wJ, qJ⟩ => ?_
    refine thnF (rt.run _ sJ τ GJ _ IJ qJ) fun b sK ⟨GK, IK, qK⟩ => ?_
    have close : ∀ {t : Shared} {G : Hp}, Inv (X.blk sC HC scope ce fp) ([] ++ pinsAt fp sH.heap) τ G t → Nx G → ∃ μ', μ' < μ ∧ ∃ i G, Inv (X.blk sC HC scope ce fp) [] (wipe σ (own.map (·.2))) G t ∧ tn i t.heap ∧ (∀ c ∈ fp, G c = none) ∧ W i μ' G := fun {t G} It nx => by
      obtain ⟨μ', lt, Wn⟩ := down G nx
      have pin1 : ∀ c ∈ fp, ∀ oc, sH.heap.get? c = some oc → t.heap.get? c = some oc ∧ G c = none := fun c hcm oc q =>
        have z := It.pin (c, oc) (List.mem_append_right _ (List.mem_append_right _ (mem_pinsAt hcm q)))
        ⟨z.1, z.2.1⟩
      refine ⟨μ', lt, i + 1, G, (It.unpinned (pins := [])).weak (by rw [← wJ, wipe_length]) (fun j v q => (wipe_some (by rw [← wJ] at q; exact q)).1), TB.keep _ _ _ stH fun c hcm oc q => (pin1 c hcm oc q).1, fun c hcm => ?_, Wn⟩
      obtain ⟨oc, q, _⟩ := TB.obj _ _ stH c hcm
      exact (pin1 c hcm oc q).2
    cases b with
    | false =>
      rw [if_neg Bool.false_ne_true] at qK ⊢
      exact close IK qK
    | true =>
      rw [if_pos rfl] at qK ⊢
      refine thnF (re.run _ sK τ GK _ IK qK) fun z sL ⟨yv, GL, IL, rL, k, T, c, ey, hD, room, nx⟩ => ?_
      subst ey
      refine thnF (sl.add (X.blk sC HC scope ce fp) rfl rfl _ sL τ GL (.ref D) [kv k] (.ref D) [z] (fun _ G => Nx G) IL rfl (.cons rL .nil) ⟨D, k, T, c, rfl, rfl, hD, room, nx⟩) fun _ sM ⟨_, GM, IM, _, qM⟩ => ?_
      exact close IM qM
end
end Ws

/-! ### comprehensions of dicts and sets, in the evaluator -/
namespace Iv
open PySem PySem.Spec PyProof.Rows L2
section
variable {g : Gs} {W : L2.WX} {X : Cx} {F : CE} {m m1 m' : Mp} {n : Nat} {H H1 H' : Hp} {S S1 S' : Sto} {σ : L2.St} {ρ : Env} {pos : Pos} {D : Addr} {own : List Nat} {t : Tg} {it : Iv.It} {iifs : List E} {ie ik : E}
theorem unhide (x : Ext m1 S1.length H1 m' S'.length H') (rs' : RS g m' S' H') : Ext m1 S1.length H1 ⟨m'.box, m1.hid⟩ S'.length H' ∧ RS g ⟨m'.box, m1.hid⟩ S' H' := by
  have xw : ExtW m' S'.length H' ⟨m'.box, m1.hid⟩ S'.length H' := ⟨Nat.le_refl _, fun _ _ _ e => e, fun a o e f => ⟨e, f.1, fun h => f.2 (x.hid a h).1⟩⟩
  exact ⟨⟨x.le, x.old, fun a o e f => let ⟨e', f'⟩ := x.keep a o e f; ⟨e', f'.1, f.2⟩, fun a h => ⟨h, (x.hid a h).2⟩⟩, rs'.turn xw rfl (fun _ _ _ => rfl) fun a h => rs'.hidS a (x.hid a h).1⟩
theorem dup_step {κ : Type} [DecidableEq κ] (ks : List κ) (k : κ) : (ks ++ [k]).eraseDups.length = if decide (k ∈ ks) = true then ks.eraseDups.length else ks.eraseDups.length + 1 := by
  rw [List.eraseDups_append, List.length_append]
  by_cases h : k ∈ ks
  · rw [if_pos (decide_eq_true h)]
    have e : [k].removeAll ks = [] := by simp [List.removeAll, h]
    rw [e]
    rfl
  · rw [if_neg (by simpa using h)]
    have e : [k].removeAll ks = [k] := by simp [List.removeAll, h]
    rw [e]
    rfl
theorem dups_le {κ : Type} [DecidableEq κ] : ∀ (n : Nat) (l : List κ), l.length ≤ n → l.eraseDups.length ≤ l.length
  | _, [], _ => by simp
  | 0, a :: l, h => by simp at h
  | n + 1, a :: l, h => by
    rw [List.eraseDups_cons, List.length_cons, List.length_cons]
    have h1 := List.length_filter_le (fun b => !b == a) l
    have h2 := dups_le n (l.filter fun b => !b == a) (by simp only [List.length_cons] at h; omega)
    omega
theorem dups_nd {κ : Type} [DecidableEq κ] : ∀ (n : Nat) (l : List κ), l.length ≤ n → l.eraseDups.Nodup
  | _, [], _ => by simp
  | 0, a :: l, h => by simp at h
  | n + 1, a :: l, h => by
    rw [List.eraseDups_cons]
    have h1 := List.length_filter_le (fun b => !b == a) l
    refine List.nodup_cons.mpr ⟨fun z => ?_, dups_nd n (l.filter fun b => !b == a) (by simp only [List.length_cons] at h; omega)⟩
    rw [List.mem_eraseDups] at z
    have := (List.mem_filter.mp z).2
    simp at this
theorem sc_body {κ : Type} [DecidableEq κ] {kv : κ → V} {SO : Addr → (κ → Bool) → Nat → HO} (kd : Iv.D → Option κ) (hkd : ∀ {m : Mp} {n : Nat} {H : Hp} {d : Iv.D} {k : κ} {v : V}, kd d = some k → Rel g m n H d v → v = kv k) (Kf : List Iv.D → Sto → R Iv.D)
    (hK : ∀ ys S, Kf ys S = .err ∨ ((∀ y ∈ ys, ∃ k, kd y = some k) ∧ ys.length < 1000)) {Q Q2 : VK} (rs : RS g m S H) (er : EnvR g m S.length H ρ σ)
    (w : WP g (fun c d H' => W c d σ H') (Rel g) m S.length H ((evIt F it ρ S).bind fun w S => (lcLoop w.1 (lcStep F own t iifs ie ρ) w.2 S).bind fun ys S => Kf ys S) Q)
    (fin : ∀ (m1 m' : Mp) (S1 S' : Sto) (H1 H' : Hp) (D : Addr) (ys : List Iv.D), RS g m' S' H' → WP g (fun c d H' => W c d σ H') (Rel g) m' S'.length H' (Kf ys S') Q → H' D = some (SO D (fun j => decide (j ∈ ys.filterMap kd)) (ys.filterMap kd).eraseDups.length) → Q2 (.ref D) H') :
    Ws.tScG kv SO (tI g W (evIt F it)) (TGv g own (asg F t)) (tT g noX (evIfs F iifs)) (tE g noX (ev F ie)) own σ H Q2 := by
  refine TI.step (Ra := ItR g) rs er w fun J H1 m1 S1 ⟨src, items⟩ x1 rs1 er1 it1 w => ?_
  intro D hD
  dsimp only at w
  rcases lcLoop_form (src := src) (step := lcStep F own t iifs ie ρ) (items := items) (S := S1) with ⟨ys, Sf, hL⟩ | hL
  · rw [hL] at w
    have w : WP g (fun c d H' => W c d σ H') (Rel g) m1 S1.length H1 (Kf ys Sf) Q := w
    rcases hK ys Sf with hE | ⟨hall, hy⟩
    · rw [hE] at w
      exact w.err
    have n1 : ¬ m1.hid D := (Off.free rs1 hD).2
    refine ⟨fun i μ H' => μ = items.length - i ∧ i ≤ items.length ∧ ∃ m' S' acc rest, Ext m1 S1.length H1 m' (List.length S') H' ∧ m'.hid D ∧ RS g m' S' H' ∧ H' D = some (SO D (fun j => decide (j ∈ acc.filterMap kd)) (acc.filterMap kd).eraseDups.length) ∧ lcLoop src (lcStep F own t iifs ie ρ) (items.drop i) S' = .ok rest Sf ∧ acc ++ rest = ys,
      ⟨_, rfl, Nat.zero_le _, mHide m1 D, S1, [], ys, Ext.hide rs1 hD, .inr rfl, rs1.hide hD, by rw [upd_same]; simp, by rw [List.drop_zero]; exact hL, rfl⟩, ?_⟩
    rintro i μ H' ⟨rfl, hi, m', S', acc, rest, x', hd', rs', e', hl, hs⟩
    cases hdr : items.drop i with
    | nil =>
      have e : i = items.length := by
        have := List.drop_eq_nil_iff.mp hdr
        omega
      rw [hdr] at hl
      obtain ⟨c, rfl, rfl⟩ := lcLoop_nil hl
      rw [List.append_nil] at hs
      subst hs
      obtain ⟨_, st⟩ := it1 m' _ H' x'.w rs' c
      obtain ⟨xu, rsu⟩ := unhide x' rs'
      exact .inl ⟨by rw [e]; exact st, fin m1 _ S1 _ H1 H' D acc rsu (w.from xu) e'⟩
    | cons d ds =>
      rw [hdr] at hl
      obtain ⟨c, xs, S2, r2, hstep, hl2, rfl⟩ := lcLoop_cons hl
      obtain ⟨hlt, hget, hds⟩ := drop_cons hdr
      obtain ⟨g1, g2⟩ := (it1 m' S' H' x'.w rs' c).1 i d hget
      refine .inr ⟨g1, _, fun H2 h2 => ⟨items.length - (i + 1), by omega, h2⟩, fun v H'' yv => ?_⟩
      obtain ⟨rs'', x'', rx⟩ := g2 v H'' yv
      have x3 := x'.trans x''
      refine ⟨m', wipeE ρ own, S', d, rs'', (er1.mono x3).wiped own, rx, ?_⟩
      obtain ⟨ρ1, Sa, ha, hstep⟩ := bind_ok hstep
      rw [ha]
      intro m4 H4 σ4 x4 rs4 ⟨er4, k4⟩
      refine ⟨k4.wiped, m4, ρ1, Sa, rs4, er4, ?_⟩
      obtain ⟨k, Sb, hk, hstep⟩ := bind_ok hstep
      rw [hk]
      intro m5 H5 b x5 rs5 rb
      cases rb
      have x5' := (x3.trans x4).trans x5
      have o5 := (x''.trans (x4.trans x5)).hid D hd'
      have e5 := o5.2.trans e'
      cases k with
      | false =>
        rw [if_neg Bool.false_ne_true] at hstep ⊢
        injection hstep with q1 q2
        subst q1 q2
        exact ⟨rfl, hlt, m5, Sb, acc, r2, x5', o5.1, rs5, e5, by rw [hds]; exact hl2, by rw [← hs]; rfl⟩
      | true =>
        rw [if_pos rfl] at hstep ⊢
        refine ⟨m5, ρ1, Sb, rs5, er4.mono x5, ?_⟩
        obtain ⟨y, Sc, hyv, hstep⟩ := bind_ok hstep
        injection hstep with q1 q2
        subst q1 q2
        rw [hyv]
        intro m6 H6 yv x6 rs6 r6
        have e6 := (x6.hid D o5.1).2.trans e5
        have hd6 : m6.hid D := (x6.hid D o5.1).1
        obtain ⟨kk, hkk⟩ := hall y (by rw [← hs]; simp)
        have fm : (acc ++ [y]).filterMap kd = acc.filterMap kd ++ [kk] := by rw [List.filterMap_append, List.filterMap_cons, hkk]; rfl
        have hlen : (acc.filterMap kd).eraseDups.length + 1 < scanBound := by
          have l1 : (acc ++ ([y] ++ r2)).length < 1000 := by rw [hs]; exact hy
          have l2 := List.length_filterMap_le kd acc
          have l3 : (acc.filterMap kd).eraseDups.length ≤ (acc.filterMap kd).length := dups_le _ _ (Nat.le_refl _)
          have l4 : 2000 ≤ scanBound := by decide
          simp only [List.length_append, List.length_cons, List.length_nil] at l1
          omega
        refine ⟨kk, _, _, hkd hkk r6, e6, hlen, rfl, hlt, m6, Sc, acc ++ [y], r2, (x5'.trans x6).own hD n1, hd6, rs6.own hd6, ?_, by rw [hds]; exact hl2, by rw [← hs, List.append_assoc]⟩
        rw [upd_same, fm, dup_step]
        congr 2
        funext j
        simp
  · rw [hL] at w
    exact w.err
/-! how many -/
theorem cr_lenSetK : CallR X (.builtin "len") (fun xs H Q => ∃ (a : Addr) (T : Key → Bool) (n : Nat), xs = [.ref a] ∧ H a = some (SetK X.prog X.w a T n) ∧ n < 2000 ∧ Q (.int n) H) := by
  intro pins s σ H xs us Q I r h
  obtain ⟨a, T, n, rfl, ha, hn, q⟩ := h
  rw [Vals.ref1 r]
  obtain ⟨o, es, ep, tt, ho, hx, hd, _, _, _, hf, hz⟩ := setK_get I ha
  refine call_len_set ho hx hd hf (by rw [hz]; omega) ?_
  rw [hz]
  exact ⟨.int n, H, I.tok _, ⟨_, rfl⟩, q⟩
theorem keysD_map : ∀ {ys : List Iv.D} {ks : List Key}, keysD ys = some ks → (∀ y ∈ ys, ∃ k, keyD y = some k) ∧ ys.filterMap keyD = ks
  | [], ks, h => by cases h; exact ⟨fun _ q => (nomatch q), rfl⟩
  | y :: ys, ks, h => by
    cases e : keyD y with
    | none => rw [keysD, e] at h; cases h
    | some k =>
      rw [keysD, e] at h
      obtain ⟨ks', h1, rfl⟩ := Option.map_eq_some_iff.mp h
      obtain ⟨a, b⟩ := keysD_map h1
      refine ⟨fun z hz => ?_, by rw [List.filterMap_cons, e, b]⟩
      rcases List.mem_cons.mp hz with rfl | hz
      · exact ⟨k, e⟩
      · exact a z hz
def intD : Iv.D → Option Int
  | .int i => some i
  | _ => none
theorem intsD_fm : ∀ {ys : List Iv.D} {ks : List Int}, intsD ys = some ks → (∀ y ∈ ys, ∃ k, intD y = some k) ∧ ys.filterMap intD = ks
  | [], ks, h => by cases h; exact ⟨fun _ q => (nomatch q), rfl⟩
  | .int i :: ys, ks, h => by
    obtain ⟨ks', h1, rfl⟩ := Option.map_eq_some_iff.mp (show (intsD ys).map (i :: ·) = some ks from h)
    obtain ⟨a, b⟩ := intsD_fm h1
    refine ⟨fun z hz => ?_, by rw [List.filterMap_cons, show intD (.int i) = some i from rfl, b]⟩
    rcases List.mem_cons.mp hz with rfl | hz
    · exact ⟨i, rfl⟩
    · exact a z hz
  | .non :: _, _, h => nomatch h
  | .bl _ :: _, _, h => nomatch h
  | .str _ :: _, _, h => nomatch h
  | .tup _ :: _, _, h => nomatch h
  | .lst _ :: _, _, h => nomatch h
  | .scr _ :: _, _, h => nomatch h
  | .ref _ :: _, _, h => nomatch h
  | .ins _ _ :: _, _, h => nomatch h
  | .ty _ :: _, _, h => nomatch h
theorem i_lenSC {elt tg iter : Expr} {ifs : List Expr} {scope : Scope} {own : List (PySem.Str × Nat)} {p q : Pos} (hgl : Gl X "len") (hm : X.mg "len" = none) (hc : X.calm = true) (hN : X.N.Nodup) (oki : okE iter = true) (hi : PI X tg iter (tI g W (evIt F it))) (ok : BlkOk X.N X.env.scope scope own)
    (hg : ∀ (s : Shared) (H : Hp) (C : Addr) (cl : List (PySem.Str × Addr)) (fp : List Addr), PG (X.blk s H scope (compEnvC scope cl C X.env) fp) tg (TGv g (own.map (·.2)) (asg F t)))
    (ht : ∀ (s : Shared) (H : Hp) (C : Addr) (cl : List (PySem.Str × Addr)) (fp : List Addr), PTs (X.blk s H scope (compEnvC scope cl C X.env) fp) ifs (tT g noX (evIfs F iifs)))
    (he : ∀ (s : Shared) (H : Hp) (C : Addr) (cl : List (PySem.Str × Addr)) (fp : List Addr), PE (X.blk s H scope (compEnvC scope cl C X.env) fp) elt (tE g noX (ev F ie))) :
    PE X (.Call (.Name "len" p) [.SetComp elt [⟨tg, iter, ifs, 0⟩] scope q] [] pos) (tE g W (ev F (.lenSC (own.map (·.2)) t it iifs ie))) := by
  refine PE.imp (pe_callB cr_lenSetK hgl hm (by decide +kernel) (pa_cons (Ws.pe_scG (Ws.like_keys X.prog X.w) hc hN hi ok hg ht he (folded_ok oki)) pa_nil (by rfl)) (by decide) (by decide) (by rfl) (by rfl)) fun σ H Q ⟨m, ρ, S, rs, er, w⟩ => ?_
  rw [ev] at w
  show Ws.tScG kV (SetK X.prog X.w) (tI g W (evIt F it)) (TGv g (own.map (·.2)) (asg F t)) (tT g noX (evIfs F iifs)) (tE g noX (ev F ie)) (own.map (·.2)) σ H (fun x H1 => ∃ (a : Addr) (T : Key → Bool) (n : Nat), [x] = [V.ref a] ∧ H1 a = some (SetK X.prog X.w a T n) ∧ n < 2000 ∧ Q (V.int n) H1)
  refine sc_body keyD (fun e r => (key_rel e r).1) lenSCR (fun ys S => ?_) rs er w fun m1 m' S1 S' H1 H' D ys rs' w' hD => ?_
  · unfold lenSCR
    split
    · rename_i ks hk
      unfold ck
      split
      · rename_i c
        exact .inr ⟨(keysD_map hk).1, c⟩
      · exact .inl rfl
    · exact .inl rfl
  · unfold lenSCR at w'
    split at w'
    · rename_i ks hk
      obtain ⟨c, w'⟩ := w'.ck
      have e := (keysD_map hk).2
      have l2 := List.length_filterMap_le keyD ys
      have l3 := dups_le _ (ys.filterMap keyD) (Nat.le_refl _)
      refine ⟨D, _, _, rfl, hD, by omega, ?_⟩
      rw [e]
      exact w'.now rs' (by rw [rel_int]; rfl)
    · exact w'.err
theorem srtI_lt {ks : List Int} {ns : List Int} (hs : ns.Pairwise (· < ·)) (hm : ∀ k, k ∈ ns ↔ k ∈ ks) : ns = srtI ks.eraseDups := by
  have nd : ns.Nodup := hs.imp fun {a b} h => by omega
  have nk : ks.eraseDups.Nodup := dups_nd _ _ (Nat.le_refl _)
  have p : ns.Perm ks.eraseDups := (List.perm_ext_iff_of_nodup nd nk).mpr fun k => by rw [hm, List.mem_eraseDups]
  exact srtI_eq p (hs.imp fun {a b} h => by omega)
theorem i_sortSC {elt tg iter : Expr} {ifs : List Expr} {scope : Scope} {own : List (PySem.Str × Nat)} {p q : Pos} (hgl : Gl X "sorted") (hm : X.mg "sorted" = none) (hc : X.calm = true) (hN : X.N.Nodup) (oki : okE iter = true) (hi : PI X tg iter (tI g W (evIt F it))) (ok : BlkOk X.N X.env.scope scope own)
    (hg : ∀ (s : Shared) (H : Hp) (C : Addr) (cl : List (PySem.Str × Addr)) (fp : List Addr), PG (X.blk s H scope (compEnvC scope cl C X.env) fp) tg (TGv g (own.map (·.2)) (asg F t)))
    (ht : ∀ (s : Shared) (H : Hp) (C : Addr) (cl : List (PySem.Str × Addr)) (fp : List Addr), PTs (X.blk s H scope (compEnvC scope cl C X.env) fp) ifs (tT g noX (evIfs F iifs)))
    (he : ∀ (s : Shared) (H : Hp) (C : Addr) (cl : List (PySem.Str × Addr)) (fp : List Addr), PE (X.blk s H scope (compEnvC scope cl C X.env) fp) elt (tE g noX (ev F ie))) :
    PE X (.Call (.Name "sorted" p) [.SetComp elt [⟨tg, iter, ifs, 0⟩] scope q] [] pos) (tE g W (ev F (.sortSC (own.map (·.2)) t it iifs ie))) := by
  refine PE.imp (pe_callB (cr_sortedSet hc) hgl hm (by decide +kernel) (pa_cons (Ws.pe_scG (Ws.like_ints X.prog X.w) hc hN hi ok hg ht he (folded_ok oki)) pa_nil (by rfl)) (by decide) (by decide) (by rfl) (by rfl)) fun σ H Q ⟨m, ρ, S, rs, er, w⟩ => ?_
  rw [ev] at w
  show Ws.tScG V.int (SetO X.w) (tI g W (evIt F it)) (TGv g (own.map (·.2)) (asg F t)) (tT g noX (evIfs F iifs)) (tE g noX (ev F ie)) (own.map (·.2)) σ H (fun x H1 => rSortedSet X.w [x] H1 Q)
  refine sc_body intD (fun {m n H d k v} e r => ?_) sortSCR (fun ys S => ?_) rs er w fun m1 m' S1 S' H1 H' D ys rs' w' hD => ?_
  · cases d <;> first | (cases e; rw [rel_int] at r; exact r) | cases e
  · unfold sortSCR
    split
    · rename_i ks hk
      unfold ck
      split
      · rename_i c
        exact .inr ⟨(intsD_fm hk).1, by omega⟩
      · exact .inl rfl
    · exact .inl rfl
  · unfold sortSCR at w'
    split at w'
    · rename_i ks hk
      obtain ⟨c, w'⟩ := w'.ck
      have e := (intsD_fm hk).2
      have l2 := List.length_filterMap_le intD ys
      have l3 := dups_le _ (ys.filterMap intD) (Nat.le_refl _)
      refine ⟨D, _, _, rfl, hD, by omega, fun ns p hs hmem _ hp => ?_⟩
      rw [srtI_lt (ks := ks) hs fun k => by rw [hmem, e]; simp]
      exact mkL_ok (box := false) rs' (relsI _) w' hp
    · exact w'.err
/-! {k: v for ..} -/
theorem pairsD_app : ∀ {a b : List Iv.D} {e : List (Key × Iv.D)}, pairsD (a ++ b) = some e → ∃ e1 e2, pairsD a = some e1 ∧ pairsD b = some e2 ∧ e = e1 ++ e2
  | [], b, e, h => ⟨[], e, rfl, h, rfl⟩
  | .tup [k, v] :: a, b, e, h => by
    have h' : (match keyD k with | some k => (pairsD (a ++ b)).map ((k, v) :: ·) | none => none) = some e := h
    cases hk : keyD k with
    | none => rw [hk] at h'; cases h'
    | some kk =>
      rw [hk] at h'
      obtain ⟨e', h1, rfl⟩ := Option.map_eq_some_iff.mp h'
      obtain ⟨e1, e2, p1, p2, rfl⟩ := pairsD_app h1
      refine ⟨(kk, v) :: e1, e2, ?_, p2, rfl⟩
      show (match keyD k with | some k => (pairsD a).map ((k, v) :: ·) | none => none) = _
      rw [hk, p1]
      rfl
  | .tup [] :: _, _, _, h => nomatch h
  | .tup [_] :: _, _, _, h => nomatch h
  | .tup (_ :: _ :: _ :: _) :: _, _, _, h => nomatch h
  | .non :: _, _, _, h => nomatch h
  | .bl _ :: _, _, _, h => nomatch h
  | .int _ :: _, _, _, h => nomatch h
  | .str _ :: _, _, _, h => nomatch h
  | .lst _ :: _, _, _, h => nomatch h
  | .scr _ :: _, _, _, h => nomatch h
  | .ref _ :: _, _, _, h => nomatch h
  | .ins _ _ :: _, _, _, h => nomatch h
  | .ty _ :: _, _, _, h => nomatch h
theorem pairsD_one {y z : Iv.D} {e : List (Key × Iv.D)} (h : pairsD [.tup [y, z]] = some e) : ∃ k, keyD y = some k ∧ e = [(k, z)] := by
  have h' : (match keyD y with | some k => (pairsD []).map ((k, z) :: ·) | none => none) = some e := h
  cases hk : keyD y with
  | none => rw [hk] at h'; cases h'
  | some kk => rw [hk] at h'; cases h'; exact ⟨kk, rfl, rfl⟩
theorem pairsD_len : ∀ {a : List Iv.D} {e : List (Key × Iv.D)}, pairsD a = some e → e.length = a.length
  | [], e, h => by cases h; rfl
  | x :: a, e, h => by
    obtain ⟨e1, e2, h1, h2, rfl⟩ := pairsD_app (a := [x]) (b := a) h
    have : e1.length = 1 := by
      cases x with
      | tup l =>
        match l, h1 with
        | [y, z], h1 => obtain ⟨_, _, rfl⟩ := pairsD_one h1; rfl
        | [], h1 => nomatch h1
        | [_], h1 => nomatch h1
        | _ :: _ :: _ :: _, h1 => nomatch h1
      | _ => nomatch h1
    rw [List.length_append, this, pairsD_len h2, List.length_cons]
    omega
theorem dPut_len {kvs : List (Key × Iv.D)} {k : Key} {v : Iv.D} : (dPut kvs k v).length ≤ kvs.length + 1 := by
  unfold dPut
  split
  · rw [List.length_map]; omega
  · rw [List.length_append]; exact Nat.le_refl _
theorem mergeD_snoc {es : List (Key × Iv.D)} {k : Key} {v : Iv.D} : mergeD (es ++ [(k, v)]) = dPut (mergeD es) k v := by unfold mergeD; rw [List.foldl_append]; rfl
theorem mergeD_le : ∀ (es acc : List (Key × Iv.D)), (es.foldl (fun acc kv => dPut acc kv.1 kv.2) acc).length ≤ acc.length + es.length
  | [], acc => Nat.le_refl _
  | kv :: es, acc => by
    rw [List.foldl_cons, List.length_cons]
    have h1 := mergeD_le es (dPut acc kv.1 kv.2)
    have h2 := dPut_len (kvs := acc) (k := kv.1) (v := kv.2)
    omega
/-- the hidden thing becomes a box -/
theorem box_end {c : Cell} {Q : VK} {W' : Value → Option Addr → Hp → Prop} (rs1 : RS g m1 S1 H1) (hD : H1 D = none) (x : Ext m1 S1.length H1 m' S'.length H') (hd : m'.hid D) (rs' : RS g m' S' H') (hc : CellR g m' S'.length H' D c)
    (w : WP g W' (Rel g) m1 S1.length H1 (.ok (.ref S'.length) (S' ++ [some c])) Q) : Q (.ref D) H' := by
  have n1 : ¬ m1.hid D := (Off.free rs1 hD).2
  have ln : (S' ++ [some c]).length = S'.length + 1 := by rw [List.length_append, List.length_singleton]
  have nb : ∀ i, m' i ≠ some D := (rs'.hidS D hd).2
  have xw : ExtW m' S'.length H' (mNew ⟨m'.box, m1.hid⟩ S'.length D) (S'.length + 1) H' := by
    refine ⟨Nat.le_succ _, fun i b l k => by rw [mNew_ne (Nat.ne_of_lt l)] at k; exact k, fun a o e f => ⟨e, fun i k => ?_, fun h => f.2 (x.hid a h).1⟩⟩
    by_cases hi : i = S'.length
    · rw [hi, mNew_same] at k
      cases k
      exact f.2 hd
    · rw [mNew_ne hi] at k
      exact f.1 i k
  refine w (mNew ⟨m'.box, m1.hid⟩ S'.length D) H' (.ref D) ?_ ?_ ?_
  · rw [ln]
    refine ⟨Nat.le_succ_of_le x.le, fun i b l k => ?_, fun a o k f => ?_, fun a h => ⟨h, (x.hid a h).2⟩⟩
    · rw [mNew_ne (Nat.ne_of_lt (Nat.lt_of_lt_of_le l x.le))] at k
      exact x.old i b l k
    · obtain ⟨k', f'⟩ := x.keep a o k f
      refine ⟨k', fun i q => ?_, f.2⟩
      by_cases hi : i = S'.length
      · rw [hi, mNew_same] at q
        cases q
        rw [hD] at k
        cases k
      · rw [mNew_ne hi] at q
        exact f'.1 i q
  · refine ⟨fun i b k => ?_, fun i c' k => ?_, fun i j b h1 h2 => ?_, fun b h => ?_⟩
    · rw [ln]
      by_cases hi : i = S'.length
      · subst hi
        rw [mNew_same] at k
        cases k
        exact ⟨_, cellAt_push, hc.monoW xw rfl⟩
      · rw [mNew_ne hi] at k
        obtain ⟨c', h, q⟩ := rs'.dom i b k
        exact ⟨c', by rw [cellAt_push_lt (rs'.lt k)]; exact h, q.monoW xw rfl⟩
    · by_cases hi : i = S'.length
      · exact ⟨D, by rw [hi, mNew_same]⟩
      · have hl := cellAt_lt k
        rw [ln] at hl
        rw [cellAt_push_lt (by omega)] at k
        rw [mNew_ne hi]
        exact rs'.all i c' k
    · by_cases hi : i = S'.length
      · by_cases hj : j = S'.length
        · rw [hi, hj]
        · rw [hi, mNew_same] at h1
          rw [mNew_ne hj] at h2
          cases h1
          exact absurd h2 (nb j)
      · by_cases hj : j = S'.length
        · rw [hj, mNew_same] at h2
          rw [mNew_ne hi] at h1
          cases h2
          exact absurd h1 (nb i)
        · rw [mNew_ne hi] at h1
          rw [mNew_ne hj] at h2
          exact rs'.inj i j b h1 h2
    · obtain ⟨q1, q2⟩ := rs'.hidS b (x.hid b h).1
      refine ⟨q1, fun i k => ?_⟩
      by_cases hi : i = S'.length
      · rw [hi, mNew_same] at k
        cases k
        exact n1 h
      · rw [mNew_ne hi] at k
        exact q2 i k
  · rw [rel_ref, ln]
    exact ⟨Nat.lt_succ_self _, D, rfl, fun b hb => by rw [mNew_same] at hb; cases hb; rfl⟩
noncomputable abbrev dcStep (F : CE) (own : List Nat) (t : Tg) (iifs : List E) (ik ie : E) (ρ : Env) : Iv.D → Sto → R (List Iv.D) := fun d S => (asg F t d (wipeE ρ own) S).bind fun ρ1 S => (evIfs F iifs ρ1 S).bind fun b S => if b = true then (ev F ik ρ1 S).bind fun y S => (ev F ie ρ1 S).bind fun z S => .ok [.tup [y, z]] S else .ok [] S
theorem dc_body {Q : VK} (rs : RS g m S H) (er : EnvR g m S.length H ρ σ) (w : WP g (fun c d H' => W c d σ H') (Rel g) m S.length H (ev F (.dcomp own t it iifs ik ie) ρ S) Q) :
    tDc (tI g W (evIt F it)) (TGv g own (asg F t)) (tT g noX (evIfs F iifs)) (tE g noX (ev F ik)) (tE g noX (ev F ie)) own σ H Q := by
  rw [ev] at w
  refine TI.step (Ra := ItR g) rs er w fun J H1 m1 S1 ⟨src, items⟩ x1 rs1 er1 it1 w => ?_
  intro D hD
  dsimp only at w
  rcases lcLoop_form (src := src) (step := dcStep F own t iifs ik ie ρ) (items := items) (S := S1) with ⟨ys, Sf, hL⟩ | hL
  · rw [hL] at w
    have w : WP g (fun c d H' => W c d σ H') (Rel g) m1 S1.length H1 (mkDct ys Sf) Q := w
    unfold mkDct at w
    split at w
    · rename_i es hes
      obtain ⟨hy, w3⟩ := w.ck
      have n1 : ¬ m1.hid D := (Off.free rs1 hD).2
      refine ⟨fun i μ H' => μ = items.length - i ∧ i ≤ items.length ∧ ∃ m' S' acc e1 kws rest, Ext m1 S1.length H1 m' (List.length S') H' ∧ m'.hid D ∧ RS g m' S' H' ∧ H' D = some (.dK kws) ∧ pairsD acc = some e1 ∧ RelKs g m' S'.length H' (mergeD e1) kws ∧ lcLoop src (dcStep F own t iifs ik ie ρ) (items.drop i) S' = .ok rest Sf ∧ acc ++ rest = ys,
        ⟨_, rfl, Nat.zero_le _, mHide m1 D, S1, [], [], [], ys, Ext.hide rs1 hD, .inr rfl, rs1.hide hD, upd_same, rfl, rfl, by rw [List.drop_zero]; exact hL, rfl⟩, ?_⟩
      rintro i μ H' ⟨rfl, hi, m', S', acc, e1, kws, rest, x', hd', rs', e', hp, ra, hl, hs⟩
      cases hdr : items.drop i with
      | nil =>
        have e : i = items.length := by
          have := List.drop_eq_nil_iff.mp hdr
          omega
        rw [hdr] at hl
        obtain ⟨c, rfl, rfl⟩ := lcLoop_nil hl
        rw [List.append_nil] at hs
        subst hs
        rw [hes] at hp
        cases hp
        obtain ⟨_, st⟩ := it1 m' _ H' x'.w rs' c
        exact .inl ⟨by rw [e]; exact st, box_end (c := .dct (mergeD es)) rs1 hD x' hd' rs' ⟨kws, e', ra⟩ w3⟩
      | cons d ds =>
        rw [hdr] at hl
        obtain ⟨c, xs, S2, r2, hstep, hl2, rfl⟩ := lcLoop_cons hl
        obtain ⟨hlt, hget, hds⟩ := drop_cons hdr
        obtain ⟨g1, g2⟩ := (it1 m' S' H' x'.w rs' c).1 i d hget
        refine .inr ⟨g1, _, fun H2 h2 => ⟨items.length - (i + 1), by omega, h2⟩, fun v H'' yv => ?_⟩
        obtain ⟨rs'', x'', rx⟩ := g2 v H'' yv
        have x3 := x'.trans x''
        refine ⟨m', wipeE ρ own, S', d, rs'', (er1.mono x3).wiped own, rx, ?_⟩
        obtain ⟨ρ1, Sa, ha, hstep⟩ := bind_ok hstep
        rw [ha]
        intro m4 H4 σ4 x4 rs4 ⟨er4, k4⟩
        refine ⟨k4.wiped, m4, ρ1, Sa, rs4, er4, ?_⟩
        obtain ⟨k, Sb, hk, hstep⟩ := bind_ok hstep
        rw [hk]
        intro m5 H5 b x5 rs5 rb
        cases rb
        have x5' := (x3.trans x4).trans x5
        have o5 := (x''.trans (x4.trans x5)).hid D hd'
        have e5 := o5.2.trans e'
        have ra5 := RelKs.monoW (x''.trans (x4.trans x5)).w ra
        cases k with
        | false =>
          rw [if_neg Bool.false_ne_true] at hstep ⊢
          injection hstep with q1 q2
          subst q1 q2
          exact ⟨rfl, hlt, m5, Sb, acc, e1, kws, r2, x5', o5.1, rs5, e5, hp, ra5, by rw [hds]; exact hl2, by rw [← hs]; rfl⟩
        | true =>
          rw [if_pos rfl] at hstep ⊢
          refine ⟨m5, ρ1, Sb, rs5, er4.mono x5, ?_⟩
          obtain ⟨y, Sc, hyv, hstep⟩ := bind_ok hstep
          rw [hyv]
          intro m6 H6 yv x6 rs6 r6
          refine ⟨m6, ρ1, Sc, rs6, (er4.mono x5).mono x6, ?_⟩
          obtain ⟨z, Sd, hzv, hstep⟩ := bind_ok hstep
          injection hstep with q1 q2
          subst q1 q2
          rw [hzv]
          intro m7 H7 zv x7 rs7 r7
          have o7 := (x6.trans x7).hid D o5.1
          have e7 := o7.2.trans e5
          obtain ⟨ea, eb, p1, p2, p3⟩ := pairsD_app (a := acc) (b := [Iv.D.tup [y, z]] ++ r2) (by rw [hs]; exact hes)
          obtain ⟨ec, ed, p4, p5, p6⟩ := pairsD_app (a := [Iv.D.tup [y, z]]) (b := r2) p2
          obtain ⟨kk, hkk, rfl⟩ := pairsD_one p4
          rw [hp] at p1
          cases p1
          obtain ⟨rfl, okk⟩ := key_rel hkk r6
          have hacc : pairsD (acc ++ [Iv.D.tup [y, z]]) = some (e1 ++ [(kk, z)]) := by
            have go : ∀ (a : List Iv.D) (e : List (Key × Iv.D)), pairsD a = some e → pairsD (a ++ [Iv.D.tup [y, z]]) = some (e ++ [(kk, z)]) := by
              intro a
              induction a with
              | nil => intro e h; cases h; exact p4
              | cons q a ih =>
                intro e h
                obtain ⟨f1, f2, h1, h2, rfl⟩ := pairsD_app (a := [q]) (b := a) h
                have i2 := ih f2 h2
                cases q with
                | tup l =>
                  match l, h1 with
                  | [u, v], h1 =>
                    obtain ⟨k0, hk0, rfl⟩ := pairsD_one h1
                    show (match keyD u with | some k => (pairsD (a ++ [Iv.D.tup [y, z]])).map ((k, v) :: ·) | none => none) = _
                    rw [hk0, i2]
                    rfl
                  | [], h1 => nomatch h1
                  | [_], h1 => nomatch h1
                  | _ :: _ :: _ :: _, h1 => nomatch h1
                | _ => nomatch h1
            exact go acc e1 hp
          have hlen : kws.length < sizeLine := by
            rw [← (relKs_len ra).1]
            have l1 : (mergeD e1).length ≤ 0 + e1.length := mergeD_le e1 []
            have l2 := pairsD_len hp
            have l3 : (acc ++ ([Iv.D.tup [y, z]] ++ r2)).length < sizeLine := by rw [hs]; exact hy
            simp only [List.length_append, List.length_cons, List.length_nil] at l3
            omega
          refine ⟨kws, kk, rfl, e7, hlen, rfl, hlt, m7, Sd, acc ++ [Iv.D.tup [y, z]], e1 ++ [(kk, z)], _, r2, ((x5'.trans x6).trans x7).own hD n1, o7.1, rs7.own o7.1, upd_same, hacc, ?_, by rw [hds]; exact hl2, by rw [← hs, List.append_assoc]⟩
          rw [mergeD_snoc]
          exact relKs_put okk (Rel.monoW (ExtW.own o7.1) _ _ r7) (RelKs.monoW ((x6.trans x7).w.trans (ExtW.own o7.1)) ra5)
    · exact w.err
  · rw [hL] at w
    exact w.err
theorem i_dcomp {kx vx tg iter : Expr} {ifs : List Expr} {scope : Scope} {own : List (PySem.Str × Nat)} (hc : X.calm = true) (hN : X.N.Nodup) (oki : okE iter = true) (hi : PI X tg iter (tI g W (evIt F it))) (ok : BlkOk X.N X.env.scope scope own)
    (hg : ∀ (s : Shared) (H : Hp) (C : Addr) (cl : List (PySem.Str × Addr)) (fp : List Addr), PG (X.blk s H scope (compEnvC scope cl C X.env) fp) tg (TGv g (own.map (·.2)) (asg F t)))
    (ht : ∀ (s : Shared) (H : Hp) (C : Addr) (cl : List (PySem.Str × Addr)) (fp : List Addr), PTs (X.blk s H scope (compEnvC scope cl C X.env) fp) ifs (tT g noX (evIfs F iifs)))
    (hk : ∀ (s : Shared) (H : Hp) (C : Addr) (cl : List (PySem.Str × Addr)) (fp : List Addr), PE (X.blk s H scope (compEnvC scope cl C X.env) fp) kx (tE g noX (ev F ik)))
    (he : ∀ (s : Shared) (H : Hp) (C : Addr) (cl : List (PySem.Str × Addr)) (fp : List Addr), PE (X.blk s H scope (compEnvC scope cl C X.env) fp) vx (tE g noX (ev F ie))) :
    PE X (.DictComp kx vx [⟨tg, iter, ifs, 0⟩] scope pos) (tE g W (ev F (.dcomp (own.map (·.2)) t it iifs ik ie))) :=
  PE.imp (pe_dc hc hN hi ok hg ht hk he (folded_ok oki)) fun σ H Q ⟨m, ρ, S, rs, er, w⟩ => dc_body rs er w
/-! k in d -/
theorem din_form {neg : Bool} {S' : Sto} {z : Iv.D} (h : ev F (.din neg ik ie) ρ S = .ok z S') : ∃ b, z = .bl b := by
  rw [ev] at h
  obtain ⟨y, Sa, _, h⟩ := bind_ok h
  obtain ⟨x, Sb, _, h⟩ := bind_ok h
  unfold dinR at h
  split at h
  · injection h with h1 _
    exact ⟨_, h1.symm⟩
  · cases h
theorem i_din {o i : Expr} {io ii : E} {neg : Bool} {kk : Nat} (hr : Room kk X.A) (ok : okE o = true) (hi : PE X i (tE g W (ev F ii))) (ho : PE X o (tE g W (ev F io))) : PE X (.Compare i [dinOp neg] [o] pos) (tE g W (ev F (.din neg ii io))) :=
  pe_cmp (din_ok hr ho hi) (mark_ok ok)
theorem t_din {o i : Expr} {io ii : E} {neg : Bool} {kk : Nat} (hr : Room kk X.A) (ok : okE o = true) (hi : PE X i (tE g W (ev F ii))) (ho : PE X o (tE g W (ev F io))) : PT X (.Compare i [dinOp neg] [o] pos) (tT g W (evT F (.din neg ii io))) := by
  refine PT.imp (pt_cmp (din_ok hr ho hi) (mark_ok ok)) fun σ H R ⟨m, ρ, S, rs, er, w⟩ => ?_
  refine ⟨m, ρ, S, rs, er, ?_⟩
  have w : WP g (fun c d H' => W c d σ H') RelB m S.length H ((ev F (.din neg ii io) ρ S).bind fun z S => tru z S) R := w
  cases hh : ev F (.din neg ii io) ρ S with
  | ok z S' =>
    obtain ⟨b, rfl⟩ := din_form hh
    rw [hh] at w
    intro m1 H1 x x1 rs1 r1
    rw [rel_bl] at r1
    exact ⟨b, r1, w m1 H1 b x1 rs1 rfl⟩
  | exc x S' => rw [hh] at w; exact w
  | err => rw [hh] at w; exact w
/-! l.count(x) -/
def rCountD (K : PySem.W.Frag) : V → List V → Hp → VK → Prop := fun x xs H Q => ∃ (l : Addr) (vs : List V) (y : V) (ds : List PyData) (d : PyData), x = .ref l ∧ xs = [y] ∧ SqL K H l vs ∧ DpAll K H vs ds ∧ Dp K H y d ∧ PyData.canLayAll0 ds = true ∧ d.canLay0 = true ∧
  d.depth ≤ 60 ∧ Q (.int (ds.countP (fun z => PyData.eqv z d) : Nat)) H
theorem mt_countD {k : Nat} (hr : Room k X.A) : MtR X "list.count" (rCountD X.K) := by
  intro pins s σ H x xs v us Q I rx rxs h
  obtain ⟨l, vs, y, ds, d, rfl, rfl, hq, hds, hd, c1, c2, dp, q⟩ := h
  cases rx
  obtain ⟨u, rfl, ru⟩ := rxs.one
  obtain ⟨its, r, pl, hz⟩ := I.list hq
  obtain ⟨as, ra⟩ := Dp.readsAll I ds vs its hds r
  obtain ⟨bs, rb⟩ := Dp.reads I d y u hd ru
  refine PySem.SeqAt.count_list_data (vs := its.toArray) pl.isList ra rb (PyData.plainAll_of_canLay0 ds c1) (PyData.plain_of_canLay0 d c2) (by have := hr.un; have := Nat.min_le_right (PyData.depthAll ds) d.depth; omega) ?_
  exact ⟨.int (ds.countP (fun z => PyData.eqv z d) : Nat), H, I.tok _, ⟨_, rfl⟩, q⟩
theorem countP_py {y : Iv.D} (hy : y.fz = true) : ∀ xs : List Iv.D, Iv.D.fzs xs = true → (Iv.D.pys xs).countP (fun z => PyData.eqv z y.py) = xs.countP fun z => z.eqv y
  | [], _ => by rw [Iv.D.pys]; rfl
  | x :: xs, h => by
    simp only [Iv.D.fzs, Bool.and_eq_true] at h
    rw [Iv.D.pys, List.countP_cons, List.countP_cons, py_eqv x y h.1 hy, countP_py hy xs h.2]
theorem mt_count' {k : Nat} (hr : Room k X.A) (hK : X.K = g.K) : MtR X "list.count" (rm g .count) := by
  refine MtR.imp (mt_countD hr) fun v xs H Q ⟨m, S, d, ds, W, rs, r, rx, w⟩ => ?_
  replace w : WP g W (Rel g) m S.length H (bmCount S d ds) Q := w
  unfold bmCount at w
  split at w
  · rename_i y
    split at w
    · rename_i ys hy
      obtain ⟨⟨c1, c2, c3, c4⟩, w⟩ := w.ck
      obtain ⟨u, rfl, ru⟩ := rx.one
      obtain ⟨a, vs, rfl, rv, q⟩ := lst_sq rs r hy
      obtain ⟨p1, p2⟩ := pys_lay ys vs c1 rv
      obtain ⟨p3, p4⟩ := py_lay y u c2 ru
      rw [hK]
      exact ⟨a, vs, u, Iv.D.pys ys, y.py, rfl, rfl, q, p2, p4, p1, p3, by rw [py_depth y c2]; exact c4, w.now rs (by rw [rel_int, countP_py c2 ys c1])⟩
    · exact w.err
  · exact w.err
theorem mok0 {name : Str} {ks : List Str} {n : Nat} : ∀ c f arr, ([] : List (Nat × Nat × List Ar)).lookup c = some (f, arr) → MOk g X F name c f n ks arr := fun _ _ _ h => nomatch h
theorem mokc {name : Str} {ks : List Str} {n c f : Nat} {arr : List Ar} {ms : List (Nat × Nat × List Ar)} (h : MOk g X F name c f n ks arr) (t : ∀ c' f' arr', ms.lookup c' = some (f', arr') → MOk g X F name c' f' n ks arr') : ∀ c' f' arr', ((c, f, arr) :: ms).lookup c' = some (f', arr') → MOk g X F name c' f' n ks arr' := by
  intro c' f' arr' e
  rw [List.lookup_cons] at e
  by_cases hc : c' = c
  · subst hc
    rw [show (c' == c') = true from beq_self_eq_true c'] at e
    cases e
    exact h
  · rw [show (c' == c) = false from beq_eq_false_iff_ne.mpr hc] at e
    exact t c' f' arr' e
/-! a module's tuple -/
theorem c_gU {x : Str} {a : Addr} {ds : List Iv.D} {vs : List V} (h : X.mg x = some (.ref a)) (hq : ∀ H, SqT g.K H a vs) (r : ∀ m n H, Rels g m n H ds vs) (hg : Gl X x := by rfl) (hd : (x == ("__debug__" : Str)) = false := by decide) : PE X (.Name x pos) (tE g W (ev F (.con (.tup ds)))) :=
  i_con (v := .ref a) (pe_glob hg h rfl hd) fun _ _ _ => by
    rw [rel_tup]
    exact ⟨a, vs, rfl, .inr hq, r _ _ _⟩
theorem relsC_i {i : Int} {ds : List Iv.D} {vs : List V} (h : ∀ m n H, Rels g m n H ds vs) : ∀ m n H, Rels g m n H (.int i :: ds) (.int i :: vs) := fun _ _ _ => Rels.cons (by rw [rel_int]) (h _ _ _)
theorem relsC_s {z : Str} {ds : List Iv.D} {vs : List V} (ok : okS z) (h : ∀ m n H, Rels g m n H ds vs) : ∀ m n H, Rels g m n H (.str z :: ds) (.str z :: vs) := fun _ _ _ => Rels.cons (by rw [rel_str]; exact ⟨rfl, ok⟩) (h _ _ _)
theorem relsC_n : ∀ m n H, Rels g m n H [] [] := fun _ _ _ => Rels.nil
end
end Iv

/-! ### sets of ints and texts with their walk: set(x) of a list or a tuple, len, sorted -/
namespace Wm
open PySem PySem.Spec PyProof.Rows L2
def kv (v : Value) : Key := match v with
  | .int k _ => .inl k
  | .str x _ => .inr x
  | _ => .inl 0
def inL {κ : Type} [DecidableEq κ] (ks : List κ) (j : κ) : Bool := decide (j ∈ ks)
theorem inL_iff {κ : Type} [DecidableEq κ] {ks : List κ} {j : κ} : inL ks j = true ↔ j ∈ ks := decide_eq_true_iff
theorem inL_snoc {κ : Type} [DecidableEq κ] {ks : List κ} {j k : κ} : inL (ks ++ [k]) j = (inL ks j || decide (j = k)) := by
  unfold inL
  simp
theorem many_le {κ : Type} [DecidableEq κ] (ks : List κ) : Iv.manyK ks ≤ ks.length := Iv.dups_le _ _ (Nat.le_refl _)
theorem many_snoc {κ : Type} [DecidableEq κ] {ks : List κ} {k : κ} : Iv.manyK (ks ++ [k]) = if inL ks k = true then Iv.manyK ks else Iv.manyK ks + 1 := Iv.dup_step ks k
theorem kv_of {k : Key} {v : Value} (h : keyIs k v = true) : kv v = k := by
  rcases keyIs_shape h with ⟨i, t, rfl, rfl⟩ | ⟨x, t, rfl, rfl⟩ <;> rfl
theorem scan_of {k : Key} {v : Value} (h : keyIs k v = true) : v.scannable = true := by
  rcases keyIs_shape h with ⟨i, t, rfl, rfl⟩ | ⟨x, t, rfl, rfl⟩ <;> rfl
/-- an entry of such a set -/
def Fine (w : World) (e : Int × Value) : Prop := keyIs (kv e.2) e.2 = true ∧ e.1 = keyH w (kv e.2)
theorem fine_of {w : World} {k : Key} {v : Value} (h : keyIs k v = true) : Fine w (keyH w k, v) := by
  have e := kv_of h
  exact ⟨by rw [e]; exact h, by rw [e]⟩
abbrev keys (es : Array (Int × Value)) : List Key := es.toList.map fun e => kv e.2
structure Laid (w : World) (es : Array (Int × Value)) (t : SetTable) (T : Key → Bool) (n : Nat) : Prop where
  fine : ∀ e ∈ es.toList, Fine w e
  once : (keys es).Nodup
  mem : ∀ k, T k = true ↔ k ∈ keys es
  few : es.size < scanBound
  fits : t.fits es.size = true
  many : es.size = n
  ris : Ris t.place.toList
  led : w.params.followText "set-order" = true ∨ t.led = true
def SetW (P : Program) (w : World) (h : Heap) (a : Addr) (T : Key → Bool) (n : Nat) : Prop := ∃ o es ep t, h.get? a = some o ∧ o.ExactSet ∧ o.data = .set es ep t ∧ Laid w es t T n
section
variable {P : Program} {w : World} {h h' : Heap} {a : Addr} {T : Key → Bool} {n : Nat} {es : Array (Int × Value)} {t : SetTable}
theorem SetW.at (R : SetW P w h a T n) (k : ∀ o, h.get? a = some o → h'.get? a = some o) : SetW P w h' a T n := let ⟨o, es, ep, t, ho, r⟩ := R; ⟨o, es, ep, t, k o ho, r⟩
theorem SetW.congr {T' : Key → Bool} (R : SetW P w h a T n) (e : ∀ k, T' k = T k) : SetW P w h a T' n := by
  rw [show T' = T from funext e]
  exact R
theorem Laid.elems (L : Laid w es t T n) : ElemsOf (mixKind P w) es.toList := fun e he => ⟨⟨kv e.2, (L.fine e he).1, (L.fine e he).2⟩, scan_of (L.fine e he).1⟩
theorem Laid.has (L : Laid w es t T n) (k : Key) : k ∈ keys es ↔ ∃ e ∈ es.toList, (mixKind P w).is k e.2 = true := by
  rw [List.mem_map]
  exact ⟨fun ⟨e, he, q⟩ => ⟨e, he, by rw [← q]; exact (L.fine e he).1⟩, fun ⟨e, he, q⟩ => ⟨e, he, kv_of q⟩⟩
theorem SetW.setOf (R : SetW P w h a T n) : h.SetOf (mixKind P w) a T n := by
  obtain ⟨o, es, ep, t, ho, hx, hd, L⟩ := R
  exact ⟨o, es, ep, t, ho, hx, hd, L.elems, fun k => (L.mem k).trans (L.has k), L.few, L.fits, L.many⟩
theorem SetW.fresh (ho : h.get? a = some (Ws.bareSet w)) : SetW P w h a (fun _ => false) 0 := by
  refine ⟨_, #[], 0, _, ho, ⟨rfl, rfl, rfl⟩, rfl, ?_⟩
  refine Laid.mk (fun e he => ?_) List.nodup_nil (fun k => ?_) (by decide) (by rfl) rfl List.Pairwise.nil ?_
  · cases he
  · exact ⟨fun z => (by cases z), fun z => (by cases z)⟩
  show _ ∨ (!w.params.followText "set-order") = true
  cases w.params.followText "set-order"
  · exact .inr rfl
  · exact .inl rfl
end
section
variable {P : Program} {w : World} {A : Around} {E : Value → Shared → Prop} {s : Shared} {a : Addr} {T : Key → Bool} {n : Nat}
theorem put_end {gw : Bool → Sem Unit} (free : ∀ (b : Bool) (s1 : Shared) (Z : Unit → Shared → Prop), Z () s1 → wpAny (model P w) A (gw b) Z E s1) {o : Obj} {es es1 : Array (Int × Value)} {ep : Nat} {t t2 : SetTable} (ho : s.heap.get? a = some o) (hex : o.ExactSet) (hd : o.data = .set es ep t) {T' : Key → Bool}
    (L : Laid w es1 t2 T' es1.size) {dummy : Bool} {R : Option Bool → Shared → Prop} (fin : ∀ h', Heap.SameBut a s.heap h' → SetW P w h' a T' es1.size → R (some true) { s with heap := h' }) :
    wpAny (model P w) A (do
        storeSet a es1 t2
        if (!dummy && t2.tooFull) = true then do
            gw (relayAll t2 es1 (SetTable.grown es1.size)).2.2
            storeSet a (relayAll t2 es1 (SetTable.grown es1.size)).1 (relayAll t2 es1 (SetTable.grown es1.size)).2.1
            pure (some true)
          else pure (some true)) R E s := by
  refine wpAny_bind (wpAny_storeSet_of ho hd ?_ (fits_of_scanBound L.few))
  have at1 := store_at (es' := es1) (t' := t2) ho hd
  have sb1 := Heap.SameBut.update s.heap a (Obj.putSet es1 t2)
  split
  · have z1 := relayAll_perm t2 es1 (SetTable.grown es1.size)
    have z2 := relayAll_fits t2 es1 (SetTable.grown es1.size)
    have z3 := relayAll_ris t2 es1 (SetTable.grown es1.size)
    have z4 := relayAll_led t2 es1 (SetTable.grown es1.size)
    generalize relayAll t2 es1 (SetTable.grown es1.size) = Z at z1 z2 z3 z4 ⊢
    obtain ⟨es2, t3, gave⟩ := Z
    dsimp only at z1 z2 z3 z4 ⊢
    have sz : es2.size = es1.size := by rw [← Array.length_toList, z1.length_eq, Array.length_toList]
    have few2 : es2.size < scanBound := by rw [sz]; exact L.few
    have kp : (keys es2).Perm (keys es1) := z1.map _
    refine wpAny_bind (free _ _ _ ?_)
    refine wpAny_bind (wpAny_storeSet_of at1 rfl ?_ (fits_of_scanBound few2))
    have at2 := store_at (es' := es2) (t' := t3) at1 rfl
    refine wpAny_pure (fin _ (sb1.trans (Heap.SameBut.update _ a _)) ⟨_, es2, _, t3, at2, hex, rfl, ?_⟩)
    exact ⟨fun e he => L.fine e (z1.mem_iff.mp he), kp.nodup_iff.mpr L.once, fun k => (L.mem k).trans kp.mem_iff.symm, few2, z2, sz, z3, L.led.imp id fun z => by rw [z4]; exact z⟩
  · exact wpAny_pure (fin _ sb1 ⟨_, es1, _, t2, at1, hex, rfl, L⟩)
theorem put_hashed {k : Key} {v : Value} {Q : Bool → Shared → Prop} (hk : keyIs k v = true) (R : SetW P w s.heap a T n) (room : n + 1 < scanBound)
    (fin : ∀ h', Heap.SameBut a s.heap h' → SetW P w h' a (fun j => T j || decide (j = k)) (if T k = true then n else n + 1) → Q (!T k) { s with heap := h' }) :
    wpAny (model P w) A (setAddHashed a v ((mixKind P w).hash k)) Q E s := by
  obtain ⟨o, es, ep, t, ho, hex, hd, L⟩ := R
  have hsc := scan_of hk
  have hkey : (mixKind P w).is k v = true := hk
  have hel : ElemsOf (mixKind P w) es.toList := L.elems
  have hdef : (mixKind P w).hash k = keyH w k := rfl
  unfold setAddHashed setAddHashedIn
  refine wpAny_holding (wpAny_bind (wpAny_setState_of ho hd L.fits ?_))
  dsimp only
  rw [byScan_of hsc L.few hel]
  simp only [↓reduceIte]
  unfold setAddByScan
  refine wpAny_bind ?_
  refine wpAny_bind (wpAny_rule ?_)
  refine wpAny_bind (wpAny_setScan_of hkey ho hd L.fits hel ?_)
  cases hfi : List.findIdx? (fun e => (mixKind P w).is k e.2) es.toList with
  | some j =>
    dsimp only
    obtain ⟨hj, pj, _⟩ := List.findIdx?_eq_some_iff_getElem.mp hfi
    have old : T k = true := (L.mem k).2 ((L.has (P := P) k).2 ⟨es.toList[j], List.getElem_mem hj, pj⟩)
    refine wpAny_pure (wpAny_pure ?_)
    have q := fin s.heap (Heap.SameBut.refl a s.heap) ⟨o, es, ep, t, ho, hex, hd, L.fine, L.once, fun i => by
      rw [Bool.or_eq_true, decide_eq_true_eq, ← L.mem i]
      exact ⟨fun z => z.elim id (fun e => e ▸ old), .inl⟩, L.few, L.fits, by rw [if_pos old]; exact L.many, L.ris, L.led⟩
    rw [old] at q
    exact q
  | none =>
    dsimp only
    have out : k ∉ keys es := fun z => by
      obtain ⟨e, he, q⟩ := (L.has (P := P) k).1 z
      have c := List.findIdx?_eq_none_iff.mp hfi e he
      rw [q] at c
      cases c
    have new : T k = false := by
      cases q : T k with
      | false => rfl
      | true => exact absurd ((L.mem k).1 q) out
    have gw : ∀ (b : Bool) {s1 : Shared} {Z : Unit → Shared → Prop}, Z () s1 → wpAny (model P w) A (match b with | true => rule "set.scan.the-table-gave-way" | false => pure ()) Z E s1 :=
      fun b s1 Z q => by cases b <;> first | exact wpAny_pure q | exact wpAny_rule q
    have z1 := layNew_perm t es ((mixKind P w).hash k) v
    have z2 := layNew_fits t es ((mixKind P w).hash k) v
    have z3 := layNew_ris t es ((mixKind P w).hash k) v L.ris
    have z4 := layNew_led t es ((mixKind P w).hash k) v
    generalize layNew t es ((mixKind P w).hash k) v = Z at z1 z2 z3 z4 ⊢
    obtain ⟨es1, t1, dummy, gave⟩ := Z
    dsimp only at z1 z2 z3 z4 ⊢
    rw [Array.toList_push] at z1
    have pc : es1.toList.Perm (((mixKind P w).hash k, v) :: es.toList) := z1.trans (List.perm_append_singleton _ _)
    have kp : (keys es1).Perm (k :: keys es) := by
      have := pc.map fun e => kv e.2
      rw [List.map_cons] at this
      rw [kv_of hk] at this
      exact this
    have sz : es1.size = n + 1 := by rw [← Array.length_toList, pc.length_eq, List.length_cons, Array.length_toList, L.many]
    have laid : ∀ t' : SetTable, t'.fits es1.size = true → Ris t'.place.toList → (w.params.followText "set-order" = true ∨ t'.led = true) → Laid w es1 t' (fun j => T j || decide (j = k)) es1.size := fun t' y1 y2 y3 =>
      ⟨fun e he => by
        rcases List.mem_cons.mp (pc.mem_iff.mp he) with z | z
        · rw [z, hdef]
          exact fine_of hk
        · exact L.fine e z, kp.nodup_iff.mpr (List.nodup_cons.mpr ⟨out, L.once⟩), fun i => by rw [Bool.or_eq_true, decide_eq_true_eq, L.mem i, kp.mem_iff, List.mem_cons]; exact Or.comm, by rw [sz]; exact room, y1, rfl, y2, y3⟩
    have led : w.params.followText "set-order" = true ∨ t1.led = true := L.led.imp id fun z => by rw [z4]; exact z
    have done : ∀ h', Heap.SameBut a s.heap h' → SetW P w h' a (fun j => T j || decide (j = k)) es1.size → Q true { s with heap := h' } := fun h' sb r => by
      have q := fin h' sb
      rw [new] at q
      rw [sz] at r
      exact q r
    refine wpAny_bind (gw _ ?_)
    split
    · refine wpAny_bind ?_
      rw [hashByValue_scannable 8 hsc]
      refine wpAny_pure ?_
      refine put_end ?_ ho hex hd (laid _ ?_ ?_ ?_) ?_
      · intro b s1 Z q; cases b <;> first | exact wpAny_pure q | exact wpAny_rule q
      · first | (split <;> first | exact z2 | exact SetTable.fits_plain_off z2) | exact z2
      · first | (split <;> exact z3) | exact z3
      · first | (split <;> exact led) | exact led
      · intro h' sb r; dsimp only; exact wpAny_pure (done h' sb r)
    · refine wpAny_bind (wpAny_pure ?_)
      simp only [↓reduceIte]
      refine put_end ?_ ho hex hd (laid _ z2 z3 led) ?_
      · intro b s1 Z q; cases b <;> first | exact wpAny_pure q | exact wpAny_rule q
      · intro h' sb r; dsimp only; exact wpAny_pure (done h' sb r)
/-- found.add(k) -/
theorem put_key {k : Key} {v : Value} {Q : Value → Shared → Prop} (hk : keyIs k v = true) (R : SetW P w s.heap a T n) (room : n + 1 < scanBound)
    (fin : ∀ h', Heap.SameBut a s.heap h' → SetW P w h' a (fun j => T j || decide (j = k)) (if T k = true then n else n + 1) → Q .none { s with heap := h', toks := s.toks + 1 }) :
    wpAny (model P w) A (call (.builtin "set.add") [.ref a, v]) Q E s := by
  have so := R.setOf
  refine wpAny_call_entry F.slot_set_add so.typeIs F.entry_set_add ?_ (F.args_set_add_2 _ _)
  unfold Builtin.«set.add» Builtin.Frozenset.oneOther
  simp only [List.isEmpty_nil, bind_assoc]
  unfold Builtin.Frozenset.addrOf setAdd
  refine wpAny_bind (wpAny_pure ?_)
  try dsimp only
  refine wpAny_bind (wpAny_pure ?_)
  try dsimp only
  refine wpAny_bind ?_
  refine wpAny_holding ?_
  refine wpAny_bind ((mixKind P w).pyHash hk ?_)
  refine put_hashed (s := { s with toks := s.toks + 1 }) hk R room fun h' sb r => ?_
  show wpAny _ _ (ret Value.none) _ _ _
  exact wpAny_pure ⟨_, rfl, fin h' sb r⟩
/-! set(x) -/
inductive KeysAre : List Value → List Key → Prop
  | nil : KeysAre [] []
  | cons {v : Value} {k : Key} {vs : List Value} {ks : List Key} : keyIs k v = true → KeysAre vs ks → KeysAre (v :: vs) (k :: ks)
theorem KeysAre.len : ∀ {vs : List Value} {ks : List Key}, KeysAre vs ks → vs.length = ks.length
  | _, _, .nil => rfl
  | _, _, .cons _ r => by rw [List.length_cons, List.length_cons, r.len]
theorem KeysAre.at : ∀ {vs : List Value} {ks : List Key}, KeysAre vs ks → ∀ (i : Nat) (v : Value), vs[i]? = some v → ∃ k, ks[i]? = some k ∧ keyIs k v = true
  | _, _, .nil, i, v, h => by simp at h
  | _, _, .cons hk r, 0, v, h => by
    simp at h
    exact ⟨_, rfl, h ▸ hk⟩
  | _, _, .cons hk r, i + 1, v, h => by
    simp only [List.getElem?_cons_succ] at h ⊢
    exact r.at i v h
theorem KeysAre.of (P : Program) (w : World) : ∀ {ks : List Key} {us : List Value}, Vals (ks.map kV) us → KeysAre us ks
  | [], _, .nil => .nil
  | k :: ks, _, .cons r q => .cons (show keyIs k _ = true from kV_is (P := P) (w := w) r) (.of P w q)
theorem fill_loop {I : Addr} {fp wr : List Addr} {G : Array GenState → Array GenState → Prop} {m : Nat} {Pv : Nat → Value → Prop} {St : Nat → Shared → Prop} {R : Result → Shared → Prop}
    (W : WalksS P w A.in1 I fp wr G m Pv St) (D : Addr) (out : D ∉ fp) (ks : List Key) (hm : m = ks.length) (room : ks.length + 1 < scanBound) (each : ∀ i v, Pv i v → ∃ k, ks[i]? = some k ∧ keyIs k v = true) :
    ∀ (left i : Nat) (s : Shared), m - i = left → i ≤ m → St i s → SetW P w s.heap D (inL (ks.take i)) (Iv.manyK (ks.take i)) →
      (∀ s', Moved (D :: wr) G s s' → SetW P w s'.heap D (inL ks) (Iv.manyK ks) → R (.ok (.ret .none)) s') →
      codeAny (model P w) A (.builtin "set.update.loop" ⟨[.ref D, .ref I], []⟩) R s := by
  have outw : D ∉ wr := fun h => out (W.sub _ h)
  have sub : ∀ b ∈ wr, b ∈ D :: wr := fun b hb => List.mem_cons_of_mem _ hb
  intro left
  induction left with
  | zero =>
    intro i s hl hi st hS fin
    have e : i = m := by omega
    subst e
    refine codeAny_builtin F.entry_set_update_loop ?_
    rw [Around.under_plainId F.plain_set_update_loop _]
    show wpAny _ A.in1 (pyNext (.ref I) >>= _) _ _ s
    refine wpAny_bind (W.done s _ _ st fun s' mv => ?_)
    show wpAny _ A.in1 (ret Value.none) _ _ s'
    rw [List.take_of_length_le (by omega)] at hS
    exact wpAny_pure (fin s' (mv.mono sub) (hS.at fun o e => mv.heap D o outw e))
  | succ left ih =>
    intro i s hl hi st hS fin
    have lt : i < m := by omega
    refine codeAny_builtin F.entry_set_update_loop ?_
    rw [Around.under_plainId F.plain_set_update_loop _]
    show wpAny _ A.in1 (pyNext (.ref I) >>= _) _ _ s
    refine wpAny_bind (W.item i s _ _ lt st fun v s' hP st' mv => ?_)
    obtain ⟨k, hk, kis⟩ := each i v hP
    have hS' := hS.at (h' := s'.heap) fun o e => mv.heap D o outw e
    show wpAny _ A.in1 (holding [v] (setAdd D v) >>= _) _ _ s'
    refine wpAny_bind (wpAny_holding ?_)
    unfold setAdd
    refine wpAny_holding ?_
    refine wpAny_bind ((mixKind P w).pyHash kis ?_)
    have short : Iv.manyK (ks.take i) ≤ ks.length := Nat.le_trans (many_le _) (by rw [List.length_take]; omega)
    refine put_hashed (s := { s' with toks := s'.toks + 1 }) kis hS' (by omega) fun h' sb r => ?_
    have next : ks.take (i + 1) = ks.take i ++ [k] := by rw [List.take_add_one, hk]; rfl
    have hS3 : SetW P w h' D (inL (ks.take (i + 1))) (Iv.manyK (ks.take (i + 1))) := by
      rw [next, many_snoc]
      exact r.congr fun j => inL_snoc
    refine wpAny_pure ⟨plainId_quiet F.plain_set_update_loop _, ih (i + 1) _ (by omega) lt (W.frame _ s' _ _ st' (Nat.le_succ _) fun b hb o e => ?_) hS3 fun s2 mv2 hS2 => ?_⟩
    · rw [sb.2 b (fun h : b = D => out (by rw [← h]; exact hb))]
      exact e
    · refine fin s2 (Moved.trans W.gtrans ((mv.mono sub).then_heap (Nat.le_succ _) fun b o hb e => ?_) mv2) hS2
      rw [sb.2 b (fun h : b = D => hb (by rw [h]; exact List.mem_cons_self))]
      exact e

set_option maxRecDepth 100000 in
set_option maxHeartbeats 3200000 in
theorem made_list {p : Addr} {items : Array Value} (ks : List Key) {Q : Value → Shared → Prop} (quiet : A.handled = none) (pl : s.heap.IsList p items) (kys : KeysAre items.toList ks) (room : ks.length + 1 < scanBound)
    (fin : ∀ (h' : Heap) (tk : Nat), SetW P w h' s.heap.objs.size (inL ks) (Iv.manyK ks) → (∀ b o, s.heap.get? b = some o → h'.get? b = some o) → Q (.ref s.heap.objs.size) { s with heap := h', toks := tk }) :
    wpAny (model P w) A (call (.type "set") [.ref p]) Q E s := by
  have many : items.size = ks.length := by rw [← Array.length_toList]; exact kys.len
  obtain ⟨_, _, hmro⟩ := F.called_set.mro
  have hmade := F.called_set.made
  have hsub := F.called_set.sub
  refine wpAny_call (codeAny_of_tree ?_)
  show wpAny _ _ (callAny (.type "set") _) _ _ _
  refine wpAny_pure ⟨Code.quiet_builtin _ (by decide +kernel), codeAny_builtin F.entry_type_call ?_⟩
  rw [Around.under_plain (weight_type_call_type "set" [.ref p] []) rfl]
  have g1 := F.called_set.notType
  have g2 := F.called_set.canCreate
  have g3 := F.typeCall_set_1 (.ref p)
  repeat (any_goals (first | assumption | wp_step))
  refine codeAny_mono (code_set_led1 (.ref p) (E := E) (Q₁ := fun obj s₁ => obj = .ref s.heap.objs.size ∧ s₁ = { s with heap := s.heap.push (Ws.bareSet w) }) ⟨rfl, rfl⟩) fun r0 s1 hr0 => ?_
  cases r0 with
  | error e => exact hr0
  | ok fl =>
    cases fl with
    | ret obj =>
      obtain ⟨rfl, rfl⟩ := hr0
      have bare : (s.heap.push (Ws.bareSet w)).get? s.heap.objs.size = some (Ws.bareSet w) := Heap.get?_push_size _ rfl
      have hT : Shared.TypeIs { s with heap := s.heap.push (Ws.bareSet w) } (.ref s.heap.objs.size) "set" := ⟨_, bare, rfl⟩
      have g4 := F.called_set.init.lookup
      have g5 := F.called_set.init.bind (.ref s.heap.objs.size)
      repeat (any_goals (first | assumption | wp_step))
      refine codeAny_mono (codeAny_call_builtin (R := wants (fun r s₂ => r = .none ∧ ∃ h' tk, s₂ = { s with heap := h', toks := tk } ∧ SetW P w h' s.heap.objs.size (inL ks) (Iv.manyK ks) ∧ (∀ b o, s.heap.get? b = some o → h'.get? b = some o)) E) F.called_set.init.plain F.entry_set_init (check_set_init_1 hT ?_)) fun r1 s2 hr1 => ?_
      · obtain ⟨u, hu, hcl, un, hdt⟩ := pl
        obtain ⟨ucls, udict, udata, uslots⟩ := u
        simp only at hcl hdt
        subst hcl
        subst hdt
        have hu1 : (s.heap.push (Ws.bareSet w)).get? p = some { cls := .type "list", dict := udict, data := .seq items un, slots := uslots } := Heap.get?_push_of_some _ hu
        have n1 := F.sub_list_set
        have n2 := F.sub_list_frozenset
        have n3 : (Value.type "list" == Value.type "dict") = false := by decide
        have pl1 : (s.heap.push (Ws.bareSet w)).IsList p items := ⟨_, hu1, rfl, un, rfl⟩
        unfold Builtin.«set.__init__» noKeywords Builtin.Frozenset.updateFrom
        generalize hPI : pyIter = PI
        wp_walk
        subst hPI
        refine wpAny_pyIter_list pl1 ?_
        refine wpAny_bind (wpAny_runValue ?_)
        have ltp : p < s.heap.objs.size := Heap.lt_size hu
        have q3 : A.in1.in1.in1.handled = none := by simp [quiet]
        have nI : p ≠ (s.heap.push (Ws.bareSet w)).objs.size := by
          rw [Heap.size_push]
          exact Nat.ne_of_lt (Nat.lt_succ_of_lt ltp)
        have nS : s.heap.objs.size ∉ [(s.heap.push (Ws.bareSet w)).objs.size, p] := by
          rw [Heap.size_push]
          simp only [List.mem_cons, List.mem_singleton, List.not_mem_nil, or_false, not_or]
          exact ⟨Nat.ne_of_lt (Nat.lt_succ_self _), Nat.ne_of_gt ltp⟩
        have each : ∀ (i : Nat) (v : Value), items[i]? = some v → ∃ k, ks[i]? = some k ∧ keyIs k v = true := fun i v hv => kys.at i v (by rw [Array.getElem?_toList]; exact hv)
        refine fill_loop ((Walks.list q3 _ p nI items).toS) s.heap.objs.size nS ks many room each (items.size - 0) 0 _ (by omega) (Nat.zero_le _)
          ⟨⟨_, Heap.get?_push_size _ rfl, rfl, rfl⟩, (pl1.push _)⟩ ?start ?stop
        case start =>
          have hget : ((s.heap.push (Ws.bareSet w)).push { cls := .type "list_iterator", data := .fields #[.ref p, .int 0 0] }).get? s.heap.objs.size = some (Ws.bareSet w) := Heap.get?_push_of_some _ bare
          exact (SetW.fresh (P := P) hget).congr fun k => rfl
        case stop =>
          intro s' mv hS'
          obtain ⟨h', g2', d', tk', os'⟩ := s'
          have eg : g2' = s.gens := mv.gens
          have ed : d' = s.drawn := mv.drawn
          have eo : os' = s.os := mv.os
          subst eg
          subst ed
          subst eo
          show wpAny _ _ _ _ _ _
          refine wpAny_pure ?_
          show wpAny _ _ (ret Value.none) _ _ _
          refine wpAny_pure ⟨rfl, h', tk', rfl, hS', fun b o e => ?_⟩
          have l0 : b < s.heap.objs.size := Heap.lt_size e
          have l1 : b ≠ s.heap.objs.size := Nat.ne_of_lt l0
          have l2 : b ≠ (s.heap.push (Ws.bareSet w)).objs.size := by
            rw [Heap.size_push]
            exact Nat.ne_of_lt (Nat.lt_succ_of_lt l0)
          exact mv.heap b o (by simp only [List.mem_cons, List.mem_singleton, List.not_mem_nil, or_false, not_or]; exact ⟨l1, l2⟩) (Heap.get?_push_of_some _ (Heap.get?_push_of_some _ e))
      · cases r1 with
        | error e => exact hr1
        | ok fl1 =>
          cases fl1 with
          | ret r =>
            obtain ⟨rfl, h', tk, rfl, z1, z2⟩ := hr1
            repeat (any_goals (first | assumption | wp_step))
            exact fin _ _ z1 z2
          | _ => exact hr1.elim
    | _ => exact hr0.elim

set_option maxRecDepth 100000 in
set_option maxHeartbeats 3200000 in
theorem made_tup {p : Addr} {items : Array Value} (ks : List Key) {Q : Value → Shared → Prop} (quiet : A.handled = none) (pl : s.heap.IsTuple p items) (kys : KeysAre items.toList ks) (room : ks.length + 1 < scanBound)
    (fin : ∀ (h' : Heap) (tk : Nat), SetW P w h' s.heap.objs.size (inL ks) (Iv.manyK ks) → (∀ b o, s.heap.get? b = some o → h'.get? b = some o) → Q (.ref s.heap.objs.size) { s with heap := h', toks := tk }) :
    wpAny (model P w) A (call (.type "set") [.ref p]) Q E s := by
  have many : items.size = ks.length := by rw [← Array.length_toList]; exact kys.len
  obtain ⟨_, _, hmro⟩ := F.called_set.mro
  have hmade := F.called_set.made
  have hsub := F.called_set.sub
  refine wpAny_call (codeAny_of_tree ?_)
  show wpAny _ _ (callAny (.type "set") _) _ _ _
  refine wpAny_pure ⟨Code.quiet_builtin _ (by decide +kernel), codeAny_builtin F.entry_type_call ?_⟩
  rw [Around.under_plain (weight_type_call_type "set" [.ref p] []) rfl]
  have g1 := F.called_set.notType
  have g2 := F.called_set.canCreate
  have g3 := F.typeCall_set_1 (.ref p)
  repeat (any_goals (first | assumption | wp_step))
  refine codeAny_mono (code_set_led1 (.ref p) (E := E) (Q₁ := fun obj s₁ => obj = .ref s.heap.objs.size ∧ s₁ = { s with heap := s.heap.push (Ws.bareSet w) }) ⟨rfl, rfl⟩) fun r0 s1 hr0 => ?_
  cases r0 with
  | error e => exact hr0
  | ok fl =>
    cases fl with
    | ret obj =>
      obtain ⟨rfl, rfl⟩ := hr0
      have bare : (s.heap.push (Ws.bareSet w)).get? s.heap.objs.size = some (Ws.bareSet w) := Heap.get?_push_size _ rfl
      have hT : Shared.TypeIs { s with heap := s.heap.push (Ws.bareSet w) } (.ref s.heap.objs.size) "set" := ⟨_, bare, rfl⟩
      have g4 := F.called_set.init.lookup
      have g5 := F.called_set.init.bind (.ref s.heap.objs.size)
      repeat (any_goals (first | assumption | wp_step))
      refine codeAny_mono (codeAny_call_builtin (R := wants (fun r s₂ => r = .none ∧ ∃ h' tk, s₂ = { s with heap := h', toks := tk } ∧ SetW P w h' s.heap.objs.size (inL ks) (Iv.manyK ks) ∧ (∀ b o, s.heap.get? b = some o → h'.get? b = some o)) E) F.called_set.init.plain F.entry_set_init (check_set_init_1 hT ?_)) fun r1 s2 hr1 => ?_
      · obtain ⟨u, hu, hcl, un, hdt⟩ := pl
        obtain ⟨ucls, udict, udata, uslots⟩ := u
        simp only at hcl hdt
        subst hcl
        subst hdt
        have hu1 : (s.heap.push (Ws.bareSet w)).get? p = some { cls := .type "tuple", dict := udict, data := .seq items un, slots := uslots } := Heap.get?_push_of_some _ hu
        have n1 := F.sub_tuple_set
        have n2 := F.sub_tuple_frozenset
        have n3 : (Value.type "tuple" == Value.type "dict") = false := by decide
        have pl1 : (s.heap.push (Ws.bareSet w)).IsTuple p items := ⟨_, hu1, rfl, un, rfl⟩
        unfold Builtin.«set.__init__» noKeywords Builtin.Frozenset.updateFrom
        generalize hPI : pyIter = PI
        wp_walk
        subst hPI
        refine wpAny_pyIter_tuple pl1 ?_
        refine wpAny_bind (wpAny_runValue ?_)
        have ltp : p < s.heap.objs.size := Heap.lt_size hu
        have q3 : A.in1.in1.in1.handled = none := by simp [quiet]
        have nI : p ≠ (s.heap.push (Ws.bareSet w)).objs.size := by
          rw [Heap.size_push]
          exact Nat.ne_of_lt (Nat.lt_succ_of_lt ltp)
        have nS : s.heap.objs.size ∉ [(s.heap.push (Ws.bareSet w)).objs.size, p] := by
          rw [Heap.size_push]
          simp only [List.mem_cons, List.mem_singleton, List.not_mem_nil, or_false, not_or]
          exact ⟨Nat.ne_of_lt (Nat.lt_succ_self _), Nat.ne_of_gt ltp⟩
        have each : ∀ (i : Nat) (v : Value), items[i]? = some v → ∃ k, ks[i]? = some k ∧ keyIs k v = true := fun i v hv => kys.at i v (by rw [Array.getElem?_toList]; exact hv)
        refine fill_loop ((Walks.tuple q3 _ p nI items).toS) s.heap.objs.size nS ks many room each (items.size - 0) 0 _ (by omega) (Nat.zero_le _)
          ⟨⟨_, Heap.get?_push_size _ rfl, rfl, rfl⟩, (pl1.push _)⟩ ?start ?stop
        case start =>
          have hget : ((s.heap.push (Ws.bareSet w)).push { cls := .type "tuple_iterator", data := .fields #[.ref p, .int 0 0] }).get? s.heap.objs.size = some (Ws.bareSet w) := Heap.get?_push_of_some _ bare
          exact (SetW.fresh (P := P) hget).congr fun k => rfl
        case stop =>
          intro s' mv hS'
          obtain ⟨h', g2', d', tk', os'⟩ := s'
          have eg : g2' = s.gens := mv.gens
          have ed : d' = s.drawn := mv.drawn
          have eo : os' = s.os := mv.os
          subst eg
          subst ed
          subst eo
          show wpAny _ _ _ _ _ _
          refine wpAny_pure ?_
          show wpAny _ _ (ret Value.none) _ _ _
          refine wpAny_pure ⟨rfl, h', tk', rfl, hS', fun b o e => ?_⟩
          have l0 : b < s.heap.objs.size := Heap.lt_size e
          have l1 : b ≠ s.heap.objs.size := Nat.ne_of_lt l0
          have l2 : b ≠ (s.heap.push (Ws.bareSet w)).objs.size := by
            rw [Heap.size_push]
            exact Nat.ne_of_lt (Nat.lt_succ_of_lt l0)
          exact mv.heap b o (by simp only [List.mem_cons, List.mem_singleton, List.not_mem_nil, or_false, not_or]; exact ⟨l1, l2⟩) (Heap.get?_push_of_some _ (Heap.get?_push_of_some _ e))
      · cases r1 with
        | error e => exact hr1
        | ok fl1 =>
          cases fl1 with
          | ret r =>
            obtain ⟨rfl, h', tk, rfl, z1, z2⟩ := hr1
            repeat (any_goals (first | assumption | wp_step))
            exact fin _ _ z1 z2
          | _ => exact hr1.elim
    | _ => exact hr0.elim
end
end Wm

/-! ### sorted(set), the calls -/
namespace Wm
open PySem PySem.Spec PyProof.Rows L2
section
theorem ints_all : ∀ (vs : List Value), (∀ v ∈ vs, ∃ k t, v = Value.int k t) → ∃ ns : List Int, IntsAre vs ns ∧ vs.map kv = ns.map Sum.inl
  | [], _ => ⟨[], .nil, rfl⟩
  | v :: vs, h => by
    obtain ⟨k, t, rfl⟩ := h v List.mem_cons_self
    obtain ⟨ns, a, b⟩ := ints_all vs fun u hu => h u (List.mem_cons_of_mem _ hu)
    exact ⟨k :: ns, .cons k t a, by rw [List.map_cons, List.map_cons, b]; rfl⟩
theorem strs_all : ∀ (vs : List Value), (∀ v ∈ vs, ∃ x t, v = Value.str x t) → ∃ xs : List Str, StrsAre vs xs ∧ vs.map kv = xs.map Sum.inr
  | [], _ => ⟨[], .nil, rfl⟩
  | v :: vs, h => by
    obtain ⟨x, t, rfl⟩ := h v List.mem_cons_self
    obtain ⟨xs, a, b⟩ := strs_all vs fun u hu => h u (List.mem_cons_of_mem _ hu)
    exact ⟨x :: xs, .cons x t a, by rw [List.map_cons, List.map_cons, b]; rfl⟩
theorem nodup_un {α β : Type} {f : α → β} {l : List α} (h : (l.map f).Nodup) : l.Nodup := by
  unfold List.Nodup at h ⊢
  rw [List.pairwise_map] at h
  exact h.imp fun n e => n (by rw [e])
end
/-- such a set in the abstract heap -/
def SetM (P : Program) (w : World) (a : Addr) (T : Key → Bool) (n : Nat) : HO := .ext fun h => SetW P w h a T n
section
variable {X : Cx}
theorem setM_new {w : World} {P : Program} {H : Hp} {h : Heap} {a : Addr} {T : Key → Bool} {n : Nat} (R : SetW P w h a T n) : ObjOk P w H h a (SetM P w a T n) := by
  have ⟨o, _, _, _, ho, _⟩ := R
  exact ⟨R, ⟨o, ho⟩, fun h1 h2 p k => SetW.at p k⟩
theorem setM_get {pins : List (Addr × Obj)} {σ : L2.St} {H : Hp} {s : Shared} {a : Addr} {T : Key → Bool} {n : Nat} (I : Inv X pins σ H s) (ha : H a = some (SetM X.prog X.w a T n)) : SetW X.prog X.w s.heap a T n := (I.hok a _ ha).1
theorem mt_addM : MtR X "set.add" (Ws.rAddG kV (SetM X.prog X.w)) := by
  intro pins s σ H x xs v us Q I rx rxs h
  obtain ⟨a, k, T, n, rfl, rfl, ha, room, q⟩ := h
  cases rx
  cases rxs with
  | cons ry rt =>
    cases rt
    refine put_key (show keyIs k _ = true from kV_is (P := X.prog) (w := X.w) ry) (setM_get I ha) room fun h' sb new => ?_
    have he : ∃ u, h'.get? a = some u := by
      have ⟨o, _, _, _, ho, _⟩ := new
      exact ⟨o, ho⟩
    exact ⟨.non, upd H a (SetM X.prog X.w a (fun j => T j || decide (j = k)) (if T k = true then n else n + 1)), I.write (e := a) (t' := s.toks + 1) (by rw [ha]; trivial) (.inl rfl) (fun b u hb hu => (sb.2 b hb).trans hu) he (setM_new new), rfl, q⟩
theorem like_mix (P : Program) (w : World) : Ws.SetLike P w kV (SetM P w) where
  fresh := fun H h => setM_new (SetW.fresh (Heap.get?_push_size _ rfl))
  add := fun Y hp hw => by subst hp hw; exact mt_addM
def rSetW (X : Cx) : List V → Hp → VK → Prop := fun xs H Q => ∃ (p : Addr) (ks : List Key), xs = [.ref p] ∧ (SqL X.K H p (ks.map kV) ∨ SqT X.K H p (ks.map kV)) ∧ ks.length < 2000 ∧ ∀ q, H q = none → Q (.ref q) (upd H q (SetM X.prog X.w q (inL ks) (Iv.manyK ks)))
theorem cr_setW (hc : X.calm = true) : CallR X (.type "set") (rSetW X) := by
  intro pins s σ H xs us Q I r ⟨p, ks, e, hs, hl, q⟩
  subst e
  rw [Vals.ref1 r]
  have room : ks.length + 1 < scanBound := by
    have : 4000 ≤ scanBound := by decide
    omega
  have fin : ∀ (h' : Heap) (tk : Nat), SetW X.prog X.w h' s.heap.objs.size (inL ks) (Iv.manyK ks) → (∀ b o, s.heap.get? b = some o → h'.get? b = some o) → EP X pins σ Q (.ref s.heap.objs.size) { s with heap := h', toks := tk } := fun h' tk z1 z2 =>
    ⟨.ref _, _, I.laid (t' := tk) z2 (Nat.le_refl _) (setM_new z1), rfl, q _ (I.hok.fresh (Nat.le_refl _))⟩
  rcases hs with hs | hs
  · obtain ⟨its, rv, pl, hz⟩ := I.list hs
    exact made_list ks (I.ok.hd hc) pl.isList (by simpa using KeysAre.of X.prog X.w rv) room fin
  · obtain ⟨its, rv, pl, hz⟩ := I.tuple hs
    exact made_tup ks (I.ok.hd hc) pl (by simpa using KeysAre.of X.prog X.w rv) room fin
theorem cr_lenM : CallR X (.builtin "len") (fun xs H Q => ∃ (a : Addr) (T : Key → Bool) (n : Nat), xs = [.ref a] ∧ H a = some (SetM X.prog X.w a T n) ∧ n < 2000 ∧ Q (.int n) H) := by
  intro pins s σ H xs us Q I r h
  obtain ⟨a, T, n, rfl, ha, hn, q⟩ := h
  rw [Vals.ref1 r]
  obtain ⟨o, es, ep, tt, ho, hx, hd, L⟩ := setM_get I ha
  refine call_len_set ho hx hd L.fits (by rw [L.many]; omega) ?_
  rw [L.many]
  exact ⟨.int n, H, I.tok _, ⟨_, rfl⟩, q⟩
/-- sorted(s) -/
def rSortM (P : Program) (w : World) : List V → Hp → VK → Prop := fun vs H Q => ∃ (a : Addr) (T : Key → Bool) (n : Nat), vs = [V.ref a] ∧ H a = some (SetM P w a T n) ∧ n < 64 ∧
  ((∃ ns : List Int, (∀ k, T k = true ↔ k ∈ ns.map Sum.inl) ∧ ∀ (ys : List Int) (p : Addr), ys.Pairwise (· ≤ ·) → ys.Nodup → (∀ k, k ∈ ys ↔ k ∈ ns) → H p = none → Q (.ref p) (upd H p (.lst (ys.map V.int)))) ∨
   (∃ ns : List Str, (∀ k, T k = true ↔ k ∈ ns.map Sum.inr) ∧ ∀ (ys : List Str) (p : Addr), sortedS ys = true → ys.Nodup → (∀ k, k ∈ ys ↔ k ∈ ns) → H p = none → Q (.ref p) (upd H p (.lst (ys.map V.str)))))
theorem cr_sortM (hc : X.calm = true) : CallR X (.builtin "sorted") (rSortM X.prog X.w) := by
  intro pins s σ H vs us Q I r h
  obtain ⟨a, T, n, rfl, ha, h64, alt⟩ := h
  rw [Vals.ref1 r]
  obtain ⟨o, es, ep, t, ho, hx, hd, L⟩ := setM_get I ha
  refine Calls.call_function_entry kind_sorted plain_sorted entry_sorted (args_sorted1 _) ?_
  unfold Builtin.«sorted»
  refine wpAny_bind (m := checkCount "sorted" 1 1 _) (wpAny_pure ?_)
  refine wpAny_bind (collect_set (A := X.A.in1) (I.ok.hd hc) ⟨o, ho, hx.1, hd⟩ L.fits L.few L.ris L.led fun s1 got k1 hz g1 o1 pm => ?_)
  have gl : got.length = n := by rw [pm.length_eq, List.length_map, Array.length_toList]; exact L.many
  have kp : (got.map kv).Perm (keys es) := by
    have q := pm.map kv
    rw [List.map_map] at q
    exact q
  have isk : ∀ v ∈ got, keyIs (kv v) v = true ∧ T (kv v) = true := fun v hv => by
    obtain ⟨e, he, q⟩ := List.mem_map.mp (pm.mem_iff.mp hv)
    refine ⟨by rw [← q]; exact (L.fine e he).1, (L.mem _).mpr ?_⟩
    exact kp.mem_iff.mp (List.mem_map.mpr ⟨v, hv, rfl⟩)
  have h16 : got.length ≤ sizeLine := by rw [gl, sizeLine_eq]; omega
  refine wpAny_bind (wpAny_newList ?_ h16)
  have hoL : (s1.heap.push (seqObj "list" got.toArray 0)).get? s1.heap.objs.size = some (seqObj "list" got.toArray 0) := Heap.get?_push_size _ rfl
  have up : ∀ (out : Array Value) b u, s.heap.get? b = some u → (sortedHeap (s1.heap.push (seqObj "list" got.toArray 0)) s1.heap.objs.size got out).get? b = some u := fun out b u e => by
    have q := k1 b u e
    have lt := Heap.lt_size q
    rw [sortedHeap_old (Nat.ne_of_lt lt) (by rw [size_push']; exact Nat.lt_succ_of_lt lt)]
    exact Heap.get?_push_of_some _ q
  have newp : H s1.heap.objs.size = none := I.hok.fresh hz
  have once : (got.map kv).Nodup := kp.nodup_iff.mpr L.once
  have laid : ∀ (out : Array Value) (vals : List V), vals.length ≤ sizeLine → Vals vals out.toList → Q (.ref s1.heap.objs.size) (upd H s1.heap.objs.size (.lst vals)) →
      EP X pins σ Q (.ref s1.heap.objs.size) { s1 with heap := sortedHeap (s1.heap.push (seqObj "list" got.toArray 0)) s1.heap.objs.size got out } := fun out vals hv rv q => by
    obtain ⟨c, hc2⟩ := sortedHeap_at (vs := got) (out := out) hoL
    generalize hh' : sortedHeap (s1.heap.push (seqObj "list" got.toArray 0)) s1.heap.objs.size got out = h' at hc2
    have upx : ∀ b u, s.heap.get? b = some u → h'.get? b = some u := fun b u e => by rw [← hh']; exact up out b u e
    have J : Inv X pins σ (upd H s1.heap.objs.size (.lst vals)) { s with heap := h', gens := s1.gens, drawn := s1.drawn, toks := s1.toks } :=
      I.call (ch := []) (Un.laid upx hz newp) (I.hok.laid upx hz ⟨hv, out.toList, c, rv, hc2⟩) (by rw [g1]; exact I.bare) (fun _ z => nomatch z)
    have e : ({ s1 with heap := h' } : Shared) = { s with heap := h', gens := s1.gens, drawn := s1.drawn, toks := s1.toks } := by
      cases s1
      cases s
      cases o1
      rfl
    rw [e]
    exact ⟨.ref _, _, J, rfl, q⟩
  rcases alt with ⟨ns, hT, q⟩ | ⟨ns, hT, q⟩
  · obtain ⟨ms, hI, hmap⟩ := ints_all got fun v hv => by
      obtain ⟨a1, a2⟩ := isk v hv
      obtain ⟨i, _, e⟩ := List.mem_map.mp ((hT _).mp a2)
      rcases keyIs_shape a1 with ⟨j, t', e1, e2⟩ | ⟨x, t', e1, e2⟩
      · exact ⟨j, t', e2⟩
      · rw [e1] at e
        cases e
    have msn : ms.Nodup := by rw [hmap] at once; exact nodup_un once
    have mm : ∀ k, k ∈ ms ↔ k ∈ ns := fun k => by
      have h1 : (Sum.inl k : Key) ∈ got.map kv ↔ T (.inl k) = true := kp.mem_iff.trans (L.mem _).symm
      rw [hT, hmap] at h1
      simpa using h1
    refine wpAny_bind (wpAny_holding (wpAny_call_entry slot_list_sort ⟨_, hoL, rfl⟩ entry_list_sort (list_sort_tree hoL hI (by rw [gl]; exact h64) fun out ns' a1 a2 a3 => ⟨_, rfl, ?_⟩) (args_list_sort _)))
    refine wpAny_pure ⟨_, rfl, laid out (ns'.map V.int) ?_ (vals_of_ints a1) (q ns' _ a3 (a2.nodup_iff.mpr msn) (fun k => a2.mem_iff.trans (mm k)) newp)⟩
    have := a2.length_eq
    have := hI.length
    rw [List.length_map]
    omega
  · obtain ⟨ms, hI, hmap⟩ := strs_all got fun v hv => by
      obtain ⟨a1, a2⟩ := isk v hv
      obtain ⟨i, _, e⟩ := List.mem_map.mp ((hT _).mp a2)
      rcases keyIs_shape a1 with ⟨j, t', e1, e2⟩ | ⟨x, t', e1, e2⟩
      · rw [e1] at e
        cases e
      · exact ⟨x, t', e2⟩
    have msn : ms.Nodup := by rw [hmap] at once; exact nodup_un once
    have mm : ∀ k, k ∈ ms ↔ k ∈ ns := fun k => by
      have h1 : (Sum.inr k : Key) ∈ got.map kv ↔ T (.inr k) = true := kp.mem_iff.trans (L.mem _).symm
      rw [hT, hmap] at h1
      simpa using h1
    refine wpAny_bind (wpAny_holding (wpAny_call_entry slot_list_sort ⟨_, hoL, rfl⟩ entry_list_sort
      (list_sort_treeK strKind_oneLt (s := { s1 with heap := s1.heap.push (seqObj "list" got.toArray 0) }) hoL hI.keysOf (fun v₁ v₂ rest e => keyKind_strs (by rw [← e]; exact hI)) (by rw [gl]; exact h64) fun st' hp hs => ⟨_, rfl, ?_⟩) (args_list_sort _)))
    obtain ⟨ys, b1, b2, b3⟩ := sorted_out_str hI hp hs
    refine wpAny_pure ⟨_, rfl, laid ((arrOf st').map (·.2)) (ys.map V.str) ?_ (vals_of_strs b1) (q ys _ b3 (b2.nodup_iff.mpr msn) (fun k => b2.mem_iff.trans (mm k)) newp)⟩
    have h1 := b2.length_eq
    have h2 : got.length = ms.length := by
      have := congrArg List.length hmap
      rw [List.length_map, List.length_map] at this
      exact this
    rw [List.length_map]
    omega
end
end Wm


/-! ### len(set(x)), sorted(set(x)), in the evaluator -/
namespace Iv
open PySem PySem.Spec PyProof.Rows L2
section
variable {g : Gs} {W : L2.WX} {X : Cx} {F : CE} {m m1 : Mp} {n : Nat} {H H1 : Hp} {S S1 : Sto} {σ : L2.St} {ρ : Env} {pos p p2 q : Pos} {e : Expr} {ie : E}
theorem keys_vals : ∀ {ys : List Iv.D} {ks : List Key} {vs : List V}, keysD ys = some ks → Rels g m n H ys vs → vs = ks.map kV ∧ ks.length = ys.length
  | [], ks, vs, h, r => by
    cases h
    unfold Rels at r
    exact ⟨r, rfl⟩
  | y :: ys, ks, vs, h, r => by
    unfold Rels at r
    obtain ⟨v, ws, rfl, r1, r2⟩ := r
    cases hk : keyD y with
    | none => rw [keysD, hk] at h; cases h
    | some k =>
      rw [keysD, hk] at h
      obtain ⟨ks', h1, rfl⟩ := Option.map_eq_some_iff.mp h
      obtain ⟨a, b⟩ := keys_vals h1 r2
      exact ⟨by rw [List.map_cons, a, (key_rel hk r1).1], by rw [List.length_cons, List.length_cons, b]⟩
theorem nub_nd {κ : Type} [DecidableEq κ] (l : List κ) : (nubK l).Nodup := dups_nd _ l (Nat.le_refl _)
theorem nub_mem {κ : Type} [DecidableEq κ] {l : List κ} {k : κ} : k ∈ nubK l ↔ k ∈ l := List.mem_eraseDups
theorem srtI_nub {ks ys : List Int} (h : ys.Pairwise (· ≤ ·)) (nd : ys.Nodup) (hm : ∀ k, k ∈ ys ↔ k ∈ ks) : ys = srtI (nubK ks) :=
  srtI_eq ((List.perm_ext_iff_of_nodup nd (nub_nd ks)).mpr fun k => by rw [hm, nub_mem]) h
theorem srtS_nub {ks ys : List Str} (h : sortedS ys = true) (nd : ys.Nodup) (hm : ∀ k, k ∈ ys ↔ k ∈ ks) : ys = srtS (nubK ks) :=
  srtS_eq ((List.perm_ext_iff_of_nodup nd (nub_nd ks)).mpr fun k => by rw [hm, nub_mem]) h
theorem i_lenS (hgl : Gl X "len") (hm : X.mg "len" = none) (hgl2 : Gl X "set") (hm2 : X.mg "set" = none) (hc : X.calm = true) (oke : okE e = true) (he : PA X [e] (tEs g W (evs F [ie]))) (hK : X.K = g.K := by rfl) :
    PE X (.Call (.Name "len" p) [.Call (.Name "set" p2) [e] [] q] [] pos) (tE g W (ev F (.lenS ie))) := by
  refine PE.imp (pe_callB Wm.cr_lenM hgl hm (by decide +kernel) (pa_cons (pe_callTy (Wm.cr_setW hc) hgl2 hm2 (by decide +kernel) he (by decide) (by decide) (starEach_ok oke)) pa_nil (by rfl)) (by decide) (by decide) (by rfl) (by rfl)) fun σ H Q ⟨m, ρ, S, rs, er, w⟩ => ?_
  rw [ev] at w
  refine ⟨m, ρ, S, rs, er, ?_⟩
  rw [evs1]
  cases hh : ev F ie ρ S with
  | ok d S1 =>
    rw [hh] at w
    simp only [R.bind_ok] at w ⊢
    intro m1 H1 vs x rs1 r1
    obtain ⟨v, rfl, rv⟩ := Rels.one r1
    have w := w.from x
    unfold lenSR at w
    split at w
    · rename_i ys hy
      obtain ⟨a, vs, rfl, rvs, hq⟩ := seqOf_sq rs1 rv hy
      unfold lenSCR at w
      split at w
      · rename_i ks hk
        obtain ⟨c, w⟩ := w.ck
        obtain ⟨rfl, hl⟩ := keys_vals hk rvs
        have h1 := Wm.many_le ks
        exact ⟨a, ks, rfl, by rw [hK]; exact hq, by omega, fun b hb => ⟨b, _, _, rfl, upd_same, by omega, w m1 _ _ (Ext.laid rs1 hb) (rs1.laid hb) (by rw [rel_int])⟩⟩
      · exact w.err
    · exact w.err
  | exc x S1 => rw [hh] at w; exact w
  | err => rw [hh] at w; exact w
theorem i_sortS (hgl : Gl X "sorted") (hm : X.mg "sorted" = none) (hgl2 : Gl X "set") (hm2 : X.mg "set" = none) (hc : X.calm = true) (oke : okE e = true) (he : PA X [e] (tEs g W (evs F [ie]))) (hK : X.K = g.K := by rfl) :
    PE X (.Call (.Name "sorted" p) [.Call (.Name "set" p2) [e] [] q] [] pos) (tE g W (ev F (.sortS ie))) := by
  refine PE.imp (pe_callB (Wm.cr_sortM hc) hgl hm (by decide +kernel) (pa_cons (pe_callTy (Wm.cr_setW hc) hgl2 hm2 (by decide +kernel) he (by decide) (by decide) (starEach_ok oke)) pa_nil (by rfl)) (by decide) (by decide) (by rfl) (by rfl)) fun σ H Q ⟨m, ρ, S, rs, er, w⟩ => ?_
  rw [ev] at w
  refine ⟨m, ρ, S, rs, er, ?_⟩
  rw [evs1]
  cases hh : ev F ie ρ S with
  | ok d S1 =>
    rw [hh] at w
    simp only [R.bind_ok] at w ⊢
    intro m1 H1 vs x rs1 r1
    obtain ⟨v, rfl, rv⟩ := Rels.one r1
    have w := w.from x
    unfold sortSR at w
    split at w
    · rename_i ys hy
      obtain ⟨a, vs, rfl, rvs, hq⟩ := seqOf_sq rs1 rv hy
      split at w
      · rename_i ns hn
        obtain ⟨c, w⟩ := w.ck
        have hv := ints_rel rvs hn
        subst hv
        have e1 : ns.map V.int = (ns.map (Sum.inl : Int → Key)).map kV := by rw [List.map_map]; rfl
        have h1 := Wm.many_le (ns.map (Sum.inl : Int → Key))
        rw [List.length_map] at h1
        refine ⟨a, ns.map Sum.inl, rfl, by rw [hK, ← e1]; exact hq, by rw [List.length_map]; omega, fun b hb => ⟨b, _, _, rfl, upd_same, by omega, .inl ⟨ns, fun k => Wm.inL_iff, fun zs pp hs hnd hmem hp => ?_⟩⟩⟩
        rw [srtI_nub hs hnd hmem]
        exact mkL_ok (box := false) (rs1.laid hb) (relsI _) (w.from (Ext.laid rs1 hb)) hp
      · rename_i ns hn _
        obtain ⟨c, w⟩ := w.ck
        have hn' : strsD ys = some ns := by assumption
        obtain ⟨hv, hok⟩ := strs_rel rvs hn'
        subst hv
        have e1 : ns.map V.str = (ns.map (Sum.inr : Str → Key)).map kV := by rw [List.map_map]; rfl
        have h1 := Wm.many_le (ns.map (Sum.inr : Str → Key))
        rw [List.length_map] at h1
        refine ⟨a, ns.map Sum.inr, rfl, by rw [hK, ← e1]; exact hq, by rw [List.length_map]; omega, fun b hb => ⟨b, _, _, rfl, upd_same, by omega, .inr ⟨ns, fun k => Wm.inL_iff, fun zs pp hs hnd hmem hp => ?_⟩⟩⟩
        rw [srtS_nub hs hnd hmem]
        refine mkL_ok (box := false) (rs1.laid hb) (relsS _ fun z hz => hok z ?_) (w.from (Ext.laid rs1 hb)) hp
        exact nub_mem.mp ((List.mergeSort_perm (nubK ns) _).mem_iff.mp hz)
      · exact w.err
    · exact w.err
  | exc x S1 => rw [hh] at w; exact w
  | err => rw [hh] at w; exact w
end
end Iv

/-! ### plain laws: tools -/
namespace Iv
open PySem
theorem setAt_len {S : Sto} {n : Nat} {c : Cell} : (setAt S n c).length = S.length := by unfold setAt; rw [List.length_set]
theorem cellAt_set1 {S : Sto} {n : Nat} {c : Cell} (h : n < S.length) : cellAt (setAt S n c) n = some c := by
  unfold cellAt setAt
  rw [List.getElem?_set_self h]
  rfl
theorem cellAt_set_ne1 {S : Sto} {n i : Nat} {c : Cell} (h : i ≠ n) : cellAt (setAt S n c) i = cellAt S i := by
  unfold cellAt setAt
  rw [List.getElem?_set_ne (Ne.symm h)]
theorem cellAt_del_ne1 {S : Sto} {n i : Nat} (h : i ≠ n) : cellAt (S.set n none) i = cellAt S i := by
  unfold cellAt
  rw [List.getElem?_set_ne (Ne.symm h)]
theorem callN_at {T : List Fn} {k f : Nat} {d : Fn} {ds : List D} {S : Sto} (h : T[f]? = some d) (hl : ds.length = d.np) : callN T (k + 1) f ds S = run (callN T k) d.n d.body ds S := by
  unfold callN
  rw [h]
  exact ck_of hl
/-- all boxes but bs stay -/
structure Keep (bs : List Nat) (S S' : Sto) : Prop where
  le : S.length ≤ S'.length
  eq : ∀ i, i < S.length → i ∉ bs → cellAt S' i = cellAt S i
theorem Keep.refl {bs : List Nat} {S : Sto} : Keep bs S S := ⟨Nat.le_refl _, fun _ _ _ => rfl⟩
theorem Keep.trans {bs : List Nat} {S S1 S2 : Sto} (h : Keep bs S S1) (k : Keep bs S1 S2) : Keep bs S S2 := ⟨Nat.le_trans h.le k.le, fun i l n => (k.eq i (Nat.lt_of_lt_of_le l h.le) n).trans (h.eq i l n)⟩
theorem Keep.mono {bs cs : List Nat} {S S' : Sto} (h : Keep bs S S') (k : ∀ b ∈ bs, b ∈ cs) : Keep cs S S' := ⟨h.le, fun i l n => h.eq i l fun z => n (k i z)⟩
theorem Keep.set {b : Nat} {S : Sto} {c : Cell} : Keep [b] S (setAt S b c) := ⟨Nat.le_of_eq setAt_len.symm, fun i _ n => cellAt_set_ne1 fun z => n (by rw [z]; exact List.mem_singleton.mpr rfl)⟩
theorem Keep.push {bs : List Nat} {S : Sto} {c : Option Cell} : Keep bs S (S ++ [c]) := ⟨by rw [List.length_append]; exact Nat.le_add_right _ _, fun i l _ => cellAt_push_lt l⟩
theorem Keep.del {bs : List Nat} {S S' : Sto} {n : Nat} (h : Keep bs S S') (l : S.length ≤ n) : Keep bs S (S'.set n none) := ⟨by rw [List.length_set]; exact h.le, fun i il ni => (cellAt_del_ne1 (by omega)).trans (h.eq i il ni)⟩
theorem Keep.own {bs : List Nat} {S S' : Sto} {n : Nat} {c : Cell} (h : Keep bs S S') (l : S.length ≤ n) : Keep bs S (setAt S' n c) := ⟨by rw [setAt_len]; exact h.le, fun i il ni => (cellAt_set_ne1 (by omega)).trans (h.eq i il ni)⟩
theorem forLoop_inv {step : D → Env → Sto → R Fl} {src : Src} {items : List D} {ρ : Env} {S : Sto} (Inv : Nat → Env → Sto → Prop) (h0 : Inv 0 ρ S) (ht : ∀ i ρ S, Inv i ρ S → src.there S)
    (hs : ∀ i d ρ S, items[i]? = some d → Inv i ρ S → ∃ ρ' S', (step d ρ S = .ok (.next ρ') S' ∨ step d ρ S = .ok (.cont ρ') S') ∧ Inv (i + 1) ρ' S') :
    ∃ ρ' S', forLoop src step items ρ S = .ok (.next ρ') S' ∧ Inv items.length ρ' S' := by
  have go : ∀ (n i : Nat) (ρ : Env) (S : Sto), items.length - i = n → i ≤ items.length → Inv i ρ S → ∃ ρ' S', forLoop src step (items.drop i) ρ S = .ok (.next ρ') S' ∧ Inv items.length ρ' S' := by
    intro n
    induction n with
    | zero =>
      intro i ρ S hn hi hI
      have e : i = items.length := by omega
      subst e
      rw [List.drop_length, forLoop, ck_of (ht _ _ _ hI)]
      exact ⟨ρ, S, rfl, hI⟩
    | succ n ih =>
      intro i ρ S hn hi hI
      have hlt : i < items.length := by omega
      rw [List.drop_eq_getElem_cons hlt, forLoop, ck_of (ht _ _ _ hI)]
      obtain ⟨ρ', S', h, hI'⟩ := hs i _ ρ S (List.getElem?_eq_getElem hlt) hI
      rcases h with h | h
      · rw [h, R.turn_next]
        exact ih (i + 1) ρ' S' (by omega) hlt hI'
      · rw [h, R.turn_cont]
        exact ih (i + 1) ρ' S' (by omega) hlt hI'
  exact go _ 0 ρ S rfl (Nat.zero_le _) h0
theorem lcLoop_inv {step : D → Sto → R (List D)} {src : Src} {items : List D} {S : Sto} (Inv : Nat → List D → Sto → Prop) (h0 : Inv 0 [] S) (ht : ∀ i ys S, Inv i ys S → src.there S)
    (hs : ∀ i d ys S, items[i]? = some d → Inv i ys S → ∃ zs S', step d S = .ok zs S' ∧ Inv (i + 1) (ys ++ zs) S') :
    ∃ ys S', lcLoop src step items S = .ok ys S' ∧ Inv items.length ys S' := by
  have go : ∀ (n i : Nat) (acc : List D) (S : Sto), items.length - i = n → i ≤ items.length → Inv i acc S → ∃ ys S', lcLoop src step (items.drop i) S = .ok ys S' ∧ Inv items.length (acc ++ ys) S' := by
    intro n
    induction n with
    | zero =>
      intro i acc S hn hi hI
      have e : i = items.length := by omega
      subst e
      rw [List.drop_length, lcLoop, ck_of (ht _ _ _ hI)]
      exact ⟨[], S, rfl, by rw [List.append_nil]; exact hI⟩
    | succ n ih =>
      intro i acc S hn hi hI
      have hlt : i < items.length := by omega
      rw [List.drop_eq_getElem_cons hlt, lcLoop, ck_of (ht _ _ _ hI)]
      obtain ⟨zs, S', h, hI'⟩ := hs i _ acc S (List.getElem?_eq_getElem hlt) hI
      obtain ⟨ys, S2, h2, hI2⟩ := ih (i + 1) (acc ++ zs) S' (by omega) hlt hI'
      rw [h]
      dsimp only
      rw [h2]
      exact ⟨zs ++ ys, S2, rfl, by rw [← List.append_assoc]; exact hI2⟩
  obtain ⟨ys, S', h, hI⟩ := go _ 0 [] S rfl (Nat.zero_le _) h0
  exact ⟨ys, S', h, by rw [List.nil_append] at hI; exact hI⟩
/-- each item by itself, the store as it was -/
theorem lcLoop_pure {step : D → Sto → R (List D)} {f : D → List D} {S : Sto} : ∀ {items : List D}, (∀ d ∈ items, step d S = .ok (f d) S) → lcLoop .fix step items S = .ok (items.flatMap f) S
  | [], _ => by rw [lcLoop]; exact ck_of (show Src.fix.there S from trivial)
  | d :: ds, h => by
    rw [lcLoop, ck_of (show Src.fix.there S from trivial), h d (List.mem_cons_self ..)]
    dsimp only
    rw [lcLoop_pure fun e he => h e (List.mem_cons_of_mem _ he)]
    rfl
end Iv
namespace Iv
open PySem
section
variable {F : CE} {st : St} {sts : List St} {ρ ρ' : Env} {S S' : Sto} {d : D} {r : R Fl}
theorem exs_next (h : ex F st ρ S = .ok (.next ρ') S') : exs F (st :: sts) ρ S = exs F sts ρ' S' := by
  rw [exs, h]
  rfl
theorem exs_ret (h : ex F st ρ S = .ok (.ret d) S') : exs F (st :: sts) ρ S = .ok (.ret d) S' := by
  rw [exs, h]
  rfl
theorem exs_cont (h : ex F st ρ S = .ok (.cont ρ') S') : exs F (st :: sts) ρ S = .ok (.cont ρ') S' := by
  rw [exs, h]
  rfl
theorem exs_brk (h : ex F st ρ S = .ok (.brk ρ') S') : exs F (st :: sts) ρ S = .ok (.brk ρ') S' := by
  rw [exs, h]
  rfl
theorem run_ret {n : Nat} {body : List St} {ds : List D} (h : exs F body (ds.map some ++ List.replicate (n - ds.length) none) S = .ok (.ret d) S') : Iv.run F n body ds S = .ok d S' := by
  unfold Iv.run
  rw [h]
theorem run_next {n : Nat} {body : List St} {ds : List D} (h : exs F body (ds.map some ++ List.replicate (n - ds.length) none) S = .ok (.next ρ') S') : Iv.run F n body ds S = .ok .non S' := by
  unfold Iv.run
  rw [h]
/-- the rest, behind what is known -/
theorem exs_as (h : exs F sts ρ S = r) : exs F sts ρ S = r := h
end
end Iv
namespace Iv
open PySem
theorem lcLoop_enc {α : Type} {step : D → Sto → R (List D)} {enc : α → D} {f : α → List D} {S : Sto} : ∀ {items : List α}, (∀ a ∈ items, step (enc a) S = .ok (f a) S) → lcLoop .fix step (items.map enc) S = .ok (items.flatMap f) S
  | [], _ => by
    rw [List.map_nil, lcLoop]
    exact ck_of (show Src.fix.there S from trivial)
  | d :: ds, h => by
    rw [List.map_cons, lcLoop, ck_of (show Src.fix.there S from trivial), h d (List.mem_cons_self ..)]
    dsimp only
    rw [lcLoop_enc fun e he => h e (List.mem_cons_of_mem _ he)]
    rfl
theorem ev_lc {F : CE} {box : Bool} {own : List Nat} {tg : Tg} {it : It} {ifs : List E} {elt : E} {ρ : Env} {S S1 S2 : Sto} {src : Src} {items ys : List D} (hi : evIt F it ρ S = .ok (src, items) S1) (hl : lcLoop src (lcStep F own tg ifs elt ρ) items S1 = .ok ys S2) (c : ys.length ≤ sizeLine) :
    ev F (.lc box own tg it ifs elt) ρ S = mkL box ys S2 := by
  rw [ev, hi]
  simp only [R.bind_ok]
  have hl' : lcLoop src (fun d S => (asg F tg d (wipeE ρ own) S).bind fun ρ1 S => (evIfs F ifs ρ1 S).bind fun k S => if k = true then (ev F elt ρ1 S).bind fun y S => .ok [y] S else .ok [] S) items S1 = .ok ys S2 := hl
  rw [hl']
  exact ck_of c
theorem ev_bi1 {F : CE} {b : Bi} {e : E} {ρ : Env} {S S1 : Sto} {x : D} (h : ev F e ρ S = .ok x S1) : ev F (.bi b [e]) ρ S = biR b [x] S1 := by
  rw [ev, evs1, h]
  rfl
theorem ev_bi2 {F : CE} {b : Bi} {e e' : E} {ρ : Env} {S S1 S2 : Sto} {x y : D} (h : ev F e ρ S = .ok x S1) (h' : ev F e' ρ S1 = .ok y S2) : ev F (.bi b [e, e']) ρ S = biR b [x, y] S2 := by
  rw [ev, evs2, h]
  simp only [R.bind_ok]
  rw [h']
  rfl
theorem ex_ret {F : CE} {e : E} {ρ : Env} {S S1 : Sto} {x : D} (h : ev F e ρ S = .ok x S1) : ex F (.ret e) ρ S = .ok (.ret x) S1 := by
  rw [ex, h]
  rfl
theorem ex_asg {F : CE} {i : Nat} {e : E} {ρ : Env} {S S1 : Sto} {x : D} (h : ev F e ρ S = .ok x S1) : ex F (.asg (.var i) e) ρ S = .ok (.next (ρ.set i (some x))) S1 := by
  rw [ex, h, R.go_ok, asg]
  rfl
theorem ev_var {F : CE} {i : Nat} {ρ : Env} {S : Sto} {d : D} (h : ρ[i]? = some (some d)) : ev F (.var i) ρ S = .ok d S := by
  rw [ev, h]
theorem ev_call1 {F : CE} {f : Nat} {arr : List Ar} {es : List E} {ρ : Env} {S S1 : Sto} {ds ps : List D} (h : evs F es ρ S = .ok ds S1) (hp : pick ds arr = some ps) : ev F (.call f arr es) ρ S = F f ps S1 := by
  rw [ev, h]
  simp only [R.bind_ok]
  unfold callR
  rw [hp]
theorem flat_if {α : Type} (p : α → Bool) (f : α → D) : ∀ l : List α, (l.flatMap fun a => if p a = true then [f a] else []) = (l.filter p).map f
  | [] => rfl
  | a :: l => by
    rw [List.flatMap_cons, flat_if p f l, List.filter_cons]
    cases p a <;> rfl
theorem flat_one {α β : Type} (f : α → β) : ∀ l : List α, (l.flatMap fun x => [f x]) = l.map f
  | [] => rfl
  | a :: l => by
    rw [List.flatMap_cons, flat_one f l]
    rfl
theorem blsD_map {α : Type} (f : α → Bool) : ∀ l : List α, blsD (l.map fun x => D.bl (f x)) = some (l.map f)
  | [] => rfl
  | i :: l => by
    rw [List.map_cons, blsD, blsD_map f l]
    rfl
theorem intsD_map {α : Type} (f : α → Int) : ∀ l : List α, intsD (l.map fun x => D.int (f x)) = some (l.map f)
  | [] => rfl
  | i :: l => by
    rw [List.map_cons, intsD, intsD_map f l]
    rfl
theorem eqv_int {a b : Int} : D.eqv (.int a) (.int b) = (a == b) := by simp [D.eqv]
theorem fzs_int : ∀ l : List Int, D.fzs (l.map .int) = true
  | [] => by simp [D.fzs]
  | i :: l => by simp [D.fzs, D.fz, fzs_int l]
theorem dps_int : ∀ l : List Int, D.dps (l.map .int) = 0
  | [] => by simp [D.dps]
  | i :: l => by simp [D.dps, D.dp, dps_int l]
theorem any_int (x : Int) : ∀ l : List Int, (l.map D.int).any (fun z => z.eqv (.int x)) = l.contains x
  | [] => rfl
  | i :: l => by
    rw [List.map_cons, List.any_cons, any_int x l, eqv_int, List.contains_cons]
    congr 1
    rw [Bool.eq_iff_iff, beq_iff_eq, beq_iff_eq]
    exact eq_comm
theorem in_ints {x : Int} {l : List Int} {S : Sto} : cmpR .isIn (.int x) (.tup (l.map .int)) S = .ok (.bl (l.contains x)) S := by
  show ck ((D.int x).fz = true ∧ (D.int x).dp ≤ 63 ∧ D.fzs (l.map .int) = true ∧ D.dps (l.map .int) ≤ 63) (R.ok (D.bl ((l.map D.int).any fun z => z.eqv (.int x))) S) = _
  rw [any_int]
  exact ck_of ⟨by simp [D.fz], by simp [D.dp], fzs_int l, by rw [dps_int]; omega⟩
mutual
theorem eqv_self : ∀ d : D, d.fz = true → d.eqv d = true
  | .non, _ => by simp [D.eqv]
  | .bl _, _ => by simp [D.eqv]
  | .int _, _ => by simp [D.eqv]
  | .str _, _ => by simp [D.eqv]
  | .tup xs, h => by simp only [D.eqv]; exact eqvs_self xs (by simpa [D.fz] using h)
  | .lst xs, h => by simp only [D.eqv]; exact eqvs_self xs (by simpa [D.fz] using h)
  | .scr xs, h => by simp only [D.eqv]; exact eqvs_self xs (by simpa [D.fz] using h)
  | .ref _, h => by simp [D.fz] at h
  | .ins _ _, h => by simp [D.fz] at h
  | .ty _, h => by simp [D.fz] at h
theorem eqvs_self : ∀ ds : List D, D.fzs ds = true → D.eqvs ds ds = true
  | [], _ => by simp [D.eqvs]
  | d :: ds, h => by
    simp only [D.fzs, Bool.and_eq_true] at h
    simp only [D.eqvs, Bool.and_eq_true]
    exact ⟨eqv_self d h.1, eqvs_self ds h.2⟩
end
end Iv
namespace Iv
open PySem
theorem lcLoop_map {α : Type} {step : D → Sto → R (List D)} {enc : α → D} {f : α → D} {S : Sto} {items : List α} (h : ∀ a ∈ items, step (enc a) S = .ok [f a] S) : lcLoop .fix step (items.map enc) S = .ok (items.map f) S :=
  (lcLoop_enc (f := fun a => [f a]) h).trans (by rw [flat_one])
theorem lcLoop_filter {α : Type} {step : D → Sto → R (List D)} {enc : α → D} {p : α → Bool} {f : α → D} {S : Sto} {items : List α} (h : ∀ a ∈ items, step (enc a) S = .ok (if p a = true then [f a] else []) S) : lcLoop .fix step (items.map enc) S = .ok ((items.filter p).map f) S :=
  (lcLoop_enc (f := fun a => if p a = true then [f a] else []) h).trans (by rw [flat_if])
theorem bi_all {α : Type} {l : List α} {f : α → Bool} {S : Sto} : biR .all [.lst (l.map fun x => .bl (f x))] S = .ok (.bl (l.all f)) S := by
  show (match (some (l.map fun x => D.bl (f x))).bind blsD with | some bs => R.ok (D.bl (bs.all id)) S | none => .err) = _
  rw [Option.bind_some, blsD_map]
  show R.ok (D.bl ((l.map f).all id)) S = _
  rw [List.all_map]
  rfl
theorem bi_minL {α : Type} {l : List α} {f : α → Int} {S : Sto} {m : Int} (h : minI (l.map f) = some m) : biR .minL [.lst (l.map fun x => .int (f x))] S = .ok (.int m) S := by
  show (match ((some (l.map fun x => D.int (f x))).bind intsD).bind minI with | some i => R.ok (D.int i) S | none => .err) = _
  rw [Option.bind_some, intsD_map, Option.bind_some, h]
theorem bi_sumL {α : Type} {l : List α} {f : α → Int} {S : Sto} : biR .sumL [.lst (l.map fun x => .int (f x))] S = .ok (.int (l.map f).sum) S := by
  show (match (some (l.map fun x => D.int (f x))).bind intsD with | some i => R.ok (D.int i.sum) S | none => .err) = _
  rw [Option.bind_some, intsD_map]
theorem bi_sumS {α : Type} {l : List α} {f : α → Int} {S : Sto} {s : Int} : biR .sumS [.lst (l.map fun x => .int (f x)), .int s] S = .ok (.int (s + (l.map f).sum)) S := by
  show (match (some (l.map fun x => D.int (f x))).bind intsD with | some i => R.ok (D.int (s + i.sum)) S | none => .err) = _
  rw [Option.bind_some, intsD_map]
end Iv
namespace Iv
open PySem
noncomputable abbrev forStep (F : CE) (t : Tg) (body : List St) : D → Env → Sto → R Fl := fun d ρ S => (asg F t d ρ S).st fun ρ S => exs F body ρ S
theorem ex_for {F : CE} {t : Tg} {it : It} {body : List St} {ρ : Env} {S S1 : Sto} {src : Src} {items : List D} (h : evIt F it ρ S = .ok (src, items) S1) : ex F (.for t it body) ρ S = forLoop src (forStep F t body) items ρ S1 := by
  rw [ex, h]
  rfl
theorem forStep_var {F : CE} {i : Nat} {body : List St} {d : D} {ρ : Env} {S : Sto} : forStep F (.var i) body d ρ S = exs F body (ρ.set i (some d)) S := by
  unfold forStep
  rw [asg]
  rfl
theorem exs_end {F : CE} {ρ : Env} {S : Sto} : exs F [] ρ S = .ok (.next ρ) S := by rw [exs]
theorem sum_take_succ {α : Type} (f : α → Int) (l : List α) (i : Nat) (a : α) (h : l[i]? = some a) : ((l.take (i + 1)).map f).sum = ((l.take i).map f).sum + f a := by
  rw [List.take_add_one, h]
  simp
theorem get_map {α β : Type} {f : α → β} {l : List α} {i : Nat} {b : β} (h : (l.map f)[i]? = some b) : ∃ a, l[i]? = some a ∧ b = f a := by
  rw [List.getElem?_map] at h
  obtain ⟨a, ha, e⟩ := Option.map_eq_some_iff.mp h
  exact ⟨a, ha, e.symm⟩
theorem rng_get {lo : Int} {n i : Nat} {d : D} (h : (rngD lo n)[i]? = some d) : d = .int (lo + i) ∧ i < n := by
  unfold rngD at h
  obtain ⟨j, hj, rfl⟩ := get_map h
  obtain ⟨hl, e⟩ := List.getElem?_eq_some_iff.mp hj
  rw [List.getElem_range] at e
  rw [List.length_range] at hl
  subst e
  exact ⟨rfl, hl⟩
theorem rng_len {lo : Int} {n : Nat} : (rngD lo n).length = n := by
  unfold rngD
  rw [List.length_map, List.length_range]
end Iv
namespace Iv
open PySem
section
variable {F : CE} {a b : E} {ρ ρ' : Env} {S S1 S2 S3 : Sto} {x y z : D}
theorem ev_bin {box : Bool} {op : Bop} (h : ev F a ρ S = .ok x S1) (h' : ev F b ρ S1 = .ok y S2) : ev F (.bin box op a b) ρ S = binR box op x y S2 := by
  rw [ev, h]
  simp only [R.bind_ok]
  rw [h']
  rfl
theorem ev_cmp {op : Cop} (h : ev F a ρ S = .ok x S1) (h' : ev F b ρ S1 = .ok y S2) : ev F (.cmp op a b) ρ S = cmpR op x y S2 := by
  rw [ev, h]
  simp only [R.bind_ok]
  rw [h']
  rfl
theorem ev_idx (h : ev F a ρ S = .ok x S1) (h' : ev F b ρ S1 = .ok y S2) : ev F (.idx a b) ρ S = idxR x y S2 := by
  rw [ev, h]
  simp only [R.bind_ok]
  rw [h']
  rfl
theorem ex_aug {i : Nat} {op : Bop} (hi : ρ[i]? = some (some x)) (h : ev F a ρ S = .ok y S1) (h' : augR op x y S1 = .ok z S2) : ex F (.aug i op a) ρ S = .ok (.next (ρ.set i (some z))) S2 := by
  rw [ex, hi]
  simp only
  rw [h, R.bind_ok, h', R.go_ok]
theorem ex_ite {c : E} {p q : List St} {k : Bool} {r : R Fl} (h : ev F c ρ S = .ok (.bl k) S1) (hr : (if k = true then exs F p ρ S1 else exs F q ρ S1) = r) : ex F (.ite c p q) ρ S = r := by
  rw [ex, h, R.bind_ok]
  exact hr
theorem ex_expr (h : ev F a ρ S = .ok x S1) : ex F (.expr a) ρ S = .ok (.next ρ) S1 := by
  rw [ex, h]
  rfl
theorem exs_one {st : St} {f : Fl} (h : ex F st ρ S = .ok f S1) : exs F [st] ρ S = .ok f S1 := by
  rw [exs, h]
  cases f <;> simp [exs]
end
end Iv
namespace Iv
theorem Keep.fresh {bs cs : List Nat} {S S' : Sto} (h : Keep cs S S') (k : ∀ b ∈ cs, b ∈ bs ∨ S.length ≤ b) : Keep bs S S' :=
  ⟨h.le, fun i l n => h.eq i l fun z => (k i z).elim n fun q => by omega⟩
end Iv
namespace Iv
open PySem
theorem lcLoop_mapS {α : Type} {step : D → Sto → R (List D)} {enc : α → D} {f : α → D} {S : Sto} {src : Src} (ht : src.there S) : ∀ {items : List α}, (∀ a ∈ items, step (enc a) S = .ok [f a] S) → lcLoop src step (items.map enc) S = .ok (items.map f) S
  | [], _ => by
    rw [List.map_nil, lcLoop]
    exact ck_of ht
  | d :: ds, h => by
    rw [List.map_cons, lcLoop, ck_of ht, h d (List.mem_cons_self ..)]
    dsimp only
    rw [lcLoop_mapS ht fun e he => h e (List.mem_cons_of_mem _ he)]
    rfl
theorem ev_tup {F : CE} {es : List E} {ρ : Env} {S S1 : Sto} {ds : List D} (h : evs F es ρ S = .ok ds S1) (l : ds.length ≤ 1000) : ev F (.tup es) ρ S = .ok (.tup ds) S1 := by
  rw [ev, h, R.bind_ok]
  exact ck_of (Nat.le_trans l (by decide))
theorem ev_lst {F : CE} {box : Bool} {es : List E} {ρ : Env} {S S1 : Sto} {ds : List D} (h : evs F es ρ S = .ok ds S1) (l : ds.length ≤ 1000) : ev F (.lst box es) ρ S = mkL box ds S1 := by
  rw [ev, h, R.bind_ok]
  exact ck_of (Nat.le_trans l (by decide))
theorem evs_nil {F : CE} {ρ : Env} {S : Sto} : evs F [] ρ S = .ok [] S := by rw [evs]
theorem evs_cons {F : CE} {e : E} {es : List E} {ρ : Env} {S S1 S2 : Sto} {d : D} {ds : List D} (h : ev F e ρ S = .ok d S1) (h' : evs F es ρ S1 = .ok ds S2) : evs F (e :: es) ρ S = .ok (d :: ds) S2 := by
  rw [evs, h, R.bind_ok, h']
  rfl
theorem evIt_e {F : CE} {e : E} {ρ : Env} {S S1 : Sto} {x : D} {w : Src × List D} (h : ev F e ρ S = .ok x S1) (hw : walkOf S1 x = some w) : evIt F (.e e) ρ S = .ok w S1 := by
  rw [evIt, h, R.bind_ok, hw]
theorem evIt_rng1 {F : CE} {e : E} {ρ : Env} {S S1 : Sto} {i : Int} (h : ev F e ρ S = .ok (.int i) S1) (hi : smallI i) : evIt F (.rng1 e) ρ S = .ok (.fix, rngD 0 i.toNat) S1 := by
  rw [evIt, h, R.bind_ok]
  exact ck_of hi
end Iv
namespace Iv
open PySem
theorem fzs_map {α : Type} {f : α → D} : ∀ {l : List α}, (∀ a ∈ l, (f a).fz = true) → D.fzs (l.map f) = true
  | [], _ => by simp [D.fzs]
  | a :: l, h => by
    rw [List.map_cons]
    simp only [D.fzs, Bool.and_eq_true]
    exact ⟨h a (List.mem_cons_self ..), fzs_map fun b hb => h b (List.mem_cons_of_mem _ hb)⟩
theorem dps_map {α : Type} {f : α → D} {n : Nat} : ∀ {l : List α}, (∀ a ∈ l, (f a).dp ≤ n) → D.dps (l.map f) ≤ n
  | [], _ => by simp [D.dps]
  | a :: l, h => by
    rw [List.map_cons]
    simp only [D.dps]
    exact Nat.max_le.mpr ⟨h a (List.mem_cons_self ..), dps_map fun b hb => h b (List.mem_cons_of_mem _ hb)⟩
theorem ne_self {d : D} {S : Sto} (hu : unbox S d = d) (hf : d.fz = true) (hd : d.dp ≤ 64) : cmpR .ne d d S = .ok (.bl false) S := by
  show ck ((unbox S d).fz = true ∧ (unbox S d).fz = true ∧ (unbox S d).dp ≤ 64 ∧ (unbox S d).dp ≤ 64) (R.ok (D.bl (!((unbox S d).eqv (unbox S d)))) S) = _
  rw [hu, eqv_self d hf]
  exact ck_of ⟨hf, hf, hd, hd⟩
theorem ev_or_f {F : CE} {a b : E} {ρ : Env} {S S1 : Sto} (h : ev F a ρ S = .ok (.bl false) S1) : ev F (.or a b) ρ S = ev F b ρ S1 := by
  rw [ev, h, R.bind_ok, tru_bl, R.bind_ok]
  exact if_neg Bool.false_ne_true
end Iv

/-! ### plain laws: more tools (deep ==, walks of boxes, classes) -/
namespace Iv
open PySem
theorem fzs_get {xs : List D} (h : D.fzs xs = true) : ∀ d ∈ xs, d.fz = true := by
  induction xs with
  | nil => intro d hd; cases hd
  | cons x xs ih =>
    simp only [D.fzs, Bool.and_eq_true] at h
    intro d hd
    rcases List.mem_cons.mp hd with rfl | hd
    · exact h.1
    · exact ih h.2 d hd
theorem dps_get {xs : List D} {d : D} (hd : d ∈ xs) : d.dp ≤ D.dps xs := by
  induction xs with
  | nil => cases hd
  | cons x xs ih =>
    simp only [D.dps]
    rcases List.mem_cons.mp hd with rfl | hd
    · exact Nat.le_max_left _ _
    · exact Nat.le_trans (ih hd) (Nat.le_max_right _ _)
theorem fzs_of {xs : List D} (h : ∀ d ∈ xs, d.fz = true) : D.fzs xs = true := by
  have := fzs_map (f := id) h
  rwa [List.map_id] at this
theorem dps_of {xs : List D} {n : Nat} (h : ∀ d ∈ xs, d.dp ≤ n) : D.dps xs ≤ n := by
  have := dps_map (f := id) h
  rwa [List.map_id] at this
theorem deep_fz {S : Sto} : ∀ (k : Nat) {d : D}, d.fz = true → deep k S d = d
  | 0, _, _ => rfl
  | k + 1, d, h => by
    have go : ∀ xs : List D, D.fzs xs = true → xs.map (deep k S) = xs := fun xs hx => by
      conv => rhs; rw [← List.map_id xs]
      exact List.map_congr_left fun x hm => deep_fz k (fzs_get hx x hm)
    cases d with
    | tup xs => rw [deep, go xs (by simpa [D.fz] using h)]
    | lst xs => rw [deep, go xs (by simpa [D.fz] using h)]
    | ref n => cases h
    | _ => rfl
theorem deep_up {S : Sto} : ∀ (k : Nat) {d : D}, (deep k S d).fz = true → deep (k + 1) S d = deep k S d
  | 0, d, h => deep_fz 1 h
  | k + 1, d, h => by
    have go : ∀ xs : List D, D.fzs (xs.map (deep k S)) = true → xs.map (deep (k + 1) S) = xs.map (deep k S) := fun xs hx =>
      List.map_congr_left fun x hm => deep_up k (fzs_get hx _ (List.mem_map.mpr ⟨x, hm, rfl⟩))
    cases d with
    | tup xs =>
      rw [deep] at h ⊢
      rw [go xs (by simpa [D.fz] using h), deep]
    | lst xs =>
      rw [deep] at h ⊢
      rw [go xs (by simpa [D.fz] using h), deep]
    | ref n =>
      have e : ∀ j, deep (j + 1) S (.ref n) = match cellAt S n with
        | some (.lst xs) => .lst (xs.map (deep j S))
        | _ => .ref n := fun _ => rfl
      rw [e] at h
      rw [e, e]
      split at h
      · rename_i xs hz
        rw [go xs (by simpa [D.fz] using h)]
      · cases h
    | _ => rfl
mutual
/-- no list or tuple is longer -/
def D.wd (n : Nat) : D → Bool
  | .tup xs => decide (xs.length ≤ n) && D.wds n xs
  | .lst xs => decide (xs.length ≤ n) && D.wds n xs
  | .scr xs => decide (xs.length ≤ n) && D.wds n xs
  | _ => true
def D.wds (n : Nat) : List D → Bool
  | [] => true
  | x :: xs => x.wd n && D.wds n xs
end
theorem wds_get {n : Nat} {xs : List D} (h : D.wds n xs = true) : ∀ d ∈ xs, d.wd n = true := by
  induction xs with
  | nil => intro d hd; cases hd
  | cons x xs ih =>
    simp only [D.wds, Bool.and_eq_true] at h
    intro d hd
    rcases List.mem_cons.mp hd with rfl | hd
    · exact h.1
    · exact ih h.2 d hd
theorem wds_of {n : Nat} {xs : List D} (h : ∀ d ∈ xs, d.wd n = true) : D.wds n xs = true := by
  induction xs with
  | nil => simp [D.wds]
  | cons x xs ih =>
    simp only [D.wds, Bool.and_eq_true]
    exact ⟨h x (List.mem_cons_self ..), ih fun d hd => h d (List.mem_cons_of_mem _ hd)⟩
/-- x, read through its boxes, is the frozen d -/
structure Is (S : Sto) (x d : D) : Prop where
  eq : deep 8 S x = d
  fz : d.fz = true
theorem Is.of {S : Sto} {d : D} (h : d.fz = true) : Is S d d := ⟨deep_fz 8 h, h⟩
theorem ned_is {S : Sto} {x d : D} (h : Is S x d) (l : d.dp ≤ 64) : cmpR .ned x d S = .ok (.bl false) S := by
  show ck ((deep 8 S x).fz = true ∧ (deep 8 S d).fz = true ∧ (deep 8 S x).dp ≤ 64 ∧ (deep 8 S d).dp ≤ 64) (R.ok (D.bl (!((deep 8 S x).eqv (deep 8 S d)))) S) = _
  rw [h.eq, deep_fz 8 h.fz, eqv_self d h.fz]
  exact ck_of ⟨h.fz, h.fz, l, l⟩
theorem Is.ref {S : Sto} {n : Nat} {xs ds : List D} (hc : cellAt S n = some (.lst xs)) (hl : xs.length = ds.length) (h : ∀ (i : Nat) (x d : D), xs[i]? = some x → ds[i]? = some d → deep 7 S x = d ∧ d.fz = true) : Is S (.ref n) (.lst ds) := by
  have e : xs.map (deep 7 S) = ds := by
    refine List.ext_getElem? fun i => ?_
    rw [List.getElem?_map]
    by_cases hi : i < xs.length
    · rw [List.getElem?_eq_getElem hi, List.getElem?_eq_getElem (hl ▸ hi)]
      exact congrArg some (h i _ _ (List.getElem?_eq_getElem hi) (List.getElem?_eq_getElem (hl ▸ hi))).1
    · rw [List.getElem?_eq_none (by omega), List.getElem?_eq_none (by omega)]
      rfl
  refine ⟨?_, ?_⟩
  · show (match cellAt S n with | some (.lst xs) => D.lst (xs.map (deep 7 S)) | _ => .ref n) = _
    rw [hc]
    dsimp only
    rw [e]
  · rw [D.fz]
    refine fzs_of fun d hd => ?_
    obtain ⟨i, hi, rfl⟩ := List.mem_iff_getElem.mp hd
    exact (h i _ _ (List.getElem?_eq_getElem (hl ▸ hi)) (List.getElem?_eq_getElem hi)).2
/-- the parts of what reads as a list or a tuple -/
theorem Is.parts {S : Sto} {x d : D} (h : Is S x d) : (∃ ds, (d = .lst ds ∨ d = .scr ds) ∧ (∃ src xs, walkZ S x = some (src, xs) ∧ src.there S ∧ xs.length = ds.length ∧ ∀ p ∈ xs.zip ds, Is S p.1 p.2) ∧ kOf x = true ∧ tyOf S x = some "list") ∨
    (∃ ds, d = .tup ds ∧ (∃ src xs, walkZ S x = some (src, xs) ∧ src.there S ∧ xs.length = ds.length ∧ ∀ p ∈ xs.zip ds, Is S p.1 p.2) ∧ kOf x = false ∧ tyOf S x = some "tuple") ∨ (x = d ∧ ∀ ds, d ≠ .lst ds ∧ d ≠ .tup ds ∧ d ≠ .scr ds) := by
  obtain ⟨e, f⟩ := h
  have self : ∀ ds : List D, D.fzs ds = true → ∀ p ∈ ds.zip ds, Is S p.1 p.2 := fun ds hf p hp => by
    obtain ⟨i, hi⟩ := List.mem_iff_getElem?.mp hp
    rw [List.getElem?_zip_eq_some] at hi
    have : p.1 = p.2 := Option.some.inj (hi.1.symm.trans hi.2)
    rw [← this]
    exact Is.of (fzs_get hf _ (List.mem_of_getElem? hi.1))
  have sub : ∀ xs : List D, D.fzs (xs.map (deep 7 S)) = true → ∀ p ∈ xs.zip (xs.map (deep 7 S)), Is S p.1 p.2 := fun xs hf p hp => by
    obtain ⟨i, hi⟩ := List.mem_iff_getElem?.mp hp
    rw [List.getElem?_zip_eq_some, List.getElem?_map] at hi
    obtain ⟨h1, h2⟩ := hi
    rw [h1] at h2
    have e2 : deep 7 S p.1 = p.2 := Option.some.inj h2
    have hz := fzs_get hf (deep 7 S p.1) (List.mem_map.mpr ⟨p.1, List.mem_of_getElem? h1, rfl⟩)
    exact ⟨(deep_up 7 hz).trans e2, e2 ▸ hz⟩
  cases x with
  | tup xs =>
    rw [deep] at e
    subst e
    exact .inr (.inl ⟨_, rfl, ⟨.fix, xs, rfl, trivial, by rw [List.length_map], sub xs (by simpa [D.fz] using f)⟩, rfl, rfl⟩)
  | lst xs =>
    rw [deep] at e
    subst e
    exact .inl ⟨_, .inl rfl, ⟨.fix, xs, rfl, trivial, by rw [List.length_map], sub xs (by simpa [D.fz] using f)⟩, rfl, rfl⟩
  | scr xs =>
    have e' : D.scr xs = d := e
    subst e'
    exact .inl ⟨_, .inr rfl, ⟨.fix, xs, rfl, trivial, rfl, self xs (by simpa [D.fz] using f)⟩, rfl, rfl⟩
  | ref n =>
    have e' : (match cellAt S n with | some (.lst xs) => D.lst (xs.map (deep 7 S)) | _ => .ref n) = d := e
    split at e'
    · rename_i xs hz
      subst e'
      refine .inl ⟨_, .inl rfl, ⟨.box n xs, xs, ?_, hz, by rw [List.length_map], sub xs (by simpa [D.fz] using f)⟩, rfl, ?_⟩
      · show (match cellAt S n with | some (.lst xs) => some (Src.box n xs, xs) | _ => none) = _
        rw [hz]
      · show (match cellAt S n with | some (.lst _) => some "list" | _ => none) = _
        rw [hz]
    · subst e'
      cases f
  | _ =>
    have e' := e
    rw [show ∀ z, deep 8 S z = _ from fun _ => rfl] at e'
    exact .inr (.inr ⟨e', fun ds => by subst e'; exact ⟨(fun z => by cases z), (fun z => by cases z), (fun z => by cases z)⟩⟩)
section
variable {F : CE} {a b c : E} {ρ : Env} {S S1 S2 S3 : Sto} {x y z d : D}
theorem evIt_zipb {v w : Src × List D} (h : ev F a ρ S = .ok x S1) (h' : ev F b ρ S1 = .ok y S2) (hv : walkZ S2 x = some v) (hw : walkZ S2 y = some w) (hk : kOf x = kOf y) : evIt F (.zipb a b) ρ S = .ok (.two v.1 w.1, zipD v.2 w.2) S2 := by
  rw [evIt, h, R.bind_ok, h', R.bind_ok, hv, hw]
  exact ck_of hk
theorem evIt_rng3 {i j k : Int} (h : ev F a ρ S = .ok (.int i) S1) (h' : ev F b ρ S1 = .ok (.int j) S2) (h'' : ev F c ρ S2 = .ok (.int k) S3) (q : smallI i ∧ smallI j ∧ i ≤ j ∧ 0 < k ∧ k < 1073741824) : evIt F (.rng3 a b c) ρ S = .ok (.fix, rngS i k (rngN i j k)) S3 := by
  rw [evIt, h, R.bind_ok, h', R.bind_ok, h'', R.bind_ok]
  exact ck_of q
theorem ev_isit {ts : List String} {k : Bool} (h : ev F a ρ S = .ok x S1) (hk : isiT S1 x ts = some k) (hl : ts.length ≤ 100) : ev F (.isit a ts) ρ S = .ok (.bl k) S1 := by
  rw [ev, h, R.bind_ok, hk]
  exact ck_of hl
theorem ev_attr {f : Nat} (h : ev F a ρ S = .ok x S1) : ev F (.attr a f) ρ S = attrR x f S1 := by
  rw [ev, h, R.bind_ok]
theorem ev_meth {ms : List (Nat × Nat × List Ar)} {es : List E} {cl f : Nat} {arr : List Ar} {ds ps : List D} (h : ev F a ρ S = .ok x S1) (hc : clsOf S1 x = some cl) (hm : ms.lookup cl = some (f, arr)) (he : evs F es ρ S1 = .ok ds S2) (hp : pick (x :: ds) arr = some ps) : ev F (.meth a ms es) ρ S = F f ps S2 := by
  rw [ev, h, R.bind_ok, hc, Option.bind_some, hm]
  dsimp only
  rw [he, R.bind_ok]
  unfold callR
  rw [hp]
theorem ev_make {cl f : Nat} {arr : List Ar} {es : List E} {ds ps : List D} (he : evs F es ρ S = .ok ds S1) (hp : pick (.ref S1.length :: ds) arr = some ps) (hf : F f ps (S1 ++ [some (.ins cl [])]) = .ok .non S2) : ev F (.make false cl f arr es) ρ S = .ok (.ref S1.length) S2 := by
  rw [ev, he, R.bind_ok]
  unfold makeR callR
  rw [hp]
  dsimp only
  rw [hf]
  rfl
theorem ex_attr {f : Nat} {cs : List Nat} {cl n : Nat} {fs : List (Nat × D)} (h : ev F a ρ S = .ok d S1) (h' : ev F b ρ S1 = .ok (.ref n) S2) (hc : cellAt S2 n = some (.ins cl fs)) (hcs : cl ∈ cs) (hl : fs.length < 900) : ex F (.asg (.attr b f cs) a) ρ S = .ok (.next ρ) (setAt S2 n (.ins cl (putFd f d fs))) := by
  rw [ex, h, R.go_ok, asg, h', R.bind_ok]
  unfold sattrR
  dsimp only
  rw [hc]
  dsimp only
  rw [ck_of ⟨hcs, hl⟩]
  rfl
theorem attr_ref {n f cl : Nat} {fs : List (Nat × D)} (hc : cellAt S n = some (.ins cl fs)) (h : fs.lookup f = some d) : attrR (.ref n) f S = .ok d S := by
  unfold attrR
  dsimp only
  rw [hc]
  dsimp only
  rw [h]
end
end Iv
namespace Iv
open PySem
section
variable {F : CE} {ρ ρ' : Env} {S S1 S2 : Sto} {d : D} {e c : E} {t : Tg} {body : List St}
theorem ex_asgT (h : ev F e ρ S = .ok d S1) (ha : asg F t d ρ S1 = .ok ρ' S2) : ex F (.asg t e) ρ S = .ok (.next ρ') S2 := by
  rw [ex, h, R.go_ok, ha]
  rfl
theorem while_end {N : Nat} (h : ev F c ρ S = .ok (.bl false) S1) : whileLoop (fun ρ S => (ev F c ρ S).bind fun x S => tru x S) (fun ρ S => exs F body ρ S) (N + 1) ρ S = .ok (.next ρ) S1 := by
  rw [whileLoop, h, R.bind_ok, tru_bl, R.go_ok]
  rfl
theorem while_next {N : Nat} (h : ev F c ρ S = .ok (.bl true) S1) (hb : exs F body ρ S1 = .ok (.next ρ') S2) : whileLoop (fun ρ S => (ev F c ρ S).bind fun x S => tru x S) (fun ρ S => exs F body ρ S) (N + 1) ρ S = whileLoop (fun ρ S => (ev F c ρ S).bind fun x S => tru x S) (fun ρ S => exs F body ρ S) N ρ' S2 := by
  rw [whileLoop, h, R.bind_ok, tru_bl, R.go_ok, if_pos rfl, hb]
  rfl
theorem ex_while {r : R Fl} (h : whileLoop (fun ρ S => (ev F c ρ S).bind fun x S => tru x S) (fun ρ S => exs F body ρ S) 1000000 ρ S = r) : ex F (.while c body) ρ S = r := by
  rw [ex]
  exact h
end
end Iv
namespace Iv
open PySem
section
variable {F : CE} {ρ ρ' : Env} {S S1 S2 : Sto} {d : D} {o : E} {es : List E}
theorem ev_bm {mt : Bm} {x : D} {ds : List D} (h : ev F o ρ S = .ok x S1) (hc : bmOk mt x S1 = true) (he : evs F es ρ S1 = .ok ds S2) : ev F (.bm mt o es) ρ S = bmR mt x ds S2 := by
  rw [ev, h, R.bind_ok, ck_of hc, he, R.bind_ok]
theorem ev_insert {p : Nat} {xs xs0 : List D} {i : Int} (h : ev F o ρ S = .ok (.ref p) S1) (hc : cellAt S1 p = some (.lst xs0)) (he : evs F es ρ S1 = .ok [.int i, d] S2) (hc2 : cellAt S2 p = some (.lst xs)) (hl : xs.length < 1000) (h0 : 0 ≤ i) (h1 : i ≤ 1000) : ev F (.bm .insert o es) ρ S = .ok .non (setAt S2 p (.lst (insertAt xs i d))) := by
  rw [ev_bm h (by unfold bmOk; dsimp only; rw [hc]) he]
  show (match cellAt S2 p with | some (.lst xs) => ck (xs.length < sizeLine ∧ 0 ≤ i ∧ i < 2 ^ 63) (R.ok D.non (setAt S2 p (.lst (insertAt xs i d)))) | _ => .err) = _
  rw [hc2]
  exact ck_of ⟨Nat.lt_of_lt_of_le hl (by decide), h0, by omega⟩
theorem ev_append {p : Nat} {xs xs0 : List D} (h : ev F o ρ S = .ok (.ref p) S1) (hc : cellAt S1 p = some (.lst xs0)) (he : evs F es ρ S1 = .ok [d] S2) (hc2 : cellAt S2 p = some (.lst xs)) (hl : xs.length < 1000) : ev F (.bm .append o es) ρ S = .ok .non (setAt S2 p (.lst (xs ++ [d]))) := by
  rw [ev_bm h (by unfold bmOk; dsimp only; rw [hc]) he]
  show (match cellAt S2 p with | some (.lst xs) => ck (xs.length < sizeLine) (R.ok D.non (setAt S2 p (.lst (xs ++ [d])))) | _ => .err) = _
  rw [hc2]
  exact ck_of (Nat.lt_of_lt_of_le hl (by decide))
theorem ev_clear {p : Nat} {xs : List D} (h : ev F o ρ S = .ok (.ref p) S1) (hc : cellAt S1 p = some (.lst xs)) : ev F (.bm .clear o []) ρ S = .ok .non (setAt S1 p (.lst [])) := by
  rw [ev_bm h (by unfold bmOk; dsimp only; rw [hc]) evs_nil]
  show (match cellAt S1 p with | some (.lst _) => (R.ok D.non (setAt S1 p (.lst []))) | _ => .err) = _
  rw [hc]
theorem insertAt_len {xs : List D} {i : Int} : (insertAt xs i d).length = xs.length + 1 := by
  unfold insertAt
  rw [List.length_append, List.length_append, List.length_singleton, List.length_take, List.length_drop]
  omega
theorem insertAt_mem {xs : List D} {i : Int} {x : D} (h : x ∈ insertAt xs i d) : x = d ∨ x ∈ xs := by
  unfold insertAt at h
  rcases List.mem_append.mp h with h | h
  · rcases List.mem_append.mp h with h | h
    · exact .inr (List.mem_of_mem_take h)
    · exact .inl (List.mem_singleton.mp h)
  · exact .inr (List.mem_of_mem_drop h)
theorem seqOf_box {S : Sto} {p : Nat} {xs : List D} (h : cellAt S p = some (.lst xs)) : seqOf S (.ref p) = some xs := by rw [seqOf_ref, h]
theorem notIn_tup {ts xs : List D} {y : D} {S : Sto} (h : seqOf S y = some xs) (f : D.fzs ts = true) (l : D.dps ts ≤ 60) (f2 : D.fzs xs = true) (l2 : D.dps xs ≤ 60) : cmpR .notIn (.tup ts) y S = .ok (.bl (!(xs.any fun z => z.eqv (.tup ts)))) S := by
  have e : cmpR .notIn (.tup ts) y S = match seqOf S y with
    | some ys => ck ((D.tup ts).fz = true ∧ (D.tup ts).dp ≤ 63 ∧ D.fzs ys = true ∧ D.dps ys ≤ 63) (R.ok (D.bl (!(ys.any fun z => z.eqv (.tup ts)))) S)
    | none => .err := by
    cases y <;> rfl
  rw [e, h]
  exact ck_of ⟨by rw [D.fz]; exact f, by rw [D.dp]; omega, f2, by omega⟩
theorem isIn_tup {ts xs : List D} {y : D} {S : Sto} (h : seqOf S y = some xs) (f : D.fzs ts = true) (l : D.dps ts ≤ 60) (f2 : D.fzs xs = true) (l2 : D.dps xs ≤ 60) : cmpR .isIn (.tup ts) y S = .ok (.bl (xs.any fun z => z.eqv (.tup ts))) S := by
  have e : cmpR .isIn (.tup ts) y S = match seqOf S y with
    | some ys => ck ((D.tup ts).fz = true ∧ (D.tup ts).dp ≤ 63 ∧ D.fzs ys = true ∧ D.dps ys ≤ 63) (R.ok (D.bl (ys.any fun z => z.eqv (.tup ts))) S)
    | none => .err := by
    cases y <;> rfl
  rw [e, h]
  exact ck_of ⟨by rw [D.fz]; exact f, by rw [D.dp]; omega, f2, by omega⟩
end
end Iv
namespace Iv
open PySem
theorem ev_notb {F : CE} {e : E} {ρ : Env} {S S1 : Sto} {b : Bool} (h : ev F e ρ S = .ok (.bl b) S1) : ev F (.not e) ρ S = .ok (.bl (!b)) S1 := by
  rw [ev, h, R.bind_ok, tru_bl, R.bind_ok]
theorem ev_or_t {F : CE} {a b : E} {ρ : Env} {S S1 : Sto} (h : ev F a ρ S = .ok (.bl true) S1) : ev F (.or a b) ρ S = .ok (.bl true) S1 := by
  rw [ev, h, R.bind_ok, tru_bl, R.bind_ok]
  exact if_pos rfl
theorem ev_and_t {F : CE} {a b : E} {ρ : Env} {S S1 : Sto} (h : ev F a ρ S = .ok (.bl true) S1) : ev F (.and a b) ρ S = ev F b ρ S1 := by
  rw [ev, h, R.bind_ok, tru_bl, R.bind_ok]
  exact if_pos rfl
theorem ev_and_f {F : CE} {a b : E} {ρ : Env} {S S1 : Sto} (h : ev F a ρ S = .ok (.bl false) S1) : ev F (.and a b) ρ S = .ok (.bl false) S1 := by
  rw [ev, h, R.bind_ok, tru_bl, R.bind_ok]
  exact if_neg Bool.false_ne_true
theorem cls_ref {S : Sto} {n cl : Nat} {fs : List (Nat × D)} (h : cellAt S n = some (.ins cl fs)) : clsOf S (.ref n) = some cl := by
  show (match cellAt S n with | some (.ins c _) => some c | _ => none) = _
  rw [h]
theorem walk_box {S : Sto} {n : Nat} {xs : List D} (h : cellAt S n = some (.lst xs)) : walkOf S (.ref n) = some (.box n xs, xs) := by
  show (match cellAt S n with | some (.lst xs) => some (Src.box n xs, xs) | _ => none) = _
  rw [h]
theorem ne_box {S : Sto} {n : Nat} {xs : List D} (h : cellAt S n = some (.lst xs)) (hf : (D.lst xs).fz = true) (hd : (D.lst xs).dp ≤ 64) : cmpR .ne (.ref n) (.lst xs) S = .ok (.bl false) S := by
  have e : unbox S (.ref n) = .lst xs := by rw [unbox_ref, h]
  show ck ((unbox S (.ref n)).fz = true ∧ (D.lst xs).fz = true ∧ (unbox S (.ref n)).dp ≤ 64 ∧ (D.lst xs).dp ≤ 64) (R.ok (D.bl (!((unbox S (.ref n)).eqv (.lst xs)))) S) = _
  rw [e, eqv_self _ hf]
  exact ck_of ⟨hf, hf, hd, hd⟩
end Iv
namespace Iv
open PySem
theorem lcLoop_encS {α : Type} {step : D → Sto → R (List D)} {enc : α → D} {f : α → List D} {S : Sto} {src : Src} (ht : src.there S) : ∀ {items : List α}, (∀ a ∈ items, step (enc a) S = .ok (f a) S) → lcLoop src step (items.map enc) S = .ok (items.flatMap f) S
  | [], _ => by
    rw [List.map_nil, lcLoop]
    exact ck_of ht
  | d :: ds, h => by
    rw [List.map_cons, lcLoop, ck_of ht, h d (List.mem_cons_self ..)]
    dsimp only
    rw [lcLoop_encS ht fun e he => h e (List.mem_cons_of_mem _ he)]
    rfl
theorem lcLoop_filterS {α : Type} {step : D → Sto → R (List D)} {enc : α → D} {p : α → Bool} {f : α → D} {S : Sto} {src : Src} {items : List α} (ht : src.there S) (h : ∀ a ∈ items, step (enc a) S = .ok (if p a = true then [f a] else []) S) : lcLoop src step (items.map enc) S = .ok ((items.filter p).map f) S :=
  (lcLoop_encS ht (f := fun a => if p a = true then [f a] else []) h).trans (by rw [flat_if])
section
variable {F : CE} {ρ ρ' : Env} {S S1 S2 S3 : Sto} {d x : D} {a b o : E} {body : List St} {t : Tg}
theorem evIt_enum {w : Src × List D} (h : ev F a ρ S = .ok x S1) (hw : walkL S1 x = some w) : evIt F (.enum none a) ρ S = .ok (w.1, enumD 0 w.2) S1 := by
  rw [evIt, h, R.bind_ok, evp, R.bind_ok, hw]
  exact ck_of rfl
theorem walkL_box {S : Sto} {n : Nat} {xs : List D} (h : cellAt S n = some (.lst xs)) : walkL S (.ref n) = some (.box n xs, xs) := walk_box h
theorem eq_nil {n : Nat} {xs : List D} (h : cellAt S n = some (.lst xs)) (hf : D.fzs xs = true) (hd : D.dps xs ≤ 60) : cmpR .eq (.ref n) (.lst []) S = .ok (.bl xs.isEmpty) S := by
  have e : unbox S (.ref n) = .lst xs := by rw [unbox_ref, h]
  show ck ((unbox S (.ref n)).fz = true ∧ (D.lst []).fz = true ∧ (unbox S (.ref n)).dp ≤ 64 ∧ (D.lst []).dp ≤ 64) (R.ok (D.bl ((unbox S (.ref n)).eqv (.lst []))) S) = _
  rw [e]
  have e2 : (D.lst xs).eqv (.lst []) = xs.isEmpty := by cases xs <;> simp [D.eqv, D.eqvs]
  rw [e2]
  exact ck_of ⟨by rw [D.fz]; exact hf, by simp [D.fz, D.fzs], by rw [D.dp]; omega, by simp [D.dp, D.dps]⟩
theorem idx_box {n i : Nat} {xs : List D} (h : cellAt S n = some (.lst xs)) (hi : xs[i]? = some d) : idxR (.ref n) (.int i) S = .ok d S := by
  show (match seqOf S (.ref n) with | some xs => (match atD xs (i : Int) with | some d => R.ok d S | none => .err) | none => .err) = _
  rw [seqOf_box h]
  have e : atD xs (i : Int) = some d := by
    unfold atD
    rw [if_pos (Int.natCast_nonneg _), Int.toNat_natCast]
    exact hi
  dsimp only
  rw [e]
theorem idx_lst {i : Nat} {xs : List D} (hi : xs[i]? = some d) : idxR (.lst xs) (.int i) S = .ok d S := by
  show (match atD xs (i : Int) with | some d => R.ok d S | none => .err) = _
  have e : atD xs (i : Int) = some d := by
    unfold atD
    rw [if_pos (Int.natCast_nonneg _), Int.toNat_natCast]
    exact hi
  rw [e]
theorem add_lst {xs ys : List D} (hl : xs.length + ys.length ≤ 1000) : binR false .add (.lst xs) (.lst ys) S = .ok (.lst (xs ++ ys)) S := by
  show ck (xs.length + ys.length ≤ sizeLine) (mkL false (xs ++ ys) S) = _
  exact ck_of (Nat.le_trans hl (by decide))
theorem asg_idx {n i : Nat} {xs : List D} (h : ev F a ρ S = .ok (.ref n) S1) (h' : ev F b ρ S1 = .ok (.int i) S2) (hc : cellAt S2 n = some (.lst xs)) (hi : i < xs.length) : asg F (.idx a b) d ρ S = .ok ρ (setAt S2 n (.lst (xs.set i d))) := by
  rw [asg, h, R.bind_ok, h', R.bind_ok]
  show ((match cellAt S2 n with | some (.lst xs) => ck (0 ≤ (i : Int) ∧ (i : Int) < xs.length) (R.ok () (setAt S2 n (.lst (xs.set (i : Int).toNat d)))) | _ => .err).bind fun _ S => .ok ρ S) = _
  rw [hc]
  dsimp only
  rw [ck_of ⟨by omega, by omega⟩, Int.toNat_natCast]
  rfl
theorem asg_slc {lo hi : E} {n i j : Nat} {xs ys : List D} (h : ev F a ρ S = .ok (.ref n) S1) (h1 : ev F lo ρ S1 = .ok (.int i) S2) (h2 : ev F hi ρ S2 = .ok (.int j) S3) (hc : cellAt S3 n = some (.lst xs)) (hij : i ≤ j) (hj : j ≤ xs.length) (hl : xs.length + ys.length ≤ 1000) : asg F (.slc a lo hi) (.lst ys) ρ S = .ok ρ (setAt S3 n (.lst (xs.take i ++ ys ++ xs.drop j))) := by
  rw [asg, h, R.bind_ok, h1, R.bind_ok, h2, R.bind_ok]
  show ((match cellAt S3 n with | some (.lst xs) => ck (0 ≤ (i : Int) ∧ (i : Int) ≤ j ∧ (j : Int) ≤ xs.length ∧ xs.length + ys.length ≤ sizeLine) (R.ok () (setAt S3 n (.lst (xs.take (i : Int).toNat ++ ys ++ xs.drop (j : Int).toNat)))) | _ => .err).bind fun _ S => .ok ρ S) = _
  rw [hc]
  dsimp only
  rw [ck_of ⟨by omega, by omega, by omega, Nat.le_trans hl (by decide)⟩, Int.toNat_natCast, Int.toNat_natCast]
  rfl
theorem ev_slcP {lo hi : Option E} {l h : Option Int} {xs : List D} (ha : ev F a ρ S = .ok (.lst xs) S) (hl : evp F lo ρ S = .ok l S) (hh : evp F hi ρ S = .ok h S) : ev F (.slc false a lo hi) ρ S = .ok (.lst (cutD xs l h)) S := by
  rw [ev, ha, R.bind_ok, hl, R.bind_ok, hh, R.bind_ok]
  rfl
theorem evp_no : evp F none ρ S = .ok none S := by simp [evp]
theorem evp_so {e : E} {i : Int} (he : ev F e ρ S = .ok (.int i) S1) : evp F (some e) ρ S = .ok (some i) S1 := by simp [evp, he]
end
end Iv

/-! ### running programs over data: what must hold ahead -/
namespace Iv
open PySem
@[irreducible] def Ru {α : Type} (r : R α) (Q : α → Sto → Prop) (E : Exc → Sto → Prop) : Prop := match r with
  | .ok a S => Q a S
  | .exc x S => E x S
  | .err => False
abbrev noE : Exc → Sto → Prop := fun _ _ => False
section
variable {α β : Type} {r r' : R α} {f : α → Sto → R β} {Q : β → Sto → Prop} {Qa : α → Sto → Prop} {E : Exc → Sto → Prop} {a : α} {x : Exc} {S S' : Sto}
theorem ru_ok : Ru (.ok a S) Qa E = Qa a S := by unfold Ru; rfl
theorem ru_exc : Ru (.exc x S : R α) Qa E = E x S := by unfold Ru; rfl
theorem ru_err : Ru (.err : R α) Qa E = False := by unfold Ru; rfl
theorem ru_bind : Ru (r.bind f) Q E = Ru r (fun a S => Ru (f a S) Q E) E := by cases r <;> simp only [ru_ok, ru_exc, ru_err, R.bind_ok, R.bind_err, R.bind_exc, R.go_ok, R.go_err, R.go_exc]
theorem ru_ck {c : Prop} [Decidable c] : Ru (ck c r) Qa E = (c ∧ Ru r Qa E) := by
  unfold ck
  split
  · rename_i h
    exact propext ⟨fun q => ⟨h, q⟩, fun q => q.2⟩
  · rename_i h
    rw [ru_err]; exact propext ⟨fun q => q.elim, fun q => absurd q.1 h⟩
theorem ru_ite {c : Prop} [Decidable c] : Ru (if c then r else r') Qa E = if c then Ru r Qa E else Ru r' Qa E := by split <;> rfl
theorem ru_go {f : α → Sto → R Fl} {Q : Fl → Sto → Prop} {ρ : Env} : Ru (r.go ρ f) Q E = Ru r (fun a S => Ru (f a S) Q E) (fun x S => Q (.raised x ρ) S) := by cases r <;> simp only [ru_ok, ru_exc, ru_err, R.bind_ok, R.bind_err, R.bind_exc, R.go_ok, R.go_err, R.go_exc]
theorem ru_st : Ru (r.st f) Q E = Ru r (fun a S => Ru (f a S) Q E) noE := by
  cases r with
  | ok a S => rw [R.st_ok, ru_ok]
  | exc x S => rw [ru_exc, show (R.exc x S).st f = .err from rfl, ru_err]
  | err => rw [R.st_err, ru_err, ru_err]
def flQ (f : Env → Sto → R Fl) (Q : Fl → Sto → Prop) (E : Exc → Sto → Prop) (w : Fl) (S : Sto) : Prop := match w with
  | .next ρ => Ru (f ρ S) Q E
  | w => Q w S
theorem ru_fl {r : R Fl} {f : Env → Sto → R Fl} {Q : Fl → Sto → Prop} : Ru (r.fl f) Q E = Ru r (flQ f Q E) noE := by
  cases r with
  | ok w S =>
    rw [ru_ok]
    cases w <;> simp only [R.fl_next, R.fl_ret, R.fl_brk, R.fl_cont, R.fl_raised, ru_ok, flQ]
  | exc x S => rw [ru_exc, show (R.exc x S).fl f = .err from rfl, ru_err]
  | err => rw [R.fl_err, ru_err, ru_err]
def turnQ (K : Env → Sto → Prop) (Q : Fl → Sto → Prop) (w : Fl) (S : Sto) : Prop := match w with
  | .next ρ => K ρ S
  | .cont ρ => K ρ S
  | .brk ρ => Q (.next ρ) S
  | w => Q w S
theorem ru_turn {r : R Fl} {f : Env → Sto → R Fl} {Q : Fl → Sto → Prop} : Ru (r.turn f) Q E = Ru r (turnQ (fun ρ S => Ru (f ρ S) Q E) Q) noE := by
  cases r with
  | ok w S =>
    rw [ru_ok]
    cases w <;> simp only [R.turn_next, R.turn_ret, R.turn_brk, R.turn_cont, R.turn_raised, ru_ok, turnQ]
  | exc x S => rw [ru_exc, show (R.exc x S).turn f = .err from rfl, ru_err]
  | err => rw [show (R.err : R Fl).turn f = .err from rfl, ru_err, ru_err]
theorem Ru.imp {Q Q' : α → Sto → Prop} {E E' : Exc → Sto → Prop} (h : Ru r Q E) (k : ∀ a S, Q a S → Q' a S) (e : ∀ x S, E x S → E' x S) : Ru r Q' E' := by
  cases r with
  | ok a S => rw [ru_ok] at h ⊢; exact k _ _ h
  | exc x S => rw [ru_exc] at h ⊢; exact e _ _ h
  | err => rw [ru_err] at h; exact h.elim
/-- by what a call is known to do -/
theorem Ru.use {Q Q' : α → Sto → Prop} {E : Exc → Sto → Prop} (h : Ru r Q noE) (k : ∀ a S, Q a S → Q' a S) : Ru r Q' E := h.imp k fun _ _ h => h.elim
theorem Ru.ex (h : Ru r Qa noE) : ∃ a S', r = .ok a S' ∧ Qa a S' := by
  cases r with
  | ok a S => rw [ru_ok] at h; exact ⟨a, S, rfl, h⟩
  | exc x S => rw [ru_exc] at h; exact h.elim
  | err => rw [ru_err] at h; exact h.elim
theorem Ru.eq (h : r = .ok a S) (q : Qa a S) : Ru r Qa E := by rw [h, ru_ok]; exact q
theorem Ru.is {d : α} (h : Ru r (fun a S' => a = d ∧ S' = S) noE) : r = .ok d S := by
  obtain ⟨a, S', e, rfl, rfl⟩ := h.ex
  exact e
theorem Ru.of_ex {Q : α → Sto → Prop} (h : ∃ a S', r = .ok a S' ∧ Q a S') : Ru r Q E := by
  obtain ⟨a, S', e, q⟩ := h
  rw [e, ru_ok]
  exact q
end
section
variable {F : CE} {Q : D → Sto → Prop} {Qs : List D → Sto → Prop} {Qf : Fl → Sto → Prop} {Qe : Env → Sto → Prop} {Qb : Bool → Sto → Prop} {Qi : Src × List D → Sto → Prop} {Qo : Option Int → Sto → Prop} {E : Exc → Sto → Prop} {ρ : Env} {S : Sto} {a b c e i : Iv.E} {d x : D} {es ifs : List Iv.E} {box : Bool} {own own1 : List Nat} {t t1 : Tg} {ts : List Tg} {it it1 : It} {st : St} {sts body els : List St}
theorem ru_var {j : Nat} (h : ρ[j]? = some (some d)) : Ru (ev F (.var j) ρ S) Q E = Q d S := by rw [ev, h, ru_ok]
theorem ru_con : Ru (ev F (.con d) ρ S) Q E = Q d S := by rw [ev, ru_ok]
theorem ru_bin {op : Bop} : Ru (ev F (.bin box op a b) ρ S) Q E = Ru (ev F a ρ S) (fun x S => Ru (ev F b ρ S) (fun y S => Ru (binR box op x y S) Q E) E) E := by rw [ev]; simp only [ru_bind]
def negR (x : D) (S : Sto) : R D := match x with
  | .int i => .ok (.int (-i)) S
  | _ => .err
theorem ru_neg : Ru (ev F (.neg a) ρ S) Q E = Ru (ev F a ρ S) (fun x S => Ru (negR x S) Q E) E := by rw [ev, ru_bind]; rfl
theorem ru_not : Ru (ev F (.not a) ρ S) Q E = Ru (ev F a ρ S) (fun x S => Ru (tru x S) (fun k S => Q (.bl (!k)) S) E) E := by rw [ev]; simp only [ru_bind, ru_ok]
theorem ru_cmp {op : Cop} : Ru (ev F (.cmp op a b) ρ S) Q E = Ru (ev F a ρ S) (fun x S => Ru (ev F b ρ S) (fun y S => Ru (cmpR op x y S) Q E) E) E := by rw [ev]; simp only [ru_bind]
theorem ru_chain {op op' : Cop} : Ru (ev F (.chain op op' a b c) ρ S) Q E = Ru (ev F a ρ S) (fun x S => Ru (ev F b ρ S) (fun y S => Ru (cmpR op x y S) (fun z S => Ru (tru z S) (fun k S => if k = true then Ru (ev F c ρ S) (fun w S => Ru (cmpR op' y w S) Q E) E else Q (.bl false) S) E) E) E) E := by
  rw [ev]; simp only [ru_bind, ru_ite, ru_ok]
theorem ru_and : Ru (ev F (.and a b) ρ S) Q E = Ru (ev F a ρ S) (fun x S => Ru (tru x S) (fun k S => if k = true then Ru (ev F b ρ S) Q E else Q x S) E) E := by rw [ev]; simp only [ru_bind, ru_ite, ru_ok]
theorem ru_or : Ru (ev F (.or a b) ρ S) Q E = Ru (ev F a ρ S) (fun x S => Ru (tru x S) (fun k S => if k = true then Q x S else Ru (ev F b ρ S) Q E) E) E := by rw [ev]; simp only [ru_bind, ru_ite, ru_ok]
theorem ru_ife : Ru (ev F (.ife c a b) ρ S) Q E = Ru (ev F c ρ S) (fun x S => Ru (tru x S) (fun k S => if k = true then Ru (ev F a ρ S) Q E else Ru (ev F b ρ S) Q E) E) E := by rw [ev]; simp only [ru_bind, ru_ite]
theorem ru_tup : Ru (ev F (.tup es) ρ S) Q E = Ru (evs F es ρ S) (fun xs S => xs.length ≤ sizeLine ∧ Q (.tup xs) S) E := by rw [ev]; simp only [ru_bind, ru_ck, ru_ok]
theorem ru_lst : Ru (ev F (.lst box es) ρ S) Q E = Ru (evs F es ρ S) (fun xs S => xs.length ≤ sizeLine ∧ Ru (mkL box xs S) Q E) E := by rw [ev]; simp only [ru_bind, ru_ck]
theorem ru_idx : Ru (ev F (.idx a i) ρ S) Q E = Ru (ev F a ρ S) (fun x S => Ru (ev F i ρ S) (fun y S => Ru (idxR x y S) Q E) E) E := by rw [ev]; simp only [ru_bind]
theorem ru_slc {lo hi : Option Iv.E} : Ru (ev F (.slc box a lo hi) ρ S) Q E = Ru (ev F a ρ S) (fun x S => Ru (evp F lo ρ S) (fun l S => Ru (evp F hi ρ S) (fun h S => Ru (slcR box x l h S) Q E) E) E) E := by rw [ev]; simp only [ru_bind]
def revR (box : Bool) (x : D) (S : Sto) : R D := match x with
  | .tup xs => .ok (.tup xs.reverse) S
  | _ => match seqOf S x with
    | some xs => mkL box xs.reverse S
    | none => .err
theorem ru_rev : Ru (ev F (.rev box a) ρ S) Q E = Ru (ev F a ρ S) (fun x S => Ru (revR box x S) Q E) E := by rw [ev, ru_bind]; rfl
theorem ru_lc : Ru (ev F (.lc box own t it ifs e) ρ S) Q E = Ru (evIt F it ρ S) (fun w S => Ru (lcLoop w.1 (lcStep F own t ifs e ρ) w.2 S) (fun ys S => ys.length ≤ sizeLine ∧ Ru (mkL box ys S) Q E) E) E := by rw [ev]; simp only [ru_bind, ru_ck]
theorem ru_lc2 {ifs1 : List Iv.E} : Ru (ev F (.lc2 box own own1 t it ifs t1 it1 ifs1 e) ρ S) Q E = Ru (evIt F it ρ S) (fun w S => Ru (lcLoop w.1 (lcStepB F own own1 t ifs t1 it1 ifs1 e ρ) w.2 S) (fun ys S => ys.length ≤ sizeLine ∧ Ru (mkL box ys S) Q E) E) E := by rw [ev]; simp only [ru_bind, ru_ck]
theorem ru_call {f : Nat} {arr : List Ar} : Ru (ev F (.call f arr es) ρ S) Q E = Ru (evs F es ρ S) (fun xs S => Ru (callR F f arr xs S) Q E) E := by rw [ev]; simp only [ru_bind]
noncomputable def methR (F : CE) (ms : List (Nat × Nat × List Ar)) (es : List Iv.E) (ρ : Env) (x : D) (o : Option (Nat × List Ar)) (S : Sto) : R D := match o with
  | some (f, arr) => (evs F es ρ S).bind fun xs S => callR F f arr (x :: xs) S
  | none => .err
theorem ru_meth {ms : List (Nat × Nat × List Ar)} : Ru (ev F (.meth a ms es) ρ S) Q E = Ru (ev F a ρ S) (fun x S => Ru (methR F ms es ρ x ((clsOf S x).bind fun c => ms.lookup c) S) Q E) E := by rw [ev, ru_bind]; congr 1 <;> (funext x S; cases ((clsOf S x).bind fun c => ms.lookup c) <;> rfl)
theorem ru_methR {ms : List (Nat × Nat × List Ar)} {f : Nat} {arr : List Ar} : Ru (methR F ms es ρ x (some (f, arr)) S) Q E = Ru (evs F es ρ S) (fun xs S => Ru (callR F f arr (x :: xs) S) Q E) E := ru_bind
theorem ru_make {fr : Bool} {cl f : Nat} {arr : List Ar} : Ru (ev F (.make fr cl f arr es) ρ S) Q E = Ru (evs F es ρ S) (fun xs S => Ru (makeR F fr cl f arr xs S) Q E) E := by rw [ev]; simp only [ru_bind]
theorem ru_makeR {cl f : Nat} {arr : List Ar} {ds : List D} : Ru (makeR F false cl f arr ds S) Q E = Ru (callR F f arr (.ref S.length :: ds) (S ++ [some (.ins cl [])])) (fun r S1 => r = .non ∧ Q (.ref S.length) S1) E := by
  unfold makeR
  rw [ru_bind]
  congr 1
  funext r S1
  cases r with
  | non => dsimp only; rw [if_neg Bool.false_ne_true, ru_ok]; exact propext ⟨fun h => ⟨rfl, h⟩, fun h => h.2⟩
  | _ => dsimp only; rw [ru_err]; exact propext ⟨fun h => h.elim, fun h => by cases h.1⟩
theorem ru_attr {f : Nat} : Ru (ev F (.attr a f) ρ S) Q E = Ru (ev F a ρ S) (fun x S => Ru (attrR x f S) Q E) E := by rw [ev]; simp only [ru_bind]
theorem ru_bi {bi : Bi} : Ru (ev F (.bi bi es) ρ S) Q E = Ru (evs F es ρ S) (fun xs S => Ru (biR bi xs S) Q E) E := by rw [ev]; simp only [ru_bind]
theorem ru_bm {bm : Bm} : Ru (ev F (.bm bm a es) ρ S) Q E = Ru (ev F a ρ S) (fun x S => bmOk bm x S = true ∧ Ru (evs F es ρ S) (fun xs S => Ru (bmR bm x xs S) Q E) E) E := by rw [ev]; simp only [ru_bind, ru_ck]
theorem ru_frz : Ru (ev F (.frz a) ρ S) Q E = Ru (ev F a ρ S) (fun x S => Ru (frzR x S) Q E) E := by rw [ev]; simp only [ru_bind]
def isitR (ts : List String) (o : Option Bool) (S : Sto) : R D := match o with
  | some b => ck (ts.length ≤ 100) (.ok (.bl b) S)
  | none => .err
theorem ru_isit {ts : List String} : Ru (ev F (.isit a ts) ρ S) Q E = Ru (ev F a ρ S) (fun x S => Ru (isitR ts (isiT S x ts) S) Q E) E := by rw [ev, ru_bind]; congr 1 <;> (funext x S; cases isiT S x ts <;> rfl)
theorem ru_isitR {ts : List String} {b : Bool} : Ru (isitR ts (some b) S) Q E = (ts.length ≤ 100 ∧ Q (.bl b) S) := by unfold isitR; rw [ru_ck, ru_ok]
theorem ru_evs0 : Ru (evs F [] ρ S) Qs E = Qs [] S := by rw [evs, ru_ok]
theorem ru_evs1 : Ru (evs F (e :: es) ρ S) Qs E = Ru (ev F e ρ S) (fun x S => Ru (evs F es ρ S) (fun xs S => Qs (x :: xs) S) E) E := by rw [evs]; simp only [ru_bind, ru_ok]
theorem ru_evp0 : Ru (evp F none ρ S) Qo E = Qo none S := by rw [evp, ru_ok]
def intR (x : D) (S : Sto) : R (Option Int) := match x with
  | .int i => .ok (some i) S
  | _ => .err
theorem ru_evp1 : Ru (evp F (some e) ρ S) Qo E = Ru (ev F e ρ S) (fun x S => Ru (intR x S) Qo E) E := by rw [evp, ru_bind]; rfl
theorem ru_intR {j : Int} : Ru (intR (.int j) S) Qo E = Qo (some j) S := ru_ok
theorem ru_ifs0 : Ru (evIfs F [] ρ S) Qb E = Qb true S := by rw [evIfs, ru_ok]
theorem ru_ifs1 : Ru (evIfs F (e :: es) ρ S) Qb E = Ru (ev F e ρ S) (fun x S => Ru (tru x S) (fun k S => if k = true then Ru (evIfs F es ρ S) Qb E else Qb false S) E) E := by rw [evIfs]; simp only [ru_bind, ru_ite, ru_ok]
def oR {α : Type} (o : Option α) (S : Sto) : R α := match o with
  | some w => .ok w S
  | none => .err
theorem ru_oR {α : Type} {w : α} {Qx : α → Sto → Prop} : Ru (oR (some w) S) Qx E = Qx w S := ru_ok
theorem ru_itE : Ru (evIt F (.e a) ρ S) Qi E = Ru (ev F a ρ S) (fun x S => Ru (oR (walkOf S x) S) Qi E) E := by rw [evIt, ru_bind]; congr 1 <;> (funext x S; cases walkOf S x <;> rfl)
def rng1R (x : D) (S : Sto) : R (Src × List D) := match x with
  | .int j => ck (smallI j) (.ok (.fix, rngD 0 j.toNat) S)
  | _ => .err
theorem ru_rng1 : Ru (evIt F (.rng1 a) ρ S) Qi E = Ru (ev F a ρ S) (fun x S => Ru (rng1R x S) Qi E) E := by rw [evIt, ru_bind]; rfl
theorem ru_rng1R {j : Int} : Ru (rng1R (.int j) S) Qi E = (smallI j ∧ Qi (.fix, rngD 0 j.toNat) S) := by unfold rng1R; rw [ru_ck, ru_ok]
def rng2R (x y : D) (S : Sto) : R (Src × List D) := match x, y with
  | .int i, .int j => ck (smallI i ∧ smallI j) (.ok (.fix, rngD i (j - i).toNat) S)
  | _, _ => .err
theorem ru_rng2 : Ru (evIt F (.rng2 a b) ρ S) Qi E = Ru (ev F a ρ S) (fun x S => Ru (ev F b ρ S) (fun y S => Ru (rng2R x y S) Qi E) E) E := by rw [evIt]; simp only [ru_bind]; rfl
theorem ru_rng2R {i j : Int} : Ru (rng2R (.int i) (.int j) S) Qi E = ((smallI i ∧ smallI j) ∧ Qi (.fix, rngD i (j - i).toNat) S) := by unfold rng2R; rw [ru_ck, ru_ok]
def enumR (o : Option (Src × List D)) (i : Option Int) (S : Sto) : R (Src × List D) := match o with
  | some w => ck (i = none) (.ok (w.1, enumD 0 w.2) S)
  | none => .err
theorem ru_enum : Ru (evIt F (.enum none a) ρ S) Qi E = Ru (ev F a ρ S) (fun x S => Ru (enumR (walkL S x) none S) Qi E) E := by rw [evIt]; simp only [ru_bind, ru_evp0]; congr 1 <;> (funext x S; cases walkL S x <;> rfl)
theorem ru_enumR {w : Src × List D} : Ru (enumR (some w) none S) Qi E = Qi (w.1, enumD 0 w.2) S := by
  unfold enumR
  rw [ru_ck, ru_ok]
  exact propext ⟨fun h => h.2, fun h => ⟨rfl, h⟩⟩
def enumSR (o : Option (Src × List D)) (y : D) (S : Sto) : R (Src × List D) := match o, y with
  | some w, .int i => ck (smallI i) (.ok (w.1, enumD i w.2) S)
  | _, _ => .err
theorem ru_enumS : Ru (evIt F (.enumS a b) ρ S) Qi E = Ru (ev F a ρ S) (fun x S => Ru (ev F b ρ S) (fun y S => Ru (enumSR (walkL S x) y S) Qi E) E) E := by rw [evIt]; simp only [ru_bind]; congr 1 <;> (funext x S; congr 1 <;> (funext y S; cases walkL S x <;> cases y <;> rfl))
theorem ru_enumSR {w : Src × List D} {j : Int} : Ru (enumSR (some w) (.int j) S) Qi E = (smallI j ∧ Qi (w.1, enumD j w.2) S) := by unfold enumSR; rw [ru_ck, ru_ok]
def zipR (strict : Bool) (x y : D) (o o' : Option (List D)) (S : Sto) : R (Src × List D) := match o, o' with
  | some xs, some ys => ck ((strict = true → xs.length = ys.length) ∧ isRef x = false ∧ isRef y = false ∧ (strict = true ∨ kOf x = kOf y)) (.ok (.fix, zipD xs ys) S)
  | _, _ => .err
theorem ru_zip {strict : Bool} : Ru (evIt F (.zip strict a b) ρ S) Qi E = Ru (ev F a ρ S) (fun x S => Ru (ev F b ρ S) (fun y S => Ru (zipR strict x y (seqOf S x) (seqOf S y) S) Qi E) E) E := by rw [evIt]; simp only [ru_bind]; congr 1 <;> (funext x S; congr 1 <;> (funext y S; cases seqOf S x <;> cases seqOf S y <;> rfl))
theorem ru_zipR {strict : Bool} {x y : D} {xs ys : List D} : Ru (zipR strict x y (some xs) (some ys) S) Qi E = (((strict = true → xs.length = ys.length) ∧ isRef x = false ∧ isRef y = false ∧ (strict = true ∨ kOf x = kOf y)) ∧ Qi (.fix, zipD xs ys) S) := by unfold zipR; rw [ru_ck, ru_ok]
theorem ru_aVar {j : Nat} : Ru (asg F (.var j) d ρ S) Qe E = Qe (ρ.set j (some d)) S := by rw [asg, ru_ok]
noncomputable def tupA (F : CE) (ts : List Tg) (ρ : Env) (o : Option (List D)) (S : Sto) : R Env := match o with
  | some xs => ck (xs.length = ts.length) (asgs F ts xs ρ S)
  | none => .err
theorem ru_aTup : Ru (asg F (.tup ts) d ρ S) Qe E = Ru (tupA F ts ρ (seqOf S d) S) Qe E := by rw [asg]; cases seqOf S d <;> rfl
theorem ru_tupA {xs : List D} : Ru (tupA F ts ρ (some xs) S) Qe E = (xs.length = ts.length ∧ Ru (asgs F ts xs ρ S) Qe E) := ru_ck
noncomputable def tupsA (F : CE) (ts : List Tg) (ρ : Env) (o : Option (List D)) (S : Sto) : R Env := match o with
  | some xs => ck (1 ≤ ts.length ∧ ts.length ≤ xs.length + 1 ∧ xs.length ≤ 16384) (asgs F ts (xs.take (ts.length - 1) ++ [.lst (xs.drop (ts.length - 1))]) ρ S)
  | none => .err
theorem ru_aTups : Ru (asg F (.tups ts) d ρ S) Qe E = Ru (tupsA F ts ρ (seqOf S d) S) Qe E := by rw [asg]; cases seqOf S d <;> rfl
theorem ru_tupsA {xs : List D} : Ru (tupsA F ts ρ (some xs) S) Qe E = ((1 ≤ ts.length ∧ ts.length ≤ xs.length + 1 ∧ xs.length ≤ 16384) ∧ Ru (asgs F ts (xs.take (ts.length - 1) ++ [.lst (xs.drop (ts.length - 1))]) ρ S) Qe E) := ru_ck
theorem ru_aIdx : Ru (asg F (.idx a i) d ρ S) Qe E = Ru (ev F a ρ S) (fun x S => Ru (ev F i ρ S) (fun y S => Ru (sidxR x y d S) (fun _ S => Qe ρ S) E) E) E := by rw [asg]; simp only [ru_bind, ru_ok]
theorem ru_aAttr {f : Nat} {cs : List Nat} : Ru (asg F (.attr a f cs) d ρ S) Qe E = Ru (ev F a ρ S) (fun x S => Ru (sattrR x f cs d S) (fun _ S => Qe ρ S) E) E := by rw [asg]; simp only [ru_bind, ru_ok]
theorem ru_aSlc : Ru (asg F (.slc a b c) d ρ S) Qe E = Ru (ev F a ρ S) (fun x S => Ru (ev F b ρ S) (fun l S => Ru (ev F c ρ S) (fun h S => Ru (sslcR x l h d S) (fun _ S => Qe ρ S) E) E) E) E := by rw [asg]; simp only [ru_bind, ru_ok]
theorem ru_as0 : Ru (asgs F [] [] ρ S) Qe E = Qe ρ S := by rw [asgs, ru_ok]
theorem ru_as1 {ds : List D} : Ru (asgs F (t :: ts) (d :: ds) ρ S) Qe E = Ru (asg F t d ρ S) (fun ρ S => Ru (asgs F ts ds ρ S) Qe E) E := by rw [asgs]; simp only [ru_bind]
theorem ru_sExpr : Ru (ex F (.expr e) ρ S) Qf E = Ru (ev F e ρ S) (fun _ S => Qf (.next ρ) S) (fun x S => Qf (.raised x ρ) S) := by rw [ex]; simp only [ru_go, ru_ok]
theorem ru_sAsg : Ru (ex F (.asg t e) ρ S) Qf E = Ru (ev F e ρ S) (fun d S => Ru (asg F t d ρ S) (fun ρ S => Qf (.next ρ) S) noE) (fun x S => Qf (.raised x ρ) S) := by rw [ex]; simp only [ru_go, ru_st, ru_ok]
theorem ru_sAug {op : Bop} {j : Nat} (h : ρ[j]? = some (some d)) : Ru (ex F (.aug j op e) ρ S) Qf E = Ru (ev F e ρ S) (fun y S => Ru (augR op d y S) (fun z S => Qf (.next (ρ.set j (some z))) S) (fun x S => Qf (.raised x ρ) S)) (fun x S => Qf (.raised x ρ) S) := by
  rw [ex, h]; simp only [ru_go, ru_bind, ru_ok]
theorem ru_sIte : Ru (ex F (.ite c body els) ρ S) Qf E = Ru (ev F c ρ S) (fun x S => Ru (tru x S) (fun k S => if k = true then Ru (exs F body ρ S) Qf E else Ru (exs F els ρ S) Qf E) (fun x S => Qf (.raised x ρ) S)) (fun x S => Qf (.raised x ρ) S) := by
  rw [ex]; simp only [ru_go, ru_bind, ru_ite]
theorem ru_sFor : Ru (ex F (.for t it body) ρ S) Qf E = Ru (evIt F it ρ S) (fun w S => Ru (forLoop w.1 (forStep F t body) w.2 ρ S) Qf E) (fun x S => Qf (.raised x ρ) S) := by rw [ex]; simp only [ru_go]
theorem ru_sWhile : Ru (ex F (.while c body) ρ S) Qf E = Ru (whileLoop (fun ρ S => (ev F c ρ S).bind fun x S => tru x S) (fun ρ S => exs F body ρ S) 1000000 ρ S) Qf E := by rw [ex]
theorem ru_sRet : Ru (ex F (.ret e) ρ S) Qf E = Ru (ev F e ρ S) (fun d S => Qf (.ret d) S) (fun x S => Qf (.raised x ρ) S) := by rw [ex]; simp only [ru_go, ru_ok]
theorem ru_sRetN : Ru (ex F .retN ρ S) Qf E = Qf (.ret .non) S := by rw [ex, ru_ok]
theorem ru_sBrk : Ru (ex F .brk ρ S) Qf E = Qf (.brk ρ) S := by rw [ex, ru_ok]
theorem ru_sCont : Ru (ex F .cont ρ S) Qf E = Qf (.cont ρ) S := by rw [ex, ru_ok]
theorem ru_sPass : Ru (ex F .pass ρ S) Qf E = Qf (.next ρ) S := by rw [ex, ru_ok]
def nxQ (F : CE) (sts : List St) (Q : Fl → Sto → Prop) (E : Exc → Sto → Prop) (w : Fl) (S : Sto) : Prop := match w with
  | .next ρ => Ru (exs F sts ρ S) Q E
  | w => Q w S
theorem ru_exs0 : Ru (exs F [] ρ S) Qf E = Qf (.next ρ) S := by rw [exs, ru_ok]
theorem ru_exs1 : Ru (exs F (st :: sts) ρ S) Qf E = Ru (ex F st ρ S) (nxQ F sts Qf E) noE := by
  rw [exs, ru_fl]
  congr 1 <;> (funext w S; cases w <;> rfl)
theorem nx_next : nxQ F sts Qf E (.next ρ) S = Ru (exs F sts ρ S) Qf E := rfl
theorem nx_ret : nxQ F sts Qf E (.ret d) S = Qf (.ret d) S := rfl
theorem nx_brk : nxQ F sts Qf E (.brk ρ) S = Qf (.brk ρ) S := rfl
theorem nx_cont : nxQ F sts Qf E (.cont ρ) S = Qf (.cont ρ) S := rfl
theorem nx_raised {y : Exc} : nxQ F sts Qf E (.raised y ρ) S = Qf (.raised y ρ) S := rfl
theorem turn_next {K : Env → Sto → Prop} : turnQ K Qf (.next ρ) S = K ρ S := rfl
theorem turn_cont {K : Env → Sto → Prop} : turnQ K Qf (.cont ρ) S = K ρ S := rfl
theorem turn_brk {K : Env → Sto → Prop} : turnQ K Qf (.brk ρ) S = Qf (.next ρ) S := rfl
theorem turn_ret {K : Env → Sto → Prop} : turnQ K Qf (.ret d) S = Qf (.ret d) S := rfl
theorem turn_raised {K : Env → Sto → Prop} {y : Exc} : turnQ K Qf (.raised y ρ) S = Qf (.raised y ρ) S := rfl
/-- a def's end -/
def runQ (Q : D → Sto → Prop) (E : Exc → Sto → Prop) (w : Fl) (S : Sto) : Prop := match w with
  | .ret d => Q d S
  | .next _ => Q .non S
  | .raised x _ => E x S
  | _ => False
theorem run_qret : runQ Q E (.ret d) S = Q d S := rfl
theorem run_qnext : runQ Q E (.next ρ) S = Q .non S := rfl
theorem run_qraised {y : Exc} : runQ Q E (.raised y ρ) S = E y S := rfl
theorem ru_run {n : Nat} {ds : List D} : Ru (Iv.run F n body ds S) Q E = Ru (exs F body (ds.map some ++ List.replicate (n - ds.length) none) S) (runQ Q E) noE := by
  unfold Iv.run
  cases exs F body (ds.map some ++ List.replicate (n - ds.length) none) S with
  | ok w S => cases w <;> simp only [ru_ok, ru_exc, ru_err, runQ]
  | exc x S => rw [ru_exc, ru_err]
  | err => rw [ru_err, ru_err]
/-- a def is gone into -/
theorem Ru.def {T : List Fn} {k f : Nat} {fn : Fn} {ds : List D} (h : T[f]? = some fn) (hl : ds.length = fn.np) (w : Ru (exs (callN T k) fn.body (ds.map some ++ List.replicate (fn.n - ds.length) none) S) (runQ Q E) noE) : Ru (callN T (k + 1) f ds S) Q E := by
  rw [callN_at h hl, ru_run]
  exact w
/-- loops -/
theorem Ru.for {src : Src} {step : D → Env → Sto → R Fl} {items : List D} (Inv : Nat → Env → Sto → Prop) (h0 : Inv 0 ρ S) (ht : ∀ i ρ S, Inv i ρ S → src.there S)
    (hs : ∀ i d ρ S, items[i]? = some d → Inv i ρ S → Ru (step d ρ S) (turnQ (Inv (i + 1)) Qf) noE) (he : ∀ ρ S, Inv items.length ρ S → Qf (.next ρ) S) : Ru (forLoop src step items ρ S) Qf E := by
  have go : ∀ (n i : Nat) (ρ : Env) (S : Sto), items.length - i = n → i ≤ items.length → Inv i ρ S → Ru (forLoop src step (items.drop i) ρ S) Qf E := by
    intro n
    induction n with
    | zero =>
      intro i ρ S hn hi hI
      have e : i = items.length := by omega
      subst e
      rw [List.drop_length, forLoop, ck_of (ht _ _ _ hI), ru_ok]
      exact he _ _ hI
    | succ n ih =>
      intro i ρ S hn hi hI
      have hlt : i < items.length := by omega
      rw [List.drop_eq_getElem_cons hlt, forLoop, ck_of (ht _ _ _ hI), ru_turn]
      refine (hs i _ ρ S (List.getElem?_eq_getElem hlt) hI).imp (fun w S' q => ?_) fun _ _ h => h
      cases w with
      | next ρ' => exact ih (i + 1) ρ' S' (by omega) hlt q
      | cont ρ' => exact ih (i + 1) ρ' S' (by omega) hlt q
      | brk ρ' => exact q
      | ret d => exact q
      | raised x ρ' => exact q
  exact go _ 0 ρ S rfl (Nat.zero_le _) h0
theorem Ru.lc {src : Src} {step : D → Sto → R (List D)} {items : List D} (Inv : Nat → List D → Sto → Prop) (h0 : Inv 0 [] S) (ht : ∀ i ys S, Inv i ys S → src.there S)
    (hs : ∀ i d ys S, items[i]? = some d → Inv i ys S → Ru (step d S) (fun zs S' => Inv (i + 1) (ys ++ zs) S') noE) (he : ∀ ys S, Inv items.length ys S → Qs ys S) : Ru (lcLoop src step items S) Qs E := by
  obtain ⟨ys, S', e, h⟩ := lcLoop_inv (step := step) Inv h0 ht fun i d ys S hd hI => by
    obtain ⟨zs, S', e, h⟩ := (hs i d ys S hd hI).ex
    exact ⟨zs, S', e, h⟩
  rw [e, ru_ok]
  exact he _ _ h
/-- each item by itself, the store as it was -/
theorem Ru.lcp {src : Src} {step : D → Sto → R (List D)} {items : List D} (f : D → List D) (ht : src.there S) (hs : ∀ d ∈ items, Ru (step d S) (fun zs S' => zs = f d ∧ S' = S) noE) (he : Qs (items.flatMap f) S) : Ru (lcLoop src step items S) Qs E := by
  refine Ru.lc (fun i ys S' => ys = (items.take i).flatMap f ∧ S' = S) ⟨by rw [List.take_zero]; rfl, rfl⟩ (fun i ys S' h => by rw [h.2]; exact ht) (fun i d ys S' hd ⟨h1, h2⟩ => ?_) fun ys S' ⟨h1, h2⟩ => by rw [h1, h2, List.take_length]; exact he
  subst h2
  refine (hs d (List.mem_of_getElem? hd)).imp (fun zs S2 ⟨q1, q2⟩ => ⟨?_, q2⟩) fun _ _ h => h
  rw [h1, q1, List.take_succ, hd, List.flatMap_append]
  simp
theorem Ru.lcm {src : Src} {step : D → Sto → R (List D)} {α : Type} {items : List α} (enc : α → D) (f : α → List D) (ht : src.there S) (hs : ∀ a ∈ items, Ru (step (enc a) S) (fun zs S' => zs = f a ∧ S' = S) noE) (he : Qs (items.flatMap f) S) : Ru (lcLoop src step (items.map enc) S) Qs E := by
  rw [lcLoop_encS ht fun a ha => (hs a ha).is, ru_ok]
  exact he
theorem ru_step : Ru (forStep F t body d ρ S) Qf E = Ru (asg F t d ρ S) (fun ρ S => Ru (exs F body ρ S) Qf E) noE := ru_st
theorem ru_lcStep : Ru (lcStep F own t ifs e ρ d S) Qs E = Ru (asg F t d (wipeE ρ own) S) (fun ρ1 S => Ru (evIfs F ifs ρ1 S) (fun k S => if k = true then Ru (ev F e ρ1 S) (fun y S => Qs [y] S) E else Qs [] S) E) E := by
  unfold lcStep
  simp only [ru_bind, ru_ite, ru_ok]
theorem ru_lcStepB {ifs1 : List Iv.E} : Ru (lcStepB F own own1 t ifs t1 it1 ifs1 e ρ d S) Qs E = Ru (asg F t d (wipeE ρ own) S) (fun ρ1 S => Ru (evIfs F ifs ρ1 S) (fun k S => if k = true then Ru (evIt F it1 ρ1 S) (fun w S => Ru (lcLoop w.1 (lcStep F own1 t1 ifs1 e ρ1) w.2 S) Qs E) E else Qs [] S) E) E := by
  unfold lcStepB
  simp only [ru_bind, ru_ite, ru_ok]
theorem Ru.whileI {test : Env → Sto → R Bool} {body : Env → Sto → R Fl} (Inv : Nat → Env → Sto → Prop) (hs : ∀ n ρ S, Inv n ρ S → Ru (test ρ S) (fun k S => if k = true then Ru (body ρ S) (turnQ (fun ρ S => ∃ m, m < n ∧ Inv m ρ S) Qf) noE else Qf (.next ρ) S) (fun x S => Qf (.raised x ρ) S)) :
    ∀ (N n : Nat), n < N → ∀ ρ S, Inv n ρ S → Ru (whileLoop test body N ρ S) Qf E := by
  intro N
  induction N with
  | zero => intro n h; omega
  | succ N ih =>
    intro n hn ρ S hI
    rw [whileLoop, ru_go]
    refine (hs n ρ S hI).imp (fun k S' q => ?_) fun _ _ h => h
    cases k with
    | false =>
      rw [if_neg Bool.false_ne_true] at q ⊢
      rw [ru_ok]
      exact q
    | true =>
      rw [if_pos rfl] at q ⊢
      rw [ru_turn]
      refine q.imp (fun w S2 q => ?_) fun _ _ h => h
      cases w with
      | next ρ' => obtain ⟨m, hm, h⟩ := q; exact ih m (by omega) ρ' S2 h
      | cont ρ' => obtain ⟨m, hm, h⟩ := q; exact ih m (by omega) ρ' S2 h
      | brk ρ' => exact q
      | ret d => exact q
      | raised x ρ' => exact q
end
/-! what operators tell -/
section
variable {S : Sto} {i j : Int} {z z' : Str} {xs ys : List D} {b : Bool} {d : D} {n m : Nat} {Q : D → Sto → Prop} {E : Exc → Sto → Prop}
theorem bin_addI {box : Bool} : binR box .add (.int i) (.int j) S = .ok (.int (i + j)) S := rfl
theorem bin_subI {box : Bool} : binR box .sub (.int i) (.int j) S = .ok (.int (i - j)) S := rfl
theorem bin_mulI {box : Bool} : binR box .mul (.int i) (.int j) S = ck (mulOk i j) (.ok (.int (i * j)) S) := rfl
theorem bin_divI {box : Bool} : binR box .div (.int i) (.int j) S = ck (0 < j ∧ j < 1073741824) (.ok (.int (i / j)) S) := rfl
theorem bin_modI {box : Bool} : binR box .mod (.int i) (.int j) S = ck (0 < j) (.ok (.int (i % j)) S) := rfl
theorem bin_addT {box : Bool} : binR box .add (.tup xs) (.tup ys) S = ck (xs.length + ys.length ≤ sizeLine) (.ok (.tup (xs ++ ys)) S) := rfl
theorem bin_addS {box : Bool} : binR box .add (.str z) (.str z') S = ck (z.length + z'.length ≤ sizeLine) (.ok (.str (z ++ z')) S) := rfl
theorem bin_addL {box : Bool} : binR box .add (.lst xs) (.lst ys) S = ck (xs.length + ys.length ≤ sizeLine) (mkL box (xs ++ ys) S) := rfl
theorem neg_I : negR (.int i) S = .ok (.int (-i)) S := rfl
theorem tru_b : tru (.bl b) S = .ok b S := rfl
theorem tru_i : tru (.int i) S = .ok (i != 0) S := rfl
theorem cmp_ltI : cmpR .lt (.int i) (.int j) S = .ok (.bl (decide (i < j))) S := rfl
theorem cmp_leI : cmpR .le (.int i) (.int j) S = .ok (.bl (decide (i ≤ j))) S := rfl
theorem cmp_gtI : cmpR .gt (.int i) (.int j) S = .ok (.bl (decide (j < i))) S := rfl
theorem cmp_geI : cmpR .ge (.int i) (.int j) S = .ok (.bl (decide (j ≤ i))) S := rfl
theorem cmp_isN : cmpR .isN d .non S = .ok (.bl (match d with | .non => true | _ => false)) S := rfl
theorem cmp_notN : cmpR .notN d .non S = .ok (.bl (match d with | .non => false | _ => true)) S := rfl
theorem cmp_isB {b' : Bool} : cmpR .isN (.bl b) (.bl b') S = .ok (.bl (decide (b = b'))) S := rfl
theorem cmp_eqI : cmpR .eq (.int i) (.int j) S = .ok (.bl (i == j)) S := by
  show ck ((unbox S (.int i)).fz = true ∧ (unbox S (.int j)).fz = true ∧ (unbox S (.int i)).dp ≤ 64 ∧ (unbox S (.int j)).dp ≤ 64) (R.ok (D.bl ((unbox S (.int i)).eqv (unbox S (.int j)))) S) = _
  rw [ck_of ⟨by simp [unbox, D.fz], by simp [unbox, D.fz], by simp [unbox, D.dp], by simp [unbox, D.dp]⟩]
  simp only [unbox, eqv_int]
theorem cmp_neI : cmpR .ne (.int i) (.int j) S = .ok (.bl (!(i == j))) S := by
  show ck ((unbox S (.int i)).fz = true ∧ (unbox S (.int j)).fz = true ∧ (unbox S (.int i)).dp ≤ 64 ∧ (unbox S (.int j)).dp ≤ 64) (R.ok (D.bl (!((unbox S (.int i)).eqv (unbox S (.int j))))) S) = _
  rw [ck_of ⟨by simp [unbox, D.fz], by simp [unbox, D.fz], by simp [unbox, D.dp], by simp [unbox, D.dp]⟩]
  simp only [unbox, eqv_int]
theorem eqv_str : D.eqv (.str z) (.str z') = (z == z') := by simp [D.eqv]
theorem cmp_eqS : cmpR .eq (.str z) (.str z') S = .ok (.bl (z == z')) S := by
  show ck ((unbox S (.str z)).fz = true ∧ (unbox S (.str z')).fz = true ∧ (unbox S (.str z)).dp ≤ 64 ∧ (unbox S (.str z')).dp ≤ 64) (R.ok (D.bl ((unbox S (.str z)).eqv (unbox S (.str z')))) S) = _
  rw [ck_of ⟨by simp [unbox, D.fz], by simp [unbox, D.fz], by simp [unbox, D.dp], by simp [unbox, D.dp]⟩]
  simp only [unbox, eqv_str]
theorem cmp_neS : cmpR .ne (.str z) (.str z') S = .ok (.bl (!(z == z'))) S := by
  show ck ((unbox S (.str z)).fz = true ∧ (unbox S (.str z')).fz = true ∧ (unbox S (.str z)).dp ≤ 64 ∧ (unbox S (.str z')).dp ≤ 64) (R.ok (D.bl (!((unbox S (.str z)).eqv (unbox S (.str z'))))) S) = _
  rw [ck_of ⟨by simp [unbox, D.fz], by simp [unbox, D.fz], by simp [unbox, D.dp], by simp [unbox, D.dp]⟩]
  simp only [unbox, eqv_str]
theorem unbox_fz1 (h : d.fz = true) : unbox S d = d := by cases d <;> first | rfl | cases h
theorem map_deep {k : Nat} (h : ∀ x ∈ xs, deep k S x = x) : xs.map (deep k S) = xs := by
  induction xs with
  | nil => rfl
  | cons x xs ih => rw [List.map_cons, h x (List.mem_cons_self ..), ih fun y hy => h y (List.mem_cons_of_mem _ hy)]
theorem fzs_all : ∀ {xs : List D}, D.fzs xs = true → ∀ x ∈ xs, x.fz = true
  | [], _, _, h => nomatch h
  | y :: ys, h, x, hx => by
    simp only [D.fzs, Bool.and_eq_true] at h
    rcases List.mem_cons.mp hx with rfl | hx
    · exact h.1
    · exact fzs_all h.2 x hx
theorem deep_fz1 : ∀ (k : Nat) (d : D), d.fz = true → deep k S d = d
  | 0, _, _ => rfl
  | k + 1, .tup xs, h => by
    show D.tup (xs.map (deep k S)) = _
    rw [map_deep fun x hx => deep_fz1 k x (fzs_all (by simpa [D.fz] using h) x hx)]
  | k + 1, .lst xs, h => by
    show D.lst (xs.map (deep k S)) = _
    rw [map_deep fun x hx => deep_fz1 k x (fzs_all (by simpa [D.fz] using h) x hx)]
  | k + 1, .scr xs, _ => rfl
  | k + 1, .non, _ => rfl
  | k + 1, .bl _, _ => rfl
  | k + 1, .int _, _ => rfl
  | k + 1, .str _, _ => rfl
  | k + 1, .ref _, h => by simp [D.fz] at h
  | k + 1, .ins _ _, h => by simp [D.fz] at h
  | k + 1, .ty _, h => by simp [D.fz] at h
/-- == of frozen things -/
theorem ru_eq {x y : D} (fx : x.fz = true) (fy : y.fz = true) : Ru (cmpR .eq x y S) Q E = ((x.dp ≤ 64 ∧ y.dp ≤ 64) ∧ Q (.bl (x.eqv y)) S) := by
  show Ru (ck ((unbox S x).fz = true ∧ (unbox S y).fz = true ∧ (unbox S x).dp ≤ 64 ∧ (unbox S y).dp ≤ 64) (R.ok (D.bl ((unbox S x).eqv (unbox S y))) S)) Q E = _
  rw [unbox_fz1 fx, unbox_fz1 fy, ru_ck, ru_ok]
  exact propext ⟨fun ⟨⟨_, _, a⟩, b⟩ => ⟨a, b⟩, fun ⟨a, b⟩ => ⟨⟨fx, fy, a⟩, b⟩⟩
theorem ru_ne {x y : D} (fx : x.fz = true) (fy : y.fz = true) : Ru (cmpR .ne x y S) Q E = ((x.dp ≤ 64 ∧ y.dp ≤ 64) ∧ Q (.bl (!(x.eqv y))) S) := by
  show Ru (ck ((unbox S x).fz = true ∧ (unbox S y).fz = true ∧ (unbox S x).dp ≤ 64 ∧ (unbox S y).dp ≤ 64) (R.ok (D.bl (!((unbox S x).eqv (unbox S y)))) S)) Q E = _
  rw [unbox_fz1 fx, unbox_fz1 fy, ru_ck, ru_ok]
  exact propext ⟨fun ⟨⟨_, _, a⟩, b⟩ => ⟨a, b⟩, fun ⟨a, b⟩ => ⟨⟨fx, fy, a⟩, b⟩⟩
theorem ru_eqd {x y x' y' : D} (ex : deep 8 S x = x') (ey : deep 8 S y = y') : Ru (cmpR .eqd x y S) Q E = ((x'.fz = true ∧ y'.fz = true ∧ x'.dp ≤ 64 ∧ y'.dp ≤ 64) ∧ Q (.bl (x'.eqv y')) S) := by
  subst ex ey
  show Ru (ck _ _) Q E = _
  rw [ru_ck, ru_ok]
theorem ru_ned {x y x' y' : D} (ex : deep 8 S x = x') (ey : deep 8 S y = y') : Ru (cmpR .ned x y S) Q E = ((x'.fz = true ∧ y'.fz = true ∧ x'.dp ≤ 64 ∧ y'.dp ≤ 64) ∧ Q (.bl (!(x'.eqv y'))) S) := by
  subst ex ey
  show Ru (ck _ _) Q E = _
  rw [ru_ck, ru_ok]
theorem cmp_eqdI : cmpR .eqd (.int i) (.int j) S = .ok (.bl (i == j)) S := by
  refine Ru.is ?_
  rw [ru_eqd (x' := .int i) (y' := .int j) rfl rfl, eqv_int]
  exact ⟨⟨by simp [D.fz], by simp [D.fz], by simp [D.dp], by simp [D.dp]⟩, rfl, rfl⟩
theorem cmp_nedI : cmpR .ned (.int i) (.int j) S = .ok (.bl (!(i == j))) S := by
  refine Ru.is ?_
  rw [ru_ned (x' := .int i) (y' := .int j) rfl rfl, eqv_int]
  exact ⟨⟨by simp [D.fz], by simp [D.fz], by simp [D.dp], by simp [D.dp]⟩, rfl, rfl⟩
theorem ru_in {x y : D} {ys : List D} (hs : seqOf S y = some ys) (hx : ∀ z, y ≠ .str z) : Ru (cmpR .isIn x y S) Q E = ((x.fz = true ∧ x.dp ≤ 63 ∧ D.fzs ys = true ∧ D.dps ys ≤ 63) ∧ Q (.bl (ys.any fun z => z.eqv x)) S) := by
  have e : cmpR .isIn x y S = match seqOf S y with
    | some ys => ck (x.fz = true ∧ x.dp ≤ 63 ∧ D.fzs ys = true ∧ D.dps ys ≤ 63) (R.ok (D.bl (ys.any fun z => z.eqv x)) S)
    | none => .err := by
    cases y <;> first | rfl | (cases x <;> rfl) | exact absurd rfl (hx _)
  rw [e, hs]
  show Ru (ck _ _) Q E = _
  rw [ru_ck, ru_ok]
theorem ru_notIn {x y : D} {ys : List D} (hs : seqOf S y = some ys) (hx : ∀ z, y ≠ .str z) : Ru (cmpR .notIn x y S) Q E = ((x.fz = true ∧ x.dp ≤ 63 ∧ D.fzs ys = true ∧ D.dps ys ≤ 63) ∧ Q (.bl (!(ys.any fun z => z.eqv x))) S) := by
  have e : cmpR .notIn x y S = match seqOf S y with
    | some ys => ck (x.fz = true ∧ x.dp ≤ 63 ∧ D.fzs ys = true ∧ D.dps ys ≤ 63) (R.ok (D.bl (!(ys.any fun z => z.eqv x))) S)
    | none => .err := by
    cases y <;> first | rfl | (cases x <;> rfl) | exact absurd rfl (hx _)
  rw [e, hs]
  show Ru (ck _ _) Q E = _
  rw [ru_ck, ru_ok]
theorem seq_tupl : seqOf S (.tup xs) = some xs := rfl
theorem seq_lst : seqOf S (.lst xs) = some xs := rfl
theorem seq_scr : seqOf S (.scr xs) = some xs := rfl
theorem seq_box (h : cellAt S n = some (.lst xs)) : seqOf S (.ref n) = some xs := seqOf_box h
theorem walk_tup : walkOf S (.tup xs) = some (.fix, xs) := rfl
theorem walk_lst : walkOf S (.lst xs) = some (.fix, xs) := rfl
theorem walk_scr : walkOf S (.scr xs) = some (.fix, xs) := rfl
theorem walk_str : walkOf S (.str z) = some (.fix, z.cps.toList.map fun c => .str ⟨#[c]⟩) := rfl
theorem walkL_lst : walkL S (.lst xs) = some (.fix, xs) := rfl
theorem idx_tupN {k : Nat} : idxR (.tup xs) (.int k) S = match xs[k]? with | some d => .ok d S | none => .err := by
  show (match atD xs (k : Int) with | some d => R.ok d S | none => .err) = _
  have e : atD xs (k : Int) = xs[k]? := by unfold atD; rw [if_pos (Int.natCast_nonneg _), Int.toNat_natCast]
  rw [e]
theorem idx_tup0 {x : D} : idxR (.tup (x :: xs)) (.int 0) S = .ok x S := rfl
theorem idx_tup1 {x y : D} : idxR (.tup (x :: y :: xs)) (.int 1) S = .ok y S := rfl
theorem idx_tup2 {x y z : D} : idxR (.tup (x :: y :: z :: xs)) (.int 2) S = .ok z S := rfl
theorem idx_lst0 {x : D} : idxR (.lst (x :: xs)) (.int 0) S = .ok x S := rfl
theorem idx_lst1 {x y : D} : idxR (.lst (x :: y :: xs)) (.int 1) S = .ok y S := rfl
theorem idx_tup3 {x y z w : D} : idxR (.tup (x :: y :: z :: w :: xs)) (.int 3) S = .ok w S := rfl
theorem bi_lenT : biR .len [.tup xs] S = .ok (.int (xs.length : Nat)) S := rfl
theorem bi_lenL : biR .len [.lst xs] S = .ok (.int (xs.length : Nat)) S := rfl
theorem bi_lenC : biR .len [.scr xs] S = .ok (.int (xs.length : Nat)) S := rfl
theorem bi_lenS : biR .len [.str z] S = .ok (.int (z.length : Nat)) S := rfl
theorem bi_lenB (h : cellAt S n = some (.lst xs)) : biR .len [.ref n] S = .ok (.int (xs.length : Nat)) S := by
  show (match (seqOf S (.ref n)).map (·.length) with | some n => R.ok (D.int (n : Nat)) S | none => .err) = _
  rw [seqOf_box h]
  rfl
theorem bi_tupT : biR .tuple1 [.tup xs] S = .ok (.tup xs) S := rfl
theorem bi_tupL : biR .tuple1 [.lst xs] S = .ok (.tup xs) S := rfl
theorem bi_listL {box : Bool} : biR (.list1 box) [.lst xs] S = mkL box xs S := rfl
theorem bi_listT {box : Bool} : biR (.list1 box) [.tup xs] S = mkL box xs S := rfl
theorem bi_listB {box : Bool} (h : cellAt S n = some (.lst xs)) : biR (.list1 box) [.ref n] S = mkL box xs S := by
  show (match seqOf S (.ref n) with | some xs => mkL box xs S | none => .err) = _
  rw [seqOf_box h]
theorem bi_min2 : biR .min2 [.int i, .int j] S = .ok (.int (if j < i then j else i)) S := rfl
theorem bi_max2 : biR .max2 [.int i, .int j] S = .ok (.int (if j > i then j else i)) S := rfl
theorem bi_abs : biR .abs [.int i] S = .ok (.int (if i < 0 then -i else i)) S := rfl
theorem bi_intI : biR .int1 [.int i] S = .ok (.int i) S := rfl
theorem bi_intB : biR .int1 [.bl b] S = .ok (.int (if b then 1 else 0)) S := rfl
theorem mk_box : mkL true xs S = .ok (.ref S.length) (S ++ [some (.lst xs)]) := rfl
theorem mk_lst : mkL false xs S = .ok (.lst xs) S := rfl
theorem at_ref {c f : Nat} {fs : List (Nat × D)} (hc : cellAt S n = some (.ins c fs)) (hl : fs.lookup f = some d) : attrR (.ref n) f S = .ok d S := attr_ref hc hl
theorem at_put {c f : Nat} {cs : List Nat} {fs : List (Nat × D)} (hc : cellAt S n = some (.ins c fs)) : sattrR (.ref n) f cs d S = ck (c ∈ cs ∧ fs.length < 900) (.ok () (setAt S n (.ins c (putFd f d fs)))) := by
  unfold sattrR
  dsimp only
  rw [hc]
theorem idx_put {k : Nat} (hc : cellAt S n = some (.lst xs)) : sidxR (.ref n) (.int k) d S = ck (k < xs.length) (.ok () (setAt S n (.lst (xs.set k d)))) := by
  show (match cellAt S n with | some (.lst xs) => ck (0 ≤ (k : Int) ∧ (k : Int) < xs.length) (R.ok () (setAt S n (.lst (xs.set (k : Int).toNat d)))) | _ => .err) = _
  rw [hc]
  dsimp only
  rw [Int.toNat_natCast]
  unfold ck
  by_cases h : k < xs.length
  · rw [if_pos h, if_pos ⟨by omega, by omega⟩]
  · rw [if_neg h, if_neg (by omega)]
theorem bm_okA (h : cellAt S n = some (.lst xs)) : bmOk .append (.ref n) S = true := by unfold bmOk; dsimp only; rw [h]
theorem bm_okI (h : cellAt S n = some (.lst xs)) : bmOk .insert (.ref n) S = true := by unfold bmOk; dsimp only; rw [h]
theorem bm_okR (h : cellAt S n = some (.lst xs)) : bmOk .remove (.ref n) S = true := by unfold bmOk; dsimp only; rw [h]
theorem bm_okP (h : cellAt S n = some (.lst xs)) : bmOk .pop1 (.ref n) S = true := by unfold bmOk; dsimp only; rw [h]
theorem bm_okC (h : cellAt S n = some (.lst xs)) : bmOk .clear (.ref n) S = true := by unfold bmOk; dsimp only; rw [h]
theorem bm_append (h : cellAt S n = some (.lst xs)) : bmR .append (.ref n) [d] S = ck (xs.length < sizeLine) (.ok .non (setAt S n (.lst (xs ++ [d])))) := by
  show (match cellAt S n with | some (.lst xs) => ck (xs.length < sizeLine) (R.ok D.non (setAt S n (.lst (xs ++ [d])))) | _ => .err) = _
  rw [h]
theorem bm_insert (h : cellAt S n = some (.lst xs)) : bmR .insert (.ref n) [.int i, d] S = ck (xs.length < sizeLine ∧ 0 ≤ i ∧ i < 2 ^ 63) (.ok .non (setAt S n (.lst (insertAt xs i d)))) := by
  show (match cellAt S n with | some (.lst xs) => ck (xs.length < sizeLine ∧ 0 ≤ i ∧ i < 2 ^ 63) (R.ok D.non (setAt S n (.lst (insertAt xs i d)))) | _ => .err) = _
  rw [h]
theorem idx_boxN {k : Nat} (h : cellAt S n = some (.lst xs)) (hk : xs[k]? = some d) : idxR (.ref n) (.int k) S = .ok d S := idx_box h hk
theorem cell_setS {c : Cell} (h : (cellAt S n).isSome = true) : cellAt (setAt S n c) n = some c := by
  refine cellAt_set1 ?_
  obtain ⟨c', h⟩ := Option.isSome_iff_exists.mp h
  exact cellAt_lt h
theorem cell_setN {c : Cell} (h : m ≠ n) : cellAt (setAt S n c) m = cellAt S m := cellAt_set_ne1 h
theorem cell_push {c : Option Cell} : cellAt (S ++ [c]) S.length = c := cellAt_push
theorem cell_pushN {c : Option Cell} (h : (cellAt S m).isSome = true) : cellAt (S ++ [c]) m = cellAt S m := by
  obtain ⟨c', h⟩ := Option.isSome_iff_exists.mp h
  exact cellAt_push_lt (cellAt_lt h)
end
end Iv
/-! the same as steps backwards (for the tactic in sx.txt) -/
namespace Iv
open PySem L2
section
variable {F : CE} {Q : D → Sto → Prop} {Qs : List D → Sto → Prop} {Qf : Fl → Sto → Prop} {Qe : Env → Sto → Prop} {Qb : Bool → Sto → Prop} {Qu : Unit → Sto → Prop} {Qi : Src × List D → Sto → Prop} {Qo : Option Int → Sto → Prop} {E : Exc → Sto → Prop} {ρ : Env} {S : Sto} {a b c e : Iv.E} {d x y : D} {es ifs : List Iv.E} {box : Bool} {own own1 : List Nat} {t t1 : Tg} {ts : List Tg} {it it1 : It} {st : St} {sts body els : List St} {i j : Int} {z z' : Str} {xs ys ds ps : List D} {n m k f : Nat} {A B : Prop} {kb : Bool} {fs : List (Nat × D)} {arr : List Ar} {cl : Nat}
theorem r_var (h : ρ[n]? = some (some d)) (q : Q d S) : Ru (ev F (.var n) ρ S) Q E := by rw [ru_var h]; exact q
theorem r_aug {op : Bop} (h : ρ[n]? = some (some d)) (q : Ru (ev F e ρ S) (fun y S => Ru (augR op d y S) (fun z S => Qf (.next (ρ.set n (some z))) S) (fun x S => Qf (.raised x ρ) S)) (fun x S => Qf (.raised x ρ) S)) : Ru (ex F (.aug n op e) ρ S) Qf E := by rw [ru_sAug h]; exact q
theorem r_tupA (h : seqOf S d = some xs) (hl : xs.length = ts.length) (q : Ru (asgs F ts xs ρ S) Qe E) : Ru (tupA F ts ρ (seqOf S d) S) Qe E := by rw [h, ru_tupA]; exact ⟨hl, q⟩
theorem r_tupsA (h : seqOf S d = some xs) (hl : Nat.ble 1 ts.length = true) (hl2 : Nat.ble ts.length (xs.length + 1) = true) (hl3 : Nat.ble xs.length 1000 = true) (q : Ru (asgs F ts (xs.take (ts.length - 1) ++ [.lst (xs.drop (ts.length - 1))]) ρ S) Qe E) : Ru (tupsA F ts ρ (seqOf S d) S) Qe E := by
  rw [h, ru_tupsA]
  exact ⟨⟨Nat.le_of_ble_eq_true hl, Nat.le_of_ble_eq_true hl2, Nat.le_trans (Nat.le_of_ble_eq_true hl3) (by decide)⟩, q⟩
theorem r_callR (h : pick ds arr = some ps) (q : Ru (F f ps S) Q E) : Ru (callR F f arr ds S) Q E := by unfold callR; rw [h]; exact q
theorem sz_of (h : Nat.ble n 1000 = true) : n ≤ sizeLine := Nat.le_trans (Nat.le_of_ble_eq_true h) (by decide)
theorem sz_le (h : n ≤ 1000) : n ≤ sizeLine := Nat.le_trans h (by decide)
theorem r_sz (h : Nat.ble n 1000 = true) (q : A) : n ≤ sizeLine ∧ A := ⟨sz_of h, q⟩
theorem r_itet (h : kb = true) (q : A) : if kb = true then A else B := by rw [if_pos h]; exact q
theorem r_itef (h : kb = false) (q : B) : if kb = true then A else B := by rw [if_neg (by rw [h]; exact Bool.false_ne_true)]; exact q
theorem r_mulI (c : mulOk i j) (q : Q (.int (i * j)) S) : Ru (binR box .mul (.int i) (.int j) S) Q E := by rw [bin_mulI, ru_ck, ru_ok]; exact ⟨c, q⟩
theorem r_divI (c : 0 < j ∧ j < 1073741824) (q : Q (.int (i / j)) S) : Ru (binR box .div (.int i) (.int j) S) Q E := by rw [bin_divI, ru_ck, ru_ok]; exact ⟨c, q⟩
theorem r_modI (c : 0 < j) (q : Q (.int (i % j)) S) : Ru (binR box .mod (.int i) (.int j) S) Q E := by rw [bin_modI, ru_ck, ru_ok]; exact ⟨c, q⟩
theorem r_addT (c : Nat.ble (xs.length + ys.length) 1000 = true) (q : Q (.tup (xs ++ ys)) S) : Ru (binR box .add (.tup xs) (.tup ys) S) Q E := by rw [bin_addT, ru_ck, ru_ok]; exact ⟨sz_of c, q⟩
theorem r_at (hc : cellAt S n = some (.ins cl fs)) (hl : fs.lookup f = some d) (q : Q d S) : Ru (attrR (.ref n) f S) Q E := Ru.eq (at_ref hc hl) q
theorem r_atI (hl : fs.lookup f = some d) (q : Q d S) : Ru (attrR (.ins cl fs) f S) Q E := by
  refine Ru.eq (a := d) (S := S) ?_ q
  show (match fs.lookup f with | some d => R.ok d S | none => .err) = _
  rw [hl]
theorem r_meth {ms : List (Nat × Nat × List Ar)} (hc : cellAt S n = some (.ins cl fs)) (hm : ms.lookup cl = some (f, arr)) (q : Ru (evs F es ρ S) (fun xs S => Ru (callR F f arr (.ref n :: xs) S) Q E) E) : Ru (methR F ms es ρ (.ref n) ((clsOf S (.ref n)).bind fun c => ms.lookup c) S) Q E := by
  rw [cls_ref hc, Option.bind_some, hm, ru_methR]
  exact q
theorem r_methI {ms : List (Nat × Nat × List Ar)} (hm : ms.lookup cl = some (f, arr)) (q : Ru (evs F es ρ S) (fun xs S => Ru (callR F f arr (.ins cl fs :: xs) S) Q E) E) : Ru (methR F ms es ρ (.ins cl fs) ((clsOf S (.ins cl fs)).bind fun c => ms.lookup c) S) Q E := by
  show Ru (methR F ms es ρ (.ins cl fs) ((some cl).bind fun c => ms.lookup c) S) Q E
  rw [Option.bind_some, hm, ru_methR]
  exact q
theorem r_oR {α : Type} {o : Option α} {w : α} {Qx : α → Sto → Prop} (h : o = some w) (q : Qx w S) : Ru (oR o S) Qx E := by rw [h, ru_oR]; exact q
theorem r_walkB {Qx : Src × List D → Sto → Prop} (h : cellAt S n = some (.lst xs)) (q : Qx (.box n xs, xs) S) : Ru (oR (walkOf S (.ref n)) S) Qx E := r_oR (walk_box h) q
theorem r_enumR {o : Option (Src × List D)} {w : Src × List D} (h : o = some w) (q : Qi (w.1, enumD 0 w.2) S) : Ru (enumR o none S) Qi E := by rw [h, ru_enumR]; exact q
theorem r_enumB (h : cellAt S n = some (.lst xs)) (q : Qi (.box n xs, enumD 0 xs) S) : Ru (enumR (walkL S (.ref n)) none S) Qi E := r_enumR (walkL_box h) q
theorem r_enumSR {o : Option (Src × List D)} {w : Src × List D} (h : o = some w) (c : smallI j) (q : Qi (w.1, enumD j w.2) S) : Ru (enumSR o (.int j) S) Qi E := by rw [h, ru_enumSR]; exact ⟨c, q⟩
theorem r_enumSB (h : cellAt S n = some (.lst xs)) (c : smallI j) (q : Qi (.box n xs, enumD j xs) S) : Ru (enumSR (walkL S (.ref n)) (.int j) S) Qi E := r_enumSR (walkL_box h) c q
theorem r_rng1R (c : smallI j) (q : Qi (.fix, rngD 0 j.toNat) S) : Ru (rng1R (.int j) S) Qi E := by rw [ru_rng1R]; exact ⟨c, q⟩
theorem r_rng2R (c : smallI i ∧ smallI j) (q : Qi (.fix, rngD i (j - i).toNat) S) : Ru (rng2R (.int i) (.int j) S) Qi E := by rw [ru_rng2R]; exact ⟨c, q⟩
theorem r_isitR {tys : List String} {o : Option Bool} (h : o = some kb) (hl : Nat.ble tys.length 100 = true) (q : Q (.bl kb) S) : Ru (isitR tys o S) Q E := by rw [h, ru_isitR]; exact ⟨Nat.le_of_ble_eq_true hl, q⟩
theorem r_isi {ty : String} (h : (tyOf S x).bind (fun a => kitB a ty) = some kb) (q : Q (.bl kb) S) : Ru (biR .isi [x, .ty ty] S) Q E := by
  refine Ru.eq (a := .bl kb) (S := S) ?_ q
  show (match (tyOf S x).bind fun a => kitB a ty with | some b => R.ok (D.bl b) S | none => .err) = _
  rw [h]
theorem r_listB (h : cellAt S n = some (.lst xs)) (q : Ru (mkL box xs S) Q E) : Ru (biR (.list1 box) [.ref n] S) Q E := by rw [bi_listB h]; exact q
theorem r_listL (q : Ru (mkL box xs S) Q E) : Ru (biR (.list1 box) [.lst xs] S) Q E := q
theorem r_listT (q : Ru (mkL box xs S) Q E) : Ru (biR (.list1 box) [.tup xs] S) Q E := q
theorem r_addL (c : xs.length + ys.length ≤ 1000) (q : Ru (mkL box (xs ++ ys) S) Q E) : Ru (binR box .add (.lst xs) (.lst ys) S) Q E := by rw [bin_addL, ru_ck]; exact ⟨sz_le c, q⟩
theorem r_lenB (h : cellAt S n = some (.lst xs)) (q : Q (.int (xs.length : Nat)) S) : Ru (biR .len [.ref n] S) Q E := Ru.eq (bi_lenB h) q
theorem lsts_lst : ∀ ys : List (List D), lstsD S (ys.map .lst) = some ys
  | [] => rfl
  | y :: ys => by
    show (match unbox S (.lst y) with | .lst z => (lstsD S (ys.map .lst)).map (z :: ·) | _ => none) = _
    rw [lsts_lst ys]
    rfl
theorem r_sumLL {ys : List (List D)} (hl : ys.flatten.length ≤ 1000) (q : Q (.lst ys.flatten) S) : Ru (biR .sumLL [.lst (ys.map .lst), .lst []] S) Q E := by
  refine Ru.eq (a := .lst ys.flatten) (S := S) ?_ q
  show (match (some (ys.map D.lst)).bind (lstsD S) with | some ys => ck (ys.flatten.length ≤ 1000) (R.ok (D.lst ys.flatten) S) | none => .err) = _
  rw [Option.bind_some, lsts_lst]
  exact ck_of hl
theorem r_sortL (c : D.fzs xs = true ∧ D.dps xs ≤ 60 ∧ sortable (D.pys xs)) (q : Ru (mkL box (sortD xs) S) Q E) : Ru (biR (.sorted1 box) [.lst xs] S) Q E := by
  show Ru (ck (D.fzs xs = true ∧ D.dps xs ≤ 60 ∧ sortable (D.pys xs)) (mkL box (sortD xs) S)) Q E
  rw [ru_ck]
  exact ⟨c, q⟩
theorem r_sortB (h : cellAt S n = some (.lst xs)) (c : D.fzs xs = true ∧ D.dps xs ≤ 60 ∧ sortable (D.pys xs)) (q : Ru (mkL box (sortD xs) S) Q E) : Ru (biR (.sorted1 box) [.ref n] S) Q E := by
  show Ru (match seqOf S (.ref n) with | some xs => ck (D.fzs xs = true ∧ D.dps xs ≤ 60 ∧ sortable (D.pys xs)) (mkL box (sortD xs) S) | none => .err) Q E
  rw [seqOf_box h, ru_ck]
  exact ⟨c, q⟩
theorem r_sortRL (c : D.fzs xs = true ∧ D.dps xs ≤ 60 ∧ sortable (D.pys xs)) (q : Ru (mkL box (sortRD xs) S) Q E) : Ru (biR (.sortedR box) [.lst xs, .bl true] S) Q E := by
  show Ru (ck (D.fzs xs = true ∧ D.dps xs ≤ 60 ∧ sortable (D.pys xs)) (mkL box (sortRD xs) S)) Q E
  rw [ru_ck]
  exact ⟨c, q⟩
theorem r_sortRB (h : cellAt S n = some (.lst xs)) (c : D.fzs xs = true ∧ D.dps xs ≤ 60 ∧ sortable (D.pys xs)) (q : Ru (mkL box (sortRD xs) S) Q E) : Ru (biR (.sortedR box) [.ref n, .bl true] S) Q E := by
  show Ru (match seqOf S (.ref n) with | some xs => ck (D.fzs xs = true ∧ D.dps xs ≤ 60 ∧ sortable (D.pys xs)) (mkL box (sortRD xs) S) | none => .err) Q E
  rw [seqOf_box h, ru_ck]
  exact ⟨c, q⟩
theorem r_slcL {lo hi : Option Int} (q : Ru (mkL box (cutD xs lo hi) S) Q E) : Ru (slcR box (.lst xs) lo hi S) Q E := q
theorem r_slcT {lo hi : Option Int} (q : Q (.tup (cutD xs lo hi)) S) : Ru (slcR box (.tup xs) lo hi S) Q E := Ru.eq rfl q
theorem r_slcB {lo hi : Option Int} (h : cellAt S n = some (.lst xs)) (q : Ru (mkL box (cutD xs lo hi) S) Q E) : Ru (slcR box (.ref n) lo hi S) Q E := by
  show Ru (match seqOf S (.ref n) with | some xs => mkL box (cutD xs lo hi) S | none => .err) Q E
  rw [seqOf_box h]
  exact q
theorem r_remove (h : cellAt S n = some (.lst xs)) (hj : xs.findIdx? (fun z => z.eqv d) = some k) (c : D.fzs xs = true ∧ d.fz = true ∧ D.dps xs ≤ 60 ∧ d.dp ≤ 60 ∧ xs.length ≤ 1000) (q : ∀ S', S'.length = S.length → cellAt S' n = some (.lst (xs.eraseIdx k)) → Keep [n] S S' → Q .non S') : Ru (bmR .remove (.ref n) [d] S) Q E := by
  show Ru (match cellAt S n with | some (.lst xs) => (match xs.findIdx? (fun z => z.eqv d) with | some j => ck (D.fzs xs = true ∧ d.fz = true ∧ D.dps xs ≤ 60 ∧ d.dp ≤ 60 ∧ xs.length ≤ sizeLine) (.ok .non (setAt S n (.lst (xs.eraseIdx j)))) | none => .err) | _ => .err) Q E
  rw [h]
  dsimp only
  rw [hj]
  dsimp only
  rw [ru_ck, ru_ok]
  exact ⟨⟨c.1, c.2.1, c.2.2.1, c.2.2.2.1, sz_le c.2.2.2.2⟩, q _ setAt_len (cell_setS (by rw [h]; rfl)) Keep.set⟩
theorem r_isStr {z' : Str} (q : Q (.bl (z == z')) S) : Ru (cmpR .eq (.str z) (.str z') S) Q E := Ru.eq cmp_eqS q
theorem r_neB (h : cellAt S n = some (.lst xs)) (fy : y.fz = true) (dy : y.dp ≤ 64) (c : D.fzs xs = true ∧ D.dps xs ≤ 60) (q : Q (.bl (!((D.lst xs).eqv y))) S) : Ru (cmpR .ne (.ref n) y S) Q E := by
  have e : unbox S (.ref n) = .lst xs := by rw [unbox_ref, h]
  show Ru (ck ((unbox S (.ref n)).fz = true ∧ (unbox S y).fz = true ∧ (unbox S (.ref n)).dp ≤ 64 ∧ (unbox S y).dp ≤ 64) (R.ok (D.bl (!((unbox S (.ref n)).eqv (unbox S y)))) S)) Q E
  rw [e, unbox_fz1 fy, ru_ck, ru_ok]
  exact ⟨⟨by rw [D.fz]; exact c.1, fy, by rw [D.dp]; omega, dy⟩, q⟩
theorem r_eqB (h : cellAt S n = some (.lst xs)) (fy : y.fz = true) (dy : y.dp ≤ 64) (c : D.fzs xs = true ∧ D.dps xs ≤ 60) (q : Q (.bl ((D.lst xs).eqv y)) S) : Ru (cmpR .eq (.ref n) y S) Q E := by
  have e : unbox S (.ref n) = .lst xs := by rw [unbox_ref, h]
  show Ru (ck ((unbox S (.ref n)).fz = true ∧ (unbox S y).fz = true ∧ (unbox S (.ref n)).dp ≤ 64 ∧ (unbox S y).dp ≤ 64) (R.ok (D.bl ((unbox S (.ref n)).eqv (unbox S y))) S)) Q E
  rw [e, unbox_fz1 fy, ru_ck, ru_ok]
  exact ⟨⟨by rw [D.fz]; exact c.1, fy, by rw [D.dp]; omega, dy⟩, q⟩
theorem eqv_nil : (D.lst xs).eqv (.lst []) = xs.isEmpty := by cases xs <;> simp [D.eqv, D.eqvs]
theorem eqv_nilT : (D.tup xs).eqv (.tup []) = xs.isEmpty := by cases xs <;> simp [D.eqv, D.eqvs]
theorem nil_ok : (D.lst []).fz = true ∧ (D.lst []).dp ≤ 64 := ⟨by simp [D.fz, D.fzs], by simp [D.dp, D.dps]⟩
theorem nil_okT : (D.tup []).fz = true ∧ (D.tup []).dp ≤ 64 := ⟨by simp [D.fz, D.fzs], by simp [D.dp, D.dps]⟩
theorem cutTake {α : Type} {xs : List α} {n : Nat} : cutD xs none (some (n : Int)) = xs.take n := by
  have e1 : HT.sIx xs.length 0 none = 0 := rfl
  have e2 : HT.sIx xs.length xs.length (some (n : Int)) = min n xs.length := HT.sIx_nat ..
  unfold cutD
  rw [e1, e2, List.drop_zero, Nat.sub_zero]
  by_cases h : n ≤ xs.length
  · rw [Nat.min_eq_left h]
  · rw [Nat.min_eq_right (by omega), List.take_length, List.take_of_length_le (by omega)]
theorem cutDrop {α : Type} {xs : List α} {n : Nat} : cutD xs (some (n : Int)) none = xs.drop n := by
  have e1 : HT.sIx xs.length 0 (some (n : Int)) = min n xs.length := HT.sIx_nat ..
  have e2 : HT.sIx xs.length xs.length none = xs.length := rfl
  unfold cutD
  rw [e1, e2]
  by_cases h : n ≤ xs.length
  · rw [Nat.min_eq_left h, List.take_of_length_le (by rw [List.length_drop]; omega)]
  · rw [Nat.min_eq_right (by omega), List.drop_length, List.drop_eq_nil_of_le (by omega), List.take_nil]
/-- a new box -/
theorem r_new (q : ∀ S' n, n = S.length → cellAt S' n = some (.lst xs) → Keep [] S S' → Q (.ref n) S') : Ru (mkL true xs S) Q E := Ru.eq rfl (q _ _ rfl cell_push Keep.push)
theorem r_append (h : cellAt S n = some (.lst xs)) (hl : xs.length < 1000) (q : ∀ S', S'.length = S.length → cellAt S' n = some (.lst (xs ++ [d])) → Keep [n] S S' → Q .non S') : Ru (bmR .append (.ref n) [d] S) Q E := by
  rw [bm_append h, ru_ck, ru_ok]
  exact ⟨Nat.lt_of_lt_of_le hl (by decide), q _ setAt_len (cell_setS (by rw [h]; rfl)) Keep.set⟩
theorem r_insert (h : cellAt S n = some (.lst xs)) (hl : xs.length < 1000) (hi : 0 ≤ i ∧ i < 2 ^ 63) (q : ∀ S', S'.length = S.length → cellAt S' n = some (.lst (insertAt xs i d)) → Keep [n] S S' → Q .non S') : Ru (bmR .insert (.ref n) [.int i, d] S) Q E := by
  rw [bm_insert h, ru_ck, ru_ok]
  exact ⟨⟨Nat.lt_of_lt_of_le hl (by decide), hi⟩, q _ setAt_len (cell_setS (by rw [h]; rfl)) Keep.set⟩
theorem r_put {cs : List Nat} (h : cellAt S n = some (.ins cl fs)) (hc : cl ∈ cs) (hl : fs.length < 900) (q : ∀ S', S'.length = S.length → cellAt S' n = some (.ins cl (putFd f d fs)) → Keep [n] S S' → Qu () S') : Ru (sattrR (.ref n) f cs d S) Qu E := by
  rw [at_put h, ru_ck, ru_ok]
  exact ⟨⟨hc, hl⟩, q _ setAt_len (cell_setS (by rw [h]; rfl)) Keep.set⟩
theorem r_idxPut (h : cellAt S n = some (.lst xs)) (hk : k < xs.length) (q : ∀ S', S'.length = S.length → cellAt S' n = some (.lst (xs.set k d)) → Keep [n] S S' → Qu () S') : Ru (sidxR (.ref n) (.int k) d S) Qu E := by
  rw [idx_put h, ru_ck, ru_ok]
  exact ⟨hk, q _ setAt_len (cell_setS (by rw [h]; rfl)) Keep.set⟩
theorem r_make (q : ∀ S' n, n = S.length → cellAt S' n = some (.ins cl []) → Keep [] S S' → Ru (callR F f arr (.ref n :: ds) S') (fun r S1 => r = .non ∧ Q (.ref n) S1) E) : Ru (makeR F false cl f arr ds S) Q E := by
  rw [ru_makeR]
  exact q _ _ rfl cell_push Keep.push
/-- ways join behind a statement -/
theorem Ru.join (P : Env → Sto → Prop) (h : Ru (Iv.ex F st ρ S) (fun w S' => ∃ ρ', w = .next ρ' ∧ P ρ' S') noE) (q : ∀ ρ' S', P ρ' S' → Ru (exs F sts ρ' S') Qf E) : Ru (Iv.ex F st ρ S) (nxQ F sts Qf E) noE := by
  refine h.imp (fun w S' ⟨ρ', e, p⟩ => ?_) fun _ _ h => h
  rw [e]
  exact q ρ' S' p
end
end Iv

/-! ### dicts and sets, backwards -/
namespace Iv
open PySem L2
section
variable {F : CE} {Q : D → Sto → Prop} {Qs : List D → Sto → Prop} {Qe : Env → Sto → Prop} {Qu : Unit → Sto → Prop} {E : Exc → Sto → Prop} {ρ : Env} {S : Sto} {a b c e e2 : Iv.E} {d x y : D} {ifs : List Iv.E} {own : List Nat} {t : Tg} {it : It} {n : Nat} {κ : L2.Key} {kvs : List (L2.Key × D)} {ys : List D} {neg : Bool}
theorem ru_dnew : Ru (ev F .dnew ρ S) Q E = Q (.ref S.length) (S ++ [some (.dct [])]) := by rw [ev, ru_ok]
theorem ru_didx : Ru (ev F (.didx a b) ρ S) Q E = Ru (ev F a ρ S) (fun x S => Ru (ev F b ρ S) (fun y S => Ru (didxR x y S) Q E) E) E := by rw [ev]; simp only [ru_bind]
theorem ru_din : Ru (ev F (.din neg a b) ρ S) Q E = Ru (ev F a ρ S) (fun y S => Ru (ev F b ρ S) (fun x S => Ru (dinR neg y x S) Q E) E) E := by rw [ev]; simp only [ru_bind]
theorem ru_dget2 : Ru (ev F (.dget2 a b c) ρ S) Q E = Ru (ev F a ρ S) (fun x S => (dctOf S x).isSome = true ∧ Ru (ev F b ρ S) (fun y S => Ru (ev F c ρ S) (fun v S => Ru (dget2R x y v S) Q E) E) E) E := by rw [ev]; simp only [ru_bind, ru_ck]
theorem ru_dpop : Ru (ev F (.dpop a b) ρ S) Q E = Ru (ev F a ρ S) (fun x S => (dctOf S x).isSome = true ∧ Ru (ev F b ρ S) (fun y S => Ru (dpopR x y S) Q E) E) E := by rw [ev]; simp only [ru_bind, ru_ck]
theorem ru_dsort {box : Bool} : Ru (ev F (.dsort box a) ρ S) Q E = Ru (ev F a ρ S) (fun x S => Ru (dsortR box x S) Q E) E := by rw [ev]; simp only [ru_bind]
theorem ru_dcomp : Ru (ev F (.dcomp own t it ifs e e2) ρ S) Q E = Ru (evIt F it ρ S) (fun w S => Ru (lcLoop w.1 (dcStep F own t ifs e e2 ρ) w.2 S) (fun ys S => Ru (mkDct ys S) Q E) E) E := by rw [ev]; simp only [ru_bind]
theorem ru_dcStep : Ru (dcStep F own t ifs e e2 ρ d S) Qs E = Ru (asg F t d (wipeE ρ own) S) (fun ρ1 S => Ru (evIfs F ifs ρ1 S) (fun k S => if k = true then Ru (ev F e ρ1 S) (fun y S => Ru (ev F e2 ρ1 S) (fun z S => Qs [.tup [y, z]] S) E) E else Qs [] S) E) E := by
  unfold dcStep
  simp only [ru_bind, ru_ite, ru_ok]
theorem ru_lenSC : Ru (ev F (.lenSC own t it ifs e) ρ S) Q E = Ru (evIt F it ρ S) (fun w S => Ru (lcLoop w.1 (lcStep F own t ifs e ρ) w.2 S) (fun ys S => Ru (lenSCR ys S) Q E) E) E := by rw [ev]; simp only [ru_bind]
theorem ru_sortSC : Ru (ev F (.sortSC own t it ifs e) ρ S) Q E = Ru (evIt F it ρ S) (fun w S => Ru (lcLoop w.1 (lcStep F own t ifs e ρ) w.2 S) (fun ys S => Ru (sortSCR ys S) Q E) E) E := by rw [ev]; simp only [ru_bind]
theorem ru_aDidx : Ru (asg F (.didx a b) d ρ S) Qe E = Ru (ev F a ρ S) (fun x S => Ru (ev F b ρ S) (fun y S => Ru (dputR x y d S) (fun _ S => Qe ρ S) E) E) E := by rw [asg]; simp only [ru_bind, ru_ok]
theorem ru_lenS : Ru (ev F (.lenS a) ρ S) Q E = Ru (ev F a ρ S) (fun x S => Ru (lenSR (seqOf S x) S) Q E) E := by rw [ev]; simp only [ru_bind]
theorem ru_sortS : Ru (ev F (.sortS a) ρ S) Q E = Ru (ev F a ρ S) (fun x S => Ru (sortSR (seqOf S x) S) Q E) E := by rw [ev]; simp only [ru_bind]
theorem dct_ref (h : cellAt S n = some (.dct kvs)) : dctOf S (.ref n) = some (n, kvs) := by unfold dctOf; dsimp only; rw [h]
theorem dct_some (h : cellAt S n = some (.dct kvs)) : (dctOf S (.ref n)).isSome = true := by rw [dct_ref h]; rfl
theorem r_didx (h : cellAt S n = some (.dct kvs)) (hk : keyD y = some κ) (hg : dGet kvs κ = some d) (q : Q d S) : Ru (didxR (.ref n) y S) Q E := by
  unfold didxR
  rw [dct_ref h, hk]
  dsimp only
  rw [hg, ru_ok]
  exact q
theorem r_din (h : cellAt S n = some (.dct kvs)) (hk : keyD y = some κ) (q : Q (.bl (if neg then !(dGet kvs κ).isSome else (dGet kvs κ).isSome)) S) : Ru (dinR neg y (.ref n) S) Q E := by
  unfold dinR
  rw [dct_ref h, hk, ru_ok]
  exact q
theorem r_dget2 (h : cellAt S n = some (.dct kvs)) (hk : keyD y = some κ) (q : Q ((dGet kvs κ).getD d) S) : Ru (dget2R (.ref n) y d S) Q E := by
  unfold dget2R
  rw [dct_ref h, hk, ru_ok]
  exact q
theorem r_dpop (h : cellAt S n = some (.dct kvs)) (hk : keyD y = some κ) (hg : dGet kvs κ = some d) (q : ∀ S', S'.length = S.length → cellAt S' n = some (.dct (dDrop kvs κ)) → Keep [n] S S' → Q d S') : Ru (dpopR (.ref n) y S) Q E := by
  unfold dpopR
  rw [dct_ref h, hk]
  dsimp only
  rw [hg, ru_ok]
  exact q _ setAt_len (cell_setS (by rw [h]; rfl)) Keep.set
theorem r_dput (h : cellAt S n = some (.dct kvs)) (hk : keyD y = some κ) (hl : kvs.length < 1000) (q : ∀ S', S'.length = S.length → cellAt S' n = some (.dct (dPut kvs κ d)) → Keep [n] S S' → Qu () S') : Ru (dputR (.ref n) y d S) Qu E := by
  unfold dputR
  rw [dct_ref h, hk]
  dsimp only
  rw [ru_ck, ru_ok]
  exact ⟨Nat.lt_of_lt_of_le hl (by decide), q _ setAt_len (cell_setS (by rw [h]; rfl)) Keep.set⟩
theorem r_dsortI {box : Bool} {ns : List Int} (h : cellAt S n = some (.dct kvs)) (hk : intKs kvs = some ns) (hl : ns.length < 64) (q : Ru (mkL box ((srtI ns).map .int) S) Q E) : Ru (dsortR box (.ref n) S) Q E := by
  unfold dsortR
  rw [dct_ref h]
  dsimp only
  rw [hk]
  dsimp only
  rw [ru_ck]
  exact ⟨hl, q⟩
theorem r_dsortS {box : Bool} {ns : List Str} (h : cellAt S n = some (.dct kvs)) (h0 : intKs kvs = none) (hk : strKs kvs = some ns) (hl : ns.length < 64) (q : Ru (mkL box ((srtS ns).map .str) S) Q E) : Ru (dsortR box (.ref n) S) Q E := by
  unfold dsortR
  rw [dct_ref h]
  dsimp only
  rw [h0, hk]
  dsimp only
  rw [ru_ck]
  exact ⟨hl, q⟩
theorem r_mkDct {es : List (L2.Key × D)} (h : pairsD ys = some es) (hl : ys.length < 1000) (q : ∀ S' n, n = S.length → cellAt S' n = some (.dct (mergeD es)) → Keep [] S S' → Q (.ref n) S') : Ru (mkDct ys S) Q E := by
  unfold mkDct
  rw [h]
  dsimp only
  rw [ru_ck, ru_ok]
  exact ⟨Nat.lt_of_lt_of_le hl (by decide), q _ _ rfl cell_push Keep.push⟩
theorem r_lenSC {ks : List L2.Key} (h : keysD ys = some ks) (hl : ys.length < 1000) (q : Q (.int (manyK ks)) S) : Ru (lenSCR ys S) Q E := by
  unfold lenSCR
  rw [h]
  dsimp only
  rw [ru_ck, ru_ok]
  exact ⟨hl, q⟩
theorem r_sortSC {ns : List Int} (h : intsD ys = some ns) (hl : ys.length < 64) (q : Q (.lst ((srtI ns.eraseDups).map .int)) S) : Ru (sortSCR ys S) Q E := by
  unfold sortSCR
  rw [h]
  dsimp only
  rw [ru_ck, ru_ok]
  exact ⟨hl, q⟩
theorem r_lenS {o : Option (List D)} {ks : List L2.Key} (ho : o = some ys) (h : keysD ys = some ks) (hl : ys.length < 1000) (q : Q (.int (manyK ks)) S) : Ru (lenSR o S) Q E := by
  subst ho
  exact r_lenSC h hl q
theorem r_sortSI {o : Option (List D)} {ns : List Int} (ho : o = some (ns.map .int)) (hl : ns.length < 64) (q : Q (.lst ((srtI (nubK ns)).map .int)) S) : Ru (sortSR o S) Q E := by
  subst ho
  unfold sortSR
  dsimp only
  have e : intsD (ns.map .int) = some ns := by
    have go : ∀ l : List Int, intsD (l.map .int) = some l := by
      intro l
      induction l with
      | nil => rfl
      | cons x l ih => rw [List.map_cons, intsD, ih]; rfl
    exact go _
  rw [e]
  dsimp only
  rw [ru_ck, ru_ok]
  exact ⟨hl, q⟩
theorem r_sortSS {o : Option (List D)} {z : Str} {zs : List Str} (ho : o = some ((z :: zs).map .str)) (hl : (z :: zs).length < 64) (q : Q (.lst ((srtS (nubK (z :: zs))).map .str)) S) : Ru (sortSR o S) Q E := by
  subst ho
  unfold sortSR
  dsimp only
  have e : strsD ((z :: zs).map .str) = some (z :: zs) := by
    have go : ∀ l : List Str, strsD (l.map .str) = some l := by
      intro l
      induction l with
      | nil => rfl
      | cons x l ih => rw [List.map_cons, strsD, ih]; rfl
    exact go _
  rw [e, show intsD ((z :: zs).map D.str) = none from rfl]
  dsimp only
  rw [ru_ck, ru_ok]
  exact ⟨hl, q⟩
/-- x.count(y) of a list of frozen things -/
theorem r_count {xs : List D} (h : lstOf S x = some xs) (c : D.fzs xs = true ∧ y.fz = true ∧ D.dps xs ≤ 60 ∧ y.dp ≤ 60) (q : Q (.int (xs.countP fun z => z.eqv y : Nat)) S) : Ru (bmR .count x [y] S) Q E := by
  show Ru (match lstOf S x with | some xs => ck (D.fzs xs = true ∧ y.fz = true ∧ D.dps xs ≤ 60 ∧ y.dp ≤ 60) (R.ok (D.int (xs.countP fun z => z.eqv y : Nat)) S) | none => .err) Q E
  rw [h]
  dsimp only
  rw [ru_ck, ru_ok]
  exact ⟨c, q⟩
theorem bm_okN {xs : List D} (h : lstOf S x = some xs) : bmOk .count x S = true := by unfold bmOk; cases x <;> first | (dsimp only; rw [h]; rfl) | cases h
end
end Iv

namespace Wk
open PySem PySem.Spec PyProof.Rows L2 Iv
def top (i : Nat) : Stmt := PySem.Challenge.pw_whatindex_k12_bits.main.body.getD i (.Pass ⟨0, 0, 0, 0⟩)
abbrev s_u_wall : Stmt := top 0
abbrev s_Bits_init : Stmt := inClass (top 2) 0
abbrev s_Bits_copied : Stmt := inClass (top 2) 1
abbrev s_Bits_page_of : Stmt := inClass (top 2) 2
abbrev s_Bits_pages_at : Stmt := inClass (top 2) 3
abbrev s_Bits_put : Stmt := inClass (top 2) 4
abbrev s_Bits_drop : Stmt := inClass (top 2) 5
abbrev s_Bits_found : Stmt := inClass (top 2) 6
abbrev s_Bits_kept : Stmt := inClass (top 2) 7
abbrev s_l_bag : Stmt := top 4
abbrev s_l_take : Stmt := top 5
abbrev s_l_word : Stmt := top 6
abbrev s_l_value : Stmt := top 7
abbrev s_l_like : Stmt := top 8
abbrev s_l_pages : Stmt := top 9
abbrev s_l_shows : Stmt := top 10
abbrev s_law : Stmt := top 11
theorem sc_u_wall : FnScope ["k"] ["k"] (defScope s_u_wall) := ⟨rfl, rfl, rfl, by decide +kernel, rfl, by decide +kernel, by decide +kernel⟩
theorem sc_Bits_init : FnScope ["self", "width"] ["self", "width"] (defScope s_Bits_init) := ⟨rfl, rfl, rfl, by decide +kernel, rfl, by decide +kernel, by decide +kernel⟩
theorem sc_Bits_copied : FnScope ["self"] ["self"] (defScope s_Bits_copied) := ⟨rfl, rfl, rfl, by decide +kernel, rfl, by decide +kernel, by decide +kernel⟩
theorem sc_Bits_page_of : FnScope ["self", "number"] ["self", "number"] (defScope s_Bits_page_of) := ⟨rfl, rfl, rfl, by decide +kernel, rfl, by decide +kernel, by decide +kernel⟩
theorem sc_Bits_pages_at : FnScope ["self", "value", "number"] ["self", "value"] (defScope s_Bits_pages_at) := ⟨rfl, rfl, rfl, by decide +kernel, rfl, by decide +kernel, by decide +kernel⟩
theorem sc_Bits_put : FnScope ["self", "value", "number", "touched"] ["self", "value", "number"] (defScope s_Bits_put) := ⟨rfl, rfl, rfl, by decide +kernel, rfl, by decide +kernel, by decide +kernel⟩
theorem sc_Bits_drop : FnScope ["self", "value", "number", "one"] ["self", "value", "number"] (defScope s_Bits_drop) := ⟨rfl, rfl, rfl, by decide +kernel, rfl, by decide +kernel, by decide +kernel⟩
theorem sc_Bits_found : FnScope ["self", "value"] ["self", "value"] (defScope s_Bits_found) := ⟨rfl, rfl, rfl, by decide +kernel, rfl, by decide +kernel, by decide +kernel⟩
theorem sc_Bits_kept : FnScope ["self"] ["self"] (defScope s_Bits_kept) := ⟨rfl, rfl, rfl, by decide +kernel, rfl, by decide +kernel, by decide +kernel⟩
theorem sc_l_bag : FnScope ["_law_script", "_law_at", "_law_cell", "_law_great", "_law_primes"] ["_law_script", "_law_at"] (defScope s_l_bag) := ⟨rfl, rfl, rfl, by decide +kernel, rfl, by decide +kernel, by decide +kernel⟩
theorem sc_l_take : FnScope ["_law_bag_here", "_law_many", "_law_digit"] ["_law_bag_here", "_law_many"] (defScope s_l_take) := ⟨rfl, rfl, rfl, by decide +kernel, rfl, by decide +kernel, by decide +kernel⟩
theorem sc_l_word : FnScope ["_law_bag_here", "_law_letters", "_law_turn"] ["_law_bag_here"] (defScope s_l_word) := ⟨rfl, rfl, rfl, by decide +kernel, rfl, by decide +kernel, by decide +kernel⟩
theorem sc_l_value : FnScope ["_law_bag_here", "_law_kind", "_law_way"] ["_law_bag_here", "_law_kind"] (defScope s_l_value) := ⟨rfl, rfl, rfl, by decide +kernel, rfl, by decide +kernel, by decide +kernel⟩
theorem sc_l_like : FnScope ["_law_told", "_law_due", "_law_one", "_law_other"] ["_law_told", "_law_due"] (defScope s_l_like) := ⟨rfl, rfl, rfl, by decide +kernel, rfl, by decide +kernel, by decide +kernel⟩
theorem sc_l_pages : FnScope ["_law_numbers", "_law_wide", "_law_number"] ["_law_numbers", "_law_wide"] (defScope s_l_pages) := ⟨rfl, rfl, rfl, by decide +kernel, rfl, by decide +kernel, by decide +kernel⟩
theorem sc_l_shows : FnScope ["_law_bits", "_law_held", "_law_wide", "_law_value_here", "_law_numbers", "_law_turn", "_law_found", "_law_known", "_law_one", "_law_number"] ["_law_bits", "_law_held", "_law_wide", "_law_value_here"] (defScope s_l_shows) := ⟨rfl, rfl, rfl, by decide +kernel, rfl, by decide +kernel, by decide +kernel⟩
theorem sc_law : FnScope ["_law_script", "_law_bag_here", "_law_wide", "_law_kind", "_law_bits", "_law_held", "_law_k", "_law_pair", "_law_value_here", "_law_number", "_law_others", "_law_touched", "_law_due", "_law_there", "_law_one", "_law_other"] ["_law_script"] (defScope s_law) := ⟨rfl, rfl, rfl, by decide +kernel, rfl, by decide +kernel, by decide +kernel⟩
structure Txt (K : PySem.W.Frag) (mg : Str → Option Value) : Prop where
  d_u_wall : ∃ fd, FunD K "_wall" "_wall" (defArgs s_u_wall) (defBody s_u_wall) (defScope s_u_wall) [] [] (He.ga K "_wall") fd
  m_u_wall : mg "_wall" = some (.ref (He.ga K "_wall"))
  d_Bits_init : ∃ fd, FunD K "__init__" "Bits.__init__" (defArgs s_Bits_init) (defBody s_Bits_init) (defScope s_Bits_init) [] [] (He.ma K (He.ga K "Bits") "__init__") fd
  d_Bits_copied : ∃ fd, FunD K "copied" "Bits.copied" (defArgs s_Bits_copied) (defBody s_Bits_copied) (defScope s_Bits_copied) [] [] (He.ma K (He.ga K "Bits") "copied") fd
  d_Bits_page_of : ∃ fd, FunD K "page_of" "Bits.page_of" (defArgs s_Bits_page_of) (defBody s_Bits_page_of) (defScope s_Bits_page_of) [] [] (He.ma K (He.ga K "Bits") "page_of") fd
  d_Bits_pages_at : ∃ fd, FunD K "pages_at" "Bits.pages_at" (defArgs s_Bits_pages_at) (defBody s_Bits_pages_at) (defScope s_Bits_pages_at) [] [] (He.ma K (He.ga K "Bits") "pages_at") fd
  d_Bits_put : ∃ fd, FunD K "put" "Bits.put" (defArgs s_Bits_put) (defBody s_Bits_put) (defScope s_Bits_put) [] [] (He.ma K (He.ga K "Bits") "put") fd
  d_Bits_drop : ∃ fd, FunD K "drop" "Bits.drop" (defArgs s_Bits_drop) (defBody s_Bits_drop) (defScope s_Bits_drop) [] [] (He.ma K (He.ga K "Bits") "drop") fd
  d_Bits_found : ∃ fd, FunD K "found" "Bits.found" (defArgs s_Bits_found) (defBody s_Bits_found) (defScope s_Bits_found) [] [] (He.ma K (He.ga K "Bits") "found") fd
  d_Bits_kept : ∃ fd, FunD K "kept" "Bits.kept" (defArgs s_Bits_kept) (defBody s_Bits_kept) (defScope s_Bits_kept) [] [] (He.ma K (He.ga K "Bits") "kept") fd
  d_l_bag : ∃ fd, FunD K "_law_bag" "_law_bag" (defArgs s_l_bag) (defBody s_l_bag) (defScope s_l_bag) [] [] (He.ga K "_law_bag") fd
  m_l_bag : mg "_law_bag" = some (.ref (He.ga K "_law_bag"))
  d_l_take : ∃ fd, FunD K "_law_take" "_law_take" (defArgs s_l_take) (defBody s_l_take) (defScope s_l_take) [] [] (He.ga K "_law_take") fd
  m_l_take : mg "_law_take" = some (.ref (He.ga K "_law_take"))
  d_l_word : ∃ fd, FunD K "_law_word" "_law_word" (defArgs s_l_word) (defBody s_l_word) (defScope s_l_word) [] [] (He.ga K "_law_word") fd
  m_l_word : mg "_law_word" = some (.ref (He.ga K "_law_word"))
  d_l_value : ∃ fd, FunD K "_law_value" "_law_value" (defArgs s_l_value) (defBody s_l_value) (defScope s_l_value) [] [] (He.ga K "_law_value") fd
  m_l_value : mg "_law_value" = some (.ref (He.ga K "_law_value"))
  d_l_like : ∃ fd, FunD K "_law_like" "_law_like" (defArgs s_l_like) (defBody s_l_like) (defScope s_l_like) [] [] (He.ga K "_law_like") fd
  m_l_like : mg "_law_like" = some (.ref (He.ga K "_law_like"))
  d_l_pages : ∃ fd, FunD K "_law_pages" "_law_pages" (defArgs s_l_pages) (defBody s_l_pages) (defScope s_l_pages) [] [] (He.ga K "_law_pages") fd
  m_l_pages : mg "_law_pages" = some (.ref (He.ga K "_law_pages"))
  d_l_shows : ∃ fd, FunD K "_law_shows" "_law_shows" (defArgs s_l_shows) (defBody s_l_shows) (defScope s_l_shows) [] [] (He.ga K "_law_shows") fd
  m_l_shows : mg "_law_shows" = some (.ref (He.ga K "_law_shows"))
  d_law : ∃ fd, FunD K "law" "law" (defArgs s_law) (defBody s_law) (defScope s_law) [] [] (He.ga K "law") fd
  m_law : mg "law" = some (.ref (He.ga K "law"))
  m_Bits : mg "Bits" = some (.ref (He.ga K "Bits"))
  cl_Bits : Cls K (He.ga K "Bits")
  na_Bits_under : NoAttr K (He.ga K "Bits") "under"
  na_Bits_width : NoAttr K (He.ga K "Bits") "width"
  mk_Bits : Mk K (He.ga K "Bits") (He.ma K (He.ga K "Bits") "__init__")
  me_Bits_copied : Meth K (He.ga K "Bits") "copied" (He.ma K (He.ga K "Bits") "copied")
  me_Bits_page_of : Meth K (He.ga K "Bits") "page_of" (He.ma K (He.ga K "Bits") "page_of")
  me_Bits_pages_at : Meth K (He.ga K "Bits") "pages_at" (He.ma K (He.ga K "Bits") "pages_at")
  me_Bits_put : Meth K (He.ga K "Bits") "put" (He.ma K (He.ga K "Bits") "put")
  me_Bits_drop : Meth K (He.ga K "Bits") "drop" (He.ma K (He.ga K "Bits") "drop")
  me_Bits_found : Meth K (He.ga K "Bits") "found" (He.ma K (He.ga K "Bits") "found")
  me_Bits_kept : Meth K (He.ga K "Bits") "kept" (He.ma K (He.ga K "Bits") "kept")
  n_abs : mg "abs" = none
  n_all : mg "all" = none
  n_bool : mg "bool" = none
  n_int : mg "int" = none
  n_isinstance : mg "isinstance" = none
  n_len : mg "len" = none
  n_list : mg "list" = none
  n_max : mg "max" = none
  n_min : mg "min" = none
  n_range : mg "range" = none
  n_set : mg "set" = none
  n_sorted : mg "sorted" = none
  n_tuple : mg "tuple" = none
  n_zip : mg "zip" = none
/-! ### the programs -/
abbrev p_Bits_init : List Iv.St := [(.asg (.attr (.var 0) 1 [0]) (.var 1)),
  (.asg (.attr (.var 0) 0 [0]) .dnew)]
abbrev p_Bits_page_of : List Iv.St := [(.ret (.bin false .div (.bin false .sub (.var 1) (.con (.int 1))) (.attr (.var 0) 1)))]
abbrev p_Bits_pages_at : List Iv.St := [(.ret (.sortSC [2] (.var 2) (.e (.dget2 (.attr (.var 0) 0) (.var 1) (.lst false []))) [] (.meth (.var 0) [(0, 1, [.a 0, .a 1])] [(.var 2)])))]
abbrev p_Bits_put : List Iv.St := [(.asg (.var 3) (.bin false .add (.con (.int 1)) (.bi (.int1) [(.cmp .isIn (.meth (.var 0) [(0, 1, [.a 0, .a 1])] [(.var 2)]) (.meth (.var 0) [(0, 2, [.a 0, .a 1])] [(.var 1)]))]))),
  (.asg (.didx (.attr (.var 0) 0) (.var 1)) (.bi (.sorted1 false) [(.bin false .add (.dget2 (.attr (.var 0) 0) (.var 1) (.lst false [])) (.lst false [(.var 2)]))])),
  (.ret (.var 3))]
abbrev p_Bits_drop : List Iv.St := [(.asg (.didx (.attr (.var 0) 0) (.var 1)) (.lc false [3] (.var 3) (.e (.didx (.attr (.var 0) 0) (.var 1))) [(.cmp .ne (.var 3) (.var 2))] (.var 3))),
  (.ite (.cmp .eq (.didx (.attr (.var 0) 0) (.var 1)) (.lst false [])) [(.expr (.dpop (.attr (.var 0) 0) (.var 1)))] []),
  (.ret (.con (.int 2)))]
abbrev p_Bits_found : List Iv.St := [(.ret (.tup [(.bi (.list1 true) [(.dget2 (.attr (.var 0) 0) (.var 1) (.lst false []))]), (.bi (.len) [(.meth (.var 0) [(0, 2, [.a 0, .a 1])] [(.var 1)])])]))]
abbrev p_Bits_kept : List Iv.St := [(.ret (.dsort true (.attr (.var 0) 0)))]
abbrev p_l_bag : List Iv.St := [(.asg (.var 2) (.con (.int 0))),
  (.ite (.cmp .lt (.var 1) (.bi (.len) [(.var 0)])) [(.asg (.var 2) (.idx (.var 0) (.var 1)))] []),
  (.asg (.var 3) (.con (.int 0))),
  (.ite (.cmp .ge (.bi (.abs) [(.var 2)]) (.bin false .pow (.con (.int 10)) (.con (.int 18)))) [(.asg (.var 3) (.bi (.abs) [(.var 2)]))] []),
  (.asg (.var 4) (.lst false [(.con (.int 2147483629)), (.con (.int 2147483587)), (.con (.int 2147483579)), (.con (.int 2147483563)), (.con (.int 2147483549)), (.con (.int 2147483543)), (.con (.int 2147483497)), (.con (.int 2147483489))])),
  (.ret (.lst true [(.var 3), (.bin false .mod (.bin false .pow (.bin false .add (.bin false .add (.bin false .mod (.var 2) (.con (.int 2147483647))) (.bin false .mul (.con (.int 104729)) (.var 1))) (.con (.int 7))) (.con (.int 5))) (.idx (.var 4) (.bin false .mod (.var 1) (.con (.int 8)))))]))]
abbrev p_l_take : List Iv.St := [(.ite (.cmp .gt (.idx (.var 0) (.con (.int 0))) (.con (.int 0))) [(.asg (.var 2) (.bin false .mod (.idx (.var 0) (.con (.int 0))) (.var 1))),
  (.asg (.idx (.var 0) (.con (.int 0))) (.bin false .div (.idx (.var 0) (.con (.int 0))) (.var 1))),
  (.ret (.var 2))] []),
  (.asg (.idx (.var 0) (.con (.int 1))) (.bin false .mod (.bin false .add (.bin false .mul (.idx (.var 0) (.con (.int 1))) (.con (.int 48271))) (.con (.int 11))) (.con (.int 2147483647)))),
  (.ret (.bin false .mod (.bin false .mod (.bin false .pow (.bin false .div (.idx (.var 0) (.con (.int 1))) (.con (.int 8))) (.con (.int 3))) (.con (.int 2147483629))) (.var 1)))]
abbrev p_l_word : List Iv.St := [(.ite (.cmp .eq (.call 8 [.a 0, .a 1] [(.var 0), (.con (.int 2))]) (.con (.int 0))) [(.ret (.idx (.tup [(.con (.str "a")), (.con (.str "b")), (.con (.str "ab")), (.con (.str "zzzzzzzz"))]) (.call 8 [.a 0, .a 1] [(.var 0), (.con (.int 4))])))] []),
  (.asg (.var 1) (.con (.str "abcdefghijklmnopqrstuvwxyz"))),
  (.ret (.bm .join (.con (.str "")) [(.lc false [2] (.var 2) (.rng1 (.bin false .add (.con (.int 1)) (.call 8 [.a 0, .a 1] [(.var 0), (.con (.int 8))]))) [] (.idx (.var 1) (.call 8 [.a 0, .a 1] [(.var 0), (.con (.int 26))])))]))]
abbrev p_l_value : List Iv.St := [(.ite (.cmp .eq (.var 1) (.con (.str "word"))) [(.ret (.call 9 [.a 0] [(.var 0)]))] []),
  (.asg (.var 2) (.call 8 [.a 0, .a 1] [(.var 0), (.con (.int 3))])),
  (.ret (.ife (.cmp .lt (.var 2) (.con (.int 2))) (.bin false .sub (.call 8 [.a 0, .a 1] [(.var 0), (.con (.int 4))]) (.con (.int 1))) (.bin false .sub (.call 8 [.a 0, .a 1] [(.var 0), (.con (.int 1999))]) (.con (.int 999)))))]
abbrev p_l_like : List Iv.St := [(.ite (.or (.cmp .ned (.bi (.isi) [(.var 0), (.con (.ty "bool"))]) (.bi (.isi) [(.var 1), (.con (.ty "bool"))])) (.cmp .ned (.var 0) (.var 1))) [(.ret (.con (.bl false)))] []),
  (.ite (.isit (.var 0) ["list", "tuple"]) [(.ret (.bi (.all) [(.lc false [2, 3] (.tup [(.var 2), (.var 3)]) (.zipb (.var 0) (.var 1)) [] (.call 11 [.a 0, .a 1] [(.var 2), (.var 3)]))]))] []),
  (.ret (.con (.bl true)))]
abbrev p_l_pages : List Iv.St := [(.ret (.sortS (.lc false [2] (.var 2) (.e (.var 0)) [] (.bin false .div (.bin false .sub (.bin false .add (.var 2) (.var 1)) (.con (.int 1))) (.var 1)))))]
abbrev p_l_shows : List Iv.St := [(.asg (.var 4) (.bi (.sorted1 false) [(.lc false [8, 9] (.tup [(.var 8), (.var 9)]) (.e (.var 1)) [(.cmp .eq (.var 8) (.var 3))] (.var 9))])),
  (.for (.var 5) (.rng1 (.con (.int 2))) [(.asg (.tup [.var 6, .var 7]) (.tup [(.meth (.var 0) [(0, 5, [.a 0, .a 1])] [(.var 3)]), (.meth (.var 0) [(0, 6, [.a 0])] [])])),
  (.ite (.not (.call 11 [.a 0, .a 1] [(.var 6), (.tup [(.var 4), (.bi (.len) [(.call 12 [.a 0, .a 1] [(.var 4), (.var 2)])])])])) [(.ret (.con (.bl false)))] []),
  (.ite (.not (.call 11 [.a 0, .a 1] [(.var 7), (.sortS (.lc false [8, 9] (.tup [(.var 8), (.var 9)]) (.e (.var 1)) [] (.var 8)))])) [(.ret (.con (.bl false)))] []),
  (.expr (.bm .append (.idx (.var 6) (.con (.int 0))) [(.con (.int 0))])),
  (.expr (.bm .append (.var 7) [(.con .non)]))]),
  (.ret (.con (.bl true)))]
abbrev p_law : List Iv.St := [(.asg (.var 1) (.call 7 [.a 0, .a 1] [(.var 0), (.con (.int 0))])),
  (.asg (.tup [.var 2, .var 3]) (.tup [(.idx (.tup [(.bin false .add (.con (.int 2)) (.call 8 [.a 0, .a 1] [(.var 1), (.con (.int 63))])), (.con (.int 2)), (.con (.int 16)), (.con (.int 64))]) (.call 8 [.a 0, .a 1] [(.var 1), (.con (.int 4))])), (.idx (.tup [(.con (.str "number")), (.con (.str "word"))]) (.call 8 [.a 0, .a 1] [(.var 1), (.con (.int 2))]))])),
  (.asg (.tup [.var 4, .var 5]) (.tup [(.make false 0 0 [.a 0, .a 1] [(.var 2)]), (.lst false [])])),
  (.for (.var 6) (.rng1 (.bi (.max2) [(.con (.int 14)), (.bi (.min2) [(.con (.int 60)), (.bin false .sub (.bi (.len) [(.var 0)]) (.con (.int 1)))])])) [(.asg (.var 1) (.call 7 [.a 0, .a 1] [(.var 0), (.bin false .add (.con (.int 1)) (.var 6))])),
  (.asg (.var 7) (.tup [(.call 10 [.a 0, .a 1] [(.var 1), (.var 3)]), (.bin false .add (.con (.int 1)) (.call 8 [.a 0, .a 1] [(.var 1), (.idx (.tup [(.con (.int 20)), (.con (.int 60)), (.con (.int 999))]) (.call 8 [.a 0, .a 1] [(.var 1), (.con (.int 3))]))]))])),
  (.ite (.and (.cmp .ne (.var 5) (.lst false [])) (.cmp .eq (.call 8 [.a 0, .a 1] [(.var 1), (.con (.int 3))]) (.con (.int 0)))) [(.asg (.var 7) (.idx (.var 5) (.call 8 [.a 0, .a 1] [(.var 1), (.bi (.len) [(.var 5)])])))] []),
  (.asg (.tup [(.var 8), (.var 9)]) (.var 7)),
  (.asg (.var 10) (.lc true [14] (.var 14) (.e (.var 5)) [(.cmp .ne (.var 14) (.var 7))] (.var 14))),
  (.ite (.cmp .isIn (.var 7) (.var 5)) [(.asg (.tup [.var 11, .var 12]) (.tup [(.meth (.var 4) [(0, 4, [.a 0, .a 1, .a 2])] [(.var 8), (.var 9)]), (.con (.int 2))]))] [(.asg (.var 13) (.call 12 [.a 0, .a 1] [(.lc false [14, 15] (.tup [(.var 14), (.var 15)]) (.e (.var 5)) [(.cmp .eq (.var 14) (.var 8))] (.var 15)), (.var 2)])),
  (.asg (.tup [.var 11, .var 12]) (.tup [(.meth (.var 4) [(0, 3, [.a 0, .a 1, .a 2])] [(.var 8), (.var 9)]), (.bin false .add (.con (.int 1)) (.bi (.int1) [(.cmp .isIn (.bin false .div (.bin false .sub (.bin false .add (.var 9) (.var 2)) (.con (.int 1))) (.var 2)) (.var 13))]))])),
  (.expr (.bm .append (.var 10) [(.var 7)]))]),
  (.asg (.var 5) (.var 10)),
  (.ite (.or (.not (.call 11 [.a 0, .a 1] [(.var 11), (.var 12)])) (.not (.call 13 [.a 0, .a 1, .a 2, .a 3] [(.var 4), (.var 5), (.var 2), (.var 8)]))) [(.ret (.con (.bl false)))] []),
  (.ite (.not (.call 13 [.a 0, .a 1, .a 2, .a 3] [(.var 4), (.var 5), (.var 2), (.call 10 [.a 0, .a 1] [(.var 1), (.var 3)])])) [(.ret (.con (.bl false)))] [])]),
  (.for (.tup [(.var 14), (.var 15)]) (.e (.var 5)) [(.ite (.cmp .ne (.meth (.var 4) [(0, 4, [.a 0, .a 1, .a 2])] [(.var 14), (.var 15)]) (.con (.int 2))) [(.ret (.con (.bl false)))] [])]),
  (.ret (.and (.cmp .eq (.meth (.var 4) [(0, 6, [.a 0])] []) (.lst false [])) (.cmp .eq (.meth (.make false 0 0 [.a 0, .a 1] [(.var 2)]) [(0, 6, [.a 0])] []) (.lst false []))))]
abbrev Tb : List Fn := [⟨2, 2, p_Bits_init⟩, ⟨2, 2, p_Bits_page_of⟩, ⟨2, 3, p_Bits_pages_at⟩, ⟨3, 4, p_Bits_put⟩, ⟨3, 4, p_Bits_drop⟩, ⟨2, 2, p_Bits_found⟩, ⟨1, 1, p_Bits_kept⟩, ⟨2, 5, p_l_bag⟩, ⟨2, 3, p_l_take⟩, ⟨1, 3, p_l_word⟩, ⟨2, 3, p_l_value⟩, ⟨2, 4, p_l_like⟩, ⟨2, 3, p_l_pages⟩, ⟨4, 10, p_l_shows⟩, ⟨1, 16, p_law⟩]
abbrev sg_Bits_init : List (Nat × List Str × List Ar) := [(1, ["width"], [.a 0, .a 1]), (2, [], [.a 0, .a 1])]
abbrev sg_Bits_page_of : List (Nat × List Str × List Ar) := [(2, [], [.a 0, .a 1])]
abbrev sg_Bits_pages_at : List (Nat × List Str × List Ar) := [(2, [], [.a 0, .a 1])]
abbrev sg_Bits_put : List (Nat × List Str × List Ar) := [(3, [], [.a 0, .a 1, .a 2])]
abbrev sg_Bits_drop : List (Nat × List Str × List Ar) := [(3, [], [.a 0, .a 1, .a 2])]
abbrev sg_Bits_found : List (Nat × List Str × List Ar) := [(2, [], [.a 0, .a 1])]
abbrev sg_Bits_kept : List (Nat × List Str × List Ar) := [(1, [], [.a 0])]
abbrev sg_l_bag : List (Nat × List Str × List Ar) := [(2, [], [.a 0, .a 1])]
abbrev sg_l_take : List (Nat × List Str × List Ar) := [(2, [], [.a 0, .a 1])]
abbrev sg_l_word : List (Nat × List Str × List Ar) := [(1, [], [.a 0])]
abbrev sg_l_value : List (Nat × List Str × List Ar) := [(2, [], [.a 0, .a 1])]
abbrev sg_l_like : List (Nat × List Str × List Ar) := [(2, [], [.a 0, .a 1])]
abbrev sg_l_pages : List (Nat × List Str × List Ar) := [(2, [], [.a 0, .a 1])]
abbrev sg_l_shows : List (Nat × List Str × List Ar) := [(4, [], [.a 0, .a 1, .a 2, .a 3])]
abbrev sg_law : List (Nat × List Str × List Ar) := [(1, [], [.a 0])]
abbrev fnL : List Str := ["under", "width"]
abbrev gs (K : PySem.W.Frag) : Gs := { K := K, ca := fun c => ([He.ga K "Bits"] : List Addr).getD c 0, fn := fun f => fnL.getD f "", fok := fun f => f < 2, finj := fun f f' h h' => (by decide +kernel : ∀ f, f < 2 → ∀ f', f' < 2 → fnL.getD f "" = fnL.getD f' "" → f = f') f h f' h', xr := fun _ _ _ _ _ _ => False }
section
variable {P : Program} {w : World} {K : PySem.W.Frag} {mg : Str → Option Value} {base : Heap}
theorem sgs_Bits_init (T : Txt K mg) {fd : FuncData} (F : FunD K "__init__" "Bits.__init__" (defArgs s_Bits_init) (defBody s_Bits_init) (defScope s_Bits_init) [] [] (He.ma K (He.ga K "Bits") "__init__") fd) : ∀ s ∈ sg_Bits_init, Sig (gs K) fd ["self", "width"] s.1 s.2.1 s.2.2 := fun s hs => match s, hs with
  | _, .head _ => sig_all (g := gs K) (js := [0, 1]) F rfl fun _ _ _ _ _ _ us ws hl hl2 => match us, hl, ws, hl2 with | [_], _, [_], _ => rfl
  | _, .tail _ (.head _) => sig_all (g := gs K) (js := [0, 1]) F rfl fun _ _ _ _ _ _ us ws hl hl2 => match us, hl, ws, hl2 with | [_, _], _, [], _ => rfl
theorem sgs_Bits_page_of (T : Txt K mg) {fd : FuncData} (F : FunD K "page_of" "Bits.page_of" (defArgs s_Bits_page_of) (defBody s_Bits_page_of) (defScope s_Bits_page_of) [] [] (He.ma K (He.ga K "Bits") "page_of") fd) : ∀ s ∈ sg_Bits_page_of, Sig (gs K) fd ["self", "number"] s.1 s.2.1 s.2.2 := fun s hs => match s, hs with
  | _, .head _ => sig_all (g := gs K) (js := [0, 1]) F rfl fun _ _ _ _ _ _ us ws hl hl2 => match us, hl, ws, hl2 with | [_, _], _, [], _ => rfl
theorem sgs_Bits_pages_at (T : Txt K mg) {fd : FuncData} (F : FunD K "pages_at" "Bits.pages_at" (defArgs s_Bits_pages_at) (defBody s_Bits_pages_at) (defScope s_Bits_pages_at) [] [] (He.ma K (He.ga K "Bits") "pages_at") fd) : ∀ s ∈ sg_Bits_pages_at, Sig (gs K) fd ["self", "value"] s.1 s.2.1 s.2.2 := fun s hs => match s, hs with
  | _, .head _ => sig_all (g := gs K) (js := [0, 1]) F rfl fun _ _ _ _ _ _ us ws hl hl2 => match us, hl, ws, hl2 with | [_, _], _, [], _ => rfl
theorem sgs_Bits_put (T : Txt K mg) {fd : FuncData} (F : FunD K "put" "Bits.put" (defArgs s_Bits_put) (defBody s_Bits_put) (defScope s_Bits_put) [] [] (He.ma K (He.ga K "Bits") "put") fd) : ∀ s ∈ sg_Bits_put, Sig (gs K) fd ["self", "value", "number"] s.1 s.2.1 s.2.2 := fun s hs => match s, hs with
  | _, .head _ => sig_all (g := gs K) (js := [0, 1, 2]) F rfl fun _ _ _ _ _ _ us ws hl hl2 => match us, hl, ws, hl2 with | [_, _, _], _, [], _ => rfl
theorem sgs_Bits_drop (T : Txt K mg) {fd : FuncData} (F : FunD K "drop" "Bits.drop" (defArgs s_Bits_drop) (defBody s_Bits_drop) (defScope s_Bits_drop) [] [] (He.ma K (He.ga K "Bits") "drop") fd) : ∀ s ∈ sg_Bits_drop, Sig (gs K) fd ["self", "value", "number"] s.1 s.2.1 s.2.2 := fun s hs => match s, hs with
  | _, .head _ => sig_all (g := gs K) (js := [0, 1, 2]) F rfl fun _ _ _ _ _ _ us ws hl hl2 => match us, hl, ws, hl2 with | [_, _, _], _, [], _ => rfl
theorem sgs_Bits_found (T : Txt K mg) {fd : FuncData} (F : FunD K "found" "Bits.found" (defArgs s_Bits_found) (defBody s_Bits_found) (defScope s_Bits_found) [] [] (He.ma K (He.ga K "Bits") "found") fd) : ∀ s ∈ sg_Bits_found, Sig (gs K) fd ["self", "value"] s.1 s.2.1 s.2.2 := fun s hs => match s, hs with
  | _, .head _ => sig_all (g := gs K) (js := [0, 1]) F rfl fun _ _ _ _ _ _ us ws hl hl2 => match us, hl, ws, hl2 with | [_, _], _, [], _ => rfl
theorem sgs_Bits_kept (T : Txt K mg) {fd : FuncData} (F : FunD K "kept" "Bits.kept" (defArgs s_Bits_kept) (defBody s_Bits_kept) (defScope s_Bits_kept) [] [] (He.ma K (He.ga K "Bits") "kept") fd) : ∀ s ∈ sg_Bits_kept, Sig (gs K) fd ["self"] s.1 s.2.1 s.2.2 := fun s hs => match s, hs with
  | _, .head _ => sig_all (g := gs K) (js := [0]) F rfl fun _ _ _ _ _ _ us ws hl hl2 => match us, hl, ws, hl2 with | [_], _, [], _ => rfl
theorem sgs_l_bag (T : Txt K mg) {fd : FuncData} (F : FunD K "_law_bag" "_law_bag" (defArgs s_l_bag) (defBody s_l_bag) (defScope s_l_bag) [] [] (He.ga K "_law_bag") fd) : ∀ s ∈ sg_l_bag, Sig (gs K) fd ["_law_script", "_law_at"] s.1 s.2.1 s.2.2 := fun s hs => match s, hs with
  | _, .head _ => sig_all (g := gs K) (js := [0, 1]) F rfl fun _ _ _ _ _ _ us ws hl hl2 => match us, hl, ws, hl2 with | [_, _], _, [], _ => rfl
theorem sgs_l_take (T : Txt K mg) {fd : FuncData} (F : FunD K "_law_take" "_law_take" (defArgs s_l_take) (defBody s_l_take) (defScope s_l_take) [] [] (He.ga K "_law_take") fd) : ∀ s ∈ sg_l_take, Sig (gs K) fd ["_law_bag_here", "_law_many"] s.1 s.2.1 s.2.2 := fun s hs => match s, hs with
  | _, .head _ => sig_all (g := gs K) (js := [0, 1]) F rfl fun _ _ _ _ _ _ us ws hl hl2 => match us, hl, ws, hl2 with | [_, _], _, [], _ => rfl
theorem sgs_l_word (T : Txt K mg) {fd : FuncData} (F : FunD K "_law_word" "_law_word" (defArgs s_l_word) (defBody s_l_word) (defScope s_l_word) [] [] (He.ga K "_law_word") fd) : ∀ s ∈ sg_l_word, Sig (gs K) fd ["_law_bag_here"] s.1 s.2.1 s.2.2 := fun s hs => match s, hs with
  | _, .head _ => sig_all (g := gs K) (js := [0]) F rfl fun _ _ _ _ _ _ us ws hl hl2 => match us, hl, ws, hl2 with | [_], _, [], _ => rfl
theorem sgs_l_value (T : Txt K mg) {fd : FuncData} (F : FunD K "_law_value" "_law_value" (defArgs s_l_value) (defBody s_l_value) (defScope s_l_value) [] [] (He.ga K "_law_value") fd) : ∀ s ∈ sg_l_value, Sig (gs K) fd ["_law_bag_here", "_law_kind"] s.1 s.2.1 s.2.2 := fun s hs => match s, hs with
  | _, .head _ => sig_all (g := gs K) (js := [0, 1]) F rfl fun _ _ _ _ _ _ us ws hl hl2 => match us, hl, ws, hl2 with | [_, _], _, [], _ => rfl
theorem sgs_l_like (T : Txt K mg) {fd : FuncData} (F : FunD K "_law_like" "_law_like" (defArgs s_l_like) (defBody s_l_like) (defScope s_l_like) [] [] (He.ga K "_law_like") fd) : ∀ s ∈ sg_l_like, Sig (gs K) fd ["_law_told", "_law_due"] s.1 s.2.1 s.2.2 := fun s hs => match s, hs with
  | _, .head _ => sig_all (g := gs K) (js := [0, 1]) F rfl fun _ _ _ _ _ _ us ws hl hl2 => match us, hl, ws, hl2 with | [_, _], _, [], _ => rfl
theorem sgs_l_pages (T : Txt K mg) {fd : FuncData} (F : FunD K "_law_pages" "_law_pages" (defArgs s_l_pages) (defBody s_l_pages) (defScope s_l_pages) [] [] (He.ga K "_law_pages") fd) : ∀ s ∈ sg_l_pages, Sig (gs K) fd ["_law_numbers", "_law_wide"] s.1 s.2.1 s.2.2 := fun s hs => match s, hs with
  | _, .head _ => sig_all (g := gs K) (js := [0, 1]) F rfl fun _ _ _ _ _ _ us ws hl hl2 => match us, hl, ws, hl2 with | [_, _], _, [], _ => rfl
theorem sgs_l_shows (T : Txt K mg) {fd : FuncData} (F : FunD K "_law_shows" "_law_shows" (defArgs s_l_shows) (defBody s_l_shows) (defScope s_l_shows) [] [] (He.ga K "_law_shows") fd) : ∀ s ∈ sg_l_shows, Sig (gs K) fd ["_law_bits", "_law_held", "_law_wide", "_law_value_here"] s.1 s.2.1 s.2.2 := fun s hs => match s, hs with
  | _, .head _ => sig_all (g := gs K) (js := [0, 1, 2, 3]) F rfl fun _ _ _ _ _ _ us ws hl hl2 => match us, hl, ws, hl2 with | [_, _, _, _], _, [], _ => rfl
theorem sgs_law (T : Txt K mg) {fd : FuncData} (F : FunD K "law" "law" (defArgs s_law) (defBody s_law) (defScope s_law) [] [] (He.ga K "law") fd) : ∀ s ∈ sg_law, Sig (gs K) fd ["_law_script"] s.1 s.2.1 s.2.2 := fun s hs => match s, hs with
  | _, .head _ => sig_all (g := gs K) (js := [0]) F rfl fun _ _ _ _ _ _ us ws hl hl2 => match us, hl, ws, hl2 with | [_], _, [], _ => rfl
structure All (P : Program) (w : World) (K : PySem.W.Frag) (mg : Str → Option Value) (base : Heap) (k : Nat) : Prop where
  f_Bits_init : Fo (gs K) P w K mg base (callN Tb k) (2 * k + 2) (He.ma K (He.ga K "Bits") "__init__") 0 sg_Bits_init
  f_Bits_page_of : Fo (gs K) P w K mg base (callN Tb k) (2 * k + 2) (He.ma K (He.ga K "Bits") "page_of") 1 sg_Bits_page_of
  f_Bits_pages_at : Fo (gs K) P w K mg base (callN Tb k) (2 * k + 2) (He.ma K (He.ga K "Bits") "pages_at") 2 sg_Bits_pages_at
  f_Bits_put : Fo (gs K) P w K mg base (callN Tb k) (2 * k + 2) (He.ma K (He.ga K "Bits") "put") 3 sg_Bits_put
  f_Bits_drop : Fo (gs K) P w K mg base (callN Tb k) (2 * k + 2) (He.ma K (He.ga K "Bits") "drop") 4 sg_Bits_drop
  f_Bits_found : Fo (gs K) P w K mg base (callN Tb k) (2 * k + 2) (He.ma K (He.ga K "Bits") "found") 5 sg_Bits_found
  f_Bits_kept : Fo (gs K) P w K mg base (callN Tb k) (2 * k + 2) (He.ma K (He.ga K "Bits") "kept") 6 sg_Bits_kept
  f_l_bag : Fo (gs K) P w K mg base (callN Tb k) (2 * k + 2) (He.ga K "_law_bag") 7 sg_l_bag
  f_l_take : Fo (gs K) P w K mg base (callN Tb k) (2 * k + 2) (He.ga K "_law_take") 8 sg_l_take
  f_l_word : Fo (gs K) P w K mg base (callN Tb k) (2 * k + 2) (He.ga K "_law_word") 9 sg_l_word
  f_l_value : Fo (gs K) P w K mg base (callN Tb k) (2 * k + 2) (He.ga K "_law_value") 10 sg_l_value
  f_l_like : Fo (gs K) P w K mg base (callN Tb k) (2 * k + 2) (He.ga K "_law_like") 11 sg_l_like
  f_l_pages : Fo (gs K) P w K mg base (callN Tb k) (2 * k + 2) (He.ga K "_law_pages") 12 sg_l_pages
  f_l_shows : Fo (gs K) P w K mg base (callN Tb k) (2 * k + 2) (He.ga K "_law_shows") 13 sg_l_shows
  f_law : Fo (gs K) P w K mg base (callN Tb k) (2 * k + 2) (He.ga K "law") 14 sg_law
theorem b_Bits_init (T : Txt K mg) {k : Nat} (A : All P w K mg base k) {cdv : Value} {C : Around} {outer : List PySem.Env} {s : Shared} {H : Hp} {E : XK} (hr : Room (2 * k + 3) (C.deeper (envOfC "Bits.__init__" (defScope s_Bits_init) s.heap.objs.size (He.ma K (He.ga K "Bits") "__init__") cdv))) :
    PSs (cxOf (L2.CX P w) P w K mg base ["self", "width"] "Bits.__init__" (defScope s_Bits_init) (He.ma K (He.ga K "Bits") "__init__") cdv C outer s H E) (defBody s_Bits_init) (tS (gs K) (fun c d _ H => E c d H) (exs (callN Tb k) p_Bits_init)) := by
  have tk : Takes (cxOf (L2.CX P w) P w K mg base ["self", "width"] "Bits.__init__" (defScope s_Bits_init) (He.ma K (He.ga K "Bits") "__init__") cdv C outer s H E) (fun c d _ H => E c d H) := takes_of rfl rfl rfl rfl
  have pp : PassesOwn (model (cxOf (L2.CX P w) P w K mg base ["self", "width"] "Bits.__init__" (defScope s_Bits_init) (He.ma K (He.ga K "Bits") "__init__") cdv C outer s H E).prog (cxOf (L2.CX P w) P w K mg base ["self", "width"] "Bits.__init__" (defScope s_Bits_init) (He.ma K (He.ga K "Bits") "__init__") cdv C outer s H E).w) (cxOf (L2.CX P w) P w K mg base ["self", "width"] "Bits.__init__" (defScope s_Bits_init) (He.ma K (He.ga K "Bits") "__init__") cdv C outer s H E).A (cxOf (L2.CX P w) P w K mg base ["self", "width"] "Bits.__init__" (defScope s_Bits_init) (He.ma K (He.ga K "Bits") "__init__") cdv C outer s H E).env (cxOf (L2.CX P w) P w K mg base ["self", "width"] "Bits.__init__" (defScope s_Bits_init) (He.ma K (He.ga K "Bits") "__init__") cdv C outer s H E).xe := passes_of rfl
  exact (s_cons (j_asg [] j_var (j_gattr (W := noX) (f := 1) (show (1 : Nat) < 2 by decide) (List.forall_mem_cons.mpr ⟨T.na_Bits_width, (fun _ h => nomatch h)⟩) j_var))
    (s_cons (j_asg [] i_dnew (j_gattr (W := noX) (f := 0) (show (0 : Nat) < 2 by decide) (List.forall_mem_cons.mpr ⟨T.na_Bits_under, (fun _ h => nomatch h)⟩) j_var))
    s_nil))
theorem b_Bits_page_of (T : Txt K mg) {k : Nat} (A : All P w K mg base k) {cdv : Value} {C : Around} {outer : List PySem.Env} {s : Shared} {H : Hp} {E : XK} (hr : Room (2 * k + 3) (C.deeper (envOfC "Bits.page_of" (defScope s_Bits_page_of) s.heap.objs.size (He.ma K (He.ga K "Bits") "page_of") cdv))) :
    PSs (cxOf (L2.CX P w) P w K mg base ["self", "number"] "Bits.page_of" (defScope s_Bits_page_of) (He.ma K (He.ga K "Bits") "page_of") cdv C outer s H E) (defBody s_Bits_page_of) (tS (gs K) (fun c d _ H => E c d H) (exs (callN Tb k) p_Bits_page_of)) := by
  have tk : Takes (cxOf (L2.CX P w) P w K mg base ["self", "number"] "Bits.page_of" (defScope s_Bits_page_of) (He.ma K (He.ga K "Bits") "page_of") cdv C outer s H E) (fun c d _ H => E c d H) := takes_of rfl rfl rfl rfl
  have pp : PassesOwn (model (cxOf (L2.CX P w) P w K mg base ["self", "number"] "Bits.page_of" (defScope s_Bits_page_of) (He.ma K (He.ga K "Bits") "page_of") cdv C outer s H E).prog (cxOf (L2.CX P w) P w K mg base ["self", "number"] "Bits.page_of" (defScope s_Bits_page_of) (He.ma K (He.ga K "Bits") "page_of") cdv C outer s H E).w) (cxOf (L2.CX P w) P w K mg base ["self", "number"] "Bits.page_of" (defScope s_Bits_page_of) (He.ma K (He.ga K "Bits") "page_of") cdv C outer s H E).A (cxOf (L2.CX P w) P w K mg base ["self", "number"] "Bits.page_of" (defScope s_Bits_page_of) (He.ma K (He.ga K "Bits") "page_of") cdv C outer s H E).env (cxOf (L2.CX P w) P w K mg base ["self", "number"] "Bits.page_of" (defScope s_Bits_page_of) (He.ma K (He.ga K "Bits") "page_of") cdv C outer s H E).xe := passes_of rfl
  exact (s_cons (s_ret (i_bin (op := .div) rfl (i_bin (op := .sub) rfl j_var c_int) (j_attr (f := 1) (show (1 : Nat) < 2 by decide) j_var)))
    s_nil)
theorem b_Bits_pages_at (T : Txt K mg) {k : Nat} (A : All P w K mg base k) {cdv : Value} {C : Around} {outer : List PySem.Env} {s : Shared} {H : Hp} {E : XK} (hr : Room (2 * k + 3) (C.deeper (envOfC "Bits.pages_at" (defScope s_Bits_pages_at) s.heap.objs.size (He.ma K (He.ga K "Bits") "pages_at") cdv))) :
    PSs (cxOf (L2.CX P w) P w K mg base ["self", "value", "number"] "Bits.pages_at" (defScope s_Bits_pages_at) (He.ma K (He.ga K "Bits") "pages_at") cdv C outer s H E) (defBody s_Bits_pages_at) (tS (gs K) (fun c d _ H => E c d H) (exs (callN Tb k) p_Bits_pages_at)) := by
  have tk : Takes (cxOf (L2.CX P w) P w K mg base ["self", "value", "number"] "Bits.pages_at" (defScope s_Bits_pages_at) (He.ma K (He.ga K "Bits") "pages_at") cdv C outer s H E) (fun c d _ H => E c d H) := takes_of rfl rfl rfl rfl
  have pp : PassesOwn (model (cxOf (L2.CX P w) P w K mg base ["self", "value", "number"] "Bits.pages_at" (defScope s_Bits_pages_at) (He.ma K (He.ga K "Bits") "pages_at") cdv C outer s H E).prog (cxOf (L2.CX P w) P w K mg base ["self", "value", "number"] "Bits.pages_at" (defScope s_Bits_pages_at) (He.ma K (He.ga K "Bits") "pages_at") cdv C outer s H E).w) (cxOf (L2.CX P w) P w K mg base ["self", "value", "number"] "Bits.pages_at" (defScope s_Bits_pages_at) (He.ma K (He.ga K "Bits") "pages_at") cdv C outer s H E).A (cxOf (L2.CX P w) P w K mg base ["self", "value", "number"] "Bits.pages_at" (defScope s_Bits_pages_at) (He.ma K (He.ga K "Bits") "pages_at") cdv C outer s H E).env (cxOf (L2.CX P w) P w K mg base ["self", "value", "number"] "Bits.pages_at" (defScope s_Bits_pages_at) (He.ma K (He.ga K "Bits") "pages_at") cdv C outer s H E).xe := passes_of rfl
  exact (s_cons (s_ret (i_sortSC (own := [("number", 2)]) (by rfl) T.n_sorted rfl sc_Bits_pages_at.nd rfl (w_e rfl (i_dget2 hr (j_attr (f := 0) (show (0 : Nat) < 2 by decide) j_var) j_var (i_lst a_nil) ⟨by rfl, by rfl, rfl, by rfl⟩)) (blkOk_by (by kernel_rfl)) (fun _ _ _ _ _ => (j_g sc_Bits_pages_at.nd)) (fun _ _ _ _ _ => ifs_nil) (fun _ _ _ _ _ => (j_meth (ms := [(0, 1, [.a 0, .a 1])]) (ies := [(.var 2)]) (iks := []) (ks := []) (mok1 (mok_of A.f_Bits_page_of T.me_Bits_page_of hr (.head _))) takes0 _ rfl j_var (a_cons rfl j_var a_nil) k_nil))))
    s_nil)
theorem b_Bits_put (T : Txt K mg) {k : Nat} (A : All P w K mg base k) {cdv : Value} {C : Around} {outer : List PySem.Env} {s : Shared} {H : Hp} {E : XK} (hr : Room (2 * k + 3) (C.deeper (envOfC "Bits.put" (defScope s_Bits_put) s.heap.objs.size (He.ma K (He.ga K "Bits") "put") cdv))) :
    PSs (cxOf (L2.CX P w) P w K mg base ["self", "value", "number", "touched"] "Bits.put" (defScope s_Bits_put) (He.ma K (He.ga K "Bits") "put") cdv C outer s H E) (defBody s_Bits_put) (tS (gs K) (fun c d _ H => E c d H) (exs (callN Tb k) p_Bits_put)) := by
  have tk : Takes (cxOf (L2.CX P w) P w K mg base ["self", "value", "number", "touched"] "Bits.put" (defScope s_Bits_put) (He.ma K (He.ga K "Bits") "put") cdv C outer s H E) (fun c d _ H => E c d H) := takes_of rfl rfl rfl rfl
  have pp : PassesOwn (model (cxOf (L2.CX P w) P w K mg base ["self", "value", "number", "touched"] "Bits.put" (defScope s_Bits_put) (He.ma K (He.ga K "Bits") "put") cdv C outer s H E).prog (cxOf (L2.CX P w) P w K mg base ["self", "value", "number", "touched"] "Bits.put" (defScope s_Bits_put) (He.ma K (He.ga K "Bits") "put") cdv C outer s H E).w) (cxOf (L2.CX P w) P w K mg base ["self", "value", "number", "touched"] "Bits.put" (defScope s_Bits_put) (He.ma K (He.ga K "Bits") "put") cdv C outer s H E).A (cxOf (L2.CX P w) P w K mg base ["self", "value", "number", "touched"] "Bits.put" (defScope s_Bits_put) (He.ma K (He.ga K "Bits") "put") cdv C outer s H E).env (cxOf (L2.CX P w) P w K mg base ["self", "value", "number", "touched"] "Bits.put" (defScope s_Bits_put) (He.ma K (He.ga K "Bits") "put") cdv C outer s H E).xe := passes_of rfl
  exact (s_cons (j_asg [3] (i_bin (op := .add) rfl c_int (j_bi (.int1) hr T.n_int (a_cons rfl (i_cmp (op := .isIn) rfl hr rfl (j_meth (ms := [(0, 1, [.a 0, .a 1])]) (ies := [(.var 2)]) (iks := []) (ks := []) (mok1 (mok_of A.f_Bits_page_of T.me_Bits_page_of hr (.head _))) tk _ rfl j_var (a_cons rfl j_var a_nil) k_nil) (j_meth (ms := [(0, 2, [.a 0, .a 1])]) (ies := [(.var 1)]) (iks := []) (ks := []) (mok1 (mok_of A.f_Bits_pages_at T.me_Bits_pages_at hr (.head _))) tk _ rfl j_var (a_cons rfl j_var a_nil) k_nil)) a_nil))) (j_g sc_Bits_put.nd))
    (s_cons (j_asg [] (j_bi (.sorted1 false) hr T.n_sorted (a_cons rfl (i_bin (op := .add) rfl (i_dget2 hr (j_attr (f := 0) (show (0 : Nat) < 2 by decide) j_var) j_var (i_lst a_nil) ⟨by rfl, by rfl, rfl, by rfl⟩) (i_lst (a_cons rfl j_var a_nil))) a_nil)) (g_didx (W := noX) hr rfl (j_attr (f := 0) (show (0 : Nat) < 2 by decide) j_var) j_var))
    (s_cons (s_ret j_var)
    s_nil)))
theorem b_Bits_drop (T : Txt K mg) {k : Nat} (A : All P w K mg base k) {cdv : Value} {C : Around} {outer : List PySem.Env} {s : Shared} {H : Hp} {E : XK} (hr : Room (2 * k + 3) (C.deeper (envOfC "Bits.drop" (defScope s_Bits_drop) s.heap.objs.size (He.ma K (He.ga K "Bits") "drop") cdv))) :
    PSs (cxOf (L2.CX P w) P w K mg base ["self", "value", "number", "one"] "Bits.drop" (defScope s_Bits_drop) (He.ma K (He.ga K "Bits") "drop") cdv C outer s H E) (defBody s_Bits_drop) (tS (gs K) (fun c d _ H => E c d H) (exs (callN Tb k) p_Bits_drop)) := by
  have tk : Takes (cxOf (L2.CX P w) P w K mg base ["self", "value", "number", "one"] "Bits.drop" (defScope s_Bits_drop) (He.ma K (He.ga K "Bits") "drop") cdv C outer s H E) (fun c d _ H => E c d H) := takes_of rfl rfl rfl rfl
  have pp : PassesOwn (model (cxOf (L2.CX P w) P w K mg base ["self", "value", "number", "one"] "Bits.drop" (defScope s_Bits_drop) (He.ma K (He.ga K "Bits") "drop") cdv C outer s H E).prog (cxOf (L2.CX P w) P w K mg base ["self", "value", "number", "one"] "Bits.drop" (defScope s_Bits_drop) (He.ma K (He.ga K "Bits") "drop") cdv C outer s H E).w) (cxOf (L2.CX P w) P w K mg base ["self", "value", "number", "one"] "Bits.drop" (defScope s_Bits_drop) (He.ma K (He.ga K "Bits") "drop") cdv C outer s H E).A (cxOf (L2.CX P w) P w K mg base ["self", "value", "number", "one"] "Bits.drop" (defScope s_Bits_drop) (He.ma K (He.ga K "Bits") "drop") cdv C outer s H E).env (cxOf (L2.CX P w) P w K mg base ["self", "value", "number", "one"] "Bits.drop" (defScope s_Bits_drop) (He.ma K (He.ga K "Bits") "drop") cdv C outer s H E).xe := passes_of rfl
  exact (s_cons (s_asg (i_lc (own := [("one", 3)]) rfl sc_Bits_drop.nd rfl (w_e rfl (i_didx hr rfl (j_attr (f := 0) (show (0 : Nat) < 2 by decide) j_var) j_var)) (blkOk_by (by kernel_rfl)) (fun _ _ _ _ _ => (j_g sc_Bits_drop.nd)) (fun _ _ _ _ _ => (ifs_one (t_cmp (op := .ne) rfl hr rfl j_var j_var))) (fun _ _ _ _ _ => j_var)) (g_any (vs := []) (g_didx (W := noX) hr rfl (j_attr (f := 0) (show (0 : Nat) < 2 by decide) j_var) j_var)) rfl (by rfl) (pure_none rfl))
    (s_cons (s_ite (t_cmp (op := .eq) rfl hr rfl (i_didx hr rfl (j_attr (f := 0) (show (0 : Nat) < 2 by decide) j_var) j_var) (i_lst a_nil))
      (s_cons (s_expr rfl (i_dpop (j_attr (f := 0) (show (0 : Nat) < 2 by decide) j_var) j_var ⟨by rfl, by rfl, rfl, by rfl⟩))
    s_nil)
      s_nil)
    (s_cons (s_ret c_int)
    s_nil)))
theorem b_Bits_found (T : Txt K mg) {k : Nat} (A : All P w K mg base k) {cdv : Value} {C : Around} {outer : List PySem.Env} {s : Shared} {H : Hp} {E : XK} (hr : Room (2 * k + 3) (C.deeper (envOfC "Bits.found" (defScope s_Bits_found) s.heap.objs.size (He.ma K (He.ga K "Bits") "found") cdv))) :
    PSs (cxOf (L2.CX P w) P w K mg base ["self", "value"] "Bits.found" (defScope s_Bits_found) (He.ma K (He.ga K "Bits") "found") cdv C outer s H E) (defBody s_Bits_found) (tS (gs K) (fun c d _ H => E c d H) (exs (callN Tb k) p_Bits_found)) := by
  have tk : Takes (cxOf (L2.CX P w) P w K mg base ["self", "value"] "Bits.found" (defScope s_Bits_found) (He.ma K (He.ga K "Bits") "found") cdv C outer s H E) (fun c d _ H => E c d H) := takes_of rfl rfl rfl rfl
  have pp : PassesOwn (model (cxOf (L2.CX P w) P w K mg base ["self", "value"] "Bits.found" (defScope s_Bits_found) (He.ma K (He.ga K "Bits") "found") cdv C outer s H E).prog (cxOf (L2.CX P w) P w K mg base ["self", "value"] "Bits.found" (defScope s_Bits_found) (He.ma K (He.ga K "Bits") "found") cdv C outer s H E).w) (cxOf (L2.CX P w) P w K mg base ["self", "value"] "Bits.found" (defScope s_Bits_found) (He.ma K (He.ga K "Bits") "found") cdv C outer s H E).A (cxOf (L2.CX P w) P w K mg base ["self", "value"] "Bits.found" (defScope s_Bits_found) (He.ma K (He.ga K "Bits") "found") cdv C outer s H E).env (cxOf (L2.CX P w) P w K mg base ["self", "value"] "Bits.found" (defScope s_Bits_found) (He.ma K (He.ga K "Bits") "found") cdv C outer s H E).xe := passes_of rfl
  exact (s_cons (s_ret (i_tup (a_cons rfl (j_bi (.list1 true) hr T.n_list (a_cons rfl (i_dget2 hr (j_attr (f := 0) (show (0 : Nat) < 2 by decide) j_var) j_var (i_lst a_nil) ⟨by rfl, by rfl, rfl, by rfl⟩) a_nil)) (a_cons rfl (j_bi (.len) hr T.n_len (a_cons rfl (j_meth (ms := [(0, 2, [.a 0, .a 1])]) (ies := [(.var 1)]) (iks := []) (ks := []) (mok1 (mok_of A.f_Bits_pages_at T.me_Bits_pages_at hr (.head _))) tk _ rfl j_var (a_cons rfl j_var a_nil) k_nil) a_nil)) a_nil))))
    s_nil)
theorem b_Bits_kept (T : Txt K mg) {k : Nat} (A : All P w K mg base k) {cdv : Value} {C : Around} {outer : List PySem.Env} {s : Shared} {H : Hp} {E : XK} (hr : Room (2 * k + 3) (C.deeper (envOfC "Bits.kept" (defScope s_Bits_kept) s.heap.objs.size (He.ma K (He.ga K "Bits") "kept") cdv))) :
    PSs (cxOf (L2.CX P w) P w K mg base ["self"] "Bits.kept" (defScope s_Bits_kept) (He.ma K (He.ga K "Bits") "kept") cdv C outer s H E) (defBody s_Bits_kept) (tS (gs K) (fun c d _ H => E c d H) (exs (callN Tb k) p_Bits_kept)) := by
  have tk : Takes (cxOf (L2.CX P w) P w K mg base ["self"] "Bits.kept" (defScope s_Bits_kept) (He.ma K (He.ga K "Bits") "kept") cdv C outer s H E) (fun c d _ H => E c d H) := takes_of rfl rfl rfl rfl
  have pp : PassesOwn (model (cxOf (L2.CX P w) P w K mg base ["self"] "Bits.kept" (defScope s_Bits_kept) (He.ma K (He.ga K "Bits") "kept") cdv C outer s H E).prog (cxOf (L2.CX P w) P w K mg base ["self"] "Bits.kept" (defScope s_Bits_kept) (He.ma K (He.ga K "Bits") "kept") cdv C outer s H E).w) (cxOf (L2.CX P w) P w K mg base ["self"] "Bits.kept" (defScope s_Bits_kept) (He.ma K (He.ga K "Bits") "kept") cdv C outer s H E).A (cxOf (L2.CX P w) P w K mg base ["self"] "Bits.kept" (defScope s_Bits_kept) (He.ma K (He.ga K "Bits") "kept") cdv C outer s H E).env (cxOf (L2.CX P w) P w K mg base ["self"] "Bits.kept" (defScope s_Bits_kept) (He.ma K (He.ga K "Bits") "kept") cdv C outer s H E).xe := passes_of rfl
  exact (s_cons (s_ret (i_dsort (by rfl) T.n_sorted rfl (a_cons rfl (j_attr (f := 0) (show (0 : Nat) < 2 by decide) j_var) a_nil)))
    s_nil)
theorem b_l_bag (T : Txt K mg) {k : Nat} (A : All P w K mg base k) {cdv : Value} {C : Around} {outer : List PySem.Env} {s : Shared} {H : Hp} {E : XK} (hr : Room (2 * k + 3) (C.deeper (envOfC "_law_bag" (defScope s_l_bag) s.heap.objs.size (He.ga K "_law_bag") cdv))) :
    PSs (cxOf (L2.CX P w) P w K mg base ["_law_script", "_law_at", "_law_cell", "_law_great", "_law_primes"] "_law_bag" (defScope s_l_bag) (He.ga K "_law_bag") cdv C outer s H E) (defBody s_l_bag) (tS (gs K) (fun c d _ H => E c d H) (exs (callN Tb k) p_l_bag)) := by
  have tk : Takes (cxOf (L2.CX P w) P w K mg base ["_law_script", "_law_at", "_law_cell", "_law_great", "_law_primes"] "_law_bag" (defScope s_l_bag) (He.ga K "_law_bag") cdv C outer s H E) (fun c d _ H => E c d H) := takes_of rfl rfl rfl rfl
  have pp : PassesOwn (model (cxOf (L2.CX P w) P w K mg base ["_law_script", "_law_at", "_law_cell", "_law_great", "_law_primes"] "_law_bag" (defScope s_l_bag) (He.ga K "_law_bag") cdv C outer s H E).prog (cxOf (L2.CX P w) P w K mg base ["_law_script", "_law_at", "_law_cell", "_law_great", "_law_primes"] "_law_bag" (defScope s_l_bag) (He.ga K "_law_bag") cdv C outer s H E).w) (cxOf (L2.CX P w) P w K mg base ["_law_script", "_law_at", "_law_cell", "_law_great", "_law_primes"] "_law_bag" (defScope s_l_bag) (He.ga K "_law_bag") cdv C outer s H E).A (cxOf (L2.CX P w) P w K mg base ["_law_script", "_law_at", "_law_cell", "_law_great", "_law_primes"] "_law_bag" (defScope s_l_bag) (He.ga K "_law_bag") cdv C outer s H E).env (cxOf (L2.CX P w) P w K mg base ["_law_script", "_law_at", "_law_cell", "_law_great", "_law_primes"] "_law_bag" (defScope s_l_bag) (He.ga K "_law_bag") cdv C outer s H E).xe := passes_of rfl
  exact (s_cons (j_asg [2] c_int (j_g sc_l_bag.nd))
    (s_cons (s_ite (t_cmp (op := .lt) rfl hr rfl j_var (j_bi (.len) hr T.n_len (a_cons rfl j_var a_nil)))
      (s_cons (j_asg [2] (i_idx rfl rfl j_var j_var) (j_g sc_l_bag.nd))
    s_nil)
      s_nil)
    (s_cons (j_asg [3] c_int (j_g sc_l_bag.nd))
    (s_cons (s_ite (t_cmp (op := .ge) rfl hr rfl (j_bi (.abs) hr T.n_abs (a_cons rfl j_var a_nil)) (i_bin (op := .pow) rfl c_int c_int))
      (s_cons (j_asg [3] (j_bi (.abs) hr T.n_abs (a_cons rfl j_var a_nil)) (j_g sc_l_bag.nd))
    s_nil)
      s_nil)
    (s_cons (j_asg [4] (i_lst (a_cons rfl c_int (a_cons rfl c_int (a_cons rfl c_int (a_cons rfl c_int (a_cons rfl c_int (a_cons rfl c_int (a_cons rfl c_int (a_cons rfl c_int a_nil))))))))) (j_g sc_l_bag.nd))
    (s_cons (s_ret (i_lst (a_cons rfl j_var (a_cons rfl (i_bin (op := .mod) rfl (i_bin (op := .pow) rfl (i_bin (op := .add) rfl (i_bin (op := .add) rfl (i_bin (op := .mod) rfl j_var c_int) (i_bin (op := .mul) rfl c_int j_var)) c_int) c_int) (i_idx rfl rfl j_var (i_bin (op := .mod) rfl j_var c_int))) a_nil))))
    s_nil))))))
theorem b_l_take (T : Txt K mg) {k : Nat} (A : All P w K mg base k) {cdv : Value} {C : Around} {outer : List PySem.Env} {s : Shared} {H : Hp} {E : XK} (hr : Room (2 * k + 3) (C.deeper (envOfC "_law_take" (defScope s_l_take) s.heap.objs.size (He.ga K "_law_take") cdv))) :
    PSs (cxOf (L2.CX P w) P w K mg base ["_law_bag_here", "_law_many", "_law_digit"] "_law_take" (defScope s_l_take) (He.ga K "_law_take") cdv C outer s H E) (defBody s_l_take) (tS (gs K) (fun c d _ H => E c d H) (exs (callN Tb k) p_l_take)) := by
  have tk : Takes (cxOf (L2.CX P w) P w K mg base ["_law_bag_here", "_law_many", "_law_digit"] "_law_take" (defScope s_l_take) (He.ga K "_law_take") cdv C outer s H E) (fun c d _ H => E c d H) := takes_of rfl rfl rfl rfl
  have pp : PassesOwn (model (cxOf (L2.CX P w) P w K mg base ["_law_bag_here", "_law_many", "_law_digit"] "_law_take" (defScope s_l_take) (He.ga K "_law_take") cdv C outer s H E).prog (cxOf (L2.CX P w) P w K mg base ["_law_bag_here", "_law_many", "_law_digit"] "_law_take" (defScope s_l_take) (He.ga K "_law_take") cdv C outer s H E).w) (cxOf (L2.CX P w) P w K mg base ["_law_bag_here", "_law_many", "_law_digit"] "_law_take" (defScope s_l_take) (He.ga K "_law_take") cdv C outer s H E).A (cxOf (L2.CX P w) P w K mg base ["_law_bag_here", "_law_many", "_law_digit"] "_law_take" (defScope s_l_take) (He.ga K "_law_take") cdv C outer s H E).env (cxOf (L2.CX P w) P w K mg base ["_law_bag_here", "_law_many", "_law_digit"] "_law_take" (defScope s_l_take) (He.ga K "_law_take") cdv C outer s H E).xe := passes_of rfl
  exact (s_cons (s_ite (t_cmp (op := .gt) rfl hr rfl (i_idx rfl rfl j_var c_int) c_int)
      (s_cons (j_asg [2] (i_bin (op := .mod) rfl (i_idx rfl rfl j_var c_int) j_var) (j_g sc_l_take.nd))
    (s_cons (j_asg [] (i_bin (op := .div) rfl (i_idx rfl rfl j_var c_int) j_var) (g_idx (W := noX) rfl j_var c_int))
    (s_cons (s_ret j_var)
    s_nil)))
      s_nil)
    (s_cons (j_asg [] (i_bin (op := .mod) rfl (i_bin (op := .add) rfl (i_bin (op := .mul) rfl (i_idx rfl rfl j_var c_int) c_int) c_int) c_int) (g_idx (W := noX) rfl j_var c_int))
    (s_cons (s_ret (i_bin (op := .mod) rfl (i_bin (op := .mod) rfl (i_bin (op := .pow) rfl (i_bin (op := .div) rfl (i_idx rfl rfl j_var c_int) c_int) c_int) c_int) j_var))
    s_nil)))
theorem b_l_word (T : Txt K mg) {k : Nat} (A : All P w K mg base k) {cdv : Value} {C : Around} {outer : List PySem.Env} {s : Shared} {H : Hp} {E : XK} (hr : Room (2 * k + 3) (C.deeper (envOfC "_law_word" (defScope s_l_word) s.heap.objs.size (He.ga K "_law_word") cdv))) :
    PSs (cxOf (L2.CX P w) P w K mg base ["_law_bag_here", "_law_letters", "_law_turn"] "_law_word" (defScope s_l_word) (He.ga K "_law_word") cdv C outer s H E) (defBody s_l_word) (tS (gs K) (fun c d _ H => E c d H) (exs (callN Tb k) p_l_word)) := by
  have tk : Takes (cxOf (L2.CX P w) P w K mg base ["_law_bag_here", "_law_letters", "_law_turn"] "_law_word" (defScope s_l_word) (He.ga K "_law_word") cdv C outer s H E) (fun c d _ H => E c d H) := takes_of rfl rfl rfl rfl
  have pp : PassesOwn (model (cxOf (L2.CX P w) P w K mg base ["_law_bag_here", "_law_letters", "_law_turn"] "_law_word" (defScope s_l_word) (He.ga K "_law_word") cdv C outer s H E).prog (cxOf (L2.CX P w) P w K mg base ["_law_bag_here", "_law_letters", "_law_turn"] "_law_word" (defScope s_l_word) (He.ga K "_law_word") cdv C outer s H E).w) (cxOf (L2.CX P w) P w K mg base ["_law_bag_here", "_law_letters", "_law_turn"] "_law_word" (defScope s_l_word) (He.ga K "_law_word") cdv C outer s H E).A (cxOf (L2.CX P w) P w K mg base ["_law_bag_here", "_law_letters", "_law_turn"] "_law_word" (defScope s_l_word) (He.ga K "_law_word") cdv C outer s H E).env (cxOf (L2.CX P w) P w K mg base ["_law_bag_here", "_law_letters", "_law_turn"] "_law_word" (defScope s_l_word) (He.ga K "_law_word") cdv C outer s H E).xe := passes_of rfl
  exact (s_cons (s_ite (t_cmp (op := .eq) rfl hr rfl (j_call (ies := [(.var 0), (.con (.int 2))]) (iks := []) (ks := []) (arr := [.a 0, .a 1]) A.f_l_take T.m_l_take tk hr _ rfl (a_cons rfl j_var (a_cons rfl c_int a_nil)) k_nil (.head _)) c_int)
      (s_cons (s_ret (i_idx rfl rfl (i_tup (a_cons rfl (c_str (okS_of (by decide +kernel))) (a_cons rfl (c_str (okS_of (by decide +kernel))) (a_cons rfl (c_str (okS_of (by decide +kernel))) (a_cons rfl (c_str (okS_of (by decide +kernel))) a_nil))))) (j_call (ies := [(.var 0), (.con (.int 4))]) (iks := []) (ks := []) (arr := [.a 0, .a 1]) A.f_l_take T.m_l_take tk hr _ rfl (a_cons rfl j_var (a_cons rfl c_int a_nil)) k_nil (.head _))))
    s_nil)
      s_nil)
    (s_cons (j_asg [1] (c_str (okS_of (by decide +kernel))) (j_g sc_l_word.nd))
    (s_cons (s_ret (i_bm (mt := .join) rfl PySem.F.plainAttrs_str PySem.F.slot_str_join PySem.F.type_str_join (mt_join' (g := gs K) rfl) rfl rfl rfl (by decide) (c_str (okS_of (by decide +kernel))) (a_cons rfl (i_lc (own := [("_law_turn", 2)]) rfl sc_l_word.nd rfl (w_rng1 (by rfl) T.n_range rfl (a_cons rfl (i_bin (op := .add) rfl c_int (j_call (ies := [(.var 0), (.con (.int 8))]) (iks := []) (ks := []) (arr := [.a 0, .a 1]) A.f_l_take T.m_l_take tk hr _ rfl (a_cons rfl j_var (a_cons rfl c_int a_nil)) k_nil (.head _))) a_nil)) (blkOk_by (by kernel_rfl)) (fun _ _ _ _ _ => (j_g sc_l_word.nd)) (fun _ _ _ _ _ => ifs_nil) (fun _ _ _ _ _ => (i_idx rfl rfl j_var (j_call (ies := [(.var 0), (.con (.int 26))]) (iks := []) (ks := []) (arr := [.a 0, .a 1]) A.f_l_take T.m_l_take takes0 hr _ rfl (a_cons rfl j_var (a_cons rfl c_int a_nil)) k_nil (.head _))))) a_nil)))
    s_nil)))
theorem b_l_value (T : Txt K mg) {k : Nat} (A : All P w K mg base k) {cdv : Value} {C : Around} {outer : List PySem.Env} {s : Shared} {H : Hp} {E : XK} (hr : Room (2 * k + 3) (C.deeper (envOfC "_law_value" (defScope s_l_value) s.heap.objs.size (He.ga K "_law_value") cdv))) :
    PSs (cxOf (L2.CX P w) P w K mg base ["_law_bag_here", "_law_kind", "_law_way"] "_law_value" (defScope s_l_value) (He.ga K "_law_value") cdv C outer s H E) (defBody s_l_value) (tS (gs K) (fun c d _ H => E c d H) (exs (callN Tb k) p_l_value)) := by
  have tk : Takes (cxOf (L2.CX P w) P w K mg base ["_law_bag_here", "_law_kind", "_law_way"] "_law_value" (defScope s_l_value) (He.ga K "_law_value") cdv C outer s H E) (fun c d _ H => E c d H) := takes_of rfl rfl rfl rfl
  have pp : PassesOwn (model (cxOf (L2.CX P w) P w K mg base ["_law_bag_here", "_law_kind", "_law_way"] "_law_value" (defScope s_l_value) (He.ga K "_law_value") cdv C outer s H E).prog (cxOf (L2.CX P w) P w K mg base ["_law_bag_here", "_law_kind", "_law_way"] "_law_value" (defScope s_l_value) (He.ga K "_law_value") cdv C outer s H E).w) (cxOf (L2.CX P w) P w K mg base ["_law_bag_here", "_law_kind", "_law_way"] "_law_value" (defScope s_l_value) (He.ga K "_law_value") cdv C outer s H E).A (cxOf (L2.CX P w) P w K mg base ["_law_bag_here", "_law_kind", "_law_way"] "_law_value" (defScope s_l_value) (He.ga K "_law_value") cdv C outer s H E).env (cxOf (L2.CX P w) P w K mg base ["_law_bag_here", "_law_kind", "_law_way"] "_law_value" (defScope s_l_value) (He.ga K "_law_value") cdv C outer s H E).xe := passes_of rfl
  exact (s_cons (s_ite (t_cmp (op := .eq) rfl hr rfl j_var (c_str (okS_of (by decide +kernel))))
      (s_cons (s_ret (j_call (ies := [(.var 0)]) (iks := []) (ks := []) (arr := [.a 0]) A.f_l_word T.m_l_word tk hr _ rfl (a_cons rfl j_var a_nil) k_nil (.head _)))
    s_nil)
      s_nil)
    (s_cons (j_asg [2] (j_call (ies := [(.var 0), (.con (.int 3))]) (iks := []) (ks := []) (arr := [.a 0, .a 1]) A.f_l_take T.m_l_take tk hr _ rfl (a_cons rfl j_var (a_cons rfl c_int a_nil)) k_nil (.head _)) (j_g sc_l_value.nd))
    (s_cons (s_ret (i_ife (t_cmp (op := .lt) rfl hr rfl j_var c_int) (i_bin (op := .sub) rfl (j_call (ies := [(.var 0), (.con (.int 4))]) (iks := []) (ks := []) (arr := [.a 0, .a 1]) A.f_l_take T.m_l_take tk hr _ rfl (a_cons rfl j_var (a_cons rfl c_int a_nil)) k_nil (.head _)) c_int) (i_bin (op := .sub) rfl (j_call (ies := [(.var 0), (.con (.int 1999))]) (iks := []) (ks := []) (arr := [.a 0, .a 1]) A.f_l_take T.m_l_take tk hr _ rfl (a_cons rfl j_var (a_cons rfl c_int a_nil)) k_nil (.head _)) c_int)))
    s_nil)))
theorem b_l_like (T : Txt K mg) {k : Nat} (A : All P w K mg base k) {cdv : Value} {C : Around} {outer : List PySem.Env} {s : Shared} {H : Hp} {E : XK} (hr : Room (2 * k + 3) (C.deeper (envOfC "_law_like" (defScope s_l_like) s.heap.objs.size (He.ga K "_law_like") cdv))) :
    PSs (cxOf (L2.CX P w) P w K mg base ["_law_told", "_law_due", "_law_one", "_law_other"] "_law_like" (defScope s_l_like) (He.ga K "_law_like") cdv C outer s H E) (defBody s_l_like) (tS (gs K) (fun c d _ H => E c d H) (exs (callN Tb k) p_l_like)) := by
  have tk : Takes (cxOf (L2.CX P w) P w K mg base ["_law_told", "_law_due", "_law_one", "_law_other"] "_law_like" (defScope s_l_like) (He.ga K "_law_like") cdv C outer s H E) (fun c d _ H => E c d H) := takes_of rfl rfl rfl rfl
  have pp : PassesOwn (model (cxOf (L2.CX P w) P w K mg base ["_law_told", "_law_due", "_law_one", "_law_other"] "_law_like" (defScope s_l_like) (He.ga K "_law_like") cdv C outer s H E).prog (cxOf (L2.CX P w) P w K mg base ["_law_told", "_law_due", "_law_one", "_law_other"] "_law_like" (defScope s_l_like) (He.ga K "_law_like") cdv C outer s H E).w) (cxOf (L2.CX P w) P w K mg base ["_law_told", "_law_due", "_law_one", "_law_other"] "_law_like" (defScope s_l_like) (He.ga K "_law_like") cdv C outer s H E).A (cxOf (L2.CX P w) P w K mg base ["_law_told", "_law_due", "_law_one", "_law_other"] "_law_like" (defScope s_l_like) (He.ga K "_law_like") cdv C outer s H E).env (cxOf (L2.CX P w) P w K mg base ["_law_told", "_law_due", "_law_one", "_law_other"] "_law_like" (defScope s_l_like) (He.ga K "_law_like") cdv C outer s H E).xe := passes_of rfl
  exact (s_cons (s_ite (PW.pt (w_or (t_cmp (op := .ned) rfl hr rfl (j_bi (.isi) hr T.n_isinstance (a_cons rfl j_var (a_cons rfl (c_gT (n := "bool") T.n_bool (by decide +kernel)) a_nil))) (j_bi (.isi) hr T.n_isinstance (a_cons rfl j_var (a_cons rfl (c_gT (n := "bool") T.n_bool (by decide +kernel)) a_nil)))) (pw_or1 (t_cmp (op := .ned) rfl hr rfl j_var j_var))))
      (s_cons (s_ret c_bl)
    s_nil)
      s_nil)
    (s_cons (s_ite (t_val rfl rfl (i_isit T.n_isinstance j_var (ty_cons T.n_list (by decide +kernel) (ty_cons T.n_tuple (by decide +kernel) ty_nil)) (by simp)))
      (s_cons (s_ret (j_bi (.all) hr T.n_all (a_cons rfl (i_lc (own := [("_law_one", 2), ("_law_other", 3)]) rfl sc_l_like.nd rfl (w_zipb rfl T.n_zip rfl rfl (a_cons rfl j_var (a_cons rfl j_var a_nil))) (blkOk_by (by kernel_rfl)) (fun _ _ _ _ _ => (g_tup rfl rfl rfl rfl (gs_cons rfl (j_g sc_l_like.nd) (gs_cons rfl (j_g sc_l_like.nd) gs_nil)))) (fun _ _ _ _ _ => ifs_nil) (fun _ _ _ _ _ => (j_call (ies := [(.var 2), (.var 3)]) (iks := []) (ks := []) (arr := [.a 0, .a 1]) A.f_l_like T.m_l_like takes0 hr _ rfl (a_cons rfl j_var (a_cons rfl j_var a_nil)) k_nil (.head _)))) a_nil)))
    s_nil)
      s_nil)
    (s_cons (s_ret c_bl)
    s_nil)))
theorem b_l_pages (T : Txt K mg) {k : Nat} (A : All P w K mg base k) {cdv : Value} {C : Around} {outer : List PySem.Env} {s : Shared} {H : Hp} {E : XK} (hr : Room (2 * k + 3) (C.deeper (envOfC "_law_pages" (defScope s_l_pages) s.heap.objs.size (He.ga K "_law_pages") cdv))) :
    PSs (cxOf (L2.CX P w) P w K mg base ["_law_numbers", "_law_wide", "_law_number"] "_law_pages" (defScope s_l_pages) (He.ga K "_law_pages") cdv C outer s H E) (defBody s_l_pages) (tS (gs K) (fun c d _ H => E c d H) (exs (callN Tb k) p_l_pages)) := by
  have tk : Takes (cxOf (L2.CX P w) P w K mg base ["_law_numbers", "_law_wide", "_law_number"] "_law_pages" (defScope s_l_pages) (He.ga K "_law_pages") cdv C outer s H E) (fun c d _ H => E c d H) := takes_of rfl rfl rfl rfl
  have pp : PassesOwn (model (cxOf (L2.CX P w) P w K mg base ["_law_numbers", "_law_wide", "_law_number"] "_law_pages" (defScope s_l_pages) (He.ga K "_law_pages") cdv C outer s H E).prog (cxOf (L2.CX P w) P w K mg base ["_law_numbers", "_law_wide", "_law_number"] "_law_pages" (defScope s_l_pages) (He.ga K "_law_pages") cdv C outer s H E).w) (cxOf (L2.CX P w) P w K mg base ["_law_numbers", "_law_wide", "_law_number"] "_law_pages" (defScope s_l_pages) (He.ga K "_law_pages") cdv C outer s H E).A (cxOf (L2.CX P w) P w K mg base ["_law_numbers", "_law_wide", "_law_number"] "_law_pages" (defScope s_l_pages) (He.ga K "_law_pages") cdv C outer s H E).env (cxOf (L2.CX P w) P w K mg base ["_law_numbers", "_law_wide", "_law_number"] "_law_pages" (defScope s_l_pages) (He.ga K "_law_pages") cdv C outer s H E).xe := passes_of rfl
  exact (s_cons (s_ret (i_sortS (by rfl) T.n_sorted (by rfl) T.n_set rfl rfl (a_cons rfl (i_lc (own := [("_law_number", 2)]) rfl sc_l_pages.nd rfl (w_e rfl j_var) (blkOk_by (by kernel_rfl)) (fun _ _ _ _ _ => (j_g sc_l_pages.nd)) (fun _ _ _ _ _ => ifs_nil) (fun _ _ _ _ _ => (i_bin (op := .div) rfl (i_bin (op := .sub) rfl (i_bin (op := .add) rfl j_var j_var) c_int) j_var))) a_nil)))
    s_nil)
theorem b_l_shows (T : Txt K mg) {k : Nat} (A : All P w K mg base k) {cdv : Value} {C : Around} {outer : List PySem.Env} {s : Shared} {H : Hp} {E : XK} (hr : Room (2 * k + 3) (C.deeper (envOfC "_law_shows" (defScope s_l_shows) s.heap.objs.size (He.ga K "_law_shows") cdv))) :
    PSs (cxOf (L2.CX P w) P w K mg base ["_law_bits", "_law_held", "_law_wide", "_law_value_here", "_law_numbers", "_law_turn", "_law_found", "_law_known", "_law_one", "_law_number"] "_law_shows" (defScope s_l_shows) (He.ga K "_law_shows") cdv C outer s H E) (defBody s_l_shows) (tS (gs K) (fun c d _ H => E c d H) (exs (callN Tb k) p_l_shows)) := by
  have tk : Takes (cxOf (L2.CX P w) P w K mg base ["_law_bits", "_law_held", "_law_wide", "_law_value_here", "_law_numbers", "_law_turn", "_law_found", "_law_known", "_law_one", "_law_number"] "_law_shows" (defScope s_l_shows) (He.ga K "_law_shows") cdv C outer s H E) (fun c d _ H => E c d H) := takes_of rfl rfl rfl rfl
  have pp : PassesOwn (model (cxOf (L2.CX P w) P w K mg base ["_law_bits", "_law_held", "_law_wide", "_law_value_here", "_law_numbers", "_law_turn", "_law_found", "_law_known", "_law_one", "_law_number"] "_law_shows" (defScope s_l_shows) (He.ga K "_law_shows") cdv C outer s H E).prog (cxOf (L2.CX P w) P w K mg base ["_law_bits", "_law_held", "_law_wide", "_law_value_here", "_law_numbers", "_law_turn", "_law_found", "_law_known", "_law_one", "_law_number"] "_law_shows" (defScope s_l_shows) (He.ga K "_law_shows") cdv C outer s H E).w) (cxOf (L2.CX P w) P w K mg base ["_law_bits", "_law_held", "_law_wide", "_law_value_here", "_law_numbers", "_law_turn", "_law_found", "_law_known", "_law_one", "_law_number"] "_law_shows" (defScope s_l_shows) (He.ga K "_law_shows") cdv C outer s H E).A (cxOf (L2.CX P w) P w K mg base ["_law_bits", "_law_held", "_law_wide", "_law_value_here", "_law_numbers", "_law_turn", "_law_found", "_law_known", "_law_one", "_law_number"] "_law_shows" (defScope s_l_shows) (He.ga K "_law_shows") cdv C outer s H E).env (cxOf (L2.CX P w) P w K mg base ["_law_bits", "_law_held", "_law_wide", "_law_value_here", "_law_numbers", "_law_turn", "_law_found", "_law_known", "_law_one", "_law_number"] "_law_shows" (defScope s_l_shows) (He.ga K "_law_shows") cdv C outer s H E).xe := passes_of rfl
  exact (s_cons (j_asg [4] (j_bi (.sorted1 false) hr T.n_sorted (a_cons rfl (i_lc (own := [("_law_one", 8), ("_law_number", 9)]) rfl sc_l_shows.nd rfl (w_e rfl j_var) (blkOk_by (by kernel_rfl)) (fun _ _ _ _ _ => (g_tup rfl rfl rfl rfl (gs_cons rfl (j_g sc_l_shows.nd) (gs_cons rfl (j_g sc_l_shows.nd) gs_nil)))) (fun _ _ _ _ _ => (ifs_one (t_cmp (op := .eq) rfl hr rfl j_var j_var))) (fun _ _ _ _ _ => j_var)) a_nil)) (j_g sc_l_shows.nd))
    (s_cons (s_for pp rfl rfl (w_rng1 (by rfl) T.n_range rfl (a_cons rfl c_int a_nil)) (g_any (vs := [5]) (j_g sc_l_shows.nd))
      (s_cons (s_par2 (i := 6) (j := 7) sc_l_shows.nd (a_cons rfl (j_meth (ms := [(0, 5, [.a 0, .a 1])]) (ies := [(.var 3)]) (iks := []) (ks := []) (mok1 (mok_of A.f_Bits_found T.me_Bits_found hr (.head _))) tk _ rfl j_var (a_cons rfl j_var a_nil) k_nil) (a_cons rfl (j_meth (ms := [(0, 6, [.a 0])]) (ies := []) (iks := []) (ks := []) (mok1 (mok_of A.f_Bits_kept T.me_Bits_kept hr (.head _))) tk _ rfl j_var a_nil k_nil) a_nil)))
    (s_cons (s_ite (t_not (t_val rfl rfl (j_call (ies := [(.var 6), (.tup [(.var 4), (.bi (.len) [(.call 12 [.a 0, .a 1] [(.var 4), (.var 2)])])])]) (iks := []) (ks := []) (arr := [.a 0, .a 1]) A.f_l_like T.m_l_like tk hr _ rfl (a_cons rfl j_var (a_cons rfl (i_tup (a_cons rfl j_var (a_cons rfl (j_bi (.len) hr T.n_len (a_cons rfl (j_call (ies := [(.var 4), (.var 2)]) (iks := []) (ks := []) (arr := [.a 0, .a 1]) A.f_l_pages T.m_l_pages tk hr _ rfl (a_cons rfl j_var (a_cons rfl j_var a_nil)) k_nil (.head _)) a_nil)) a_nil))) a_nil)) k_nil (.head _))))
      (s_cons (s_ret c_bl)
    s_nil)
      s_nil)
    (s_cons (s_ite (t_not (t_val rfl rfl (j_call (ies := [(.var 7), (.sortS (.lc false [8, 9] (.tup [(.var 8), (.var 9)]) (.e (.var 1)) [] (.var 8)))]) (iks := []) (ks := []) (arr := [.a 0, .a 1]) A.f_l_like T.m_l_like tk hr _ rfl (a_cons rfl j_var (a_cons rfl (i_sortS (by rfl) T.n_sorted (by rfl) T.n_set rfl rfl (a_cons rfl (i_lc (own := [("_law_one", 8), ("_law_number", 9)]) rfl sc_l_shows.nd rfl (w_e rfl j_var) (blkOk_by (by kernel_rfl)) (fun _ _ _ _ _ => (g_tup rfl rfl rfl rfl (gs_cons rfl (j_g sc_l_shows.nd) (gs_cons rfl (j_g sc_l_shows.nd) gs_nil)))) (fun _ _ _ _ _ => ifs_nil) (fun _ _ _ _ _ => j_var)) a_nil)) a_nil)) k_nil (.head _))))
      (s_cons (s_ret c_bl)
    s_nil)
      s_nil)
    (s_cons (s_expr rfl (i_bm (mt := .append) rfl PySem.F.plainAttrs_list PySem.F.slot_list_append PySem.F.type_list_append mt_append' rfl rfl rfl (by decide) (i_idx rfl rfl j_var c_int) (a_cons rfl c_int a_nil)))
    (s_cons (s_expr rfl (i_bm (mt := .append) rfl PySem.F.plainAttrs_list PySem.F.slot_list_append PySem.F.type_list_append mt_append' rfl rfl rfl (by decide) j_var (a_cons rfl c_non a_nil)))
    s_nil))))))
    (s_cons (s_ret c_bl)
    s_nil)))
theorem b_law (T : Txt K mg) {k : Nat} (A : All P w K mg base k) {cdv : Value} {C : Around} {outer : List PySem.Env} {s : Shared} {H : Hp} {E : XK} (hr : Room (2 * k + 3) (C.deeper (envOfC "law" (defScope s_law) s.heap.objs.size (He.ga K "law") cdv))) :
    PSs (cxOf (L2.CX P w) P w K mg base ["_law_script", "_law_bag_here", "_law_wide", "_law_kind", "_law_bits", "_law_held", "_law_k", "_law_pair", "_law_value_here", "_law_number", "_law_others", "_law_touched", "_law_due", "_law_there", "_law_one", "_law_other"] "law" (defScope s_law) (He.ga K "law") cdv C outer s H E) (defBody s_law) (tS (gs K) (fun c d _ H => E c d H) (exs (callN Tb k) p_law)) := by
  have tk : Takes (cxOf (L2.CX P w) P w K mg base ["_law_script", "_law_bag_here", "_law_wide", "_law_kind", "_law_bits", "_law_held", "_law_k", "_law_pair", "_law_value_here", "_law_number", "_law_others", "_law_touched", "_law_due", "_law_there", "_law_one", "_law_other"] "law" (defScope s_law) (He.ga K "law") cdv C outer s H E) (fun c d _ H => E c d H) := takes_of rfl rfl rfl rfl
  have pp : PassesOwn (model (cxOf (L2.CX P w) P w K mg base ["_law_script", "_law_bag_here", "_law_wide", "_law_kind", "_law_bits", "_law_held", "_law_k", "_law_pair", "_law_value_here", "_law_number", "_law_others", "_law_touched", "_law_due", "_law_there", "_law_one", "_law_other"] "law" (defScope s_law) (He.ga K "law") cdv C outer s H E).prog (cxOf (L2.CX P w) P w K mg base ["_law_script", "_law_bag_here", "_law_wide", "_law_kind", "_law_bits", "_law_held", "_law_k", "_law_pair", "_law_value_here", "_law_number", "_law_others", "_law_touched", "_law_due", "_law_there", "_law_one", "_law_other"] "law" (defScope s_law) (He.ga K "law") cdv C outer s H E).w) (cxOf (L2.CX P w) P w K mg base ["_law_script", "_law_bag_here", "_law_wide", "_law_kind", "_law_bits", "_law_held", "_law_k", "_law_pair", "_law_value_here", "_law_number", "_law_others", "_law_touched", "_law_due", "_law_there", "_law_one", "_law_other"] "law" (defScope s_law) (He.ga K "law") cdv C outer s H E).A (cxOf (L2.CX P w) P w K mg base ["_law_script", "_law_bag_here", "_law_wide", "_law_kind", "_law_bits", "_law_held", "_law_k", "_law_pair", "_law_value_here", "_law_number", "_law_others", "_law_touched", "_law_due", "_law_there", "_law_one", "_law_other"] "law" (defScope s_law) (He.ga K "law") cdv C outer s H E).env (cxOf (L2.CX P w) P w K mg base ["_law_script", "_law_bag_here", "_law_wide", "_law_kind", "_law_bits", "_law_held", "_law_k", "_law_pair", "_law_value_here", "_law_number", "_law_others", "_law_touched", "_law_due", "_law_there", "_law_one", "_law_other"] "law" (defScope s_law) (He.ga K "law") cdv C outer s H E).xe := passes_of rfl
  exact (s_cons (j_asg [1] (j_call (ies := [(.var 0), (.con (.int 0))]) (iks := []) (ks := []) (arr := [.a 0, .a 1]) A.f_l_bag T.m_l_bag tk hr _ rfl (a_cons rfl j_var (a_cons rfl c_int a_nil)) k_nil (.head _)) (j_g sc_law.nd))
    (s_cons (s_par2 (i := 2) (j := 3) sc_law.nd (a_cons rfl (i_idx rfl rfl (i_tup (a_cons rfl (i_bin (op := .add) rfl c_int (j_call (ies := [(.var 1), (.con (.int 63))]) (iks := []) (ks := []) (arr := [.a 0, .a 1]) A.f_l_take T.m_l_take tk hr _ rfl (a_cons rfl j_var (a_cons rfl c_int a_nil)) k_nil (.head _))) (a_cons rfl c_int (a_cons rfl c_int (a_cons rfl c_int a_nil))))) (j_call (ies := [(.var 1), (.con (.int 4))]) (iks := []) (ks := []) (arr := [.a 0, .a 1]) A.f_l_take T.m_l_take tk hr _ rfl (a_cons rfl j_var (a_cons rfl c_int a_nil)) k_nil (.head _))) (a_cons rfl (i_idx rfl rfl (i_tup (a_cons rfl (c_str (okS_of (by decide +kernel))) (a_cons rfl (c_str (okS_of (by decide +kernel))) a_nil))) (j_call (ies := [(.var 1), (.con (.int 2))]) (iks := []) (ks := []) (arr := [.a 0, .a 1]) A.f_l_take T.m_l_take tk hr _ rfl (a_cons rfl j_var (a_cons rfl c_int a_nil)) k_nil (.head _))) a_nil)))
    (s_cons (s_par2 (i := 4) (j := 5) sc_law.nd (a_cons rfl (j_make (c := 0) (ies := [(.var 2)]) (iks := []) (ks := []) (arr := [.a 0, .a 1]) A.f_Bits_init T.mk_Bits T.cl_Bits T.m_Bits tk hr _ rfl (a_cons rfl j_var a_nil) k_nil (.tail _ (.head _))) (a_cons rfl (i_lst a_nil) a_nil)))
    (s_cons (s_for pp rfl rfl (w_rng1 (by rfl) T.n_range rfl (a_cons rfl (j_bi (.max2) hr T.n_max (a_cons rfl c_int (a_cons rfl (j_bi (.min2) hr T.n_min (a_cons rfl c_int (a_cons rfl (i_bin (op := .sub) rfl (j_bi (.len) hr T.n_len (a_cons rfl j_var a_nil)) c_int) a_nil))) a_nil))) a_nil)) (g_any (vs := [6]) (j_g sc_law.nd))
      (s_cons (j_asg [1] (j_call (ies := [(.var 0), (.bin false .add (.con (.int 1)) (.var 6))]) (iks := []) (ks := []) (arr := [.a 0, .a 1]) A.f_l_bag T.m_l_bag tk hr _ rfl (a_cons rfl j_var (a_cons rfl (i_bin (op := .add) rfl c_int j_var) a_nil)) k_nil (.head _)) (j_g sc_law.nd))
    (s_cons (j_asg [7] (i_tup (a_cons rfl (j_call (ies := [(.var 1), (.var 3)]) (iks := []) (ks := []) (arr := [.a 0, .a 1]) A.f_l_value T.m_l_value tk hr _ rfl (a_cons rfl j_var (a_cons rfl j_var a_nil)) k_nil (.head _)) (a_cons rfl (i_bin (op := .add) rfl c_int (j_call (ies := [(.var 1), (.idx (.tup [(.con (.int 20)), (.con (.int 60)), (.con (.int 999))]) (.call 8 [.a 0, .a 1] [(.var 1), (.con (.int 3))]))]) (iks := []) (ks := []) (arr := [.a 0, .a 1]) A.f_l_take T.m_l_take tk hr _ rfl (a_cons rfl j_var (a_cons rfl (i_idx rfl rfl (i_tup (a_cons rfl c_int (a_cons rfl c_int (a_cons rfl c_int a_nil)))) (j_call (ies := [(.var 1), (.con (.int 3))]) (iks := []) (ks := []) (arr := [.a 0, .a 1]) A.f_l_take T.m_l_take tk hr _ rfl (a_cons rfl j_var (a_cons rfl c_int a_nil)) k_nil (.head _))) a_nil)) k_nil (.head _))) a_nil))) (j_g sc_law.nd))
    (s_cons (s_ite (PW.pt (w_and (t_cmp (op := .ne) rfl hr rfl j_var (i_lst a_nil)) (pw_and1 (t_cmp (op := .eq) rfl hr rfl (j_call (ies := [(.var 1), (.con (.int 3))]) (iks := []) (ks := []) (arr := [.a 0, .a 1]) A.f_l_take T.m_l_take tk hr _ rfl (a_cons rfl j_var (a_cons rfl c_int a_nil)) k_nil (.head _)) c_int))))
      (s_cons (j_asg [7] (i_idx rfl rfl j_var (j_call (ies := [(.var 1), (.bi (.len) [(.var 5)])]) (iks := []) (ks := []) (arr := [.a 0, .a 1]) A.f_l_take T.m_l_take tk hr _ rfl (a_cons rfl j_var (a_cons rfl (j_bi (.len) hr T.n_len (a_cons rfl j_var a_nil)) a_nil)) k_nil (.head _))) (j_g sc_law.nd))
    s_nil)
      s_nil)
    (s_cons (j_asg [8, 9] j_var (g_tup rfl rfl rfl rfl (gs_cons rfl (j_g sc_law.nd) (gs_cons rfl (j_g sc_law.nd) gs_nil))))
    (s_cons (s_setLc (i := 10) (own := [("_law_one", 14)]) rfl sc_law.nd rfl rfl (sw_true rfl rfl rfl (by decide +kernel)) rfl (w_e rfl j_var) (blkOk_by (by kernel_rfl)) (fun _ _ _ _ _ => (j_g sc_law.nd)) (fun _ _ _ _ _ => (ifs_one (t_cmp (op := .ne) rfl hr rfl j_var j_var))) (fun _ _ _ _ _ => j_var))
    (s_cons (s_ite (t_cmp (op := .isIn) rfl hr rfl j_var j_var)
      (s_cons (s_par2 (i := 11) (j := 12) sc_law.nd (a_cons rfl (j_meth (ms := [(0, 4, [.a 0, .a 1, .a 2])]) (ies := [(.var 8), (.var 9)]) (iks := []) (ks := []) (mok1 (mok_of A.f_Bits_drop T.me_Bits_drop hr (.head _))) tk _ rfl j_var (a_cons rfl j_var (a_cons rfl j_var a_nil)) k_nil) (a_cons rfl c_int a_nil)))
    s_nil)
      (s_cons (j_asg [13] (j_call (ies := [(.lc false [14, 15] (.tup [(.var 14), (.var 15)]) (.e (.var 5)) [(.cmp .eq (.var 14) (.var 8))] (.var 15)), (.var 2)]) (iks := []) (ks := []) (arr := [.a 0, .a 1]) A.f_l_pages T.m_l_pages tk hr _ rfl (a_cons rfl (i_lc (own := [("_law_one", 14), ("_law_other", 15)]) rfl sc_law.nd rfl (w_e rfl j_var) (blkOk_by (by kernel_rfl)) (fun _ _ _ _ _ => (g_tup rfl rfl rfl rfl (gs_cons rfl (j_g sc_law.nd) (gs_cons rfl (j_g sc_law.nd) gs_nil)))) (fun _ _ _ _ _ => (ifs_one (t_cmp (op := .eq) rfl hr rfl j_var j_var))) (fun _ _ _ _ _ => j_var)) (a_cons rfl j_var a_nil)) k_nil (.head _)) (j_g sc_law.nd))
    (s_cons (s_par2 (i := 11) (j := 12) sc_law.nd (a_cons rfl (j_meth (ms := [(0, 3, [.a 0, .a 1, .a 2])]) (ies := [(.var 8), (.var 9)]) (iks := []) (ks := []) (mok1 (mok_of A.f_Bits_put T.me_Bits_put hr (.head _))) tk _ rfl j_var (a_cons rfl j_var (a_cons rfl j_var a_nil)) k_nil) (a_cons rfl (i_bin (op := .add) rfl c_int (j_bi (.int1) hr T.n_int (a_cons rfl (i_cmp (op := .isIn) rfl hr rfl (i_bin (op := .div) rfl (i_bin (op := .sub) rfl (i_bin (op := .add) rfl j_var j_var) c_int) j_var) j_var) a_nil))) a_nil)))
    (s_cons (s_expr rfl (i_bm (mt := .append) rfl PySem.F.plainAttrs_list PySem.F.slot_list_append PySem.F.type_list_append mt_append' rfl rfl rfl (by decide) j_var (a_cons rfl j_var a_nil)))
    s_nil))))
    (s_cons (j_asg [5] j_var (j_g sc_law.nd))
    (s_cons (s_ite (PW.pt (w_or (t_not (t_val rfl rfl (j_call (ies := [(.var 11), (.var 12)]) (iks := []) (ks := []) (arr := [.a 0, .a 1]) A.f_l_like T.m_l_like tk hr _ rfl (a_cons rfl j_var (a_cons rfl j_var a_nil)) k_nil (.head _)))) (pw_or1 (t_not (t_val rfl rfl (j_call (ies := [(.var 4), (.var 5), (.var 2), (.var 8)]) (iks := []) (ks := []) (arr := [.a 0, .a 1, .a 2, .a 3]) A.f_l_shows T.m_l_shows tk hr _ rfl (a_cons rfl j_var (a_cons rfl j_var (a_cons rfl j_var (a_cons rfl j_var a_nil)))) k_nil (.head _)))))))
      (s_cons (s_ret c_bl)
    s_nil)
      s_nil)
    (s_cons (s_ite (t_not (t_val rfl rfl (j_call (ies := [(.var 4), (.var 5), (.var 2), (.call 10 [.a 0, .a 1] [(.var 1), (.var 3)])]) (iks := []) (ks := []) (arr := [.a 0, .a 1, .a 2, .a 3]) A.f_l_shows T.m_l_shows tk hr _ rfl (a_cons rfl j_var (a_cons rfl j_var (a_cons rfl j_var (a_cons rfl (j_call (ies := [(.var 1), (.var 3)]) (iks := []) (ks := []) (arr := [.a 0, .a 1]) A.f_l_value T.m_l_value tk hr _ rfl (a_cons rfl j_var (a_cons rfl j_var a_nil)) k_nil (.head _)) a_nil)))) k_nil (.head _))))
      (s_cons (s_ret c_bl)
    s_nil)
      s_nil)
    s_nil))))))))))
    (s_cons (s_for pp rfl rfl (w_e rfl j_var) (g_any (vs := [14, 15]) (g_tup rfl rfl rfl rfl (gs_cons rfl (j_g sc_law.nd) (gs_cons rfl (j_g sc_law.nd) gs_nil))))
      (s_cons (s_ite (t_cmp (op := .ne) rfl hr rfl (j_meth (ms := [(0, 4, [.a 0, .a 1, .a 2])]) (ies := [(.var 14), (.var 15)]) (iks := []) (ks := []) (mok1 (mok_of A.f_Bits_drop T.me_Bits_drop hr (.head _))) tk _ rfl j_var (a_cons rfl j_var (a_cons rfl j_var a_nil)) k_nil) c_int)
      (s_cons (s_ret c_bl)
    s_nil)
      s_nil)
    s_nil))
    (s_cons (s_ret (i_and rfl (i_cmp (op := .eq) rfl hr rfl (j_meth (ms := [(0, 6, [.a 0])]) (ies := []) (iks := []) (ks := []) (mok1 (mok_of A.f_Bits_kept T.me_Bits_kept hr (.head _))) tk _ rfl j_var a_nil k_nil) (i_lst a_nil)) (pe_one (i_cmp (op := .eq) rfl hr rfl (j_meth (ms := [(0, 6, [.a 0])]) (ies := []) (iks := []) (ks := []) (mok1 (mok_of A.f_Bits_kept T.me_Bits_kept hr (.head _))) tk _ rfl (j_make (c := 0) (ies := []) (iks := [(.var 2)]) (ks := ["width"]) (arr := [.a 0, .a 1]) A.f_Bits_init T.mk_Bits T.cl_Bits T.m_Bits tk hr _ rfl a_nil (k_cons j_var k_nil) (.head _)) a_nil k_nil) (i_lst a_nil)))))
    s_nil))))))
theorem all_ok (T : Txt K mg) : ∀ k, All P w K mg base k
  | 0 => ⟨let ⟨fd, F⟩ := T.d_Bits_init; ⟨fd, ["self", "width"], fn_zero F sc_Bits_init, sgs_Bits_init T F, F.kp⟩,
    let ⟨fd, F⟩ := T.d_Bits_page_of; ⟨fd, ["self", "number"], fn_zero F sc_Bits_page_of, sgs_Bits_page_of T F, F.kp⟩,
    let ⟨fd, F⟩ := T.d_Bits_pages_at; ⟨fd, ["self", "value"], fn_zero F sc_Bits_pages_at, sgs_Bits_pages_at T F, F.kp⟩,
    let ⟨fd, F⟩ := T.d_Bits_put; ⟨fd, ["self", "value", "number"], fn_zero F sc_Bits_put, sgs_Bits_put T F, F.kp⟩,
    let ⟨fd, F⟩ := T.d_Bits_drop; ⟨fd, ["self", "value", "number"], fn_zero F sc_Bits_drop, sgs_Bits_drop T F, F.kp⟩,
    let ⟨fd, F⟩ := T.d_Bits_found; ⟨fd, ["self", "value"], fn_zero F sc_Bits_found, sgs_Bits_found T F, F.kp⟩,
    let ⟨fd, F⟩ := T.d_Bits_kept; ⟨fd, ["self"], fn_zero F sc_Bits_kept, sgs_Bits_kept T F, F.kp⟩,
    let ⟨fd, F⟩ := T.d_l_bag; ⟨fd, ["_law_script", "_law_at"], fn_zero F sc_l_bag, sgs_l_bag T F, F.kp⟩,
    let ⟨fd, F⟩ := T.d_l_take; ⟨fd, ["_law_bag_here", "_law_many"], fn_zero F sc_l_take, sgs_l_take T F, F.kp⟩,
    let ⟨fd, F⟩ := T.d_l_word; ⟨fd, ["_law_bag_here"], fn_zero F sc_l_word, sgs_l_word T F, F.kp⟩,
    let ⟨fd, F⟩ := T.d_l_value; ⟨fd, ["_law_bag_here", "_law_kind"], fn_zero F sc_l_value, sgs_l_value T F, F.kp⟩,
    let ⟨fd, F⟩ := T.d_l_like; ⟨fd, ["_law_told", "_law_due"], fn_zero F sc_l_like, sgs_l_like T F, F.kp⟩,
    let ⟨fd, F⟩ := T.d_l_pages; ⟨fd, ["_law_numbers", "_law_wide"], fn_zero F sc_l_pages, sgs_l_pages T F, F.kp⟩,
    let ⟨fd, F⟩ := T.d_l_shows; ⟨fd, ["_law_bits", "_law_held", "_law_wide", "_law_value_here"], fn_zero F sc_l_shows, sgs_l_shows T F, F.kp⟩,
    let ⟨fd, F⟩ := T.d_law; ⟨fd, ["_law_script"], fn_zero F sc_law, sgs_law T F, F.kp⟩⟩
  | k + 1 => ⟨let ⟨fd, F⟩ := T.d_Bits_init; ⟨fd, ["self", "width"], fn_step (j := 2 * k + 3) (k := k) rfl F sc_Bits_init fun _ _ _ _ _ _ hr => b_Bits_init T (all_ok T k) hr, sgs_Bits_init T F, F.kp⟩,
    let ⟨fd, F⟩ := T.d_Bits_page_of; ⟨fd, ["self", "number"], fn_step (j := 2 * k + 3) (k := k) rfl F sc_Bits_page_of fun _ _ _ _ _ _ hr => b_Bits_page_of T (all_ok T k) hr, sgs_Bits_page_of T F, F.kp⟩,
    let ⟨fd, F⟩ := T.d_Bits_pages_at; ⟨fd, ["self", "value"], fn_step (j := 2 * k + 3) (k := k) rfl F sc_Bits_pages_at fun _ _ _ _ _ _ hr => b_Bits_pages_at T (all_ok T k) hr, sgs_Bits_pages_at T F, F.kp⟩,
    let ⟨fd, F⟩ := T.d_Bits_put; ⟨fd, ["self", "value", "number"], fn_step (j := 2 * k + 3) (k := k) rfl F sc_Bits_put fun _ _ _ _ _ _ hr => b_Bits_put T (all_ok T k) hr, sgs_Bits_put T F, F.kp⟩,
    let ⟨fd, F⟩ := T.d_Bits_drop; ⟨fd, ["self", "value", "number"], fn_step (j := 2 * k + 3) (k := k) rfl F sc_Bits_drop fun _ _ _ _ _ _ hr => b_Bits_drop T (all_ok T k) hr, sgs_Bits_drop T F, F.kp⟩,
    let ⟨fd, F⟩ := T.d_Bits_found; ⟨fd, ["self", "value"], fn_step (j := 2 * k + 3) (k := k) rfl F sc_Bits_found fun _ _ _ _ _ _ hr => b_Bits_found T (all_ok T k) hr, sgs_Bits_found T F, F.kp⟩,
    let ⟨fd, F⟩ := T.d_Bits_kept; ⟨fd, ["self"], fn_step (j := 2 * k + 3) (k := k) rfl F sc_Bits_kept fun _ _ _ _ _ _ hr => b_Bits_kept T (all_ok T k) hr, sgs_Bits_kept T F, F.kp⟩,
    let ⟨fd, F⟩ := T.d_l_bag; ⟨fd, ["_law_script", "_law_at"], fn_step (j := 2 * k + 3) (k := k) rfl F sc_l_bag fun _ _ _ _ _ _ hr => b_l_bag T (all_ok T k) hr, sgs_l_bag T F, F.kp⟩,
    let ⟨fd, F⟩ := T.d_l_take; ⟨fd, ["_law_bag_here", "_law_many"], fn_step (j := 2 * k + 3) (k := k) rfl F sc_l_take fun _ _ _ _ _ _ hr => b_l_take T (all_ok T k) hr, sgs_l_take T F, F.kp⟩,
    let ⟨fd, F⟩ := T.d_l_word; ⟨fd, ["_law_bag_here"], fn_step (j := 2 * k + 3) (k := k) rfl F sc_l_word fun _ _ _ _ _ _ hr => b_l_word T (all_ok T k) hr, sgs_l_word T F, F.kp⟩,
    let ⟨fd, F⟩ := T.d_l_value; ⟨fd, ["_law_bag_here", "_law_kind"], fn_step (j := 2 * k + 3) (k := k) rfl F sc_l_value fun _ _ _ _ _ _ hr => b_l_value T (all_ok T k) hr, sgs_l_value T F, F.kp⟩,
    let ⟨fd, F⟩ := T.d_l_like; ⟨fd, ["_law_told", "_law_due"], fn_step (j := 2 * k + 3) (k := k) rfl F sc_l_like fun _ _ _ _ _ _ hr => b_l_like T (all_ok T k) hr, sgs_l_like T F, F.kp⟩,
    let ⟨fd, F⟩ := T.d_l_pages; ⟨fd, ["_law_numbers", "_law_wide"], fn_step (j := 2 * k + 3) (k := k) rfl F sc_l_pages fun _ _ _ _ _ _ hr => b_l_pages T (all_ok T k) hr, sgs_l_pages T F, F.kp⟩,
    let ⟨fd, F⟩ := T.d_l_shows; ⟨fd, ["_law_bits", "_law_held", "_law_wide", "_law_value_here"], fn_step (j := 2 * k + 3) (k := k) rfl F sc_l_shows fun _ _ _ _ _ _ hr => b_l_shows T (all_ok T k) hr, sgs_l_shows T F, F.kp⟩,
    let ⟨fd, F⟩ := T.d_law; ⟨fd, ["_law_script"], fn_step (j := 2 * k + 3) (k := k) rfl F sc_law fun _ _ _ _ _ _ hr => b_law T (all_ok T k) hr, sgs_law T F, F.kp⟩⟩
end
end Wk
namespace Wk
open PySem Iv
/-! ### numbers by values: plain facts -/
set_option maxHeartbeats 400000
abbrev Us := List (L2.Key × List Int)
def lk (us : Us) (κ : L2.Key) : Option (List Int) := (us.find? fun u => decide (u.1 = κ)).map (·.2)
def lg (us : Us) (κ : L2.Key) : List Int := (lk us κ).getD []
def lput (us : Us) (κ : L2.Key) (l : List Int) : Us := if (us.any fun u => decide (u.1 = κ)) = true then us.map (fun u => if u.1 = κ then (u.1, l) else u) else us ++ [(κ, l)]
def ldrop (us : Us) (κ : L2.Key) : Us := us.filter fun u => decide (u.1 ≠ κ)
abbrev dI (l : List Int) : D := .lst (l.map .int)
def enc (us : Us) : List (L2.Key × D) := us.map fun u => (u.1, dI u.2)
theorem enc_len {us : Us} : (enc us).length = us.length := List.length_map ..
theorem enc_get {us : Us} {κ : L2.Key} : dGet (enc us) κ = (lk us κ).map dI := by
  unfold dGet lk enc
  rw [List.find?_map, Option.map_map, Option.map_map]
  rfl
theorem enc_put {us : Us} {κ : L2.Key} {l : List Int} : dPut (enc us) κ (dI l) = enc (lput us κ l) := by
  unfold dPut lput
  have e : ((enc us).any fun kv => decide (kv.1 = κ)) = us.any fun u => decide (u.1 = κ) := by unfold enc; rw [List.any_map]; rfl
  rw [e]
  by_cases h : (us.any fun u => decide (u.1 = κ)) = true
  · rw [if_pos h, if_pos h]
    unfold enc
    rw [List.map_map, List.map_map]
    refine List.map_congr_left fun u _ => ?_
    show (if u.1 = κ then (u.1, dI l) else (u.1, dI u.2)) = (fun u : L2.Key × List Int => (u.1, dI u.2)) (if u.1 = κ then (u.1, l) else u)
    split <;> rfl
  · rw [if_neg h, if_neg h]
    unfold enc
    rw [List.map_append]
    rfl
theorem enc_drop {us : Us} {κ : L2.Key} : dDrop (enc us) κ = enc (ldrop us κ) := by
  unfold dDrop ldrop enc
  rw [List.filter_map]
  rfl
theorem any_mem {us : Us} {κ : L2.Key} : (us.any fun u => decide (u.1 = κ)) = true ↔ κ ∈ us.map (·.1) := by
  rw [List.any_eq_true, List.mem_map]
  exact ⟨fun ⟨u, h, e⟩ => ⟨u, h, of_decide_eq_true e⟩, fun ⟨u, h, e⟩ => ⟨u, h, decide_eq_true e⟩⟩
theorem lput_k1 {us : Us} {κ : L2.Key} {l : List Int} (h : κ ∈ us.map (·.1)) : (lput us κ l).map (·.1) = us.map (·.1) := by
  unfold lput
  rw [if_pos (any_mem.mpr h), List.map_map]
  refine List.map_congr_left fun u _ => ?_
  show (if u.1 = κ then (u.1, l) else u).1 = u.1
  split <;> rfl
theorem lput_k2 {us : Us} {κ : L2.Key} {l : List Int} (h : κ ∉ us.map (·.1)) : (lput us κ l).map (·.1) = us.map (·.1) ++ [κ] := by
  unfold lput
  rw [if_neg (fun z => h (any_mem.mp z)), List.map_append]
  rfl
theorem lput_nd {us : Us} {κ : L2.Key} {l : List Int} (h : (us.map (·.1)).Nodup) : ((lput us κ l).map (·.1)).Nodup := by
  rcases Classical.em (κ ∈ us.map (·.1)) with z | z
  · rw [lput_k1 z]
    exact h
  · rw [lput_k2 z]
    exact List.nodup_append.mpr ⟨h, by simp, fun a ha b hb e => z (by rw [List.mem_singleton.mp hb] at e; exact e ▸ ha)⟩
theorem nodup_len {α : Type} : ∀ (l m : List α), l.Nodup → (∀ x ∈ l, x ∈ m) → l.length ≤ m.length
  | [], _, _, _ => Nat.zero_le _
  | x :: l, m, nd, h => by
    obtain ⟨h1, h2⟩ := List.nodup_cons.mp nd
    obtain ⟨a, b, rfl⟩ := List.append_of_mem (h x (List.mem_cons_self ..))
    have := nodup_len l (a ++ b) h2 fun y hy => by
      have hm := h y (List.mem_cons_of_mem _ hy)
      rcases List.mem_append.mp hm with q | q
      · exact List.mem_append_left _ q
      · rcases List.mem_cons.mp q with q | q
        · exact absurd (q ▸ hy) h1
        · exact List.mem_append_right _ q
    simp only [List.length_append, List.length_cons] at this ⊢
    omega
theorem lput_len {us : Us} {κ : L2.Key} {l : List Int} : (lput us κ l).length ≤ us.length + 1 := by
  unfold lput
  split
  · rw [List.length_map]; omega
  · rw [List.length_append]; exact Nat.le_refl _
theorem lk_none {us : Us} {κ : L2.Key} (h : κ ∉ us.map (·.1)) : lk us κ = none := by
  unfold lk
  rw [List.find?_eq_none.mpr fun u hu e => h (List.mem_map.mpr ⟨u, hu, of_decide_eq_true e⟩)]
  rfl
theorem lk_cons {u : L2.Key × List Int} {us : Us} {κ : L2.Key} : lk (u :: us) κ = if u.1 = κ then some u.2 else lk us κ := by
  unfold lk
  rw [List.find?_cons]
  by_cases h : u.1 = κ
  · rw [if_pos h, decide_eq_true h]; rfl
  · rw [if_neg h, decide_eq_false h]
theorem lk_app {us vs : Us} {κ : L2.Key} : lk (us ++ vs) κ = (lk us κ).or (lk vs κ) := by
  induction us with
  | nil => simp [lk]
  | cons u us ih =>
    rw [List.cons_append, lk_cons, lk_cons, ih]
    split <;> rfl
theorem lk_mem {us : Us} {κ : L2.Key} {l : List Int} (h : lk us κ = some l) : (κ, l) ∈ us := by
  induction us with
  | nil => cases h
  | cons u us ih =>
    rw [lk_cons] at h
    by_cases e : u.1 = κ
    · rw [if_pos e] at h
      cases h
      subst e
      exact List.mem_cons_self ..
    · rw [if_neg e] at h
      exact List.mem_cons_of_mem _ (ih h)
theorem lk_of {us : Us} {u : L2.Key × List Int} (nd : (us.map (·.1)).Nodup) (h : u ∈ us) : lk us u.1 = some u.2 := by
  induction us with
  | nil => cases h
  | cons v us ih =>
    rw [List.map_cons, List.nodup_cons] at nd
    rw [lk_cons]
    rcases List.mem_cons.mp h with rfl | h
    · rw [if_pos rfl]
    · rw [if_neg (fun e => nd.1 (List.mem_map.mpr ⟨u, h, e.symm⟩))]
      exact ih nd.2 h
theorem lput_at {us : Us} {κ κ' : L2.Key} {l : List Int} : lk (lput us κ l) κ' = if κ' = κ then some l else lk us κ' := by
  have upd : ∀ us : Us, lk (us.map fun u => if u.1 = κ then (u.1, l) else u) κ' = if κ' = κ then (lk us κ).map (fun _ => l) else lk us κ' := by
    intro us
    induction us with
    | nil => simp [lk]
    | cons u us ih =>
      rw [List.map_cons, lk_cons, ih, lk_cons, lk_cons]
      by_cases e : u.1 = κ
      · rw [if_pos e]
        by_cases e' : κ' = κ
        · subst e'
          simp [e]
        · have e2 : ¬ u.1 = κ' := fun z => e' (z ▸ e)
          simp [e2, e']
      · rw [if_neg e]
        by_cases e' : κ' = κ
        · subst e'
          simp [e]
        · simp [e']
  unfold lput
  by_cases h : (us.any fun u => decide (u.1 = κ)) = true
  · rw [if_pos h, upd]
    by_cases e : κ' = κ
    · rw [if_pos e, if_pos e]
      obtain ⟨u, hu, e1⟩ := List.any_eq_true.mp h
      have : ∃ l', lk us κ = some l' := by
        unfold lk
        cases hf : us.find? fun u => decide (u.1 = κ) with
        | some v => exact ⟨_, rfl⟩
        | none => exact absurd e1 (List.find?_eq_none.mp hf u hu)
      obtain ⟨l', e2⟩ := this
      rw [e2]
      rfl
    · rw [if_neg e, if_neg e]
  · rw [if_neg h, lk_app, lk_cons]
    have hn : lk us κ = none := lk_none fun z => h (any_mem.mpr z)
    by_cases e : κ' = κ
    · subst e
      rw [hn]
      simp
    · rw [if_neg (fun z => e z.symm), if_neg e]
      simp [lk]
theorem ldrop_at {us : Us} {κ κ' : L2.Key} : lk (ldrop us κ) κ' = if κ' = κ then none else lk us κ' := by
  unfold ldrop
  induction us with
  | nil => simp [lk]
  | cons u us ih =>
    by_cases e : u.1 = κ
    · rw [List.filter_cons_of_neg (by simp [e]), ih, lk_cons]
      by_cases e' : κ' = κ
      · rw [if_pos e', if_pos e']
      · rw [if_neg e', if_neg e', if_neg (fun z => e' (z.symm.trans e))]
    · rw [List.filter_cons_of_pos (by simp [e]), lk_cons, ih, lk_cons]
      by_cases e' : κ' = κ
      · subst e'
        rw [if_neg e]
        simp
      · rw [if_neg e', if_neg e']
theorem ldrop_keys {us : Us} {κ : L2.Key} : (ldrop us κ).map (·.1) = (us.map (·.1)).filter fun k => decide (k ≠ κ) := by
  unfold ldrop
  rw [List.filter_map]
  rfl
/-! what is held -/
abbrev Hs := List (L2.Key × Int)
def nums (hs : Hs) (κ : L2.Key) : List Int := (hs.filter fun h => decide (h.1 = κ)).map (·.2)
theorem nums_mem {hs : Hs} {κ : L2.Key} {n : Int} : n ∈ nums hs κ ↔ (κ, n) ∈ hs := by
  unfold nums
  rw [List.mem_map]
  constructor
  · rintro ⟨⟨a, b⟩, h, rfl⟩
    rw [List.mem_filter] at h
    have := of_decide_eq_true h.2
    dsimp only at this
    subst this
    exact h.1
  · intro h
    exact ⟨(κ, n), List.mem_filter.mpr ⟨h, decide_eq_true rfl⟩, rfl⟩
theorem nums_app {hs ks : Hs} {κ : L2.Key} : nums (hs ++ ks) κ = nums hs κ ++ nums ks κ := by
  unfold nums
  rw [List.filter_append, List.map_append]
theorem nums_len {hs : Hs} {κ : L2.Key} : (nums hs κ).length ≤ hs.length := by
  unfold nums
  rw [List.length_map]
  exact List.length_filter_le _ _
theorem nums_nd {hs : Hs} {κ : L2.Key} (h : hs.Nodup) : (nums hs κ).Nodup := by
  unfold nums List.Nodup
  rw [List.pairwise_map]
  refine (List.Pairwise.filter _ h).imp_of_mem fun {a b} ha hb n e => n ?_
  have h1 := of_decide_eq_true (List.mem_filter.mp ha).2
  have h2 := of_decide_eq_true (List.mem_filter.mp hb).2
  exact Prod.ext (h1.trans h2.symm) e
theorem srtI_perm (l : List Int) : (srtI l).Perm l := List.mergeSort_perm l _
theorem srtI_le (l : List Int) : (srtI l).Pairwise (· ≤ ·) := (List.pairwise_mergeSort (le := fun a b : Int => decide (a ≤ b)) (fun a b c h1 h2 => by simp only [decide_eq_true_eq] at *; omega) (fun a b => by simp only [Bool.or_eq_true, decide_eq_true_eq]; omega) l).imp fun {a b} h => by simpa using h
theorem srtI_congr {a b : List Int} (h : a.Perm b) : srtI a = srtI b := srtI_eq ((srtI_perm a).trans h) (srtI_le a)
theorem srtI_len (l : List Int) : (srtI l).length = l.length := (srtI_perm l).length_eq
theorem srtI_filter {l : List Int} {f : Int → Bool} : (srtI l).filter f = srtI (l.filter f) := srtI_eq ((srtI_perm l).filter f) ((srtI_le l).filter f)
/-- the numbers under values, as what is held wants them -/
structure Bw (us : Us) (hs : Hs) : Prop where
  once : (us.map (·.1)).Nodup
  has : ∀ κ, lg us κ = srtI (nums hs κ)
  full : ∀ u ∈ us, u.2 ≠ []
theorem Bw.nil : Bw [] [] := ⟨List.nodup_nil, fun κ => by simp [lg, lk, nums, srtI], fun u h => nomatch h⟩
section
variable {us : Us} {hs hs' : Hs} {κ : L2.Key} {n : Int}
theorem Bw.key (h : Bw us hs) : κ ∈ us.map (·.1) ↔ κ ∈ hs.map (·.1) := by
  constructor
  · intro hk
    obtain ⟨u, hu, rfl⟩ := List.mem_map.mp hk
    have e := h.has u.1
    unfold lg at e
    rw [lk_of h.once hu] at e
    have e : u.2 = srtI (nums hs u.1) := e
    obtain ⟨a, ha⟩ := List.exists_mem_of_ne_nil _ (h.full u hu)
    rw [e, (srtI_perm _).mem_iff, nums_mem] at ha
    exact List.mem_map.mpr ⟨_, ha, rfl⟩
  · intro hk
    obtain ⟨⟨a, b⟩, hb, rfl⟩ := List.mem_map.mp hk
    refine Classical.byContradiction fun z => ?_
    have e := h.has a
    unfold lg at e
    rw [lk_none z] at e
    have hm : b ∈ srtI (nums hs a) := (srtI_perm _).mem_iff.mpr (nums_mem.mpr hb)
    rw [← e] at hm
    cases hm
theorem Bw.len (h : Bw us hs) : us.length ≤ hs.length := by
  have h1 := nodup_len _ _ h.once fun κ hk => h.key.mp hk
  rwa [List.length_map, List.length_map] at h1
theorem Bw.put (h : Bw us hs) : Bw (lput us κ (srtI (lg us κ ++ [n]))) (hs ++ [(κ, n)]) := by
  refine ⟨?_, fun κ' => ?_, fun u hu => ?_⟩
  · exact lput_nd h.once
  · unfold lg
    rw [lput_at, nums_app]
    by_cases e : κ' = κ
    · subst e
      rw [if_pos rfl]
      have e1 : nums [(κ', n)] κ' = [n] := by simp [nums]
      rw [e1]
      show srtI (lg us κ' ++ [n]) = _
      rw [h.has]
      exact srtI_congr ((srtI_perm _).append_right _)
    · rw [if_neg e]
      have e1 : nums [(κ, n)] κ' = [] := by simp [nums, Ne.symm e]
      rw [e1, List.append_nil]
      exact h.has κ'
  · unfold lput at hu
    have big : srtI (lg us κ ++ [n]) ≠ [] := fun z => by
      have := congrArg List.length z
      rw [srtI_len, List.length_append] at this
      simp at this
    split at hu
    · obtain ⟨v, hv, rfl⟩ := List.mem_map.mp hu
      split
      · exact big
      · exact h.full v hv
    · rcases List.mem_append.mp hu with q | q
      · exact h.full u q
      · rw [List.mem_singleton.mp q]
        exact big
theorem nums_drop : nums (hs.filter fun x => decide (x ≠ (κ, n))) κ = (nums hs κ).filter fun m => decide (m ≠ n) := by
  unfold nums
  rw [List.filter_filter, List.filter_map, List.filter_filter]
  congr 1
  refine List.filter_congr fun x _ => ?_
  obtain ⟨a, b⟩ := x
  by_cases e : a = κ
  · subst e
    simp
  · simp [e]
theorem nums_other {κ' : L2.Key} (e : κ' ≠ κ) : nums (hs.filter fun x => decide (x ≠ (κ, n))) κ' = nums hs κ' := by
  unfold nums
  rw [List.filter_filter]
  congr 1
  refine List.filter_congr fun x _ => ?_
  obtain ⟨a, b⟩ := x
  by_cases e2 : a = κ'
  · subst e2
    simp [e]
  · simp [e2]
theorem Bw.set (h : Bw us hs) (l : List Int) (hl : l = (lg us κ).filter fun m => decide (m ≠ n)) (h0 : l ≠ []) : Bw (lput us κ l) (hs.filter fun x => decide (x ≠ (κ, n))) := by
  subst hl
  refine ⟨?_, fun κ' => ?_, fun u hu => ?_⟩
  · exact lput_nd h.once
  · unfold lg
    rw [lput_at]
    by_cases e : κ' = κ
    · subst e
      rw [if_pos rfl, nums_drop]
      show (lg us κ').filter _ = _
      rw [h.has, srtI_filter]
    · rw [if_neg e, nums_other e]
      exact h.has κ'
  · unfold lput at hu
    split at hu
    · obtain ⟨v, hv, rfl⟩ := List.mem_map.mp hu
      split
      · exact h0
      · exact h.full v hv
    · rcases List.mem_append.mp hu with q | q
      · exact h.full u q
      · rw [List.mem_singleton.mp q]
        exact h0
theorem Bw.gone (h : Bw us hs) (h0 : (lg us κ).filter (fun m => decide (m ≠ n)) = []) (l : List Int) : Bw (ldrop (lput us κ l) κ) (hs.filter fun x => decide (x ≠ (κ, n))) := by
  refine ⟨?_, fun κ' => ?_, fun u hu => ?_⟩
  · rw [ldrop_keys]
    exact List.Pairwise.filter _ (lput_nd h.once)
  · unfold lg
    rw [ldrop_at, lput_at]
    by_cases e : κ' = κ
    · subst e
      rw [if_pos rfl, nums_drop, ← srtI_filter, ← h.has, h0]
      rfl
    · rw [if_neg e, if_neg e, nums_other e]
      exact h.has κ'
  · unfold ldrop at hu
    rw [List.mem_filter] at hu
    have ne := of_decide_eq_true hu.2
    have hu := hu.1
    unfold lput at hu
    split at hu
    · obtain ⟨v, hv, rfl⟩ := List.mem_map.mp hu
      split
      · rename_i z
        rw [if_pos z] at ne
        exact absurd z ne
      · exact h.full v hv
    · rcases List.mem_append.mp hu with q | q
      · exact h.full u q
      · rw [List.mem_singleton.mp q] at ne
        exact absurd rfl ne
end


end Wk
namespace Wk
open PySem Iv
local macro_rules | `(tactic| and_intros) => `(tactic| repeat (first
  | with_reducible refine (ru_exs1).mpr ?_
  | with_reducible refine (ru_exs0).mpr ?_
  | with_reducible refine (nx_next).mpr ?_
  | with_reducible refine (nx_ret).mpr ?_
  | with_reducible refine (nx_cont).mpr ?_
  | with_reducible refine (nx_brk).mpr ?_
  | with_reducible refine (nx_raised).mpr ?_
  | with_reducible refine (run_qret).mpr ?_
  | ((with_reducible apply r_var); (· exact rfl))
  | with_reducible refine (run_qnext).mpr ?_
  | with_reducible refine (run_qraised).mpr ?_
  | with_reducible refine (turn_next).mpr ?_
  | with_reducible refine (turn_cont).mpr ?_
  | with_reducible refine (turn_brk).mpr ?_
  | with_reducible refine (turn_ret).mpr ?_
  | with_reducible refine (turn_raised).mpr ?_
  | with_reducible refine (ru_sAsg).mpr ?_
  | with_reducible refine (ru_sExpr).mpr ?_
  | with_reducible refine (ru_sIte).mpr ?_
  | with_reducible refine (ru_sRet).mpr ?_
  | with_reducible refine (ru_sRetN).mpr ?_
  | with_reducible refine (ru_sCont).mpr ?_
  | with_reducible refine (ru_sBrk).mpr ?_
  | with_reducible refine (ru_sPass).mpr ?_
  | with_reducible refine (ru_sFor).mpr ?_
  | with_reducible refine (ru_aVar).mpr ?_
  | with_reducible refine (ru_aTup).mpr ?_
  | with_reducible refine (ru_aTups).mpr ?_
  | with_reducible refine (ru_as0).mpr ?_
  | with_reducible refine (ru_as1).mpr ?_
  | with_reducible refine (ru_aIdx).mpr ?_
  | with_reducible refine (ru_aAttr).mpr ?_
  | with_reducible refine (ru_aSlc).mpr ?_
  | with_reducible refine (ru_aDidx).mpr ?_
  | with_reducible refine (ru_con).mpr ?_
  | with_reducible refine (ru_evs1).mpr ?_
  | with_reducible refine (ru_evs0).mpr ?_
  | with_reducible refine (ru_bin).mpr ?_
  | with_reducible refine (ru_cmp).mpr ?_
  | with_reducible refine (ru_call).mpr ?_
  | with_reducible refine (ru_and).mpr ?_
  | with_reducible refine (ru_or).mpr ?_
  | with_reducible refine (ru_not).mpr ?_
  | with_reducible refine (ru_ife).mpr ?_
  | with_reducible refine (ru_chain).mpr ?_
  | with_reducible refine (ru_neg).mpr ?_
  | with_reducible refine (ru_tup).mpr ?_
  | with_reducible refine (ru_lst).mpr ?_
  | with_reducible refine (ru_idx).mpr ?_
  | with_reducible refine (ru_slc).mpr ?_
  | with_reducible refine (ru_rev).mpr ?_
  | with_reducible refine (ru_lc).mpr ?_
  | with_reducible refine (ru_lc2).mpr ?_
  | with_reducible refine (ru_meth).mpr ?_
  | with_reducible refine (ru_make).mpr ?_
  | with_reducible refine (ru_attr).mpr ?_
  | with_reducible refine (ru_bi).mpr ?_
  | with_reducible refine (ru_bm).mpr ?_
  | with_reducible refine (ru_frz).mpr ?_
  | with_reducible refine (ru_isit).mpr ?_
  | with_reducible refine (ru_evp0).mpr ?_
  | with_reducible refine (ru_evp1).mpr ?_
  | with_reducible refine (ru_intR).mpr ?_
  | with_reducible refine (ru_ifs0).mpr ?_
  | with_reducible refine (ru_ifs1).mpr ?_
  | with_reducible refine (ru_itE).mpr ?_
  | with_reducible refine (ru_rng1).mpr ?_
  | with_reducible refine (ru_rng2).mpr ?_
  | with_reducible refine (ru_enum).mpr ?_
  | with_reducible refine (ru_enumS).mpr ?_
  | with_reducible refine (ru_zip).mpr ?_
  | with_reducible refine (ru_step).mpr ?_
  | with_reducible refine (ru_lcStep).mpr ?_
  | with_reducible refine (ru_lcStepB).mpr ?_
  | with_reducible refine (ru_dnew).mpr ?_
  | with_reducible refine (ru_didx).mpr ?_
  | with_reducible refine (ru_din).mpr ?_
  | with_reducible refine (ru_dget2).mpr ?_
  | with_reducible refine (ru_dpop).mpr ?_
  | with_reducible refine (ru_dsort).mpr ?_
  | with_reducible refine (ru_dcomp).mpr ?_
  | with_reducible refine (ru_lenSC).mpr ?_
  | with_reducible refine (ru_sortSC).mpr ?_
  | with_reducible refine (ru_dcStep).mpr ?_
  | with_reducible refine (ru_lenS).mpr ?_
  | with_reducible refine (ru_sortS).mpr ?_
  | with_reducible refine Ru.eq bin_addI ?_
  | with_reducible refine Ru.eq bin_subI ?_
  | with_reducible refine Ru.eq neg_I ?_
  | with_reducible refine Ru.eq tru_b ?_
  | with_reducible refine Ru.eq tru_i ?_
  | with_reducible refine Ru.eq cmp_ltI ?_
  | with_reducible refine Ru.eq cmp_leI ?_
  | with_reducible refine Ru.eq cmp_gtI ?_
  | with_reducible refine Ru.eq cmp_geI ?_
  | with_reducible refine Ru.eq cmp_eqI ?_
  | with_reducible refine Ru.eq cmp_neI ?_
  | with_reducible refine Ru.eq cmp_eqdI ?_
  | with_reducible refine Ru.eq cmp_nedI ?_
  | with_reducible refine Ru.eq cmp_eqS ?_
  | with_reducible refine Ru.eq cmp_neS ?_
  | with_reducible refine Ru.eq cmp_isN ?_
  | with_reducible refine Ru.eq cmp_notN ?_
  | with_reducible refine Ru.eq cmp_isB ?_
  | with_reducible refine Ru.eq idx_tup0 ?_
  | with_reducible refine Ru.eq idx_tup1 ?_
  | with_reducible refine Ru.eq idx_tup2 ?_
  | with_reducible refine Ru.eq idx_tup3 ?_
  | with_reducible refine Ru.eq idx_lst0 ?_
  | with_reducible refine Ru.eq idx_lst1 ?_
  | with_reducible refine Ru.eq bi_lenT ?_
  | with_reducible refine Ru.eq bi_lenL ?_
  | with_reducible refine Ru.eq bi_lenC ?_
  | with_reducible refine Ru.eq bi_lenS ?_
  | with_reducible refine Ru.eq bi_tupT ?_
  | with_reducible refine Ru.eq bi_tupL ?_
  | with_reducible refine Ru.eq bi_min2 ?_
  | with_reducible refine Ru.eq bi_max2 ?_
  | with_reducible refine Ru.eq bi_abs ?_
  | with_reducible refine Ru.eq bi_intI ?_
  | with_reducible refine Ru.eq bi_intB ?_
  | with_reducible refine Ru.eq mk_lst ?_
  | ((with_reducible apply r_sz); (· exact rfl))
  | ((with_reducible apply r_itet); (· first | exact rfl | assumption))
  | ((with_reducible apply r_itef); (· first | exact rfl | assumption))
  | ((with_reducible apply r_callR); (· exact rfl))
  | ((with_reducible apply r_tupA); (· exact rfl); (· exact rfl))
  | ((with_reducible apply r_tupsA); (· exact rfl); (· rfl); (· exact rfl); (· exact rfl))
  | ((with_reducible apply r_aug); (· exact rfl))
  | ((with_reducible apply r_modI); (· first | assumption | omega))
  | ((with_reducible apply r_mulI); (· first | exact .inr (by decide) | exact .inl (by decide) | (unfold mulOk; omega)))
  | ((with_reducible apply r_divI); (· first | assumption | omega))
  | ((with_reducible apply r_addT); (· exact rfl))
  | ((with_reducible apply r_at); (· assumption); (· exact rfl))
  | ((with_reducible apply r_atI); (· exact rfl))
  | ((with_reducible apply r_meth); (· assumption); (· exact rfl))
  | ((with_reducible apply r_methI); (· exact rfl))
  | ((with_reducible apply r_walkB); (· assumption))
  | ((with_reducible apply r_enumB); (· assumption))
  | ((with_reducible apply r_oR); (· exact rfl))
  | ((with_reducible apply r_enumR); (· exact rfl))
  | ((with_reducible apply r_enumSB); (· assumption); (· (unfold smallI; omega)))
  | ((with_reducible apply r_enumSR); (· exact rfl); (· (unfold smallI; omega)))
  | ((with_reducible apply r_rng1R); (· (unfold smallI; omega)))
  | ((with_reducible apply r_rng2R); (· (unfold smallI; omega)))
  | ((with_reducible apply r_isitR); (· exact rfl); (· exact rfl))
  | ((with_reducible apply r_isi); (· exact rfl))
  | ((with_reducible apply r_lenB); (· assumption))
  | with_reducible refine Ru.eq bi_all ?_
  | with_reducible apply r_slcL
  | with_reducible apply r_slcT
  | ((with_reducible apply r_slcB); (· assumption))
  | ((with_reducible apply r_listB); (· assumption))
  | with_reducible apply r_listL
  | with_reducible apply r_listT
  | ((with_reducible apply And.intro); (· first | exact bm_okA ‹_› | exact bm_okI ‹_› | exact bm_okR ‹_› | exact bm_okP ‹_› | exact bm_okC ‹_› | exact dct_some ‹_›))))
local macro_rules | `(tactic| subst_eqs) => `(tactic| repeat (first
  | with_reducible refine (ru_exs1).mpr ?_
  | with_reducible refine (ru_exs0).mpr ?_
  | with_reducible refine (nx_next).mpr ?_
  | with_reducible refine (nx_ret).mpr ?_
  | with_reducible refine (nx_cont).mpr ?_
  | with_reducible refine (nx_brk).mpr ?_
  | with_reducible refine (nx_raised).mpr ?_
  | with_reducible refine (run_qret).mpr ?_
  | ((with_reducible apply r_var); (· exact rfl))
  | with_reducible refine (run_qnext).mpr ?_
  | with_reducible refine (run_qraised).mpr ?_
  | with_reducible refine (turn_next).mpr ?_
  | with_reducible refine (turn_cont).mpr ?_
  | with_reducible refine (turn_brk).mpr ?_
  | with_reducible refine (turn_ret).mpr ?_
  | with_reducible refine (turn_raised).mpr ?_
  | with_reducible refine (ru_sAsg).mpr ?_
  | with_reducible refine (ru_sExpr).mpr ?_
  | with_reducible refine (ru_sRet).mpr ?_
  | with_reducible refine (ru_sRetN).mpr ?_
  | with_reducible refine (ru_sCont).mpr ?_
  | with_reducible refine (ru_sBrk).mpr ?_
  | with_reducible refine (ru_sPass).mpr ?_
  | with_reducible refine (ru_sFor).mpr ?_
  | with_reducible refine (ru_aVar).mpr ?_
  | with_reducible refine (ru_aTup).mpr ?_
  | with_reducible refine (ru_aTups).mpr ?_
  | with_reducible refine (ru_as0).mpr ?_
  | with_reducible refine (ru_as1).mpr ?_
  | with_reducible refine (ru_aIdx).mpr ?_
  | with_reducible refine (ru_aAttr).mpr ?_
  | with_reducible refine (ru_aSlc).mpr ?_
  | with_reducible refine (ru_aDidx).mpr ?_
  | with_reducible refine (ru_con).mpr ?_
  | with_reducible refine (ru_evs1).mpr ?_
  | with_reducible refine (ru_evs0).mpr ?_
  | with_reducible refine (ru_bin).mpr ?_
  | with_reducible refine (ru_cmp).mpr ?_
  | with_reducible refine (ru_call).mpr ?_
  | with_reducible refine (ru_and).mpr ?_
  | with_reducible refine (ru_or).mpr ?_
  | with_reducible refine (ru_not).mpr ?_
  | with_reducible refine (ru_ife).mpr ?_
  | with_reducible refine (ru_chain).mpr ?_
  | with_reducible refine (ru_neg).mpr ?_
  | with_reducible refine (ru_tup).mpr ?_
  | with_reducible refine (ru_lst).mpr ?_
  | with_reducible refine (ru_idx).mpr ?_
  | with_reducible refine (ru_slc).mpr ?_
  | with_reducible refine (ru_rev).mpr ?_
  | with_reducible refine (ru_lc).mpr ?_
  | with_reducible refine (ru_lc2).mpr ?_
  | with_reducible refine (ru_meth).mpr ?_
  | with_reducible refine (ru_make).mpr ?_
  | with_reducible refine (ru_attr).mpr ?_
  | with_reducible refine (ru_bi).mpr ?_
  | with_reducible refine (ru_bm).mpr ?_
  | with_reducible refine (ru_frz).mpr ?_
  | with_reducible refine (ru_isit).mpr ?_
  | with_reducible refine (ru_evp0).mpr ?_
  | with_reducible refine (ru_evp1).mpr ?_
  | with_reducible refine (ru_intR).mpr ?_
  | with_reducible refine (ru_ifs0).mpr ?_
  | with_reducible refine (ru_ifs1).mpr ?_
  | with_reducible refine (ru_itE).mpr ?_
  | with_reducible refine (ru_rng1).mpr ?_
  | with_reducible refine (ru_rng2).mpr ?_
  | with_reducible refine (ru_enum).mpr ?_
  | with_reducible refine (ru_enumS).mpr ?_
  | with_reducible refine (ru_zip).mpr ?_
  | with_reducible refine (ru_step).mpr ?_
  | with_reducible refine (ru_lcStep).mpr ?_
  | with_reducible refine (ru_lcStepB).mpr ?_
  | with_reducible refine (ru_dnew).mpr ?_
  | with_reducible refine (ru_didx).mpr ?_
  | with_reducible refine (ru_din).mpr ?_
  | with_reducible refine (ru_dget2).mpr ?_
  | with_reducible refine (ru_dpop).mpr ?_
  | with_reducible refine (ru_dsort).mpr ?_
  | with_reducible refine (ru_dcomp).mpr ?_
  | with_reducible refine (ru_lenSC).mpr ?_
  | with_reducible refine (ru_sortSC).mpr ?_
  | with_reducible refine (ru_dcStep).mpr ?_
  | with_reducible refine (ru_lenS).mpr ?_
  | with_reducible refine (ru_sortS).mpr ?_
  | with_reducible refine Ru.eq bin_addI ?_
  | with_reducible refine Ru.eq bin_subI ?_
  | with_reducible refine Ru.eq neg_I ?_
  | with_reducible refine Ru.eq tru_b ?_
  | with_reducible refine Ru.eq tru_i ?_
  | with_reducible refine Ru.eq cmp_ltI ?_
  | with_reducible refine Ru.eq cmp_leI ?_
  | with_reducible refine Ru.eq cmp_gtI ?_
  | with_reducible refine Ru.eq cmp_geI ?_
  | with_reducible refine Ru.eq cmp_eqI ?_
  | with_reducible refine Ru.eq cmp_neI ?_
  | with_reducible refine Ru.eq cmp_eqdI ?_
  | with_reducible refine Ru.eq cmp_nedI ?_
  | with_reducible refine Ru.eq cmp_eqS ?_
  | with_reducible refine Ru.eq cmp_neS ?_
  | with_reducible refine Ru.eq cmp_isN ?_
  | with_reducible refine Ru.eq cmp_notN ?_
  | with_reducible refine Ru.eq cmp_isB ?_
  | with_reducible refine Ru.eq idx_tup0 ?_
  | with_reducible refine Ru.eq idx_tup1 ?_
  | with_reducible refine Ru.eq idx_tup2 ?_
  | with_reducible refine Ru.eq idx_tup3 ?_
  | with_reducible refine Ru.eq idx_lst0 ?_
  | with_reducible refine Ru.eq idx_lst1 ?_
  | with_reducible refine Ru.eq bi_lenT ?_
  | with_reducible refine Ru.eq bi_lenL ?_
  | with_reducible refine Ru.eq bi_lenC ?_
  | with_reducible refine Ru.eq bi_lenS ?_
  | with_reducible refine Ru.eq bi_tupT ?_
  | with_reducible refine Ru.eq bi_tupL ?_
  | with_reducible refine Ru.eq bi_min2 ?_
  | with_reducible refine Ru.eq bi_max2 ?_
  | with_reducible refine Ru.eq bi_abs ?_
  | with_reducible refine Ru.eq bi_intI ?_
  | with_reducible refine Ru.eq bi_intB ?_
  | with_reducible refine Ru.eq mk_lst ?_
  | ((with_reducible apply r_sz); (· exact rfl))
  | ((with_reducible apply r_itet); (· first | exact rfl | assumption))
  | ((with_reducible apply r_itef); (· first | exact rfl | assumption))
  | ((with_reducible apply r_callR); (· exact rfl))
  | ((with_reducible apply r_tupA); (· exact rfl); (· exact rfl))
  | ((with_reducible apply r_tupsA); (· exact rfl); (· rfl); (· exact rfl); (· exact rfl))
  | ((with_reducible apply r_aug); (· exact rfl))
  | ((with_reducible apply r_modI); (· first | assumption | omega))
  | ((with_reducible apply r_mulI); (· first | exact .inr (by decide) | exact .inl (by decide) | (unfold mulOk; omega)))
  | ((with_reducible apply r_divI); (· first | assumption | omega))
  | ((with_reducible apply r_addT); (· exact rfl))
  | ((with_reducible apply r_at); (· assumption); (· exact rfl))
  | ((with_reducible apply r_atI); (· exact rfl))
  | ((with_reducible apply r_meth); (· assumption); (· exact rfl))
  | ((with_reducible apply r_methI); (· exact rfl))
  | ((with_reducible apply r_walkB); (· assumption))
  | ((with_reducible apply r_enumB); (· assumption))
  | ((with_reducible apply r_oR); (· exact rfl))
  | ((with_reducible apply r_enumR); (· exact rfl))
  | ((with_reducible apply r_enumSB); (· assumption); (· (unfold smallI; omega)))
  | ((with_reducible apply r_enumSR); (· exact rfl); (· (unfold smallI; omega)))
  | ((with_reducible apply r_rng1R); (· (unfold smallI; omega)))
  | ((with_reducible apply r_rng2R); (· (unfold smallI; omega)))
  | ((with_reducible apply r_isitR); (· exact rfl); (· exact rfl))
  | ((with_reducible apply r_isi); (· exact rfl))
  | ((with_reducible apply r_lenB); (· assumption))
  | with_reducible refine Ru.eq bi_all ?_
  | with_reducible apply r_slcL
  | with_reducible apply r_slcT
  | ((with_reducible apply r_slcB); (· assumption))
  | ((with_reducible apply r_listB); (· assumption))
  | with_reducible apply r_listL
  | with_reducible apply r_listT
  | ((with_reducible apply And.intro); (· first | exact bm_okA ‹_› | exact bm_okI ‹_› | exact bm_okR ‹_› | exact bm_okP ‹_› | exact bm_okC ‹_› | exact dct_some ‹_›))))
/-! ### bits: what the deeds do -/
set_option maxHeartbeats 400000
theorem keyD_V (κ : L2.Key) : keyD (keyV κ) = some κ := by cases κ <;> rfl
theorem keyV_ok (κ : L2.Key) : (keyV κ).fz = true ∧ (keyV κ).dp = 0 := by cases κ <;> exact ⟨by simp [keyV, D.fz], by simp [keyV, D.dp]⟩
theorem leD_int (a b : Int) : leD (.int a) (.int b) = decide (a ≤ b) := by
  have e : leD (.int a) (.int b) = !(PyProof.Rows.lexLt PyProof.Rows.itemOrd [.inl b] [.inl a]) := by
    unfold leD PySem.W.dataLe PySem.W.sortLe
    simp only [D.py, PySem.W.keyToks]
    rfl
  have e2 : PyProof.Rows.lexLt PyProof.Rows.itemOrd [.inl b] [.inl a] = decide (b < a) := by
    by_cases h : b < a
    · simp [PyProof.Rows.lexLt, PyProof.Rows.itemOrd, PyProof.Rows.itemLt, h]
    · simp [PyProof.Rows.lexLt, PyProof.Rows.itemOrd, PyProof.Rows.itemLt, h]
  rw [e, e2, Bool.eq_iff_iff, Bool.not_eq_true', decide_eq_false_iff_not, decide_eq_true_eq]
  omega
theorem sortD_ints (l : List Int) : sortD (l.map .int) = (srtI l).map .int := by
  unfold sortD srtI
  rw [List.map_mergeSort]
  intro a _ b _
  rw [leD_int]
theorem ints_ok : ∀ l : List Int, D.fzs (l.map .int) = true ∧ D.dps (l.map .int) = 0
  | [] => by simp [D.fzs, D.dps]
  | x :: xs => by
    obtain ⟨a, b⟩ := ints_ok xs
    simp [D.fzs, D.dps, D.fz, D.dp, a, b]
theorem pys_ints2 : ∀ l : List Int, D.pys (l.map .int) = l.map .int
  | [] => by simp [D.pys]
  | i :: l => by
    rw [List.map_cons, D.pys, pys_ints2 l]
    simp [D.py]
theorem ints_sortable (l : List Int) : D.fzs (l.map .int) = true ∧ D.dps (l.map .int) ≤ 60 ∧ sortable (D.pys (l.map .int)) := by
  refine ⟨(ints_ok l).1, by rw [(ints_ok l).2]; omega, ?_, .inr ?_⟩
  · rw [pys_ints2]
    intro d hd d' hd'
    obtain ⟨i, _, rfl⟩ := List.mem_map.mp hd
    obtain ⟨j, _, rfl⟩ := List.mem_map.mp hd'
    rfl
  · rw [pys_ints2]
    intro d hd
    obtain ⟨i, _, rfl⟩ := List.mem_map.mp hd
    exact ⟨fun z => (nomatch z), fun xs z => (nomatch z)⟩
theorem any_int {l : List Int} {a : Int} : ((l.map D.int).any fun z => z.eqv (.int a)) = decide (a ∈ l) := by
  rw [List.any_map, Bool.eq_iff_iff, List.any_eq_true, decide_eq_true_eq]
  constructor
  · rintro ⟨z, hz, e⟩
    have e : (D.int z).eqv (.int a) = true := e
    rw [eqv_int, beq_iff_eq] at e
    exact e ▸ hz
  · intro h
    exact ⟨a, h, by show (D.int a).eqv (.int a) = true; rw [eqv_int, beq_iff_eq]⟩
theorem intsD_id : ∀ l : List Int, intsD (l.map .int) = some l
  | [] => rfl
  | x :: l => by rw [List.map_cons, intsD, intsD_id l]; rfl
theorem enc_getD {us : Us} {κ : L2.Key} : (dGet (enc us) κ).getD (.lst []) = dI (lg us κ) := by
  rw [enc_get]
  unfold lg
  cases lk us κ <;> rfl
structure Bts (S : Sto) (p d : Nat) (w : Int) (us : Us) : Prop where
  own : cellAt S p = some (.ins 0 [(1, .int w), (0, .ref d)])
  dct : cellAt S d = some (.dct (enc us))
  ne : p ≠ d
def pgs (us : Us) (w : Int) (κ : L2.Key) : List Int := srtI (nubK ((lg us κ).map fun n => (n - 1) / w))
section
variable {k p d : Nat} {w n : Int} {us : Us} {κ : L2.Key} {S : Sto} {bs : List Nat} {Q : D → Sto → Prop} {E : Exc → Sto → Prop}
theorem Bts.keep {S' : Sto} (h : Bts S p d w us) (kp : Keep bs S S') (hp : p ∉ bs) (hd : d ∉ bs) : Bts S' p d w us :=
  ⟨(kp.eq p (cellAt_lt h.own) hp).trans h.own, (kp.eq d (cellAt_lt h.dct) hd).trans h.dct, h.ne⟩
theorem binit_ru (h : cellAt S p = some (.ins 0 [])) (q : ∀ S' d, d ≠ p → S.length ≤ d → Bts S' p d w [] → Keep [p] S S' → Q .non S') : Ru (callN Tb (k + 1) 0 [.ref p, .int w] S) Q E := by
  refine Ru.def (fn := ⟨2, 2, p_Bits_init⟩) rfl rfl ?_; simp only [List.map_cons, List.map_nil, List.length_cons, List.length_nil, Nat.reduceAdd, Nat.reduceSub, List.replicate_succ, List.replicate_zero, List.cons_append, List.nil_append]
  and_intros
  refine r_put h (by decide) (by decide) fun S1 l1 c1 k1 => ?_
  and_intros
  have lp : p < S1.length := cellAt_lt c1
  have kx : Keep [] S1 (S1 ++ [some (.dct [])]) := Keep.push
  have c2 : cellAt (S1 ++ [some (.dct [])]) p = some (.ins 0 (putFd 1 (.int w) [])) := (kx.eq p lp (by simp)).trans c1
  have c3 : cellAt (S1 ++ [some (.dct [])]) S1.length = some (.dct []) := cell_push
  generalize S1 ++ [some (.dct [])] = S2 at kx c2 c3
  refine r_put c2 (by decide) (by simp [putFd]) fun S3 l3 c4 k3 => ?_
  and_intros
  refine q S3 S1.length (by omega) (by omega) ⟨c4, (k3.eq _ (cellAt_lt c3) (by simp; omega)).trans c3, by omega⟩ ?_
  exact (k1.trans (kx.mono (by simp))).trans k3
theorem page_ru (h : Bts S p d w us) (hw : 0 < w ∧ w < 1073741824) (q : Q (.int ((n - 1) / w)) S) : Ru (callN Tb (k + 1) 1 [.ref p, .int n] S) Q E := by
  have h1 := h.own
  refine Ru.def (fn := ⟨2, 2, p_Bits_page_of⟩) rfl rfl ?_; simp only [List.map_cons, List.map_nil, List.length_cons, List.length_nil, Nat.reduceAdd, Nat.reduceSub, List.replicate_succ, List.replicate_zero, List.cons_append, List.nil_append]
  and_intros
  exact q
theorem pages_ru (h : Bts S p d w us) (hw : 0 < w ∧ w < 1073741824) (hl : (lg us κ).length < 64) (q : Q (dI (pgs us w κ)) S) : Ru (callN Tb (k + 2) 2 [.ref p, keyV κ] S) Q E := by
  have h1 := h.own
  have h2 := h.dct
  refine Ru.def (fn := ⟨2, 3, p_Bits_pages_at⟩) rfl rfl ?_; simp only [List.map_cons, List.map_nil, List.length_cons, List.length_nil, Nat.reduceAdd, Nat.reduceSub, List.replicate_succ, List.replicate_zero, List.cons_append, List.nil_append]
  and_intros
  refine r_dget2 h2 (keyD_V κ) ?_
  rw [enc_getD]
  and_intros
  refine Ru.lcm (enc := D.int) (f := fun n => [.int ((n - 1) / w)]) trivial (fun n hn => ?_) ?_
  · and_intros
    refine page_ru h hw ?_
    exact ⟨rfl, rfl⟩
  · have e : ∀ l : List Int, (l.flatMap fun n => [D.int ((n - 1) / w)]) = (l.map fun n => (n - 1) / w).map .int := by
      intro l
      induction l with
      | nil => rfl
      | cons x l ih => rw [List.flatMap_cons, ih]; rfl
    rw [e]
    refine r_sortSC (intsD_id _) (by rw [List.length_map, List.length_map]; exact hl) ?_
    exact q
theorem bput_ru (h : Bts S p d w us) (hw : 0 < w ∧ w < 1073741824) (hl : (lg us κ).length < 63) (hu : us.length < 1000) (q : ∀ S', Bts S' p d w (lput us κ (srtI (lg us κ ++ [n]))) → Keep [d] S S' → Q (.int (1 + if decide ((n - 1) / w ∈ pgs us w κ) = true then 1 else 0)) S') :
    Ru (callN Tb (k + 3) 3 [.ref p, keyV κ, .int n] S) Q E := by
  have h1 := h.own
  have h2 := h.dct
  refine Ru.def (fn := ⟨3, 4, p_Bits_put⟩) rfl rfl ?_; simp only [List.map_cons, List.map_nil, List.length_cons, List.length_nil, Nat.reduceAdd, Nat.reduceSub, List.replicate_succ, List.replicate_zero, List.cons_append, List.nil_append]
  and_intros
  refine page_ru h hw ?_
  and_intros
  refine pages_ru h hw (by omega) ?_
  and_intros
  have pl : (pgs us w κ).length ≤ 63 := by
    unfold pgs
    rw [srtI_len]
    have := dups_le _ ((lg us κ).map fun n => (n - 1) / w) (Nat.le_refl _)
    rw [List.length_map] at this
    exact Nat.le_trans this (by omega)
  refine (ru_in (ys := (pgs us w κ).map .int) rfl (by intro z e; cases e)).mpr ⟨⟨by simp [D.fz], by simp [D.dp], (ints_ok _).1, by rw [(ints_ok _).2]; omega⟩, ?_⟩
  rw [any_int]
  and_intros
  refine r_dget2 h2 (keyD_V κ) ?_
  rw [enc_getD]
  and_intros
  refine r_addL (by rw [List.length_map]; simp only [List.length_cons, List.length_nil]; omega) ?_
  and_intros
  have e : (lg us κ).map D.int ++ [D.int n] = (lg us κ ++ [n]).map .int := by rw [List.map_append]; rfl
  rw [e]
  refine r_sortL (ints_sortable _) ?_
  rw [sortD_ints]
  and_intros
  refine r_dput h2 (keyD_V κ) (by rw [enc_len]; exact hu) fun S' l' c' k' => ?_
  and_intros
  rw [enc_put] at c'
  exact q S' ⟨(k'.eq p (cellAt_lt h1) (by simp; exact h.ne)).trans h1, c', h.ne⟩ k'
theorem bdrop_ru (h : Bts S p d w us) (hk : ∃ l, lk us κ = some l) (hl : (lg us κ).length < 64) (hu : us.length < 1000)
    (q : ∀ S' us', us' = (if (lg us κ).filter (fun m => decide (m ≠ n)) = [] then ldrop (lput us κ []) κ else lput us κ ((lg us κ).filter fun m => decide (m ≠ n))) → Bts S' p d w us' → Keep [d] S S' → Q (.int 2) S') :
    Ru (callN Tb (k + 1) 4 [.ref p, keyV κ, .int n] S) Q E := by
  have h1 := h.own
  have h2 := h.dct
  obtain ⟨l, hk⟩ := hk
  have hg : dGet (enc us) κ = some (dI l) := by rw [enc_get, hk]; rfl
  have eg : lg us κ = l := by unfold lg; rw [hk]; rfl
  rw [eg] at q hl
  refine Ru.def (fn := ⟨3, 4, p_Bits_drop⟩) rfl rfl ?_; simp only [List.map_cons, List.map_nil, List.length_cons, List.length_nil, Nat.reduceAdd, Nat.reduceSub, List.replicate_succ, List.replicate_zero, List.cons_append, List.nil_append]
  and_intros
  refine r_didx h2 (keyD_V κ) hg ?_
  and_intros
  refine Ru.lcm (enc := D.int) (f := fun m => if decide (m ≠ n) = true then [.int m] else []) trivial (fun m hm => ?_) ?_
  · and_intros
    by_cases e : m = n
    · subst e
      rw [show (!(m == m)) = false by simp]
      and_intros
      exact ⟨by simp, rfl⟩
    · rw [show (!(m == n)) = true by simp [e]]
      and_intros
      exact ⟨by simp [e], rfl⟩
  · have ef : ∀ l : List Int, (l.flatMap fun m => if decide (m ≠ n) = true then [D.int m] else []) = (l.filter fun m => decide (m ≠ n)).map .int := by
      intro l
      induction l with
      | nil => rfl
      | cons x l ih =>
        rw [List.flatMap_cons, ih]
        by_cases e : x = n
        · simp [e]
        · simp [e]
    rw [ef]
    have fl := List.length_filter_le (fun m => decide (m ≠ n)) l
    refine ⟨by rw [List.length_map]; exact sz_le (by omega), ?_⟩
    generalize l.filter (fun m => decide (m ≠ n)) = l' at q fl
    and_intros
    refine r_dput h2 (keyD_V κ) (by rw [enc_len]; exact hu) fun S1 l1 c1 k1 => ?_
    rw [enc_put] at c1
    have o1 := (k1.eq p (cellAt_lt h1) (by simp; exact h.ne)).trans h1
    have g1 : dGet (enc (lput us κ l')) κ = some (dI l') := by rw [enc_get, lput_at, if_pos rfl]; rfl
    and_intros
    refine r_didx c1 (keyD_V κ) g1 ?_
    and_intros
    refine (ru_eq (by rw [D.fz]; exact (ints_ok _).1) nil_ok.1).mpr ⟨⟨by rw [D.dp, (ints_ok _).2]; omega, nil_ok.2⟩, ?_⟩
    rw [eqv_nil]
    cases l' with
    | nil =>
      and_intros
      refine r_dpop c1 (keyD_V κ) g1 fun S2 l2 c2 k2 => ?_
      and_intros
      rw [enc_drop] at c2
      exact q S2 _ (by rw [if_pos rfl]) ⟨(k2.eq p (cellAt_lt o1) (by simp; exact h.ne)).trans o1, c2, h.ne⟩ (k1.trans k2)
    | cons x l' =>
      and_intros
      exact q S1 _ (by rw [if_neg (by simp)]) ⟨o1, c1, h.ne⟩ k1
theorem bfound_ru (h : Bts S p d w us) (hw : 0 < w ∧ w < 1073741824) (hl : (lg us κ).length < 64) (q : ∀ S' b, b = S.length → cellAt S' b = some (.lst ((lg us κ).map .int)) → Keep [] S S' → Q (.tup [.ref b, .int (pgs us w κ).length]) S') :
    Ru (callN Tb (k + 3) 5 [.ref p, keyV κ] S) Q E := by
  have h1 := h.own
  have h2 := h.dct
  refine Ru.def (fn := ⟨2, 2, p_Bits_found⟩) rfl rfl ?_; simp only [List.map_cons, List.map_nil, List.length_cons, List.length_nil, Nat.reduceAdd, Nat.reduceSub, List.replicate_succ, List.replicate_zero, List.cons_append, List.nil_append]
  and_intros
  refine r_dget2 h2 (keyD_V κ) ?_
  rw [enc_getD]
  and_intros
  refine r_new fun S1 b hb c1 k1 => ?_
  have h' := h.keep k1 (by simp) (by simp)
  have h1' := h'.own
  and_intros
  refine pages_ru h' hw hl ?_
  and_intros
  rw [List.length_map]
  exact q S1 b hb c1 k1
end
/-! the values, rising -/
def kindK (w : Bool) : L2.Key → Prop
  | .inl _ => w = false
  | .inr _ => w = true
def Kept (hs : Hs) (ks : List D) : Prop := (∃ is : List Int, hs.map (·.1) = is.map Sum.inl ∧ ks = (srtI (nubK is)).map .int) ∨ (∃ (z : Str) (zs : List Str), hs.map (·.1) = (z :: zs).map Sum.inr ∧ ks = (srtS (nubK (z :: zs))).map .str)
theorem kd_ints {ks : List L2.Key} (h : ∀ k ∈ ks, kindK false k) : ∃ is : List Int, ks = is.map Sum.inl := by
  induction ks with
  | nil => exact ⟨[], rfl⟩
  | cons k ks ih =>
    obtain ⟨is, e⟩ := ih fun k hk => h k (List.mem_cons_of_mem _ hk)
    have hk := h k (List.mem_cons_self ..)
    cases k with
    | inl i => exact ⟨i :: is, by rw [e]; rfl⟩
    | inr x => cases hk
theorem kd_strs {ks : List L2.Key} (h : ∀ k ∈ ks, kindK true k) : ∃ is : List Str, ks = is.map Sum.inr := by
  induction ks with
  | nil => exact ⟨[], rfl⟩
  | cons k ks ih =>
    obtain ⟨is, e⟩ := ih fun k hk => h k (List.mem_cons_of_mem _ hk)
    have hk := h k (List.mem_cons_self ..)
    cases k with
    | inr i => exact ⟨i :: is, by rw [e]; rfl⟩
    | inl x => cases hk
theorem enc_ints : ∀ {us : Us} {ns : List Int}, us.map (·.1) = ns.map Sum.inl → intKs (enc us) = some ns
  | [], [], _ => rfl
  | [], _ :: _, h => nomatch h
  | _ :: _, [], h => nomatch h
  | (k, l) :: us, n :: ns, h => by
    rw [List.map_cons, List.map_cons] at h
    injection h with h1 h2
    have h1 : k = Sum.inl n := h1
    subst h1
    show (intKs (enc us)).map (n :: ·) = _
    rw [enc_ints h2]
    rfl
theorem enc_strs : ∀ {us : Us} {ns : List Str}, us.map (·.1) = ns.map Sum.inr → strKs (enc us) = some ns
  | [], [], _ => rfl
  | [], _ :: _, h => nomatch h
  | _ :: _, [], h => nomatch h
  | (k, l) :: us, n :: ns, h => by
    rw [List.map_cons, List.map_cons] at h
    injection h with h1 h2
    have h1 : k = Sum.inr n := h1
    subst h1
    show (strKs (enc us)).map (n :: ·) = _
    rw [enc_strs h2]
    rfl
theorem inl_nd {l : List Int} (h : (l.map (Sum.inl : Int → L2.Key)).Nodup) : l.Nodup := by
  unfold List.Nodup at h ⊢
  rw [List.pairwise_map] at h
  exact h.imp fun n e => n (by rw [e])
theorem inr_nd {l : List Str} (h : (l.map (Sum.inr : Str → L2.Key)).Nodup) : l.Nodup := by
  unfold List.Nodup at h ⊢
  rw [List.pairwise_map] at h
  exact h.imp fun n e => n (by rw [e])
theorem nubI_nd (l : List Int) : (nubK l).Nodup := dups_nd _ l (Nat.le_refl _)
theorem nubS_nd (l : List Str) : (nubK l).Nodup := dups_nd _ l (Nat.le_refl _)
open PySem.Spec PyProof.Rows L2 in
theorem rising_of : ∀ (l : List Str) (p : Str), (p :: l).Pairwise (fun a b => ¬ b.cps.toList < a.cps.toList) → risingS p l = true
  | [], _, _ => rfl
  | x :: r, p, h => by
    obtain ⟨h1, h2⟩ := List.pairwise_cons.mp h
    show (!ltCps x.cps.toList p.cps.toList && risingS x r) = true
    rw [rising_of r x h2, Bool.and_true]
    have hx := h1 x (List.mem_cons_self ..)
    rw [PyProof.Rows.ltCps_eq]
    simpa using hx
open PySem.Spec PyProof.Rows L2 in
theorem srtS_sorted (l : List Str) : sortedS (srtS l) = true := by
  have w : (srtS l).Pairwise (fun a b => ¬ b.cps.toList < a.cps.toList) := (List.pairwise_mergeSort (le := fun a b : Str => !decide (b.cps.toList < a.cps.toList)) (fun a b c h1 h2 => by
      simp only [Bool.not_eq_true', decide_eq_false_iff_not] at *
      exact fun z => h1 (Std.lt_of_le_of_lt (Std.not_lt.mp h2) z)) (fun a b => by
      simp only [Bool.or_eq_true, Bool.not_eq_true', decide_eq_false_iff_not]
      exact str_le_total _ _) l).imp fun {a b} h => by simpa using h
  cases e : srtS l with
  | nil => rfl
  | cons x r =>
    rw [e] at w
    exact rising_of r x w
theorem srtS_congr {a b : List Str} (h : a.Perm b) : (srtS a).Perm b := (List.mergeSort_perm a _).trans h
section
variable {k p d : Nat} {w : Int} {wk : Bool} {us : Us} {hs : Hs} {S : Sto} {Q : D → Sto → Prop} {E : Exc → Sto → Prop}
theorem bkept_ru (h : Bts S p d w us) (B : Bw us hs) (kd : ∀ x ∈ hs, kindK wk x.1) (hl : hs.length < 64) (q : ∀ ks S' b, Kept hs ks → b = S.length → cellAt S' b = some (.lst ks) → Keep [] S S' → Q (.ref b) S') :
    Ru (callN Tb (k + 1) 6 [.ref p] S) Q E := by
  have h1 := h.own
  have h2 := h.dct
  have ul := B.len
  have kdk : ∀ κ ∈ hs.map (·.1), kindK wk κ := fun κ hκ => by
    obtain ⟨x, hx, rfl⟩ := List.mem_map.mp hκ
    exact kd x hx
  have ukk : ∀ κ ∈ us.map (·.1), kindK wk κ := fun κ hκ => kdk κ (B.key.mp hκ)
  refine Ru.def (fn := ⟨1, 1, p_Bits_kept⟩) rfl rfl ?_; simp only [List.map_cons, List.map_nil, List.length_cons, List.length_nil, Nat.reduceAdd, Nat.reduceSub, List.replicate_succ, List.replicate_zero, List.cons_append, List.nil_append]
  and_intros
  cases wk with
  | false =>
    obtain ⟨is, e1⟩ := kd_ints kdk
    obtain ⟨ns, e2⟩ := kd_ints ukk
    have nn : ns.length = us.length := by have := congrArg List.length e2; rw [List.length_map, List.length_map] at this; exact this.symm
    have eq : srtI ns = srtI (nubK is) := by
      refine srtI_congr ((List.perm_ext_iff_of_nodup (inl_nd (by rw [← e2]; exact B.once)) (nubI_nd is)).mpr fun i => ?_)
      have := B.key (κ := Sum.inl i)
      rw [e1, e2] at this
      show i ∈ ns ↔ i ∈ is.eraseDups
      rw [List.mem_eraseDups]
      simpa using this
    refine r_dsortI h2 (enc_ints e2) (by omega) ?_
    refine r_new fun S' b hb c1 k1 => ?_
    and_intros
    exact q _ S' b (.inl ⟨is, e1, rfl⟩) hb (by rw [← eq]; exact c1) k1
  | true =>
    obtain ⟨is, e1⟩ := kd_strs kdk
    obtain ⟨ns, e2⟩ := kd_strs ukk
    have nn : ns.length = us.length := by have := congrArg List.length e2; rw [List.length_map, List.length_map] at this; exact this.symm
    have mm : ∀ x, x ∈ ns ↔ x ∈ is := fun x => by
      have := B.key (κ := Sum.inr x)
      rw [e1, e2] at this
      simpa using this
    have nd : ns.Nodup := inr_nd (by rw [← e2]; exact B.once)
    cases ns with
    | nil =>
      have e3 : us = [] := by cases us with | nil => rfl | cons u us => cases e2
      have e4 : is = [] := by
        cases is with
        | nil => rfl
        | cons z zs => exact absurd ((mm z).mpr (List.mem_cons_self ..)) (by simp)
      subst e3 e4
      refine r_dsortI (ns := []) h2 rfl (by decide) ?_
      refine r_new fun S' b hb c1 k1 => ?_
      and_intros
      exact q _ S' b (.inl ⟨[], e1, rfl⟩) hb (by have e : (srtI ([] : List Int)).map D.int = (srtI (nubK ([] : List Int))).map D.int := rfl
                                                 rw [← e]; exact c1) k1
    | cons n0 ns =>
      cases is with
      | nil => exact absurd ((mm n0).mp (List.mem_cons_self ..)) (by simp)
      | cons z zs =>
        have pm : (n0 :: ns).Perm (nubK (z :: zs)) := (List.perm_ext_iff_of_nodup nd (nubS_nd _)).mpr fun x => by
          show x ∈ n0 :: ns ↔ x ∈ (z :: zs).eraseDups
          rw [List.mem_eraseDups]
          exact mm x
        have h0 : intKs (enc us) = none := by
          cases us with
          | nil => cases e2
          | cons u us =>
            rw [List.map_cons, List.map_cons] at e2
            injection e2 with e3 _
            obtain ⟨u1, u2⟩ := u
            have e3 : u1 = Sum.inr n0 := e3
            subst e3
            rfl
        refine r_dsortS h2 h0 (enc_strs e2) (by omega) ?_
        refine r_new fun S' b hb c1 k1 => ?_
        and_intros
        have eq : srtS (n0 :: ns) = srtS (nubK (z :: zs)) := (srtS_eq (ns := n0 :: ns) (srtS_congr pm.symm) (srtS_sorted _)).symm
        exact q _ S' b (.inr ⟨z, zs, e1, rfl⟩) hb (by rw [← eq]; exact c1) k1
theorem lkept_ru {ks : List D} (h : Kept hs ks) (hl : hs.length < 64) {o : Option (List D)} (ho : o = some ((hs.map (·.1)).map keyV)) (q : Q (.lst ks) S) : Ru (sortSR o S) Q E := by
  rcases h with ⟨is, e, rfl⟩ | ⟨z, zs, e, rfl⟩
  · have nn : is.length = hs.length := by have := congrArg List.length e; rw [List.length_map, List.length_map] at this; exact this.symm
    refine r_sortSI (ns := is) ?_ (by omega) q
    rw [ho, e, List.map_map]
    rfl
  · have nn : (z :: zs).length = hs.length := by have := congrArg List.length e; rw [List.length_map, List.length_map] at this; exact this.symm
    refine r_sortSS (z := z) (zs := zs) ?_ (by omega) q
    rw [ho, e, List.map_map]
    rfl
end


end Wk
namespace Wk
open PySem Iv
/-! ### what the programs tell -/
def BagAt (S : Sto) (b : Nat) : Prop := ∃ g r : Int, cellAt S b = some (.lst [.int g, .int r]) ∧ 0 ≤ g ∧ 0 ≤ r ∧ r < 2147483647
theorem BagAt.keep {S S' : Sto} {b : Nat} {bs : List Nat} (h : BagAt S b) (k : Keep bs S S') (n : b ∉ bs) : BagAt S' b := by
  obtain ⟨g, r, e, q⟩ := h
  exact ⟨g, r, (k.eq b (cellAt_lt e) n).trans e, q⟩
theorem BagAt.lt {S : Sto} {b : Nat} (h : BagAt S b) : b < S.length := by
  obtain ⟨g, r, e, q⟩ := h
  exact cellAt_lt e
theorem take_ok {k b : Nat} {n : Int} {S : Sto} (hb : BagAt S b) (n0 : 0 < n) (n1 : n < 1073741824) : ∃ (d : Int) (S' : Sto), callN Tb (k + 1) 8 [.ref b, .int n] S = .ok (.int d) S' ∧ 0 ≤ d ∧ d < n ∧ Keep [b] S S' ∧ BagAt S' b := by
  obtain ⟨g, r, e, g0, r0, r1⟩ := hb
  have hl := cellAt_lt e
  rw [callN_at (d := ⟨2, 3, p_l_take⟩) rfl rfl]
  unfold Iv.run
  by_cases hg : 0 < g
  · simp [exs, ex, ev, asg, tru, truR, cmpR, idxR, seqOf, e, atD, binR, sidxR, hg, n0, n1, ck]
    exact ⟨_, _, ⟨rfl, rfl⟩, Int.emod_nonneg _ (by omega), Int.emod_lt_of_pos _ n0, Keep.set, _, _, cellAt_set1 hl, Int.ediv_nonneg g0 (by omega), r0, r1⟩
  · have m1 : mulOk r 48271 := .inr ⟨by omega, by omega⟩
    have m2 : ((r * 48271 + 11) % 2147483647 / 8).natAbs < 18446744073709551616 := by omega
    simp [exs, ex, ev, asg, tru, truR, cmpR, idxR, seqOf, e, atD, binR, addR, sidxR, hg, n0, n1, ck, m1, m2, cellAt_set1 hl]
    exact ⟨_, _, ⟨rfl, rfl⟩, Int.emod_nonneg _ (by omega), Int.emod_lt_of_pos _ n0, Keep.set, _, _, cellAt_set1 hl, g0, by omega, by omega⟩
theorem idx_ints {c : Int} {S : Sto} (l : List Int) (h0 : 0 ≤ c) (h1 : c < l.length) : ∃ q, q ∈ l ∧ idxR (.tup (l.map .int)) (.int c) S = .ok (.int q) S := by
  have hc : c.toNat < l.length := by omega
  refine ⟨l[c.toNat], List.getElem_mem hc, ?_⟩
  have e : (l.map D.int)[c.toNat]? = some (.int l[c.toNat]) := by rw [List.getElem?_map, List.getElem?_eq_getElem hc]; rfl
  show (match (if 0 ≤ c then (l.map D.int)[c.toNat]? else _) with | some d => R.ok d S | none => .err) = _
  rw [if_pos h0, e]
section
variable {k b vb : Nat} {n : Int} {ρ : Iv.Env} {S S1 : Sto} {e : E}
theorem ev_take (hv : ρ[vb]? = some (some (.ref b))) (he : ev (callN Tb (k + 1)) e ρ S = .ok (.int n) S1) (hb : BagAt S1 b) (n0 : 0 < n) (n1 : n < 1073741824) :
    ∃ d S', ev (callN Tb (k + 1)) (.call 8 [.a 0, .a 1] [.var vb, e]) ρ S = .ok (.int d) S' ∧ 0 ≤ d ∧ d < n ∧ Keep [b] S1 S' ∧ BagAt S' b := by
  obtain ⟨d, S', h, d0, d1, kp, bg⟩ := take_ok (k := k) hb n0 n1
  refine ⟨d, S', (ev_call1 (ds := [.ref b, .int n]) (S1 := S1) ?_ rfl).trans h, d0, d1, kp, bg⟩
  rw [evs2, ev_var hv, R.bind_ok, he]
  rfl
theorem ev_int {i : Int} {F : CE} : ev F (.con (.int i)) ρ S = .ok (.int i) S := by rw [ev]
theorem ev_ixt {F : CE} {c : Int} {q : Int} (l : List Int) {es : List E} (he : evs F es ρ S = .ok (l.map .int) S) (hl : l.length ≤ 1000) (hi : ev F e ρ S = .ok (.int c) S1) (hq : idxR (.tup (l.map .int)) (.int c) S1 = .ok (.int q) S1) : ev F (.idx (.tup es) e) ρ S = .ok (.int q) S1 := by
  refine (ev_idx (x := .tup (l.map .int)) (y := .int c) (S1 := S) (S2 := S1) ?_ hi).trans hq
  rw [ev, he, R.bind_ok]
  exact ck_of (by rw [List.length_map]; exact Nat.le_trans hl (by decide))
end


end Wk
namespace Wk
open PySem Iv
/-! ### a bag (the script's cell by its place) -/
theorem bag_ok {k : Nat} {ns : List Int} {i : Int} {S : Sto} (i0 : 0 ≤ i) (i1 : i < 1000) : ∃ (c : Cell), callN Tb (k + 1) 7 [.scr (ns.map .int), .int i] S = .ok (.ref S.length) (S ++ [some c]) ∧ BagAt (S ++ [some c]) S.length := by
  rw [callN_at (d := ⟨2, 5, p_l_bag⟩) rfl rfl]
  obtain ⟨cell, h2⟩ : ∃ cell : Int, ex (callN Tb k) (p_l_bag.getD 1 .pass) [some (.scr (ns.map .int)), some (.int i), some (.int 0), none, none] S = .ok (.next [some (.scr (ns.map .int)), some (.int i), some (.int cell), none, none]) S := by
    by_cases h : i < ns.length
    · have e3 : i.toNat < ns.length := by omega
      simp [exs, ex, ev, evs, evp, evIt, evIfs, asg, asgs, tru, truR, cmpR, idxR, seqOf, atD, binR, addR, sidxR, biR, biLen, lenR, biAbs, biMin2, biMax2, biInt, biTuple, biList, ck, mkL, walkOf, walkL, callR, pick, h, i0, List.getElem?_eq_getElem e3]
    · simp [exs, ex, ev, evs, evp, evIt, evIfs, asg, asgs, tru, truR, cmpR, idxR, seqOf, atD, binR, addR, sidxR, biR, biLen, lenR, biAbs, biMin2, biMax2, biInt, biTuple, biList, ck, mkL, walkOf, walkL, callR, pick, h]
  obtain ⟨great, hg, h4⟩ : ∃ great : Int, 0 ≤ great ∧ ex (callN Tb k) (p_l_bag.getD 3 .pass) [some (.scr (ns.map .int)), some (.int i), some (.int cell), some (.int 0), none] S = .ok (.next [some (.scr (ns.map .int)), some (.int i), some (.int cell), some (.int great), none]) S := by
    by_cases h : 1000000000000000000 ≤ (if cell < 0 then -cell else cell)
    · refine ⟨if cell < 0 then -cell else cell, by split <;> omega, ?_⟩
      simp [exs, ex, ev, evs, evp, evIt, evIfs, asg, asgs, tru, truR, cmpR, idxR, seqOf, atD, binR, addR, sidxR, biR, biLen, lenR, biAbs, biMin2, biMax2, biInt, biTuple, biList, ck, mkL, walkOf, walkL, callR, pick, h]
    · refine ⟨0, by omega, ?_⟩
      simp [exs, ex, ev, evs, evp, evIt, evIfs, asg, asgs, tru, truR, cmpR, idxR, seqOf, atD, binR, addR, sidxR, biR, biLen, lenR, biAbs, biMin2, biMax2, biInt, biTuple, biList, ck, mkL, walkOf, walkL, callR, pick, h]
  have c0 : 0 ≤ cell % 2147483647 := Int.emod_nonneg _ (by omega)
  have c1 : cell % 2147483647 < 2147483647 := Int.emod_lt_of_pos _ (by omega)
  have m1 : mulOk 104729 i := .inl ⟨by omega, by omega⟩
  have m2 : (cell % 2147483647 + 104729 * i + 7).natAbs < 18446744073709551616 := by omega
  have i8 : 0 ≤ i % 8 ∧ i % 8 < 8 := ⟨Int.emod_nonneg _ (by omega), Int.emod_lt_of_pos _ (by omega)⟩
  obtain ⟨p, hp, p0, p1⟩ : ∃ p : Int, ([2147483629, 2147483587, 2147483579, 2147483563, 2147483549, 2147483543, 2147483497, 2147483489] : List Int)[(i % 8).toNat]? = some p ∧ 0 < p ∧ p < 2147483647 := by
    have : (i % 8).toNat < 8 := by omega
    generalize (i % 8).toNat = j at this
    match j, this with
    | 0, _ => exact ⟨_, rfl, by omega, by omega⟩
    | 1, _ => exact ⟨_, rfl, by omega, by omega⟩
    | 2, _ => exact ⟨_, rfl, by omega, by omega⟩
    | 3, _ => exact ⟨_, rfl, by omega, by omega⟩
    | 4, _ => exact ⟨_, rfl, by omega, by omega⟩
    | 5, _ => exact ⟨_, rfl, by omega, by omega⟩
    | 6, _ => exact ⟨_, rfl, by omega, by omega⟩
    | 7, _ => exact ⟨_, rfl, by omega, by omega⟩
    | j + 8, h => omega
  have hp' : ([.int 2147483629, .int 2147483587, .int 2147483579, .int 2147483563, .int 2147483549, .int 2147483543, .int 2147483497, .int 2147483489] : List D)[(i % 8).toNat]? = some (.int p) := by
    have := congrArg (Option.map D.int) hp
    rw [← List.getElem?_map] at this
    exact this
  have hq : ∀ h, ([.int 2147483629, .int 2147483587, .int 2147483579, .int 2147483563, .int 2147483549, .int 2147483543, .int 2147483497, .int 2147483489] : List D)[(i % 8).toNat]'h = .int p := fun h => (List.getElem?_eq_some_iff.mp hp').2
  have sz : (8 : Nat) ≤ sizeLine ∧ (2 : Nat) ≤ sizeLine := by decide
  refine ⟨.lst [.int great, .int ((cell % 2147483647 + 104729 * i + 7) ^ 5 % p)], run_ret ?_, great, _, cellAt_push, hg, Int.emod_nonneg _ (by omega), Int.lt_trans (Int.emod_lt_of_pos _ p0) p1⟩
  refine (exs_next (ρ' := [some (.scr (ns.map .int)), some (.int i), some (.int 0), none, none]) (S' := S) (by simp [exs, ex, ev, evs, evp, evIt, evIfs, asg, asgs, tru, truR, cmpR, idxR, seqOf, atD, binR, addR, sidxR, biR, biLen, lenR, biAbs, biMin2, biMax2, biInt, biTuple, biList, ck, mkL, walkOf, walkL, callR, pick])).trans ?_
  refine (exs_next h2).trans ?_
  refine (exs_next (ρ' := [some (.scr (ns.map .int)), some (.int i), some (.int cell), some (.int 0), none]) (S' := S) (by simp [exs, ex, ev, evs, evp, evIt, evIfs, asg, asgs, tru, truR, cmpR, idxR, seqOf, atD, binR, addR, sidxR, biR, biLen, lenR, biAbs, biMin2, biMax2, biInt, biTuple, biList, ck, mkL, walkOf, walkL, callR, pick])).trans ?_
  refine (exs_next h4).trans ?_
  simp [exs, ex, ev, evs, evp, evIt, evIfs, asg, asgs, tru, truR, cmpR, idxR, seqOf, atD, binR, addR, sidxR, biR, biLen, lenR, biAbs, biMin2, biMax2, biInt, biTuple, biList, ck, mkL, walkOf, walkL, callR, pick, sz, m1, m2, i8, p0, hp', hq]


end Wk
namespace Wk
open PySem Iv
/-! ### words, values -/
set_option maxHeartbeats 300000
abbrev lettersS : Str := "abcdefghijklmnopqrstuvwxyz"
theorem letters_list : lettersS.cps.toList = (List.range 26).map (97 + ·) := by decide +kernel
structure Word (z : Str) : Prop where
  l0 : 1 ≤ z.length
  l1 : z.length ≤ 8
  ch : ∀ c ∈ z.cps.toList, 97 ≤ c ∧ c < 123
theorem mem_letters {c : Nat} : c ∈ lettersS.cps.toList ↔ 97 ≤ c ∧ c < 123 := by
  rw [letters_list, List.mem_map]
  constructor
  · rintro ⟨i, hi, rfl⟩
    have := List.mem_range.mp hi
    omega
  · rintro ⟨h1, h2⟩
    exact ⟨c - 97, List.mem_range.mpr (by omega), by omega⟩
theorem joinL_flat : ∀ ps : List (List Nat), TL.joinL [] ps = ps.flatten
  | [] => rfl
  | [p] => by simp [TL.joinL]
  | p :: q :: r => by
    rw [TL.joinL, List.nil_append, joinL_flat (q :: r)]
    rfl
theorem join_signs (l : List Nat) : (Txt.join "" (l.map fun c => (⟨#[c]⟩ : Str))).cps.toList = l := by
  rw [TL.join_eq]
  show TL.tl (Str.join "" (l.map fun c => (⟨#[c]⟩ : Str))) = l
  rw [TL.tl_join, show TL.tl ("" : Str) = [] from rfl, joinL_flat, List.map_map]
  induction l with
  | nil => rfl
  | cons c l ih =>
    rw [List.map_cons, List.flatten_cons, ih]
    rfl
theorem strsD_map {α : Type} (f : α → Str) : ∀ l : List α, strsD (l.map fun x => D.str (f x)) = some (l.map f)
  | [] => rfl
  | i :: l => by
    rw [List.map_cons, strsD, strsD_map f l]
    rfl
theorem letter_at {c : Int} {S : Sto} (h0 : 0 ≤ c) (h1 : c < 26) : ∃ n : Nat, 97 ≤ n ∧ n < 123 ∧ idxR (.str lettersS) (.int c) S = .ok (.str ⟨#[n]⟩) S := by
  refine ⟨97 + c.toNat, by omega, by omega, ?_⟩
  have e : lettersS.cps.toList[c.toNat]? = some (97 + c.toNat) := by
    rw [letters_list, List.getElem?_map, List.getElem?_range (by omega)]
    rfl
  show (match (if 0 ≤ c then lettersS.cps.toList[c.toNat]? else _) with | some c => R.ok (D.str ⟨#[c]⟩) S | none => .err) = _
  rw [if_pos h0, e]
/-- a text of drawn letters -/
theorem lc_letters {k b vl vt vn : Nat} {N : Nat} {it : It} {ρ : Iv.Env} {S S1 : Sto} (hit : evIt (callN Tb (k + 1)) it ρ S = .ok (.fix, rngD 0 N) S1) (hv : ρ[0]? = some (some (.ref b))) (hl : ρ[vl]? = some (some (.str lettersS))) (v0 : (0 : Nat) ≠ vt) (vlt : vl ≠ vt) (hb : BagAt S1 b) (hN : N ≤ 1000) :
    ∃ (z : Str) (S' : Sto), ev (callN Tb (k + 1)) (.bm .join (.con (.str "")) [(.lc false [vt] (.var vt) it [] (.idx (.var vl) (.call 8 [.a 0, .a 1] [(.var 0), (.con (.int 26))])))]) ρ S = .ok (.str z) S' ∧ z.length = N ∧ (∀ c ∈ z.cps.toList, 97 ≤ c ∧ c < 123) ∧ Keep [b] S1 S' ∧ BagAt S' b := by
  obtain ⟨ys, S', h, l, rfl, hl', gl, kk, bb⟩ := lcLoop_inv (step := lcStep (callN Tb (k + 1)) [vt] (.var vt) [] (.idx (.var vl) (.call 8 [.a 0, .a 1] [(.var 0), (.con (.int 26))])) ρ) (src := .fix) (items := rngD 0 N) (S := S1) (fun i ys S' => ∃ l : List Nat, ys = (l.map fun c => .str ⟨#[c]⟩) ∧ l.length = i ∧ (∀ c ∈ l, 97 ≤ c ∧ c < 123) ∧ Keep [b] S1 S' ∧ BagAt S' b) ⟨[], rfl, rfl, fun c hc => (by cases hc), Keep.refl, hb⟩ (fun _ _ _ _ => trivial) (fun i d ys S' hd ⟨l, hy, hl', gl, kS, bS⟩ => by
    subst hy
    have hv' : ((ρ.set vt none).set vt (some d))[0]? = some (some (.ref b)) := by rw [List.getElem?_set_ne (Ne.symm v0), List.getElem?_set_ne (Ne.symm v0)]; exact hv
    have hl'' : ((ρ.set vt none).set vt (some d))[vl]? = some (some (.str lettersS)) := by rw [List.getElem?_set_ne (Ne.symm vlt), List.getElem?_set_ne (Ne.symm vlt)]; exact hl
    obtain ⟨t, S2, ht, t0, t1, kt, bt⟩ := ev_take (k := k) (vb := 0) (n := 26) (e := .con (.int 26)) (S := S') (S1 := S') hv' ev_int bS (by omega) (by omega)
    obtain ⟨n, n0, n1, hn⟩ := letter_at (S := S2) t0 t1
    refine ⟨[.str ⟨#[n]⟩], S2, ?_, l ++ [n], by simp, by simp [hl'], fun c hc => ?_, kS.trans kt, bt⟩
    · unfold lcStep
      rw [asg, R.bind_ok, evIfs, R.bind_ok, if_pos rfl]
      show (ev _ _ ((ρ.set vt none).set vt (some d)) S').bind _ = _
      rw [(ev_idx (ev_var hl'') ht).trans hn]
      rfl
    · rcases List.mem_append.mp hc with hc | hc
      · exact gl c hc
      · rw [List.mem_singleton.mp hc]
        exact ⟨n0, n1⟩)
  rw [rng_len] at hl'
  have L : (1000 : Nat) ≤ sizeLine := by decide
  refine ⟨Txt.join "" (l.map fun c => (⟨#[c]⟩ : Str)), S', ?_, ?_, ?_, kk, bb⟩
  · have e1 := ev_lc (box := false) (src := .fix) hit h (by rw [List.length_map]; omega)
    rw [ev, ev, R.bind_ok, ck_of (show bmOk .join (.str "") S = true from rfl), evs1, e1]
    show (match (some (l.map fun c => D.str ⟨#[c]⟩)).bind strsD with | some ys => ck ((ys.map fun s : Str => s.length).sum + ys.length * ("" : Str).length ≤ 16777216) (R.ok (D.str (Txt.join "" ys)) S') | none => .err) = _
    rw [Option.bind_some, strsD_map]
    refine ck_of ?_
    have e2 : ∀ l : List Nat, ((l.map fun c => (⟨#[c]⟩ : Str)).map fun s : Str => s.length).sum = l.length := fun l => by
      induction l with
      | nil => rfl
      | cons c l ih =>
        rw [List.map_cons, List.map_cons, List.sum_cons, ih]
        show 1 + l.length = _
        rw [List.length_cons]
        omega
    rw [e2, show ("" : Str).length = 0 from rfl]
    omega
  · have := join_signs l
    have h2 := congrArg List.length this
    exact h2.trans hl'
  · rw [join_signs]
    exact gl
theorem idx_any {c : Int} {S : Sto} (l : List D) (h0 : 0 ≤ c) (h1 : c < l.length) : ∃ d, d ∈ l ∧ idxR (.tup l) (.int c) S = .ok d S := by
  have hc : c.toNat < l.length := by omega
  refine ⟨l[c.toNat], List.getElem_mem hc, ?_⟩
  show (match (if 0 ≤ c then l[c.toNat]? else _) with | some d => R.ok d S | none => .err) = _
  rw [if_pos h0, List.getElem?_eq_getElem hc]
theorem ev_ixa {F : CE} {c : Int} {d : D} {e : E} {ρ : Iv.Env} {S S1 : Sto} (l : List D) {es : List E} (he : evs F es ρ S = .ok l S) (hl : l.length ≤ 1000) (hi : ev F e ρ S = .ok (.int c) S1) (hq : idxR (.tup l) (.int c) S1 = .ok d S1) : ev F (.idx (.tup es) e) ρ S = .ok d S1 :=
  (ev_idx (x := .tup l) (y := .int c) (S1 := S) (S2 := S1) (ev_tup he hl) hi).trans hq
theorem eq_int {c : Int} {S : Sto} : cmpR .eq (.int c) (.int 0) S = .ok (.bl (c == 0)) S := by simp [cmpR, eqD, ck, unbox, D.fz, D.dp, eqv_int]
theorem eq_str {x y : Str} {S : Sto} : cmpR .eq (.str x) (.str y) S = .ok (.bl (x == y)) S := by simp [cmpR, eqD, ck, unbox, D.fz, D.dp, D.eqv]
theorem word_of {z : Str} (h : (decide (1 ≤ z.length) && decide (z.length ≤ 8) && z.cps.toList.all (fun c => decide (97 ≤ c) && decide (c < 123))) = true) : Word z := by
  simp only [Bool.and_eq_true, decide_eq_true_eq, List.all_eq_true] at h
  exact ⟨h.1.1, h.1.2, fun c hc => h.2 c hc⟩
theorem word_ok {k b : Nat} {S : Sto} (hb : BagAt S b) : ∃ z S', callN Tb (k + 2) 9 [.ref b] S = .ok (.str z) S' ∧ Word z ∧ Keep [b] S S' ∧ BagAt S' b := by
  rw [callN_at (d := ⟨1, 3, p_l_word⟩) rfl rfl]
  obtain ⟨c, S1, h1, c0, c1, k1, b1⟩ := ev_take (k := k) (vb := 0) (ρ := [some (.ref b), none, none]) (e := .con (.int 2)) rfl ev_int hb (by omega) (by omega)
  have hcond := (ev_cmp (S2 := S1) h1 (ev_int (i := 0))).trans eq_int
  by_cases hc : c = 0
  · obtain ⟨q, S2, h2, q0, q1, k2, b2⟩ := ev_take (k := k) (vb := 0) (ρ := [some (.ref b), none, none]) (e := .con (.int 4)) rfl ev_int b1 (by omega) (by omega)
    obtain ⟨d, hd, hi⟩ := idx_any (S := S2) [.str "a", .str "b", .str "ab", .str "zzzzzzzz"] q0 (by simpa using q1)
    have hw : ∃ z, d = .str z ∧ Word z := by
      simp only [List.mem_cons, List.not_mem_nil, or_false] at hd
      rcases hd with rfl | rfl | rfl | rfl
      · exact ⟨_, rfl, word_of (by decide +kernel)⟩
      · exact ⟨_, rfl, word_of (by decide +kernel)⟩
      · exact ⟨_, rfl, word_of (by decide +kernel)⟩
      · exact ⟨_, rfl, word_of (by decide +kernel)⟩
    obtain ⟨z, rfl, hw⟩ := hw
    refine ⟨z, S2, run_ret (exs_ret (ex_ite (k := true) (hcond.trans (by rw [hc]; rfl)) ?_)), hw, k1.trans k2, b2⟩
    rw [if_pos rfl]
    exact exs_one (ex_ret (ev_ixa [.str "a", .str "b", .str "ab", .str "zzzzzzzz"] (by simp [evs, ev]) (by simp) h2 hi))
  · obtain ⟨q, S2, h2, q0, q1, k2, b2⟩ := ev_take (k := k) (vb := 0) (S := S1) (ρ := [some (.ref b), some (.str lettersS), none]) (e := .con (.int 8)) rfl ev_int b1 (by omega) (by omega)
    have hit := evIt_rng1 ((ev_bin (box := false) (op := .add) (x := .int 1) (S1 := S1) ev_int h2).trans (show binR false .add (.int 1) (.int q) S2 = .ok (.int (1 + q)) S2 from rfl)) (by unfold smallI; omega)
    obtain ⟨z, S3, h3, l3, g3, k3, b3⟩ := lc_letters (k := k) (vl := 1) (vt := 2) (vn := 0) hit rfl rfl (by decide) (by decide) b2 (by omega)
    refine ⟨z, S3, run_ret ?_, ⟨by omega, by omega, g3⟩, k1.trans (k2.trans k3), b3⟩
    refine (exs_next (ex_ite (k := false) (S1 := S1) (hcond.trans (by rw [beq_eq_false_iff_ne.mpr hc])) (by rw [if_neg Bool.false_ne_true, exs_end]))).trans ?_
    refine (exs_next (ex_asg (x := .str lettersS) (S1 := S1) (by rw [ev]))).trans ?_
    refine exs_one (ex_ret ?_)
    exact h3
def kindS (w : Bool) : Str := if w then "word" else "number"
def ValOf (w : Bool) (d : D) : Prop := match w with
  | true => ∃ z, d = .str z ∧ Word z
  | false => ∃ i : Int, d = .int i ∧ -999 ≤ i ∧ i ≤ 999
theorem kind_eq (w : Bool) : (kindS w == ("word" : Str)) = w := by cases w <;> decide +kernel
theorem value_ok {k b : Nat} {w : Bool} {S : Sto} (hb : BagAt S b) : ∃ d S', callN Tb (k + 3) 10 [.ref b, .str (kindS w)] S = .ok d S' ∧ ValOf w d ∧ Keep [b] S S' ∧ BagAt S' b := by
  rw [callN_at (d := ⟨2, 3, p_l_value⟩) rfl rfl]
  have hcond : ev (callN Tb (k + 2)) (.cmp .eq (.var 1) (.con (.str "word"))) [some (.ref b), some (.str (kindS w)), none] S = .ok (.bl w) S := by
    refine ((ev_cmp (x := .str (kindS w)) (y := .str "word") (S1 := S) (S2 := S) (ev_var rfl) (by rw [ev])).trans eq_str).trans ?_
    rw [kind_eq]
  cases w with
  | true =>
    obtain ⟨z, S1, h1, hw, k1, b1⟩ := word_ok (k := k) hb
    refine ⟨.str z, S1, run_ret (exs_ret (ex_ite hcond ?_)), ⟨z, rfl, hw⟩, k1, b1⟩
    rw [if_pos rfl]
    exact exs_one (ex_ret ((ev_call1 (ds := [.ref b]) (S1 := S) (evs_cons (ev_var rfl) evs_nil) rfl).trans h1))
  | false =>
    refine Exists.imp (fun _ => Exists.imp fun _ => And.imp_left fun (h : _ = _) => run_ret ((exs_next (ex_ite (S1 := S) hcond (by rw [if_neg Bool.false_ne_true, exs_end]))).trans h)) ?_
    obtain ⟨c, S1, h1, c0, c1, k1, b1⟩ := ev_take (k := k + 1) (vb := 0) (ρ := [some (.ref b), some (.str (kindS false)), none]) (e := .con (.int 3)) rfl ev_int hb (by omega) (by omega)
    refine Exists.imp (fun _ => Exists.imp fun _ => And.imp_left fun (h : _ = _) => (exs_next (ex_asg h1)).trans h) ?_
    show ∃ d S', exs _ _ [some (.ref b), some (.str (kindS false)), some (.int c)] S1 = _ ∧ _
    have hc2 : ev (callN Tb (k + 2)) (.cmp .lt (.var 2) (.con (.int 2))) [some (.ref b), some (.str (kindS false)), some (.int c)] S1 = .ok (.bl (decide (c < 2))) S1 := (ev_cmp (x := .int c) (y := .int 2) (S1 := S1) (S2 := S1) (ev_var rfl) ev_int).trans rfl
    by_cases h2 : c < 2
    · obtain ⟨d, S2, h3, d0, d1, k2, b2⟩ := ev_take (k := k + 1) (vb := 0) (S := S1) (ρ := [some (.ref b), some (.str (kindS false)), some (.int c)]) (e := .con (.int 4)) rfl ev_int b1 (by omega) (by omega)
      refine ⟨.int (d - 1), S2, exs_ret (ex_ret ?_), ⟨d - 1, rfl, by omega, by omega⟩, k1.trans k2, b2⟩
      rw [ev, hc2, R.bind_ok, tru_bl, R.bind_ok, if_pos (decide_eq_true h2)]
      exact (ev_bin (y := .int 1) (S2 := S2) h3 ev_int).trans rfl
    · obtain ⟨d, S2, h3, d0, d1, k2, b2⟩ := ev_take (k := k + 1) (vb := 0) (S := S1) (ρ := [some (.ref b), some (.str (kindS false)), some (.int c)]) (e := .con (.int 1999)) rfl ev_int b1 (by omega) (by omega)
      refine ⟨.int (d - 999), S2, exs_ret (ex_ret ?_), ⟨d - 999, rfl, by omega, by omega⟩, k1.trans k2, b2⟩
      rw [ev, hc2, R.bind_ok, tru_bl, R.bind_ok, if_neg (by simpa using h2)]
      exact (ev_bin (y := .int 999) (S2 := S2) h3 ev_int).trans rfl


end Wk
namespace Wk
open PySem Iv
/-! ### what the law's drawing tells, backwards -/
section
variable {k b : Nat} {n : Int} {ws : List Bool} {ns : List Int} {i : Int} {S : Sto} {Q : D → Sto → Prop} {E : Exc → Sto → Prop}
theorem bag_ru (i0 : 0 ≤ i) (i1 : i < 1000) (q : ∀ S' b, b = S.length → BagAt S' b → Keep [] S S' → Q (.ref b) S') : Ru (callN Tb (k + 1) 7 [.scr (ns.map .int), .int i] S) Q E := by
  obtain ⟨c, h, hb⟩ := bag_ok (k := k) (ns := ns) (i := i) (S := S) i0 i1
  exact Ru.eq h (q _ _ rfl hb Keep.push)
theorem take_ru (hb : BagAt S b) (n0 : 0 < n) (n1 : n < 1073741824) (q : ∀ d S', 0 ≤ d → d < n → Keep [b] S S' → BagAt S' b → Q (.int d) S') : Ru (callN Tb (k + 1) 8 [.ref b, .int n] S) Q E := by
  obtain ⟨d, S', h, h0, h1, hk, hb'⟩ := take_ok (k := k) hb n0 n1
  exact Ru.eq h (q _ _ h0 h1 hk hb')
end


end Wk
namespace Wk
open PySem Iv
/-! ### equal, and no truth for a number -/
set_option maxHeartbeats 400000
theorem is_ty {S : Sto} {x d : D} (h : Is S x d) : ∃ t, tyOf S x = some t ∧ tyOf S d = some t ∧ ∃ b, L2.kitB t "bool" = some b := by
  have kb : ∀ t, t ∈ ["NoneType", "bool", "int", "str", "tuple", "list"] → ∃ b, L2.kitB t "bool" = some b := fun t ht => by
    simp only [List.mem_cons, List.not_mem_nil, or_false] at ht
    rcases ht with rfl | rfl | rfl | rfl | rfl | rfl
    · exact ⟨false, by decide +kernel⟩
    · exact ⟨true, by decide +kernel⟩
    · exact ⟨false, by decide +kernel⟩
    · exact ⟨false, by decide +kernel⟩
    · exact ⟨false, by decide +kernel⟩
    · exact ⟨false, by decide +kernel⟩
  rcases h.parts with ⟨ds, hd, _, _, ht⟩ | ⟨ds, hd, _, _, ht⟩ | ⟨rfl, hd⟩
  · exact ⟨_, ht, by rcases hd with rfl | rfl <;> rfl, kb _ (by simp)⟩
  · exact ⟨_, ht, by subst hd; rfl, kb _ (by simp)⟩
  · have f := h.fz
    cases x with
    | non => exact ⟨_, rfl, rfl, kb _ (by simp)⟩
    | bl _ => exact ⟨_, rfl, rfl, kb _ (by simp)⟩
    | int _ => exact ⟨_, rfl, rfl, kb _ (by simp)⟩
    | str _ => exact ⟨_, rfl, rfl, kb _ (by simp)⟩
    | tup ds => exact absurd rfl (hd ds).2.1
    | lst ds => exact absurd rfl (hd ds).1
    | scr ds => exact absurd rfl (hd ds).2.2
    | ref _ => cases f
    | ins _ _ => cases f
    | ty _ => cases f
theorem isi_at {S : Sto} {x : D} {t c : String} {b : Bool} (h : tyOf S x = some t) (hb : L2.kitB t c = some b) : biR .isi [x, .ty c] S = .ok (.bl b) S := by
  show (match (tyOf S x).bind fun a => L2.kitB a c with | some b => R.ok (D.bl b) S | none => .err) = _
  rw [h, Option.bind_some, hb]
theorem ned_is2 {S : Sto} {x y d : D} (h : Is S x d) (h' : Is S y d) (l : d.dp ≤ 64) : cmpR .ned x y S = .ok (.bl false) S := by
  show ck ((deep 8 S x).fz = true ∧ (deep 8 S y).fz = true ∧ (deep 8 S x).dp ≤ 64 ∧ (deep 8 S y).dp ≤ 64) (R.ok (D.bl (!((deep 8 S x).eqv (deep 8 S y)))) S) = _
  rw [h.eq, h'.eq, eqv_self d h.fz]
  exact ck_of ⟨h.fz, h.fz, l, l⟩
theorem like_ok2 : ∀ (n : Nat) {k : Nat} {x y d : D} {S : Sto}, Is S x d → Is S y d → d.dp ≤ n → n ≤ 60 → d.wd 1000 = true → callN Tb (k + n + 1) 11 [x, y] S = .ok (.bl true) S := by
  intro n
  induction n with
  | zero =>
    intro k x y d S h h' hd _ hw
    rw [callN_at (d := ⟨2, 4, p_l_like⟩) rfl rfl]
    obtain ⟨t, t1, t2, b, hb⟩ := is_ty h
    obtain ⟨t', t3, t4, _⟩ := is_ty h'
    rw [t2] at t4
    cases t4
    refine run_ret ?_
    refine (exs_next (ex_ite (k := false) (S1 := S) ((ev_or_f (S1 := S) ((ev_cmp (x := .bl b) (y := .bl b) (S1 := S) (S2 := S) ((ev_bi2 (x := x) (y := .ty "bool") (S1 := S) (S2 := S) (ev_var rfl) (by rw [ev])).trans (isi_at t1 hb)) ((ev_bi2 (x := y) (y := .ty "bool") (S1 := S) (S2 := S) (ev_var rfl) (by rw [ev])).trans (isi_at t3 hb))).trans (ned_is (Is.of rfl) (by simp [D.dp])))).trans ((ev_cmp (x := x) (y := y) (S1 := S) (S2 := S) (ev_var rfl) (ev_var rfl)).trans (ned_is2 h h' (by omega)))) (by rw [if_neg Bool.false_ne_true, exs_end]))).trans ?_
    have hi : isiT S x ["list", "tuple"] = some false := by
      rcases h.parts with ⟨ds, hd', _⟩ | ⟨ds, hd', _⟩ | ⟨rfl, hd'⟩
      · rcases hd' with rfl | rfl <;> simp [D.dp] at hd
      · subst hd'; simp [D.dp] at hd
      · have f := h.fz
        unfold isiT isiT isiT
        cases x with
        | non => rw [show tyOf S .non = some "NoneType" from rfl]; simp only [Option.bind_some]; rw [show L2.kitB "NoneType" "list" = some false by decide +kernel]; simp only; rw [show L2.kitB "NoneType" "tuple" = some false by decide +kernel]
        | bl _ => rw [show ∀ q, tyOf S (.bl q) = some "bool" from fun _ => rfl]; simp only [Option.bind_some]; rw [show L2.kitB "bool" "list" = some false by decide +kernel]; simp only; rw [show L2.kitB "bool" "tuple" = some false by decide +kernel]
        | int _ => rw [show ∀ q, tyOf S (.int q) = some "int" from fun _ => rfl]; simp only [Option.bind_some]; rw [show L2.kitB "int" "list" = some false by decide +kernel]; simp only; rw [show L2.kitB "int" "tuple" = some false by decide +kernel]
        | str _ => rw [show ∀ q, tyOf S (.str q) = some "str" from fun _ => rfl]; simp only [Option.bind_some]; rw [show L2.kitB "str" "list" = some false by decide +kernel]; simp only; rw [show L2.kitB "str" "tuple" = some false by decide +kernel]
        | tup ds => exact absurd rfl (hd' ds).2.1
        | lst ds => exact absurd rfl (hd' ds).1
        | scr ds => exact absurd rfl (hd' ds).2.2
        | ref _ => cases f
        | ins _ _ => cases f
        | ty _ => cases f
    refine (exs_next (ex_ite (k := false) (S1 := S) (ev_isit (ev_var rfl) hi (by simp)) (by rw [if_neg Bool.false_ne_true, exs_end]))).trans ?_
    exact exs_one (ex_ret (by rw [ev]))
  | succ n ih =>
    intro k x y d S h h' hd hn hw
    by_cases h0 : d.dp ≤ n
    · have := ih (k := k + 1) h h' h0 (by omega) hw
      rwa [show k + 1 + n + 1 = k + (n + 1) + 1 by omega] at this
    rw [callN_at (d := ⟨2, 4, p_l_like⟩) rfl rfl]
    obtain ⟨t, t1, t2, b, hb⟩ := is_ty h
    obtain ⟨t', t3, t4, _⟩ := is_ty h'
    rw [t2] at t4
    cases t4
    refine run_ret ?_
    refine (exs_next (ex_ite (k := false) (S1 := S) ((ev_or_f (S1 := S) ((ev_cmp (x := .bl b) (y := .bl b) (S1 := S) (S2 := S) ((ev_bi2 (x := x) (y := .ty "bool") (S1 := S) (S2 := S) (ev_var rfl) (by rw [ev])).trans (isi_at t1 hb)) ((ev_bi2 (x := y) (y := .ty "bool") (S1 := S) (S2 := S) (ev_var rfl) (by rw [ev])).trans (isi_at t3 hb))).trans (ned_is (Is.of rfl) (by simp [D.dp])))).trans ((ev_cmp (x := x) (y := y) (S1 := S) (S2 := S) (ev_var rfl) (ev_var rfl)).trans (ned_is2 h h' (by omega)))) (by rw [if_neg Bool.false_ne_true, exs_end]))).trans ?_
    have main : ∀ (ds : List D) (src src' : Src) (xs us : List D), walkZ S x = some (src, xs) → walkZ S y = some (src', us) → src.there S → src'.there S → kOf x = kOf y → xs.length = ds.length → us.length = ds.length → (∀ p ∈ xs.zip ds, Is S p.1 p.2) → (∀ p ∈ us.zip ds, Is S p.1 p.2) → (∀ e ∈ ds, e.dp ≤ n ∧ e.wd 1000 = true) → ds.length ≤ 1000 → isiT S x ["list", "tuple"] = some true →
        exs (callN Tb (k + n + 1)) [(.ite (.isit (.var 0) ["list", "tuple"]) [(.ret (.bi (.all) [(.lc false [2, 3] (.tup [(.var 2), (.var 3)]) (.zipb (.var 0) (.var 1)) [] (.call 11 [.a 0, .a 1] [(.var 2), (.var 3)]))]))] []), (.ret (.con (.bl true)))] [some x, some y, none, none] S = .ok (.ret (.bl true)) S := by
      intro ds src src' xs us wx wd' tx td hk hl hl' hp hp' he hlen hi
      refine exs_ret (ex_ite (k := true) (S1 := S) (ev_isit (ev_var rfl) hi (by simp)) ?_)
      rw [if_pos rfl]
      refine exs_one (ex_ret ?_)
      have L : (1000 : Nat) ≤ sizeLine := by decide
      have hz : (xs.zip us).length ≤ 1000 := by rw [List.length_zip]; omega
      have lc := ev_lc (box := false) (own := [2, 3]) (tg := .tup [(.var 2), (.var 3)]) (ifs := []) (elt := .call 11 [.a 0, .a 1] [(.var 2), (.var 3)]) (ys := (xs.zip us).map fun _ => .bl true) (S2 := S) (evIt_zipb (F := callN Tb (k + n + 1)) (a := .var 0) (b := .var 1) (ρ := [some x, some y, none, none]) (S := S) (S1 := S) (S2 := S) (ev_var rfl) (ev_var rfl) wx wd' hk) (lcLoop_mapS (f := fun _ => .bl true) (show (Src.two src src').there S from ⟨tx, td⟩) fun p hpm => ?_) (by rw [List.length_map]; omega)
      · refine (ev_bi1 (x := .lst ((xs.zip us).map fun _ => .bl true)) (S1 := S) (lc.trans rfl)).trans ?_
        rw [bi_all (f := fun _ => true)]
        rw [show ((xs.zip us).all fun _ => true) = true from List.all_eq_true.mpr fun _ _ => rfl]
      · obtain ⟨i, hi'⟩ := List.mem_iff_getElem?.mp hpm
        rw [List.getElem?_zip_eq_some] at hi'
        have hil : i < ds.length := by rw [← hl]; exact (List.getElem?_eq_some_iff.mp hi'.1).1
        have m1 : (p.1, ds[i]) ∈ xs.zip ds := List.mem_iff_getElem?.mpr ⟨i, List.getElem?_zip_eq_some.mpr ⟨hi'.1, List.getElem?_eq_getElem hil⟩⟩
        have m2 : (p.2, ds[i]) ∈ us.zip ds := List.mem_iff_getElem?.mpr ⟨i, List.getElem?_zip_eq_some.mpr ⟨hi'.2, List.getElem?_eq_getElem hil⟩⟩
        have hm := he _ (List.getElem_mem hil)
        unfold lcStep
        have ea : asg (callN Tb (k + n + 1)) (.tup [(.var 2), (.var 3)]) (.tup [p.1, p.2]) (wipeE [some x, some y, none, none] [2, 3]) S = .ok [some x, some y, some p.1, some p.2] S := by
          simp [asg, asgs, seqOf, ck, wipeE]
        rw [ea, R.bind_ok, evIfs, R.bind_ok, if_pos rfl, (ev_call1 (ds := [p.1, p.2]) (S1 := S) (evs_cons (ev_var rfl) (evs_cons (ev_var rfl) evs_nil)) rfl).trans (ih (x := p.1) (y := p.2) (d := ds[i]) (hp _ m1) (hp' _ m2) hm.1 (by omega) hm.2)]
        rfl
    have hself : ∀ ds : List D, (d = .lst ds ∨ d = .scr ds ∨ d = .tup ds) → (∀ e ∈ ds, e.dp ≤ n ∧ e.wd 1000 = true) ∧ ds.length ≤ 1000 := by
      intro ds hds
      have h1 : D.dps ds ≤ n ∧ D.wds 1000 ds = true ∧ ds.length ≤ 1000 := by
        rcases hds with rfl | rfl | rfl
        all_goals
          simp only [D.dp] at hd
          simp only [D.wd, Bool.and_eq_true, decide_eq_true_eq] at hw
          exact ⟨by omega, hw.2, hw.1⟩
      exact ⟨fun e he => ⟨Nat.le_trans (dps_get he) h1.1, wds_get h1.2.1 e he⟩, h1.2.2⟩
    have i1 : tyOf S x = some "list" → isiT S x ["list", "tuple"] = some true := fun ht => by
      unfold isiT
      rw [ht, Option.bind_some, show L2.kitB "list" "list" = some true by decide +kernel]
    have i2 : tyOf S x = some "tuple" → isiT S x ["list", "tuple"] = some true := fun ht => by
      unfold isiT isiT
      rw [ht, Option.bind_some, show L2.kitB "tuple" "list" = some false by decide +kernel]
      simp only
      rw [Option.bind_some, show L2.kitB "tuple" "tuple" = some true by decide +kernel]
    rcases h.parts with ⟨ds, hds, ⟨src, xs, wx, tx, hl, hp⟩, hk, ht⟩ | ⟨ds, hds, ⟨src, xs, wx, tx, hl, hp⟩, hk, ht⟩ | ⟨hxd, hne⟩
    · obtain ⟨h1, h2⟩ := hself ds (by rcases hds with z | z <;> simp [z])
      rcases h'.parts with ⟨ds', hds', ⟨src', us, wu, tu, hl', hp'⟩, hk', ht'⟩ | ⟨ds', hds', _⟩ | ⟨_, hne⟩
      · have e : ds' = ds := by rcases hds with rfl | rfl <;> rcases hds' with z | z <;> cases z <;> rfl
        subst e
        exact main ds' src src' xs us wx wu tx tu (hk.trans hk'.symm) hl hl' hp hp' h1 h2 (i1 ht)
      · rcases hds with rfl | rfl <;> cases hds'
      · rcases hds with z | z
        · exact absurd z (hne ds).1
        · exact absurd z (hne ds).2.2
    · obtain ⟨h1, h2⟩ := hself ds (by simp [hds])
      rcases h'.parts with ⟨ds', hds', _⟩ | ⟨ds', hds', ⟨src', us, wu, tu, hl', hp'⟩, hk', ht'⟩ | ⟨_, hne⟩
      · subst hds
        rcases hds' with z | z <;> cases z
      · have e : ds' = ds := by subst hds; cases hds'; rfl
        subst e
        exact main ds' src src' xs us wx wu tx tu (hk.trans hk'.symm) hl hl' hp hp' h1 h2 (i2 ht)
      · exact absurd hds (hne ds).2.1
    · exfalso
      have f := h.fz
      subst hxd
      cases x <;> first | (simp [D.dp] at h0; done) | (cases f; done) | exact absurd rfl (hne _).1 | exact absurd rfl (hne _).2.1 | exact absurd rfl (hne _).2.2
theorem like_ok (n : Nat) {k : Nat} {x d : D} {S : Sto} (h : Is S x d) (h1 : d.dp ≤ n) (h2 : n ≤ 60) (h3 : d.wd 1000 = true) : callN Tb (k + n + 1) 11 [x, d] S = .ok (.bl true) S := like_ok2 n h (Is.of h.fz) h1 h2 h3


end Wk
namespace Wk
open PySem Iv
local macro_rules | `(tactic| and_intros) => `(tactic| repeat (first
  | with_reducible refine (ru_exs1).mpr ?_
  | with_reducible refine (ru_exs0).mpr ?_
  | with_reducible refine (nx_next).mpr ?_
  | with_reducible refine (nx_ret).mpr ?_
  | with_reducible refine (nx_cont).mpr ?_
  | with_reducible refine (nx_brk).mpr ?_
  | with_reducible refine (nx_raised).mpr ?_
  | with_reducible refine (run_qret).mpr ?_
  | ((with_reducible apply r_var); (· exact rfl))
  | with_reducible refine (run_qnext).mpr ?_
  | with_reducible refine (run_qraised).mpr ?_
  | with_reducible refine (turn_next).mpr ?_
  | with_reducible refine (turn_cont).mpr ?_
  | with_reducible refine (turn_brk).mpr ?_
  | with_reducible refine (turn_ret).mpr ?_
  | with_reducible refine (turn_raised).mpr ?_
  | with_reducible refine (ru_sAsg).mpr ?_
  | with_reducible refine (ru_sExpr).mpr ?_
  | with_reducible refine (ru_sIte).mpr ?_
  | with_reducible refine (ru_sRet).mpr ?_
  | with_reducible refine (ru_sRetN).mpr ?_
  | with_reducible refine (ru_sCont).mpr ?_
  | with_reducible refine (ru_sBrk).mpr ?_
  | with_reducible refine (ru_sPass).mpr ?_
  | with_reducible refine (ru_sFor).mpr ?_
  | with_reducible refine (ru_aVar).mpr ?_
  | with_reducible refine (ru_aTup).mpr ?_
  | with_reducible refine (ru_aTups).mpr ?_
  | with_reducible refine (ru_as0).mpr ?_
  | with_reducible refine (ru_as1).mpr ?_
  | with_reducible refine (ru_aIdx).mpr ?_
  | with_reducible refine (ru_aAttr).mpr ?_
  | with_reducible refine (ru_aSlc).mpr ?_
  | with_reducible refine (ru_aDidx).mpr ?_
  | with_reducible refine (ru_con).mpr ?_
  | with_reducible refine (ru_evs1).mpr ?_
  | with_reducible refine (ru_evs0).mpr ?_
  | with_reducible refine (ru_bin).mpr ?_
  | with_reducible refine (ru_cmp).mpr ?_
  | with_reducible refine (ru_call).mpr ?_
  | with_reducible refine (ru_and).mpr ?_
  | with_reducible refine (ru_or).mpr ?_
  | with_reducible refine (ru_not).mpr ?_
  | with_reducible refine (ru_ife).mpr ?_
  | with_reducible refine (ru_chain).mpr ?_
  | with_reducible refine (ru_neg).mpr ?_
  | with_reducible refine (ru_tup).mpr ?_
  | with_reducible refine (ru_lst).mpr ?_
  | with_reducible refine (ru_idx).mpr ?_
  | with_reducible refine (ru_slc).mpr ?_
  | with_reducible refine (ru_rev).mpr ?_
  | with_reducible refine (ru_lc).mpr ?_
  | with_reducible refine (ru_lc2).mpr ?_
  | with_reducible refine (ru_meth).mpr ?_
  | with_reducible refine (ru_make).mpr ?_
  | with_reducible refine (ru_attr).mpr ?_
  | with_reducible refine (ru_bi).mpr ?_
  | with_reducible refine (ru_bm).mpr ?_
  | with_reducible refine (ru_frz).mpr ?_
  | with_reducible refine (ru_isit).mpr ?_
  | with_reducible refine (ru_evp0).mpr ?_
  | with_reducible refine (ru_evp1).mpr ?_
  | with_reducible refine (ru_intR).mpr ?_
  | with_reducible refine (ru_ifs0).mpr ?_
  | with_reducible refine (ru_ifs1).mpr ?_
  | with_reducible refine (ru_itE).mpr ?_
  | with_reducible refine (ru_rng1).mpr ?_
  | with_reducible refine (ru_rng2).mpr ?_
  | with_reducible refine (ru_enum).mpr ?_
  | with_reducible refine (ru_enumS).mpr ?_
  | with_reducible refine (ru_zip).mpr ?_
  | with_reducible refine (ru_step).mpr ?_
  | with_reducible refine (ru_lcStep).mpr ?_
  | with_reducible refine (ru_lcStepB).mpr ?_
  | with_reducible refine (ru_dnew).mpr ?_
  | with_reducible refine (ru_didx).mpr ?_
  | with_reducible refine (ru_din).mpr ?_
  | with_reducible refine (ru_dget2).mpr ?_
  | with_reducible refine (ru_dpop).mpr ?_
  | with_reducible refine (ru_dsort).mpr ?_
  | with_reducible refine (ru_dcomp).mpr ?_
  | with_reducible refine (ru_lenSC).mpr ?_
  | with_reducible refine (ru_sortSC).mpr ?_
  | with_reducible refine (ru_dcStep).mpr ?_
  | with_reducible refine (ru_lenS).mpr ?_
  | with_reducible refine (ru_sortS).mpr ?_
  | with_reducible refine Ru.eq bin_addI ?_
  | with_reducible refine Ru.eq bin_subI ?_
  | with_reducible refine Ru.eq neg_I ?_
  | with_reducible refine Ru.eq tru_b ?_
  | with_reducible refine Ru.eq tru_i ?_
  | with_reducible refine Ru.eq cmp_ltI ?_
  | with_reducible refine Ru.eq cmp_leI ?_
  | with_reducible refine Ru.eq cmp_gtI ?_
  | with_reducible refine Ru.eq cmp_geI ?_
  | with_reducible refine Ru.eq cmp_eqI ?_
  | with_reducible refine Ru.eq cmp_neI ?_
  | with_reducible refine Ru.eq cmp_eqdI ?_
  | with_reducible refine Ru.eq cmp_nedI ?_
  | with_reducible refine Ru.eq cmp_eqS ?_
  | with_reducible refine Ru.eq cmp_neS ?_
  | with_reducible refine Ru.eq cmp_isN ?_
  | with_reducible refine Ru.eq cmp_notN ?_
  | with_reducible refine Ru.eq cmp_isB ?_
  | with_reducible refine Ru.eq idx_tup0 ?_
  | with_reducible refine Ru.eq idx_tup1 ?_
  | with_reducible refine Ru.eq idx_tup2 ?_
  | with_reducible refine Ru.eq idx_tup3 ?_
  | with_reducible refine Ru.eq idx_lst0 ?_
  | with_reducible refine Ru.eq idx_lst1 ?_
  | with_reducible refine Ru.eq bi_lenT ?_
  | with_reducible refine Ru.eq bi_lenL ?_
  | with_reducible refine Ru.eq bi_lenC ?_
  | with_reducible refine Ru.eq bi_lenS ?_
  | with_reducible refine Ru.eq bi_tupT ?_
  | with_reducible refine Ru.eq bi_tupL ?_
  | with_reducible refine Ru.eq bi_min2 ?_
  | with_reducible refine Ru.eq bi_max2 ?_
  | with_reducible refine Ru.eq bi_abs ?_
  | with_reducible refine Ru.eq bi_intI ?_
  | with_reducible refine Ru.eq bi_intB ?_
  | with_reducible refine Ru.eq mk_lst ?_
  | ((with_reducible apply r_sz); (· exact rfl))
  | ((with_reducible apply r_itet); (· first | exact rfl | assumption))
  | ((with_reducible apply r_itef); (· first | exact rfl | assumption))
  | ((with_reducible apply r_callR); (· exact rfl))
  | ((with_reducible apply r_tupA); (· exact rfl); (· exact rfl))
  | ((with_reducible apply r_tupsA); (· exact rfl); (· rfl); (· exact rfl); (· exact rfl))
  | ((with_reducible apply r_aug); (· exact rfl))
  | ((with_reducible apply r_modI); (· first | assumption | omega))
  | ((with_reducible apply r_mulI); (· first | exact .inr (by decide) | exact .inl (by decide) | (unfold mulOk; omega)))
  | ((with_reducible apply r_divI); (· first | assumption | omega))
  | ((with_reducible apply r_addT); (· exact rfl))
  | ((with_reducible apply r_at); (· assumption); (· exact rfl))
  | ((with_reducible apply r_atI); (· exact rfl))
  | ((with_reducible apply r_meth); (· assumption); (· exact rfl))
  | ((with_reducible apply r_methI); (· exact rfl))
  | ((with_reducible apply r_walkB); (· assumption))
  | ((with_reducible apply r_enumB); (· assumption))
  | ((with_reducible apply r_oR); (· exact rfl))
  | ((with_reducible apply r_enumR); (· exact rfl))
  | ((with_reducible apply r_enumSB); (· assumption); (· (unfold smallI; omega)))
  | ((with_reducible apply r_enumSR); (· exact rfl); (· (unfold smallI; omega)))
  | ((with_reducible apply r_rng1R); (· (unfold smallI; omega)))
  | ((with_reducible apply r_rng2R); (· (unfold smallI; omega)))
  | ((with_reducible apply r_isitR); (· exact rfl); (· exact rfl))
  | ((with_reducible apply r_isi); (· exact rfl))
  | ((with_reducible apply r_lenB); (· assumption))
  | with_reducible refine Ru.eq bi_all ?_
  | with_reducible apply r_slcL
  | with_reducible apply r_slcT
  | ((with_reducible apply r_slcB); (· assumption))
  | ((with_reducible apply r_listB); (· assumption))
  | with_reducible apply r_listL
  | with_reducible apply r_listT
  | ((with_reducible apply And.intro); (· first | exact bm_okA ‹_› | exact bm_okI ‹_› | exact bm_okR ‹_› | exact bm_okP ‹_› | exact bm_okC ‹_› | exact dct_some ‹_›))))
local macro_rules | `(tactic| subst_eqs) => `(tactic| repeat (first
  | with_reducible refine (ru_exs1).mpr ?_
  | with_reducible refine (ru_exs0).mpr ?_
  | with_reducible refine (nx_next).mpr ?_
  | with_reducible refine (nx_ret).mpr ?_
  | with_reducible refine (nx_cont).mpr ?_
  | with_reducible refine (nx_brk).mpr ?_
  | with_reducible refine (nx_raised).mpr ?_
  | with_reducible refine (run_qret).mpr ?_
  | ((with_reducible apply r_var); (· exact rfl))
  | with_reducible refine (run_qnext).mpr ?_
  | with_reducible refine (run_qraised).mpr ?_
  | with_reducible refine (turn_next).mpr ?_
  | with_reducible refine (turn_cont).mpr ?_
  | with_reducible refine (turn_brk).mpr ?_
  | with_reducible refine (turn_ret).mpr ?_
  | with_reducible refine (turn_raised).mpr ?_
  | with_reducible refine (ru_sAsg).mpr ?_
  | with_reducible refine (ru_sExpr).mpr ?_
  | with_reducible refine (ru_sRet).mpr ?_
  | with_reducible refine (ru_sRetN).mpr ?_
  | with_reducible refine (ru_sCont).mpr ?_
  | with_reducible refine (ru_sBrk).mpr ?_
  | with_reducible refine (ru_sPass).mpr ?_
  | with_reducible refine (ru_sFor).mpr ?_
  | with_reducible refine (ru_aVar).mpr ?_
  | with_reducible refine (ru_aTup).mpr ?_
  | with_reducible refine (ru_aTups).mpr ?_
  | with_reducible refine (ru_as0).mpr ?_
  | with_reducible refine (ru_as1).mpr ?_
  | with_reducible refine (ru_aIdx).mpr ?_
  | with_reducible refine (ru_aAttr).mpr ?_
  | with_reducible refine (ru_aSlc).mpr ?_
  | with_reducible refine (ru_aDidx).mpr ?_
  | with_reducible refine (ru_con).mpr ?_
  | with_reducible refine (ru_evs1).mpr ?_
  | with_reducible refine (ru_evs0).mpr ?_
  | with_reducible refine (ru_bin).mpr ?_
  | with_reducible refine (ru_cmp).mpr ?_
  | with_reducible refine (ru_call).mpr ?_
  | with_reducible refine (ru_and).mpr ?_
  | with_reducible refine (ru_or).mpr ?_
  | with_reducible refine (ru_not).mpr ?_
  | with_reducible refine (ru_ife).mpr ?_
  | with_reducible refine (ru_chain).mpr ?_
  | with_reducible refine (ru_neg).mpr ?_
  | with_reducible refine (ru_tup).mpr ?_
  | with_reducible refine (ru_lst).mpr ?_
  | with_reducible refine (ru_idx).mpr ?_
  | with_reducible refine (ru_slc).mpr ?_
  | with_reducible refine (ru_rev).mpr ?_
  | with_reducible refine (ru_lc).mpr ?_
  | with_reducible refine (ru_lc2).mpr ?_
  | with_reducible refine (ru_meth).mpr ?_
  | with_reducible refine (ru_make).mpr ?_
  | with_reducible refine (ru_attr).mpr ?_
  | with_reducible refine (ru_bi).mpr ?_
  | with_reducible refine (ru_bm).mpr ?_
  | with_reducible refine (ru_frz).mpr ?_
  | with_reducible refine (ru_isit).mpr ?_
  | with_reducible refine (ru_evp0).mpr ?_
  | with_reducible refine (ru_evp1).mpr ?_
  | with_reducible refine (ru_intR).mpr ?_
  | with_reducible refine (ru_ifs0).mpr ?_
  | with_reducible refine (ru_ifs1).mpr ?_
  | with_reducible refine (ru_itE).mpr ?_
  | with_reducible refine (ru_rng1).mpr ?_
  | with_reducible refine (ru_rng2).mpr ?_
  | with_reducible refine (ru_enum).mpr ?_
  | with_reducible refine (ru_enumS).mpr ?_
  | with_reducible refine (ru_zip).mpr ?_
  | with_reducible refine (ru_step).mpr ?_
  | with_reducible refine (ru_lcStep).mpr ?_
  | with_reducible refine (ru_lcStepB).mpr ?_
  | with_reducible refine (ru_dnew).mpr ?_
  | with_reducible refine (ru_didx).mpr ?_
  | with_reducible refine (ru_din).mpr ?_
  | with_reducible refine (ru_dget2).mpr ?_
  | with_reducible refine (ru_dpop).mpr ?_
  | with_reducible refine (ru_dsort).mpr ?_
  | with_reducible refine (ru_dcomp).mpr ?_
  | with_reducible refine (ru_lenSC).mpr ?_
  | with_reducible refine (ru_sortSC).mpr ?_
  | with_reducible refine (ru_dcStep).mpr ?_
  | with_reducible refine (ru_lenS).mpr ?_
  | with_reducible refine (ru_sortS).mpr ?_
  | with_reducible refine Ru.eq bin_addI ?_
  | with_reducible refine Ru.eq bin_subI ?_
  | with_reducible refine Ru.eq neg_I ?_
  | with_reducible refine Ru.eq tru_b ?_
  | with_reducible refine Ru.eq tru_i ?_
  | with_reducible refine Ru.eq cmp_ltI ?_
  | with_reducible refine Ru.eq cmp_leI ?_
  | with_reducible refine Ru.eq cmp_gtI ?_
  | with_reducible refine Ru.eq cmp_geI ?_
  | with_reducible refine Ru.eq cmp_eqI ?_
  | with_reducible refine Ru.eq cmp_neI ?_
  | with_reducible refine Ru.eq cmp_eqdI ?_
  | with_reducible refine Ru.eq cmp_nedI ?_
  | with_reducible refine Ru.eq cmp_eqS ?_
  | with_reducible refine Ru.eq cmp_neS ?_
  | with_reducible refine Ru.eq cmp_isN ?_
  | with_reducible refine Ru.eq cmp_notN ?_
  | with_reducible refine Ru.eq cmp_isB ?_
  | with_reducible refine Ru.eq idx_tup0 ?_
  | with_reducible refine Ru.eq idx_tup1 ?_
  | with_reducible refine Ru.eq idx_tup2 ?_
  | with_reducible refine Ru.eq idx_tup3 ?_
  | with_reducible refine Ru.eq idx_lst0 ?_
  | with_reducible refine Ru.eq idx_lst1 ?_
  | with_reducible refine Ru.eq bi_lenT ?_
  | with_reducible refine Ru.eq bi_lenL ?_
  | with_reducible refine Ru.eq bi_lenC ?_
  | with_reducible refine Ru.eq bi_lenS ?_
  | with_reducible refine Ru.eq bi_tupT ?_
  | with_reducible refine Ru.eq bi_tupL ?_
  | with_reducible refine Ru.eq bi_min2 ?_
  | with_reducible refine Ru.eq bi_max2 ?_
  | with_reducible refine Ru.eq bi_abs ?_
  | with_reducible refine Ru.eq bi_intI ?_
  | with_reducible refine Ru.eq bi_intB ?_
  | with_reducible refine Ru.eq mk_lst ?_
  | ((with_reducible apply r_sz); (· exact rfl))
  | ((with_reducible apply r_itet); (· first | exact rfl | assumption))
  | ((with_reducible apply r_itef); (· first | exact rfl | assumption))
  | ((with_reducible apply r_callR); (· exact rfl))
  | ((with_reducible apply r_tupA); (· exact rfl); (· exact rfl))
  | ((with_reducible apply r_tupsA); (· exact rfl); (· rfl); (· exact rfl); (· exact rfl))
  | ((with_reducible apply r_aug); (· exact rfl))
  | ((with_reducible apply r_modI); (· first | assumption | omega))
  | ((with_reducible apply r_mulI); (· first | exact .inr (by decide) | exact .inl (by decide) | (unfold mulOk; omega)))
  | ((with_reducible apply r_divI); (· first | assumption | omega))
  | ((with_reducible apply r_addT); (· exact rfl))
  | ((with_reducible apply r_at); (· assumption); (· exact rfl))
  | ((with_reducible apply r_atI); (· exact rfl))
  | ((with_reducible apply r_meth); (· assumption); (· exact rfl))
  | ((with_reducible apply r_methI); (· exact rfl))
  | ((with_reducible apply r_walkB); (· assumption))
  | ((with_reducible apply r_enumB); (· assumption))
  | ((with_reducible apply r_oR); (· exact rfl))
  | ((with_reducible apply r_enumR); (· exact rfl))
  | ((with_reducible apply r_enumSB); (· assumption); (· (unfold smallI; omega)))
  | ((with_reducible apply r_enumSR); (· exact rfl); (· (unfold smallI; omega)))
  | ((with_reducible apply r_rng1R); (· (unfold smallI; omega)))
  | ((with_reducible apply r_rng2R); (· (unfold smallI; omega)))
  | ((with_reducible apply r_isitR); (· exact rfl); (· exact rfl))
  | ((with_reducible apply r_isi); (· exact rfl))
  | ((with_reducible apply r_lenB); (· assumption))
  | with_reducible refine Ru.eq bi_all ?_
  | with_reducible apply r_slcL
  | with_reducible apply r_slcT
  | ((with_reducible apply r_slcB); (· assumption))
  | ((with_reducible apply r_listB); (· assumption))
  | with_reducible apply r_listL
  | with_reducible apply r_listT
  | ((with_reducible apply And.intro); (· first | exact bm_okA ‹_› | exact bm_okI ‹_› | exact bm_okR ‹_› | exact bm_okP ‹_› | exact bm_okC ‹_› | exact dct_some ‹_›))))
/-! ### what the law looks at -/
set_option maxHeartbeats 400000
abbrev enP (h : L2.Key × Int) : D := .tup [keyV h.1, .int h.2]
def Held (S : Sto) (x : D) (hs : Hs) : Prop := (x = .lst [] ∧ hs = []) ∨ ∃ h, x = .ref h ∧ cellAt S h = some (.lst (hs.map enP))
theorem eqv_key (a b : L2.Key) : (keyV a).eqv (keyV b) = decide (a = b) := by
  cases a <;> cases b <;> simp [keyV, D.eqv]
  all_goals first | done | (rw [Bool.eq_iff_iff]; simp)
def lpg (l : List Int) (w : Int) : List Int := srtI (nubK (l.map fun n => (n + w - 1) / w))
theorem nub_map {f : Int → Int} (hf : ∀ a b, f a = f b → a = b) (l : List Int) : (nubK (l.map f)).Perm ((nubK l).map f) := by
  have nd : ((nubK l).map f).Nodup := by
    unfold List.Nodup
    rw [List.pairwise_map]
    exact (nubI_nd l).imp fun n e => n (hf _ _ e)
  refine (List.perm_ext_iff_of_nodup (nubI_nd _) nd).mpr fun a => ?_
  show a ∈ (l.map f).eraseDups ↔ a ∈ (nubK l).map f
  rw [List.mem_eraseDups, List.mem_map, List.mem_map]
  constructor
  · rintro ⟨x, hx, e⟩
    exact ⟨x, by show x ∈ l.eraseDups; rw [List.mem_eraseDups]; exact hx, e⟩
  · rintro ⟨x, hx, e⟩
    have hx : x ∈ l.eraseDups := hx
    rw [List.mem_eraseDups] at hx
    exact ⟨x, hx, e⟩
theorem page_up {n w : Int} (hw : 0 < w) : (n + w - 1) / w = (n - 1) / w + 1 := by
  have e : n + w - 1 = (n - 1) + 1 * w := by omega
  rw [e, Int.add_mul_ediv_right _ _ (by omega)]
theorem lpg_map {l : List Int} {w : Int} (hw : 0 < w) : (l.map fun n => (n + w - 1) / w) = (l.map fun n => (n - 1) / w).map (· + 1) := by
  rw [List.map_map]
  exact List.map_congr_left fun n _ => page_up hw
theorem lpg_len {us : Us} {w : Int} {κ : L2.Key} (hw : 0 < w) : (lpg (lg us κ) w).length = (pgs us w κ).length := by
  unfold lpg pgs
  rw [srtI_len, srtI_len, lpg_map hw, (nub_map (fun a b e => by omega) _).length_eq, List.length_map]
theorem srt_nub_mem {l : List Int} {a : Int} : a ∈ srtI (nubK l) ↔ a ∈ l := by
  rw [(srtI_perm _).mem_iff]
  show a ∈ l.eraseDups ↔ _
  rw [List.mem_eraseDups]
theorem lpg_mem {us : Us} {w n : Int} {κ : L2.Key} (hw : 0 < w) : (n + w - 1) / w ∈ lpg (lg us κ) w ↔ (n - 1) / w ∈ pgs us w κ := by
  unfold lpg pgs
  rw [srt_nub_mem, srt_nub_mem, lpg_map hw, page_up hw, List.mem_map]
  exact ⟨fun ⟨x, hx, e⟩ => by have : x = (n - 1) / w := by omega
                              exact this ▸ hx, fun h => ⟨_, h, rfl⟩⟩
section
variable {k p d : Nat} {w n : Int} {wk : Bool} {us : Us} {hs : Hs} {κ : L2.Key} {x : D} {l : List Int} {S : Sto} {bs : List Nat} {Q : D → Sto → Prop} {E : Exc → Sto → Prop}
theorem Held.walk (H : Held S x hs) : ∃ src, walkOf S x = some (src, hs.map enP) ∧ src.there S := by
  rcases H with ⟨rfl, rfl⟩ | ⟨h, rfl, hc⟩
  · exact ⟨.fix, rfl, trivial⟩
  · exact ⟨.box h _, walk_box hc, hc⟩
theorem Held.keep {S' : Sto} (H : Held S x hs) (kp : Keep bs S S') (hx : ∀ h, x = .ref h → h ∉ bs) : Held S' x hs := by
  rcases H with h | ⟨h, e, hc⟩
  · exact .inl h
  · exact .inr ⟨h, e, (kp.eq h (cellAt_lt hc) (hx h e)).trans hc⟩
theorem lpages_ru (hw : 0 < w ∧ w < 1073741824) (hl : l.length < 64) (q : Q (dI (lpg l w)) S) : Ru (callN Tb (k + 1) 12 [dI l, .int w] S) Q E := by
  refine Ru.def (fn := ⟨2, 3, p_l_pages⟩) rfl rfl ?_; simp only [List.map_cons, List.map_nil, List.length_cons, List.length_nil, Nat.reduceAdd, Nat.reduceSub, List.replicate_succ, List.replicate_zero, List.cons_append, List.nil_append]
  and_intros
  refine Ru.lcm (enc := D.int) (f := fun n => [.int ((n + w - 1) / w)]) trivial (fun n hn => ?_) ?_
  · and_intros
    exact ⟨rfl, rfl⟩
  · have e : ∀ l : List Int, (l.flatMap fun n => [D.int ((n + w - 1) / w)]) = (l.map fun n => (n + w - 1) / w).map .int := by
      intro l
      induction l with
      | nil => rfl
      | cons x l ih => rw [List.flatMap_cons, ih]; rfl
    rw [e]
    refine ⟨by rw [List.length_map, List.length_map]; exact sz_le (by omega), ?_⟩
    and_intros
    refine r_sortSI rfl (by rw [List.length_map]; exact hl) ?_
    exact q
theorem is_pair {b : Nat} {m : Int} (hc : cellAt S b = some (.lst (l.map .int))) : Is S (.tup [.ref b, .int m]) (.tup [dI l, .int m]) := by
  refine ⟨?_, by simp [D.fz, D.fzs, (ints_ok l).1]⟩
  simp [deep, hc]
theorem is_kept {b : Nat} {ks : List D} (hc : cellAt S b = some (.lst ks)) (fk : D.fzs ks = true) : Is S (.ref b) (.lst ks) := by
  refine ⟨?_, by rw [D.fz]; exact fk⟩
  rw [deep, hc]
  dsimp only
  congr 1
  have : ∀ x ∈ ks, deep 7 S x = x := fun x hx => deep_fz 7 (fzs_get fk x hx)
  exact (List.map_congr_left this).trans (List.map_id _)
theorem kept_ok {ks : List D} (h : Kept hs ks) (hl : hs.length < 64) : D.fzs ks = true ∧ (D.lst ks).dp ≤ 5 ∧ (D.lst ks).wd 1000 = true ∧ ks.length < 64 := by
  have sok : ∀ l : List Str, D.fzs (l.map .str) = true ∧ D.dps (l.map .str) = 0 := by
    intro l
    induction l with
    | nil => simp [D.fzs, D.dps]
    | cons z l ih => simp [D.fzs, D.dps, D.fz, D.dp, ih.1, ih.2]
  have wi : ∀ l : List Int, D.wds 1000 (l.map .int) = true := by
    intro l
    induction l with
    | nil => simp [D.wds]
    | cons z l ih => simp [D.wds, D.wd, ih]
  have ws : ∀ l : List Str, D.wds 1000 (l.map .str) = true := by
    intro l
    induction l with
    | nil => simp [D.wds]
    | cons z l ih => simp [D.wds, D.wd, ih]
  rcases h with ⟨is, e, rfl⟩ | ⟨z, zs, e, rfl⟩
  · have nn : is.length = hs.length := by have := congrArg List.length e; rw [List.length_map, List.length_map] at this; exact this.symm
    have n2 : (srtI (nubK is)).length ≤ is.length := by rw [srtI_len]; exact dups_le _ is (Nat.le_refl _)
    exact ⟨(ints_ok _).1, by rw [D.dp, (ints_ok _).2]; omega, by rw [D.wd, wi, List.length_map]; simp; omega, by rw [List.length_map]; omega⟩
  · have nn : (z :: zs).length = hs.length := by have := congrArg List.length e; rw [List.length_map, List.length_map] at this; exact this.symm
    have n2 : (srtS (nubK (z :: zs))).length ≤ (z :: zs).length := by
      have e3 : (srtS (nubK (z :: zs))).length = (nubK (z :: zs)).length := by
        unfold srtS
        exact (List.mergeSort_perm _ _).length_eq
      rw [e3]
      exact dups_le _ (z :: zs) (Nat.le_refl _)
    exact ⟨(sok _).1, by rw [D.dp, (sok _).2]; omega, by rw [D.wd, ws, List.length_map]; simp only [Bool.and_true, decide_eq_true_eq]; omega, by rw [List.length_map]; omega⟩
end


end Wk
namespace Wk
open PySem Iv
local macro_rules | `(tactic| and_intros) => `(tactic| repeat (first
  | with_reducible refine (ru_exs1).mpr ?_
  | with_reducible refine (ru_exs0).mpr ?_
  | with_reducible refine (nx_next).mpr ?_
  | with_reducible refine (nx_ret).mpr ?_
  | with_reducible refine (nx_cont).mpr ?_
  | with_reducible refine (nx_brk).mpr ?_
  | with_reducible refine (nx_raised).mpr ?_
  | with_reducible refine (run_qret).mpr ?_
  | ((with_reducible apply r_var); (· exact rfl))
  | with_reducible refine (run_qnext).mpr ?_
  | with_reducible refine (run_qraised).mpr ?_
  | with_reducible refine (turn_next).mpr ?_
  | with_reducible refine (turn_cont).mpr ?_
  | with_reducible refine (turn_brk).mpr ?_
  | with_reducible refine (turn_ret).mpr ?_
  | with_reducible refine (turn_raised).mpr ?_
  | with_reducible refine (ru_sAsg).mpr ?_
  | with_reducible refine (ru_sExpr).mpr ?_
  | with_reducible refine (ru_sIte).mpr ?_
  | with_reducible refine (ru_sRet).mpr ?_
  | with_reducible refine (ru_sRetN).mpr ?_
  | with_reducible refine (ru_sCont).mpr ?_
  | with_reducible refine (ru_sBrk).mpr ?_
  | with_reducible refine (ru_sPass).mpr ?_
  | with_reducible refine (ru_sFor).mpr ?_
  | with_reducible refine (ru_aVar).mpr ?_
  | with_reducible refine (ru_aTup).mpr ?_
  | with_reducible refine (ru_aTups).mpr ?_
  | with_reducible refine (ru_as0).mpr ?_
  | with_reducible refine (ru_as1).mpr ?_
  | with_reducible refine (ru_aIdx).mpr ?_
  | with_reducible refine (ru_aAttr).mpr ?_
  | with_reducible refine (ru_aSlc).mpr ?_
  | with_reducible refine (ru_aDidx).mpr ?_
  | with_reducible refine (ru_con).mpr ?_
  | with_reducible refine (ru_evs1).mpr ?_
  | with_reducible refine (ru_evs0).mpr ?_
  | with_reducible refine (ru_bin).mpr ?_
  | with_reducible refine (ru_cmp).mpr ?_
  | with_reducible refine (ru_call).mpr ?_
  | with_reducible refine (ru_and).mpr ?_
  | with_reducible refine (ru_or).mpr ?_
  | with_reducible refine (ru_not).mpr ?_
  | with_reducible refine (ru_ife).mpr ?_
  | with_reducible refine (ru_chain).mpr ?_
  | with_reducible refine (ru_neg).mpr ?_
  | with_reducible refine (ru_tup).mpr ?_
  | with_reducible refine (ru_lst).mpr ?_
  | with_reducible refine (ru_idx).mpr ?_
  | with_reducible refine (ru_slc).mpr ?_
  | with_reducible refine (ru_rev).mpr ?_
  | with_reducible refine (ru_lc).mpr ?_
  | with_reducible refine (ru_lc2).mpr ?_
  | with_reducible refine (ru_meth).mpr ?_
  | with_reducible refine (ru_make).mpr ?_
  | with_reducible refine (ru_attr).mpr ?_
  | with_reducible refine (ru_bi).mpr ?_
  | with_reducible refine (ru_bm).mpr ?_
  | with_reducible refine (ru_frz).mpr ?_
  | with_reducible refine (ru_isit).mpr ?_
  | with_reducible refine (ru_evp0).mpr ?_
  | with_reducible refine (ru_evp1).mpr ?_
  | with_reducible refine (ru_intR).mpr ?_
  | with_reducible refine (ru_ifs0).mpr ?_
  | with_reducible refine (ru_ifs1).mpr ?_
  | with_reducible refine (ru_itE).mpr ?_
  | with_reducible refine (ru_rng1).mpr ?_
  | with_reducible refine (ru_rng2).mpr ?_
  | with_reducible refine (ru_enum).mpr ?_
  | with_reducible refine (ru_enumS).mpr ?_
  | with_reducible refine (ru_zip).mpr ?_
  | with_reducible refine (ru_step).mpr ?_
  | with_reducible refine (ru_lcStep).mpr ?_
  | with_reducible refine (ru_lcStepB).mpr ?_
  | with_reducible refine (ru_dnew).mpr ?_
  | with_reducible refine (ru_didx).mpr ?_
  | with_reducible refine (ru_din).mpr ?_
  | with_reducible refine (ru_dget2).mpr ?_
  | with_reducible refine (ru_dpop).mpr ?_
  | with_reducible refine (ru_dsort).mpr ?_
  | with_reducible refine (ru_dcomp).mpr ?_
  | with_reducible refine (ru_lenSC).mpr ?_
  | with_reducible refine (ru_sortSC).mpr ?_
  | with_reducible refine (ru_dcStep).mpr ?_
  | with_reducible refine (ru_lenS).mpr ?_
  | with_reducible refine (ru_sortS).mpr ?_
  | with_reducible refine Ru.eq bin_addI ?_
  | with_reducible refine Ru.eq bin_subI ?_
  | with_reducible refine Ru.eq neg_I ?_
  | with_reducible refine Ru.eq tru_b ?_
  | with_reducible refine Ru.eq tru_i ?_
  | with_reducible refine Ru.eq cmp_ltI ?_
  | with_reducible refine Ru.eq cmp_leI ?_
  | with_reducible refine Ru.eq cmp_gtI ?_
  | with_reducible refine Ru.eq cmp_geI ?_
  | with_reducible refine Ru.eq cmp_eqI ?_
  | with_reducible refine Ru.eq cmp_neI ?_
  | with_reducible refine Ru.eq cmp_eqdI ?_
  | with_reducible refine Ru.eq cmp_nedI ?_
  | with_reducible refine Ru.eq cmp_eqS ?_
  | with_reducible refine Ru.eq cmp_neS ?_
  | with_reducible refine Ru.eq cmp_isN ?_
  | with_reducible refine Ru.eq cmp_notN ?_
  | with_reducible refine Ru.eq cmp_isB ?_
  | with_reducible refine Ru.eq idx_tup0 ?_
  | with_reducible refine Ru.eq idx_tup1 ?_
  | with_reducible refine Ru.eq idx_tup2 ?_
  | with_reducible refine Ru.eq idx_tup3 ?_
  | with_reducible refine Ru.eq idx_lst0 ?_
  | with_reducible refine Ru.eq idx_lst1 ?_
  | with_reducible refine Ru.eq bi_lenT ?_
  | with_reducible refine Ru.eq bi_lenL ?_
  | with_reducible refine Ru.eq bi_lenC ?_
  | with_reducible refine Ru.eq bi_lenS ?_
  | with_reducible refine Ru.eq bi_tupT ?_
  | with_reducible refine Ru.eq bi_tupL ?_
  | with_reducible refine Ru.eq bi_min2 ?_
  | with_reducible refine Ru.eq bi_max2 ?_
  | with_reducible refine Ru.eq bi_abs ?_
  | with_reducible refine Ru.eq bi_intI ?_
  | with_reducible refine Ru.eq bi_intB ?_
  | with_reducible refine Ru.eq mk_lst ?_
  | ((with_reducible apply r_sz); (· exact rfl))
  | ((with_reducible apply r_itet); (· first | exact rfl | assumption))
  | ((with_reducible apply r_itef); (· first | exact rfl | assumption))
  | ((with_reducible apply r_callR); (· exact rfl))
  | ((with_reducible apply r_tupA); (· exact rfl); (· exact rfl))
  | ((with_reducible apply r_tupsA); (· exact rfl); (· rfl); (· exact rfl); (· exact rfl))
  | ((with_reducible apply r_aug); (· exact rfl))
  | ((with_reducible apply r_modI); (· first | assumption | omega))
  | ((with_reducible apply r_mulI); (· first | exact .inr (by decide) | exact .inl (by decide) | (unfold mulOk; omega)))
  | ((with_reducible apply r_divI); (· first | assumption | omega))
  | ((with_reducible apply r_addT); (· exact rfl))
  | ((with_reducible apply r_at); (· assumption); (· exact rfl))
  | ((with_reducible apply r_atI); (· exact rfl))
  | ((with_reducible apply r_meth); (· assumption); (· exact rfl))
  | ((with_reducible apply r_methI); (· exact rfl))
  | ((with_reducible apply r_walkB); (· assumption))
  | ((with_reducible apply r_enumB); (· assumption))
  | ((with_reducible apply r_oR); (· exact rfl))
  | ((with_reducible apply r_enumR); (· exact rfl))
  | ((with_reducible apply r_enumSB); (· assumption); (· (unfold smallI; omega)))
  | ((with_reducible apply r_enumSR); (· exact rfl); (· (unfold smallI; omega)))
  | ((with_reducible apply r_rng1R); (· (unfold smallI; omega)))
  | ((with_reducible apply r_rng2R); (· (unfold smallI; omega)))
  | ((with_reducible apply r_isitR); (· exact rfl); (· exact rfl))
  | ((with_reducible apply r_isi); (· exact rfl))
  | ((with_reducible apply r_lenB); (· assumption))
  | with_reducible refine Ru.eq bi_all ?_
  | with_reducible apply r_slcL
  | with_reducible apply r_slcT
  | ((with_reducible apply r_slcB); (· assumption))
  | ((with_reducible apply r_listB); (· assumption))
  | with_reducible apply r_listL
  | with_reducible apply r_listT
  | ((with_reducible apply And.intro); (· first | exact bm_okA ‹_› | exact bm_okI ‹_› | exact bm_okR ‹_› | exact bm_okP ‹_› | exact bm_okC ‹_› | exact dct_some ‹_›))))
local macro_rules | `(tactic| subst_eqs) => `(tactic| repeat (first
  | with_reducible refine (ru_exs1).mpr ?_
  | with_reducible refine (ru_exs0).mpr ?_
  | with_reducible refine (nx_next).mpr ?_
  | with_reducible refine (nx_ret).mpr ?_
  | with_reducible refine (nx_cont).mpr ?_
  | with_reducible refine (nx_brk).mpr ?_
  | with_reducible refine (nx_raised).mpr ?_
  | with_reducible refine (run_qret).mpr ?_
  | ((with_reducible apply r_var); (· exact rfl))
  | with_reducible refine (run_qnext).mpr ?_
  | with_reducible refine (run_qraised).mpr ?_
  | with_reducible refine (turn_next).mpr ?_
  | with_reducible refine (turn_cont).mpr ?_
  | with_reducible refine (turn_brk).mpr ?_
  | with_reducible refine (turn_ret).mpr ?_
  | with_reducible refine (turn_raised).mpr ?_
  | with_reducible refine (ru_sAsg).mpr ?_
  | with_reducible refine (ru_sExpr).mpr ?_
  | with_reducible refine (ru_sRet).mpr ?_
  | with_reducible refine (ru_sRetN).mpr ?_
  | with_reducible refine (ru_sCont).mpr ?_
  | with_reducible refine (ru_sBrk).mpr ?_
  | with_reducible refine (ru_sPass).mpr ?_
  | with_reducible refine (ru_sFor).mpr ?_
  | with_reducible refine (ru_aVar).mpr ?_
  | with_reducible refine (ru_aTup).mpr ?_
  | with_reducible refine (ru_aTups).mpr ?_
  | with_reducible refine (ru_as0).mpr ?_
  | with_reducible refine (ru_as1).mpr ?_
  | with_reducible refine (ru_aIdx).mpr ?_
  | with_reducible refine (ru_aAttr).mpr ?_
  | with_reducible refine (ru_aSlc).mpr ?_
  | with_reducible refine (ru_aDidx).mpr ?_
  | with_reducible refine (ru_con).mpr ?_
  | with_reducible refine (ru_evs1).mpr ?_
  | with_reducible refine (ru_evs0).mpr ?_
  | with_reducible refine (ru_bin).mpr ?_
  | with_reducible refine (ru_cmp).mpr ?_
  | with_reducible refine (ru_call).mpr ?_
  | with_reducible refine (ru_and).mpr ?_
  | with_reducible refine (ru_or).mpr ?_
  | with_reducible refine (ru_not).mpr ?_
  | with_reducible refine (ru_ife).mpr ?_
  | with_reducible refine (ru_chain).mpr ?_
  | with_reducible refine (ru_neg).mpr ?_
  | with_reducible refine (ru_tup).mpr ?_
  | with_reducible refine (ru_lst).mpr ?_
  | with_reducible refine (ru_idx).mpr ?_
  | with_reducible refine (ru_slc).mpr ?_
  | with_reducible refine (ru_rev).mpr ?_
  | with_reducible refine (ru_lc).mpr ?_
  | with_reducible refine (ru_lc2).mpr ?_
  | with_reducible refine (ru_meth).mpr ?_
  | with_reducible refine (ru_make).mpr ?_
  | with_reducible refine (ru_attr).mpr ?_
  | with_reducible refine (ru_bi).mpr ?_
  | with_reducible refine (ru_bm).mpr ?_
  | with_reducible refine (ru_frz).mpr ?_
  | with_reducible refine (ru_isit).mpr ?_
  | with_reducible refine (ru_evp0).mpr ?_
  | with_reducible refine (ru_evp1).mpr ?_
  | with_reducible refine (ru_intR).mpr ?_
  | with_reducible refine (ru_ifs0).mpr ?_
  | with_reducible refine (ru_ifs1).mpr ?_
  | with_reducible refine (ru_itE).mpr ?_
  | with_reducible refine (ru_rng1).mpr ?_
  | with_reducible refine (ru_rng2).mpr ?_
  | with_reducible refine (ru_enum).mpr ?_
  | with_reducible refine (ru_enumS).mpr ?_
  | with_reducible refine (ru_zip).mpr ?_
  | with_reducible refine (ru_step).mpr ?_
  | with_reducible refine (ru_lcStep).mpr ?_
  | with_reducible refine (ru_lcStepB).mpr ?_
  | with_reducible refine (ru_dnew).mpr ?_
  | with_reducible refine (ru_didx).mpr ?_
  | with_reducible refine (ru_din).mpr ?_
  | with_reducible refine (ru_dget2).mpr ?_
  | with_reducible refine (ru_dpop).mpr ?_
  | with_reducible refine (ru_dsort).mpr ?_
  | with_reducible refine (ru_dcomp).mpr ?_
  | with_reducible refine (ru_lenSC).mpr ?_
  | with_reducible refine (ru_sortSC).mpr ?_
  | with_reducible refine (ru_dcStep).mpr ?_
  | with_reducible refine (ru_lenS).mpr ?_
  | with_reducible refine (ru_sortS).mpr ?_
  | with_reducible refine Ru.eq bin_addI ?_
  | with_reducible refine Ru.eq bin_subI ?_
  | with_reducible refine Ru.eq neg_I ?_
  | with_reducible refine Ru.eq tru_b ?_
  | with_reducible refine Ru.eq tru_i ?_
  | with_reducible refine Ru.eq cmp_ltI ?_
  | with_reducible refine Ru.eq cmp_leI ?_
  | with_reducible refine Ru.eq cmp_gtI ?_
  | with_reducible refine Ru.eq cmp_geI ?_
  | with_reducible refine Ru.eq cmp_eqI ?_
  | with_reducible refine Ru.eq cmp_neI ?_
  | with_reducible refine Ru.eq cmp_eqdI ?_
  | with_reducible refine Ru.eq cmp_nedI ?_
  | with_reducible refine Ru.eq cmp_eqS ?_
  | with_reducible refine Ru.eq cmp_neS ?_
  | with_reducible refine Ru.eq cmp_isN ?_
  | with_reducible refine Ru.eq cmp_notN ?_
  | with_reducible refine Ru.eq cmp_isB ?_
  | with_reducible refine Ru.eq idx_tup0 ?_
  | with_reducible refine Ru.eq idx_tup1 ?_
  | with_reducible refine Ru.eq idx_tup2 ?_
  | with_reducible refine Ru.eq idx_tup3 ?_
  | with_reducible refine Ru.eq idx_lst0 ?_
  | with_reducible refine Ru.eq idx_lst1 ?_
  | with_reducible refine Ru.eq bi_lenT ?_
  | with_reducible refine Ru.eq bi_lenL ?_
  | with_reducible refine Ru.eq bi_lenC ?_
  | with_reducible refine Ru.eq bi_lenS ?_
  | with_reducible refine Ru.eq bi_tupT ?_
  | with_reducible refine Ru.eq bi_tupL ?_
  | with_reducible refine Ru.eq bi_min2 ?_
  | with_reducible refine Ru.eq bi_max2 ?_
  | with_reducible refine Ru.eq bi_abs ?_
  | with_reducible refine Ru.eq bi_intI ?_
  | with_reducible refine Ru.eq bi_intB ?_
  | with_reducible refine Ru.eq mk_lst ?_
  | ((with_reducible apply r_sz); (· exact rfl))
  | ((with_reducible apply r_itet); (· first | exact rfl | assumption))
  | ((with_reducible apply r_itef); (· first | exact rfl | assumption))
  | ((with_reducible apply r_callR); (· exact rfl))
  | ((with_reducible apply r_tupA); (· exact rfl); (· exact rfl))
  | ((with_reducible apply r_tupsA); (· exact rfl); (· rfl); (· exact rfl); (· exact rfl))
  | ((with_reducible apply r_aug); (· exact rfl))
  | ((with_reducible apply r_modI); (· first | assumption | omega))
  | ((with_reducible apply r_mulI); (· first | exact .inr (by decide) | exact .inl (by decide) | (unfold mulOk; omega)))
  | ((with_reducible apply r_divI); (· first | assumption | omega))
  | ((with_reducible apply r_addT); (· exact rfl))
  | ((with_reducible apply r_at); (· assumption); (· exact rfl))
  | ((with_reducible apply r_atI); (· exact rfl))
  | ((with_reducible apply r_meth); (· assumption); (· exact rfl))
  | ((with_reducible apply r_methI); (· exact rfl))
  | ((with_reducible apply r_walkB); (· assumption))
  | ((with_reducible apply r_enumB); (· assumption))
  | ((with_reducible apply r_oR); (· exact rfl))
  | ((with_reducible apply r_enumR); (· exact rfl))
  | ((with_reducible apply r_enumSB); (· assumption); (· (unfold smallI; omega)))
  | ((with_reducible apply r_enumSR); (· exact rfl); (· (unfold smallI; omega)))
  | ((with_reducible apply r_rng1R); (· (unfold smallI; omega)))
  | ((with_reducible apply r_rng2R); (· (unfold smallI; omega)))
  | ((with_reducible apply r_isitR); (· exact rfl); (· exact rfl))
  | ((with_reducible apply r_isi); (· exact rfl))
  | ((with_reducible apply r_lenB); (· assumption))
  | with_reducible refine Ru.eq bi_all ?_
  | with_reducible apply r_slcL
  | with_reducible apply r_slcT
  | ((with_reducible apply r_slcB); (· assumption))
  | ((with_reducible apply r_listB); (· assumption))
  | with_reducible apply r_listL
  | with_reducible apply r_listT
  | ((with_reducible apply And.intro); (· first | exact bm_okA ‹_› | exact bm_okI ‹_› | exact bm_okR ‹_› | exact bm_okP ‹_› | exact bm_okC ‹_› | exact dct_some ‹_›))))
/-! ### the law's look -/
set_option maxHeartbeats 400000
section
variable {k p d : Nat} {w n : Int} {wk : Bool} {us : Us} {hs : Hs} {κ : L2.Key} {x : D} {l : List Int} {S : Sto} {bs : List Nat} {Q : D → Sto → Prop} {E : Exc → Sto → Prop}
theorem lshows_ru (h : Bts S p d w us) (B : Bw us hs) (H : Held S x hs) (hw : 0 < w ∧ w < 1073741824) (kd : ∀ y ∈ hs, kindK wk y.1) (hl : hs.length < 62) (q : ∀ S', Keep [] S S' → Q (.bl true) S') :
    Ru (callN Tb (k + 8) 13 [.ref p, x, .int w, keyV κ] S) Q E := by
  have eL := B.has κ
  have nl := nums_len (hs := hs) (κ := κ)
  have gl : (lg us κ).length < 62 := by rw [eL, srtI_len]; omega
  have ul := B.len
  obtain ⟨src, hsrc, hthere⟩ := H.walk
  refine Ru.def (fn := ⟨4, 10, p_l_shows⟩) rfl rfl ?_; simp only [List.map_cons, List.map_nil, List.length_cons, List.length_nil, Nat.reduceAdd, Nat.reduceSub, List.replicate_succ, List.replicate_zero, List.cons_append, List.nil_append]
  and_intros
  refine r_oR hsrc ?_
  refine Ru.lcm (enc := enP) (f := fun y => if decide (y.1 = κ) = true then [.int y.2] else []) hthere (fun y hy => ?_) ?_
  · and_intros
    refine (ru_eq (keyV_ok _).1 (keyV_ok _).1).mpr ⟨⟨by rw [(keyV_ok _).2]; omega, by rw [(keyV_ok _).2]; omega⟩, ?_⟩
    rw [eqv_key]
    by_cases e : y.1 = κ
    · rw [decide_eq_true e]
      and_intros
      exact ⟨rfl, rfl⟩
    · rw [decide_eq_false e]
      and_intros
      exact ⟨rfl, rfl⟩
  have ef : ∀ hs : Hs, (hs.flatMap fun y => if decide (y.1 = κ) = true then [D.int y.2] else []) = (nums hs κ).map .int := by
    intro hs
    induction hs with
    | nil => rfl
    | cons y hs ih =>
      rw [List.flatMap_cons, ih]
      unfold nums
      by_cases e : y.1 = κ
      · simp [e]
      · simp [e]
  rw [ef]
  refine ⟨by rw [List.length_map]; exact sz_le (by omega), ?_⟩
  and_intros
  refine r_sortL (ints_sortable _) ?_
  rw [sortD_ints, ← eL]
  and_intros
  refine Ru.for (fun _ ρ S' => Keep [] S S' ∧ ∃ v5 v6 v7, ρ = [some (.ref p), some x, some (.int w), some (keyV κ), some (dI (lg us κ)), v5, v6, v7, none, none]) ⟨Keep.refl, _, _, _, rfl⟩ (fun _ _ _ _ => trivial) (fun i t ρ S' ht ⟨k0, v5, v6, v7, e⟩ => ?_) fun ρ S' ⟨k0, v5, v6, v7, e⟩ => ?_
  · subst e
    have h' := h.keep k0 (by simp) (by simp)
    have o' := h'.own
    and_intros
    refine bfound_ru h' hw (by omega) fun S1 b hb c1 k1 => ?_
    have h1 := h'.keep k1 (by simp) (by simp)
    have o1 := h1.own
    and_intros
    refine bkept_ru h1 B kd (by omega) fun ks S2 b2 K hb2 c2 k2 => ?_
    have c1' := (k2.eq b (cellAt_lt c1) (by simp)).trans c1
    obtain ⟨kf1, kf2, kf3, kf4⟩ := kept_ok K (by omega)
    and_intros
    refine lpages_ru hw (by omega) ?_
    and_intros
    rw [List.length_map, lpg_len hw.1]
    refine Ru.eq (like_ok 5 (k := k + 1) (is_pair c1') (by simp [D.dp, D.dps, (ints_ok _).2]) (by omega) ?_) ?_
    · have wi : ∀ l : List Int, D.wds 1000 (l.map .int) = true := by
        intro l
        induction l with
        | nil => simp [D.wds]
        | cons z l ih => simp [D.wds, D.wd, ih]
      simp [D.wd, D.wds, wi]
      omega
    and_intros
    have H2 : Held S2 x hs := (H.keep k0 (by simp)).keep (k1.trans k2) (by simp)
    obtain ⟨src2, hsrc2, hthere2⟩ := H2.walk
    refine r_oR hsrc2 ?_
    refine Ru.lcm (enc := enP) (f := fun y => [keyV y.1]) hthere2 (fun y hy => ?_) ?_
    · and_intros
      exact ⟨rfl, rfl⟩
    have e2 : ∀ hs : Hs, (hs.flatMap fun y => [keyV y.1]) = (hs.map (·.1)).map keyV := by
      intro hs
      induction hs with
      | nil => rfl
      | cons y hs ih => rw [List.flatMap_cons, ih]; rfl
    rw [e2]
    refine ⟨by rw [List.length_map, List.length_map]; exact sz_le (by omega), ?_⟩
    and_intros
    refine lkept_ru K (by omega) rfl ?_
    and_intros
    refine Ru.eq (like_ok 5 (k := k + 1) (is_kept c2 kf1) kf2 (by omega) kf3) ?_
    and_intros
    refine r_append c1' (by rw [List.length_map]; omega) fun S3 l3 c3 k3 => ?_
    and_intros
    have ne : b2 ≠ b := by have := cellAt_lt c1; omega
    have c2' := (k3.eq b2 (cellAt_lt c2) (by simp; exact ne)).trans c2
    refine ⟨bm_okA c2', ?_⟩
    and_intros
    refine r_append c2' (by omega) fun S4 l4 c4 k4 => ?_
    and_intros
    refine ⟨?_, _, _, _, rfl⟩
    have lb : S'.length ≤ b := by omega
    have lb2 : S'.length ≤ b2 := by have := k1.le; omega
    have k14 : Keep [b, b2] S' S4 := (((k1.trans k2).mono (by simp)).trans (k3.mono (by simp))).trans (k4.mono (by simp))
    exact k0.trans (k14.fresh fun y hy => by simp at hy; rcases hy with rfl | rfl <;> exact .inr (by omega))
  · subst e
    and_intros
    exact q S' k0
end


end Wk
namespace Wk
open PySem Iv
/-! ### a turn of the law -/
set_option maxHeartbeats 400000
theorem key_of {wk : Bool} {v : D} (h : ValOf wk v) : ∃ κ, v = keyV κ ∧ kindK wk κ := by
  cases wk with
  | true =>
    obtain ⟨z, rfl, _⟩ := h
    exact ⟨.inr z, rfl, rfl⟩
  | false =>
    obtain ⟨i, rfl, _⟩ := h
    exact ⟨.inl i, rfl, rfl⟩
theorem enP_fz (h : L2.Key × Int) : (enP h).fz = true ∧ (enP h).dp ≤ 1 := by
  obtain ⟨a, b⟩ := keyV_ok h.1
  exact ⟨by simp [D.fz, D.fzs, a], by simp [D.dp, D.dps, b]⟩
theorem enPs_fz (hs : Hs) : D.fzs (hs.map enP) = true ∧ D.dps (hs.map enP) ≤ 1 := by
  induction hs with
  | nil => simp [D.fzs, D.dps]
  | cons y hs ih =>
    obtain ⟨a, b⟩ := enP_fz y
    rw [List.map_cons, D.fzs, D.dps, ih.1, a]
    exact ⟨rfl, by omega⟩
theorem eqv_enP (a b : L2.Key × Int) : (enP a).eqv (enP b) = decide (a = b) := by
  obtain ⟨a1, a2⟩ := a
  obtain ⟨b1, b2⟩ := b
  have e : (enP (a1, a2)).eqv (enP (b1, b2)) = (decide (a1 = b1) && decide (a2 = b2)) := by
    simp only [D.eqv, D.eqvs, eqv_key, Bool.and_true]
    first | done | rfl | (congr 1) | (congr 1; rw [Bool.eq_iff_iff]; simp)
  rw [e, Bool.eq_iff_iff]
  simp
theorem any_enP {hs : Hs} {h : L2.Key × Int} : ((hs.map enP).any fun z => z.eqv (enP h)) = true ↔ h ∈ hs := by
  rw [List.any_map, List.any_eq_true]
  constructor
  · rintro ⟨z, hz, e⟩
    have e : (enP z).eqv (enP h) = true := e
    rw [eqv_enP, decide_eq_true_eq] at e
    exact e ▸ hz
  · intro hh
    exact ⟨h, hh, by show (enP h).eqv (enP h) = true; rw [eqv_enP]; exact decide_eq_true rfl⟩
theorem idx_boxN {n : Nat} {c : Int} {xs : List D} {S : Sto} (hc : cellAt S n = some (.lst xs)) (c0 : 0 ≤ c) (c1 : c < xs.length) : ∃ y ∈ xs, idxR (.ref n) (.int c) S = .ok y S := by
  have hl : c.toNat < xs.length := by omega
  refine ⟨xs[c.toNat], List.getElem_mem hl, ?_⟩
  have e : atD xs c = xs[c.toNat]? := by unfold atD; rw [if_pos c0]
  unfold idxR
  simp only [seqOf_box hc, e, List.getElem?_eq_getElem hl]
section
variable {k p d : Nat} {w n : Int} {wk : Bool} {us : Us} {hs : Hs} {κ : L2.Key} {x : D} {l : List Int} {S : Sto} {bs : List Nat} {Q : D → Sto → Prop} {E : Exc → Sto → Prop}
theorem Held.seq (H : Held S x hs) : seqOf S x = some (hs.map enP) ∧ ∀ z, x ≠ .str z := by
  rcases H with ⟨rfl, rfl⟩ | ⟨h, rfl, hc⟩
  · exact ⟨rfl, fun z e => nomatch e⟩
  · exact ⟨seqOf_box hc, fun z e => nomatch e⟩
theorem value_ru {b : Nat} (hb : BagAt S b) (q : ∀ κ S', kindK wk κ → Keep [b] S S' → BagAt S' b → Q (keyV κ) S') : Ru (callN Tb (k + 3) 10 [.ref b, .str (kindS wk)] S) Q E := by
  obtain ⟨v, S', h, hv, kp, hb'⟩ := value_ok (k := k) (w := wk) hb
  obtain ⟨κ, rfl, kk⟩ := key_of hv
  exact Ru.eq h (q κ S' kk kp hb')
end
/-- the law between two turns -/
structure St12 (S : Sto) (p : Nat) (w : Int) (wk : Bool) (x : D) (hs : Hs) : Prop where
  d : ∃ d us, Bts S p d w us ∧ Bw us hs ∧ ∀ h, x = .ref h → h ≠ p ∧ h ≠ d
  held : Held S x hs
  kd : ∀ y ∈ hs, kindK wk y.1
  nd : hs.Nodup


end Wk
namespace Wk
open PySem Iv
local macro_rules | `(tactic| and_intros) => `(tactic| repeat (first
  | with_reducible refine (ru_exs1).mpr ?_
  | with_reducible refine (ru_exs0).mpr ?_
  | with_reducible refine (nx_next).mpr ?_
  | with_reducible refine (nx_ret).mpr ?_
  | with_reducible refine (nx_cont).mpr ?_
  | with_reducible refine (nx_brk).mpr ?_
  | with_reducible refine (nx_raised).mpr ?_
  | with_reducible refine (run_qret).mpr ?_
  | ((with_reducible apply r_var); (· exact rfl))
  | with_reducible refine (run_qnext).mpr ?_
  | with_reducible refine (run_qraised).mpr ?_
  | with_reducible refine (turn_next).mpr ?_
  | with_reducible refine (turn_cont).mpr ?_
  | with_reducible refine (turn_brk).mpr ?_
  | with_reducible refine (turn_ret).mpr ?_
  | with_reducible refine (turn_raised).mpr ?_
  | with_reducible refine (ru_sAsg).mpr ?_
  | with_reducible refine (ru_sExpr).mpr ?_
  | with_reducible refine (ru_sIte).mpr ?_
  | with_reducible refine (ru_sRet).mpr ?_
  | with_reducible refine (ru_sRetN).mpr ?_
  | with_reducible refine (ru_sCont).mpr ?_
  | with_reducible refine (ru_sBrk).mpr ?_
  | with_reducible refine (ru_sPass).mpr ?_
  | with_reducible refine (ru_sFor).mpr ?_
  | with_reducible refine (ru_aVar).mpr ?_
  | with_reducible refine (ru_aTup).mpr ?_
  | with_reducible refine (ru_aTups).mpr ?_
  | with_reducible refine (ru_as0).mpr ?_
  | with_reducible refine (ru_as1).mpr ?_
  | with_reducible refine (ru_aIdx).mpr ?_
  | with_reducible refine (ru_aAttr).mpr ?_
  | with_reducible refine (ru_aSlc).mpr ?_
  | with_reducible refine (ru_aDidx).mpr ?_
  | with_reducible refine (ru_con).mpr ?_
  | with_reducible refine (ru_evs1).mpr ?_
  | with_reducible refine (ru_evs0).mpr ?_
  | with_reducible refine (ru_bin).mpr ?_
  | with_reducible refine (ru_cmp).mpr ?_
  | with_reducible refine (ru_call).mpr ?_
  | with_reducible refine (ru_and).mpr ?_
  | with_reducible refine (ru_or).mpr ?_
  | with_reducible refine (ru_not).mpr ?_
  | with_reducible refine (ru_ife).mpr ?_
  | with_reducible refine (ru_chain).mpr ?_
  | with_reducible refine (ru_neg).mpr ?_
  | with_reducible refine (ru_tup).mpr ?_
  | with_reducible refine (ru_lst).mpr ?_
  | with_reducible refine (ru_idx).mpr ?_
  | with_reducible refine (ru_slc).mpr ?_
  | with_reducible refine (ru_rev).mpr ?_
  | with_reducible refine (ru_lc).mpr ?_
  | with_reducible refine (ru_lc2).mpr ?_
  | with_reducible refine (ru_meth).mpr ?_
  | with_reducible refine (ru_make).mpr ?_
  | with_reducible refine (ru_attr).mpr ?_
  | with_reducible refine (ru_bi).mpr ?_
  | with_reducible refine (ru_bm).mpr ?_
  | with_reducible refine (ru_frz).mpr ?_
  | with_reducible refine (ru_isit).mpr ?_
  | with_reducible refine (ru_evp0).mpr ?_
  | with_reducible refine (ru_evp1).mpr ?_
  | with_reducible refine (ru_intR).mpr ?_
  | with_reducible refine (ru_ifs0).mpr ?_
  | with_reducible refine (ru_ifs1).mpr ?_
  | with_reducible refine (ru_itE).mpr ?_
  | with_reducible refine (ru_rng1).mpr ?_
  | with_reducible refine (ru_rng2).mpr ?_
  | with_reducible refine (ru_enum).mpr ?_
  | with_reducible refine (ru_enumS).mpr ?_
  | with_reducible refine (ru_zip).mpr ?_
  | with_reducible refine (ru_step).mpr ?_
  | with_reducible refine (ru_lcStep).mpr ?_
  | with_reducible refine (ru_lcStepB).mpr ?_
  | with_reducible refine (ru_dnew).mpr ?_
  | with_reducible refine (ru_didx).mpr ?_
  | with_reducible refine (ru_din).mpr ?_
  | with_reducible refine (ru_dget2).mpr ?_
  | with_reducible refine (ru_dpop).mpr ?_
  | with_reducible refine (ru_dsort).mpr ?_
  | with_reducible refine (ru_dcomp).mpr ?_
  | with_reducible refine (ru_lenSC).mpr ?_
  | with_reducible refine (ru_sortSC).mpr ?_
  | with_reducible refine (ru_dcStep).mpr ?_
  | with_reducible refine (ru_lenS).mpr ?_
  | with_reducible refine (ru_sortS).mpr ?_
  | with_reducible refine Ru.eq bin_addI ?_
  | with_reducible refine Ru.eq bin_subI ?_
  | with_reducible refine Ru.eq neg_I ?_
  | with_reducible refine Ru.eq tru_b ?_
  | with_reducible refine Ru.eq tru_i ?_
  | with_reducible refine Ru.eq cmp_ltI ?_
  | with_reducible refine Ru.eq cmp_leI ?_
  | with_reducible refine Ru.eq cmp_gtI ?_
  | with_reducible refine Ru.eq cmp_geI ?_
  | with_reducible refine Ru.eq cmp_eqI ?_
  | with_reducible refine Ru.eq cmp_neI ?_
  | with_reducible refine Ru.eq cmp_eqdI ?_
  | with_reducible refine Ru.eq cmp_nedI ?_
  | with_reducible refine Ru.eq cmp_eqS ?_
  | with_reducible refine Ru.eq cmp_neS ?_
  | with_reducible refine Ru.eq cmp_isN ?_
  | with_reducible refine Ru.eq cmp_notN ?_
  | with_reducible refine Ru.eq cmp_isB ?_
  | with_reducible refine Ru.eq idx_tup0 ?_
  | with_reducible refine Ru.eq idx_tup1 ?_
  | with_reducible refine Ru.eq idx_tup2 ?_
  | with_reducible refine Ru.eq idx_tup3 ?_
  | with_reducible refine Ru.eq idx_lst0 ?_
  | with_reducible refine Ru.eq idx_lst1 ?_
  | with_reducible refine Ru.eq bi_lenT ?_
  | with_reducible refine Ru.eq bi_lenL ?_
  | with_reducible refine Ru.eq bi_lenC ?_
  | with_reducible refine Ru.eq bi_lenS ?_
  | with_reducible refine Ru.eq bi_tupT ?_
  | with_reducible refine Ru.eq bi_tupL ?_
  | with_reducible refine Ru.eq bi_min2 ?_
  | with_reducible refine Ru.eq bi_max2 ?_
  | with_reducible refine Ru.eq bi_abs ?_
  | with_reducible refine Ru.eq bi_intI ?_
  | with_reducible refine Ru.eq bi_intB ?_
  | with_reducible refine Ru.eq mk_lst ?_
  | ((with_reducible apply r_sz); (· exact rfl))
  | ((with_reducible apply r_itet); (· first | exact rfl | assumption))
  | ((with_reducible apply r_itef); (· first | exact rfl | assumption))
  | ((with_reducible apply r_callR); (· exact rfl))
  | ((with_reducible apply r_tupA); (· exact rfl); (· exact rfl))
  | ((with_reducible apply r_tupsA); (· exact rfl); (· rfl); (· exact rfl); (· exact rfl))
  | ((with_reducible apply r_aug); (· exact rfl))
  | ((with_reducible apply r_modI); (· first | assumption | omega))
  | ((with_reducible apply r_mulI); (· first | exact .inr (by decide) | exact .inl (by decide) | (unfold mulOk; omega)))
  | ((with_reducible apply r_divI); (· first | assumption | omega))
  | ((with_reducible apply r_addT); (· exact rfl))
  | ((with_reducible apply r_at); (· assumption); (· exact rfl))
  | ((with_reducible apply r_atI); (· exact rfl))
  | ((with_reducible apply r_meth); (· assumption); (· exact rfl))
  | ((with_reducible apply r_methI); (· exact rfl))
  | ((with_reducible apply r_walkB); (· assumption))
  | ((with_reducible apply r_enumB); (· assumption))
  | ((with_reducible apply r_oR); (· exact rfl))
  | ((with_reducible apply r_enumR); (· exact rfl))
  | ((with_reducible apply r_enumSB); (· assumption); (· (unfold smallI; omega)))
  | ((with_reducible apply r_enumSR); (· exact rfl); (· (unfold smallI; omega)))
  | ((with_reducible apply r_rng1R); (· (unfold smallI; omega)))
  | ((with_reducible apply r_rng2R); (· (unfold smallI; omega)))
  | ((with_reducible apply r_isitR); (· exact rfl); (· exact rfl))
  | ((with_reducible apply r_isi); (· exact rfl))
  | ((with_reducible apply r_lenB); (· assumption))
  | with_reducible refine Ru.eq bi_all ?_
  | with_reducible apply r_slcL
  | with_reducible apply r_slcT
  | ((with_reducible apply r_slcB); (· assumption))
  | ((with_reducible apply r_listB); (· assumption))
  | with_reducible apply r_listL
  | with_reducible apply r_listT
  | ((with_reducible apply And.intro); (· first | exact bm_okA ‹_› | exact bm_okI ‹_› | exact bm_okR ‹_› | exact bm_okP ‹_› | exact bm_okC ‹_› | exact dct_some ‹_›))))
local macro_rules | `(tactic| subst_eqs) => `(tactic| repeat (first
  | with_reducible refine (ru_exs1).mpr ?_
  | with_reducible refine (ru_exs0).mpr ?_
  | with_reducible refine (nx_next).mpr ?_
  | with_reducible refine (nx_ret).mpr ?_
  | with_reducible refine (nx_cont).mpr ?_
  | with_reducible refine (nx_brk).mpr ?_
  | with_reducible refine (nx_raised).mpr ?_
  | with_reducible refine (run_qret).mpr ?_
  | ((with_reducible apply r_var); (· exact rfl))
  | with_reducible refine (run_qnext).mpr ?_
  | with_reducible refine (run_qraised).mpr ?_
  | with_reducible refine (turn_next).mpr ?_
  | with_reducible refine (turn_cont).mpr ?_
  | with_reducible refine (turn_brk).mpr ?_
  | with_reducible refine (turn_ret).mpr ?_
  | with_reducible refine (turn_raised).mpr ?_
  | with_reducible refine (ru_sAsg).mpr ?_
  | with_reducible refine (ru_sExpr).mpr ?_
  | with_reducible refine (ru_sRet).mpr ?_
  | with_reducible refine (ru_sRetN).mpr ?_
  | with_reducible refine (ru_sCont).mpr ?_
  | with_reducible refine (ru_sBrk).mpr ?_
  | with_reducible refine (ru_sPass).mpr ?_
  | with_reducible refine (ru_sFor).mpr ?_
  | with_reducible refine (ru_aVar).mpr ?_
  | with_reducible refine (ru_aTup).mpr ?_
  | with_reducible refine (ru_aTups).mpr ?_
  | with_reducible refine (ru_as0).mpr ?_
  | with_reducible refine (ru_as1).mpr ?_
  | with_reducible refine (ru_aIdx).mpr ?_
  | with_reducible refine (ru_aAttr).mpr ?_
  | with_reducible refine (ru_aSlc).mpr ?_
  | with_reducible refine (ru_aDidx).mpr ?_
  | with_reducible refine (ru_con).mpr ?_
  | with_reducible refine (ru_evs1).mpr ?_
  | with_reducible refine (ru_evs0).mpr ?_
  | with_reducible refine (ru_bin).mpr ?_
  | with_reducible refine (ru_cmp).mpr ?_
  | with_reducible refine (ru_call).mpr ?_
  | with_reducible refine (ru_and).mpr ?_
  | with_reducible refine (ru_or).mpr ?_
  | with_reducible refine (ru_not).mpr ?_
  | with_reducible refine (ru_ife).mpr ?_
  | with_reducible refine (ru_chain).mpr ?_
  | with_reducible refine (ru_neg).mpr ?_
  | with_reducible refine (ru_tup).mpr ?_
  | with_reducible refine (ru_lst).mpr ?_
  | with_reducible refine (ru_idx).mpr ?_
  | with_reducible refine (ru_slc).mpr ?_
  | with_reducible refine (ru_rev).mpr ?_
  | with_reducible refine (ru_lc).mpr ?_
  | with_reducible refine (ru_lc2).mpr ?_
  | with_reducible refine (ru_meth).mpr ?_
  | with_reducible refine (ru_make).mpr ?_
  | with_reducible refine (ru_attr).mpr ?_
  | with_reducible refine (ru_bi).mpr ?_
  | with_reducible refine (ru_bm).mpr ?_
  | with_reducible refine (ru_frz).mpr ?_
  | with_reducible refine (ru_isit).mpr ?_
  | with_reducible refine (ru_evp0).mpr ?_
  | with_reducible refine (ru_evp1).mpr ?_
  | with_reducible refine (ru_intR).mpr ?_
  | with_reducible refine (ru_ifs0).mpr ?_
  | with_reducible refine (ru_ifs1).mpr ?_
  | with_reducible refine (ru_itE).mpr ?_
  | with_reducible refine (ru_rng1).mpr ?_
  | with_reducible refine (ru_rng2).mpr ?_
  | with_reducible refine (ru_enum).mpr ?_
  | with_reducible refine (ru_enumS).mpr ?_
  | with_reducible refine (ru_zip).mpr ?_
  | with_reducible refine (ru_step).mpr ?_
  | with_reducible refine (ru_lcStep).mpr ?_
  | with_reducible refine (ru_lcStepB).mpr ?_
  | with_reducible refine (ru_dnew).mpr ?_
  | with_reducible refine (ru_didx).mpr ?_
  | with_reducible refine (ru_din).mpr ?_
  | with_reducible refine (ru_dget2).mpr ?_
  | with_reducible refine (ru_dpop).mpr ?_
  | with_reducible refine (ru_dsort).mpr ?_
  | with_reducible refine (ru_dcomp).mpr ?_
  | with_reducible refine (ru_lenSC).mpr ?_
  | with_reducible refine (ru_sortSC).mpr ?_
  | with_reducible refine (ru_dcStep).mpr ?_
  | with_reducible refine (ru_lenS).mpr ?_
  | with_reducible refine (ru_sortS).mpr ?_
  | with_reducible refine Ru.eq bin_addI ?_
  | with_reducible refine Ru.eq bin_subI ?_
  | with_reducible refine Ru.eq neg_I ?_
  | with_reducible refine Ru.eq tru_b ?_
  | with_reducible refine Ru.eq tru_i ?_
  | with_reducible refine Ru.eq cmp_ltI ?_
  | with_reducible refine Ru.eq cmp_leI ?_
  | with_reducible refine Ru.eq cmp_gtI ?_
  | with_reducible refine Ru.eq cmp_geI ?_
  | with_reducible refine Ru.eq cmp_eqI ?_
  | with_reducible refine Ru.eq cmp_neI ?_
  | with_reducible refine Ru.eq cmp_eqdI ?_
  | with_reducible refine Ru.eq cmp_nedI ?_
  | with_reducible refine Ru.eq cmp_eqS ?_
  | with_reducible refine Ru.eq cmp_neS ?_
  | with_reducible refine Ru.eq cmp_isN ?_
  | with_reducible refine Ru.eq cmp_notN ?_
  | with_reducible refine Ru.eq cmp_isB ?_
  | with_reducible refine Ru.eq idx_tup0 ?_
  | with_reducible refine Ru.eq idx_tup1 ?_
  | with_reducible refine Ru.eq idx_tup2 ?_
  | with_reducible refine Ru.eq idx_tup3 ?_
  | with_reducible refine Ru.eq idx_lst0 ?_
  | with_reducible refine Ru.eq idx_lst1 ?_
  | with_reducible refine Ru.eq bi_lenT ?_
  | with_reducible refine Ru.eq bi_lenL ?_
  | with_reducible refine Ru.eq bi_lenC ?_
  | with_reducible refine Ru.eq bi_lenS ?_
  | with_reducible refine Ru.eq bi_tupT ?_
  | with_reducible refine Ru.eq bi_tupL ?_
  | with_reducible refine Ru.eq bi_min2 ?_
  | with_reducible refine Ru.eq bi_max2 ?_
  | with_reducible refine Ru.eq bi_abs ?_
  | with_reducible refine Ru.eq bi_intI ?_
  | with_reducible refine Ru.eq bi_intB ?_
  | with_reducible refine Ru.eq mk_lst ?_
  | ((with_reducible apply r_sz); (· exact rfl))
  | ((with_reducible apply r_itet); (· first | exact rfl | assumption))
  | ((with_reducible apply r_itef); (· first | exact rfl | assumption))
  | ((with_reducible apply r_callR); (· exact rfl))
  | ((with_reducible apply r_tupA); (· exact rfl); (· exact rfl))
  | ((with_reducible apply r_tupsA); (· exact rfl); (· rfl); (· exact rfl); (· exact rfl))
  | ((with_reducible apply r_aug); (· exact rfl))
  | ((with_reducible apply r_modI); (· first | assumption | omega))
  | ((with_reducible apply r_mulI); (· first | exact .inr (by decide) | exact .inl (by decide) | (unfold mulOk; omega)))
  | ((with_reducible apply r_divI); (· first | assumption | omega))
  | ((with_reducible apply r_addT); (· exact rfl))
  | ((with_reducible apply r_at); (· assumption); (· exact rfl))
  | ((with_reducible apply r_atI); (· exact rfl))
  | ((with_reducible apply r_meth); (· assumption); (· exact rfl))
  | ((with_reducible apply r_methI); (· exact rfl))
  | ((with_reducible apply r_walkB); (· assumption))
  | ((with_reducible apply r_enumB); (· assumption))
  | ((with_reducible apply r_oR); (· exact rfl))
  | ((with_reducible apply r_enumR); (· exact rfl))
  | ((with_reducible apply r_enumSB); (· assumption); (· (unfold smallI; omega)))
  | ((with_reducible apply r_enumSR); (· exact rfl); (· (unfold smallI; omega)))
  | ((with_reducible apply r_rng1R); (· (unfold smallI; omega)))
  | ((with_reducible apply r_rng2R); (· (unfold smallI; omega)))
  | ((with_reducible apply r_isitR); (· exact rfl); (· exact rfl))
  | ((with_reducible apply r_isi); (· exact rfl))
  | ((with_reducible apply r_lenB); (· assumption))
  | with_reducible refine Ru.eq bi_all ?_
  | with_reducible apply r_slcL
  | with_reducible apply r_slcT
  | ((with_reducible apply r_slcB); (· assumption))
  | ((with_reducible apply r_listB); (· assumption))
  | with_reducible apply r_listL
  | with_reducible apply r_listT
  | ((with_reducible apply And.intro); (· first | exact bm_okA ‹_› | exact bm_okI ‹_› | exact bm_okR ‹_› | exact bm_okP ‹_› | exact bm_okC ‹_› | exact dct_some ‹_›))))
/-! ### the law -/
set_option maxHeartbeats 800000
theorem lpg_mem2 {us : Us} {w n : Int} {κ : L2.Key} {l : List Int} (hp : l.Perm (lg us κ)) (hw : 0 < w) : decide ((n + w - 1) / w ∈ lpg l w) = decide ((n - 1) / w ∈ pgs us w κ) := by
  rw [decide_eq_decide, ← lpg_mem hw]
  unfold lpg
  rw [srt_nub_mem, srt_nub_mem]
  exact (hp.map _).mem_iff
theorem filter_flat (h : L2.Key × Int) : ∀ hs : Hs, (hs.flatMap fun y => if decide (y ≠ h) = true then [enP y] else []) = (hs.filter fun y => decide (y ≠ h)).map enP
  | [] => rfl
  | y :: hs => by
    rw [List.flatMap_cons, filter_flat h hs]
    by_cases e : y = h
    · simp [e]
    · simp [e]
theorem nums_flat (κ : L2.Key) : ∀ hs : Hs, (hs.flatMap fun y => if decide (y.1 = κ) = true then [D.int y.2] else []) = (nums hs κ).map .int
  | [] => rfl
  | y :: hs => by
    rw [List.flatMap_cons, nums_flat κ hs]
    unfold nums
    by_cases e : y.1 = κ
    · simp [e]
    · simp [e]
theorem Held.there {S S' : Sto} {x : D} {hs : Hs} {src : Src} (H : Held S x hs) (H' : Held S' x hs) (h : walkOf S x = some (src, hs.map enP)) : src.there S' := by
  rcases H with ⟨rfl, rfl⟩ | ⟨a, rfl, hc⟩
  · cases h
    exact trivial
  · rw [walk_box hc] at h
    cases h
    rcases H' with ⟨e, _⟩ | ⟨b, e, hc'⟩
    · cases e
    · cases e
      exact hc'
theorem kept_nil {ks : List D} (h : Kept [] ks) : ks = [] := by
  rcases h with ⟨is, e, rfl⟩ | ⟨z, zs, e, _⟩
  · cases is with
    | nil => simp [srtI, nubK]
    | cons a l => cases e
  · cases e
theorem drop_filter {hs : Hs} {i : Nat} {y : L2.Key × Int} (nd : hs.Nodup) (h : hs[i]? = some y) : (hs.drop i).filter (fun z => decide (z ≠ y)) = hs.drop (i + 1) := by
  obtain ⟨hi, e⟩ := List.getElem?_eq_some_iff.mp h
  have e1 : hs.drop i = y :: hs.drop (i + 1) := by rw [List.drop_eq_getElem_cons hi, e]
  have n1 : (hs.drop i).Nodup := nd.sublist (List.drop_sublist _ _)
  rw [e1] at n1 ⊢
  obtain ⟨h1, h2⟩ := List.nodup_cons.mp n1
  rw [List.filter_cons_of_neg (by simp)]
  exact List.filter_eq_self.mpr fun z hz => decide_eq_true fun q => h1 (q ▸ hz)
theorem told (ns : List Int) (hl : ns.length ≤ 63) : ∃ S, callN Tb 12 14 [.scr (ns.map .int)] [] = .ok (.bl true) S := by
  have main : Ru (callN Tb 12 14 [.scr (ns.map .int)] []) (fun d _ => d = .bl true) noE := by
    refine Ru.def (fn := ⟨1, 16, p_law⟩) rfl rfl ?_; simp only [List.map_cons, List.map_nil, List.length_cons, List.length_nil, Nat.reduceAdd, Nat.reduceSub, List.replicate_succ, List.replicate_zero, List.cons_append, List.nil_append]
    and_intros
    refine bag_ru (by omega) (by omega) fun S1 b _ b1 k1 => ?_
    and_intros
    refine take_ru b1 (by omega) (by omega) fun c0 S2 c00 c01 k2 b2 => ?_
    and_intros
    refine take_ru b2 (by omega) (by omega) fun c1 S3 c10 c11 k3 b3 => ?_
    obtain ⟨w, hwi, hw2⟩ : ∃ w : Int, idxR (.tup [.int (2 + c0), .int 2, .int 16, .int 64]) (.int c1) S3 = .ok (.int w) S3 ∧ 2 ≤ w ∧ w ≤ 64 := by
      have : c1 = 0 ∨ c1 = 1 ∨ c1 = 2 ∨ c1 = 3 := by omega
      rcases this with rfl | rfl | rfl | rfl
      · exact ⟨_, rfl, by omega, by omega⟩
      · exact ⟨_, rfl, by omega, by omega⟩
      · exact ⟨_, rfl, by omega, by omega⟩
      · exact ⟨_, rfl, by omega, by omega⟩
    have hw : 0 < w ∧ w < 1073741824 := by omega
    refine Ru.eq hwi ?_
    and_intros
    refine take_ru b3 (by omega) (by omega) fun c2 S4 c20 c21 k4 b4 => ?_
    obtain ⟨wk, hwk⟩ : ∃ wk : Bool, idxR (.tup [.str "number", .str "word"]) (.int c2) S4 = .ok (.str (kindS wk)) S4 := by
      have : c2 = 0 ∨ c2 = 1 := by omega
      rcases this with rfl | rfl
      · exact ⟨false, rfl⟩
      · exact ⟨true, rfl⟩
    refine Ru.eq hwk ?_
    and_intros
    refine r_make fun S5 p hp o5 k5 => ?_
    and_intros
    refine binit_ru o5 fun S6 d hd1 hd2 bt k6 => ⟨rfl, ?_⟩
    and_intros
    rw [List.length_map]
    generalize hM : Int.toNat (if (if ((ns.length : Nat) : Int) - 1 < 60 then ((ns.length : Nat) : Int) - 1 else 60) > 14 then (if ((ns.length : Nat) : Int) - 1 < 60 then ((ns.length : Nat) : Int) - 1 else 60) else 14) = M
    have hM2 : M ≤ 60 := by
      rw [← hM]
      split <;> split <;> omega
    refine Ru.for (fun i ρ S => ∃ x hs v1 v6 v7 v8 v9 v10 v11 v12 v13, St12 S p w wk x hs ∧ hs.length ≤ i ∧ ρ = [some (.scr (ns.map .int)), v1, some (.int w), some (.str (kindS wk)), some (.ref p), some x, v6, v7, v8, v9, v10, v11, v12, v13, none, none])
      ⟨.lst [], [], _, _, _, _, _, _, _, _, _, ⟨⟨d, [], bt, Bw.nil, fun h e => (nomatch e)⟩, .inl ⟨rfl, rfl⟩, fun y hy => (nomatch hy), List.nodup_nil⟩, Nat.zero_le _, rfl⟩ (fun _ _ _ _ => trivial) (fun i t ρ S ht ⟨x, hs, v1, v6, v7, v8, v9, v10, v11, v12, v13, st, hlen, hρ⟩ => ?_) fun ρ S ⟨x, hs, v1, v6, v7, v8, v9, v10, v11, v12, v13, st, hlen, hρ⟩ => ?_
    · subst hρ
      obtain ⟨rfl, hi⟩ := rng_get ht
      have hi : i < 60 := by omega
      obtain ⟨⟨d, us, B, W, hx⟩, H, kd, nd⟩ := st
      and_intros
      refine bag_ru (by omega) (by omega) fun T1 b hb b1 k1 => ?_
      have bp : b ≠ p := by have := cellAt_lt B.own; omega
      have bd : b ≠ d := by have := cellAt_lt B.dct; omega
      have bh : ∀ h, x = .ref h → h ≠ b := fun h e => by
        rcases H with ⟨e2, _⟩ | ⟨h2, e2, hc⟩
        · rw [e] at e2; cases e2
        · rw [e] at e2
          cases e2
          have := cellAt_lt hc
          omega
      and_intros
      refine value_ru (k := 8) b1 fun κ0 T2 kk0 k2 b2 => ?_
      and_intros
      refine take_ru b2 (by omega) (by omega) fun e0 T3 e00 e01 k3 b3 => ?_
      obtain ⟨m, hmi, hm⟩ : ∃ m : Int, idxR (.tup [.int 20, .int 60, .int 999]) (.int e0) T3 = .ok (.int m) T3 ∧ 20 ≤ m ∧ m ≤ 999 := by
        have : e0 = 0 ∨ e0 = 1 ∨ e0 = 2 := by omega
        rcases this with rfl | rfl | rfl
        · exact ⟨_, rfl, by omega, by omega⟩
        · exact ⟨_, rfl, by omega, by omega⟩
        · exact ⟨_, rfl, by omega, by omega⟩
      refine Ru.eq hmi ?_
      and_intros
      refine take_ru b3 (by omega) (by omega) fun n0 T4 n00 n01 k4 b4 => ?_
      have k14 : Keep [b] S T4 := (((k1.mono (by simp)).trans k2).trans k3).trans k4
      have kH : ∀ {T : Sto}, Keep [b] S T → Held T x hs := fun kp => H.keep kp fun h e => by simp; exact bh h e
      subst_eqs
      refine Ru.join (fun ρ' T => ∃ h : L2.Key × Int, ρ' = [some (.scr (ns.map .int)), some (.ref b), some (.int w), some (.str (kindS wk)), some (.ref p), some x, some (.int (0 + (i : Int))), some (enP h), v8, v9, v10, v11, v12, v13, none, none] ∧ kindK wk h.1 ∧ Keep [b] S T ∧ BagAt T b) ?_ ?_
      · and_intros
        have skip : ∀ {T : Sto}, Keep [b] S T → BagAt T b → ∃ ρ', Fl.next [some (.scr (ns.map .int)), some (.ref b), some (.int w), some (.str (kindS wk)), some (.ref p), some x, some (.int (0 + (i : Int))), some (enP (κ0, 1 + n0)), v8, v9, v10, v11, v12, v13, none, none] = .next ρ' ∧ ∃ h : L2.Key × Int, ρ' = [some (.scr (ns.map .int)), some (.ref b), some (.int w), some (.str (kindS wk)), some (.ref p), some x, some (.int (0 + (i : Int))), some (enP h), v8, v9, v10, v11, v12, v13, none, none] ∧ kindK wk h.1 ∧ Keep [b] S T ∧ BagAt T b := fun kp bp => ⟨_, rfl, (κ0, 1 + n0), rfl, kk0, kp, bp⟩
        rcases kH k14 with ⟨rfl, rfl⟩ | ⟨h, rfl, hc⟩
        · refine (ru_ne nil_ok.1 nil_ok.1).mpr ⟨⟨nil_ok.2, nil_ok.2⟩, ?_⟩
          rw [eqv_nil]
          and_intros
          exact skip k14 b4
        · refine r_neB hc nil_ok.1 nil_ok.2 ⟨(enPs_fz hs).1, by have := (enPs_fz hs).2; omega⟩ ?_
          rw [eqv_nil]
          cases hs with
          | nil =>
            and_intros
            exact skip k14 b4
          | cons h0 hs =>
            and_intros
            refine take_ru b4 (by omega) (by omega) fun e1 T5 e10 e11 k5 b5 => ?_
            have hc5 := (k5.eq h (cellAt_lt hc) (by simp; exact bh h rfl)).trans hc
            and_intros
            by_cases g : e1 = 0
            · subst g
              and_intros
              have hlen' : hs.length + 1 ≤ i := hlen
              refine take_ru b5 (by rw [List.length_map, List.length_cons]; omega) (by rw [List.length_map, List.length_cons]; omega) fun e2 T6 e20 e21 k6 b6 => ?_
              have hc6 := (k6.eq h (cellAt_lt hc5) (by simp; exact bh h rfl)).trans hc5
              obtain ⟨y, hy, hyi⟩ := idx_boxN hc6 e20 e21
              refine Ru.eq hyi ?_
              obtain ⟨z, hz, rfl⟩ := List.mem_map.mp hy
              and_intros
              exact ⟨_, rfl, z, rfl, kd z hz, (k14.trans k5).trans k6, b6⟩
            · rw [beq_eq_false_iff_ne.mpr g]
              and_intros
              exact skip (k14.trans k5) b5
      · intro ρ' T5 ⟨h, e, kh, k5, b5⟩
        subst e
        obtain ⟨κ, n⟩ := h
        have B5 := B.keep k5 (by simp; exact fun z => bp z.symm) (by simp; exact fun z => bd z.symm)
        have H5 := kH k5
        obtain ⟨src, hsrc, hth⟩ := H5.walk
        and_intros
        refine r_oR hsrc ?_
        refine Ru.lcm (enc := enP) (f := fun y => if decide (y ≠ (κ, n)) = true then [enP y] else []) hth (fun y hy => ?_) ?_
        · and_intros
          refine (ru_ne (enP_fz y).1 (enP_fz (κ, n)).1).mpr ⟨⟨by have := (enP_fz y).2; omega, by have := (enP_fz (κ, n)).2; omega⟩, ?_⟩
          rw [eqv_enP]
          by_cases g : y = (κ, n)
          · rw [decide_eq_true g]
            and_intros
            exact ⟨by simp [g], rfl⟩
          · rw [decide_eq_false g]
            and_intros
            exact ⟨by simp [g], rfl⟩
        rw [filter_flat]
        have fl := List.length_filter_le (fun y => decide (y ≠ (κ, n))) hs
        refine ⟨by rw [List.length_map]; exact sz_le (by omega), ?_⟩
        refine r_new fun T6 o ho co k6 => ?_
        have B6 := B5.keep k6 (by simp) (by simp)
        have H6 := H5.keep k6 (by simp)
        have b6 := b5.keep k6 (by simp)
        have op : o ≠ p := by have := cellAt_lt B5.own; omega
        have od : o ≠ d := by have := cellAt_lt B5.dct; omega
        have ob : o ≠ b := by have := b5.lt; omega
        have nl := nums_len (hs := hs) (κ := κ)
        have gl : (lg us κ).length ≤ hs.length := by rw [W.has, srtI_len]; exact nl
        have ul := W.len
        have own6 := B6.own
        subst_eqs
        refine Ru.join (fun ρ' T => ∃ (hs' : Hs) (us' : Us) (t : Int) (u13 : Option D), ρ' = [some (.scr (ns.map .int)), some (.ref b), some (.int w), some (.str (kindS wk)), some (.ref p), some x, some (.int (0 + (i : Int))), some (enP (κ, n)), some (keyV κ), some (.int n), some (.ref o), some (.int t), some (.int t), u13, none, none] ∧
          Bts T p d w us' ∧ Bw us' hs' ∧ cellAt T o = some (.lst (hs'.map enP)) ∧ (∀ y ∈ hs', kindK wk y.1) ∧ hs'.Nodup ∧ hs'.length ≤ i + 1 ∧ BagAt T b) ?_ ?_
        · and_intros
          obtain ⟨q1, q2⟩ := H6.seq
          refine (ru_in q1 q2).mpr ⟨⟨(enP_fz (κ, n)).1, by have := (enP_fz (κ, n)).2; omega, (enPs_fz hs).1, by have := (enPs_fz hs).2; omega⟩, ?_⟩
          rcases Classical.em ((κ, n) ∈ hs) with hm | hm
          · rw [any_enP.mpr hm]
            and_intros
            have hk : ∃ l, lk us κ = some l := by
              obtain ⟨u, hu, e⟩ := List.mem_map.mp (W.key.mpr (List.mem_map.mpr ⟨_, hm, rfl⟩))
              exact ⟨u.2, by rw [← show u.1 = κ from e]; exact lk_of W.once hu⟩
            refine bdrop_ru (k := 10) (κ := κ) (n := n) B6 hk (by omega) (by omega) fun T7 us' hus B7 k7 => ?_
            and_intros
            refine ⟨_, rfl, hs.filter (fun y => decide (y ≠ (κ, n))), us', 2, _, rfl, B7, ?_, (k7.eq o (cellAt_lt co) (by simp; exact od)).trans co, fun y hy => kd y (List.mem_filter.mp hy).1, nd.filter _, by omega, b6.keep k7 (by simp; exact bd)⟩
            rw [hus]
            split
            · rename_i g
              exact W.gone g []
            · rename_i g
              exact W.set _ rfl g
          · rw [Bool.eq_false_iff.mpr fun z => hm (any_enP.mp z)]
            and_intros
            obtain ⟨src6, hsrc6, hth6⟩ := H6.walk
            refine r_oR hsrc6 ?_
            refine Ru.lcm (enc := enP) (f := fun y => if decide (y.1 = κ) = true then [.int y.2] else []) hth6 (fun y hy => ?_) ?_
            · and_intros
              refine (ru_eq (keyV_ok _).1 (keyV_ok _).1).mpr ⟨⟨by rw [(keyV_ok _).2]; omega, by rw [(keyV_ok _).2]; omega⟩, ?_⟩
              rw [eqv_key]
              by_cases e : y.1 = κ
              · rw [decide_eq_true e]
                and_intros
                exact ⟨by simp [e], rfl⟩
              · rw [decide_eq_false e]
                and_intros
                exact ⟨by simp [e], rfl⟩
            rw [nums_flat]
            refine ⟨by rw [List.length_map]; exact sz_le (by omega), ?_⟩
            and_intros
            refine lpages_ru (k := 10) hw (by omega) ?_
            and_intros
            refine bput_ru (k := 8) (κ := κ) (n := n) B6 hw (by omega) (by omega) fun T7 B7 k7 => ?_
            and_intros
            refine (ru_in (ys := (lpg (nums hs κ) w).map .int) rfl (by intro z e; cases e)).mpr ⟨⟨by simp [D.fz], by simp [D.dp], (ints_ok _).1, by rw [(ints_ok _).2]; omega⟩, ?_⟩
            rw [any_int, lpg_mem2 (us := us) (by rw [W.has]; exact (srtI_perm _).symm) hw.1]
            and_intros
            have eo : (hs.filter fun y => decide (y ≠ (κ, n))) = hs := List.filter_eq_self.mpr fun y hy => decide_eq_true fun e => hm (e ▸ hy)
            rw [eo] at co
            have c7 := (k7.eq o (cellAt_lt co) (by simp; exact od)).trans co
            refine ⟨bm_okA c7, ?_⟩
            and_intros
            refine r_append c7 (by rw [List.length_map]; omega) fun T8 l8 c8 k8 => ?_
            and_intros
            refine ⟨_, rfl, hs ++ [(κ, n)], _, _, _, rfl, B7.keep k8 (by simp; exact fun z => op z.symm) (by simp; exact fun z => od z.symm), W.put, by rw [List.map_append]; exact c8, fun y hy => ?_, List.nodup_append.mpr ⟨nd, by simp, fun a ha c hc e => hm (by rw [← List.mem_singleton.mp hc, ← e]; exact ha)⟩, by rw [List.length_append]; simp; omega, (b6.keep k7 (by simp; exact bd)).keep k8 (by simp; exact fun z => ob z.symm)⟩
            rcases List.mem_append.mp hy with q | q
            · exact kd y q
            · rw [List.mem_singleton.mp q]
              exact kh
        · intro ρ' T ⟨hs', us', t, u13, e, B', W', c', kd', nd', l', b'⟩
          subst e
          have H' : Held T (.ref o) hs' := .inr ⟨o, rfl, c'⟩
          and_intros
          refine Ru.eq (like_ok2 0 (k := 10) (S := T) (x := .int t) (y := .int t) (d := .int t) (Is.of (by simp [D.fz])) (Is.of (by simp [D.fz])) (by simp [D.dp]) (by omega) (by simp [D.wd])) ?_
          and_intros
          refine lshows_ru (k := 3) B' W' H' hw kd' (by omega) fun T1 k1 => ?_
          and_intros
          refine value_ru (k := 8) (b'.keep k1 (by simp)) fun κ2 T2 kk2 k2 b2 => ?_
          have B2 := (B'.keep k1 (by simp) (by simp)).keep k2 (by simp; exact fun z => bp z.symm) (by simp; exact fun z => bd z.symm)
          have H2 := (H'.keep k1 (by simp)).keep k2 (fun h e => by cases e; simp; exact ob)
          and_intros
          refine lshows_ru (k := 3) B2 W' H2 hw kd' (by omega) fun T3 k3 => ?_
          and_intros
          exact ⟨_, hs', _, _, _, _, _, _, _, _, _, ⟨⟨d, us', B2.keep k3 (by simp) (by simp), W', fun h e => by cases e; exact ⟨op, od⟩⟩, H2.keep k3 (by simp), kd', nd'⟩, l', rfl⟩
    · subst hρ
      obtain ⟨⟨d, us, B, W, hx⟩, H, kd, nd⟩ := st
      obtain ⟨src, hsrc, hth⟩ := H.walk
      rw [rng_len] at hlen
      have h60 : hs.length ≤ 60 := by omega
      and_intros
      refine r_oR hsrc ?_
      refine Ru.for (fun i ρ S' => ∃ us' u8 u9, ρ = [some (.scr (ns.map .int)), v1, some (.int w), some (.str (kindS wk)), some (.ref p), some x, v6, v7, v8, v9, v10, v11, v12, v13, u8, u9] ∧ Bts S' p d w us' ∧ Bw us' (hs.drop i) ∧ Held S' x hs) ⟨us, _, _, rfl, B, W, H⟩ (fun i ρ S' ⟨_, _, _, _, _, _, H'⟩ => H.there H' hsrc) (fun i y ρ S' hy ⟨us', u8, u9, e, B', W', H'⟩ => ?_) fun ρ S' ⟨us', u8, u9, e, B', W', H'⟩ => ?_
      · subst e
        obtain ⟨⟨κ, n⟩, hz, rfl⟩ := get_map hy
        have own' := B'.own
        have dl : (hs.drop i).length ≤ hs.length := by rw [List.length_drop]; omega
        have nl := nums_len (hs := hs.drop i) (κ := κ)
        have gl : (lg us' κ).length ≤ 60 := by rw [W'.has, srtI_len]; omega
        have ul := W'.len
        obtain ⟨hlt, hge⟩ := List.getElem?_eq_some_iff.mp hz
        have e1 : hs.drop i = (κ, n) :: hs.drop (i + 1) := by rw [List.drop_eq_getElem_cons hlt, hge]
        have hk : ∃ l, lk us' κ = some l := by
          obtain ⟨u, hu, e⟩ := List.mem_map.mp (W'.key.mpr (List.mem_map.mpr ⟨(κ, n), by rw [e1]; exact List.mem_cons_self .., rfl⟩))
          exact ⟨u.2, by rw [← show u.1 = κ from e]; exact lk_of W'.once hu⟩
        and_intros
        refine bdrop_ru (k := 10) (κ := κ) (n := n) B' hk (by omega) (by omega) fun T7 us2 hus B7 k7 => ?_
        and_intros
        refine ⟨us2, _, _, rfl, B7, ?_, H'.keep k7 fun h e => by simp; exact (hx h e).2⟩
        rw [← drop_filter nd hz, hus]
        split
        · rename_i g
          exact W'.gone g []
        · rename_i g
          exact W'.set _ rfl g
      · subst e
        rw [List.length_map, List.drop_length] at W'
        have own' := B'.own
        and_intros
        refine bkept_ru (wk := wk) B' W' (fun y hy => nomatch hy) (by decide) fun ks S2 b2 K hb2 c2 k2 => ?_
        have e := kept_nil K
        subst e
        and_intros
        refine r_eqB c2 nil_ok.1 nil_ok.2 (by simp [D.fzs, D.dps]) ?_
        rw [eqv_nil]
        and_intros
        refine r_make fun S5 p5 hp5 o5 k5 => ?_
        and_intros
        refine binit_ru o5 fun S6 d6 hd61 hd62 bt6 k6 => ⟨rfl, ?_⟩
        have own6 := bt6.own
        and_intros
        refine bkept_ru (wk := wk) bt6 Bw.nil (fun y hy => nomatch hy) (by decide) fun ks S7 b7 K7 hb7 c7 k7 => ?_
        have e := kept_nil K7
        subst e
        and_intros
        refine r_eqB c7 nil_ok.1 nil_ok.2 (by simp [D.fzs, D.dps]) ?_
        rw [eqv_nil]
        and_intros
        rfl
  obtain ⟨d, S, h, e⟩ := main.ex
  exact ⟨S, by rw [h, e]⟩


end Wk
namespace Wk
open PySem PySem.Spec PyProof.Rows L2 Iv
/-! ### the head -/
def fn : List He.DefD := [⟨("_wall", none), "_wall", "_wall", defArgs s_u_wall, defBody s_u_wall, defScope s_u_wall, [], []⟩,
  ⟨("Bits", some "__init__"), "__init__", "Bits.__init__", defArgs s_Bits_init, defBody s_Bits_init, defScope s_Bits_init, [], []⟩,
  ⟨("Bits", some "copied"), "copied", "Bits.copied", defArgs s_Bits_copied, defBody s_Bits_copied, defScope s_Bits_copied, [], []⟩,
  ⟨("Bits", some "page_of"), "page_of", "Bits.page_of", defArgs s_Bits_page_of, defBody s_Bits_page_of, defScope s_Bits_page_of, [], []⟩,
  ⟨("Bits", some "pages_at"), "pages_at", "Bits.pages_at", defArgs s_Bits_pages_at, defBody s_Bits_pages_at, defScope s_Bits_pages_at, [], []⟩,
  ⟨("Bits", some "put"), "put", "Bits.put", defArgs s_Bits_put, defBody s_Bits_put, defScope s_Bits_put, [], []⟩,
  ⟨("Bits", some "drop"), "drop", "Bits.drop", defArgs s_Bits_drop, defBody s_Bits_drop, defScope s_Bits_drop, [], []⟩,
  ⟨("Bits", some "found"), "found", "Bits.found", defArgs s_Bits_found, defBody s_Bits_found, defScope s_Bits_found, [], []⟩,
  ⟨("Bits", some "kept"), "kept", "Bits.kept", defArgs s_Bits_kept, defBody s_Bits_kept, defScope s_Bits_kept, [], []⟩,
  ⟨("_law_bag", none), "_law_bag", "_law_bag", defArgs s_l_bag, defBody s_l_bag, defScope s_l_bag, [], []⟩,
  ⟨("_law_take", none), "_law_take", "_law_take", defArgs s_l_take, defBody s_l_take, defScope s_l_take, [], []⟩,
  ⟨("_law_word", none), "_law_word", "_law_word", defArgs s_l_word, defBody s_l_word, defScope s_l_word, [], []⟩,
  ⟨("_law_value", none), "_law_value", "_law_value", defArgs s_l_value, defBody s_l_value, defScope s_l_value, [], []⟩,
  ⟨("_law_like", none), "_law_like", "_law_like", defArgs s_l_like, defBody s_l_like, defScope s_l_like, [], []⟩,
  ⟨("_law_pages", none), "_law_pages", "_law_pages", defArgs s_l_pages, defBody s_l_pages, defScope s_l_pages, [], []⟩,
  ⟨("_law_shows", none), "_law_shows", "_law_shows", defArgs s_l_shows, defBody s_l_shows, defScope s_l_shows, [], []⟩,
  ⟨("law", none), "law", "law", defArgs s_law, defBody s_law, defScope s_law, [], []⟩]
def fa : List He.Fa := [.glo "_wall", .glo "_law_bag", .glo "_law_take", .glo "_law_word", .glo "_law_value", .glo "_law_like", .glo "_law_pages", .glo "_law_shows", .glo "law", .glo "Bits", .cls "Bits", .noat "Bits" "under", .noat "Bits" "width", .mkr "Bits", .meth "Bits" "copied", .meth "Bits" "page_of", .meth "Bits" "pages_at", .meth "Bits" "put", .meth "Bits" "drop", .meth "Bits" "found", .meth "Bits" "kept", .free "abs", .free "all", .free "bool", .free "int", .free "isinstance", .free "len", .free "list", .free "max", .free "min", .free "range", .free "set", .free "sorted", .free "tuple", .free "zip"]
theorem txt_of {K : PySem.W.Frag} {h : Heap} {mg : Str → Option Value} (X : K.In h) (G : h.Ns mainGlobals mg) (c : He.SaysD fa fn K) : Txt K mg :=
  ⟨c.def_ 0 rfl,
   He.glo_ok X G (c.fact 0 rfl),
   c.def_ 1 rfl,
   c.def_ 2 rfl,
   c.def_ 3 rfl,
   c.def_ 4 rfl,
   c.def_ 5 rfl,
   c.def_ 6 rfl,
   c.def_ 7 rfl,
   c.def_ 8 rfl,
   c.def_ 9 rfl,
   He.glo_ok X G (c.fact 1 rfl),
   c.def_ 10 rfl,
   He.glo_ok X G (c.fact 2 rfl),
   c.def_ 11 rfl,
   He.glo_ok X G (c.fact 3 rfl),
   c.def_ 12 rfl,
   He.glo_ok X G (c.fact 4 rfl),
   c.def_ 13 rfl,
   He.glo_ok X G (c.fact 5 rfl),
   c.def_ 14 rfl,
   He.glo_ok X G (c.fact 6 rfl),
   c.def_ 15 rfl,
   He.glo_ok X G (c.fact 7 rfl),
   c.def_ 16 rfl,
   He.glo_ok X G (c.fact 8 rfl),
   He.glo_ok X G (c.fact 9 rfl),
   He.cls_ok (c.fact 10 rfl),
   He.noat_ok (c.fact 11 rfl),
   He.noat_ok (c.fact 12 rfl),
   He.mkr_ok (c.fact 13 rfl),
   He.meth_ok (c.fact 14 rfl),
   He.meth_ok (c.fact 15 rfl),
   He.meth_ok (c.fact 16 rfl),
   He.meth_ok (c.fact 17 rfl),
   He.meth_ok (c.fact 18 rfl),
   He.meth_ok (c.fact 19 rfl),
   He.meth_ok (c.fact 20 rfl),
   He.free_ok X G (c.fact 21 rfl),
   He.free_ok X G (c.fact 22 rfl),
   He.free_ok X G (c.fact 23 rfl),
   He.free_ok X G (c.fact 24 rfl),
   He.free_ok X G (c.fact 25 rfl),
   He.free_ok X G (c.fact 26 rfl),
   He.free_ok X G (c.fact 27 rfl),
   He.free_ok X G (c.fact 28 rfl),
   He.free_ok X G (c.fact 29 rfl),
   He.free_ok X G (c.fact 30 rfl),
   He.free_ok X G (c.fact 31 rfl),
   He.free_ok X G (c.fact 32 rfl),
   He.free_ok X G (c.fact 33 rfl),
   He.free_ok X G (c.fact 34 rfl)⟩
abbrev R : PySem.W.OpenRow := PySem.W.OpenLaw.row PySem.Challenge.rw_whatindex_k12_bits
abbrev hk : PySem.W.Hook := He.hookD 6 fa fn
def ob (s : PySem.W.SharedT) : He.AlD := He.obsDG 6 fa fn (HandSHeadRun.getT s)
theorem ob_eq (s : PySem.W.SharedT) : ob s = hk.obs s.abs := He.obsDG_eq (HandSHeadRun.getT_eq s)
theorem run (w : World) : HandSHeadRun.RunEq R (PySem.W.view R.prog [11]) hk ob 3000 ["_wall", "Bits", "_law_bag", "_law_take", "_law_word", "_law_value", "_law_like", "_law_pages", "_law_shows"] w := by
  intro os
  kernel_rfl
theorem facts {P : Program} {w : World} {K : PySem.W.Frag} {h : Heap} {mg : Str → Option Value} {f : Addr} (X : K.In h) (G : h.Ns mainGlobals mg) (hfa : mg ("law" : Str) = some (.ref f)) (c : He.SaysD fa fn K) :
    ∃ fd : FuncData, (∀ (s : Shared) (v : Value), BindsTo s fd ⟨[v], []⟩ [("_law_script", v)]) ∧ ∀ base : Heap, K.In base → base.Ns mainGlobals mg → FnOk P w K mg base CX0 26 f fd ["_law_script"] (spEnd K) := by
  have T := txt_of X G c
  obtain ⟨fd, F⟩ := T.d_law
  have e := hfa.symm.trans T.m_law
  cases e
  have b := FunD.bindsA (ps := ["_law_script"]) F fun _ _ _ _ _ _ us hl => match us, hl with | [_], _ => rfl
  refine ⟨fd, fun s v => b s [v] rfl, fun base _ _ => ?_⟩
  have A := (all_ok (P := P) (w := w) (base := base) T 12)
  have FO := fn_step (P := P) (w := w) (K := K) (mg := mg) (base := base) (g := gs K) (T := Tb) (f := 14) (N := _) (j := 2 * 11 + 3) (k := 11) rfl F sc_law fun _ _ _ _ _ _ hr => b_law T (all_ok T 11) hr
  exact fn_end (g := gs K) (k := 12) rfl FO told
end Wk
open PySem PySem.W PySem.Calls PyProof.Rows
theorem PySem.Challenge.cw_whatindex_k12_bits_holds : PySem.Challenge.rw_whatindex_k12_bits.Holds := by
  w_on; o_law
  refine HandSHeadRun.head_any (r := OpenLaw.row PySem.Challenge.rw_whatindex_k12_bits) (q := view (OpenLaw.row PySem.Challenge.rw_whatindex_k12_bits).prog [11]) (H := Wk.hk) (ob := Wk.ob) (M := 3000) (loose := ["_wall", "Bits", "_law_bag", "_law_take", "_law_word", "_law_value", "_law_like", "_law_pages", "_law_shows"]) (d := HandSHeadRun.topDef (OpenLaw.row PySem.Challenge.rw_whatindex_k12_bits).prog 11) (kwd := []) Wk.ob_eq
    (by kernel_rfl) (fun s => by kernel_rfl) Wk.run (by kernel_rfl) (by kernel_rfl) (by kernel_rfl) (by rfl) (by first | assumption | decide +kernel) (by decide +kernel) ⟨rfl, rfl, rfl, rfl, rfl, by decide +kernel⟩ ?hw ?hc
  case hw => w_witness2
  case hc =>
    refine L2.walk_ofE (l := PySem.Challenge.rw_whatindex_k12_bits) (n := 63) (k := 26) (x := "_law_script") (CX := L2.CX0) rfl (by decide) (by kernel_rfl) ⟨rfl, by decide, by decide⟩ ?F (fun _ _ _ _ z => z)
    intro w mg fa h Y G hmg0
    obtain ⟨K, KX, c⟩ := Y
    have hmg : mg ("law" : PySem.Str) = some (.ref fa) := by
      have e : (HandSHeadRun.topDef (OpenLaw.row PySem.Challenge.rw_whatindex_k12_bits).prog 11).name = ("law" : PySem.Str) := by kernel_rfl
      rw [← e]
      exact hmg0
    obtain ⟨fd, hb, hF⟩ := Wk.facts (P := (PySem.Challenge.rw_whatindex_k12_bits).prog) (w := w) KX G hmg c
    exact ⟨K, fd, Iv.spEnd K, KX, hb, fun H a ns hl hO hS => ⟨a, ns, rfl, hS, hl, hO, fun _ => rfl⟩, hF⟩

