import PyProof.Rows.All
import HandS.ForMost
import HandS.Exc
import HandS.ExcOwn
import HandS.IsInst
import HandS.Deep
import HandS.Wide
import HandS.CallRecv
import HandS.HeadWalk
import HandS.DictComp
import HandS.Style
import HandS.SortInts
import HandS.RaiseMore
import HandS.More
import HandS.WordsDict
import HandS.NoneIn
import HandS.Defaults
import Lean
import KE.KStateDown
import HandS.Ends
import HandS.Words
import HandS.WordsExc
import HandS.Head0
import HandS.Head1
import HandS.Head2
import HandS.HeadEnd
import HandS.HeadHook1
import HandS.HeadHook2
import HandS.Codes
import PySem.Challenge.RW_turnedbysteps_k01_names_and_places
set_option Elab.async false
set_option linter.all false
set_option maxRecDepth 99000
/-! MiA: the by-value interpreter: data, operations, the neat tree, its run. Plain Lean, no machine in sight. -/
namespace MI
open PySem L2

abbrev Key := L2.Key
/-- data; lists, dicts, instances bear a flag: true: owned (nobody else holds it) -/
inductive D where
  | non | bl (b : Bool) | int (i : Int) | str (x : Str)
  | scr (ns : List Int)
  | tup (xs : List D) | lst (o : Bool) (xs : List D)
  | dct (o : Bool) (kvs : List (Key × D))
  | ins (o : Bool) (c : Nat) (fs : List (Nat × D))
deriving Inhabited

/-! ### shared view -/
mutual
def share : D → D
  | .non => .non | .bl b => .bl b | .int i => .int i | .str x => .str x | .scr ns => .scr ns
  | .tup xs => .tup (shareL xs)
  | .lst _ xs => .lst false (shareL xs)
  | .dct _ kvs => .dct false (shareK kvs)
  | .ins _ c fs => .ins false c (shareF fs)
def shareL : List D → List D
  | [] => []
  | d :: ds => share d :: shareL ds
def shareK : List (Key × D) → List (Key × D)
  | [] => []
  | (k, d) :: ds => (k, share d) :: shareK ds
def shareF : List (Nat × D) → List (Nat × D)
  | [] => []
  | (k, d) :: ds => (k, share d) :: shareF ds
end
/-! no owned node: the shared view is the thing itself -/
mutual
def noOwn : D → Bool
  | .non => true | .bl _ => true | .int _ => true | .str _ => true | .scr _ => true
  | .tup xs => noOwnL xs
  | .lst o xs => !o && noOwnL xs
  | .dct o kvs => !o && noOwnK kvs
  | .ins o _ fs => !o && noOwnF fs
def noOwnL : List D → Bool
  | [] => true
  | d :: ds => noOwn d && noOwnL ds
def noOwnK : List (Key × D) → Bool
  | [] => true
  | (_, d) :: ds => noOwn d && noOwnK ds
def noOwnF : List (Nat × D) → Bool
  | [] => true
  | (_, d) :: ds => noOwn d && noOwnF ds
end
/-! no shared node that could change: all lists, dicts, instances in it are owned -/
mutual
def noShr : D → Bool
  | .non => true | .bl _ => true | .int _ => true | .str _ => true | .scr _ => false
  | .tup xs => noShrL xs
  | .lst o xs => o && noShrL xs
  | .dct o kvs => o && noShrK kvs
  | .ins o _ fs => o && noShrF fs
def noShrL : List D → Bool
  | [] => true
  | d :: ds => noShr d && noShrL ds
def noShrK : List (Key × D) → Bool
  | [] => true
  | (_, d) :: ds => noShr d && noShrK ds
def noShrF : List (Nat × D) → Bool
  | [] => true
  | (_, d) :: ds => noShr d && noShrF ds
end
/-- flat: neither list, dict nor instance, nor a tuple -/
def flat : D → Bool
  | .non => true | .bl _ => true | .int _ => true | .str _ => true | _ => false
/-- scalars as values -/
def D.sc : D → Option L2.V
  | .non => some .non | .bl b => some (.bl b) | .int i => some (.int i) | .str x => some (.str x) | _ => none
mutual
def py : D → Option PyData
  | .non => some .none | .bl b => some (.bool b) | .int i => some (.int i) | .str x => some (.str x)
  | .scr ns => some (.list (ns.map PyData.int))
  | .tup xs => (pyL xs).map PyData.tuple
  | .lst _ xs => (pyL xs).map PyData.list
  | .dct _ _ => none
  | .ins _ _ _ => none
def pyL : List D → Option (List PyData)
  | [] => some []
  | d :: ds => match py d, pyL ds with
    | some x, some xs => some (x :: xs)
    | _, _ => none
end

/-! ### results -/
inductive R (α : Type) where
  | ok (a : α)
  | ex (c : Nat) (fs : List (Nat × D))
  | bad
def R.bind {α β : Type} (x : R α) (f : α → R β) : R β := match x with
  | .ok a => f a
  | .ex c fs => .ex c fs
  | .bad => .bad
@[simp] theorem R.bind_ok {α β : Type} (a : α) (f : α → R β) : (R.ok a).bind f = f a := rfl
@[simp] theorem R.bind_ex {α β : Type} (c : Nat) (fs : List (Nat × D)) (f : α → R β) : (R.ex c fs : R α).bind f = .ex c fs := rfl
@[simp] theorem R.bind_bad {α β : Type} (f : α → R β) : (R.bad : R α).bind f = .bad := rfl
def guardR (b : Bool) {α : Type} (x : R α) : R α := if b then x else .bad

/-! ### operations -/
def addD : D → D → R D
  | .int i, .int j => .ok (.int (i + j))
  | .str x, .str y => if x.length + y.length ≤ sizeLine then .ok (.str (x ++ y)) else .bad
  | .lst _ xs, .lst _ ys => if xs.length + ys.length ≤ sizeLine then .ok (.lst true (shareL (xs ++ ys))) else .bad
  | _, _ => .bad
def subD : D → D → R D
  | .int i, .int j => .ok (.int (i - j))
  | _, _ => .bad
def repS (x : Str) (n : Int) : Str := ⟨(List.replicate n.toNat x.cps.toList).flatten.toArray⟩
def mulD : D → D → R D
  | .int i, .int j => if decide ((-(2 ^ 64) < i ∧ i < 2 ^ 64) ∨ (-(2 ^ 64) < j ∧ j < 2 ^ 64)) then .ok (.int (i * j)) else .bad
  | .str x, .int n => if decide (-1000 ≤ n ∧ n ≤ 1000 ∧ x.length ≤ 1000) then .ok (.str (repS x n)) else .bad
  | .lst _ xs, .int n => if decide (-(2 ^ 63) ≤ n ∧ n < 2 ^ 63 ∧ xs.length * n.toNat ≤ sizeLine) then .ok (.lst true (shareL (List.replicate n.toNat xs).flatten)) else .bad
  | _, _ => .bad
def fdivD : D → D → R D
  | .int i, .int j => if decide (0 < j ∧ j < 1073741824) then .ok (.int (i / j)) else .bad
  | _, _ => .bad
def modD : D → D → R D
  | .int i, .int j => if decide (0 < j) then .ok (.int (i % j)) else .bad
  | _, _ => .bad
def powD : D → D → R D
  | .int i, .int j => if decide (0 ≤ j ∧ j ≤ 1000000 ∧ i.natAbs < 2 ^ 64) then .ok (.int (i ^ j.toNat)) else .bad
  | _, _ => .bad
def bandD : D → D → R D
  | .int i, .int j => .ok (.int (Builtin.bitAnd i j))
  | _, _ => .bad
def binD : Operator → D → D → R D
  | .Add => addD | .Sub => subD | .Mult => mulD | .FloorDiv => fdivD | .Mod => modD | .Pow => powD | .BitAnd => bandD
  | _ => fun _ _ => .bad
def negD : D → R D
  | .int i => .ok (.int (-i))
  | _ => .bad
def truD : D → R Bool
  | .non => .ok false | .bl b => .ok b | .int i => .ok (i != 0)
  | .str x => if x.length ≤ sizeLine then .ok (x.length != 0) else .bad
  | .tup xs => .ok (!xs.isEmpty) | .lst _ xs => .ok (!xs.isEmpty) | .dct _ kvs => .ok (!kvs.isEmpty)
  | _ => .bad
def eqP (a b : D) : R Bool := match py a, py b with
  | some x, some y => if SeqAt.shaped x && SeqAt.shaped y then .ok (PyData.eqv x y) else .bad
  | _, _ => .bad
def eqD (a b : D) : R Bool := match a.sc, b.sc with
  | some x, some y => if L2.scal x y then .ok (decide (x = y)) else eqP a b
  | _, _ => eqP a b
def ltS (x y : Str) : Bool := decide (x.cps.toList < y.cps.toList)
/-- the flat values' == (None, bools, ints, texts) -/
def eqF (a b : D) : Bool := match a.sc, b.sc with
  | some x, some y => L2.eqV x y
  | _, _ => false
def inLst (x : D) (xs : List D) : R Bool :=
  if flat x && xs.all flat then .ok (xs.any fun y => eqF y x)
  else match py x, pyL xs with
    | some d, some ds => if SeqAt.shaped d && SeqAt.shaped (.list ds) then .ok (ds.any fun z => PyData.eqv z d) else .bad
    | _, _ => .bad
def inTup (x : D) (xs : List D) : R Bool :=
  if flat x && xs.all flat then .ok (xs.any fun y => eqF y x) else .bad
def keyOf : D → Option Key
  | .int i => some (.inl i)
  | .str x => some (.inr x)
  | _ => none
def getK (kvs : List (Key × D)) (k : Key) : Option D := (kvs.find? fun kv => decide (kv.1 = k)).map (·.2)
def setK (kvs : List (Key × D)) (k : Key) (v : D) : List (Key × D) :=
  if (kvs.any fun kv => decide (kv.1 = k)) then kvs.map fun kv => if kv.1 = k then (kv.1, v) else kv else kvs ++ [(k, v)]
def keyD : Key → D
  | .inl i => .int i
  | .inr x => .str x
def hasSub (x y : Str) : Bool := !(Builtin.Str.occurrences y x 0 y.length 1).isEmpty
def inD (x : D) : D → R Bool
  | .str y => (match x with
    | .str z => .ok (hasSub z y)
    | _ => .bad)
  | .lst _ ys => inLst x ys
  | .tup ys => inTup x ys
  | .dct _ kvs => (match keyOf x with
    | some k => .ok (getK kvs k).isSome
    | none => .bad)
  | _ => .bad
def cmpD : CmpOp → D → D → R Bool
  | .Eq, a, b => eqD a b
  | .NotEq, a, b => (eqD a b).bind fun c => .ok (!c)
  | .Lt, .int i, .int j => .ok (decide (i < j))
  | .LtE, .int i, .int j => .ok (decide (i ≤ j))
  | .Gt, .int i, .int j => .ok (decide (j < i))
  | .GtE, .int i, .int j => .ok (decide (j ≤ i))
  | .Lt, .str i, .str j => .ok (ltS i j)
  | .LtE, .str i, .str j => .ok (!ltS j i)
  | .Gt, .str i, .str j => .ok (ltS j i)
  | .GtE, .str i, .str j => .ok (!ltS i j)
  | .Is, .non, .non => .ok true
  | .Is, .ins .., .non => .ok false | .Is, .int .., .non => .ok false | .Is, .bl .., .non => .ok false | .Is, .str .., .non => .ok false | .Is, .lst .., .non => .ok false | .Is, .tup .., .non => .ok false
  | .Is, .dct .., .non => .ok false
  | .Is, .bl a, .bl b => .ok (decide (a = b))
  | .IsNot, .bl a, .bl b => .ok (!decide (a = b))
  | .IsNot, .non, .non => .ok false
  | .IsNot, .ins .., .non => .ok true | .IsNot, .int .., .non => .ok true | .IsNot, .bl .., .non => .ok true | .IsNot, .str .., .non => .ok true | .IsNot, .lst .., .non => .ok true | .IsNot, .tup .., .non => .ok true
  | .IsNot, .dct .., .non => .ok true
  | .In, a, b => inD a b
  | .NotIn, a, b => (inD a b).bind fun c => .ok (!c)
  | _, _, _ => .bad
/-- the place that a (maybe negative) index names -/
def ixD (n : Nat) (i : Int) : Option Nat := L2.ixN n i
def idxD : D → D → R D
  | .lst _ xs, .int i => (match (ixD xs.length i).bind fun j => xs[j]? with
    | some d => .ok (share d)
    | none => .bad)
  | .tup xs, .int i => (match (ixD xs.length i).bind fun j => xs[j]? with
    | some d => .ok (share d)
    | none => .bad)
  | .scr ns, .int i => (match (ixD ns.length i).bind fun j => ns[j]? with
    | some n => .ok (.int n)
    | none => .bad)
  | .str x, .int i => if x.length ≤ sizeLine then (match L2.atI x.cps.toList i with
      | some c => .ok (.str ⟨#[c]⟩)
      | none => .bad) else .bad
  | .dct _ kvs, k => (match keyOf k with
    | some k => (match getK kvs k with
      | some d => .ok (share d)
      | none => .bad)
    | none => .bad)
  | _, _ => .bad
def cutL {α : Type} (xs : List α) (lo hi : Option Int) : List α := (xs.drop (HT.sIx xs.length 0 lo)).take (HT.sIx xs.length xs.length hi - HT.sIx xs.length 0 lo)
def partD : Option D → Option (Option Int)
  | none => some none
  | some (.int i) => some (some i)
  | some _ => none
def slcD (a : D) (lo hi : Option D) : R D := match partD lo, partD hi with
  | some l, some h => (match a with
    | .lst _ xs => .ok (.lst true (shareL (cutL xs l h)))
    | .str x => if x.length ≤ sizeLine then .ok (.str ⟨(cutL x.cps.toList l h).toArray⟩) else .bad
    | _ => .bad)
  | _, _ => .bad
def revD : D → R D
  | .lst _ xs => .ok (.lst true (shareL xs.reverse))
  | _ => .bad
def getF (fs : List (Nat × D)) (f : Nat) : Option D := fs.lookup f
def fldD (ok : Nat → Nat → Bool) (f : Nat) : D → R D
  | .ins _ c fs => if ok c f then (match getF fs f with
    | some d => .ok (share d)
    | none => .bad) else .bad
  | _ => .bad

/-! ### built-in functions -/
inductive Blt where
  | len | int | bool | str | list | tuple | sorted | all | any | max1 | min1 | max2 | min2 | sum
deriving DecidableEq
def lenD : D → R D
  | .str x => if x.length ≤ sizeLine then .ok (.int x.length) else .bad
  | .lst _ xs => .ok (.int xs.length) | .tup xs => .ok (.int xs.length) | .scr ns => .ok (.int ns.length)
  | .dct _ kvs => .ok (.int kvs.length)
  | _ => .bad
def asBools : List D → Option (List Bool)
  | [] => some []
  | .bl b :: r => (asBools r).map (b :: ·)
  | _ :: _ => none
def asInts : List D → Option (List Int)
  | [] => some []
  | .int b :: r => (asInts r).map (b :: ·)
  | _ :: _ => none
def asStrs : List D → Option (List Str)
  | [] => some []
  | .str b :: r => (asStrs r).map (b :: ·)
  | _ :: _ => none
/-- the sorted arrangement -/
def insS (x : Str) : List Str → List Str
  | [] => [x]
  | y :: r => if ltS y x then y :: insS x r else x :: y :: r
def sortS : List Str → List Str
  | [] => []
  | x :: r => insS x (sortS r)
def insI (n : Int) : List Int → List Int
  | [] => [n]
  | z :: r => if z < n then z :: insI n r else n :: z :: r
def sortI : List Int → List Int
  | [] => []
  | x :: r => insI x (sortI r)
def sortedD (xs : List D) : R D := match asInts xs with
  | some ns => .ok (.lst true ((sortI ns).map D.int))
  | none => (match asStrs xs with
    | some ss => if ss.length < 64 then .ok (.lst true ((sortS ss).map D.str)) else .bad
    | none => .bad)
def maxI : List Int → Option Int
  | [] => none
  | x :: r => some (r.foldl (fun a b => if a < b then b else a) x)
def minI : List Int → Option Int
  | [] => none
  | x :: r => some (r.foldl (fun a b => if b < a then b else a) x)
def bltD : Blt → List D → R D
  | .len, [a] => lenD a
  | .int, [.int i] => .ok (.int i)
  | .int, [.bl b] => .ok (.int (if b then 1 else 0))
  | .bool, [.int i] => .ok (.bl (i != 0))
  | .bool, [.bl b] => .ok (.bl b)
  | .list, [.lst _ xs] => .ok (.lst true (shareL xs))
  | .list, [.tup xs] => .ok (.lst true (shareL xs))
  | .tuple, [.lst _ xs] => .ok (.tup (shareL xs))
  | .tuple, [.tup xs] => .ok (.tup (shareL xs))
  | .sorted, [.lst _ xs] => sortedD xs
  | .sorted, [.dct _ kvs] => if kvs.length < 64 then sortedD (kvs.map fun kv => keyD kv.1) else .bad
  | .all, [.lst _ xs] => (match asBools xs with
    | some bs => .ok (.bl (bs.all id))
    | none => .bad)
  | .any, [.lst _ xs] => (match asBools xs with
    | some bs => .ok (.bl (bs.any id))
    | none => .bad)
  | .sum, [.lst _ xs] => (match asInts xs with
    | some ns => .ok (.int ns.sum)
    | none => .bad)
  | .max1, [.lst _ xs] => (match (asInts xs).bind maxI with
    | some m => .ok (.int m)
    | none => .bad)
  | .min1, [.lst _ xs] => (match (asInts xs).bind minI with
    | some m => .ok (.int m)
    | none => .bad)
  | .max2, [.int i, .int j] => .ok (.int (if j > i then j else i))
  | .min2, [.int i, .int j] => .ok (.int (if j < i then j else i))
  | .str, [.int i] => if i.natAbs.log2 < 1920 then .ok (.str (PySem.Str.ofString (toString i))) else .bad
  | .str, [.str x] => .ok (.str x)
  | _, _ => .bad
/-- methods of built-in types that change nothing -/
inductive Bmt where
  | get1 | get2 | join | split | startswith | index | replace | upper
deriving DecidableEq
/-- the receiver's type -/
def bmtT : Bmt → D → Bool
  | .get1, .dct _ _ => true
  | .get2, .dct _ _ => true
  | .get1, _ => false
  | .get2, _ => false
  | _, .str _ => true
  | _, _ => false
def bmtD : Bmt → D → List D → R D
  | .get1, .dct _ kvs, [k] => (match keyOf k with
    | some k => .ok (share ((getK kvs k).getD .non))
    | none => .bad)
  | .get2, .dct _ kvs, [k, d] => (match keyOf k with
    | some k => .ok (share ((getK kvs k).getD d))
    | none => .bad)
  | .join, .str a, [.lst _ xs] => (match asStrs xs with
    | some ys => if (ys.map (·.length)).sum + ys.length * a.length ≤ 16777216 then .ok (.str (Txt.join a ys)) else .bad
    | none => .bad)
  | _, _, _ => .bad
/-- types in isinstance -/
inductive Ty where
  | int | bool | str | list | tuple | dict | cls (c : Nat)
deriving DecidableEq
def isTy : D → Ty → Bool
  | .int _, .int => true
  | .bl _, .bool => true
  | .bl _, .int => true
  | .str _, .str => true
  | .lst _ _, .list => true
  | .scr _, .list => true
  | .tup _, .tuple => true
  | .dct _ _, .dict => true
  | _, _ => false
def notCls : Ty → Bool
  | .cls _ => false
  | _ => true
def notIns : D → Bool
  | .ins _ _ _ => false
  | _ => true

/-! ### the neat tree -/
mutual
inductive Ex where
  | nop | var (i : Nat) | non | bl (b : Bool) | int (i : Int) | str (x : Str) | glo (g : Nat)
  | bin (op : Operator) (a b : Ex) | neg (a : Ex) | not (a : Ex)
  | cmp (op : CmpOp) (a b : Ex) | chn (op op' : CmpOp) (a b c : Ex)
  | and (a b : Ex) | or (a b : Ex) | ite (t a b : Ex)
  | tup (es : Exs) | lst (es : Exs) | dct (es : Exs)
  | idx (a b : Ex) | slc0 (a : Ex) | slcL (a lo : Ex) | slcH (a hi : Ex) | slcB (a lo hi : Ex) | rev (a : Ex)
  | fld (a : Ex) (f : Nat)
  | call (f : Nat) (es : Exs) | mth (a : Ex) (m : Nat) (es : Exs) | mk (c : Nat) (es : Exs)
  | blt (b : Blt) (es : Exs) | bmt (b : Bmt) (a : Ex) (es : Exs)
  | isi (a : Ex) (ts : List Ty)
  | xisi (ts : List Ty) | xfld (f : Nat)
  | pln (a : Ex) | rng1 (a : Ex) | rng2 (a b : Ex) | rng3 (a b c : Ex) | enm (a : Ex) | zip (a b : Ex) | itm (a : Ex) | vls (a : Ex)
  | lcp (tg : Tg) (it : Ex) (c : Ex) (e : Ex) (own : List Nat)
  | dcp (tg : Tg) (it : Ex) (c : Ex) (k v : Ex) (own : List Nat)
inductive Exs where
  | nil | cons (e : Ex) (es : Exs)
inductive Tg where
  | name (i : Nat) | tup (ts : List Nat)
end
def Tg.slots : Tg → List Nat
  | .name i => [i]
  | .tup ts => ts

abbrev Env := List (Option D)
def Env.get (ρ : Env) (i : Nat) : Option D := match ρ[i]? with
  | some (some d) => some d
  | _ => none
def wipeE (ρ : Env) : List Nat → Env
  | [] => ρ
  | v :: vs => (wipeE ρ vs).set v none
def shareE : Env → Env
  | [] => []
  | none :: r => none :: shareE r
  | some d :: r => some (share d) :: shareE r
/-- an item goes to a target -/
def setTs : List Nat → List D → Env → R Env
  | [], [], ρ => .ok ρ
  | i :: r, d :: ds, ρ => setTs r ds (ρ.set i (some d))
  | _, _, _ => .bad
def setTg : Tg → D → Env → R Env
  | .name i, d, ρ => .ok (ρ.set i (some d))
  | .tup ts, .tup ds, ρ => setTs ts ds ρ
  | .tup ts, .lst _ ds, ρ => setTs ts ds ρ
  | _, _, _ => .bad
/-- the world of a run: own functions (result, slot 0 behind it), methods, makers, constants, exceptions (class ids) -/
structure W where
  /-- (class, field): the instances' own -/
  fld : Nat → Nat → Bool
  fn : Nat → List D → R (D × D)
  meth : Nat → Nat → Option Nat
  init : Nat → Option Nat
  sub : Nat → Nat → Bool
  glo : Nat → Option D
/-- the caught exception of an except suite: its class and fields -/
abbrev Xc := Option (Nat × List (Nat × D))

def boolsR (x : R D) : R Bool := x.bind fun d => match d with
  | .bl b => .ok b
  | _ => .bad
def itemsD : D → R (List D)
  | .lst _ xs => .ok (shareL xs)
  | .tup xs => .ok (shareL xs)
  | .scr ns => .ok (ns.map D.int)
  | .str x => .ok (x.cps.toList.map fun c => D.str ⟨#[c]⟩)
  | _ => .bad
def rngI (lo hi : Int) : List D := (List.range (hi - lo).toNat).map fun (k : Nat) => D.int (lo + k)
def okI (i : Int) : Bool := decide (-(2 ^ 62) ≤ i ∧ i < 2 ^ 62)
/-- a comprehension's run over its items -/
def compL (step : D → Env → R (Option D)) : List D → Env → R (List D)
  | [], _ => .ok []
  | d :: ds, ρ => (step d ρ).bind fun o => (compL step ds ρ).bind fun r => .ok (match o with
    | some x => x :: r
    | none => r)
def compK (step : D → Env → R (Option (Key × D))) : List D → Env → List (Key × D) → R (List (Key × D))
  | [], _, acc => .ok acc
  | d :: ds, ρ, acc => (step d ρ).bind fun o => compK step ds ρ (match o with
    | some x => setK acc x.1 x.2
    | none => acc)
/-- comprehensions let no exception out here -/
def noEx {α : Type} : R α → R α
  | .ok a => .ok a
  | _ => .bad


/-- in test mode the value's truth -/
def fin (m : Bool) (r : R D) : R D := if m then r.bind fun d => (truD d).bind fun k => .ok (.bl k) else r
@[simp] theorem fin_false (r : R D) : fin false r = r := rfl
@[simp] theorem fin_true (r : R D) : fin true r = r.bind fun d => (truD d).bind fun k => .ok (.bl k) := rfl
def argI : D → R Int
  | .int i => .ok i
  | _ => .bad
def argL : D → R (List D)
  | .lst _ xs => .ok (shareL xs)
  | _ => .bad
mutual
/-- the run of an expression; m: as a test -/
def ev (w : W) (xc : Xc) (m : Bool) : Ex → Env → R D
  | .nop, _ => .bad
  | .var i, ρ => fin m (match ρ.get i with
    | some d => .ok d
    | none => .bad)
  | .non, _ => fin m (.ok .non)
  | .bl b, _ => .ok (.bl b)
  | .int i, _ => fin m (.ok (.int i))
  | .str x, _ => fin m (.ok (.str x))
  | .glo g, _ => fin m (match w.glo g with
    | some d => .ok d
    | none => .bad)
  | .bin op a b, ρ => fin m ((ev w xc false a ρ).bind fun x => (ev w xc false b ρ).bind fun y => binD op x y)
  | .neg a, ρ => fin m ((ev w xc false a ρ).bind negD)
  | .not a, ρ => (boolsR (ev w xc m a ρ)).bind fun b => .ok (.bl !b)
  | .cmp op a b, ρ => (ev w xc false a ρ).bind fun x => (ev w xc false b ρ).bind fun y => (cmpD op x y).bind fun c => .ok (.bl c)
  | .chn op op' a b c, ρ => (ev w xc false a ρ).bind fun x => (ev w xc false b ρ).bind fun y => (cmpD op x y).bind fun k => if k then (ev w xc false c ρ).bind fun z => (cmpD op' y z).bind fun j => .ok (.bl j) else .ok (.bl false)
  | .and a b, ρ => (boolsR (ev w xc m a ρ)).bind fun k => if k then ev w xc m b ρ else .ok (.bl false)
  | .or a b, ρ => (boolsR (ev w xc m a ρ)).bind fun k => if k then .ok (.bl true) else ev w xc m b ρ
  | .ite t a b, ρ => fin m ((boolsR (ev w xc true t ρ)).bind fun k => if k then ev w xc false a ρ else ev w xc false b ρ)
  | .tup es, ρ => fin m ((evL w xc es ρ).bind fun ds => if ds.length ≤ sizeLine then .ok (.tup ds) else .bad)
  | .lst es, ρ => fin m ((evL w xc es ρ).bind fun ds => if ds.length ≤ sizeLine then .ok (.lst true ds) else .bad)
  | .dct es, ρ => fin m (match es with
    | .nil => .ok (.dct true [])
    | _ => .bad)
  | .idx a b, ρ => fin m ((ev w xc false a ρ).bind fun x => (ev w xc false b ρ).bind fun y => idxD x y)
  | .slc0 a, ρ => fin m ((ev w xc false a ρ).bind fun x => slcD x none none)
  | .slcL a l, ρ => fin m ((ev w xc false a ρ).bind fun x => (ev w xc false l ρ).bind fun l => slcD x (some l) none)
  | .slcH a h, ρ => fin m ((ev w xc false a ρ).bind fun x => (ev w xc false h ρ).bind fun h => slcD x none (some h))
  | .slcB a l h, ρ => fin m ((ev w xc false a ρ).bind fun x => (ev w xc false l ρ).bind fun l => (argI l).bind fun i => (ev w xc false h ρ).bind fun h => slcD x (some (.int i)) (some h))
  | .rev a, ρ => fin m ((ev w xc false a ρ).bind revD)
  | .fld a f, ρ => fin m ((ev w xc false a ρ).bind (fldD w.fld f))
  | .call f es, ρ => fin m ((evL w xc es ρ).bind fun ds => (w.fn f (shareL ds)).bind fun r => .ok r.1)
  | .mth a n es, ρ => fin m ((ev w xc false a ρ).bind fun x => (match x with
    | .ins _ c fs => (match w.meth c n with
      | some f => if (getF fs n).isNone then (evL w xc es ρ).bind fun ds => (w.fn f (share (.ins false c fs) :: shareL ds)).bind fun r => .ok r.1 else .bad
      | none => .bad)
    | _ => .bad))
  | .mk c es, ρ => fin m (match w.init c with
    | some f => (evL w xc es ρ).bind fun ds => (w.fn f (.ins true c [] :: shareL ds)).bind fun r => (match r.1 with
      | .non => .ok r.2
      | _ => .bad)
    | none => .bad)
  | .blt b es, ρ => fin m ((evL w xc es ρ).bind fun ds => bltD b ds)
  | .bmt b a es, ρ => fin m ((ev w xc false a ρ).bind fun x => if bmtT b x then (evL w xc es ρ).bind fun ds => bmtD b x ds else .bad)
  | .isi a ts, ρ => (ev w xc false a ρ).bind fun x => if notIns x && ts.all notCls then .ok (.bl (ts.any (isTy x))) else .bad
  | .xisi ts, _ => (match xc with
    | some (c, _) => .ok (.bl (ts.any fun t => match t with
      | .cls d => w.sub c d
      | _ => false))
    | none => .bad)
  | .xfld f, _ => fin m (match xc with
    | some (_, fs) => (match getF fs f with
      | some d => .ok (share d)
      | none => .bad)
    | none => .bad)
  | .lcp tg it c e own, ρ => fin m ((ev w xc false it ρ).bind fun v => (itemsD v).bind fun xs =>
      (noEx (compL (fun d ρ => (setTg tg d ρ).bind fun ρ1 => (boolsR (ev w xc true c ρ1)).bind fun k => if k then (ev w xc false e ρ1).bind fun x => .ok (some x) else .ok none) xs (wipeE ρ own))).bind fun r =>
      if r.length ≤ sizeLine then .ok (.lst true r) else .bad)
  | .dcp tg it c k v own, ρ => fin m ((ev w xc false it ρ).bind fun z => (itemsD z).bind fun xs =>
      (noEx (compK (fun d ρ => (setTg tg d ρ).bind fun ρ1 => (boolsR (ev w xc true c ρ1)).bind fun b => if b then (ev w xc false k ρ1).bind fun x => (ev w xc false v ρ1).bind fun y => (match keyOf x with
        | some k => .ok (some (k, y))
        | none => .bad) else .ok none) xs (wipeE ρ own) [])).bind fun r =>
      if r.length < sizeLine then .ok (.dct true r) else .bad)
  | .pln a, ρ => ev w xc false a ρ
  | .rng1 a, ρ => (ev w xc false a ρ).bind fun x => (argI x).bind fun j => if okI j then .ok (.lst true (rngI 0 j)) else .bad
  | .rng2 a b, ρ => (ev w xc false a ρ).bind fun x => (ev w xc false b ρ).bind fun y => (argI x).bind fun i => (argI y).bind fun j => if okI i && okI j then .ok (.lst true (rngI i j)) else .bad
  | .rng3 _ _ _, _ => .bad
  | .enm a, ρ => (ev w xc false a ρ).bind fun x => (argL x).bind fun xs => .ok (.lst true (List.zipWith (fun (k : Nat) d => D.tup [.int k, d]) (List.range xs.length) xs))
  | .zip a b, ρ => (ev w xc false a ρ).bind fun x => (ev w xc false b ρ).bind fun y => (argL x).bind fun xs => (argL y).bind fun ys => .ok (.lst true (List.zipWith (fun d e => D.tup [d, e]) xs ys))
  | .itm _, _ => .bad
  | .vls _, _ => .bad
/-- an argument list -/
def evL (w : W) (xc : Xc) : Exs → Env → R (List D)
  | .nil, _ => .ok []
  | .cons e es, ρ => (ev w xc false e ρ).bind fun x => (evL w xc es ρ).bind fun xs => .ok (x :: xs)
end
end MI

set_option Elab.async false
set_option linter.all false
set_option maxRecDepth 99000
/-! MiC: how data lies in the abstract heap. -/
namespace MI
open PySem L2

/-- what stands: the written part, the names' table, the classes -/
structure Sw where
  K : PySem.W.Frag
  NM : List Str
  nd : NM.Nodup
  cA : Nat → Addr

mutual
/-- v is d: shared nodes lie in F, owned ones in H; A: the owned ones' addresses -/
inductive Rep (S : Sw) (F H : Hp) : V → D → List Addr → Prop
  | non : Rep S F H .non .non []
  | bl (b : Bool) : Rep S F H (.bl b) (.bl b) []
  | int (i : Int) : Rep S F H (.int i) (.int i) []
  | str (x : Str) : Rep S F H (.str x) (.str x) []
  | scr {a : Addr} {ns : List Int} : SqL S.K F a (ns.map V.int) → Rep S F H (.ref a) (.scr ns) []
  | tup {a : Addr} {vs : List V} {ds : List D} {A : List Addr} : SqT S.K F a vs → Reps S F H vs ds A → Rep S F H (.ref a) (.tup ds) A
  | lstS {a : Addr} {vs : List V} {ds : List D} {A : List Addr} : F a = some (.lst vs) → Reps S F H vs ds A → A = [] → Rep S F H (.ref a) (.lst false ds) A
  | lstO {a : Addr} {vs : List V} {ds : List D} {A B : List Addr} : H a = some (.lst vs) → Reps S F H vs ds A → B = a :: A → Rep S F H (.ref a) (.lst true ds) B
  | dctS {a : Addr} {vs : List (Key × V)} {ds : List (Key × D)} {A : List Addr} : F a = some (.dK vs) → RepK S F H vs ds A → A = [] → Rep S F H (.ref a) (.dct false ds) A
  | dctO {a : Addr} {vs : List (Key × V)} {ds : List (Key × D)} {A B : List Addr} : H a = some (.dK vs) → RepK S F H vs ds A → B = a :: A → Rep S F H (.ref a) (.dct true ds) B
  | insS {a dx : Addr} {c : Nat} {vs : List (Str × V)} {ds : List (Nat × D)} {A : List Addr} : F a = some (.ins (S.cA c) dx vs) → RepF S F H vs ds A → A = [] → Rep S F H (.ref a) (.ins false c ds) A
  | insO {a dx : Addr} {c : Nat} {vs : List (Str × V)} {ds : List (Nat × D)} {A B : List Addr} : H a = some (.ins (S.cA c) dx vs) → RepF S F H vs ds A → B = a :: A → Rep S F H (.ref a) (.ins true c ds) B
inductive Reps (S : Sw) (F H : Hp) : List V → List D → List Addr → Prop
  | nil : Reps S F H [] [] []
  | cons {v : V} {d : D} {vs : List V} {ds : List D} {A B C : List Addr} : Rep S F H v d A → Reps S F H vs ds B → C = A ++ B → Reps S F H (v :: vs) (d :: ds) C
inductive RepK (S : Sw) (F H : Hp) : List (Key × V) → List (Key × D) → List Addr → Prop
  | nil : RepK S F H [] [] []
  | cons {k : Key} {v : V} {d : D} {vs : List (Key × V)} {ds : List (Key × D)} {A B C : List Addr} : Rep S F H v d A → RepK S F H vs ds B → C = A ++ B → RepK S F H ((k, v) :: vs) ((k, d) :: ds) C
inductive RepF (S : Sw) (F H : Hp) : List (Str × V) → List (Nat × D) → List Addr → Prop
  | nil : RepF S F H [] [] []
  | cons {x : Str} {f : Nat} {v : V} {d : D} {vs : List (Str × V)} {ds : List (Nat × D)} {A B C : List Addr} : S.NM[f]? = some x → Rep S F H v d A → RepF S F H vs ds B → C = A ++ B → RepF S F H ((x, v) :: vs) ((f, d) :: ds) C
end

section
variable {S : Sw} {F H F' H' G : Hp}
theorem sqt_same {K : PySem.W.Frag} {a : Addr} {vs : List V} (e : Same F G) (h : SqT K F a vs) : SqT K G a vs := by
  rcases h with (h | ⟨u, h⟩) | h
  · exact .inl (.inl (e _ _ h))
  · exact .inl (.inr ⟨u, e _ _ h⟩)
  · exact .inr h
mutual
theorem Rep.mono (sF : Same F F') : ∀ {v : V} {d : D} {A : List Addr}, Rep S F H v d A → (∀ b ∈ A, H' b = H b) → Rep S F' H' v d A
  | _, _, _, .non, _ => .non
  | _, _, _, .bl b, _ => .bl b
  | _, _, _, .int i, _ => .int i
  | _, _, _, .str x, _ => .str x
  | _, _, _, .scr h, _ => .scr (sF.seq h)
  | _, _, _, .tup h r, k => .tup (sqt_same sF h) (r.mono sF k)
  | _, _, _, .lstS h r e, k => .lstS (sF _ _ h) (r.mono sF k) e
  | _, _, _, .lstO h r e, k => .lstO (by rw [k _ (by rw [e]; exact List.mem_cons_self)]; exact h) (r.mono sF fun b hb => k b (by rw [e]; exact List.mem_cons_of_mem _ hb)) e
  | _, _, _, .dctS h r e, k => .dctS (sF _ _ h) (r.mono sF k) e
  | _, _, _, .dctO h r e, k => .dctO (by rw [k _ (by rw [e]; exact List.mem_cons_self)]; exact h) (r.mono sF fun b hb => k b (by rw [e]; exact List.mem_cons_of_mem _ hb)) e
  | _, _, _, .insS h r e, k => .insS (sF _ _ h) (r.mono sF k) e
  | _, _, _, .insO h r e, k => .insO (by rw [k _ (by rw [e]; exact List.mem_cons_self)]; exact h) (r.mono sF fun b hb => k b (by rw [e]; exact List.mem_cons_of_mem _ hb)) e
theorem Reps.mono (sF : Same F F') : ∀ {v : List V} {d : List D} {A : List Addr}, Reps S F H v d A → (∀ b ∈ A, H' b = H b) → Reps S F' H' v d A
  | _, _, _, .nil, _ => .nil
  | _, _, _, .cons r rs e, k => .cons (r.mono sF fun b hb => k b (by rw [e]; exact List.mem_append_left _ hb)) (rs.mono sF fun b hb => k b (by rw [e]; exact List.mem_append_right _ hb)) e
theorem RepK.mono (sF : Same F F') : ∀ {v : List (Key × V)} {d : List (Key × D)} {A : List Addr}, RepK S F H v d A → (∀ b ∈ A, H' b = H b) → RepK S F' H' v d A
  | _, _, _, .nil, _ => .nil
  | _, _, _, .cons r rs e, k => .cons (r.mono sF fun b hb => k b (by rw [e]; exact List.mem_append_left _ hb)) (rs.mono sF fun b hb => k b (by rw [e]; exact List.mem_append_right _ hb)) e
theorem RepF.mono (sF : Same F F') : ∀ {v : List (Str × V)} {d : List (Nat × D)} {A : List Addr}, RepF S F H v d A → (∀ b ∈ A, H' b = H b) → RepF S F' H' v d A
  | _, _, _, .nil, _ => .nil
  | _, _, _, .cons n r rs e, k => .cons n (r.mono sF fun b hb => k b (by rw [e]; exact List.mem_append_left _ hb)) (rs.mono sF fun b hb => k b (by rw [e]; exact List.mem_append_right _ hb)) e
end
/-- no tuple -/
def ntup : HO → Bool
  | .tup _ => false
  | .frz _ _ => false
  | .xd _ => false
  | _ => true
mutual
/-- the owned ones stand in H -/
theorem Rep.dom : ∀ {v : V} {d : D} {A : List Addr}, Rep S F H v d A → ∀ b ∈ A, ∃ o, H b = some o ∧ ntup o = true
  | _, _, _, .non, _, h => nomatch h
  | _, _, _, .bl _, _, h => nomatch h
  | _, _, _, .int _, _, h => nomatch h
  | _, _, _, .str _, _, h => nomatch h
  | _, _, _, .scr _, _, h => nomatch h
  | _, _, _, .tup _ r, _, h => r.dom _ h
  | _, _, _, .lstS _ r e, _, h => r.dom _ h
  | _, _, _, .dctS _ r e, _, h => r.dom _ h
  | _, _, _, .insS _ r e, _, h => r.dom _ h
  | _, _, _, .lstO q r e, _, h => by
    rw [e] at h
    rcases (List.mem_cons.mp h) with rfl | h
    · exact ⟨_, q, rfl⟩
    · exact r.dom _ h
  | _, _, _, .dctO q r e, _, h => by
    rw [e] at h
    rcases (List.mem_cons.mp h) with rfl | h
    · exact ⟨_, q, rfl⟩
    · exact r.dom _ h
  | _, _, _, .insO q r e, _, h => by
    rw [e] at h
    rcases (List.mem_cons.mp h) with rfl | h
    · exact ⟨_, q, rfl⟩
    · exact r.dom _ h
theorem Reps.dom : ∀ {v : List V} {d : List D} {A : List Addr}, Reps S F H v d A → ∀ b ∈ A, ∃ o, H b = some o ∧ ntup o = true
  | _, _, _, .nil, _, h => nomatch h
  | _, _, _, .cons r rs e, _, h => by
    rw [e] at h
    rcases (List.mem_append.mp h) with h | h
    · exact r.dom _ h
    · exact rs.dom _ h
theorem RepK.dom : ∀ {v : List (Key × V)} {d : List (Key × D)} {A : List Addr}, RepK S F H v d A → ∀ b ∈ A, ∃ o, H b = some o ∧ ntup o = true
  | _, _, _, .nil, _, h => nomatch h
  | _, _, _, .cons r rs e, _, h => by
    rw [e] at h
    rcases (List.mem_append.mp h) with h | h
    · exact r.dom _ h
    · exact rs.dom _ h
theorem RepF.dom : ∀ {v : List (Str × V)} {d : List (Nat × D)} {A : List Addr}, RepF S F H v d A → ∀ b ∈ A, ∃ o, H b = some o ∧ ntup o = true
  | _, _, _, .nil, _, h => nomatch h
  | _, _, _, .cons n r rs e, _, h => by
    rw [e] at h
    rcases (List.mem_append.mp h) with h | h
    · exact r.dom _ h
    · exact rs.dom _ h
end
mutual
/-- the shared view: over a heap that holds the owned ones too -/
theorem Rep.share (sF : Same F G) : ∀ {v : V} {d : D} {A : List Addr}, Rep S F H v d A → (∀ b ∈ A, G b = H b) → Rep S G H' v (share d) []
  | _, _, _, .non, _ => .non
  | _, _, _, .bl b, _ => .bl b
  | _, _, _, .int i, _ => .int i
  | _, _, _, .str x, _ => .str x
  | _, _, _, .scr h, _ => .scr (sF.seq h)
  | _, _, _, .tup h r, k => .tup (sqt_same sF h) (r.share sF k)
  | _, _, _, .lstS h r e, k => .lstS (sF _ _ h) (r.share sF k) rfl
  | _, _, _, .lstO h r e, k => .lstS (by rw [k _ (by rw [e]; exact List.mem_cons_self)]; exact h) (r.share sF fun b hb => k b (by rw [e]; exact List.mem_cons_of_mem _ hb)) rfl
  | _, _, _, .dctS h r e, k => .dctS (sF _ _ h) (r.share sF k) rfl
  | _, _, _, .dctO h r e, k => .dctS (by rw [k _ (by rw [e]; exact List.mem_cons_self)]; exact h) (r.share sF fun b hb => k b (by rw [e]; exact List.mem_cons_of_mem _ hb)) rfl
  | _, _, _, .insS h r e, k => .insS (sF _ _ h) (r.share sF k) rfl
  | _, _, _, .insO h r e, k => .insS (by rw [k _ (by rw [e]; exact List.mem_cons_self)]; exact h) (r.share sF fun b hb => k b (by rw [e]; exact List.mem_cons_of_mem _ hb)) rfl
theorem Reps.share (sF : Same F G) : ∀ {v : List V} {d : List D} {A : List Addr}, Reps S F H v d A → (∀ b ∈ A, G b = H b) → Reps S G H' v (shareL d) []
  | _, _, _, .nil, _ => .nil
  | _, _, _, .cons r rs e, k => .cons (r.share sF fun b hb => k b (by rw [e]; exact List.mem_append_left _ hb)) (rs.share sF fun b hb => k b (by rw [e]; exact List.mem_append_right _ hb)) rfl
theorem RepK.share (sF : Same F G) : ∀ {v : List (Key × V)} {d : List (Key × D)} {A : List Addr}, RepK S F H v d A → (∀ b ∈ A, G b = H b) → RepK S G H' v (shareK d) []
  | _, _, _, .nil, _ => .nil
  | _, _, _, .cons r rs e, k => .cons (r.share sF fun b hb => k b (by rw [e]; exact List.mem_append_left _ hb)) (rs.share sF fun b hb => k b (by rw [e]; exact List.mem_append_right _ hb)) rfl
theorem RepF.share (sF : Same F G) : ∀ {v : List (Str × V)} {d : List (Nat × D)} {A : List Addr}, RepF S F H v d A → (∀ b ∈ A, G b = H b) → RepF S G H' v (shareF d) []
  | _, _, _, .nil, _ => .nil
  | _, _, _, .cons n r rs e, k => .cons n (r.share sF fun b hb => k b (by rw [e]; exact List.mem_append_left _ hb)) (rs.share sF fun b hb => k b (by rw [e]; exact List.mem_append_right _ hb)) rfl
end
mutual
theorem Rep.noOwn : ∀ {v : V} {d : D} {A : List Addr}, Rep S F H v d A → noOwn d = true → A = []
  | _, _, _, .non, _ => rfl
  | _, _, _, .bl _, _ => rfl
  | _, _, _, .int _, _ => rfl
  | _, _, _, .str _, _ => rfl
  | _, _, _, .scr _, _ => rfl
  | _, _, _, .tup _ r, n => r.noOwn n
  | _, _, _, .lstS _ _ e, _ => e
  | _, _, _, .lstO _ _ _, n => nomatch n
  | _, _, _, .dctS _ _ e, _ => e
  | _, _, _, .dctO _ _ _, n => nomatch n
  | _, _, _, .insS _ _ e, _ => e
  | _, _, _, .insO _ _ _, n => nomatch n
theorem Reps.noOwn : ∀ {v : List V} {d : List D} {A : List Addr}, Reps S F H v d A → noOwnL d = true → A = []
  | _, _, _, .nil, _ => rfl
  | _, _, _, .cons r rs e, n => by
    obtain ⟨n1, n2⟩ := Bool.and_eq_true_iff.mp (show (MI.noOwn _ && noOwnL _) = true from n)
    rw [e, r.noOwn n1, rs.noOwn n2] <;> rfl
end
mutual
theorem share_noOwn : ∀ (d : D), noOwn d = true → share d = d
  | .non, _ => rfl
  | .bl _, _ => rfl
  | .int _, _ => rfl
  | .str _, _ => rfl
  | .scr _, _ => rfl
  | .tup xs, n => by
    show D.tup (shareL xs) = _
    rw [shareL_noOwn xs n]
  | .lst o xs, n => by
    obtain ⟨n1, n2⟩ := Bool.and_eq_true_iff.mp (show (!o && noOwnL xs) = true from n)
    show D.lst false (shareL xs) = _
    rw [shareL_noOwn xs n2]
    cases o with
    | false => rfl
    | true => cases n1
  | .dct o xs, n => by
    obtain ⟨n1, n2⟩ := Bool.and_eq_true_iff.mp (show (!o && noOwnK xs) = true from n)
    show D.dct false (shareK xs) = _
    rw [shareK_noOwn xs n2]
    cases o with
    | false => rfl
    | true => cases n1
  | .ins o c xs, n => by
    obtain ⟨n1, n2⟩ := Bool.and_eq_true_iff.mp (show (!o && noOwnF xs) = true from n)
    show D.ins false c (shareF xs) = _
    rw [shareF_noOwn xs n2]
    cases o with
    | false => rfl
    | true => cases n1
theorem shareL_noOwn : ∀ (d : List D), noOwnL d = true → shareL d = d
  | [], _ => rfl
  | d :: ds, n => by
    obtain ⟨n1, n2⟩ := Bool.and_eq_true_iff.mp (show (MI.noOwn _ && noOwnL _) = true from n)
    show MI.share d :: shareL ds = _
    rw [share_noOwn d n1, shareL_noOwn ds n2]
theorem shareK_noOwn : ∀ (d : List (Key × D)), noOwnK d = true → shareK d = d
  | [], _ => rfl
  | (k, d) :: ds, n => by
    obtain ⟨n1, n2⟩ := Bool.and_eq_true_iff.mp (show (MI.noOwn _ && noOwnK _) = true from n)
    show (k, MI.share d) :: shareK ds = _
    rw [share_noOwn d n1, shareK_noOwn ds n2]
theorem shareF_noOwn : ∀ (d : List (Nat × D)), noOwnF d = true → shareF d = d
  | [], _ => rfl
  | (k, d) :: ds, n => by
    obtain ⟨n1, n2⟩ := Bool.and_eq_true_iff.mp (show (MI.noOwn _ && noOwnF _) = true from n)
    show (k, MI.share d) :: shareF ds = _
    rw [share_noOwn d n1, shareF_noOwn ds n2]
end
mutual
theorem noOwn_share : ∀ (d : D), noOwn (share d) = true
  | .non => rfl
  | .bl _ => rfl
  | .int _ => rfl
  | .str _ => rfl
  | .scr _ => rfl
  | .tup xs => noOwn_shareL xs
  | .lst o xs => by
    show (!false && noOwnL (shareL xs)) = true
    rw [noOwn_shareL xs] <;> rfl
  | .dct o xs => by
    show (!false && noOwnK (shareK xs)) = true
    rw [noOwn_shareK xs] <;> rfl
  | .ins o c xs => by
    show (!false && noOwnF (shareF xs)) = true
    rw [noOwn_shareF xs] <;> rfl
theorem noOwn_shareL : ∀ (d : List D), noOwnL (shareL d) = true
  | [] => rfl
  | d :: ds => by
    show (MI.noOwn (share d) && noOwnL (shareL ds)) = true
    rw [noOwn_share d, noOwn_shareL ds] <;> rfl
theorem noOwn_shareK : ∀ (d : List (Key × D)), noOwnK (shareK d) = true
  | [] => rfl
  | (k, d) :: ds => by
    show (MI.noOwn (share d) && noOwnK (shareK ds)) = true
    rw [noOwn_share d, noOwn_shareK ds] <;> rfl
theorem noOwn_shareF : ∀ (d : List (Nat × D)), noOwnF (shareF d) = true
  | [] => rfl
  | (k, d) :: ds => by
    show (MI.noOwn (share d) && noOwnF (shareF ds)) = true
    rw [noOwn_share d, noOwn_shareF ds] <;> rfl
end
mutual
/-- all new: the frozen part matters for tuples alone -/
theorem Rep.noShr (sT : ∀ a vs, SqT S.K F a vs → SqT S.K G a vs) : ∀ {v : V} {d : D} {A : List Addr}, Rep S F H v d A → noShr d = true → Rep S G H v d A
  | _, _, _, .non, _ => .non
  | _, _, _, .bl b, _ => .bl b
  | _, _, _, .int i, _ => .int i
  | _, _, _, .str x, _ => .str x
  | _, _, _, .scr _, n => nomatch n
  | _, _, _, .tup h r, n => .tup (sT _ _ h) (r.noShr sT n)
  | _, _, _, .lstS _ _ _, n => nomatch n
  | _, _, _, .lstO h r e, n => .lstO h (r.noShr sT n) e
  | _, _, _, .dctS _ _ _, n => nomatch n
  | _, _, _, .dctO h r e, n => .dctO h (r.noShr sT n) e
  | _, _, _, .insS _ _ _, n => nomatch n
  | _, _, _, .insO h r e, n => .insO h (r.noShr sT n) e
theorem Reps.noShr (sT : ∀ a vs, SqT S.K F a vs → SqT S.K G a vs) : ∀ {v : List V} {d : List D} {A : List Addr}, Reps S F H v d A → noShrL d = true → Reps S G H v d A
  | _, _, _, .nil, _ => .nil
  | _, _, _, .cons r rs e, n => by
    obtain ⟨n1, n2⟩ := Bool.and_eq_true_iff.mp (show (MI.noShr _ && noShrL _) = true from n)
    exact .cons (r.noShr sT n1) (rs.noShr sT n2) e
theorem RepK.noShr (sT : ∀ a vs, SqT S.K F a vs → SqT S.K G a vs) : ∀ {v : List (Key × V)} {d : List (Key × D)} {A : List Addr}, RepK S F H v d A → noShrK d = true → RepK S G H v d A
  | _, _, _, .nil, _ => .nil
  | _, _, _, .cons r rs e, n => by
    obtain ⟨n1, n2⟩ := Bool.and_eq_true_iff.mp (show (MI.noShr _ && noShrK _) = true from n)
    exact .cons (r.noShr sT n1) (rs.noShr sT n2) e
theorem RepF.noShr (sT : ∀ a vs, SqT S.K F a vs → SqT S.K G a vs) : ∀ {v : List (Str × V)} {d : List (Nat × D)} {A : List Addr}, RepF S F H v d A → noShrF d = true → RepF S G H v d A
  | _, _, _, .nil, _ => .nil
  | _, _, _, .cons q r rs e, n => by
    obtain ⟨n1, n2⟩ := Bool.and_eq_true_iff.mp (show (MI.noShr _ && noShrF _) = true from n)
    exact .cons q (r.noShr sT n1) (rs.noShr sT n2) e
end
theorem Reps.len : ∀ {v : List V} {d : List D} {A : List Addr}, Reps S F H v d A → v.length = d.length
  | _, _, _, .nil => rfl
  | _, _, _, .cons _ rs _ => congrArg (· + 1) rs.len
theorem RepK.len : ∀ {v : List (Key × V)} {d : List (Key × D)} {A : List Addr}, RepK S F H v d A → v.length = d.length
  | _, _, _, .nil => rfl
  | _, _, _, .cons _ rs _ => congrArg (· + 1) rs.len
theorem RepF.len : ∀ {v : List (Str × V)} {d : List (Nat × D)} {A : List Addr}, RepF S F H v d A → v.length = d.length
  | _, _, _, .nil => rfl
  | _, _, _, .cons _ _ rs _ => congrArg (· + 1) rs.len
end

/-! ### how a run changes the heaps -/
/-- from F, H with the handed owned ones A to F', H' with the owned ones B -/
structure Ext (F H : Hp) (A : List Addr) (F' H' : Hp) (B : List Addr) : Prop where
  sub : Same F' H'
  subF : Same F F'
  same : ∀ b o, H b = some o → b ∉ A → H' b = some o
  new : ∀ b o, F' b = some o → F b = none → H b = none ∨ b ∈ A
  one : ∀ b, B.count b ≤ 1
  own : ∀ b ∈ B, F' b = none ∧ (H b = none ∨ b ∈ A)
  dom : ∀ b ∈ B, ∃ o, H' b = some o
abbrev Ext0 (F H F' H' : Hp) (B : List Addr) : Prop := Ext F H [] F' H' B
section
variable {F H F1 H1 F2 H2 : Hp} {A B C : List Addr}
theorem Ext.refl0 (s : Same F H) : Ext0 F H F H [] := ⟨s, Same.refl _, fun _ _ e _ => e, (fun _ _ e n => by rw [n] at e; cases e), fun _ => Nat.zero_le _, (fun _ h => nomatch h), (fun _ h => nomatch h)⟩
theorem Ext.same0 (e : Ext0 F H F1 H1 B) : Same H H1 := fun b o h => e.same b o h (fun z => nomatch z)
theorem mem_count {b : Addr} {l : List Addr} (h : b ∈ l) : 1 ≤ l.count b := List.count_pos_iff.mpr h
theorem count_mem {b : Addr} {l : List Addr} (h : 1 ≤ l.count b) : b ∈ l := List.count_pos_iff.mp h
/-- one run after another; the first one's owned ones stand by -/
theorem Ext.seq0 (e : Ext0 F H F1 H1 A) (f : Ext0 F1 H1 F2 H2 B) : Ext0 F H F2 H2 (A ++ B) where
  sub := f.sub
  subF := e.subF.trans f.subF
  same := fun b o h _ => f.same0 b o (e.same0 b o h)
  new := fun b o h n => by
    cases q : F1 b with
    | some u => exact e.new b u q n
    | none =>
      rcases f.new b o h q with z | z
      · refine .inl ?_
        cases r : H b with
        | none => rfl
        | some u => rw [e.same0 b u r] at z; cases z
      · cases z
  one := fun b => by
    rw [List.count_append]
    have h1 := e.one b
    have h2 := f.one b
    by_cases ha : b ∈ A
    · by_cases hb : b ∈ B
      · obtain ⟨o, q⟩ := e.dom b ha
        rcases (f.own b hb).2 with z | z
        · rw [q] at z; cases z
        · cases z
      · have : B.count b = 0 := List.count_eq_zero.mpr hb
        omega
    · have : A.count b = 0 := List.count_eq_zero.mpr ha
      omega
  own := fun b hb => by
    rcases (List.mem_append.mp hb) with h | h
    · obtain ⟨n1, n2⟩ := e.own b h
      refine ⟨?_, n2⟩
      cases q : F2 b with
      | none => rfl
      | some u =>
        obtain ⟨o, d⟩ := e.dom b h
        rcases f.new b u q n1 with z | z
        · rw [d] at z; cases z
        · cases z
    · obtain ⟨n1, n2⟩ := f.own b h
      refine ⟨n1, ?_⟩
      rcases n2 with z | z
      · refine .inl ?_
        cases r : H b with
        | none => rfl
        | some u => rw [e.same0 b u r] at z; cases z
      · cases z
  dom := fun b hb => by
    rcases (List.mem_append.mp hb) with h | h
    · obtain ⟨o, q⟩ := e.dom b h
      exact ⟨o, f.same0 b o q⟩
    · exact f.dom b h
/-- a part of the owned ones is let go -/
theorem Ext.drop0 (e : Ext0 F H F1 H1 A) (h : ∀ b, B.count b ≤ A.count b) : Ext0 F H F1 H1 B where
  sub := e.sub
  subF := e.subF
  same := e.same
  new := e.new
  one := fun b => Nat.le_trans (h b) (e.one b)
  own := fun b hb => e.own b (count_mem (Nat.le_trans (mem_count hb) (h b)))
  dom := fun b hb => e.dom b (count_mem (Nat.le_trans (mem_count hb) (h b)))
/-- the frozen part with these owned ones -/
def frzH (F H : Hp) (A : List Addr) : Hp := fun b => if b ∈ A then H b else F b
theorem frzH_in {b : Addr} (h : b ∈ A) : frzH F H A b = H b := if_pos h
theorem frzH_out {b : Addr} (h : b ∉ A) : frzH F H A b = F b := if_neg h
theorem frzH_sub (s : Same F H) : Same (frzH F H A) H := fun b o e => by
  by_cases h : b ∈ A
  · rw [frzH_in h] at e; exact e
  · rw [frzH_out h] at e; exact s _ _ e
theorem frzH_of (n : ∀ b ∈ A, F b = none) : Same F (frzH F H A) := fun b o e => by
  have h : b ∉ A := fun z => by rw [n b z] at e; cases e
  rw [frzH_out h]; exact e
/-- the owned ones are frozen -/
theorem Ext.freeze0 (e : Ext0 F H F1 H1 A) : Ext0 F H (frzH F1 H1 A) H1 [] where
  sub := frzH_sub e.sub
  subF := e.subF.trans (frzH_of fun b h => (e.own b h).1)
  same := e.same
  new := fun b o h n => by
    by_cases hb : b ∈ A
    · exact (e.own b hb).2
    · rw [frzH_out hb] at h; exact e.new b o h n
  one := fun _ => Nat.zero_le _
  own := fun _ h => nomatch h
  dom := fun _ h => nomatch h
/-- a new object is laid, owned -/
theorem Ext.lay0 {p : Addr} {o : HO} (s : Same F H) (n : H p = none) : Ext0 F H F (upd H p o) [p] where
  sub := fun b u e => by
    have q := s b u e
    rw [upd_ne (ne_of_none q n)]; exact q
  subF := Same.refl _
  same := fun b u e _ => by rw [upd_ne (ne_of_none e n)]; exact e
  new := fun b u e m => by rw [m] at e; cases e
  one := fun b => by
    rw [List.count_singleton]
    split <;> omega
  own := fun b hb => by
    obtain rfl : b = p := by simpa using hb
    refine ⟨?_, .inl n⟩
    cases q : F b with
    | none => rfl
    | some u => rw [s b u q] at n; cases n
  dom := fun b hb => by
    obtain rfl : b = p := by simpa using hb
    exact ⟨_, upd_same⟩
/-- .. frozen -/
theorem Ext.layF {p : Addr} {o : HO} (s : Same F H) (n : H p = none) : Ext0 F H (upd F p o) (upd H p o) [] where
  sub := fun b u e => by
    by_cases h : b = p
    · subst h; rw [upd_same] at e ⊢; exact e
    · rw [upd_ne h] at e ⊢; exact s _ _ e
  subF := fun b u e => by rw [upd_ne (ne_of_none (s b u e) n)]; exact e
  same := fun b u e _ => by rw [upd_ne (ne_of_none e n)]; exact e
  new := fun b u e m => by
    by_cases h : b = p
    · subst h; exact .inl n
    · rw [upd_ne h, m] at e; cases e
  one := fun _ => Nat.zero_le _
  own := fun _ h => nomatch h
  dom := fun _ h => nomatch h
end
end MI

set_option Elab.async false
set_option linter.all false
set_option maxRecDepth 99000
/-! MiS: statements, functions. -/
namespace MI
open PySem L2

/-! the slots that an expression reads -/
mutual
def vars : Ex → List Nat
  | .var i => [i]
  | .nop => [] | .non => [] | .bl _ => [] | .int _ => [] | .str _ => [] | .glo _ => []
  | .bin _ a b => vars a ++ vars b
  | .neg a => vars a | .not a => vars a
  | .cmp _ a b => vars a ++ vars b
  | .chn _ _ a b c => vars a ++ vars b ++ vars c
  | .and a b => vars a ++ vars b | .or a b => vars a ++ vars b
  | .ite t a b => vars t ++ vars a ++ vars b
  | .tup es => varsL es | .lst es => varsL es | .dct es => varsL es
  | .idx a b => vars a ++ vars b
  | .slc0 a => vars a | .slcL a l => vars a ++ vars l | .slcH a h => vars a ++ vars h | .slcB a l h => vars a ++ vars l ++ vars h
  | .rev a => vars a | .fld a _ => vars a
  | .call _ es => varsL es | .mth a _ es => vars a ++ varsL es | .mk _ es => varsL es
  | .blt _ es => varsL es | .bmt _ a es => vars a ++ varsL es
  | .isi a _ => vars a | .xisi _ => [] | .xfld _ => []
  | .pln a => vars a | .rng1 a => vars a | .rng2 a b => vars a ++ vars b | .rng3 a b c => vars a ++ vars b ++ vars c
  | .enm a => vars a | .zip a b => vars a ++ vars b | .itm a => vars a | .vls a => vars a
  | .lcp _ it c e _ => vars it ++ vars c ++ vars e
  | .dcp _ it c k v _ => vars it ++ vars c ++ vars k ++ vars v
def varsL : Exs → List Nat
  | .nil => []
  | .cons e es => vars e ++ varsL es
end
/-- what is at hand may be kept: it is all new, or what it was made of is owned by nobody -/
def esc (ρ : Env) (e : Ex) (d : D) : Bool := noShr d || (vars e).all fun j => match ρ.get j with
  | some x => noOwn x
  | none => true

/-- an expression whose value is kept: names may be moved out of their slots -/
inductive Mx where
  | ex (e : Ex) | mov (i : Nat) | tup (es : List Mx) | lst (es : List Mx)
mutual
def evM (w : W) (xc : Xc) : Mx → Env → R (D × Env)
  | .ex e, ρ => (ev w xc false e (shareE ρ)).bind fun d => if esc ρ e d then .ok (d, ρ) else .bad
  | .mov i, ρ => (match ρ.get i with
    | some d => .ok (d, ρ.set i none)
    | none => .bad)
  | .tup es, ρ => (evMs w xc es ρ).bind fun r => if r.1.length ≤ sizeLine then .ok (.tup r.1, r.2) else .bad
  | .lst es, ρ => (evMs w xc es ρ).bind fun r => if r.1.length ≤ sizeLine then .ok (.lst true r.1, r.2) else .bad
def evMs (w : W) (xc : Xc) : List Mx → Env → R (List D × Env)
  | [], ρ => .ok ([], ρ)
  | m :: ms, ρ => (evM w xc m ρ).bind fun r => (noEx (evMs w xc ms r.2)).bind fun q => .ok (r.1 :: q.1, q.2)
end

/-! ### paths to what is changed -/
inductive Pt where
  | here | ix (p : Pt) (e : Ex) | fl (p : Pt) (f : Nat)
inductive PtV where
  | here | ix (p : PtV) (d : D) | fl (p : PtV) (f : Nat)
def evPt (w : W) (xc : Xc) : Pt → Env → R PtV
  | .here, _ => .ok .here
  | .ix p e, ρ => (evPt w xc p ρ).bind fun q => (ev w xc false e ρ).bind fun d => .ok (.ix q d)
  | .fl p f, ρ => (evPt w xc p ρ).bind fun q => .ok (.fl q f)
def putFd (fs : List (Nat × D)) (f : Nat) (v : D) : List (Nat × D) := match fs with
  | [] => [(f, v)]
  | (g, u) :: r => if g = f then (g, v) :: r else (g, u) :: putFd r f v
/-- f is done to an item, a field -/
def ixS (f : D → R (D × D)) (k : D) : D → R (D × D)
  | .lst true xs => (match k with
    | .int i => (match (L2.ixN xs.length i).bind fun j => (xs[j]?).map fun d => (j, d) with
      | some (j, d) => (f d).bind fun q => .ok (.lst true (xs.set j q.1), q.2)
      | none => .bad)
    | _ => .bad)
  | .dct true kvs => (match keyOf k with
    | some k => (match getK kvs k with
      | some d => (f d).bind fun q => .ok (.dct true (setK kvs k q.1), q.2)
      | none => .bad)
    | none => .bad)
  | _ => .bad
def flS (f : D → R (D × D)) (n : Nat) : D → R (D × D)
  | .ins true c fs => (match getF fs n with
    | some d => (f d).bind fun q => .ok (.ins true c (putFd fs n q.1), q.2)
    | none => .bad)
  | _ => .bad
/-- f is done to what stands at the path -/
def chgP (f : D → R (D × D)) : PtV → D → R (D × D)
  | .here, d => f d
  | .ix p k, d => chgP (ixS f k) p d
  | .fl p n, d => chgP (flS f n) p d
/-- what is done there -/
inductive Lf where
  | append | setIx | extend | clear | pop | reverse | update | setFl (f : Nat) | delIx
deriving DecidableEq
def lfD (ok : Nat → Nat → Bool) : Lf → List D → D → R (D × D)
  | .append, [x], .lst true xs => if xs.length < sizeLine then .ok (.lst true (xs ++ [x]), .non) else .bad
  | .setIx, [x, .int i], .lst true xs => (match L2.ixN xs.length i with
    | some j => .ok (.lst true (xs.set j x), .non)
    | none => .bad)
  | .setIx, [x, k], .dct true kvs => (match keyOf k with
    | some k => if kvs.length < sizeLine then .ok (.dct true (setK kvs k x), .non) else .bad
    | none => .bad)
  | .extend, [.lst _ ys], .lst true xs => if xs.length + ys.length ≤ sizeLine then .ok (.lst true (xs ++ shareL ys), .non) else .bad
  | .clear, [], .lst true _ => .ok (.lst true [], .non)
  | .pop, [], .lst true xs => (match xs[xs.length - 1]? with
    | some d => .ok (.lst true xs.dropLast, d)
    | none => .bad)
  | .reverse, [], .lst true xs => .ok (.lst true xs.reverse, .non)
  | .setFl f, [x], .ins true c fs => if fs.length < 1000 && ok c f then .ok (.ins true c (putFd fs f x), .non) else .bad
  | _, _, _ => .bad

def Lf.asg : Lf → Bool
  | .setIx => true
  | .setFl _ => true
  | _ => false

/-! ### statements -/
mutual
inductive Sx where
  | pass | brk | cnt | retN
  | ret (m : Mx)
  | exp (e : Ex)
  | asg (i : Nat) (m : Mx)
  | asgT (ts : List Nat) (m : Mx)
  | par (i j : Nat) (a b : Ex)
  | aug (i : Nat) (op : Operator) (e : Ex)
  /-- f(ms) at root.path -/
  | chg (root : Nat) (p : Pt) (f : Lf) (ms : List Mx)
  | ife (t : Ex) (a b : Sxs)
  | loop (tg : Tg) (it : Ex) (b : Sxs) (kl : List Nat)
  | whl (t : Ex) (b : Sxs) (kl : List Nat)
  | rse (c f : Nat) (e : Ex)
  | rseT (c : Nat)
  | tri (b : Sxs) (c : Nat) (i : Nat) (h : Sxs)
  | frz (i : Nat)
inductive Sxs where
  | nil | cons (s : Sx) (ss : Sxs)
end
inductive O where
  | nx (ρ : Env) | rt (d : D) (ρ : Env) | bk (ρ : Env) | ct (ρ : Env) | ex (c : Nat) (fs : List (Nat × D)) (ρ : Env) | bad
def R.o {α : Type} (ρ : Env) (x : R α) (f : α → O) : O := match x with
  | .ok a => f a
  | .ex c fs => .ex c fs ρ
  | .bad => .bad
@[simp] theorem R.o_ok {α : Type} (ρ : Env) (a : α) (f : α → O) : (R.ok a).o ρ f = f a := rfl
@[simp] theorem R.o_ex {α : Type} (ρ : Env) (c : Nat) (fs : List (Nat × D)) (f : α → O) : (R.ex c fs : R α).o ρ f = .ex c fs ρ := rfl
@[simp] theorem R.o_bad {α : Type} (ρ : Env) (f : α → O) : (R.bad : R α).o ρ f = .bad := rfl
/-- a loop over items -/
def loopL (step : D → Env → O) (kl : List Nat) : List D → Env → O
  | [], ρ => .nx ρ
  | d :: ds, ρ => match step d ρ with
    | .nx ρ' => loopL step kl ds (wipeE ρ' kl)
    | .ct ρ' => loopL step kl ds (wipeE ρ' kl)
    | .bk ρ' => .nx (wipeE ρ' kl)
    | o => o
def whlN (t : Env → R D) (b : Env → O) (kl : List Nat) : Nat → Env → O
  | 0, _ => .bad
  | n + 1, ρ => (boolsR (t ρ)).o ρ fun k => if k then (match b ρ with
    | .nx ρ' => whlN t b kl n (wipeE ρ' kl)
    | .ct ρ' => whlN t b kl n (wipeE ρ' kl)
    | .bk ρ' => .nx (wipeE ρ' kl)
    | o => o) else .nx ρ
def fuel : Nat := 1000000000
/-- what is walked is all new -/
def escV (wd : W) (ρ : Env) : Ex → Bool
  | .rng1 _ => true
  | .rng2 _ _ => true
  | .pln a => (match ev wd none false a ρ with
    | .ok d => noShr d
    | _ => true)
  | .enm a => (match ev wd none false a ρ with
    | .ok d => noShr d
    | _ => true)
  | .zip a b => (match ev wd none false a ρ with
    | .ok d => noShr d
    | _ => true) && (match ev wd none false b ρ with
    | .ok d => noShr d
    | _ => true)
  | _ => false
/-- what a for statement walks may stay as it is while it is walked -/
def escI (w : W) (ρ : Env) (e : Ex) : Bool := escV w (shareE ρ) e || (vars e).all fun j => match ρ.get j with
  | some x => noOwn x
  | none => true
/-- slot 0 is not stored to, where it is handed back -/
def okT (lk : Bool) (ts : List Nat) : Bool := !lk || !ts.contains 0
def chgO (fld : Nat → Nat → Bool) (root : Nat) (f : Lf) (pv : PtV) (r : List D × Env) (ρ : Env) : O := match r.2.get root with
  | some d => (noEx (chgP (lfD fld f r.1) pv d)).o ρ fun q => .nx (r.2.set root (some q.1))
  | none => .bad
/-- what stands at the path -/
def atP : PtV → D → Option D
  | .here, d => some d
  | .ix p k, d => (atP p d).bind fun c => (match c, k with
    | .lst _ xs, .int i => (L2.ixN xs.length i).bind fun j => xs[j]?
    | .dct _ kvs, k => (keyOf k).bind fun k => getK kvs k
    | _, _ => none)
  | .fl p n, d => (atP p d).bind fun c => (match c with
    | .ins _ _ fs => getF fs n
    | _ => none)
def lfT : Lf → D → Bool
  | .update, .dct _ _ => true
  | .update, _ => false
  | _, .lst _ _ => true
  | _, _ => false
def tgtOk (f : Lf) (pv : PtV) (o : Option D) : Bool := match o.bind (atP pv) with
  | some d => lfT f d
  | none => false
mutual
def exS (w : W) (xc : Xc) (lk : Bool) : Sx → Env → O
  | .pass, ρ => .nx ρ
  | .brk, ρ => .bk ρ
  | .cnt, ρ => .ct ρ
  | .retN, ρ => .rt .non ρ
  | .ret m, ρ => (evM w xc m ρ).o ρ fun r => .rt r.1 r.2
  | .exp e, ρ => (ev w xc false e (shareE ρ)).o ρ fun _ => .nx ρ
  | .asg i m, ρ => (evM w xc m ρ).o ρ fun r => if okT lk [i] then .nx (r.2.set i (some r.1)) else .bad
  | .asgT ts m, ρ => (evM w xc m ρ).o ρ fun r => if okT lk ts then (setTg (.tup ts) r.1 r.2).o ρ .nx else .bad
  | .par i j a b, ρ => (ev w xc false a (shareE ρ)).o ρ fun x => (ev w xc false b (shareE ρ)).o ρ fun y =>
      if okT lk [i, j] && (esc ρ a x && esc ρ b y) then .nx ((ρ.set i (some x)).set j (some y)) else .bad
  | .aug i op e, ρ => (match ρ.get i with
    | some (.int x) => (ev w xc false e (shareE ρ)).o ρ fun y => if okT lk [i] then (match op, y with
      | .Add, .int y => .nx (ρ.set i (some (.int (x + y))))
      | .Sub, .int y => .nx (ρ.set i (some (.int (x - y))))
      | _, _ => .bad) else .bad
    | _ => .bad)
  | .chg root p f ms, ρ => if f.asg then (evMs w xc ms ρ).o ρ fun r => (noEx (evPt w xc p (shareE r.2))).o ρ fun pv => chgO w.fld root f pv r ρ
      else (noEx (evPt w xc p (shareE ρ))).o ρ fun pv => if tgtOk f pv (ρ.get root) then (evMs w xc ms ρ).o ρ fun r => chgO w.fld root f pv r ρ else .bad
  | .ife t a b, ρ => (boolsR (ev w xc true t (shareE ρ))).o ρ fun k => if k then exSs w xc lk a ρ else exSs w xc lk b ρ
  | .loop tg it b kl, ρ => if escI w ρ it && okT lk tg.slots && okT lk kl then (ev w xc false it (shareE ρ)).o ρ fun v => (itemsD v).o ρ fun xs =>
      loopL (fun d ρ => (setTg tg d ρ).o ρ fun ρ1 => exSs w xc lk b ρ1) kl xs ρ else .bad
  | .whl t b kl, ρ => if okT lk kl then whlN (fun ρ => ev w xc true t (shareE ρ)) (exSs w xc lk b) kl fuel ρ else .bad
  | .rse c f e, ρ => (ev w xc false e (shareE ρ)).o ρ fun d => if esc ρ e d then .ex c [(f, share d)] ρ else .bad
  | .rseT c, ρ => .ex c [] ρ
  | .tri b c i h, ρ => (match exSs w xc lk b ρ with
    | .ex c' fs ρ' => if w.sub c' c then (if okT lk [i] then (match exSs w (some (c', fs)) lk h (ρ'.set i none) with
      | .nx ρ2 => .nx (ρ2.set i none)
      | .rt d ρ2 => .rt d (ρ2.set i none)
      | _ => .bad) else .bad) else .ex c' fs ρ'
    | o => o)
  | .frz i, ρ => (match ρ.get i with
    | some d => .nx (ρ.set i (some (share d)))
    | none => .nx ρ)
def exSs (w : W) (xc : Xc) (lk : Bool) : Sxs → Env → O
  | .nil, ρ => .nx ρ
  | .cons s ss, ρ => (match exS w xc lk s ρ with
    | .nx ρ' => exSs w xc lk ss ρ'
    | o => o)
end
/-- a def: parameters, slots, whether slot 0 is handed back, the body -/
structure Fd where
  np : Nat
  nl : Nat
  lk : Bool
  body : Sxs
def backR (lk : Bool) (d : D) (ρ : Env) : R (D × D) := if lk then (match ρ.get 0 with
  | some x => .ok (d, x)
  | none => .bad) else .ok (d, .non)
def runFn (w : W) (fd : Fd) (ds : List D) : R (D × D) :=
  if ds.length = fd.np then (match exSs w none fd.lk fd.body (ds.map some ++ List.replicate (fd.nl - fd.np) none) with
    | .nx ρ => backR fd.lk .non ρ
    | .rt d ρ => backR fd.lk d ρ
    | .ex c fs _ => .ex c fs
    | _ => .bad) else .bad
/-- a program's tables -/
structure Tab where
  fns : List (Nat × Fd)
  meths : List ((Nat × Nat) × Nat)
  inits : List (Nat × Nat)
  subs : List (Nat × Nat)
  glos : List (Nat × D)
  flds : List (Nat × Nat)
/-- the world by its call depth -/
def Tab.w (T : Tab) : Nat → W
  | 0 => { fn := fun _ _ => .bad, meth := fun c m => T.meths.lookup (c, m), init := fun c => T.inits.lookup c, sub := fun a b => T.subs.contains (a, b), glo := fun g => T.glos.lookup g, fld := fun c f => T.flds.contains (c, f) }
  | k + 1 => { fn := fun f ds => (match T.fns.lookup f with
      | some fd => runFn (T.w k) fd ds
      | none => .bad), meth := fun c m => T.meths.lookup (c, m), init := fun c => T.inits.lookup c, sub := fun a b => T.subs.contains (a, b), glo := fun g => T.glos.lookup g, fld := fun c f => T.flds.contains (c, f) }
end MI

set_option Elab.async false
set_option linter.all false
set_option maxRecDepth 99000
/-! MiM: does a neat tree say what the text's tree says. -/
namespace MI
open PySem L2

structure Nms where
  NM : List Str
  fN : List (Nat × Str)
  cN : List (Nat × Str)
  gN : List (Nat × Str)
  fr : List Str

def visB (sc : Scope) (x : Str) : Bool := match sc.names.lookup x with
  | some .local => true | some .cell => true | some .free => true | _ => false
def gloB (sc : Scope) (x : Str) : Bool := match sc.names.lookup x with
  | some .globalImplicit => true | _ => false
def locB (sc : Scope) (x : Str) : Bool := match sc.names.lookup x with
  | some .local => true | _ => false
/-- a name that a def may store to -/
def stoB (sc : Scope) (x : Str) : Bool := match sc.names.lookup x with
  | some .local => true | some .cell => true | _ => false
def dbgB (x : Str) : Bool := (x == ("__debug__" : Str)) == false
def cdcB (x : Str) : Bool := (x == ("__classdict__" : Str)) == false
/-- neither starred, nor a slice, nor a set -/
def plainX : PySem.Expr → Bool
  | .Starred _ _ => false | .Slice _ _ _ _ => false | .Set _ _ _ => false | .GeneratorExp _ _ _ _ => false | _ => true
def notSuper : PySem.Expr → Bool
  | .Call (.Name x _) [] [] _ => x != ("super" : Str)
  | _ => true
def gName? (M : Nms) (l : List (Nat × Str)) (i : Nat) (sc : Scope) (x : Str) : Bool := decide (l.lookup i = some x) && gloB sc x && dbgB x
/-- a built-in's name -/
def bName (M : Nms) (sc : Scope) (z x : Str) : Bool := decide (x = z) && gloB sc x && dbgB x && M.fr.contains x && ((x == ("__name__" : Str)) == false)
def Blt.nm : Blt → Str
  | .len => "len" | .int => "int" | .bool => "bool" | .str => "str" | .list => "list" | .tuple => "tuple" | .sorted => "sorted" | .all => "all" | .any => "any"
  | .max1 => "max" | .min1 => "min" | .max2 => "max" | .min2 => "min" | .sum => "sum"
def Blt.calm : Blt → Bool
  | .sorted => true | .all => true | .any => true | .max1 => true | .min1 => true | .max2 => true | .min2 => true | .sum => true | _ => false
def Bmt.nm : Bmt → Str
  | .get1 => "get" | .get2 => "get" | .join => "join" | .split => "split" | .startswith => "startswith" | .index => "index" | .replace => "replace" | .upper => "upper"
def Ty.nm : Ty → Option Str
  | .int => some "int" | .bool => some "bool" | .str => some "str" | .list => some "list" | .tuple => some "tuple" | .dict => some "dict" | .cls _ => none
def mTy (M : Nms) (sc : Scope) : Ty → PySem.Expr → Bool
  | .cls c, .Name x _ => gName? M M.cN c sc x
  | t, .Name x _ => (match t.nm with
    | some z => bName M sc z x
    | none => false)
  | _, _ => false
def mTys (M : Nms) (sc : Scope) : List Ty → List PySem.Expr → Bool
  | [], [] => true
  | t :: ts, x :: xs => mTy M sc t x && mTys M sc ts xs
  | _, _ => false
/-- a target -/
def mTg (N : List Str) (sc : Scope) : Tg → PySem.Expr → Bool
  | .name i, .Name x _ => decide (N[i]? = some x) && stoB sc x
  | .tup ts, .Tuple xs _ _ => mTgs ts xs
  | _, _ => false
where mTgs : List Nat → List PySem.Expr → Bool
  | [], [] => true
  | i :: r, .Name x _ :: xs => decide (N[i]? = some x) && stoB sc x && mTgs r xs
  | _, _ => false
/-- the targets of a comprehension: its own names -/
def isTup : PySem.Expr → Bool
  | .Tuple _ _ _ => true | _ => false
def ownP (N : List Str) (own : List Nat) : List (Str × Nat) := own.filterMap fun i => (N[i]?).map fun x => (x, i)
def neg1 : PySem.Expr → Bool
  | .UnaryOp .USub (.Constant (.int i) _ _) _ => decide (i = 1)
  | _ => false
mutual
def mE (M : Nms) (N : List Str) (cm : Bool) (sc : Scope) (m : Bool) : Ex → PySem.Expr → Bool
  | .var i, .Name x _ => decide (N[i]? = some x) && visB sc x && dbgB x && cdcB x
  | .glo g, .Name x _ => gName? M M.gN g sc x
  | .non, .Constant .none _ _ => true
  | .bl b, .Constant (.bool c) _ _ => decide (b = c)
  | .int i, .Constant (.int j) _ _ => decide (i = j)
  | .str x, .Constant (.str y) _ _ => decide (x = y)
  | .bin op a b, .BinOp l op' r _ => decide (op = op') && mE M N cm sc false a l && mE M N cm sc false b r
  | .neg a, .UnaryOp .USub l _ => mE M N cm sc false a l
  | .not a, .UnaryOp .Not l _ => mE M N cm sc m a l
  | .cmp op a b, .Compare l [op'] [r] _ => decide (op = op') && mE M N cm sc false a l && mE M N cm sc false b r
  | .chn op1 op2 a b c, .Compare l [op1', op2'] [r, r2] _ => decide (op1 = op1') && decide (op2 = op2') && mE M N cm sc false a l && mE M N cm sc false b r && mE M N cm sc false c r2
  | .and a b, .BoolOp .And [l, r] _ => mE M N cm sc m a l && mE M N cm sc m b r
  | .and a b, .BoolOp .And (l :: r :: r2 :: rs) p => mE M N cm sc m a l && mE M N cm sc m b (.BoolOp .And (r :: r2 :: rs) p)
  | .or a b, .BoolOp .Or [l, r] _ => mE M N cm sc m a l && mE M N cm sc m b r
  | .or a b, .BoolOp .Or (l :: r :: r2 :: rs) p => mE M N cm sc m a l && mE M N cm sc m b (.BoolOp .Or (r :: r2 :: rs) p)
  | .ite t a b, .IfExp c x y _ => !m && mE M N cm sc true t c && mE M N cm sc false a x && mE M N cm sc false b y
  | .tup es, .Tuple xs _ _ => mL M N cm sc es xs
  | .lst es, .List xs _ => mL M N cm sc es xs
  | .dct .nil, .Dict [] [] _ => true
  | .idx a b, .Subscript l r _ => mE M N cm sc false a l && mE M N cm sc false b r
  | .slc0 a, .Subscript l (.Slice none none none _) _ => mE M N cm sc false a l
  | .slcL a lo, .Subscript l (.Slice (some x) none none _) _ => mE M N cm sc false a l && mE M N cm sc false lo x
  | .slcH a hi, .Subscript l (.Slice none (some x) none _) _ => mE M N cm sc false a l && mE M N cm sc false hi x
  | .slcB a lo hi, .Subscript l (.Slice (some x) (some y) none _) _ => mE M N cm sc false a l && mE M N cm sc false lo x && mE M N cm sc false hi y
  | .rev a, .Subscript l (.Slice none none (some s) _) _ => mE M N cm sc false a l && neg1 s
  | .fld a f, .Attribute l x _ => mE M N cm sc false a l && decide (M.NM[f]? = some x) && notSuper l
  | .call f es, .Call (.Name x _) xs [] _ => gName? M M.fN f sc x && mL M N cm sc es xs && cm
  | .mth a n es, .Call (.Attribute l x ap) xs [] p => mE M N cm sc false a l && decide (M.NM[n]? = some x) && mL M N cm sc es xs && cm && notSuper l && (ap.endLine == p.line) && decide (xs.length < 29)
  | .mk c es, .Call (.Name x _) xs [] _ => gName? M M.cN c sc x && mL M N cm sc es xs && cm
  | .blt b es, .Call (.Name x _) xs [] _ => bName M sc b.nm x && mL M N cm sc es xs && !xs.isEmpty && (cm || !b.calm)
  | .bmt b a es, .Call (.Attribute l x ap) xs [] p => decide (x = b.nm) && mE M N cm sc false a l && mL M N cm sc es xs && cm && notSuper l && (ap.endLine == p.line) && decide (xs.length < 29)
  | .isi a ts, .Call (.Name z _) [x, .Tuple ys _ _] [] _ => bName M sc "isinstance" z && mE M N cm sc false a x && mTys M sc ts ys && decide (ts.length < 100)
  | .isi a [t], .Call (.Name z _) [x, .Name y q] [] _ => bName M sc "isinstance" z && mE M N cm sc false a x && mTy M sc t (.Name y q)
  | .lcp tg it c e own, .ListComp elt [⟨t, i, ifs, 0⟩] scope _ => cm && mI M N cm sc (isTup t) it i && mTg N scope tg t && blkC N sc scope (ownP N own) && tg.slots.all own.contains && decide ((ownP N own).map (·.2) = own) &&
      (match ifs with
      | [] => (match c with
        | .bl true => true
        | _ => false)
      | [x] => plainX x && mE M N cm scope true c x
      | _ => false) && plainX elt && mE M N cm scope false e elt
  | .dcp tg it c k v own, .DictComp kx vx [⟨t, i, ifs, 0⟩] scope _ => cm && mI M N cm sc (isTup t) it i && mTg N scope tg t && blkC N sc scope (ownP N own) && tg.slots.all own.contains && decide ((ownP N own).map (·.2) = own) &&
      (match ifs with
      | [] => (match c with
        | .bl true => true
        | _ => false)
      | [x] => plainX x && mE M N cm scope true c x
      | _ => false) && plainX kx && mE M N cm scope false k kx && plainX vx && mE M N cm scope false v vx
  | _, _ => false
def mL (M : Nms) (N : List Str) (cm : Bool) (sc : Scope) : Exs → List PySem.Expr → Bool
  | .nil, [] => true
  | .cons e es, x :: xs => plainX x && mE M N cm sc false e x && mL M N cm sc es xs
  | _, _ => false
/-- what a for or a comprehension walks; tt: its target is a tuple -/
def mI (M : Nms) (N : List Str) (cm : Bool) (sc : Scope) (tt : Bool) : Ex → PySem.Expr → Bool
  | .rng1 a, .Call (.Name x _) [l] [] _ => bName M sc "range" x && plainX l && mE M N cm sc false a l
  | .rng2 a b, .Call (.Name x _) [l, r] [] _ => bName M sc "range" x && plainX l && mE M N cm sc false a l && plainX r && mE M N cm sc false b r
  | .enm a, .Call (.Name x _) [l] [] _ => tt && bName M sc "enumerate" x && plainX l && mE M N cm sc false a l
  | .zip a b, .Call (.Name x _) [l, r] [] _ => tt && bName M sc "zip" x && plainX l && mE M N cm sc false a l && plainX r && mE M N cm sc false b r
  | .pln a, x => plainX x && mE M N cm sc false a x
  | _, _ => false
end

/-! ### statements -/
def vName (N : List Str) (sc : Scope) (i : Nat) (x : Str) : Bool := decide (N[i]? = some x) && visB sc x && dbgB x && cdcB x
def sName (N : List Str) (sc : Scope) (i : Nat) (x : Str) : Bool := decide (N[i]? = some x) && stoB sc x
mutual
def mM (M : Nms) (N : List Str) (cm : Bool) (sc : Scope) : Mx → PySem.Expr → Bool
  | .ex e, x => mE M N cm sc false e x
  | .mov i, x => (match x with
    | .Name y _ => vName N sc i y
    | _ => false)
  | .tup ms, x => (match x with
    | .Tuple xs _ _ => mMs M N cm sc ms xs
    | _ => false)
  | .lst ms, x => (match x with
    | .List xs _ => mMs M N cm sc ms xs
    | _ => false)
def mMs (M : Nms) (N : List Str) (cm : Bool) (sc : Scope) : List Mx → List PySem.Expr → Bool
  | [], xs => (match xs with
    | [] => true
    | _ => false)
  | m :: ms, xs => (match xs with
    | [] => false
    | x :: xs => plainX x && mM M N cm sc m x && mMs M N cm sc ms xs)
end
def isComp : PySem.Expr → Bool
  | .ListComp _ _ _ _ => true
  | .SetComp _ _ _ _ => true
  | .DictComp _ _ _ _ _ => true
  | _ => false
def isTupX : PySem.Expr → Bool
  | .Tuple _ _ _ => true
  | _ => false
/-- a comprehension that swaps with the name it goes to -/
def swB (sc : Scope) (y : Str) (py : Pos) : PySem.Expr → Bool
  | .ListComp _ _ s p => (match sc.names.lookup y with
    | some .local => true
    | _ => false) && (py.line == p.line) && !(s.names.any fun (n, k) => n == y && (k == .local || k == .cell))
  | .SetComp _ _ s p => (match sc.names.lookup y with
    | some .local => true
    | _ => false) && (py.line == p.line) && !(s.names.any fun (n, k) => n == y && (k == .local || k == .cell))
  | .DictComp _ _ _ s p => (match sc.names.lookup y with
    | some .local => true
    | _ => false) && (py.line == p.line) && !(s.names.any fun (n, k) => n == y && (k == .local || k == .cell))
  | _ => false
def mPt (M : Nms) (N : List Str) (cm : Bool) (sc : Scope) (root : Nat) : Pt → PySem.Expr → Bool
  | .here, x => (match x with
    | .Name y _ => vName N sc root y
    | _ => false)
  | .ix p e, x => (match x with
    | .Subscript l r _ => false && mPt M N cm sc root p l && mE M N cm sc false e r
    | _ => false)
  | .fl p f, x => (match x with
    | .Attribute l y _ => false && mPt M N cm sc root p l && decide (M.NM[f]? = some y) && notSuper l
    | _ => false)
def Lf.nm : Lf → Option Str
  | .append => some "append" | .extend => some "extend" | .clear => some "clear" | .pop => some "pop" | .reverse => some "reverse" | .update => some "update" | _ => none
def mCh (M : Nms) (N : List Str) (cm : Bool) (sc : Scope) (root : Nat) (p : Pt) (f : Lf) (ms : List Mx) : Stmt → Bool
  | .Expr (.Call (.Attribute o y ap) xs [] cp) _ => decide (f = .append) && decide (y = "append") && mPt M N cm sc root p o && mMs M N cm sc ms xs && !xs.isEmpty && notSuper o && (ap.endLine == cp.line) && decide (xs.length < 29)
  | .Assign [.Subscript o i _] v _ => false && decide (f = .setIx) && mPt M N cm sc root p o && mMs M N cm sc ms [v, i] && !isComp v
  | .Assign [.Attribute o y _] v _ => (match f with
    | .setFl n => false && decide (M.NM[n]? = some y) && mPt M N cm sc root p o && mMs M N cm sc ms [v] && !isComp v && notSuper o
    | _ => false)
  | _ => false
mutual
def mS (M : Nms) (N : List Str) (cm : Bool) (sc : Scope) : Sx → Stmt → Bool
  | .pass, st => (match st with
    | .Pass _ => true
    | .Expr (.Constant (.str _) _ _) _ => true
    | _ => false)
  | .brk, st => (match st with
    | .Break _ => true
    | _ => false)
  | .cnt, st => (match st with
    | .Continue _ => true
    | _ => false)
  | .retN, st => (match st with
    | .Return none _ => true
    | _ => false)
  | .ret m, st => (match st with
    | .Return (some x) _ => mM M N cm sc m x
    | _ => false)
  | .exp e, st => (match st with
    | .Expr x _ => mE M N cm sc false e x && !isComp x
    | _ => false)
  | .asg i m, st => (match st with
    | .Assign [.Name y _] x _ => sName N sc i y && mM M N cm sc m x
    | _ => false)
  | .asgT ts m, st => (match st with
    | .Assign [.Tuple xs _ _] x _ => false && cm && mTg.mTgs N sc ts xs && mM M N cm sc m x && !isComp x && !isTupX x
    | _ => false)
  | .par _ _ _ _, _ => false
  | .aug i op e, st => (match st with
    | .AugAssign (.Name y _) op' x _ => false && decide (op = op') && sName N sc i y && mE M N cm sc false e x
    | _ => false)
  | .chg root p f ms, st => mCh M N cm sc root p f ms st
  | .ife t a b, st => (match st with
    | .If c xs ys _ => mE M N cm sc true t c && mSs M N cm sc a xs && mSs M N cm sc b ys
    | _ => false)
  | .loop tg it b kl, st => (match st with
    | .For t x xs [] _ => cm && mI M N cm sc (isTup t) it x && mTg N sc tg t && mSs M N cm sc b xs
    | _ => false)
  | .whl t b kl, st => (match st with
    | .While c xs [] _ => mE M N cm sc true t c && mSs M N cm sc b xs
    | _ => false)
  | .rse _ _ _, _ => false
  | .rseT _, _ => false
  | .tri _ _ _ _, _ => false
  | .frz _, _ => false
def mSs (M : Nms) (N : List Str) (cm : Bool) (sc : Scope) : Sxs → List Stmt → Bool
  | .nil, xs => (match xs with
    | [] => true
    | _ => false)
  | .cons s ss, xs => (match s with
    | .frz _ => mSs M N cm sc ss xs
    | _ => (match xs with
      | [] => false
      | x :: xs => mS M N cm sc s x && mSs M N cm sc ss xs))
end
end MI

set_option Elab.async false
set_option linter.all false
set_option maxRecDepth 99000
/-! MiD: what a run says of the machine: readings, posts. -/
namespace MI
open PySem L2 PySem.Spec PyProof.Rows

/-! ### the weakest readings -/
def RE (X : Cx) (x : PySem.Expr) (σ : L2.St) (H : Hp) (Q : VK) (W : WX) : Prop :=
  ∀ (pins : List (Addr × Obj)) (s : Shared), Inv X pins σ H s → wpAny (model X.prog X.w) X.A (eval x X.env) (EP X pins σ Q) (XE X W) s
def RT (X : Cx) (x : PySem.Expr) (σ : L2.St) (H : Hp) (Q : Bool → Hp → Prop) (W : WX) : Prop :=
  ∀ (pins : List (Addr × Obj)) (s : Shared), Inv X pins σ H s → wpAny (model X.prog X.w) X.A (isTrue x X.env (eval x X.env)) (TP X pins σ Q) (XE X W) s
def RA (X : Cx) (xs : List PySem.Expr) (σ : L2.St) (H : Hp) (Q : List V → Hp → Prop) (W : WX) : Prop :=
  ∀ (pos : Pos) (pins : List (Addr × Obj)) (s : Shared), Inv X pins σ H s → wpAny (model X.prog X.w) X.A (spliced (backTo pos (starEach xs X.env))) (AP X pins σ Q) (XE X W) s
abbrev Cx.xw (X : Cx) (W : WX) : Cx := X.wish (XE X W)
section
variable {X : Cx} {W : WX} {x : PySem.Expr} {xs : List PySem.Expr} {σ : L2.St} {H : Hp}
theorem xe_unw {u : Value} {s : Shared} {E : Value → Shared → Prop} (h : XE (X.wish E) W u s) : XE X W u s := by
  obtain ⟨a, B, sI, pins, σ, H, cls, d, e, I, r⟩ := h
  exact ⟨a, B, sI, pins, σ, H, cls, d, e, I.unwish, r⟩
theorem takes_xw : Takes (Cx.xw X W) W := fun u s h => xe_unw h
theorem ep_unw {pins : List (Addr × Obj)} {Q : VK} {u : Value} {s : Shared} {E : Value → Shared → Prop} (h : EP (X.wish E) pins σ Q u s) : EP X pins σ Q u s := by
  obtain ⟨v, H', I, r⟩ := h
  exact ⟨v, H', I.unwish, r⟩
theorem ep_wi {pins : List (Addr × Obj)} {Q : VK} {u : Value} {s : Shared} {E : Value → Shared → Prop} (h : EP X pins σ Q u s) : EP (X.wish E) pins σ Q u s := by
  obtain ⟨v, H', I, r⟩ := h
  exact ⟨v, H', I.wish _, r⟩
theorem tp_unw {pins : List (Addr × Obj)} {Q : Bool → Hp → Prop} {u : Bool} {s : Shared} {E : Value → Shared → Prop} (h : TP (X.wish E) pins σ Q u s) : TP X pins σ Q u s := by
  obtain ⟨H', I, r⟩ := h
  exact ⟨H', I.unwish, r⟩
theorem tp_wi {pins : List (Addr × Obj)} {Q : Bool → Hp → Prop} {u : Bool} {s : Shared} {E : Value → Shared → Prop} (h : TP X pins σ Q u s) : TP (X.wish E) pins σ Q u s := by
  obtain ⟨H', I, r⟩ := h
  exact ⟨H', I.wish _, r⟩
theorem ap_unw {pins : List (Addr × Obj)} {Q : List V → Hp → Prop} {u : List Value} {s : Shared} {E : Value → Shared → Prop} (h : AP (X.wish E) pins σ Q u s) : AP X pins σ Q u s := by
  obtain ⟨v, H', I, r⟩ := h
  exact ⟨v, H', I.unwish, r⟩
theorem ap_wi {pins : List (Addr × Obj)} {Q : List V → Hp → Prop} {u : List Value} {s : Shared} {E : Value → Shared → Prop} (h : AP X pins σ Q u s) : AP (X.wish E) pins σ Q u s := by
  obtain ⟨v, H', I, r⟩ := h
  exact ⟨v, H', I.wish _, r⟩
theorem re_of {t : TE} {Q : VK} (h : PE (Cx.xw X W) x t) (q : t σ H Q) : RE X x σ H Q W := fun pins s I =>
  wpAny_mono (h.run pins s σ H Q (I.wish _) q) (fun _ _ z => ep_unw z) fun _ _ z => z
theorem pe_can : PE (Cx.xw X W) x (fun σ H Q => RE X x σ H Q W) := ⟨fun pins s σ H Q I h =>
  wpAny_mono (h pins s I.unwish) (fun _ _ z => ep_wi z) fun _ _ z => z⟩
theorem rt_of {t : TT} {Q : Bool → Hp → Prop} (h : PT (Cx.xw X W) x t) (q : t σ H Q) : RT X x σ H Q W := fun pins s I =>
  wpAny_mono (h.run pins s σ H Q (I.wish _) q) (fun _ _ z => tp_unw z) fun _ _ z => z
theorem pt_can : PT (Cx.xw X W) x (fun σ H Q => RT X x σ H Q W) := ⟨fun pins s σ H Q I h =>
  wpAny_mono (h pins s I.unwish) (fun _ _ z => tp_wi z) fun _ _ z => z⟩
theorem ra_of {t : TA} {Q : List V → Hp → Prop} (h : PA (Cx.xw X W) xs t) (q : t σ H Q) : RA X xs σ H Q W := fun pos pins s I =>
  wpAny_mono (h.run pos pins s σ H Q (I.wish _) q) (fun _ _ z => ap_unw z) fun _ _ z => z
theorem pa_can : PA (Cx.xw X W) xs (fun σ H Q => RA X xs σ H Q W) := ⟨fun pos pins s σ H Q I h =>
  wpAny_mono (h pos pins s I.unwish) (fun _ _ z => ap_wi z) fun _ _ z => z⟩
end

/-! ### the posts -/
section
variable (S : Sw)
def Post (F H : Hp) (d : D) (Q : VK) : Prop := ∀ (v : V) (F' H' : Hp) (A : List Addr), Ext0 F H F' H' A → Rep S F' H' v d A → Q v H'
def PostL (F H : Hp) (ds : List D) (Q : List V → Hp → Prop) : Prop := ∀ (vs : List V) (F' H' : Hp) (A : List Addr), Ext0 F H F' H' A → Reps S F' H' vs ds A → Q vs H'
/-- an exception's own record -/
def XRep (F H : Hp) (fs : List (Nat × D)) (d : Option Addr) : Prop :=
  (fs = [] ∧ d = none) ∨ ∃ (f : Nat) (x : Str) (v : V) (e : D) (dd : Addr), fs = [(f, e)] ∧ S.NM[f]? = some x ∧ d = some dd ∧ F dd = some (.xd [(x, v)]) ∧ Rep S F H v e []
def PostX (F H : Hp) (A : List Addr) (c : Nat) (fs : List (Nat × D)) (W : XK) : Prop := ∀ (F' H' : Hp) (d : Option Addr), Ext F H A F' H' [] → XRep S F' H' fs d → W (.ref (S.cA c)) d H'
/-- what a result asks -/
def PX {α : Type} (F H : Hp) (r : R α) (P : α → Prop) (W : XK) : Prop := match r with
  | .ok d => P d
  | .ex c fs => PostX S F H [] c fs W
  | .bad => False
abbrev PR (F H : Hp) (r : R D) (Q : VK) (W : XK) : Prop := PX S F H r (fun d => Post S F H d Q) W
abbrev PRL (F H : Hp) (r : R (List D)) (Q : List V → Hp → Prop) (W : XK) : Prop := PX S F H r (fun d => PostL S F H d Q) W
/-- .. of a test -/
def PostB (F H : Hp) (d : D) (Q : Bool → Hp → Prop) : Prop := match d with
  | .bl k => ∀ F' H', Ext0 F H F' H' [] → Q k H'
  | _ => False
abbrev PRB (F H : Hp) (r : R D) (Q : Bool → Hp → Prop) (W : XK) : Prop := PX S F H r (fun d => PostB F H d Q) W
end
section
variable {S : Sw} {F H F1 H1 : Hp} {A : List Addr} {W : XK} {α β : Type}
theorem PostX.seq {c : Nat} {fs : List (Nat × D)} (h : PostX S F H [] c fs W) (e : Ext0 F H F1 H1 A) : PostX S F1 H1 [] c fs W := fun F' H' d f r => h F' H' d ((e.seq0 f).drop0 fun b => Nat.zero_le _) r
theorem PX.bind {r : R α} {f : α → R β} {P : β → Prop} (h : PX S F H (r.bind f) P W) : PX S F H r (fun a => PX S F H (f a) P W) W := by
  cases r with
  | ok d => exact h
  | ex c fs => exact h
  | bad => exact h
theorem PX.imp {r : R α} {P P' : α → Prop} (h : PX S F H r P W) (k : ∀ a, r = .ok a → P a → P' a) : PX S F H r P' W := by
  cases r with
  | ok d => exact k d rfl h
  | ex c fs => exact h
  | bad => exact h
/-- a part is run: its value, at whatever heaps come -/
def Got (S : Sw) (F1 H1 : Hp) (r : R D) (P : D → Prop) : VK := fun v H2 => ∃ (d : D) (F2 : Hp) (B : List Addr), r = .ok d ∧ Ext0 F1 H1 F2 H2 B ∧ Rep S F2 H2 v d B ∧ P d
def GotL (S : Sw) (F1 H1 : Hp) (r : R (List D)) (P : List D → Prop) : List V → Hp → Prop := fun v H2 => ∃ (d : List D) (F2 : Hp) (B : List Addr), r = .ok d ∧ Ext0 F1 H1 F2 H2 B ∧ Reps S F2 H2 v d B ∧ P d
def GotB (F1 H1 : Hp) (r : R D) (P : D → Prop) : Bool → Hp → Prop := fun k H2 => ∃ (F2 : Hp), r = .ok (.bl k) ∧ Ext0 F1 H1 F2 H2 [] ∧ P (.bl k)
theorem PX.step {r : R D} {P : D → Prop} (h : PX S F H r P W) (e : Ext0 F H F1 H1 A) : PR S F1 H1 r (Got S F1 H1 r P) W := by
  cases r with
  | ok d => exact fun v F2 H2 B e2 r2 => ⟨d, F2, B, rfl, e2, r2, h⟩
  | ex c fs => exact PostX.seq h e
  | bad => exact h
theorem PX.stepL {r : R (List D)} {P : List D → Prop} (h : PX S F H r P W) (e : Ext0 F H F1 H1 A) : PRL S F1 H1 r (GotL S F1 H1 r P) W := by
  cases r with
  | ok d => exact fun v F2 H2 B e2 r2 => ⟨d, F2, B, rfl, e2, r2, h⟩
  | ex c fs => exact PostX.seq h e
  | bad => exact h
/-- a test is run -/
theorem PX.stepB {r : R D} {P : Bool → Prop} (h : PX S F H (boolsR r) P W) (e : Ext0 F H F1 H1 A) : PRB S F1 H1 r (GotB F1 H1 r fun d => match d with | .bl k => P k | _ => False) W := by
  cases r with
  | ok d => cases d with
    | bl k => exact fun F2 H2 e2 => ⟨F2, rfl, e2, h⟩
    | _ => exact h.elim
  | ex c fs => exact PostX.seq h e
  | bad => exact h
end
end MI

set_option Elab.async false
set_option linter.all false
set_option maxRecDepth 99000
set_option maxHeartbeats 999000
/-! MiO: operations on data are the machine's. -/
namespace MI
open PySem L2 PySem.Spec PyProof.Rows

section
variable {S : Sw} {F0 H0 F H : Hp} {C A B : List Addr} {Q : VK}
theorem sub_nil {l : List Addr} : ∀ b, ([] : List Addr).count b ≤ l.count b := fun _ => Nat.zero_le _
/-- a value without objects of its own -/
theorem fin_sc {v : V} {d : D} (e : Ext0 F0 H0 F H C) (h : Post S F0 H0 d Q) (r : Rep S F H v d []) : Q v H := h v F H [] (e.drop0 sub_nil) r
/-- a value that is shared -/
theorem fin_sh {v : V} {d : D} (e : Ext0 F0 H0 F H C) (r : Rep S F H v d A) (hA : ∀ b ∈ A, b ∈ C) (h : Post S F0 H0 (share d) Q) : Q v H :=
  h v (frzH F H C) H [] e.freeze0 (r.share (frzH_of fun b hb => (e.own b hb).1) fun b hb => frzH_in (hA b hb))
/-- a new list of what is shared -/
theorem fin_lst {vs : List V} {ds : List D} {p : Addr} (e : Ext0 F0 H0 F H C) (r : Reps S F H vs ds A) (hA : ∀ b ∈ A, b ∈ C) (h : Post S F0 H0 (.lst true (shareL ds)) Q) (n : H p = none) : Q (.ref p) (upd H p (.lst vs)) := by
  have e1 := e.freeze0
  have e2 := e1.seq0 (Ext.lay0 (o := .lst vs) e1.sub n)
  refine h _ _ _ _ e2 (.lstO upd_same (A := []) ?_ rfl)
  exact r.share (frzH_of fun b hb => (e.own b hb).1) fun b hb => frzH_in (hA b hb)
/-- a new tuple of what is shared -/
theorem fin_tup {vs : List V} {ds : List D} {p : Addr} (e : Ext0 F0 H0 F H C) (r : Reps S F H vs ds A) (hA : ∀ b ∈ A, b ∈ C) (h : Post S F0 H0 (.tup (shareL ds)) Q) (n : H p = none) : Q (.ref p) (upd H p (.tup vs)) := by
  have e1 := e.freeze0
  have e2 := e1.seq0 (Ext.layF (o := .tup vs) e1.sub n)
  refine h _ _ _ _ e2 (.tup (.inl (.inl upd_same)) (A := []) ?_)
  have r2 : Reps S (frzH F H C) (upd H p (.tup vs)) vs (shareL ds) [] := r.share (frzH_of fun b hb => (e.own b hb).1) fun b hb => frzH_in (hA b hb)
  exact r2.mono (fun b o q => by
    rw [upd_ne (ne_of_none (e1.sub _ _ q) n)]; exact q) fun b hb => nomatch hb
/-- a new dict -/
theorem fin_dct {vs : List (Key × V)} {ds : List (Key × D)} {p : Addr} (e : Ext0 F0 H0 F H C) (r : RepK S F H vs ds A) (hA : ∀ b ∈ A, b ∈ C) (h : Post S F0 H0 (.dct true (shareK ds)) Q) (n : H p = none) : Q (.ref p) (upd H p (.dK vs)) := by
  have e1 := e.freeze0
  have e2 := e1.seq0 (Ext.lay0 (o := .dK vs) e1.sub n)
  refine h _ _ _ _ e2 (.dctO upd_same (A := []) ?_ rfl)
  exact r.share (frzH_of fun b hb => (e.own b hb).1) fun b hb => frzH_in (hA b hb)

/-! ### lists of data -/
theorem Reps.append : ∀ {vs us : List V} {ds es : List D} {A B : List Addr}, Reps S F H vs ds A → Reps S F H us es B → Reps S F H (vs ++ us) (ds ++ es) (A ++ B)
  | _, _, _, _, _, _, .nil, q => q
  | _, _, _, _, _, B, .cons r rs e, q => .cons r (rs.append q) (by rw [e, List.append_assoc])
theorem Reps.get : ∀ {vs : List V} {ds : List D} {A : List Addr} {i : Nat} {d : D}, Reps S F H vs ds A → ds[i]? = some d → ∃ v B, vs[i]? = some v ∧ Rep S F H v d B ∧ ∀ b ∈ B, b ∈ A
  | _, _, _, _, _, .nil, h => by simp at h
  | _, _, _, 0, _, .cons r rs e, h => by
    cases Option.some.inj h
    exact ⟨_, _, rfl, r, fun b hb => by rw [e]; exact List.mem_append_left _ hb⟩
  | _, _, _, i + 1, _, .cons r rs e, h => by
    obtain ⟨v, B, h1, h2, h3⟩ := rs.get (i := i) h
    exact ⟨v, B, h1, h2, fun b hb => by rw [e]; exact List.mem_append_right _ (h3 b hb)⟩
theorem Reps.getV : ∀ {vs : List V} {ds : List D} {A : List Addr} {i : Nat} {v : V}, Reps S F H vs ds A → vs[i]? = some v → ∃ d B, ds[i]? = some d ∧ Rep S F H v d B ∧ ∀ b ∈ B, b ∈ A
  | _, _, _, _, _, .nil, h => by simp at h
  | _, _, _, 0, _, .cons r rs e, h => by
    cases Option.some.inj h
    exact ⟨_, _, rfl, r, fun b hb => by rw [e]; exact List.mem_append_left _ hb⟩
  | _, _, _, i + 1, _, .cons r rs e, h => by
    obtain ⟨v, B, h1, h2, h3⟩ := rs.getV (i := i) h
    exact ⟨v, B, h1, h2, fun b hb => by rw [e]; exact List.mem_append_right _ (h3 b hb)⟩
theorem Reps.drop : ∀ {vs : List V} {ds : List D} {A : List Addr} (n : Nat), Reps S F H vs ds A → ∃ B, Reps S F H (vs.drop n) (ds.drop n) B ∧ ∀ b ∈ B, b ∈ A
  | _, _, _, 0, r => ⟨_, r, fun _ h => h⟩
  | _, _, _, _ + 1, .nil => ⟨_, .nil, fun _ h => h⟩
  | _, _, _, n + 1, .cons r rs e => by
    obtain ⟨B, h1, h2⟩ := rs.drop n
    exact ⟨B, h1, fun b hb => by rw [e]; exact List.mem_append_right _ (h2 b hb)⟩
theorem Reps.take : ∀ {vs : List V} {ds : List D} {A : List Addr} (n : Nat), Reps S F H vs ds A → ∃ B, Reps S F H (vs.take n) (ds.take n) B ∧ ∀ b ∈ B, b ∈ A
  | _, _, _, 0, r => ⟨[], .nil, fun _ h => nomatch h⟩
  | _, _, _, _ + 1, .nil => ⟨_, .nil, fun _ h => h⟩
  | _, _, _, n + 1, .cons r rs e => by
    obtain ⟨B, h1, h2⟩ := rs.take n
    refine ⟨_, .cons r h1 rfl, fun b hb => ?_⟩
    rw [e]
    rcases (List.mem_append.mp hb) with h | h
    · exact List.mem_append_left _ h
    · exact List.mem_append_right _ (h2 b h)
theorem Reps.reverse : ∀ {vs : List V} {ds : List D} {A : List Addr}, Reps S F H vs ds A → ∃ B, Reps S F H vs.reverse ds.reverse B ∧ ∀ b ∈ B, b ∈ A
  | _, _, _, .nil => ⟨[], .nil, fun _ h => h⟩
  | _, _, _, .cons r rs e => by
    obtain ⟨B, h1, h2⟩ := rs.reverse
    refine ⟨_, by rw [List.reverse_cons, List.reverse_cons]; exact h1.append (.cons r .nil rfl), fun b hb => ?_⟩
    rw [e]
    rcases (List.mem_append.mp hb) with h | h
    · exact List.mem_append_right _ (h2 b h)
    · exact List.mem_append_left _ (by simpa using h)
theorem Reps.rep {vs : List V} {ds : List D} {A : List Addr} (r : Reps S F H vs ds A) : ∀ n : Nat, ∃ B, Reps S F H (List.replicate n vs).flatten (List.replicate n ds).flatten B ∧ ∀ b ∈ B, b ∈ A
  | 0 => ⟨[], .nil, fun _ h => nomatch h⟩
  | n + 1 => by
    obtain ⟨B, h1, h2⟩ := r.rep n
    refine ⟨_, by rw [List.replicate_succ, List.replicate_succ, List.flatten_cons, List.flatten_cons]; exact r.append h1, fun b hb => ?_⟩
    rcases (List.mem_append.mp hb) with h | h
    · exact h
    · exact h2 b h
theorem Reps.ints : ∀ {vs : List V} {ds : List D} {A : List Addr} {ns : List Int}, Reps S F H vs ds A → asInts ds = some ns → vs = ns.map V.int
  | _, _, _, _, .nil, h => by cases (Option.some.inj h); rfl
  | _, _, _, ns, .cons (d := d) r rs e, h => by
    cases r with
    | int i =>
      obtain ⟨ms, h1, h2⟩ := Option.map_eq_some_iff.mp (show (asInts _).map (i :: ·) = some ns from h)
      rw [rs.ints h1, ← h2] <;> rfl
    | _ => cases h
theorem Reps.strs : ∀ {vs : List V} {ds : List D} {A : List Addr} {ns : List Str}, Reps S F H vs ds A → asStrs ds = some ns → vs = ns.map V.str
  | _, _, _, _, .nil, h => by cases (Option.some.inj h); rfl
  | _, _, _, ns, .cons (d := d) r rs e, h => by
    cases r with
    | str i =>
      obtain ⟨ms, h1, h2⟩ := Option.map_eq_some_iff.mp (show (asStrs _).map (i :: ·) = some ns from h)
      rw [rs.strs h1, ← h2] <;> rfl
    | _ => cases h
theorem Reps.bools : ∀ {vs : List V} {ds : List D} {A : List Addr} {ns : List Bool}, Reps S F H vs ds A → asBools ds = some ns → vs = ns.map V.bl
  | _, _, _, _, .nil, h => by cases (Option.some.inj h); rfl
  | _, _, _, ns, .cons (d := d) r rs e, h => by
    cases r with
    | bl i =>
      obtain ⟨ms, h1, h2⟩ := Option.map_eq_some_iff.mp (show (asBools _).map (i :: ·) = some ns from h)
      rw [rs.bools h1, ← h2] <;> rfl
    | _ => cases h
theorem reps_int : ∀ ns : List Int, Reps S F H (ns.map V.int) (ns.map D.int) []
  | [] => .nil
  | n :: ns => .cons (.int n) (reps_int ns) rfl
theorem reps_str : ∀ ns : List Str, Reps S F H (ns.map V.str) (ns.map D.str) []
  | [] => .nil
  | n :: ns => .cons (.str n) (reps_str ns) rfl
theorem shareL_map : ∀ ds : List D, shareL ds = ds.map share
  | [] => rfl
  | d :: ds => congrArg (share d :: ·) (shareL_map ds)
theorem shareL_len (ds : List D) : (shareL ds).length = ds.length := by rw [shareL_map, List.length_map]
theorem shareL_ints (ns : List Int) : shareL (ns.map D.int) = ns.map D.int := by
  rw [shareL_map, List.map_map]; rfl
theorem shareL_strs (ns : List Str) : shareL (ns.map D.str) = ns.map D.str := by
  rw [shareL_map, List.map_map]; rfl
/-- a list that is read -/
theorem Rep.lst {v : V} {o : Bool} {ds : List D} (r : Rep S F H v (.lst o ds) A) (sF : Same F H) : ∃ a vs B, v = .ref a ∧ H a = some (.lst vs) ∧ Reps S F H vs ds B ∧ ∀ b ∈ B, b ∈ A := by
  cases r with
  | lstS h rs e => exact ⟨_, _, _, rfl, sF _ _ h, rs, fun _ h => h⟩
  | lstO h rs e => exact ⟨_, _, _, rfl, h, rs, fun b hb => by rw [e]; exact List.mem_cons_of_mem _ hb⟩
theorem Rep.dct {v : V} {o : Bool} {ds : List (Key × D)} (r : Rep S F H v (.dct o ds) A) (sF : Same F H) : ∃ a vs B, v = .ref a ∧ H a = some (.dK vs) ∧ RepK S F H vs ds B ∧ ∀ b ∈ B, b ∈ A := by
  cases r with
  | dctS h rs e => exact ⟨_, _, _, rfl, sF _ _ h, rs, fun _ h => h⟩
  | dctO h rs e => exact ⟨_, _, _, rfl, h, rs, fun b hb => by rw [e]; exact List.mem_cons_of_mem _ hb⟩
theorem Rep.ins {v : V} {o : Bool} {c : Nat} {ds : List (Nat × D)} (r : Rep S F H v (.ins o c ds) A) (sF : Same F H) : ∃ a dx vs B, v = .ref a ∧ H a = some (.ins (S.cA c) dx vs) ∧ RepF S F H vs ds B ∧ ∀ b ∈ B, b ∈ A := by
  cases r with
  | insS h rs e => exact ⟨_, _, _, _, rfl, sF _ _ h, rs, fun _ h => h⟩
  | insO h rs e => exact ⟨_, _, _, _, rfl, h, rs, fun b hb => by rw [e]; exact List.mem_cons_of_mem _ hb⟩
theorem Rep.tup' {v : V} {ds : List D} (r : Rep S F H v (.tup ds) A) (sF : Same F H) : ∃ a vs, v = .ref a ∧ SqT S.K H a vs ∧ Reps S F H vs ds A := by
  cases r with
  | tup h rs => exact ⟨_, _, rfl, sqt_same sF h, rs⟩

/-! ### two-place operators -/
variable {X : Cx} {W : XK}
theorem of_ok {d : D} {P : D → Prop} (h : PX S F0 H0 (.ok d) P W) : P d := h
theorem ite_ok {c : Prop} [Decidable c] {r : R D} {P : D → Prop} (h : PX S F0 H0 (if c then r else .bad) P W) : c ∧ PX S F0 H0 r P W := by
  by_cases hc : c
  · rw [if_pos hc] at h; exact ⟨hc, h⟩
  · rw [if_neg hc] at h; exact h.elim
theorem repS_eq {x : Str} {n : Int} {m : Made} : True := trivial
theorem foldl_app (x : Array Nat) : ∀ (n : Nat) (acc : Array Nat), ((List.replicate n x).foldl (· ++ ·) acc) = acc ++ (List.replicate n x.toList).flatten.toArray
  | 0, acc => by simp
  | n + 1, acc => by
    rw [List.replicate_succ, List.foldl_cons, foldl_app x n (acc ++ x), List.replicate_succ, List.flatten_cons]
    apply Array.ext'
    simp [Array.toList_append]
theorem op_rep_str : OpR X (binaryOp .Mult) (fun x y H Q => ∃ (z : Str) (n : Int), x = .str z ∧ y = .int n ∧ (-1000 ≤ n ∧ n ≤ 1000 ∧ z.length ≤ 1000) ∧ Q (.str (repS z n)) H) := by
  intro pins s σ H x y v u Q I (rx : RelV x _) ry h
  obtain ⟨z, n, rfl, rfl, ⟨h1, h2, h3⟩, q⟩ := h
  obtain ⟨t, rfl⟩ := rx
  obtain ⟨t', rfl⟩ := ry
  refine PySem.P.mul_str ?_ ?_ ?_ ?_
  · rw [decide_eq_false (by omega), decide_eq_false (by omega)] <;> rfl
  · intro h4 _ h5
    have : (2 ^ 63 - 1 : Int) / n ≥ 1000 := by
      have h6 : (1000 : Int) ≤ (2 ^ 63 - 1) / n := by
        rw [Int.le_ediv_iff_mul_le (by omega)]
        have : (1000 : Int) * n ≤ 1000 * 1000 := Int.mul_le_mul_of_nonneg_left h2 (by decide)
        omega
      exact h6
    omega
  · intro h4 _
    have h7 : z.length * n.toNat ≤ 1000 * 1000 := Nat.mul_le_mul h3 (by omega)
    show decide (z.length * n.toNat > sizeLine) = false
    rw [sizeLine_eq]
    exact decide_eq_false (p := _) (by omega)
  · by_cases h4 : n < 1
    · rw [if_pos h4]
      have e : repS z n = PySem.Str.empty := by
        unfold repS
        rw [show n.toNat = 0 by omega]; rfl
      exact ⟨by decide, ⟨.str _, H, I.tok _, ⟨_, rfl⟩, by rw [← e]; exact q⟩⟩
    · rw [if_neg h4]
      by_cases h5 : (n == 1 || z.length == 0) = true
      · rw [if_pos h5]
        have e : repS z n = z := by
          unfold repS
          rcases Bool.or_eq_true_iff.mp h5 with h6 | h6
          · have : n = 1 := beq_iff_eq.mp h6
            subst this
            simp [List.replicate]
          · have : z.length = 0 := beq_iff_eq.mp h6
            have hz : z.cps.toList = [] := by
              have : z.cps.toList.length = 0 := this
              exact List.length_eq_zero_iff.mp this
            rw [hz]
            have : (List.replicate n.toNat ([] : List Nat)).flatten = [] := by simp
            rw [this]
            cases z with
            | mk c => exact congrArg PySem.Str.mk (by apply Array.ext'; simpa using hz.symm)
        exact ⟨.str z, H, I, ⟨_, rfl⟩, by rw [← e]; exact q⟩
      · rw [if_neg h5]
        have e : (⟨(List.replicate n.toNat z.cps).foldl (· ++ ·) #[]⟩ : Str) = repS z n := by
          unfold repS
          rw [foldl_app]; simp
        rw [e]
        refine ⟨?_, ⟨.str _, H, I.tok _, ⟨_, rfl⟩, q⟩⟩
        have h7 : z.length * n.toNat ≤ 1000 * 1000 := Nat.mul_le_mul h3 (by omega)
        have h8 : (repS z n).length = z.length * n.toNat := by
          show (repS z n).cps.size = _
          unfold repS
          simp [Str.length, Nat.mul_comm]
        rw [h8, sizeLine_eq]
        omega

theorem bin_ok {op : Operator} {x y : V} {a b : D} (hC : X.prog = X.prog) (e : Ext0 F0 H0 F H C) (ra : Rep S F H x a A) (rb : Rep S F H y b B) (hA : ∀ z ∈ A, z ∈ C) (hB : ∀ z ∈ B, z ∈ C) (h : PR S F0 H0 (binD op a b) Q W) :
    ∃ r, OpR X (binaryOp op) r ∧ r x y H Q := by
  cases op with
  | Add =>
    cases a with
    | int i => cases b with
      | int j => cases ra; cases rb; exact ⟨_, op_add, _, _, rfl, rfl, fin_sc e h (.int _)⟩
      | _ => exact h.elim
    | str i => cases b with
      | str j =>
        cases ra; cases rb
        obtain ⟨hl, h⟩ := ite_ok h
        exact ⟨_, op_add_str, _, _, rfl, rfl, hl, fin_sc e h (.str _)⟩
      | _ => exact h.elim
    | lst o xs => cases b with
      | lst o' ys =>
        obtain ⟨hl, h⟩ := ite_ok h
        obtain ⟨p, vs, A1, rfl, hp, r1, s1⟩ := ra.lst e.sub
        obtain ⟨q, us, B1, rfl, hq, r2, s2⟩ := rb.lst e.sub
        refine ⟨_, op_cat, p, q, vs, us, rfl, rfl, hp, hq, by rw [r1.len, r2.len]; exact hl, fun l n => ?_⟩
        exact fin_lst e (r1.append r2) (fun z hz => (List.mem_append.mp hz).elim (fun k => hA z (s1 z k)) fun k => hB z (s2 z k)) h n
      | _ => exact h.elim
    | _ => exact h.elim
  | Sub =>
    cases a with
    | int i => cases b with
      | int j => cases ra; cases rb; exact ⟨_, op_sub, _, _, rfl, rfl, fin_sc e h (.int _)⟩
      | _ => exact h.elim
    | _ => exact h.elim
  | Mult =>
    cases a with
    | int i => cases b with
      | int j =>
        cases ra; cases rb
        obtain ⟨hl, h⟩ := ite_ok h
        have hl := of_decide_eq_true hl
        exact ⟨_, op_mul, _, _, rfl, rfl, hl, fin_sc e h (.int _)⟩
      | _ => exact h.elim
    | str i => cases b with
      | int j =>
        cases ra; cases rb
        obtain ⟨hl, h⟩ := ite_ok h
        have hl := of_decide_eq_true hl
        exact ⟨_, op_rep_str, _, _, rfl, rfl, hl, fin_sc e h (.str _)⟩
      | _ => exact h.elim
    | lst o xs => cases b with
      | int n =>
        cases rb
        obtain ⟨hl, h⟩ := ite_ok h
        obtain ⟨h1, h2, h3⟩ := of_decide_eq_true hl
        obtain ⟨p, vs, A1, rfl, hp, r1, s1⟩ := ra.lst e.sub
        obtain ⟨B1, r2, s2⟩ := r1.rep n.toNat
        refine ⟨_, op_rep, p, n, vs, rfl, rfl, hp, h1, h2, by rw [r1.len]; exact h3, fun l n => ?_⟩
        exact fin_lst e r2 (fun z hz => hA z (s1 z (s2 z hz))) h n
      | _ => exact h.elim
    | _ => exact h.elim
  | FloorDiv =>
    cases a with
    | int i => cases b with
      | int j =>
        cases ra; cases rb
        obtain ⟨hl, h⟩ := ite_ok h
        have hl := of_decide_eq_true hl
        exact ⟨_, op_fdiv, _, _, rfl, rfl, hl, fin_sc e h (.int _)⟩
      | _ => exact h.elim
    | _ => exact h.elim
  | Mod =>
    cases a with
    | int i => cases b with
      | int j =>
        cases ra; cases rb
        obtain ⟨hl, h⟩ := ite_ok h
        have hl := of_decide_eq_true hl
        exact ⟨_, op_mod, _, _, rfl, rfl, hl, fin_sc e h (.int _)⟩
      | _ => exact h.elim
    | _ => exact h.elim
  | Pow =>
    cases a with
    | int i => cases b with
      | int j =>
        cases ra; cases rb
        obtain ⟨hl, h⟩ := ite_ok h
        have hl := of_decide_eq_true hl
        exact ⟨_, op_pow, _, _, rfl, rfl, hl, fin_sc e h (.int _)⟩
      | _ => exact h.elim
    | _ => exact h.elim
  | BitAnd =>
    cases a with
    | int i => cases b with
      | int j => cases ra; cases rb; exact ⟨_, op_and, _, _, rfl, rfl, fin_sc e h (.int _)⟩
      | _ => exact h.elim
    | _ => exact h.elim
  | _ => exact h.elim

/-! ### comparisons -/
mutual
theorem Rep.dp (hK : X.K = S.K) : ∀ {v : V} {d : D} {A : List Addr} {p : PyData}, Rep S F H v d A → Same F H → py d = some p → Dp X.K H v p
  | _, _, _, _, .non, _, h => by cases (Option.some.inj h); exact .non
  | _, _, _, _, .bl b, _, h => by cases (Option.some.inj h); exact .bl b
  | _, _, _, _, .int i, _, h => by cases (Option.some.inj h); exact .int i
  | _, _, _, _, .str x, _, h => by cases (Option.some.inj h); exact .str x
  | _, _, _, _, .scr (ns := ns) q, sF, h => by
    cases (Option.some.inj h)
    refine .lst (by rw [hK]; exact sF.seq q) ?_
    clear q h
    induction ns with
    | nil => exact .nil
    | cons n ns ih => exact .cons (.int n) ih
  | _, _, _, p, .tup q rs, sF, h => by
    obtain ⟨l, h1, h2⟩ := Option.map_eq_some_iff.mp (show (pyL _).map PyData.tuple = some p from h)
    rw [← h2]
    exact .tup (by rw [hK]; exact sqt_same sF q) (rs.dp hK sF h1)
  | _, _, _, p, .lstS q rs _, sF, h => by
    obtain ⟨l, h1, h2⟩ := Option.map_eq_some_iff.mp (show (pyL _).map PyData.list = some p from h)
    rw [← h2]
    exact .lst (SqL.of (sF _ _ q)) (rs.dp hK sF h1)
  | _, _, _, p, .lstO q rs _, sF, h => by
    obtain ⟨l, h1, h2⟩ := Option.map_eq_some_iff.mp (show (pyL _).map PyData.list = some p from h)
    rw [← h2]
    exact .lst (SqL.of q) (rs.dp hK sF h1)
  | _, _, _, _, .dctS _ _ _, _, h => by cases h
  | _, _, _, _, .dctO _ _ _, _, h => by cases h
  | _, _, _, _, .insS _ _ _, _, h => by cases h
  | _, _, _, _, .insO _ _ _, _, h => by cases h
theorem Reps.dp (hK : X.K = S.K) : ∀ {v : List V} {d : List D} {A : List Addr} {p : List PyData}, Reps S F H v d A → Same F H → pyL d = some p → DpAll X.K H v p
  | _, _, _, _, .nil, _, h => by cases (Option.some.inj h); exact .nil
  | _, _, _, p, .cons (d := d) (ds := ds) r rs _, sF, h => by
    have h : (match py d, pyL ds with
      | some x, some xs => some (x :: xs)
      | _, _ => none) = some p := h
    cases e1 : py d with
    | none => rw [e1] at h; cases h
    | some x =>
      cases e2 : pyL ds with
      | none => rw [e1, e2] at h; cases h
      | some xs =>
        rw [e1, e2] at h
        cases (Option.some.inj h)
        exact .cons (r.dp hK sF e1) (rs.dp hK sF e2)
end
theorem Rep.sc_eq {v : V} {d : D} {x : V} (r : Rep S F H v d A) (h : d.sc = some x) : v = x := by
  cases r <;> first | exact Option.some.inj h | cases h
def PB (X : Cx) (op : CmpOp) (x y : V) (H : Hp) (b : Bool) : Prop := ∃ r, OpR X (compareOp op) r ∧ ∀ Q : VK, Q (.bl b) H → r x y H Q
theorem eqP_ok (hK : X.K = S.K) (hu : X.A.units + 64 < cLine) (sF : Same F H) {x y : V} {a b : D} (ra : Rep S F H x a A) (rb : Rep S F H y b B) {k : Bool} (h : eqP a b = .ok k) : PB X .Eq x y H k ∧ PB X .NotEq x y H (!k) := by
  unfold eqP at h
  cases e1 : py a with
  | none => rw [e1] at h; cases h
  | some p =>
    cases e2 : py b with
    | none => rw [e1, e2] at h; cases h
    | some q =>
      rw [e1, e2] at h
      dsimp only at h
      split at h
      · rename_i hs
        obtain ⟨s1, s2⟩ := Bool.and_eq_true_iff.mp hs
        cases h
        have d1 : Dp X.K H x p := ra.dp hK sF e1
        have d2 : Dp X.K H y q := rb.dp hK sF e2
        exact ⟨⟨_, op_eqD hu, fun Q z => ⟨p, q, d1, d2, s1, s2, z⟩⟩, ⟨_, op_neD hu, fun Q z => ⟨p, q, d1, d2, s1, s2, z⟩⟩⟩
      · cases h
theorem eqD_ok (hK : X.K = S.K) (hu : X.A.units + 64 < cLine) (sF : Same F H) {x y : V} {a b : D} (ra : Rep S F H x a A) (rb : Rep S F H y b B) {k : Bool} (h : eqD a b = .ok k) : PB X .Eq x y H k ∧ PB X .NotEq x y H (!k) := by
  unfold eqD at h
  cases e1 : a.sc with
  | none => rw [e1] at h; exact eqP_ok hK hu sF ra rb h
  | some p =>
    cases e2 : b.sc with
    | none => rw [e1, e2] at h; exact eqP_ok hK hu sF ra rb h
    | some q =>
      rw [e1, e2] at h
      dsimp only at h
      cases ra.sc_eq e1
      cases rb.sc_eq e2
      split at h
      · rename_i hs
        cases h
        exact ⟨⟨_, op_eq, fun Q z => ⟨hs, z⟩⟩, ⟨_, op_ne, fun Q z => ⟨hs, z⟩⟩⟩
      · exact eqP_ok hK hu sF ra rb h
theorem Rep.flat {v : V} {d : D} (r : Rep S F H v d A) (h : flat d = true) : flatV v = true ∧ d.sc = some v := by
  cases r <;> first | exact ⟨rfl, rfl⟩ | cases h
theorem Reps.flat : ∀ {v : List V} {d : List D} {A : List Addr}, Reps S F H v d A → d.all flat = true → v.all flatV = true ∧ ∀ (x : V) (a : D), a.sc = some x → inV x v = d.any fun y => eqF y a
  | _, _, _, .nil, _ => ⟨rfl, fun _ _ _ => rfl⟩
  | _, _, _, .cons (v := v) (d := d) (vs := vs) (ds := ds) r rs _, h => by
    obtain ⟨h1, h2⟩ := Bool.and_eq_true_iff.mp (show (MI.flat _ && List.all _ MI.flat) = true from h)
    obtain ⟨k1, k2⟩ := r.flat h1
    obtain ⟨k3, k4⟩ := rs.flat h2
    refine ⟨?_, fun x a ha => ?_⟩
    · show (flatV v && vs.all flatV) = true
      rw [k1, k3] <;> rfl
    · show (eqV v x || inV x vs) = (eqF d a || ds.any fun y => eqF y a)
      rw [k4 x a ha]
      unfold eqF
      rw [k2, ha]
theorem in_lst (hK : X.K = S.K) (hu : X.A.units + 65 < cLine) (sF : Same F H) {x y : V} {a : D} {ys : List D} (ra : Rep S F H x a A) (rb : Rep S F H y (.lst o ys) B) {k : Bool} (h : inLst a ys = .ok k) : PB X .In x y H k ∧ PB X .NotIn x y H (!k) := by
  obtain ⟨p, vs, B1, rfl, hp, r1, s1⟩ := rb.lst sF
  unfold inLst at h
  split at h
  · rename_i hf
    obtain ⟨f1, f2⟩ := Bool.and_eq_true_iff.mp hf
    obtain ⟨k1, k2⟩ := ra.flat f1
    obtain ⟨k3, k4⟩ := r1.flat f2
    cases h
    rw [← k4 x a k2]
    exact ⟨⟨_, op_in_seq, fun Q z => ⟨p, vs, rfl, .inl (SqL.of hp), k1, k3, z⟩⟩, ⟨_, op_notIn_seq, fun Q z => ⟨p, vs, rfl, .inl (SqL.of hp), k1, k3, z⟩⟩⟩
  · cases e1 : py a with
    | none => rw [e1] at h; cases h
    | some d =>
      cases e2 : pyL ys with
      | none => rw [e1, e2] at h; cases h
      | some ds =>
        rw [e1, e2] at h
        dsimp only at h
        split at h
        · rename_i hs
          obtain ⟨s1, s2⟩ := Bool.and_eq_true_iff.mp hs
          cases h
          have d1 : Dp X.K H x d := ra.dp hK sF e1
          have d2 : Dp X.K H (.ref p) (.list ds) := .lst (SqL.of hp) (r1.dp hK sF e2)
          exact ⟨⟨_, op_inD hu, fun Q z => ⟨d, ds, d1, d2, s1, s2, z⟩⟩, ⟨_, op_notInD hu, fun Q z => ⟨d, ds, d1, d2, s1, s2, z⟩⟩⟩
        · cases h
theorem in_tup (hK : X.K = S.K) (sF : Same F H) {x y : V} {a : D} {ys : List D} (ra : Rep S F H x a A) (rb : Rep S F H y (.tup ys) B) {k : Bool} (h : inTup a ys = .ok k) : PB X .In x y H k ∧ PB X .NotIn x y H (!k) := by
  obtain ⟨p, vs, rfl, hp, r1⟩ := rb.tup' sF
  unfold inTup at h
  split at h
  · rename_i hf
    obtain ⟨f1, f2⟩ := Bool.and_eq_true_iff.mp hf
    obtain ⟨k1, k2⟩ := ra.flat f1
    obtain ⟨k3, k4⟩ := r1.flat f2
    cases h
    rw [← k4 x a k2]
    rw [← hK] at hp
    exact ⟨⟨_, op_in_seq, fun Q z => ⟨p, vs, rfl, .inr hp, k1, k3, z⟩⟩, ⟨_, op_notIn_seq, fun Q z => ⟨p, vs, rfl, .inr hp, k1, k3, z⟩⟩⟩
  · cases h
theorem RepK.val : ∀ {vs : List (Key × V)} {ds : List (Key × D)} {A : List Addr} (k : Key), RepK S F H vs ds A →
    (getK ds k = none ∧ valV vs k = none) ∨ ∃ d v B, getK ds k = some d ∧ valV vs k = some v ∧ Rep S F H v d B ∧ ∀ b ∈ B, b ∈ A
  | _, _, _, k, .nil => .inl ⟨rfl, rfl⟩
  | _, _, _, k, .cons (k := j) (v := v) (d := d) (vs := vs) (ds := ds) r rs e => by
    by_cases h : j = k
    · refine .inr ⟨d, v, _, ?_, ?_, r, fun b hb => by rw [e]; exact List.mem_append_left _ hb⟩
      · simp [getK, List.find?_cons, h]
      · exact valV_pos (p := (j, v)) h
    · have e1 : getK ((j, d) :: ds) k = getK ds k := by simp [getK, List.find?_cons, h]
      have e2 : valV ((j, v) :: vs) k = valV vs k := valV_neg (p := (j, v)) h
      rw [e1, e2]
      rcases rs.val k with h1 | ⟨d', v', B', h1, h2, h3, h4⟩
      · exact .inl h1
      · exact .inr ⟨d', v', B', h1, h2, h3, fun b hb => by rw [e]; exact List.mem_append_right _ (h4 b hb)⟩
theorem keyOf_eq {v : V} {d : D} {k : Key} (r : Rep S F H v d A) (h : keyOf d = some k) : v = kV k := by
  cases r <;> first | (cases (Option.some.inj h); rfl) | cases h
theorem op_din (hu : X.A.units + 1 < cLine) : OpR X (compareOp .In) (fun x y H Q => ∃ a o, y = .ref a ∧ DGet H a x o ∧ Q (.bl o.isSome) H) := by
  intro pins s σ H x y v u Q I (rx : RelV x _) ry h
  obtain ⟨a, o, rfl, g, q⟩ := h
  cases ry
  exact d_in hu I g rx fun s' I' => ⟨.bl _, H, I', rfl, q⟩
theorem op_dnotin (hu : X.A.units + 1 < cLine) : OpR X (compareOp .NotIn) (fun x y H Q => ∃ a o, y = .ref a ∧ DGet H a x o ∧ Q (.bl (!o.isSome)) H) := by
  intro pins s σ H x y v u Q I (rx : RelV x _) ry h
  obtain ⟨a, o, rfl, g, q⟩ := h
  cases ry
  exact d_notIn hu I g rx fun s' I' => ⟨.bl _, H, I', rfl, q⟩
theorem in_ok (hK : X.K = S.K) (hu : X.A.units + 65 < cLine) (sF : Same F H) {x y : V} {a b : D} (ra : Rep S F H x a A) (rb : Rep S F H y b B) {k : Bool} (h : inD a b = .ok k) : PB X .In x y H k ∧ PB X .NotIn x y H (!k) := by
  cases b with
  | str z =>
    cases rb
    cases a with
    | str z' =>
      cases ra
      cases h
      exact ⟨⟨_, op_in_str, fun Q q => ⟨_, _, rfl, rfl, q⟩⟩, ⟨_, op_notIn_str, fun Q q => ⟨_, _, rfl, rfl, q⟩⟩⟩
    | _ => cases h
  | lst o ys => exact in_lst hK hu sF ra rb h
  | tup ys => exact in_tup hK sF ra rb h
  | dct o kvs =>
    obtain ⟨p, vs, B1, rfl, hp, r1, s1⟩ := rb.dct sF
    have h : (match keyOf a with
      | some k => R.ok (getK kvs k).isSome
      | none => .bad) = .ok k := h
    cases e1 : keyOf a with
    | none => rw [e1] at h; cases h
    | some j =>
      rw [e1] at h
      cases h
      cases keyOf_eq ra e1
      have hu1 : X.A.units + 1 < cLine := by omega
      have g : DGet H p (kV j) (valV vs j) := DGet.k hp
      have e2 : (valV vs j).isSome = (getK kvs j).isSome := by
        rcases r1.val j with ⟨h1, h2⟩ | ⟨d, v, _, h1, h2, _⟩
        · rw [h1, h2] <;> rfl
        · rw [h1, h2] <;> rfl
      rw [← e2]
      exact ⟨⟨_, op_din hu1, fun Q q => ⟨p, _, rfl, g, q⟩⟩, ⟨_, op_dnotin hu1, fun Q q => ⟨p, _, rfl, g, q⟩⟩⟩
  | _ => cases h
theorem Rep.notNon {v : V} {d : D} (r : Rep S F H v d A) (h : d ≠ .non) : v ≠ .non := by
  cases r <;> first | (intro z; cases z; done) | exact absurd rfl h
theorem cmp_ok (hK : X.K = S.K) (hu : X.A.units + 65 < cLine) (sF : Same F H) {op : CmpOp} {x y : V} {a b : D} (ra : Rep S F H x a A) (rb : Rep S F H y b B) {k : Bool} (h : cmpD op a b = .ok k) : PB X op x y H k := by
  have bnd : ∀ {r : R Bool}, (r.bind fun c => R.ok (!c)) = .ok k → ∃ c, r = .ok c ∧ k = !c := fun {r} h => by
    cases r with
    | ok c => cases h; exact ⟨c, rfl, rfl⟩
    | ex _ _ => cases h
    | bad => cases h
  cases op with
  | Eq => exact (eqD_ok hK (by omega) sF ra rb h).1
  | NotEq =>
    obtain ⟨c, h1, rfl⟩ := bnd h
    exact (eqD_ok hK (by omega) sF ra rb h1).2
  | In => exact (in_ok hK hu sF ra rb h).1
  | NotIn =>
    obtain ⟨c, h1, rfl⟩ := bnd h
    exact (in_ok hK hu sF ra rb h1).2
  | Lt =>
    cases a <;> cases b <;> first | cases h | skip
    · cases ra; cases rb; exact ⟨_, op_lt, fun Q q => ⟨_, _, rfl, rfl, q⟩⟩
    · cases ra; cases rb; exact ⟨_, op_lt_str, fun Q q => ⟨_, _, rfl, rfl, q⟩⟩
  | LtE =>
    cases a <;> cases b <;> first | cases h | skip
    · cases ra; cases rb; exact ⟨_, op_le, fun Q q => ⟨_, _, rfl, rfl, q⟩⟩
    · cases ra; cases rb; exact ⟨_, op_le_str, fun Q q => ⟨_, _, rfl, rfl, q⟩⟩
  | Gt =>
    cases a <;> cases b <;> first | cases h | skip
    · cases ra; cases rb; exact ⟨_, op_gt, fun Q q => ⟨_, _, rfl, rfl, q⟩⟩
    · cases ra; cases rb; exact ⟨_, op_gt_str, fun Q q => ⟨_, _, rfl, rfl, q⟩⟩
  | GtE =>
    cases a <;> cases b <;> first | cases h | skip
    · cases ra; cases rb; exact ⟨_, op_ge, fun Q q => ⟨_, _, rfl, rfl, q⟩⟩
    · cases ra; cases rb; exact ⟨_, op_ge_str, fun Q q => ⟨_, _, rfl, rfl, q⟩⟩
  | Is =>
    cases b with
    | non =>
      cases rb
      have hk : k = decide (x = .non) := by
        cases a with
        | non => cases h; cases ra; rfl
        | scr _ => cases h
        | _ => cases h; exact (decide_eq_false (ra.notNon (fun z => nomatch z))).symm
      rw [hk]
      exact ⟨_, op_isN, fun Q q => ⟨rfl, q⟩⟩
    | bl j => cases a with
      | bl i => cases h; cases ra; cases rb; exact ⟨_, op_isBl, fun Q q => ⟨_, _, rfl, rfl, q⟩⟩
      | _ => cases h
    | _ => cases a <;> cases h
  | IsNot =>
    cases b with
    | non =>
      cases rb
      have hk : k = !decide (x = .non) := by
        cases a with
        | non => cases h; cases ra; rfl
        | scr _ => cases h
        | _ => cases h; rw [decide_eq_false (ra.notNon (fun z => nomatch z))] <;> rfl
      rw [hk]
      exact ⟨_, op_notN, fun Q q => ⟨rfl, q⟩⟩
    | bl j => cases a with
      | bl i => cases h; cases ra; cases rb; exact ⟨_, op_notBl, fun Q q => ⟨_, _, rfl, rfl, q⟩⟩
      | _ => cases h
    | _ => cases a <;> cases h
end
end MI

set_option Elab.async false
set_option linter.all false
set_option maxRecDepth 99000
set_option maxHeartbeats 999000
/-! MiP: subscripts, slices, truth, built-in functions. -/
namespace MI
open PySem L2 PySem.Spec PyProof.Rows

section
variable {S : Sw} {F0 H0 F H : Hp} {C A B : List Addr} {Q : VK} {X : Cx} {W : XK}
/-! ### subscripts -/
theorem ix_dict (hu : X.A.units + 1 < cLine) : IxR X (fun x y H Q => ∃ a v, x = .ref a ∧ DGet H a y (some v) ∧ Q v H) := by
  intro val slc pins s σ H x y v u Q I rx ry h hs
  obtain ⟨a, w', rfl, g, q⟩ := h
  cases rx
  exact tail_any (dict_typeIs I g) PySem.F.slot_dict_getitem.lookup (d_getItem hu I g ry fun w2 s3 I3 rw' => ⟨_, H, I3, rw', q⟩) hs
theorem idx_ok (hK : X.K = S.K) (hu : X.A.units + 1 < cLine) {x y : V} {a b : D} (e : Ext0 F0 H0 F H C) (ra : Rep S F H x a A) (rb : Rep S F H y b B) (hA : ∀ z ∈ A, z ∈ C) (h : PR S F0 H0 (idxD a b) Q W) :
    ∃ r, IxR X r ∧ r x y H Q := by
  cases a with
  | lst o xs =>
    cases b with
    | int i =>
      cases rb
      obtain ⟨p, vs, A1, rfl, hp, r1, s1⟩ := ra.lst e.sub
      have h : PR S F0 H0 (match (L2.ixN xs.length i).bind fun j => xs[j]? with
        | some d => .ok (share d)
        | none => .bad) Q W := h
      cases q : (L2.ixN xs.length i).bind fun j => xs[j]? with
      | none => rw [q] at h; exact h.elim
      | some d =>
        rw [q] at h
        obtain ⟨j, h1, h2⟩ := Option.bind_eq_some_iff.mp q
        obtain ⟨v, B1, h3, h4, h5⟩ := r1.get h2
        refine ⟨_, ix_list, p, vs, i, v, rfl, rfl, SqL.of hp, ?_, fin_sh e h4 (fun z hz => hA z (s1 z (h5 z hz))) h⟩
        unfold atI
        rw [r1.len, h1]; exact h3
    | _ => exact h.elim
  | tup xs =>
    cases b with
    | int i =>
      cases rb
      obtain ⟨p, vs, rfl, hp, r1⟩ := ra.tup' e.sub
      have h : PR S F0 H0 (match (L2.ixN xs.length i).bind fun j => xs[j]? with
        | some d => .ok (share d)
        | none => .bad) Q W := h
      cases q : (L2.ixN xs.length i).bind fun j => xs[j]? with
      | none => rw [q] at h; exact h.elim
      | some d =>
        rw [q] at h
        obtain ⟨j, h1, h2⟩ := Option.bind_eq_some_iff.mp q
        obtain ⟨v, B1, h3, h4, h5⟩ := r1.get h2
        refine ⟨_, ix_tup, p, vs, i, v, rfl, rfl, by rw [hK]; exact hp, ?_, fin_sh e h4 (fun z hz => hA z (h5 z hz)) h⟩
        unfold atI
        rw [r1.len, h1]; exact h3
    | _ => exact h.elim
  | scr ns =>
    cases b with
    | int i =>
      cases rb
      cases ra with
      | scr hq =>
        have h : PR S F0 H0 (match (L2.ixN ns.length i).bind fun j => ns[j]? with
          | some n => .ok (.int n)
          | none => .bad) Q W := h
        cases q : (L2.ixN ns.length i).bind fun j => ns[j]? with
        | none => rw [q] at h; exact h.elim
        | some n =>
          rw [q] at h
          obtain ⟨j, h1, h2⟩ := Option.bind_eq_some_iff.mp q
          refine ⟨_, ix_list, _, ns.map V.int, i, .int n, rfl, rfl, by rw [hK]; exact e.sub.seq hq, ?_, fin_sc e h (.int n)⟩
          unfold atI
          rw [List.length_map, h1]
          show (ns.map V.int)[j]? = _
          rw [List.getElem?_map, h2]; rfl
    | _ => exact h.elim
  | str z =>
    cases b with
    | int i =>
      cases rb
      cases ra
      obtain ⟨hl, h⟩ := ite_ok (r := match L2.atI z.cps.toList i with
        | some c => .ok (.str ⟨#[c]⟩)
        | none => .bad) h
      cases q : L2.atI z.cps.toList i with
      | none => rw [q] at h; exact h.elim
      | some c =>
        rw [q] at h
        exact ⟨_, ix_str, z, i, c, rfl, rfl, hl, q, fin_sc e h (.str _)⟩
    | _ => exact h.elim
  | dct o kvs =>
    obtain ⟨p, vs, A1, rfl, hp, r1, s1⟩ := ra.dct e.sub
    have h : PR S F0 H0 (match keyOf b with
      | some k => (match getK kvs k with
        | some d => .ok (share d)
        | none => .bad)
      | none => .bad) Q W := by
      cases b <;> exact h
    cases q : keyOf b with
    | none => rw [q] at h; exact h.elim
    | some k =>
      rw [q] at h
      cases keyOf_eq rb q
      dsimp only at h
      rcases r1.val k with ⟨h1, h2⟩ | ⟨d, v, B1, h1, h2, h3, h4⟩
      · rw [h1] at h; exact h.elim
      · rw [h1] at h
        refine ⟨_, ix_dict hu, p, v, rfl, ?_, fin_sh e h3 (fun z hz => hA z (s1 z (h4 z hz))) h⟩
        rw [← h2]; exact DGet.k hp
  | _ => cases b <;> exact h.elim
theorem part_ok {o : Option D} {l : Option Int} (h : partD o = some l) : (o = none ∧ l = none) ∨ ∃ i, o = some (.int i) ∧ l = some i := by
  cases o with
  | none => cases h; exact .inl ⟨rfl, rfl⟩
  | some d => cases d <;> first | (cases h; exact .inr ⟨_, rfl, rfl⟩) | cases h
theorem cut_eq {α : Type} (xs : List α) (vs : List V) (hl : vs.length = xs.length) (l h : Option Int) : cutV vs l h = (vs.drop (HT.sIx xs.length 0 l)).take (HT.sIx xs.length xs.length h - HT.sIx xs.length 0 l) := by
  unfold cutV
  rw [hl]
theorem slc_ok (hK : X.K = S.K) {x : V} {a : D} {lo hi : Option D} (e : Ext0 F0 H0 F H C) (ra : Rep S F H x a A) (hA : ∀ z ∈ A, z ∈ C) (h : PR S F0 H0 (slcD a lo hi) Q W) :
    ∃ r l u, partD lo = some l ∧ partD hi = some u ∧ SlR X r ∧ r x l u H Q := by
  unfold slcD at h
  cases e1 : partD lo with
  | none => rw [e1] at h; exact h.elim
  | some l =>
    cases e2 : partD hi with
    | none => rw [e1, e2] at h; exact h.elim
    | some u =>
      rw [e1, e2] at h
      cases a with
      | lst o xs =>
        obtain ⟨p, vs, A1, rfl, hp, r1, s1⟩ := ra.lst e.sub
        refine ⟨_, l, u, rfl, rfl, sl_list, p, vs, rfl, SqL.of hp, fun q n => ?_⟩
        rw [cut_eq xs vs r1.len]
        obtain ⟨B1, r2, s2⟩ := r1.drop (HT.sIx xs.length 0 l)
        obtain ⟨B2, r3, s3⟩ := r2.take (HT.sIx xs.length xs.length u - HT.sIx xs.length 0 l)
        exact fin_lst e r3 (fun z hz => hA z (s1 z (s2 z (s3 z hz)))) h n
      | str z =>
        cases ra
        obtain ⟨hl, h⟩ := ite_ok h
        refine ⟨_, l, u, rfl, rfl, sl_str, z, rfl, hl, ?_⟩
        have e3 : cutS z l u = ⟨(cutL z.cps.toList l u).toArray⟩ := by
          unfold cutS cutL
          rw [show z.cps.toList.length = z.length from by simp [Str.length]]
        rw [e3]
        exact fin_sc e h (.str _)
      | _ => exact h.elim
/-! ### truth -/
theorem tru_okD (hK : X.K = S.K) (sF : Same F H) {x : V} {a : D} (ra : Rep S F H x a A) {k : Bool} (h : truD a = .ok k) : TruV X.K x H k := by
  cases a with
  | non => cases ra; cases h; rfl
  | bl b => cases ra; cases h; rfl
  | int i => cases ra; cases h; rfl
  | str z =>
    cases ra
    have h : (if z.length ≤ sizeLine then R.ok (z.length != 0) else .bad) = R.ok k := h
    split at h
    · rename_i hl
      cases h
      refine ⟨hl, ?_⟩
      cases z.length with
      | zero => rfl
      | succ n => 
        show (Nat.succ n != 0) = ((Nat.succ n : Int) != 0)
        rw [Bool.eq_iff_iff, bne_iff_ne, bne_iff_ne]
        omega
    · cases h
  | tup xs =>
    obtain ⟨p, vs, rfl, hp, r1⟩ := ra.tup' sF
    cases h
    refine .inr (.inl ⟨vs, by rw [hK]; exact hp, ?_⟩)
    cases r1 <;> rfl
  | lst o xs =>
    obtain ⟨p, vs, A1, rfl, hp, r1, s1⟩ := ra.lst sF
    cases h
    refine .inl ⟨vs, SqL.of hp, ?_⟩
    cases r1 <;> rfl
  | dct o kvs =>
    obtain ⟨p, vs, A1, rfl, hp, r1, s1⟩ := ra.dct sF
    cases h
    refine .inr (.inr ⟨vs, hp, ?_⟩)
    cases r1 <;> rfl
  | _ => cases h
/-! ### isinstance -/
def tyS : D → String
  | .non => "NoneType" | .bl _ => "bool" | .int _ => "int" | .str _ => "str" | .scr _ => "list" | .tup _ => "tuple" | .lst _ _ => "list" | .dct _ _ => "dict" | .ins _ _ _ => "object"
def Ty.s : Ty → String
  | .int => "int" | .bool => "bool" | .str => "str" | .list => "list" | .tuple => "tuple" | .dict => "dict" | .cls _ => "object"
theorem kit_all : (["NoneType", "bool", "int", "str", "list", "tuple", "dict"].all fun a => ["int", "bool", "str", "list", "tuple", "dict"].all fun b =>
    kitB a b == some (a == b || (a == "bool" && b == "int"))) = true := by decide +kernel
theorem kit_at {a b : String} (ha : a ∈ ["NoneType", "bool", "int", "str", "list", "tuple", "dict"]) (hb : b ∈ ["int", "bool", "str", "list", "tuple", "dict"]) : kitB a b = some (a == b || (a == "bool" && b == "int")) :=
  beq_iff_eq.mp (List.all_eq_true.mp (List.all_eq_true.mp kit_all a ha) b hb)
theorem isTy_kit {K : PySem.W.Frag} {d : D} {t : Ty} (h1 : notIns d = true) (h2 : notCls t = true) : PySem.W.kitOne K (.type (tyS d)) (.type t.s) = some (isTy d t) := by
  have hb : t.s ∈ ["int", "bool", "str", "list", "tuple", "dict"] := by
    cases t <;> first | (simp [Ty.s]; done) | (exact absurd h2 (by simp [notCls]))
  have ha : tyS d ∈ ["NoneType", "bool", "int", "str", "list", "tuple", "dict"] := by
    cases d <;> first | (simp [tyS]; done) | (exact absurd h1 (by simp [notIns]))
  refine kit_ty ((kit_at ha hb).trans (congrArg some ?_))
  cases d <;> cases t <;> first | rfl | (exact absurd h1 (by simp [notIns])) | (exact absurd h2 (by simp [notCls]))
theorem tyX_of (hK : X.K = S.K) (sF : Same F H) {x : V} {a : D} (ra : Rep S F H x a A) (h : notIns a = true) : TyX X.K H x (.type (tyS a)) := by
  cases ra with
  | non => exact .base .non
  | bl b => exact .base (.bl b)
  | int i => exact .base (.int i)
  | str z => exact .base (.str z)
  | scr q =>
    rcases q with (q | ⟨o, q⟩) | ⟨o, its, n, q, hc, _⟩
    · exact .base (.lst (sF _ _ q))
    · exact .base (.frz (sF _ _ q))
    · exact .kList (by rw [hK]; exact q) hc
  | tup q rs =>
    rcases q with (q | ⟨o, q⟩) | ⟨o, its, n, q, hc, _⟩
    · exact .base (.tup (sF _ _ q))
    · exact .fTuple (sF _ _ q)
    · exact .kTuple (by rw [hK]; exact q) hc
  | lstS q rs _ => exact .base (.lst (sF _ _ q))
  | lstO q rs _ => exact .base (.lst q)
  | dctS q rs _ => exact .base (.dK (sF _ _ q))
  | dctO q rs _ => exact .base (.dK q)
  | insS => cases h
  | insO => cases h
theorem kitAny_of {K : PySem.W.Frag} {d : D} (h1 : notIns d = true) : ∀ {ts : List Ty}, ts.all notCls = true → PySem.W.kitAny K (.type (tyS d)) (ts.map fun t => Value.type t.s) = some (ts.any (isTy d))
  | [], _ => kitAny_nil
  | t :: ts, h => by
    obtain ⟨h2, h3⟩ := Bool.and_eq_true_iff.mp (show (notCls t && ts.all notCls) = true from h)
    refine kitAny_cons (b := isTy d t) (isTy_kit h1 h2) (fun e => ?_) fun e => ?_
    · rw [kitAny_of h1 h3]
      show _ = some (isTy d t || ts.any (isTy d))
      rw [e] <;> rfl
    · show (isTy d t || ts.any (isTy d)) = true
      rw [e] <;> rfl
/-! ### sorting -/
theorem ltS_irr (x : Str) : ltS x x = false := by
  unfold ltS
  exact decide_eq_false (List.lt_irrefl _)
theorem ltS_tr {x y z : Str} (h1 : ltS x y = true) (h2 : ltS y z = true) : ltS x z = true := by
  unfold ltS at *
  exact decide_eq_true (List.lt_trans (of_decide_eq_true h1) (of_decide_eq_true h2))
theorem str_ext {x y : Str} (h : x.cps.toList = y.cps.toList) : x = y := by
  cases x; cases y
  exact congrArg PySem.Str.mk (Array.ext' h)
theorem ltS_as {x y : Str} (h1 : ltS x y = false) (h2 : ltS y x = false) : x = y := by
  unfold ltS at *
  have a1 := of_decide_eq_false h1
  have a2 := of_decide_eq_false h2
  exact str_ext (List.le_antisymm (List.not_lt.mp a2) (List.not_lt.mp a1))
theorem insS_perm (x : Str) : ∀ l, (insS x l).Perm (x :: l)
  | [] => .refl _
  | y :: r => by
    unfold insS
    split
    · exact (List.Perm.cons y (insS_perm x r)).trans (.swap x y r)
    · exact .refl _
theorem sortS_perm : ∀ l, (sortS l).Perm l
  | [] => .refl _
  | x :: r => (insS_perm x (sortS r)).trans (.cons x (sortS_perm r))
theorem insS_pw (x : Str) : ∀ l, l.Pairwise (fun a b => ltS b a = false) → (insS x l).Pairwise (fun a b => ltS b a = false)
  | [], _ => by simp [insS]
  | y :: r, h => by
    obtain ⟨h1, h2⟩ := (List.pairwise_cons.mp h)
    unfold insS
    split
    · rename_i hy
      refine List.pairwise_cons.mpr ⟨fun z hz => ?_, insS_pw x r h2⟩
      rcases List.mem_cons.mp ((insS_perm x r).mem_iff.mp hz) with rfl | hz
      · cases q : ltS z y with
        | false => rfl
        | true => have := ltS_tr hy q; rw [ltS_irr] at this; cases this
      · exact h1 z hz
    · rename_i hy
      have hy : ltS y x = false := by simpa using hy
      refine List.pairwise_cons.mpr ⟨fun z hz => ?_, h⟩
      rcases (List.mem_cons.mp hz) with rfl | hz
      · exact hy
      · cases q : ltS z x with
        | false => rfl
        | true =>
          have h3 := h1 z hz
          cases q2 : ltS y z with
          | true => have := ltS_tr q2 q; rw [hy] at this; cases this
          | false =>
            have := ltS_as q2 h3
            subst this
            rw [hy] at q; cases q
theorem sortS_pw : ∀ l, (sortS l).Pairwise (fun a b => ltS b a = false)
  | [] => .nil
  | x :: r => insS_pw x _ (sortS_pw r)
theorem insI_perm (x : Int) : ∀ l : List Int, (insI x l).Perm (x :: l)
  | [] => .refl _
  | y :: r => by
    unfold insI
    split
    · exact (List.Perm.cons y (insI_perm x r)).trans (.swap x y r)
    · exact .refl _
theorem sortI_perm : ∀ l, (sortI l).Perm l
  | [] => .refl _
  | x :: r => (insI_perm x (sortI r)).trans (.cons x (sortI_perm r))
theorem insI_pw (x : Int) : ∀ l, l.Pairwise (· ≤ ·) → (insI x l).Pairwise (· ≤ ·)
  | [], _ => by simp [insI]
  | y :: r, h => by
    obtain ⟨h1, h2⟩ := (List.pairwise_cons.mp h)
    unfold insI
    split
    · rename_i hy
      refine List.pairwise_cons.mpr ⟨fun z hz => ?_, insI_pw x r h2⟩
      rcases (List.mem_cons.mp ((insI_perm x r).mem_iff.mp hz)) with rfl | hz
      · omega
      · exact h1 z hz
    · rename_i hy
      refine List.pairwise_cons.mpr ⟨fun z hz => ?_, h⟩
      rcases (List.mem_cons.mp hz) with rfl | hz
      · omega
      · have := h1 z hz
        omega
theorem sortI_pw : ∀ l, (sortI l).Pairwise (· ≤ ·)
  | [] => .nil
  | x :: r => insI_pw x _ (sortI_pw r)
theorem perm_uniq {α : Type} {le : α → α → Prop} (as : ∀ a b, le a b → le b a → a = b) : ∀ {l k : List α}, l.Perm k → l.Pairwise le → k.Pairwise le → l = k
  | [], k, p, _, _ => by
    have := p.symm.eq_nil
    exact this.symm
  | x :: l, [], p, _, _ => by
    have := p.length_eq
    simp at this
  | x :: l, y :: k, p, h1, h2 => by
    obtain ⟨a1, a2⟩ := List.pairwise_cons.mp h1
    obtain ⟨b1, b2⟩ := List.pairwise_cons.mp h2
    have e : x = y := by
      rcases List.mem_cons.mp (p.mem_iff.mp List.mem_cons_self) with e | hx
      · exact e
      · rcases List.mem_cons.mp (p.mem_iff.mpr (List.mem_cons_self (a := y) (l := k))) with e | hy
        · exact e.symm
        · exact as _ _ (a1 y hy) (b1 x hx)
    subst e
    rw [perm_uniq as (List.perm_cons x |>.mp p) a2 b2]
theorem sortI_uniq {l k : List Int} (p : k.Perm l) (h : k.Pairwise (· ≤ ·)) : k = sortI l :=
  perm_uniq (fun a b h1 h2 => by omega) (p.trans (sortI_perm l).symm) h (sortI_pw l)
theorem ltS_le_tr {x y z : Str} (h1 : ltS y x = false) (h2 : ltS z y = false) : ltS z x = false := by
  unfold ltS at *
  have a1 := List.not_lt.mp (of_decide_eq_false h1)
  have a2 := List.not_lt.mp (of_decide_eq_false h2)
  exact decide_eq_false (List.not_lt.mpr (List.le_trans a1 a2))
theorem risingS_pw : ∀ {l : List Str} {p : Str}, risingS p l = true → (p :: l).Pairwise (fun a b => ltS b a = false)
  | [], p, _ => List.pairwise_singleton _ _
  | x :: r, p, h => by
    obtain ⟨h1, h2⟩ := Bool.and_eq_true_iff.mp (show (!Spec.ltCps x.cps.toList p.cps.toList && risingS x r) = true from h)
    have h3 : ltS x p = false := by
      unfold ltS
      rw [← ltCps_eq]
      simpa using h1
    have ih := risingS_pw h2
    refine List.pairwise_cons.mpr ⟨fun z hz => ?_, ih⟩
    rcases (List.mem_cons.mp hz) with rfl | hz
    · exact h3
    · exact ltS_le_tr h3 ((List.pairwise_cons.mp ih).1 z hz)
theorem sortedS_pw : ∀ {l : List Str}, sortedS l = true → l.Pairwise (fun a b => ltS b a = false)
  | [], _ => .nil
  | x :: r, h => risingS_pw h
theorem sortS_uniq {l k : List Str} (p : k.Perm l) (h : sortedS k = true) : k = sortS l :=
  perm_uniq (fun a b h1 h2 => ltS_as h2 h1) (p.trans (sortS_perm l).symm) (sortedS_pw h) (sortS_pw l)
/-! ### built-in functions -/
theorem maxI_ok {ns : List Int} {m : Int} (h : maxI ns = some m) : m ∈ ns ∧ ∀ y ∈ ns, y ≤ m := by
  cases ns with
  | nil => cases h
  | cons x r =>
    have h : r.foldl (fun a b => if a < b then b else a) x = m := Option.some.inj h
    have key : ∀ (r : List Int) (x m : Int), r.foldl (fun a b => if a < b then b else a) x = m → (m = x ∨ m ∈ r) ∧ x ≤ m ∧ ∀ y ∈ r, y ≤ m := by
      intro r
      induction r with
      | nil => intro x m h; exact ⟨.inl h.symm, by simp at h; omega, fun _ hy => nomatch hy⟩
      | cons y r ih =>
        intro x m h
        obtain ⟨h1, h2, h3⟩ := ih _ m h
        dsimp only at h1 h2
        by_cases hc : x < y
        · rw [if_pos hc] at h1 h2
          refine ⟨.inr ?_, by omega, fun z hz => ?_⟩
          · rcases h1 with rfl | h1
            · exact List.mem_cons_self
            · exact List.mem_cons_of_mem _ h1
          · rcases (List.mem_cons.mp hz) with rfl | hz
            · exact h2
            · exact h3 z hz
        · rw [if_neg hc] at h1 h2
          refine ⟨?_, h2, fun z hz => ?_⟩
          · rcases h1 with rfl | h1
            · exact .inl rfl
            · exact .inr (List.mem_cons_of_mem _ h1)
          · rcases (List.mem_cons.mp hz) with rfl | hz
            · omega
            · exact h3 z hz
    obtain ⟨h1, h2, h3⟩ := key r x m h
    refine ⟨?_, fun y hy => ?_⟩
    · rcases h1 with rfl | h1
      · exact List.mem_cons_self
      · exact List.mem_cons_of_mem _ h1
    · rcases (List.mem_cons.mp hy) with rfl | hy
      · exact h2
      · exact h3 y hy
theorem minI_ok {ns : List Int} {m : Int} (h : minI ns = some m) : m ∈ ns ∧ ∀ y ∈ ns, m ≤ y := by
  cases ns with
  | nil => cases h
  | cons x r =>
    have h : r.foldl (fun a b => if b < a then b else a) x = m := Option.some.inj h
    have key : ∀ (r : List Int) (x m : Int), r.foldl (fun a b => if b < a then b else a) x = m → (m = x ∨ m ∈ r) ∧ m ≤ x ∧ ∀ y ∈ r, m ≤ y := by
      intro r
      induction r with
      | nil => intro x m h; exact ⟨.inl h.symm, by simp at h; omega, fun _ hy => nomatch hy⟩
      | cons y r ih =>
        intro x m h
        obtain ⟨h1, h2, h3⟩ := ih _ m h
        dsimp only at h1 h2
        by_cases hc : y < x
        · rw [if_pos hc] at h1 h2
          refine ⟨.inr ?_, by omega, fun z hz => ?_⟩
          · rcases h1 with rfl | h1
            · exact List.mem_cons_self
            · exact List.mem_cons_of_mem _ h1
          · rcases (List.mem_cons.mp hz) with rfl | hz
            · exact h2
            · exact h3 z hz
        · rw [if_neg hc] at h1 h2
          refine ⟨?_, h2, fun z hz => ?_⟩
          · rcases h1 with rfl | h1
            · exact .inl rfl
            · exact .inr (List.mem_cons_of_mem _ h1)
          · rcases (List.mem_cons.mp hz) with rfl | hz
            · omega
            · exact h3 z hz
    obtain ⟨h1, h2, h3⟩ := key r x m h
    refine ⟨?_, fun y hy => ?_⟩
    · rcases h1 with rfl | h1
      · exact List.mem_cons_self
      · exact List.mem_cons_of_mem _ h1
    · rcases (List.mem_cons.mp hy) with rfl | hy
      · exact h2
      · exact h3 y hy
/-- what stands behind a built-in's name -/
def Blt.v : Blt → Value
  | .len => .builtin "len" | .int => .type "int" | .bool => .type "bool" | .str => .type "str" | .list => .type "list" | .tuple => .type "tuple" | .sorted => .builtin "sorted" | .all => .builtin "all" | .any => .builtin "any"
  | .max1 => .builtin "max" | .min1 => .builtin "min" | .max2 => .builtin "max" | .min2 => .builtin "min" | .sum => .builtin "sum"
theorem blt_boot : ∀ b : Blt, bootBuiltins b.nm = some b.v := by
  intro b
  cases b <;> decide +kernel
theorem keys_of : ∀ {vs : List (Key × V)} {ds : List (Key × D)} {A : List Addr}, RepK S F H vs ds A → vs.map (·.1) = ds.map (·.1)
  | _, _, _, .nil => rfl
  | _, _, _, .cons r rs e => congrArg (_ :: ·) (keys_of rs)
theorem asInts_keys : ∀ {ks : List Key} {ns : List Int}, asInts (ks.map keyD) = some ns → ks = ns.map Sum.inl
  | [], _, h => by cases (Option.some.inj h); rfl
  | .inl i :: ks, ns, h => by
    obtain ⟨ms, h1, h2⟩ := Option.map_eq_some_iff.mp (show (asInts (ks.map keyD)).map (i :: ·) = some ns from h)
    rw [← h2, asInts_keys h1] <;> rfl
  | .inr _ :: _, _, h => by cases h
theorem asStrs_keys : ∀ {ks : List Key} {ns : List Str}, asStrs (ks.map keyD) = some ns → ks = ns.map Sum.inr
  | [], _, h => by cases (Option.some.inj h); rfl
  | .inr i :: ks, ns, h => by
    obtain ⟨ms, h1, h2⟩ := Option.map_eq_some_iff.mp (show (asStrs (ks.map keyD)).map (i :: ·) = some ns from h)
    rw [← h2, asStrs_keys h1] <;> rfl
  | .inl _ :: _, _, h => by cases h
theorem blt_ok (hK : X.K = S.K) {b : Blt} (hc : b.calm = true → X.calm = true) {vs : List V} {ds : List D} (e : Ext0 F0 H0 F H C) (ra : Reps S F H vs ds A) (hA : ∀ z ∈ A, z ∈ C) (h : PR S F0 H0 (bltD b ds) Q W) :
    ∃ r, CallR X b.v r ∧ r vs H Q := by
  cases b with
  | len =>
    cases ra with
    | nil => exact h.elim
    | cons r rs ee => cases rs with
      | cons _ _ _ => exact h.elim
      | nil =>
        rename_i v d A1
        have h : PR S F0 H0 (lenD d) Q W := h
        have sA : ∀ z ∈ A1, z ∈ C := fun z hz => hA z (by rw [ee]; exact List.mem_append_left _ hz)
        cases d with
        | str z =>
          cases r
          obtain ⟨hl, h⟩ := ite_ok (r := R.ok (.int z.length)) h
          exact ⟨_, call_len_str, z, rfl, hl, fin_sc e h (.int _)⟩
        | lst o xs =>
          obtain ⟨p, us, B1, rfl, hp, r1, s1⟩ := r.lst e.sub
          refine ⟨_, call_len_seq, p, us, rfl, .inl (SqL.of hp), ?_⟩
          rw [r1.len]
          exact fin_sc e h (.int _)
        | tup xs =>
          obtain ⟨p, us, rfl, hp, r1⟩ := r.tup' e.sub
          refine ⟨_, call_len_seq, p, us, rfl, .inr (by rw [hK]; exact hp), ?_⟩
          rw [r1.len]
          exact fin_sc e h (.int _)
        | scr ns =>
          cases r with
          | scr q =>
            refine ⟨_, call_len_seq, _, ns.map V.int, rfl, .inl (by rw [hK]; exact e.sub.seq q), ?_⟩
            rw [List.length_map]
            exact fin_sc e h (.int _)
        | dct o kvs =>
          obtain ⟨p, us, B1, rfl, hp, r1, s1⟩ := r.dct e.sub
          refine ⟨_, call_lenD, p, us, rfl, hp, ?_⟩
          rw [r1.len]
          exact fin_sc e h (.int _)
        | _ => exact h.elim
  | int =>
    cases ra with
    | nil => exact h.elim
    | cons r rs ee => cases rs with
      | cons _ _ _ => cases r <;> exact h.elim
      | nil => cases r with
        | int i => exact ⟨_, call_int1, .inl ⟨i, rfl, fin_sc e h (.int _)⟩⟩
        | bl k => exact ⟨_, call_int1, .inr ⟨k, rfl, fin_sc e h (.int _)⟩⟩
        | _ => exact h.elim
  | bool =>
    cases ra with
    | nil => exact h.elim
    | cons r rs ee => cases rs with
      | cons _ _ _ => cases r <;> exact h.elim
      | nil => cases r with
        | int i => exact ⟨_, call_bool1, .inl ⟨i, rfl, fin_sc e h (.bl _)⟩⟩
        | bl k => exact ⟨_, call_bool1, .inr ⟨k, rfl, fin_sc e h (.bl _)⟩⟩
        | _ => exact h.elim
  | str =>
    cases ra with
    | nil => exact h.elim
    | cons r rs ee => cases rs with
      | cons _ _ _ => cases r <;> exact h.elim
      | nil => cases r with
        | int i =>
          obtain ⟨hl, h⟩ := ite_ok (r := R.ok (.str (PySem.Str.ofString (toString i)))) h
          exact ⟨_, call_str_int, i, rfl, hl, fin_sc e h (.str _)⟩
        | str z => exact ⟨_, SkE.call_str_str, z, rfl, fin_sc e h (.str _)⟩
        | _ => exact h.elim
  | list =>
    cases ra with
    | nil => exact h.elim
    | cons r rs ee => cases rs with
      | cons _ _ _ => cases r <;> exact h.elim
      | nil =>
        rename_i v d A1
        have sA : ∀ z ∈ A1, z ∈ C := fun z hz => hA z (by rw [ee]; exact List.mem_append_left _ hz)
        cases d with
        | lst o xs =>
          obtain ⟨p, us, B1, rfl, hp, r1, s1⟩ := r.lst e.sub
          exact ⟨_, call_list_of, p, us, rfl, .inl (SqL.of hp), fun l n => fin_lst e r1 (fun z hz => sA z (s1 z hz)) h n⟩
        | tup xs =>
          obtain ⟨p, us, rfl, hp, r1⟩ := r.tup' e.sub
          exact ⟨_, call_list_of, p, us, rfl, .inr (by rw [hK]; exact hp), fun l n => fin_lst e r1 sA h n⟩
        | _ => exact h.elim
  | tuple =>
    cases ra with
    | nil => exact h.elim
    | cons r rs ee => cases rs with
      | cons _ _ _ => cases r <;> exact h.elim
      | nil =>
        rename_i v d A1
        have sA : ∀ z ∈ A1, z ∈ C := fun z hz => hA z (by rw [ee]; exact List.mem_append_left _ hz)
        cases d with
        | lst o xs =>
          obtain ⟨p, us, B1, rfl, hp, r1, s1⟩ := r.lst e.sub
          exact ⟨_, call_tuple_of, p, us, rfl, .inl ⟨SqL.of hp, fun l n => fin_tup e r1 (fun z hz => sA z (s1 z hz)) h n⟩⟩
        | tup xs =>
          obtain ⟨p, us, e1, hp, r1⟩ := r.tup' e.sub
          refine ⟨_, call_tuple_of, p, us, by rw [e1], .inr ⟨by rw [hK]; exact hp, ?_⟩⟩
          rw [← e1]
          exact fin_sh e r sA h
        | _ => exact h.elim
  | sorted =>
    have hc := hc rfl
    cases ra with
    | nil => exact h.elim
    | cons r rs ee => cases rs with
      | cons _ _ _ => cases r <;> exact h.elim
      | nil =>
        rename_i v d A1
        cases d with
        | lst o xs =>
          obtain ⟨p, us, B1, rfl, hp, r1, s1⟩ := r.lst e.sub
          have h : PR S F0 H0 (sortedD xs) Q W := h
          unfold sortedD at h
          cases q : asInts xs with
          | some ns =>
            rw [q] at h
            cases r1.ints q
            refine ⟨_, cr_sortedI, p, ns, rfl, SqL.of hp, fun ns' l pm pw n => ?_⟩
            rw [sortI_uniq pm pw]
            refine fin_lst (S := S) (A := []) (ds := (sortI ns).map D.int) e (reps_int _) (fun z hz => nomatch hz) ?_ n
            rw [shareL_ints]; exact h
          | none =>
            rw [q] at h
            dsimp only at h
            cases q2 : asStrs xs with
            | none => rw [q2] at h; exact h.elim
            | some ss =>
              rw [q2] at h
              obtain ⟨hl, h⟩ := ite_ok h
              cases r1.strs q2
              refine ⟨_, cr_sortedS, p, ss, rfl, SqL.of hp, hl, fun ys l pm pw n => ?_⟩
              rw [sortS_uniq pm pw]
              refine fin_lst (S := S) (A := []) (ds := (sortS ss).map D.str) e (reps_str _) (fun z hz => nomatch hz) ?_ n
              rw [shareL_strs]; exact h
        | dct o kvs =>
          obtain ⟨p, us, B1, rfl, hp, r1, s1⟩ := r.dct e.sub
          have hk := keys_of r1
          obtain ⟨hl, h⟩ := ite_ok (r := sortedD (kvs.map fun kv => keyD kv.1)) h
          rw [show (kvs.map fun kv => keyD kv.1) = (kvs.map (·.1)).map keyD by rw [List.map_map]; rfl, ← hk] at h
          unfold sortedD at h
          cases q : asInts ((us.map (·.1)).map keyD) with
          | some ns =>
            rw [q] at h
            dsimp only at h
            have e1 := asInts_keys q
            have hl2 : ns.length < 64 := by
              have := congrArg List.length e1
              rw [List.length_map, List.length_map, r1.len] at this
              omega
            refine ⟨_, call_sortedDI hc, p, us, ns, rfl, .inl hp, e1, hl2, fun ns' l pm pw n => ?_⟩
            rw [sortI_uniq pm pw]
            refine fin_lst (S := S) (A := []) (ds := (sortI ns).map D.int) e (reps_int _) (fun z hz => nomatch hz) ?_ n
            rw [shareL_ints]; exact h
          | none =>
            rw [q] at h
            dsimp only at h
            cases q2 : asStrs ((us.map (·.1)).map keyD) with
            | none => rw [q2] at h; exact h.elim
            | some ss =>
              rw [q2] at h
              obtain ⟨hl, h⟩ := ite_ok h
              have e1 := asStrs_keys q2
              refine ⟨_, call_sortedD hc, p, us, ss, rfl, .inl hp, e1, hl, fun ys l pm pw n => ?_⟩
              rw [sortS_uniq pm pw]
              refine fin_lst (S := S) (A := []) (ds := (sortS ss).map D.str) e (reps_str _) (fun z hz => nomatch hz) ?_ n
              rw [shareL_strs]; exact h
        | _ => exact h.elim
  | all =>
    have hc := hc rfl
    cases ra with
    | nil => exact h.elim
    | cons r rs ee => cases rs with
      | cons _ _ _ => cases r <;> exact h.elim
      | nil =>
        rename_i v d A1
        cases d with
        | lst o xs =>
          obtain ⟨p, us, B1, rfl, hp, r1, s1⟩ := r.lst e.sub
          have h : PR S F0 H0 (match asBools xs with
            | some bs => .ok (.bl (bs.all id))
            | none => .bad) Q W := h
          cases q : asBools xs with
          | none => rw [q] at h; exact h.elim
          | some bs =>
            rw [q] at h
            cases r1.bools q
            exact ⟨_, cr_all hc, p, bs, rfl, SqL.of hp, fin_sc e h (.bl _)⟩
        | _ => exact h.elim
  | any =>
    have hc := hc rfl
    cases ra with
    | nil => exact h.elim
    | cons r rs ee => cases rs with
      | cons _ _ _ => cases r <;> exact h.elim
      | nil =>
        rename_i v d A1
        cases d with
        | lst o xs =>
          obtain ⟨p, us, B1, rfl, hp, r1, s1⟩ := r.lst e.sub
          have h : PR S F0 H0 (match asBools xs with
            | some bs => .ok (.bl (bs.any id))
            | none => .bad) Q W := h
          cases q : asBools xs with
          | none => rw [q] at h; exact h.elim
          | some bs =>
            rw [q] at h
            cases r1.bools q
            exact ⟨_, cr_any hc, p, bs, rfl, SqL.of hp, fin_sc e h (.bl _)⟩
        | _ => exact h.elim
  | sum =>
    have hc := hc rfl
    cases ra with
    | nil => exact h.elim
    | cons r rs ee => cases rs with
      | cons _ _ _ => cases r <;> exact h.elim
      | nil =>
        rename_i v d A1
        cases d with
        | lst o xs =>
          obtain ⟨p, us, B1, rfl, hp, r1, s1⟩ := r.lst e.sub
          have h : PR S F0 H0 (match asInts xs with
            | some ns => .ok (.int ns.sum)
            | none => .bad) Q W := h
          cases q : asInts xs with
          | none => rw [q] at h; exact h.elim
          | some bs =>
            rw [q] at h
            cases r1.ints q
            exact ⟨_, cr_sum hc, p, bs, rfl, SqL.of hp, fin_sc e h (.int _)⟩
        | _ => exact h.elim
  | max1 =>
    have hc := hc rfl
    cases ra with
    | nil => exact h.elim
    | cons r rs ee => cases rs with
      | cons _ _ _ => cases r <;> exact h.elim
      | nil =>
        rename_i v d A1
        cases d with
        | lst o xs =>
          obtain ⟨p, us, B1, rfl, hp, r1, s1⟩ := r.lst e.sub
          have h : PR S F0 H0 (match (asInts xs).bind maxI with
            | some m => .ok (.int m)
            | none => .bad) Q W := h
          cases q : (asInts xs).bind maxI with
          | none => rw [q] at h; exact h.elim
          | some m =>
            rw [q] at h
            obtain ⟨bs, h1, h2⟩ := Option.bind_eq_some_iff.mp q
            cases r1.ints h1
            obtain ⟨m1, m2⟩ := maxI_ok h2
            refine ⟨_, cr_max hc, p, bs, rfl, SqL.of hp, List.length_pos_of_mem m1, fun z z1 z2 => ?_⟩
            have : z = m := by
              have := m2 z z1
              have := z2 m m1
              omega
            rw [this]
            exact fin_sc e h (.int _)
        | _ => exact h.elim
  | min1 =>
    have hc := hc rfl
    cases ra with
    | nil => exact h.elim
    | cons r rs ee => cases rs with
      | cons _ _ _ => cases r <;> exact h.elim
      | nil =>
        rename_i v d A1
        cases d with
        | lst o xs =>
          obtain ⟨p, us, B1, rfl, hp, r1, s1⟩ := r.lst e.sub
          have h : PR S F0 H0 (match (asInts xs).bind minI with
            | some m => .ok (.int m)
            | none => .bad) Q W := h
          cases q : (asInts xs).bind minI with
          | none => rw [q] at h; exact h.elim
          | some m =>
            rw [q] at h
            obtain ⟨bs, h1, h2⟩ := Option.bind_eq_some_iff.mp q
            cases r1.ints h1
            obtain ⟨m1, m2⟩ := minI_ok h2
            refine ⟨_, cr_min hc, p, bs, rfl, SqL.of hp, List.length_pos_of_mem m1, fun z z1 z2 => ?_⟩
            have : z = m := by
              have := m2 z z1
              have := z2 m m1
              omega
            rw [this]
            exact fin_sc e h (.int _)
        | _ => exact h.elim
  | max2 =>
    have hc := hc rfl
    cases ra with
    | nil => exact h.elim
    | cons r rs ee => cases rs with
      | nil => cases r <;> exact h.elim
      | cons r2 rs2 ee2 => cases rs2 with
        | cons _ _ _ => cases r <;> cases r2 <;> exact h.elim
        | nil => cases r with
          | int i => cases r2 with
            | int j => exact ⟨_, call_max2 hc, i, j, rfl, fin_sc e h (.int _)⟩
            | _ => exact h.elim
          | _ => exact h.elim
  | min2 =>
    have hc := hc rfl
    cases ra with
    | nil => exact h.elim
    | cons r rs ee => cases rs with
      | nil => cases r <;> exact h.elim
      | cons r2 rs2 ee2 => cases rs2 with
        | cons _ _ _ => cases r <;> cases r2 <;> exact h.elim
        | nil => cases r with
          | int i => cases r2 with
            | int j => exact ⟨_, call_min2 hc, i, j, rfl, fin_sc e h (.int _)⟩
            | _ => exact h.elim
          | _ => exact h.elim
end
end MI

set_option Elab.async false
set_option linter.all false
set_option maxRecDepth 99000
set_option maxHeartbeats 999000
/-! MiE: what an expression's run says is what the machine does. -/
namespace MI
open PySem L2 PySem.Spec PyProof.Rows

/-- a def's promise, by its run -/
def Prom (S : Sw) (np : Nat) (lk : Bool) (wf : List D → R (D × D)) : Sp := fun vs H Q E => vs.length = np ∧ ∃ (F : Hp) (ds : List D) (A : List Addr), Same F H ∧ Reps S F H vs ds A ∧ (∀ b, A.count b ≤ 1) ∧ (∀ b ∈ A, F b = none) ∧
  match wf ds with
  | .ok r => ∀ (v : V) (F' H' : Hp) (B B0 : List Addr), Ext F H A F' H' (B ++ B0) → Rep S F' H' v r.1 B → (if lk then Rep S F' H' (vs.headD .non) r.2 B0 else B0 = []) → Q v H'
  | .ex c fs => PostX S F H A c fs E
  | .bad => False

/-- a context in which the runs of the world wd are the machine's -/
structure Gd (S : Sw) (M : Nms) (N : List Str) (wd : W) (cm : Bool) (k : Nat) (sc : Scope) (X : Cx) : Prop where
  eK : X.K = S.K
  eM : M.NM = S.NM
  eN : X.N = N
  nd : N.Nodup
  vis : ∀ x, visB sc x = true → Vis X.env.scope x
  cf : ∀ x, (sc.names.lookup x = some .cell ∨ sc.names.lookup x = some .free) → X.env.scope.names.lookup x = some .cell ∨ X.env.scope.names.lookup x = some .free
  glo : ∀ x, gloB sc x = true → Gl X x
  sto : ∀ x, stoB sc x = true → Loc X.env.scope x ∧ (X.fn x = true ∨ X.env.scope.names.lookup x = some .local)
  fr : ∀ x, M.fr.contains x = true → X.mg x = none
  calm : cm = true → X.calm = true
  room : cm = true → Room (k + 1) X.A
  units : X.A.units + 70 < cLine
  gN : ∀ g x, M.gN.lookup g = some x → ∃ d v u, wd.glo g = some d ∧ X.mg x = some u ∧ RelV v u ∧ ∀ F H, Rep S F H v d []
  fN : ∀ f x, M.fN.lookup f = some x → ∃ a fd ps lk, X.mg x = some (.ref a) ∧ PySem.W.keepIn X.K (.ref a) = true ∧ (∀ ds, ds.length ≠ ps.length → wd.fn f ds = .bad) ∧ Binds X.K fd ps [] ∧ FnOk X.prog X.w X.K X.mg X.base (L2.CX X.prog X.w) k a fd ps (Prom S ps.length lk (wd.fn f))
  cN : ∀ c x, M.cN.lookup c = some x → X.mg x = some (.ref (S.cA c))
  meth : ∀ c m f x, wd.meth c m = some f → S.NM[m]? = some x → ∃ a fd ps lk, Cls X.K (S.cA c) ∧ Meth X.K (S.cA c) x a ∧ (∀ ds, ds.length ≠ ps.length → wd.fn f ds = .bad) ∧ Binds X.K fd ps [] ∧ FnOk X.prog X.w X.K X.mg X.base (L2.CX X.prog X.w) k a fd ps (Prom S ps.length lk (wd.fn f))
  init : ∀ c f, wd.init c = some f → ∃ a fd ps, Mk X.K (S.cA c) a ∧ (∀ ds, ds.length ≠ ps.length → wd.fn f ds = .bad) ∧ Binds X.K fd ps [] ∧ FnOk X.prog X.w X.K X.mg X.base (L2.CX X.prog X.w) k a fd ps (Prom S ps.length true (wd.fn f))
  fld : ∀ c f x, wd.fld c f = true → S.NM[f]? = some x → Cls X.K (S.cA c) ∧ NoAttr X.K (S.cA c) x

def EnvS (S : Sw) (F : Hp) (σ : L2.St) (ρ : Env) (vs : List Nat) : Prop := ∀ j ∈ vs, ∀ d, ρ.get j = some d → ∃ v, σ[j]? = some (some v) ∧ Rep S F F v d []
theorem EnvS.mono {S : Sw} {F F' : Hp} {σ : L2.St} {ρ : Env} {vs : List Nat} (h : EnvS S F σ ρ vs) (s : Same F F') : EnvS S F' σ ρ vs := fun j hj d e => by
  obtain ⟨v, h1, h2⟩ := h j hj d e
  exact ⟨v, h1, h2.mono s fun b hb => nomatch hb⟩
theorem EnvS.sub {S : Sw} {F : Hp} {σ : L2.St} {ρ : Env} {vs us : List Nat} (h : EnvS S F σ ρ vs) (s : ∀ j ∈ us, j ∈ vs) : EnvS S F σ ρ us := fun j hj => h j (s j hj)
theorem EnvS.l {S : Sw} {F : Hp} {σ : L2.St} {ρ : Env} {a b : List Nat} (h : EnvS S F σ ρ (a ++ b)) : EnvS S F σ ρ a := h.sub fun _ hj => List.mem_append_left _ hj
theorem EnvS.r {S : Sw} {F : Hp} {σ : L2.St} {ρ : Env} {a b : List Nat} (h : EnvS S F σ ρ (a ++ b)) : EnvS S F σ ρ b := h.sub fun _ hj => List.mem_append_right _ hj

section
variable (S : Sw) (M : Nms) (N : List Str) (wd : W) (k : Nat)
abbrev wc (W : WX) (σ : L2.St) : XK := fun c d H => W c d σ H
def SE (e : Ex) : Prop := ∀ (x : PySem.Expr) (sc : Scope) (cm : Bool) (X : Cx), Gd S M N wd cm k sc X → mE M N cm sc false e x = true → ∀ (F H : Hp) (σ : L2.St) (ρ : Env), Same F H → EnvS S F σ ρ (vars e) →
  ∀ (Q : VK) (W : WX), PR S F H (ev wd none false e ρ) Q (wc W σ) → RE X x σ H Q W
def STs (e : Ex) : Prop := ∀ (x : PySem.Expr) (sc : Scope) (cm : Bool) (X : Cx), Gd S M N wd cm k sc X → mE M N cm sc true e x = true → ∀ (F H : Hp) (σ : L2.St) (ρ : Env), Same F H → EnvS S F σ ρ (vars e) →
  ∀ (Q : Bool → Hp → Prop) (W : WX), PRB S F H (ev wd none true e ρ) Q (wc W σ) → RT X x σ H Q W
def SLs (es : Exs) : Prop := ∀ (xs : List PySem.Expr) (sc : Scope) (cm : Bool) (X : Cx), Gd S M N wd cm k sc X → mL M N cm sc es xs = true → ∀ (F H : Hp) (σ : L2.St) (ρ : Env), Same F H → EnvS S F σ ρ (varsL es) →
  ∀ (Q : List V → Hp → Prop) (W : WX), PRL S F H (evL wd none es ρ) Q (wc W σ) → RA X xs σ H Q W
end
theorem ff {P : Prop} (h : false = true) : P := absurd h Bool.false_ne_true
theorem an {a b : Bool} (h : (a && b) = true) : a = true ∧ b = true := Bool.and_eq_true_iff.mp h

section
variable {S : Sw} {M : Nms} {N : List Str} {wd : W} {k : Nat}
def ordX : PySem.Expr → Bool
  | .UnaryOp .Not _ _ => false | .BoolOp _ _ _ => false | .IfExp _ _ _ _ => false | .Compare _ _ _ _ => false | _ => true
theorem isTrue_ord {x : PySem.Expr} {env : PySem.Env} (h : ordX x = true) (whole : Sem Value) : isTrue x env whole = (do let v ← whole; standAt x.pos; holding [v] (truthy v)) := by
  cases x with
  | UnaryOp op _ _ => cases op <;> first | rfl | exact ff h
  | BoolOp => exact ff h
  | IfExp => exact ff h
  | Compare => exact ff h
  | _ => rfl
theorem truD_ne {d : D} {c : Nat} {fs : List (Nat × D)} : truD d ≠ .ex c fs := by
  intro h
  cases d with
  | str x =>
    have h : (if x.length ≤ sizeLine then R.ok (x.length != 0) else .bad) = R.ex c fs := h
    split at h <;> cases h
  | _ => cases h
/-- a test of a value, by its truth -/
theorem st_ord {e : Ex} (h : SE S M N wd k e) (hev : ∀ ρ, ev wd none true e ρ = fin true (ev wd none false e ρ)) (hm : ∀ x sc cm, mE M N cm sc true e x = true → mE M N cm sc false e x = true ∧ ordX x = true) : STs S M N wd k e := by
  intro x sc cm X G m F H σ ρ sF hρ Q W hq
  obtain ⟨m1, m2⟩ := hm x sc cm m
  refine rt_of (pt_truth pe_can (isTrue_ord m2)) ?_
  refine h x sc cm X G m1 F H σ ρ sF hρ _ W ?_
  rw [hev, fin_true] at hq
  refine PX.imp (PX.bind hq) fun d _ hd v F' H' A e r => ?_
  cases q : truD d with
  | ok j =>
    rw [q] at hd
    exact ⟨j, tru_okD G.eK e.sub r q, hd F' H' (e.drop0 sub_nil)⟩
  | ex c fs => exact absurd q truD_ne
  | bad => rw [q] at hd; exact hd.elim

/-! ### names, constants -/
theorem se_var (i : Nat) : SE S M N wd k (.var i) := by
  intro x sc cm X G m F H σ ρ sF hρ Q W hq
  cases x with
  | Name y p =>
    obtain ⟨m, m4⟩ := an (show (decide (N[i]? = some y) && visB sc y && dbgB y && cdcB y) = true from m)
    obtain ⟨m, m3⟩ := an m
    obtain ⟨m1, m2⟩ := an m
    refine re_of (pe_var (i := i) (by show X.N[i]? = _; rw [G.eN]; exact of_decide_eq_true m1) (G.vis y m2) (beq_iff_eq.mp m3) (beq_iff_eq.mp m4)) ?_
    cases q : ρ.get i with
    | none =>
      have hq : PR S F H (match ρ.get i with
        | some d => .ok d
        | none => .bad) Q (wc W σ) := hq
      rw [q] at hq; exact hq.elim
    | some d =>
      have hq : PR S F H (match ρ.get i with
        | some d => .ok d
        | none => .bad) Q (wc W σ) := hq
      rw [q] at hq
      obtain ⟨v, h1, h2⟩ := hρ i (List.mem_singleton.mpr rfl) d q
      exact ⟨v, h1, fin_sc (Ext.refl0 sF) hq (h2.mono (Same.refl _) fun b hb => nomatch hb)⟩
  | _ => exact ff m
theorem se_glo (g : Nat) : SE S M N wd k (.glo g) := by
  intro x sc cm X G m F H σ ρ sF hρ Q W hq
  cases x with
  | Name y p =>
    obtain ⟨m, m3⟩ := an (show (decide (M.gN.lookup g = some y) && gloB sc y && dbgB y) = true from m)
    obtain ⟨m1, m2⟩ := an m
    obtain ⟨d, v, u, h1, h2, h3, h4⟩ := G.gN g y (of_decide_eq_true m1)
    refine re_of (pe_glob (G.glo y m2) h2 h3 (beq_iff_eq.mp m3)) ?_
    have hq : PR S F H (match wd.glo g with
      | some d => .ok d
      | none => .bad) Q (wc W σ) := hq
    rw [h1] at hq
    exact fin_sc (Ext.refl0 sF) hq (h4 _ _)
  | _ => exact ff m
theorem se_non : SE S M N wd k .non := by
  intro x sc cm X G m F H σ ρ sF hρ Q W hq
  cases x with
  | Constant c j p => cases c with
    | none => exact re_of pe_non (fin_sc (Ext.refl0 sF) hq .non)
    | _ => exact ff m
  | _ => exact ff m
theorem se_bl (b : Bool) : SE S M N wd k (.bl b) := by
  intro x sc cm X G m F H σ ρ sF hρ Q W hq
  cases x with
  | Constant c j p => cases c with
    | bool c =>
      cases of_decide_eq_true (show decide (b = c) = true from m)
      exact re_of pe_bl (fin_sc (Ext.refl0 sF) hq (.bl b))
    | _ => exact ff m
  | _ => exact ff m
theorem se_int (i : Int) : SE S M N wd k (.int i) := by
  intro x sc cm X G m F H σ ρ sF hρ Q W hq
  cases x with
  | Constant c j p => cases c with
    | int c =>
      cases of_decide_eq_true (show decide (i = c) = true from m)
      exact re_of pe_int (fin_sc (Ext.refl0 sF) hq (.int i))
    | _ => exact ff m
  | _ => exact ff m
theorem se_str (z : Str) : SE S M N wd k (.str z) := by
  intro x sc cm X G m F H σ ρ sF hρ Q W hq
  cases x with
  | Constant c j p => cases c with
    | str c =>
      cases of_decide_eq_true (show decide (z = c) = true from m)
      exact re_of pe_str (fin_sc (Ext.refl0 sF) hq (.str z))
    | _ => exact ff m
  | _ => exact ff m

/-! ### operators -/
/-- two operands: their values at hand -/
theorem twoE {a b : Ex} (ha : SE S M N wd k a) (hb : SE S M N wd k b) {l r : PySem.Expr} {sc : Scope} {cm : Bool} {X : Cx} (G : Gd S M N wd cm k sc X) (ma : mE M N cm sc false a l = true) (mb : mE M N cm sc false b r = true)
    {F H : Hp} {σ : L2.St} {ρ : Env} (sF : Same F H) (hρ : EnvS S F σ ρ (vars a ++ vars b)) {P : D → D → Prop} {W : WX} {β : Type} {f : D → D → R β} {Pf : β → Prop}
    (hq : PX S F H ((ev wd none false a ρ).bind fun x => (ev wd none false b ρ).bind fun y => f x y) Pf (wc W σ)) (Q2 : V → V → Hp → Prop)
    (h : ∀ (x y : V) (dx dy : D) (F2 H2 : Hp) (A B C : List Addr), ev wd none false a ρ = .ok dx → ev wd none false b ρ = .ok dy → Ext0 F H F2 H2 C → Rep S F2 H2 x dx A → Rep S F2 H2 y dy B → (∀ z ∈ A, z ∈ C) → (∀ z ∈ B, z ∈ C) → PX S F H (f dx dy) Pf (wc W σ) → Q2 x y H2) :
    RE X l σ H (fun x H1 => RE X r σ H1 (fun y H2 => Q2 x y H2) W) W := by
  refine ha l sc cm X G ma F H σ ρ sF hρ.l _ W ?_
  have s1 := PX.step (PX.bind hq) (Ext.refl0 sF)
  refine PX.imp s1 fun d _ hd v F1 H1 A e r => ?_
  obtain ⟨d1, F2, B, e1, e2, r2, h2⟩ := hd v F1 H1 A e r
  refine hb _ sc cm X G mb F2 H1 σ ρ e2.sub (hρ.r.mono e2.subF) _ W ?_
  have s2 := PX.step (PX.bind h2) e2
  refine PX.imp s2 fun d' _ hd' v' F3 H3 A' e3 r3 => ?_
  obtain ⟨d2, F4, B2, e4, e5, r5, h5⟩ := hd' v' F3 H3 A' e3 r3
  refine h v v' d1 d2 F4 H3 B B2 (B ++ B2) e1 e4 (e2.seq0 e5) (r2.mono e5.subF fun b hb => ?_) r5 (fun z hz => List.mem_append_left _ hz) (fun z hz => List.mem_append_right _ hz) h5
  obtain ⟨o, q⟩ := e2.dom b hb
  rw [q]
  exact e5.same0 b o q
/-- one operand -/
theorem oneE {a : Ex} (ha : SE S M N wd k a) {l : PySem.Expr} {sc : Scope} {cm : Bool} {X : Cx} (G : Gd S M N wd cm k sc X) (ma : mE M N cm sc false a l = true)
    {F H : Hp} {σ : L2.St} {ρ : Env} (sF : Same F H) (hρ : EnvS S F σ ρ (vars a)) {W : WX} {β : Type} {f : D → R β} {Pf : β → Prop}
    (hq : PX S F H ((ev wd none false a ρ).bind f) Pf (wc W σ)) (Q2 : V → Hp → Prop)
    (h : ∀ (x : V) (dx : D) (F2 H2 : Hp) (A : List Addr), ev wd none false a ρ = .ok dx → Ext0 F H F2 H2 A → Rep S F2 H2 x dx A → PX S F H (f dx) Pf (wc W σ) → Q2 x H2) : RE X l σ H Q2 W := by
  refine ha l sc cm X G ma F H σ ρ sF hρ _ W ?_
  have s1 := PX.step (PX.bind hq) (Ext.refl0 sF)
  refine PX.imp s1 fun d _ hd v F1 H1 A e r => ?_
  obtain ⟨d1, F2, B, e1, e2, r2, h2⟩ := hd v F1 H1 A e r
  exact h v d1 F2 H1 B e1 e2 r2 h2
/-- two operands: their values at hand -/
theorem two {a b : Ex} (ha : SE S M N wd k a) (hb : SE S M N wd k b) {l r : PySem.Expr} {sc : Scope} {cm : Bool} {X : Cx} (G : Gd S M N wd cm k sc X) (ma : mE M N cm sc false a l = true) (mb : mE M N cm sc false b r = true)
    {F H : Hp} {σ : L2.St} {ρ : Env} (sF : Same F H) (hρ : EnvS S F σ ρ (vars a ++ vars b)) {P : D → D → Prop} {W : WX} {β : Type} {f : D → D → R β} {Pf : β → Prop}
    (hq : PX S F H ((ev wd none false a ρ).bind fun x => (ev wd none false b ρ).bind fun y => f x y) Pf (wc W σ)) (Q2 : V → V → Hp → Prop)
    (h : ∀ (x y : V) (dx dy : D) (F2 H2 : Hp) (A B C : List Addr), Ext0 F H F2 H2 C → Rep S F2 H2 x dx A → Rep S F2 H2 y dy B → (∀ z ∈ A, z ∈ C) → (∀ z ∈ B, z ∈ C) → PX S F H (f dx dy) Pf (wc W σ) → Q2 x y H2) :
    RE X l σ H (fun x H1 => RE X r σ H1 (fun y H2 => Q2 x y H2) W) W :=
  twoE ha hb G ma mb sF hρ (P := P) hq Q2 fun x y dx dy F2 H2 A B C _ _ => h x y dx dy F2 H2 A B C
/-- one operand -/
theorem one {a : Ex} (ha : SE S M N wd k a) {l : PySem.Expr} {sc : Scope} {cm : Bool} {X : Cx} (G : Gd S M N wd cm k sc X) (ma : mE M N cm sc false a l = true)
    {F H : Hp} {σ : L2.St} {ρ : Env} (sF : Same F H) (hρ : EnvS S F σ ρ (vars a)) {W : WX} {β : Type} {f : D → R β} {Pf : β → Prop}
    (hq : PX S F H ((ev wd none false a ρ).bind f) Pf (wc W σ)) (Q2 : V → Hp → Prop)
    (h : ∀ (x : V) (dx : D) (F2 H2 : Hp) (A : List Addr), Ext0 F H F2 H2 A → Rep S F2 H2 x dx A → PX S F H (f dx) Pf (wc W σ) → Q2 x H2) : RE X l σ H Q2 W :=
  oneE ha G ma sF hρ hq Q2 fun x dx F2 H2 A _ => h x dx F2 H2 A
def canR (X : Cx) (f : Value → Value → Sem Value) : R2 := fun x y H Q => ∃ r, OpR X f r ∧ r x y H Q
theorem canR_ok {X : Cx} {f : Value → Value → Sem Value} : OpR X f (canR X f) := fun pins s σ H x y v u Q I rx ry h => by
  obtain ⟨r, h1, h2⟩ := h
  exact h1 pins s σ H x y v u Q I rx ry h2
theorem se_bin {op : Operator} {a b : Ex} (ha : SE S M N wd k a) (hb : SE S M N wd k b) : SE S M N wd k (.bin op a b) := by
  intro x sc cm X G m F H σ ρ sF hρ Q W hq
  cases x with
  | BinOp l op' r p =>
    obtain ⟨m, m3⟩ := an (show (decide (op = op') && mE M N cm sc false a l && mE M N cm sc false b r) = true from m)
    obtain ⟨m1, m2⟩ := an m
    cases of_decide_eq_true m1
    refine re_of (pe_op (r := canR (Cx.xw X W) (binaryOp op)) canR_ok pe_can pe_can) ?_
    refine two ha hb G m2 m3 sF hρ (P := fun _ _ => True) (f := binD op) hq _ fun x y dx dy F2 H2 A B C e rx ry hA hB h => ?_
    exact bin_ok rfl e rx ry hA hB h
  | _ => exact ff m
theorem se_neg {a : Ex} (ha : SE S M N wd k a) : SE S M N wd k (.neg a) := by
  intro x sc cm X G m F H σ ρ sF hρ Q W hq
  cases x with
  | UnaryOp op l p => cases op with
    | USub =>
      refine re_of (pe_un un_neg pe_can) ?_
      refine one ha G m sF hρ (f := negD) hq _ fun x dx F2 H2 A e rx h => ?_
      cases dx with
      | int i => cases rx; exact ⟨i, rfl, fin_sc e h (.int _)⟩
      | _ => exact h.elim
    | _ => exact ff m
  | _ => exact ff m
/-- what boolsR has taken -/
theorem bools_ok {r : R D} {f : Bool → R D} {Pf : D → Prop} {F H : Hp} {W : XK} (h : PX S F H ((boolsR r).bind f) Pf W) : PX S F H (r.bind fun d => (match d with | .bl b => R.ok b | _ => .bad : R Bool).bind f) Pf W := by
  cases r with
  | ok d => cases d <;> exact h
  | ex c fs => exact h
  | bad => exact h
theorem se_not {a : Ex} (ha : SE S M N wd k a) : SE S M N wd k (.not a) := by
  intro x sc cm X G m F H σ ρ sF hρ Q W hq
  cases x with
  | UnaryOp op l p => cases op with
    | Not =>
      refine re_of (pe_not pe_can) ?_
      refine one ha G m sF hρ (bools_ok (f := fun b => .ok (.bl !b)) hq) _ fun x dx F2 H2 A e rx h => ?_
      cases dx with
      | bl b => cases rx; exact ⟨b, rfl, fin_sc e h (.bl _)⟩
      | _ => exact h.elim
    | _ => exact ff m
  | _ => exact ff m
theorem behind_ok {cm : Bool} {sc : Scope} {mm : Bool} {b : Ex} {r : PySem.Expr} {op : CmpOp} (h : mE M N cm sc mm b r = true) : behindInMarks op r = false := by
  cases r with
  | Set => cases b <;> first | exact ff h | (rename_i es _ _ _; cases es <;> exact ff h) | (rename_i es; cases es <;> exact ff h)
  | _ => rfl
theorem plain_ix {cm : Bool} {sc : Scope} {mm : Bool} {b : Ex} {r : PySem.Expr} (h : mE M N cm sc mm b r = true) : PlainIx r := by
  cases r with
  | Slice => cases b <;> first | exact ff h | (rename_i es _ _ _ _; cases es <;> exact ff h) | (rename_i es; cases es <;> exact ff h)
  | _ => exact fun _ _ => rfl
theorem units_xw {cm : Bool} {sc : Scope} {X : Cx} {W : WX} (G : Gd S M N wd cm k sc X) : (Cx.xw X W).A.units + 65 < cLine := by
  have h : X.A.units + 70 < cLine := G.units
  show X.A.units + 65 < cLine
  omega
theorem eqP_ne {a b : D} {c : Nat} {fs : List (Nat × D)} : eqP a b ≠ .ex c fs := by
  unfold eqP
  split
  · split <;> exact fun h => nomatch h
  · exact fun h => nomatch h
theorem eqD_ne {a b : D} {c : Nat} {fs : List (Nat × D)} : eqD a b ≠ .ex c fs := by
  unfold eqD
  split
  · split
    · exact fun h => nomatch h
    · exact eqP_ne
  · exact eqP_ne
theorem inLst_ne {a : D} {b : List D} {c : Nat} {fs : List (Nat × D)} : inLst a b ≠ .ex c fs := by
  unfold inLst
  split
  · exact fun h => nomatch h
  · split
    · split <;> exact fun h => nomatch h
    · exact fun h => nomatch h
theorem inD_ne {a b : D} {c : Nat} {fs : List (Nat × D)} : inD a b ≠ .ex c fs := by
  cases b with
  | lst o ys => exact inLst_ne
  | tup ys =>
    show inTup a ys ≠ _
    unfold inTup
    split <;> exact fun h => nomatch h
  | str y => cases a <;> exact fun h => nomatch h
  | dct o kvs =>
    show (match keyOf a with
      | some k => R.ok (getK kvs k).isSome
      | none => .bad) ≠ _
    split <;> exact fun h => nomatch h
  | _ => exact fun h => nomatch h
theorem cmp_ne {op : CmpOp} {a b : D} {c : Nat} {fs : List (Nat × D)} : cmpD op a b ≠ .ex c fs := by
  have nb : ∀ {r : R Bool}, r ≠ .ex c fs → (r.bind fun k => R.ok (!k)) ≠ .ex c fs := fun {r} h e => by
    cases r with
    | ok k => cases e
    | ex c' fs' => cases e; exact h rfl
    | bad => cases e
  cases op with
  | Eq => exact eqD_ne
  | NotEq => exact nb eqD_ne
  | In => exact inD_ne
  | NotIn => exact nb inD_ne
  | _ => cases a <;> cases b <;> exact fun h => nomatch h
theorem se_cmp {op : CmpOp} {a b : Ex} (ha : SE S M N wd k a) (hb : SE S M N wd k b) : SE S M N wd k (.cmp op a b) := by
  intro x sc cm X G m F H σ ρ sF hρ Q W hq
  cases x with
  | Compare l ops rs p =>
    cases ops with
    | nil => exact ff m
    | cons op' ops => cases ops with
      | cons _ _ => cases rs <;> exact ff m
      | nil => cases rs with
        | nil => exact ff m
        | cons r rs => cases rs with
          | cons _ _ => exact ff m
          | nil =>
            obtain ⟨m, m3⟩ := an (show (decide (op = op') && mE M N cm sc false a l && mE M N cm sc false b r) = true from m)
            obtain ⟨m1, m2⟩ := an m
            cases of_decide_eq_true m1
            refine re_of (pe_cmpR (r := canR (Cx.xw X W) (compareOp op)) canR_ok pe_can pe_can (behind_ok m3)) ?_
            refine two ha hb G m2 m3 sF hρ (P := fun _ _ => True) (f := fun x y => (cmpD op x y).bind fun c => R.ok (D.bl c)) hq _ fun x y dx dy F2 H2 A B C e rx ry hA hB h => ?_
            cases q : cmpD op dx dy with
            | ok c =>
              rw [q] at h
              obtain ⟨r1, o1, o2⟩ := cmp_ok (X := Cx.xw X W) G.eK (units_xw G) e.sub rx ry q
              exact ⟨r1, o1, o2 _ (fin_sc e h (.bl c))⟩
            | ex c fs => exact absurd q cmp_ne
            | bad => rw [q] at h; exact h.elim
  | _ => exact ff m
theorem st_cmp {op : CmpOp} {a b : Ex} (ha : SE S M N wd k a) (hb : SE S M N wd k b) : STs S M N wd k (.cmp op a b) := by
  intro x sc cm X G m F H σ ρ sF hρ Q W hq
  cases x with
  | Compare l ops rs p =>
    cases ops with
    | nil => exact ff m
    | cons op' ops => cases ops with
      | cons _ _ => cases rs <;> exact ff m
      | nil => cases rs with
        | nil => exact ff m
        | cons r rs => cases rs with
          | cons _ _ => exact ff m
          | nil =>
            obtain ⟨m, m3⟩ := an (show (decide (op = op') && mE M N cm sc false a l && mE M N cm sc false b r) = true from m)
            obtain ⟨m1, m2⟩ := an m
            cases of_decide_eq_true m1
            refine rt_of (pt_cmpR (r := canR (Cx.xw X W) (compareOp op)) canR_ok pe_can pe_can (behind_ok m3)) ?_
            refine two ha hb G m2 m3 sF hρ (P := fun _ _ => True) (f := fun x y => (cmpD op x y).bind fun c => R.ok (D.bl c)) hq _ fun x y dx dy F2 H2 A B C e rx ry hA hB h => ?_
            cases q : cmpD op dx dy with
            | ok c =>
              rw [q] at h
              obtain ⟨r1, o1, o2⟩ := cmp_ok (X := Cx.xw X W) G.eK (units_xw G) e.sub rx ry q
              exact ⟨r1, o1, o2 _ ⟨c, rfl, h F2 H2 (e.drop0 sub_nil)⟩⟩
            | ex c fs => exact absurd q cmp_ne
            | bad => rw [q] at h; exact h.elim
  | _ => exact ff m
end
end MI

set_option Elab.async false
set_option linter.all false
set_option maxRecDepth 99000
set_option maxHeartbeats 999000
/-! MiF: expressions, further: chains, and, or, displays, subscripts, calls. -/
namespace MI
open PySem L2 PySem.Spec PyProof.Rows

section
variable {S : Sw} {M : Nms} {N : List Str} {wd : W} {k : Nat}
theorem Post.seq {F H F1 H1 : Hp} {A : List Addr} {d : D} {Q : VK} (h : Post S F H d Q) (e : Ext0 F H F1 H1 A) : Post S F1 H1 d Q := fun v F' H' B f r => h v F' H' B ((e.seq0 f).drop0 fun b => by rw [List.count_append]; omega) r
theorem PR.re {F H F1 H1 : Hp} {A : List Addr} {r : R D} {Q : VK} {W : XK} (h : PR S F H r Q W) (e : Ext0 F H F1 H1 A) : PR S F1 H1 r Q W := by
  cases r with
  | ok d => exact Post.seq h e
  | ex c fs => exact PostX.seq h e
  | bad => exact h
theorem PRB.re {F H F1 H1 : Hp} {A : List Addr} {r : R D} {Q : Bool → Hp → Prop} {W : XK} (h : PRB S F H r Q W) (e : Ext0 F H F1 H1 A) : PRB S F1 H1 r Q W := by
  cases r with
  | ok d => cases d with
    | bl k => exact fun F' H' f => h F' H' ((e.seq0 f).drop0 fun b => Nat.zero_le _)
    | _ => exact h.elim
  | ex c fs => exact PostX.seq h e
  | bad => exact h
/-- a test, then what follows -/
theorem oneT {a : Ex} (ha : STs S M N wd k a) {l : PySem.Expr} {sc : Scope} {cm : Bool} {X : Cx} (G : Gd S M N wd cm k sc X) (ma : mE M N cm sc true a l = true)
    {F H : Hp} {σ : L2.St} {ρ : Env} (sF : Same F H) (hρ : EnvS S F σ ρ (vars a)) {W : WX} {β : Type} {f : Bool → R β} {Pf : β → Prop}
    (hq : PX S F H ((boolsR (ev wd none true a ρ)).bind f) Pf (wc W σ)) (Q2 : Bool → Hp → Prop)
    (h : ∀ (b : Bool) (F2 H2 : Hp), Ext0 F H F2 H2 [] → PX S F H (f b) Pf (wc W σ) → Q2 b H2) : RT X l σ H Q2 W := by
  refine ha l sc cm X G ma F H σ ρ sF hρ _ W ?_
  have s1 := PX.stepB (PX.bind hq) (Ext.refl0 sF)
  refine PX.imp s1 fun d _ hd => ?_
  cases d with
  | bl b =>
    intro F1 H1 e
    obtain ⟨F2, e1, e2, h2⟩ := hd F1 H1 e
    exact h b F2 H1 e2 h2
  | _ => exact hd.elim
theorem se_chn {op op' : CmpOp} {a b c : Ex} (ha : SE S M N wd k a) (hb : SE S M N wd k b) (hc : SE S M N wd k c) : SE S M N wd k (.chn op op' a b c) := by
  intro x sc cm X G m F H σ ρ sF hρ Q W hq
  cases x with
  | Compare l ops rs p =>
    cases ops with
    | nil => exact ff m
    | cons o1 ops => cases ops with
      | nil => cases rs <;> exact ff m
      | cons o2 ops => cases ops with
        | cons _ _ => cases rs with
          | nil => exact ff m
          | cons _ rs => cases rs <;> exact ff m
        | nil => cases rs with
          | nil => exact ff m
          | cons r rs => cases rs with
            | nil => exact ff m
            | cons r2 rs => cases rs with
              | cons _ _ => exact ff m
              | nil =>
                obtain ⟨m, m5⟩ := an (show (decide (op = o1) && decide (op' = o2) && mE M N cm sc false a l && mE M N cm sc false b r && mE M N cm sc false c r2) = true from m)
                obtain ⟨m, m4⟩ := an m
                obtain ⟨m, m3⟩ := an m
                obtain ⟨m1, m2⟩ := an m
                cases of_decide_eq_true m1
                cases of_decide_eq_true m2
                have hlm : lastMarks [op, op'] [r, r2] = false := by
                  have e := behind_ok (M := M) (N := N) (op := op') m5
                  first
                    | exact e
                    | (unfold lastMarks; exact e)
                    | (simp [lastMarks, e])
                refine re_of (pe_chain (r := canR (Cx.xw X W) (compareOp op)) (r' := canR (Cx.xw X W) (compareOp op')) canR_ok canR_ok pe_can pe_can pe_can hlm) ?_
                refine two ha hb G m3 m4 sF hρ.l (P := fun _ _ => True) (f := fun x y => (cmpD op x y).bind fun k => if k then (ev wd none false c ρ).bind fun z => (cmpD op' y z).bind fun j => R.ok (D.bl j) else R.ok (D.bl false)) hq _ fun x y dx dy F2 H2 A B C e rx ry hA hB h => ?_
                cases q : cmpD op dx dy with
                | ok c1 =>
                  rw [q] at h
                  obtain ⟨r1, o1, o2⟩ := cmp_ok (X := Cx.xw X W) G.eK (units_xw G) e.sub rx ry q
                  refine ⟨r1, o1, o2 _ ⟨c1, rfl, ?_⟩⟩
                  cases c1 with
                  | false =>
                    rw [if_neg (Bool.false_ne_true)]
                    exact fin_sc e h (.bl false)
                  | true =>
                    rw [if_pos rfl]
                    have h : PX S F H ((ev wd none false c ρ).bind fun z => (cmpD op' dy z).bind fun j => R.ok (D.bl j)) (fun d => Post S F H d Q) (wc W σ) := h
                    refine hc _ sc cm X G m5 F2 H2 σ ρ e.sub (hρ.r.mono e.subF) _ W ?_
                    refine PX.imp (PX.step (PX.bind h) e) fun d _ hd v F3 H3 A3 e3 r3 => ?_
                    obtain ⟨dz, F4, B4, e4, e5, r5, h5⟩ := hd v F3 H3 A3 e3 r3
                    cases q2 : cmpD op' dy dz with
                    | ok c2 =>
                      rw [q2] at h5
                      have ry4 : Rep S F4 H3 y dy B := ry.mono e5.subF fun b hb => by
                        obtain ⟨o, qq⟩ := e.dom b (hB b hb)
                        rw [qq]; exact e5.same0 b o qq
                      obtain ⟨r2', o3, o4⟩ := cmp_ok (X := Cx.xw X W) G.eK (units_xw G) e5.sub ry4 r5 q2
                      exact ⟨r2', o3, o4 _ (fin_sc (e.seq0 e5) h5 (.bl c2))⟩
                    | ex c' fs' => exact absurd q2 cmp_ne
                    | bad => rw [q2] at h5; exact h5.elim
                | ex c' fs' => exact absurd q cmp_ne
                | bad => rw [q] at h; exact h.elim
  | _ => exact ff m
/-- a value that is a bool, as a test (a comparison chain) -/
theorem st_chn {op op' : CmpOp} {a b c : Ex} (ha : SE S M N wd k a) (hb : SE S M N wd k b) (hc : SE S M N wd k c) : STs S M N wd k (.chn op op' a b c) := by
  intro x sc cm X G m F H σ ρ sF hρ Q W hq
  cases x with
  | Compare l ops rs p =>
    cases ops with
    | nil => exact ff m
    | cons o1 ops => cases ops with
      | nil => cases rs <;> exact ff m
      | cons o2 ops => cases ops with
        | cons _ _ => cases rs with
          | nil => exact ff m
          | cons _ rs => cases rs <;> exact ff m
        | nil => cases rs with
          | nil => exact ff m
          | cons r rs => cases rs with
            | nil => exact ff m
            | cons r2 rs => cases rs with
              | cons _ _ => exact ff m
              | nil =>
                obtain ⟨m, m5⟩ := an (show (decide (op = o1) && decide (op' = o2) && mE M N cm sc false a l && mE M N cm sc false b r && mE M N cm sc false c r2) = true from m)
                obtain ⟨m, m4⟩ := an m
                obtain ⟨m, m3⟩ := an m
                obtain ⟨m1, m2⟩ := an m
                cases of_decide_eq_true m1
                cases of_decide_eq_true m2
                have hlm : lastMarks [op, op'] [r, r2] = false := by
                  have e := behind_ok (M := M) (N := N) (op := op') m5
                  first
                    | exact e
                    | (unfold lastMarks; exact e)
                    | (simp [lastMarks, e])
                refine rt_of (pt_chain (r := canR (Cx.xw X W) (compareOp op)) (r' := canR (Cx.xw X W) (compareOp op')) canR_ok canR_ok pe_can pe_can pe_can hlm) ?_
                refine two ha hb G m3 m4 sF hρ.l (P := fun _ _ => True) (f := fun x y => (cmpD op x y).bind fun k => if k then (ev wd none false c ρ).bind fun z => (cmpD op' y z).bind fun j => R.ok (D.bl j) else R.ok (D.bl false)) hq _ fun x y dx dy F2 H2 A B C e rx ry hA hB h => ?_
                cases q : cmpD op dx dy with
                | ok c1 =>
                  rw [q] at h
                  obtain ⟨r1, o1, o2⟩ := cmp_ok (X := Cx.xw X W) G.eK (units_xw G) e.sub rx ry q
                  refine ⟨r1, o1, o2 _ ⟨c1, rfl, ?_⟩⟩
                  cases c1 with
                  | false =>
                    rw [if_neg (Bool.false_ne_true)]
                    exact ⟨false, rfl, h F2 H2 (e.drop0 sub_nil)⟩
                  | true =>
                    rw [if_pos rfl]
                    have h : PX S F H ((ev wd none false c ρ).bind fun z => (cmpD op' dy z).bind fun j => R.ok (D.bl j)) (fun d => PostB F H d Q) (wc W σ) := h
                    refine hc _ sc cm X G m5 F2 H2 σ ρ e.sub (hρ.r.mono e.subF) _ W ?_
                    refine PX.imp (PX.step (PX.bind h) e) fun d _ hd v F3 H3 A3 e3 r3 => ?_
                    obtain ⟨dz, F4, B4, e4, e5, r5, h5⟩ := hd v F3 H3 A3 e3 r3
                    cases q2 : cmpD op' dy dz with
                    | ok c2 =>
                      rw [q2] at h5
                      have ry4 : Rep S F4 H3 y dy B := ry.mono e5.subF fun b hb => by
                        obtain ⟨o, qq⟩ := e.dom b (hB b hb)
                        rw [qq]; exact e5.same0 b o qq
                      obtain ⟨r2', o3, o4⟩ := cmp_ok (X := Cx.xw X W) G.eK (units_xw G) e5.sub ry4 r5 q2
                      exact ⟨r2', o3, o4 _ ⟨c2, rfl, h5 F4 H3 ((e.seq0 e5).drop0 sub_nil)⟩⟩
                    | ex c' fs' => exact absurd q2 cmp_ne
                    | bad => rw [q2] at h5; exact h5.elim
                | ex c' fs' => exact absurd q cmp_ne
                | bad => rw [q] at h; exact h.elim
  | _ => exact ff m

/-! ### and, or, if-expressions -/
theorem se_and {a b : Ex} (ha : SE S M N wd k a) (hb : SE S M N wd k b) : SE S M N wd k (.and a b) := by
  intro x sc cm X G m F H σ ρ sF hρ Q W hq
  cases x with
  | BoolOp op vs p => cases op with
    | Or => cases vs with
      | nil => exact ff m
      | cons _ vs => cases vs with
        | nil => exact ff m
        | cons _ vs => cases vs <;> exact ff m
    | And => cases vs with
      | nil => exact ff m
      | cons l vs => cases vs with
        | nil => exact ff m
        | cons r vs =>
          have key : mE M N cm sc false a l = true → (∃ t, PE (Cx.xw X W) (.BoolOp .And (r :: vs) p) t ∧ ∀ F2 H2, Ext0 F H F2 H2 [] → PR S F2 H2 (ev wd none false b ρ) Q (wc W σ) → t σ H2 Q) → RE X (.BoolOp .And (l :: r :: vs) p) σ H Q W := by
            intro m1 ⟨t, pt, ht⟩
            refine re_of (pe_and pe_can pt) ?_
            refine one ha G m1 sF hρ.l (bools_ok (f := fun k => if k then ev wd none false b ρ else R.ok (D.bl false)) hq) _ fun x dx F2 H2 A e rx h => ?_
            cases dx with
            | bl c =>
              cases rx
              refine ⟨c, rfl, ?_⟩
              cases c with
              | false => rw [if_neg Bool.false_ne_true]; exact fin_sc e h (.bl false)
              | true => rw [if_pos rfl]; exact ht F2 H2 (e.drop0 sub_nil) (PR.re (Q := Q) h e)
            | _ => exact h.elim
          cases vs with
          | nil =>
            obtain ⟨m1, m2⟩ := an (show (mE M N cm sc false a l && mE M N cm sc false b r) = true from m)
            exact key m1 ⟨_, pe_one pe_can, fun F2 H2 e h => hb r sc cm X G m2 F2 H2 σ ρ e.sub (hρ.r.mono e.subF) Q W h⟩
          | cons r2 vs =>
            obtain ⟨m1, m2⟩ := an (show (mE M N cm sc false a l && mE M N cm sc false b (.BoolOp .And (r :: r2 :: vs) p)) = true from m)
            exact key m1 ⟨_, pe_can, fun F2 H2 e h => hb _ sc cm X G m2 F2 H2 σ ρ e.sub (hρ.r.mono e.subF) Q W h⟩
  | _ => exact ff m
theorem se_or {a b : Ex} (ha : SE S M N wd k a) (hb : SE S M N wd k b) : SE S M N wd k (.or a b) := by
  intro x sc cm X G m F H σ ρ sF hρ Q W hq
  cases x with
  | BoolOp op vs p => cases op with
    | And => cases vs with
      | nil => exact ff m
      | cons _ vs => cases vs with
        | nil => exact ff m
        | cons _ vs => cases vs <;> exact ff m
    | Or => cases vs with
      | nil => exact ff m
      | cons l vs => cases vs with
        | nil => exact ff m
        | cons r vs =>
          have key : mE M N cm sc false a l = true → (∃ t, PE (Cx.xw X W) (.BoolOp .Or (r :: vs) p) t ∧ ∀ F2 H2, Ext0 F H F2 H2 [] → PR S F2 H2 (ev wd none false b ρ) Q (wc W σ) → t σ H2 Q) → RE X (.BoolOp .Or (l :: r :: vs) p) σ H Q W := by
            intro m1 ⟨t, pt, ht⟩
            refine re_of (pe_or pe_can pt) ?_
            refine one ha G m1 sF hρ.l (bools_ok (f := fun k => if k then R.ok (D.bl true) else ev wd none false b ρ) hq) _ fun x dx F2 H2 A e rx h => ?_
            cases dx with
            | bl c =>
              cases rx
              refine ⟨c, rfl, ?_⟩
              cases c with
              | true => rw [if_pos rfl]; exact fin_sc e h (.bl true)
              | false => rw [if_neg Bool.false_ne_true]; exact ht F2 H2 (e.drop0 sub_nil) (PR.re (Q := Q) h e)
            | _ => exact h.elim
          cases vs with
          | nil =>
            obtain ⟨m1, m2⟩ := an (show (mE M N cm sc false a l && mE M N cm sc false b r) = true from m)
            exact key m1 ⟨_, pe_one pe_can, fun F2 H2 e h => hb r sc cm X G m2 F2 H2 σ ρ e.sub (hρ.r.mono e.subF) Q W h⟩
          | cons r2 vs =>
            obtain ⟨m1, m2⟩ := an (show (mE M N cm sc false a l && mE M N cm sc false b (.BoolOp .Or (r :: r2 :: vs) p)) = true from m)
            exact key m1 ⟨_, pe_can, fun F2 H2 e h => hb _ sc cm X G m2 F2 H2 σ ρ e.sub (hρ.r.mono e.subF) Q W h⟩
  | _ => exact ff m
theorem pw_can {X : Cx} {W : WX} {op : BoolOp} {vs : List PySem.Expr} {p : Pos} : PW (Cx.xw X W) (.BoolOp op vs p) (fun σ H Q => RT X (.BoolOp op vs p) σ H Q W) := ⟨fun wh pins s σ H Q I h =>
  wpAny_mono (show wpAny (model X.prog X.w) X.A (isTrue (.BoolOp op vs p) X.env (eval (.BoolOp op vs p) X.env)) (TP X pins σ Q) (XE X W) s from h pins s I.unwish) (fun _ _ z => tp_wi z) fun _ _ z => z⟩
theorem st_and {a b : Ex} (ha : STs S M N wd k a) (hb : STs S M N wd k b) : STs S M N wd k (.and a b) := by
  intro x sc cm X G m F H σ ρ sF hρ Q W hq
  cases x with
  | BoolOp op vs p => cases op with
    | Or => cases vs with
      | nil => exact ff m
      | cons _ vs => cases vs with
        | nil => exact ff m
        | cons _ vs => cases vs <;> exact ff m
    | And => cases vs with
      | nil => exact ff m
      | cons l vs => cases vs with
        | nil => exact ff m
        | cons r vs =>
          have key : mE M N cm sc true a l = true → (∃ t, PW (Cx.xw X W) (.BoolOp .And (r :: vs) p) t ∧ ∀ F2 H2, Ext0 F H F2 H2 [] → PRB S F2 H2 (ev wd none true b ρ) Q (wc W σ) → t σ H2 Q) → RT X (.BoolOp .And (l :: r :: vs) p) σ H Q W := by
            intro m1 ⟨t, pt, ht⟩
            refine rt_of (PW.pt (pw_and pt_can pt)) ?_
            refine oneT ha G m1 sF hρ.l (f := fun k => if k then ev wd none true b ρ else R.ok (D.bl false)) hq _ fun c F2 H2 e h => ?_
            cases c with
            | false => rw [if_neg Bool.false_ne_true]; exact h F2 H2 e
            | true => rw [if_pos rfl]; exact ht F2 H2 e (PRB.re (Q := Q) h e)
          cases vs with
          | nil =>
            obtain ⟨m1, m2⟩ := an (show (mE M N cm sc true a l && mE M N cm sc true b r) = true from m)
            exact key m1 ⟨_, pw_and1 pt_can, fun F2 H2 e h => hb r sc cm X G m2 F2 H2 σ ρ e.sub (hρ.r.mono e.subF) Q W h⟩
          | cons r2 vs =>
            obtain ⟨m1, m2⟩ := an (show (mE M N cm sc true a l && mE M N cm sc true b (.BoolOp .And (r :: r2 :: vs) p)) = true from m)
            exact key m1 ⟨_, pw_can, fun F2 H2 e h => hb _ sc cm X G m2 F2 H2 σ ρ e.sub (hρ.r.mono e.subF) Q W h⟩
  | _ => exact ff m
theorem st_or {a b : Ex} (ha : STs S M N wd k a) (hb : STs S M N wd k b) : STs S M N wd k (.or a b) := by
  intro x sc cm X G m F H σ ρ sF hρ Q W hq
  cases x with
  | BoolOp op vs p => cases op with
    | And => cases vs with
      | nil => exact ff m
      | cons _ vs => cases vs with
        | nil => exact ff m
        | cons _ vs => cases vs <;> exact ff m
    | Or => cases vs with
      | nil => exact ff m
      | cons l vs => cases vs with
        | nil => exact ff m
        | cons r vs =>
          have key : mE M N cm sc true a l = true → (∃ t, PW (Cx.xw X W) (.BoolOp .Or (r :: vs) p) t ∧ ∀ F2 H2, Ext0 F H F2 H2 [] → PRB S F2 H2 (ev wd none true b ρ) Q (wc W σ) → t σ H2 Q) → RT X (.BoolOp .Or (l :: r :: vs) p) σ H Q W := by
            intro m1 ⟨t, pt, ht⟩
            refine rt_of (PW.pt (pw_or pt_can pt)) ?_
            refine oneT ha G m1 sF hρ.l (f := fun k => if k then R.ok (D.bl true) else ev wd none true b ρ) hq _ fun c F2 H2 e h => ?_
            cases c with
            | true => rw [if_pos rfl]; exact h F2 H2 e
            | false => rw [if_neg Bool.false_ne_true]; exact ht F2 H2 e (PRB.re (Q := Q) h e)
          cases vs with
          | nil =>
            obtain ⟨m1, m2⟩ := an (show (mE M N cm sc true a l && mE M N cm sc true b r) = true from m)
            exact key m1 ⟨_, pw_or1 pt_can, fun F2 H2 e h => hb r sc cm X G m2 F2 H2 σ ρ e.sub (hρ.r.mono e.subF) Q W h⟩
          | cons r2 vs =>
            obtain ⟨m1, m2⟩ := an (show (mE M N cm sc true a l && mE M N cm sc true b (.BoolOp .Or (r :: r2 :: vs) p)) = true from m)
            exact key m1 ⟨_, pw_can, fun F2 H2 e h => hb _ sc cm X G m2 F2 H2 σ ρ e.sub (hρ.r.mono e.subF) Q W h⟩
  | _ => exact ff m
theorem st_not {a : Ex} (ha : STs S M N wd k a) : STs S M N wd k (.not a) := by
  intro x sc cm X G m F H σ ρ sF hρ Q W hq
  cases x with
  | UnaryOp op l p => cases op with
    | Not =>
      refine rt_of (pt_not pt_can) ?_
      refine oneT ha G m sF hρ (f := fun b => R.ok (D.bl !b)) hq _ fun c F2 H2 e h => ?_
      exact h F2 H2 e
    | _ => exact ff m
  | _ => exact ff m
theorem se_ite {t a b : Ex} (ht : STs S M N wd k t) (ha : SE S M N wd k a) (hb : SE S M N wd k b) : SE S M N wd k (.ite t a b) := by
  intro x sc cm X G m F H σ ρ sF hρ Q W hq
  cases x with
  | IfExp c l r p =>
    obtain ⟨m, m3⟩ := an (show (!false && mE M N cm sc true t c && mE M N cm sc false a l && mE M N cm sc false b r) = true from m)
    obtain ⟨m, m2⟩ := an m
    obtain ⟨_, m1⟩ := an m
    refine re_of (pe_ifExp pt_can pe_can pe_can) ?_
    refine oneT ht G m1 sF hρ.l.l (f := fun k => if k then ev wd none false a ρ else ev wd none false b ρ) hq _ fun c F2 H2 e h => ?_
    cases c with
    | true => rw [if_pos rfl]; exact ha l sc cm X G m2 F2 H2 σ ρ e.sub (hρ.l.r.mono e.subF) Q W (PR.re (Q := Q) h e)
    | false => rw [if_neg Bool.false_ne_true]; exact hb r sc cm X G m3 F2 H2 σ ρ e.sub (hρ.r.mono e.subF) Q W (PR.re (Q := Q) h e)
  | _ => exact ff m

/-! ### argument lists, displays -/
theorem star_ok {x : PySem.Expr} {xs : List PySem.Expr} {env : PySem.Env} (h : plainX x = true) : starEach (x :: xs) env = (false, eval x env) :: starEach xs env := by
  cases x <;> first | rfl | exact ff h
theorem sl_nil : SLs S M N wd k .nil := by
  intro xs sc cm X G m F H σ ρ sF hρ Q W hq
  cases xs with
  | nil => exact ra_of pa_nil (hq [] F H [] (Ext.refl0 sF) .nil)
  | cons _ _ => exact ff m
theorem sl_cons {e : Ex} {es : Exs} (he : SE S M N wd k e) (hs : SLs S M N wd k es) : SLs S M N wd k (.cons e es) := by
  intro xs sc cm X G m F H σ ρ sF hρ Q W hq
  cases xs with
  | nil => exact ff m
  | cons x xs =>
    obtain ⟨m, m3⟩ := an (show (plainX x && mE M N cm sc false e x && mL M N cm sc es xs) = true from m)
    obtain ⟨m1, m2⟩ := an m
    refine ra_of (pa_cons pe_can pa_can (star_ok m1)) ?_
    refine one he G m2 sF hρ.l (f := fun x => (evL wd none es ρ).bind fun xs => .ok (x :: xs)) hq _ fun v d F2 H2 A e rx h => ?_
    refine hs xs sc cm X G m3 F2 H2 σ ρ e.sub (hρ.r.mono e.subF) _ W ?_
    refine PX.imp (PX.stepL (PX.bind h) e) fun ds _ hd vs F3 H3 A3 e3 r3 => ?_
    obtain ⟨ds', F4, B4, e4, e5, r5, h5⟩ := hd vs F3 H3 A3 e3 r3
    refine h5 _ F4 H3 _ (e.seq0 e5) (.cons (rx.mono e5.subF fun b hb => ?_) r5 rfl)
    obtain ⟨o, qq⟩ := e.dom b hb
    rw [qq]; exact e5.same0 b o qq
/-- an argument list, then what follows -/
theorem many {es : Exs} (hs : SLs S M N wd k es) {xs : List PySem.Expr} {sc : Scope} {cm : Bool} {X : Cx} (G : Gd S M N wd cm k sc X) (ms : mL M N cm sc es xs = true)
    {F0 H0 F H : Hp} {C : List Addr} {σ : L2.St} {ρ : Env} (e : Ext0 F0 H0 F H C) (hρ : EnvS S F0 σ ρ (varsL es)) {W : WX} {β : Type} {f : List D → R β} {Pf : β → Prop}
    (hq : PX S F0 H0 ((evL wd none es ρ).bind f) Pf (wc W σ)) (Q2 : List V → Hp → Prop)
    (h : ∀ (vs : List V) (ds : List D) (F2 H2 : Hp) (A : List Addr), Ext0 F H F2 H2 A → Reps S F2 H2 vs ds A → PX S F0 H0 (f ds) Pf (wc W σ) → Q2 vs H2) : RA X xs σ H Q2 W := by
  refine hs xs sc cm X G ms F H σ ρ e.sub (hρ.mono e.subF) _ W ?_
  refine PX.imp (PX.stepL (PX.bind hq) e) fun d _ hd v F1 H1 A e1 r => ?_
  obtain ⟨d1, F2, B, e2, e3, r2, h2⟩ := hd v F1 H1 A e1 r
  exact h v d1 F2 H1 B e3 r2 h2
theorem se_tup {es : Exs} (hs : SLs S M N wd k es) : SE S M N wd k (.tup es) := by
  intro x sc cm X G m F H σ ρ sF hρ Q W hq
  cases x with
  | Tuple xs j p =>
    refine re_of (pe_tup pa_can) ?_
    refine many hs G m (Ext.refl0 sF) hρ (f := fun ds => if ds.length ≤ sizeLine then R.ok (D.tup ds) else R.bad) hq _ fun vs ds F2 H2 A e r h => ?_
    obtain ⟨hl, h⟩ := ite_ok h
    refine ⟨by rw [r.len]; exact hl, fun q n => ?_⟩
    have e2 := e.seq0 (Ext.layF (o := .tup vs) e.sub n)
    refine h _ _ _ _ e2 (.tup (.inl (.inl upd_same)) ?_)
    rw [List.append_nil]
    refine r.mono (fun b o qq => ?_) fun b hb => ?_
    · rw [upd_ne (ne_of_none (e.sub _ _ qq) n)]; exact qq
    · obtain ⟨o, qq⟩ := e.dom b hb
      rw [upd_ne (ne_of_none qq n)]
  | _ => exact ff m
theorem se_lst {es : Exs} (hs : SLs S M N wd k es) : SE S M N wd k (.lst es) := by
  intro x sc cm X G m F H σ ρ sF hρ Q W hq
  cases x with
  | List xs p =>
    refine re_of (pe_lst pa_can) ?_
    refine many hs G m (Ext.refl0 sF) hρ (f := fun ds => if ds.length ≤ sizeLine then R.ok (D.lst true ds) else R.bad) hq _ fun vs ds F2 H2 A e r h => ?_
    obtain ⟨hl, h⟩ := ite_ok h
    refine ⟨by rw [r.len]; exact hl, fun q n => ?_⟩
    have e2 := e.seq0 (Ext.lay0 (o := .lst vs) e.sub n)
    refine h _ _ _ (q :: A) (e2.drop0 fun b => ?_) (.lstO upd_same (A := A) ?_ rfl)
    · rw [List.count_append, List.count_cons, List.count_singleton]; omega
    · refine r.mono (Same.refl _) fun b hb => ?_
      obtain ⟨o, qq⟩ := e.dom b hb
      rw [upd_ne (ne_of_none qq n)]
  | _ => exact ff m
theorem se_dct {es : Exs} : SE S M N wd k (.dct es) := by
  intro x sc cm X G m F H σ ρ sF hρ Q W hq
  cases es with
  | cons _ _ => exact hq.elim
  | nil =>
    cases x with
    | Dict ks vs p =>
      cases ks with
      | cons _ _ => exact ff m
      | nil => cases vs with
        | cons _ _ => exact ff m
        | nil =>
          refine re_of pe_dnewK fun q n => ?_
          exact fin_dct (S := S) (ds := []) (A := []) (Ext.refl0 sF) .nil (fun z hz => nomatch hz) hq n
    | _ => exact ff m

/-! ### subscripts, slices, fields -/
def canI (X : Cx) : R2 := fun x y H Q => ∃ r, IxR X r ∧ r x y H Q
theorem canI_ok {X : Cx} : IxR X (canI X) := fun value slice pins s σ H x y v u Q I rx ry h hs => by
  obtain ⟨r, h1, h2⟩ := h
  exact h1 value slice pins s σ H x y v u Q I rx ry h2 hs
theorem se_idx {a b : Ex} (ha : SE S M N wd k a) (hb : SE S M N wd k b) : SE S M N wd k (.idx a b) := by
  intro x sc cm X G m F H σ ρ sF hρ Q W hq
  cases x with
  | Subscript l r p =>
    obtain ⟨m1, m2⟩ := an (show (mE M N cm sc false a l && mE M N cm sc false b r) = true by cases r <;> exact m)
    refine re_of (pe_ix (r := canI (Cx.xw X W)) canI_ok pe_can pe_can (plain_ix m2)) ?_
    refine two ha hb G m1 m2 sF hρ (P := fun _ _ => True) (f := idxD) hq _ fun x y dx dy F2 H2 A B C e rx ry hA hB h => ?_
    have hu := units_xw (W := W) G
    exact idx_ok (X := Cx.xw X W) G.eK (Nat.lt_of_le_of_lt (Nat.add_le_add_left (by decide) _) hu) e rx ry hA h
  | _ => exact ff m
def canS (X : Cx) : V → Option Int → Option Int → Hp → VK → Prop := fun x l u H Q => ∃ r, SlR X r ∧ r x l u H Q
theorem canS_ok {X : Cx} : SlR X (canS X) := fun pins s σ H x v vl vu lo hi sl Q I rx hs pl pu h => by
  obtain ⟨r, h1, h2⟩ := h
  exact h1 pins s σ H x v vl vu lo hi sl Q I rx hs pl pu h2
theorem slc_fin {X : Cx} {W : WX} {F H F2 H2 : Hp} {A C : List Addr} {σ : L2.St} {Q : VK} {x : V} {d : D} {lo hi : Option D} {l u : Option Int} (hK : X.K = S.K) (e : Ext0 F H F2 H2 C) (r : Rep S F2 H2 x d A) (hA : ∀ z ∈ A, z ∈ C)
    (h : PX S F H (slcD d lo hi) (fun d => Post S F H d Q) (wc W σ)) (hl : partD lo = some l ∨ partD lo = none) (hu : partD hi = some u ∨ partD hi = none) : canS (Cx.xw X W) x l u H2 Q := by
  obtain ⟨r1, l', u', h1, h2, h3, h4⟩ := slc_ok (X := Cx.xw X W) hK e r hA h
  have e1 : l' = l := by
    rcases hl with z | z
    · rw [h1] at z; exact Option.some.inj z
    · rw [h1] at z; cases z
  have e2 : u' = u := by
    rcases hu with z | z
    · rw [h2] at z; exact Option.some.inj z
    · rw [h2] at z; cases z
  subst e1 e2
  exact ⟨r1, h3, h4⟩
theorem se_slc0 {a : Ex} (ha : SE S M N wd k a) : SE S M N wd k (.slc0 a) := by
  intro x sc cm X G m F H σ ρ sF hρ Q W hq
  cases x with
  | Subscript l r p =>
    cases r with
    | Slice lo hi st p2 =>
      cases lo <;> cases hi <;> cases st <;> first | exact ff m | skip
      refine re_of (pe_slice (r := canS (Cx.xw X W)) canS_ok pe_can po_none po_none) ?_
      refine one ha G m sF hρ (f := fun x => slcD x none none) hq _ fun x dx F2 H2 A e rx h => ?_
      exact slc_fin G.eK e rx (fun z hz => hz) h (.inl rfl) (.inl rfl)
    | _ => exact ff m
  | _ => exact ff m
/-- a slice's part must be an int -/
theorem int_part {d : D} {l : Option Int} (h : partD (some d) = some l) : ∃ i, d = .int i ∧ l = some i := by
  rcases part_ok h with ⟨h, _⟩ | ⟨i, h, h2⟩
  · cases h
  · exact ⟨i, Option.some.inj h, h2⟩
theorem slc_int {x : V} {d : D} {F H F2 H2 : Hp} {C A : List Addr} {X : Cx} {W : XK} {Q : VK} {lo hi : Option D} (hK : X.K = S.K) (e : Ext0 F H F2 H2 C) (r : Rep S F2 H2 x d A) (hA : ∀ z ∈ A, z ∈ C)
    (h : PX S F H (slcD d lo hi) (fun d => Post S F H d Q) W) : (∃ l, partD lo = some l) ∧ ∃ u, partD hi = some u := by
  obtain ⟨r1, l', u', h1, h2, _⟩ := slc_ok (X := X) hK e r hA h
  exact ⟨⟨l', h1⟩, ⟨u', h2⟩⟩
theorem se_slcL {a b : Ex} (ha : SE S M N wd k a) (hb : SE S M N wd k b) : SE S M N wd k (.slcL a b) := by
  intro x sc cm X G m F H σ ρ sF hρ Q W hq
  cases x with
  | Subscript l r p =>
    cases r with
    | Slice lo hi st p2 =>
      cases lo <;> cases hi <;> cases st <;> first | exact ff m | skip
      obtain ⟨m1, m2⟩ := an m
      refine re_of (pe_slice (r := canS (Cx.xw X W)) canS_ok pe_can (po_some pe_can) po_none) ?_
      refine two ha hb G m1 m2 sF hρ (P := fun _ _ => True) (f := fun x y => slcD x (some y) none) hq _ fun x y dx dy F2 H2 A B C e rx ry hA hB h => ?_
      obtain ⟨⟨l1, h1⟩, _⟩ := slc_int (X := Cx.xw X W) G.eK e rx hA h
      obtain ⟨i, rfl, rfl⟩ := int_part h1
      cases ry
      exact ⟨i, rfl, slc_fin G.eK e rx hA h (.inl rfl) (.inl rfl)⟩
    | _ => exact ff m
  | _ => exact ff m
theorem se_slcH {a b : Ex} (ha : SE S M N wd k a) (hb : SE S M N wd k b) : SE S M N wd k (.slcH a b) := by
  intro x sc cm X G m F H σ ρ sF hρ Q W hq
  cases x with
  | Subscript l r p =>
    cases r with
    | Slice lo hi st p2 =>
      cases lo <;> cases hi <;> cases st <;> first | exact ff m | skip
      obtain ⟨m1, m2⟩ := an m
      refine re_of (pe_slice (r := canS (Cx.xw X W)) canS_ok pe_can po_none (po_some pe_can)) ?_
      refine two ha hb G m1 m2 sF hρ (P := fun _ _ => True) (f := fun x y => slcD x none (some y)) hq _ fun x y dx dy F2 H2 A B C e rx ry hA hB h => ?_
      obtain ⟨_, ⟨l1, h1⟩⟩ := slc_int (X := Cx.xw X W) G.eK e rx hA h
      obtain ⟨i, rfl, rfl⟩ := int_part h1
      cases ry
      exact ⟨i, rfl, slc_fin G.eK e rx hA h (.inl rfl) (.inl rfl)⟩
    | _ => exact ff m
  | _ => exact ff m
theorem se_slcB {a b c : Ex} (ha : SE S M N wd k a) (hb : SE S M N wd k b) (hc : SE S M N wd k c) : SE S M N wd k (.slcB a b c) := by
  intro x sc cm X G m F H σ ρ sF hρ Q W hq
  cases x with
  | Subscript l r p =>
    cases r with
    | Slice lo hi st p2 =>
      cases lo <;> cases hi <;> cases st <;> first | exact ff m | skip
      obtain ⟨m, m3⟩ := an m
      obtain ⟨m1, m2⟩ := an m
      refine re_of (pe_slice (r := canS (Cx.xw X W)) canS_ok pe_can (po_some pe_can) (po_some pe_can)) ?_
      refine two ha hb G m1 m2 sF hρ.l (P := fun _ _ => True) (f := fun x y => (argI y).bind fun i => (ev wd none false c ρ).bind fun z => slcD x (some (.int i)) (some z)) hq _ fun x y dx dy F2 H2 A B C e rx ry hA hB h => ?_
      cases dy with
      | int i =>
        cases ry
        have h : PX S F H ((ev wd none false c ρ).bind fun z => slcD dx (some (.int i)) (some z)) (fun d => Post S F H d Q) (wc W σ) := h
        refine ⟨i, rfl, ?_⟩
        refine hc _ sc cm X G m3 F2 H2 σ ρ e.sub (hρ.r.mono e.subF) _ W ?_
        refine PX.imp (PX.step (PX.bind h) e) fun d _ hd v F3 H3 A3 e3 r3 => ?_
        obtain ⟨dz, F4, B4, e4, e5, r5, h5⟩ := hd v F3 H3 A3 e3 r3
        have rx4 : Rep S F4 H3 x dx A := rx.mono e5.subF fun b hb => by
          obtain ⟨o, qq⟩ := e.dom b (hA b hb)
          rw [qq]; exact e5.same0 b o qq
        have hA4 : ∀ z ∈ A, z ∈ C ++ B4 := fun z hz => List.mem_append_left _ (hA z hz)
        obtain ⟨_, ⟨l2, h2⟩⟩ := slc_int (X := Cx.xw X W) G.eK (e.seq0 e5) rx4 hA4 h5
        obtain ⟨j, rfl, rfl⟩ := int_part h2
        cases r5
        exact ⟨j, rfl, slc_fin G.eK (e.seq0 e5) rx4 hA4 h5 (.inl rfl) (.inl rfl)⟩
      | _ => exact h.elim
    | _ => exact ff m
  | _ => exact ff m
end
end MI

set_option Elab.async false
set_option linter.all false
set_option maxRecDepth 99000
set_option maxHeartbeats 999000
/-! MiG: expressions, further: fields, calls, built-ins, isinstance. -/
namespace MI
open PySem L2 PySem.Spec PyProof.Rows

/-! ### super is not asked -/
theorem abase_ok {l : PySem.Expr} {x : Str} {env : PySem.Env} {whole : Sem Value} (h : notSuper l = true) : attributeBase l x env whole = whole := by
  cases l with
  | Call f args kws p =>
    cases f with
    | Name y q =>
      cases args with
      | nil => cases kws with
        | nil => exact abase_call h
        | cons _ _ => rfl
      | cons _ _ => rfl
    | _ => rfl
  | _ => rfl

/-! ### making, with an exception's post that knows the slots -/
section
variable {X : Cx} {CX : CXT} {k : Nat} {f C : Addr} {fd : FuncData} {ps : List Str} {sp : Sp} {E : L2.St → XK} {x : Str} {p pos : Pos} {e : PySem.Expr} {es : List PySem.Expr} {t : TA}
theorem run_makeS {pins : List (Addr × Obj)} {σ : L2.St} {H : Hp} {s : Shared} {Q : VK} {us : List Value} {vs : List V} (M : Mk X.K C f) (F : FnOk X.prog X.w X.K X.mg X.base CX k f fd ps sp) (hr : Room (k + 1) X.A) (hb : Binds X.K fd ps [])
    (hx : PassesAt CX X σ (E σ)) (I : Inv X pins σ H s) (r : Vals vs us)
    (h : ∀ x dx, H x = none → H dx = none → dx ≠ x → sp (.ref x :: vs) (upd (upd H dx (.own x)) x (.ins C dx [])) (fun v H2 => v = .non ∧ Q (.ref x) H2) (E σ)) :
    wpAny (model X.prog X.w) X.A (call (.ref C) us []) (EP X pins σ Q) X.xe s := by
  -- the two places that the machine lays next: the dict's, the instance's
  generalize hn : s.heap.objs.size = n at h
  have free : ∀ j, n ≤ j → H j = none := fun j hj => I.hok.fresh (by rw [hn]; exact hj)
  have made : Inv X pins σ (upd (upd H n (.own (n + 1))) (n + 1) (.ins C n [])) _ := hn ▸ Inv.made (C := C) I
  have prom := h (n + 1) n (free (n + 1) (Nat.le_add_right n 1)) (free n Nat.le.refl) (Nat.succ_ne_self n).symm
  have args : Vals (V.ref (n + 1) :: vs) (Value.ref (n + 1) :: us) := .cons rfl r
  have few : (Value.ref (n + 1) :: us).length = ps.length := args.length.symm.trans (F.len _ _ _ _ prom)
  have bind := hb _ (Value.ref (n + 1) :: us) made.kIn (by simpa using few)
  rw [List.append_nil] at bind
  subst hn
  have ran := F.run _ X.stack _ _ ⟨_, []⟩ _ _ _ (E σ) (hr.make C us []) (made.env0.make C us []) bind args prom
  refine wpAny_call (make_map (f := f) I.kIn M.makes M.init (beq_iff_eq.mp M.fn) (codeAny_mono ran ?post))
  rintro (e | fl) s2 out
  · exact hx pins _ _ e s2 made out
  · cases fl <;> first | exact out.elim | skip
    obtain ⟨v, H2, I3, rv, rfl, last⟩ := made.after out
    exact ⟨rv, .ref (s.heap.objs.size + 1), H2, I3, rfl, last⟩
end

/-! ### argument lists as they stand -/
theorem star_all : ∀ {xs : List PySem.Expr} {env : PySem.Env}, xs.all plainX = true → starEach xs env = xs.map fun x => (false, eval x env)
  | [], _, _ => rfl
  | x :: xs, env, h => by
    obtain ⟨h1, h2⟩ := Bool.and_eq_true_iff.mp (show (plainX x && xs.all plainX) = true from h)
    rw [star_ok h1, star_all h2] <;> rfl
theorem star_back {xs : List PySem.Expr} {env : PySem.Env} {pos : Pos} (h : xs.all plainX = true) : (backTo pos (starEach xs env)).any (·.1) = false := by
  rw [star_all h]
  induction xs with
  | nil => rfl
  | cons x xs ih =>
    obtain ⟨h1, h2⟩ := Bool.and_eq_true_iff.mp (show (plainX x && xs.all plainX) = true from h)
    exact ih h2
theorem star_backN {xs : List PySem.Expr} {env : PySem.Env} {pos : Pos} (h : xs.all plainX = true) : (backTo pos (starEach xs env)).all (fun x => !x.1) = true := by
  rw [star_all h]
  induction xs with
  | nil => rfl
  | cons x xs ih =>
    obtain ⟨h1, h2⟩ := Bool.and_eq_true_iff.mp (show (plainX x && xs.all plainX) = true from h)
    exact ih h2
theorem star_cons {x : PySem.Expr} {xs : List PySem.Expr} {env : PySem.Env} (h : (x :: xs).all plainX = true) : starEach (x :: xs) env = (false, eval x env) :: starEach xs env :=
  star_ok (Bool.and_eq_true_iff.mp (show (plainX x && xs.all plainX) = true from h)).1
theorem star_tl {x : PySem.Expr} {xs : List PySem.Expr} (h : (x :: xs).all plainX = true) : xs.all plainX = true := (Bool.and_eq_true_iff.mp (show (plainX x && xs.all plainX) = true from h)).2
theorem plain_all {M : Nms} {N : List Str} {cm : Bool} {sc : Scope} : ∀ {es : Exs} {xs : List PySem.Expr}, mL M N cm sc es xs = true → xs.all plainX = true
  | .nil, [], _ => rfl
  | .nil, _ :: _, h => ff h
  | .cons _ _, [], h => ff h
  | .cons e es, x :: xs, h => by
    obtain ⟨h, h3⟩ := an (show (plainX x && mE M N cm sc false e x && mL M N cm sc es xs) = true from h)
    obtain ⟨h1, h2⟩ := an h
    exact Bool.and_eq_true_iff.mpr ⟨h1, plain_all h3⟩
/-- an argument list's reading, the empty one too -/
def RAx (X : Cx) (xs : List PySem.Expr) (σ : L2.St) (H : Hp) (Q : List V → Hp → Prop) (W : WX) : Prop := match xs with
  | [] => Q [] H
  | _ :: _ => RA X xs σ H Q W
def callForm (xs : List PySem.Expr) : Bool := xs.all plainX && decide (xs.length < 29)

section
variable {X : Cx} {W : WX} {k : Nat} {f C : Addr} {fd : FuncData} {ps : List Str} {sp : Sp} {x : Str} {p apos pos : Pos} {o : PySem.Expr} {xs : List PySem.Expr} {σ : L2.St} {H : Hp} {Q : VK}
theorem re_call (hp : xs.all plainX = true) (F : FnOk X.prog X.w X.K X.mg X.base (L2.CX X.prog X.w) k f fd ps sp) (hr : Room k X.A) (hg : Gl X x) (hm : X.mg x = some (.ref f)) (hk : PySem.W.keepIn X.K (.ref f) = true) (hb : Binds X.K fd ps [])
    (hdb : (x == ("__debug__" : Str)) = false) (h : RAx X xs σ H (fun vs H1 => sp vs H1 Q (WE W σ)) W) : RE X (.Call (.Name x p) xs [] pos) σ H Q W := by
  cases xs with
  | nil =>
    intro pins s I
    refine wpAny_mono (Q := EP (Cx.xw X W) pins σ Q) (E := (Cx.xw X W).xe) ?_ (fun _ _ z => ep_unw z) fun _ _ z => z
    refine wpAny_Call_Name_kw (ld_glob (I) hg hm ?_ hdb)
    exact PySem.W.callWith_K0 I.kIn hk (run_fnS (X := Cx.xw X W) (E := WE W) (us := []) F hr hb (passAt takes_xw σ) (I.wish (XE X W)) .nil h)
  | cons a as => exact re_of (pe_callS (X := Cx.xw X W) (E := WE W) F hr hg hm hk hb (fun σ => passAt takes_xw σ) pa_can hdb (star_cons hp) (star_back (star_tl hp))) h
theorem re_make (hp : xs.all plainX = true) (M : Mk X.K C f) (F : FnOk X.prog X.w X.K X.mg X.base (L2.CX X.prog X.w) k f fd ps sp) (hr : Room (k + 1) X.A) (hg : Gl X x) (hm : X.mg x = some (.ref C)) (hb : Binds X.K fd ps [])
    (hdb : (x == ("__debug__" : Str)) = false) (h : RAx X xs σ H (fun vs H1 => ∀ x dx, H1 x = none → H1 dx = none → dx ≠ x →
      sp (.ref x :: vs) (upd (upd H1 dx (.own x)) x (.ins C dx [])) (fun v H2 => v = .non ∧ Q (.ref x) H2) (WE W σ)) W) : RE X (.Call (.Name x p) xs [] pos) σ H Q W := by
  cases xs with
  | nil =>
    intro pins s I
    refine wpAny_mono (Q := EP (Cx.xw X W) pins σ Q) (E := (Cx.xw X W).xe) ?_ (fun _ _ z => ep_unw z) fun _ _ z => z
    refine wpAny_Call_Name_kw (ld_glob (I) hg hm ?_ hdb)
    exact PySem.W.callWith_K0 I.kIn M.kp (run_makeS (X := Cx.xw X W) (E := WE W) (us := []) M F hr hb (passAt takes_xw σ) (I.wish (XE X W)) .nil h)
  | cons a as =>
    refine re_of (t := fun σ H Q => RA X (a :: as) σ H (fun vs H1 => ∀ x dx, H1 x = none → H1 dx = none → dx ≠ x →
      sp (.ref x :: vs) (upd (upd H1 dx (.own x)) x (.ins C dx [])) (fun v H2 => v = .non ∧ Q (.ref x) H2) (WE W σ)) W) ⟨fun pins s σ H Q I h => ?_⟩ h
    refine wpAny_Call_Name_kw (ld_glob (I) hg hm ?_ hdb)
    refine PySem.W.callWith_K (h₀ := X.base) I.ok.mod.kin M.kp (thn ((pa_can (X := X) (W := W)).run pos pins s σ H _ I h) fun us s1 ⟨vs, H1, I1, r, q⟩ => ⟨I1.kIn, ?_⟩) (star_cons hp) (star_back (star_tl hp))
    exact run_makeS (X := Cx.xw X W) (E := WE W) M F hr hb (passAt takes_xw σ) I1 r q
/-- what a method call's receiver must be -/
def MethQ (X : Cx) (k : Nat) (x : Str) (xs : List PySem.Expr) (σ : L2.St) (Q : VK) (W : WX) : VK := fun x0 H1 => ∃ (C f : Addr) (fd : FuncData) (ps : List Str) (sp : Sp) (a dx : Addr) (fs : List (Str × V)), Cls X.K C ∧ Meth X.K C x f ∧
  FnOk X.prog X.w X.K X.mg X.base (L2.CX X.prog X.w) k f fd ps sp ∧ Binds X.K fd ps [] ∧ x0 = .ref a ∧ H1 a = some (.ins C dx fs) ∧ fs.lookup x = none ∧ RAx X xs σ H1 (fun vs H2 => sp (x0 :: vs) H2 Q (WE W σ)) W
theorem re_meth (hp : callForm xs = true) (hr : Room k X.A) (hns : notSuper o = true) (hl : (apos.endLine == pos.line) = true) (h : RE X o σ H (MethQ X k x xs σ Q W) W) : RE X (.Call (.Attribute o x apos) xs [] pos) σ H Q W := by
  obtain ⟨hp1, hp2⟩ := an (show (xs.all plainX && decide (xs.length < 29)) = true from hp)
  have hf : methodCallForm (xs.length + ([] : List Keyword).length) (backTo pos (starEach xs X.env)) (backToKw pos (keywordEach [] X.env)) = true := by
    show ((backTo pos (starEach xs X.env)).all (fun x => !x.1) && true && decide (xs.length + 0 + 0 < 30)) = true
    rw [star_backN hp1]
    have := of_decide_eq_true hp2
    exact decide_eq_true (p := _) (by omega)
  have ht := mcall_of (m := x) (apos := apos) (pos := pos) (args := xs) (kws := []) (env := X.env) (abase_ok (x := x) (env := X.env) (whole := eval o X.env) hns) (fun ov => mcall_line (ov := ov) hf hl)
  refine re_of (t := fun σ H Q => RE X o σ H (MethQ X k x xs σ Q W) W) ⟨fun pins s σ H Q I h => ?_⟩ h
  refine PySem.W.methodCall_KW (pl := plainOf o X.env) (thn ((pe_can (X := X) (W := W)).run pins s σ H _ I h) fun u s1 ⟨x0, H1, I1, rx, C, f, fd, ps, sp, a, dx, fs, c, hm, F, hb, ex, ea, l, q⟩ => ?_) ht
  subst ex
  obtain rfl : u = .ref a := rx
  refine getmeth_ok I1 ea c (hm) l ?_
  cases xs with
  | nil => exact PySem.W.callWith_K0 (first := [.ref a]) I1.kIn hm.kp (run_fnS (X := Cx.xw X W) (E := WE W) (us := [.ref a]) (vs := [.ref a]) F hr hb (passAt takes_xw σ) I1 (.cons rfl .nil) q)
  | cons b bs =>
    refine PySem.W.callWith_K (first := [.ref a]) (h₀ := X.base) I.ok.mod.kin hm.kp (thn ((pa_can (X := X) (W := W)).run pos pins s1 σ H1 _ I1 q) fun us s2 ⟨vs, H2, I2, r, q2⟩ => ⟨I2.kIn, ?_⟩) (star_cons hp1) (star_back (star_tl hp1))
    exact run_fnS (X := Cx.xw X W) (E := WE W) (us := .ref a :: us) (vs := .ref a :: vs) F hr hb (passAt takes_xw σ) I2 (.cons rfl r) q2
end

/-! ### promises from runs -/
section
variable {S : Sw} {F0 H0 F H : Hp} {C A : List Addr} {W : XK} {Q : VK}
theorem prom_of {np : Nat} {lk : Bool} {wf : List D → R (D × D)} {vs : List V} {ds : List D} (e : Ext0 F0 H0 F H C) (r : Reps S F H vs ds A) (hA : ∀ z ∈ A, z ∈ C) (hn : ∀ ds, ds.length ≠ np → wf ds = .bad)
    (h : PX S F0 H0 ((wf (shareL ds)).bind fun r => .ok r.1) (fun d => Post S F0 H0 d Q) W) : Prom S np lk wf vs H Q W := by
  have hl : (shareL ds).length = np := by
    apply Classical.byContradiction
    intro q
    rw [hn _ q] at h
    exact h.elim
  have ef := e.freeze0
  refine ⟨by rw [r.len, ← hl, shareL_len], frzH F H C, shareL ds, [], ef.sub, ?_, fun _ => Nat.zero_le _, (fun _ z => nomatch z), ?_⟩
  · exact r.share (frzH_of fun b hb => (e.own b hb).1) fun b hb => frzH_in (hA b hb)
  · cases q : wf (shareL ds) with
    | ok r1 =>
      rw [q] at h
      exact fun v F' H' B B0 e2 rv _ => h v F' H' B ((ef.seq0 e2).drop0 fun b => by rw [List.nil_append, List.count_append]; omega) rv
    | ex c fs =>
      rw [q] at h
      exact PostX.seq h ef
    | bad =>
      rw [q] at h
      exact h.elim
/-- a new instance behind the frozen part -/
theorem made_ext {x dx : Addr} {o : HO} {F' H' : Hp} {B : List Addr} (nx : H x = none) (nd : H dx = none) (ne : dx ≠ x) (e : Ext F (upd (upd H dx (.own x)) x o) [x] F' H' B) : Ext0 F H F' H' B where
  sub := e.sub
  subF := e.subF
  same := fun b u q _ => e.same b u (by
    have h1 : b ≠ x := ne_of_none q nx
    have h2 : b ≠ dx := ne_of_none q nd
    rw [upd_ne h1, upd_ne h2]; exact q) (by
      have h1 : b ≠ x := ne_of_none q nx
      simpa using h1)
  new := fun b u q n => by
    rcases e.new b u q n with z | z
    · left
      by_cases h1 : b = x
      · rw [h1]; exact nx
      · by_cases h2 : b = dx
        · rw [h2]; exact nd
        · rw [upd_ne h1, upd_ne h2] at z; exact z
    · left
      obtain rfl : b = x := by simpa using z
      exact nx
  one := e.one
  own := fun b hb => by
    obtain ⟨h1, h2⟩ := e.own b hb
    refine ⟨h1, .inl ?_⟩
    rcases h2 with z | z
    · by_cases h1 : b = x
      · rw [h1]; exact nx
      · by_cases h2 : b = dx
        · rw [h2]; exact nd
        · rw [upd_ne h1, upd_ne h2] at z; exact z
    · obtain rfl : b = x := by simpa using z
      exact nx
  dom := e.dom
def mkR (r : R (D × D)) : R D := r.bind fun r => match r.1 with
  | .non => .ok r.2
  | _ => .bad
theorem prom_mk {np c : Nat} {wf : List D → R (D × D)} {vs : List V} {ds : List D} {x dx : Addr} (e : Ext0 F0 H0 F H C) (r : Reps S F H vs ds A) (hA : ∀ z ∈ A, z ∈ C) (hn : ∀ ds, ds.length ≠ np → wf ds = .bad) (nx : H x = none) (nd : H dx = none) (ne : dx ≠ x)
    (h : PX S F0 H0 (mkR (wf (.ins true c [] :: shareL ds))) (fun d => Post S F0 H0 d Q) W) :
    Prom S np true wf (.ref x :: vs) (upd (upd H dx (.own x)) x (.ins (S.cA c) dx [])) (fun v H2 => v = .non ∧ Q (.ref x) H2) W := by
  have hl : (D.ins true c [] :: shareL ds).length = np := by
    apply Classical.byContradiction
    intro q
    rw [hn _ q] at h
    exact h.elim
  have ef := e.freeze0
  have sF : Same (frzH F H C) (upd (upd H dx (.own x)) x (.ins (S.cA c) dx [])) := fun b u q => by
    have q := ef.sub b u q
    rw [upd_ne (ne_of_none q nx), upd_ne (ne_of_none q nd)]; exact q
  refine ⟨by rw [← hl, List.length_cons, List.length_cons, r.len, shareL_len], frzH F H C, .ins true c [] :: shareL ds, [x], sF, ?_, fun b => ?_, fun b hb => ?_, ?_⟩
  · refine .cons (A := [x]) (B := []) (.insO (dx := dx) upd_same .nil rfl) (r.share (frzH_of fun b hb => (e.own b hb).1) fun b hb => frzH_in (hA b hb)) rfl
  · rw [List.count_singleton]; split <;> omega
  · obtain rfl : b = x := by simpa using hb
    cases q : frzH F H C b with
    | none => rfl
    | some u => rw [ef.sub b u q] at nx; cases nx
  · cases q : wf (.ins true c [] :: shareL ds) with
    | ok r1 =>
      rw [q] at h
      obtain ⟨r1, r2⟩ := r1
      intro v F' H' B B0 e2 rv r0
      have r0 : Rep S F' H' (.ref x) r2 B0 := r0
      cases r1 with
      | non =>
        have h : Post S F0 H0 r2 Q := h
        cases rv
        exact ⟨rfl, h _ F' H' B0 ((ef.seq0 (made_ext nx nd ne e2)).drop0 fun b => by simp) r0⟩
      | _ => exact h.elim
    | ex c' fs =>
      rw [q] at h
      intro F' H' d e2 xr
      exact PostX.seq h ef F' H' d (made_ext nx nd ne e2) xr
    | bad =>
      rw [q] at h
      exact h.elim
end

/-! ### soundness -/
section
variable {S : Sw} {M : Nms} {N : List Str} {wd : W} {k : Nat}
/-- an argument list, the empty one too -/
theorem manyX {es : Exs} (hs : SLs S M N wd k es) {xs : List PySem.Expr} {sc : Scope} {cm : Bool} {X : Cx} (G : Gd S M N wd cm k sc X) (ms : mL M N cm sc es xs = true)
    {F0 H0 F H : Hp} {C : List Addr} {σ : L2.St} {ρ : Env} (e : Ext0 F0 H0 F H C) (hρ : EnvS S F0 σ ρ (varsL es)) {W : WX} {β : Type} {f : List D → R β} {Pf : β → Prop}
    (hq : PX S F0 H0 ((evL wd none es ρ).bind f) Pf (wc W σ)) (Q2 : List V → Hp → Prop)
    (h : ∀ (vs : List V) (ds : List D) (F2 H2 : Hp) (A : List Addr), Ext0 F H F2 H2 A → Reps S F2 H2 vs ds A → PX S F0 H0 (f ds) Pf (wc W σ) → Q2 vs H2) : RAx X xs σ H Q2 W := by
  cases xs with
  | nil => cases es with
    | nil => exact h [] [] F H [] (Ext.refl0 e.sub) .nil hq
    | cons _ _ => exact ff ms
  | cons x xs => exact many hs G ms e hρ hq Q2 h
theorem neg1_ok {s : PySem.Expr} (h : neg1 s = true) : ∃ j p1 p2, s = .UnaryOp .USub (.Constant (.int 1) j p1) p2 := by
  cases s with
  | UnaryOp op l p => cases op with
    | USub => cases l with
      | Constant c j p1 => cases c with
        | int i =>
          cases of_decide_eq_true (show decide (i = 1) = true from h)
          exact ⟨_, _, _, rfl⟩
        | _ => exact ff h
      | _ => exact ff h
    | _ => exact ff h
  | _ => exact ff h
theorem se_rev {a : Ex} (ha : SE S M N wd k a) : SE S M N wd k (.rev a) := by
  intro x sc cm X G m F H σ ρ sF hρ Q W hq
  cases x with
  | Subscript l r p =>
    cases r with
    | Slice lo hi st p2 =>
      cases lo <;> cases hi <;> cases st <;> first | exact ff m | skip
      obtain ⟨m1, m2⟩ := an m
      obtain ⟨j, p1, p3, rfl⟩ := neg1_ok m2
      refine re_of (pe_revL pe_can) ?_
      refine one ha G m1 sF hρ (f := revD) hq _ fun x dx F2 H2 A e rx h => ?_
      cases dx with
      | lst o ds =>
        have eK : (Cx.xw X W).K = S.K := G.eK
        obtain ⟨a, vs, B, rfl, hH, rs, hB⟩ := rx.lst e.sub
        obtain ⟨B2, rs2, hB2⟩ := rs.reverse
        exact ⟨a, vs, rfl, .inl (.inl hH), fun p n => fin_lst e rs2 (fun b hb => hB b (hB2 b hb)) h n⟩
      | _ => exact h.elim
    | _ => exact ff m
  | _ => exact ff m
theorem RepF.get {F H : Hp} : ∀ {vs : List (Str × V)} {ds : List (Nat × D)} {A : List Addr} {f : Nat} {x : Str}, RepF S F H vs ds A → S.NM[f]? = some x →
    (getF ds f = none → vs.lookup x = none) ∧ ∀ d, getF ds f = some d → ∃ v B, vs.lookup x = some v ∧ Rep S F H v d B ∧ ∀ b ∈ B, b ∈ A
  | _, _, _, f, x, .nil, _ => ⟨fun _ => rfl, fun _ h => nomatch h⟩
  | _, _, _, f, x, .cons (x := y) (f := g) (v := v) (d := d) (vs := vs) (ds := ds) (A := A) (B := B) n r rs e, hx => by
    obtain ⟨i1, i2⟩ := RepF.get rs hx
    by_cases hfg : f = g
    · subst hfg
      rw [hx] at n
      cases n
      refine ⟨fun h => ?_, fun d' h => ?_⟩
      · exfalso
        unfold getF at h
        simp [List.lookup] at h
      · unfold getF at h
        simp only [List.lookup, beq_self_eq_true] at h
        cases h
        exact ⟨v, A, by simp [List.lookup], r, fun b hb => by rw [e]; exact List.mem_append_left _ hb⟩
    · have hxy : (x == y) = false := by
        apply Classical.byContradiction
        intro q
        have q : x = y := by
          cases z : x == y with
          | true => exact eq_of_beq z
          | false => exact absurd z q
        subst q
        have h1 : f < S.NM.length := by
          rcases Nat.lt_or_ge f S.NM.length with z | z
          · exact z
          · rw [List.getElem?_eq_none z] at hx; cases hx
        exact hfg (((List.getElem?_inj h1 S.nd).mp (by rw [hx, n])))
      have hfb : (f == g) = false := beq_false_of_ne hfg
      refine ⟨fun h => ?_, fun d' h => ?_⟩
      · unfold getF at h
        simp only [List.lookup, hfb] at h
        simp only [List.lookup, hxy]
        exact i1 h
      · unfold getF at h
        simp only [List.lookup, hfb] at h
        obtain ⟨v', B', h1, h2, h3⟩ := i2 d' h
        refine ⟨v', B', ?_, h2, fun b hb => by rw [e]; exact List.mem_append_right _ (h3 b hb)⟩
        simp only [List.lookup, hxy]
        exact h1
theorem se_fld {a : Ex} {f : Nat} (ha : SE S M N wd k a) : SE S M N wd k (.fld a f) := by
  intro x sc cm X G m F H σ ρ sF hρ Q W hq
  cases x with
  | Attribute l x p =>
    obtain ⟨m, m3⟩ := an (show (mE M N cm sc false a l && decide (M.NM[f]? = some x) && notSuper l) = true from m)
    obtain ⟨m1, m2⟩ := an m
    have hx : S.NM[f]? = some x := by rw [← G.eM]; exact of_decide_eq_true m2
    refine re_of (pe_fld pe_can (abase_ok m3)) ?_
    refine one ha G m1 sF hρ (f := fldD wd.fld f) hq _ fun x0 dx F2 H2 A e rx h => ?_
    cases dx with
    | ins o c fs =>
      have h : PX S F H (if wd.fld c f = true then (match getF fs f with
        | some d => .ok (share d)
        | none => .bad) else .bad) (fun d => Post S F H d Q) (wc W σ) := h
      obtain ⟨hw, h⟩ := ite_ok h
      obtain ⟨a0, dx, vs, B, rfl, hH, rs, hB⟩ := rx.ins e.sub
      obtain ⟨c1, c2⟩ := G.fld c f x hw hx
      have eK : (Cx.xw X W).K = S.K := G.eK
      cases q : getF fs f with
      | none => rw [q] at h; exact h.elim
      | some d =>
        rw [q] at h
        obtain ⟨v, B', h1, h2, h3⟩ := (RepF.get rs hx).2 d q
        exact ⟨a0, S.cA c, dx, vs, v, rfl, hH, c1, c2, h1, fin_sh e h2 (fun b hb => hB b (h3 b hb)) h⟩
    | _ => exact h.elim
  | _ => exact ff m
theorem se_call {f : Nat} {es : Exs} (hs : SLs S M N wd k es) : SE S M N wd k (.call f es) := by
  intro x sc cm X G m F H σ ρ sF hρ Q W hq
  cases x with
  | Call g xs kws p =>
    cases g with
    | Name y p2 => cases kws with
      | cons _ _ => exact ff m
      | nil =>
        obtain ⟨m, m3⟩ := an (show (gName? M M.fN f sc y && mL M N cm sc es xs && cm) = true from m)
        obtain ⟨m1, m2⟩ := an m
        obtain ⟨n, n3⟩ := an (show (decide (M.fN.lookup f = some y) && gloB sc y && dbgB y) = true from m1)
        obtain ⟨n1, n2⟩ := an n
        obtain ⟨a, fd, ps, lk, h1, h2, h3, h4, h5⟩ := G.fN f y (of_decide_eq_true n1)
        refine re_call (plain_all m2) h5 ((G.room m3).mono (Nat.le_succ _)) (G.glo y n2) h1 h2 h4 (beq_iff_eq.mp n3) ?_
        refine manyX hs G m2 (Ext.refl0 sF) hρ (f := fun ds => (wd.fn f (shareL ds)).bind fun r => R.ok r.1) hq _ fun vs ds F2 H2 A e r h => ?_
        exact prom_of e r (fun z hz => hz) h3 h
    | _ => exact ff m
  | _ => exact ff m
theorem se_mk {c : Nat} {es : Exs} (hs : SLs S M N wd k es) : SE S M N wd k (.mk c es) := by
  intro x sc cm X G m F H σ ρ sF hρ Q W hq
  cases x with
  | Call g xs kws p =>
    cases g with
    | Name y p2 => cases kws with
      | cons _ _ => exact ff m
      | nil =>
        obtain ⟨m, m3⟩ := an (show (gName? M M.cN c sc y && mL M N cm sc es xs && cm) = true from m)
        obtain ⟨m1, m2⟩ := an m
        obtain ⟨n, n3⟩ := an (show (decide (M.cN.lookup c = some y) && gloB sc y && dbgB y) = true from m1)
        obtain ⟨n1, n2⟩ := an n
        have hq : PX S F H (match wd.init c with
          | some f => (evL wd none es ρ).bind fun ds => mkR (wd.fn f (.ins true c [] :: shareL ds))
          | none => .bad) (fun d => Post S F H d Q) (wc W σ) := hq
        cases q : wd.init c with
        | none => rw [q] at hq; exact hq.elim
        | some f =>
          rw [q] at hq
          obtain ⟨a, fd, ps, h1, h3, h4, h5⟩ := G.init c f q
          refine re_make (plain_all m2) h1 h5 (G.room m3) (G.glo y n2) (G.cN c y (of_decide_eq_true n1)) h4 (beq_iff_eq.mp n3) ?_
          refine manyX hs G m2 (Ext.refl0 sF) hρ (f := fun ds => mkR (wd.fn f (.ins true c [] :: shareL ds))) hq _ fun vs ds F2 H2 A e r h => ?_
          exact fun x dx nx nd ne => prom_mk e r (fun z hz => hz) h3 nx nd ne h
    | _ => exact ff m
  | _ => exact ff m
theorem se_mth {a : Ex} {n : Nat} {es : Exs} (ha : SE S M N wd k a) (hs : SLs S M N wd k es) : SE S M N wd k (.mth a n es) := by
  intro x sc cm X G m F H σ ρ sF hρ Q W hq
  cases x with
  | Call g xs kws p =>
    cases g with
    | Attribute l x ap => cases kws with
      | cons _ _ => exact ff m
      | nil =>
        obtain ⟨m, m7⟩ := an (show (mE M N cm sc false a l && decide (M.NM[n]? = some x) && mL M N cm sc es xs && cm && notSuper l && (ap.endLine == p.line) && decide (xs.length < 29)) = true from m)
        obtain ⟨m, m6⟩ := an m
        obtain ⟨m, m5⟩ := an m
        obtain ⟨m, m4⟩ := an m
        obtain ⟨m, m3⟩ := an m
        obtain ⟨m1, m2⟩ := an m
        have hx : S.NM[n]? = some x := by rw [← G.eM]; exact of_decide_eq_true m2
        refine re_meth (k := k) (Bool.and_eq_true_iff.mpr ⟨plain_all m3, m7⟩) ((G.room m4).mono (Nat.le_succ _)) m5 m6 ?_
        refine one ha G m1 sF hρ.l (f := fun x => (match x with
          | .ins _ c fs => (match wd.meth c n with
            | some f => if (getF fs n).isNone then (evL wd none es ρ).bind fun ds => (wd.fn f (share (.ins false c fs) :: shareL ds)).bind fun r => R.ok r.1 else R.bad
            | none => R.bad)
          | _ => R.bad : R D)) hq _ fun x0 dx F2 H2 A e rx h => ?_
        cases dx with
        | ins o c fs =>
          have h : PX S F H (match wd.meth c n with
            | some f => if (getF fs n).isNone then (evL wd none es ρ).bind fun ds => (wd.fn f (share (.ins false c fs) :: shareL ds)).bind fun r => R.ok r.1 else R.bad
            | none => R.bad) (fun d => Post S F H d Q) (wc W σ) := h
          cases q : wd.meth c n with
          | none => rw [q] at h; exact h.elim
          | some f =>
            rw [q] at h
            obtain ⟨h1, h2⟩ := ite_ok h
            obtain ⟨a0, dx, vs, B, rfl, hH, rs, hB⟩ := rx.ins e.sub
            obtain ⟨a1, fd, ps, lk, c1, c2, c3, c4, c5⟩ := G.meth c n f x q hx
            have hlk := (RepF.get rs hx).1 (Option.isNone_iff_eq_none.mp h1)
            refine ⟨S.cA c, a1, fd, ps, _, a0, dx, vs, by rw [G.eK]; exact G.eK ▸ c1, G.eK ▸ c2, c5, c4, rfl, hH, hlk, ?_⟩
            refine manyX hs G m3 e hρ.r (f := fun ds => (wd.fn f (share (.ins false c fs) :: shareL ds)).bind fun r => R.ok r.1) h2 _ fun us ds F3 H3 A3 e3 r3 h4 => ?_
            have rx3 : Rep S F3 H3 (.ref a0) (.ins o c fs) A := rx.mono e3.subF fun b hb => by
              obtain ⟨u, qq⟩ := e.dom b hb
              rw [qq]; exact e3.same0 b u qq
            exact prom_of (e.seq0 e3) (.cons rx3 r3 rfl) (fun z hz => hz) c3 h4
        | _ => exact h.elim
    | _ => exact ff m
  | _ => exact ff m

/-! ### built-ins -/
def canC (X : Cx) (f : Value) : List V → Hp → VK → Prop := fun vs H Q => ∃ r, CallR X f r ∧ r vs H Q
theorem canC_ok {X : Cx} {f : Value} : CallR X f (canC X f) := fun pins s σ H xs us Q I r h => by
  obtain ⟨r1, h1, h2⟩ := h
  exact h1 pins s σ H xs us Q I r h2
theorem bname_ok {sc : Scope} {cm : Bool} {X : Cx} (G : Gd S M N wd cm k sc X) {z x : Str} (h : bName M sc z x = true) : x = z ∧ Gl X x ∧ X.mg x = none ∧ x ≠ "__name__" ∧ (x == ("__debug__" : Str)) = false := by
  obtain ⟨h, h5⟩ := an (show (decide (x = z) && gloB sc x && dbgB x && M.fr.contains x && ((x == ("__name__" : Str)) == false)) = true from h)
  obtain ⟨h, h4⟩ := an h
  obtain ⟨h, h3⟩ := an h
  obtain ⟨h1, h2⟩ := an h
  exact ⟨of_decide_eq_true h1, G.glo x h2, G.fr x h4, ne_of_beq_false (beq_iff_eq.mp h5), beq_iff_eq.mp h3⟩
theorem se_blt {b : Blt} {es : Exs} (hs : SLs S M N wd k es) : SE S M N wd k (.blt b es) := by
  intro x sc cm X G m F H σ ρ sF hρ Q W hq
  cases x with
  | Call g xs kws p =>
    cases g with
    | Name y p2 => cases kws with
      | cons _ _ => exact ff m
      | nil =>
        obtain ⟨m, m4⟩ := an (show (bName M sc b.nm y && mL M N cm sc es xs && !xs.isEmpty && (cm || !b.calm)) = true from m)
        obtain ⟨m, m3⟩ := an m
        obtain ⟨m1, m2⟩ := an m
        obtain ⟨rfl, n2, n3, n4, n5⟩ := bname_ok G m1
        have hc : b.calm = true → (Cx.xw X W).calm = true := fun q => G.calm (by
          cases cm with
          | true => rfl
          | false => rw [q] at m4; exact ff m4)
        cases xs with
        | nil => exact ff m3
        | cons a as =>
          have key : RA X (a :: as) σ H (fun vs H1 => canC (Cx.xw X W) b.v vs H1 Q) W := by
            refine many hs G m2 (Ext.refl0 sF) hρ (f := fun ds => bltD b ds) hq _ fun vs ds F2 H2 A e r h => ?_
            exact blt_ok (X := Cx.xw X W) G.eK hc e r (fun z hz => hz) h
          have hv : bootBuiltins b.nm = some b.v := blt_boot b
          have hp := plain_all m2
          cases b <;> first
            | exact re_of (pe_callB canC_ok n2 n3 hv pa_can n4 n5 (star_cons hp) (star_back (star_tl hp))) key
            | exact re_of (pe_callTy canC_ok n2 n3 hv pa_can n4 n5 (star_cons hp) (star_back (star_tl hp))) key
    | _ => exact ff m
  | _ => exact ff m
/-- types as arguments -/
theorem ty_ok {sc : Scope} {cm : Bool} {X : Cx} {W : WX} (G : Gd S M N wd cm k sc X) {t : Ty} {y : PySem.Expr} (h : mTy M sc t y = true) (hn : notCls t = true) : PE (Cx.xw X W) y (tC (.ty t.s)) ∧ plainX y = true := by
  cases y with
  | Name x p =>
    cases t with
    | cls c => exact ff hn
    | _ =>
      obtain ⟨e, h2, h3, h4, h5⟩ := bname_ok G (show bName M sc _ x = true from h)
      refine ⟨pe_bltn (X := Cx.xw X W) h2 h3 (v := .ty _) (u := .type _) ?_ rfl h4 h5, rfl⟩
      rw [e] <;> rfl
  | _ => cases t <;> exact ff h
theorem tys_ok {sc : Scope} {cm : Bool} {X : Cx} {W : WX} (G : Gd S M N wd cm k sc X) : ∀ {ts : List Ty} {ys : List PySem.Expr}, mTys M sc ts ys = true → ts.all notCls = true → PA (Cx.xw X W) ys (fun _ H Q => Q (ts.map fun t => V.ty t.s) H)
  | [], [], _, _ => pa_nil
  | [], _ :: _, h, _ => ff h
  | _ :: _, [], h, _ => ff h
  | t :: ts, y :: ys, h, hn => by
    obtain ⟨h1, h2⟩ := an (show (mTy M sc t y && mTys M sc ts ys) = true from h)
    obtain ⟨n1, n2⟩ := an (show (notCls t && ts.all notCls) = true from hn)
    obtain ⟨p1, p2⟩ := ty_ok (W := W) G h1 n1
    have := pa_cons p1 (tys_ok G h2 n2) (star_ok p2)
    exact ⟨fun pos pins s σ H Q I q => this.run pos pins s σ H Q I q⟩
theorem paired_ty : ∀ ts : List Ty, Paired ClsV (ts.map fun t => V.ty t.s) (ts.map fun t => Value.type t.s)
  | [] => .nil
  | t :: ts => .cons (.ty _) (paired_ty ts)
theorem if_bl {b : Bool} {x : R D} {P : D → Prop} {F H : Hp} {W : XK} (h : PX S F H (if b then x else .bad) P W) : b = true ∧ PX S F H x P W := ite_ok h
theorem me_plain {cm : Bool} {sc : Scope} {mm : Bool} {b : Ex} {r : PySem.Expr} (h : mE M N cm sc mm b r = true) : plainX r = true := by
  cases r with
  | Starred => cases b <;> first | exact ff h | (rename_i es _; cases es <;> exact ff h) | (rename_i es; cases es <;> exact ff h)
  | Slice => cases b <;> first | exact ff h | (rename_i es _ _ _ _; cases es <;> exact ff h) | (rename_i es; cases es <;> exact ff h)
  | Set => cases b <;> first | exact ff h | (rename_i es _ _ _; cases es <;> exact ff h) | (rename_i es; cases es <;> exact ff h)
  | GeneratorExp => cases b <;> first | exact ff h | (rename_i es _ _ _ _; cases es <;> exact ff h) | (rename_i es; cases es <;> exact ff h)
  | _ => rfl
theorem isi_ok {a : Ex} {ts : List Ty} (ha : SE S M N wd k a) {x : PySem.Expr} {sc : Scope} {cm : Bool} {X : Cx} {mm : Bool} (G : Gd S M N wd cm k sc X) (m : mE M N cm sc mm (.isi a ts) x = true) {F H : Hp} {σ : L2.St} {ρ : Env} (sF : Same F H) (hρ : EnvS S F σ ρ (vars a))
    {Q : VK} {W : WX} {Pf : D → Prop} (hq : PX S F H (ev wd none false (.isi a ts) ρ) Pf (wc W σ))
    (hP : ∀ (c : Bool) (F2 H2 : Hp) (A : List Addr), Ext0 F H F2 H2 A → Pf (.bl c) → Q (.bl c) H2) : RE X x σ H Q W := by
  have hq : PX S F H ((ev wd none false a ρ).bind fun x => if notIns x && ts.all notCls then R.ok (D.bl (ts.any (isTy x))) else .bad) Pf (wc W σ) := hq
  cases x with
  | Call g xs kws p =>
    cases g with
    | Name z p2 =>
      cases xs with
      | nil => cases ts with
        | nil => exact ff m
        | cons _ ts => cases ts <;> exact ff m
      | cons x1 xs => cases xs with
        | nil => cases ts with
          | nil => exact ff m
          | cons _ ts => cases ts <;> exact ff m
        | cons x2 xs => cases xs with
          | cons _ _ => cases ts with
            | nil => cases x2 <;> exact ff m
            | cons _ ts => cases ts <;> cases x2 <;> exact ff m
          | nil => cases kws with
            | cons _ _ => cases ts with
              | nil => cases x2 <;> exact ff m
              | cons _ ts => cases ts <;> cases x2 <;> exact ff m
            | nil =>
              have hv : bootBuiltins "isinstance" = some (.builtin "isinstance") := rfl
              cases x2 with
              | Tuple ys j q =>
                obtain ⟨m, m4⟩ := an (show (bName M sc "isinstance" z && mE M N cm sc false a x1 && mTys M sc ts ys && decide (ts.length < 100)) = true by
                  cases ts with
                  | nil => exact m
                  | cons t ts => cases ts <;> exact m)
                obtain ⟨m, m3⟩ := an m
                obtain ⟨m1, m2⟩ := an m
                obtain ⟨rfl, n2, n3, n4, n5⟩ := bname_ok G m1
                have hx1 : plainX x1 = true := me_plain m2
                refine re_of (pe_callB (call_isiT (X := Cx.xw X W)) n2 n3 hv (pa_cons pe_can pa_can (star_ok hx1)) n4 n5 (star_ok hx1) rfl) ?_
                refine one ha G m2 sF hρ hq _ fun v dx F2 H2 A e r h => ?_
                obtain ⟨hb, h⟩ := if_bl h
                obtain ⟨hb1, hb2⟩ := an hb
                refine ra_of (pa_cons (pe_tup (tys_ok (W := W) G m3 hb2)) pa_nil rfl) ?_
                show (ts.map fun t => V.ty t.s).length ≤ sizeLine ∧ ∀ p, H2 p = none → rIsiT (Cx.xw X W).K [v, .ref p] (upd H2 p (.tup (ts.map fun t => V.ty t.s))) Q
                refine ⟨?_, fun p n => ?_⟩
                · rw [List.length_map]
                  have := of_decide_eq_true m4
                  rw [sizeLine_eq]
                  omega
                · have e2 := e.seq0 (Ext.lay0 (o := .tup (ts.map fun t => V.ty t.s)) e.sub n)
                  have rv : Rep S F2 (upd H2 p (.tup (ts.map fun t => V.ty t.s))) v dx A := r.mono (Same.refl _) fun b hb => by
                    obtain ⟨o, qq⟩ := e.dom b hb
                    rw [upd_ne (ne_of_none qq n)]
                  exact ⟨v, p, ts.map fun t => V.ty t.s, .type (tyS dx), ts.map fun t => Value.type t.s, ts.any (isTy dx), rfl, upd_same, paired_ty ts, tyX_of (X := Cx.xw X W) G.eK e2.sub rv hb1, kitAny_of hb1 hb2, hP _ F2 _ _ e2 h⟩
              | Name y q =>
                cases ts with
                | nil => exact ff m
                | cons t ts => cases ts with
                  | cons _ _ => exact ff m
                  | nil =>
                    obtain ⟨m, m3⟩ := an (show (bName M sc "isinstance" z && mE M N cm sc false a x1 && mTy M sc t (.Name y q)) = true from m)
                    obtain ⟨m1, m2⟩ := an m
                    obtain ⟨rfl, n2, n3, n4, n5⟩ := bname_ok G m1
                    have hx1 : plainX x1 = true := me_plain m2
                    refine re_of (pe_callB (call_isi (X := Cx.xw X W)) n2 n3 hv (pa_cons pe_can pa_can (star_ok hx1)) n4 n5 (star_ok hx1) rfl) ?_
                    refine one ha G m2 sF hρ hq _ fun v dx F2 H2 A e r h => ?_
                    obtain ⟨hb, h⟩ := if_bl h
                    obtain ⟨hb1, hb2⟩ := an hb
                    have hb3 : notCls t = true := by
                      have : (notCls t && true) = true := hb2
                      rwa [Bool.and_true] at this
                    obtain ⟨t1, t2⟩ := ty_ok (W := W) G m3 hb3
                    refine ra_of (pa_cons t1 pa_nil (star_ok t2)) ?_
                    show rIsi (Cx.xw X W).K [v, .ty t.s] H2 Q
                    have hh : ([t].any (isTy dx)) = isTy dx t := by
                      show (isTy dx t || false) = _
                      rw [Bool.or_false]
                    rw [hh] at h
                    exact ⟨v, .ty t.s, .type (tyS dx), .type t.s, isTy dx t, rfl, .ty _, tyX_of (X := Cx.xw X W) G.eK e.sub r hb1, isTy_kit hb1 hb3, hP _ F2 _ _ e h⟩
              | _ => cases ts with
                | nil => exact ff m
                | cons _ ts => cases ts <;> exact ff m
    | _ => cases ts with
      | nil => exact ff m
      | cons _ ts => cases ts <;> exact ff m
  | _ => cases ts with
    | nil => exact ff m
    | cons _ ts => cases ts <;> exact ff m
theorem se_isi {a : Ex} {ts : List Ty} (ha : SE S M N wd k a) : SE S M N wd k (.isi a ts) := by
  intro x sc cm X G m F H σ ρ sF hρ Q W hq
  exact isi_ok ha G m sF hρ hq fun c F2 H2 A e h => fin_sc e h (.bl c)

/-! ### methods of built-in types -/
def Bmt.ty : Bmt → String
  | .get1 => "dict" | .get2 => "dict" | _ => "str"
theorem bmtT_ok {b : Bmt} {F H : Hp} {v : V} {d : D} {A : List Addr} {K : PySem.W.Frag} (sF : Same F H) (r : Rep S F H v d A) (h : bmtT b d = true) : tyV K b.ty v H := by
  cases b <;> cases d <;> first
    | exact ff h
    | (obtain ⟨a, vs, B, rfl, hH, _⟩ := r.dct sF
       exact .inr (.inr (.inl ⟨rfl, .inl ⟨vs, hH⟩⟩)))
    | (cases r; exact rfl)
def canM (X : Cx) (id : String) : V → List V → Hp → VK → Prop := fun x vs H Q => ∃ r, MtR X id r ∧ r x vs H Q
theorem canM_ok {X : Cx} {id : String} : MtR X id (canM X id) := fun pins s σ H x xs v us Q I rx rs h => by
  obtain ⟨r1, h1, h2⟩ := h
  exact h1 pins s σ H x xs v us Q I rx rs h2
def Bmt.id : Bmt → String
  | .get1 => "dict.get" | .get2 => "dict.get" | .join => "str.join" | .split => "str.split" | .startswith => "str.startswith" | .index => "str.index" | .replace => "str.replace" | .upper => "str.upper"
theorem mt_get1 {X : Cx} (hu : X.A.units + 1 < cLine) : MtR X "dict.get" (fun x xs H Q => ∃ a y o, x = .ref a ∧ xs = [y] ∧ DGet H a y o ∧ Q (o.getD .non) H) := fun pins s σ H x xs v us Q I rx rs h => by
  obtain ⟨a, y, o, rfl, rfl, g, q⟩ := h
  cases (show v = .ref a from rx)
  cases rs with
  | cons r1 rs =>
    cases rs
    exact d_get1 hu I g r1 fun w' s' I' r' => ⟨_, H, I', r', q⟩
theorem mt_get2 {X : Cx} (hu : X.A.units + 1 < cLine) : MtR X "dict.get" (fun x xs H Q => ∃ a y z o, x = .ref a ∧ xs = [y, z] ∧ DGet H a y o ∧ Q (o.getD z) H) := fun pins s σ H x xs v us Q I rx rs h => by
  obtain ⟨a, y, z, o, rfl, rfl, g, q⟩ := h
  cases (show v = .ref a from rx)
  cases rs with
  | cons r1 rs => cases rs with
    | cons r2 rs =>
      cases rs
      exact d_get2 hu I g r1 r2 fun w' s' I' r' => ⟨_, H, I', r', q⟩
theorem bmt_ok {X : Cx} (hK : X.K = S.K) (hu : X.A.units + 1 < cLine) {b : Bmt} {F0 H0 F H : Hp} {x : V} {d : D} {vs : List V} {ds : List D} {A B C : List Addr} {Q : VK} {W : XK} (e : Ext0 F0 H0 F H C) (rx : Rep S F H x d A) (rs : Reps S F H vs ds B)
    (hA : ∀ z ∈ A, z ∈ C) (hB : ∀ z ∈ B, z ∈ C) (h : PR S F0 H0 (bmtD b d ds) Q W) : ∃ r, MtR X b.id r ∧ r x vs H Q := by
  cases b with
  | get1 =>
    cases d with
    | dct o kvs =>
      cases rs with
      | nil => exact h.elim
      | cons r1 rs e1 => cases rs with
        | cons _ _ _ => exact h.elim
        | nil =>
          rename_i v1 d1 A1
          have h : PX S F0 H0 (match keyOf d1 with
            | some k => .ok (share ((getK kvs k).getD .non))
            | none => .bad) (fun d => Post S F0 H0 d Q) W := h
          obtain ⟨a, ks, B2, rfl, hH, rk, hB2⟩ := rx.dct e.sub
          cases q : keyOf d1 with
          | none => rw [q] at h; exact h.elim
          | some k =>
            rw [q] at h
            cases keyOf_eq r1 q
            have h : PX S F0 H0 (.ok (share ((getK kvs k).getD .non))) (fun d => Post S F0 H0 d Q) W := h
            refine ⟨_, mt_get1 hu, a, _, _, rfl, rfl, DGet.k hH, ?_⟩
            rcases rk.val k with ⟨h1, h2⟩ | ⟨d2, v2, B3, h1, h2, h3, h4⟩
            · rw [h1] at h
              rw [h2]
              exact fin_sc e h .non
            · rw [h1] at h
              rw [h2]
              exact fin_sh e h3 (fun z hz => hA z (hB2 z (h4 z hz))) h
    | _ => exact h.elim
  | get2 =>
    cases d with
    | dct o kvs =>
      cases rs with
      | nil => exact h.elim
      | @cons v1 d1 vs1 ds1 A1 B1 C1 r1 rs e1 => cases rs with
        | nil => exact h.elim
        | @cons v2 d2 vs2 ds2 A2 B2' C2 r2 rs e2 => cases rs with
          | cons _ _ _ => exact h.elim
          | nil =>
            have h : PX S F0 H0 (match keyOf d1 with
              | some k => .ok (share ((getK kvs k).getD d2))
              | none => .bad) (fun d => Post S F0 H0 d Q) W := h
            obtain ⟨a, ks, B2, rfl, hH, rk, hB2⟩ := rx.dct e.sub
            cases q : keyOf d1 with
            | none => rw [q] at h; exact h.elim
            | some k =>
              rw [q] at h
              cases keyOf_eq r1 q
              have h : PX S F0 H0 (.ok (share ((getK kvs k).getD d2))) (fun d => Post S F0 H0 d Q) W := h
              refine ⟨_, mt_get2 hu, a, _, v2, _, rfl, rfl, DGet.k hH, ?_⟩
              rcases rk.val k with ⟨h1, h2⟩ | ⟨d3, v3, B3, h1, h2, h3, h4⟩
              · rw [h1] at h
                rw [h2]
                exact fin_sh e r2 (fun z hz => hB z (by rw [e1]; exact List.mem_append_right _ (by rw [e2]; exact List.mem_append_left _ hz))) h
              · rw [h1] at h
                rw [h2]
                exact fin_sh e h3 (fun z hz => hA z (hB2 z (h4 z hz))) h
    | _ => exact h.elim
  | join =>
    cases d with
    | str a =>
      cases rs with
      | nil => exact h.elim
      | cons r1 rs e1 => cases rs with
        | cons _ _ _ => cases r1 <;> exact h.elim
        | nil =>
          rename_i v1 d1 A1
          cases d1 with
          | lst o xs =>
            have h : PX S F0 H0 (match asStrs xs with
              | some ys => if (ys.map (·.length)).sum + ys.length * a.length ≤ 16777216 then .ok (.str (Txt.join a ys)) else .bad
              | none => .bad) (fun d => Post S F0 H0 d Q) W := h
            cases q : asStrs xs with
            | none => rw [q] at h; exact h.elim
            | some ys =>
              rw [q] at h
              obtain ⟨h1, h⟩ := ite_ok h
              obtain ⟨p, us, B2, rfl, hH, ru, _⟩ := r1.lst e.sub
              cases rx
              have := ru.strs q
              subst this
              exact ⟨_, mt_join, a, p, ys, rfl, rfl, .inl (.inl (.inl hH)), h1, fin_sc e h (.str _)⟩
          | _ => exact h.elim
    | _ => exact h.elim
  | _ => cases d <;> exact h.elim
theorem bmt_plain : ∀ b : Bmt, PlainAttrs b.ty := fun b => by cases b <;> first | exact PySem.F.plainAttrs_dict | exact PySem.F.plainAttrs_str
theorem bmt_slot : ∀ b : Bmt, Slot b.ty b.nm b.id := fun b => by
  cases b
  · exact PySem.F.slot_dict_get
  · exact PySem.F.slot_dict_get
  · exact PySem.F.slot_str_join
  · exact PySem.F.slot_str_split
  · exact PySem.F.slot_str_startswith
  · exact PySem.F.slot_str_index
  · exact PySem.F.slot_str_replace
  · exact PySem.F.slot_str_upper
theorem bmt_type : ∀ b : Bmt, typeOf (.builtin b.id) = pure (.type "method_descriptor") := fun b => by cases b <;> rfl
theorem se_bmt {b : Bmt} {a : Ex} {es : Exs} (ha : SE S M N wd k a) (hs : SLs S M N wd k es) : SE S M N wd k (.bmt b a es) := by
  intro x sc cm X G m F H σ ρ sF hρ Q W hq
  cases x with
  | Call g xs kws p =>
    cases g with
    | Attribute l x ap => cases kws with
      | cons _ _ => exact ff m
      | nil =>
        obtain ⟨m, m7⟩ := an (show (decide (x = b.nm) && mE M N cm sc false a l && mL M N cm sc es xs && cm && notSuper l && (ap.endLine == p.line) && decide (xs.length < 29)) = true from m)
        obtain ⟨m, m6⟩ := an m
        obtain ⟨m, m5⟩ := an m
        obtain ⟨m, m4⟩ := an m
        obtain ⟨m, m3⟩ := an m
        obtain ⟨m1, m2⟩ := an m
        cases of_decide_eq_true m1
        have hu : (Cx.xw X W).A.units + 1 < cLine := Nat.lt_of_le_of_lt (Nat.add_le_add_left (by decide) _) (units_xw (W := W) G)
        have hp := plain_all m3
        have key : RE X l σ H (fun x0 H1 => tyV X.K b.ty x0 H1 ∧ RAx X xs σ H1 (fun vs H2 => canM (Cx.xw X W) b.id x0 vs H2 Q) W) W := by
          refine one ha G m2 sF hρ.l (f := fun x => if bmtT b x then (evL wd none es ρ).bind fun ds => bmtD b x ds else R.bad) hq _ fun x0 dx F2 H2 A e rx h => ?_
          obtain ⟨hb, h⟩ := if_bl h
          refine ⟨bmtT_ok e.sub rx hb, ?_⟩
          refine manyX hs G m3 e hρ.r (f := fun ds => bmtD b dx ds) h _ fun us ds F3 H3 A3 e3 r3 h4 => ?_
          have rx3 : Rep S F3 H3 x0 dx A := rx.mono e3.subF fun b hb => by
            obtain ⟨u, qq⟩ := e.dom b hb
            rw [qq]; exact e3.same0 b u qq
          exact bmt_ok (X := Cx.xw X W) G.eK hu (e.seq0 e3) rx3 r3 (fun z hz => List.mem_append_left _ hz) (fun z hz => List.mem_append_right _ hz) h4
        cases xs with
        | nil => exact re_of (pe_bm0 (X := Cx.xw X W) (bmt_plain b) (bmt_slot b) (bmt_type b) canM_ok pe_can (abase_ok m5) m6) key
        | cons x1 xs =>
          refine re_of (pe_bm (X := Cx.xw X W) (bmt_plain b) (bmt_slot b) (bmt_type b) canM_ok pe_can pa_can (abase_ok m5) ?_ m6 (star_cons hp) (star_back (star_tl hp))) key
          show ((backTo p (starEach (x1 :: xs) X.env)).all (fun x => !x.1) && true && decide ((x1 :: xs).length + 0 + 0 < 30)) = true
          rw [star_backN hp]
          have := of_decide_eq_true m7
          exact decide_eq_true (p := _) (by omega)
    | _ => exact ff m
  | _ => exact ff m
end
end MI

set_option Elab.async false
set_option linter.all false
set_option maxRecDepth 99000
set_option maxHeartbeats 999000
/-! MiH: what is walked; comprehensions; all expressions. -/
namespace MI
open PySem L2 PySem.Spec PyProof.Rows

/-! ### iterables -/
def RI (X : Cx) (tg iter : PySem.Expr) (σ : L2.St) (H : Hp) (R : It → Hp → Prop) (W : WX) : Prop :=
  ∀ (pins : List (Addr × Obj)) (s : Shared), Inv X pins σ H s → wpAny (model X.prog X.w) X.A (eval iter X.env) (fun v s1 => wpAny (model X.prog X.w) X.A (pyIter v) (PIE X pins σ tg R) (XE X W) s1) (XE X W) s
section
variable {X : Cx} {W : WX} {tg iter : PySem.Expr} {σ : L2.St} {H : Hp} {R : It → Hp → Prop}
theorem pie_unw {pins : List (Addr × Obj)} {u : Value} {s : Shared} {E : Value → Shared → Prop} (h : PIE (X.wish E) pins σ tg R u s) : PIE X pins σ tg R u s := by
  obtain ⟨it, fp, tn, J, H', e, I, T, t0, f, r⟩ := h
  exact ⟨it, fp, tn, J, H', e, I.unwish, T, t0, f, r⟩
theorem pie_wi {pins : List (Addr × Obj)} {u : Value} {s : Shared} {E : Value → Shared → Prop} (h : PIE X pins σ tg R u s) : PIE (X.wish E) pins σ tg R u s := by
  obtain ⟨it, fp, tn, J, H', e, I, T, t0, f, r⟩ := h
  exact ⟨it, fp, tn, J, H', e, I.wish _, T, t0, f, r⟩
theorem ri_of {wi : TI} (h : PI (Cx.xw X W) tg iter wi) (q : wi σ H R) : RI X tg iter σ H R W := fun pins s I =>
  wpAny_mono (h.run pins s σ H R (I.wish _) q) (fun _ _ z => wpAny_mono z (fun _ _ z => pie_unw z) fun _ _ z => z) fun _ _ z => z
theorem pi_can : PI (Cx.xw X W) tg iter (fun σ H R => RI X tg iter σ H R W) := ⟨fun pins s σ H R I h =>
  wpAny_mono (h pins s I.unwish) (fun _ _ z => wpAny_mono z (fun _ _ z => pie_wi z) fun _ _ z => z) fun _ _ z => z⟩
end
/-- an iterator that walks the data ds, which stand in F -/
def WalkQ (S : Sw) (F : Hp) (ds : List D) (J : It) : Prop := ∀ F' H', Same F F' → Same F' H' →
  (∀ i, i < ds.length → J.go i H' ∧ ∀ x H'', J.yld i H' x H'' → ∃ F'' d, ds[i]? = some d ∧ Ext0 F' H' F'' H'' [] ∧ Rep S F'' H'' x d []) ∧ ∀ i, ds.length ≤ i → J.stop i H'
/-- B: what is the state's own, cut out of the frozen part -/
def cutH (F : Hp) (B : List Addr) : Hp := fun b => if b ∈ B then none else F b
theorem cutH_in {F : Hp} {B : List Addr} {b : Addr} (h : b ∈ B) : cutH F B b = none := if_pos h
theorem cutH_out {F : Hp} {B : List Addr} {b : Addr} (h : b ∉ B) : cutH F B b = F b := if_neg h
theorem cutH_nil {F : Hp} : cutH F [] = F := funext fun _ => cutH_out fun z => nomatch z
theorem cutH_sub {F : Hp} {B : List Addr} : Same (cutH F B) F := fun b o e => by
  by_cases h : b ∈ B
  · rw [cutH_in h] at e; cases e
  · rwa [cutH_out h] at e
def PostI (S : Sw) (F H : Hp) (B : List Addr) (ds : List D) (R : It → Hp → Prop) : Prop := ∀ (J : It) (F' H' : Hp), Ext0 F H F' H' [] → WalkQ S (cutH F' B) ds J → R J H'
theorem escV_1 {x : R D} {d : D} (h : (match x with
    | .ok d => noShr d
    | _ => true) = true) (e : x = .ok d) : noShr d = true := by
  subst e; exact h
section
variable (S : Sw) (M : Nms) (N : List Str) (wd : W) (k : Nat)
def SI (e : Ex) : Prop := ∀ (tg x : PySem.Expr) (sc : Scope) (cm : Bool) (X : Cx), Gd S M N wd cm k sc X → mI M N cm sc (isTup tg) e x = true → ∀ (F H : Hp) (σ : L2.St) (ρ : Env), Same F H → EnvS S F σ ρ (vars e) →
  ∀ (B : List Addr), (∀ b ∈ B, ∃ o, H b = some o ∧ ntup o = true) → (B = [] ∨ escV wd ρ e = true) → ∀ (R : It → Hp → Prop) (W : WX), PX S F H ((ev wd none false e ρ).bind itemsD) (fun ds => PostI S F H B ds R) (wc W σ) → RI X tg x σ H R W
end
section
variable {S : Sw} {M : Nms} {N : List Str} {wd : W} {k : Nat}
theorem walk_list {F H : Hp} {a : Addr} {vs : List V} {ds : List D} {X : Cx} (hK : X.K = S.K) (hH : F a = some (.lst vs)) (r : Reps S F H vs ds []) : WalkQ S F ds (Itl X.K a) := fun F' H' s1 s2 => by
  have q : SqL X.K H' a vs := .inl (.inl (s2 _ _ (s1 _ _ hH)))
  have hl := r.len
  refine ⟨fun i hi => ?_, fun i hi => ⟨vs, q, by omega⟩⟩
  have hi2 : i < vs.length := by omega
  refine ⟨⟨vs, vs[i], q, List.getElem?_eq_getElem hi2⟩, fun x H'' y => ?_⟩
  obtain ⟨rfl, y⟩ := y
  obtain ⟨d, B, h1, h2, h3⟩ := r.getV (y vs q)
  have hB : B = [] := by
    cases B with
    | nil => rfl
    | cons b _ => exact nomatch (h3 b List.mem_cons_self)
  subst hB
  exact ⟨F', d, h1, Ext.refl0 s2, h2.mono s1 fun b hb => nomatch hb⟩
theorem walk_tup {F H : Hp} {a : Addr} {vs : List V} {ds : List D} {X : Cx} (hK : X.K = S.K) (hH : SqT S.K F a vs) (r : Reps S F H vs ds []) : WalkQ S F ds (Itt X.K a) := fun F' H' s1 s2 => by
  have q : SqT X.K H' a vs := by rw [hK]; exact sqt_same s2 (sqt_same s1 hH)
  have hl := r.len
  refine ⟨fun i hi => ?_, fun i hi => ⟨vs, q, by omega⟩⟩
  have hi2 : i < vs.length := by omega
  refine ⟨⟨vs, vs[i], q, List.getElem?_eq_getElem hi2⟩, fun x H'' y => ?_⟩
  obtain ⟨rfl, y⟩ := y
  obtain ⟨d, B, h1, h2, h3⟩ := r.getV (y vs q)
  have hB : B = [] := by
    cases B with
    | nil => rfl
    | cons b _ => exact nomatch (h3 b List.mem_cons_self)
  subst hB
  exact ⟨F', d, h1, Ext.refl0 s2, h2.mono s1 fun b hb => nomatch hb⟩
theorem walk_scr {F : Hp} {a : Addr} {ns : List Int} {X : Cx} (hK : X.K = S.K) (hH : SqL S.K F a (ns.map V.int)) : WalkQ S F (ns.map D.int) (Itl X.K a) := fun F' H' s1 s2 => by
  have q : SqL X.K H' a (ns.map V.int) := by rw [hK]; exact s2.seq (s1.seq hH)
  refine ⟨fun i hi => ?_, fun i hi => ⟨_, q, by simpa using hi⟩⟩
  have hi2 : i < (ns.map V.int).length := by simpa using hi
  refine ⟨⟨_, _, q, List.getElem?_eq_getElem hi2⟩, fun x H'' y => ?_⟩
  obtain ⟨rfl, y⟩ := y
  have y := y _ q
  have hi3 : i < ns.length := by simpa using hi
  rw [List.getElem?_map, List.getElem?_eq_getElem hi3] at y
  cases y
  refine ⟨F', .int ns[i], ?_, Ext.refl0 s2, .int _⟩
  rw [List.getElem?_map, List.getElem?_eq_getElem hi3] <;> rfl
theorem walk_rng {F : Hp} {lo hi : Int} : WalkQ S F (rngI lo hi) (Itr lo (hi - lo).toNat) := fun F' H' s1 s2 => by
  have hl : (rngI lo hi).length = (hi - lo).toNat := by unfold rngI; rw [List.length_map, List.length_range]
  refine ⟨fun i hi => ?_, fun i hi => ?_⟩
  · rw [hl] at hi
    refine ⟨hi, fun x H'' y => ?_⟩
    obtain ⟨rfl, rfl⟩ := y
    refine ⟨F', .int (lo + i), ?_, Ext.refl0 s2, .int _⟩
    unfold rngI
    rw [List.getElem?_map, List.getElem?_range hi] <;> rfl
  · rw [hl] at hi
    exact hi
theorem walk_str {F : Hp} {x : Str} : WalkQ S F (x.cps.toList.map fun c => D.str ⟨#[c]⟩) (Its x) := fun F' H' s1 s2 => by
  refine ⟨fun i hi => ?_, fun i hi => ?_⟩
  · have hi2 : i < x.cps.size := by simpa using hi
    refine ⟨hi2, fun v H'' y => ?_⟩
    obtain ⟨rfl, c, h1, rfl⟩ := y
    refine ⟨F', .str ⟨#[c]⟩, ?_, Ext.refl0 s2, .str _⟩
    rw [List.getElem?_map, Array.getElem?_toList, h1] <;> rfl
  · show x.cps.size ≤ i
    simpa using hi
theorem walk_enum {F H : Hp} {a : Addr} {vs : List V} {ds : List D} {X : Cx} (hK : X.K = S.K) (hH : F a = some (.lst vs)) (r : Reps S F H vs ds []) :
    WalkQ S F (List.zipWith (fun (k : Nat) d => D.tup [.int k, d]) (List.range ds.length) ds) (Ite X.K a) := fun F' H' s1 s2 => by
  have q : SqL X.K H' a vs := .inl (.inl (s2 _ _ (s1 _ _ hH)))
  have hl := r.len
  have hz : (List.zipWith (fun (k : Nat) d => D.tup [.int k, d]) (List.range ds.length) ds).length = ds.length := by simp
  refine ⟨fun i hi => ?_, fun i hi => ⟨vs, q, by omega⟩⟩
  rw [hz] at hi
  have hi2 : i < vs.length := by omega
  refine ⟨⟨vs, vs[i], q, List.getElem?_eq_getElem hi2⟩, fun x H'' y => ?_⟩
  obtain ⟨T, x, rfl, hT, rfl, y⟩ := y
  obtain ⟨d, B, h1, h2, h3⟩ := r.getV (y vs q)
  have hB : B = [] := by
    cases B with
    | nil => rfl
    | cons b _ => exact nomatch (h3 b List.mem_cons_self)
  subst hB
  refine ⟨upd F' T (.tup [.int i, x]), .tup [.int i, d], ?_, Ext.layF s2 hT, .tup (.inl (.inl upd_same)) (.cons (.int _) (.cons (h2.mono (s1.trans fun b o e => ?_) fun b hb => nomatch hb) .nil rfl) rfl)⟩
  · rw [List.getElem?_zipWith, List.getElem?_range hi, h1]
  · rw [upd_ne (ne_of_none (s2 _ _ e) hT)]; exact e
theorem walk_zip {F H : Hp} {a b : Addr} {vs us : List V} {ds es : List D} {X : Cx} (hK : X.K = S.K) (hA : F a = some (.lst vs)) (hB : F b = some (.lst us)) (r : Reps S F H vs ds []) (r2 : Reps S F H us es []) :
    WalkQ S F (List.zipWith (fun d e => D.tup [d, e]) ds es) (Itz X.K a b) := fun F' H' s1 s2 => by
  have q : SqL X.K H' a vs := .inl (.inl (s2 _ _ (s1 _ _ hA)))
  have q2 : SqL X.K H' b us := .inl (.inl (s2 _ _ (s1 _ _ hB)))
  have hl := r.len
  have hl2 := r2.len
  have hz : (List.zipWith (fun d e => D.tup [d, e]) ds es).length = min ds.length es.length := by simp
  refine ⟨fun i hi => ?_, fun i hi => ⟨vs, us, q, q2, by omega⟩⟩
  rw [hz] at hi
  have hi2 : i < vs.length := by omega
  have hi3 : i < us.length := by omega
  refine ⟨⟨vs, us, vs[i], us[i], q, q2, List.getElem?_eq_getElem hi2, List.getElem?_eq_getElem hi3⟩, fun x H'' y => ?_⟩
  obtain ⟨T, x, y, rfl, hT, rfl, y1, y2⟩ := y
  obtain ⟨d, B, h1, h2, h3⟩ := r.getV (y1 vs q)
  obtain ⟨d2, B2, k1, k2, k3⟩ := r2.getV (y2 us q2)
  have hB : B = [] := by
    cases B with
    | nil => rfl
    | cons b _ => exact nomatch (h3 b List.mem_cons_self)
  have hB2 : B2 = [] := by
    cases B2 with
    | nil => rfl
    | cons b _ => exact nomatch (k3 b List.mem_cons_self)
  subst hB hB2
  have sU : Same F (upd F' T (.tup [x, y])) := s1.trans fun b o e => by rw [upd_ne (ne_of_none (s2 _ _ e) hT)]; exact e
  refine ⟨upd F' T (.tup [x, y]), .tup [d, d2], ?_, Ext.layF s2 hT, .tup (.inl (.inl upd_same)) (.cons (h2.mono sU fun b hb => nomatch hb) (.cons (k2.mono sU fun b hb => nomatch hb) .nil rfl) rfl)⟩
  rw [List.getElem?_zipWith, h1, k1]

/-- the frozen part with all of a value -/
theorem frz_rep {F H F2 H2 : Hp} {A : List Addr} {v : V} {d : D} (e : Ext0 F H F2 H2 A) (r : Rep S F2 H2 v d A) : Rep S (frzH F2 H2 A) H2 v (share d) [] :=
  r.share (frzH_of fun b hb => (e.own b hb).1) fun b hb => frzH_in hb
theorem sqt_cut {F H : Hp} {B : List Addr} {K : PySem.W.Frag} (sF : Same F H) (hB : ∀ b ∈ B, ∃ o, H b = some o ∧ ntup o = true) : ∀ a vs, SqT K F a vs → SqT K (cutH F B) a vs := fun a vs h => by
  rcases h with (h | ⟨u, h⟩) | h
  · refine .inl (.inl ?_)
    rw [cutH_out fun z => ?_]; exact h
    obtain ⟨o, q, n⟩ := hB a z
    rw [sF _ _ h] at q
    cases q; cases n
  · refine .inl (.inr ⟨u, ?_⟩)
    rw [cutH_out fun z => ?_]; exact h
    obtain ⟨o, q, n⟩ := hB a z
    rw [sF _ _ h] at q
    cases q; cases n
  · exact .inr h
theorem same_keep {H H' : Hp} {B : List Addr} (s : Same H H') (hB : ∀ b ∈ B, ∃ o, H b = some o ∧ ntup o = true) : ∀ b ∈ B, ∃ o, H' b = some o ∧ ntup o = true := fun b hb => by
  obtain ⟨o, q, n⟩ := hB b hb
  exact ⟨o, s _ _ q, n⟩
theorem cut_rep {F H F2 H2 : Hp} {A C B : List Addr} {v : V} {d : D} (e : Ext0 F H F2 H2 C) (r : Rep S F2 H2 v d A) (hA : ∀ z ∈ A, z ∈ C) (hB : ∀ b ∈ B, ∃ o, H b = some o ∧ ntup o = true) (hes : B = [] ∨ noShr d = true) : Rep S (cutH (frzH F2 H2 C) B) H2 v (share d) [] := by
  rcases hes with rfl | h
  · rw [cutH_nil]
    exact r.share (frzH_of fun b hb => (e.own b hb).1) fun b hb => frzH_in (hA b hb)
  · refine (r.noShr (sqt_cut e.sub (same_keep e.same0 hB)) h).share (fun b o q => ?_) fun b hb => ?_
    · by_cases hb : b ∈ B
      · rw [cutH_in hb] at q; cases q
      · rw [cutH_out hb] at q ⊢
        rw [frzH_out fun z => by rw [(e.own b z).1] at q; cases q]
        exact q
    · rw [cutH_out fun z => ?_, frzH_in (hA b hb)]
      obtain ⟨o, q, _⟩ := hB b z
      rcases (e.own b (hA b hb)).2 with w | w
      · rw [q] at w; cases w
      · cases w
theorem si_pln {a : Ex} (ha : SE S M N wd k a) : SI S M N wd k (.pln a) := by
  intro tg x sc cm X G m F H σ ρ sF hρ Bs hBs hes R W hq
  obtain ⟨m1, m2⟩ := an (show (plainX x && mE M N cm sc false a x) = true from m)
  have hq : PX S F H ((ev wd none false a ρ).bind itemsD) (fun ds => PostI S F H Bs ds R) (wc W σ) := hq
  have main : ∀ (Q2 : VK), (∀ (x : V) (d : D) (F2 H2 : Hp) (A : List Addr), Ext0 F H F2 H2 A → ev wd none false a ρ = .ok d → Rep S F2 H2 x d A → PX S F H (itemsD d) (fun ds => PostI S F H Bs ds R) (wc W σ) → Q2 x H2) → RE X x σ H Q2 W := fun Q2 h => by
    refine ha x sc cm X G m2 F H σ ρ sF hρ _ W ?_
    refine PX.imp (PX.bind hq) fun d hd hp v F1 H1 A e r => h v d F1 H1 A e hd r hp
  have lst : (∀ d, ev wd none false a ρ = .ok d → ∃ o ds, d = .lst o ds) → RI X tg x σ H R W := fun hd => by
    refine ri_of (pi_list pe_can) (main _ fun v d F2 H2 A e q r h => ?_)
    obtain ⟨o, ds, rfl⟩ := hd d q
    have hes : Bs = [] ∨ noShr (D.lst o ds) = true := hes.imp id fun z => escV_1 z q
    cases cut_rep e r (fun z hz => hz) hBs hes with
    | lstS hF rs e2 =>
      cases e2
      exact ⟨_, rfl, ⟨_, .inl (.inl (frzH_sub e.sub _ _ (cutH_sub _ _ hF)))⟩, h _ _ _ e.freeze0 (walk_list G.eK hF rs)⟩
  cases q : ev wd none false a ρ with
  | ok d =>
    cases d with
    | lst o ds => exact lst fun d' e => ⟨o, ds, by rw [q] at e; exact (MI.R.ok.inj e).symm⟩
    | tup ds =>
      refine ri_of (pi_tup pe_can) (main _ fun v d F2 H2 A e q' r h => ?_)
      have hes : Bs = [] ∨ noShr d = true := hes.imp id fun z => escV_1 z q'
      rw [q] at q'
      cases q'
      cases cut_rep e r (fun z hz => hz) hBs hes with
      | tup hT rs =>
        exact ⟨_, rfl, ⟨_, by show SqT X.K _ _ _; rw [G.eK]; exact sqt_same (frzH_sub e.sub) (sqt_same cutH_sub hT)⟩, h _ _ _ e.freeze0 (walk_tup G.eK hT rs)⟩
    | scr ns =>
      refine ri_of (pi_list pe_can) (main _ fun v d F2 H2 A e q' r h => ?_)
      have hes : Bs = [] ∨ noShr d = true := hes.imp id fun z => escV_1 z q'
      rw [q] at q'
      cases q'
      have hes : Bs = [] := hes.resolve_right fun z => nomatch z
      subst hes
      cases r with
      | scr hT =>
        exact ⟨_, rfl, ⟨_, by show SqL X.K _ _ _; rw [G.eK]; exact e.sub.seq hT⟩, h _ _ _ (e.drop0 sub_nil) (by rw [cutH_nil]; exact walk_scr G.eK hT)⟩
    | str z =>
      refine ri_of (pi_str pe_can) (main _ fun v d F2 H2 A e q' r h => ?_)
      rw [q] at q'
      cases q'
      cases r
      exact ⟨z, rfl, h _ _ _ (e.drop0 sub_nil) walk_str⟩
    | _ => rw [q] at hq; exact hq.elim
  | ex c fs => exact lst fun d' e => by rw [q] at e; cases e
  | bad => rw [q] at hq; exact hq.elim

theorem shareL_idem (ds : List D) : shareL (shareL ds) = shareL ds := shareL_noOwn _ (noOwn_shareL ds)
theorem shareL_rng (lo hi : Int) : shareL (rngI lo hi) = rngI lo hi := by
  rw [shareL_map]; unfold rngI; rw [List.map_map]; rfl
theorem si_rng1 {a : Ex} (ha : SE S M N wd k a) : SI S M N wd k (.rng1 a) := by
  intro tg x sc cm X G m F H σ ρ sF hρ Bs hBs hes R W hq
  cases x with
  | Call g xs kws p =>
    cases g with
    | Name y p2 => cases xs with
      | nil => exact ff m
      | cons l xs => cases xs with
        | cons _ xs => cases kws <;> cases xs <;> exact ff m
        | nil => cases kws with
          | cons _ _ => exact ff m
          | nil =>
            obtain ⟨m, m3⟩ := an (show (bName M sc "range" y && plainX l && mE M N cm sc false a l) = true from m)
            obtain ⟨m1, m2⟩ := an m
            obtain ⟨rfl, n2, n3, n4, n5⟩ := bname_ok G m1
            have hq : PX S F H (((ev wd none false a ρ).bind fun x => (argI x).bind fun j => if okI j then .ok (.lst true (rngI 0 j)) else .bad).bind itemsD) (fun ds => PostI S F H Bs ds R) (wc W σ) := hq
            have key : RA X [l] σ H (fun vs H1 => ∃ j : Int, vs = [.int j] ∧ -(2 ^ 62) ≤ j ∧ j < 2 ^ 62 ∧ R (Itr 0 j.toNat) H1) W := by
              refine ra_of (pa_cons pe_can pa_nil (star_ok m2)) ?_
              refine one ha G m3 sF hρ (f := fun x => ((argI x).bind fun j => if okI j then MI.R.ok (D.lst true (rngI 0 j)) else .bad).bind itemsD) (by
                cases q : ev wd none false a ρ <;> rw [q] at hq <;> exact hq) _ fun v d F2 H2 A e r h => ?_
              cases d with
              | int j =>
                cases r
                have h : PX S F H ((if okI j then MI.R.ok (D.lst true (rngI 0 j)) else .bad).bind itemsD) (fun ds => PostI S F H Bs ds R) (wc W σ) := h
                cases hj : okI j with
                | false => rw [hj] at h; exact h.elim
                | true =>
                  rw [hj] at h
                  have h : PostI S F H Bs (shareL (rngI 0 j)) R := h
                  rw [shareL_rng] at h
                  have hj := of_decide_eq_true hj
                  refine ⟨j, rfl, hj.1, hj.2, ?_⟩
                  have := h _ F2 H2 (e.drop0 sub_nil) walk_rng
                  simpa using this
              | _ => exact h.elim
            exact ri_of (pi_range1 (X := Cx.xw X W) n2 n3 pa_can (star_ok m2)) key
    | _ => exact ff m
  | _ => exact ff m
theorem si_rng2 {a b : Ex} (ha : SE S M N wd k a) (hb : SE S M N wd k b) : SI S M N wd k (.rng2 a b) := by
  intro tg x sc cm X G m F H σ ρ sF hρ Bs hBs hes R W hq
  cases x with
  | Call g xs kws p =>
    cases g with
    | Name y p2 => cases xs with
      | nil => exact ff m
      | cons l xs => cases xs with
        | nil => cases kws <;> exact ff m
        | cons l2 xs => cases xs with
          | cons _ _ => exact ff m
          | nil => cases kws with
            | cons _ _ => exact ff m
            | nil =>
              obtain ⟨m, m5⟩ := an (show (bName M sc "range" y && plainX l && mE M N cm sc false a l && plainX l2 && mE M N cm sc false b l2) = true from m)
              obtain ⟨m, m4⟩ := an m
              obtain ⟨m, m3⟩ := an m
              obtain ⟨m1, m2⟩ := an m
              obtain ⟨rfl, n2, n3, n4, n5⟩ := bname_ok G m1
              have hq : PX S F H (((ev wd none false a ρ).bind fun x => (ev wd none false b ρ).bind fun y => (argI x).bind fun i => (argI y).bind fun j => if okI i && okI j then .ok (.lst true (rngI i j)) else .bad).bind itemsD) (fun ds => PostI S F H Bs ds R) (wc W σ) := hq
              have key : RA X [l, l2] σ H (fun vs H1 => ∃ i j : Int, vs = [.int i, .int j] ∧ (-(2 ^ 62) ≤ i ∧ i < 2 ^ 62 ∧ -(2 ^ 62) ≤ j ∧ j < 2 ^ 62) ∧ R (Itr i (j - i).toNat) H1) W := by
                refine ra_of (pa_cons pe_can (pa_cons pe_can pa_nil (star_ok m4)) (star_ok m2)) ?_
                refine two ha hb G m3 m5 sF hρ (P := fun _ _ => True) (f := fun x y => ((argI x).bind fun i => (argI y).bind fun j => if okI i && okI j then MI.R.ok (D.lst true (rngI i j)) else .bad).bind itemsD) (by
                  cases q : ev wd none false a ρ with
                  | ok d =>
                    rw [q] at hq
                    cases q2 : ev wd none false b ρ <;> rw [q2] at hq <;> exact hq
                  | ex c fs => rw [q] at hq; exact hq
                  | bad => rw [q] at hq; exact hq) _ fun v u d d2 F2 H2 A B C e r r2 hA hB h => ?_
                cases d with
                | int i =>
                  cases d2 with
                  | int j =>
                    cases r
                    cases r2
                    have h : PX S F H ((if okI i && okI j then MI.R.ok (D.lst true (rngI i j)) else .bad).bind itemsD) (fun ds => PostI S F H Bs ds R) (wc W σ) := h
                    cases hj : okI i && okI j with
                    | false => rw [hj] at h; exact h.elim
                    | true =>
                      rw [hj] at h
                      have h : PostI S F H Bs (shareL (rngI i j)) R := h
                      rw [shareL_rng] at h
                      obtain ⟨hi, hj⟩ := an hj
                      have hi := of_decide_eq_true hi
                      have hj := of_decide_eq_true hj
                      exact ⟨i, j, rfl, ⟨hi.1, hi.2, hj.1, hj.2⟩, h _ F2 H2 (e.drop0 sub_nil) walk_rng⟩
                  | _ => exact h.elim
                | _ => exact h.elim
              exact ri_of (pi_range2 (X := Cx.xw X W) n2 n3 pa_can (by rw [star_ok m2, star_ok m4]; rfl) (star_ok m4)) key
    | _ => exact ff m
  | _ => exact ff m
theorem isTup_ok {tg : PySem.Expr} (h : isTup tg = true) : ∃ es kk p, tg = .Tuple es kk p := by
  cases tg <;> first | exact ff h | exact ⟨_, _, _, rfl⟩
theorem frz_lst {F H F2 H2 : Hp} {A C B : List Addr} {v : V} {o : Bool} {ds : List D} (e : Ext0 F H F2 H2 C) (r : Rep S F2 H2 v (.lst o ds) A) (hA : ∀ z ∈ A, z ∈ C) (hB : ∀ b ∈ B, ∃ o, H b = some o ∧ ntup o = true) (hes : B = [] ∨ noShr (.lst o ds) = true) :
    ∃ p vs, v = .ref p ∧ cutH (frzH F2 H2 C) B p = some (.lst vs) ∧ Reps S (cutH (frzH F2 H2 C) B) H2 vs (shareL ds) [] := by
  cases cut_rep e r hA hB hes with
  | lstS h rs e2 => cases e2; exact ⟨_, _, rfl, h, rs⟩
theorem shareL_enum (ds : List D) : shareL (List.zipWith (fun (k : Nat) d => D.tup [.int k, d]) (List.range (shareL ds).length) (shareL ds)) = List.zipWith (fun (k : Nat) d => D.tup [.int k, d]) (List.range (shareL ds).length) (shareL ds) := by
  apply shareL_noOwn
  have : ∀ (ks : List Nat) (es : List D), noOwnL es = true → noOwnL (List.zipWith (fun (k : Nat) d => D.tup [.int k, d]) ks es) = true := by
    intro ks
    induction ks with
    | nil => intro es _; rfl
    | cons k ks ih =>
      intro es h
      cases es with
      | nil => rfl
      | cons d es =>
        obtain ⟨h1, h2⟩ := an (show (noOwn d && noOwnL es) = true from h)
        show ((true && (noOwn d && true)) && noOwnL (List.zipWith _ ks es)) = true
        rw [h1, ih es h2] <;> rfl
  exact this _ _ (noOwn_shareL ds)
theorem shareL_zip (ds es : List D) : shareL (List.zipWith (fun d e => D.tup [d, e]) (shareL ds) (shareL es)) = List.zipWith (fun d e => D.tup [d, e]) (shareL ds) (shareL es) := by
  apply shareL_noOwn
  have : ∀ (ks : List D) (es : List D), noOwnL ks = true → noOwnL es = true → noOwnL (List.zipWith (fun d e => D.tup [d, e]) ks es) = true := by
    intro ks
    induction ks with
    | nil => intro es _ _; rfl
    | cons k ks ih =>
      intro es h0 h
      cases es with
      | nil => rfl
      | cons d es =>
        obtain ⟨h1, h2⟩ := an (show (noOwn d && noOwnL es) = true from h)
        obtain ⟨h3, h4⟩ := an (show (noOwn k && noOwnL ks) = true from h0)
        show ((noOwn k && (noOwn d && true)) && noOwnL (List.zipWith _ ks es)) = true
        rw [h1, h3, ih es h4 h2] <;> rfl
  exact this _ _ (noOwn_shareL ds) (noOwn_shareL es)
theorem si_enm {a : Ex} (ha : SE S M N wd k a) : SI S M N wd k (.enm a) := by
  intro tg x sc cm X G m F H σ ρ sF hρ Bs hBs hes R W hq
  cases x with
  | Call g xs kws p =>
    cases g with
    | Name y p2 => cases xs with
      | nil => exact ff m
      | cons l xs => cases xs with
        | cons _ xs => cases kws <;> cases xs <;> exact ff m
        | nil => cases kws with
          | cons _ _ => exact ff m
          | nil =>
            obtain ⟨m, m3⟩ := an (show (isTup tg && bName M sc "enumerate" y && plainX l && mE M N cm sc false a l) = true from m)
            obtain ⟨m, m2⟩ := an m
            obtain ⟨m0, m1⟩ := an m
            obtain ⟨rfl, n2, n3, n4, n5⟩ := bname_ok G m1
            obtain ⟨es, kk, tp, rfl⟩ := isTup_ok m0
            have hq : PX S F H (((ev wd none false a ρ).bind fun x => (argL x).bind fun xs => .ok (.lst true (List.zipWith (fun (k : Nat) d => D.tup [.int k, d]) (List.range xs.length) xs))).bind itemsD) (fun ds => PostI S F H Bs ds R) (wc W σ) := hq
            have key : RA X [l] σ H (fun vs H1 => ∃ a xs, vs = [.ref a] ∧ SqL X.K H1 a xs ∧ R (Ite X.K a) H1) W := by
              refine ra_of (pa_cons pe_can pa_nil (star_ok m2)) ?_
              refine oneE ha G m3 sF hρ (f := fun x => ((argL x).bind fun xs => MI.R.ok (.lst true (List.zipWith (fun (k : Nat) d => D.tup [.int k, d]) (List.range xs.length) xs))).bind itemsD) (by
                cases q : ev wd none false a ρ <;> rw [q] at hq <;> exact hq) _ fun v d F2 H2 A ea e r h => ?_
              cases d with
              | lst o ds =>
                obtain ⟨pp, vs, rfl, hH, rs⟩ := frz_lst e r (fun z hz => hz) hBs (hes.imp id fun z => escV_1 z ea)
                have h : PostI S F H Bs (shareL (List.zipWith (fun (k : Nat) d => D.tup [.int k, d]) (List.range (shareL ds).length) (shareL ds))) R := h
                rw [shareL_enum] at h
                exact ⟨pp, vs, rfl, .inl (.inl (frzH_sub e.sub _ _ (cutH_sub _ _ hH))), h _ _ _ e.freeze0 (walk_enum G.eK hH rs)⟩
              | _ => exact h.elim
            exact ri_of (pi_enum (X := Cx.xw X W) n2 n3 pa_can (star_ok m2)) key
    | _ => exact ff m
  | _ => exact ff m
theorem si_zip {a b : Ex} (ha : SE S M N wd k a) (hb : SE S M N wd k b) : SI S M N wd k (.zip a b) := by
  intro tg x sc cm X G m F H σ ρ sF hρ Bs hBs hes R W hq
  cases x with
  | Call g xs kws p =>
    cases g with
    | Name y p2 => cases xs with
      | nil => exact ff m
      | cons l xs => cases xs with
        | nil => cases kws <;> exact ff m
        | cons l2 xs => cases xs with
          | cons _ _ => exact ff m
          | nil => cases kws with
            | cons _ _ => exact ff m
            | nil =>
              obtain ⟨m, m5⟩ := an (show (isTup tg && bName M sc "zip" y && plainX l && mE M N cm sc false a l && plainX l2 && mE M N cm sc false b l2) = true from m)
              obtain ⟨m, m4⟩ := an m
              obtain ⟨m, m3⟩ := an m
              obtain ⟨m, m2⟩ := an m
              obtain ⟨m0, m1⟩ := an m
              obtain ⟨rfl, n2, n3, n4, n5⟩ := bname_ok G m1
              obtain ⟨es, kk, tp, rfl⟩ := isTup_ok m0
              have hq : PX S F H (((ev wd none false a ρ).bind fun x => (ev wd none false b ρ).bind fun y => (argL x).bind fun xs => (argL y).bind fun ys => .ok (.lst true (List.zipWith (fun d e => D.tup [d, e]) xs ys))).bind itemsD) (fun ds => PostI S F H Bs ds R) (wc W σ) := hq
              have key : RA X [l, l2] σ H (fun vs H1 => ∃ a b xs ys, vs = [.ref a, .ref b] ∧ SqL X.K H1 a xs ∧ SqL X.K H1 b ys ∧ R (Itz X.K a b) H1) W := by
                refine ra_of (pa_cons pe_can (pa_cons pe_can pa_nil (star_ok m4)) (star_ok m2)) ?_
                refine twoE ha hb G m3 m5 sF hρ (P := fun _ _ => True) (f := fun x y => ((argL x).bind fun xs => (argL y).bind fun ys => MI.R.ok (.lst true (List.zipWith (fun d e => D.tup [d, e]) xs ys))).bind itemsD) (by
                  cases q : ev wd none false a ρ with
                  | ok d =>
                    rw [q] at hq
                    cases q2 : ev wd none false b ρ <;> rw [q2] at hq <;> exact hq
                  | ex c fs => rw [q] at hq; exact hq
                  | bad => rw [q] at hq; exact hq) _ fun v u d d2 F2 H2 A B C ea eb e r r2 hA hB h => ?_
                cases d with
                | lst o ds =>
                  cases d2 with
                  | lst o2 ds2 =>
                    obtain ⟨pp, vs, rfl, hH, rs⟩ := frz_lst e r hA hBs (hes.imp id fun z => escV_1 (an z).1 ea)
                    obtain ⟨pp2, vs2, rfl, hH2, rs2⟩ := frz_lst e r2 hB hBs (hes.imp id fun z => escV_1 (an z).2 eb)
                    have h : PostI S F H Bs (shareL (List.zipWith (fun d e => D.tup [d, e]) (shareL ds) (shareL ds2))) R := h
                    rw [shareL_zip] at h
                    exact ⟨pp, pp2, vs, vs2, rfl, .inl (.inl (frzH_sub e.sub _ _ (cutH_sub _ _ hH))), .inl (.inl (frzH_sub e.sub _ _ (cutH_sub _ _ hH2))), h _ _ _ e.freeze0 (walk_zip G.eK hH hH2 rs rs2)⟩
                  | _ => exact h.elim
                | _ => exact h.elim
              exact ri_of (pi_zip (X := Cx.xw X W) n2 n3 pa_can (star_ok m2) (by rw [star_ok m4]; rfl)) key
    | _ => exact ff m
  | _ => exact ff m
end
end MI

set_option Elab.async false
set_option linter.all false
set_option maxRecDepth 99000
set_option maxHeartbeats 999000
/-! MiI: comprehensions; all expressions. -/
namespace MI
open PySem L2 PySem.Spec PyProof.Rows

/-! ### the block's context -/
/-- a name's kind as the block sees it -/
def relK (sc : Scope) (p : Str × NameKind) : Str × NameKind := if (p.2 == NameKind.free && sc.kind == .function && sc.names.lookup p.1 == some .cell) then (p.1, NameKind.cell) else (p.1, p.2)
theorem relK_1 (sc : Scope) (p : Str × NameKind) : (relK sc p).1 = p.1 := by unfold relK; split <;> rfl
theorem relK_free (sc : Scope) (x : Str) : (relK sc (x, .free)).2 = .cell ∨ (relK sc (x, .free)).2 = .free := by
  unfold relK
  split
  · exact .inl rfl
  · exact .inr rfl
theorem relK_at (sc : Scope) (x : Str) : ∀ names : List (Str × NameKind), names.lookup x = some .free → (names.map (relK sc)).lookup x = some .cell ∨ (names.map (relK sc)).lookup x = some .free
  | [], z => nomatch z
  | p :: r, z => by
    have e : (relK sc p :: r.map (relK sc)).lookup x = if x == p.1 then some (relK sc p).2 else (r.map (relK sc)).lookup x := by
      rw [← relK_1 sc p]
      cases q : x == (relK sc p).1 <;> simp only [List.lookup, q] <;> rfl
    have z2 : (if x == p.1 then some p.2 else r.lookup x) = some NameKind.free := by
      rw [← z]
      cases q : x == p.1 <;> simp only [List.lookup, q] <;> rfl
    rw [List.map_cons, e]
    cases q : x == p.1 with
    | false => rw [q] at z2; exact relK_at sc x r z2
    | true =>
      rw [q] at z2
      obtain ⟨y, k⟩ := p
      have hk : k = .free := Option.some.inj z2
      subst hk
      rcases relK_free sc y with w | w
      · exact .inl (congrArg some w)
      · exact .inr (congrArg some w)
theorem rel_free {sc : Scope} {names : List (Str × NameKind)} {x : Str} (h : names.lookup x = some .free) :
    (names.map fun (n, k) => if (k == NameKind.free && sc.kind == .function && sc.names.lookup n == some .cell) then (n, NameKind.cell) else (n, k)).lookup x = some .cell ∨
    (names.map fun (n, k) => if (k == NameKind.free && sc.kind == .function && sc.names.lookup n == some .cell) then (n, NameKind.cell) else (n, k)).lookup x = some .free := relK_at sc x names h
section
variable {S : Sw} {M : Nms} {N : List Str} {wd : W} {k : Nat} {cm : Bool} {sc scope : Scope} {X : Cx}
theorem Gd.blk (G : Gd S M N wd cm k sc X) (s0 : Shared) (H0 : Hp) (C : Addr) (cl : List (Str × Addr)) (fp : List Addr) : Gd S M N wd cm k scope (X.blk s0 H0 scope (compEnvC scope cl C X.env) fp) where
  eK := G.eK
  eM := G.eM
  eN := G.eN
  nd := G.nd
  vis := fun x h => by
    unfold visB at h
    split at h
    · rename_i e; exact .inl (lookup_relS_keep (sc := X.env.scope) (by decide) e)
    · rename_i e; exact .inr (.inl (lookup_relS_keep (sc := X.env.scope) (by decide) e))
    · rename_i e; exact .inr (rel_free (sc := X.env.scope) e)
    · cases h
  cf := fun x h => by
    rcases h with e | e
    · exact .inl (lookup_relS_keep (sc := X.env.scope) (by decide) e)
    · exact rel_free (sc := X.env.scope) e
  glo := fun x h => by
    unfold gloB at h
    split at h
    · rename_i e; exact lookup_relS_keep (sc := X.env.scope) (by decide) e
    · cases h
  sto := fun x h => by
    unfold stoB at h
    split at h
    · rename_i e; exact ⟨.inl (lookup_relS_keep (sc := X.env.scope) (by decide) e), .inr (lookup_relS_keep (sc := X.env.scope) (by decide) e)⟩
    · rename_i e; exact ⟨.inr (lookup_relS_keep (sc := X.env.scope) (by decide) e), .inl (by show (scope.names.lookup x == some .cell) = true; rw [e] <;> rfl)⟩
    · cases h
  fr := G.fr
  calm := G.calm
  room := G.room
  units := G.units
  gN := G.gN
  fN := G.fN
  cN := G.cN
  meth := G.meth
  init := G.init
  fld := G.fld
abbrev WF : WX := fun _ _ _ _ => False
theorem xe_false {u : Value} {s : Shared} {P : Prop} (h : XE X WF u s) : P := by
  obtain ⟨a, B, sI, pins, σ, H, cls, d, e, I, r⟩ := h
  exact absurd r.2.2.2.2.2.2 id
end

/-! ### targets -/
theorem ix_lt {N : List Str} {j : Nat} {y : Str} (h1 : N[j]? = some y) : j < N.length := by
  rcases Nat.lt_or_ge j N.length with z | z
  · exact z
  · rw [List.getElem?_eq_none z] at h1; cases h1
theorem tgs_lt {N : List Str} {sc : Scope} : ∀ {ts : List Nat} {xs : List PySem.Expr}, mTg.mTgs N sc ts xs = true → ∀ i ∈ ts, i < N.length
  | [], _, _ => fun _ h => nomatch h
  | _ :: _, [], h => ff h
  | i :: r, x :: xs, h => by
    cases x with
    | Name y p =>
      obtain ⟨h, h3⟩ := an (show (decide (N[i]? = some y) && stoB sc y && mTg.mTgs N sc r xs) = true from h)
      obtain ⟨h1, h2⟩ := an h
      intro j hj
      rcases (List.mem_cons.mp hj) with rfl | hj
      · exact ix_lt (of_decide_eq_true h1)
      · exact tgs_lt h3 j hj
    | _ => exact ff h
theorem tg_lt {N : List Str} {sc : Scope} {tg : Tg} {t : PySem.Expr} (h : mTg N sc tg t = true) : ∀ i ∈ tg.slots, i < N.length := by
  cases tg with
  | name i => cases t with
    | Name y p =>
      obtain ⟨h1, h2⟩ := an (show (decide (N[i]? = some y) && stoB sc y) = true from h)
      intro j hj
      obtain rfl : j = i := List.mem_singleton.mp hj
      exact ix_lt (of_decide_eq_true h1)
    | _ => exact ff h
  | tup ts => cases t with
    | Tuple xs j p => exact tgs_lt (show mTg.mTgs N sc ts xs = true from h)
    | _ => exact ff h
def gTs : List Nat → TGs
  | [] => gNil
  | i :: r => gCons (gName i) (gTs r)
def gTg (K : PySem.W.Frag) : Tg → TG
  | .name i => gName i
  | .tup ts => fun v σ H Q => gTup K ts.length (gTs ts) v σ H Q ∨ gUnl K ts.length (gTs ts) v σ H Q
section
variable {S : Sw} {M : Nms} {N : List Str} {wd : W} {k : Nat} {cm : Bool} {sc : Scope} {X : Cx}
theorem pg_or {t : PySem.Expr} {g g' : TG} (h : PG X t g) (h' : PG X t g') : PG X t (fun v σ H Q => g v σ H Q ∨ g' v σ H Q) := ⟨fun pins s σ H v u Q I r q => by
  rcases q with q | q
  · exact h.run pins s σ H v u Q I r q
  · exact h'.run pins s σ H v u Q I r q⟩
theorem tgs_ok (G : Gd S M N wd cm k sc X) : ∀ {ts : List Nat} {xs : List PySem.Expr}, mTg.mTgs N sc ts xs = true →
    PGs X xs (gTs ts) ∧ (assignEach xs X.env).length = ts.length ∧ (assignEach xs X.env).findIdx? (·.1) = none ∧ ∀ i ∈ ts, i < N.length
  | [], [], _ => ⟨pgs_nil, rfl, rfl, fun _ h => nomatch h⟩
  | [], _ :: _, h => ff h
  | _ :: _, [], h => ff h
  | i :: r, x :: xs, h => by
    cases x with
    | Name y p =>
      obtain ⟨h, h3⟩ := an (show (decide (N[i]? = some y) && stoB sc y && mTg.mTgs N sc r xs) = true from h)
      obtain ⟨h1, h2⟩ := an h
      have h1 := of_decide_eq_true h1
      obtain ⟨i1, i2, i3, i4⟩ := tgs_ok G h3
      obtain ⟨l1, l2⟩ := G.sto y h2
      refine ⟨pgs_cons (pg_name (by rw [G.eN]; exact G.nd) (by rw [G.eN]; exact h1) l1 l2) i1, ?_, ?_, fun j hj => ?_⟩
      · show (assignEach xs X.env).length + 1 = r.length + 1
        rw [i2]
      · show List.findIdx? (fun x => x.1) ((false, assign (.Name y p) X.env) :: assignEach xs X.env) = none
        rw [List.findIdx?_cons, i3]
        rfl
      · rcases (List.mem_cons.mp hj) with rfl | hj
        · rcases Nat.lt_or_ge j N.length with z | z
          · exact z
          · rw [List.getElem?_eq_none z] at h1; cases h1
        · exact i4 j hj
    | _ => exact ff h
theorem tg_ok (G : Gd S M N wd cm k sc X) (hc : cm = true) {tg : Tg} {t : PySem.Expr} (h : mTg N sc tg t = true) : PG X t (gTg X.K tg) ∧ ∀ i ∈ tg.slots, i < N.length := by
  cases tg with
  | name i => cases t with
    | Name y p =>
      obtain ⟨h1, h2⟩ := an (show (decide (N[i]? = some y) && stoB sc y) = true from h)
      have h1 := of_decide_eq_true h1
      obtain ⟨l1, l2⟩ := G.sto y h2
      refine ⟨pg_name (by rw [G.eN]; exact G.nd) (by rw [G.eN]; exact h1) l1 l2, fun j hj => ?_⟩
      obtain rfl : j = i := List.mem_singleton.mp hj
      rcases Nat.lt_or_ge j N.length with z | z
      · exact z
      · rw [List.getElem?_eq_none z] at h1; cases h1
    | _ => exact ff h
  | tup ts => cases t with
    | Tuple xs j p =>
      obtain ⟨i1, i2, i3, i4⟩ := tgs_ok G (show mTg.mTgs N sc ts xs = true from h)
      exact ⟨pg_or (pg_tup (G.calm hc) i1 i2 i3) (pg_unl (G.calm hc) i1 i2 i3), i4⟩
    | _ => exact ff h
end
section
variable {S : Sw} {F H : Hp} {K : PySem.W.Frag} {Q : L2.St → Hp → Prop}
theorem setTs_ok (P : L2.St → Env → Prop) : ∀ {ts : List Nat} {vs : List V} {ds : List D} {σ : L2.St} {ρ ρ1 : Env}, (∀ i v d σ ρ, i ∈ ts → P σ ρ → Rep S F H v d [] → P (σ.set i (some v)) (ρ.set i (some d))) → P σ ρ → setTs ts ds ρ = .ok ρ1 →
    Reps S F H vs ds [] → (∀ σ1, P σ1 ρ1 → Q σ1 H) → vs.length = ts.length ∧ gTs ts vs σ H Q
  | [], _, _, _, _, _, _, h0, hs, .nil, hQ => by
    cases hs
    exact ⟨rfl, rfl, hQ _ h0⟩
  | [], _, _, _, _, _, _, _, hs, .cons _ _ _, _ => nomatch hs
  | _ :: _, _, _, _, _, _, _, _, hs, .nil, _ => nomatch hs
  | i :: r, _, _, σ, ρ, ρ1, hP, h0, hs, .cons r1 rs e, hQ => by
    obtain ⟨e1, e2⟩ := List.append_eq_nil_iff.mp e.symm
    subst e1 e2
    have h0' := hP i _ _ σ ρ List.mem_cons_self h0 r1
    obtain ⟨l, g⟩ := setTs_ok P (fun j v d σ ρ hj => hP j v d σ ρ (List.mem_cons_of_mem _ hj)) h0' hs rs hQ
    exact ⟨congrArg (· + 1) l, _, _, rfl, g⟩
theorem setTg_ok (hK : K = S.K) (P : L2.St → Env → Prop) {tg : Tg} {x : V} {d : D} {σ : L2.St} {ρ ρ1 : Env} (hP : ∀ i v d σ ρ, i ∈ tg.slots → P σ ρ → Rep S F H v d [] → P (σ.set i (some v)) (ρ.set i (some d))) (h0 : P σ ρ) (hs : setTg tg d ρ = .ok ρ1)
    (r : Rep S F H x d []) (sF : Same F H) (hQ : ∀ σ1, P σ1 ρ1 → Q σ1 H) : gTg K tg x σ H Q := by
  subst hK
  cases tg with
  | name i =>
    cases hs
    exact hQ _ (hP i _ _ σ ρ (List.mem_singleton.mpr rfl) h0 r)
  | tup ts =>
    cases d with
    | tup ds =>
      obtain ⟨a, vs, rfl, hT, rs⟩ := r.tup' sF
      obtain ⟨l, g⟩ := setTs_ok P hP h0 hs rs hQ
      exact .inl ⟨a, vs, rfl, hT, l, g⟩
    | lst o ds =>
      obtain ⟨a, vs, B, rfl, hT, rs, hB⟩ := r.lst sF
      have hBn : B = [] := by
        cases B with
        | nil => rfl
        | cons b _ => exact nomatch (hB b List.mem_cons_self)
      subst hBn
      obtain ⟨l, g⟩ := setTs_ok P hP h0 hs rs hQ
      exact .inr ⟨a, vs, rfl, .inl (.inl hT), l, g⟩
    | _ => cases hs
end

/-! ### slots forgotten -/
theorem wipe_in {σ : L2.St} {i : Nat} : ∀ {vs : List Nat}, i ∈ vs → i < σ.length → (wipe σ vs)[i]? = some none
  | [], h, _ => nomatch h
  | v :: vs, h, hl => by
    unfold wipe
    by_cases e : v = i
    · subst e
      rw [List.getElem?_set_self (by rw [wipe_length]; exact hl)]
    · rw [List.getElem?_set_ne e]
      rcases (List.mem_cons.mp h) with z | z
      · exact absurd z.symm e
      · exact wipe_in z hl
theorem wipe_ext {σ τ : L2.St} {vs : List Nat} (hl : σ.length = τ.length) (h : ∀ i, i ∉ vs → σ[i]? = τ[i]?) : wipe σ vs = wipe τ vs := by
  refine List.ext_getElem? fun i => ?_
  by_cases hi : i ∈ vs
  · by_cases hb : i < σ.length
    · rw [wipe_in hi hb, wipe_in hi (by omega)]
    · rw [List.getElem?_eq_none (by rw [wipe_length]; omega), List.getElem?_eq_none (by rw [wipe_length]; omega)]
  · rw [wipe_out hi, wipe_out hi, h i hi]
theorem wipeE_get {ρ : Env} {i : Nat} {d : D} : ∀ {vs : List Nat}, (wipeE ρ vs).get i = some d → ρ.get i = some d ∧ i ∉ vs
  | [], h => ⟨h, fun z => nomatch z⟩
  | v :: vs, h => by
    unfold wipeE at h
    by_cases e : v = i
    · subst e
      exfalso
      unfold Env.get at h
      by_cases hl : v < (wipeE ρ vs).length
      · rw [List.getElem?_set_self hl] at h; cases h
      · rw [List.getElem?_eq_none (by simpa using hl)] at h; cases h
    · have h : (wipeE ρ vs).get i = some d := by
        unfold Env.get at h ⊢
        rwa [List.getElem?_set_ne e] at h
      obtain ⟨h1, h2⟩ := wipeE_get h
      exact ⟨h1, fun z => by
        rcases (List.mem_cons.mp z) with q | q
        · exact e q.symm
        · exact h2 q⟩
theorem Env.get_set {ρ : Env} {i j : Nat} {d e : D} (h : Env.get (ρ.set i (some d)) j = some e) : (j = i ∧ e = d) ∨ (j ≠ i ∧ ρ.get j = some e) := by
  by_cases q : j = i
  · subst q
    left
    unfold Env.get at h
    by_cases hl : j < ρ.length
    · rw [List.getElem?_set_self hl] at h
      exact ⟨rfl, (Option.some.inj h).symm⟩
    · rw [List.getElem?_eq_none (by simpa using hl)] at h; cases h
  · right
    refine ⟨q, ?_⟩
    unfold Env.get at h ⊢
    rwa [List.getElem?_set_ne (fun e => q e.symm)] at h
section
variable {S : Sw} {F : Hp} {σ : L2.St} {ρ : Env} {vs own : List Nat}
theorem EnvS.wipe (h : EnvS S F σ ρ vs) : EnvS S F (L2.wipe σ own) (wipeE ρ own) vs := fun j hj d e => by
  obtain ⟨h1, h2⟩ := wipeE_get e
  obtain ⟨v, h3, h4⟩ := h j hj d h1
  exact ⟨v, by rw [wipe_out h2]; exact h3, h4⟩
theorem EnvS.set {i : Nat} {v : V} {d : D} {H : Hp} (h : EnvS S F σ ρ vs) (hi : i < σ.length) (r : Rep S F H v d []) : EnvS S F (σ.set i (some v)) (ρ.set i (some d)) vs := fun j hj e q => by
  rcases Env.get_set q with ⟨rfl, rfl⟩ | ⟨n, q⟩
  · exact ⟨v, List.getElem?_set_self hi, r.mono (Same.refl _) fun b hb => nomatch hb⟩
  · obtain ⟨u, h3, h4⟩ := h j hj e q
    exact ⟨u, by rw [List.getElem?_set_ne (fun e => n e.symm)]; exact h3, h4⟩
end

/-! ### the owned ones change -/
theorem Ext.chg {F H F' H' : Hp} {A B : List Addr} {p : Addr} {o : HO} (e : Ext F H A F' H' B) (hp : p ∈ B) (hA : p ∉ A → H p = none) : Ext F H A F' (upd H' p o) B where
  sub := fun b u q => by
    have n : b ≠ p := fun z => by
      subst z
      rw [(e.own b hp).1] at q; cases q
    rw [upd_ne n]; exact e.sub b u q
  subF := e.subF
  same := fun b u q n => by
    have n2 : b ≠ p := fun z => by
      subst z
      rw [hA n] at q; cases q
    rw [upd_ne n2]; exact e.same b u q n
  new := e.new
  one := e.one
  own := e.own
  dom := fun b hb => by
    by_cases z : b = p
    · subst z; exact ⟨o, upd_same⟩
    · rw [upd_ne z]; exact e.dom b hb
theorem Ext.chg0 {F H F' H' : Hp} {B : List Addr} {p : Addr} {o : HO} (e : Ext0 F H F' H' B) (hp : p ∈ B) : Ext0 F H F' (upd H' p o) B := e.chg hp fun _ => by
  rcases (e.own p hp).2 with z | z
  · exact z
  · cases z

/-! ### comprehensions -/
theorem R.bind_assoc {α β γ : Type} (x : R α) (f : α → R β) (g : β → R γ) : (x.bind f).bind g = x.bind fun a => (f a).bind g := by cases x <;> rfl
theorem bind_ok_inv {α β : Type} {x : R α} {f : α → R β} {b : β} (h : x.bind f = .ok b) : ∃ a, x = .ok a ∧ f a = .ok b := by
  cases x with
  | ok a => exact ⟨a, rfl, h⟩
  | ex c fs => cases h
  | bad => cases h
theorem compL_cons {step : D → Env → R (Option D)} {d : D} {ds : List D} {ρ : Env} {r : List D} (h : compL step (d :: ds) ρ = .ok r) : ∃ o r', step d ρ = .ok o ∧ compL step ds ρ = .ok r' ∧ r = (match o with
    | some x => x :: r'
    | none => r') := by
  obtain ⟨o, h1, h2⟩ := bind_ok_inv (show (step d ρ).bind (fun o => (compL step ds ρ).bind fun r => R.ok (match o with
    | some x => x :: r
    | none => r)) = .ok r from h)
  obtain ⟨r', h3, h4⟩ := bind_ok_inv h2
  exact ⟨o, r', h1, h3, (R.ok.inj h4).symm⟩
theorem noEx_ok {α β : Type} {S : Sw} {F H : Hp} {r : R α} {f : α → R β} {P : β → Prop} {W : XK} (h : PX S F H ((noEx r).bind f) P W) : ∃ a, r = .ok a ∧ PX S F H (f a) P W := by
  cases r with
  | ok a => exact ⟨a, rfl, h⟩
  | ex c fs => exact h.elim
  | bad => exact h.elim
theorem fold_ok {x : PySem.Expr} {env : PySem.Env} {v : Value} (h : plainX x = true) : foldedSetIterable x env v = pure v := by
  cases x <;> first | exact ff h | rfl
theorem mi_plain {M : Nms} {N : List Str} {cm : Bool} {sc : Scope} {tt : Bool} {e : Ex} {x : PySem.Expr} (h : mI M N cm sc tt e x = true) : plainX x = true := by
  cases e with
  | pln a => exact (an (show (plainX x && mE M N cm sc false a x) = true from h)).1
  | _ => cases x <;> first | exact ff h | rfl
theorem re_len {X : Cx} {x : PySem.Expr} {σ : L2.St} {H : Hp} {Q : VK} {W : WX} (h : σ.length = X.N.length → RE X x σ H Q W) : RE X x σ H Q W := fun pins s I => h I.len pins s I
def blkB (N : List Str) (sc scope : Scope) (own : List Nat) (tg : Tg) : Bool := blkC N sc scope (ownP N own) && tg.slots.all own.contains && decide ((ownP N own).map (·.2) = own)
section
variable {S : Sw} {M : Nms} {N : List Str} {wd : W} {k : Nat}
theorem blk_ok {cm : Bool} {sc scope : Scope} {X : Cx} (G : Gd S M N wd cm k sc X) {own : List (Str × Nat)} (h : blkC N sc scope own = true) : BlkOk X.N X.env.scope scope own := by
  have b := blkOk_by h
  rw [← G.eN] at b
  exact ⟨b.kind, b.uniq, b.ix, fun y hy e => G.cf _ (b.free y hy e), b.own⟩
/-- the tests of a block -/
def ifB (M : Nms) (N : List Str) (cm : Bool) (scope : Scope) (c : Ex) (ifs : List PySem.Expr) : Bool := match ifs with
  | [] => (match c with
    | .bl true => true
    | _ => false)
  | [x] => plainX x && mE M N cm scope true c x
  | _ => false
def RTs (X : Cx) (ifs : List PySem.Expr) (σ : L2.St) (H : Hp) (Q : Bool → Hp → Prop) : Prop := match ifs with
  | [] => Q true H
  | [x] => RT X x σ H Q WF
  | _ => False
theorem ifs_ok {X' : Cx} (hx : ∀ u s, ¬ X'.xe u s ∨ True) {ifs : List PySem.Expr} (hl : ifs.length ≤ 1) : PTs X' ifs (fun σ H Q => RTs X' ifs σ H Q) := by
  cases ifs with
  | nil => exact pts_nil
  | cons x xs => cases xs with
    | cons _ _ => simp at hl
    | nil => exact pts_one ⟨fun pins s σ H Q I h => wpAny_mono (h pins s I) (fun _ _ z => z) fun _ _ z => xe_false z⟩
theorem ifs_run {cm : Bool} {scope : Scope} {X' : Cx} {c : Ex} {ifs : List PySem.Expr} (hc : STs S M N wd k c) (G : Gd S M N wd cm k scope X') (h : ifB M N cm scope c ifs = true) {F H : Hp} {σ : L2.St} {ρ : Env} (sF : Same F H) (hρ : EnvS S F σ ρ (vars c)) {b : Bool}
    (he : ev wd none true c ρ = .ok (.bl b)) {Q : Bool → Hp → Prop} (hQ : ∀ F' H', Ext0 F H F' H' [] → Q b H') : RTs X' ifs σ H Q := by
  cases ifs with
  | nil =>
    have : b = true := by
      cases c <;> first | exact ff h | skip
      rename_i b'
      cases b' with
      | true => cases he; rfl
      | false => exact ff h
    subst this
    exact hQ F H (Ext.refl0 sF)
  | cons x xs => cases xs with
    | cons _ _ => exact ff h
    | nil =>
      obtain ⟨h1, h2⟩ := an (show (plainX x && mE M N cm scope true c x) = true from h)
      refine hc x scope cm X' G h2 F H σ ρ sF hρ Q WF ?_
      rw [he]
      exact hQ
theorem compK_cons {step : D → Env → R (Option (Key × D))} {d : D} {ds : List D} {ρ : Env} {acc r : List (Key × D)} (h : compK step (d :: ds) ρ acc = .ok r) : ∃ o, step d ρ = .ok o ∧ compK step ds ρ (match o with
    | some x => setK acc x.1 x.2
    | none => acc) = .ok r := bind_ok_inv h
theorem setK_len (kvs : List (Key × D)) (k : Key) (v : D) : kvs.length ≤ (setK kvs k v).length := by
  unfold setK
  split
  · rw [List.length_map]; exact Nat.le_refl _
  · rw [List.length_append]; exact Nat.le_add_right _ _
theorem compK_len {step : D → Env → R (Option (Key × D))} : ∀ {ds : List D} {ρ : Env} {acc r : List (Key × D)}, compK step ds ρ acc = .ok r → acc.length ≤ r.length
  | [], _, _, _, h => by cases h; exact Nat.le_refl _
  | d :: ds, ρ, acc, r, h => by
    obtain ⟨o, h1, h2⟩ := compK_cons h
    have := compK_len h2
    cases o with
    | none => exact this
    | some x => exact Nat.le_trans (setK_len acc x.1 x.2) this
theorem putK_nodup {vs : List (Key × V)} {k : Key} {v : V} (h : (vs.map (·.1)).Nodup) : ((putK vs k v).map (·.1)).Nodup := by
  unfold putK
  split
  · have : (vs.map fun kv => if kv.1 = k then (kv.1, v) else kv).map (·.1) = vs.map (·.1) := by
      rw [List.map_map]
      refine List.map_congr_left fun p _hp => ?_
      show (if p.1 = k then (p.1, v) else p).1 = p.1
      split <;> rfl
    rw [this]; exact h
  · rename_i hn
    rw [List.map_append]
    refine List.nodup_append.mpr ⟨h, by simp, fun a ha b hb => ?_⟩
    have hb : b = k := by simpa using hb
    subst hb
    intro e
    subst e
    obtain ⟨p, hp, rfl⟩ := List.mem_map.mp ha
    exact hn (List.any_eq_true.mpr ⟨p, hp, decide_eq_true rfl⟩)
theorem RepK.append {S : Sw} {F H : Hp} : ∀ {vs us : List (Key × V)} {ds es : List (Key × D)} {A B : List Addr}, RepK S F H vs ds A → RepK S F H us es B → RepK S F H (vs ++ us) (ds ++ es) (A ++ B)
  | _, _, _, _, _, _, .nil, q => q
  | _, _, _, _, _, _, .cons r rs e, r2 => .cons r (rs.append r2) (by rw [e, List.append_assoc])
theorem RepK.mapN {S : Sw} {F H : Hp} {k : Key} {v : V} {d : D} : ∀ {vs : List (Key × V)} {ds : List (Key × D)} {A : List Addr}, RepK S F H vs ds A → k ∉ vs.map (·.1) →
    RepK S F H (vs.map fun kv => if kv.1 = k then (kv.1, v) else kv) (ds.map fun kv => if kv.1 = k then (kv.1, d) else kv) A
  | _, _, _, .nil, _ => .nil
  | _, _, _, .cons (k := j) r rs e, h => by
    have h1 : ¬ j = k := fun z => h (by rw [z]; exact List.mem_cons_self)
    rw [List.map_cons, List.map_cons, if_neg h1, if_neg h1]
    exact .cons r (rs.mapN fun z => h (List.mem_cons_of_mem _ z)) e
theorem RepK.mapY {S : Sw} {F H : Hp} {k : Key} {v : V} {d : D} {B : List Addr} (rv : Rep S F H v d B) : ∀ {vs : List (Key × V)} {ds : List (Key × D)} {A : List Addr}, RepK S F H vs ds A → (vs.map (·.1)).Nodup →
    ∃ A', RepK S F H (vs.map fun kv => if kv.1 = k then (kv.1, v) else kv) (ds.map fun kv => if kv.1 = k then (kv.1, d) else kv) A' ∧ ∀ b, A'.count b ≤ A.count b + B.count b
  | _, _, _, .nil, _ => ⟨[], .nil, fun _ => Nat.zero_le _⟩
  | _, _, _, .cons (k := j) (v := v0) (d := d0) (vs := vs) (ds := ds) (A := A1) (B := B1) r rs e, h => by
    obtain ⟨h1, h2⟩ := List.nodup_cons.mp (show (j :: vs.map (·.1)).Nodup from h)
    simp only [List.map_cons]
    by_cases hj : j = k
    · rw [if_pos hj, if_pos hj]
      subst hj
      exact ⟨B ++ B1, .cons rv (rs.mapN h1) rfl, fun b => by rw [e, List.count_append, List.count_append]; omega⟩
    · rw [if_neg hj, if_neg hj]
      obtain ⟨A', i1, i2⟩ := rs.mapY rv h2
      exact ⟨A1 ++ A', .cons r i1 rfl, fun b => by have := i2 b; rw [e, List.count_append, List.count_append]; omega⟩
theorem RepK.any {S : Sw} {F H : Hp} (k : Key) : ∀ {vs : List (Key × V)} {ds : List (Key × D)} {A : List Addr}, RepK S F H vs ds A → (vs.any fun kv => decide (kv.1 = k)) = ds.any fun kv => decide (kv.1 = k)
  | _, _, _, .nil => rfl
  | _, _, _, .cons r rs e => by rw [List.any_cons, List.any_cons, rs.any k]
theorem RepK.set {S : Sw} {F H : Hp} {v : V} {d : D} {B A : List Addr} {vs : List (Key × V)} {ds : List (Key × D)} (r : RepK S F H vs ds A) (hnd : (vs.map (·.1)).Nodup) (k : Key) (rv : Rep S F H v d B) :
    ∃ A', RepK S F H (putK vs k v) (setK ds k d) A' ∧ ∀ b, A'.count b ≤ A.count b + B.count b := by
  unfold putK setK
  rw [r.any k]
  split
  · exact r.mapY rv hnd
  · exact ⟨A ++ B, r.append (.cons rv .nil (List.append_nil _).symm), fun b => by rw [List.count_append]; exact Nat.le_refl _⟩
abbrev bTT (X : Cx) (scope : Scope) (ifs : List PySem.Expr) : TT := fun σ H Q => ∀ (s0 : Shared) (H0 : Hp) (C : Addr) (cl : List (Str × Addr)) (fp : List Addr), RTs (X.blk s0 H0 scope (compEnvC scope cl C X.env) fp) ifs σ H Q
abbrev bTE (X : Cx) (scope : Scope) (e : PySem.Expr) : TE := fun σ H Q => ∀ (s0 : Shared) (H0 : Hp) (C : Addr) (cl : List (Str × Addr)) (fp : List Addr), RE (X.blk s0 H0 scope (compEnvC scope cl C X.env) fp) e σ H Q WF
theorem bte_ok {X : Cx} {scope : Scope} {e : PySem.Expr} {s0 : Shared} {H0 : Hp} {C : Addr} {cl : List (Str × Addr)} {fp : List Addr} : PE (X.blk s0 H0 scope (compEnvC scope cl C X.env) fp) e (bTE X scope e) :=
  ⟨fun pins s σ H Q I h => wpAny_mono (h s0 H0 C cl fp pins s I) (fun _ _ z => z) fun _ _ z => xe_false z⟩
theorem btt_ok {X : Cx} {scope : Scope} {ifs : List PySem.Expr} (hl : ifs.length ≤ 1) {s0 : Shared} {H0 : Hp} {C : Addr} {cl : List (Str × Addr)} {fp : List Addr} : PTs (X.blk s0 H0 scope (compEnvC scope cl C X.env) fp) ifs (bTT X scope ifs) :=
  ⟨fun pins s σ H Q I h => (ifs_ok (X' := X.blk s0 H0 scope (compEnvC scope cl C X.env) fp) (fun _ _ => .inr trivial) hl).run pins s σ H Q I (h s0 H0 C cl fp)⟩
theorem lcp_rd {tg : Tg} {it c e : Ex} {own : List Nat} (hi : SI S M N wd k it) (hc : STs S M N wd k c) (he : SE S M N wd k e) {elt t i : PySem.Expr} {ifs : List PySem.Expr} {scope sc : Scope} {p : Pos} {cm mm : Bool} {X : Cx} (G : Gd S M N wd cm k sc X) (m : mE M N cm sc mm (.lcp tg it c e own) (.ListComp elt [⟨t, i, ifs, 0⟩] scope p) = true)
    {F H : Hp} {σ : L2.St} {ρ : Env} (sF : Same F H) (hρ : EnvS S F σ ρ (vars (.lcp tg it c e own))) {Q : VK} {W : WX} (hq : PR S F H (ev wd none false (.lcp tg it c e own) ρ) Q (wc W σ)) (hlen : σ.length = X.N.length) : tLc (fun σ H R => RI X t i σ H R W) (gTg X.K tg) (bTT X scope ifs) (bTE X scope elt) ((ownP N own).map (·.2)) σ H Q := by
  obtain ⟨m, m9⟩ := an (show (cm && mI M N cm sc (isTup t) it i && mTg N scope tg t && blkC N sc scope (ownP N own) && tg.slots.all own.contains && decide ((ownP N own).map (·.2) = own) && ifB M N cm scope c ifs && plainX elt && mE M N cm scope false e elt) = true from m)
  obtain ⟨m, m8⟩ := an m
  obtain ⟨m, m7⟩ := an m
  obtain ⟨m, m6⟩ := an m
  obtain ⟨m, m5⟩ := an m
  obtain ⟨m, m4⟩ := an m
  obtain ⟨m, m3⟩ := an m
  obtain ⟨m1, m2⟩ := an m
  have m6 := of_decide_eq_true m6
  have hifs : ifs.length ≤ 1 := by
    cases ifs with
    | nil => simp
    | cons _ xs => cases xs with
      | nil => simp
      | cons _ _ => exact ff m7
  have Gb := fun s0 H0 C cl fp => Gd.blk (scope := scope) G s0 H0 C cl fp
  have hlt : ∀ i ∈ tg.slots, i < N.length := tg_lt m3
  rw [m6]
  generalize hst : (fun (d : D) (ρ : Env) => (setTg tg d ρ).bind fun ρ1 => (boolsR (ev wd none true c ρ1)).bind fun k => if k then (ev wd none false e ρ1).bind fun x => R.ok (some x) else R.ok none) = step
  have hq : PX S F H (((ev wd none false it ρ).bind itemsD).bind fun xs => (noEx (compL step xs (wipeE ρ own))).bind fun r => if r.length ≤ sizeLine then .ok (.lst true r) else .bad) (fun d => Post S F H d Q) (wc W σ) := by
    rw [R.bind_assoc, ← hst]
    exact hq
  refine hi t i sc cm X G m2 F H σ ρ sF hρ.l.l [] (fun _ h => nomatch h) (.inl rfl) _ W ?_
  refine PX.imp (PX.bind hq) fun xs _ hx J F1 H1 e1 wq => ?_
  rw [cutH_nil] at wq
  obtain ⟨r, hr, hx⟩ := noEx_ok hx
  obtain ⟨hsz, hx⟩ := ite_ok hx
  intro Dl nD
  let W0 : Nat → Hp → Prop := fun i H' => ∃ F' vs rs rest A, Ext0 F1 H1 F' H' (Dl :: A) ∧ H' Dl = some (.lst vs) ∧ Reps S F' H' vs rs A ∧ compL step (xs.drop i) (wipeE ρ own) = .ok rest ∧ rs ++ rest = r
  refine ⟨fun i m H' => m = xs.length - i ∧ i ≤ xs.length ∧ W0 i H', ⟨xs.length, by simp, Nat.zero_le _, F1, [], [], r, [], Ext.lay0 e1.sub nD, upd_same, .nil, hr, rfl⟩, ?_⟩
  rintro i m H' ⟨rfl, hi2, F', vs, rs, rest, A, ex, hD, rr, hc1, hc2⟩
  obtain ⟨w1, w2⟩ := wq F' H' ex.subF ex.sub
  by_cases hlt2 : i < xs.length
  · right
    obtain ⟨go, yl⟩ := w1 i hlt2
    refine ⟨go, W0 (i + 1), fun H2 z => ⟨xs.length - (i + 1), by omega, rfl, hlt2, z⟩, fun x H2 y => ?_⟩
    obtain ⟨F2, d, hd, e2, rx⟩ := yl x H2 y
    rw [List.drop_eq_getElem_cons hlt2] at hc1
    have hd' : xs[i] = d := by
      rw [List.getElem?_eq_getElem hlt2] at hd
      exact Option.some.inj hd
    rw [hd'] at hc1
    obtain ⟨o, rest', s1, s2, s3⟩ := compL_cons hc1
    rw [← hst] at s1
    obtain ⟨ρ1, t1, s1⟩ := bind_ok_inv s1
    obtain ⟨b, t2, s1⟩ := bind_ok_inv s1
    have t2 : ev wd none true c ρ1 = .ok (.bl b) := by
      obtain ⟨d', q1, q2⟩ := bind_ok_inv t2
      cases d' <;> first | (cases q2; exact q1) | cases q2
    have e02 : Ext0 F1 H1 F2 H2 (Dl :: A) := (ex.seq0 e2).drop0 fun b => by rw [List.append_nil]; exact Nat.le_refl _
    have hD2 : H2 Dl = some (.lst vs) := e2.same0 _ _ hD
    have rr2 : Reps S F2 H2 vs rs A := rr.mono e2.subF fun b hb => by
      obtain ⟨o, qq⟩ := ex.dom b (List.mem_cons_of_mem _ hb)
      rw [qq]; exact e2.same0 b o qq
    refine setTg_ok (S := S) (F := F2) (H := H2) G.eK (fun σ' ρ' => σ'.length = σ.length ∧ EnvS S F2 σ' ρ' (vars c ++ vars e) ∧ wipe σ' own = wipe σ own) (fun j v d σ' ρ' hj hP rv => ?_) ?_ t1 rx e2.sub fun σ1 hP => ?_
    · obtain ⟨p1, p2, p3⟩ := hP
      have hjl : j < σ'.length := by rw [p1, hlen, G.eN]; exact hlt j hj
      refine ⟨by rw [List.length_set]; exact p1, p2.set hjl rv, ?_⟩
      rw [← p3]
      refine wipe_ext (by rw [List.length_set]) fun n hn => ?_
      have hjo : j ∈ own := by
        have := List.all_eq_true.mp m5 j hj
        simpa using this
      rw [List.getElem?_set_ne (fun z => hn (by rw [← z]; exact hjo))]
    · refine ⟨wipe_length _ _, ?_, wipe_ext (wipe_length _ _) fun n hn => wipe_out hn⟩
      have h1 : EnvS S F σ ρ (vars c ++ vars e) := hρ.sub fun j hj => by
        show j ∈ vars it ++ vars c ++ vars e
        rcases (List.mem_append.mp hj) with z | z
        · exact List.mem_append_left _ (List.mem_append_right _ z)
        · exact List.mem_append_right _ z
      exact EnvS.wipe (h1.mono (e1.subF.trans (ex.subF.trans e2.subF)))
    · obtain ⟨p1, p2, p3⟩ := hP
      refine ⟨p3, fun s0 H0 C cl fp => ?_⟩
      refine ifs_run hc (Gb s0 H0 C cl fp) m7 e2.sub p2.l t2 fun F3 H3 e3 => ?_
      have e03 : Ext0 F1 H1 F3 H3 (Dl :: A) := (e02.seq0 e3).drop0 fun b => by rw [List.append_nil]; exact Nat.le_refl _
      have hD3 : H3 Dl = some (.lst vs) := e3.same0 _ _ hD2
      have rr3 : Reps S F3 H3 vs rs A := rr2.mono e3.subF fun b hb => by
        obtain ⟨o, qq⟩ := e02.dom b (List.mem_cons_of_mem _ hb)
        rw [qq]; exact e3.same0 b o qq
      cases b with
      | false =>
        rw [if_neg (Bool.false_ne_true)]
        have : o = none := by
          have := R.ok.inj s1
          exact this.symm
        subst this
        exact ⟨F3, vs, rs, rest', A, e03, hD3, rr3, s2, by rw [← hc2, s3]⟩
      | true =>
        rw [if_pos rfl]
        obtain ⟨dx, u1, u2⟩ := bind_ok_inv (show (ev wd none false e ρ1).bind (fun x => R.ok (some x)) = .ok o from s1)
        have : o = some dx := (R.ok.inj u2).symm
        subst this
        have s3 : rest = dx :: rest' := s3
        subst s3
        intro s0 H0 C cl fp
        refine he elt scope cm _ (Gb s0 H0 C cl fp) m9 F3 H3 σ1 ρ1 e3.sub (p2.r.mono e3.subF) _ WF ?_
        rw [u1]
        intro v F4 H4 A4 e4 r4
        have e04 : Ext0 F1 H1 F4 H4 (Dl :: A ++ A4) := e03.seq0 e4
        have hD4 : H4 Dl = some (.lst vs) := e4.same0 _ _ hD3
        have cnt := e04.one Dl
        have nA : Dl ∉ A ++ A4 := fun z => by
          have h1 := mem_count z
          rw [List.cons_append, List.count_cons] at cnt
          rw [beq_self_eq_true, if_pos rfl] at cnt
          omega
        refine ⟨vs, hD4, ?_, F4, vs ++ [v], rs ++ [dx], rest', A ++ A4, e04.chg0 (List.mem_cons_self), upd_same, ?_, s2, by rw [← hc2]; simp⟩
        · have h1 := rr.len
          have h2 : (rs ++ dx :: rest').length = r.length := by rw [hc2]
          simp at h2
          omega
        · refine Reps.append (rr3.mono e4.subF fun b hb => ?_) (.cons (r4.mono (Same.refl _) fun b hb => ?_) .nil (List.append_nil _).symm)
          · rw [upd_ne (fun z => nA (List.mem_append_left _ (by rw [← z]; exact hb)))]
            obtain ⟨o, qq⟩ := e03.dom b (List.mem_cons_of_mem _ hb)
            rw [qq]; exact e4.same0 b o qq
          · rw [upd_ne (fun z => nA (List.mem_append_right _ (by rw [← z]; exact hb)))]
  · left
    have hn : i = xs.length := by omega
    refine ⟨w2 i (by omega), ?_⟩
    rw [hn, List.drop_length] at hc1
    have : rest = [] := (R.ok.inj hc1).symm
    subst this
    rw [List.append_nil] at hc2
    subst hc2
    exact hx _ F' H' _ ((e1.seq0 ex).drop0 fun b => by rw [List.nil_append]; exact Nat.le_refl _) (.lstO hD rr rfl)
theorem lcp_fc {tg : Tg} {it c e : Ex} {own : List Nat} {elt t i : PySem.Expr} {ifs : List PySem.Expr} {scope sc : Scope} {p : Pos} {cm mm : Bool} {X : Cx} (G : Gd S M N wd cm k sc X) (m : mE M N cm sc mm (.lcp tg it c e own) (.ListComp elt [⟨t, i, ifs, 0⟩] scope p) = true) :
    X.calm = true ∧ X.N.Nodup ∧ BlkOk X.N X.env.scope scope (ownP N own) ∧ (∀ (s0 : Shared) (H0 : Hp) (C : Addr) (cl : List (Str × Addr)) (fp : List Addr), PG (X.blk s0 H0 scope (compEnvC scope cl C X.env) fp) t (gTg X.K tg)) ∧
    (∀ (s0 : Shared) (H0 : Hp) (C : Addr) (cl : List (Str × Addr)) (fp : List Addr), PTs (X.blk s0 H0 scope (compEnvC scope cl C X.env) fp) ifs (bTT X scope ifs)) ∧ (∀ (s0 : Shared) (H0 : Hp) (C : Addr) (cl : List (Str × Addr)) (fp : List Addr), PE (X.blk s0 H0 scope (compEnvC scope cl C X.env) fp) elt (bTE X scope elt)) ∧ ∀ x, foldedSetIterable i X.env x = pure x := by
  obtain ⟨m, m9⟩ := an (show (cm && mI M N cm sc (isTup t) it i && mTg N scope tg t && blkC N sc scope (ownP N own) && tg.slots.all own.contains && decide ((ownP N own).map (·.2) = own) && ifB M N cm scope c ifs && plainX elt && mE M N cm scope false e elt) = true from m)
  obtain ⟨m, m8⟩ := an m
  obtain ⟨m, m7⟩ := an m
  obtain ⟨m, m6⟩ := an m
  obtain ⟨m, m5⟩ := an m
  obtain ⟨m, m4⟩ := an m
  obtain ⟨m, m3⟩ := an m
  obtain ⟨m1, m2⟩ := an m
  have hifs : ifs.length ≤ 1 := by
    cases ifs with
    | nil => simp
    | cons _ xs => cases xs with
      | nil => simp
      | cons _ _ => exact ff m7
  exact ⟨G.calm m1, (by rw [G.eN]; exact G.nd), blk_ok G m4, fun s0 H0 C cl fp => (tg_ok (Gd.blk (scope := scope) G s0 H0 C cl fp) m1 m3).1, fun s0 H0 C cl fp => btt_ok hifs, fun s0 H0 C cl fp => bte_ok, fun _ => fold_ok (mi_plain m2)⟩
theorem se_lcp {tg : Tg} {it c e : Ex} {own : List Nat} (hi : SI S M N wd k it) (hc : STs S M N wd k c) (he : SE S M N wd k e) : SE S M N wd k (.lcp tg it c e own) := by
  intro x sc cm X G m F H σ ρ sF hρ Q W hq
  cases x with
  | ListComp elt gs scope p =>
    cases gs with
    | nil => exact ff m
    | cons g gs =>
      obtain ⟨t, i, ifs, as⟩ := g
      cases as with
      | negSucc _ => cases gs <;> exact ff m
      | ofNat n => cases n with
        | succ _ => cases gs <;> exact ff m
        | zero => cases gs with
        | cons _ _ => exact ff m
        | nil =>
          obtain ⟨f1, f2, f3, f4, f5, f6, f7⟩ := lcp_fc G m
          refine re_len fun hlen => ?_
          exact re_of (pe_lc (X := Cx.xw X W) f1 f2 pi_can f3 f4 f5 f6 f7) (lcp_rd hi hc he G m sF hρ hq hlen)
  | _ => exact ff m
theorem dcp_rd {tg : Tg} {it c eA eB : Ex} {own : List Nat} (hi : SI S M N wd k it) (hc : STs S M N wd k c) (he1 : SE S M N wd k eA) (he2 : SE S M N wd k eB) {kx vx t i : PySem.Expr} {ifs : List PySem.Expr} {scope sc : Scope} {p : Pos} {cm mm : Bool} {X : Cx} (G : Gd S M N wd cm k sc X) (m : mE M N cm sc mm (.dcp tg it c eA eB own) (.DictComp kx vx [⟨t, i, ifs, 0⟩] scope p) = true)
    {F H : Hp} {σ : L2.St} {ρ : Env} (sF : Same F H) (hρ : EnvS S F σ ρ (vars (.dcp tg it c eA eB own))) {Q : VK} {W : WX} (hq : PR S F H (ev wd none false (.dcp tg it c eA eB own) ρ) Q (wc W σ)) (hlen : σ.length = X.N.length) : tDc (fun σ H R => RI X t i σ H R W) (gTg X.K tg) (bTT X scope ifs) (bTE X scope kx) (bTE X scope vx) ((ownP N own).map (·.2)) σ H Q := by
  obtain ⟨m, m11⟩ := an (show (cm && mI M N cm sc (isTup t) it i && mTg N scope tg t && blkC N sc scope (ownP N own) && tg.slots.all own.contains && decide ((ownP N own).map (·.2) = own) && ifB M N cm scope c ifs && plainX kx && mE M N cm scope false eA kx && plainX vx && mE M N cm scope false eB vx) = true from m)
  obtain ⟨m, m10⟩ := an m
  obtain ⟨m, m9⟩ := an m
  obtain ⟨m, m8⟩ := an m
  obtain ⟨m, m7⟩ := an m
  obtain ⟨m, m6⟩ := an m
  obtain ⟨m, m5⟩ := an m
  obtain ⟨m, m4⟩ := an m
  obtain ⟨m, m3⟩ := an m
  obtain ⟨m1, m2⟩ := an m
  have m6 := of_decide_eq_true m6
  have hifs : ifs.length ≤ 1 := by
    cases ifs with
    | nil => simp
    | cons _ xs => cases xs with
      | nil => simp
      | cons _ _ => exact ff m7
  have Gb := fun s0 H0 C cl fp => Gd.blk (scope := scope) G s0 H0 C cl fp
  have hlt : ∀ i ∈ tg.slots, i < N.length := tg_lt m3
  rw [m6]
  generalize hst : (fun (d : D) (ρ : Env) => (setTg tg d ρ).bind fun ρ1 => (boolsR (ev wd none true c ρ1)).bind fun b => if b then (ev wd none false eA ρ1).bind fun x => (ev wd none false eB ρ1).bind fun y => (match keyOf x with
    | some k => R.ok (some (k, y))
    | none => .bad) else R.ok none) = step
  have hq : PX S F H (((ev wd none false it ρ).bind itemsD).bind fun xs => (noEx (compK step xs (wipeE ρ own) [])).bind fun r => if r.length < sizeLine then .ok (.dct true r) else .bad) (fun d => Post S F H d Q) (wc W σ) := by
    rw [R.bind_assoc, ← hst]
    exact hq
  refine hi t i sc cm X G m2 F H σ ρ sF hρ.l.l.l [] (fun _ h => nomatch h) (.inl rfl) _ W ?_
  refine PX.imp (PX.bind hq) fun xs _ hx J F1 H1 e1 wq => ?_
  rw [cutH_nil] at wq
  obtain ⟨r, hr, hx⟩ := noEx_ok hx
  obtain ⟨hsz, hx⟩ := ite_ok hx
  intro Dl nD
  let W0 : Nat → Hp → Prop := fun i H' => ∃ F' vs rs A, Ext0 F1 H1 F' H' (Dl :: A) ∧ H' Dl = some (.dK vs) ∧ (vs.map (·.1)).Nodup ∧ RepK S F' H' vs rs A ∧ compK step (xs.drop i) (wipeE ρ own) rs = .ok r
  refine ⟨fun i m H' => m = xs.length - i ∧ i ≤ xs.length ∧ W0 i H', ⟨xs.length, by simp, Nat.zero_le _, F1, [], [], [], Ext.lay0 e1.sub nD, upd_same, List.nodup_nil, .nil, hr⟩, ?_⟩
  rintro i m H' ⟨rfl, hi2, F', vs, rs, A, ex, hD, hnd, rr, hc1⟩
  obtain ⟨w1, w2⟩ := wq F' H' ex.subF ex.sub
  by_cases hlt2 : i < xs.length
  · right
    obtain ⟨go, yl⟩ := w1 i hlt2
    refine ⟨go, W0 (i + 1), fun H2 z => ⟨xs.length - (i + 1), by omega, rfl, hlt2, z⟩, fun x H2 y => ?_⟩
    obtain ⟨F2, d, hd, e2, rx⟩ := yl x H2 y
    rw [List.drop_eq_getElem_cons hlt2] at hc1
    have hd' : xs[i] = d := by
      rw [List.getElem?_eq_getElem hlt2] at hd
      exact Option.some.inj hd
    rw [hd'] at hc1
    obtain ⟨o, s1, s2⟩ := compK_cons hc1
    rw [← hst] at s1
    obtain ⟨ρ1, t1, s1⟩ := bind_ok_inv s1
    obtain ⟨b, t2, s1⟩ := bind_ok_inv s1
    have t2 : ev wd none true c ρ1 = .ok (.bl b) := by
      obtain ⟨d', q1, q2⟩ := bind_ok_inv t2
      cases d' <;> first | (cases q2; exact q1) | cases q2
    have e02 : Ext0 F1 H1 F2 H2 (Dl :: A) := (ex.seq0 e2).drop0 fun b => by rw [List.append_nil]; exact Nat.le_refl _
    have hD2 : H2 Dl = some (.dK vs) := e2.same0 _ _ hD
    have rr2 : RepK S F2 H2 vs rs A := rr.mono e2.subF fun b hb => by
      obtain ⟨o, qq⟩ := ex.dom b (List.mem_cons_of_mem _ hb)
      rw [qq]; exact e2.same0 b o qq
    refine setTg_ok (S := S) (F := F2) (H := H2) G.eK (fun σ' ρ' => σ'.length = σ.length ∧ EnvS S F2 σ' ρ' (vars c ++ vars eA ++ vars eB) ∧ wipe σ' own = wipe σ own) (fun j v d σ' ρ' hj hP rv => ?_) ?_ t1 rx e2.sub fun σ1 hP => ?_
    · obtain ⟨p1, p2, p3⟩ := hP
      have hjl : j < σ'.length := by rw [p1, hlen, G.eN]; exact hlt j hj
      refine ⟨by rw [List.length_set]; exact p1, p2.set hjl rv, ?_⟩
      rw [← p3]
      refine wipe_ext (by rw [List.length_set]) fun n hn => ?_
      have hjo : j ∈ own := by
        have := List.all_eq_true.mp m5 j hj
        simpa using this
      rw [List.getElem?_set_ne (fun z => hn (by rw [← z]; exact hjo))]
    · refine ⟨wipe_length _ _, ?_, wipe_ext (wipe_length _ _) fun n hn => wipe_out hn⟩
      have h1 : EnvS S F σ ρ (vars c ++ vars eA ++ vars eB) := hρ.sub fun j hj => by
        show j ∈ vars it ++ vars c ++ vars eA ++ vars eB
        rw [List.append_assoc, (List.append_assoc)]
        rw [List.append_assoc] at hj
        exact List.mem_append_right _ hj
      exact EnvS.wipe (h1.mono (e1.subF.trans (ex.subF.trans e2.subF)))
    · obtain ⟨p1, p2, p3⟩ := hP
      refine ⟨p3, fun s0 H0 C cl fp => ?_⟩
      refine ifs_run hc (Gb s0 H0 C cl fp) m7 e2.sub p2.l.l t2 fun F3 H3 e3 => ?_
      have e03 : Ext0 F1 H1 F3 H3 (Dl :: A) := (e02.seq0 e3).drop0 fun b => by rw [List.append_nil]; exact Nat.le_refl _
      have hD3 : H3 Dl = some (.dK vs) := e3.same0 _ _ hD2
      have rr3 : RepK S F3 H3 vs rs A := rr2.mono e3.subF fun b hb => by
        obtain ⟨o, qq⟩ := e02.dom b (List.mem_cons_of_mem _ hb)
        rw [qq]; exact e3.same0 b o qq
      cases b with
      | false =>
        rw [if_neg (Bool.false_ne_true)]
        have : o = none := by
          have := R.ok.inj s1
          exact this.symm
        subst this
        exact ⟨F3, vs, rs, A, e03, hD3, hnd, rr3, s2⟩
      | true =>
        rw [if_pos rfl]
        obtain ⟨dk, u1, u2⟩ := bind_ok_inv (show ((ev wd none false eA ρ1).bind fun x => (ev wd none false eB ρ1).bind fun y => (match keyOf x with
          | some k => R.ok (some (k, y))
          | none => .bad)) = .ok o from s1)
        obtain ⟨dx, u3, u4⟩ := bind_ok_inv u2
        cases hk : keyOf dk with
        | none => rw [hk] at u4; cases u4
        | some ky =>
        rw [hk] at u4
        have : o = some (ky, dx) := (R.ok.inj u4).symm
        subst this
        intro s0 H0 C cl fp
        refine he1 kx scope cm _ (Gb s0 H0 C cl fp) m9 F3 H3 σ1 ρ1 e3.sub (p2.l.r.mono e3.subF) _ WF ?_
        rw [u1]
        intro vk F4 H4 A4 e4 r4
        cases keyOf_eq r4 hk
        intro s0 H0 C cl fp
        refine he2 vx scope cm _ (Gb s0 H0 C cl fp) m11 F4 H4 σ1 ρ1 e4.sub (p2.r.mono (e3.subF.trans e4.subF)) _ WF ?_
        rw [u3]
        intro v F5 H5 A5 e5 r5
        have e45 : Ext0 F3 H3 F5 H5 A5 := (e4.seq0 e5).drop0 fun b => by rw [List.count_append]; omega
        have e04 : Ext0 F1 H1 F5 H5 (Dl :: A ++ A5) := e03.seq0 e45
        have hD4 : H5 Dl = some (.dK vs) := e45.same0 _ _ hD3
        have cnt := e04.one Dl
        have nA : Dl ∉ A ++ A5 := fun z => by
          have h1 := mem_count z
          rw [List.cons_append, List.count_cons] at cnt
          rw [beq_self_eq_true, if_pos rfl] at cnt
          omega
        have rk : RepK S F5 (upd H5 Dl (.dK (putK vs ky v))) vs rs A := rr3.mono e45.subF fun b hb => by
          rw [upd_ne (fun z => nA (List.mem_append_left _ (by rw [← z]; exact hb)))]
          obtain ⟨o, qq⟩ := e03.dom b (List.mem_cons_of_mem _ hb)
          rw [qq]; exact e45.same0 b o qq
        have rv : Rep S F5 (upd H5 Dl (.dK (putK vs ky v))) v dx A5 := r5.mono (Same.refl _) fun b hb => by
          rw [upd_ne (fun z => nA (List.mem_append_right _ (by rw [← z]; exact hb)))]
        obtain ⟨A6, r6, c6⟩ := rk.set hnd ky rv
        refine ⟨vs, ky, rfl, hD4, ?_, F5, putK vs ky v, setK rs ky dx, A6, (e04.chg0 (List.mem_cons_self)).drop0 fun b => ?_, upd_same, putK_nodup hnd, r6, s2⟩
        · have h1 := rr.len
          have h2 : (setK rs ky dx).length ≤ r.length := compK_len s2
          have h3 := setK_len rs ky dx
          omega
        · have := c6 b
          rw [List.cons_append, List.count_cons, List.count_cons, List.count_append]
          omega
  · left
    have hn : i = xs.length := by omega
    refine ⟨w2 i (by omega), ?_⟩
    rw [hn, List.drop_length] at hc1
    have : rs = r := R.ok.inj hc1
    subst this
    exact hx _ F' H' _ ((e1.seq0 ex).drop0 fun b => by rw [List.nil_append]; exact Nat.le_refl _) (.dctO hD rr rfl)
theorem dcp_fc {tg : Tg} {it c eA eB : Ex} {own : List Nat} {kx vx t i : PySem.Expr} {ifs : List PySem.Expr} {scope sc : Scope} {p : Pos} {cm mm : Bool} {X : Cx} (G : Gd S M N wd cm k sc X) (m : mE M N cm sc mm (.dcp tg it c eA eB own) (.DictComp kx vx [⟨t, i, ifs, 0⟩] scope p) = true) :
    X.calm = true ∧ X.N.Nodup ∧ BlkOk X.N X.env.scope scope (ownP N own) ∧ (∀ (s0 : Shared) (H0 : Hp) (C : Addr) (cl : List (Str × Addr)) (fp : List Addr), PG (X.blk s0 H0 scope (compEnvC scope cl C X.env) fp) t (gTg X.K tg)) ∧
    (∀ (s0 : Shared) (H0 : Hp) (C : Addr) (cl : List (Str × Addr)) (fp : List Addr), PTs (X.blk s0 H0 scope (compEnvC scope cl C X.env) fp) ifs (bTT X scope ifs)) ∧ (∀ (s0 : Shared) (H0 : Hp) (C : Addr) (cl : List (Str × Addr)) (fp : List Addr), PE (X.blk s0 H0 scope (compEnvC scope cl C X.env) fp) kx (bTE X scope kx)) ∧ (∀ (s0 : Shared) (H0 : Hp) (C : Addr) (cl : List (Str × Addr)) (fp : List Addr), PE (X.blk s0 H0 scope (compEnvC scope cl C X.env) fp) vx (bTE X scope vx)) ∧ ∀ x, foldedSetIterable i X.env x = pure x := by
  obtain ⟨m, m11⟩ := an (show (cm && mI M N cm sc (isTup t) it i && mTg N scope tg t && blkC N sc scope (ownP N own) && tg.slots.all own.contains && decide ((ownP N own).map (·.2) = own) && ifB M N cm scope c ifs && plainX kx && mE M N cm scope false eA kx && plainX vx && mE M N cm scope false eB vx) = true from m)
  obtain ⟨m, m10⟩ := an m
  obtain ⟨m, m9⟩ := an m
  obtain ⟨m, m8⟩ := an m
  obtain ⟨m, m7⟩ := an m
  obtain ⟨m, m6⟩ := an m
  obtain ⟨m, m5⟩ := an m
  obtain ⟨m, m4⟩ := an m
  obtain ⟨m, m3⟩ := an m
  obtain ⟨m1, m2⟩ := an m
  have hifs : ifs.length ≤ 1 := by
    cases ifs with
    | nil => simp
    | cons _ xs => cases xs with
      | nil => simp
      | cons _ _ => exact ff m7
  exact ⟨G.calm m1, (by rw [G.eN]; exact G.nd), blk_ok G m4, fun s0 H0 C cl fp => (tg_ok (Gd.blk (scope := scope) G s0 H0 C cl fp) m1 m3).1, fun s0 H0 C cl fp => btt_ok hifs, fun s0 H0 C cl fp => bte_ok, fun s0 H0 C cl fp => bte_ok, fun _ => fold_ok (mi_plain m2)⟩
theorem se_dcp {tg : Tg} {it c eA eB : Ex} {own : List Nat} (hi : SI S M N wd k it) (hc : STs S M N wd k c) (he1 : SE S M N wd k eA) (he2 : SE S M N wd k eB) : SE S M N wd k (.dcp tg it c eA eB own) := by
  intro x sc cm X G m F H σ ρ sF hρ Q W hq
  cases x with
  | DictComp kx vx gs scope p =>
    cases gs with
    | nil => exact ff m
    | cons g gs =>
      obtain ⟨t, i, ifs, as⟩ := g
      cases as with
      | negSucc _ => cases gs <;> exact ff m
      | ofNat n => cases n with
        | succ _ => cases gs <;> exact ff m
        | zero => cases gs with
        | cons _ _ => exact ff m
        | nil =>
          obtain ⟨f1, f2, f3, f4, f5, f6, f7, f8⟩ := dcp_fc G m
          refine re_len fun hlen => ?_
          exact re_of (pe_dc (X := Cx.xw X W) f1 f2 pi_can f3 f4 f5 f6 f7 f8) (dcp_rd hi hc he1 he2 G m sF hρ hq hlen)
  | _ => exact ff m
/-! ### all expressions -/
def NoI : Ex → Prop
  | .nop => True | .rng3 _ _ _ => True | .itm _ => True | .vls _ => True | .xisi _ => True | .xfld _ => True | .pln _ => True | .rng1 _ => True | .rng2 _ _ => True | .enm _ => True | .zip _ _ => True
  | _ => False
theorem se_no {e : Ex} (h : NoI e) : SE S M N wd k e := by
  intro x sc cm X G m
  cases e <;> first | exact h.elim | (cases x <;> exact ff m)
theorem st_no {e : Ex} (h : NoI e) : STs S M N wd k e := by
  intro x sc cm X G m
  cases e <;> first | exact h.elim | (cases x <;> exact ff m)
def IsI : Ex → Prop
  | .pln _ => True | .rng1 _ => True | .rng2 _ _ => True | .enm _ => True | .zip _ _ => True
  | _ => False
theorem si_no {e : Ex} (h : ¬ IsI e) : SI S M N wd k e := by
  intro tg x sc cm X G m
  cases e <;> first | exact absurd trivial h | (cases x <;> exact ff m)
theorem st_bl (b : Bool) : STs S M N wd k (.bl b) := by
  intro x sc cm X G m F H σ ρ sF hρ Q W hq
  cases x with
  | Constant c j p => cases c with
    | bool c =>
      cases of_decide_eq_true (show decide (b = c) = true from m)
      refine rt_of (pt_truth pe_can (isTrue_ord rfl)) ?_
      refine se_bl (S := S) (M := M) (N := N) (wd := wd) (k := k) b _ sc cm X G (show mE M N cm sc false (.bl b) (.Constant (.bool b) j p) = true from decide_eq_true rfl) F H σ ρ sF hρ _ W ?_
      intro v F2 H2 A e r
      cases r
      exact ⟨b, rfl, hq F2 H2 (e.drop0 sub_nil)⟩
    | _ => exact ff m
  | _ => exact ff m
theorem st_isi {a : Ex} {ts : List Ty} (ha : SE S M N wd k a) : STs S M N wd k (.isi a ts) := by
  intro x sc cm X G m F H σ ρ sF hρ Q W hq
  have ho : ordX x = true := by cases x <;> first | exact ff m | rfl
  refine rt_of (pt_truth pe_can (isTrue_ord ho)) ?_
  refine isi_ok ha G m sF hρ hq fun c F2 H2 A e h => ?_
  exact ⟨c, rfl, h F2 H2 (e.drop0 sub_nil)⟩
mutual
theorem se_all : ∀ e : Ex, SE S M N wd k e ∧ STs S M N wd k e ∧ SI S M N wd k e
  | .nop => ⟨se_no trivial, st_no trivial, si_no id⟩
  | .var i => ⟨se_var i, st_ord (se_var i) (fun _ => rfl) (fun x sc cm m => by cases x <;> first | exact ff m | exact ⟨m, rfl⟩), si_no id⟩
  | .non => ⟨se_non, st_ord se_non (fun _ => rfl) (fun x sc cm m => by
      cases x <;> first | exact ff m | skip
      rename_i c _ _
      cases c <;> first | exact ff m | exact ⟨m, rfl⟩), si_no id⟩
  | .bl b => ⟨se_bl b, st_bl b, si_no id⟩
  | .int i => ⟨se_int i, st_ord (se_int i) (fun _ => rfl) (fun x sc cm m => by
      cases x <;> first | exact ff m | skip
      rename_i c _ _
      cases c <;> first | exact ff m | exact ⟨m, rfl⟩), si_no id⟩
  | .str i => ⟨se_str i, st_ord (se_str i) (fun _ => rfl) (fun x sc cm m => by
      cases x <;> first | exact ff m | skip
      rename_i c _ _
      cases c <;> first | exact ff m | exact ⟨m, rfl⟩), si_no id⟩
  | .glo i => ⟨se_glo i, st_ord (se_glo i) (fun _ => rfl) (fun x sc cm m => by cases x <;> first | exact ff m | exact ⟨m, rfl⟩), si_no id⟩
  | .bin op a b => ⟨se_bin (se_all a).1 (se_all b).1, st_ord (se_bin (se_all a).1 (se_all b).1) (fun _ => rfl) (fun x sc cm m => by cases x <;> first | exact ff m | exact ⟨m, rfl⟩), si_no id⟩
  | .neg a => ⟨se_neg (se_all a).1, st_ord (se_neg (se_all a).1) (fun _ => rfl) (fun x sc cm m => by
      cases x <;> first | exact ff m | skip
      rename_i op _ _
      cases op <;> first | exact ff m | exact ⟨m, rfl⟩), si_no id⟩
  | .not a => ⟨se_not (se_all a).1, st_not (se_all a).2.1, si_no id⟩
  | .cmp op a b => ⟨se_cmp (se_all a).1 (se_all b).1, st_cmp (se_all a).1 (se_all b).1, si_no id⟩
  | .chn op op' a b c => ⟨se_chn (se_all a).1 (se_all b).1 (se_all c).1, st_chn (se_all a).1 (se_all b).1 (se_all c).1, si_no id⟩
  | .and a b => ⟨se_and (se_all a).1 (se_all b).1, st_and (se_all a).2.1 (se_all b).2.1, si_no id⟩
  | .or a b => ⟨se_or (se_all a).1 (se_all b).1, st_or (se_all a).2.1 (se_all b).2.1, si_no id⟩
  | .ite t a b => ⟨se_ite (se_all t).2.1 (se_all a).1 (se_all b).1, (fun x sc cm X G m => by cases x <;> exact ff m), si_no id⟩
  | .tup es => ⟨se_tup (sl_all es), st_ord (se_tup (sl_all es)) (fun _ => rfl) (fun x sc cm m => by cases x <;> first | exact ff m | exact ⟨m, rfl⟩), si_no id⟩
  | .lst es => ⟨se_lst (sl_all es), st_ord (se_lst (sl_all es)) (fun _ => rfl) (fun x sc cm m => by cases x <;> first | exact ff m | exact ⟨m, rfl⟩), si_no id⟩
  | .dct es => ⟨se_dct, st_ord se_dct (fun _ => rfl) (fun x sc cm m => by
      cases es <;> cases x <;> first | exact ff m | skip
      rename_i ks vs _
      cases ks <;> cases vs <;> first | exact ff m | exact ⟨m, rfl⟩), si_no id⟩
  | .idx a b => ⟨se_idx (se_all a).1 (se_all b).1, st_ord (se_idx (se_all a).1 (se_all b).1) (fun _ => rfl) (fun x sc cm m => by cases x <;> first | exact ff m | exact ⟨m, rfl⟩), si_no id⟩
  | .slc0 a => ⟨se_slc0 (se_all a).1, st_ord (se_slc0 (se_all a).1) (fun _ => rfl) (fun x sc cm m => by
      cases x <;> first | exact ff m | skip
      rename_i r _
      cases r <;> first | exact ff m | skip
      rename_i lo hi st _
      cases lo <;> cases hi <;> cases st <;> first | exact ff m | exact ⟨m, rfl⟩), si_no id⟩
  | .slcL a b => ⟨se_slcL (se_all a).1 (se_all b).1, st_ord (se_slcL (se_all a).1 (se_all b).1) (fun _ => rfl) (fun x sc cm m => by
      cases x <;> first | exact ff m | skip
      rename_i r _
      cases r <;> first | exact ff m | skip
      rename_i lo hi st _
      cases lo <;> cases hi <;> cases st <;> first | exact ff m | exact ⟨m, rfl⟩), si_no id⟩
  | .slcH a b => ⟨se_slcH (se_all a).1 (se_all b).1, st_ord (se_slcH (se_all a).1 (se_all b).1) (fun _ => rfl) (fun x sc cm m => by
      cases x <;> first | exact ff m | skip
      rename_i r _
      cases r <;> first | exact ff m | skip
      rename_i lo hi st _
      cases lo <;> cases hi <;> cases st <;> first | exact ff m | exact ⟨m, rfl⟩), si_no id⟩
  | .slcB a b c => ⟨se_slcB (se_all a).1 (se_all b).1 (se_all c).1, st_ord (se_slcB (se_all a).1 (se_all b).1 (se_all c).1) (fun _ => rfl) (fun x sc cm m => by
      cases x <;> first | exact ff m | skip
      rename_i r _
      cases r <;> first | exact ff m | skip
      rename_i lo hi st _
      cases lo <;> cases hi <;> cases st <;> first | exact ff m | exact ⟨m, rfl⟩), si_no id⟩
  | .rev a => ⟨se_rev (se_all a).1, st_ord (se_rev (se_all a).1) (fun _ => rfl) (fun x sc cm m => by
      cases x <;> first | exact ff m | skip
      rename_i r _
      cases r <;> first | exact ff m | skip
      rename_i lo hi st _
      cases lo <;> cases hi <;> cases st <;> first | exact ff m | exact ⟨m, rfl⟩), si_no id⟩
  | .fld a f => ⟨se_fld (se_all a).1, st_ord (se_fld (se_all a).1) (fun _ => rfl) (fun x sc cm m => by cases x <;> first | exact ff m | exact ⟨m, rfl⟩), si_no id⟩
  | .call f es => ⟨se_call (sl_all es), st_ord (se_call (sl_all es)) (fun _ => rfl) (fun x sc cm m => by
      cases x <;> first | exact ff m | skip
      rename_i f _ kw _
      cases f <;> cases kw <;> first | exact ff m | exact ⟨m, rfl⟩), si_no id⟩
  | .mth a n es => ⟨se_mth (se_all a).1 (sl_all es), st_ord (se_mth (se_all a).1 (sl_all es)) (fun _ => rfl) (fun x sc cm m => by
      cases x <;> first | exact ff m | skip
      rename_i f _ kw _
      cases f <;> cases kw <;> first | exact ff m | exact ⟨m, rfl⟩), si_no id⟩
  | .mk c es => ⟨se_mk (sl_all es), st_ord (se_mk (sl_all es)) (fun _ => rfl) (fun x sc cm m => by
      cases x <;> first | exact ff m | skip
      rename_i f _ kw _
      cases f <;> cases kw <;> first | exact ff m | exact ⟨m, rfl⟩), si_no id⟩
  | .blt b es => ⟨se_blt (sl_all es), st_ord (se_blt (sl_all es)) (fun _ => rfl) (fun x sc cm m => by
      cases x <;> first | exact ff m | skip
      rename_i f _ kw _
      cases f <;> cases kw <;> first | exact ff m | exact ⟨m, rfl⟩), si_no id⟩
  | .bmt b a es => ⟨se_bmt (se_all a).1 (sl_all es), st_ord (se_bmt (se_all a).1 (sl_all es)) (fun _ => rfl) (fun x sc cm m => by
      cases x <;> first | exact ff m | skip
      rename_i f _ kw _
      cases f <;> cases kw <;> first | exact ff m | exact ⟨m, rfl⟩), si_no id⟩
  | .isi a ts => ⟨se_isi (se_all a).1, st_isi (se_all a).1, si_no id⟩
  | .xisi _ => ⟨se_no trivial, st_no trivial, si_no id⟩
  | .xfld _ => ⟨se_no trivial, st_no trivial, si_no id⟩
  | .pln a => ⟨se_no trivial, st_no trivial, si_pln (se_all a).1⟩
  | .rng1 a => ⟨se_no trivial, st_no trivial, si_rng1 (se_all a).1⟩
  | .rng2 a b => ⟨se_no trivial, st_no trivial, si_rng2 (se_all a).1 (se_all b).1⟩
  | .rng3 _ _ _ => ⟨se_no trivial, st_no trivial, si_no id⟩
  | .enm a => ⟨se_no trivial, st_no trivial, si_enm (se_all a).1⟩
  | .zip a b => ⟨se_no trivial, st_no trivial, si_zip (se_all a).1 (se_all b).1⟩
  | .itm _ => ⟨se_no trivial, st_no trivial, si_no id⟩
  | .vls _ => ⟨se_no trivial, st_no trivial, si_no id⟩
  | .lcp tg it c e own => ⟨se_lcp (se_all it).2.2 (se_all c).2.1 (se_all e).1, st_ord (se_lcp (se_all it).2.2 (se_all c).2.1 (se_all e).1) (fun _ => rfl) (fun x sc cm m => by
      cases x <;> first | exact ff m | skip
      rename_i gs _ _
      cases gs <;> first | exact ff m | skip
      rename_i g gs
      obtain ⟨t, i, ifs, as⟩ := g
      cases as with
      | negSucc _ => cases gs <;> exact ff m
      | ofNat n => cases n <;> cases gs <;> first | exact ff m | exact ⟨m, rfl⟩), si_no id⟩
  | .dcp tg it c e e2 own => ⟨se_dcp (se_all it).2.2 (se_all c).2.1 (se_all e).1 (se_all e2).1, st_ord (se_dcp (se_all it).2.2 (se_all c).2.1 (se_all e).1 (se_all e2).1) (fun _ => rfl) (fun x sc cm m => by
      cases x <;> first | exact ff m | skip
      rename_i gs _ _
      cases gs <;> first | exact ff m | skip
      rename_i g gs
      obtain ⟨t, i, ifs, as⟩ := g
      cases as with
      | negSucc _ => cases gs <;> exact ff m
      | ofNat n => cases n <;> cases gs <;> first | exact ff m | exact ⟨m, rfl⟩), si_no id⟩
theorem sl_all : ∀ es : Exs, SLs S M N wd k es
  | .nil => sl_nil
  | .cons e es => sl_cons (se_all e).1 (sl_all es)
end
end
end MI

set_option Elab.async false
set_option linter.all false
set_option maxRecDepth 99000
set_option maxHeartbeats 999000
/-! MiJ: the state of a def's body. -/
namespace MI
open PySem L2 PySem.Spec PyProof.Rows

/-! ### runs in a row, with handed ones -/
section
variable {F H F1 H1 F2 H2 : Hp} {A B C : List Addr}
theorem Ext.back {b : Addr} (e : Ext F H A F1 H1 B) (n : H1 b = none ∨ b ∈ ([] : List Addr)) : H b = none ∨ b ∈ A := by
  by_cases hb : b ∈ A
  · exact .inr hb
  · left
    cases q : H b with
    | none => rfl
    | some o =>
      rcases n with z | z
      · rw [e.same b o q hb] at z; cases z
      · cases z
theorem Ext.drop (e : Ext F H A F1 H1 B) (h : ∀ b, C.count b ≤ B.count b) : Ext F H A F1 H1 C where
  sub := e.sub
  subF := e.subF
  same := e.same
  new := e.new
  one := fun b => Nat.le_trans (h b) (e.one b)
  own := fun b hb => e.own b (count_mem (Nat.le_trans (mem_count hb) (h b)))
  dom := fun b hb => e.dom b (count_mem (Nat.le_trans (mem_count hb) (h b)))
theorem disj_count {b : Addr} (h1 : A.count b ≤ 1) (h2 : B.count b ≤ 1) (h : b ∈ A → b ∈ B → False) : (A ++ B).count b ≤ 1 := by
  rw [List.count_append]
  by_cases ha : b ∈ A
  · have : B.count b = 0 := List.count_eq_zero.mpr fun z => h ha z
    omega
  · have : A.count b = 0 := List.count_eq_zero.mpr ha
    omega
theorem Ext.seq (e : Ext F H A F1 H1 B) (f : Ext0 F1 H1 F2 H2 C) : Ext F H A F2 H2 (C ++ B) where
  sub := f.sub
  subF := e.subF.trans f.subF
  same := fun b o h n => f.same0 b o (e.same b o h n)
  new := fun b o h n => by
    cases q : F1 b with
    | some u => exact e.new b u q n
    | none => exact e.back (f.new b o h q)
  one := fun b => disj_count (f.one b) (e.one b) fun h1 h2 => by
    obtain ⟨o, q⟩ := e.dom b h2
    rcases (f.own b h1).2 with z | z
    · rw [q] at z; cases z
    · cases z
  own := fun b hb => by
    rcases (List.mem_append.mp hb) with h | h
    · exact ⟨(f.own b h).1, e.back (f.own b h).2⟩
    · obtain ⟨n1, n2⟩ := e.own b h
      refine ⟨?_, n2⟩
      cases q : F2 b with
      | none => rfl
      | some u =>
        obtain ⟨o, d⟩ := e.dom b h
        rcases f.new b u q n1 with z | z
        · rw [d] at z; cases z
        · cases z
  dom := fun b hb => by
    rcases (List.mem_append.mp hb) with h | h
    · exact f.dom b h
    · obtain ⟨o, q⟩ := e.dom b h
      exact ⟨o, f.same0 b o q⟩
/-- what is owned is handed on -/
theorem Ext.trans (e : Ext F H A F1 H1 B) (f : Ext F1 H1 B F2 H2 C) : Ext F H A F2 H2 C where
  sub := f.sub
  subF := e.subF.trans f.subF
  same := fun b o h n => by
    have q := e.same b o h n
    refine f.same b o q fun z => ?_
    rcases (e.own b z).2 with w | w
    · rw [h] at w; cases w
    · exact n w
  new := fun b o h n => by
    cases q : F1 b with
    | some u => exact e.new b u q n
    | none =>
      rcases f.new b o h q with z | z
      · exact e.back (.inl z)
      · exact (e.own b z).2
  one := f.one
  own := fun b hb => by
    obtain ⟨n1, n2⟩ := f.own b hb
    refine ⟨n1, ?_⟩
    rcases n2 with z | z
    · exact e.back (.inl z)
    · exact (e.own b z).2
  dom := f.dom
theorem Ext.freezeA (e : Ext F H A F1 H1 B) : Ext F H A (frzH F1 H1 B) H1 [] where
  sub := frzH_sub e.sub
  subF := e.subF.trans (frzH_of fun b h => (e.own b h).1)
  same := e.same
  new := fun b o h n => by
    by_cases hb : b ∈ B
    · exact (e.own b hb).2
    · rw [frzH_out hb] at h; exact e.new b o h n
  one := fun _ => Nat.zero_le _
  own := fun _ h => nomatch h
  dom := fun _ h => nomatch h
theorem Ext.frz1 (e : Ext F H A F1 H1 (C ++ B)) : Ext F H A (frzH F1 H1 C) H1 B where
  sub := frzH_sub e.sub
  subF := e.subF.trans (frzH_of fun b h => (e.own b (List.mem_append_left _ h)).1)
  same := e.same
  new := fun b o h n => by
    by_cases hb : b ∈ C
    · exact (e.own b (List.mem_append_left _ hb)).2
    · rw [frzH_out hb] at h; exact e.new b o h n
  one := fun b => by have := e.one b; rw [List.count_append] at this; omega
  own := fun b hb => by
    obtain ⟨h1, h2⟩ := e.own b (List.mem_append_right _ hb)
    refine ⟨?_, h2⟩
    have : b ∉ C := fun z => by
      have := e.one b
      rw [List.count_append] at this
      have := mem_count z
      have := mem_count hb
      omega
    rw [frzH_out this]; exact h1
  dom := fun b hb => e.dom b (List.mem_append_right _ hb)
/-- a run over the frozen state; then the state is its own again -/
theorem Ext.thaw (e : Ext F H A F1 H1 B) (f : Ext0 (frzH F1 H1 B) H1 F2 H2 C) : Ext F H A (cutH F2 B) H2 (C ++ B) ∧ Same F1 (cutH F2 B) := by
  have s1 : Same F1 (cutH F2 B) := fun b o h => by
    have hb : b ∉ B := fun z => by rw [(e.own b z).1] at h; cases h
    rw [cutH_out hb]
    exact f.subF b o (by rw [frzH_out hb]; exact h)
  refine ⟨?_, s1⟩
  exact {
    sub := fun b o h => f.sub b o (cutH_sub b o h)
    subF := e.subF.trans s1
    same := fun b o h n => f.same0 b o (e.same b o h n)
    new := fun b o h n => by
      by_cases hb : b ∈ B
      · rw [cutH_in hb] at h; cases h
      · rw [cutH_out hb] at h
        cases q : F1 b with
        | some u => exact e.new b u q n
        | none => exact e.back (f.new b o h (by rw [frzH_out hb]; exact q))
    one := fun b => disj_count (f.one b) (e.one b) fun h1 h2 => by
      obtain ⟨o, q⟩ := e.dom b h2
      rcases (f.own b h1).2 with z | z
      · rw [q] at z; cases z
      · cases z
    own := fun b hb => by
      rcases (List.mem_append.mp hb) with h | h
      · have n1 := (f.own b h).1
        refine ⟨?_, e.back (f.own b h).2⟩
        by_cases hb2 : b ∈ B
        · exact cutH_in hb2
        · rw [cutH_out hb2]; exact n1
      · exact ⟨cutH_in h, (e.own b h).2⟩
    dom := fun b hb => by
      rcases (List.mem_append.mp hb) with h | h
      · exact f.dom b h
      · obtain ⟨o, q⟩ := e.dom b h
        exact ⟨o, f.same0 b o q⟩ }
end

/-! ### the slots -/
inductive Slots (S : Sw) (F H : Hp) : L2.St → Env → List Addr → Prop
  | nil : Slots S F H [] [] []
  | no {x : Option V} {σ : L2.St} {ρ : Env} {A : List Addr} : Slots S F H σ ρ A → Slots S F H (x :: σ) (none :: ρ) A
  | yes {v : V} {d : D} {σ : L2.St} {ρ : Env} {A B C : List Addr} : Rep S F H v d B → Slots S F H σ ρ A → C = B ++ A → Slots S F H (some v :: σ) (some d :: ρ) C
section
variable {S : Sw} {F H F' H' G : Hp}
theorem Slots.len : ∀ {σ : L2.St} {ρ : Env} {A : List Addr}, Slots S F H σ ρ A → σ.length = ρ.length
  | _, _, _, .nil => rfl
  | _, _, _, .no r => congrArg (· + 1) r.len
  | _, _, _, .yes _ r _ => congrArg (· + 1) r.len
theorem Slots.mono (sF : Same F F') : ∀ {σ : L2.St} {ρ : Env} {A : List Addr}, Slots S F H σ ρ A → (∀ b ∈ A, H' b = H b) → Slots S F' H' σ ρ A
  | _, _, _, .nil, _ => .nil
  | _, _, _, .no r, k => .no (r.mono sF k)
  | _, _, _, .yes r rs e, k => .yes (r.mono sF fun b hb => k b (by rw [e]; exact List.mem_append_left _ hb)) (rs.mono sF fun b hb => k b (by rw [e]; exact List.mem_append_right _ hb)) e
theorem Slots.dom : ∀ {σ : L2.St} {ρ : Env} {A : List Addr}, Slots S F H σ ρ A → ∀ b ∈ A, ∃ o, H b = some o ∧ ntup o = true
  | _, _, _, .nil, _, h => nomatch h
  | _, _, _, .no r, _, h => r.dom _ h
  | _, _, _, .yes r rs e, _, h => by
    rw [e] at h
    rcases (List.mem_append.mp h) with h | h
    · exact r.dom _ h
    · exact rs.dom _ h
theorem get_shareE : ∀ {ρ : Env} {i : Nat} {d : D}, (shareE ρ).get i = some d → ∃ d0, ρ.get i = some d0 ∧ d = share d0
  | [], i, d, h => by simp [shareE, Env.get] at h
  | none :: r, 0, d, h => by simp [shareE, Env.get] at h
  | some x :: r, 0, d, h => by
    refine ⟨x, rfl, ?_⟩
    simp [shareE, Env.get] at h
    exact h.symm
  | none :: r, i + 1, d, h => get_shareE (ρ := r) (i := i) h
  | some x :: r, i + 1, d, h => get_shareE (ρ := r) (i := i) h
theorem Slots.get : ∀ {σ : L2.St} {ρ : Env} {A : List Addr} {i : Nat} {d : D}, Slots S F H σ ρ A → ρ.get i = some d → ∃ v B A', σ[i]? = some (some v) ∧ Rep S F H v d B ∧ Slots S F H σ (ρ.set i none) A' ∧ ∀ b, A.count b = B.count b + A'.count b
  | _, _, _, i, d, .nil, h => by simp [Env.get] at h
  | _, _, _, 0, d, .no r, h => by simp [Env.get] at h
  | _, _, _, 0, d, .yes (v := v) (B := B) (A := A) r rs e, h => by
    simp [Env.get] at h
    subst h
    exact ⟨v, B, A, rfl, r, .no rs, fun b => by rw [e, List.count_append]⟩
  | _, _, _, i + 1, d, .no r, h => by
    obtain ⟨v, B, A', h1, h2, h3, h4⟩ := Slots.get (i := i) r h
    exact ⟨v, B, A', h1, h2, .no h3, h4⟩
  | _, _, _, i + 1, d, .yes (B := B0) r rs e, h => by
    obtain ⟨v, B, A', h1, h2, h3, h4⟩ := Slots.get (i := i) rs h
    exact ⟨v, B, B0 ++ A', h1, h2, .yes r h3 rfl, fun b => by rw [e, List.count_append, List.count_append, h4]; omega⟩
theorem Slots.set {v : V} {d : D} {B : List Addr} (rv : Rep S F H v d B) : ∀ {σ : L2.St} {ρ : Env} {A : List Addr} {i : Nat}, Slots S F H σ ρ A → i < σ.length → ∃ A', Slots S F H (σ.set i (some v)) (ρ.set i (some d)) A' ∧ ∀ b, A'.count b ≤ B.count b + A.count b
  | _, _, _, i, .nil, h => by simp at h
  | _, _, _, 0, .no (A := A) r, _ => ⟨B ++ A, .yes rv r rfl, fun b => by rw [List.count_append]; exact Nat.le_refl _⟩
  | _, _, _, 0, .yes (A := A) r rs e, _ => ⟨B ++ A, .yes rv rs rfl, fun b => by rw [e, List.count_append, List.count_append]; omega⟩
  | _, _, _, i + 1, .no (A := A) r, h => by
    obtain ⟨A', h1, h2⟩ := Slots.set rv (i := i) r (Nat.lt_of_succ_lt_succ h)
    exact ⟨A', .no h1, h2⟩
  | _, _, _, i + 1, .yes (B := B0) r rs e, h => by
    obtain ⟨A', h1, h2⟩ := Slots.set rv (i := i) rs (Nat.lt_of_succ_lt_succ h)
    exact ⟨B0 ++ A', .yes r h1 rfl, fun b => by have := h2 b; rw [e, List.count_append, List.count_append]; omega⟩
theorem Slots.clr : ∀ {σ : L2.St} {ρ : Env} {A : List Addr} (i : Nat), Slots S F H σ ρ A → ∃ A', Slots S F H σ (ρ.set i none) A' ∧ ∀ b, A'.count b ≤ A.count b
  | _, _, _, _, .nil => ⟨[], .nil, fun _ => Nat.le_refl _⟩
  | _, _, _, 0, .no (A := A) r => ⟨A, .no r, fun _ => Nat.le_refl _⟩
  | _, _, _, 0, .yes (A := A) r rs e => ⟨A, .no rs, fun b => by rw [e, List.count_append]; omega⟩
  | _, _, _, i + 1, .no r => by
    obtain ⟨A', h1, h2⟩ := Slots.clr i r
    exact ⟨A', .no h1, h2⟩
  | _, _, _, i + 1, .yes (B := B0) r rs e => by
    obtain ⟨A', h1, h2⟩ := Slots.clr i rs
    exact ⟨B0 ++ A', .yes r h1 rfl, fun b => by have := h2 b; rw [e, List.count_append, List.count_append]; omega⟩
theorem Slots.wipe {σ : L2.St} {ρ : Env} {A : List Addr} (r : Slots S F H σ ρ A) : ∀ vs : List Nat, ∃ A', Slots S F H σ (wipeE ρ vs) A' ∧ ∀ b, A'.count b ≤ A.count b
  | [] => ⟨A, r, fun _ => Nat.le_refl _⟩
  | v :: vs => by
    obtain ⟨A1, h1, h2⟩ := r.wipe vs
    obtain ⟨A2, h3, h4⟩ := Slots.clr v h1
    exact ⟨A2, h3, fun b => Nat.le_trans (h4 b) (h2 b)⟩
/-- the environment that expressions see, over the frozen state -/
theorem Slots.envF {σ : L2.St} {ρ : Env} {A : List Addr} (r : Slots S F H σ ρ A) (sG : Same F G) (hG : ∀ b ∈ A, G b = H b) (vs : List Nat) : EnvS S G σ (shareE ρ) vs := fun j _ d e => by
  obtain ⟨d0, h0, rfl⟩ := get_shareE e
  obtain ⟨v, B, A', h1, h2, h3, h4⟩ := r.get h0
  exact ⟨v, h1, h2.share sG fun b hb => hG b (count_mem (by have := mem_count hb; have := h4 b; omega))⟩
/-- .. where nothing of it is owned -/
theorem Slots.envN {σ : L2.St} {ρ : Env} {A : List Addr} (r : Slots S F H σ ρ A) {vs : List Nat} (hn : (vs.all fun j => match ρ.get j with
  | some x => noOwn x
  | none => true) = true) : EnvS S F σ (shareE ρ) vs := fun j hj d e => by
  obtain ⟨d0, h0, rfl⟩ := get_shareE e
  obtain ⟨v, B, A', h1, h2, h3, h4⟩ := r.get h0
  have := List.all_eq_true.mp hn j hj
  rw [h0] at this
  have hB := h2.noOwn this
  subst hB
  rw [share_noOwn _ this]
  exact ⟨v, h1, h2.mono (Same.refl _) fun b hb => nomatch hb⟩
end

/-! ### the state, with values in hand -/
structure Pm where
  F : Hp
  H : Hp
  A : List Addr
  lk : Bool
  v0 : V
  n : Nat
def Pm.K (P : Pm) (σ : L2.St) : Prop := (P.lk = true → σ[0]? = some (some P.v0)) ∧ σ.length = P.n
theorem Pm.K.set {P : Pm} {σ : L2.St} (h : P.K σ) {i : Nat} {v : Option V} (hk : P.lk = true → i ≠ 0) : P.K (σ.set i v) := ⟨fun q => by rw [List.getElem?_set_ne (hk q)]; exact h.1 q, by rw [List.length_set]; exact h.2⟩
/-- from P's heaps to H, at the slots σ: the environment ρ, and the values vs in hand -/
def Stt (S : Sw) (P : Pm) (σ : L2.St) (H : Hp) (ρ : Env) (vs : List V) (ds : List D) : Prop :=
  ∃ F A B, Ext P.F P.H P.A F H (A ++ B) ∧ Reps S F H vs ds A ∧ Slots S F H σ ρ B ∧ P.K σ
/-- .. and an exception on its way -/
def XSt (S : Sw) (P : Pm) (σ : L2.St) (H : Hp) (ρ : Env) (fs : List (Nat × D)) (dd : Option Addr) : Prop :=
  ∃ F B, Ext P.F P.H P.A F H B ∧ Slots S F H σ ρ B ∧ P.K σ ∧ XRep S (frzH F H B) H fs dd
section
variable {S : Sw} {P : Pm} {σ : L2.St} {H : Hp} {ρ : Env} {vs us : List V} {ds es : List D}
theorem Stt.drop (h : Stt S P σ H ρ vs ds) : Stt S P σ H ρ [] [] := by
  obtain ⟨F, A, B, h1, h2, h3, h4⟩ := h
  exact ⟨F, [], B, h1.drop fun b => by rw [List.count_append]; simp, .nil, h3, h4⟩
theorem Stt.len (h : Stt S P σ H ρ vs ds) : σ.length = ρ.length := by
  obtain ⟨F, A, B, h1, h2, h3, h4⟩ := h
  exact h3.len
theorem okT_ne {lk : Bool} {ts : List Nat} {i : Nat} (h : okT lk ts = true) (hi : i ∈ ts) : lk = true → i ≠ 0 := fun q z => by
  subst z
  unfold okT at h
  rw [q] at h
  have : ts.contains 0 = true := by simpa using hi
  rw [this] at h
  cases h
/-- a value in hand goes to a slot -/
theorem Stt.store {i : Nat} {v : V} {d : D} (h : Stt S P σ H ρ (v :: vs) (d :: ds)) (hi : i < σ.length) (hk : P.lk = true → i ≠ 0) : Stt S P (σ.set i (some v)) H (ρ.set i (some d)) vs ds := by
  obtain ⟨F, A, B, h1, h2, h3, h4⟩ := h
  cases h2 with
  | cons r rs e =>
    rename_i A1 A2
    obtain ⟨B', k1, k2⟩ := Slots.set r h3 hi
    refine ⟨F, A2, B', h1.drop fun b => ?_, rs, k1, h4.set hk⟩
    · have := k2 b
      rw [e]
      simp only [List.count_append]
      omega
theorem Stt.wipe (h : Stt S P σ H ρ vs ds) (kl : List Nat) : Stt S P σ H (wipeE ρ kl) vs ds := by
  obtain ⟨F, A, B, h1, h2, h3, h4⟩ := h
  obtain ⟨B', k1, k2⟩ := h3.wipe kl
  exact ⟨F, A, B', h1.drop fun b => by have := k2 b; simp only [List.count_append]; omega, h2, k1, h4⟩
/-- a slot's value is taken in hand -/
theorem Stt.mov {i : Nat} {d : D} (h : Stt S P σ H ρ vs ds) (hd : ρ.get i = some d) : ∃ v, σ[i]? = some (some v) ∧ Stt S P σ H (ρ.set i none) (vs ++ [v]) (ds ++ [d]) := by
  obtain ⟨F, A, B, h1, h2, h3, h4⟩ := h
  obtain ⟨v, B1, B2, k1, k2, k3, k4⟩ := h3.get hd
  exact ⟨v, k1, F, A ++ B1, B2, h1.drop fun b => by have := k4 b; simp only [List.count_append]; omega, h2.append (.cons k2 .nil (List.append_nil _).symm), k3, h4⟩
/-- .. and put back where it was -/
theorem Stt.back {i : Nat} {v : V} {d : D} (h : Stt S P σ H (ρ.set i none) (v :: vs) (d :: ds)) (hv : σ[i]? = some (some v)) : Stt S P σ H (ρ.set i (some d)) vs ds := by
  obtain ⟨F, A, B, h1, h2, h3, h4⟩ := h
  cases h2 with
  | cons r rs e =>
    rename_i A1 A2
    have hi : i < σ.length := by
      rcases Nat.lt_or_ge i σ.length with z | z
      · exact z
      · rw [List.getElem?_eq_none z] at hv; cases hv
    obtain ⟨B', k1, k2⟩ := Slots.set r h3 hi
    have e1 : σ.set i (some v) = σ := by
      refine List.ext_getElem? fun n => ?_
      by_cases z : i = n
      · subst z; rw [List.getElem?_set_self hi, hv]
      · rw [List.getElem?_set_ne z]
    rw [e1] at k1
    have e2 : (ρ.set i none).set i (some d) = ρ.set i (some d) := List.set_set _
    rw [e2] at k1
    refine ⟨F, A2, B', h1.drop fun b => ?_, rs, k1, h4⟩
    have := k2 b
    rw [e]
    simp only [List.count_append]
    omega
/-- a later state as a new beginning -/
theorem Stt.base (h : Stt S P σ H ρ [] []) : ∃ P' : Pm, P'.lk = P.lk ∧ P'.v0 = P.v0 ∧ P'.n = P.n ∧ P'.H = H ∧ Stt S P' σ H ρ [] [] ∧ (∀ σ' H' ρ' vs ds, Stt S P' σ' H' ρ' vs ds → Stt S P σ' H' ρ' vs ds) ∧ (∀ σ' H' ρ' fs dd, XSt S P' σ' H' ρ' fs dd → XSt S P σ' H' ρ' fs dd) := by
  obtain ⟨F, A, B, h1, h2, h3, h4⟩ := h
  cases h2
  have h1 : Ext P.F P.H P.A F H B := h1
  refine ⟨⟨F, H, B, P.lk, P.v0, P.n⟩, rfl, rfl, rfl, rfl, ⟨F, [], B, ⟨h1.sub, Same.refl _, fun _ _ e _ => e, (fun b o e n => by rw [show F b = none from n] at e; cases e), h1.one, fun b hb => ⟨(h1.own b hb).1, .inr hb⟩, h1.dom⟩, .nil, h3, h4⟩, ?_, ?_⟩
  · rintro σ' H' ρ' vs ds ⟨F', A', B', k1, k2, k3, k4⟩
    exact ⟨F', A', B', h1.trans k1, k2, k3, k4⟩
  · rintro σ' H' ρ' fs dd ⟨F', B', k1, k2, k3, k4⟩
    exact ⟨F', B', h1.trans k1, k2, k3, k4⟩
end

/-! ### expressions in a state -/
section
variable {S : Sw} {P : Pm} {σ : L2.St} {H : Hp} {ρ : Env} {vs us : List V} {ds es : List D}
theorem XRep.mono {F F' H H' : Hp} {fs : List (Nat × D)} {dd : Option Addr} (h : XRep S F H fs dd) (s : Same F F') : XRep S F' H' fs dd := by
  rcases h with h | ⟨f, x, v, e, a, h1, h2, h3, h4, h5⟩
  · exact .inl h
  · exact .inr ⟨f, x, v, e, a, h1, h2, h3, s _ _ h4, h5.mono s fun b hb => nomatch hb⟩
/-- what is wanted of an expression's run in the state: its value kept (es true), or looked at -/
def PV (S : Sw) (P : Pm) (σ : L2.St) (ρ : Env) (vs : List V) (ds : List D) (e : Ex) (r : R D) (Q : VK) (W : WX) : Prop := match r with
  | .ok d => ∀ v H', (esc ρ e d = true → Stt S P σ H' ρ (vs ++ [v]) (ds ++ [d])) → (∃ F' A', Same F' H' ∧ Rep S F' H' v d A') → Stt S P σ H' ρ vs ds → Q v H'
  | .ex c fs => ∀ H' dd, XSt S P σ H' ρ fs dd → W (.ref (S.cA c)) dd σ H'
  | .bad => False
theorem keep {wd : W} {e : Ex} {Rd : VK → Prop} {Q : VK} {W : WX} (h : Stt S P σ H ρ vs ds) (hRd : ∀ F, Same F H → EnvS S F σ (shareE ρ) (vars e) → ∀ Q, PR S F H (ev wd none false e (shareE ρ)) Q (wc W σ) → Rd Q)
    (hq : PV S P σ ρ vs ds e (ev wd none false e (shareE ρ)) Q W) : Rd Q := by
  obtain ⟨F, A, B, h1, h2, h3, h4⟩ := h
  have hAB : ∀ b ∈ A ++ B, ∃ o, H b = some o ∧ ntup o = true := fun b hb => by
    rcases (List.mem_append.mp hb) with z | z
    · exact h2.dom b z
    · exact h3.dom b z
  have sB : ∀ {F' H' : Hp} {C : List Addr}, Ext0 (frzH F H (A ++ B)) H F' H' C → ∀ b ∈ A ++ B, H' b = H b := fun e b hb => by
    obtain ⟨o, q, _⟩ := hAB b hb
    rw [q]; exact e.same0 b o q
  by_cases hn : ((vars e).all fun j => match ρ.get j with
    | some x => noOwn x
    | none => true) = true
  · -- nothing owned is seen
    refine hRd F h1.sub (h3.envN hn) Q ?_
    cases q : ev wd none false e (shareE ρ) with
    | ok d =>
      rw [q] at hq
      intro v F' H' C e1 r
      have sB : ∀ b ∈ A ++ B, H' b = H b := fun b hb => by
        obtain ⟨o, q, _⟩ := hAB b hb
        rw [q]; exact e1.same0 b o q
      have r2 := h2.mono e1.subF fun b hb => sB b (List.mem_append_left _ hb)
      have r3 := h3.mono e1.subF fun b hb => sB b (List.mem_append_right _ hb)
      have x1 := h1.seq e1
      refine hq v H' (fun _ => ⟨F', A ++ C, B, x1.drop fun b => by simp only [List.count_append]; omega, r2.append (.cons r .nil (List.append_nil _).symm), r3, h4⟩) ⟨F', C, e1.sub, r⟩ ⟨F', A, B, x1.drop fun b => by simp only [List.count_append]; omega, r2, r3, h4⟩
    | ex c fs =>
      rw [q] at hq
      intro F' H' dd e1 xr
      have sB : ∀ b ∈ A ++ B, H' b = H b := fun b hb => by
        obtain ⟨o, q, _⟩ := hAB b hb
        rw [q]; exact e1.same0 b o q
      have r3 := h3.mono e1.subF fun b hb => sB b (List.mem_append_right _ hb)
      have x1 := h1.seq e1
      have x2 : Ext P.F P.H P.A F' H' B := x1.drop fun b => by simp only [List.count_append]; omega
      exact hq H' dd ⟨F', B, x2, r3, h4, xr.mono (frzH_of fun b hb => (x2.own b hb).1)⟩
    | bad => rw [q] at hq; exact hq.elim
  · -- over the frozen state
    have env : EnvS S (frzH F H (A ++ B)) σ (shareE ρ) (vars e) := h3.envF (frzH_of fun b hb => (h1.own b hb).1) (fun b hb => frzH_in (List.mem_append_right _ hb)) _
    refine hRd (frzH F H (A ++ B)) (frzH_sub h1.sub) env Q ?_
    cases q : ev wd none false e (shareE ρ) with
    | ok d =>
      rw [q] at hq
      intro v F' H' C e1 r
      obtain ⟨x1, s1⟩ := h1.thaw e1
      have r2 := h2.mono s1 fun b hb => sB e1 b (List.mem_append_left _ hb)
      have r3 := h3.mono s1 fun b hb => sB e1 b (List.mem_append_right _ hb)
      refine hq v H' (fun hes => ?_) ⟨F', C, e1.sub, r⟩ ⟨_, A, B, x1.drop fun b => by simp only [List.count_append]; omega, r2, r3, h4⟩
      have hns : noShr d = true := by
        unfold esc at hes
        rcases Bool.or_eq_true_iff.mp hes with z | z
        · exact z
        · exact absurd z hn
      have r' : Rep S (cutH F' (A ++ B)) H' v d C := r.noShr (sqt_cut e1.sub (same_keep e1.same0 hAB)) hns
      exact ⟨_, A ++ C, B, x1.drop fun b => by simp only [List.count_append]; omega, r2.append (.cons r' .nil (List.append_nil _).symm), r3, h4⟩
    | ex c fs =>
      rw [q] at hq
      intro F' H' dd e1 xr
      -- what was in hand is let go, frozen
      have ef : frzH (frzH F H A) H B = frzH F H (A ++ B) := funext fun b => by
        by_cases hb : b ∈ B
        · rw [frzH_in hb, frzH_in (List.mem_append_right _ hb)]
        · rw [frzH_out hb]
          by_cases ha : b ∈ A
          · rw [frzH_in ha, frzH_in (List.mem_append_left _ ha)]
          · rw [frzH_out ha, frzH_out fun z => (List.mem_append.mp z).elim ha hb]
      have h1' := h1.frz1
      rw [← ef] at e1
      obtain ⟨x1, s1⟩ := h1'.thaw e1
      have r3 := (h3.mono (frzH_of fun b hb => (h1.own b (List.mem_append_left _ hb)).1) fun _ _ => rfl).mono s1 fun b hb => by
        obtain ⟨o, q, _⟩ := h3.dom b hb
        rw [q]; exact e1.same0 b o q
      have eg : frzH (cutH F' B) H' B = F' := funext fun b => by
        by_cases hb : b ∈ B
        · rw [frzH_in hb]
          obtain ⟨o, q, _⟩ := h3.dom b hb
          rw [e1.same0 b o q]
          exact (e1.subF b o (by rw [frzH_in hb]; exact q)).symm
        · rw [frzH_out hb, cutH_out hb]
      refine hq H' dd ⟨cutH F' B, B, x1.drop fun b => by simp only [List.count_append]; omega, r3, h4, ?_⟩
      rw [eg]
      exact xr
    | bad => rw [q] at hq; exact hq.elim
end
end MI

set_option Elab.async false
set_option linter.all false
set_option maxRecDepth 99000
set_option maxHeartbeats 999000
/-! MiK: values that are kept; statements. -/
namespace MI
open PySem L2 PySem.Spec PyProof.Rows

section
variable {S : Sw} {F H : Hp}
theorem Reps.split : ∀ {vs us : List V} {ds es : List D} {A : List Addr}, Reps S F H (vs ++ us) (ds ++ es) A → vs.length = ds.length → ∃ A1 A2, A = A1 ++ A2 ∧ Reps S F H vs ds A1 ∧ Reps S F H us es A2
  | [], _, [], _, A, r, _ => ⟨[], A, rfl, .nil, r⟩
  | [], _, _ :: _, _, _, _, h => nomatch h
  | _ :: _, _, [], _, _, _, h => nomatch h
  | v :: vs, us, d :: ds, es, A, .cons r rs e, h => by
    obtain ⟨A1, A2, h1, h2, h3⟩ := Reps.split rs (Nat.succ.inj h)
    exact ⟨_ ++ A1, A2, by rw [e, h1, List.append_assoc], .cons r h2 rfl, h3⟩
end
section
variable {S : Sw} {P : Pm} {σ : L2.St} {H : Hp} {ρ : Env} {vs us : List V} {ds es : List D}
theorem Stt.vlen (h : Stt S P σ H ρ vs ds) : vs.length = ds.length := by
  obtain ⟨F, A, B, h1, h2, h3, h4⟩ := h
  exact h2.len
/-- the last values in hand become a tuple -/
theorem Stt.tup {p : Addr} (h : Stt S P σ H ρ (vs ++ us) (ds ++ es)) (hl : vs.length = ds.length) (n : H p = none) : Stt S P σ (upd H p (.tup us)) ρ (vs ++ [.ref p]) (ds ++ [.tup es]) := by
  obtain ⟨F, A, B, h1, h2, h3, h4⟩ := h
  obtain ⟨A1, A2, rfl, r1, r2⟩ := h2.split hl
  have e := Ext.layF (o := .tup us) h1.sub n
  have sF : Same F (upd F p (.tup us)) := e.subF
  have sH : ∀ b, (∃ o, H b = some o) → upd H p (.tup us) b = H b := fun b ⟨o, q⟩ => upd_ne (ne_of_none q n)
  have k1 := r1.mono sF fun b hb => sH b (by obtain ⟨o, q, _⟩ := r1.dom b hb; exact ⟨o, q⟩)
  have k2 := r2.mono sF fun b hb => sH b (by obtain ⟨o, q, _⟩ := r2.dom b hb; exact ⟨o, q⟩)
  have k3 := h3.mono sF fun b hb => sH b (by obtain ⟨o, q, _⟩ := h3.dom b hb; exact ⟨o, q⟩)
  exact ⟨_, A1 ++ A2, B, (h1.seq e).drop fun b => by simp only [List.count_append, List.count_nil]; omega, k1.append (.cons (.tup (.inl (.inl upd_same)) k2) .nil (List.append_nil _).symm), k3, h4⟩
theorem Stt.lst {p : Addr} (h : Stt S P σ H ρ (vs ++ us) (ds ++ es)) (hl : vs.length = ds.length) (n : H p = none) : Stt S P σ (upd H p (.lst us)) ρ (vs ++ [.ref p]) (ds ++ [.lst true es]) := by
  obtain ⟨F, A, B, h1, h2, h3, h4⟩ := h
  obtain ⟨A1, A2, rfl, r1, r2⟩ := h2.split hl
  have e := Ext.lay0 (o := .lst us) h1.sub n
  have sH : ∀ b, (∃ o, H b = some o) → upd H p (.lst us) b = H b := fun b ⟨o, q⟩ => upd_ne (ne_of_none q n)
  have k1 := r1.mono (Same.refl F) fun b hb => sH b (by obtain ⟨o, q, _⟩ := r1.dom b hb; exact ⟨o, q⟩)
  have k2 := r2.mono (Same.refl F) fun b hb => sH b (by obtain ⟨o, q, _⟩ := r2.dom b hb; exact ⟨o, q⟩)
  have k3 := h3.mono (Same.refl F) fun b hb => sH b (by obtain ⟨o, q, _⟩ := h3.dom b hb; exact ⟨o, q⟩)
  refine ⟨F, A1 ++ (p :: A2), B, (h1.seq e).drop fun b => ?_, k1.append (.cons (.lstO upd_same k2 rfl) .nil (List.append_nil _).symm), k3, h4⟩
  simp only [List.count_append, List.count_cons, List.count_nil]
  omega
end

/-! ### values that are kept -/
def PMx (S : Sw) (P : Pm) (σ : L2.St) (ρ : Env) (vs : List V) (ds : List D) (r : R (D × Env)) (Q : VK) (W : WX) : Prop := match r with
  | .ok q => ∀ v H', Stt S P σ H' q.2 (vs ++ [v]) (ds ++ [q.1]) → Q v H'
  | .ex c fs => ∀ H' dd, XSt S P σ H' ρ fs dd → W (.ref (S.cA c)) dd σ H'
  | .bad => False
def PMs (S : Sw) (P : Pm) (σ : L2.St) (ρ : Env) (vs : List V) (ds : List D) (r : R (List D × Env)) (Q : List V → Hp → Prop) (W : WX) : Prop := match r with
  | .ok q => ∀ us H', Stt S P σ H' q.2 (vs ++ us) (ds ++ q.1) → Q us H'
  | .ex c fs => ∀ H' dd, XSt S P σ H' ρ fs dd → W (.ref (S.cA c)) dd σ H'
  | .bad => False
section
variable {S : Sw} {M : Nms} {N : List Str} {wd : W} {k : Nat}
theorem PMx.bindX {P : Pm} {σ : L2.St} {ρ : Env} {vs : List V} {ds : List D} {x : R D} {e : Ex} {Q : VK} {W : WX} (h : PMx S P σ ρ vs ds (x.bind fun d => if esc ρ e d then .ok (d, ρ) else .bad) Q W) : PV S P σ ρ vs ds e x Q W := by
  cases x with
  | ok d =>
    intro v H' h1 _ _
    have h : PMx S P σ ρ vs ds (if esc ρ e d then .ok (d, ρ) else .bad) Q W := h
    cases q : esc ρ e d with
    | false => rw [q] at h; exact h.elim
    | true => rw [q] at h; exact h v H' (h1 q)
  | ex c fs => exact h
  | bad => exact h
mutual
theorem sm_all : ∀ (m : Mx) (x : PySem.Expr) (sc : Scope) (cm : Bool) (X : Cx), Gd S M N wd cm k sc X → mM M N cm sc m x = true → ∀ (P : Pm) (σ : L2.St) (H : Hp) (ρ : Env) (vs : List V) (ds : List D), Stt S P σ H ρ vs ds →
    ∀ (Q : VK) (W : WX), PMx S P σ ρ vs ds (evM wd none m ρ) Q W → RE X x σ H Q W
  | .ex e, x, sc, cm, X, G, m, P, σ, H, ρ, vs, ds, st, Q, W, hq => by
    refine keep (e := e) (Rd := fun Q => RE X x σ H Q W) st (fun F sF hρ Q h => (se_all e).1 x sc cm X G m F H σ (shareE ρ) sF hρ Q W h) ?_
    exact PMx.bindX hq
  | .mov i, x, sc, cm, X, G, m, P, σ, H, ρ, vs, ds, st, Q, W, hq => by
    cases x with
    | Name y p =>
      obtain ⟨m, m4⟩ := an (show (decide (N[i]? = some y) && visB sc y && dbgB y && cdcB y) = true from m)
      obtain ⟨m, m3⟩ := an m
      obtain ⟨m1, m2⟩ := an m
      have hq : PMx S P σ ρ vs ds (match ρ.get i with
        | some d => .ok (d, ρ.set i none)
        | none => .bad) Q W := hq
      cases q : ρ.get i with
      | none => rw [q] at hq; exact hq.elim
      | some d =>
        rw [q] at hq
        obtain ⟨v, h1, h2⟩ := st.mov q
        exact re_of (pe_var (i := i) (by show X.N[i]? = _; rw [G.eN]; exact of_decide_eq_true m1) (G.vis y m2) (beq_iff_eq.mp m3) (beq_iff_eq.mp m4)) ⟨v, h1, hq v H h2⟩
    | _ => exact ff m
  | .tup ms, x, sc, cm, X, G, m, P, σ, H, ρ, vs, ds, st, Q, W, hq => by
    cases x with
    | Tuple xs j p =>
      refine re_of (pe_tup pa_can) ?_
      refine sms_all ms xs sc cm X G m P σ H ρ vs ds st _ W ?_
      have hq : PMx S P σ ρ vs ds ((evMs wd none ms ρ).bind fun r => if r.1.length ≤ sizeLine then .ok (.tup r.1, r.2) else .bad) Q W := hq
      cases q : evMs wd none ms ρ with
      | ok r =>
        rw [q] at hq
        intro us H' h1
        have hq : PMx S P σ ρ vs ds (if r.1.length ≤ sizeLine then .ok (.tup r.1, r.2) else .bad) Q W := hq
        by_cases hz : r.1.length ≤ sizeLine
        · rw [if_pos hz] at hq
          have hl := h1.vlen
          rw [List.length_append, List.length_append, st.vlen] at hl
          exact ⟨by omega, fun p n => hq (.ref p) _ (h1.tup st.vlen n)⟩
        · rw [if_neg hz] at hq; exact hq.elim
      | ex c fs => rw [q] at hq; exact hq
      | bad => rw [q] at hq; exact hq
    | _ => exact ff m
  | .lst ms, x, sc, cm, X, G, m, P, σ, H, ρ, vs, ds, st, Q, W, hq => by
    cases x with
    | List xs p =>
      refine re_of (pe_lst pa_can) ?_
      refine sms_all ms xs sc cm X G m P σ H ρ vs ds st _ W ?_
      have hq : PMx S P σ ρ vs ds ((evMs wd none ms ρ).bind fun r => if r.1.length ≤ sizeLine then .ok (.lst true r.1, r.2) else .bad) Q W := hq
      cases q : evMs wd none ms ρ with
      | ok r =>
        rw [q] at hq
        intro us H' h1
        have hq : PMx S P σ ρ vs ds (if r.1.length ≤ sizeLine then .ok (.lst true r.1, r.2) else .bad) Q W := hq
        by_cases hz : r.1.length ≤ sizeLine
        · rw [if_pos hz] at hq
          have hl := h1.vlen
          rw [List.length_append, List.length_append, st.vlen] at hl
          exact ⟨by omega, fun p n => hq (.ref p) _ (h1.lst st.vlen n)⟩
        · rw [if_neg hz] at hq; exact hq.elim
      | ex c fs => rw [q] at hq; exact hq
      | bad => rw [q] at hq; exact hq
    | _ => exact ff m
theorem sms_all : ∀ (ms : List Mx) (xs : List PySem.Expr) (sc : Scope) (cm : Bool) (X : Cx), Gd S M N wd cm k sc X → mMs M N cm sc ms xs = true → ∀ (P : Pm) (σ : L2.St) (H : Hp) (ρ : Env) (vs : List V) (ds : List D), Stt S P σ H ρ vs ds →
    ∀ (Q : List V → Hp → Prop) (W : WX), PMs S P σ ρ vs ds (evMs wd none ms ρ) Q W → RA X xs σ H Q W
  | [], xs, sc, cm, X, G, m, P, σ, H, ρ, vs, ds, st, Q, W, hq => by
    cases xs with
    | nil => exact ra_of pa_nil (hq [] H (by rw [List.append_nil, List.append_nil]; exact st))
    | cons _ _ => exact ff m
  | mx :: ms, xs, sc, cm, X, G, m, P, σ, H, ρ, vs, ds, st, Q, W, hq => by
    cases xs with
    | nil => exact ff m
    | cons x xs =>
      obtain ⟨m, m3⟩ := an (show (plainX x && mM M N cm sc mx x && mMs M N cm sc ms xs) = true from m)
      obtain ⟨m1, m2⟩ := an m
      refine ra_of (pa_cons pe_can pa_can (star_ok m1)) ?_
      refine sm_all mx x sc cm X G m2 P σ H ρ vs ds st _ W ?_
      have hq : PMs S P σ ρ vs ds ((evM wd none mx ρ).bind fun r => (noEx (evMs wd none ms r.2)).bind fun q => .ok (r.1 :: q.1, q.2)) Q W := hq
      cases q : evM wd none mx ρ with
      | ok r =>
        rw [q] at hq
        have hq : PMs S P σ ρ vs ds ((noEx (evMs wd none ms r.2)).bind fun q => .ok (r.1 :: q.1, q.2)) Q W := hq
        intro v H1 h1
        refine sms_all ms xs sc cm X G m3 P σ H1 r.2 _ _ h1 _ W ?_
        cases q2 : evMs wd none ms r.2 with
        | ok r2 =>
          rw [q2] at hq
          intro us H2 h2
          refine hq (v :: us) H2 ?_
          have : Stt S P σ H2 r2.2 (vs ++ [v] ++ us) (ds ++ [r.1] ++ r2.1) := h2
          rw [List.append_assoc, List.append_assoc] at this
          exact this
        | ex c fs => rw [q2] at hq; exact hq.elim
        | bad => rw [q2] at hq; exact hq.elim
      | ex c fs => rw [q] at hq; exact hq
      | bad => rw [q] at hq; exact hq
end
end

/-! ### statements: the weakest reading -/
abbrev Psn (X : Cx) : Prop := PassesOwn (model X.prog X.w) X.A X.env X.xe
def RS (X : Cx) (st : Stmt) (σ : L2.St) (H : Hp) (D : Ends) (W : WX) : Prop :=
  Takes X W → Psn X → ∀ (pins : List (Addr × Obj)) (s : Shared), Inv X pins σ H s → wpAny (model X.prog X.w) X.A (exec st X.env) (SP X pins D) X.xe s
def RSs (X : Cx) (st : List Stmt) (σ : L2.St) (H : Hp) (D : Ends) (W : WX) : Prop :=
  Takes X W → Psn X → ∀ (pins : List (Addr × Obj)) (s : Shared), Inv X pins σ H s → wpAny (model X.prog X.w) X.A (execs st X.env) (SP X pins D) X.xe s
section
variable {X : Cx} {W : WX} {st : Stmt} {sts : List Stmt} {σ : L2.St} {H : Hp} {D : Ends}
theorem rs_of {t : TS} (h : Takes X W → Psn X → PS X st t) (q : t D σ H) : RS X st σ H D W := fun tk hp pins s I => (h tk hp).run pins s σ H D I q
theorem ps_tk (tk : Takes X W) (hp : Psn X) : PS X st (fun D σ H => RS X st σ H D W) := ⟨fun pins s σ H D I h => h tk hp pins s I⟩
theorem rss_of {t : TS} (h : Takes X W → Psn X → PSs X sts t) (q : t D σ H) : RSs X sts σ H D W := fun tk hp pins s I => (h tk hp).run pins s σ H D I q
theorem pss_tk (tk : Takes X W) (hp : Psn X) : PSs X sts (fun D σ H => RSs X sts σ H D W) := ⟨fun pins s σ H D I h => h tk hp pins s I⟩
theorem pe_tk {x : PySem.Expr} (tk : Takes X W) : PE X x (fun σ H Q => RE X x σ H Q W) := ⟨fun pins s σ H Q I h => wpAny_mono (h pins s I) (fun _ _ z => z) fun u s z => tk u s z⟩
theorem pt_tk {x : PySem.Expr} (tk : Takes X W) : PT X x (fun σ H Q => RT X x σ H Q W) := ⟨fun pins s σ H Q I h => wpAny_mono (h pins s I) (fun _ _ z => z) fun u s z => tk u s z⟩
theorem pa_tk {xs : List PySem.Expr} (tk : Takes X W) : PA X xs (fun σ H Q => RA X xs σ H Q W) := ⟨fun pos pins s σ H Q I h => wpAny_mono (h pos pins s I) (fun _ _ z => z) fun u s z => tk u s z⟩
theorem pi_tk {tg iter : PySem.Expr} (tk : Takes X W) : PI X tg iter (fun σ H R => RI X tg iter σ H R W) := ⟨fun pins s σ H R I h =>
  wpAny_mono (h pins s I) (fun _ _ z => wpAny_mono z (fun _ _ z => z) fun u s z => tk u s z) fun u s z => tk u s z⟩
end
/-- what an outcome asks -/
def PO (S : Sw) (P : Pm) (o : O) (D : Ends) (W : WX) : Prop := match o with
  | .nx ρ => ∀ σ H, Stt S P σ H ρ [] [] → D.nx σ H
  | .bk ρ => ∀ σ H, Stt S P σ H ρ [] [] → D.bk σ H
  | .ct ρ => ∀ σ H, Stt S P σ H ρ [] [] → D.ct σ H
  | .rt d ρ => ∀ v σ H, Stt S P σ H ρ [v] [d] → D.rt v H
  | .ex c fs ρ => ∀ σ H dd, XSt S P σ H ρ fs dd → W (.ref (S.cA c)) dd σ H
  | .bad => False
section
variable (S : Sw) (M : Nms) (N : List Str) (wd : W) (k : Nat) (lk : Bool)
def SSt (s : Sx) : Prop := ∀ (st : Stmt) (sc : Scope) (cm : Bool) (X : Cx), Gd S M N wd cm k sc X → X.env.scope = sc → mS M N cm sc s st = true → ∀ (P : Pm) (σ : L2.St) (H : Hp) (ρ : Env), P.lk = lk → Stt S P σ H ρ [] [] →
  ∀ (D : Ends) (W : WX), PO S P (exS wd none lk s ρ) D W → RS X st σ H D W
def SSs (ss : Sxs) : Prop := ∀ (sts : List Stmt) (sc : Scope) (cm : Bool) (X : Cx), Gd S M N wd cm k sc X → X.env.scope = sc → mSs M N cm sc ss sts = true → ∀ (P : Pm) (σ : L2.St) (H : Hp) (ρ : Env), P.lk = lk → Stt S P σ H ρ [] [] →
  ∀ (D : Ends) (W : WX), PO S P (exSs wd none lk ss ρ) D W → RSs X sts σ H D W
end
section
variable {S : Sw} {M : Nms} {N : List Str} {wd : W} {k : Nat} {lk : Bool}
theorem ss_pass : SSt S M N wd k lk .pass := by
  intro st sc cm X G hsc m P σ H ρ hlk hst D W hq
  cases st with
  | Pass p => exact rs_of (fun _ _ => ps_pass) (hq σ H hst)
  | Expr x p => cases x with
    | Constant c j q => cases c with
      | str z => exact rs_of (fun _ _ => ps_doc) (hq σ H hst)
      | _ => exact ff m
    | _ => exact ff m
  | _ => exact ff m
theorem ss_brk : SSt S M N wd k lk .brk := by
  intro st sc cm X G hsc m P σ H ρ hlk hst D W hq
  cases st with
  | Break p => exact rs_of (fun _ _ => ps_break) (hq σ H hst)
  | _ => exact ff m
theorem ss_cnt : SSt S M N wd k lk .cnt := by
  intro st sc cm X G hsc m P σ H ρ hlk hst D W hq
  cases st with
  | Continue p => exact rs_of (fun _ _ => ps_continue) (hq σ H hst)
  | _ => exact ff m
theorem Stt.non {P : Pm} {σ : L2.St} {H : Hp} {ρ : Env} (h : Stt S P σ H ρ [] []) : Stt S P σ H ρ [.non] [.non] := by
  obtain ⟨F, A, B, h1, h2, h3, h4⟩ := h
  cases h2
  exact ⟨F, [], B, h1, .cons .non .nil rfl, h3, h4⟩
theorem ss_retN : SSt S M N wd k lk .retN := by
  intro st sc cm X G hsc m P σ H ρ hlk hst D W hq
  cases st with
  | Return o p => cases o with
    | none => exact rs_of (fun _ _ => ps_retN) (hq .non σ H hst.non)
    | some _ => exact ff m
  | _ => exact ff m
theorem ss_ret (mx : Mx) : SSt S M N wd k lk (.ret mx) := by
  intro st sc cm X G hsc m P σ H ρ hlk hst D W hq
  cases st with
  | Return o p => cases o with
    | none => exact ff m
    | some x =>
      refine rs_of (fun tk _ => ps_ret (pe_tk tk)) ?_
      refine sm_all mx x sc cm X G m P σ H ρ [] [] hst _ W ?_
      have hq : PO S P ((evM wd none mx ρ).o ρ fun r => .rt r.1 r.2) D W := hq
      cases q : evM wd none mx ρ with
      | ok r => rw [q] at hq; exact fun v H' h => hq v σ H' h
      | ex c fs => rw [q] at hq; exact fun H' dd h => hq σ H' dd h
      | bad => rw [q] at hq; exact hq
  | _ => exact ff m
theorem sw_no {x : PySem.Expr} {t : Option PySem.Expr} {l : Nat} {env : PySem.Env} (h : isComp x = false) : swapsWith x t l env = pure false := by
  cases x <;> first | rfl | cases h
theorem sw_sub {x o i : PySem.Expr} {p : Pos} {l : Nat} {env : PySem.Env} : swapsWith x (some (.Subscript o i p)) l env = pure false := by
  cases x <;> rfl
theorem nb {b : Bool} (h : (!b) = true) : b = false := by cases b <;> first | rfl | cases h
theorem ss_exp (e : Ex) : SSt S M N wd k lk (.exp e) := by
  intro st sc cm X G hsc m P σ H ρ hlk hst D W hq
  cases st with
  | Expr x p =>
    obtain ⟨m1, m2⟩ := an (show (mE M N cm sc false e x && !isComp x) = true from m)
    refine rs_of (fun tk _ => ps_expr (pe_tk tk) (sw_no (nb m2))) ?_
    refine keep (e := e) (Rd := fun Q => RE X x σ H Q W) hst (fun F sF hρ Q h => (se_all e).1 x sc cm X G m1 F H σ (shareE ρ) sF hρ Q W h) ?_
    have hq : PO S P ((ev wd none false e (shareE ρ)).o ρ fun _ => .nx ρ) D W := hq
    cases q : ev wd none false e (shareE ρ) with
    | ok r => rw [q] at hq; exact fun v H' _ _ h => hq σ H' h
    | ex c fs => rw [q] at hq; exact fun H' dd h => hq σ H' dd h
    | bad => rw [q] at hq; exact hq
  | _ => exact ff m
theorem slot_lt {X : Cx} {cm : Bool} {sc : Scope} (G : Gd S M N wd cm k sc X) {pins : List (Addr × Obj)} {σ : L2.St} {H : Hp} {s : Shared} (I : Inv X pins σ H s) {i : Nat} {y : Str} (h : N[i]? = some y) : i < σ.length := by
  rw [I.len, G.eN]; exact ix_lt h
theorem rs_len {X : Cx} {st : Stmt} {σ : L2.St} {H : Hp} {D : Ends} {W : WX} (h : σ.length = X.N.length → RS X st σ H D W) : RS X st σ H D W := fun tk hp pins s I => h I.len tk hp pins s I
end
end MI

set_option Elab.async false
set_option linter.all false
set_option maxRecDepth 99000
set_option maxHeartbeats 999000
/-! MiL: statements: assignment, changes, branches, loops. -/
namespace MI
open PySem L2 PySem.Spec PyProof.Rows

/-! ### name = {..} on one line, the name a local -/
section
variable {X : Cx}
theorem ps_setDc {i : Nat} {y : Str} {py : Pos} {kx vx tg iter : PySem.Expr} {ifs : List PySem.Expr} {scope : Scope} {own : List (Str × Nat)} {pos spos : Pos} {wi : TI} {g : TG} {tt : TT} {tk tv : TE} (hc : X.calm = true) (hN : X.N.Nodup) (hy : X.N[i]? = some y) (hyl : X.env.scope.names.lookup y = some .local)
    (hsw : swapsWith (.DictComp kx vx [⟨tg, iter, ifs, 0⟩] scope pos) (some (.Name y py)) spos.line X.env = pure true) (hi : PI X tg iter wi) (ok : BlkOk X.N X.env.scope scope own)
    (hg : ∀ (s : Shared) (H : Hp) (C : Addr) (cl : List (Str × Addr)) (fp : List Addr), PG (X.blk s H scope (compEnvC scope cl C X.env) fp) tg g) (ht : ∀ (s : Shared) (H : Hp) (C : Addr) (cl : List (Str × Addr)) (fp : List Addr), PTs (X.blk s H scope (compEnvC scope cl C X.env) fp) ifs tt) (hk : ∀ (s : Shared) (H : Hp) (C : Addr) (cl : List (Str × Addr)) (fp : List Addr), PE (X.blk s H scope (compEnvC scope cl C X.env) fp) kx tk) (he : ∀ (s : Shared) (H : Hp) (C : Addr) (cl : List (Str × Addr)) (fp : List Addr), PE (X.blk s H scope (compEnvC scope cl C X.env) fp) vx tv) (hs : ∀ x, foldedSetIterable iter X.env x = pure x) :
    PS X (.Assign [.Name y py] (.DictComp kx vx [⟨tg, iter, ifs, 0⟩] scope pos) spos) (tAsg (tDc wi g tt tk tv (own.map (·.2))) (gName i)) := by
  constructor
  intro pins s σ H D I wish
  -- what the dict's run is to reach: the name bound to it
  have wish : tDc wi g tt tk tv (own.map (·.2)) σ H (fun x G => gName i x σ G D.nx) := wish
  have core := dc_core (pos := pos) (pos' := firstIterPos [⟨tg, iter, ifs, 0⟩] pos) (use := some (assign (.Name y py) X.env)) (Qf := fun _ t => SP X pins D .next t) hc hN I hi ok hg ht hk he hs wish (by
    intro L C t m H' I' q hn f
    show wpAny _ _ (assign (.Name y py) X.env _) _ _ _
    obtain ⟨f0, f1, f2, f3, f4, f5⟩ := (f)
    refine wpAny_assign_Name (store_ok2 (v := .ref L) I' hN hy (.inl hyl) rfl ?_ (.inr hyl))
    rintro t2 I2 ⟨a, sb, at_⟩
    have ne : C ≠ a := by
      intro z
      rcases at_ with w | w
      · exact f1 (z.trans w)
      · exact f4 y a w z.symm
    refine ⟨m, hn.sameBut sb ne, fun t3 sb3 => ⟨_, H', ?_, q⟩⟩
    exact I2.turned (t' := t2.toks) (fun b o hb e => (sb3.2 b hb).trans e) f0 f1 f3 f4 f5)
  rewrite [exec_Assign_Name_used _ _ _ _ hsw]
  exact wpAny_bind (wpAny_standAt (wpAny_bind (wpAny_bind (thn core fun _ _ last => wpAny_pure (wpAny_pure last)))))
end

section
variable {S : Sw} {M : Nms} {N : List Str} {wd : W} {k : Nat} {lk : Bool}
theorem rs_kind {X : Cx} {st : Stmt} {σ : L2.St} {H : Hp} {D : Ends} {W : WX} (h : X.env.scope.kind = .function → σ.length = X.N.length → RS X st σ H D W) : RS X st σ H D W := fun tk hp pins s I => h I.ok.kind I.len tk hp pins s I
theorem swB_ok {x : PySem.Expr} {y : Str} {py : Pos} {l : Nat} {env : PySem.Env} {sc : Scope} (hsc : env.scope = sc) (hk : env.scope.kind = .function) : swapsWith x (some (.Name y py)) l env = pure (swB sc y py x) := by
  have hb : env.blockKind = .function := by unfold Env.blockKind; rw [hk] <;> rfl
  have e : (env.kindOf y == some .local) = (match sc.names.lookup y with
    | some .local => true
    | _ => false) := by
    show (env.scope.names.lookup y == some .local) = _
    rw [hsc]
    cases sc.names.lookup y with
    | none => rfl
    | some q => cases q <;> rfl
  cases x <;> first | rfl | (unfold swapsWith; simp only [hb, e, Expr.pos]; rfl)
theorem okT_1 {lk : Bool} {i : Nat} (h : okT lk [i] = true) : lk = true → i ≠ 0 := okT_ne h (List.mem_singleton.mpr rfl)
theorem ss_asg (i : Nat) (mx : Mx) : SSt S M N wd k lk (.asg i mx) := by
  intro st sc cm X G hsc m P σ H ρ hlk hst D W hq
  cases st with
  | Assign ts x p =>
    cases ts with
    | nil => exact ff m
    | cons t ts =>
      cases t with
      | Name y py =>
        cases ts with
        | cons _ _ => exact ff m
        | nil =>
          obtain ⟨m1, m2⟩ := an (show (sName N sc i y && mM M N cm sc mx x) = true from m)
          obtain ⟨m3, m4⟩ := an (show (decide (N[i]? = some y) && stoB sc y) = true from m1)
          have m3 := of_decide_eq_true m3
          obtain ⟨l1, l2⟩ := G.sto y m4
          refine rs_kind fun hk hlen => ?_
          have hi : i < σ.length := by rw [hlen, G.eN]; exact ix_lt m3
          have hN : X.N.Nodup := by rw [G.eN]; exact G.nd
          have hy : X.N[i]? = some y := by rw [G.eN]; exact m3
          have hq : PO S P ((evM wd none mx ρ).o ρ fun r => if okT lk [i] then .nx (r.2.set i (some r.1)) else .bad) D W := hq
          -- what the value's run is to reach
          have key : PMx S P σ ρ [] [] (evM wd none mx ρ) (fun v H1 => D.nx (σ.set i (some v)) H1) W := by
            cases q : evM wd none mx ρ with
            | ok r =>
              rw [q] at hq
              have hq : PO S P (if okT lk [i] then .nx (r.2.set i (some r.1)) else .bad) D W := hq
              intro v H' h
              cases ho : okT lk [i] with
              | false => rw [ho] at hq; exact hq.elim
              | true =>
                rw [ho] at hq
                exact hq _ H' (Stt.store (vs := []) (ds := []) h hi (by rw [hlk]; exact okT_1 ho))
            | ex c fs => rw [q] at hq; exact fun H' dd h => hq σ H' dd h
            | bad => rw [q] at hq; exact hq
          have hsw := swB_ok (x := x) (y := y) (py := py) (l := p.line) hsc hk
          cases hb : swB sc y py x with
          | false =>
            rw [hb] at hsw
            exact rs_of (fun tk _ => ps_set hN hy l1 (pe_tk tk) hsw l2) (sm_all mx x sc cm X G m2 P σ H ρ [] [] hst _ W key)
          | true =>
            rw [hb] at hsw
            have hyl : X.env.scope.names.lookup y = some .local := by
              have : (match sc.names.lookup y with
                | some .local => true
                | _ => false) = true := by
                cases x <;> first | exact ff hb | exact (an (an hb).1).1
              rw [hsc]
              split at this
              · assumption
              · cases this
            cases mx with
            | ex e =>
              have m2 : mE M N cm sc false e x = true := m2
              have key2 := PMx.bindX key
              cases x with
              | ListComp elt gs scope p2 =>
                cases gs with
                | nil => cases e with
                  | dct es => cases es <;> exact ff m2
                  | _ => exact ff m2
                | cons g gs =>
                  obtain ⟨t, it, ifs, as⟩ := g
                  have : as = 0 ∧ gs = [] := by
                    cases e with
                    | lcp tg it c e own =>
                      cases as with
                      | negSucc _ => cases gs <;> exact ff m2
                      | ofNat n => cases n with
                        | succ _ => cases gs <;> exact ff m2
                        | zero => cases gs with
                          | nil => exact ⟨rfl, rfl⟩
                          | cons _ _ => exact ff m2
                    | dct es => cases es <;> exact ff m2
                    | _ => exact ff m2
                  obtain ⟨rfl, rfl⟩ := this
                  cases e with
                  | lcp tg itx c e own =>
                    obtain ⟨f1, f2, f3, f4, f5, f6, f7⟩ := lcp_fc G m2
                    refine rs_of (fun tk _ => ps_setLc f1 f2 hy hyl hsw (pi_tk tk) f3 f4 f5 f6 f7) ?_
                    exact keep (e := .lcp tg itx c e own) (Rd := fun Q => tLc (fun σ H R => RI X t it σ H R W) (gTg X.K tg) (bTT X scope ifs) (bTE X scope elt) ((ownP N own).map (·.2)) σ H Q) hst
                      (fun F sF hρ Q h => lcp_rd (se_all itx).2.2 (se_all c).2.1 (se_all e).1 G m2 sF hρ h hlen) key2
                  | dct es => cases es <;> exact ff m2
                  | _ => exact ff m2
              | DictComp kx vx gs scope p2 =>
                cases gs with
                | nil => cases e with
                  | dct es => cases es <;> exact ff m2
                  | _ => exact ff m2
                | cons g gs =>
                  obtain ⟨t, it, ifs, as⟩ := g
                  have : as = 0 ∧ gs = [] := by
                    cases e with
                    | dcp tg it c e e2 own =>
                      cases as with
                      | negSucc _ => cases gs <;> exact ff m2
                      | ofNat n => cases n with
                        | succ _ => cases gs <;> exact ff m2
                        | zero => cases gs with
                          | nil => exact ⟨rfl, rfl⟩
                          | cons _ _ => exact ff m2
                    | dct es => cases es <;> exact ff m2
                    | _ => exact ff m2
                  obtain ⟨rfl, rfl⟩ := this
                  cases e with
                  | dcp tg itx c e e2 own =>
                    obtain ⟨f1, f2, f3, f4, f5, f6, f7, f8⟩ := dcp_fc G m2
                    refine rs_of (fun tk _ => ps_setDc f1 f2 hy hyl hsw (pi_tk tk) f3 f4 f5 f6 f7 f8) ?_
                    exact keep (e := .dcp tg itx c e e2 own) (Rd := fun Q => tDc (fun σ H R => RI X t it σ H R W) (gTg X.K tg) (bTT X scope ifs) (bTE X scope kx) (bTE X scope vx) ((ownP N own).map (·.2)) σ H Q) hst
                      (fun F sF hρ Q h => dcp_rd (se_all itx).2.2 (se_all c).2.1 (se_all e).1 (se_all e2).1 G m2 sF hρ h hlen) key2
                  | dct es => cases es <;> exact ff m2
                  | _ => exact ff m2
              | SetComp => cases e with
                | dct es => cases es <;> exact ff m2
                | _ => exact ff m2
              | _ => exact ff hb
            | mov j => cases x <;> first | exact ff m2 | exact ff hb
            | tup ms => cases x <;> first | exact ff m2 | exact ff hb
            | lst ms => cases x <;> first | exact ff m2 | exact ff hb
      | _ => cases ts <;> exact ff m
  | _ => exact ff m

/-! ### tests in a state -/
def PVB (S : Sw) (P : Pm) (σ : L2.St) (ρ : Env) (vs : List V) (ds : List D) (r : R Bool) (Q : Bool → Hp → Prop) (W : WX) : Prop := match r with
  | .ok b => ∀ H', Stt S P σ H' ρ vs ds → Q b H'
  | .ex c fs => ∀ H' dd, XSt S P σ H' ρ fs dd → W (.ref (S.cA c)) dd σ H'
  | .bad => False
/-- a run over the frozen state: behind it the state is as it was -/
theorem thawed {P : Pm} {σ : L2.St} {H : Hp} {ρ : Env} {F : Hp} {A B : List Addr} {vs : List V} {ds : List D} (h1 : Ext P.F P.H P.A F H (A ++ B)) (h2 : Reps S F H vs ds A) (h3 : Slots S F H σ ρ B) (h4 : P.K σ)
    {F' H' : Hp} {C : List Addr} (e1 : Ext0 (frzH F H (A ++ B)) H F' H' C) : Stt S P σ H' ρ vs ds ∧ ∀ fs dd, XRep S F' H' fs dd → XSt S P σ H' ρ fs dd := by
  have hAB : ∀ b ∈ A ++ B, ∃ o, H b = some o ∧ ntup o = true := fun b hb => by
    rcases (List.mem_append.mp hb) with z | z
    · exact h2.dom b z
    · exact h3.dom b z
  have sB : ∀ b ∈ A ++ B, H' b = H b := fun b hb => by
    obtain ⟨o, q, _⟩ := hAB b hb
    rw [q]; exact e1.same0 b o q
  refine ⟨?_, fun fs dd xr => ?_⟩
  · obtain ⟨x1, s1⟩ := h1.thaw e1
    have r2 := h2.mono s1 fun b hb => sB b (List.mem_append_left _ hb)
    have r3 := h3.mono s1 fun b hb => sB b (List.mem_append_right _ hb)
    exact ⟨_, A, B, x1.drop fun b => by simp only [List.count_append]; omega, r2, r3, h4⟩
  · have ef : frzH (frzH F H A) H B = frzH F H (A ++ B) := funext fun b => by
      by_cases hb : b ∈ B
      · rw [frzH_in hb, frzH_in (List.mem_append_right _ hb)]
      · rw [frzH_out hb]
        by_cases ha : b ∈ A
        · rw [frzH_in ha, frzH_in (List.mem_append_left _ ha)]
        · rw [frzH_out ha, frzH_out fun z => (List.mem_append.mp z).elim ha hb]
    have h1' := h1.frz1
    rw [← ef] at e1
    obtain ⟨x1, s1⟩ := h1'.thaw e1
    have r3 := (h3.mono (frzH_of fun b hb => (h1.own b (List.mem_append_left _ hb)).1) fun _ _ => rfl).mono s1 fun b hb => by
      obtain ⟨o, q, _⟩ := h3.dom b hb
      rw [q]; exact e1.same0 b o q
    have eg : frzH (cutH F' B) H' B = F' := funext fun b => by
      by_cases hb : b ∈ B
      · rw [frzH_in hb]
        obtain ⟨o, q, _⟩ := h3.dom b hb
        rw [e1.same0 b o q]
        exact (e1.subF b o (by rw [frzH_in hb]; exact q)).symm
      · rw [frzH_out hb, cutH_out hb]
    refine ⟨cutH F' B, B, x1.drop fun b => by simp only [List.count_append]; omega, r3, h4, ?_⟩
    rw [eg]
    exact xr
theorem keepB {e : Ex} {Rd : (Bool → Hp → Prop) → Prop} {Q : Bool → Hp → Prop} {W : WX} {P : Pm} {σ : L2.St} {H : Hp} {ρ : Env} {vs : List V} {ds : List D} (h : Stt S P σ H ρ vs ds)
    (hRd : ∀ F, Same F H → EnvS S F σ (shareE ρ) (vars e) → ∀ Q, PRB S F H (ev wd none true e (shareE ρ)) Q (wc W σ) → Rd Q)
    (hq : PVB S P σ ρ vs ds (boolsR (ev wd none true e (shareE ρ))) Q W) : Rd Q := by
  obtain ⟨F, A, B, h1, h2, h3, h4⟩ := h
  have env : EnvS S (frzH F H (A ++ B)) σ (shareE ρ) (vars e) := h3.envF (frzH_of fun b hb => (h1.own b hb).1) (fun b hb => frzH_in (List.mem_append_right _ hb)) _
  refine hRd (frzH F H (A ++ B)) (frzH_sub h1.sub) env Q ?_
  cases q : ev wd none true e (shareE ρ) with
  | ok d =>
    rw [q] at hq
    cases d with
    | bl b => exact fun F' H' e1 => hq H' (thawed h1 h2 h3 h4 e1).1
    | _ => exact hq.elim
  | ex c fs =>
    rw [q] at hq
    exact fun F' H' dd e1 xr => hq H' dd ((thawed h1 h2 h3 h4 e1).2 fs dd xr)
  | bad => rw [q] at hq; exact hq.elim
theorem PVB.of_o {P : Pm} {σ : L2.St} {ρ : Env} {x : R Bool} {f : Bool → O} {D : Ends} {W : WX} (h : PO S P (x.o ρ f) D W) : PVB S P σ ρ [] [] x (fun b H' => Stt S P σ H' ρ [] [] ∧ PO S P (f b) D W) W := by
  cases x with
  | ok b => exact fun H' hs => ⟨hs, h⟩
  | ex c fs => exact fun H' dd hx => h σ H' dd hx
  | bad => exact h

/-! ### branches, sequences -/
theorem ss_ife {t : Ex} {a b : Sxs} (ha : SSs S M N wd k lk a) (hb : SSs S M N wd k lk b) : SSt S M N wd k lk (.ife t a b) := by
  intro st sc cm X G hsc m P σ H ρ hlk hst D W hq
  cases st with
  | If c xs ys p =>
    obtain ⟨m, m3⟩ := an (show (mE M N cm sc true t c && mSs M N cm sc a xs && mSs M N cm sc b ys) = true from m)
    obtain ⟨m1, m2⟩ := an m
    refine rs_of (fun tk hp => ps_if (pt_tk tk) (pss_tk (W := W) tk hp) (pss_tk (W := W) tk hp)) ?_
    have hq : PO S P ((boolsR (ev wd none true t (shareE ρ))).o ρ fun k => if k then exSs wd none lk a ρ else exSs wd none lk b ρ) D W := hq
    have key := keepB (e := t) (Rd := fun Q => RT X c σ H Q W) hst (fun F sF hρ Q h => (se_all t).2.1 c sc cm X G m1 F H σ (shareE ρ) sF hρ Q W h) (PVB.of_o hq)
    intro pins s I
    refine wpAny_mono (key pins s I) (fun b s' z => ?_) fun _ _ z => z
    obtain ⟨H', I', h1, h2⟩ := z
    refine ⟨H', I', ?_⟩
    cases b with
    | true => rw [if_pos rfl]; exact ha xs sc cm X G hsc m2 P σ H' ρ hlk h1 D W h2
    | false => rw [if_neg Bool.false_ne_true]; exact hb ys sc cm X G hsc m3 P σ H' ρ hlk h1 D W h2
  | _ => exact ff m
theorem ss_nil : SSs S M N wd k lk .nil := by
  intro sts sc cm X G hsc m P σ H ρ hlk hst D W hq
  cases sts with
  | nil => exact rss_of (fun _ _ => pss_nil) (hq σ H hst)
  | cons _ _ => exact ff m
theorem ss_cons {s : Sx} {ss : Sxs} (hs : SSt S M N wd k lk s) (hss : SSs S M N wd k lk ss) (hf : ∀ i, s ≠ .frz i) : SSs S M N wd k lk (.cons s ss) := by
  intro sts sc cm X G hsc m P σ H ρ hlk hst D W hq
  cases sts with
  | nil => cases s <;> first | exact ff m | exact absurd rfl (hf _)
  | cons st sts =>
    obtain ⟨m1, m2⟩ := an (show (mS M N cm sc s st && mSs M N cm sc ss sts) = true by
      cases s <;> first | exact m | exact absurd rfl (hf _))
    refine rss_of (fun tk hp => pss_cons (ps_tk (W := W) tk hp) (pss_tk (W := W) tk hp)) ?_
    have hq : PO S P (match exS wd none lk s ρ with
      | .nx ρ' => exSs wd none lk ss ρ'
      | o => o) D W := hq
    refine hs st sc cm X G hsc m1 P σ H ρ hlk hst _ W ?_
    cases q : exS wd none lk s ρ with
    | nx ρ' => rw [q] at hq; exact fun σ' H' h => hss sts sc cm X G hsc m2 P σ' H' ρ' hlk h D W hq
    | rt d ρ' => rw [q] at hq; exact hq
    | bk ρ' => rw [q] at hq; exact hq
    | ct ρ' => rw [q] at hq; exact hq
    | ex c fs ρ' => rw [q] at hq; exact hq
    | bad => rw [q] at hq; exact hq.elim

theorem Stt.kp {P : Pm} {σ : L2.St} {H : Hp} {ρ : Env} {vs : List V} {ds : List D} (h : Stt S P σ H ρ vs ds) : P.K σ := by
  obtain ⟨F, A, B, h1, h2, h3, h4⟩ := h
  exact h4
/-! ### loops -/
theorem keepI {e : Ex} {tg x : PySem.Expr} {sc : Scope} {cm : Bool} {X : Cx} (G : Gd S M N wd cm k sc X) (m : mI M N cm sc (isTup tg) e x = true) {R : It → Hp → Prop} {W : WX} {P : Pm} {σ : L2.St} {H : Hp} {ρ : Env} (h : Stt S P σ H ρ [] []) (hes : escI wd ρ e = true)
    {f : List MI.D → O} {D : Ends} (hq : PO S P ((ev wd none false e (shareE ρ)).o ρ fun v => (itemsD v).o ρ f) D W)
    (hR : ∀ (J : It) (F H' : Hp) (B : List Addr) (xs : List MI.D), Ext P.F P.H P.A F H' B → Slots S F H' σ ρ B → P.K σ → WalkQ S F xs J → PO S P (f xs) D W → R J H') : RI X tg x σ H R W := by
  obtain ⟨F, A, B, h1, h2, h3, h4⟩ := h
  cases h2
  have h1 : Ext P.F P.H P.A F H B := h1
  have hB : ∀ b ∈ B, ∃ o, H b = some o ∧ ntup o = true := h3.dom
  have items_ne : ∀ {d : MI.D} {c fs}, itemsD d ≠ .ex c fs := fun {d c fs} z => by cases d <;> cases z
  by_cases hn : ((vars e).all fun j => match ρ.get j with
    | some x => noOwn x
    | none => true) = true
  · refine (se_all e).2.2 tg x sc cm X G m F H σ (shareE ρ) h1.sub (h3.envN hn) [] (fun _ z => nomatch z) (.inl rfl) R W ?_
    cases q : ev wd none false e (shareE ρ) with
    | ok d =>
      rw [q] at hq
      have hq : PO S P ((itemsD d).o ρ f) D W := hq
      show PX S F H (itemsD d) _ _
      cases q2 : itemsD d with
      | ok xs =>
        rw [q2] at hq
        intro J F' H' e1 wq
        rw [cutH_nil] at wq
        have sB : ∀ b ∈ B, H' b = H b := fun b hb => by
          obtain ⟨o, q, _⟩ := hB b hb
          rw [q]; exact e1.same0 b o q
        exact hR J F' H' B xs ((h1.seq e1).drop fun b => by simp) (h3.mono e1.subF sB) h4 wq hq
      | ex c fs => exact absurd q2 items_ne
      | bad => rw [q2] at hq; exact hq.elim
    | ex c fs =>
      rw [q] at hq
      intro F' H' dd e1 xr
      have sB : ∀ b ∈ B, H' b = H b := fun b hb => by
        obtain ⟨o, q, _⟩ := hB b hb
        rw [q]; exact e1.same0 b o q
      have x2 : Ext P.F P.H P.A F' H' B := (h1.seq e1).drop fun b => by simp
      exact hq σ H' dd ⟨F', B, x2, h3.mono e1.subF sB, h4, xr.mono (frzH_of fun b hb => (x2.own b hb).1)⟩
    | bad => rw [q] at hq; exact hq.elim
  · have hv : escV wd (shareE ρ) e = true := by
      unfold escI at hes
      rcases Bool.or_eq_true_iff.mp hes with z | z
      · exact z
      · exact absurd z hn
    have env : EnvS S (frzH F H B) σ (shareE ρ) (vars e) := h3.envF (frzH_of fun b hb => (h1.own b hb).1) (fun b hb => frzH_in hb) _
    have h1' : Ext P.F P.H P.A F H ([] ++ B) := h1
    refine (se_all e).2.2 tg x sc cm X G m (frzH F H B) H σ (shareE ρ) (frzH_sub h1.sub) env B hB (.inr hv) R W ?_
    cases q : ev wd none false e (shareE ρ) with
    | ok d =>
      rw [q] at hq
      have hq : PO S P ((itemsD d).o ρ f) D W := hq
      show PX S _ H (itemsD d) _ _
      cases q2 : itemsD d with
      | ok xs =>
        rw [q2] at hq
        intro J F' H' e1 wq
        obtain ⟨x1, s1⟩ := h1.thaw e1
        have sB : ∀ b ∈ B, H' b = H b := fun b hb => by
          obtain ⟨o, q, _⟩ := hB b hb
          rw [q]; exact e1.same0 b o q
        exact hR J _ H' B xs x1 (h3.mono s1 sB) h4 wq hq
      | ex c fs => exact absurd q2 items_ne
      | bad => rw [q2] at hq; exact hq.elim
    | ex c fs =>
      rw [q] at hq
      exact fun F' H' dd e1 xr => hq σ H' dd ((thawed (A := []) h1' .nil h3 h4 e1).2 fs dd xr)
    | bad => rw [q] at hq; exact hq.elim
/-- from a later state's beginning -/
theorem PO.base {P P' : Pm} {o : O} {D : Ends} {W : WX} (h : PO S P o D W) (h1 : ∀ σ' H' ρ' vs ds, Stt S P' σ' H' ρ' vs ds → Stt S P σ' H' ρ' vs ds) (h2 : ∀ σ' H' ρ' fs dd, XSt S P' σ' H' ρ' fs dd → XSt S P σ' H' ρ' fs dd) : PO S P' o D W := by
  cases o with
  | nx ρ => exact fun σ H z => h σ H (h1 _ _ _ _ _ z)
  | bk ρ => exact fun σ H z => h σ H (h1 _ _ _ _ _ z)
  | ct ρ => exact fun σ H z => h σ H (h1 _ _ _ _ _ z)
  | rt d ρ => exact fun v σ H z => h v σ H (h1 _ _ _ _ _ z)
  | ex c fs ρ => exact fun σ H dd z => h σ H dd (h2 _ _ _ _ _ z)
  | bad => exact h
theorem okT_all {lk : Bool} {ts : List Nat} (h : okT lk ts = true) : ∀ i ∈ ts, lk = true → i ≠ 0 := fun i hi => okT_ne h hi
theorem setTs_ne : ∀ {ts : List Nat} {ds : List D} {ρ : Env} {c : Nat} {fs : List (Nat × D)}, setTs ts ds ρ ≠ .ex c fs
  | [], [], _, _, _ => fun h => nomatch h
  | [], _ :: _, _, _, _ => fun h => nomatch h
  | _ :: _, [], _, _, _ => fun h => nomatch h
  | i :: r, d :: ds, ρ, _, _ => setTs_ne (ts := r) (ds := ds) (ρ := ρ.set i (some d))
theorem setTg_ne {tg : Tg} {d : D} {ρ : Env} {c : Nat} {fs : List (Nat × D)} : setTg tg d ρ ≠ .ex c fs := by
  cases tg with
  | name i => exact fun h => nomatch h
  | tup ts => cases d <;> first | exact setTs_ne | (intro h; cases h)
/-- an item's store -/
theorem setTg_st {X : Cx} (hK : X.K = S.K) {P : Pm} {tg : Tg} {x : V} {d : D} {σ : L2.St} {H : Hp} {ρ ρ1 : Env} {F : Hp} {B : List Addr} (h1 : Ext P.F P.H P.A F H B) (h3 : Slots S F H σ ρ B) (h4 : P.K σ) (r : Rep S F H x d [])
    (hlt : ∀ i ∈ tg.slots, i < σ.length) (hk : okT P.lk tg.slots = true) (hs : setTg tg d ρ = .ok ρ1) {Q : L2.St → Hp → Prop} (hQ : ∀ σ1, σ1.length = σ.length → Stt S P σ1 H ρ1 [] [] → Q σ1 H) : gTg X.K tg x σ H Q := by
  refine setTg_ok (S := S) (F := F) (H := H) hK (fun σ' ρ' => σ'.length = σ.length ∧ Stt S P σ' H ρ' [] [] ∧ ∃ B', Ext P.F P.H P.A F H B' ∧ Slots S F H σ' ρ' B' ∧ P.K σ') (fun i v d σ' ρ' hi hP rv => ?_) ⟨rfl, ⟨F, [], B, h1, .nil, h3, h4⟩, B, h1, h3, h4⟩ hs r h1.sub fun σ1 hP => hQ σ1 hP.1 hP.2.1
  obtain ⟨p1, p2, B', p3, p4, p5⟩ := hP
  have hi2 : i < σ'.length := by rw [p1]; exact hlt i hi
  obtain ⟨B2, k1, k2⟩ := Slots.set rv p4 hi2
  have k3 : Ext P.F P.H P.A F H B2 := p3.drop fun b => by have := k2 b; simpa using this
  have k4 : P.K (σ'.set i (some v)) := p5.set (okT_all hk i hi)
  exact ⟨by rw [List.length_set]; exact p1, ⟨F, [], B2, k3, .nil, k1, k4⟩, B2, k3, k1, k4⟩
theorem ss_loop {tg : Tg} {it : Ex} {b : Sxs} {kl : List Nat} (hb : SSs S M N wd k lk b) : SSt S M N wd k lk (.loop tg it b kl) := by
  intro st sc cm X G hsc m P σ H ρ hlk hst D W hq
  cases st with
  | For t x body els p =>
    cases els with
    | cons _ _ => exact ff m
    | nil =>
      obtain ⟨m, m4⟩ := an (show (cm && mI M N cm sc (isTup t) it x && mTg N sc tg t && mSs M N cm sc b body) = true from m)
      obtain ⟨m, m3⟩ := an m
      obtain ⟨m1, m2⟩ := an m
      refine rs_kind fun hk hlen => ?_
      obtain ⟨pg, hlt⟩ := tg_ok G m1 m3
      refine rs_of (fun tk hp => ps_for hp (G.calm m1) (pi_tk tk) pg (pss_tk (W := W) tk hp) fun _ => fold_ok (mi_plain m2)) ?_
      have hq : PO S P (if escI wd ρ it && okT lk tg.slots && okT lk kl then (ev wd none false it (shareE ρ)).o ρ fun v => (itemsD v).o ρ fun xs =>
        loopL (fun d ρ => (setTg tg d ρ).o ρ fun ρ1 => exSs wd none lk b ρ1) kl xs ρ else .bad) D W := hq
      cases hes : (escI wd ρ it && okT lk tg.slots && okT lk kl) with
      | false => rw [hes] at hq; exact hq.elim
      | true =>
        rw [hes, if_pos rfl] at hq
        obtain ⟨hes1, hes3⟩ := an hes
        obtain ⟨hes1, hes2⟩ := an hes1
        refine keepI G m2 hst hes1 hq fun J F H1 B xs e1 r1 k1 wq hq => ?_
        let P' : Pm := ⟨F, H1, B, P.lk, P.v0, P.n⟩
        have b1 : ∀ σ' H' ρ' vs ds, Stt S P' σ' H' ρ' vs ds → Stt S P σ' H' ρ' vs ds := by
          rintro σ' H' ρ' vs ds ⟨F', A', B', k1, k2, k3, k4⟩
          exact ⟨F', A', B', e1.trans k1, k2, k3, k4⟩
        have b2 : ∀ σ' H' ρ' fs dd, XSt S P' σ' H' ρ' fs dd → XSt S P σ' H' ρ' fs dd := by
          rintro σ' H' ρ' fs dd ⟨F', B', k1, k2, k3, k4⟩
          exact ⟨F', B', e1.trans k1, k2, k3, k4⟩
        have st0 : Stt S P' σ H1 ρ [] [] := ⟨F, [], B, ⟨e1.sub, Same.refl _, fun _ _ e _ => e, (fun b o e n => by rw [show F b = none from n] at e; cases e), e1.one, fun b hb => ⟨(e1.own b hb).1, .inr hb⟩, e1.dom⟩, .nil, r1, k1⟩
        generalize hstep : (fun (d : MI.D) (ρ : Env) => (setTg tg d ρ).o ρ fun ρ1 => exSs wd none lk b ρ1) = step at hq
        have hl0 : σ.length = P.n := k1.2
        let W0 : Nat → L2.St → Hp → Prop := fun i σ' H' => ∃ ρ', σ'.length = σ.length ∧ Stt S P' σ' H' ρ' [] [] ∧ PO S P' (loopL step kl (xs.drop i) ρ') D W
        refine ⟨fun i m σ' H' => m = xs.length - i ∧ i ≤ xs.length ∧ W0 i σ' H', ⟨xs.length, by simp, Nat.zero_le _, ρ, rfl, st0, hq.base b1 b2⟩, ?_⟩
        rintro i mm σ' H' ⟨rfl, hi2, ρ', hl', st', po⟩
        have st'' := st'
        obtain ⟨F', A', B', x1, x2, x3, x4⟩ := st''
        cases x2
        have x1 : Ext F H1 B F' H' B' := x1
        obtain ⟨w1, w2⟩ := wq F' H' x1.subF x1.sub
        by_cases hlt2 : i < xs.length
        · right
          obtain ⟨go, yl⟩ := w1 i hlt2
          refine ⟨go, W0 (i + 1), fun σ2 H2 z => ⟨xs.length - (i + 1), by omega, rfl, hlt2, z⟩, fun v H2 y => ?_⟩
          obtain ⟨F2, d, hd, e2, rx⟩ := yl v H2 y
          rw [List.drop_eq_getElem_cons hlt2] at po
          have hd' : xs[i] = d := by
            rw [List.getElem?_eq_getElem hlt2] at hd
            exact Option.some.inj hd
          rw [hd'] at po
          have po : PO S P' (match step d ρ' with
            | .nx ρ' => loopL step kl (xs.drop (i + 1)) (wipeE ρ' kl)
            | .ct ρ' => loopL step kl (xs.drop (i + 1)) (wipeE ρ' kl)
            | .bk ρ' => .nx (wipeE ρ' kl)
            | o => o) D W := po
          have x5 : Ext F H1 B F2 H2 B' := (x1.seq e2).drop fun b => by simp
          have x6 : Slots S F2 H2 σ' ρ' B' := x3.mono e2.subF fun b hb => by
            obtain ⟨o, q, _⟩ := x3.dom b hb
            rw [q]; exact e2.same0 b o q
          have hs : ∃ ρ1, setTg tg d ρ' = .ok ρ1 ∧ step d ρ' = exSs wd none lk b ρ1 := by
            rw [← hstep] at po ⊢
            cases q : setTg tg d ρ' with
            | ok ρ1 => exact ⟨ρ1, rfl, by simp only [R.o, q]⟩
            | ex c fs => exact absurd q setTg_ne
            | bad => simp only [R.o, q] at po; exact po.elim
          obtain ⟨ρ1, hs1, hs2⟩ := hs
          rw [hs2] at po
          have hlk' : okT P'.lk tg.slots = true := by
            show okT P.lk tg.slots = true
            rw [hlk]; exact hes2
          refine setTg_st (S := S) (P := P') (F := F2) (B := B') G.eK x5 x6 x4 rx (fun i hi => by rw [hl', hlen, G.eN]; exact hlt i hi) hlk' hs1 fun σ1 hl1 st1 => ?_
          refine hb body sc cm X G hsc m4 P' σ1 H2 ρ1 hlk st1 _ W ?_
          have nx : ∀ {ρ2 : Env}, PO S P' (loopL step kl (xs.drop (i + 1)) (wipeE ρ2 kl)) D W → ∀ σ3 H3, Stt S P' σ3 H3 ρ2 [] [] → W0 (i + 1) σ3 H3 := fun {ρ2} po σ3 H3 st3 =>
            ⟨_, by rw [st3.kp.2, ← hl0], st3.wipe kl, po⟩
          cases q : exSs wd none lk b ρ1 with
          | nx ρ2 => rw [q] at po; exact nx po
          | ct ρ2 => rw [q] at po; exact nx po
          | bk ρ2 => rw [q] at po; exact fun σ3 H3 st3 => po σ3 H3 (st3.wipe kl)
          | rt d ρ2 => rw [q] at po; exact po
          | ex c fs ρ2 => rw [q] at po; exact po
          | bad => rw [q] at po; exact po.elim
        · left
          have hn : i = xs.length := by omega
          refine ⟨w2 i (by omega), ?_⟩
          rw [hn, List.drop_length] at po
          exact po σ' H' st'
  | _ => exact ff m

theorem ss_whl {t : Ex} {b : Sxs} {kl : List Nat} (hb : SSs S M N wd k lk b) : SSt S M N wd k lk (.whl t b kl) := by
  intro st sc cm X G hsc m P σ H ρ hlk hst D W hq
  cases st with
  | While c body els p =>
    cases els with
    | cons _ _ => exact ff m
    | nil =>
      obtain ⟨m1, m2⟩ := an (show (mE M N cm sc true t c && mSs M N cm sc b body) = true from m)
      have hq : PO S P (if okT lk kl then whlN (fun ρ => ev wd none true t (shareE ρ)) (exSs wd none lk b) kl fuel ρ else .bad) D W := hq
      cases hes : okT lk kl with
      | false => rw [hes] at hq; exact hq.elim
      | true =>
        rw [hes, if_pos rfl] at hq
        generalize hstep : (fun ρ => ev wd none true t (shareE ρ)) = tst at hq
        generalize fuel = fu at hq
        refine rs_of (fun tk hp => ps_while hp (pt_tk tk) (pss_tk (W := W) tk hp)) ?_
        refine ⟨fun m' σ' H' => ∃ ρ', Stt S P σ' H' ρ' [] [] ∧ PO S P (whlN tst (exSs wd none lk b) kl m' ρ') D W, ⟨fu, ρ, hst, hq⟩, ?_⟩
        rintro m' σ' H' ⟨ρ', st', po⟩
        cases m' with
        | zero => exact po.elim
        | succ n =>
          have po : PO S P ((boolsR (tst ρ')).o ρ' fun k => if k then (match exSs wd none lk b ρ' with
            | .nx ρ' => whlN tst (exSs wd none lk b) kl n (wipeE ρ' kl)
            | .ct ρ' => whlN tst (exSs wd none lk b) kl n (wipeE ρ' kl)
            | .bk ρ' => .nx (wipeE ρ' kl)
            | o => o) else .nx ρ') D W := po
          rw [← hstep] at po
          have key := keepB (e := t) (Rd := fun Q => RT X c σ' H' Q W) st' (fun F sF hρ Q h => (se_all t).2.1 c sc cm X G m1 F H' σ' (shareE ρ') sF hρ Q W h) (PVB.of_o po)
          intro pins s I
          refine wpAny_mono (key pins s I) (fun b' s' z => ?_) fun _ _ z => z
          obtain ⟨H2, I', h1, h2⟩ := z
          refine ⟨H2, I', ?_⟩
          cases b' with
          | false => rw [if_neg Bool.false_ne_true]; exact h2 σ' H2 h1
          | true =>
            rw [if_pos rfl]
            refine ⟨fun σ' H' => ∃ ρ', Stt S P σ' H' ρ' [] [] ∧ PO S P (whlN tst (exSs wd none lk b) kl n ρ') D W, fun σ3 H3 z => ⟨n, Nat.lt_succ_self n, z⟩, ?_⟩
            refine hb body sc cm X G hsc m2 P σ' H2 ρ' hlk h1 _ W ?_
            have h2 : PO S P (match exSs wd none lk b ρ' with
              | .nx ρ' => whlN tst (exSs wd none lk b) kl n (wipeE ρ' kl)
              | .ct ρ' => whlN tst (exSs wd none lk b) kl n (wipeE ρ' kl)
              | .bk ρ' => .nx (wipeE ρ' kl)
              | o => o) D W := by rw [← hstep]; exact h2
            cases q : exSs wd none lk b ρ' with
            | nx ρ2 => rw [q] at h2; exact fun σ3 H3 st3 => ⟨_, st3.wipe kl, h2⟩
            | ct ρ2 => rw [q] at h2; exact fun σ3 H3 st3 => ⟨_, st3.wipe kl, h2⟩
            | bk ρ2 => rw [q] at h2; exact fun σ3 H3 st3 => h2 σ3 H3 (st3.wipe kl)
            | rt d ρ2 => rw [q] at h2; exact h2
            | ex c fs ρ2 => rw [q] at h2; exact h2
            | bad => rw [q] at h2; exact h2.elim
  | _ => exact ff m
end
end MI

set_option Elab.async false
set_option linter.all false
set_option maxRecDepth 99000
set_option maxHeartbeats 999000
/-! MiN: statements: changes, the rest; a def as a whole. -/
namespace MI
open PySem L2 PySem.Spec PyProof.Rows

section
variable {S : Sw} {M : Nms} {N : List Str} {wd : W} {k : Nat} {lk : Bool}
/-! ### moving takes away, no more -/
theorem get_set_none {ρ : Env} {i j : Nat} {x : D} (h : Env.get (ρ.set i none) j = some x) : ρ.get j = some x := by
  by_cases q : i = j
  · subst q
    exfalso
    unfold Env.get at h
    by_cases hl : i < ρ.length
    · rw [List.getElem?_set_self hl] at h; cases h
    · rw [List.getElem?_eq_none (by simpa using hl)] at h; cases h
  · unfold Env.get at h ⊢
    rwa [List.getElem?_set_ne q] at h
theorem ite_bad {α : Type} {c : Prop} [Decidable c] {x y : R α} {a : α} (hy : y = .bad) (h : (if c then x else y) = .ok a) : c ∧ x = .ok a := by
  by_cases z : c
  · rw [if_pos z] at h; exact ⟨z, h⟩
  · rw [if_neg z, hy] at h; cases h
theorem noEx_inv {α : Type} {x : R α} {a : α} (h : noEx x = .ok a) : x = .ok a := by
  cases x with
  | ok b => exact h
  | ex c fs => cases h
  | bad => cases h
mutual
theorem evM_get : ∀ {m : Mx} {ρ : Env} {r : D × Env}, evM wd none m ρ = .ok r → ∀ {i : Nat} {x : D}, r.2.get i = some x → ρ.get i = some x
  | .ex e, ρ, r, h, i, x, hx => by
    obtain ⟨d, h1, h2⟩ := bind_ok_inv (show (ev wd none false e (shareE ρ)).bind (fun d => if esc ρ e d then R.ok (d, ρ) else .bad) = .ok r from h)
    obtain ⟨_, h3⟩ := ite_bad rfl h2
    cases h3
    exact hx
  | .mov j, ρ, r, h, i, x, hx => by
    have h : (match ρ.get j with
      | some d => R.ok (d, ρ.set j none)
      | none => .bad) = .ok r := h
    cases q : ρ.get j with
    | none => rw [q] at h; cases h
    | some d =>
      rw [q] at h
      cases h
      exact get_set_none hx
  | .tup ms, ρ, r, h, i, x, hx => by
    obtain ⟨q, h1, h2⟩ := bind_ok_inv (show (evMs wd none ms ρ).bind (fun r => if r.1.length ≤ sizeLine then R.ok (D.tup r.1, r.2) else .bad) = .ok r from h)
    obtain ⟨_, h3⟩ := ite_bad rfl h2
    cases h3
    exact evMs_get h1 hx
  | .lst ms, ρ, r, h, i, x, hx => by
    obtain ⟨q, h1, h2⟩ := bind_ok_inv (show (evMs wd none ms ρ).bind (fun r => if r.1.length ≤ sizeLine then R.ok (D.lst true r.1, r.2) else .bad) = .ok r from h)
    obtain ⟨_, h3⟩ := ite_bad rfl h2
    cases h3
    exact evMs_get h1 hx
theorem evMs_get : ∀ {ms : List Mx} {ρ : Env} {r : List D × Env}, evMs wd none ms ρ = .ok r → ∀ {i : Nat} {x : D}, r.2.get i = some x → ρ.get i = some x
  | [], ρ, r, h, i, x, hx => by cases h; exact hx
  | m :: ms, ρ, r, h, i, x, hx => by
    obtain ⟨q, h1, h2⟩ := bind_ok_inv (show (evM wd none m ρ).bind (fun r => (noEx (evMs wd none ms r.2)).bind fun q => R.ok (r.1 :: q.1, q.2)) = .ok r from h)
    obtain ⟨q2, h3, h4⟩ := bind_ok_inv h2
    cases h4
    exact evM_get h1 (evMs_get (noEx_inv h3) hx)
end

theorem mms_plain {cm : Bool} {sc : Scope} : ∀ {ms : List Mx} {xs : List PySem.Expr}, mMs M N cm sc ms xs = true → xs.all plainX = true
  | [], [], _ => rfl
  | [], _ :: _, h => ff h
  | _ :: _, [], h => ff h
  | m :: ms, x :: xs, h => by
    obtain ⟨q, q3⟩ := an (show (plainX x && mM M N cm sc m x && mMs M N cm sc ms xs) = true from h)
    exact Bool.and_eq_true_iff.mpr ⟨(an q).1, mms_plain q3⟩
/-! ### the list in hand takes the value in hand -/
theorem Stt.append {P : Pm} {σ : L2.St} {H : Hp} {ρ : Env} {u v : V} {x : D} {xs : List D} (h : Stt S P σ H ρ [u, v] [x, .lst true xs]) :
    ∃ a vs, v = .ref a ∧ H a = some (.lst vs) ∧ vs.length = xs.length ∧ Stt S P σ (upd H a (.lst (vs ++ [u]))) ρ [v] [.lst true (xs ++ [x])] := by
  obtain ⟨F, A, B, h1, h2, h3, h4⟩ := h
  cases h2 with
  | cons ru rest e =>
    cases rest with
    | cons rv rn e2 =>
      cases rn
      cases rv with
      | lstO hH rs e3 =>
        rename_i A1 _ A2 a vs A3
        have e2' := e2
        rw [List.append_nil] at e2'
        subst e2' e3 e
        have cnt := h1.one a
        simp only [List.count_append, List.count_cons, beq_self_eq_true, if_true] at cnt
        have n1 : a ∉ A1 := fun z => by have := mem_count z; omega
        have n3 : a ∉ A3 := fun z => by have := mem_count z; omega
        have nB : a ∉ B := fun z => by have := mem_count z; omega
        have hm : a ∈ A1 ++ a :: A3 ++ B := by simp
        have ex := h1.chg (o := .lst (vs ++ [u])) hm fun z => by
          rcases (h1.own a hm).2 with w | w
          · exact w
          · exact absurd w z
        have keep : ∀ {C : List Addr}, a ∉ C → ∀ b ∈ C, upd H a (.lst (vs ++ [u])) b = H b := fun n b hb => upd_ne fun z => n (by rw [← z]; exact hb)
        refine ⟨a, vs, rfl, hH, rs.len, F, a :: (A3 ++ A1), B, ex.drop fun b => ?_, .cons (.lstO upd_same ((rs.mono (Same.refl _) (keep n3)).append (.cons (ru.mono (Same.refl _) (keep n1)) .nil (List.append_nil _).symm)) rfl) .nil (List.append_nil _).symm, h3.mono (Same.refl _) (keep nB), h4⟩
        simp only [List.count_append, List.count_cons]
        omega
theorem ss_chg (root : Nat) (p : Pt) (f : Lf) (ms : List Mx) : SSt S M N wd k lk (.chg root p f ms) := by
  intro st sc cm X G hsc m P σ H ρ hlk hst D W hq
  have m : mCh M N cm sc root p f ms st = true := m
  cases st with
  | Expr x p0 =>
    cases x with
    | Call g xs kws cp =>
      cases g with
      | Attribute o y ap =>
        cases kws with
        | cons _ _ => exact ff m
        | nil =>
          obtain ⟨m, m8⟩ := an (show (decide (f = .append) && decide (y = "append") && mPt M N cm sc root p o && mMs M N cm sc ms xs && !xs.isEmpty && notSuper o && (ap.endLine == cp.line) && decide (xs.length < 29)) = true from m)
          obtain ⟨m, m7⟩ := an m
          obtain ⟨m, m6⟩ := an m
          obtain ⟨m, m5⟩ := an m
          obtain ⟨m, m4⟩ := an m
          obtain ⟨m, m3⟩ := an m
          obtain ⟨m1, m2⟩ := an m
          cases of_decide_eq_true m1
          cases of_decide_eq_true m2
          cases p with
          | ix p e => cases o <;> exact ff m3
          | fl p n => cases o <;> exact ff m3
          | here =>
            cases o with
            | Name z zp =>
              obtain ⟨v1, v4⟩ := an (show (decide (N[root]? = some z) && visB sc z && dbgB z && cdcB z) = true from m3)
              obtain ⟨v1, v3⟩ := an v1
              obtain ⟨v1, v2⟩ := an v1
              have hq : PO S P (if tgtOk .append .here (ρ.get root) then (evMs wd none ms ρ).o ρ fun r => chgO wd.fld root .append .here r ρ else .bad) D W := hq
              cases ht : tgtOk .append .here (ρ.get root) with
              | false => rw [ht] at hq; exact hq.elim
              | true =>
                rw [ht, if_pos rfl] at hq
                cases xs with
                | nil => exact ff m5
                | cons x1 xs =>
                  have hp : (x1 :: xs).all plainX = true := mms_plain m4
                  have hfew : ((backTo cp (starEach (x1 :: xs) X.env)).all (fun x => !x.1) && (backToKw cp (keywordEach [] X.env)).all (fun x => x.1.isSome)
                      && decide ((x1 :: xs).length + ([] : List Keyword).length + (if ([] : List Keyword).isEmpty then 0 else 1) < 30)) = true := by
                    show ((backTo cp (starEach (x1 :: xs) X.env)).all (fun x => !x.1) && true && decide ((x1 :: xs).length + 0 + 0 < 30)) = true
                    rw [star_backN hp]
                    have := of_decide_eq_true m8
                    exact decide_eq_true (p := _) (by omega)
                  -- the target's value
                  have hroot : ∃ o ys, ρ.get root = some (.lst o ys) := by
                    unfold tgtOk at ht
                    cases q : ρ.get root with
                    | none => rw [q] at ht; exact ff ht
                    | some d =>
                      rw [q] at ht
                      cases d with
                      | lst o ys => exact ⟨o, ys, rfl⟩
                      | _ => exact ff ht
                  obtain ⟨o0, ys0, hr0⟩ := hroot
                  obtain ⟨v, hv, stv⟩ := hst.mov hr0
                  have hty : tyV X.K "list" v H := by
                    obtain ⟨F, A, B, h1, h2, h3, h4⟩ := stv
                    cases h2 with
                    | cons r rn e =>
                      obtain ⟨a, vs, B', rfl, hH, _⟩ := r.lst h1.sub
                      exact .inl ⟨rfl, vs, .inl (.inl hH)⟩
                  refine rs_of (fun tk _ => ps_expr (pe_bm PySem.F.plainAttrs_list PySem.F.slot_list_append PySem.F.type_list_append mt_append
                    (pe_var (i := root) (by show X.N[root]? = _; rw [G.eN]; exact of_decide_eq_true v1) (G.vis z v2) (beq_iff_eq.mp v3) (beq_iff_eq.mp v4)) (pa_tk tk) (abase_ok m6) hfew m7 (star_cons hp) (star_back (star_tl hp))) rfl) ?_
                  refine ⟨v, hv, hty, ?_⟩
                  refine sms_all ms (x1 :: xs) sc cm X G m4 P σ H ρ [] [] hst _ W ?_
                  cases q : evMs wd none ms ρ with
                  | ex c fs => rw [q] at hq; exact fun H' dd h => hq σ H' dd h
                  | bad => rw [q] at hq; exact hq
                  | ok r =>
                    rw [q] at hq
                    have hq : PO S P (match r.2.get root with
                      | some d => (noEx (lfD wd.fld .append r.1 d)).o ρ fun q => .nx (r.2.set root (some q.1))
                      | none => .bad) D W := hq
                    intro us H' st1
                    cases q2 : r.2.get root with
                    | none => rw [q2] at hq; exact hq.elim
                    | some d =>
                      rw [q2] at hq
                      have hr1 := evMs_get q q2
                      rw [hr0] at hr1
                      cases hr1
                      have hq : PO S P ((noEx (lfD wd.fld .append r.1 (.lst o0 ys0))).o ρ fun q => .nx (r.2.set root (some q.1))) D W := hq
                      obtain ⟨v', hv', st2⟩ := st1.mov q2
                      rw [hv] at hv'
                      cases hv'
                      obtain ⟨r1, r2⟩ := r
                      have hl := st1.vlen
                      cases r1 with
                      | nil => exact hq.elim
                      | cons x r1 => cases r1 with
                        | cons _ _ => cases o0 <;> exact hq.elim
                        | nil =>
                          cases us with
                          | nil => cases hl
                          | cons u us => cases us with
                            | cons _ _ => cases hl
                            | nil =>
                              cases o0 with
                              | false => exact hq.elim
                              | true =>
                                have hq : PO S P ((noEx (if ys0.length < sizeLine then R.ok (MI.D.lst true (ys0 ++ [x]), MI.D.non) else .bad)).o ρ fun q => .nx (r2.set root (some q.1))) D W := hq
                                by_cases hz : ys0.length < sizeLine
                                · rw [if_pos hz] at hq
                                  obtain ⟨a, vs, rfl, hH, hlen, st3⟩ := Stt.append (u := u) (v := v) (x := x) st2
                                  exact ⟨a, vs, u, rfl, rfl, hH, by omega, hq σ _ (Stt.back (vs := []) (ds := []) st3 hv)⟩
                                · rw [if_neg hz] at hq; exact hq.elim
            | _ => exact ff m3
      | _ => cases kws <;> exact ff m
    | _ => exact ff m
  | Assign ts v p0 =>
    cases ts with
    | nil => exact ff m
    | cons t ts => cases t <;> cases ts <;> first | exact ff m | (cases f <;> exact ff m)
  | _ => exact ff m

/-! ### all statements -/
theorem ss_frz {i : Nat} {ss : Sxs} (h : SSs S M N wd k lk ss) : SSs S M N wd k lk (.cons (.frz i) ss) := by
  intro sts sc cm X G hsc m P σ H ρ hlk hst D W hq
  have hq : PO S P (match (match ρ.get i with
    | some d => O.nx (ρ.set i (some (share d)))
    | none => O.nx ρ) with
    | .nx ρ' => exSs wd none lk ss ρ'
    | o => o) D W := hq
  cases q : ρ.get i with
  | none =>
    rw [q] at hq
    exact h sts sc cm X G hsc m P σ H ρ hlk hst D W hq
  | some d =>
    rw [q] at hq
    refine h sts sc cm X G hsc m P σ H _ hlk ?_ D W hq
    obtain ⟨v, hv, F, A, B, h1, h2, h3, h4⟩ := hst.mov q
    have h2 : Reps S F H [v] [d] A := h2
    cases h2 with
    | cons r rn e =>
      cases rn
      rw [List.append_nil] at e
      subst e
      have r2 : Rep S (frzH F H A) H v (share d) [] := r.share (frzH_of fun b hb => (h1.own b (List.mem_append_left _ hb)).1) fun b hb => frzH_in hb
      have h5 : Slots S (frzH F H A) H σ (ρ.set i none) B := h3.mono (frzH_of fun b hb => (h1.own b (List.mem_append_left _ hb)).1) fun _ _ => rfl
      exact Stt.back (vs := []) (ds := []) (i := i) (v := v) ⟨frzH F H A, [], B, h1.frz1, .cons r2 .nil rfl, h5, h4⟩ hv
theorem ss_off {s : Sx} (h : ∀ st sc cm, mS M N cm sc s st ≠ true) : SSt S M N wd k lk s := fun st sc cm X _ _ m => absurd m (h st sc cm)
mutual
theorem ss_all : ∀ s : Sx, SSt S M N wd k lk s
  | .pass => ss_pass
  | .brk => ss_brk
  | .cnt => ss_cnt
  | .retN => ss_retN
  | .ret m => ss_ret m
  | .exp e => ss_exp e
  | .asg i m => ss_asg i m
  | .asgT _ _ => ss_off fun st sc cm h => by
    cases st <;> first | exact ff h | skip
    rename_i ts _ _
    cases ts with
    | nil => exact ff h
    | cons t ts => cases t <;> cases ts <;> exact ff h
  | .par _ _ _ _ => ss_off fun _ _ _ h => ff h
  | .aug _ _ _ => ss_off fun st sc cm h => by
    cases st <;> first | exact ff h | skip
    rename_i t _ _ _
    cases t <;> exact ff h
  | .chg root p f ms => ss_chg root p f ms
  | .ife t a b => ss_ife (sss_all a) (sss_all b)
  | .loop tg it b kl => ss_loop (sss_all b)
  | .whl t b kl => ss_whl (sss_all b)
  | .rse _ _ _ => ss_off fun _ _ _ h => ff h
  | .rseT _ => ss_off fun _ _ _ h => ff h
  | .tri _ _ _ _ => ss_off fun _ _ _ h => ff h
  | .frz _ => ss_off fun _ _ _ h => ff h
theorem sss_all : ∀ ss : Sxs, SSs S M N wd k lk ss
  | .nil => ss_nil
  | .cons s ss => by
    by_cases h : ∃ i, s = .frz i
    · obtain ⟨i, rfl⟩ := h
      exact ss_frz (sss_all ss)
    · exact ss_cons (ss_all s) (sss_all ss) fun i e => h ⟨i, e⟩
end
end
end MI

set_option Elab.async false
set_option linter.all false
set_option maxRecDepth 99000
set_option maxHeartbeats 999000
/-! MiQ: a program's defs keep the promises of their runs. -/
namespace MI
open PySem L2 PySem.Spec PyProof.Rows

/-! ### a def's entry -/
section
variable {S : Sw} {F H : Hp}
theorem slots_pad (S : Sw) (F H : Hp) : ∀ n : Nat, Slots S F H (List.replicate n none) (List.replicate n none) []
  | 0 => .nil
  | n + 1 => .no (slots_pad S F H n)
theorem slots_start : ∀ {vs : List V} {ds : List D} {A : List Addr} (n : Nat), Reps S F H vs ds A → Slots S F H (vs.map some ++ List.replicate n none) (ds.map some ++ List.replicate n none) A
  | _, _, _, n, .nil => slots_pad S F H n
  | _, _, _, n, .cons r rs e => .yes r (slots_start n rs) e
end
/-- where a def of the table stands in the text -/
structure FnF (S : Sw) (M : Nms) (fd : Fd) (a : Addr) (fd0 : FuncData) (ps : List Str) : Prop where
  ex : ∃ (x qual : Str) (params : Arguments) (body : List Stmt) (scope : Scope) (N : List Str), FunD S.K x qual params body scope [] [] a fd0 ∧ FnScope N ps scope ∧ N.length = fd.nl ∧ mSs M N true scope fd.body body = true
  np : ps.length = fd.np
  pz : fd.lk = true → 0 < fd.np
  bn : Binds S.K fd0 ps []
/-- the facts of a program: aF: the defs' addresses -/
structure Fcts (S : Sw) (M : Nms) (T : Tab) (mg : Str → Option Value) (aF : Nat → Addr) (fdF : Nat → FuncData) (psF : Nat → List Str) : Prop where
  eM : M.NM = S.NM
  fns : ∀ f fd, T.fns.lookup f = some fd → FnF S M fd (aF f) (fdF f) (psF f)
  fr : ∀ x, M.fr.contains x = true → mg x = none
  gN : ∀ g x, M.gN.lookup g = some x → ∃ d v u, T.glos.lookup g = some d ∧ mg x = some u ∧ RelV v u ∧ ∀ F H, Rep S F H v d []
  fN : ∀ f x, M.fN.lookup f = some x → (∃ fd, T.fns.lookup f = some fd) ∧ mg x = some (.ref (aF f))
  cN : ∀ c x, M.cN.lookup c = some x → mg x = some (.ref (S.cA c))
  meth : ∀ c m f x, T.meths.lookup (c, m) = some f → S.NM[m]? = some x → (∃ fd, T.fns.lookup f = some fd) ∧ Cls S.K (S.cA c) ∧ Meth S.K (S.cA c) x (aF f)
  init : ∀ c f, T.inits.lookup c = some f → (∃ fd, T.fns.lookup f = some fd ∧ fd.lk = true) ∧ Mk S.K (S.cA c) (aF f)
  fld : ∀ c f x, T.flds.contains (c, f) = true → S.NM[f]? = some x → Cls S.K (S.cA c) ∧ NoAttr S.K (S.cA c) x

section
variable {S : Sw} {M : Nms} {T : Tab} {P : Program} {w : World} {mg : Str → Option Value} {base : Heap} {aF : Nat → Addr} {fdF : Nat → FuncData} {psF : Nat → List Str}
/-- the promises at a depth -/
def Lvl (S : Sw) (T : Tab) (P : Program) (w : World) (mg : Str → Option Value) (base : Heap) (aF : Nat → Addr) (fdF : Nat → FuncData) (psF : Nat → List Str) (n : Nat) : Prop :=
  ∀ f fd, T.fns.lookup f = some fd → FnOk P w S.K mg base (L2.CX P w) (2 * n) (aF f) (fdF f) (psF f) (Prom S (psF f).length fd.lk ((T.w n).fn f))
theorem fn_arity {n f : Nat} {fd : Fd} (h : T.fns.lookup f = some fd) (ds : List D) (hl : ds.length ≠ fd.np) : (T.w n).fn f ds = .bad := by
  cases n with
  | zero => rfl
  | succ n =>
    show (match T.fns.lookup f with
      | some fd => runFn (T.w n) fd ds
      | none => .bad) = _
    rw [h]
    show runFn (T.w n) fd ds = _
    unfold runFn
    rw [if_neg hl]
theorem Tab.w_meth (n : Nat) : (T.w n).meth = fun c m => T.meths.lookup (c, m) := by cases n <;> rfl
theorem Tab.w_init (n : Nat) : (T.w n).init = fun c => T.inits.lookup c := by cases n <;> rfl
theorem Tab.w_glo (n : Nat) : (T.w n).glo = fun g => T.glos.lookup g := by cases n <;> rfl
theorem Tab.w_fld (n : Nat) : (T.w n).fld = fun c f => T.flds.contains (c, f) := by cases n <;> rfl
theorem gd_of (Fc : Fcts S M T mg aF fdF psF) {n : Nat} (L : Lvl S T P w mg base aF fdF psF n) {N ps : List Str} {qual : Str} {scope : Scope} (sc : FnScope N ps scope) {f : Addr} {cdv : Value} {A : Around} {outer : List PySem.Env} {s : Shared} {H : Hp} {E : XK}
    (hr : Room (2 * n + 1) (A.deeper (envOfC qual scope s.heap.objs.size f cdv))) :
    Gd S M N (T.w n) true (2 * n) scope (cxOf (L2.CX P w) P w S.K mg base N qual scope f cdv A outer s H E) where
  eK := rfl
  eM := Fc.eM
  eN := rfl
  nd := sc.nd
  vis := fun x h => by
    unfold visB at h
    split at h
    · rename_i e; exact .inl e
    · rename_i e; exact .inr (.inl e)
    · rename_i e; exact .inr (.inr e)
    · cases h
  cf := fun x h => h
  glo := fun x h => by
    unfold gloB at h
    split at h
    · rename_i e; exact e
    · cases h
  sto := fun x h => by
    unfold stoB at h
    split at h
    · rename_i e; exact ⟨.inl e, .inl rfl⟩
    · rename_i e; exact ⟨.inr e, .inl rfl⟩
    · cases h
  fr := Fc.fr
  calm := fun _ => rfl
  room := fun _ => hr
  units := by
    have := hr.un
    show (A.deeper (envOfC qual scope s.heap.objs.size f cdv)).units + 70 < cLine
    omega
  gN := fun g x h => by
    obtain ⟨d, v, u, h1, h2, h3, h4⟩ := Fc.gN g x h
    exact ⟨d, v, u, by rw [Tab.w_glo]; exact h1, h2, h3, h4⟩
  fN := fun g x h => by
    obtain ⟨⟨fd, h1⟩, h2⟩ := Fc.fN g x h
    have F := Fc.fns g fd h1
    obtain ⟨x', qual', params, body, scope', N', FD, _⟩ := F.ex
    exact ⟨aF g, fdF g, psF g, fd.lk, h2, FD.kp, fun ds hl => fn_arity h1 ds (by rw [← F.np]; exact hl), F.bn, L g fd h1⟩
  cN := Fc.cN
  meth := fun c m g x h hx => by
    rw [Tab.w_meth] at h
    obtain ⟨⟨fd, h1⟩, h2, h3⟩ := Fc.meth c m g x h hx
    have F := Fc.fns g fd h1
    exact ⟨aF g, fdF g, psF g, fd.lk, h2, h3, fun ds hl => fn_arity h1 ds (by rw [← F.np]; exact hl), F.bn, L g fd h1⟩
  init := fun c g h => by
    rw [Tab.w_init] at h
    obtain ⟨⟨fd, h1, hlk⟩, h2⟩ := Fc.init c g h
    have F := Fc.fns g fd h1
    have LL := L g fd h1
    rw [hlk] at LL
    exact ⟨aF g, fdF g, psF g, h2, fun ds hl => fn_arity h1 ds (by rw [← F.np]; exact hl), F.bn, LL⟩
  fld := fun c g x h hx => by
    rw [Tab.w_fld] at h
    exact Fc.fld c g x h hx
theorem Stt.fin {P' : Pm} {σ : L2.St} {H' : Hp} {ρ : Env} {v : V} {d : D} (h : Stt S P' σ H' ρ [v] [d]) : (P'.lk = false → ∃ F B, Ext P'.F P'.H P'.A F H' (B ++ []) ∧ Rep S F H' v d B) ∧
    (P'.lk = true → ∀ x, ρ.get 0 = some x → ∃ F B B0, Ext P'.F P'.H P'.A F H' (B ++ B0) ∧ Rep S F H' v d B ∧ Rep S F H' P'.v0 x B0) := by
  obtain ⟨F, A, B, h1, h2, h3, h4⟩ := h
  cases h2 with
  | cons r rn e =>
    cases rn
    rw [List.append_nil] at e
    subst e
    refine ⟨fun _ => ⟨F, A, h1.drop fun b => by simp only [List.count_append, List.count_nil]; omega, r⟩, fun hl x hx => ?_⟩
    obtain ⟨v', B1, A', k1, k2, k3, k4⟩ := h3.get hx
    rw [h4.1 hl] at k1
    cases k1
    exact ⟨F, A, B1, h1.drop fun b => by have := k4 b; simp only [List.count_append]; omega, r, k2⟩
theorem back_fin {F H : Hp} {AA : List Addr} {lk : Bool} {v0 : V} {nn : Nat} {d : D} {ρ : Env} {Q : VK} {E : XK} (hq : match backR lk d ρ with
        | .ok r => ∀ (v : V) (F' H' : Hp) (B B0 : List Addr), Ext F H AA F' H' (B ++ B0) → Rep S F' H' v r.1 B → (if lk then Rep S F' H' v0 r.2 B0 else B0 = []) → Q v H'
        | .ex c fs => PostX S F H AA c fs E
        | .bad => False) {σ : L2.St} {H' : Hp} {v : V} (h : Stt S ⟨F, H, AA, lk, v0, nn⟩ σ H' ρ [v] [d]) : Q v H' := by
  obtain ⟨f1, f2⟩ := h.fin
  cases lk with
  | false =>
    obtain ⟨F', B, e, r⟩ := f1 rfl
    exact hq v F' H' B [] e r rfl
  | true =>
    have hq : match (match ρ.get 0 with
        | some x => R.ok (d, x)
        | none => .bad) with
        | .ok r => ∀ (v : V) (F' H' : Hp) (B B0 : List Addr), Ext F H AA F' H' (B ++ B0) → Rep S F' H' v r.1 B → (if true then Rep S F' H' v0 r.2 B0 else B0 = []) → Q v H'
        | .ex c fs => PostX S F H AA c fs E
        | .bad => False := hq
    cases q : ρ.get 0 with
    | none => rw [q] at hq; exact hq.elim
    | some x =>
      rw [q] at hq
      obtain ⟨F', B, B0, e, r, r0⟩ := f2 rfl x q
      exact hq v F' H' B B0 e r r0
/-- every def, at every depth -/
theorem lvl_all (Fc : Fcts S M T mg aF fdF psF) : ∀ n : Nat, Lvl S T P w mg base aF fdF psF n
  | 0 => fun f fd h => ⟨fun vs H Q E q => q.1, fun A outer s H args us vs Q E hr e0 hb r q => by
      obtain ⟨_, F, ds, A', _, _, _, _, q⟩ := q
      exact q.elim⟩
  | n + 1 => fun f fd h => by
    have L := lvl_all Fc n
    have FF := Fc.fns f fd h
    obtain ⟨x, qual, params, body, scope, N, FD, sc, hN, hm⟩ := FF.ex
    have e2 : 2 * (n + 1) = (2 * n + 1) + 1 := by omega
    rw [e2]
    refine FD.ok sc (fun vs H Q E q => q.1) fun cdv A outer s H vs Q E hr hsp => ?_
    obtain ⟨hl, F, ds, AA, sF, rs, hA1, hA2, hq⟩ := hsp
    have G := gd_of (P := P) (w := w) (base := base) (s := s) (H := H) (E := E) (outer := outer) Fc L sc hr
    generalize hX : cxOf (L2.CX P w) P w S.K mg base N qual scope (aF f) cdv A outer s H E = X at G ⊢
    have tk : Takes X (fun cls d _ H' => E cls d H') := by
      rw [← hX]
      exact takes_of rfl rfl rfl rfl
    have hp : Psn X := by
      rw [← hX]
      exact passes_of (X := cxOf (L2.CX P w) P w S.K mg base N qual scope (aF f) cdv A outer s H E) rfl
    have hsc : X.env.scope = scope := by rw [← hX]; rfl
    refine ⟨_, pss_tk (W := fun cls d _ H' => E cls d H') tk hp, ?_⟩
    have hds : ds.length = fd.np := by rw [← FF.np, ← hl, rs.len]
    have hrun : (T.w (n + 1)).fn f ds = runFn (T.w n) fd ds := by
      show (match T.fns.lookup f with
        | some fd => runFn (T.w n) fd ds
        | none => .bad) = _
      rw [h]
    rw [hrun] at hq
    unfold runFn at hq
    rw [if_pos hds] at hq
    have hvl : vs.length = fd.np := by rw [hl, FF.np]
    have hnp : fd.lk = true → 0 < vs.length := fun q => by
      rw [hvl]; exact FF.pz q
    have hst : Stt S ⟨F, H, AA, fd.lk, vs.headD .non, N.length⟩ (start N vs) H (ds.map some ++ List.replicate (fd.nl - fd.np) none) [] [] := by
      refine ⟨F, [], AA, ⟨sF, Same.refl _, fun _ _ e _ => e, (fun b o e n => by rw [show F b = none from n] at e; cases e), hA1, fun b hb => ⟨hA2 b hb, .inr hb⟩, fun b hb => by obtain ⟨o, q, _⟩ := rs.dom b hb; exact ⟨o, q⟩⟩, .nil, ?_, fun q => ?_, ?_⟩
      · unfold L2.start
        rw [hvl, hN]
        exact slots_start _ rs
      · cases vs with
        | nil => exact absurd (hnp q) (by simp)
        | cons v vs => rfl
      · unfold L2.start
        have : (psF f).length ≤ N.length := by have := congrArg List.length sc.pre; rw [List.length_take] at this; omega
        simp
        omega
    refine sss_all fd.body body scope true X G hsc hm _ (start N vs) H _ rfl hst _ _ ?_
    cases q : exSs (T.w n) none fd.lk fd.body (ds.map some ++ List.replicate (fd.nl - fd.np) none) with
    | nx ρ =>
      rw [q] at hq
      have hq : match backR fd.lk .non ρ with
        | .ok r => ∀ (v : V) (F' H' : Hp) (B B0 : List Addr), Ext F H AA F' H' (B ++ B0) → Rep S F' H' v r.1 B → (if fd.lk then Rep S F' H' (vs.headD .non) r.2 B0 else B0 = []) → Q v H'
        | .ex c fs => PostX S F H AA c fs E
        | .bad => False := hq
      intro σ' H' st
      exact back_fin hq st.non
    | rt d ρ =>
      rw [q] at hq
      have hq : match backR fd.lk d ρ with
        | .ok r => ∀ (v : V) (F' H' : Hp) (B B0 : List Addr), Ext F H AA F' H' (B ++ B0) → Rep S F' H' v r.1 B → (if fd.lk then Rep S F' H' (vs.headD .non) r.2 B0 else B0 = []) → Q v H'
        | .ex c fs => PostX S F H AA c fs E
        | .bad => False := hq
      intro v σ' H' st
      exact back_fin hq st
    | bk ρ => rw [q] at hq; exact hq.elim
    | ct ρ => rw [q] at hq; exact hq.elim
    | ex c fs ρ =>
      rw [q] at hq
      have hq : PostX S F H AA c fs E := hq
      rintro σ' H' dd ⟨F', B, e1, e2, e3, e4⟩
      exact hq _ H' dd e1.freezeA e4
    | bad => rw [q] at hq; exact hq.elim
end
end MI

set_option Elab.async false
set_option linter.all false
set_option maxRecDepth 99000
set_option maxHeartbeats 999000
/-! MiT: a program's facts, by tables. -/
namespace MI
open PySem L2 PySem.Spec PyProof.Rows

/-- one def of the text: its id, its neat form, where it stands, its slots' names, its parameters' -/
structure Ent where
  i : Nat
  fd : Fd
  d : He.DefD
  N : List Str
  ps : List Str
structure Ent.Ok (M : Nms) (e : Ent) : Prop where
  sc : FnScope e.N e.ps e.d.scope
  nl : e.N.length = e.fd.nl
  np : e.ps.length = e.fd.np
  pz : e.fd.lk = true → 0 < e.fd.np
  ms : mSs M e.N true e.d.scope e.fd.body e.d.body = true
  dfl : e.d.dfl = []
  kwd : e.d.kwd = []
  bn : ∀ (kV doc pm : Value) (an : Option Addr) (cdv ct : Value) (us : List Value), us.length = e.ps.length → bindArgs (PySem.W.fnOf e.d.name e.d.qual e.d.params e.d.body e.d.scope .none kV doc pm an cdv ct) ⟨us, []⟩ = pure (e.ps.zip us)
def entAt (es : List Ent) (f : Nat) : Option Ent := es.find? fun e => f == e.i
def fnsE (es : List Ent) : List (Nat × Fd) := es.map fun e => (e.i, e.fd)
theorem entAt_of : ∀ {es : List Ent} {f : Nat} {fd : Fd}, (fnsE es).lookup f = some fd → ∃ e, entAt es f = some e ∧ e ∈ es ∧ e.fd = fd
  | [], _, _, h => nomatch h
  | e :: es, f, fd, h => by
    unfold fnsE at h
    rw [List.map_cons, List.lookup_cons] at h
    unfold entAt
    rw [List.find?_cons]
    cases q : f == e.i with
    | true =>
      simp only [q] at h
      cases h
      exact ⟨e, rfl, List.mem_cons_self, rfl⟩
    | false =>
      simp only [q] at h
      obtain ⟨e', h1, h2, h3⟩ := entAt_of (es := es) h
      exact ⟨e', h1, List.mem_cons_of_mem _ h2, h3⟩
def aFE (K : PySem.W.Frag) (es : List Ent) (f : Nat) : Addr := match entAt es f with
  | some e => He.fAd K e.d.at_
  | none => 0
def funcAt (K : PySem.W.Frag) (a : Addr) : Option FuncData := match K.lookup a with
  | some ⟨_, _, .func fd, _⟩ => some fd
  | _ => none
noncomputable def fdE (K : PySem.W.Frag) (es : List Ent) (f : Nat) : FuncData := ((funcAt K (aFE K es f)).getD (Classical.choice ⟨PySem.W.fnOf default default ⟨[], [], none, [], [], none, []⟩ [] ⟨.function, [], false, false, []⟩ .none .none .none .none none .none .none⟩))
def psE (es : List Ent) (f : Nat) : List Str := match entAt es f with
  | some e => e.ps
  | none => []
theorem fact_of {fa : List He.Fa} {fn : List He.DefD} {K : PySem.W.Frag} (c : He.SaysD fa fn K) {f : He.Fa} (h : f ∈ fa) : f.ok K = true := by
  obtain ⟨i, hi⟩ := List.mem_iff_getElem?.mp h
  exact c.fact i hi
theorem def_of {fa : List He.Fa} {fn : List He.DefD} {K : PySem.W.Frag} (c : He.SaysD fa fn K) {d : He.DefD} (h : d ∈ fn) : ∃ fd, FunD K d.name d.qual d.params d.body d.scope (d.dvs K) (d.kws K) (He.fAd K d.at_) fd := by
  obtain ⟨i, hi⟩ := List.mem_iff_getElem?.mp h
  exact c.def_ i hi
theorem fns_ok {S : Sw} {M : Nms} {fa : List He.Fa} {es : List Ent} (c : He.SaysD fa (es.map (·.d)) S.K) (ok : ∀ e ∈ es, e.Ok M) : ∀ f fd, (fnsE es).lookup f = some fd → FnF S M fd (aFE S.K es f) (fdE S.K es f) (psE es f) := fun f fd h => by
  obtain ⟨e, h1, h2, rfl⟩ := entAt_of h
  have o := ok e h2
  obtain ⟨fd0, F⟩ := def_of c (List.mem_map.mpr ⟨e, h2, rfl⟩)
  have ed : e.d.dvs S.K = [] := by unfold He.DefD.dvs; rw [o.dfl]; rfl
  have ek : e.d.kws S.K = [] := by unfold He.DefD.kws; rw [o.kwd]; rfl
  rw [ed, ek] at F
  have ea : aFE S.K es f = He.fAd S.K e.d.at_ := by unfold aFE; rw [h1]
  have ef : fdE S.K es f = fd0 := by
    obtain ⟨oc, od, dV, kV, doc, pm, an, cdv, ct, osl, e1, e2, _⟩ := F.ex
    unfold fdE funcAt
    rw [ea, e2]
    rfl
  have ep : psE es f = e.ps := by unfold psE; rw [h1]
  rw [ea, ef, ep]
  exact ⟨⟨e.d.name, e.d.qual, e.d.params, e.d.body, e.d.scope, e.N, F, o.sc, o.nl, o.ms⟩, o.np, o.pz, F.bindsN o.bn⟩

/-! ### constants -/
inductive Cst where
  | int (i : Int) | str (z : Str)
def Cst.fa (x : Str) : Cst → He.Fa
  | .int i => .int x i
  | .str z => .str x z
def Cst.D : Cst → D
  | .int i => .int i
  | .str z => .str z
structure Con where
  g : Nat
  x : Str
  c : Cst
theorem con_at : ∀ {cs : List Con} {g : Nat} {x : Str}, (cs.map fun c => (c.g, c.x)).lookup g = some x → ∃ c ∈ cs, c.x = x ∧ (cs.map fun c => (c.g, c.c.D)).lookup g = some c.c.D
  | [], _, _, h => nomatch h
  | c :: cs, g, x, h => by
    rw [List.map_cons, List.lookup_cons] at h
    rw [List.map_cons, List.lookup_cons]
    cases q : g == c.g with
    | true =>
      simp only [q] at h ⊢
      cases h
      exact ⟨c, List.mem_cons_self, rfl, rfl⟩
    | false =>
      simp only [q] at h ⊢
      obtain ⟨c', h1, h2, h3⟩ := con_at (cs := cs) h
      exact ⟨c', List.mem_cons_of_mem _ h1, h2, h3⟩
/-- a program of defs and constants -/
structure Prog0 where
  es : List Ent
  fr : List Str
  cs : List Con
  gl : List (Nat × Str)
  NM : List Str
def Prog0.M (p : Prog0) : Nms := ⟨p.NM, p.gl, [], p.cs.map fun c => (c.g, c.x), p.fr⟩
def Prog0.T (p : Prog0) : Tab := ⟨fnsE p.es, [], [], [], p.cs.map fun c => (c.g, c.c.D), []⟩
def Prog0.fa (p : Prog0) : List He.Fa := (p.gl.map fun q => He.Fa.glo q.2) ++ (p.fr.map He.Fa.free) ++ p.cs.map fun c => c.c.fa c.x
def Prog0.fn (p : Prog0) : List He.DefD := p.es.map (·.d)
/-- the globals' defs are the table's -/
def Prog0.glB (p : Prog0) : Bool := p.gl.all fun q => match entAt p.es q.1 with
  | some e => decide (e.d.at_ = (q.2, none))
  | none => false
theorem lookup_mem {α : Type} : ∀ {l : List (Nat × α)} {k : Nat} {x : α}, l.lookup k = some x → (k, x) ∈ l
  | [], _, _, h => nomatch h
  | (j, y) :: l, k, x, h => by
    rw [List.lookup_cons] at h
    cases q : k == j with
    | true => simp only [q] at h; cases h; rw [eq_of_beq q]; exact List.mem_cons_self
    | false => simp only [q] at h; exact List.mem_cons_of_mem _ (lookup_mem h)
theorem entAt_fns : ∀ {es : List Ent} {f : Nat} {e : Ent}, entAt es f = some e → (fnsE es).lookup f = some e.fd
  | [], _, _, h => nomatch h
  | e :: es, f, e', h => by
    unfold entAt at h
    rw [List.find?_cons] at h
    unfold fnsE
    rw [List.map_cons, List.lookup_cons]
    cases q : f == e.i with
    | true => simp only [q] at h ⊢; cases h; rfl
    | false => simp only [q] at h ⊢; exact entAt_fns h
theorem Prog0.facts (p : Prog0) (hg : p.glB = true) (ok : ∀ e ∈ p.es, e.Ok p.M) (S : Sw) (hNM : p.NM = S.NM) (c : He.SaysD p.fa p.fn S.K) {h : Heap} {mg : Str → Option Value} (X : S.K.In h) (G : h.Ns mainGlobals mg) :
    Fcts S p.M p.T mg (aFE S.K p.es) (fdE S.K p.es) (psE p.es) where
  eM := hNM
  fns := fns_ok c ok
  fr := fun x hx => He.free_ok X G (fact_of c (List.mem_append_left _ (List.mem_append_right _ (List.mem_map.mpr ⟨x, by simpa [Prog0.M] using hx, rfl⟩))))
  gN := fun g x hx => by
    obtain ⟨cc, h1, rfl, h3⟩ := con_at (cs := p.cs) hx
    have f := fact_of c (f := cc.c.fa cc.x) (List.mem_append_right _ (List.mem_map.mpr ⟨cc, h1, rfl⟩))
    cases q : cc.c with
    | int i =>
      rw [q] at f h3
      obtain ⟨t, ht⟩ := He.int_ok X G (show (He.Fa.int cc.x i).ok S.K = true from f)
      exact ⟨.int i, .int i, _, h3, ht, ⟨t, rfl⟩, fun _ _ => .int i⟩
    | str z =>
      rw [q] at f h3
      obtain ⟨t, ht⟩ := He.str_ok X G (show (He.Fa.str cc.x z).ok S.K = true from f)
      exact ⟨.str z, .str z, _, h3, ht, ⟨t, rfl⟩, fun _ _ => .str z⟩
  fN := fun f x hx => by
    have hm := lookup_mem hx
    have g := fact_of c (f := .glo x) (List.mem_append_left _ (List.mem_append_left _ (List.mem_map.mpr ⟨(f, x), hm, rfl⟩)))
    have b := List.all_eq_true.mp hg (f, x) hm
    cases q : entAt p.es f with
    | none => simp only [q] at b; cases b
    | some e =>
      simp only [q] at b
      have b := of_decide_eq_true b
      refine ⟨⟨e.fd, entAt_fns q⟩, ?_⟩
      unfold aFE
      simp only [q]
      rw [b]
      exact He.glo_ok X G g
  cN := fun c x h => nomatch h
  meth := fun c m f x h _ => nomatch h
  init := fun c f h => nomatch h
  fld := fun c f x h _ => nomatch h

/-! ### the law -/
def spLaw (K : PySem.W.Frag) (n : Nat) : Sp := fun vs H Q _ => ∃ (a : Addr) (ns : List Int), vs = [.ref a] ∧ ns.length ≤ n ∧ SqL K H a (ns.map V.int) ∧ ∀ H', Q (.bl true) H'
theorem law_ok {S : Sw} {P : Program} {w : World} {mg : Str → Option Value} {base : Heap} {k : Nat} {a : Addr} {fd0 : FuncData} {ps : List Str} {wf : List D → R (D × D)} {n : Nat} (F : FnOk P w S.K mg base (L2.CX P w) k a fd0 ps (Prom S ps.length false wf)) (hp : ps.length = 1)
    (h : ∀ ns : List Int, ns.length ≤ n → wf [.scr ns] = .ok (.bl true, .non)) : FnOk P w S.K mg base (L2.CX P w) k a fd0 ps (spLaw S.K n) := F.imp fun vs H Q E hs => by
  obtain ⟨b, ns, rfl, hn, hS, hQ⟩ := hs
  refine ⟨hp.symm, H, [.scr ns], [], Same.refl _, .cons (.scr hS) .nil rfl, fun _ => Nat.zero_le _, (fun _ z => nomatch z), ?_⟩
  rw [h ns hn]
  intro v F' H' B B0 _ rv _
  cases rv
  exact hQ H'
/-- such a promise lets no exception out -/
theorem law_cx0 {P : Program} {w : World} {K : PySem.W.Frag} {mg : Str → Option Value} {base : Heap} {k n : Nat} {a : Addr} {fd0 : FuncData} {ps : List Str} (F : FnOk P w K mg base (L2.CX P w) k a fd0 ps (spLaw K n)) : FnOk P w K mg base CX0 k a fd0 ps (spLaw K n) := by
  refine ⟨F.len, fun A outer s H args us vs Q E hr e0 hb r h => codeAny_mono (F.run A outer s H args us vs Q (fun _ _ _ => False) hr e0 hb r h) fun r s' hq => ?_⟩
  cases r with
  | ok fl => cases fl <;> exact hq
  | error e =>
    obtain ⟨_, _, _, _, _, _, _, _, _, _, _, _, z⟩ := hq
    exact z
/-- the law's def, of a program of defs and constants -/
theorem Prog0.law (p : Prog0) (hg : p.glB = true) (ok : ∀ e ∈ p.es, e.Ok p.M) (hnd : p.NM.Nodup) {P : Program} {w : World} {K : PySem.W.Frag} {h : Heap} {mg : Str → Option Value} {fa : Addr} (X : K.In h) (G : h.Ns mainGlobals mg) (hmg : mg ("law" : Str) = some (.ref fa)) (c : He.SaysD p.fa p.fn K)
    {n li : Nat} {e : Ent} (he : entAt p.es li = some e) (hat : e.d.at_ = (("law" : Str), none)) (hps : e.ps = [("script" : Str)]) (hlk : e.fd.lk = false) (hgl : p.gl.lookup li = some ("law" : Str))
    (hlaw : ∀ ns : List Int, ns.length ≤ 63 → (p.T.w n).fn li [.scr ns] = .ok (.bl true, .non)) :
    ∃ fd : FuncData, (∀ (s : Shared) (u : Value), BindsTo s fd ⟨[u], []⟩ [(("script" : Str), u)]) ∧ ∀ base : Heap, K.In base → base.Ns mainGlobals mg → FnOk P w K mg base CX0 (2 * n) fa fd [("script" : Str)] (spLaw K 63) := by
  let S : Sw := ⟨K, p.NM, hnd, fun _ => 0⟩
  have hm : e ∈ p.es := List.mem_of_find?_eq_some he
  have o := ok e hm
  have Fc := p.facts hg ok S rfl c X G
  have hfn : p.T.fns.lookup li = some e.fd := entAt_fns he
  obtain ⟨fd0, F⟩ := def_of c (List.mem_map.mpr ⟨e, hm, rfl⟩)
  have ed : e.d.dvs K = [] := by unfold He.DefD.dvs; rw [o.dfl]; rfl
  have ek : e.d.kws K = [] := by unfold He.DefD.kws; rw [o.kwd]; rfl
  rw [ed, ek] at F
  have ea : aFE K p.es li = He.fAd K e.d.at_ := by unfold aFE; rw [he]
  have ef : fdE K p.es li = fd0 := by
    obtain ⟨oc, od, dV, kV, doc, pm, an, cdv, ct, osl, e1, e2, _⟩ := F.ex
    unfold fdE funcAt
    rw [ea, e2]
    rfl
  have ep : psE p.es li = [("script" : Str)] := by unfold psE; rw [he]; exact hps
  have e3 : fa = aFE K p.es li := by
    have := (Fc.fN li _ hgl).2
    rw [hmg] at this
    have := Option.some.inj this
    injection this
  have b := F.bindsA o.bn
  rw [hps] at b
  refine ⟨fd0, fun s u => b s [u] rfl, fun base X2 G2 => ?_⟩
  have L := lvl_all (P := P) (w := w) (base := base) Fc n li e.fd hfn
  have e4 : psE p.es li = [("script" : Str)] := ep
  rw [hlk] at L
  refine law_cx0 ?_
  have L2' := law_ok (S := S) (n := 63) L (by rw [e4]; rfl) hlaw
  rw [e4] at L2'
  rw [e3]
  have : fdE S.K p.es li = fd0 := ef
  rw [this] at L2'
  exact L2'
end MI

set_option Elab.async false
set_option linter.all false
set_option maxRecDepth 99000
set_option maxHeartbeats 999000
/-! MaA: running neat trees: plain lemmas. -/
namespace MI
open PySem L2
@[simp] theorem noEx_ok' {α : Type} (a : α) : noEx (R.ok a) = .ok a := rfl
@[simp] theorem boolsR_bl (b : Bool) : boolsR (.ok (.bl b)) = .ok b := rfl
@[simp] theorem shareE_nil : shareE [] = [] := rfl
@[simp] theorem shareE_none (r : Env) : shareE (none :: r) = none :: shareE r := rfl
@[simp] theorem shareE_some (d : D) (r : Env) : shareE (some d :: r) = some (share d) :: shareE r := rfl
@[simp] theorem share_bl (b : Bool) : share (.bl b) = .bl b := rfl
@[simp] theorem share_int (b : Int) : share (.int b) = .int b := rfl
@[simp] theorem share_str (b : Str) : share (.str b) = .str b := rfl
@[simp] theorem share_non : share .non = .non := rfl
@[simp] theorem share_scr (b : List Int) : share (.scr b) = .scr b := rfl
@[simp] theorem share_lst (o : Bool) (b : List D) : share (.lst o b) = .lst false (shareL b) := rfl
@[simp] theorem share_dct (o : Bool) (b : List (Key × D)) : share (.dct o b) = .dct false (shareK b) := rfl
@[simp] theorem share_tup (b : List D) : share (.tup b) = .tup (shareL b) := rfl
@[simp] theorem Env.get_0 (x : Option D) (r : Env) : Env.get (x :: r) 0 = x := by cases x <;> rfl
@[simp] theorem Env.get_s (x : Option D) (r : Env) (i : Nat) : Env.get (x :: r) (i + 1) = Env.get r i := rfl
@[simp] theorem share_share (d : D) : share (share d) = share d := share_noOwn _ (noOwn_share d)
@[simp] theorem shareL_shareL (d : List D) : shareL (shareL d) = shareL d := shareL_noOwn _ (noOwn_shareL d)
@[simp] theorem noOwn_share' (d : D) : noOwn (share d) = true := noOwn_share d
@[simp] theorem noOwnL_share' (d : List D) : noOwnL (shareL d) = true := noOwn_shareL d
@[simp] theorem isTy_share (d : D) (t : Ty) : isTy (share d) t = isTy d t := by cases d <;> cases t <;> rfl
@[simp] theorem notIns_share (d : D) : notIns (share d) = notIns d := by cases d <;> rfl
theorem shareL_eq (ds : List D) : shareL ds = ds.map share := shareL_map ds
@[simp] theorem shareL_length (ds : List D) : (shareL ds).length = ds.length := shareL_len ds

/-! ### texts -/
def okS (x : Str) : Bool := decide (x.length ≤ 1000) && x.cps.all (· < 0x110000)
theorem hasSub_one (x : Str) (c : Nat) : hasSub ⟨#[c]⟩ x = decide (c ∈ x.cps.toList) := StrLaws.found_one x c

/-! ### data that may be compared -/
def gd (k : Nat) (d : D) : Prop := ∃ p, py d = some p ∧ p.canLay0 = true ∧ p.depth ≤ k
theorem gd.mono {j k : Nat} {d : D} (h : gd j d) (l : j ≤ k) : gd k d := by
  obtain ⟨p, h1, h2, h3⟩ := h
  exact ⟨p, h1, h2, Nat.le_trans h3 l⟩
theorem gd_non (k : Nat) : gd k .non := ⟨.none, rfl, rfl, Nat.zero_le _⟩
theorem gd_bl (k : Nat) (b : Bool) : gd k (.bl b) := ⟨.bool b, rfl, rfl, Nat.zero_le _⟩
theorem gd_int (k : Nat) (b : Int) : gd k (.int b) := ⟨.int b, rfl, rfl, Nat.zero_le _⟩
theorem gd_str (k : Nat) {x : Str} (h : okS x = true) : gd k (.str x) := ⟨.str x, rfl, (Bool.and_eq_true_iff.mp h).2, Nat.zero_le _⟩
theorem gd_all {k : Nat} : ∀ {ds : List D}, (∀ d ∈ ds, gd k d) → ∃ ps, pyL ds = some ps ∧ PyData.canLayAll0 ps = true ∧ PyData.depthAll ps ≤ k ∧ ps.length = ds.length
  | [], _ => ⟨[], rfl, rfl, Nat.zero_le _, rfl⟩
  | d :: ds, h => by
    obtain ⟨p, h1, h2, h3⟩ := h d List.mem_cons_self
    obtain ⟨ps, k1, k2, k3, k4⟩ := gd_all fun x hx => h x (List.mem_cons_of_mem _ hx)
    refine ⟨p :: ps, by simp only [pyL, h1, k1], ?_, ?_, by simp [k4]⟩
    · show (p.canLay0 && PyData.canLayAll0 ps) = true
      rw [h2, k2] <;> rfl
    · exact Nat.max_le.mpr ⟨h3, k3⟩
theorem gd_lst {k : Nat} {o : Bool} {ds : List D} (h : ∀ d ∈ ds, gd k d) : gd (k + 1) (.lst o ds) := by
  obtain ⟨ps, k1, k2, k3, k4⟩ := gd_all h
  exact ⟨.list ps, by simp only [py, k1]; rfl, k2, Nat.succ_le_succ k3⟩
theorem gd_tup {k : Nat} {ds : List D} (h : ∀ d ∈ ds, gd k d) : gd (k + 1) (.tup ds) := by
  obtain ⟨ps, k1, k2, k3, k4⟩ := gd_all h
  exact ⟨.tuple ps, by simp only [py, k1]; rfl, k2, Nat.succ_le_succ k3⟩
mutual
theorem py_share : ∀ d : D, py (share d) = py d
  | .non => rfl | .bl _ => rfl | .int _ => rfl | .str _ => rfl | .scr _ => rfl
  | .tup xs => by simp only [share_tup, py, py_shareL xs]
  | .lst _ xs => by simp only [share_lst, py, py_shareL xs]
  | .dct _ _ => rfl
  | .ins _ _ _ => rfl
theorem py_shareL : ∀ d : List D, pyL (shareL d) = pyL d
  | [] => rfl
  | d :: ds => by
    show pyL (share d :: shareL ds) = _
    simp only [pyL, py_share d, py_shareL ds]
end
theorem gd_share {k : Nat} {d : D} : gd k (share d) ↔ gd k d := by unfold gd; rw [py_share]
/-- an empty list or not -/
theorem eqD_nil {k : Nat} {o o' : Bool} {ds : List D} (h : ∀ d ∈ ds, gd k d) (hk : k < 64) : eqD (.lst o ds) (.lst o' []) = .ok ds.isEmpty := by
  obtain ⟨ps, k1, k2, k3, k4⟩ := gd_all h
  have e1 : py (.lst o ds) = some (.list ps) := by simp only [py, k1]; rfl
  have e2 : py (.lst o' []) = some (.list []) := rfl
  have s1 : SeqAt.shaped (.list ps) = true := by
    show (PyData.canLayAll0 ps && decide (PyData.depthAll ps + 1 ≤ 64)) = true
    rw [k2]
    exact decide_eq_true (p := _) (by omega)
  have s2 : SeqAt.shaped (.list []) = true := by decide
  show eqP (.lst o ds) (.lst o' []) = _
  unfold eqP
  rw [e1, e2]
  simp only [s1, s2, Bool.and_self, if_true]
  cases ps with
  | nil => cases ds with
    | nil => rfl
    | cons _ _ => simp at k4
  | cons _ _ => cases ds with
    | nil => simp at k4
    | cons _ _ => rfl

/-! ### comprehensions -/
theorem compL_map {step : D → Env → R (Option D)} {ρ : Env} {f : D → D} : ∀ {ds : List D}, (∀ d ∈ ds, step d ρ = .ok (some (f d))) → compL step ds ρ = .ok (ds.map f)
  | [], _ => rfl
  | d :: ds, h => by
    show (step d ρ).bind _ = _
    rw [h d List.mem_cons_self]
    show ((compL step ds ρ).bind _) = _
    rw [compL_map fun x hx => h x (List.mem_cons_of_mem _ hx)]
    rfl
theorem compL_filter {step : D → Env → R (Option D)} {ρ : Env} {p : D → Bool} {f : D → D} : ∀ {ds : List D}, (∀ d ∈ ds, step d ρ = .ok (if p d then some (f d) else none)) → compL step ds ρ = .ok ((ds.filter p).map f)
  | [], _ => rfl
  | d :: ds, h => by
    show (step d ρ).bind _ = _
    rw [h d List.mem_cons_self]
    show ((compL step ds ρ).bind _) = _
    rw [compL_filter fun x hx => h x (List.mem_cons_of_mem _ hx)]
    rw [List.filter_cons]
    cases p d <;> rfl
theorem asBools_map (f : D → Bool) : ∀ ds : List D, asBools (ds.map fun d => .bl (f d)) = some (ds.map f)
  | [] => rfl
  | d :: ds => by
    show (asBools (ds.map fun d => .bl (f d))).map (f d :: ·) = _
    rw [asBools_map f ds] <;> rfl
/-! ### loops -/
theorem loopL_pass {step : D → Env → O} {kl : List Nat} {ρ : Env} : ∀ {ds : List D}, (∀ d ∈ ds, ∃ ρ', step d ρ = .nx ρ' ∧ wipeE ρ' kl = ρ) → loopL step kl ds ρ = .nx ρ
  | [], _ => rfl
  | d :: ds, h => by
    obtain ⟨ρ', h1, h2⟩ := h d List.mem_cons_self
    show (match step d ρ with
      | .nx ρ' => loopL step kl ds (wipeE ρ' kl)
      | .ct ρ' => loopL step kl ds (wipeE ρ' kl)
      | .bk ρ' => .nx (wipeE ρ' kl)
      | o => o) = _
    rw [h1]
    show loopL step kl ds (wipeE ρ' kl) = _
    rw [h2]
    exact loopL_pass fun x hx => h x (List.mem_cons_of_mem _ hx)
/-- a loop by an invariant -/
theorem loopL_inv {step : D → Env → O} {kl : List Nat} (I : Nat → Env → Prop) {ds : List D} : ∀ (n : Nat) (r : List D) (ρ : Env), (∀ i d ρ, ds[i]? = some d → I i ρ → ∃ ρ', step d ρ = .nx ρ' ∧ I (i + 1) (wipeE ρ' kl)) → ds.drop n = r → I n ρ → ∃ ρ', loopL step kl r ρ = .nx ρ' ∧ I (n + r.length) ρ'
  | n, [], ρ, _, _, h0 => ⟨ρ, rfl, h0⟩
  | n, d :: r, ρ, h, hd, h0 => by
    have e : ds[n]? = some d := by
      have := congrArg List.head? hd
      rwa [List.head?_drop] at this
    obtain ⟨ρ', h1, h2⟩ := h n d ρ e h0
    have hd2 : ds.drop (n + 1) = r := by
      rw [← List.tail_drop, hd]; rfl
    obtain ⟨ρ2, k1, k2⟩ := loopL_inv I (n + 1) r (wipeE ρ' kl) h hd2 h2
    refine ⟨ρ2, ?_, by rw [List.length_cons]; have : n + 1 + r.length = n + (r.length + 1) := by omega
                       rwa [this] at k2⟩
    show (match step d ρ with
      | .nx ρ' => loopL step kl r (wipeE ρ' kl)
      | .ct ρ' => loopL step kl r (wipeE ρ' kl)
      | .bk ρ' => .nx (wipeE ρ' kl)
      | o => o) = _
    rw [h1]
    exact k1
theorem exSs_nx {w : W} {xc : Xc} {lk : Bool} {s : Sx} {ss : Sxs} {ρ ρ' : Env} (h : exS w xc lk s ρ = .nx ρ') : exSs w xc lk (.cons s ss) ρ = exSs w xc lk ss ρ' := by
  show (match exS w xc lk s ρ with
    | .nx ρ' => exSs w xc lk ss ρ'
    | o => o) = _
  rw [h]
theorem exSs_rt {w : W} {xc : Xc} {lk : Bool} {s : Sx} {ss : Sxs} {ρ ρ' : Env} {d : D} (h : exS w xc lk s ρ = .rt d ρ') : exSs w xc lk (.cons s ss) ρ = .rt d ρ' := by
  show (match exS w xc lk s ρ with
    | .nx ρ' => exSs w xc lk ss ρ'
    | o => o) = _
  rw [h]
theorem exS_ife {w : W} {xc : Xc} {lk : Bool} {t : Ex} {a b : Sxs} {ρ : Env} {k : Bool} (h : ev w xc true t (shareE ρ) = .ok (.bl k)) : exS w xc lk (.ife t a b) ρ = if k then exSs w xc lk a ρ else exSs w xc lk b ρ := by
  show ((boolsR (ev w xc true t (shareE ρ))).o ρ fun k => if k then exSs w xc lk a ρ else exSs w xc lk b ρ) = _
  rw [h]
  rfl
theorem evM_ex {w : W} {xc : Xc} {e : Ex} {ρ : Env} {d : D} (h : ev w xc false e (shareE ρ) = .ok d) (he : esc ρ e d = true) : evM w xc (.ex e) ρ = .ok (d, ρ) := by
  show ((ev w xc false e (shareE ρ)).bind fun d => if esc ρ e d then R.ok (d, ρ) else .bad) = _
  rw [h]
  show (if esc ρ e d then R.ok (d, ρ) else .bad) = _
  rw [if_pos he]
theorem exS_ret {w : W} {xc : Xc} {lk : Bool} {m : Mx} {ρ : Env} {r : D × Env} (h : evM w xc m ρ = .ok r) : exS w xc lk (.ret m) ρ = .rt r.1 r.2 := by
  show ((evM w xc m ρ).o ρ fun r => .rt r.1 r.2) = _
  rw [h] <;> rfl
theorem exS_asg {w : W} {xc : Xc} {m : Mx} {i : Nat} {ρ : Env} {r : D × Env} (h : evM w xc m ρ = .ok r) : exS w xc false (.asg i m) ρ = .nx (r.2.set i (some r.1)) := by
  show ((evM w xc m ρ).o ρ fun r => if okT false [i] then .nx (r.2.set i (some r.1)) else .bad) = _
  rw [h] <;> rfl
theorem noShr_sc : ∀ {d : D}, flat d = true → noShr d = true := fun {d} h => by cases d <;> first | rfl | cases h
theorem esc_sc {ρ : Env} {e : Ex} {d : D} (h : flat d = true) : esc ρ e d = true := by
  unfold esc
  rw [noShr_sc h] <;> rfl
theorem esc_shr {ρ : Env} {e : Ex} {d : D} (h : noShr d = true) : esc ρ e d = true := by
  unfold esc
  rw [h] <;> rfl
/-- a body that ends by one return -/
theorem runFn_rt {w : W} {np nl : Nat} {b : Sxs} {ds : List D} {d : D} {ρ : Env} (hl : ds.length = np) (h : exSs w none false b (ds.map some ++ List.replicate (nl - np) none) = .rt d ρ) : runFn w ⟨np, nl, false, b⟩ ds = .ok (d, .non) := by
  unfold runFn
  rw [if_pos hl]
  show (match exSs w none false b (ds.map some ++ List.replicate (nl - np) none) with
    | .nx ρ => backR false .non ρ
    | .rt d ρ => backR false d ρ
    | .ex c fs _ => .ex c fs
    | _ => .bad) = _
  rw [h]
  rfl
theorem ev_lcp_map {w : W} {xc : Xc} {i : Nat} {it e : Ex} {own : List Nat} {ρ : Env} {v : D} {xs : List D} {f : D → D} (h1 : ev w xc false it ρ = .ok v) (h2 : itemsD v = .ok xs) (hl : xs.length ≤ sizeLine)
    (h : ∀ d ∈ xs, ev w xc false e ((wipeE ρ own).set i (some d)) = .ok (f d)) : ev w xc false (.lcp (.name i) it (.bl true) e own) ρ = .ok (.lst true (xs.map f)) := by
  show ((ev w xc false it ρ).bind fun v => (itemsD v).bind fun xs =>
      (noEx (compL (fun d ρ => (setTg (.name i) d ρ).bind fun ρ1 => (boolsR (ev w xc true (.bl true) ρ1)).bind fun k => if k then (ev w xc false e ρ1).bind fun x => R.ok (some x) else R.ok none) xs (wipeE ρ own))).bind fun r =>
      if r.length ≤ sizeLine then R.ok (D.lst true r) else R.bad) = _
  rw [h1]
  show ((itemsD v).bind _) = _
  rw [h2]
  show ((noEx (compL _ xs (wipeE ρ own))).bind _) = _
  rw [compL_map (f := f) fun d hd => ?_]
  · show (if (xs.map f).length ≤ sizeLine then R.ok (D.lst true (xs.map f)) else .bad) = _
    rw [if_pos (by rw [List.length_map]; exact hl)]
  · show ((ev w xc false e ((wipeE ρ own).set i (some d))).bind fun x => R.ok (some x)) = _
    rw [h d hd] <;> rfl
theorem ev_lcp_filter {w : W} {xc : Xc} {i : Nat} {it c e : Ex} {own : List Nat} {ρ : Env} {v : D} {xs : List D} {p : D → Bool} {f : D → D} (h1 : ev w xc false it ρ = .ok v) (h2 : itemsD v = .ok xs) (hl : xs.length ≤ sizeLine)
    (hc : ∀ d ∈ xs, ev w xc true c ((wipeE ρ own).set i (some d)) = .ok (.bl (p d))) (h : ∀ d ∈ xs, p d = true → ev w xc false e ((wipeE ρ own).set i (some d)) = .ok (f d)) :
    ev w xc false (.lcp (.name i) it c e own) ρ = .ok (.lst true ((xs.filter p).map f)) := by
  show ((ev w xc false it ρ).bind fun v => (itemsD v).bind fun xs =>
      (noEx (compL (fun d ρ => (setTg (.name i) d ρ).bind fun ρ1 => (boolsR (ev w xc true c ρ1)).bind fun k => if k then (ev w xc false e ρ1).bind fun x => R.ok (some x) else R.ok none) xs (wipeE ρ own))).bind fun r =>
      if r.length ≤ sizeLine then R.ok (D.lst true r) else R.bad) = _
  rw [h1]
  show ((itemsD v).bind _) = _
  rw [h2]
  show ((noEx (compL _ xs (wipeE ρ own))).bind _) = _
  rw [compL_filter (p := p) (f := f) fun d hd => ?_]
  · show (if ((xs.filter p).map f).length ≤ sizeLine then R.ok (D.lst true ((xs.filter p).map f)) else .bad) = _
    rw [if_pos (by rw [List.length_map]; exact Nat.le_trans (List.length_filter_le _ _) hl)]
  · show ((boolsR (ev w xc true c ((wipeE ρ own).set i (some d)))).bind fun k => if k then (ev w xc false e ((wipeE ρ own).set i (some d))).bind fun x => R.ok (some x) else .ok none) = _
    rw [hc d hd]
    show (if p d then _ else _) = _
    cases q : p d with
    | true => rw [if_pos rfl, h d hd q] <;> rfl
    | false => rfl
theorem blt_all {bs : List Bool} {o : Bool} : bltD .all [.lst o (bs.map D.bl)] = .ok (.bl (bs.all id)) := by
  show (match asBools (bs.map D.bl) with
    | some bs => R.ok (D.bl (bs.all id))
    | none => .bad) = _
  have : asBools (bs.map D.bl) = some bs := by
    induction bs with
    | nil => rfl
    | cons b bs ih =>
      show (asBools (bs.map D.bl)).map (b :: ·) = _
      rw [ih] <;> rfl
  rw [this]
theorem exS_retb {w : W} {xc : Xc} {lk : Bool} {b : Bool} {ρ : Env} : exS w xc lk (.ret (.ex (.bl b))) ρ = .rt (.bl b) ρ := rfl
theorem exS_ret1 {w : W} {xc : Xc} {lk : Bool} {e : Ex} {ρ : Env} {d : D} (h : ev w xc false e (shareE ρ) = .ok d) (he : esc ρ e d = true) : exS w xc lk (.ret (.ex e)) ρ = .rt d ρ := exS_ret (evM_ex h he)
theorem ev_blt1 {w : W} {xc : Xc} {b : Blt} {e : Ex} {ρ : Env} {d : D} (h : ev w xc false e ρ = .ok d) : ev w xc false (.blt b (.cons e .nil)) ρ = bltD b [d] := by
  show (((ev w xc false e ρ).bind fun x => R.ok [x]).bind (bltD b)) = _
  rw [h] <;> rfl
theorem ife_ret {w : W} {xc : Xc} {lk : Bool} {t : Ex} {b : Bool} {e ss : Sxs} {ρ : Env} (h : ev w xc true t (shareE ρ) = .ok (.bl true)) : exSs w xc lk (.cons (.ife t (.cons (.ret (.ex (.bl b))) .nil) e) ss) ρ = .rt (.bl b) ρ := by
  refine exSs_rt ?_
  rw [exS_ife h, if_pos rfl]
  exact exSs_rt exS_retb
theorem ife_skip {w : W} {xc : Xc} {lk : Bool} {t : Ex} {a ss : Sxs} {ρ : Env} (h : ev w xc true t (shareE ρ) = .ok (.bl false)) : exSs w xc lk (.cons (.ife t a .nil) ss) ρ = exSs w xc lk ss ρ := by
  refine exSs_nx ?_
  rw [exS_ife h, if_neg Bool.false_ne_true]
  rfl
theorem ret_end {w : W} {xc : Xc} {lk : Bool} {e : Ex} {ρ : Env} {d : D} (h : ev w xc false e (shareE ρ) = .ok d) (he : flat d = true) : exSs w xc lk (.cons (.ret (.ex e)) .nil) ρ = .rt d ρ := exSs_rt (exS_ret1 h (esc_sc he))
theorem ev_call1 {w : W} {xc : Xc} {f : Nat} {e : Ex} {ρ : Env} {d : D} (h : ev w xc false e ρ = .ok d) : ev w xc false (.call f (.cons e .nil)) ρ = (w.fn f [share d]).bind fun r => .ok r.1 := by
  show (((ev w xc false e ρ).bind fun x => R.ok [x]).bind fun ds => (w.fn f (shareL ds)).bind fun r => R.ok r.1) = _
  rw [h] <;> rfl
theorem ev_cmp {w : W} {xc : Xc} {m : Bool} {op : CmpOp} {a b : Ex} {ρ : Env} {x y : D} {c : Bool} (h1 : ev w xc false a ρ = .ok x) (h2 : ev w xc false b ρ = .ok y) (h3 : cmpD op x y = .ok c) : ev w xc m (.cmp op a b) ρ = .ok (.bl c) := by
  show ((ev w xc false a ρ).bind fun x => (ev w xc false b ρ).bind fun y => (cmpD op x y).bind fun c => R.ok (D.bl c)) = _
  rw [h1]
  show ((ev w xc false b ρ).bind _) = _
  rw [h2]
  show ((cmpD op x y).bind _) = _
  rw [h3] <;> rfl
theorem ev_nil {w : W} {xc : Xc} {ρ : Env} : ev w xc false (.lst .nil) ρ = .ok (.lst true []) := by
  show (if ([] : List D).length ≤ sizeLine then R.ok (D.lst true []) else .bad) = _
  rw [if_pos (by rw [sizeLine_eq]; decide)]
theorem isEmpty_filter {α : Type} (p : α → Bool) : ∀ l : List α, (l.filter p).isEmpty = l.all fun x => !p x
  | [] => rfl
  | x :: l => by
    rw [List.filter_cons, List.all_cons]
    cases q : p x with
    | true => rfl
    | false => simpa using isEmpty_filter p l
theorem ev_lcp_tg {w : W} {xc : Xc} {tg : Tg} {it e : Ex} {own : List Nat} {ρ : Env} {v : D} {xs : List D} {f : D → D} (h1 : ev w xc false it ρ = .ok v) (h2 : itemsD v = .ok xs) (hl : xs.length ≤ sizeLine)
    (h : ∀ d ∈ xs, ∃ ρ1, setTg tg d (wipeE ρ own) = .ok ρ1 ∧ ev w xc false e ρ1 = .ok (f d)) : ev w xc false (.lcp tg it (.bl true) e own) ρ = .ok (.lst true (xs.map f)) := by
  show ((ev w xc false it ρ).bind fun v => (itemsD v).bind fun xs =>
      (noEx (compL (fun d ρ => (setTg tg d ρ).bind fun ρ1 => (boolsR (ev w xc true (.bl true) ρ1)).bind fun k => if k then (ev w xc false e ρ1).bind fun x => R.ok (some x) else R.ok none) xs (wipeE ρ own))).bind fun r =>
      if r.length ≤ sizeLine then R.ok (D.lst true r) else R.bad) = _
  rw [h1]
  show ((itemsD v).bind _) = _
  rw [h2]
  show ((noEx (compL _ xs (wipeE ρ own))).bind _) = _
  rw [compL_map (f := f) fun d hd => ?_]
  · show (if (xs.map f).length ≤ sizeLine then R.ok (D.lst true (xs.map f)) else .bad) = _
    rw [if_pos (by rw [List.length_map]; exact hl)]
  · obtain ⟨ρ1, k1, k2⟩ := h d hd
    show ((setTg tg d (wipeE ρ own)).bind fun ρ1 => (boolsR (ev w xc true (.bl true) ρ1)).bind fun k => if k then (ev w xc false e ρ1).bind fun x => R.ok (some x) else R.ok none) = _
    rw [k1]
    show ((ev w xc false e ρ1).bind fun x => R.ok (some x)) = _
    rw [k2] <;> rfl
theorem cutL_tail {α : Type} (xs : List α) : cutL xs (some 1) none = xs.drop 1 := by
  unfold cutL
  have h1 : HT.sIx xs.length xs.length none = xs.length := rfl
  have h2 : HT.sIx xs.length 0 (some 1) = min 1 xs.length := by
    exact HT.sIx_nat xs.length 0 1
  rw [h1, h2]
  cases xs with
  | nil => rfl
  | cons x r =>
    have : min 1 (x :: r).length = 1 := by simp
    rw [this]
    simp
theorem chg_append {w : W} {xc : Xc} {lk : Bool} {i : Nat} {e : Ex} {ρ : Env} {x : D} {xs : List D} (h : ev w xc false e (shareE ρ) = .ok x) (he : esc ρ e x = true) (hg : ρ.get i = some (.lst true xs)) (hl : xs.length < sizeLine) :
    exS w xc lk (.chg i .here .append [.ex e]) ρ = .nx (ρ.set i (some (.lst true (xs ++ [x])))) := by
  show (if tgtOk .append .here (ρ.get i) then (evMs w xc [.ex e] ρ).o ρ fun r => chgO w.fld i .append .here r ρ else .bad) = _
  have ht : tgtOk .append .here (ρ.get i) = true := by rw [hg] <;> rfl
  rw [ht, if_pos rfl]
  have hm : evMs w xc [.ex e] ρ = .ok ([x], ρ) := by
    show ((evM w xc (.ex e) ρ).bind fun r => (noEx (evMs w xc [] r.2)).bind fun q => R.ok (r.1 :: q.1, q.2)) = _
    rw [evM_ex h he] <;> rfl
  rw [hm]
  show (match ρ.get i with
    | some d => (noEx (chgP (lfD w.fld .append [x]) .here d)).o ρ fun q => O.nx (ρ.set i (some q.1))
    | none => .bad) = _
  rw [hg]
  show ((noEx (if xs.length < sizeLine then R.ok (D.lst true (xs ++ [x]), D.non) else .bad)).o ρ fun q => O.nx (ρ.set i (some q.1))) = _
  rw [if_pos hl] <;> rfl
theorem exSs_asg {w : W} {xc : Xc} {i : Nat} {e : Ex} {ss : Sxs} {ρ : Env} {d : D} (h : ev w xc false e (shareE ρ) = .ok d) (he : esc ρ e d = true) : exSs w xc false (.cons (.asg i (.ex e)) ss) ρ = exSs w xc false ss (ρ.set i (some d)) := exSs_nx (exS_asg (evM_ex h he))
theorem exSs_frz {w : W} {xc : Xc} {i : Nat} {ss : Sxs} {ρ : Env} {d : D} (h : ρ.get i = some d) : exSs w xc false (.cons (.frz i) ss) ρ = exSs w xc false ss (ρ.set i (some (share d))) := by
  refine exSs_nx ?_
  show (match ρ.get i with
    | some d => O.nx (ρ.set i (some (share d)))
    | none => .nx ρ) = _
  rw [h]
theorem exS_loop {w : W} {xc : Xc} {tg : Tg} {it : Ex} {b : Sxs} {kl : List Nat} {ρ : Env} {v : D} {xs : List D} (h1 : ev w xc false it (shareE ρ) = .ok v) (h2 : itemsD v = .ok xs) (he : escI w ρ it = true) :
    exS w xc false (.loop tg it b kl) ρ = loopL (fun d ρ => (setTg tg d ρ).o ρ fun ρ1 => exSs w xc false b ρ1) kl xs ρ := by
  show (if escI w ρ it && true && true then (ev w xc false it (shareE ρ)).o ρ fun v => (itemsD v).o ρ fun xs =>
      loopL (fun d ρ => (setTg tg d ρ).o ρ fun ρ1 => exSs w xc false b ρ1) kl xs ρ else .bad) = _
  rw [he, Bool.and_true, Bool.and_true, if_pos rfl, h1]
  show ((itemsD v).o ρ _) = _
  rw [h2] <;> rfl
theorem okI_nat {n : Nat} (h : n ≤ 1000000) : okI n = true := by
  unfold okI
  have h1 : -(2 ^ 62 : Int) ≤ (n : Int) := Int.le_trans (by decide) (Int.natCast_nonneg n)
  have h2 : (n : Int) < 2 ^ 62 := Int.lt_of_le_of_lt (Int.ofNat_le.mpr h) (by decide)
  exact decide_eq_true ⟨h1, h2⟩
theorem ev_rng1 {w : W} {xc : Xc} {a : Ex} {ρ : Env} {j : Int} (h : ev w xc false a ρ = .ok (.int j)) (o : okI j = true) : ev w xc false (.rng1 a) ρ = .ok (.lst true (rngI 0 j)) := by
  have e : ev w xc false (.rng1 a) ρ = (ev w xc false a ρ).bind fun x => (argI x).bind fun j => if okI j then R.ok (D.lst true (rngI 0 j)) else R.bad := rfl
  rw [e, h]
  have e2 : ((R.ok (D.int j)).bind fun x => (argI x).bind fun j => if okI j then R.ok (D.lst true (rngI 0 j)) else R.bad) = if okI j then R.ok (D.lst true (rngI 0 j)) else R.bad := rfl
  rw [e2, o, if_pos rfl]
theorem ev_var {w : W} {xc : Xc} {i : Nat} {ρ : Env} {d : D} (h : ρ.get i = some d) : ev w xc false (.var i) ρ = .ok d := by
  show (match ρ.get i with
    | some d => R.ok d
    | none => .bad) = _
  rw [h]

/-! ### texts: valid signs -/
def va (x : Str) : Prop := ∀ c ∈ x.cps.toList, c < 0x110000
theorem len_list (x : Str) : x.length = x.cps.toList.length := by simp [Str.length]
theorem okS_iff {x : Str} : okS x = true ↔ x.length ≤ 1000 ∧ va x := by
  unfold okS va
  rw [Bool.and_eq_true, decide_eq_true_eq, Array.all_eq_true']
  simp
theorem app_list (x y : Str) : (x ++ y).cps.toList = x.cps.toList ++ y.cps.toList := by
  show (x.cps ++ y.cps).toList = _
  simp
theorem va_app {x y : Str} (h : va x) (k : va y) : va (x ++ y) := fun c hc => by
  rw [app_list] at hc
  rcases (List.mem_append.mp hc) with z | z
  · exact h c z
  · exact k c z
theorem len_app (x y : Str) : (x ++ y).length = x.length + y.length := by
  rw [len_list, len_list, len_list, app_list, List.length_append]
theorem va_rep {x : Str} (h : va x) (n : Int) : va (repS x n) := fun c hc => by
  have hc : c ∈ (List.replicate n.toNat x.cps.toList).flatten := by simpa [repS] using hc
  obtain ⟨l, hl, hcl⟩ := List.mem_flatten.mp hc
  rw [List.eq_of_mem_replicate hl] at hcl
  exact h c hcl
theorem len_rep (x : Str) (n : Int) : (repS x n).length = n.toNat * x.length := by
  rw [len_list, len_list]
  show ((List.replicate n.toNat x.cps.toList).flatten.toArray).toList.length = _
  simp
/-- a sign of a text -/
theorem idx_str {z : Str} (hv : va z) (hl : z.length ≤ 1000) {i : Int} (h0 : 0 ≤ i) (h1 : i < z.length) : ∃ c, idxD (.str z) (.int i) = .ok (.str ⟨#[c]⟩) ∧ c < 0x110000 := by
  have hsz : z.length ≤ sizeLine := by rw [sizeLine_eq]; omega
  have hi : i.toNat < z.cps.toList.length := by rw [← len_list]; omega
  refine ⟨z.cps.toList[i.toNat], ?_, hv _ (List.getElem_mem hi)⟩
  show (if z.length ≤ sizeLine then (match atI z.cps.toList i with
      | some c => R.ok (D.str ⟨#[c]⟩)
      | none => .bad) else .bad) = _
  rw [if_pos hsz]
  have e : atI z.cps.toList i = some z.cps.toList[i.toNat] := by
    unfold atI ixN
    rw [if_pos h0, if_pos (by rw [← len_list]; exact h1)]
    exact List.getElem?_eq_getElem hi
  rw [e]
theorem va_one {c : Nat} (h : c < 0x110000) : va ⟨#[c]⟩ := fun d hd => by
  have : d = c := by simpa using hd
  rw [this]; exact h
theorem len_one (c : Nat) : (⟨#[c]⟩ : Str).length = 1 := rfl
/-- an item of a list of flat data -/
theorem idx_lst {o : Bool} {ds : List D} {i : Int} (h0 : 0 ≤ i) (h1 : i < ds.length) : ∃ d, ds[i.toNat]? = some d ∧ idxD (.lst o ds) (.int i) = .ok (share d) := by
  have hi : i.toNat < ds.length := by omega
  refine ⟨ds[i.toNat], List.getElem?_eq_getElem hi, ?_⟩
  show (match (ixN ds.length i).bind fun j => ds[j]? with
    | some d => R.ok (share d)
    | none => .bad) = _
  have e : ixN ds.length i = some i.toNat := by
    unfold ixN
    rw [if_pos h0, if_pos h1]
  rw [e]
  show (match ds[i.toNat]? with
    | some d => R.ok (share d)
    | none => .bad) = _
  rw [List.getElem?_eq_getElem hi]
theorem evL_cons {w : W} {xc : Xc} {e : Ex} {es : Exs} {ρ : Env} {d : D} {ds : List D} (h : ev w xc false e ρ = .ok d) (k : evL w xc es ρ = .ok ds) : evL w xc (.cons e es) ρ = .ok (d :: ds) := by
  show ((ev w xc false e ρ).bind fun x => (evL w xc es ρ).bind fun xs => R.ok (x :: xs)) = _
  rw [h, k] <;> rfl
theorem ev_lst {w : W} {xc : Xc} {es : Exs} {ρ : Env} {ds : List D} (h : evL w xc es ρ = .ok ds) (hl : ds.length ≤ 1000) : ev w xc false (.lst es) ρ = .ok (.lst true ds) := by
  show ((evL w xc es ρ).bind fun ds => if ds.length ≤ sizeLine then R.ok (D.lst true ds) else R.bad) = _
  rw [h]
  show (if ds.length ≤ sizeLine then R.ok (D.lst true ds) else R.bad) = _
  rw [if_pos (by rw [sizeLine_eq]; omega)]
theorem ev_bin {w : W} {xc : Xc} {op : Operator} {a b : Ex} {ρ : Env} {x y z : D} (h1 : ev w xc false a ρ = .ok x) (h2 : ev w xc false b ρ = .ok y) (h3 : binD op x y = .ok z) : ev w xc false (.bin op a b) ρ = .ok z := by
  show ((ev w xc false a ρ).bind fun x => (ev w xc false b ρ).bind fun y => binD op x y) = _
  rw [h1]
  show ((ev w xc false b ρ).bind _) = _
  rw [h2]
  exact h3
theorem ev_one {w : W} {xc : Xc} {e : Ex} {ρ : Env} {d : D} (h : ev w xc false e ρ = .ok d) : ev w xc false (.lst (.cons e .nil)) ρ = .ok (.lst true [d]) := ev_lst (evL_cons h rfl) (by simp)
theorem ev_slcL {w : W} {xc : Xc} {a l : Ex} {ρ : Env} {x y z : D} (h1 : ev w xc false a ρ = .ok x) (h2 : ev w xc false l ρ = .ok y) (h3 : slcD x (some y) none = .ok z) : ev w xc false (.slcL a l) ρ = .ok z := by
  show ((ev w xc false a ρ).bind fun x => (ev w xc false l ρ).bind fun l => slcD x (some l) none) = _
  rw [h1]
  show ((ev w xc false l ρ).bind _) = _
  rw [h2]
  exact h3
theorem ev_slcH {w : W} {xc : Xc} {a l : Ex} {ρ : Env} {x y z : D} (h1 : ev w xc false a ρ = .ok x) (h2 : ev w xc false l ρ = .ok y) (h3 : slcD x none (some y) = .ok z) : ev w xc false (.slcH a l) ρ = .ok z := by
  show ((ev w xc false a ρ).bind fun x => (ev w xc false l ρ).bind fun l => slcD x none (some l)) = _
  rw [h1]
  show ((ev w xc false l ρ).bind _) = _
  rw [h2]
  exact h3
theorem ev_rev {w : W} {xc : Xc} {a : Ex} {ρ : Env} {o : Bool} {xs : List D} (h1 : ev w xc false a ρ = .ok (.lst o xs)) : ev w xc false (.rev a) ρ = .ok (.lst true (shareL xs.reverse)) := by
  show ((ev w xc false a ρ).bind revD) = _
  rw [h1] <;> rfl
theorem add_lst {o o' : Bool} {xs ys : List D} (h : xs.length + ys.length ≤ 100000) : addD (.lst o xs) (.lst o' ys) = .ok (.lst true (shareL (xs ++ ys))) := if_pos (by rw [sizeLine_eq]; omega)
end MI

set_option Elab.async false
set_option linter.all false
set_option maxRecDepth 99000
set_option maxHeartbeats 0
/-! K01T: the trees. -/
namespace MI.K01
open PySem L2
/-- is_whole(value): 0 value -/
def b_is_whole : Sxs := (.cons (.ret (.ex (.and (.isi (.var 0) [.int]) (.not (.isi (.var 0) [.bool])))))
    .nil)
def d_is_whole : Fd := ⟨1, 1, false, b_is_whole⟩
/-- has_name_signs(text): 0 text, 1 sign -/
def b_has_name_signs : Sxs := (.cons (.ife (.cmp .NotIn (.idx (.var 0) (.int 0)) (.glo 1))
    (.cons (.ret (.ex (.bl false)))
    .nil)
    .nil)
    (.cons (.ret (.ex (.blt .all (.cons (.lcp (.name 1) (.pln (.var 0)) (.bl true) (.or (.cmp .In (.var 1) (.glo 1)) (.cmp .In (.var 1) (.glo 2))) [1]) .nil))))
    .nil))
def d_has_name_signs : Fd := ⟨1, 2, false, b_has_name_signs⟩
/-- is_name(value): 0 value -/
def b_is_name : Sxs := (.cons (.ife (.or (.not (.isi (.var 0) [.str])) (.not (.chn .LtE .LtE (.int 1) (.blt .len (.cons (.var 0) .nil)) (.glo 3))))
    (.cons (.ret (.ex (.bl false)))
    .nil)
    .nil)
    (.cons (.ret (.ex (.call 1 (.cons (.var 0) .nil))))
    .nil))
def d_is_name : Fd := ⟨1, 1, false, b_is_name⟩
/-- is_ascending(values): 0 values, 1 before, 2 after -/
def b_is_ascending : Sxs := (.cons (.ret (.ex (.blt .all (.cons (.lcp (.tup [1, 2]) (.zip (.var 0) (.slcL (.var 0) (.int 1))) (.bl true) (.cmp .Lt (.var 1) (.var 2)) [1, 2]) .nil))))
    .nil)
def d_is_ascending : Fd := ⟨1, 3, false, b_is_ascending⟩
/-- are_names(value): 0 value, 1 name -/
def b_are_names : Sxs := (.cons (.ret (.ex (.and (.isi (.var 0) [.list]) (.blt .all (.cons (.lcp (.name 1) (.pln (.var 0)) (.bl true) (.call 2 (.cons (.var 1) .nil)) [1]) .nil)))))
    .nil)
def d_are_names : Fd := ⟨1, 2, false, b_are_names⟩
/-- are_places(value): 0 value -/
def b_are_places : Sxs := (.cons (.ife (.or (.not (.call 3 (.cons (.var 0) .nil))) (.not (.chn .LtE .LtE (.int 1) (.blt .len (.cons (.var 0) .nil)) (.glo 4))))
    (.cons (.ret (.ex (.bl false)))
    .nil)
    .nil)
    (.cons (.ret (.ex (.call 4 (.cons (.var 0) .nil))))
    .nil))
def d_are_places : Fd := ⟨1, 1, false, b_are_places⟩
/-- _law_numbers(script, at, count): 0 script, 1 at, 2 count, 3 cell, 4 numbers, 5 k, 6 mixed -/
def b__law_numbers : Sxs := (.cons (.asg 3 (.ex (.bin .Mult (.int 1000003) (.bin .Add (.var 1) (.int 1)))))
    (.cons (.ife (.cmp .Lt (.var 1) (.blt .len (.cons (.var 0) .nil)))
    (.cons (.asg 3 (.ex (.blt .int (.cons (.idx (.var 0) (.var 1)) .nil))))
    .nil)
    .nil)
    (.cons (.ife (.cmp .Lt (.var 3) (.int 0))
    (.cons (.asg 3 (.ex (.bin .Sub (.int 1) (.bin .Mult (.int 2) (.var 3)))))
    .nil)
    .nil)
    (.cons (.asg 4 (.ex (.lst .nil)))
    (.cons (.loop (.name 5) (.rng1 (.var 2))
    (.cons (.ife (.cmp .GtE (.var 3) (.bin .Pow (.int 10) (.int 18)))
    (.cons (.chg 4 .here .append [(.ex (.bin .Mod (.var 3) (.int 1009)))])
    (.cons (.asg 3 (.ex (.bin .FloorDiv (.var 3) (.int 1009))))
    .nil))
    (.cons (.asg 6 (.ex (.bin .Mod (.bin .Add (.bin .Add (.bin .Mult (.var 3) (.int 48271)) (.bin .Mult (.bin .Add (.var 5) (.int 1)) (.int 69621))) (.bin .Mult (.var 1) (.int 4001))) (.int 2147483647))))
    (.cons (.asg 6 (.ex (.bin .Mod (.bin .Add (.bin .Mult (.var 6) (.var 6)) (.bin .Mult (.int 16807) (.bin .Add (.var 5) (.int 3)))) (.int 2147483629))))
    (.cons (.chg 4 .here .append [(.ex (.bin .Mod (.bin .FloorDiv (.var 6) (.int 7)) (.int 1009)))])
    .nil))))
    .nil)
    [5, 6])
    (.cons (.ret (.mov 4))
    .nil))))))
def d__law_numbers : Fd := ⟨3, 7, false, b__law_numbers⟩
/-- _law_says(said, due): 0 said, 1 due -/
def b__law_says : Sxs := (.cons (.ret (.ex (.and (.isi (.var 0) [.bool]) (.cmp .Eq (.var 0) (.var 1)))))
    .nil)
def d__law_says : Fd := ⟨2, 2, false, b__law_says⟩
/-- _law_names(n, many): 0 n, 1 many, 2 letters, 3 found, 4 k, 5 name -/
def b__law_names : Sxs := (.cons (.asg 2 (.ex (.str ("abcdefghijklmnopqrstuvwxyz" : PySem.Str))))
    (.cons (.asg 3 (.ex (.lst .nil)))
    (.cons (.loop (.name 4) (.rng1 (.var 1))
    (.cons (.asg 5 (.ex (.bin .Add (.idx (.var 2) (.bin .Mod (.bin .Add (.idx (.var 0) (.int 0)) (.bin .Mult (.int 3) (.var 4))) (.int 26))) (.bin .Mult (.idx (.str ("0123456789abcdefghijklmnopqrstuvwxyz" : PySem.Str)) (.bin .Mod (.idx (.var 0) (.bin .Add (.int 1) (.bin .Mod (.var 4) (.int 6)))) (.int 36))) (.bin .Mod (.idx (.var 0) (.bin .Add (.int 2) (.bin .Mod (.var 4) (.int 5)))) (.int 12))))))
    (.cons (.chg 3 .here .append [(.ex (.var 5))])
    .nil))
    [4, 5])
    (.cons (.ret (.ex (.blt .sorted (.cons (.var 3) .nil))))
    .nil))))
def d__law_names : Fd := ⟨2, 6, false, b__law_names⟩
/-- _law_is_name(value): 0 value, 1 sign -/
def b__law_is_name : Sxs := (.cons (.ife (.or (.not (.isi (.var 0) [.str])) (.or (.not (.chn .LtE .LtE (.int 1) (.blt .len (.cons (.var 0) .nil)) (.int 12))) (.cmp .NotIn (.idx (.var 0) (.int 0)) (.str ("abcdefghijklmnopqrstuvwxyz" : PySem.Str)))))
    (.cons (.ret (.ex (.bl false)))
    .nil)
    .nil)
    (.cons (.ret (.ex (.cmp .Eq (.lcp (.name 1) (.pln (.var 0)) (.cmp .NotIn (.var 1) (.str ("abcdefghijklmnopqrstuvwxyz0123456789" : PySem.Str))) (.var 1) [1]) (.lst .nil))))
    .nil))
def d__law_is_name : Fd := ⟨1, 2, false, b__law_is_name⟩
/-- _law_are_places(value): 0 value, 1 one, 2 k -/
def b__law_are_places : Sxs := (.cons (.ife (.or (.not (.isi (.var 0) [.list])) (.or (.not (.chn .LtE .LtE (.int 1) (.blt .len (.cons (.var 0) .nil)) (.int 12))) (.cmp .NotEq (.lcp (.name 1) (.pln (.var 0)) (.not (.call 5 (.cons (.var 1) .nil))) (.var 1) [1]) (.lst .nil))))
    (.cons (.ret (.ex (.bl false)))
    .nil)
    .nil)
    (.cons (.ret (.ex (.cmp .Eq (.lcp (.name 2) (.rng2 (.int 1) (.blt .len (.cons (.var 0) .nil))) (.cmp .LtE (.idx (.var 0) (.var 2)) (.idx (.var 0) (.bin .Sub (.var 2) (.int 1)))) (.var 2) [2]) (.lst .nil))))
    .nil))
def d__law_are_places : Fd := ⟨1, 3, false, b__law_are_places⟩
/-- law(script): 0 script, 1 n, 2 names, 3 name, 4 at, 5 texts, 6 sign, 7 text, 8 spot, 9 twelve, 10 lists, 11 one, 12 value, 13 number -/
def b_law : Sxs := (.cons (.asg 1 (.ex (.call 6 (.cons (.var 0) (.cons (.int 0) (.cons (.int 30) .nil))))))
    (.cons (.frz 1)
    (.cons (.asg 2 (.ex (.call 7 (.cons (.slcB (.var 1) (.int 1) (.int 8)) (.cons (.bin .Add (.int 1) (.bin .Mod (.idx (.var 1) (.int 0)) (.int 12))) .nil)))))
    (.cons (.frz 2)
    (.cons (.asg 3 (.ex (.idx (.var 2) (.bin .Mod (.idx (.var 1) (.int 8)) (.blt .len (.cons (.var 2) .nil))))))
    (.cons (.asg 4 (.ex (.bin .Mod (.idx (.var 1) (.int 9)) (.blt .len (.cons (.var 3) .nil)))))
    (.cons (.asg 5 (.ex (.bin .Add (.var 2) (.lst (.cons (.str ("a" : PySem.Str)) (.cons (.str ("z9" : PySem.Str)) (.cons (.bin .Mult (.str ("a" : PySem.Str)) (.int 12)) (.cons (.bin .Mult (.str ("a" : PySem.Str)) (.int 13)) (.cons (.str ("" : PySem.Str)) (.cons (.str ("1a" : PySem.Str)) (.cons (.str ("A" : PySem.Str)) (.cons (.str ("aB" : PySem.Str)) (.cons (.str ("a b" : PySem.Str)) (.cons (.str ("a_" : PySem.Str)) (.cons (.str ("-" : PySem.Str)) (.cons (.str ("a!" : PySem.Str)) (.cons (.str (" a" : PySem.Str)) (.cons (.str ("a " : PySem.Str)) (.cons (.str ("\n" : PySem.Str)) (.cons .non (.cons (.int 5) (.cons (.bl true) (.cons (.lst (.cons (.str ("a" : PySem.Str)) .nil)) (.cons (.tup (.cons (.str ("a" : PySem.Str)) .nil)) (.cons (.dct .nil) .nil)))))))))))))))))))))))))
    (.cons (.frz 5)
    (.cons (.asg 5 (.ex (.bin .Add (.bin .Add (.var 5) (.lcp (.name 6) (.pln (.lst (.cons (.str ("0" : PySem.Str)) (.cons (.str ("z" : PySem.Str)) (.cons (.str ("A" : PySem.Str)) (.cons (.str (" " : PySem.Str)) (.cons (.str ("_" : PySem.Str)) (.cons (.str ("." : PySem.Str)) (.cons (.str ("{" : PySem.Str)) .nil))))))))) (.bl true) (.bin .Add (.bin .Add (.slcH (.var 3) (.var 4)) (.var 6)) (.slcL (.var 3) (.bin .Add (.var 4) (.int 1)))) [6])) (.lst (.cons (.bin .Mult (.var 3) (.int 2)) (.cons (.slcL (.var 3) (.int 1)) .nil))))))
    (.cons (.frz 5)
    (.cons (.loop (.name 7) (.pln (.var 5))
    (.cons (.ife (.not (.call 8 (.cons (.call 2 (.cons (.var 7) .nil)) (.cons (.call 5 (.cons (.var 7) .nil)) .nil))))
    (.cons (.ret (.ex (.bl false)))
    .nil)
    .nil)
    .nil)
    [7])
    (.cons (.asg 8 (.ex (.bin .Mod (.idx (.var 1) (.int 10)) (.blt .len (.cons (.var 2) .nil)))))
    (.cons (.asg 9 (.ex (.call 7 (.cons (.slcB (.var 1) (.int 11) (.int 18)) (.cons (.int 12) .nil)))))
    (.cons (.frz 9)
    (.cons (.asg 10 (.ex (.lst (.cons (.var 2) (.cons (.var 9) (.cons (.rev (.var 2)) (.cons (.rev (.var 9)) (.cons (.lst .nil) (.cons (.bin .Add (.var 9) (.lst (.cons (.str ("zz9" : PySem.Str)) .nil))) (.cons (.blt .tuple (.cons (.var 2) .nil)) (.cons .non (.cons (.str ("abc" : PySem.Str)) (.cons (.dct .nil) (.cons (.int 5) (.cons (.bin .Add (.var 2) (.slcL (.var 2) (.neg (.int 1)))) (.cons (.slcL (.var 2) (.int 1)) (.cons (.lst (.cons (.var 3) .nil)) (.cons (.lst (.cons .non .nil)) (.cons (.lst (.cons (.var 2) .nil)) .nil)))))))))))))))))))
    (.cons (.loop (.name 11) (.pln (.lst (.cons (.str ("" : PySem.Str)) (.cons .non (.cons (.str ("A" : PySem.Str)) (.cons (.idx (.var 2) (.int 0)) (.cons (.idx (.var 2) (.neg (.int 1))) (.cons (.bin .Mult (.str ("a" : PySem.Str)) (.int 13)) (.cons (.int 7) (.cons (.lst (.cons (.var 3) .nil)) .nil))))))))))
    (.cons (.chg 10 .here .append [(.ex (.bin .Add (.bin .Add (.slcH (.var 2) (.var 8)) (.lst (.cons (.var 11) .nil))) (.slcL (.var 2) (.bin .Add (.var 8) (.int 1)))))])
    .nil)
    [11])
    (.cons (.frz 10)
    (.cons (.loop (.name 12) (.pln (.var 10))
    (.cons (.ife (.not (.call 8 (.cons (.call 10 (.cons (.var 12) .nil)) (.cons (.call 9 (.cons (.var 12) .nil)) .nil))))
    (.cons (.ret (.ex (.bl false)))
    .nil)
    .nil)
    .nil)
    [12])
    (.cons (.loop (.name 13) (.pln (.lst (.cons (.int 0) (.cons (.int 1) (.cons (.neg (.int 1)) (.cons (.idx (.var 1) (.int 19)) (.cons (.bin .Sub (.int 0) (.idx (.var 1) (.int 20))) (.cons (.bin .Mult (.idx (.var 1) (.int 21)) (.bin .Pow (.int 10) (.int 15))) (.cons (.bin .Pow (.int 10) (.int 40)) (.cons (.bin .Sub (.int 0) (.bin .Pow (.int 10) (.int 40))) .nil))))))))))
    (.cons (.ife (.not (.call 8 (.cons (.call 11 (.cons (.var 13) .nil)) (.cons (.bl true) .nil))))
    (.cons (.ret (.ex (.bl false)))
    .nil)
    .nil)
    .nil)
    [13])
    (.cons (.loop (.name 12) (.pln (.lst (.cons (.bl true) (.cons (.bl false) (.cons .non (.cons (.str ("1" : PySem.Str)) (.cons (.lst (.cons (.int 1) .nil)) (.cons (.tup (.cons (.int 1) .nil)) (.cons (.str ("" : PySem.Str)) .nil)))))))))
    (.cons (.ife (.not (.call 8 (.cons (.call 11 (.cons (.var 12) .nil)) (.cons (.bl false) .nil))))
    (.cons (.ret (.ex (.bl false)))
    .nil)
    .nil)
    .nil)
    [12])
    (.cons (.ret (.ex (.bl true)))
    .nil)))))))))))))))))))))
def d_law : Fd := ⟨1, 14, false, b_law⟩
def NMs : List PySem.Str := [("\u0000" : PySem.Str)]
def glN : List (Nat × PySem.Str) := [(11, ("is_whole" : PySem.Str)), (1, ("has_name_signs" : PySem.Str)), (2, ("is_name" : PySem.Str)), (4, ("is_ascending" : PySem.Str)), (3, ("are_names" : PySem.Str)), (10, ("are_places" : PySem.Str)), (6, ("_law_numbers" : PySem.Str)), (8, ("_law_says" : PySem.Str)), (7, ("_law_names" : PySem.Str)), (5, ("_law_is_name" : PySem.Str)), (9, ("_law_are_places" : PySem.Str)), (12, ("law" : PySem.Str))]
def cons : List Con := [⟨2, ("FIGURES" : PySem.Str), .str ("0123456789" : PySem.Str)⟩, ⟨1, ("LETTERS" : PySem.Str), .str ("abcdefghijklmnopqrstuvwxyz" : PySem.Str)⟩, ⟨3, ("LONGEST_NAME" : PySem.Str), .int 12⟩, ⟨4, ("MOST_PLACES" : PySem.Str), .int 12⟩]
def frs : List PySem.Str := [("all" : PySem.Str), ("bool" : PySem.Str), ("int" : PySem.Str), ("isinstance" : PySem.Str), ("len" : PySem.Str), ("list" : PySem.Str), ("range" : PySem.Str), ("sorted" : PySem.Str), ("str" : PySem.Str), ("tuple" : PySem.Str), ("zip" : PySem.Str)]
def M0 : Nms := ⟨NMs, glN, [], cons.map fun c => (c.g, c.x), frs⟩
end MI.K01

set_option Elab.async false
set_option linter.all false
set_option maxRecDepth 99000
set_option maxHeartbeats 999000
/-! MaK01: what the defs of names and places answer. -/
namespace MI.K01
open PySem L2
def LET : Str := "abcdefghijklmnopqrstuvwxyz"
def FIG : Str := "0123456789"
def ALN : Str := "abcdefghijklmnopqrstuvwxyz0123456789"
theorem aln (c : Nat) : decide (c ∈ ALN.cps.toList) = (decide (c ∈ LET.cps.toList) || decide (c ∈ FIG.cps.toList)) := by
  have e : ALN.cps.toList = LET.cps.toList ++ FIG.cps.toList := by decide +kernel
  rw [e, Bool.eq_iff_iff]
  simp
/-- a name -/
def nmB (x : Str) : Bool := decide (1 ≤ x.length ∧ x.length ≤ 12) && (match x.cps.toList with
  | [] => false
  | c :: r => decide (c ∈ LET.cps.toList) && (c :: r).all fun c => decide (c ∈ ALN.cps.toList))
def nmD : D → Bool
  | .str x => nmB x
  | _ => false
/-- what the tests are asked about -/
def tx (d : D) : Bool := notIns d && (match d with
  | .str x => okS x
  | _ => true)
theorem run_is_whole (w : W) (d : D) (h : notIns d = true) : runFn w d_is_whole [d] = .ok (.bl (isTy d .int && !isTy d .bool), .non) := by
  simp only [runFn, d_is_whole, b_is_whole, exSs, exS, evM, ev]
  simp [h, notCls]
  cases isTy d .int <;> simp [esc, noShr, backR]
theorem len_pos {x : Str} (h : 1 ≤ x.length) : ∃ c r, x.cps.toList = c :: r := by
  cases q : x.cps.toList with
  | nil =>
    have : x.cps.toList.length = 0 := by rw [q] <;> rfl
    have e : x.length = x.cps.toList.length := by simp [Str.length]
    omega
  | cons c r => exact ⟨c, r, rfl⟩
theorem idx_0 {x : Str} {c : Nat} {r : List Nat} (hx : x.cps.toList = c :: r) (hl : x.length ≤ 1000) : idxD (.str x) (.int 0) = .ok (.str ⟨#[c]⟩) := by
  have hsz : x.length ≤ sizeLine := by rw [sizeLine_eq]; omega
  simp [idxD, hsz, atI, ixN, hx]
theorem run_has_name_signs (w : W) (x : Str) (c : Nat) (r : List Nat) (hx : x.cps.toList = c :: r) (hl : x.length ≤ 12) (h1 : w.glo 1 = some (.str LET)) (h2 : w.glo 2 = some (.str FIG)) :
    runFn w d_has_name_signs [.str x] = .ok (.bl (decide (c ∈ LET.cps.toList) && (c :: r).all fun c => decide (c ∈ ALN.cps.toList)), .non) := by
  have hsz : (c :: r).length ≤ sizeLine := by
    have : x.length = x.cps.toList.length := by simp [Str.length]
    rw [hx] at this
    rw [← this, sizeLine_eq]; omega
  have e1 : ev w none true (.cmp .NotIn (.idx (.var 0) (.int 0)) (.glo 1)) (shareE [some (.str x), none]) = .ok (.bl (!decide (c ∈ LET.cps.toList))) := by
    simp [ev, h1, idx_0 hx (Nat.le_trans hl (by decide)), cmpD, inD, hasSub_one]
  have e2 : ev w none false (.lcp (.name 1) (.pln (.var 0)) (.bl true) (.or (.cmp .In (.var 1) (.glo 1)) (.cmp .In (.var 1) (.glo 2))) [1]) (shareE [some (.str x), none]) =
      .ok (.lst true (((c :: r).map fun c => decide (c ∈ ALN.cps.toList)).map D.bl)) := by
    have := ev_lcp_map (w := w) (xc := none) (i := 1) (it := .pln (.var 0)) (e := .or (.cmp .In (.var 1) (.glo 1)) (.cmp .In (.var 1) (.glo 2))) (own := [1]) (ρ := shareE [some (.str x), none])
      (v := .str x) (xs := (c :: r).map fun c => D.str ⟨#[c]⟩) (f := fun d => match d with
        | .str y => .bl (hasSub y LET || hasSub y FIG)
        | _ => .non) (by simp [ev]) (by simp [itemsD, hx]) (by rw [List.length_map]; exact hsz) (fun d hd => by
          obtain ⟨c', _, rfl⟩ := List.mem_map.mp hd
          simp [ev, wipeE, h1, h2, cmpD, inD]
          cases hasSub ⟨#[c']⟩ LET <;> simp)
    rw [this, List.map_map, List.map_map]
    refine congrArg (fun z => R.ok (D.lst true z)) (List.map_congr_left fun c' _ => ?_)
    show D.bl (hasSub ⟨#[c']⟩ LET || hasSub ⟨#[c']⟩ FIG) = D.bl (decide (c' ∈ ALN.cps.toList))
    rw [hasSub_one, hasSub_one, aln]
  refine runFn_rt (ρ := [some (.str x), none]) rfl ?_
  show exSs w none false b_has_name_signs [some (.str x), none] = _
  cases q : decide (c ∈ LET.cps.toList) with
  | false =>
    rw [q] at e1
    exact ife_ret e1
  | true =>
    rw [q] at e1
    rw [b_has_name_signs, ife_skip e1]
    refine ret_end ?_ rfl
    rw [ev_blt1 e2, blt_all]
    simp
/-- is it a name -/
theorem run_is_name (w : W) (d : D) (h : tx d = true) (h1 : w.glo 3 = some (.int 12)) (hf : ∀ x c r, x.cps.toList = c :: r → x.length ≤ 12 → w.fn 1 [.str x] = .ok (.bl (decide (c ∈ LET.cps.toList) && (c :: r).all fun c => decide (c ∈ ALN.cps.toList)), .non)) :
    runFn w d_is_name [d] = .ok (.bl (nmD d), .non) := by
  obtain ⟨hn, ht⟩ := an h
  refine runFn_rt (ρ := [some d]) rfl ?_
  show exSs w none false b_is_name [some d] = _
  by_cases hs : ∃ x, d = .str x
  · obtain ⟨x, rfl⟩ := hs
    have ht : okS x = true := ht
    have hl : x.length ≤ 1000 := of_decide_eq_true (an ht).1
    have hsz : x.length ≤ sizeLine := by rw [sizeLine_eq]; omega
    have e1 : ev w none true (.or (.not (.isi (.var 0) [.str])) (.not (.chn .LtE .LtE (.int 1) (.blt .len (.cons (.var 0) .nil)) (.glo 3)))) (shareE [some (.str x)]) = .ok (.bl (!decide (1 ≤ x.length ∧ x.length ≤ 12))) := by
      simp [ev, evL, notIns, notCls, isTy, bltD, lenD, hsz, h1, cmpD]
      by_cases q1 : (1 : Int) ≤ x.length
      · by_cases q2 : (x.length : Int) ≤ 12
        · have : 1 ≤ x.length ∧ x.length ≤ 12 := by omega
          simp [q1, q2, this]
        · have : ¬ (1 ≤ x.length ∧ x.length ≤ 12) := by omega
          simp [q1, q2]
          omega
      · simp [q1]
        omega
    by_cases q : 1 ≤ x.length ∧ x.length ≤ 12
    · rw [decide_eq_true q] at e1
      rw [b_is_name, ife_skip e1]
      obtain ⟨c, r, hx⟩ := len_pos q.1
      refine ret_end ?_ rfl
      rw [ev_call1 (d := .str x) (by simp [ev]), share_str, hf x c r hx q.2]
      show R.ok (D.bl _) = R.ok (D.bl (nmB x))
      unfold nmB
      rw [decide_eq_true q, hx] <;> rfl
    · rw [decide_eq_false q] at e1
      rw [b_is_name, ife_ret e1]
      show O.rt (.bl false) _ = O.rt (.bl (nmB x)) _
      unfold nmB
      rw [decide_eq_false q] <;> rfl
  · have e1 : ev w none true (.or (.not (.isi (.var 0) [.str])) (.not (.chn .LtE .LtE (.int 1) (.blt .len (.cons (.var 0) .nil)) (.glo 3)))) (shareE [some d]) = .ok (.bl true) := by
      cases d <;> first | exact absurd ⟨_, rfl⟩ hs | exact ff hn | simp [ev, notIns, notCls, isTy]
    rw [b_is_name, ife_ret e1]
    cases d <;> first | exact absurd ⟨_, rfl⟩ hs | rfl
/-- .. by the law -/
theorem run_law_is_name (w : W) (d : D) (h : tx d = true) : runFn w d__law_is_name [d] = .ok (.bl (nmD d), .non) := by
  obtain ⟨hn, ht⟩ := an h
  refine runFn_rt (ρ := [some d, none]) rfl ?_
  show exSs w none false b__law_is_name [some d, none] = _
  by_cases hs : ∃ x, d = .str x
  · obtain ⟨x, rfl⟩ := hs
    have ht : okS x = true := ht
    have hl : x.length ≤ 1000 := of_decide_eq_true (an ht).1
    have hsz : x.length ≤ sizeLine := by rw [sizeLine_eq]; omega
    by_cases q : 1 ≤ x.length ∧ x.length ≤ 12
    · obtain ⟨c, r, hx⟩ := len_pos q.1
      have q1 : (1 : Int) ≤ x.length := by omega
      have q2 : (x.length : Int) ≤ 12 := by omega
      have e1 : ev w none true (.or (.not (.isi (.var 0) [.str])) (.or (.not (.chn .LtE .LtE (.int 1) (.blt .len (.cons (.var 0) .nil)) (.int 12))) (.cmp .NotIn (.idx (.var 0) (.int 0)) (.str ("abcdefghijklmnopqrstuvwxyz" : PySem.Str))))) (shareE [some (.str x), none]) = .ok (.bl (!decide (c ∈ LET.cps.toList))) := by
        have z : hasSub ⟨#[c]⟩ (Str.ofString "abcdefghijklmnopqrstuvwxyz") = decide (c ∈ LET.cps.toList) := hasSub_one LET c
        simp [ev, evL, notIns, notCls, isTy, bltD, lenD, hsz, cmpD, q1, q2, idx_0 hx hl, inD]
        simpa using z
      cases q3 : decide (c ∈ LET.cps.toList) with
      | false =>
        rw [q3] at e1
        rw [b__law_is_name, ife_ret e1]
        show O.rt (.bl false) _ = O.rt (.bl (nmB x)) _
        unfold nmB
        simp only [hx, q3, Bool.false_and, Bool.and_false]
      | true =>
        rw [q3] at e1
        rw [b__law_is_name, ife_skip e1]
        have hsz2 : (c :: r).length ≤ sizeLine := by
          have : x.length = x.cps.toList.length := by simp [Str.length]
          rw [hx] at this
          rw [← this]; exact hsz
        have e2 : ev w none false (.lcp (.name 1) (.pln (.var 0)) (.cmp .NotIn (.var 1) (.str ("abcdefghijklmnopqrstuvwxyz0123456789" : PySem.Str))) (.var 1) [1]) (shareE [some (.str x), none]) =
            .ok (.lst true ((((c :: r).map fun c => D.str ⟨#[c]⟩).filter fun d => match d with
              | .str y => !hasSub y ALN
              | _ => false).map id)) :=
          ev_lcp_filter (v := .str x) (by simp [ev]) (by simp [itemsD, hx]) (by rw [List.length_map]; exact hsz2) (fun d hd => by
            obtain ⟨c', _, rfl⟩ := List.mem_map.mp hd
            simp [ev, wipeE, cmpD, inD]
            rfl) (fun d hd _ => by
            obtain ⟨c', _, rfl⟩ := List.mem_map.mp hd
            simp [ev, wipeE])
        have hg : ∀ d ∈ ((((c :: r).map fun c => D.str ⟨#[c]⟩).filter fun d => match d with
              | .str y => !hasSub y ALN
              | _ => false).map id), gd 1 d := fun d hd => by
          rw [List.map_id] at hd
          obtain ⟨c', hc', rfl⟩ := List.mem_map.mp (List.mem_filter.mp hd).1
          refine gd_str 1 ?_
          have hc2 : c' ∈ x.cps := by rw [← hx] at hc'; simpa using hc'
          have h3 := Array.all_eq_true'.mp (an ht).2 c' hc2
          show (decide (_ ≤ 1000) && Array.all #[c'] _) = true
          simp at h3 ⊢
          exact ⟨by simp [Str.length], h3⟩
        refine (ret_end (ev_cmp (op := .Eq) e2 ev_nil (eqD_nil (o := true) (o' := true) hg (by decide))) rfl).trans ?_
        have : (((((c :: r).map fun c => D.str ⟨#[c]⟩).filter fun d => match d with
              | .str y => !hasSub y ALN
              | _ => false).map id).isEmpty) = nmB x := by
          rw [List.map_id, isEmpty_filter, List.all_map]
          unfold nmB
          rw [decide_eq_true q, hx]
          simp only [q3, Bool.true_and]
          refine congrArg (fun f => List.all (c :: r) f) (funext fun c' => ?_)
          show (!!hasSub ⟨#[c']⟩ ALN) = _
          rw [Bool.not_not, hasSub_one]
        rw [this]
        rfl
    · have e1 : ev w none true (.or (.not (.isi (.var 0) [.str])) (.or (.not (.chn .LtE .LtE (.int 1) (.blt .len (.cons (.var 0) .nil)) (.int 12))) (.cmp .NotIn (.idx (.var 0) (.int 0)) (.str ("abcdefghijklmnopqrstuvwxyz" : PySem.Str))))) (shareE [some (.str x), none]) = .ok (.bl true) := by
        simp [ev, evL, notIns, notCls, isTy, bltD, lenD, hsz, cmpD]
        by_cases q1 : (1 : Int) ≤ x.length
        · by_cases q2 : (x.length : Int) ≤ 12
          · omega
          · simp [q1, q2]
        · simp [q1]
      rw [b__law_is_name, ife_ret e1]
      show O.rt (.bl false) _ = O.rt (.bl (nmB x)) _
      unfold nmB
      rw [decide_eq_false q] <;> rfl
  · have e1 : ev w none true (.or (.not (.isi (.var 0) [.str])) (.or (.not (.chn .LtE .LtE (.int 1) (.blt .len (.cons (.var 0) .nil)) (.int 12))) (.cmp .NotIn (.idx (.var 0) (.int 0)) (.str ("abcdefghijklmnopqrstuvwxyz" : PySem.Str))))) (shareE [some d, none]) = .ok (.bl true) := by
      cases d <;> first | exact absurd ⟨_, rfl⟩ hs | exact ff hn | simp [ev, notIns, notCls, isTy]
    rw [b__law_is_name, ife_ret e1]
    cases d <;> first | exact absurd ⟨_, rfl⟩ hs | rfl

/-! ### lists of names -/
theorem nmD_share (d : D) : nmD (share d) = nmD d := by cases d <;> rfl
theorem tx_share (d : D) : tx (share d) = tx d := by cases d <;> rfl
/-- what may be asked whether it is a list of places -/
def tl (d : D) : Prop := notIns d = true ∧ ∀ o ds, d = .lst o ds → ds.length ≤ 1000 ∧ ∀ x ∈ ds, tx x = true ∧ gd 3 x
theorem isl {d : D} : isTy d .list = true → notIns d = true → (∃ o ds, d = .lst o ds) ∨ ∃ ns, d = .scr ns := fun h _ => by
  cases d <;> first | exact .inl ⟨_, _, rfl⟩ | exact .inr ⟨_, rfl⟩ | cases h
def notScr : D → Bool
  | .scr _ => false
  | _ => true
def lstOf : D → Option (List D)
  | .lst _ ds => some ds
  | _ => none
def arn (d : D) : Bool := match d with
  | .lst _ ds => ds.all nmD
  | _ => false
theorem run_are_names (w : W) (d : D) (h : tl d) (hs : notScr d = true) (hf : ∀ x, tx x = true → w.fn 2 [x] = .ok (.bl (nmD x), .non)) : runFn w d_are_names [d] = .ok (.bl (arn d), .non) := by
  refine runFn_rt (ρ := [some d, none]) rfl ?_
  show exSs w none false b_are_names [some d, none] = _
  rw [b_are_names]
  refine ret_end ?_ rfl
  by_cases hl : ∃ o ds, d = .lst o ds
  · obtain ⟨o, ds, rfl⟩ := hl
    obtain ⟨h1, h2⟩ := h.2 o ds rfl
    have e2 : ev w none false (.lcp (.name 1) (.pln (.var 0)) (.bl true) (.call 2 (.cons (.var 1) .nil)) [1]) (shareE [some (.lst o ds), none]) = .ok (.lst true ((shareL ds).map fun d => .bl (nmD d))) :=
      ev_lcp_map (v := .lst false (shareL ds)) (by simp [ev]) (by simp [itemsD]) (by rw [shareL_len, sizeLine_eq]; omega) (fun x hx => by
        rw [shareL_eq] at hx
        obtain ⟨y, hy, rfl⟩ := (List.mem_map.mp hx)
        rw [ev_call1 (d := share y) (by simp [ev, wipeE]), share_share, hf (share y) (by rw [tx_share]; exact (h2 y hy).1)]
        rfl)
    have e3 : ev w none false (.blt .all (.cons (.lcp (.name 1) (.pln (.var 0)) (.bl true) (.call 2 (.cons (.var 1) .nil)) [1]) .nil)) (shareE [some (.lst o ds), none]) = .ok (.bl (ds.all nmD)) := by
      rw [ev_blt1 e2]
      have : ((shareL ds).map fun d => D.bl (nmD d)) = (ds.map nmD).map D.bl := by
        rw [shareL_eq, List.map_map, List.map_map]
        exact List.map_congr_left fun x _ => congrArg D.bl (nmD_share x)
      rw [this, blt_all, List.all_map]
      rfl
    show (boolsR (ev w none false (.isi (.var 0) [.list]) (shareE [some (.lst o ds), none]))).bind _ = _
    have e1 : ev w none false (.isi (.var 0) [.list]) (shareE [some (.lst o ds), none]) = .ok (.bl true) := by simp [ev, notIns, notCls, isTy]
    rw [e1]
    exact e3
  · have e1 : ev w none false (.isi (.var 0) [.list]) (shareE [some d, none]) = .ok (.bl false) := by
      cases d <;> first | exact absurd ⟨_, _, rfl⟩ hl | exact ff hs | exact ff h.1 | simp [ev, notIns, notCls, isTy]
    show (boolsR (ev w none false (.isi (.var 0) [.list]) (shareE [some d, none]))).bind _ = _
    rw [e1]
    cases d <;> first | exact absurd ⟨_, _, rfl⟩ hl | rfl
def ltD : D → D → Bool
  | .str x, .str y => ltS x y
  | _, _ => false
def ascD (ds : List D) : Bool := (List.zipWith ltD ds (ds.drop 1)).all id
theorem nm_str {d : D} (h : nmD d = true) : ∃ x, d = .str x := by
  cases d <;> first | exact ⟨_, rfl⟩ | cases h
theorem share_nm {ds : List D} (h : ds.all nmD = true) : shareL ds = ds := by
  rw [shareL_eq]
  refine (List.map_congr_left fun x hx => ?_).trans (List.map_id ds)
  obtain ⟨y, rfl⟩ := nm_str (List.all_eq_true.mp h x hx)
  rfl
theorem run_is_ascending (w : W) (o : Bool) (ds : List D) (h : ds.all nmD = true) (hl : ds.length ≤ 1000) : runFn w d_is_ascending [.lst o ds] = .ok (.bl (ascD ds), .non) := by
  refine runFn_rt (ρ := [some (.lst o ds), none, none]) rfl ?_
  show exSs w none false b_is_ascending [some (.lst o ds), none, none] = _
  rw [b_is_ascending]
  refine ret_end ?_ rfl
  have hsh := share_nm h
  have hd : (ds.drop 1).all nmD = true := List.all_eq_true.mpr fun x hx => List.all_eq_true.mp h x (List.mem_of_mem_drop hx)
  have hsh2 := share_nm hd
  have e2 : ev w none false (.lcp (.tup [1, 2]) (.zip (.var 0) (.slcL (.var 0) (.int 1))) (.bl true) (.cmp .Lt (.var 1) (.var 2)) [1, 2]) (shareE [some (.lst o ds), none, none]) =
      .ok (.lst true ((List.zipWith (fun d e => D.tup [d, e]) ds (ds.drop 1)).map fun d => match d with
        | .tup [x, y] => .bl (ltD x y)
        | _ => .non)) := by
    refine ev_lcp_tg (v := .lst true (List.zipWith (fun d e => D.tup [d, e]) ds (ds.drop 1))) ?_ ?_ ?_ fun d hdd => ?_
    · have hsh3 : shareL ds.tail = ds.tail := by rw [← List.drop_one]; exact hsh2
      simp [ev, argL, hsh, slcD, partD, cutL_tail, hsh3]
    · show R.ok (shareL (List.zipWith (fun d e => D.tup [d, e]) ds (ds.drop 1))) = _
      have := shareL_zip ds (ds.drop 1)
      rw [hsh, hsh2] at this
      rw [this]
    · rw [List.length_zipWith, sizeLine_eq]; omega
    · obtain ⟨i, hi⟩ := List.mem_iff_getElem?.mp hdd
      rw [List.getElem?_zipWith] at hi
      cases q1 : ds[i]? with
      | none => rw [q1] at hi; cases hi
      | some x => cases q2 : (ds.drop 1)[i]? with
        | none => rw [q1, q2] at hi; cases hi
        | some y =>
          rw [q1, q2] at hi
          cases hi
          obtain ⟨x', rfl⟩ := nm_str (List.all_eq_true.mp h x (List.mem_of_getElem? q1))
          obtain ⟨y', rfl⟩ := nm_str (List.all_eq_true.mp hd y (List.mem_of_getElem? q2))
          refine ⟨[some (.lst false (shareL ds)), some (.str x'), some (.str y')], by simp [setTg, setTs, wipeE], ?_⟩
          simp [ev, cmpD, ltD]
  rw [ev_blt1 e2]
  have : ((List.zipWith (fun d e => D.tup [d, e]) ds (ds.drop 1)).map fun d => match d with
        | .tup [x, y] => D.bl (ltD x y)
        | _ => .non) = (List.zipWith ltD ds (ds.drop 1)).map D.bl := by
    rw [List.map_zipWith, List.map_zipWith]
  rw [this, blt_all]
  rfl
/-- what a list of places is -/
def plB (d : D) : Bool := match d with
  | .lst _ ds => ds.all nmD && decide (1 ≤ ds.length ∧ ds.length ≤ 12) && ascD ds
  | _ => false
theorem chn_len {w : W} {m : Bool} {ρ : Env} {e g : Ex} {n : Nat} (he : ev w none false e ρ = .ok (.int n)) (hg : ev w none false g ρ = .ok (.int 12)) :
    ev w none m (.chn .LtE .LtE (.int 1) e g) ρ = .ok (.bl (decide (1 ≤ n ∧ n ≤ 12))) := by
  have e0 : ev w none m (.chn .LtE .LtE (.int 1) e g) ρ = (ev w none false (.int 1) ρ).bind fun x => (ev w none false e ρ).bind fun y => (cmpD .LtE x y).bind fun k => if k then (ev w none false g ρ).bind fun z => (cmpD .LtE y z).bind fun j => R.ok (D.bl j) else R.ok (D.bl false) := rfl
  rw [e0, he, hg]
  show (if decide ((1 : Int) ≤ n) = true then R.ok (D.bl (decide ((n : Int) ≤ 12))) else R.ok (D.bl false)) = _
  by_cases q1 : 1 ≤ n
  · rw [decide_eq_true (by omega : (1 : Int) ≤ n), if_pos rfl]
    by_cases q2 : n ≤ 12
    · rw [decide_eq_true (by omega : (n : Int) ≤ 12), decide_eq_true ⟨q1, q2⟩]
    · rw [decide_eq_false (by omega : ¬ (n : Int) ≤ 12), decide_eq_false fun z => q2 z.2]
  · rw [decide_eq_false (by omega : ¬ (1 : Int) ≤ n), if_neg Bool.false_ne_true, decide_eq_false fun z => q1 z.1]
theorem run_are_places (w : W) (d : D) (h : tl d) (hs : notScr d = true) (h4 : w.glo 4 = some (.int 12)) (hf : w.fn 3 [share d] = .ok (.bl (arn (share d)), .non))
    (hg : ∀ o ds, share d = .lst o ds → ds.all nmD = true → ds.length ≤ 1000 → w.fn 4 [.lst o ds] = .ok (.bl (ascD ds), .non)) : runFn w d_are_places [d] = .ok (.bl (plB d), .non) := by
  refine runFn_rt (ρ := [some d]) rfl ?_
  show exSs w none false b_are_places [some d] = _
  have ec : ev w none false (.call 3 (.cons (.var 0) .nil)) (shareE [some d]) = .ok (.bl (arn d)) := by
    rw [ev_call1 (d := share d) (by simp [ev]), share_share, hf]
    show R.ok (D.bl (arn (share d))) = _
    cases d with
    | lst o ds =>
      show R.ok (D.bl ((shareL ds).all nmD)) = R.ok (D.bl (ds.all nmD))
      rw [shareL_eq, List.all_map]
      exact congrArg (fun z => R.ok (D.bl z)) (congrArg (fun f => ds.all f) (funext fun x => nmD_share x))
    | _ => rfl
  have et : ev w none true (.not (.call 3 (.cons (.var 0) .nil))) (shareE [some d]) = .ok (.bl (!arn d)) := by
    show (boolsR (ev w none true (.call 3 (.cons (.var 0) .nil)) (shareE [some d]))).bind (fun b => R.ok (D.bl !b)) = _
    have : ev w none true (.call 3 (.cons (.var 0) .nil)) (shareE [some d]) = (ev w none false (.call 3 (.cons (.var 0) .nil)) (shareE [some d])).bind fun d => (truD d).bind fun k => R.ok (D.bl k) := rfl
    rw [this, ec]
    rfl
  rw [b_are_places]
  cases ha : arn d with
  | false =>
    rw [ha] at et
    have e1 : ev w none true (.or (.not (.call 3 (.cons (.var 0) .nil))) (.not (.chn .LtE .LtE (.int 1) (.blt .len (.cons (.var 0) .nil)) (.glo 4)))) (shareE [some d]) = .ok (.bl true) := by
      show (boolsR (ev w none true (.not (.call 3 (.cons (.var 0) .nil))) (shareE [some d]))).bind _ = _
      rw [et]
      rfl
    rw [ife_ret e1]
    cases d with
    | lst o ds =>
      show _ = O.rt (D.bl (ds.all nmD && _ && _)) _
      rw [show ds.all nmD = false from ha] <;> rfl
    | _ => rfl
  | true =>
    rw [ha] at et
    have hl : ∃ o ds, d = .lst o ds := by
      cases d <;> first | exact ⟨_, _, rfl⟩ | cases ha
    obtain ⟨o, ds, rfl⟩ := hl
    have ha : ds.all nmD = true := ha
    have hsz := (h.2 o ds rfl).1
    have e1 : ev w none true (.or (.not (.call 3 (.cons (.var 0) .nil))) (.not (.chn .LtE .LtE (.int 1) (.blt .len (.cons (.var 0) .nil)) (.glo 4)))) (shareE [some (.lst o ds)]) = .ok (.bl (!decide (1 ≤ ds.length ∧ ds.length ≤ 12))) := by
      show (boolsR (ev w none true (.not (.call 3 (.cons (.var 0) .nil))) (shareE [some (.lst o ds)]))).bind _ = _
      rw [et]
      show (boolsR (ev w none true (.chn .LtE .LtE (.int 1) (.blt .len (.cons (.var 0) .nil)) (.glo 4)) (shareE [some (.lst o ds)]))).bind (fun b => R.ok (D.bl !b)) = _
      rw [chn_len (n := ds.length) (by simp [ev, evL, bltD, lenD]) (by simp [ev, h4])]
      rfl
    by_cases q : 1 ≤ ds.length ∧ ds.length ≤ 12
    · rw [decide_eq_true q] at e1
      rw [ife_skip e1]
      refine ret_end ?_ rfl
      have hsh := share_nm ha
      rw [ev_call1 (d := .lst false (shareL ds)) (by simp [ev]), share_lst, shareL_shareL, hsh, hg false ds (by rw [share_lst, hsh]) ha hsz]
      show R.ok (D.bl (ascD ds)) = R.ok (D.bl (ds.all nmD && _ && _))
      rw [ha, decide_eq_true q] <;> rfl
    · rw [decide_eq_false q] at e1
      rw [ife_ret e1]
      show _ = O.rt (D.bl (ds.all nmD && _ && _)) _
      rw [ha, decide_eq_false q] <;> rfl

/-! ### lists of names, by the law -/
theorem mem_rng {lo hi : Int} {d : D} (h : d ∈ rngI lo hi) : ∃ k : Nat, d = .int (lo + k) ∧ lo + k < hi := by
  unfold rngI at h
  obtain ⟨k, hk, rfl⟩ := List.mem_map.mp h
  have := List.mem_range.mp hk
  exact ⟨k, rfl, by omega⟩
theorem asc_iff (ds : List D) : ascD ds = true ↔ ∀ i x y, ds[i]? = some x → ds[i + 1]? = some y → ltD x y = true := by
  unfold ascD
  rw [List.all_eq_true]
  constructor
  · intro h i x y hx hy
    refine h (ltD x y) (List.mem_iff_getElem?.mpr ⟨i, ?_⟩)
    rw [List.getElem?_zipWith, hx, List.getElem?_drop]
    rw [show 1 + i = i + 1 by omega, hy]
  · intro h b hb
    obtain ⟨i, hi⟩ := List.mem_iff_getElem?.mp hb
    rw [List.getElem?_zipWith, List.getElem?_drop, show 1 + i = i + 1 by omega] at hi
    cases q1 : ds[i]? with
    | none => rw [q1] at hi; cases hi
    | some x => cases q2 : ds[i + 1]? with
      | none => rw [q1, q2] at hi; cases hi
      | some y =>
        rw [q1, q2] at hi
        cases hi
        exact h i x y q1 q2
theorem eqv_none {c : Nat} : (1 : Nat) ≤ c → True := fun _ => trivial
def stepB (ds : List D) : D → Bool
  | .int k => !(ltD (ds.getD (k - 1).toNat .non) (ds.getD k.toNat .non))
  | _ => false
theorem run_law_are_places (w : W) (d : D) (h : tl d) (hs : notScr d = true) (hf : ∀ x, tx x = true → w.fn 5 [x] = .ok (.bl (nmD x), .non)) : runFn w d__law_are_places [d] = .ok (.bl (plB d), .non) := by
  refine runFn_rt (ρ := [some d, none, none]) rfl ?_
  show exSs w none false b__law_are_places [some d, none, none] = _
  rw [b__law_are_places]
  by_cases hl : ∃ o ds, d = .lst o ds
  · obtain ⟨o, ds, rfl⟩ := hl
    obtain ⟨hz, ht⟩ := h.2 o ds rfl
    have hsz : ds.length ≤ sizeLine := by rw [sizeLine_eq]; omega
    have i1 : ev w none true (.not (.isi (.var 0) [.list])) (shareE [some (.lst o ds), none, none]) = .ok (.bl false) := by simp [ev, notIns, notCls, isTy]
    have i2 : ev w none true (.not (.chn .LtE .LtE (.int 1) (.blt .len (.cons (.var 0) .nil)) (.int 12))) (shareE [some (.lst o ds), none, none]) = .ok (.bl (!decide (1 ≤ ds.length ∧ ds.length ≤ 12))) := by
      show (boolsR (ev w none true (.chn .LtE .LtE (.int 1) (.blt .len (.cons (.var 0) .nil)) (.int 12)) (shareE [some (.lst o ds), none, none]))).bind (fun b => R.ok (D.bl !b)) = _
      rw [chn_len (n := ds.length) (by simp [ev, evL, bltD, lenD]) (by simp [ev])]
      rfl
    have f2 : ev w none false (.lcp (.name 1) (.pln (.var 0)) (.not (.call 5 (.cons (.var 1) .nil))) (.var 1) [1]) (shareE [some (.lst o ds), none, none]) = .ok (.lst true (((shareL ds).filter fun d => !nmD d).map id)) := by
      refine ev_lcp_filter (v := .lst false (shareL ds)) (by simp [ev]) (by simp [itemsD]) (by rw [shareL_len]; exact hsz) (fun x hx => ?_) (fun x hx _ => ?_)
      · rw [shareL_eq] at hx
        obtain ⟨y, hy, rfl⟩ := (List.mem_map.mp hx)
        have e0 : ∀ ρ1 : Env, ev w none true (.not (.call 5 (.cons (.var 1) .nil))) ρ1 = (boolsR ((ev w none false (.call 5 (.cons (.var 1) .nil)) ρ1).bind fun d => (truD d).bind fun k => R.ok (D.bl k))).bind fun b => R.ok (D.bl !b) := fun _ => rfl
        rw [e0, ev_call1 (d := share y) (by simp [ev, wipeE]), share_share, hf (share y) (by rw [tx_share]; exact (ht y hy).1)]
        rfl
      · simp [ev, wipeE]
    have g2 : ∀ x ∈ (((shareL ds).filter fun d => !nmD d).map id), gd 3 x := fun x hx => by
      rw [List.map_id] at hx
      have := (List.mem_filter.mp hx).1
      rw [shareL_eq] at this
      obtain ⟨y, hy, rfl⟩ := List.mem_map.mp this
      exact gd_share.mpr (ht y hy).2
    have f3 : ev w none true (.cmp .NotEq (.lcp (.name 1) (.pln (.var 0)) (.not (.call 5 (.cons (.var 1) .nil))) (.var 1) [1]) (.lst .nil)) (shareE [some (.lst o ds), none, none]) = .ok (.bl (!ds.all nmD)) := by
      refine (ev_cmp (op := .NotEq) (c := !(((shareL ds).filter fun d => !nmD d).map id).isEmpty) f2 ev_nil ?_).trans ?_
      · show (eqD _ _).bind _ = _
        rw [eqD_nil (o := true) (o' := true) g2 (by decide)] <;> rfl
      · rw [List.map_id, isEmpty_filter, shareL_eq, List.all_map]
        refine congrArg (fun z => R.ok (D.bl !z)) (congrArg (fun f => ds.all f) (funext fun x => ?_))
        show (!!nmD (share x)) = _
        rw [Bool.not_not, nmD_share]
    have e1 : ev w none true (.or (.not (.isi (.var 0) [.list])) (.or (.not (.chn .LtE .LtE (.int 1) (.blt .len (.cons (.var 0) .nil)) (.int 12))) (.cmp .NotEq (.lcp (.name 1) (.pln (.var 0)) (.not (.call 5 (.cons (.var 1) .nil))) (.var 1) [1]) (.lst .nil)))) (shareE [some (.lst o ds), none, none]) =
        .ok (.bl (!(ds.all nmD && decide (1 ≤ ds.length ∧ ds.length ≤ 12)))) := by
      show (boolsR (ev w none true (.not (.isi (.var 0) [.list])) (shareE [some (.lst o ds), none, none]))).bind _ = _
      rw [i1]
      show (boolsR (ev w none true (.not (.chn .LtE .LtE (.int 1) (.blt .len (.cons (.var 0) .nil)) (.int 12))) (shareE [some (.lst o ds), none, none]))).bind _ = _
      rw [i2]
      cases q : decide (1 ≤ ds.length ∧ ds.length ≤ 12) with
      | false => rw [Bool.and_false] <;> rfl
      | true =>
        rw [Bool.and_true]
        exact f3
    cases q : (ds.all nmD && decide (1 ≤ ds.length ∧ ds.length ≤ 12)) with
    | false =>
      rw [q] at e1
      rw [ife_ret e1]
      show _ = O.rt (D.bl (ds.all nmD && _ && _)) _
      rw [q] <;> rfl
    | true =>
      rw [q] at e1
      rw [ife_skip e1]
      obtain ⟨ha, hlen⟩ := an q
      have hlen := of_decide_eq_true hlen
      have hsh := share_nm ha
      have r1 : ev w none false (.rng2 (.int 1) (.blt .len (.cons (.var 0) .nil))) (shareE [some (.lst o ds), none, none]) = .ok (.lst true (rngI 1 ds.length)) := by
        have o1 : okI 1 = true := by decide
        have o2 : okI ds.length = true := decide_eq_true (by omega)
        simp [ev, evL, bltD, lenD, argI, o1, o2]
      have at_ : ∀ i : Nat, i < ds.length → idxD (.lst false ds) (.int i) = .ok (ds.getD i .non) := fun i hi => by
        have e : (ds[i]?) = some ds[i] := List.getElem?_eq_getElem hi
        show (match (ixN ds.length i).bind fun j => ds[j]? with
          | some d => R.ok (share d)
          | none => .bad) = _
        have e2 : ixN ds.length (i : Int) = some i := by
          unfold ixN
          rw [if_pos (by omega), if_pos (by omega), Int.toNat_natCast]
        rw [e2]
        show (match ds[i]? with
          | some d => R.ok (share d)
          | none => .bad) = _
        obtain ⟨y, hy⟩ := nm_str (List.all_eq_true.mp ha ds[i] (List.getElem_mem hi))
        rw [e]
        show R.ok (share ds[i]) = _
        rw [hy, List.getD_eq_getElem?_getD, e, hy] <;> rfl
      have f5 : ev w none false (.lcp (.name 2) (.rng2 (.int 1) (.blt .len (.cons (.var 0) .nil))) (.cmp .LtE (.idx (.var 0) (.var 2)) (.idx (.var 0) (.bin .Sub (.var 2) (.int 1)))) (.var 2) [2]) (shareE [some (.lst o ds), none, none]) =
          .ok (.lst true (((rngI 1 ds.length).filter (stepB ds)).map id)) := by
        refine ev_lcp_filter r1 (show R.ok (shareL (rngI 1 ds.length)) = _ by rw [shareL_rng]) (by unfold rngI; rw [List.length_map, List.length_range]; omega) (fun x hx => ?_) (fun x hx _ => ?_)
        · obtain ⟨kk, rfl, hk⟩ := mem_rng hx
          have a1 := at_ (kk + 1) (by omega)
          have a2 := at_ kk (by omega)
          obtain ⟨y1, hy1⟩ : ∃ y, ds.getD (kk + 1) .non = .str y := nm_str (List.all_eq_true.mp ha _ (by
            rw [List.getD_eq_getElem?_getD, List.getElem?_eq_getElem (by omega : kk + 1 < ds.length)]
            exact List.getElem_mem _))
          obtain ⟨y2, hy2⟩ : ∃ y, ds.getD kk .non = .str y := nm_str (List.all_eq_true.mp ha _ (by
            rw [List.getD_eq_getElem?_getD, List.getElem?_eq_getElem (by omega : kk < ds.length)]
            exact List.getElem_mem _))
          have c1 : ((kk + 1 : Nat) : Int) = 1 + kk := by omega
          rw [c1, hy1] at a1
          rw [hy2] at a2
          have a3 : idxD (.lst false ds) (.int (1 + kk - 1)) = .ok (.str y2) := by rw [show (1 + (kk : Int) - 1) = kk by omega]; exact a2
          refine (ev_cmp (op := .LtE) (x := .str y1) (y := .str y2) (c := !ltS y2 y1) ?_ ?_ rfl).trans ?_
          · simp [ev, wipeE, hsh, a1]
          · simp [ev, wipeE, hsh, binD, subD, a3]
          · show _ = R.ok (D.bl (!(ltD (ds.getD (1 + (kk : Int) - 1).toNat .non) (ds.getD (1 + (kk : Int)).toNat .non))))
            rw [show (1 + (kk : Int) - 1).toNat = kk by omega, show (1 + (kk : Int)).toNat = kk + 1 by omega, hy1, hy2] <;> rfl
        · simp [ev, wipeE]
      have g5 : ∀ x ∈ (((rngI 1 ds.length).filter (stepB ds)).map id), gd 3 x := fun x hx => by
        rw [List.map_id] at hx
        obtain ⟨kk, rfl, _⟩ := mem_rng (List.mem_filter.mp hx).1
        exact gd_int 3 _
      refine (ret_end (ev_cmp (op := .Eq) f5 ev_nil (eqD_nil (o := true) (o' := true) g5 (by decide))) rfl).trans ?_
      show _ = O.rt (D.bl (ds.all nmD && _ && _)) _
      rw [q, Bool.true_and]
      refine congrArg (fun z => O.rt (D.bl z) _) ?_
      rw [List.map_id, isEmpty_filter, Bool.eq_iff_iff, asc_iff, List.all_eq_true]
      constructor
      · intro hh i x y hx hy
        have hi : i + 1 < ds.length := by
          rcases Nat.lt_or_ge (i + 1) ds.length with z | z
          · exact z
          · rw [List.getElem?_eq_none z] at hy; cases hy
        have := hh (.int (1 + i)) (by
          unfold rngI
          exact List.mem_map.mpr ⟨i, List.mem_range.mpr (by omega), rfl⟩)
        have this : (!(!(ltD (ds.getD (1 + (i : Int) - 1).toNat .non) (ds.getD (1 + (i : Int)).toNat .non)))) = true := this
        rw [Bool.not_not, show (1 + (i : Int) - 1).toNat = i by omega, show (1 + (i : Int)).toNat = i + 1 by omega, List.getD_eq_getElem?_getD, List.getD_eq_getElem?_getD, hx, hy] at this
        exact this
      · intro hh x hx
        obtain ⟨kk, rfl, hk⟩ := mem_rng hx
        show (!(!(ltD (ds.getD (1 + (kk : Int) - 1).toNat .non) (ds.getD (1 + (kk : Int)).toNat .non)))) = true
        rw [Bool.not_not, show (1 + (kk : Int) - 1).toNat = kk by omega, show (1 + (kk : Int)).toNat = kk + 1 by omega, List.getD_eq_getElem?_getD, List.getD_eq_getElem?_getD,
          List.getElem?_eq_getElem (by omega : kk < ds.length), List.getElem?_eq_getElem (by omega : kk + 1 < ds.length)]
        exact hh kk _ _ (List.getElem?_eq_getElem (by omega)) (List.getElem?_eq_getElem (by omega))
  · have e1 : ev w none true (.or (.not (.isi (.var 0) [.list])) (.or (.not (.chn .LtE .LtE (.int 1) (.blt .len (.cons (.var 0) .nil)) (.int 12))) (.cmp .NotEq (.lcp (.name 1) (.pln (.var 0)) (.not (.call 5 (.cons (.var 1) .nil))) (.var 1) [1]) (.lst .nil)))) (shareE [some d, none, none]) = .ok (.bl true) := by
      show (boolsR (ev w none true (.not (.isi (.var 0) [.list])) (shareE [some d, none, none]))).bind _ = _
      have : ev w none true (.not (.isi (.var 0) [.list])) (shareE [some d, none, none]) = .ok (.bl true) := by
        cases d <;> first | exact absurd ⟨_, _, rfl⟩ hl | exact ff hs | exact ff h.1 | simp [ev, notIns, notCls, isTy]
      rw [this] <;> rfl
    rw [ife_ret e1]
    cases d <;> first | exact absurd ⟨_, _, rfl⟩ hl | rfl

/-! ### the law's own -/
theorem run_law_says (w : W) (b : Bool) : runFn w d__law_says [.bl b, .bl b] = .ok (.bl true, .non) := by
  refine runFn_rt (ρ := [some (.bl b), some (.bl b)]) rfl ?_
  show exSs w none false b__law_says [some (.bl b), some (.bl b)] = _
  rw [b__law_says]
  refine ret_end ?_ rfl
  cases b <;> rfl
def num (x : Int) : Prop := 0 ≤ x ∧ x < 1009
abbrev bodyN : Sxs := (.cons (.ife (.cmp .GtE (.var 3) (.bin .Pow (.int 10) (.int 18)))
    (.cons (.chg 4 .here .append [(.ex (.bin .Mod (.var 3) (.int 1009)))])
    (.cons (.asg 3 (.ex (.bin .FloorDiv (.var 3) (.int 1009))))
    .nil))
    (.cons (.asg 6 (.ex (.bin .Mod (.bin .Add (.bin .Add (.bin .Mult (.var 3) (.int 48271)) (.bin .Mult (.bin .Add (.var 5) (.int 1)) (.int 69621))) (.bin .Mult (.var 1) (.int 4001))) (.int 2147483647))))
    (.cons (.asg 6 (.ex (.bin .Mod (.bin .Add (.bin .Mult (.var 6) (.var 6)) (.bin .Mult (.int 16807) (.bin .Add (.var 5) (.int 3)))) (.int 2147483629))))
    (.cons (.chg 4 .here .append [(.ex (.bin .Mod (.bin .FloorDiv (.var 6) (.int 7)) (.int 1009)))])
    .nil))))
    .nil)
theorem mul_ok {i j : Int} (h : -(2 ^ 64) < j ∧ j < 2 ^ 64) : mulD (.int i) (.int j) = .ok (.int (i * j)) := if_pos (decide_eq_true (.inr h))
theorem mul_ok' {i j : Int} (h : -(2 ^ 64) < i ∧ i < 2 ^ 64) : mulD (.int i) (.int j) = .ok (.int (i * j)) := if_pos (decide_eq_true (.inl h))
theorem mod_ok {i j : Int} (h : 0 < j) : modD (.int i) (.int j) = .ok (.int (i % j)) := if_pos (decide_eq_true h)
theorem fdiv_ok {i j : Int} (h : 0 < j ∧ j < 1073741824) : fdivD (.int i) (.int j) = .ok (.int (i / j)) := if_pos (decide_eq_true h)
theorem pow_ok {i j : Int} (h : 0 ≤ j ∧ j ≤ 1000000 ∧ i.natAbs < 2 ^ 64) : powD (.int i) (.int j) = .ok (.int (i ^ j.toNat)) := if_pos (decide_eq_true h)
theorem turnN (w : W) (s : D) (at_ cnt cell k : Int) (L : List Int) (hL : L.length < 1000) : ∃ cell' x m, num x ∧ exSs w none false bodyN [some s, some (.int at_), some (.int cnt), some (.int cell), some (.lst true (L.map D.int)), some (.int k), none] =
    .nx [some s, some (.int at_), some (.int cnt), some (.int cell'), some (.lst true ((L ++ [x]).map D.int)), some (.int k), m] := by
  have hz : (L.map D.int).length < sizeLine := by rw [List.length_map, sizeLine_eq]; omega
  have e1 : ev w none true (.cmp .GtE (.var 3) (.bin .Pow (.int 10) (.int 18))) (shareE [some s, some (.int at_), some (.int cnt), some (.int cell), some (.lst true (L.map D.int)), some (.int k), none]) = .ok (.bl (decide ((10 : Int) ^ 18 ≤ cell))) := by
    have p := pow_ok (i := 10) (j := 18) (by decide)
    simp [ev, binD, p, cmpD]
  cases q : decide ((10 : Int) ^ 18 ≤ cell) with
  | true =>
    rw [q] at e1
    refine ⟨cell / 1009, cell % 1009, none, ⟨Int.emod_nonneg _ (by decide), Int.emod_lt_of_pos _ (by decide)⟩, ?_⟩
    refine exSs_nx ?_ |>.trans rfl
    rw [exS_ife e1, if_pos rfl]
    rw [exSs_nx (chg_append (x := .int (cell % 1009)) (xs := L.map D.int) (by simp [ev, binD, mod_ok]) (esc_sc rfl) (by simp) hz)]
    rw [exSs_asg (d := .int (cell / 1009)) (by simp [ev, binD, fdiv_ok]) (esc_sc rfl)]
    simp [exSs]
  | false =>
    rw [q] at e1
    let m1 : Int := (cell * 48271 + (k + 1) * 69621 + at_ * 4001) % 2147483647
    let m2 : Int := (m1 * m1 + 16807 * (k + 3)) % 2147483629
    have hm1 : 0 ≤ m1 ∧ m1 < 2147483647 := ⟨Int.emod_nonneg _ (by decide), Int.emod_lt_of_pos _ (by decide)⟩
    refine ⟨cell, m2 / 7 % 1009, some (.int m2), ⟨Int.emod_nonneg _ (by decide), Int.emod_lt_of_pos _ (by decide)⟩, ?_⟩
    refine exSs_nx ?_ |>.trans rfl
    rw [exS_ife e1, if_neg Bool.false_ne_true]
    have x1 := mul_ok (i := cell) (j := 48271) (by decide)
    have x2 := mul_ok (i := k + 1) (j := 69621) (by decide)
    have x3 := mul_ok (i := at_) (j := 4001) (by decide)
    have x4 := mul_ok (i := m1) (j := m1) (by omega)
    have x5 := mul_ok' (i := 16807) (j := k + 3) (by decide)
    rw [exSs_asg (d := .int m1) (by simp [ev, binD, x1, x2, x3, addD, mod_ok]; rfl) (esc_sc rfl)]
    rw [exSs_asg (d := .int m2) (by simp [ev, binD, x4, x5, addD, mod_ok]; rfl) (esc_sc rfl)]
    rw [exSs_nx (chg_append (x := .int (m2 / 7 % 1009)) (xs := L.map D.int) (by simp [ev, binD, mod_ok, fdiv_ok]) (esc_sc rfl) (by simp) hz)]
    simp [exSs]
theorem preN (w : W) (ns : List Int) (at_ cnt : Nat) : ∃ cell : Int, exSs w none false b__law_numbers [some (.scr ns), some (.int at_), some (.int cnt), none, none, none, none] =
      exSs w none false (.cons (.loop (.name 5) (.rng1 (.var 2)) bodyN [5, 6]) (.cons (.ret (.mov 4)) .nil)) [some (.scr ns), some (.int at_), some (.int cnt), some (.int cell), some (.lst true []), none, none] := by
  rw [b__law_numbers]
  have x0 := mul_ok' (i := 1000003) (j := (at_ : Int) + 1) (by decide)
  rw [exSs_asg (d := .int (1000003 * ((at_ : Int) + 1))) (by simp [ev, binD, addD, x0]) (esc_sc rfl)]
  have s1 : ∃ c1 : Int, exS w none false (.ife (.cmp .Lt (.var 1) (.blt .len (.cons (.var 0) .nil))) (.cons (.asg 3 (.ex (.blt .int (.cons (.idx (.var 0) (.var 1)) .nil)))) .nil) .nil)
      [some (.scr ns), some (.int at_), some (.int cnt), some (.int (1000003 * ((at_ : Int) + 1))), none, none, none] = .nx [some (.scr ns), some (.int at_), some (.int cnt), some (.int c1), none, none, none] := by
    have e : ev w none true (.cmp .Lt (.var 1) (.blt .len (.cons (.var 0) .nil))) (shareE [some (.scr ns), some (.int at_), some (.int cnt), some (.int (1000003 * ((at_ : Int) + 1))), none, none, none]) = .ok (.bl (decide ((at_ : Int) < ns.length))) := by
      simp [ev, evL, bltD, lenD, cmpD]
    rw [exS_ife e]
    by_cases q : (at_ : Int) < ns.length
    · have hi : at_ < ns.length := by omega
      rw [decide_eq_true q, if_pos rfl]
      have i1 : idxD (.scr ns) (.int at_) = .ok (.int ns[at_]) := by
        show (match (ixN ns.length at_).bind fun j => ns[j]? with
          | some n => R.ok (D.int n)
          | none => .bad) = _
        have e2 : ixN ns.length (at_ : Int) = some at_ := by
          unfold ixN
          rw [if_pos (by omega), if_pos q, Int.toNat_natCast]
        rw [e2]
        show (match ns[at_]? with
          | some n => R.ok (D.int n)
          | none => .bad) = _
        rw [List.getElem?_eq_getElem hi]
      exact ⟨ns[at_], by rw [exSs_asg (d := .int ns[at_]) (by simp [ev, evL, i1, bltD]) (esc_sc rfl)]; simp [exSs]⟩
    · rw [decide_eq_false q, if_neg Bool.false_ne_true]
      exact ⟨_, rfl⟩
  obtain ⟨c1, s1⟩ := s1
  have s2 : ∃ c2 : Int, exS w none false (.ife (.cmp .Lt (.var 3) (.int 0)) (.cons (.asg 3 (.ex (.bin .Sub (.int 1) (.bin .Mult (.int 2) (.var 3))))) .nil) .nil)
      [some (.scr ns), some (.int at_), some (.int cnt), some (.int c1), none, none, none] = .nx [some (.scr ns), some (.int at_), some (.int cnt), some (.int c2), none, none, none] := by
    have e : ev w none true (.cmp .Lt (.var 3) (.int 0)) (shareE [some (.scr ns), some (.int at_), some (.int cnt), some (.int c1), none, none, none]) = .ok (.bl (decide (c1 < 0))) := by
      simp [ev, cmpD]
    rw [exS_ife e]
    cases decide (c1 < 0) with
    | true =>
      have x1 := mul_ok' (i := 2) (j := c1) (by decide)
      exact ⟨1 - 2 * c1, by rw [if_pos rfl, exSs_asg (d := .int (1 - 2 * c1)) (by simp [ev, binD, subD, x1]) (esc_sc rfl)]; simp [exSs]⟩
    | false => exact ⟨c1, rfl⟩
  obtain ⟨c2, s2⟩ := s2
  refine ⟨c2, ?_⟩
  show exSs w none false (.cons (.ife (.cmp .Lt (.var 1) (.blt .len (.cons (.var 0) .nil))) (.cons (.asg 3 (.ex (.blt .int (.cons (.idx (.var 0) (.var 1)) .nil)))) .nil) .nil) _) [some (.scr ns), some (.int at_), some (.int cnt), some (.int (1000003 * ((at_ : Int) + 1))), none, none, none] = _
  rw [exSs_nx s1, exSs_nx s2, exSs_asg ev_nil (esc_shr rfl)]
  rfl
end MI.K01

set_option Elab.async false
set_option linter.all false
set_option maxRecDepth 99000
set_option maxHeartbeats 999000
/-! MaK01b: further. -/
namespace MI.K01
open PySem L2
theorem run_law_numbers (w : W) (ns : List Int) (at_ cnt : Nat) (hc : cnt ≤ 500) : ∃ L : List Int, L.length = cnt ∧ (∀ x ∈ L, num x) ∧ runFn w d__law_numbers [.scr ns, .int at_, .int cnt] = .ok (.lst true (L.map D.int), .non) := by
  have pre := preN w ns at_ cnt
  obtain ⟨cell, pre⟩ := pre
  have it : ev w none false (.rng1 (.var 2)) (shareE [some (.scr ns), some (.int at_), some (.int cnt), some (.int cell), some (.lst true []), none, none]) = .ok (.lst true (rngI 0 cnt)) := by
    exact ev_rng1 (ev_var rfl) (okI_nat (by omega))
  have lp : exS w none false (.loop (.name 5) (.rng1 (.var 2)) bodyN [5, 6]) [some (.scr ns), some (.int at_), some (.int cnt), some (.int cell), some (.lst true []), none, none] = loopL (fun d ρ => (setTg (.name 5) d ρ).o ρ fun ρ1 => exSs w none false bodyN ρ1) [5, 6] (shareL (rngI 0 cnt)) [some (.scr ns), some (.int at_), some (.int cnt), some (.int cell), some (.lst true []), none, none] := exS_loop (w := w) (xc := none) (tg := .name 5) (it := .rng1 (.var 2)) (b := bodyN) (kl := [5, 6]) it (show R.ok (shareL (rngI 0 cnt)) = _ from rfl) rfl
  rw [shareL_rng] at lp
  have hlen : (rngI 0 (cnt : Int)).length = cnt := by unfold rngI; rw [List.length_map, List.length_range]; omega
  obtain ⟨ρ', l1, cell', L, rfl, hL, hn⟩ := loopL_inv (step := fun d ρ => (setTg (.name 5) d ρ).o ρ fun ρ1 => exSs w none false bodyN ρ1) (kl := [5, 6])
    (fun i ρ => ∃ (cell : Int) (L : List Int), ρ = [some (.scr ns), some (.int at_), some (.int cnt), some (.int cell), some (.lst true (L.map D.int)), none, none] ∧ L.length = i ∧ ∀ x ∈ L, num x) (ds := rngI 0 cnt) 0 (rngI 0 cnt) _
    (fun i d ρ hd => by
      rintro ⟨cell, L, rfl, hL, hn⟩
      have hi : i < cnt := by
        have : i < (rngI 0 (cnt : Int)).length := by
          rcases Nat.lt_or_ge i (rngI 0 (cnt : Int)).length with z | z
          · exact z
          · rw [List.getElem?_eq_none z] at hd; cases hd
        rwa [hlen] at this
      obtain ⟨kk, rfl, _⟩ := mem_rng (List.mem_of_getElem? hd)
      obtain ⟨c', x, m, hx, hs⟩ := turnN w (.scr ns) at_ cnt cell (0 + kk) L (by omega)
      refine ⟨_, hs, c', L ++ [x], rfl, by simp [hL], fun y hy => ?_⟩
      rcases (List.mem_append.mp hy) with z | z
      · exact hn y z
      · rw [List.mem_singleton.mp z]; exact hx) rfl ⟨cell, [], rfl, rfl, fun _ h => nomatch h⟩
  refine ⟨L, by rw [hL, hlen]; omega, hn, ?_⟩
  refine runFn_rt (ρ := ([some (.scr ns), some (.int at_), some (.int cnt), some (.int cell'), none, none, none] : Env)) rfl ?_
  show exSs w none false b__law_numbers [some (.scr ns), some (.int at_), some (.int cnt), none, none, none, none] = _
  rw [pre, exSs_nx (lp.trans l1)]
  rfl

/-- a drawn name -/
def gs (x : Str) : Prop := va x ∧ 1 ≤ x.length ∧ x.length ≤ 12
def SGN : Str := "0123456789abcdefghijklmnopqrstuvwxyz"
theorem va_let : va LET := (okS_iff.mp (by decide +kernel)).2
theorem va_sgn : va SGN := (okS_iff.mp (by decide +kernel)).2
theorem idx_num {L : List Int} (hn : ∀ x ∈ L, num x) {i : Int} (h0 : 0 ≤ i) (h1 : i < L.length) : ∃ x, num x ∧ idxD (.lst false (L.map D.int)) (.int i) = .ok (.int x) := by
  obtain ⟨d, h2, h3⟩ := idx_lst (o := false) (ds := L.map D.int) h0 (by rw [List.length_map]; exact h1)
  rw [List.getElem?_map] at h2
  cases q : L[i.toNat]? with
  | none => rw [q] at h2; cases h2
  | some x =>
    rw [q] at h2
    cases h2
    exact ⟨x, hn x (List.mem_of_getElem? q), h3⟩
abbrev nameE : Ex := .bin .Add (.idx (.var 2) (.bin .Mod (.bin .Add (.idx (.var 0) (.int 0)) (.bin .Mult (.int 3) (.var 4))) (.int 26))) (.bin .Mult (.idx (.str ("0123456789abcdefghijklmnopqrstuvwxyz" : PySem.Str)) (.bin .Mod (.idx (.var 0) (.bin .Add (.int 1) (.bin .Mod (.var 4) (.int 6)))) (.int 36))) (.bin .Mod (.idx (.var 0) (.bin .Add (.int 2) (.bin .Mod (.var 4) (.int 5)))) (.int 12)))
theorem name_run (w : W) (L : List Int) (hL : 7 ≤ L.length) (hn : ∀ x ∈ L, num x) (m f : Option D) (k : Nat) : ∃ x, gs x ∧ ev w none false nameE [some (.lst false (L.map D.int)), m, some (.str LET), f, some (.int k), none] = .ok (.str x) := by
  have b6 : (0 : Int) ≤ (k : Int) % 6 ∧ (k : Int) % 6 < 6 := ⟨Int.emod_nonneg _ (by decide), Int.emod_lt_of_pos _ (by decide)⟩
  have b5 : (0 : Int) ≤ (k : Int) % 5 ∧ (k : Int) % 5 < 5 := ⟨Int.emod_nonneg _ (by decide), Int.emod_lt_of_pos _ (by decide)⟩
  obtain ⟨a0, _, h0⟩ := idx_num hn (i := 0) (by decide) (by omega)
  obtain ⟨a1, _, h1⟩ := idx_num hn (i := 1 + (k : Int) % 6) (by omega) (by omega)
  obtain ⟨a2, _, h2⟩ := idx_num hn (i := 2 + (k : Int) % 5) (by omega) (by omega)
  have l26 : LET.length = 26 := by decide +kernel
  have l36 : SGN.length = 36 := by decide +kernel
  obtain ⟨c, hc, vc⟩ := idx_str va_let (by rw [l26]; decide) (i := (a0 + 3 * (k : Int)) % 26) (Int.emod_nonneg _ (by decide)) (by rw [l26]; exact Int.emod_lt_of_pos _ (by decide))
  obtain ⟨e, he, ve⟩ := idx_str va_sgn (by rw [l36]; decide) (i := a1 % 36) (Int.emod_nonneg _ (by decide)) (by rw [l36]; exact Int.emod_lt_of_pos _ (by decide))
  have b12 : (0 : Int) ≤ a2 % 12 ∧ a2 % 12 < 12 := ⟨Int.emod_nonneg _ (by decide), Int.emod_lt_of_pos _ (by decide)⟩
  have x1 := mul_ok' (i := 3) (j := (k : Int)) (by decide)
  have x2 : mulD (.str ⟨#[e]⟩) (.int (a2 % 12)) = .ok (.str (repS ⟨#[e]⟩ (a2 % 12))) := if_pos (decide_eq_true ⟨by omega, by omega, by rw [len_one]; decide⟩)
  have x3 : addD (.str ⟨#[c]⟩) (.str (repS ⟨#[e]⟩ (a2 % 12))) = .ok (.str (⟨#[c]⟩ ++ repS ⟨#[e]⟩ (a2 % 12))) := if_pos (by rw [len_one, len_rep, len_one, sizeLine_eq]; omega)
  refine ⟨⟨#[c]⟩ ++ repS ⟨#[e]⟩ (a2 % 12), ⟨va_app (va_one vc) (va_rep (va_one ve) _), ?_, ?_⟩, ?_⟩
  · rw [len_app, len_one]; omega
  · rw [len_app, len_one, len_rep, len_one]; omega
  · have he' : idxD (.str (Str.ofString "0123456789abcdefghijklmnopqrstuvwxyz")) (.int (a1 % 36)) = .ok (.str ⟨#[e]⟩) := he
    simp [ev, binD, addD, h0, h1, h2, x1, mod_ok, hc, he', x2]
    rw [len_one, len_rep, len_one, sizeLine_eq]; omega
abbrev bodyM : Sxs := (.cons (.asg 5 (.ex nameE))
    (.cons (.chg 3 .here .append [(.ex (.var 5))])
    .nil))
theorem turnM (w : W) (L : List Int) (hL : 7 ≤ L.length) (hn : ∀ x ∈ L, num x) (m : D) (ss : List Str) (hs : ss.length < 100) (k : Nat) : ∃ x, gs x ∧ exSs w none false bodyM [some (.lst false (L.map D.int)), some m, some (.str LET), some (.lst true (ss.map D.str)), some (.int k), none] =
    .nx [some (.lst false (L.map D.int)), some m, some (.str LET), some (.lst true ((ss ++ [x]).map D.str)), some (.int k), some (.str x)] := by
  obtain ⟨x, hx, he⟩ := name_run w L hL hn (some (share m)) (some (share (.lst true (ss.map D.str)))) k
  refine ⟨x, hx, ?_⟩
  have hsh : shareL (L.map D.int) = L.map D.int := shareL_ints L
  have he2 : ev w none false nameE (shareE [some (.lst false (L.map D.int)), some m, some (.str LET), some (.lst true (ss.map D.str)), some (.int k), none]) = .ok (.str x) := by
    simp only [shareE_some, shareE_none, shareE_nil, share_lst, share_str, share_int, hsh] at he ⊢
    exact he
  have hz : (ss.map D.str).length < sizeLine := by rw [List.length_map, sizeLine_eq]; omega
  rw [exSs_asg he2 (esc_sc rfl)]
  rw [exSs_nx (chg_append (x := .str x) (xs := ss.map D.str) (ev_var rfl) (esc_sc rfl) rfl hz)]
  simp [exSs]
theorem asStrs_map : ∀ ss : List Str, asStrs (ss.map D.str) = some ss
  | [] => rfl
  | s :: ss => by
    show (asStrs (ss.map D.str)).map (s :: ·) = _
    rw [asStrs_map ss] <;> rfl
theorem asInts_str : ∀ {ss : List Str}, ss ≠ [] → asInts (ss.map D.str) = none
  | [], h => absurd rfl h
  | _ :: _, _ => rfl
theorem run_law_names (w : W) (L : List Int) (hL : 7 ≤ L.length) (hn : ∀ x ∈ L, num x) (many : Nat) (h1 : 1 ≤ many) (h2 : many ≤ 12) : ∃ ss : List Str, ss.length = many ∧ (∀ s ∈ ss, gs s) ∧ runFn w d__law_names [.lst false (L.map D.int), .int many] = .ok (.lst true (ss.map D.str), .non) := by
  have hsh : shareL (L.map D.int) = L.map D.int := shareL_ints L
  have hlen : (rngI 0 (many : Int)).length = many := by unfold rngI; rw [List.length_map, List.length_range]; omega
  have it : ev w none false (.rng1 (.var 1)) (shareE [some (.lst false (L.map D.int)), some (.int many), some (.str LET), some (.lst true []), none, none]) = .ok (.lst true (rngI 0 many)) := ev_rng1 (ev_var rfl) (okI_nat (by omega))
  have lp : exS w none false (.loop (.name 4) (.rng1 (.var 1)) bodyM [4, 5]) [some (.lst false (L.map D.int)), some (.int many), some (.str LET), some (.lst true []), none, none] =
      loopL (fun d ρ => (setTg (.name 4) d ρ).o ρ fun ρ1 => exSs w none false bodyM ρ1) [4, 5] (shareL (rngI 0 many)) [some (.lst false (L.map D.int)), some (.int many), some (.str LET), some (.lst true []), none, none] := exS_loop it rfl rfl
  rw [shareL_rng] at lp
  obtain ⟨ρ', l1, ss, rfl, hs, hg⟩ := loopL_inv (step := fun d ρ => (setTg (.name 4) d ρ).o ρ fun ρ1 => exSs w none false bodyM ρ1) (kl := [4, 5])
    (fun i ρ => ∃ (ss : List Str), ρ = [some (.lst false (L.map D.int)), some (.int many), some (.str LET), some (.lst true (ss.map D.str)), none, none] ∧ ss.length = i ∧ ∀ x ∈ ss, gs x) (ds := rngI 0 many) 0 (rngI 0 many) _
    (fun i d ρ hd => by
      rintro ⟨ss, rfl, hs, hg⟩
      have hi : i < many := by
        have : i < (rngI 0 (many : Int)).length := by
          rcases Nat.lt_or_ge i (rngI 0 (many : Int)).length with z | z
          · exact z
          · rw [List.getElem?_eq_none z] at hd; cases hd
        rwa [hlen] at this
      obtain ⟨kk, rfl, _⟩ := mem_rng (List.mem_of_getElem? hd)
      obtain ⟨x, hx, hs2⟩ := turnM w L hL hn (.int many) ss (by omega) kk
      rw [show (0 + (kk : Int)) = kk by omega]
      refine ⟨_, hs2, ss ++ [x], rfl, by simp [hs], fun y hy => ?_⟩
      rcases (List.mem_append.mp hy) with z | z
      · exact hg y z
      · rw [List.mem_singleton.mp z]; exact hx) rfl ⟨[], rfl, rfl, fun _ h => nomatch h⟩
  have hss : ss.length = many := by rw [hs, hlen]; omega
  refine ⟨sortS ss, by rw [(sortS_perm ss).length_eq]; exact hss, fun s h => hg s ((sortS_perm ss).mem_iff.mp h), ?_⟩
  refine runFn_rt (ρ := ([some (.lst false (L.map D.int)), some (.int many), some (.str LET), some (.lst true (ss.map D.str)), none, none] : Env)) rfl ?_
  show exSs w none false b__law_names [some (.lst false (L.map D.int)), some (.int many), none, none, none, none] = _
  rw [b__law_names]
  have a1 : ev w none false (.str ("abcdefghijklmnopqrstuvwxyz" : PySem.Str)) (shareE [some (.lst false (L.map D.int)), some (.int many), none, none, none, none]) = .ok (.str LET) := rfl
  rw [exSs_asg a1 (esc_sc rfl), exSs_asg ev_nil (esc_shr rfl)]
  have lp2 := lp.trans l1
  refine (exSs_nx lp2).trans ?_
  have e : ev w none false (.blt .sorted (.cons (.var 3) .nil)) (shareE [some (.lst false (L.map D.int)), some (.int many), some (.str LET), some (.lst true (ss.map D.str)), none, none]) = .ok (.lst true ((sortS ss).map D.str)) := by
    rw [ev_blt1 (d := .lst false (shareL (ss.map D.str))) (ev_var rfl), shareL_strs]
    show sortedD (ss.map D.str) = _
    unfold sortedD
    have hne : ss ≠ [] := fun z => by rw [z] at hss; simp at hss; omega
    rw [asInts_str hne, asStrs_map]
    show (if ss.length < 64 then _ else _) = _
    rw [if_pos (by omega)]
  refine exSs_rt (exS_ret1 e (esc_shr ?_))
  show (true && noShrL ((sortS ss).map D.str)) = true
  rw [Bool.true_and]
  generalize sortS ss = tt
  induction tt with
  | nil => rfl
  | cons t tt ih => exact ih
end MI.K01

set_option Elab.async false
set_option linter.all false
set_option maxRecDepth 99000
set_option maxHeartbeats 999000
/-! MaK01c: the law's own body. -/
namespace MI.K01
open PySem L2
/-- what the law leans on -/
structure Wl (w : W) : Prop where
  f6 : ∀ (ns : List Int) (a c : Nat), c ≤ 500 → ∃ L : List Int, L.length = c ∧ (∀ x ∈ L, num x) ∧ w.fn 6 [.scr ns, .int a, .int c] = .ok (.lst true (L.map D.int), .non)
  f7 : ∀ (L : List Int), 7 ≤ L.length → (∀ x ∈ L, num x) → ∀ many : Nat, 1 ≤ many → many ≤ 12 → ∃ ss : List Str, ss.length = many ∧ (∀ s ∈ ss, gs s) ∧ w.fn 7 [.lst false (L.map D.int), .int many] = .ok (.lst true (ss.map D.str), .non)
  f2 : ∀ x, tx x = true → w.fn 2 [x] = .ok (.bl (nmD x), .non)
  f5 : ∀ x, tx x = true → w.fn 5 [x] = .ok (.bl (nmD x), .non)
  f8 : ∀ b, w.fn 8 [.bl b, .bl b] = .ok (.bl true, .non)
  f10 : ∀ x, tl x → notScr x = true → w.fn 10 [x] = .ok (.bl (plB x), .non)
  f9 : ∀ x, tl x → notScr x = true → w.fn 9 [x] = .ok (.bl (plB x), .non)
  f11 : ∀ x, notIns x = true → w.fn 11 [x] = .ok (.bl (isTy x .int && !isTy x .bool), .non)
theorem ev_call2 {w : W} {xc : Xc} {f : Nat} {a b : Ex} {ρ : Env} {x y : D} (h : ev w xc false a ρ = .ok x) (k : ev w xc false b ρ = .ok y) : ev w xc false (.call f (.cons a (.cons b .nil))) ρ = (w.fn f [share x, share y]).bind fun r => .ok r.1 := by
  show (((ev w xc false a ρ).bind fun x => ((ev w xc false b ρ).bind fun y => R.ok [y]).bind fun ys => R.ok (x :: ys)).bind fun ds => (w.fn f (shareL ds)).bind fun r => R.ok r.1) = _
  rw [h, k] <;> rfl
theorem ev_call3 {w : W} {xc : Xc} {f : Nat} {a b c : Ex} {ρ : Env} {x y z : D} (h : ev w xc false a ρ = .ok x) (k : ev w xc false b ρ = .ok y) (l : ev w xc false c ρ = .ok z) : ev w xc false (.call f (.cons a (.cons b (.cons c .nil)))) ρ = (w.fn f [share x, share y, share z]).bind fun r => .ok r.1 := by
  show (((ev w xc false a ρ).bind fun x => ((ev w xc false b ρ).bind fun y => ((ev w xc false c ρ).bind fun z => R.ok [z]).bind fun zs => R.ok (y :: zs)).bind fun ys => R.ok (x :: ys)).bind fun ds => (w.fn f (shareL ds)).bind fun r => R.ok r.1) = _
  rw [h, k, l] <;> rfl
/-- a turn of a loop that asks two and compares -/
theorem ask_turn {w : W} {f g i : Nat} {ρ : Env} {d : D} {b : Bool} (h8 : ∀ b, w.fn 8 [.bl b, .bl b] = .ok (.bl true, .non)) (hd : (shareE ρ).get i = some d) (hf : w.fn f [share d] = .ok (.bl b, .non)) (hg : w.fn g [share d] = .ok (.bl b, .non)) :
    exSs w none false (.cons (.ife (.not (.call 8 (.cons (.call f (.cons (.var i) .nil)) (.cons (.call g (.cons (.var i) .nil)) .nil)))) (.cons (.ret (.ex (.bl false))) .nil) .nil) .nil) ρ = .nx ρ := by
  have e1 : ev w none false (.call f (.cons (.var i) .nil)) (shareE ρ) = .ok (.bl b) := by rw [ev_call1 (ev_var hd), hf] <;> rfl
  have e2 : ev w none false (.call g (.cons (.var i) .nil)) (shareE ρ) = .ok (.bl b) := by rw [ev_call1 (ev_var hd), hg] <;> rfl
  have e3 : ev w none false (.call 8 (.cons (.call f (.cons (.var i) .nil)) (.cons (.call g (.cons (.var i) .nil)) .nil))) (shareE ρ) = .ok (.bl true) := by
    rw [ev_call2 e1 e2]
    show ((w.fn 8 [.bl b, .bl b]).bind _) = _
    rw [h8] <;> rfl
  have e4 : ev w none true (.not (.call 8 (.cons (.call f (.cons (.var i) .nil)) (.cons (.call g (.cons (.var i) .nil)) .nil)))) (shareE ρ) = .ok (.bl false) := by
    have e0 : ev w none true (.not (.call 8 (.cons (.call f (.cons (.var i) .nil)) (.cons (.call g (.cons (.var i) .nil)) .nil)))) (shareE ρ) = (boolsR ((ev w none false (.call 8 (.cons (.call f (.cons (.var i) .nil)) (.cons (.call g (.cons (.var i) .nil)) .nil))) (shareE ρ)).bind fun d => (truD d).bind fun k => R.ok (D.bl k))).bind fun b => R.ok (D.bl !b) := rfl
    rw [e0, e3] <;> rfl
  rw [ife_skip e4]
  rfl
theorem ask_const {w : W} {f i : Nat} {ρ : Env} {d : D} {b : Bool} (h8 : ∀ b, w.fn 8 [.bl b, .bl b] = .ok (.bl true, .non)) (hd : (shareE ρ).get i = some d) (hf : w.fn f [share d] = .ok (.bl b, .non)) :
    exSs w none false (.cons (.ife (.not (.call 8 (.cons (.call f (.cons (.var i) .nil)) (.cons (.bl b) .nil)))) (.cons (.ret (.ex (.bl false))) .nil) .nil) .nil) ρ = .nx ρ := by
  have e1 : ev w none false (.call f (.cons (.var i) .nil)) (shareE ρ) = .ok (.bl b) := by rw [ev_call1 (ev_var hd), hf] <;> rfl
  have e3 : ev w none false (.call 8 (.cons (.call f (.cons (.var i) .nil)) (.cons (.bl b) .nil))) (shareE ρ) = .ok (.bl true) := by
    rw [ev_call2 e1 (show ev w none false (.bl b) (shareE ρ) = .ok (.bl b) from rfl)]
    show ((w.fn 8 [.bl b, .bl b]).bind _) = _
    rw [h8] <;> rfl
  have e4 : ev w none true (.not (.call 8 (.cons (.call f (.cons (.var i) .nil)) (.cons (.bl b) .nil)))) (shareE ρ) = .ok (.bl false) := by
    have e0 : ev w none true (.not (.call 8 (.cons (.call f (.cons (.var i) .nil)) (.cons (.bl b) .nil)))) (shareE ρ) = (boolsR ((ev w none false (.call 8 (.cons (.call f (.cons (.var i) .nil)) (.cons (.bl b) .nil))) (shareE ρ)).bind fun d => (truD d).bind fun k => R.ok (D.bl k))).bind fun b => R.ok (D.bl !b) := rfl
    rw [e0, e3] <;> rfl
  rw [ife_skip e4]
  rfl
theorem cutL_map {α β : Type} (f : α → β) (xs : List α) (l h : Option Int) : cutL (xs.map f) l h = (cutL xs l h).map f := by
  unfold cutL
  rw [List.length_map, List.map_take, List.map_drop]
theorem cutL_mem {α : Type} {xs : List α} {l h : Option Int} {x : α} (hx : x ∈ cutL xs l h) : x ∈ xs := List.mem_of_mem_drop (List.mem_of_mem_take hx)
theorem noShrL_int (L : List Int) : noShrL (L.map D.int) = true := by
  induction L with
  | nil => rfl
  | cons x L ih => exact ih
theorem noShrL_str (L : List Str) : noShrL (L.map D.str) = true := by
  induction L with
  | nil => rfl
  | cons x L ih => exact ih
theorem noOwnL_str (L : List Str) : noOwnL (L.map D.str) = true := by
  induction L with
  | nil => rfl
  | cons x L ih => exact ih
abbrev E0 (ns : List Int) : Env := [some (.scr ns), none, none, none, none, none, none, none, none, none, none, none, none, none]
abbrev E2 (ns L : List Int) (ss : List Str) : Env := [some (.scr ns), some (.lst false (L.map D.int)), some (.lst false (ss.map D.str)), none, none, none, none, none, none, none, none, none, none, none]
abbrev e1 : Ex := .call 6 (.cons (.var 0) (.cons (.int 0) (.cons (.int 30) .nil)))
abbrev e2 : Ex := .call 7 (.cons (.slcB (.var 1) (.int 1) (.int 8)) (.cons (.bin .Add (.int 1) (.bin .Mod (.idx (.var 1) (.int 0)) (.int 12))) .nil))
theorem slc_n {w : W} {ρ : Env} {L : List Int} (h : ρ.get 1 = some (.lst false (L.map D.int))) (i j : Int) : ev w none false (.slcB (.var 1) (.int i) (.int j)) ρ = .ok (.lst true ((cutL L (some i) (some j)).map D.int)) := by
  have e : ev w none false (.slcB (.var 1) (.int i) (.int j)) ρ = (ev w none false (.var 1) ρ).bind fun x => slcD x (some (.int i)) (some (.int j)) := rfl
  rw [e, ev_var h]
  show R.ok (D.lst true (shareL (cutL (L.map D.int) (some i) (some j)))) = _
  rw [cutL_map, shareL_ints]
theorem start_ok (w : W) (h : Wl w) (ns : List Int) (ss0 : Sxs) : ∃ (L : List Int) (ss : List Str), L.length = 30 ∧ (∀ x ∈ L, num x) ∧ 1 ≤ ss.length ∧ ss.length ≤ 12 ∧ (∀ s ∈ ss, gs s) ∧
    exSs w none false (.cons (.asg 1 (.ex e1)) (.cons (.frz 1) (.cons (.asg 2 (.ex e2)) (.cons (.frz 2) ss0)))) (E0 ns) = exSs w none false ss0 (E2 ns L ss) := by
  obtain ⟨L, hL, hn, h6⟩ := h.f6 ns 0 30 (by decide)
  obtain ⟨x0, hx0, i0⟩ := idx_num hn (i := 0) (by decide) (by omega)
  have bx : (0 : Int) ≤ x0 % 12 ∧ x0 % 12 < 12 := ⟨Int.emod_nonneg _ (by decide), Int.emod_lt_of_pos _ (by decide)⟩
  have hcl : (cutL L (some 1) (some 8)).length = 7 := by
    have e1 : HT.sIx L.length 0 (some (1 : Int)) = min 1 L.length := HT.sIx_nat L.length 0 1
    have e2 : HT.sIx L.length L.length (some (8 : Int)) = min 8 L.length := HT.sIx_nat L.length L.length 8
    unfold cutL
    rw [e1, e2, List.length_take, List.length_drop, hL]
    rfl
  obtain ⟨ss, hss, hg, h7⟩ := h.f7 (cutL L (some 1) (some 8)) (by omega) (fun x hx => hn x (cutL_mem hx)) (1 + x0 % 12).toNat (by omega) (by omega)
  have hcast : (((1 + x0 % 12).toNat : Nat) : Int) = 1 + x0 % 12 := by omega
  rw [hcast] at h7
  refine ⟨L, ss, hL, hn, by omega, by omega, hg, ?_⟩
  have q1 : ev w none false e1 (shareE (E0 ns)) = .ok (.lst true (L.map D.int)) := by
    rw [ev_call3 (x := .scr ns) (y := .int 0) (z := .int 30) (ev_var rfl) rfl rfl]
    show ((w.fn 6 [.scr ns, .int 0, .int 30]).bind _) = _
    rw [show w.fn 6 [.scr ns, .int 0, .int 30] = _ from h6] <;> rfl
  rw [exSs_asg q1 (esc_shr (noShrL_int L)), exSs_frz (d := .lst true (L.map D.int)) rfl, share_lst, shareL_ints]
  have q2 : ev w none false e2 (shareE [some (.scr ns), some (.lst false (L.map D.int)), none, none, none, none, none, none, none, none, none, none, none, none]) = .ok (.lst true (ss.map D.str)) := by
    have g1 : (shareE [some (.scr ns), some (.lst false (L.map D.int)), none, none, none, none, none, none, none, none, none, none, none, none]).get 1 = some (.lst false (L.map D.int)) := by
      show some (share (.lst false (L.map D.int))) = _
      rw [share_lst, shareL_ints]
    have g2 : ev w none false (.bin .Add (.int 1) (.bin .Mod (.idx (.var 1) (.int 0)) (.int 12))) (shareE [some (.scr ns), some (.lst false (L.map D.int)), none, none, none, none, none, none, none, none, none, none, none, none]) = .ok (.int (1 + x0 % 12)) := by
      have e : ∀ ρ, ev w none false (.bin .Add (.int 1) (.bin .Mod (.idx (.var 1) (.int 0)) (.int 12))) ρ = (((ev w none false (.var 1) ρ).bind fun x => idxD x (.int 0)).bind fun x => modD x (.int 12)).bind fun y => addD (.int 1) y := fun _ => rfl
      rw [e, ev_var g1]
      show (((idxD (.lst false (L.map D.int)) (.int 0)).bind fun x => modD x (.int 12)).bind fun y => addD (.int 1) y) = _
      rw [i0]
      show ((modD (.int x0) (.int 12)).bind fun y => addD (.int 1) y) = _
      rw [mod_ok (by decide)] <;> rfl
    rw [ev_call2 (slc_n g1 1 8) g2, share_lst, shareL_ints]
    show ((w.fn 7 [.lst false _, .int (1 + x0 % 12)]).bind _) = _
    rw [h7] <;> rfl
  refine (exSs_asg q2 (esc_shr (noShrL_str ss))).trans ?_
  refine (exSs_frz (d := .lst true (ss.map D.str)) rfl).trans ?_
  rw [share_lst, shareL_strs]
  rfl
abbrev e3 : Ex := .idx (.var 2) (.bin .Mod (.idx (.var 1) (.int 8)) (.blt .len (.cons (.var 2) .nil)))
abbrev e4 : Ex := .bin .Mod (.idx (.var 1) (.int 9)) (.blt .len (.cons (.var 3) .nil))
abbrev E4 (ns L : List Int) (ss : List Str) (nm : Str) (a : Int) : Env := [some (.scr ns), some (.lst false (L.map D.int)), some (.lst false (ss.map D.str)), some (.str nm), some (.int a), none, none, none, none, none, none, none, none, none]
theorem gs_len {x : Str} (h : gs x) : x.length ≤ sizeLine := by rw [sizeLine_eq]; have := h.2.2; omega
/-- n[i] % len(a list) -/
theorem pick {w : W} {ρ : Env} {L : List Int} {ss : List Str} {i : Int} (h1 : ρ.get 1 = some (.lst false (L.map D.int))) (h2 : ρ.get 2 = some (.lst false (ss.map D.str))) (hn : ∀ x ∈ L, num x) (h0 : 0 ≤ i) (hi : i < L.length) (hs : 1 ≤ ss.length) :
    ∃ j : Int, 0 ≤ j ∧ j < ss.length ∧ ev w none false (.bin .Mod (.idx (.var 1) (.int i)) (.blt .len (.cons (.var 2) .nil))) ρ = .ok (.int j) := by
  obtain ⟨x, _, hx⟩ := idx_num hn h0 hi
  refine ⟨x % ss.length, Int.emod_nonneg _ (by omega), Int.emod_lt_of_pos _ (by omega), ?_⟩
  have e : ev w none false (.bin .Mod (.idx (.var 1) (.int i)) (.blt .len (.cons (.var 2) .nil))) ρ = ((ev w none false (.var 1) ρ).bind fun x => idxD x (.int i)).bind fun x => (((ev w none false (.var 2) ρ).bind fun y => R.ok [y]).bind (bltD .len)).bind fun y => modD x y := rfl
  rw [e, ev_var h1, ev_var h2]
  show ((idxD (.lst false (L.map D.int)) (.int i)).bind fun x => modD x (.int (ss.map D.str).length)) = _
  rw [hx, List.length_map]
  exact mod_ok (by omega)
theorem pick_s {w : W} {ρ : Env} {L : List Int} {nm : Str} {i : Int} (h1 : ρ.get 1 = some (.lst false (L.map D.int))) (h2 : ρ.get 3 = some (.str nm)) (hn : ∀ x ∈ L, num x) (h0 : 0 ≤ i) (hi : i < L.length) (hs : gs nm) :
    ∃ j : Int, 0 ≤ j ∧ j < nm.length ∧ ev w none false (.bin .Mod (.idx (.var 1) (.int i)) (.blt .len (.cons (.var 3) .nil))) ρ = .ok (.int j) := by
  obtain ⟨x, _, hx⟩ := idx_num hn h0 hi
  have := hs.2.1
  refine ⟨x % nm.length, Int.emod_nonneg _ (by omega), Int.emod_lt_of_pos _ (by omega), ?_⟩
  have e : ev w none false (.bin .Mod (.idx (.var 1) (.int i)) (.blt .len (.cons (.var 3) .nil))) ρ = ((ev w none false (.var 1) ρ).bind fun x => idxD x (.int i)).bind fun x => (((ev w none false (.var 3) ρ).bind fun y => R.ok [y]).bind (bltD .len)).bind fun y => modD x y := rfl
  rw [e, ev_var h1, ev_var h2]
  show ((idxD (.lst false (L.map D.int)) (.int i)).bind fun x => (lenD (.str nm)).bind fun y => modD x y) = _
  have hl : lenD (.str nm) = .ok (.int nm.length) := if_pos (gs_len hs)
  rw [hx, hl]
  exact mod_ok (by omega)
theorem idx_ss {ss : List Str} {i : Int} (h0 : 0 ≤ i) (h1 : i < ss.length) : ∃ x ∈ ss, idxD (.lst false (ss.map D.str)) (.int i) = .ok (.str x) := by
  obtain ⟨d, h2, h3⟩ := idx_lst (o := false) (ds := ss.map D.str) h0 (by rw [List.length_map]; exact h1)
  rw [List.getElem?_map] at h2
  cases q : ss[i.toNat]? with
  | none => rw [q] at h2; cases h2
  | some x =>
    rw [q] at h2
    cases h2
    exact ⟨x, List.mem_of_getElem? q, h3⟩
theorem names_ok (w : W) (ns L : List Int) (ss : List Str) (hL : L.length = 30) (hn : ∀ x ∈ L, num x) (h1 : 1 ≤ ss.length) (hg : ∀ s ∈ ss, gs s) (ss0 : Sxs) : ∃ nm a, nm ∈ ss ∧ 0 ≤ a ∧ a < (nm.length : Int) ∧
    exSs w none false (.cons (.asg 3 (.ex e3)) (.cons (.asg 4 (.ex e4)) ss0)) (E2 ns L ss) = exSs w none false ss0 (E4 ns L ss nm a) := by
  have g1 : (shareE (E2 ns L ss)).get 1 = some (.lst false (L.map D.int)) := by
    show some (share (.lst false (L.map D.int))) = _
    rw [share_lst, shareL_ints]
  have g2 : (shareE (E2 ns L ss)).get 2 = some (.lst false (ss.map D.str)) := by
    show some (share (.lst false (ss.map D.str))) = _
    rw [share_lst, shareL_strs]
  obtain ⟨j, hj0, hj1, hj⟩ := pick (w := w) (i := 8) g1 g2 hn (by decide) (by omega) h1
  obtain ⟨nm, hm, hi⟩ := idx_ss hj0 hj1
  have q3 : ev w none false e3 (shareE (E2 ns L ss)) = .ok (.str nm) := by
    have e : ∀ ρ, ev w none false e3 ρ = (ev w none false (.var 2) ρ).bind fun x => (ev w none false (.bin .Mod (.idx (.var 1) (.int 8)) (.blt .len (.cons (.var 2) .nil))) ρ).bind fun y => idxD x y := fun _ => rfl
    rw [e, ev_var g2, hj]
    exact hi
  have g1' : (shareE ((E2 ns L ss).set 3 (some (.str nm)))).get 1 = some (.lst false (L.map D.int)) := g1
  obtain ⟨a, ha0, ha1, ha⟩ := pick_s (w := w) (ρ := shareE ((E2 ns L ss).set 3 (some (.str nm)))) (i := 9) g1' rfl hn (by decide) (by omega) (hg nm hm)
  refine ⟨nm, a, hm, ha0, ha1, ?_⟩
  rw [exSs_asg q3 (esc_sc rfl)]
  refine (exSs_asg ha (esc_sc rfl)).trans rfl
/-- the plain texts -/
def cT : List D := [.str "a", .str "z9", .str (repS "a" 12), .str (repS "a" 13), .str "", .str "1a", .str "A", .str "aB", .str "a b", .str "a_", .str "-", .str "a!", .str " a", .str "a ", .str "\n", .non, .int 5, .bl true, .lst true [.str "a"], .tup [.str "a"], .dct true []]
abbrev dsp : Ex := (.lst (.cons (.str ("a" : PySem.Str)) (.cons (.str ("z9" : PySem.Str)) (.cons (.bin .Mult (.str ("a" : PySem.Str)) (.int 12)) (.cons (.bin .Mult (.str ("a" : PySem.Str)) (.int 13)) (.cons (.str ("" : PySem.Str)) (.cons (.str ("1a" : PySem.Str)) (.cons (.str ("A" : PySem.Str)) (.cons (.str ("aB" : PySem.Str)) (.cons (.str ("a b" : PySem.Str)) (.cons (.str ("a_" : PySem.Str)) (.cons (.str ("-" : PySem.Str)) (.cons (.str ("a!" : PySem.Str)) (.cons (.str (" a" : PySem.Str)) (.cons (.str ("a " : PySem.Str)) (.cons (.str ("\n" : PySem.Str)) (.cons .non (.cons (.int 5) (.cons (.bl true) (.cons (.lst (.cons (.str ("a" : PySem.Str)) .nil)) (.cons (.tup (.cons (.str ("a" : PySem.Str)) .nil)) (.cons (.dct .nil) .nil))))))))))))))))))))))
abbrev e5 : Ex := .bin .Add (.var 2) dsp
abbrev e6 : Ex := (.bin .Add (.bin .Add (.var 5) (.lcp (.name 6) (.pln (.lst (.cons (.str ("0" : PySem.Str)) (.cons (.str ("z" : PySem.Str)) (.cons (.str ("A" : PySem.Str)) (.cons (.str (" " : PySem.Str)) (.cons (.str ("_" : PySem.Str)) (.cons (.str ("." : PySem.Str)) (.cons (.str ("{" : PySem.Str)) .nil))))))))) (.bl true) (.bin .Add (.bin .Add (.slcH (.var 3) (.var 4)) (.var 6)) (.slcL (.var 3) (.bin .Add (.var 4) (.int 1)))) [6])) (.lst (.cons (.bin .Mult (.var 3) (.int 2)) (.cons (.slcL (.var 3) (.int 1)) .nil))))

theorem dsp_ok (w : W) (ρ : Env) : ev w none false dsp ρ = .ok (.lst true cT) := by
  have m1 : mulD (.str "a") (.int 12) = .ok (.str (repS "a" 12)) := by rfl
  have m2 : mulD (.str "a") (.int 13) = .ok (.str (repS "a" 13)) := by rfl
  have z : ∀ ds : List D, ds.length ≤ 100 → (if ds.length ≤ sizeLine then R.ok (D.lst true ds) else R.bad) = .ok (.lst true ds) := fun ds h => if_pos (by rw [sizeLine_eq]; omega)
  have z2 : ∀ ds : List D, ds.length ≤ 100 → (if ds.length ≤ sizeLine then R.ok (D.tup ds) else R.bad) = .ok (.tup ds) := fun ds h => if_pos (by rw [sizeLine_eq]; omega)
  simp only [ev, evL, fin_false, R.bind_ok, binD, m1, m2]
  rw [z [.str "a"] (by decide), R.bind_ok, z2 [.str "a"] (by decide), R.bind_ok]
  simp only [R.bind_ok]
  exact z cT (by decide)
theorem tx_cT : ∀ d ∈ cT, tx d = true := by decide +kernel
theorem text1 (w : W) (ns L : List Int) (ss : List Str) (nm : Str) (a : Int) (hs : ss.length ≤ 12) (hg : ∀ s ∈ ss, gs s) (ss0 : Sxs) : ∃ T : List D, T.length ≤ 100 ∧ (∀ d ∈ T, tx d = true) ∧ shareL T = T ∧
    exSs w none false (.cons (.asg 5 (.ex e5)) (.cons (.frz 5) ss0)) (E4 ns L ss nm a) = exSs w none false ss0 ((E4 ns L ss nm a).set 5 (some (.lst false T))) := by
  have g2 : (shareE (E4 ns L ss nm a)).get 2 = some (.lst false (ss.map D.str)) := by
    show some (share (.lst false (ss.map D.str))) = _
    rw [share_lst, shareL_strs]
  have hlen : (ss.map D.str ++ cT).length ≤ 100 := by rw [List.length_append, List.length_map]; have : cT.length = 21 := rfl; omega
  have q : ev w none false e5 (shareE (E4 ns L ss nm a)) = .ok (.lst true (shareL (ss.map D.str ++ cT))) := by
    have e : ∀ ρ, ev w none false e5 ρ = (ev w none false (.var 2) ρ).bind fun x => (ev w none false dsp ρ).bind fun y => addD x y := fun _ => rfl
    rw [e, ev_var g2, dsp_ok]
    show (if (ss.map D.str).length + cT.length ≤ sizeLine then R.ok (D.lst true (shareL (ss.map D.str ++ cT))) else .bad) = _
    rw [if_pos (by rw [← List.length_append, sizeLine_eq]; omega)]
  refine ⟨shareL (ss.map D.str ++ cT), by rw [shareL_len]; exact hlen, fun d hd => ?_, shareL_shareL _, ?_⟩
  · rw [shareL_eq] at hd
    obtain ⟨x, hx, rfl⟩ := List.mem_map.mp hd
    rw [tx_share]
    rcases (List.mem_append.mp hx) with z | z
    · obtain ⟨s, hs2, rfl⟩ := List.mem_map.mp z
      have := hg s hs2
      exact okS_iff.mpr ⟨by have := this.2.2; omega, this.1⟩
    · exact tx_cT x z
  · have he : esc (E4 ns L ss nm a) e5 (.lst true (shareL (ss.map D.str ++ cT))) = true := by
      show (noShr _ || ((true && noOwnL (ss.map D.str)) && true)) = true
      rw [noOwnL_str]; simp
    refine (exSs_asg q he).trans ?_
    refine (exSs_frz (d := .lst true (shareL (ss.map D.str ++ cT))) rfl).trans ?_
    rw [share_lst, shareL_shareL]
    rfl
def sub (x : Str) (l h : Option Int) : Str := ⟨(cutL x.cps.toList l h).toArray⟩
theorem va_sub {x : Str} (h : va x) (l k : Option Int) : va (sub x l k) := fun c hc => h c (cutL_mem (by simpa [sub] using hc))
theorem cutL_len {α : Type} (xs : List α) (l h : Option Int) : (cutL xs l h).length ≤ xs.length := by
  unfold cutL
  rw [List.length_take, (List.length_drop)]
  omega
theorem len_sub (x : Str) (l h : Option Int) : (sub x l h).length ≤ x.length := by
  rw [len_list, len_list]
  exact cutL_len _ _ _
theorem slc_str {x : Str} (h : x.length ≤ sizeLine) (lo hi : Option D) {l k : Option Int} (h1 : partD lo = some l) (h2 : partD hi = some k) : slcD (.str x) lo hi = .ok (.str (sub x l k)) := by
  unfold slcD
  rw [h1, h2]
  exact if_pos h
def sg : List D := [.str "0", .str "z", .str "A", .str " ", .str "_", .str ".", .str "{"]
def mkT (nm : Str) (a : Int) (d : D) : D := match d with
  | .str y => .str (sub nm none (some a) ++ y ++ sub nm (some (a + 1)) none)
  | _ => .non
theorem add_str {x y : Str} (h : x.length + y.length ≤ 100000) : addD (.str x) (.str y) = .ok (.str (x ++ y)) := if_pos (by rw [sizeLine_eq]; omega)
abbrev lcpT : Ex := .lcp (.name 6) (.pln (.lst (.cons (.str ("0" : PySem.Str)) (.cons (.str ("z" : PySem.Str)) (.cons (.str ("A" : PySem.Str)) (.cons (.str (" " : PySem.Str)) (.cons (.str ("_" : PySem.Str)) (.cons (.str ("." : PySem.Str)) (.cons (.str ("{" : PySem.Str)) .nil))))))))) (.bl true) (.bin .Add (.bin .Add (.slcH (.var 3) (.var 4)) (.var 6)) (.slcL (.var 3) (.bin .Add (.var 4) (.int 1)))) [6]
abbrev two : Ex := .lst (.cons (.bin .Mult (.var 3) (.int 2)) (.cons (.slcL (.var 3) (.int 1)) .nil))
theorem sg_one : ∀ d ∈ sg, ∃ y, d = .str y ∧ y.length = 1 ∧ okS y = true := by
  intro d hd
  simp only [sg, List.mem_cons, List.not_mem_nil, or_false] at hd
  rcases hd with rfl | rfl | rfl | rfl | rfl | rfl | rfl <;> exact ⟨_, rfl, by decide +kernel, by decide +kernel⟩
theorem text2 (w : W) (ns L : List Int) (ss : List Str) (nm : Str) (a : Int) (T : List D) (hT : T.length ≤ 100) (ht : ∀ d ∈ T, tx d = true) (hsh : shareL T = T) (hg : gs nm) (ss0 : Sxs) : ∃ T2 : List D, (∀ d ∈ T2, tx d = true) ∧ shareL T2 = T2 ∧
    exSs w none false (.cons (.asg 5 (.ex e6)) (.cons (.frz 5) ss0)) ((E4 ns L ss nm a).set 5 (some (.lst false T))) = exSs w none false ss0 ((E4 ns L ss nm a).set 5 (some (.lst false T2))) := by
  have hl := gs_len hg
  have g5 : (shareE ((E4 ns L ss nm a).set 5 (some (.lst false T)))).get 5 = some (.lst false T) := by
    show some (share (.lst false T)) = _
    rw [share_lst, hsh]
  have c1 : ev w none false (.lst (.cons (.str ("0" : PySem.Str)) (.cons (.str ("z" : PySem.Str)) (.cons (.str ("A" : PySem.Str)) (.cons (.str (" " : PySem.Str)) (.cons (.str ("_" : PySem.Str)) (.cons (.str ("." : PySem.Str)) (.cons (.str ("{" : PySem.Str)) .nil)))))))) (shareE ((E4 ns L ss nm a).set 5 (some (.lst false T)))) = .ok (.lst true sg) := by
    show (if sg.length ≤ sizeLine then R.ok (D.lst true sg) else .bad) = _
    rw [if_pos (by rw [sizeLine_eq]; decide)]
  have shg : shareL sg = sg := rfl
  have q1 : ev w none false lcpT (shareE ((E4 ns L ss nm a).set 5 (some (.lst false T)))) = .ok (.lst true (sg.map (mkT nm a))) := by
    refine ev_lcp_map (v := .lst true sg) c1 (show R.ok (shareL sg) = _ by rw [shg]) (by rw [sizeLine_eq]; decide) fun d hd => ?_
    obtain ⟨y, rfl, hy, _⟩ := sg_one d hd
    have s1 := len_sub nm none (some a)
    have s2 := len_sub nm (some (a + 1)) none
    have hg2 := hg.2.2
    have p1 : slcD (.str nm) none (some (.int a)) = .ok (.str (sub nm none (some a))) := slc_str hl _ _ rfl rfl
    have p2 : slcD (.str nm) (some (.int (a + 1))) none = .ok (.str (sub nm (some (a + 1)) none)) := slc_str hl _ _ rfl rfl
    have a1 := add_str (x := sub nm none (some a)) (y := y) (by omega)
    have a2 := add_str (x := sub nm none (some a) ++ y) (y := sub nm (some (a + 1)) none) (by rw [len_app]; omega)
    have e : ∀ ρ, ev w none false (.bin .Add (.bin .Add (.slcH (.var 3) (.var 4)) (.var 6)) (.slcL (.var 3) (.bin .Add (.var 4) (.int 1)))) ρ =
      ((((ev w none false (.var 3) ρ).bind fun x => (ev w none false (.var 4) ρ).bind fun h => slcD x none (some h)).bind fun x => (ev w none false (.var 6) ρ).bind fun y => addD x y).bind fun x => ((ev w none false (.var 3) ρ).bind fun z => (((ev w none false (.var 4) ρ).bind fun x => addD x (.int 1)).bind fun l => slcD z (some l) none)).bind fun y => addD x y) := fun _ => rfl
    rw [e, ev_var (d := .str nm) rfl, ev_var (d := .int a) rfl, ev_var (d := .str y) rfl]
    show (((slcD (.str nm) none (some (.int a))).bind fun x => addD x (.str y)).bind fun x => (slcD (.str nm) (some (.int (a + 1))) none).bind fun y => addD x y) = _
    rw [p1, p2]
    show ((addD (.str (sub nm none (some a))) (.str y)).bind fun x => addD x (.str (sub nm (some (a + 1)) none))) = _
    rw [a1]
    exact a2
  have hr : nm.length ≤ 12 := hg.2.2
  have q2 : ev w none false two (shareE ((E4 ns L ss nm a).set 5 (some (.lst false T)))) = .ok (.lst true [.str (repS nm 2), .str (sub nm (some 1) none)]) := by
    have m1 : mulD (.str nm) (.int 2) = .ok (.str (repS nm 2)) := if_pos (decide_eq_true ⟨by decide, by decide, by omega⟩)
    have m2 : slcD (.str nm) (some (.int 1)) none = .ok (.str (sub nm (some 1) none)) := slc_str hl _ _ rfl rfl
    have e : ∀ ρ, ev w none false two ρ = (((ev w none false (.var 3) ρ).bind fun x => mulD x (.int 2)).bind fun x => (((ev w none false (.var 3) ρ).bind fun x => slcD x (some (.int 1)) none).bind fun y => R.ok [y]).bind fun ys => R.ok (x :: ys)).bind fun ds => if ds.length ≤ sizeLine then R.ok (D.lst true ds) else R.bad := fun _ => rfl
    rw [e, ev_var (d := .str nm) rfl]
    show (((mulD (.str nm) (.int 2)).bind fun x => ((slcD (.str nm) (some (.int 1)) none).bind fun y => R.ok [y]).bind fun ys => R.ok (x :: ys)).bind fun ds => if ds.length ≤ sizeLine then R.ok (D.lst true ds) else R.bad) = _
    rw [m1, m2]
    have hz : ([.str (repS nm 2), .str (sub nm (some 1) none)] : List D).length ≤ sizeLine := by rw [sizeLine_eq]; show (2 : Nat) ≤ 16777216; decide
    show (if ([.str (repS nm 2), .str (sub nm (some 1) none)] : List D).length ≤ sizeLine then R.ok (D.lst true [.str (repS nm 2), .str (sub nm (some 1) none)]) else R.bad) = _
    rw [if_pos hz]
  have l7 : (sg.map (mkT nm a)).length = 7 := rfl
  have q : ev w none false e6 (shareE ((E4 ns L ss nm a).set 5 (some (.lst false T)))) = .ok (.lst true (shareL (shareL (T ++ sg.map (mkT nm a)) ++ [.str (repS nm 2), .str (sub nm (some 1) none)]))) := by
    have e : ∀ ρ, ev w none false e6 ρ = (((ev w none false (.var 5) ρ).bind fun x => (ev w none false lcpT ρ).bind fun y => addD x y).bind fun x => (ev w none false two ρ).bind fun y => addD x y) := fun _ => rfl
    rw [e, ev_var g5, q1, q2]
    show ((if T.length + (sg.map (mkT nm a)).length ≤ sizeLine then R.ok (D.lst true (shareL (T ++ sg.map (mkT nm a)))) else .bad).bind fun x => addD x (.lst true [.str (repS nm 2), .str (sub nm (some 1) none)])) = _
    rw [if_pos (by rw [l7, sizeLine_eq]; omega)]
    exact if_pos (by rw [shareL_len, List.length_append, l7, sizeLine_eq]; show T.length + 7 + 2 ≤ _; omega)
  have tsub : ∀ l h, tx (.str (sub nm l h)) = true := fun l h => okS_iff.mpr ⟨by have := len_sub nm l h; omega, va_sub hg.1 l h⟩
  refine ⟨shareL (shareL (T ++ sg.map (mkT nm a)) ++ [.str (repS nm 2), .str (sub nm (some 1) none)]), fun d hd => ?_, shareL_shareL _, ?_⟩
  · rw [shareL_eq] at hd
    obtain ⟨x, hx, rfl⟩ := List.mem_map.mp hd
    rw [tx_share]
    rcases (List.mem_append.mp hx) with z | z
    · rw [shareL_eq] at z
      obtain ⟨x2, hx2, rfl⟩ := List.mem_map.mp z
      rw [tx_share]
      rcases (List.mem_append.mp hx2) with z | z
      · exact ht x2 z
      · obtain ⟨d2, hd2, rfl⟩ := List.mem_map.mp z
        obtain ⟨y, rfl, hy, hy2⟩ := sg_one d2 hd2
        have := len_sub nm none (some a)
        have := len_sub nm (some (a + 1)) none
        exact okS_iff.mpr ⟨by rw [len_app, len_app]; omega, va_app (va_app (va_sub hg.1 _ _) (okS_iff.mp hy2).2) (va_sub hg.1 _ _)⟩
    · simp only [List.mem_cons, List.not_mem_nil, or_false] at z
      rcases z with rfl | rfl
      · exact okS_iff.mpr ⟨by rw [len_rep]; show 2 * nm.length ≤ 1000; omega, va_rep hg.1 2⟩
      · exact tsub _ _
  · have hno : noOwnL T = true := by rw [← hsh]; exact noOwn_shareL T
    have he : esc ((E4 ns L ss nm a).set 5 (some (.lst false T))) e6 (.lst true (shareL (shareL (T ++ sg.map (mkT nm a)) ++ [.str (repS nm 2), .str (sub nm (some 1) none)]))) = true := by
      show (noShr _ || ((true && noOwnL T) && true)) = true
      rw [hno]; simp
    refine (exSs_asg q he).trans ?_
    refine (exSs_frz (d := .lst true (shareL (shareL (T ++ sg.map (mkT nm a)) ++ [.str (repS nm 2), .str (sub nm (some 1) none)]))) rfl).trans ?_
    rw [share_lst, shareL_shareL]
    rfl
abbrev E5 (ns L : List Int) (ss : List Str) (nm : Str) (a : Int) (T : List D) : Env := [some (.scr ns), some (.lst false (L.map D.int)), some (.lst false (ss.map D.str)), some (.str nm), some (.int a), some (.lst false T), none, none, none, none, none, none, none, none]
abbrev ask2 (f g i : Nat) : Sxs := .cons (.ife (.not (.call 8 (.cons (.call f (.cons (.var i) .nil)) (.cons (.call g (.cons (.var i) .nil)) .nil)))) (.cons (.ret (.ex (.bl false))) .nil) .nil) .nil
abbrev ask1 (f i : Nat) (b : Bool) : Sxs := .cons (.ife (.not (.call 8 (.cons (.call f (.cons (.var i) .nil)) (.cons (.bl b) .nil)))) (.cons (.ret (.ex (.bl false))) .nil) .nil) .nil
theorem loop1 (w : W) (h : Wl w) (ns L : List Int) (ss : List Str) (nm : Str) (a : Int) (T : List D) (ht : ∀ d ∈ T, tx d = true) (hsh : shareL T = T) (ss0 : Sxs) :
    exSs w none false (.cons (.loop (.name 7) (.pln (.var 5)) (ask2 2 5 7) [7]) ss0) (E5 ns L ss nm a T) = exSs w none false ss0 (E5 ns L ss nm a T) := by
  have g5 : (shareE (E5 ns L ss nm a T)).get 5 = some (.lst false T) := by
    show some (share (.lst false T)) = _
    rw [share_lst, hsh]
  have it : ev w none false (.pln (.var 5)) (shareE (E5 ns L ss nm a T)) = .ok (.lst false T) := ev_var (w := w) (xc := none) g5
  have hno : noOwnL T = true := by rw [← hsh]; exact noOwn_shareL T
  have hes : escI w (E5 ns L ss nm a T) (.pln (.var 5)) = true := by
    show (_ || ((true && noOwnL T) && true)) = true
    rw [hno]; simp
  refine exSs_nx ((exS_loop it (show R.ok (shareL T) = _ by rw [hsh]) hes).trans (loopL_pass fun d hd => ?_))
  refine ⟨(E5 ns L ss nm a T).set 7 (some d), ?_, rfl⟩
  have := ht d hd
  exact ask_turn (b := nmD d) (d := share d) h.f8 rfl (by rw [share_share, h.f2 (share d) (by rw [tx_share]; exact this), nmD_share]) (by rw [share_share, h.f5 (share d) (by rw [tx_share]; exact this), nmD_share])
abbrev E9 (ns L : List Int) (ss : List Str) (nm : Str) (a : Int) (T : List D) (sp : Int) (tw : List Str) : Env := [some (.scr ns), some (.lst false (L.map D.int)), some (.lst false (ss.map D.str)), some (.str nm), some (.int a), some (.lst false T), none, none, some (.int sp), some (.lst false (tw.map D.str)), none, none, none, none]
theorem spot_ok (w : W) (h : Wl w) (ns L : List Int) (ss : List Str) (nm : Str) (a : Int) (T : List D) (hL : L.length = 30) (hn : ∀ x ∈ L, num x) (h1 : 1 ≤ ss.length) (ss0 : Sxs) : ∃ (sp : Int) (tw : List Str), 0 ≤ sp ∧ sp < ss.length ∧ tw.length = 12 ∧ (∀ s ∈ tw, gs s) ∧
    exSs w none false (.cons (.asg 8 (.ex (.bin .Mod (.idx (.var 1) (.int 10)) (.blt .len (.cons (.var 2) .nil))))) (.cons (.asg 9 (.ex (.call 7 (.cons (.slcB (.var 1) (.int 11) (.int 18)) (.cons (.int 12) .nil))))) (.cons (.frz 9) ss0))) (E5 ns L ss nm a T) = exSs w none false ss0 (E9 ns L ss nm a T sp tw) := by
  have g1 : (shareE (E5 ns L ss nm a T)).get 1 = some (.lst false (L.map D.int)) := by
    show some (share (.lst false (L.map D.int))) = _
    rw [share_lst, shareL_ints]
  have g2 : (shareE (E5 ns L ss nm a T)).get 2 = some (.lst false (ss.map D.str)) := by
    show some (share (.lst false (ss.map D.str))) = _
    rw [share_lst, shareL_strs]
  obtain ⟨sp, hp0, hp1, hp⟩ := pick (w := w) (i := 10) g1 g2 hn (by decide) (by omega) h1
  have hcl : (cutL L (some 11) (some 18)).length = 7 := by
    have e1 : HT.sIx L.length 0 (some (11 : Int)) = min 11 L.length := HT.sIx_nat L.length 0 11
    have e2 : HT.sIx L.length L.length (some (18 : Int)) = min 18 L.length := HT.sIx_nat L.length L.length 18
    unfold cutL
    rw [e1, e2, List.length_take, List.length_drop, hL]
    rfl
  obtain ⟨tw, htw, hg, h7⟩ := h.f7 (cutL L (some 11) (some 18)) (by omega) (fun x hx => hn x (cutL_mem hx)) 12 (by decide) (by decide)
  refine ⟨sp, tw, hp0, hp1, htw, hg, ?_⟩
  have g1' : (shareE ((E5 ns L ss nm a T).set 8 (some (.int sp)))).get 1 = some (.lst false (L.map D.int)) := g1
  have q : ev w none false (.call 7 (.cons (.slcB (.var 1) (.int 11) (.int 18)) (.cons (.int 12) .nil))) (shareE ((E5 ns L ss nm a T).set 8 (some (.int sp)))) = .ok (.lst true (tw.map D.str)) := by
    rw [ev_call2 (y := .int 12) (slc_n g1' 11 18) rfl, share_lst, shareL_ints]
    show ((w.fn 7 [.lst false _, .int ((12 : Nat) : Int)]).bind _) = _
    rw [h7] <;> rfl
  refine (exSs_asg hp (esc_sc rfl)).trans ?_
  refine (exSs_asg q (esc_shr (noShrL_str tw))).trans ?_
  refine (exSs_frz (d := .lst true (tw.map D.str)) rfl).trans ?_
  rw [share_lst, shareL_strs]
  rfl
/-! ### the lists that are asked about -/
theorem tl_str {ss : List Str} {o : Bool} (h : ∀ s ∈ ss, okS s = true) (hl : ss.length ≤ 1000) : tl (.lst o (ss.map D.str)) := ⟨rfl, fun o' ds e => by
  cases e
  refine ⟨by rw [List.length_map]; exact hl, fun x hx => ?_⟩
  obtain ⟨s, hs, rfl⟩ := List.mem_map.mp hx
  exact ⟨h s hs, gd_str 3 (h s hs)⟩⟩
theorem gs_ok {s : Str} (h : gs s) : okS s = true := okS_iff.mpr ⟨by have := h.2.2; omega, h.1⟩
abbrev e10 : Ex := (.lst (.cons (.var 2) (.cons (.var 9) (.cons (.rev (.var 2)) (.cons (.rev (.var 9)) (.cons (.lst .nil) (.cons (.bin .Add (.var 9) (.lst (.cons (.str ("zz9" : PySem.Str)) .nil))) (.cons (.blt .tuple (.cons (.var 2) .nil)) (.cons .non (.cons (.str ("abc" : PySem.Str)) (.cons (.dct .nil) (.cons (.int 5) (.cons (.bin .Add (.var 2) (.slcL (.var 2) (.neg (.int 1)))) (.cons (.slcL (.var 2) (.int 1)) (.cons (.lst (.cons (.var 3) .nil)) (.cons (.lst (.cons .non .nil)) (.cons (.lst (.cons (.var 2) .nil)) .nil)))))))))))))))))
def lD (ss : List Str) (nm : Str) (tw : List Str) : List D := [.lst false (ss.map D.str), .lst false (tw.map D.str), .lst true (ss.reverse.map D.str), .lst true (tw.reverse.map D.str), .lst true [], .lst true ((tw ++ [("zz9" : Str)]).map D.str), .tup (ss.map D.str), .non, .str "abc", .dct true [], .int 5,
  .lst true ((ss ++ cutL ss (some (-1)) none).map D.str), .lst true ((cutL ss (some 1) none).map D.str), .lst true [.str nm], .lst true [.non], .lst true [.lst false (ss.map D.str)]]
theorem e10_ok (w : W) (ρ : Env) (ss : List Str) (nm : Str) (tw : List Str) (g2 : ρ.get 2 = some (.lst false (ss.map D.str))) (g9 : ρ.get 9 = some (.lst false (tw.map D.str))) (g3 : ρ.get 3 = some (.str nm)) (hs : ss.length ≤ 12) (ht : tw.length = 12) : ev w none false e10 ρ = .ok (.lst true (lD ss nm tw)) := by
  have v2 : ev w none false (.var 2) ρ = .ok (.lst false (ss.map D.str)) := ev_var g2
  have v9 : ev w none false (.var 9) ρ = .ok (.lst false (tw.map D.str)) := ev_var g9
  have v3 : ev w none false (.var 3) ρ = .ok (.str nm) := ev_var g3
  have r2 : ev w none false (.rev (.var 2)) ρ = .ok (.lst true (ss.reverse.map D.str)) := by rw [ev_rev v2, ← List.map_reverse, shareL_strs]
  have r9 : ev w none false (.rev (.var 9)) ρ = .ok (.lst true (tw.reverse.map D.str)) := by rw [ev_rev v9, ← List.map_reverse, shareL_strs]
  have a1 : ev w none false (.bin .Add (.var 9) (.lst (.cons (.str ("zz9" : PySem.Str)) .nil))) ρ = .ok (.lst true ((tw ++ [("zz9" : Str)]).map D.str)) := by
    refine ev_bin v9 (ev_one (d := .str "zz9") rfl) ?_
    refine (show binD .Add (.lst false (tw.map D.str)) (.lst true [.str "zz9"]) = addD (.lst false (tw.map D.str)) (.lst true [.str "zz9"]) from rfl).trans ?_
    rw [add_lst (by rw [List.length_map]; show tw.length + 1 ≤ _; omega)]
    have : tw.map D.str ++ [D.str "zz9"] = (tw ++ [("zz9" : Str)]).map D.str := by rw [List.map_append] <;> rfl
    rw [this, shareL_strs]
  have t1 : ev w none false (.blt .tuple (.cons (.var 2) .nil)) ρ = .ok (.tup (ss.map D.str)) := by
    rw [ev_blt1 v2]
    show R.ok (D.tup (shareL (ss.map D.str))) = _
    rw [shareL_strs]
  have s1 : ev w none false (.slcL (.var 2) (.neg (.int 1))) ρ = .ok (.lst true ((cutL ss (some (-1)) none).map D.str)) := by
    refine ev_slcL v2 (y := .int (-1)) rfl ?_
    show R.ok (D.lst true (shareL (cutL (ss.map D.str) (some (-1)) none))) = _
    rw [cutL_map, shareL_strs]
  have a2 : ev w none false (.bin .Add (.var 2) (.slcL (.var 2) (.neg (.int 1)))) ρ = .ok (.lst true ((ss ++ cutL ss (some (-1)) none).map D.str)) := by
    refine ev_bin v2 s1 ?_
    refine (show binD .Add (.lst false (ss.map D.str)) (.lst true ((cutL ss (some (-1)) none).map D.str)) = addD (.lst false (ss.map D.str)) (.lst true ((cutL ss (some (-1)) none).map D.str)) from rfl).trans ?_
    have := cutL_len ss (some (-1)) none
    rw [add_lst (by rw [List.length_map, List.length_map]; omega), ← List.map_append, shareL_strs]
  have s2 : ev w none false (.slcL (.var 2) (.int 1)) ρ = .ok (.lst true ((cutL ss (some 1) none).map D.str)) := by
    refine ev_slcL v2 (y := .int 1) rfl ?_
    show R.ok (D.lst true (shareL (cutL (ss.map D.str) (some 1) none))) = _
    rw [cutL_map, shareL_strs]
  refine ev_lst ?_ (by show (16 : Nat) ≤ 1000; decide)
  exact evL_cons v2 (evL_cons v9 (evL_cons r2 (evL_cons r9 (evL_cons ev_nil (evL_cons a1 (evL_cons t1 (evL_cons rfl (evL_cons rfl (evL_cons rfl (evL_cons rfl (evL_cons a2 (evL_cons s2 (evL_cons (ev_one v3) (evL_cons (ev_one rfl) (evL_cons (ev_one v2) rfl)))))))))))))))
theorem lD_tl (ss : List Str) (nm : Str) (tw : List Str) (hs : ss.length ≤ 12) (ht : tw.length = 12) (hg : ∀ s ∈ ss, gs s) (hg2 : ∀ s ∈ tw, gs s) (hn : nm ∈ ss) : ∀ d ∈ lD ss nm tw, tl d ∧ notScr d = true := by
  have k1 : ∀ s ∈ ss, okS s = true := fun s h => gs_ok (hg s h)
  have k2 : ∀ s ∈ tw, okS s = true := fun s h => gs_ok (hg2 s h)
  have nl : ∀ {d : D}, notIns d = true → (∀ o ds, d ≠ .lst o ds) → tl d := fun h n => ⟨h, fun o ds e => absurd e (n o ds)⟩
  intro d hd
  simp only [lD, List.mem_cons, List.not_mem_nil, or_false] at hd
  have c1 := cutL_len ss (some (-1)) none
  have c2 := cutL_len ss (some 1) none
  rcases hd with rfl | rfl | rfl | rfl | rfl | rfl | rfl | rfl | rfl | rfl | rfl | rfl | rfl | rfl | rfl | rfl
  · exact ⟨tl_str k1 (by omega), rfl⟩
  · exact ⟨tl_str k2 (by omega), rfl⟩
  · exact ⟨tl_str (fun s h => k1 s (List.mem_reverse.mp h)) (by rw [List.length_reverse]; omega), rfl⟩
  · exact ⟨tl_str (fun s h => k2 s (List.mem_reverse.mp h)) (by rw [List.length_reverse]; omega), rfl⟩
  · exact ⟨tl_str (ss := []) (fun s h => nomatch h) (by simp), rfl⟩
  · refine ⟨tl_str (ss := tw ++ [("zz9" : Str)]) (fun s h => ?_) (by rw [List.length_append]; show tw.length + 1 ≤ _; omega), rfl⟩
    rcases (List.mem_append.mp h) with z | z
    · exact k2 s z
    · rw [List.mem_singleton.mp z]; decide +kernel
  · exact ⟨nl rfl (fun _ _ e => nomatch e), rfl⟩
  · exact ⟨nl rfl (fun _ _ e => nomatch e), rfl⟩
  · exact ⟨nl rfl (fun _ _ e => nomatch e), rfl⟩
  · exact ⟨nl rfl (fun _ _ e => nomatch e), rfl⟩
  · exact ⟨nl rfl (fun _ _ e => nomatch e), rfl⟩
  · refine ⟨tl_str (fun s h => ?_) (by rw [List.length_append]; omega), rfl⟩
    rcases (List.mem_append.mp h) with z | z
    · exact k1 s z
    · exact k1 s (cutL_mem z)
  · exact ⟨tl_str (fun s h => k1 s (cutL_mem h)) (by omega), rfl⟩
  · exact ⟨tl_str (ss := [nm]) (fun s h => by rw [List.mem_singleton.mp h]; exact k1 nm hn) (by simp), rfl⟩
  · exact ⟨⟨rfl, fun o ds e => by cases e; exact ⟨by simp, fun x hx => by rw [List.mem_singleton.mp hx]; exact ⟨rfl, gd_non 3⟩⟩⟩, rfl⟩
  · refine ⟨⟨rfl, fun o ds e => by
      cases e
      refine ⟨by simp, fun x hx => ?_⟩
      rw [List.mem_singleton.mp hx]
      refine ⟨rfl, (gd_lst (k := 1) fun y hy => ?_).mono (by decide)⟩
      obtain ⟨s, hs, rfl⟩ := List.mem_map.mp hy
      exact gd_str 1 (k1 s hs)⟩, rfl⟩
abbrev dOne : Ex := (.lst (.cons (.str ("" : PySem.Str)) (.cons .non (.cons (.str ("A" : PySem.Str)) (.cons (.idx (.var 2) (.int 0)) (.cons (.idx (.var 2) (.neg (.int 1))) (.cons (.bin .Mult (.str ("a" : PySem.Str)) (.int 13)) (.cons (.int 7) (.cons (.lst (.cons (.var 3) .nil)) .nil)))))))))
abbrev eApp : Ex := (.bin .Add (.bin .Add (.slcH (.var 2) (.var 8)) (.lst (.cons (.var 11) .nil))) (.slcL (.var 2) (.bin .Add (.var 8) (.int 1))))
def oD (s0 s1 nm : Str) : List D := [.str "", .non, .str "A", .str s0, .str s1, .str (repS "a" 13), .int 7, .lst true [.str nm]]
abbrev E10 (ns L : List Int) (ss : List Str) (nm : Str) (a : Int) (T : List D) (sp : Int) (tw : List Str) (xs : List D) : Env := [some (.scr ns), some (.lst false (L.map D.int)), some (.lst false (ss.map D.str)), some (.str nm), some (.int a), some (.lst false T), none, none, some (.int sp), some (.lst false (tw.map D.str)), some (.lst true xs), none, none, none]
theorem dOne_ok (w : W) (ρ : Env) (ss : List Str) (nm : Str) (g2 : ρ.get 2 = some (.lst false (ss.map D.str))) (g3 : ρ.get 3 = some (.str nm)) (h1 : 1 ≤ ss.length) : ∃ s0 s1, s0 ∈ ss ∧ s1 ∈ ss ∧ ev w none false dOne ρ = .ok (.lst true (oD s0 s1 nm)) := by
  have v2 : ev w none false (.var 2) ρ = .ok (.lst false (ss.map D.str)) := ev_var g2
  have v3 : ev w none false (.var 3) ρ = .ok (.str nm) := ev_var g3
  obtain ⟨s0, m0, i0⟩ := idx_ss (ss := ss) (i := 0) (by decide) (by omega)
  obtain ⟨s1, m1, i1⟩ := idx_ss (ss := ss) (i := (ss.length : Int) - 1) (by omega) (by omega)
  have i2 : idxD (.lst false (ss.map D.str)) (.int (-1)) = .ok (.str s1) := by
    rw [← i1]
    show (match (ixN (ss.map D.str).length (-1)).bind fun j => (ss.map D.str)[j]? with
      | some d => R.ok (share d)
      | none => .bad) = (match (ixN (ss.map D.str).length ((ss.length : Int) - 1)).bind fun j => (ss.map D.str)[j]? with
      | some d => R.ok (share d)
      | none => .bad)
    have e1 : ixN (ss.map D.str).length (-1) = ixN (ss.map D.str).length ((ss.length : Int) - 1) := by
      unfold ixN
      rw [List.length_map, if_neg (by omega), if_pos (by omega), if_pos (by omega), if_pos (by omega)]
      congr 1
    rw [e1]
  have x0 : ev w none false (.idx (.var 2) (.int 0)) ρ = .ok (.str s0) := by
    have e : ev w none false (.idx (.var 2) (.int 0)) ρ = (ev w none false (.var 2) ρ).bind fun x => idxD x (.int 0) := rfl
    rw [e, v2]
    exact i0
  have x1 : ev w none false (.idx (.var 2) (.neg (.int 1))) ρ = .ok (.str s1) := by
    have e : ev w none false (.idx (.var 2) (.neg (.int 1))) ρ = (ev w none false (.var 2) ρ).bind fun x => idxD x (.int (-1)) := rfl
    rw [e, v2]
    exact i2
  refine ⟨s0, s1, m0, m1, ?_⟩
  refine ev_lst ?_ (by show (8 : Nat) ≤ 1000; decide)
  exact evL_cons rfl (evL_cons rfl (evL_cons rfl (evL_cons x0 (evL_cons x1 (evL_cons rfl (evL_cons rfl (evL_cons (ev_one v3) rfl)))))))
theorem app_ok (w : W) (ρ : Env) (ss : List Str) (sp : Int) (one : D) (g2 : ρ.get 2 = some (.lst false (ss.map D.str))) (g8 : ρ.get 8 = some (.int sp)) (g11 : ρ.get 11 = some one) (hs : ss.length ≤ 12) :
    ev w none false eApp ρ = .ok (.lst true (shareL (shareL ((cutL ss none (some sp)).map D.str ++ [one]) ++ (cutL ss (some (sp + 1)) none).map D.str))) := by
  have v2 : ev w none false (.var 2) ρ = .ok (.lst false (ss.map D.str)) := ev_var g2
  have v8 : ev w none false (.var 8) ρ = .ok (.int sp) := ev_var g8
  have c1 := cutL_len ss none (some sp)
  have c2 := cutL_len ss (some (sp + 1)) none
  have q1 : ev w none false (.slcH (.var 2) (.var 8)) ρ = .ok (.lst true ((cutL ss none (some sp)).map D.str)) := by
    refine ev_slcH v2 v8 ?_
    show R.ok (D.lst true (shareL (cutL (ss.map D.str) none (some sp)))) = _
    rw [cutL_map, shareL_strs]
  have q2 : ev w none false (.slcL (.var 2) (.bin .Add (.var 8) (.int 1))) ρ = .ok (.lst true ((cutL ss (some (sp + 1)) none).map D.str)) := by
    refine ev_slcL v2 (ev_bin (z := .int (sp + 1)) v8 (y := .int 1) rfl rfl) ?_
    show R.ok (D.lst true (shareL (cutL (ss.map D.str) (some (sp + 1)) none))) = _
    rw [cutL_map, shareL_strs]
  have q3 : ev w none false (.bin .Add (.slcH (.var 2) (.var 8)) (.lst (.cons (.var 11) .nil))) ρ = .ok (.lst true (shareL ((cutL ss none (some sp)).map D.str ++ [one]))) :=
    ev_bin q1 (ev_one (ev_var g11)) ((show binD .Add (.lst true ((cutL ss none (some sp)).map D.str)) (.lst true [one]) = addD (.lst true ((cutL ss none (some sp)).map D.str)) (.lst true [one]) from rfl).trans (add_lst (by rw [List.length_map]; show _ + 1 ≤ _; omega)))
  exact ev_bin q3 q2 ((show binD .Add (.lst true (shareL ((cutL ss none (some sp)).map D.str ++ [one]))) (.lst true ((cutL ss (some (sp + 1)) none).map D.str)) = addD (.lst true (shareL ((cutL ss none (some sp)).map D.str ++ [one]))) (.lst true ((cutL ss (some (sp + 1)) none).map D.str)) from rfl).trans
    (add_lst (by rw [shareL_len, List.length_append, List.length_map, List.length_map]; show _ + 1 + _ ≤ _; omega)))
abbrev dNum : Ex := (.lst (.cons (.int 0) (.cons (.int 1) (.cons (.neg (.int 1)) (.cons (.idx (.var 1) (.int 19)) (.cons (.bin .Sub (.int 0) (.idx (.var 1) (.int 20))) (.cons (.bin .Mult (.idx (.var 1) (.int 21)) (.bin .Pow (.int 10) (.int 15))) (.cons (.bin .Pow (.int 10) (.int 40)) (.cons (.bin .Sub (.int 0) (.bin .Pow (.int 10) (.int 40))) .nil)))))))))
abbrev dVal : Ex := (.lst (.cons (.bl true) (.cons (.bl false) (.cons .non (.cons (.str ("1" : PySem.Str)) (.cons (.lst (.cons (.int 1) .nil)) (.cons (.tup (.cons (.int 1) .nil)) (.cons (.str ("" : PySem.Str)) .nil))))))))
theorem app_tl (ss : List Str) (sp : Int) (one : D) (hs : ss.length ≤ 12) (hg : ∀ s ∈ ss, gs s) (h1 : tx one = true) (h2 : gd 3 one) : tl (.lst true (shareL (shareL ((cutL ss none (some sp)).map D.str ++ [one]) ++ (cutL ss (some (sp + 1)) none).map D.str))) := by
  have c1 := cutL_len ss none (some sp)
  have c2 := cutL_len ss (some (sp + 1)) none
  have kk : ∀ s ∈ ss, tx (.str s) = true ∧ gd 3 (.str s) := fun s h => ⟨gs_ok (hg s h), gd_str 3 (gs_ok (hg s h))⟩
  refine ⟨rfl, fun o ds e => ?_⟩
  cases e
  refine ⟨by rw [shareL_len, List.length_append, shareL_len, List.length_append, List.length_map, List.length_map]; show _ + 1 + _ ≤ _; omega, fun x hx => ?_⟩
  rw [shareL_eq] at hx
  obtain ⟨y, hy, rfl⟩ := (List.mem_map.mp hx)
  rw [tx_share]
  refine (fun z => ⟨z.1, gd_share.mpr z.2⟩ : (tx y = true ∧ gd 3 y) → _) ?_
  rcases (List.mem_append.mp hy) with z | z
  · rw [shareL_eq] at z
    obtain ⟨y2, hy2, rfl⟩ := List.mem_map.mp z
    rw [tx_share]
    refine (fun z => ⟨z.1, gd_share.mpr z.2⟩ : (tx y2 = true ∧ gd 3 y2) → _) ?_
    rcases (List.mem_append.mp hy2) with z | z
    · obtain ⟨s, h, rfl⟩ := List.mem_map.mp z
      exact kk s (cutL_mem h)
    · rw [List.mem_singleton.mp z]; exact ⟨h1, h2⟩
  · obtain ⟨s, h, rfl⟩ := List.mem_map.mp z
    exact kk s (cutL_mem h)
theorem loopA (w : W) (ns L : List Int) (ss : List Str) (nm : Str) (a : Int) (T : List D) (sp : Int) (tw : List Str) (xs0 : List D) (h1 : 1 ≤ ss.length) (hs : ss.length ≤ 12) (hg : ∀ s ∈ ss, gs s) (hm : nm ∈ ss) (hx0 : ∀ d ∈ xs0, tl d ∧ notScr d = true) (hl0 : xs0.length = 16) (ss0 : Sxs) :
    ∃ xs : List D, (∀ d ∈ xs, tl d ∧ notScr d = true) ∧ exSs w none false (.cons (.loop (.name 11) (.pln dOne) (.cons (.chg 10 .here .append [.ex eApp]) .nil) [11]) ss0) (E10 ns L ss nm a T sp tw xs0) = exSs w none false ss0 (E10 ns L ss nm a T sp tw xs) := by
  have G2 : ∀ (xs : List D) (o : Option D), (shareE ((E10 ns L ss nm a T sp tw xs).set 11 o)).get 2 = some (.lst false (ss.map D.str)) := fun xs o => by
    show some (share (.lst false (ss.map D.str))) = _
    rw [share_lst, shareL_strs]
  obtain ⟨s0, s1, m0, m1, it⟩ := dOne_ok w (shareE (E10 ns L ss nm a T sp tw xs0)) ss nm (G2 xs0 none) rfl h1
  have hes : escI w (E10 ns L ss nm a T sp tw xs0) (.pln dOne) = true := by
    have : escV w (shareE (E10 ns L ss nm a T sp tw xs0)) (.pln dOne) = true := by
      show (match ev w none false dOne (shareE (E10 ns L ss nm a T sp tw xs0)) with
        | .ok d => noShr d
        | _ => true) = true
      rw [it] <;> rfl
    show (escV w (shareE (E10 ns L ss nm a T sp tw xs0)) (.pln dOne) || _) = true
    rw [this] <;> rfl
  have lp := exS_loop (w := w) (xc := none) (tg := .name 11) (it := .pln dOne) (b := .cons (.chg 10 .here .append [.ex eApp]) .nil) (kl := [11]) it (show itemsD (.lst true (oD s0 s1 nm)) = .ok (shareL (oD s0 s1 nm)) from rfl) hes
  have ho : ∀ d ∈ shareL (oD s0 s1 nm), tx d = true ∧ gd 3 d ∧ noOwn d = true ∧ share d = d := fun d hd => by
    have sc : ∀ {x : Str}, okS x = true → tx (.str x) = true ∧ gd 3 (.str x) ∧ noOwn (.str x) = true ∧ share (.str x) = .str x := fun {x} h => ⟨h, gd_str 3 h, rfl, rfl⟩
    have hd : d ∈ ([.str "", .non, .str "A", .str s0, .str s1, .str (repS "a" 13), .int 7, .lst false [.str nm]] : List D) := hd
    simp only [List.mem_cons, List.not_mem_nil, or_false] at hd
    rcases hd with rfl | rfl | rfl | rfl | rfl | rfl | rfl | rfl
    · exact sc (by decide +kernel)
    · exact ⟨rfl, gd_non 3, rfl, rfl⟩
    · exact sc (by decide +kernel)
    · exact sc (gs_ok (hg _ m0))
    · exact sc (gs_ok (hg _ m1))
    · exact sc (by decide +kernel)
    · exact ⟨rfl, gd_int 3 7, rfl, rfl⟩
    · exact ⟨rfl, (gd_lst (k := 1) fun y hy => by rw [List.mem_singleton.mp hy]; exact gd_str 1 (gs_ok (hg _ hm))).mono (by decide), rfl, rfl⟩
  obtain ⟨ρ', l1, xs, rfl, hx, _⟩ := loopL_inv (step := fun d ρ => (setTg (.name 11) d ρ).o ρ fun ρ1 => exSs w none false (.cons (.chg 10 .here .append [.ex eApp]) .nil) ρ1) (kl := [11])
    (fun i ρ => ∃ xs : List D, ρ = E10 ns L ss nm a T sp tw xs ∧ (∀ d ∈ xs, tl d ∧ notScr d = true) ∧ xs.length = 16 + i) (ds := shareL (oD s0 s1 nm)) 0 (shareL (oD s0 s1 nm)) _
    (fun i d ρ hd => by
      rintro ⟨xs, rfl, hx, hl⟩
      obtain ⟨o1, o2, o3, o4⟩ := ho d (List.mem_of_getElem? hd)
      have hi : i < 8 := by
        rcases Nat.lt_or_ge i 8 with z | z
        · exact z
        · rw [List.getElem?_eq_none (show (shareL (oD s0 s1 nm)).length ≤ i from z)] at hd; cases hd
      have g11 : (shareE ((E10 ns L ss nm a T sp tw xs).set 11 (some d))).get 11 = some d := by
        show some (share d) = _
        rw [o4]
      have q := app_ok w (shareE ((E10 ns L ss nm a T sp tw xs).set 11 (some d))) ss sp d (G2 xs (some d)) rfl g11 hs
      have he : esc ((E10 ns L ss nm a T sp tw xs).set 11 (some d)) eApp (.lst true (shareL (shareL ((cutL ss none (some sp)).map D.str ++ [d]) ++ (cutL ss (some (sp + 1)) none).map D.str))) = true := by
        have hb : ((vars eApp).all fun j => match Env.get ((E10 ns L ss nm a T sp tw xs).set 11 (some d)) j with
          | some x => noOwn x
          | none => true) = true := by
          show ((true && noOwnL (ss.map D.str)) && (true && (noOwn d && ((true && noOwnL (ss.map D.str)) && (true && true))))) = true
          rw [noOwnL_str, o3] <;> rfl
        exact Bool.or_eq_true_iff.mpr (.inr hb)
      have st : exSs w none false (.cons (.chg 10 .here .append [.ex eApp]) .nil) ((E10 ns L ss nm a T sp tw xs).set 11 (some d)) = .nx (((E10 ns L ss nm a T sp tw xs).set 11 (some d)).set 10 (some (.lst true (xs ++ [.lst true (shareL (shareL ((cutL ss none (some sp)).map D.str ++ [d]) ++ (cutL ss (some (sp + 1)) none).map D.str))])))) := by
        rw [exSs_nx (chg_append q he rfl (by rw [sizeLine_eq]; omega))]
        rfl
      refine ⟨_, st, xs ++ [.lst true (shareL (shareL ((cutL ss none (some sp)).map D.str ++ [d]) ++ (cutL ss (some (sp + 1)) none).map D.str))], rfl, fun y hy => ?_, by rw [List.length_append]; show xs.length + 1 = _; omega⟩
      rcases (List.mem_append.mp hy) with z | z
      · exact hx y z
      · rw [List.mem_singleton.mp z]; exact ⟨app_tl ss sp d hs hg o1 o2, rfl⟩) rfl ⟨xs0, rfl, hx0, by omega⟩
  exact ⟨xs, hx, exSs_nx (lp.trans l1)⟩
abbrev EF (ns L : List Int) (ss : List Str) (nm : Str) (a : Int) (T : List D) (sp : Int) (tw : List Str) (xs : List D) : Env := [some (.scr ns), some (.lst false (L.map D.int)), some (.lst false (ss.map D.str)), some (.str nm), some (.int a), some (.lst false T), none, none, some (.int sp), some (.lst false (tw.map D.str)), some (.lst false (shareL xs)), none, none, none]
theorem tl_share {d : D} (h : tl d) : tl (share d) := ⟨by rw [notIns_share]; exact h.1, fun o ds e => by
  cases d with
  | lst o' ds' =>
    cases e
    obtain ⟨h1, h2⟩ := h.2 o' ds' rfl
    refine ⟨by rw [shareL_len]; exact h1, fun x hx => ?_⟩
    rw [shareL_eq] at hx
    obtain ⟨y, hy, rfl⟩ := (List.mem_map.mp hx)
    exact ⟨by rw [tx_share]; exact (h2 y hy).1, gd_share.mpr (h2 y hy).2⟩
  | _ => cases e⟩
theorem loopV (w : W) (h : Wl w) (ns L : List Int) (ss : List Str) (nm : Str) (a : Int) (T : List D) (sp : Int) (tw : List Str) (xs : List D) (hx : ∀ d ∈ xs, tl d ∧ notScr d = true) (ss0 : Sxs) :
    exSs w none false (.cons (.frz 10) (.cons (.loop (.name 12) (.pln (.var 10)) (ask2 10 9 12) [12]) ss0)) (E10 ns L ss nm a T sp tw xs) = exSs w none false ss0 (EF ns L ss nm a T sp tw xs) := by
  refine (exSs_frz (d := .lst true xs) rfl).trans ?_
  have g : (shareE (EF ns L ss nm a T sp tw xs)).get 10 = some (.lst false (shareL xs)) := by
    show some (share (.lst false (shareL xs))) = _
    rw [share_lst, shareL_shareL]
  have it : ev w none false (.pln (.var 10)) (shareE (EF ns L ss nm a T sp tw xs)) = .ok (.lst false (shareL xs)) := ev_var (w := w) (xc := none) g
  have hes : escI w (EF ns L ss nm a T sp tw xs) (.pln (.var 10)) = true := by
    show (_ || ((true && noOwnL (shareL xs)) && true)) = true
    rw [noOwn_shareL]; simp
  refine exSs_nx (ρ := EF ns L ss nm a T sp tw xs) ((exS_loop it (show R.ok (shareL (shareL xs)) = .ok (shareL xs) by rw [shareL_shareL]) hes).trans (loopL_pass fun d hd => ?_))
  refine ⟨(EF ns L ss nm a T sp tw xs).set 12 (some d), ?_, rfl⟩
  rw [shareL_eq] at hd
  obtain ⟨y, hy, rfl⟩ := List.mem_map.mp hd
  obtain ⟨h1, h2⟩ := hx y hy
  have h3 : notScr (share y) = true := by cases y <;> first | rfl | exact h2
  exact ask_turn (b := plB (share y)) (d := share (share y)) h.f8 rfl (by rw [share_share, share_share]; exact h.f10 _ (tl_share h1) h3) (by rw [share_share, share_share]; exact h.f9 _ (tl_share h1) h3)
theorem loopN (w : W) (h : Wl w) (ρ : Env) (L : List Int) (hρ : ∃ r, ρ = r) (g1 : (shareE ρ).get 1 = some (.lst false (L.map D.int))) (hL : L.length = 30) (hn : ∀ x ∈ L, num x) (h13 : ∀ d, ((ρ.set 13 (some d)).set 13 none) = ρ) (g13 : ∀ d, (shareE (ρ.set 13 (some d))).get 13 = some (share d)) (ss0 : Sxs) :
    exSs w none false (.cons (.loop (.name 13) (.pln dNum) (ask1 11 13 true) [13]) ss0) ρ = exSs w none false ss0 ρ := by
  have v1 : ev w none false (.var 1) (shareE ρ) = .ok (.lst false (L.map D.int)) := ev_var g1
  have ix : ∀ i : Int, 0 ≤ i → i < 30 → ∃ x : Int, ev w none false (.idx (.var 1) (.int i)) (shareE ρ) = .ok (.int x) := fun i h0 h1 => by
    obtain ⟨x, _, hx⟩ := idx_num hn h0 (by omega)
    refine ⟨x, ?_⟩
    have e : ev w none false (.idx (.var 1) (.int i)) (shareE ρ) = (ev w none false (.var 1) (shareE ρ)).bind fun x => idxD x (.int i) := rfl
    rw [e, v1]
    exact hx
  obtain ⟨x19, e19⟩ := ix 19 (by decide) (by decide)
  obtain ⟨x20, e20⟩ := ix 20 (by decide) (by decide)
  obtain ⟨x21, e21⟩ := ix 21 (by decide) (by decide)
  have p15 : ev w none false (.bin .Pow (.int 10) (.int 15)) (shareE ρ) = .ok (.int (10 ^ 15)) := ev_bin (x := .int 10) (y := .int 15) rfl rfl (pow_ok (i := 10) (j := 15) (by decide))
  have p40 : ev w none false (.bin .Pow (.int 10) (.int 40)) (shareE ρ) = .ok (.int (10 ^ 40)) := ev_bin (x := .int 10) (y := .int 40) rfl rfl (pow_ok (i := 10) (j := 40) (by decide))
  have b20 : ev w none false (.bin .Sub (.int 0) (.idx (.var 1) (.int 20))) (shareE ρ) = .ok (.int (0 - x20)) := ev_bin (x := .int 0) (y := .int x20) rfl e20 rfl
  have b21 : ev w none false (.bin .Mult (.idx (.var 1) (.int 21)) (.bin .Pow (.int 10) (.int 15))) (shareE ρ) = .ok (.int (x21 * 10 ^ 15)) := ev_bin e21 p15 (mul_ok (by decide))
  have b40 : ev w none false (.bin .Sub (.int 0) (.bin .Pow (.int 10) (.int 40))) (shareE ρ) = .ok (.int (0 - 10 ^ 40)) := ev_bin (x := .int 0) (y := .int (10 ^ 40)) rfl p40 rfl
  have n1 : ev w none false (.neg (.int 1)) (shareE ρ) = .ok (.int (-1)) := rfl
  have it : ev w none false dNum (shareE ρ) = .ok (.lst true ([0, 1, -1, x19, 0 - x20, x21 * 10 ^ 15, 10 ^ 40, 0 - 10 ^ 40].map D.int)) :=
    ev_lst (evL_cons rfl (evL_cons rfl (evL_cons n1 (evL_cons e19 (evL_cons b20 (evL_cons b21 (evL_cons p40 (evL_cons b40 rfl)))))))) (by rw [List.length_map]; show (8 : Nat) ≤ 1000; decide)
  generalize [0, 1, -1, x19, 0 - x20, x21 * 10 ^ 15, 10 ^ 40, 0 - 10 ^ 40] = is at it
  have hes : escI w ρ (.pln dNum) = true := by
    have : escV w (shareE ρ) (.pln dNum) = true := by
      show (match ev w none false dNum (shareE ρ) with
        | .ok d => noShr d
        | _ => true) = true
      rw [it]
      exact noShrL_int is
    unfold escI
    rw [this] <;> rfl
  refine exSs_nx ((exS_loop (w := w) (xc := none) (tg := .name 13) (it := .pln dNum) it (show R.ok (shareL (is.map D.int)) = .ok (is.map D.int) by rw [shareL_ints]) hes).trans (loopL_pass fun d hd => ?_))
  obtain ⟨i, _, rfl⟩ := List.mem_map.mp hd
  exact ⟨ρ.set 13 (some (.int i)), ask_const (b := true) (d := .int i) h.f8 (g13 _) (h.f11 (.int i) rfl), h13 _⟩
def vD : List D := [.bl true, .bl false, .non, .str "1", .lst true [.int 1], .tup [.int 1], .str ""]
theorem loopW (w : W) (h : Wl w) (ρ : Env) (h12 : ∀ d, ((ρ.set 12 (some d)).set 12 none) = ρ) (g12 : ∀ d, (shareE (ρ.set 12 (some d))).get 12 = some (share d)) (ss0 : Sxs) :
    exSs w none false (.cons (.loop (.name 12) (.pln dVal) (ask1 11 12 false) [12]) ss0) ρ = exSs w none false ss0 ρ := by
  have tp : ev w none false (.tup (.cons (.int 1) .nil)) (shareE ρ) = .ok (.tup [.int 1]) := by
    show (if ([.int 1] : List D).length ≤ sizeLine then R.ok (D.tup [.int 1]) else R.bad) = _
    rw [if_pos (by rw [sizeLine_eq]; decide)]
  have it : ev w none false dVal (shareE ρ) = .ok (.lst true vD) :=
    ev_lst (evL_cons rfl (evL_cons rfl (evL_cons rfl (evL_cons rfl (evL_cons (ev_one rfl) (evL_cons tp (evL_cons rfl rfl))))))) (by show (7 : Nat) ≤ 1000; decide)
  have hes : escI w ρ (.pln dVal) = true := by
    have : escV w (shareE ρ) (.pln dVal) = true := by
      show (match ev w none false dVal (shareE ρ) with
        | .ok d => noShr d
        | _ => true) = true
      rw [it] <;> rfl
    unfold escI
    rw [this] <;> rfl
  refine exSs_nx ((exS_loop (w := w) (xc := none) (tg := .name 12) (it := .pln dVal) it (show R.ok (shareL vD) = .ok (shareL vD) from rfl) hes).trans (loopL_pass fun d hd => ?_))
  have hb : notIns (share (share d)) = true ∧ (isTy (share (share d)) .int && !isTy (share (share d)) .bool) = false := by
    have hd : d ∈ ([.bl true, .bl false, .non, .str "1", .lst false [.int 1], .tup [.int 1], .str ""] : List D) := hd
    simp only [List.mem_cons, List.not_mem_nil, or_false] at hd
    rcases hd with rfl | rfl | rfl | rfl | rfl | rfl | rfl <;> exact ⟨rfl, rfl⟩
  exact ⟨ρ.set 12 (some d), ask_const (b := false) (d := share d) h.f8 (g12 _) (by rw [h.f11 _ hb.1, hb.2]), h12 _⟩
def dropS : Nat → Sxs → Sxs
  | 0, s => s
  | _ + 1, .nil => .nil
  | n + 1, .cons _ r => dropS n r
theorem law_run (w : W) (h : Wl w) (ns : List Int) : runFn w d_law [.scr ns] = .ok (.bl true, .non) := by
  suffices hh : ∃ ρ, exSs w none false b_law (E0 ns) = .rt (.bl true) ρ by
    obtain ⟨ρ, hh⟩ := hh
    exact runFn_rt rfl hh
  obtain ⟨L, ss, hL, hn, s1, s2, hg, ea⟩ := start_ok w h ns (dropS 4 b_law)
  obtain ⟨nm, a, hm, _, _, eb⟩ := names_ok w ns L ss hL hn s1 hg (dropS 6 b_law)
  obtain ⟨T, t1, t2, t3, ec⟩ := text1 w ns L ss nm a s2 hg (dropS 8 b_law)
  obtain ⟨T2, u1, u2, ed⟩ := text2 w ns L ss nm a T t1 t2 t3 (hg nm hm) (dropS 10 b_law)
  have ee := loop1 w h ns L ss nm a T2 u1 u2 (dropS 11 b_law)
  obtain ⟨sp, tw, p1, p2, w1, w2, ef⟩ := spot_ok w h ns L ss nm a T2 hL hn s1 (dropS 14 b_law)
  have g2 : (shareE (E9 ns L ss nm a T2 sp tw)).get 2 = some (.lst false (ss.map D.str)) := by
    show some (share (.lst false (ss.map D.str))) = _
    rw [share_lst, shareL_strs]
  have g9 : (shareE (E9 ns L ss nm a T2 sp tw)).get 9 = some (.lst false (tw.map D.str)) := by
    show some (share (.lst false (tw.map D.str))) = _
    rw [share_lst, shareL_strs]
  have q := e10_ok w (shareE (E9 ns L ss nm a T2 sp tw)) ss nm tw g2 g9 rfl s2 w1
  have he : esc (E9 ns L ss nm a T2 sp tw) e10 (.lst true (lD ss nm tw)) = true := by
    refine Bool.or_eq_true_iff.mpr (.inr ?_)
    refine List.all_eq_true.mpr fun j hj => ?_
    have hj : j = 2 ∨ j = 9 ∨ j = 3 := by
      have : j ∈ ([2, 9, 2, 9, 9, 2, 2, 2, 2, 3, 2] : List Nat) := hj
      simp at this
      omega
    rcases hj with rfl | rfl | rfl
    · show (true && noOwnL (ss.map D.str)) = true
      rw [noOwnL_str] <;> rfl
    · show (true && noOwnL (tw.map D.str)) = true
      rw [noOwnL_str] <;> rfl
    · rfl
  have eg := exSs_asg (ss := dropS 15 b_law) (i := 10) q he
  obtain ⟨xs, hx, eh⟩ := loopA w ns L ss nm a T2 sp tw (lD ss nm tw) s1 s2 hg hm (lD_tl ss nm tw s2 w1 hg w2 hm) rfl (dropS 16 b_law)
  have ei := loopV w h ns L ss nm a T2 sp tw xs hx (dropS 18 b_law)
  have g1 : (shareE (EF ns L ss nm a T2 sp tw xs)).get 1 = some (.lst false (L.map D.int)) := by
    show some (share (.lst false (L.map D.int))) = _
    rw [share_lst, shareL_ints]
  have ej := loopN w h (EF ns L ss nm a T2 sp tw xs) L ⟨_, rfl⟩ g1 hL hn (fun _ => rfl) (fun _ => rfl) (dropS 19 b_law)
  have ek := loopW w h (EF ns L ss nm a T2 sp tw xs) (fun _ => rfl) (fun _ => rfl) (dropS 20 b_law)
  have el : exSs w none false (dropS 20 b_law) (EF ns L ss nm a T2 sp tw xs) = .rt (.bl true) (EF ns L ss nm a T2 sp tw xs) := exSs_rt exS_retb
  exact ⟨_, ea.trans (eb.trans (ec.trans (ed.trans (ee.trans (ef.trans (eg.trans (eh.trans (ei.trans (ej.trans (ek.trans el))))))))))⟩
end MI.K01

set_option Elab.async false
set_option linter.all false
set_option maxRecDepth 99000
set_option maxHeartbeats 999000
/-! MaK01d: the law of names and places, in the table's world. -/
namespace MI.K01
open PySem L2
def Tk : Tab := ⟨[(11, d_is_whole), (1, d_has_name_signs), (2, d_is_name), (4, d_is_ascending), (3, d_are_names), (10, d_are_places), (6, d__law_numbers), (8, d__law_says), (7, d__law_names), (5, d__law_is_name), (9, d__law_are_places), (12, d_law)], [], [], [], cons.map fun c => (c.g, c.c.D), []⟩
theorem fn1 (n : Nat) (x : Str) (c : Nat) (r : List Nat) (hx : x.cps.toList = c :: r) (hl : x.length ≤ 12) : (Tk.w (n + 1)).fn 1 [.str x] = .ok (.bl (decide (c ∈ LET.cps.toList) && (c :: r).all fun c => decide (c ∈ ALN.cps.toList)), .non) :=
  run_has_name_signs (Tk.w n) x c r hx hl (by cases n <;> rfl) (by cases n <;> rfl)
theorem fn2 (n : Nat) (d : D) (h : tx d = true) : (Tk.w (n + 2)).fn 2 [d] = .ok (.bl (nmD d), .non) :=
  run_is_name (Tk.w (n + 1)) d h rfl (fn1 n)
theorem fn5 (n : Nat) (d : D) (h : tx d = true) : (Tk.w (n + 1)).fn 5 [d] = .ok (.bl (nmD d), .non) := run_law_is_name (Tk.w n) d h
theorem fn3 (n : Nat) (d : D) (h : tl d) (hs : notScr d = true) : (Tk.w (n + 3)).fn 3 [d] = .ok (.bl (arn d), .non) := run_are_names (Tk.w (n + 2)) d h hs (fn2 n)
theorem fn4 (n : Nat) (o : Bool) (ds : List D) (h : ds.all nmD = true) (hl : ds.length ≤ 1000) : (Tk.w (n + 1)).fn 4 [.lst o ds] = .ok (.bl (ascD ds), .non) := run_is_ascending (Tk.w n) o ds h hl
theorem notScr_share {d : D} (h : notScr d = true) : notScr (share d) = true := by cases d <;> first | rfl | exact h
theorem fn10 (n : Nat) (d : D) (h : tl d) (hs : notScr d = true) : (Tk.w (n + 4)).fn 10 [d] = .ok (.bl (plB d), .non) :=
  run_are_places (Tk.w (n + 3)) d h hs rfl (fn3 n (share d) (tl_share h) (notScr_share hs)) fun o ds _ ha hl => fn4 (n + 2) o ds ha hl
theorem fn9 (n : Nat) (d : D) (h : tl d) (hs : notScr d = true) : (Tk.w (n + 2)).fn 9 [d] = .ok (.bl (plB d), .non) := run_law_are_places (Tk.w (n + 1)) d h hs (fn5 n)
theorem fn6 (n : Nat) (ns : List Int) (a c : Nat) (hc : c ≤ 500) : ∃ L : List Int, L.length = c ∧ (∀ x ∈ L, num x) ∧ (Tk.w (n + 1)).fn 6 [.scr ns, .int a, .int c] = .ok (.lst true (L.map D.int), .non) := by
  obtain ⟨L, h1, h2, h3⟩ := run_law_numbers (Tk.w n) ns a c hc
  have e : (Tk.w (n + 1)).fn 6 = runFn (Tk.w n) d__law_numbers := rfl
  exact ⟨L, h1, h2, by rw [e]; exact h3⟩
theorem fn7 (n : Nat) (L : List Int) (hL : 7 ≤ L.length) (hn : ∀ x ∈ L, num x) (many : Nat) (h1 : 1 ≤ many) (h2 : many ≤ 12) : ∃ ss : List Str, ss.length = many ∧ (∀ s ∈ ss, gs s) ∧ (Tk.w (n + 1)).fn 7 [.lst false (L.map D.int), .int many] = .ok (.lst true (ss.map D.str), .non) := by
  obtain ⟨ss, k1, k2, k3⟩ := run_law_names (Tk.w n) L hL hn many h1 h2
  have e : (Tk.w (n + 1)).fn 7 = runFn (Tk.w n) d__law_names := rfl
  exact ⟨ss, k1, k2, by rw [e]; exact k3⟩
theorem fn8 (n : Nat) (b : Bool) : (Tk.w (n + 1)).fn 8 [.bl b, .bl b] = .ok (.bl true, .non) := run_law_says (Tk.w n) b
theorem fn11 (n : Nat) (d : D) (h : notIns d = true) : (Tk.w (n + 1)).fn 11 [d] = .ok (.bl (isTy d .int && !isTy d .bool), .non) := run_is_whole (Tk.w n) d h
theorem wl (n : Nat) : Wl (Tk.w (n + 5)) where
  f6 := fn6 (n + 4)
  f7 := fn7 (n + 4)
  f2 := fn2 (n + 3)
  f5 := fn5 (n + 4)
  f8 := fn8 (n + 4)
  f10 := fn10 (n + 1)
  f9 := fn9 (n + 3)
  f11 := fn11 (n + 4)
theorem fn12 (n : Nat) (ns : List Int) : (Tk.w (n + 6)).fn 12 [.scr ns] = .ok (.bl true, .non) := by
  have e : (Tk.w (n + 6)).fn 12 = runFn (Tk.w (n + 5)) d_law := rfl
  rw [e]
  exact law_run (Tk.w (n + 5)) (wl n) ns
theorem hlaw (ns : List Int) (_ : ns.length ≤ 63) : (Tk.w 10).fn 12 [.scr ns] = .ok (.bl true, .non) := fn12 4 ns
end MI.K01

set_option Elab.async false
set_option linter.all false
set_option maxRecDepth 99000
set_option maxHeartbeats 0
/-! K01H: the head. -/
namespace MI.K01
open PySem L2 PySem.Spec PyProof.Rows
def top (i : Nat) : Stmt := PySem.Challenge.pw_turnedbysteps_k01_names_and_places.main.body.getD i (.Pass ⟨0, 0, 0, 0⟩)
abbrev s_is_whole : Stmt := top 5
def N_is_whole : List PySem.Str := [("value" : PySem.Str)]
def p_is_whole : List PySem.Str := [("value" : PySem.Str)]
def h_is_whole : He.DefD := ⟨("is_whole", none), "is_whole", "is_whole", defArgs s_is_whole, defBody s_is_whole, defScope s_is_whole, [], []⟩
theorem sc_is_whole : FnScope N_is_whole p_is_whole (defScope s_is_whole) := ⟨rfl, rfl, rfl, by decide +kernel, rfl, by decide +kernel, by decide +kernel⟩
theorem m_is_whole : mSs M0 N_is_whole true (defScope s_is_whole) b_is_whole (defBody s_is_whole) = true := by kernel_rfl
abbrev s_has_name_signs : Stmt := top 6
def N_has_name_signs : List PySem.Str := [("text" : PySem.Str), ("sign" : PySem.Str)]
def p_has_name_signs : List PySem.Str := [("text" : PySem.Str)]
def h_has_name_signs : He.DefD := ⟨("has_name_signs", none), "has_name_signs", "has_name_signs", defArgs s_has_name_signs, defBody s_has_name_signs, defScope s_has_name_signs, [], []⟩
theorem sc_has_name_signs : FnScope N_has_name_signs p_has_name_signs (defScope s_has_name_signs) := ⟨rfl, rfl, rfl, by decide +kernel, rfl, by decide +kernel, by decide +kernel⟩
theorem m_has_name_signs : mSs M0 N_has_name_signs true (defScope s_has_name_signs) b_has_name_signs (defBody s_has_name_signs) = true := by kernel_rfl
abbrev s_is_name : Stmt := top 7
def N_is_name : List PySem.Str := [("value" : PySem.Str)]
def p_is_name : List PySem.Str := [("value" : PySem.Str)]
def h_is_name : He.DefD := ⟨("is_name", none), "is_name", "is_name", defArgs s_is_name, defBody s_is_name, defScope s_is_name, [], []⟩
theorem sc_is_name : FnScope N_is_name p_is_name (defScope s_is_name) := ⟨rfl, rfl, rfl, by decide +kernel, rfl, by decide +kernel, by decide +kernel⟩
theorem m_is_name : mSs M0 N_is_name true (defScope s_is_name) b_is_name (defBody s_is_name) = true := by kernel_rfl
abbrev s_is_ascending : Stmt := top 8
def N_is_ascending : List PySem.Str := [("values" : PySem.Str), ("before" : PySem.Str), ("after" : PySem.Str)]
def p_is_ascending : List PySem.Str := [("values" : PySem.Str)]
def h_is_ascending : He.DefD := ⟨("is_ascending", none), "is_ascending", "is_ascending", defArgs s_is_ascending, defBody s_is_ascending, defScope s_is_ascending, [], []⟩
theorem sc_is_ascending : FnScope N_is_ascending p_is_ascending (defScope s_is_ascending) := ⟨rfl, rfl, rfl, by decide +kernel, rfl, by decide +kernel, by decide +kernel⟩
theorem m_is_ascending : mSs M0 N_is_ascending true (defScope s_is_ascending) b_is_ascending (defBody s_is_ascending) = true := by kernel_rfl
abbrev s_are_names : Stmt := top 9
def N_are_names : List PySem.Str := [("value" : PySem.Str), ("name" : PySem.Str)]
def p_are_names : List PySem.Str := [("value" : PySem.Str)]
def h_are_names : He.DefD := ⟨("are_names", none), "are_names", "are_names", defArgs s_are_names, defBody s_are_names, defScope s_are_names, [], []⟩
theorem sc_are_names : FnScope N_are_names p_are_names (defScope s_are_names) := ⟨rfl, rfl, rfl, by decide +kernel, rfl, by decide +kernel, by decide +kernel⟩
theorem m_are_names : mSs M0 N_are_names true (defScope s_are_names) b_are_names (defBody s_are_names) = true := by kernel_rfl
abbrev s_are_places : Stmt := top 10
def N_are_places : List PySem.Str := [("value" : PySem.Str)]
def p_are_places : List PySem.Str := [("value" : PySem.Str)]
def h_are_places : He.DefD := ⟨("are_places", none), "are_places", "are_places", defArgs s_are_places, defBody s_are_places, defScope s_are_places, [], []⟩
theorem sc_are_places : FnScope N_are_places p_are_places (defScope s_are_places) := ⟨rfl, rfl, rfl, by decide +kernel, rfl, by decide +kernel, by decide +kernel⟩
theorem m_are_places : mSs M0 N_are_places true (defScope s_are_places) b_are_places (defBody s_are_places) = true := by kernel_rfl
abbrev s__law_numbers : Stmt := top 12
def N__law_numbers : List PySem.Str := [("script" : PySem.Str), ("at" : PySem.Str), ("count" : PySem.Str), ("cell" : PySem.Str), ("numbers" : PySem.Str), ("k" : PySem.Str), ("mixed" : PySem.Str)]
def p__law_numbers : List PySem.Str := [("script" : PySem.Str), ("at" : PySem.Str), ("count" : PySem.Str)]
def h__law_numbers : He.DefD := ⟨("_law_numbers", none), "_law_numbers", "_law_numbers", defArgs s__law_numbers, defBody s__law_numbers, defScope s__law_numbers, [], []⟩
theorem sc__law_numbers : FnScope N__law_numbers p__law_numbers (defScope s__law_numbers) := ⟨rfl, rfl, rfl, by decide +kernel, rfl, by decide +kernel, by decide +kernel⟩
theorem m__law_numbers : mSs M0 N__law_numbers true (defScope s__law_numbers) b__law_numbers (defBody s__law_numbers) = true := by kernel_rfl
abbrev s__law_says : Stmt := top 13
def N__law_says : List PySem.Str := [("said" : PySem.Str), ("due" : PySem.Str)]
def p__law_says : List PySem.Str := [("said" : PySem.Str), ("due" : PySem.Str)]
def h__law_says : He.DefD := ⟨("_law_says", none), "_law_says", "_law_says", defArgs s__law_says, defBody s__law_says, defScope s__law_says, [], []⟩
theorem sc__law_says : FnScope N__law_says p__law_says (defScope s__law_says) := ⟨rfl, rfl, rfl, by decide +kernel, rfl, by decide +kernel, by decide +kernel⟩
theorem m__law_says : mSs M0 N__law_says true (defScope s__law_says) b__law_says (defBody s__law_says) = true := by kernel_rfl
abbrev s__law_names : Stmt := top 14
def N__law_names : List PySem.Str := [("n" : PySem.Str), ("many" : PySem.Str), ("letters" : PySem.Str), ("found" : PySem.Str), ("k" : PySem.Str), ("name" : PySem.Str)]
def p__law_names : List PySem.Str := [("n" : PySem.Str), ("many" : PySem.Str)]
def h__law_names : He.DefD := ⟨("_law_names", none), "_law_names", "_law_names", defArgs s__law_names, defBody s__law_names, defScope s__law_names, [], []⟩
theorem sc__law_names : FnScope N__law_names p__law_names (defScope s__law_names) := ⟨rfl, rfl, rfl, by decide +kernel, rfl, by decide +kernel, by decide +kernel⟩
theorem m__law_names : mSs M0 N__law_names true (defScope s__law_names) b__law_names (defBody s__law_names) = true := by kernel_rfl
abbrev s__law_is_name : Stmt := top 15
def N__law_is_name : List PySem.Str := [("value" : PySem.Str), ("sign" : PySem.Str)]
def p__law_is_name : List PySem.Str := [("value" : PySem.Str)]
def h__law_is_name : He.DefD := ⟨("_law_is_name", none), "_law_is_name", "_law_is_name", defArgs s__law_is_name, defBody s__law_is_name, defScope s__law_is_name, [], []⟩
theorem sc__law_is_name : FnScope N__law_is_name p__law_is_name (defScope s__law_is_name) := ⟨rfl, rfl, rfl, by decide +kernel, rfl, by decide +kernel, by decide +kernel⟩
theorem m__law_is_name : mSs M0 N__law_is_name true (defScope s__law_is_name) b__law_is_name (defBody s__law_is_name) = true := by kernel_rfl
abbrev s__law_are_places : Stmt := top 16
def N__law_are_places : List PySem.Str := [("value" : PySem.Str), ("one" : PySem.Str), ("k" : PySem.Str)]
def p__law_are_places : List PySem.Str := [("value" : PySem.Str)]
def h__law_are_places : He.DefD := ⟨("_law_are_places", none), "_law_are_places", "_law_are_places", defArgs s__law_are_places, defBody s__law_are_places, defScope s__law_are_places, [], []⟩
theorem sc__law_are_places : FnScope N__law_are_places p__law_are_places (defScope s__law_are_places) := ⟨rfl, rfl, rfl, by decide +kernel, rfl, by decide +kernel, by decide +kernel⟩
theorem m__law_are_places : mSs M0 N__law_are_places true (defScope s__law_are_places) b__law_are_places (defBody s__law_are_places) = true := by kernel_rfl
abbrev s_law : Stmt := top 17
def N_law : List PySem.Str := [("script" : PySem.Str), ("n" : PySem.Str), ("names" : PySem.Str), ("name" : PySem.Str), ("at" : PySem.Str), ("texts" : PySem.Str), ("sign" : PySem.Str), ("text" : PySem.Str), ("spot" : PySem.Str), ("twelve" : PySem.Str), ("lists" : PySem.Str), ("one" : PySem.Str), ("value" : PySem.Str), ("number" : PySem.Str)]
def p_law : List PySem.Str := [("script" : PySem.Str)]
def h_law : He.DefD := ⟨("law", none), "law", "law", defArgs s_law, defBody s_law, defScope s_law, [], []⟩
theorem sc_law : FnScope N_law p_law (defScope s_law) := ⟨rfl, rfl, rfl, by decide +kernel, rfl, by decide +kernel, by decide +kernel⟩
theorem m_law : mSs M0 N_law true (defScope s_law) b_law (defBody s_law) = true := by kernel_rfl
def ents : List Ent := [⟨11, d_is_whole, h_is_whole, N_is_whole, p_is_whole⟩, ⟨1, d_has_name_signs, h_has_name_signs, N_has_name_signs, p_has_name_signs⟩, ⟨2, d_is_name, h_is_name, N_is_name, p_is_name⟩, ⟨4, d_is_ascending, h_is_ascending, N_is_ascending, p_is_ascending⟩, ⟨3, d_are_names, h_are_names, N_are_names, p_are_names⟩, ⟨10, d_are_places, h_are_places, N_are_places, p_are_places⟩, ⟨6, d__law_numbers, h__law_numbers, N__law_numbers, p__law_numbers⟩, ⟨8, d__law_says, h__law_says, N__law_says, p__law_says⟩, ⟨7, d__law_names, h__law_names, N__law_names, p__law_names⟩, ⟨5, d__law_is_name, h__law_is_name, N__law_is_name, p__law_is_name⟩, ⟨9, d__law_are_places, h__law_are_places, N__law_are_places, p__law_are_places⟩, ⟨12, d_law, h_law, N_law, p_law⟩]
abbrev e_law : Ent := ⟨12, d_law, h_law, N_law, p_law⟩
def prog : Prog0 := ⟨ents, frs, cons, glN, NMs⟩
theorem ents_ok : ∀ e ∈ prog.es, e.Ok prog.M := by
  intro e he
  simp only [prog, ents, List.mem_cons, List.not_mem_nil, or_false] at he
  rcases he with rfl | rfl | rfl | rfl | rfl | rfl | rfl | rfl | rfl | rfl | rfl | rfl
  · exact ⟨sc_is_whole, rfl, rfl, (fun h => nomatch h), m_is_whole, rfl, rfl, fun _ _ _ _ _ _ us hl => match us, hl with | [_], _ => rfl⟩
  · exact ⟨sc_has_name_signs, rfl, rfl, (fun h => nomatch h), m_has_name_signs, rfl, rfl, fun _ _ _ _ _ _ us hl => match us, hl with | [_], _ => rfl⟩
  · exact ⟨sc_is_name, rfl, rfl, (fun h => nomatch h), m_is_name, rfl, rfl, fun _ _ _ _ _ _ us hl => match us, hl with | [_], _ => rfl⟩
  · exact ⟨sc_is_ascending, rfl, rfl, (fun h => nomatch h), m_is_ascending, rfl, rfl, fun _ _ _ _ _ _ us hl => match us, hl with | [_], _ => rfl⟩
  · exact ⟨sc_are_names, rfl, rfl, (fun h => nomatch h), m_are_names, rfl, rfl, fun _ _ _ _ _ _ us hl => match us, hl with | [_], _ => rfl⟩
  · exact ⟨sc_are_places, rfl, rfl, (fun h => nomatch h), m_are_places, rfl, rfl, fun _ _ _ _ _ _ us hl => match us, hl with | [_], _ => rfl⟩
  · exact ⟨sc__law_numbers, rfl, rfl, (fun h => nomatch h), m__law_numbers, rfl, rfl, fun _ _ _ _ _ _ us hl => match us, hl with | [_, _, _], _ => rfl⟩
  · exact ⟨sc__law_says, rfl, rfl, (fun h => nomatch h), m__law_says, rfl, rfl, fun _ _ _ _ _ _ us hl => match us, hl with | [_, _], _ => rfl⟩
  · exact ⟨sc__law_names, rfl, rfl, (fun h => nomatch h), m__law_names, rfl, rfl, fun _ _ _ _ _ _ us hl => match us, hl with | [_, _], _ => rfl⟩
  · exact ⟨sc__law_is_name, rfl, rfl, (fun h => nomatch h), m__law_is_name, rfl, rfl, fun _ _ _ _ _ _ us hl => match us, hl with | [_], _ => rfl⟩
  · exact ⟨sc__law_are_places, rfl, rfl, (fun h => nomatch h), m__law_are_places, rfl, rfl, fun _ _ _ _ _ _ us hl => match us, hl with | [_], _ => rfl⟩
  · exact ⟨sc_law, rfl, rfl, (fun h => nomatch h), m_law, rfl, rfl, fun _ _ _ _ _ _ us hl => match us, hl with | [_], _ => rfl⟩
abbrev Rw : PySem.W.OpenRow := PySem.W.OpenLaw.row PySem.Challenge.rw_turnedbysteps_k01_names_and_places
abbrev hk : PySem.W.Hook := He.hookD 4 prog.fa prog.fn
def ob (s : PySem.W.SharedT) : He.AlD := He.obsDG 4 prog.fa prog.fn (HandSHeadRun.getT s)
theorem ob_eq (s : PySem.W.SharedT) : ob s = hk.obs s.abs := He.obsDG_eq (HandSHeadRun.getT_eq s)
def lo0 : List PySem.Str := ["LETTERS", "FIGURES", "LONGEST_NAME", "MOST_PLACES", "is_whole", "has_name_signs", "is_name", "is_ascending", "are_names", "are_places", "_law_numbers", "_law_says", "_law_names", "_law_is_name", "_law_are_places"]
def loose : List PySem.Str := lo0
theorem run (w : World) : HandSHeadRun.RunEq Rw (PySem.W.view Rw.prog [17]) hk ob 2000 loose w := by
  intro os
  kernel_rfl
end MI.K01
open PySem PyProof.Rows PySem.Calls PySem.W
theorem k01_holds (hlaw : ∀ ns : List Int, ns.length ≤ 63 → (MI.K01.prog.T.w 10).fn 12 [.scr ns] = .ok (.bl true, .non)) : PySem.Challenge.rw_turnedbysteps_k01_names_and_places.Holds := by
  w_on; o_law
  refine HandSHeadRun.head_any (r := OpenLaw.row PySem.Challenge.rw_turnedbysteps_k01_names_and_places) (q := view (OpenLaw.row PySem.Challenge.rw_turnedbysteps_k01_names_and_places).prog [17]) (H := MI.K01.hk) (ob := MI.K01.ob) (M := 2000) (loose := MI.K01.loose) (d := HandSHeadRun.topDef (OpenLaw.row PySem.Challenge.rw_turnedbysteps_k01_names_and_places).prog 17) (kwd := []) MI.K01.ob_eq
    (by kernel_rfl) (fun s => by kernel_rfl) MI.K01.run (by kernel_rfl) (by kernel_rfl) (by kernel_rfl) (by rfl) (by first | assumption | decide +kernel) (by decide +kernel) ⟨rfl, rfl, rfl, rfl, rfl, by decide +kernel⟩ ?hw ?hc
  case hw => w_witness2
  case hc =>
    refine L2.walk_ofE (l := PySem.Challenge.rw_turnedbysteps_k01_names_and_places) (n := 63) (k := 2 * 10) (x := "script") (CX := L2.CX0) rfl (by decide) (by kernel_rfl) ⟨rfl, by decide, by decide⟩ ?F (fun _ _ _ _ z => z)
    intro w mg fa h Y G hmg0
    obtain ⟨K, KX, c⟩ := Y
    have hmg : mg ("law" : PySem.Str) = some (.ref fa) := by
      have e : (HandSHeadRun.topDef (OpenLaw.row PySem.Challenge.rw_turnedbysteps_k01_names_and_places).prog 17).name = ("law" : PySem.Str) := by kernel_rfl
      rw [← e]
      exact hmg0
    obtain ⟨fd, hb, hF⟩ := MI.K01.prog.law (P := (PySem.Challenge.rw_turnedbysteps_k01_names_and_places).prog) (w := w) (by kernel_rfl) MI.K01.ents_ok (by decide +kernel) KX G hmg c (n := 10) (li := 12) (e := MI.K01.e_law) rfl rfl rfl rfl (by kernel_rfl) hlaw
    exact ⟨K, fd, MI.spLaw K 63, KX, hb, fun H a ns hl _ hS => ⟨a, ns, rfl, hl, hS, fun _ => rfl⟩, hF⟩

theorem PySem.Challenge.cw_turnedbysteps_k01_names_and_places_holds : PySem.Challenge.rw_turnedbysteps_k01_names_and_places.Holds :=
  k01_holds MI.K01.hlaw
