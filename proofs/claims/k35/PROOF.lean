import PyProof.Rows.All
import Wide.All
import OpenK.AllK
import Wide.FinOn
import PySem.PyData
import KE.SortData
import PyProof.ReprReads
import HandS.Text
import HandS.ExcValue
import HandS.ExcIs
import HandS.ExcField
import KE.KExcIs
import HandS.ForMost
import HandS.Deep
import KE.KDictKeyed
import KE.KeyNested
import HandS.Lambda
import HandS.Wide
import HandS.IsInst
import HandS.TupAny
import HandS.TupMul
import PyProof.AutoIntOps
import PyProof.Rows.StrMul
import HandS.Dict
import HandS.Conv
import HandS.More
import KE.KDictList
import KE.KSortedM
import KE.KDictCopyH
import HandS.TryOnly
import HandS.Star
import KE.KDictItemsList
import HandS.DictTup
import KE.KDictDisplayH
import HandS.RaiseMore
import HandS.DictComp
import HandS.Property
import HandS.SlotsOwn
import HandS.Codes
import HandS.Style
import PyProof.MeetsSeq
import PyProof.SeqRoads2
import HandS.Strs
import HandS.SetFor
import HandS.Iter
import HandS.ExcInit
import HandS.ExcSuper
import KE.KExcSuper
import PyProof.Rows.CountFlat
import PyProof.ReprRoads
import PyProof.StrLawsRepr
import PyProof.Rows.RegStrFacts
import HandS.EndTab
import KE.KNestM
import PyProof.Rows.StrCase
import PyProof.Rows.StrFit
import KE.KLam
import KE.RegKSuper
import PySem.Challenge.RW_doorsleep_k35_nets_of_any_value
section ZPDCore
set_option linter.all false
set_option maxRecDepth 100000
namespace PD
open PySem

/-- a datum: frozen trees, and places in the store -/
inductive D where
  | non | bl (b : Bool) | int (i : Int) | str (x : Str)
  | tup (ds : List D) | lst (ds : List D) | dct (kvs : List (D × D))
  | ref (i : Nat) | scr (ns : List Int) | err (c : Nat) (v : D)
  deriving Inhabited
/-- what stands at a place of the store -/
inductive O where
  | lst (ds : List D) | dct (kvs : List (D × D)) | ins (c : Nat) (fs : List (Nat × D)) | tbl
abbrev Store := List O
inductive Res (α : Type) where
  | ok (a : α) (st : Store) | exc (c : Nat) (v : D) (st : Store) | bad
abbrev M (α : Type) := Store → Res α
@[inline] def ret {α : Type} (a : α) : M α := fun st => .ok a st
def bnd {α β : Type} (m : M α) (f : α → M β) : M β := fun st => match m st with
  | .ok a st' => f a st'
  | .exc c v st' => .exc c v st'
  | .bad => .bad
def fail {α : Type} : M α := fun _ => .bad
def opt {α : Type} : Option α → M α
  | some a => ret a
  | none => fail
@[simp] theorem ret_ap {α : Type} (a : α) (st : Store) : ret a st = .ok a st := rfl
@[simp] theorem fail_ap {α : Type} (st : Store) : (fail : M α) st = .bad := rfl
@[simp] theorem opt_some {α : Type} (a : α) : opt (some a) = ret a := rfl
@[simp] theorem opt_none {α : Type} : opt (none : Option α) = fail := rfl
theorem bnd_ok {α β : Type} {m : M α} {f : α → M β} {st st' : Store} {a : α} (h : m st = .ok a st') : bnd m f st = f a st' := by unfold bnd; rw [h]
theorem bnd_ap {α β : Type} (m : M α) (f : α → M β) (st : Store) : bnd m f st = match m st with | .ok a st' => f a st' | .exc c v st' => .exc c v st' | .bad => .bad := rfl
@[simp] theorem bnd_ret {α β : Type} (a : α) (f : α → M β) : bnd (ret a) f = f a := rfl
@[simp] theorem bnd_fail {α β : Type} (f : α → M β) : bnd fail f = fail := rfl

mutual
/-- a plain datum as the library's -/
def D.py : D → PyData
  | .bl b => .bool b
  | .int i => .int i
  | .str x => .str x
  | .tup ds => .tuple (D.pys ds)
  | .lst ds => .list (D.pys ds)
  | _ => .none
def D.pys : List D → List PyData
  | [] => []
  | d :: ds => d.py :: D.pys ds
end
mutual
/-- any datum but places as the library's -/
def D.pd : D → PyData
  | .bl b => .bool b
  | .int i => .int i
  | .str x => .str x
  | .tup ds => .tuple (D.pds ds)
  | .lst ds => .list (D.pds ds)
  | .dct kvs => .dict (D.pdk kvs)
  | _ => .none
def D.pds : List D → List PyData
  | [] => []
  | d :: ds => d.pd :: D.pds ds
def D.pdk : List (D × D) → List (PyData × PyData)
  | [] => []
  | (k, d) :: r => (k.pd, d.pd) :: D.pdk r
end
def D.leafB : D → Bool
  | .int _ | .str _ => true
  | _ => false
mutual
/-- may be shown -/
def D.shw : D → Bool
  | .non | .bl _ => true
  | .int i => decide (i.natAbs.log2 < 1920)
  | .str x => x.cps.all fun c => decide (c < 1114112)
  | .tup ds | .lst ds => D.shws ds
  | .dct kvs => D.shwk kvs
  | .ref _ | .scr _ | .err _ _ => false
def D.shws : List D → Bool
  | [] => true
  | d :: ds => d.shw && D.shws ds
def D.shwk : List (D × D) → Bool
  | [] => true
  | (k, d) :: r => k.leafB && k.shw && d.shw && D.shwk r
end
mutual
/-- no text is longer -/
def D.shl : D → Nat
  | .non => 4
  | .bl _ => 5
  | .int _ => 1921
  | .str x => 10 * x.length + 2
  | .tup ds | .lst ds => D.shls ds + 3
  | .dct kvs => D.shlk kvs + 2
  | .ref _ | .scr _ | .err _ _ => 0
def D.shls : List D → Nat
  | [] => 0
  | d :: ds => d.shl + 2 + D.shls ds
def D.shlk : List (D × D) → Nat
  | [] => 0
  | (k, d) :: r => k.shl + 2 + d.shl + 2 + D.shlk r
end
/-! ### pure operations -/
mutual
/-- no place, no dict, no script within -/
def D.plain : D → Bool
  | .non | .bl _ | .int _ => true
  | .str x => x.cps.all fun c => decide (c < 1114112)
  | .tup ds | .lst ds => D.plainAll ds
  | .dct _ | .ref _ | .scr _ | .err _ _ => false
def D.plainAll : List D → Bool
  | [] => true
  | d :: ds => d.plain && D.plainAll ds
end
mutual
def D.depth : D → Nat
  | .non | .bl _ | .int _ | .str _ | .dct _ | .ref _ | .scr _ | .err _ _ => 0
  | .tup ds | .lst ds => D.depthAll ds + 1
def D.depthAll : List D → Nat
  | [] => 0
  | d :: ds => max d.depth (D.depthAll ds)
end
mutual
/-- == of plain data -/
def D.eqv : D → D → Bool
  | .non, .non => true
  | .bl a, .bl b => a == b
  | .bl a, .int j => (if a then 1 else 0) == j
  | .int i, .bl b => i == (if b then 1 else 0)
  | .int i, .int j => i == j
  | .str x, .str y => x == y
  | .lst xs, .lst ys => D.eqvAll xs ys
  | .tup xs, .tup ys => D.eqvAll xs ys
  | _, _ => false
def D.eqvAll : List D → List D → Bool
  | [], [] => true
  | x :: xs, y :: ys => D.eqv x y && D.eqvAll xs ys
  | _, _ => false
end
/-- data that == , in, a dict's key are told of -/
def D.eqOk (d : D) : Bool := d.plain && decide (d.depth ≤ 60)
def LIM : Nat := 1000000

inductive Bop where | add | sub | mul | fdiv | mod | pow
  deriving DecidableEq
def gMul (i j : Int) : Bool := decide (-(2 ^ 64) < i ∧ i < 2 ^ 64) || decide (-(2 ^ 64) < j ∧ j < 2 ^ 64)
def gPow (i j : Int) : Bool := decide (0 ≤ j ∧ j ≤ 1000) && decide (i.natAbs < 2 ^ 4000)
def binD : Bop → D → D → Option D
  | .add, .int i, .int j => some (.int (i + j))
  | .add, .lst a, .lst b => if a.length + b.length ≤ LIM then some (.lst (a ++ b)) else none
  | .add, .tup a, .tup b => if a.length + b.length ≤ LIM then some (.tup (a ++ b)) else none
  | .add, .str a, .str b => if a.length + b.length ≤ LIM then some (.str (a ++ b)) else none
  | .sub, .int i, .int j => some (.int (i - j))
  | .mul, .int i, .int j => if gMul i j then some (.int (i * j)) else none
  | .mul, .lst a, .int j => if 0 ≤ j ∧ j ≤ 1000 ∧ a.length ≤ 1000 then some (.lst (List.replicate j.toNat a).flatten) else none
  | .mul, .tup a, .int j => if 1 ≤ j ∧ j ≤ 1000 ∧ a.length ≤ 1000 then some (.tup (List.replicate j.toNat a).flatten) else none
  | .mul, .str a, .int j => if 0 ≤ j ∧ j ≤ 1000 ∧ a.length ≤ 1000 then some (.str (Txt.mul a j)) else none
  | .fdiv, .int i, .int j => if 0 < j ∧ j < 1073741824 then some (.int (i / j)) else none
  | .mod, .int i, .int j => if 0 < j then some (.int (i % j)) else none
  | .pow, .int i, .int j => if gPow i j then some (.int (i ^ j.toNat)) else none
  | _, _, _ => none

inductive Cop where | eq | ne | lt | le | gt | ge | is_ | isnot | in_ | notin
  deriving DecidableEq
def D.isNon : D → Bool
  | .non => true
  | _ => false
/-- the place of a key that is equal -/
def findK (k : D) : List (D × D) → Option D
  | [] => none
  | (x, y) :: r => if D.eqv x k then some y else findK k r
def putK (k v : D) : List (D × D) → List (D × D)
  | [] => [(k, v)]
  | (x, y) :: r => if D.eqv x k then (x, v) :: r else (x, y) :: putK k v r
mutual
def D.hash : D → Bool
  | .non | .bl _ | .int _ | .str _ => true
  | .tup ds => D.hashAll ds
  | _ => false
def D.hashAll : List D → Bool
  | [] => true
  | d :: ds => d.hash && D.hashAll ds
end
def D.isTup : D → Bool
  | .tup _ => true
  | _ => false
def headTup : List (D × D) → Bool
  | [] => true
  | (x, _) :: _ => x.isTup
/-- a key that a dict may be asked for: a tuple of dInts, texts, dBools, None, nested to depth 7 -/
def isStrK : D → Bool
  | .str _ => true
  | _ => false
/-- keys are texts -/
def headStr : List (D × D) → Bool
  | [] => true
  | (x, _) :: _ => isStrK x
def dKey (k : D) (kvs : List (D × D)) : Bool := k.isTup && k.hash && decide (k.depth ≤ 7) && headTup kvs
def cmpD : Cop → D → D → Option Bool
  | .eq, a, b => if a.eqOk && b.eqOk then some (a.eqv b) else none
  | .ne, a, b => if a.eqOk && b.eqOk then some (!a.eqv b) else none
  | .lt, .int i, .int j => some (decide (i < j))
  | .le, .int i, .int j => some (decide (i ≤ j))
  | .gt, .int i, .int j => some (decide (j < i))
  | .ge, .int i, .int j => some (decide (j ≤ i))
  | .is_, a, .non => some a.isNon
  | .isnot, a, .non => some (!a.isNon)
  | .in_, a, .tup ds => if a.eqOk && (D.tup ds).eqOk then some (ds.any fun z => z.eqv a) else none
  | .notin, a, .tup ds => if a.eqOk && (D.tup ds).eqOk then some (!ds.any fun z => z.eqv a) else none
  | .in_, a, .lst ds => if a.eqOk && (D.lst ds).eqOk then some (ds.any fun z => z.eqv a) else none
  | .notin, a, .lst ds => if a.eqOk && (D.lst ds).eqOk then some (!ds.any fun z => z.eqv a) else none
  | .in_, a, .dct kvs => if dKey a kvs then some (findK a kvs).isSome else none
  | .in_, .str x, .str y => match x.cps.toList with
    | [c] => some (y.cps.toList.contains c)
    | _ => none
  | .le, .str x, .str y => some (!decide (y.cps.toList < x.cps.toList))
  | .notin, a, .dct kvs => if dKey a kvs then some (!(findK a kvs).isSome) else none
  | _, _, _ => none
/-- the frozen look of a datum -/
def view (st : Store) : D → D
  | .ref i => match st[i]? with
    | some (.lst ds) => .lst ds
    | some (.dct kvs) => .dct kvs
    | _ => .ref i
  | d => d

/-- an index: from behind if below 0 -/
def ixN (n : Nat) (i : Int) : Option Nat := if 0 ≤ i then (if i < n then some i.toNat else none) else if -(n : Int) ≤ i then some (i + n).toNat else none
def atI {α : Type} (xs : List α) (i : Int) : Option α := (ixN xs.length i).bind fun j => xs[j]?
def idxD : D → D → Option D
  | .lst ds, .int i => atI ds i
  | .tup ds, .int i => atI ds i
  | .scr ns, .int i => (atI ns i).map .int
  | .str x, .int i => if x.length ≤ LIM then (atI x.cps.toList i).map fun c => .str ⟨#[c]⟩ else none
  | .dct kvs, .str k => if headStr kvs then findK (.str k) kvs else none
  | .dct kvs, k => if dKey k kvs then findK k kvs else none
  | _, _ => none
def cutL {α : Type} (xs : List α) (lo hi : Option Int) : List α := (xs.drop (HT.sIx xs.length 0 lo)).take (HT.sIx xs.length xs.length hi - HT.sIx xs.length 0 lo)
def slcD : D → Option Int → Option Int → Option D
  | .lst ds, lo, hi => some (.lst (cutL ds lo hi))
  | .tup ds, lo, hi => some (.tup (cutL ds lo hi))
  | .str x, lo, hi => if x.length ≤ LIM then some (.str (L2.cutS x lo hi)) else none
  | _, _, _ => none

inductive Ty where | int | bool | str | tuple | list | dict
  deriving DecidableEq
def isTy : Ty → D → Option Bool
  | _, .ref _ | _, .scr _ | _, .err _ _ => none
  | t, .dct [] | t, .dct ((.str _, _) :: _) => some (decide (t = .dict))
  | _, .dct _ => none
  | .int, .int _ | .int, .bl _ | .bool, .bl _ | .str, .str _ | .tuple, .tup _ | .list, .lst _ => some true
  | _, _ => some false
/-- all are dInts -/
def dInts : List D → Option (List Int)
  | [] => some []
  | .int i :: r => (dInts r).map (i :: ·)
  | _ :: _ => none
def dBools : List D → Option (List Bool)
  | [] => some []
  | .bl i :: r => (dBools r).map (i :: ·)
  | _ :: _ => none
def insI (x : Int) : List Int → List Int
  | [] => [x]
  | y :: r => if x ≤ y then x :: y :: r else y :: insI x r
def sortI : List Int → List Int
  | [] => []
  | x :: r => insI x (sortI r)
def maxI : List Int → Int
  | [] => 0
  | [x] => x
  | x :: r => max x (maxI r)
def minI : List Int → Int
  | [] => 0
  | [x] => x
  | x :: r => min x (minI r)
mutual
/-- < of data alike in form: dInts, texts of a like kind aside; tuples by their first unlike items -/
def D.ltv : D → D → Bool
  | .int i, .int j => decide (i < j)
  | .tup xs, .tup ys => D.ltvAll xs ys
  | _, _ => false
def D.ltvAll : List D → List D → Bool
  | [], [] => false
  | [], _ :: _ => true
  | _ :: _, [] => false
  | x :: xs, y :: ys => if D.eqv x y then D.ltvAll xs ys else D.ltv x y
end
def rangeD (lo hi : Int) : List D := (List.range (hi - lo).toNat).map fun (k : Nat) => .int (lo + k)
def gRng (i : Int) : Bool := decide (-1000000 ≤ i ∧ i ≤ 1000000)

/-- rows that may be sorted -/
def rowsOk (ds : List D) : Bool := D.plainAll ds && D.eqOk (.lst ds) && (ds.all fun a => ds.all fun b => PySem.W.alike a.py b.py) && (ds.all fun d => match d with | .tup (_ :: _) => true | _ => false) && decide (ds.length ≤ LIM)
def sortRows (ds : List D) : List D := ds.mergeSort (PySem.W.dataLe false D.py)
/-- built-in functions that read -/
inductive Bi where | len | abs | int | max | min | sum | all | any | list | tuple | sorted | sortedRows | isi (t : Ty) | repr | reprA
  deriving DecidableEq
def biD : Bi → List D → Option D
  | .len, [.lst ds] => some (.int ds.length)
  | .len, [.tup ds] => some (.int ds.length)
  | .len, [.scr ds] => some (.int ds.length)
  | .len, [.dct kvs] => some (.int kvs.length)
  | .len, [.str x] => if x.length ≤ LIM then some (.int x.length) else none
  | .abs, [.int i] => some (.int (if i < 0 then -i else i))
  | .int, [.int i] => some (.int i)
  | .int, [.bl b] => some (.int (if b then 1 else 0))
  | .max, [.int i, .int j] => some (.int (if j > i then j else i))
  | .min, [.int i, .int j] => some (.int (if j < i then j else i))
  | .max, [.lst ds] => match dInts ds with
    | some ns => if ns = [] then none else some (.int (maxI ns))
    | none => none
  | .min, [.lst ds] => match dInts ds with
    | some ns => if ns = [] then none else some (.int (minI ns))
    | none => none
  | .sum, [.lst ds] => (dInts ds).map fun ns => .int ns.sum
  | .all, [.lst ds] => (dBools ds).map fun bs => .bl (bs.all id)
  | .any, [.lst ds] => (dBools ds).map fun bs => .bl (bs.any id)
  | .list, [.lst ds] => some (.lst ds)
  | .list, [.tup ds] => some (.lst ds)
  | .list, [.dct kvs] => if headTup kvs then some (.lst (kvs.map (·.1))) else none
  | .tuple, [.lst ds] => some (.tup ds)
  | .tuple, [.tup ds] => some (.tup ds)
  | .tuple, [.dct kvs] => if headStr kvs then some (.tup (kvs.map (·.1))) else none
  | .sorted, [.lst ds] => match dInts ds with
    | some ns => if ns.length < 64 then some (.lst ((sortI ns).map .int)) else none
    | none => none
  | .isi t, [d] => (isTy t d).map .bl
  | .repr, [.int i] => if i.natAbs < 2 ^ 64 then some (.str (Str.ofString (toString i))) else none
  | .reprA, [d] => if d.shw && decide (d.pd.depth ≤ 60) && decide (d.shl ≤ LIM) then some (.str d.pd.shown) else none
  | .sortedRows, [.lst ds] => if rowsOk ds then some (.lst (sortRows ds)) else none
  | _, _ => none

/-! ### the trees -/
inductive X where
  | nil | cons (h t : X)
  | var (i : Nat) | peek (i : Nat) | lit (d : D) | glob (g : Nat)
  | tup (es : X) | lst (es : X) | new (es : X) | newd | star (e : X)
  | bin (o : Bop) (a b : X) | neg (a : X) | not_ (a : X) | and_ (es : X) | or_ (es : X) | ite (t a b : X)
  | cmp (o : Cop) (a b : X) | cmp2 (o o' : Cop) (a b c : X)
  | call (f : Nat) (as : X) | mk (c : Nat) (as : X) | cm (m : Nat) (o as : X) | bif (b : Bi) (as : X)
  | get (o k : X) | items (o : X)
  | fld (o : X) (f : Nat) | idx (a i : X) | slc (a lo hi : X)
  | rng (as : X) | src (e : X) | lrg (r : X) | lc (own : List Nat) (tg it t elt : X)
  -- what a name takes
  | pl (e : X) | own (e : X) | ownd (ks vs : X)
  -- statements
  | asg (i : Nat) (e : X) | tgt (tg e : X) | par (i j : Nat) (a b : X)
  | setI (o i e : X) | setF (o : X) (f : Nat) (e : X) | aug (i : Nat) (o : Bop) (e : X) | augF (o : X) (f : Nat) (b : Bop) (e : X)
  | app (i : Nat) (e : X) | ext (i : Nat) (e : X) | popo (j i : Nat) | popi (j i : Nat) (k : X) | putd (i : Nat) (k v : X) | freeze (i : Nat)
  | raise (c : Nat) (e : X) | xcall (f : Nat) (as : X) | q (s : X) | ifx (t b b' : X) | met (g : Nat) (ws : List (Nat × Str)) (as : X) | dct0 | dct1 (k : Str) (e : X) | puti (i : Nat) (k v : X)
  | ex (e : X) | if_ (t b b' : X) | for_ (tg it b : X) | while_ (t b : X) | rt (e : X) | rtN | pass_ | brk | cnt | never
  | tv (i : Nat) | tt (ts : X)
  | join (s e : X) | upper (e : X) | dcomp (own : List Nat) (tg it t k v : X) | dictOf (e : X) | exv (cs : List Nat) (e : X) | isx (c : Nat) (cs : List Nat) (e : X) | iso (c : Nat) (e : X) | enu (e : X) | sgn (e : X) | zip (a b : X) | prop (m : Nat) (o : X) | eqo (m : Nat) (a b : X) | cauM (cs : List Nat) (m : Nat) (o as : X) | cauF (cs : List Nat) (f : Nat) (as : X) | cauK (cs : List Nat) (c : Nat) (as : X) | lns (e : X) | rev (e : X) | ixo (l e : X) | vals (e : X) | isv (cs : List Nat) (e : X)
  deriving Inhabited

inductive Sl where | no | v (d : D) | ol (ds : List D) | od (kvs : List (D × D))
  deriving Inhabited
abbrev Env := List Sl
inductive Out where | nx (e : Env) | rt (d : D) | bk (e : Env) | ct (e : Env)

structure FD where
  np : Nat
  ns : Nat
  body : X
structure Prog where
  fn : Nat → FD
  mth : Nat → Nat → Option Nat
  ini : Nat → Option Nat
  glb : Nat → Option D
  hf : Nat → Nat → Bool
  fuel : Nat
abbrev Calls := Nat → List D → M D

/-! a target takes a datum -/
mutual
def bindT : X → D → Env → Option Env
  | .tv i, d, env => some (env.set i (.v d))
  | .tt ts, .tup ds, env => bindTs ts ds env
  | .tt ts, .lst ds, env => bindTs ts ds env
  | _, _, _ => none
def bindTs : X → List D → Env → Option Env
  | .nil, [], env => some env
  | .cons t ts, d :: ds, env => (bindT t d env).bind (bindTs ts ds)
  | _, _, _ => none
end
def wipe (env : Env) : List Nat → Env
  | [] => env
  | v :: vs => (wipe env vs).set v .no
/-- the items that a for walks -/
def itemsD : D → Option (List D)
  | .lst ds | .tup ds => some ds
  | _ => none
/-- places and items -/
def enumL : Nat → List D → List D
  | _, [] => []
  | i, d :: ds => .tup [.int i, d] :: enumL (i + 1) ds
def zipL : List D → List D → List D
  | x :: xs, y :: ys => .tup [x, y] :: zipL xs ys
  | _, _ => []
def dStrs : List D → Option (List Str)
  | [] => some []
  | .str x :: r => (dStrs r).map (x :: ·)
  | _ :: _ => none
/-- how many texts there are, each once -/
def distS : List Str → Nat
  | [] => 0
  | x :: r => (if r.contains x then 0 else 1) + distS r
/-- the first place of a text -/
def idxS (x : Str) : List Str → Option Nat
  | [] => none
  | y :: r => if y == x then some 0 else (idxS x r).map (· + 1)
/-- pairs with texts ahead as a dict's entries -/
def dOf : List D → List (D × D) → Option (List (D × D))
  | [], acc => some acc
  | .tup [.str k, v] :: r, acc => if (findK (.str k) acc).isNone then dOf r (acc ++ [(.str k, v)]) else none
  | _ :: _, _ => none
def mapL (f : D → M (Option D)) : List D → M (List D)
  | [] => ret []
  | d :: ds => bnd (f d) fun r => bnd (mapL f ds) fun rs => ret (match r with | some x => x :: rs | none => rs)
/-- a dict comprehension's turns -/
def dcL (f : D → M (Option (D × D))) : List D → List (D × D) → M (List (D × D))
  | [], acc => ret acc
  | d :: ds, acc => bnd (f d) fun r => match r with
    | some (k, v) => if isStrK k && (findK k acc).isNone then dcL f ds (acc ++ [(k, v)]) else fail
    | none => dcL f ds acc
def forL (f : D → Env → M Out) : List D → Env → M Out
  | [], env => ret (.nx env)
  | d :: ds, env => bnd (f d env) fun o => match o with
    | .nx e | .ct e => forL f ds e
    | .bk e => ret (.nx e)
    | .rt x => ret (.rt x)
def whileL (t : Env → M Bool) (b : Env → M Out) : Nat → Env → M Out
  | 0, _ => fail
  | n + 1, env => bnd (t env) fun c => if c then bnd (b env) fun o => match o with
      | .nx e | .ct e => whileL t b n e
      | .bk e => ret (.nx e)
      | .rt x => ret (.rt x)
    else ret (.nx env)
def blD : D → M Bool
  | .bl b => ret b
  | _ => fail
def intO : D → Option (Option Int)
  | .int i => some (some i)
  | _ => none
def getF (f : Nat) : List (Nat × D) → Option D
  | [] => none
  | (g, d) :: r => if g = f then some d else getF f r
def putF (f : Nat) (d : D) : List (Nat × D) → List (Nat × D)
  | [] => [(f, d)]
  | (g, x) :: r => if g = f then (g, d) :: r else (g, x) :: putF f d r
def rdF (f : Nat) : D → M D
  | .ref i => fun st => match st[i]? with
    | some (.ins _ fs) => match getF f fs with
      | some d => .ok d st
      | none => .bad
    | _ => .bad
  | _ => fail
def wrF (hf : Nat → Nat → Bool) (f : Nat) (d : D) : D → M Unit
  | .ref i => fun st => match st[i]? with
    | some (.ins c fs) => if fs.length ≤ 100 ∧ hf c f = true then .ok () (st.set i (.ins c (putF f d fs))) else .bad
    | _ => .bad
  | _ => fail
def wrI (k d : D) : D → M Unit
  | .ref i => fun st => match st[i]? with
    | some (.lst ds) => match k with
      | .int n => match ixN ds.length n with
        | some j => .ok () (st.set i (.lst (ds.set j d)))
        | none => .bad
      | _ => .bad
    | some (.dct kvs) => if dKey k kvs && decide (kvs.length < LIM) then .ok () (st.set i (.dct (putK k d kvs))) else .bad
    | _ => .bad
  | _ => fail
def alloc (o : O) : M D := fun st => .ok (.ref st.length) (st ++ [o])
def clsOf : D → M (Nat × Nat)
  | .ref i => fun st => match st[i]? with
    | some (.ins c _) => .ok (c, i) st
    | _ => .bad
  | _ => fail

def vw (d : D) : M D := fun st => .ok (view st d) st
def vws (ds : List D) : M (List D) := fun st => .ok (ds.map (view st)) st
def dctT : D → Bool
  | .dct kvs => headTup kvs
  | _ => false
def dItems (kvs : List (D × D)) : D := .lst (kvs.map fun p => .tup [p.1, p.2])
/-- an error is no answer here -/
def noX {α : Type} (m : M α) : M α := fun st => match m st with
  | .ok a st' => .ok a st'
  | _ => .bad
/-- asked where the table of code objects stands first in the store -/
def tab0 {α : Type} (m : M α) : M α := fun (st : Store) => match st[0]? with
  | some O.tbl => m st
  | _ => .bad
/-- what a def tells of a call: (word of the error, its value) -/
def metR (ws : List (Nat × Str)) : Res D → Res D
  | .ok _ st => .ok (.tup [.str "none", .non]) st
  | .exc c v st => match ws.lookup c with
    | some w => .ok (.tup [.str w, v]) st
    | none => .bad
  | .bad => .bad
/-- what an object of the class c may be compared with -/
def eqoOk (c : Nat) : D → M Unit
  | .ref j => fun st => match st[j]? with
    | some (.ins c' _) => if c' = c then .ok () st else .bad
    | _ => .bad
  | .tup _ | .lst _ => ret ()
  | _ => fail
/-- what a def that keeps the error tells of a call -/
def cauR (cs : List Nat) : Res D → Res D
  | .ok _ st => .ok .non st
  | .exc c v st => if cs.contains c then .ok (.err c v) st else .bad
  | .bad => .bad
/-- what __init__ tells -/
def mkR : Res D → Res D
  | .ok .non st => .ok .non st
  | .exc c v st => .exc c v st
  | _ => .bad
section
variable (P : Prog) (cf : Calls)
mutual
def evE : X → Env → M D
  | .var i, env => match env[i]? with
    | some (.v d) => ret d
    | _ => fail
  | .peek i, env => match env[i]? with
    | some (.ol ds) => ret (.lst ds)
    | some (.od kvs) => ret (.dct kvs)
    | _ => fail
  | .lit d, _ => ret d
  | .glob g, _ => opt (P.glb g)
  | .tup es, env => bnd (evA es env) fun ds => if ds.length ≤ LIM then ret (.tup ds) else fail
  | .lst es, env => bnd (evA es env) fun ds => if ds.length ≤ LIM then ret (.lst ds) else fail
  | .new es, env => bnd (evA es env) fun ds => if ds.length ≤ LIM then alloc (.lst ds) else fail
  | .newd, _ => alloc (.dct [])
  | .bin o a b, env => bnd (evE a env) fun x => bnd (evE b env) fun y => bnd (vw x) fun x => bnd (vw y) fun y => opt (binD o x y)
  | .neg a, env => bnd (evE a env) fun x => match x with
    | .int i => ret (.int (-i))
    | _ => fail
  | .not_ a, env => bnd (bnd (evE a env) blD) fun b => ret (.bl (!b))
  | .and_ es, env => evAnd es env
  | .or_ es, env => evOr es env
  | .ite t a b, env => bnd (bnd (evE t env) blD) fun c => if c then evE a env else evE b env
  | .cmp o a b, env => bnd (evE a env) fun x => bnd (evE b env) fun y => bnd (vw x) fun x => bnd (vw y) fun y => bnd (opt (cmpD o x y)) fun r => ret (.bl r)
  | .cmp2 o o' a b c, env => bnd (evE a env) fun x => bnd (evE b env) fun y => bnd (opt (cmpD o x y)) fun r =>
      if r then bnd (evE c env) fun z => bnd (opt (cmpD o' y z)) fun r => ret (.bl r) else ret (.bl false)
  | .call f as, env => bnd (evA as env) fun ds => cf f ds
  | .mk c as, env => bnd (evA as env) fun ds => bnd (alloc (.ins c [])) fun r => match P.ini c with
    | some f => bnd (cf f (r :: ds)) fun x => match x with
      | .non => ret r
      | _ => fail
    | none => fail
  | .cm m o as, env => bnd (evE o env) fun x => bnd (clsOf x) fun c => match P.mth c.1 m with
    | some f => bnd (evA as env) fun ds => cf f (x :: ds)
    | none => fail
  | .bif b as, env => bnd (evV as env) fun ds => bnd (vws ds) fun ds => opt (biD b ds)
  | .get o k, env => bnd (evE o env) fun x => bnd (vw x) fun x0 => if dctT x0 then bnd (evE k env) fun y => bnd (vw x) fun x => (match x with
    | .dct kvs => if dKey y kvs then ret ((findK y kvs).getD .non) else fail
    | _ => fail) else fail
  | .fld o f, env => bnd (evE o env) fun x => rdF f x
  | .idx a i, env => bnd (evE a env) fun x => bnd (evE i env) fun y => bnd (vw x) fun x => opt (idxD x y)
  | .slc a lo hi, env => bnd (evE a env) fun x => bnd (evO lo env) fun l => bnd (evO hi env) fun h => bnd (vw x) fun x => opt (slcD x l h)
  | .lrg r, env => bnd (evIt r env) fun ds => ret (.lst ds)
  | .dct0, _ => ret (.dct [])
  | .dct1 k e, env => bnd (evE e env) fun d => ret (.dct [(.str k, d)])
  | .met g ws as, env => tab0 (bnd (noX (evA as env)) fun ds st => metR ws (cf g ds st))
  | .join s e, env => bnd (evE s env) fun x => bnd (evE e env) fun y => match x, y with
    | .str a, .lst ds => match dStrs ds with
      | some ys => if (ys.map (·.length)).sum + ys.length * a.length ≤ LIM then ret (.str (Txt.join a ys)) else fail
      | none => fail
    | _, _ => fail
  | .upper e, env => bnd (evE e env) fun x => match x with
    | .str a => if a.length ≤ LIM then ret (.str (Txt.upper a)) else fail
    | _ => fail
  | .dictOf e, env => bnd (evE e env) fun x => match x with
    | .lst ds => if ds.length ≤ LIM then bnd (opt (dOf ds [])) fun kvs => ret (.dct kvs) else fail
    | _ => fail
  | .exv cs e, env => bnd (evE e env) fun x => match x with
    | .err c v => if cs.contains c then ret v else fail
    | _ => fail
  | .isx c cs e, env => bnd (evE e env) fun x => match x with
    | .err c' _ => if cs.contains c' then ret (.bl (c' == c)) else fail
    | _ => fail
  | .iso c e, env => bnd (evE e env) fun x => match x with
    | .ref i => fun st => match st[i]? with
      | some (.ins c' _) => if c' = c then .ok (.bl true) st else .bad
      | _ => .bad
    | .scr _ | .err _ _ | .dct _ => fail
    | _ => ret (.bl false)
  | .prop m o, env => bnd (evE o env) fun x => bnd (clsOf x) fun c => match P.mth c.1 m with
    | some f => cf f [x]
    | none => fail
  | .eqo m a b, env => bnd (evE a env) fun x => bnd (evE b env) fun y => bnd (clsOf x) fun c => bnd (eqoOk c.1 y) fun _ => match P.mth c.1 m with
    | some f => cf f [x, y]
    | none => fail
  | .cauM cs m o as, env => tab0 (bnd (noX (evE o env)) fun x => bnd (noX (clsOf x)) fun c => match P.mth c.1 m with
    | some f => bnd (noX (evA as env)) fun ds st => cauR cs (cf f (x :: ds) st)
    | none => fail)
  | .lns e, env => bnd (evE e env) fun x => match x with
    | .lst ds => match dStrs ds with
      | some ys => if ys.length ≤ 1000 then ret (.int (distS ys)) else fail
      | none => fail
    | _ => fail
  | .rev e, env => bnd (evE e env) fun x => match x with
    | .lst ds => if ds.length ≤ LIM then ret (.lst ds.reverse) else fail
    | .tup ds => if ds.length ≤ LIM then ret (.tup ds.reverse) else fail
    | _ => fail
  | .ixo l e, env => bnd (evE l env) fun x => bnd (evE e env) fun y => match x, y with
    | .lst ds, .str z => match dStrs ds with
      | some ys => (match idxS z ys with
        | some k => if ys.length ≤ 1000 then ret (.int k) else fail
        | none => fail)
      | none => fail
    | _, _ => fail
  | .isv cs e, env => bnd (evE e env) fun x => match x with
    | .err c _ => if cs.contains c then ret (.bl true) else fail
    | _ => fail
  | .cauK cs c as, env => tab0 (bnd (noX (evA as env)) fun ds => bnd (alloc (.ins c [])) fun r => match P.ini c with
    | some f => fun st => cauR cs (mkR (cf f (r :: ds) st))
    | none => fail)
  | .cauF cs f as, env => tab0 (bnd (noX (evA as env)) fun ds st => cauR cs (cf f ds st))
  | .dcomp own tg it t k v, env => bnd (evIt it env) fun ds => if ds.length ≤ LIM then
      bnd (dcL (fun d => match bindT tg d (wipe env own) with
        | some e => bnd (bnd (evE t e) blD) fun c => if c then bnd (evE k e) fun x => bnd (evE v e) fun y => ret (some (x, y)) else ret none
        | none => fail) ds []) fun kvs => ret (.dct kvs)
      else fail
  | .lc own tg it t elt, env => bnd (evIt it env) fun ds => if ds.length ≤ LIM then
      bnd (mapL (fun d => match bindT tg d (wipe env own) with
        | some e => bnd (bnd (evE t e) blD) fun c => if c then bnd (evE elt e) fun y => ret (some y) else ret none
        | none => fail) ds) fun rs => ret (.lst rs)
      else fail
  | _, _ => fail
/-- arguments, items of a display (a star for a list within) -/
def evA : X → Env → M (List D)
  | .nil, _ => ret []
  | .cons (.star e) r, env => bnd (evIt e env) fun ds => bnd (evA r env) fun es => ret (ds ++ es)
  | .cons e r, env => bnd (evE e env) fun d => bnd (evA r env) fun ds => ret (d :: ds)
  | _, _ => fail
/-- arguments that may be peeked at -/
def evV : X → Env → M (List D)
  | .nil, _ => ret []
  | .cons e r, env => bnd (evE e env) fun d => bnd (evV r env) fun ds => ret (d :: ds)
  | _, _ => fail
def evO : X → Env → M (Option Int)
  | .nil, _ => ret none
  | .cons e _, env => bnd (evE e env) fun d => opt (intO d)
  | _, _ => fail
/-- what a for, a star walks -/
def evIt : X → Env → M (List D)
  | .rng (.cons a .nil), env => bnd (evE a env) fun x => match x with
    | .int j => if gRng j then ret (rangeD 0 j) else fail
    | _ => fail
  | .rng (.cons a (.cons b .nil)), env => bnd (evE a env) fun x => bnd (evE b env) fun y => match x, y with
    | .int i, .int j => if gRng i && gRng j then ret (rangeD i j) else fail
    | _, _ => fail
  | .items o, env => bnd (evE o env) fun x => bnd (vw x) fun x => match x with
    | .dct kvs => if headTup kvs then ret (kvs.map fun p => .tup [p.1, p.2]) else fail
    | _ => fail
  | .src e, env => bnd (evE e env) fun x => opt (itemsD x)
  | .sgn e, env => bnd (evE e env) fun x => match x with
    | .str x => ret (x.cps.toList.map fun c => .str ⟨#[c]⟩)
    | _ => fail
  | .enu e, env => bnd (evE e env) fun x => match x with
    | .lst ds => ret (enumL 0 ds)
    | _ => fail
  | .vals e, env => bnd (evE e env) fun x => match x with
    | .dct (p :: r) => if headStr (p :: r) then ret ((p :: r).map (·.2)) else fail
    | _ => fail
  | .zip a b, env => bnd (evE a env) fun x => bnd (evE b env) fun y => match x, y with
    | .lst ds, .lst es => ret (zipL ds es)
    | _, _ => fail
  | _, _ => fail
def evAnd : X → Env → M D
  | .cons e .nil, env => evE e env
  | .cons e r, env => bnd (bnd (evE e env) blD) fun c => if c then evAnd r env else ret (.bl false)
  | _, _ => fail
def evOr : X → Env → M D
  | .cons e .nil, env => evE e env
  | .cons e r, env => bnd (bnd (evE e env) blD) fun c => if c then ret (.bl true) else evOr r env
  | _, _ => fail
end
def evSl : X → Env → M Sl
  | .pl e, env => bnd (evE P cf e env) fun d => ret (.v d)
  | .own e, env => bnd (evE P cf e env) fun d => match d with
    | .lst ds => ret (.ol ds)
    | _ => fail
  | .ownd .nil .nil, _ => ret (.od [])
  | .ownd (.cons k .nil) (.cons v .nil), env => bnd (evE P cf k env) fun x => bnd (evE P cf v env) fun y => if dKey x [] then ret (.od [(x, y)]) else fail
  | _, _ => fail
def augOk : D → Bool
  | .int _ => true
  | _ => false
mutual
def evS : X → Env → M Out
  | .asg i e, env => bnd (evSl P cf e env) fun s => ret (.nx (env.set i s))
  | .tgt tg e, env => bnd (evE P cf e env) fun d => bnd (opt (bindT tg d env)) fun e => ret (.nx e)
  | .par i j a b, env => bnd (evSl P cf a env) fun x => bnd (evSl P cf b env) fun y => ret (.nx ((env.set i x).set j y))
  | .setI o i e, env => bnd (evE P cf e env) fun d => bnd (evE P cf o env) fun x => bnd (evE P cf i env) fun k => bnd (wrI k d x) fun _ => ret (.nx env)
  | .setF o f e, env => bnd (evE P cf e env) fun d => bnd (evE P cf o env) fun x => bnd (wrF P.hf f d x) fun _ => ret (.nx env)
  | .aug i o e, env => match env[i]? with
    | some (.v d) => bnd (evE P cf e env) fun y => if augOk d then bnd (opt (binD o d y)) fun r => ret (.nx (env.set i (.v r))) else fail
    | _ => fail
  | .augF o f b e, env => bnd (evE P cf o env) fun x => bnd (clsOf x) fun c1 => bnd (rdF f x) fun d => bnd (evE P cf e env) fun y => bnd (clsOf x) fun c2 => if augOk d && c1.1 == c2.1 then bnd (opt (binD b d y)) fun r => bnd (wrF P.hf f r x) fun _ => ret (.nx env) else fail
  | .app i e, env => bnd (evE P cf e env) fun d => match env[i]? with
    | some (.ol ds) => if ds.length < LIM then ret (.nx (env.set i (.ol (ds ++ [d])))) else fail
    | _ => fail
  | .ext i e, env => bnd (evE P cf e env) fun d => match env[i]?, d with
    | some (.ol ds), .lst es => if ds.length + es.length ≤ LIM then ret (.nx (env.set i (.ol (ds ++ es)))) else fail
    | _, _ => fail
  | .popo j i, env => match env[i]? with
    | some (.ol ds) => match ds[ds.length - 1]? with
      | some d => ret (.nx ((env.set i (.ol ds.dropLast)).set j (.v d)))
      | none => fail
    | _ => fail
  | .popi j i k, env => bnd (evE P cf k env) fun x => match env[i]?, x with
    | some (.ol ds), .int n => if ds.length ≤ LIM then (match ixN ds.length n with
      | some m => match ds[m]? with
        | some d => ret (.nx ((env.set i (.ol (ds.eraseIdx m))).set j (.v d)))
        | none => fail
      | none => fail) else fail
    | _, _ => fail
  | .putd i k v, env => bnd (evE P cf v env) fun d => bnd (evE P cf k env) fun x => match env[i]? with
    | some (.od kvs) => if dKey x kvs && decide (kvs.length < LIM) then ret (.nx (env.set i (.od (putK x d kvs)))) else fail
    | _ => fail
  | .freeze i, env => match env[i]? with
    | some (.ol ds) => ret (.nx (env.set i (.v (.lst ds))))
    | some (.od kvs) => ret (.nx (env.set i (.v (.dct kvs))))
    | _ => fail
  | .raise c e, env => bnd (noX (evE P cf e env)) fun d st => .exc c d st
  | .xcall f as, env => bnd (noX (evA P cf as env)) fun ds => bnd (cf f ds) fun _ => ret (.nx env)
  | .q s, env => noX (evS s env)
  | .ifx t b b', env => bnd (noX (bnd (evE P cf t env) blD)) fun c => if c then evB b env else evB b' env
  | .puti i k v, env => bnd (evE P cf v env) fun d => bnd (evE P cf k env) fun x => match env[i]?, x with
    | some (.ol ds), .int n => match ixN ds.length n with
      | some j => ret (.nx (env.set i (.ol (ds.set j d))))
      | none => fail
    | _, _ => fail
  | .ex e, env => bnd (evE P cf e env) fun _ => ret (.nx env)
  | .if_ t b b', env => bnd (bnd (evE P cf t env) blD) fun c => if c then evB b env else evB b' env
  | .for_ tg it b, env => bnd (evIt P cf it env) fun ds => forL (fun d e => match bindT tg d e with
      | some e => evB b e
      | none => fail) ds env
  | .while_ t b, env => whileL (fun e => bnd (evE P cf t e) blD) (fun e => evB b e) P.fuel env
  | .rt e, env => bnd (evE P cf e env) fun d => ret (.rt d)
  | .rtN, _ => ret (.rt .non)
  | .pass_, env => ret (.nx env)
  | .brk, env => ret (.bk env)
  | .cnt, env => ret (.ct env)
  | _, _ => fail
def evB : X → Env → M Out
  | .nil, env => ret (.nx env)
  | .cons s b, env => bnd (evS s env) fun o => match o with
    | .nx e => evB b e
    | o => ret o
  | _, _ => fail
end
/-- a def called -/
def runF (fd : FD) (ds : List D) : M D :=
  if ds.length = fd.np then bnd (evB P cf fd.body (ds.map .v ++ List.replicate (fd.ns - fd.np) .no)) fun o => match o with
    | .rt d => ret d
    | .nx _ => ret .non
    | _ => fail
  else fail
end
def callN (P : Prog) : Nat → Calls
  | 0 => fun _ _ => fail
  | n + 1 => fun f ds => runF P (callN P n) (P.fn f) ds
end PD
end ZPDCore
section ZPDErr
set_option Elab.async false
set_option linter.all false
set_option maxRecDepth 100000
set_option maxHeartbeats 1000000
namespace PD
open PySem PySem.Spec L2 PyProof.Rows
def erF : Str := "value"
/-- at a: an error of the class cls with its dict at d -/
def ExnO (cls : Value) (d : Option Addr) (a : Addr) : HO := .ext fun h => ∃ (oe : Obj) (vs : Array Value), h.get? a = some oe ∧ Zc cls d oe ∧ oe.data = .fields vs
theorem exnO_ok {P : Program} {w : World} {H : Hp} {h : Heap} {a : Addr} {cls : Value} {d : Option Addr} {oe : Obj} {vs : Array Value} (e : h.get? a = some oe) (z : Zc cls d oe) (dd : oe.data = .fields vs) : ObjOk P w H h a (ExnO cls d a) :=
  ⟨⟨oe, vs, e, z, dd⟩, ⟨oe, e⟩, fun _ _ ⟨o, v, q, r⟩ k => ⟨o, v, k o q, r⟩⟩
end PD
end ZPDErr
section ZPDRep
set_option Elab.async false
set_option linter.all false
set_option maxRecDepth 100000
set_option maxHeartbeats 1000000
namespace PD
open PySem L2

/-- where things stand -/
structure Tb where
  P : Program
  w : World
  K : PySem.W.Frag
  mg : Str → Option Value
  ca : Nat → Addr
  nm : Nat → Str
  hf : Nat → Nat → Bool
  /-- the table of a def's code objects, the name of its lambdas -/
  tb : Addr
  tq : Str

def leafK : D → Option Key
  | .int i => some (.inl i)
  | .str x => some (.inr x)
  | _ => none
mutual
def nkL : D → Option NestedKey
  | .non => some .none
  | .bl b => some (.num (if b then 1 else 0))
  | .int i => some (.num i)
  | .str x => some (.text x)
  | .tup ds => (nkLs ds).map .tup
  | _ => none
def nkLs : List D → Option (List NestedKey)
  | [] => some []
  | d :: ds => match nkL d, nkLs ds with
    | some k, some ks => some (k :: ks)
    | _, _ => none
end
/-- a dict with tuples as keys, its entries as they stand -/
def nDct (P : Program) (w : World) (ob : Obj) (es : List (NestedKey × Addr × V)) (a : Addr) : HO := .ext fun h =>
  es.length ≤ sizeLine ∧ (a == sysModules) = false ∧ ∃ xs : List (NestedKey × Addr × Value), Paired (fun (p : NestedKey × Addr × V) (q : NestedKey × Addr × Value) => p.1 = q.1 ∧ p.2.1 = q.2.1 ∧ RelV p.2.2 q.2.2) es xs ∧
    ∃ ents ep, h.get? a = some ob ∧ ob.ExactDict ∧ ob.data = .dict ents ep ∧ ents.toList = xs.map (entryOfKey (nestedKind P w)) ∧ (xs.map (·.1)).Nodup

def TupAt (T : Tb) (H : Hp) (F : Addr → Prop) (a : Addr) (xs : List V) : Prop := (H a = some (.tup xs) ∧ ¬ F a) ∨
    ∃ (o : Obj) (its : Array Value) (n : Nat), T.K.lookup a = some o ∧ o.cls = .type "tuple" ∧ o.data = .seq its n ∧ its.size ≤ sizeLine ∧ Vals xs its.toList
theorem TupAt.sq {T : Tb} {H : Hp} {F : Addr → Prop} {a : Addr} {xs : List V} (h : TupAt T H F a xs) : SqT T.K H a xs := by
  rcases h with h | h
  · exact .inl (.inl h.1)
  · exact .inr h

def ScrAt (T : Tb) (H : Hp) (F : Addr → Prop) (a : Addr) (xs : List V) : Prop := (Rd H a (.lst xs) ∧ ¬ F a) ∨
    ∃ (o : Obj) (its : Array Value) (n : Nat), T.K.lookup a = some o ∧ o.cls = .type "list" ∧ o.dict = none ∧ o.data = .seq its n ∧ its.size ≤ sizeLine ∧ Vals xs its.toList
theorem ScrAt.sq {T : Tb} {H : Hp} {F : Addr → Prop} {a : Addr} {xs : List V} (h : ScrAt T H F a xs) : SqL T.K H a xs := by
  rcases h with h | h
  · exact .inl h.1
  · exact .inr h

/-- a dict of leaf keys, that stays as it is -/
def DK (H : Hp) (a : Addr) (es : List (Key × V)) : Prop := (es = [] ∧ H a = some (.dK es)) ∨ (es ≠ [] ∧ ∃ ob, H a = some (.frz ob (.dK es)))
theorem DK.rd {H : Hp} {a : Addr} {es : List (Key × V)} (h : DK H a es) : L2.Rd H a (.dK es) := by
  rcases h with ⟨_, h⟩ | ⟨_, ob, h⟩
  · exact .inl h
  · exact .inr ⟨ob, h⟩
theorem DK.ex {H : Hp} {a : Addr} {es : List (Key × V)} (h : DK H a es) : ∃ o, H a = some o := by
  rcases h with ⟨_, h⟩ | ⟨_, ob, h⟩ <;> exact ⟨_, h⟩
theorem DK.mv {H H' : Hp} {a : Addr} {es : List (Key × V)} (k : ∀ o, H a = some o → H' a = some o) (h : DK H a es) : DK H' a es := by
  rcases h with ⟨n, h⟩ | ⟨n, ob, h⟩
  · exact .inl ⟨n, k _ h⟩
  · exact .inr ⟨n, ob, k _ h⟩
theorem DK.nil {H : Hp} {a : Addr} (h : H a = some (.dK [])) : DK H a [] := .inl ⟨rfl, h⟩
section
variable (T : Tb) (H : Hp) (F : Addr → Prop) (μ : List Addr)
mutual
/-- the value that a datum is -/
def Rep : D → V → Prop
  | .non, v => v = .non
  | .bl b, v => v = .bl b
  | .int i, v => v = .int i
  | .str x, v => v = .str x
  | .tup ds, v => ∃ a xs, v = .ref a ∧ TupAt T H F a xs ∧ Reps ds xs
  | .lst ds, v => ∃ a xs, v = .ref a ∧ H a = some (.lst xs) ∧ ¬ F a ∧ Reps ds xs
  | .dct kvs, v => ∃ a, v = .ref a ∧ ¬ F a ∧ ((∃ es, DK H a es ∧ KVl kvs es) ∨ ∃ es ob, es ≠ [] ∧ H a = some (nDct T.P T.w ob es a) ∧ KVn kvs es)
  | .ref i, v => ∃ a, v = .ref a ∧ μ[i]? = some a
  | .scr ns, v => ∃ a, v = .ref a ∧ ScrAt T H F a (ns.map V.int)
  | .err c d, v => ∃ a dd w, v = .ref a ∧ H a = some (ExnO (.ref (T.ca c)) (some dd) a) ∧ ¬ F a ∧ H dd = some (.xd [(erF, w)]) ∧ ¬ F dd ∧ Rep d w
def Reps : List D → List V → Prop
  | [], xs => xs = []
  | d :: ds, xs => ∃ x r, xs = x :: r ∧ Rep d x ∧ Reps ds r
def KVl : List (D × D) → List (Key × V) → Prop
  | [], es => es = []
  | (k, d) :: r, es => ∃ q x r', es = (q, x) :: r' ∧ leafK k = some q ∧ Rep d x ∧ KVl r r'
def KVn : List (D × D) → List (NestedKey × Addr × V) → Prop
  | [], es => es = []
  | (k, d) :: r, es => ∃ n q x r', es = (n, q, x) :: r' ∧ (nkL k = some n ∧ n.depth ≤ 8) ∧ Rep k (.ref q) ∧ Rep d x ∧ KVn r r'
end
def LstC (a : Addr) (ds : List D) : Prop := ∃ xs, H a = some (.lst xs) ∧ Reps T H F μ ds xs
def DctC (a : Addr) (kvs : List (D × D)) : Prop := (∃ es, DK H a es ∧ KVl T H F μ kvs es) ∨ ∃ es ob, es ≠ [] ∧ H a = some (nDct T.P T.w ob es a) ∧ KVn T H F μ kvs es
/-- as Rep, the outermost list or dict perhaps one of the frame's own -/
def Pk : D → V → Prop
  | .lst ds, v => ∃ a, v = .ref a ∧ a ∉ μ ∧ LstC T H F μ a ds
  | .dct kvs, v => ∃ a, v = .ref a ∧ a ∉ μ ∧ DctC T H F μ a kvs
  | d, v => Rep T H F μ d v
/-- as it looks just now -/
def Top : D → V → Prop
  | .lst ds, v => ∃ a, v = .ref a ∧ LstC T H F μ a ds
  | .dct kvs, v => ∃ a, v = .ref a ∧ DctC T H F μ a kvs
  | d, v => Rep T H F μ d v
/-- the fields of an instance -/
def Flds : List (Nat × D) → List (Str × V) → Prop
  | [], xs => xs = []
  | (f, d) :: r, xs => ∃ x r', xs = (T.nm f, x) :: r' ∧ Rep T H F μ d x ∧ Flds r r'
def ORep (a : Addr) : O → Prop
  | .lst ds => LstC T H F μ a ds
  | .dct kvs => DctC T H F μ a kvs
  | .ins c fs => ∃ dx xs, H a = some (.ins (T.ca c) dx xs) ∧ dx ∉ μ ∧ H dx = some (.own a) ∧ Flds T H F μ fs xs ∧ Cls T.K (T.ca c) ∧ ∀ p ∈ fs, T.hf c p.1 = true
  | .tbl => a = T.tb ∧ ∃ ps : Array Value, H a = some (.tbl ps) ∧ TriplesOk ps.toList ∧ ∀ (pos : Pos) (cv : Value), codeAmong pos ps.toList = some cv → ∃ c, cv = .ref c ∧ H c = some (LamX.CodeO c T.tq) ∧ ¬ F c
end

/-- what was known stays, but at places that may change -/
def Keep (μ : List Addr) (H H' : Hp) : Prop := ∀ a o, H a = some o → a ∉ μ → H' a = some o
theorem Keep.refl {μ : List Addr} {H : Hp} : Keep μ H H := fun _ _ h _ => h
section
variable {T : Tb} {H H' : Hp} {F F' : Addr → Prop} {μ μ' : List Addr}
structure Mv (H H' : Hp) (F F' : Addr → Prop) (μ μ' : List Addr) : Prop where
  kp : ∀ a o, H a = some o → ¬ F a → H' a = some o
  fb : ∀ a, F' a → F a ∨ H a = none
  mu : μ <+: μ'
theorem prefix_get {α : Type} {l l' : List α} (h : l <+: l') {i : Nat} {a : α} (e : l[i]? = some a) : l'[i]? = some a := by
  obtain ⟨t, rfl⟩ := h
  obtain ⟨hl, _⟩ := List.getElem?_eq_some_iff.mp e
  rw [List.getElem?_append_left hl]; exact e
theorem TupAt.mv {a : Addr} {xs : List V} (m : Mv H H' F F' μ μ') (h : TupAt T H F a xs) : TupAt T H' F' a xs := by
  rcases h with ⟨h1, h2⟩ | h
  · refine .inl ⟨m.kp _ _ h1 h2, fun z => ?_⟩
    rcases m.fb _ z with z | z
    · exact h2 z
    · rw [h1] at z; cases z
  · exact .inr h
theorem Mv.no (m : Mv H H' F F' μ μ') {a : Addr} {o : HO} (h1 : H a = some o) (h2 : ¬ F a) : ¬ F' a := fun z => by
  rcases m.fb _ z with z | z
  · exact h2 z
  · rw [h1] at z; cases z
mutual
theorem Rep.mv (m : Mv H H' F F' μ μ') : ∀ (d : D) (v : V), Rep T H F μ d v → Rep T H' F' μ' d v
  | .non, _, h => by simp only [Rep] at h ⊢; exact h
  | .bl _, _, h => by simp only [Rep] at h ⊢; exact h
  | .int _, _, h => by simp only [Rep] at h ⊢; exact h
  | .str _, _, h => by simp only [Rep] at h ⊢; exact h
  | .tup ds, _, h => by
    simp only [Rep] at h ⊢
    obtain ⟨a, xs, e, h1, h2⟩ := h
    exact ⟨a, xs, e, h1.mv m, Reps.mv m ds xs h2⟩
  | .lst ds, _, h => by
    simp only [Rep] at h ⊢
    obtain ⟨a, xs, e, h1, h2, h3⟩ := h
    exact ⟨a, xs, e, m.kp _ _ h1 h2, m.no h1 h2, Reps.mv m ds xs h3⟩
  | .dct kvs, _, h => by
    simp only [Rep] at h ⊢
    obtain ⟨a, e, h2, h⟩ := h
    rcases h with ⟨es, h1, h3⟩ | ⟨es, ob, n, h1, h3⟩
    · exact ⟨a, e, m.no h1.ex.choose_spec h2, .inl ⟨es, h1.mv fun o q => m.kp _ _ q h2, KVl.mv m kvs es h3⟩⟩
    · exact ⟨a, e, m.no h1 h2, .inr ⟨es, ob, n, m.kp _ _ h1 h2, KVn.mv m kvs es h3⟩⟩
  | .ref i, _, h => by
    simp only [Rep] at h ⊢
    obtain ⟨a, e, h1⟩ := h
    exact ⟨a, e, prefix_get m.mu h1⟩
  | .scr ns, _, h => by
    simp only [Rep] at h ⊢
    obtain ⟨a, e, h⟩ := h
    refine ⟨a, e, ?_⟩
    rcases h with ⟨h | ⟨o, h⟩, h2⟩ | h
    · exact .inl ⟨.inl (m.kp _ _ h h2), m.no h h2⟩
    · exact .inl ⟨.inr ⟨o, m.kp _ _ h h2⟩, m.no h h2⟩
    · exact .inr h
  | .err c d, _, h => by
    simp only [Rep] at h ⊢
    obtain ⟨a, dd, w, e, h1, h2, h3, h4, h5⟩ := h
    exact ⟨a, dd, w, e, m.kp _ _ h1 h2, m.no h1 h2, m.kp _ _ h3 h4, m.no h3 h4, Rep.mv m d w h5⟩
theorem Reps.mv (m : Mv H H' F F' μ μ') : ∀ (ds : List D) (xs : List V), Reps T H F μ ds xs → Reps T H' F' μ' ds xs
  | [], _, h => by simp only [Reps] at h ⊢; exact h
  | d :: ds, _, h => by
    simp only [Reps] at h ⊢
    obtain ⟨x, r, e, h1, h2⟩ := h
    exact ⟨x, r, e, Rep.mv m d x h1, Reps.mv m ds r h2⟩
theorem KVl.mv (m : Mv H H' F F' μ μ') : ∀ (kvs : List (D × D)) (es : List (Key × V)), KVl T H F μ kvs es → KVl T H' F' μ' kvs es
  | [], _, h => by simp only [KVl] at h ⊢; exact h
  | (k, d) :: r, _, h => by
    simp only [KVl] at h ⊢
    obtain ⟨q, x, r', e, h0, h1, h2⟩ := h
    exact ⟨q, x, r', e, h0, Rep.mv m d x h1, KVl.mv m r r' h2⟩
theorem KVn.mv (m : Mv H H' F F' μ μ') : ∀ (kvs : List (D × D)) (es : List (NestedKey × Addr × V)), KVn T H F μ kvs es → KVn T H' F' μ' kvs es
  | [], _, h => by simp only [KVn] at h ⊢; exact h
  | (k, d) :: r, _, h => by
    simp only [KVn] at h ⊢
    obtain ⟨n, q, x, r', e, h0, h3, h1, h2⟩ := h
    exact ⟨n, q, x, r', e, h0, Rep.mv m k _ h3, Rep.mv m d x h1, KVn.mv m r r' h2⟩
end
theorem Rep.top (hF : ∀ a ∈ μ, F a) : ∀ {d : D} {v : V}, Rep T H F μ d v → Pk T H F μ d v
  | .non, _, h | .bl _, _, h | .int _, _, h | .str _, _, h | .tup _, _, h | .ref _, _, h | .scr _, _, h | .err _ _, _, h => h
  | .lst ds, _, h => by
    simp only [Rep] at h
    obtain ⟨a, xs, e, h1, h2, h3⟩ := h
    exact ⟨a, e, fun z => h2 (hF a z), xs, h1, h3⟩
  | .dct kvs, _, h => by
    simp only [Rep] at h
    obtain ⟨a, e, h2, h⟩ := h
    exact ⟨a, e, fun z => h2 (hF a z), h⟩
/-- an expression moves on: places may change, new ones come; privates stay -/
theorem LstC.mv (m : Mv H H' F F' μ μ') {a : Addr} {ds : List D} (k : ∀ o, H a = some o → H' a = some o) (h : LstC T H F μ a ds) : LstC T H' F' μ' a ds := by
  obtain ⟨xs, h1, h2⟩ := h
  exact ⟨xs, k _ h1, Reps.mv m ds xs h2⟩
theorem DctC.mv (m : Mv H H' F F' μ μ') {a : Addr} {kvs : List (D × D)} (k : ∀ o, H a = some o → H' a = some o) (h : DctC T H F μ a kvs) : DctC T H' F' μ' a kvs := by
  rcases h with ⟨es, h1, h3⟩ | ⟨es, ob, n, h1, h3⟩
  · exact .inl ⟨es, h1.mv k, KVl.mv m kvs es h3⟩
  · exact .inr ⟨es, ob, n, k _ h1, KVn.mv m kvs es h3⟩
theorem Flds.mv (m : Mv H H' F F' μ μ') : ∀ {fs : List (Nat × D)} {xs : List (Str × V)}, Flds T H F μ fs xs → Flds T H' F' μ' fs xs
  | [], _, h => h
  | (f, d) :: r, _, ⟨x, r', e, h1, h2⟩ => ⟨x, r', e, Rep.mv m d x h1, Flds.mv m h2⟩
theorem LstC.some {a : Addr} {ds : List D} (h : LstC T H F μ a ds) : H a ≠ none := by
  obtain ⟨xs, h1, _⟩ := h
  rw [h1]; simp
theorem DctC.some {a : Addr} {kvs : List (D × D)} (h : DctC T H F μ a kvs) : H a ≠ none := by
  rcases h with ⟨es, h1, _⟩ | ⟨es, _, _, h1, _⟩
  · obtain ⟨o, h1⟩ := h1.ex
    rw [h1]; simp
  · rw [h1]; simp
theorem ORep.some {a : Addr} {o : O} (h : ORep T H F μ a o) : H a ≠ none := by
  cases o with
  | lst ds => exact LstC.some h
  | dct kvs => exact DctC.some h
  | ins c fs => obtain ⟨dx, xs, h1, _⟩ := h; rw [h1]; simp
  | tbl => obtain ⟨_, ps, h1, _⟩ := h; rw [h1]; simp
theorem ORep.mv (m : Mv H H' F F' μ μ') {a : Addr} {o : O} (k : ∀ u, H a = Option.some u → H' a = Option.some u) (hn : ∀ b, b ∈ μ' → b ∈ μ ∨ H b = none) (hk : ∀ b u, H b = Option.some (.own u) → b ∉ μ → H' b = Option.some (.own u)) (h : ORep T H F μ a o) : ORep T H' F' μ' a o := by
  cases o with
  | lst ds => exact LstC.mv m k h
  | dct kvs => exact DctC.mv m k h
  | ins c fs =>
    obtain ⟨dx, xs, h1, hd, h2, h3, h4⟩ := h
    refine ⟨dx, xs, k _ h1, fun z => ?_, hk _ _ h2 hd, Flds.mv m h3, h4⟩
    rcases hn _ z with z | z
    · exact hd z
    · rw [h2] at z; cases z
  | tbl =>
    obtain ⟨h0, ps, h1, h2, h3⟩ := h
    refine ⟨h0, ps, k _ h1, h2, fun pos cv hc => ?_⟩
    obtain ⟨c, e, h4, h5⟩ := h3 pos cv hc
    exact ⟨c, e, m.kp _ _ h4 h5, m.no h4 h5⟩
end

/-! ### states -/
/-- the store: each place's object -/
structure StR (T : Tb) (F : Addr → Prop) (μ : List Addr) (H : Hp) (st : Store) : Prop where
  len : μ.length = st.length
  nd : μ.Nodup
  ob : ∀ (i : Nat) (o : O) (a : Addr), st[i]? = some o → μ[i]? = some a → ORep T H F μ a o
def SlR (T : Tb) (F : Addr → Prop) (μ : List Addr) (H : Hp) : Sl → Option V → Prop
  | .no, _ => True
  | .v d, x => ∃ v, x = some v ∧ Rep T H F μ d v
  | .ol ds, x => ∃ a, x = some (.ref a) ∧ F a ∧ a ∉ μ ∧ LstC T H F μ a ds
  | .od kvs, x => ∃ a, x = some (.ref a) ∧ F a ∧ a ∉ μ ∧ DctC T H F μ a kvs
structure EnR (T : Tb) (F : Addr → Prop) (μ : List Addr) (H : Hp) (σ : L2.St) (env : Env) : Prop where
  len : env.length = σ.length
  at_ : ∀ (i : Nat) (s : Sl) (x : Option V), env[i]? = some s → σ[i]? = some x → SlR T F μ H s x
abbrev FF (G : Addr → Prop) (μ : List Addr) : Addr → Prop := fun a => a ∈ μ ∨ G a
structure GoodT (T : Tb) (G : Addr → Prop) (μ : List Addr) (H : Hp) (st : Store) : Prop where
  dom : ∀ a, G a → H a ≠ none
  dis : ∀ a ∈ μ, ¬ G a
  sto : StR T (FF G μ) μ H st
structure Good (T : Tb) (G : Addr → Prop) (μ : List Addr) (H : Hp) (σ : L2.St) (env : Env) (st : Store) : Prop extends GoodT T G μ H st where
  en : EnR T (FF G μ) μ H σ env
/-- behind an expression -/
structure Post (T : Tb) (G : Addr → Prop) (μ : List Addr) (H : Hp) (μ' : List Addr) (H' : Hp) (st' : Store) : Prop where
  mu : μ <+: μ'
  new : ∀ a ∈ μ', a ∈ μ ∨ H a = none
  keep : Keep μ H H'
  sto : StR T (FF G μ') μ' H' st'

section
variable {T : Tb} {G : Addr → Prop} {H H' H2 : Hp} {μ μ' μ2 : List Addr} {σ : L2.St} {env : Env} {st st' st2 : Store}
theorem Post.mv (p : Post T G μ H μ' H' st') : Mv H H' (FF G μ) (FF G μ') μ μ' where
  kp := fun a o h n => p.keep a o h fun z => n (.inl z)
  fb := fun a z => by
    rcases z with z | z
    · rcases p.new a z with z | z
      · exact .inl (.inl z)
      · exact .inr z
    · exact .inl (.inr z)
  mu := p.mu
theorem SlR.mv (p : Post T G μ H μ' H' st') (dom : ∀ a, G a → H a ≠ none) {s : Sl} {x : Option V} (h : SlR T (FF G μ) μ H s x) : SlR T (FF G μ') μ' H' s x := by
  have nn : ∀ {a : Addr}, FF G μ a → a ∉ μ → H a ≠ none → FF G μ' a ∧ a ∉ μ' := fun {a} f n hs => by
    refine ⟨?_, fun z => ?_⟩
    · rcases f with f | f
      · exact absurd f n
      · exact .inr f
    · rcases p.new a z with z | z
      · exact n z
      · exact hs z
  cases s with
  | no => trivial
  | v d => obtain ⟨v, e, h⟩ := h; exact ⟨v, e, Rep.mv p.mv d v h⟩
  | ol ds =>
    obtain ⟨a, e, f, n, h⟩ := h
    exact ⟨a, e, (nn f n h.some).1, (nn f n h.some).2, h.mv p.mv fun o q => p.keep a o q n⟩
  | od ds =>
    obtain ⟨a, e, f, n, h⟩ := h
    exact ⟨a, e, (nn f n h.some).1, (nn f n h.some).2, h.mv p.mv fun o q => p.keep a o q n⟩
theorem GoodT.post (g : GoodT T G μ H st) (p : Post T G μ H μ' H' st') : GoodT T G μ' H' st' where
  dom := fun a ga => by
    have h := g.dom a ga
    cases e : H a with
    | none => exact absurd e h
    | some o => rw [p.keep a o e fun z => g.dis a z ga]; simp
  dis := fun a ha ga => by
    rcases p.new a ha with z | z
    · exact g.dis a z ga
    · exact g.dom a ga z
  sto := p.sto
theorem Good.post (g : Good T G μ H σ env st) (p : Post T G μ H μ' H' st') : Good T G μ' H' σ env st' where
  toGoodT := g.toGoodT.post p
  en := ⟨g.en.len, fun i s x h1 h2 => (g.en.at_ i s x h1 h2).mv p g.dom⟩
theorem Post.refl (g : GoodT T G μ H st) : Post T G μ H μ H st := ⟨List.prefix_refl _, fun _ h => .inl h, Keep.refl, g.sto⟩
theorem Post.trans (p : Post T G μ H μ' H' st') (q : Post T G μ' H' μ2 H2 st2) : Post T G μ H μ2 H2 st2 where
  mu := p.mu.trans q.mu
  new := fun a ha => by
    rcases q.new a ha with z | z
    · exact p.new a z
    · by_cases m : a ∈ μ
      · exact .inl m
      · cases e : H a with
        | none => exact .inr rfl
        | some o => rw [p.keep a o e m] at z; cases z
  keep := fun a o h n => q.keep a o (p.keep a o h n) fun z => by
    rcases p.new a z with z | z
    · exact n z
    · rw [h] at z; cases z
  sto := q.sto
/-- a state in which all stands as it stood, and more -/
theorem Post.more (g : GoodT T G μ H st) (k : ∀ a o, H a = some o → H' a = some o) : Post T G μ H μ H' st where
  mu := List.prefix_refl _
  new := fun _ h => .inl h
  keep := fun a o h _ => k a o h
  sto := ⟨g.sto.len, g.sto.nd, fun i o a h1 h2 => (g.sto.ob i o a h1 h2).mv ⟨fun a o h _ => k a o h, fun _ z => .inl z, List.prefix_refl _⟩ (fun u q => k a u q) (fun _ h => .inl h) fun b u q _ => k b _ q⟩
end
end PD
end ZPDRep
section ZPDExpr
set_option Elab.async false
set_option linter.all false
set_option maxRecDepth 100000
set_option maxHeartbeats 1000000
namespace PD
open PySem L2

theorem bnd_inv {α β : Type} {m : M α} {f : α → M β} {st st2 : Store} {b : β} (h : bnd m f st = .ok b st2) : ∃ a st1, m st = .ok a st1 ∧ f a st1 = .ok b st2 := by
  unfold bnd at h
  cases e : m st with
  | ok a st1 => rw [e] at h; exact ⟨a, st1, rfl, h⟩
  | exc c v st1 => rw [e] at h; cases h
  | bad => rw [e] at h; cases h
theorem ret_inv {α : Type} {a b : α} {st st2 : Store} (h : ret a st = .ok b st2) : a = b ∧ st = st2 := by
  cases h; exact ⟨rfl, rfl⟩
theorem opt_inv {α : Type} {o : Option α} {b : α} {st st2 : Store} (h : opt o st = .ok b st2) : o = some b ∧ st = st2 := by
  cases o with
  | none => cases h
  | some a => cases h; exact ⟨rfl, rfl⟩

def FreshL (T : Tb) (F : Addr → Prop) (μ : List Addr) (H H' : Hp) (d : D) (v : V) : Prop := ∀ ds, d = .lst ds → ∃ p xs, v = .ref p ∧ H p = none ∧ H' p = some (.lst xs) ∧ Reps T H' (fun a => F a ∨ a = p) μ ds xs
abbrev GP (G : Addr → Prop) (p : Addr) : Addr → Prop := fun a => G a ∨ a = p
/-- a list that nothing else knows of -/
def FreshN (T : Tb) (G : Addr → Prop) (H : Hp) (μ' : List Addr) (H' : Hp) (st' : Store) (d : D) (v : V) : Prop := ∀ ds, d = .lst ds → ∃ p xs, v = .ref p ∧ H p = none ∧ H' p = some (.lst xs) ∧ Reps T H' (FF (GP G p) μ') μ' ds xs ∧ StR T (FF (GP G p) μ') μ' H' st'
/-- an expression's result: fr: a new list; pk: perhaps one of the frame's own -/
structure RS (T : Tb) (fr pk : Bool) (G : Addr → Prop) (H : Hp) (μ' : List Addr) (H' : Hp) (st' : Store) (d : D) (v : V) : Prop where
  rep : pk = false → Rep T H' (FF G μ') μ' d v
  pkr : Pk T H' (FF G μ') μ' d v
  fre : fr = true → FreshN T G H μ' H' st' d v
def rdE (T : Tb) (fr pk : Bool) (ev : Env → M D) : TE := fun σ H Q => ∃ G μ env st d st', Good T G μ H σ env st ∧ ev env st = .ok d st' ∧
  ∀ v H' μ', Post T G μ H μ' H' st' → RS T fr pk G H μ' H' st' d v → Q v H'
/-- a list of expressions -/
def Pks (T : Tb) (H : Hp) (F : Addr → Prop) (μ : List Addr) : List D → List V → Prop
  | [], xs => xs = []
  | d :: ds, xs => ∃ x r, xs = x :: r ∧ Pk T H F μ d x ∧ Pks T H F μ ds r
def rdA (T : Tb) (ev : Env → M (List D)) : TA := fun σ H Q => ∃ G μ env st ds st', Good T G μ H σ env st ∧ ev env st = .ok ds st' ∧
  ∀ vs H' μ', Post T G μ H μ' H' st' → Reps T H' (FF G μ') μ' ds vs → Q vs H'
def rdV (T : Tb) (ev : Env → M (List D)) : TA := fun σ H Q => ∃ G μ env st ds st', Good T G μ H σ env st ∧ ev env st = .ok ds st' ∧
  ∀ vs H' μ', Post T G μ H μ' H' st' → Pks T H' (FF G μ') μ' ds vs → Q vs H'
def rdT (T : Tb) (ev : Env → M Bool) : TT := fun σ H Q => ∃ G μ env st b st', Good T G μ H σ env st ∧ ev env st = .ok b st' ∧
  ∀ H' μ', Post T G μ H μ' H' st' → Q b H'
def rdO (T : Tb) (ev : Env → M (Option Int)) : TO := fun σ H Q => ∃ G μ env st o st', Good T G μ H σ env st ∧ ev env st = .ok o st' ∧
  ∀ H' μ', Post T G μ H μ' H' st' → Q o H'

section
variable {X : Cx} {e : Expr} {t t' : TE}
theorem PE.imp (h : PE X e t) (k : ∀ σ H Q, t' σ H Q → t σ H Q) : PE X e t' := ⟨fun pins s σ H Q I q => h.run pins s σ H Q I (k σ H Q q)⟩
theorem PA.imp {es : List Expr} {t t' : TA} (h : PA X es t) (k : ∀ σ H Q, t' σ H Q → t σ H Q) : PA X es t' := ⟨fun pos pins s σ H Q I q => h.run pos pins s σ H Q I (k σ H Q q)⟩
theorem PT.imp {t t' : TT} (h : PT X e t) (k : ∀ σ H Q, t' σ H Q → t σ H Q) : PT X e t' := ⟨fun pins s σ H Q I q => h.run pins s σ H Q I (k σ H Q q)⟩
theorem PW.imp {t t' : TT} (h : PW X e t) (k : ∀ σ H Q, t' σ H Q → t σ H Q) : PW X e t' := ⟨fun w pins s σ H Q I q => h.run w pins s σ H Q I (k σ H Q q)⟩
theorem PO.imp {o : Option Expr} {t t' : TO} (h : PO X o t) (k : ∀ σ H Q, t' σ H Q → t σ H Q) : PO X o t' := ⟨fun pins s σ H Q I q => h.run pins s σ H Q I (k σ H Q q)⟩
theorem PS.imp {st : Stmt} {t t' : TS} (h : PS X st t) (k : ∀ D σ H, t' D σ H → t D σ H) : PS X st t' := ⟨fun pins s σ H D I q => h.run pins s σ H D I (k D σ H q)⟩
theorem PSs.imp {st : List Stmt} {t t' : TS} (h : PSs X st t) (k : ∀ D σ H, t' D σ H → t D σ H) : PSs X st t' := ⟨fun pins s σ H D I q => h.run pins s σ H D I (k D σ H q)⟩
end

section
variable {T : Tb} {G : Addr → Prop} {H H' H2 : Hp} {μ μ' μ2 : List Addr} {σ : L2.St} {env : Env} {st st' st2 : Store} {d : D} {v : V} {fr pk : Bool}
theorem ff_mu {G : Addr → Prop} {μ : List Addr} : ∀ a ∈ μ, FF G μ a := fun _ h => .inl h
/-- a representation that is none of the frame's own -/
theorem RS.of (h : Rep T H' (FF G μ') μ' d v) (f : fr = true → FreshN T G H μ' H' st' d v) : RS T fr pk G H μ' H' st' d v := ⟨fun _ => h, h.top ff_mu, f⟩
theorem RS.of0 (h : Rep T H' (FF G μ') μ' d v) : RS T false pk G H μ' H' st' d v := .of h fun z => nomatch z
/-- a peeked value stays through an expression -/
theorem Pk.mv (p : Post T G μ H μ' H' st') : ∀ {d : D} {v : V}, Pk T H (FF G μ) μ d v → Pk T H' (FF G μ') μ' d v
  | .non, _, h | .bl _, _, h | .int _, _, h | .str _, _, h | .tup _, _, h | .ref _, _, h | .scr _, _, h | .err _ _, _, h => Rep.mv p.mv _ _ h
  | .lst ds, _, ⟨a, e, n, h⟩ => ⟨a, e, fun z => by
      rcases p.new a z with z | z
      · exact n z
      · exact h.some z, h.mv p.mv fun o q => p.keep a o q n⟩
  | .dct ds, _, ⟨a, e, n, h⟩ => ⟨a, e, fun z => by
      rcases p.new a z with z | z
      · exact n z
      · exact h.some z, h.mv p.mv fun o q => p.keep a o q n⟩
theorem Pks.mv (p : Post T G μ H μ' H' st') : ∀ {ds : List D} {vs : List V}, Pks T H (FF G μ) μ ds vs → Pks T H' (FF G μ') μ' ds vs
  | [], _, h => h
  | d :: ds, _, ⟨x, r, e, h1, h2⟩ => ⟨x, r, e, Pk.mv p h1, Pks.mv p h2⟩
/-- the look of a value -/
theorem Pk.view (g : StR T (FF G μ) μ H st) : ∀ {d : D} {v : V}, Pk T H (FF G μ) μ d v → Top T H (FF G μ) μ (view st d) v
  | .non, _, h | .bl _, _, h | .int _, _, h | .str _, _, h | .tup _, _, h | .scr _, _, h | .err _ _, _, h => h
  | .lst ds, _, ⟨a, e, _, h⟩ => ⟨a, e, h⟩
  | .dct ds, _, ⟨a, e, _, h⟩ => ⟨a, e, h⟩
  | .ref i, v, h => by
    have h' := h
    simp only [Pk, Rep] at h'
    obtain ⟨a, e, m⟩ := h'
    have hw : PD.view st (.ref i) = match st[i]? with
      | some (.lst ds) => .lst ds
      | some (.dct kvs) => .dct kvs
      | _ => .ref i := rfl
    cases q : st[i]? with
    | none => rw [hw, q]; exact h
    | some o =>
      have z := g.ob i o a q m
      cases o with
      | lst ds => rw [hw, q]; exact ⟨a, e, z⟩
      | dct ds => rw [hw, q]; exact ⟨a, e, z⟩
      | tbl => rw [hw, q]; exact h
      | ins c fs => rw [hw, q]; exact h
theorem Reps.length : ∀ {ds : List D} {xs : List V}, Reps T H (FF G μ) μ ds xs → xs.length = ds.length
  | [], _, h => by simp only [Reps] at h; subst h; rfl
  | d :: ds, _, h => by
    simp only [Reps] at h
    obtain ⟨x, r, e, _, h2⟩ := h
    subst e
    simp [Reps.length h2]
theorem Reps.get : ∀ {ds : List D} {xs : List V} {i : Nat} {d : D}, Reps T H (FF G μ) μ ds xs → ds[i]? = some d → ∃ x, xs[i]? = some x ∧ Rep T H (FF G μ) μ d x
  | [], _, _, _, _, e => by simp at e
  | d :: ds, _, i, d', h, e => by
    simp only [Reps] at h
    obtain ⟨x, r, e', h1, h2⟩ := h
    subst e'
    cases i with
    | zero => simp at e; subst e; exact ⟨x, rfl, h1⟩
    | succ i => exact Reps.get (i := i) h2 (by simpa using e)
theorem Reps.append : ∀ {ds es : List D} {xs ys : List V}, Reps T H (FF G μ) μ ds xs → Reps T H (FF G μ) μ es ys → Reps T H (FF G μ) μ (ds ++ es) (xs ++ ys)
  | [], _, _, _, h, k => by simp only [Reps] at h; subst h; exact k
  | d :: ds, _, _, _, h, k => by
    simp only [Reps] at h
    obtain ⟨x, r, e', h1, h2⟩ := h
    subst e'
    exact ⟨x, _, rfl, h1, Reps.append h2 k⟩
theorem Reps.take : ∀ {ds : List D} {xs : List V} (n : Nat), Reps T H (FF G μ) μ ds xs → Reps T H (FF G μ) μ (ds.take n) (xs.take n)
  | _, _, 0, _ => by simp [Reps]
  | [], _, n + 1, h => by simp only [Reps] at h; subst h; simp [Reps]
  | d :: ds, _, n + 1, h => by
    simp only [Reps] at h
    obtain ⟨x, r, e', h1, h2⟩ := h
    subst e'
    exact ⟨x, _, rfl, h1, Reps.take n h2⟩
theorem Reps.drop : ∀ {ds : List D} {xs : List V} (n : Nat), Reps T H (FF G μ) μ ds xs → Reps T H (FF G μ) μ (ds.drop n) (xs.drop n)
  | _, _, 0, h => h
  | [], _, n + 1, h => by simp only [Reps] at h; subst h; simp [Reps]
  | d :: ds, _, n + 1, h => by
    simp only [Reps] at h
    obtain ⟨x, r, e', h1, h2⟩ := h
    subst e'
    exact Reps.drop n h2
theorem Reps.set : ∀ {ds : List D} {xs : List V} {d : D} {x : V} (j : Nat), Reps T H (FF G μ) μ ds xs → Rep T H (FF G μ) μ d x → Reps T H (FF G μ) μ (ds.set j d) (xs.set j x)
  | [], _, _, _, j, h, _ => by simp only [Reps] at h; subst h; simp [Reps]
  | d :: ds, _, _, _, 0, h, k => by
    simp only [Reps] at h
    obtain ⟨x, r, e', h1, h2⟩ := h
    subst e'
    exact ⟨_, _, rfl, k, h2⟩
  | d :: ds, _, _, _, j + 1, h, k => by
    simp only [Reps] at h
    obtain ⟨x, r, e', h1, h2⟩ := h
    subst e'
    exact ⟨_, _, rfl, h1, Reps.set j h2 k⟩
/-- what is read stays when more comes -/
theorem mvMore (k : ∀ a o, H a = some o → H' a = some o) (F : Addr → Prop) : Mv H H' F F μ μ := ⟨fun a o h _ => k a o h, fun _ z => .inl z, List.prefix_refl _⟩
theorem upd_more {p : Addr} {o : HO} (h : H p = none) : ∀ a u, H a = some u → upd H p o a = some u := fun a u e => by
  rw [upd_ne (ne_of_none e h)]; exact e
theorem mvGP {p : Addr} (k : ∀ a o, H a = some o → H' a = some o) (hp : H p = none) : Mv H H' (FF G μ) (FF (GP G p) μ) μ μ := ⟨fun a o h _ => k a o h, fun a z => by
  rcases z with z | z | z
  · exact .inl (.inl z)
  · exact .inl (.inr z)
  · subst z; exact .inr hp, List.prefix_refl _⟩
theorem StR.gp {p : Addr} (s : StR T (FF G μ) μ H st) (k : ∀ a o, H a = some o → H' a = some o) (hp : H p = none) : StR T (FF (GP G p) μ) μ H' st :=
  ⟨s.len, s.nd, fun i o a h1 h2 => (s.ob i o a h1 h2).mv (mvGP k hp) (fun u q => k a u q) (fun _ h => .inl h) fun b u q _ => k b _ q⟩
/-- a new address is none of those that may not be -/
theorem GoodT.fresh (g : GoodT T G μ H st) {p : Addr} (h : H p = none) : ¬ FF G μ p := fun z => by
  rcases z with z | z
  · obtain ⟨i, hi⟩ := List.getElem?_of_mem z
    have hl : i < st.length := by rw [← g.sto.len]; exact (List.getElem?_eq_some_iff.mp hi).1
    exact (g.sto.ob i st[i] p (by simp [hl]) hi).some h
  · exact g.dom p z h
end

/-! ### names and constants -/
section
variable {X : Cx} {T : Tb} {pos : Pos}
theorem se_var {i : Nat} {x : Str} (hN : X.N[i]? = some x) (hv : Vis X.env.scope x) (hd : (x == ("__debug__" : Str)) = false) (hcd : (x == ("__classdict__" : Str)) = false) :
    PE X (.Name x pos) (rdE T false false fun env => match env[i]? with
      | some (.v d) => ret d
      | _ => fail) := by
  refine PE.imp (pe_var hN hv hd hcd) fun σ H Q ⟨G, μ, env, st, d, st', g, e, q⟩ => ?_
  cases h : env[i]? with
  | none => simp only [h] at e; cases e
  | some s =>
    simp only [h] at e
    have hl : i < σ.length := by rw [← g.en.len]; exact (List.getElem?_eq_some_iff.mp h).1
    cases s with
    | v d' =>
      obtain ⟨rfl, rfl⟩ := ret_inv e
      obtain ⟨v, hv, r⟩ := g.en.at_ i _ σ[i] h (by simp [hl])
      exact ⟨v, by rw [← hv]; simp [hl], q v H μ (Post.refl g.toGoodT) (.of0 r)⟩
    | no => cases e
    | ol _ => cases e
    | od _ => cases e
theorem se_peek {i : Nat} {x : Str} (hN : X.N[i]? = some x) (hv : Vis X.env.scope x) (hd : (x == ("__debug__" : Str)) = false) (hcd : (x == ("__classdict__" : Str)) = false) :
    PE X (.Name x pos) (rdE T false true fun env => match env[i]? with
      | some (.ol ds) => ret (.lst ds)
      | some (.od kvs) => ret (.dct kvs)
      | _ => fail) := by
  refine PE.imp (pe_var hN hv hd hcd) fun σ H Q ⟨G, μ, env, st, d, st', g, e, q⟩ => ?_
  cases h : env[i]? with
  | none => simp only [h] at e; cases e
  | some s =>
    simp only [h] at e
    have hl : i < σ.length := by rw [← g.en.len]; exact (List.getElem?_eq_some_iff.mp h).1
    cases s with
    | v d' => cases e
    | no => cases e
    | ol ds =>
      obtain ⟨rfl, rfl⟩ := ret_inv e
      obtain ⟨a, hv, f, n, r⟩ := g.en.at_ i _ σ[i] h (by simp [hl])
      exact ⟨.ref a, by rw [← hv]; simp [hl], q _ H μ (Post.refl g.toGoodT) ⟨(fun z => nomatch z), ⟨a, rfl, n, r⟩, (fun z => nomatch z)⟩⟩
    | od ds =>
      obtain ⟨rfl, rfl⟩ := ret_inv e
      obtain ⟨a, hv, f, n, r⟩ := g.en.at_ i _ σ[i] h (by simp [hl])
      exact ⟨.ref a, by rw [← hv]; simp [hl], q _ H μ (Post.refl g.toGoodT) ⟨(fun z => nomatch z), ⟨a, rfl, n, r⟩, (fun z => nomatch z)⟩⟩
/-- a written scalar -/
def constD : Const → Option D
  | .none => some .non
  | .bool b => some (.bl b)
  | .int i => some (.int i)
  | .str x => some (.str x)
  | _ => none
theorem se_lit {c : Const} {j : Nat} {d : D} (h : constD c = some d) : PE X (.Constant c j pos) (rdE T false false fun _ => ret d) := by
  cases c <;> simp only [constD, Option.some.injEq, reduceCtorEq] at h
  all_goals subst h
  · exact PE.imp pe_non fun σ H Q ⟨G, μ, env, st, d, st', g, e, q⟩ => by
      obtain ⟨rfl, rfl⟩ := ret_inv e
      exact q _ H μ (Post.refl g.toGoodT) (.of0 rfl)
  · exact PE.imp pe_bl fun σ H Q ⟨G, μ, env, st, d, st', g, e, q⟩ => by
      obtain ⟨rfl, rfl⟩ := ret_inv e
      exact q _ H μ (Post.refl g.toGoodT) (.of0 rfl)
  · exact PE.imp pe_int fun σ H Q ⟨G, μ, env, st, d, st', g, e, q⟩ => by
      obtain ⟨rfl, rfl⟩ := ret_inv e
      exact q _ H μ (Post.refl g.toGoodT) (.of0 rfl)
  · exact PE.imp pe_str fun σ H Q ⟨G, μ, env, st, d, st', g, e, q⟩ => by
      obtain ⟨rfl, rfl⟩ := ret_inv e
      exact q _ H μ (Post.refl g.toGoodT) (.of0 rfl)
/-- a module's constant -/
theorem se_glob {x : Str} {v : V} {u : Value} {d : Option D} (hg : Gl X x) (hm : X.mg x = some u) (r : RelV v u) (hd : (x == ("__debug__" : Str)) = false) (hr : ∀ d', d = some d' → ∀ H F μ, Rep T H F μ d' v) :
    PE X (.Name x pos) (rdE T false false fun _ => opt d) := by
  refine PE.imp (pe_glob hg hm r hd) fun σ H Q ⟨G, μ, env, st, d', st', g, e, q⟩ => ?_
  obtain ⟨h, rfl⟩ := opt_inv e
  exact q _ H μ (Post.refl g.toGoodT) (.of0 (hr _ h _ _ _))
end
end PD
end ZPDExpr
section ZPDOps
set_option Elab.async false
set_option linter.all false
set_option maxRecDepth 100000
set_option maxHeartbeats 1000000
namespace PD
open PySem L2

section
variable {T : Tb} {G : Addr → Prop} {H H' : Hp} {μ μ' : List Addr} {st st' : Store}
/-- new behind, new ahead -/
theorem Post.back (g : GoodT T G μ H st) (p : Post T G μ H μ' H' st') {a : Addr} (h : H' a = none) : H a = none := by
  cases e : H a with
  | none => rfl
  | some o =>
    by_cases m : a ∈ μ
    · obtain ⟨i, hi⟩ := List.getElem?_of_mem m
      have hi' := prefix_get p.mu hi
      have hl : i < st'.length := by rw [← p.sto.len]; exact (List.getElem?_eq_some_iff.mp hi').1
      exact absurd h (p.sto.ob i st'[i] a (by simp [hl]) hi').some
    · rw [p.keep a o e m] at h; cases h
end
/-- the answer r comes: all stands as it stood, and more -/
def Ans (T : Tb) (fr : Bool) (F : Addr → Prop) (μ : List Addr) (H : Hp) (r : D) (Q : VK) : Prop := ∀ v H', (∀ a o, H a = some o → H' a = some o) → Rep T H' F μ r v → (fr = true → FreshL T F μ H H' r v) → Q v H'
def rOp (T : Tb) (fr : Bool) (f : D → D → Option D) : R2 := fun x y H Q => ∃ G μ st a b r, GoodT T G μ H st ∧ Top T H (FF G μ) μ a x ∧ Top T H (FF G μ) μ b y ∧ f a b = some r ∧ Ans T fr (FF G μ) μ H r Q
section
variable {T : Tb} {G : Addr → Prop} {H H' : Hp} {μ μ' : List Addr} {st st' : Store} {fr : Bool} {Q : VK}
theorem Ans.int {i : Int} (h : Ans T fr (FF G μ) μ H (.int i) Q) : Q (.int i) H := h _ H (fun _ _ z => z) rfl fun _ _ z => nomatch z
theorem Ans.bl {i : Bool} (h : Ans T fr (FF G μ) μ H (.bl i) Q) : Q (.bl i) H := h _ H (fun _ _ z => z) rfl fun _ _ z => nomatch z
theorem Ans.str {i : Str} (h : Ans T fr (FF G μ) μ H (.str i) Q) : Q (.str i) H := h _ H (fun _ _ z => z) rfl fun _ _ z => nomatch z
theorem Ans.lst (g : GoodT T G μ H st) {ds : List D} {xs : List V} (h : Ans T fr (FF G μ) μ H (.lst ds) Q) (r : Reps T H (FF G μ) μ ds xs) : ∀ p, H p = none → Q (.ref p) (upd H p (.lst xs)) := fun p hp =>
  h _ _ (upd_more hp) ⟨p, xs, rfl, upd_same, g.fresh hp, Reps.mv (mvMore (upd_more hp) _) ds xs r⟩ fun _ es e => by
    cases e
    exact ⟨p, xs, rfl, hp, upd_same, Reps.mv ⟨fun a o h _ => upd_more hp a o h, fun a z => by
      rcases z with z | z
      · exact .inl z
      · subst z; exact .inr hp, List.prefix_refl _⟩ _ xs r⟩
theorem Ans.tup (g : GoodT T G μ H st) {ds : List D} {xs : List V} (h : Ans T fr (FF G μ) μ H (.tup ds) Q) (r : Reps T H (FF G μ) μ ds xs) : ∀ p, H p = none → Q (.ref p) (upd H p (.tup xs)) := fun p hp =>
  h _ _ (upd_more hp) ⟨p, xs, rfl, .inl ⟨upd_same, g.fresh hp⟩, Reps.mv (mvMore (upd_more hp) _) ds xs r⟩ fun _ _ z => nomatch z
theorem Ans.same {ds : D} {v : V} (h : Ans T fr (FF G μ) μ H ds Q) (r : Rep T H (FF G μ) μ ds v) (n : ∀ es, ds ≠ .lst es) : Q v H := h v H (fun _ _ z => z) r fun _ es e => absurd e (n es)
theorem lim_line {n : Nat} (h : n ≤ LIM) : n ≤ sizeLine := by unfold LIM at h; rw [sizeLine_eq]; omega
theorem Reps.nil_iff {ds : List D} {xs : List V} (h : Reps T H (FF G μ) μ ds xs) : xs = [] ↔ ds = [] := by
  have := h.length
  constructor <;> intro e <;> subst e <;> simp at this <;> first | exact List.eq_nil_of_length_eq_zero this.symm | exact this
theorem Reps.rep {ds : List D} {xs : List V} (h : Reps T H (FF G μ) μ ds xs) : ∀ n : Nat, Reps T H (FF G μ) μ (List.replicate n ds).flatten (List.replicate n xs).flatten
  | 0 => by simp [Reps]
  | n + 1 => by
    rw [List.replicate_succ, List.replicate_succ, List.flatten_cons, List.flatten_cons]
    exact h.append (Reps.rep h n)
end

section
variable {X : Cx} {T : Tb}
theorem o_add (hK : X.K = T.K) : OpR X (binaryOp .Add) (rOp T true (binD .add)) := by
  intro pins s σ H x y v u Q I rx ry ⟨G, μ, st, a, b, r, g, ha, hb, e, q⟩
  cases a <;> cases b <;> simp only [binD, Option.ite_none_right_eq_some, Option.some.injEq, reduceCtorEq] at e
  · subst e
    exact op_add pins s σ H x y v u Q I rx ry ⟨_, _, ha, hb, q.int⟩
  · obtain ⟨hz, rfl⟩ := e
    simp only [Top, Rep] at ha hb
    subst ha hb
    exact (show OpR X (binaryOp .Add) _ from op_add_str) pins s σ H _ _ v u Q I rx ry ⟨_, _, rfl, rfl, lim_line hz, q.str⟩
  · obtain ⟨hz, rfl⟩ := e
    simp only [Top, Rep] at ha hb
    obtain ⟨a, xs, rfl, ha, ra⟩ := ha
    obtain ⟨b, ys, rfl, hb, rb⟩ := hb
    refine op_catA pins s σ H _ _ v u Q I rx ry ⟨a, b, xs, ys, rfl, rfl, hK ▸ ha.sq, hK ▸ hb.sq, by rw [ra.length, rb.length]; exact lim_line hz, fun z => ?_, fun _ z => ?_, fun _ _ => q.tup g (ra.append rb)⟩
    · have z' := ra.nil_iff.mp z
      subst z'
      exact q.same ⟨b, ys, rfl, hb, rb⟩ fun _ z => nomatch z
    · have z' := rb.nil_iff.mp z
      subst z'
      rw [List.append_nil] at q
      exact q.same ⟨a, xs, rfl, ha, ra⟩ fun _ z => nomatch z
  · obtain ⟨hz, rfl⟩ := e
    obtain ⟨a, rfl, xs, ha, ra⟩ := ha
    obtain ⟨b, rfl, ys, hb, rb⟩ := hb
    exact op_cat pins s σ H _ _ v u Q I rx ry ⟨a, b, xs, ys, rfl, rfl, ha, hb, by rw [ra.length, rb.length]; exact lim_line hz, q.lst g (ra.append rb)⟩
theorem o_sub : OpR X (binaryOp .Sub) (rOp T true (binD .sub)) := by
  intro pins s σ H x y v u Q I rx ry ⟨G, μ, st, a, b, r, g, ha, hb, e, q⟩
  cases a <;> cases b <;> simp only [binD, Option.some.injEq, reduceCtorEq] at e
  subst e
  exact op_sub pins s σ H x y v u Q I rx ry ⟨_, _, ha, hb, q.int⟩
theorem o_fdiv : OpR X (binaryOp .FloorDiv) (rOp T true (binD .fdiv)) := by
  intro pins s σ H x y v u Q I rx ry ⟨G, μ, st, a, b, r, g, ha, hb, e, q⟩
  cases a <;> cases b <;> simp only [binD, Option.ite_none_right_eq_some, Option.some.injEq, reduceCtorEq] at e
  obtain ⟨hz, rfl⟩ := e
  exact op_fdiv pins s σ H x y v u Q I rx ry ⟨_, _, ha, hb, hz, q.int⟩
theorem o_mod : OpR X (binaryOp .Mod) (rOp T true (binD .mod)) := by
  intro pins s σ H x y v u Q I rx ry ⟨G, μ, st, a, b, r, g, ha, hb, e, q⟩
  cases a <;> cases b <;> simp only [binD, Option.ite_none_right_eq_some, Option.some.injEq, reduceCtorEq] at e
  obtain ⟨hz, rfl⟩ := e
  exact op_mod pins s σ H x y v u Q I rx ry ⟨_, _, ha, hb, hz, q.int⟩
theorem o_pow : OpR X (binaryOp .Pow) (rOp T true (binD .pow)) := by
  intro pins s σ H x y v u Q I rx ry ⟨G, μ, st, a, b, r, g, ha, hb, e, q⟩
  cases a <;> cases b <;> simp only [binD, Option.ite_none_right_eq_some, Option.some.injEq, reduceCtorEq] at e
  rename_i i j
  obtain ⟨hz, rfl⟩ := e
  simp only [Top, Rep] at ha hb
  subst ha hb
  obtain ⟨t, rfl⟩ := rx
  obtain ⟨t', rfl⟩ := ry
  simp only [gPow, Bool.and_eq_true, decide_eq_true_eq] at hz
  obtain ⟨⟨h0, h1⟩, h2⟩ := hz
  have fin : ∀ k : Int, k = i ^ j.toNat → (PySem.Made.int k).post (EP X pins σ Q) s := fun k e => ⟨.int k, H, I.tok _, ⟨_, rfl⟩, by rw [e]; exact q.int⟩
  by_cases hj : j = 0
  · subst hj
    exact PySem.AutoIntOps.pow_0 (by decide) rfl (fin 1 (by simp))
  · have nj : ¬ (j == 0) = true := by simpa using hj
    have pj : 0 < j.toNat := by omega
    by_cases h01 : i = 0 ∨ i = 1
    · refine PySem.AutoIntOps.pow_1 h0 nj (by rcases h01 with e | e <;> simp [e]) (fin i ?_)
      rcases h01 with e | e
      · subst e; rw [Int.zero_pow (by omega)]
      · subst e; rw [Int.one_pow]
    · have n01 : ¬ (i == 0 || i == 1) = true := by simpa using h01
      by_cases hm : i = -1
      · subst hm
        refine PySem.AutoIntOps.pow_2 h0 nj n01 rfl (fin _ ?_)
        obtain ⟨n, rfl⟩ : ∃ n : Nat, j = n := ⟨j.toNat, by omega⟩
        rw [Int.toNat_natCast]
        clear fin q I nj pj hj h0 h1
        induction n using Nat.strongRecOn with
        | _ n ih =>
          match n with
          | 0 => rfl
          | 1 => rfl
          | n + 2 =>
            have := ih n (by omega)
            rw [Int.pow_succ, Int.pow_succ, ← this]
            have e : ((n + 2 : Nat) : Int) % 2 = (n : Int) % 2 := by omega
            rw [e]
            split <;> rfl
      · refine PySem.AutoIntOps.pow_4 h0 nj n01 (by simpa using hm) ?_ (fin _ rfl)
        have hb : Builtin.Int.intBits i ≤ 4001 := by
          unfold Builtin.Int.intBits
          split
          · omega
          · have hi : i.natAbs ≠ 0 := by omega
            have := (Nat.log2_lt hi).mpr h2
            omega
        have e : bitsLine = 134217728 := by decide
        unfold Builtin.Int.intTooBig
        rw [e]
        have : ((Builtin.Int.intBits i : Nat) : Int) * j ≤ 4001 * 1000 := by
          have a1 : ((Builtin.Int.intBits i : Nat) : Int) * j ≤ 4001 * j := Int.mul_le_mul_of_nonneg_right (by omega) h0
          omega
        simp only [decide_eq_true_eq]
        omega
end
end PD
end ZPDOps
section ZPDMul
set_option Elab.async false
set_option linter.all false
set_option maxRecDepth 100000
set_option maxHeartbeats 4000000
namespace PD
open PySem PySem.Spec L2 PyProof.Rows

/-- t * n where nothing is to be done: t itself -/
theorem tup_mul_same (l : Addr) (items : Array Value) (n : Nat) (dd : Option Addr) (sl : Array (Option Value)) (x : Int) (u : Tok)
    (k0 : (decide (x < -(2 ^ 63)) || decide (x ≥ 2 ^ 63)) = false) (k1 : (items.isEmpty || x == 1) = true) :
    Meets (Builtin.«tuple.__mul__» ⟨[.ref l, .int x u], []⟩) (fun _ R s => s.heap.get? l = some { cls := .type "tuple", dict := dd, data := .seq items n, slots := sl } ∧ R (.ok (.ret (Value.ref l))) s) :=
  .of_wp fun prog w A R s h => by
    obtain ⟨hp, g, d, tk, os⟩ := s
    obtain ⟨hl, h⟩ := h
    have f1 := AutoSeq1.idx_int
    wp_walk using wpAny_loadPart' hl
    repeat (first
      | (refine wpAny_ite_false (decide_eq_false (by rw [k0]; exact Bool.false_ne_true)) ?_; wp_walk using wpAny_loadPart' hl)
      | (refine wpAny_ite_true (decide_eq_true k1) ?_; wp_walk using wpAny_loadPart' hl))
    exact ⟨_, rfl, h⟩
section
variable {X : Cx} {T : Tb}
def rMulSame (K : PySem.W.Frag) : R2 := fun x y H Q => ∃ l k xs, x = .ref l ∧ y = .int k ∧ SqT K H l xs ∧ -(2 ^ 63) ≤ k ∧ k < 2 ^ 63 ∧ (xs = [] ∨ k = 1) ∧ Q (.ref l) H
theorem op_mulSame : OpR X (binaryOp .Mult) (rMulSame X.K) := by
  intro pins s σ H x y v u Q I rx ry ⟨l, k, xs, e1, e2, hT, b1, b2, hk, q⟩
  subst e1 e2
  cases rx
  obtain ⟨t, rfl⟩ := ry
  obtain ⟨its, r, ⟨⟨cls, dd, data, sl⟩, ho, hc, n, hd⟩, _⟩ := I.tuple hT
  simp only at hc hd
  subst hc hd
  have k0 : (decide (k < -(2 ^ 63)) || decide (k ≥ 2 ^ 63)) = false := by
    simp only [Bool.or_eq_false_iff, decide_eq_false_iff_not]; omega
  have k1 : (its.toArray.isEmpty || k == 1) = true := by
    rcases hk with e | e
    · subst e
      cases r
      rfl
    · subst e
      simp
  refine wpAny_binaryOp_repeat_ref (T := "tuple") (U := "int") (by decide) ⟨_, ho, rfl⟩ (fun s' => typeIs_int s' k t) noFill_tuple_mul F.fills_int_mul F.slot_int_rmul repeat_tuple F.slot_int_index.lookup ?_
  refine call_meets F.slot_int_rmul (typeIs_int s k t) F.entry_int_rmul (F.args_int_rmul_2 _ _) (int_rmul_tuple k t l its.toArray n dd sl) ⟨ho, rfl, ⟨_, ho, rfl⟩, ?_⟩
  exact call_meets F.slot_tuple_mul ⟨_, ho, rfl⟩ F.entry_tuple_mul (F.args_tuple_mul_2 _ _) (tup_mul_same l its.toArray n dd sl k t k0 k1) ⟨ho, .ref l, H, I, rfl, q⟩
theorem o_mul (hK : X.K = T.K) : OpR X (binaryOp .Mult) (rOp T true (binD .mul)) := by
  intro pins s σ H x y v u Q I rx ry ⟨G, μ, st, a, b, r, g, ha, hb, e, q⟩
  cases a <;> cases b <;> simp only [binD, Option.ite_none_right_eq_some, Option.some.injEq, reduceCtorEq] at e
  · obtain ⟨hz, rfl⟩ := e
    simp only [gMul, Bool.or_eq_true, decide_eq_true_eq] at hz
    exact op_mul pins s σ H x y v u Q I rx ry ⟨_, _, ha, hb, hz, q.int⟩
  · obtain ⟨⟨h0, h1, h2⟩, rfl⟩ := e
    simp only [Top, Rep] at ha hb
    subst ha hb
    obtain ⟨t, rfl⟩ := rx
    obtain ⟨t', rfl⟩ := ry
    exact PySem.SB.mul (PyProof.Rows.mulOk_of 1000 1000 h2 (by omega) (by omega) (by decide) (by decide)) fun t2 k => ⟨.str _, H, I.tok k, ⟨t2, rfl⟩, q.str⟩
  · obtain ⟨⟨h1, h2, h3⟩, rfl⟩ := e
    rename_i ds j
    simp only [Top, Rep] at ha hb
    obtain ⟨a, xs, rfl, ha, ra⟩ := ha
    subst hb
    by_cases hk : xs = [] ∨ j = 1
    · refine op_mulSame pins s σ H _ _ v u Q I rx ry ⟨a, j, xs, rfl, rfl, hK ▸ ha.sq, by omega, by omega, hk, q.same ⟨a, xs, rfl, ha, ?_⟩ fun _ z => nomatch z⟩
      rcases hk with e | e
      · have e' := ra.nil_iff.mp e
        subst e e'
        have : ∀ n : Nat, (List.replicate n ([] : List D)).flatten = [] := fun n => by simp
        rw [this]; exact ra
      · subst e
        simpa using ra
    · have hne : xs ≠ [] := fun z => hk (.inl z)
      exact op_repT pins s σ H _ _ v u Q I rx ry ⟨a, j, xs, rfl, rfl, hK ▸ ha.sq, hne, by omega, h2, by rw [ra.length]; exact h3, q.tup g (ra.rep _)⟩
  · obtain ⟨⟨h1, h2, h3⟩, rfl⟩ := e
    rename_i ds j
    obtain ⟨a, rfl, xs, ha, ra⟩ := (show ∃ a, x = .ref a ∧ LstC T H (FF G μ) μ a ds from ha)
    obtain rfl : y = .int j := hb
    refine L2.op_rep pins s σ H _ _ v u Q I rx ry ⟨a, j, xs, rfl, rfl, ha, by omega, by omega, ?_, q.lst g (ra.rep _)⟩
    rw [ra.length, PySem.sizeLine_eq]
    have : j.toNat ≤ 1000 := by omega
    have : ds.length * j.toNat ≤ 1000 * 1000 := Nat.mul_le_mul h3 this
    omega
end
end PD
end ZPDMul
section ZPDCmp
set_option Elab.async false
set_option linter.all false
set_option maxRecDepth 100000
set_option maxHeartbeats 1000000
namespace PD
open PySem L2

theorem pys_map : ∀ ds : List D, D.pys ds = ds.map D.py
  | [] => rfl
  | d :: ds => by simp only [D.pys, List.map_cons, pys_map ds]
mutual
theorem py_eqv : ∀ a b : D, a.plain = true → b.plain = true → PyData.eqv a.py b.py = a.eqv b
  | .non, b, _, hb => by cases b <;> simp_all [D.plain, D.py, D.eqv, PyData.eqv]
  | .bl x, b, _, hb => by cases b <;> simp_all [D.plain, D.py, D.eqv, PyData.eqv]
  | .int x, b, _, hb => by cases b <;> simp_all [D.plain, D.py, D.eqv, PyData.eqv]
  | .str x, b, _, hb => by cases b <;> simp_all [D.plain, D.py, D.eqv, PyData.eqv]
  | .tup ds, b, ha, hb => by
    cases b with
    | tup es => simp only [D.plain] at ha hb; simp only [D.py, D.eqv, PyData.eqv]; exact pys_eqv ds es ha hb
    | _ => simp_all [D.plain, D.py, D.eqv, PyData.eqv]
  | .lst ds, b, ha, hb => by
    cases b with
    | lst es => simp only [D.plain] at ha hb; simp only [D.py, D.eqv, PyData.eqv]; exact pys_eqv ds es ha hb
    | _ => simp_all [D.plain, D.py, D.eqv, PyData.eqv]
  | .dct _, _, ha, _ => by simp [D.plain] at ha
  | .ref _, _, ha, _ => by simp [D.plain] at ha
  | .scr _, _, ha, _ | .err _ _, _, ha, _ => by simp [D.plain] at ha
theorem pys_eqv : ∀ a b : List D, D.plainAll a = true → D.plainAll b = true → PyData.eqvAll (D.pys a) (D.pys b) = D.eqvAll a b
  | [], [], _, _ => by simp only [D.pys, D.eqvAll, PyData.eqvAll]
  | [], _ :: _, _, _ => by simp only [D.pys, D.eqvAll, PyData.eqvAll]
  | _ :: _, [], _, _ => by simp only [D.pys, D.eqvAll, PyData.eqvAll]
  | x :: xs, y :: ys, ha, hb => by
    simp only [D.plainAll, Bool.and_eq_true] at ha hb
    simp only [D.pys, D.eqvAll, PyData.eqvAll, py_eqv x y ha.1 hb.1, pys_eqv xs ys ha.2 hb.2]
end
mutual
theorem py_depth : ∀ a : D, a.plain = true → a.py.depth = a.depth
  | .non, _ | .bl _, _ | .int _, _ | .str _, _ => by simp only [D.py, D.depth, PyData.depth]
  | .tup ds, h => by simp only [D.plain] at h; simp only [D.py, D.depth, PyData.depth, pys_depth ds h]
  | .lst ds, h => by simp only [D.plain] at h; simp only [D.py, D.depth, PyData.depth, pys_depth ds h]
  | .dct _, ha | .ref _, ha | .scr _, ha | .err _ _, ha => by simp [D.plain] at ha
theorem pys_depth : ∀ a : List D, D.plainAll a = true → PyData.depthAll (D.pys a) = D.depthAll a
  | [], _ => by simp only [D.pys, D.depthAll, PyData.depthAll]
  | x :: xs, h => by
    simp only [D.plainAll, Bool.and_eq_true] at h
    simp only [D.pys, D.depthAll, PyData.depthAll, py_depth x h.1, pys_depth xs h.2]
end
mutual
theorem py_lay : ∀ a : D, a.plain = true → a.py.canLay0 = true
  | .non, _ | .bl _, _ | .int _, _ => by simp only [D.py, PyData.canLay0]
  | .str x, h => by
    simp only [D.plain] at h
    simp only [D.py, PyData.canLay0, PyData.strOk]
    exact h
  | .tup ds, h => by simp only [D.plain] at h; simp only [D.py, PyData.canLay0, pys_lay ds h]
  | .lst ds, h => by simp only [D.plain] at h; simp only [D.py, PyData.canLay0, pys_lay ds h]
  | .dct _, ha | .ref _, ha | .scr _, ha | .err _ _, ha => by simp [D.plain] at ha
theorem pys_lay : ∀ a : List D, D.plainAll a = true → PyData.canLayAll0 (D.pys a) = true
  | [], _ => by simp only [D.pys, PyData.canLayAll0]
  | x :: xs, h => by
    simp only [D.plainAll, Bool.and_eq_true] at h
    simp only [D.pys, PyData.canLayAll0, py_lay x h.1, pys_lay xs h.2, Bool.and_self]
end
theorem eqOk_shaped {d : D} (h : d.eqOk = true) : d.plain = true ∧ SeqAt.shaped d.py = true := by
  simp only [D.eqOk, Bool.and_eq_true, decide_eq_true_eq] at h
  refine ⟨h.1, ?_⟩
  show (d.py.canLay0 && decide (d.py.depth ≤ 64)) = true
  rw [py_lay d h.1, py_depth d h.1, Bool.true_and]
  exact decide_eq_true (by omega)

section
variable {T : Tb} {H : Hp} {F : Addr → Prop} {μ : List Addr}
mutual
theorem Rep.dp : ∀ (d : D) (v : V), d.plain = true → Rep T H F μ d v → Dp T.K H v d.py
  | .non, _, _, h => by simp only [Rep] at h; subst h; simp only [D.py]; exact .non
  | .bl b, _, _, h => by simp only [Rep] at h; subst h; simp only [D.py]; exact .bl b
  | .int b, _, _, h => by simp only [Rep] at h; subst h; simp only [D.py]; exact .int b
  | .str b, _, _, h => by simp only [Rep] at h; subst h; simp only [D.py]; exact .str b
  | .tup ds, _, p, h => by
    simp only [Rep] at h
    simp only [D.plain] at p
    obtain ⟨a, xs, rfl, h1, h2⟩ := h
    simp only [D.py]
    exact .tup h1.sq (Reps.dp ds xs p h2)
  | .lst ds, _, p, h => by
    simp only [Rep] at h
    simp only [D.plain] at p
    obtain ⟨a, xs, rfl, h1, _, h2⟩ := h
    simp only [D.py]
    exact .lst (SqL.of h1) (Reps.dp ds xs p h2)
  | .dct _, _, ha, _ | .ref _, _, ha, _ | .scr _, _, ha, _ | .err _ _, _, ha, _ => by simp [D.plain] at ha
theorem Reps.dp : ∀ (ds : List D) (vs : List V), D.plainAll ds = true → Reps T H F μ ds vs → DpAll T.K H vs (D.pys ds)
  | [], _, _, h => by simp only [Reps] at h; subst h; simp only [D.pys]; exact .nil
  | d :: ds, _, p, h => by
    simp only [Reps] at h
    simp only [D.plainAll, Bool.and_eq_true] at p
    obtain ⟨x, r, rfl, h1, h2⟩ := h
    simp only [D.pys]
    exact .cons (Rep.dp d x p.1 h1) (Reps.dp ds r p.2 h2)
end
theorem Top.dp : ∀ {d : D} {v : V}, d.plain = true → Top T H F μ d v → Dp T.K H v d.py
  | .non, _, p, h | .bl _, _, p, h | .int _, _, p, h | .str _, _, p, h | .tup _, _, p, h => Rep.dp (F := F) (μ := μ) _ _ p h
  | .lst ds, _, p, ⟨a, e, xs, h1, h2⟩ => by
    subst e
    simp only [D.plain] at p
    simp only [D.py]
    exact .lst (SqL.of h1) (Reps.dp ds xs p h2)
  | .dct _, _, ha, _ | .ref _, _, ha, _ | .scr _, _, ha, _ | .err _ _, _, ha, _ => by simp [D.plain] at ha
end
theorem any_eqv {a : D} (ha : a.plain = true) : ∀ {ds : List D}, D.plainAll ds = true → ((D.pys ds).any fun z => PyData.eqv z a.py) = ds.any fun z => z.eqv a
  | [], _ => by simp only [D.pys, List.any_nil]
  | d :: ds, h => by
    simp only [D.plainAll, Bool.and_eq_true] at h
    simp only [D.pys, List.any_cons, py_eqv d a h.1 ha, any_eqv ha h.2]
/-- a comparison by values: its readings -/
def rCp (T : Tb) (f : D → D → Option Bool) : R2 := fun x y H Q => ∃ G μ st a b r, GoodT T G μ H st ∧ Top T H (FF G μ) μ a x ∧ Top T H (FF G μ) μ b y ∧ f a b = some r ∧ Q (.bl r) H
section
variable {X : Cx} {T : Tb}
theorem isNon_rep {T : Tb} {H : Hp} {F : Addr → Prop} {μ : List Addr} : ∀ {d : D} {v : V}, Top T H F μ d v → decide (v = .non) = d.isNon
  | .non, _, h => by simp only [Top, Rep] at h; subst h; rfl
  | .bl _, _, h | .int _, _, h | .str _, _, h => by simp only [Top, Rep] at h; subst h; rfl
  | .tup _, _, h => by simp only [Top, Rep] at h; obtain ⟨a, xs, rfl, _⟩ := h; rfl
  | .lst _, _, h => by obtain ⟨a, rfl, _⟩ := h; rfl
  | .dct _, _, h => by obtain ⟨a, rfl, _⟩ := h; rfl
  | .ref _, _, h => by simp only [Top, Rep] at h; obtain ⟨a, rfl, _⟩ := h; rfl
  | .scr _, _, h => by simp only [Top, Rep] at h; obtain ⟨a, rfl, _⟩ := h; rfl
  | .err _ _, _, h => by simp only [Top, Rep] at h; obtain ⟨a, _, _, rfl, _⟩ := h; rfl
theorem c_eq (hK : X.K = T.K) (hu : X.A.units + 64 < cLine) : OpR X (compareOp .Eq) (rCp T (cmpD .eq)) := by
  intro pins s σ H x y v u Q I rx ry ⟨G, μ, st, a, b, r, g, ha, hb, e, q⟩
  simp only [cmpD, Option.ite_none_right_eq_some, Option.some.injEq, Bool.and_eq_true] at e
  obtain ⟨⟨h1, h2⟩, rfl⟩ := e
  obtain ⟨p1, s1⟩ := eqOk_shaped h1
  obtain ⟨p2, s2⟩ := eqOk_shaped h2
  exact op_eqD hu pins s σ H x y v u Q I rx ry ⟨_, _, hK ▸ ha.dp p1, hK ▸ hb.dp p2, s1, s2, by rw [py_eqv a b p1 p2]; exact q⟩
theorem c_ne (hK : X.K = T.K) (hu : X.A.units + 64 < cLine) : OpR X (compareOp .NotEq) (rCp T (cmpD .ne)) := by
  intro pins s σ H x y v u Q I rx ry ⟨G, μ, st, a, b, r, g, ha, hb, e, q⟩
  simp only [cmpD, Option.ite_none_right_eq_some, Option.some.injEq, Bool.and_eq_true] at e
  obtain ⟨⟨h1, h2⟩, rfl⟩ := e
  obtain ⟨p1, s1⟩ := eqOk_shaped h1
  obtain ⟨p2, s2⟩ := eqOk_shaped h2
  exact op_neD hu pins s σ H x y v u Q I rx ry ⟨_, _, hK ▸ ha.dp p1, hK ▸ hb.dp p2, s1, s2, by rw [py_eqv a b p1 p2]; exact q⟩
theorem c_lt : OpR X (compareOp .Lt) (rCp T (cmpD .lt)) := by
  intro pins s σ H x y v u Q I rx ry ⟨G, μ, st, a, b, r, g, ha, hb, e, q⟩
  cases a <;> cases b <;> simp only [cmpD, Option.some.injEq, reduceCtorEq] at e
  subst e
  exact op_lt pins s σ H x y v u Q I rx ry ⟨_, _, ha, hb, q⟩
theorem c_le : OpR X (compareOp .LtE) (rCp T (cmpD .le)) := by
  intro pins s σ H x y v u Q I rx ry ⟨G, μ, st, a, b, r, g, ha, hb, e, q⟩
  cases a <;> cases b <;> simp only [cmpD, Option.some.injEq, reduceCtorEq] at e
  · subst e
    exact op_le pins s σ H x y v u Q I rx ry ⟨_, _, ha, hb, q⟩
  · subst e
    exact op_le_str pins s σ H x y v u Q I rx ry ⟨_, _, ha, hb, q⟩
theorem c_gt : OpR X (compareOp .Gt) (rCp T (cmpD .gt)) := by
  intro pins s σ H x y v u Q I rx ry ⟨G, μ, st, a, b, r, g, ha, hb, e, q⟩
  cases a <;> cases b <;> simp only [cmpD, Option.some.injEq, reduceCtorEq] at e
  subst e
  exact op_gt pins s σ H x y v u Q I rx ry ⟨_, _, ha, hb, q⟩
theorem c_ge : OpR X (compareOp .GtE) (rCp T (cmpD .ge)) := by
  intro pins s σ H x y v u Q I rx ry ⟨G, μ, st, a, b, r, g, ha, hb, e, q⟩
  cases a <;> cases b <;> simp only [cmpD, Option.some.injEq, reduceCtorEq] at e
  subst e
  exact op_ge pins s σ H x y v u Q I rx ry ⟨_, _, ha, hb, q⟩
theorem c_is : OpR X (compareOp .Is) (rCp T (cmpD .is_)) := by
  intro pins s σ H x y v u Q I rx ry ⟨G, μ, st, a, b, r, g, ha, hb, e, q⟩
  cases b <;> simp only [cmpD, Option.some.injEq, reduceCtorEq] at e
  subst e
  exact op_isN pins s σ H x y v u Q I rx ry ⟨hb, by rw [isNon_rep ha]; exact q⟩
theorem c_isnot : OpR X (compareOp .IsNot) (rCp T (cmpD .isnot)) := by
  intro pins s σ H x y v u Q I rx ry ⟨G, μ, st, a, b, r, g, ha, hb, e, q⟩
  cases b <;> simp only [cmpD, Option.some.injEq, reduceCtorEq] at e
  subst e
  exact op_notN pins s σ H x y v u Q I rx ry ⟨hb, by rw [isNon_rep ha]; exact q⟩
/-- in, not in of a tuple's data -/
theorem op_inDT (hu : X.A.units + 65 < cLine) : OpR X (compareOp .In) (fun x y H Q => ∃ d ds, Dp X.K H x d ∧ Dp X.K H y (.tuple ds) ∧ SeqAt.shaped d = true ∧ SeqAt.shaped (.tuple ds) = true ∧ Q (.bl (ds.any fun z => PyData.eqv z d)) H) := by
  intro pins s σ H x y v u Q I rx ry ⟨d, ds, hd, he, sd, se, q⟩
  obtain ⟨as, r1⟩ := Dp.reads I d x v hd rx
  obtain ⟨bs, r2⟩ := Dp.reads I (.tuple ds) y u he ry
  have hl := SeqAt.canLay_of_shaped se
  simp only [PyData.canLay0] at hl
  exact SeqAt.in_tuple_reads r2 r1 hl (SeqAt.canLay_of_shaped sd) (PyProof.Rows.room_in_shaped sd hu) ⟨.bl _, H, I, rfl, q⟩
theorem op_notInDT (hu : X.A.units + 65 < cLine) : OpR X (compareOp .NotIn) (fun x y H Q => ∃ d ds, Dp X.K H x d ∧ Dp X.K H y (.tuple ds) ∧ SeqAt.shaped d = true ∧ SeqAt.shaped (.tuple ds) = true ∧ Q (.bl (!ds.any fun z => PyData.eqv z d)) H) := by
  intro pins s σ H x y v u Q I rx ry ⟨d, ds, hd, he, sd, se, q⟩
  obtain ⟨as, r1⟩ := Dp.reads I d x v hd rx
  obtain ⟨bs, r2⟩ := Dp.reads I (.tuple ds) y u he ry
  have hl := SeqAt.canLay_of_shaped se
  simp only [PyData.canLay0] at hl
  exact SeqAt.notIn_tuple_reads r2 r1 hl (SeqAt.canLay_of_shaped sd) (PyProof.Rows.room_in_shaped sd hu) ⟨.bl _, H, I, rfl, q⟩
end
end PD
end ZPDCmp
section ZPDDict
set_option Elab.async false
set_option linter.all false
set_option maxRecDepth 100000
set_option maxHeartbeats 1000000
namespace PD
open PySem L2

/-! ### keys -/
mutual
theorem nk_some : ∀ d : D, d.hash = true → ∃ n, nkL d = some n ∧ n.depth = d.depth
  | .non, _ => ⟨.none, rfl, rfl⟩
  | .bl b, _ => ⟨_, rfl, rfl⟩
  | .int b, _ => ⟨_, rfl, rfl⟩
  | .str b, _ => ⟨_, rfl, rfl⟩
  | .tup ds, h => by
    simp only [D.hash] at h
    obtain ⟨ns, e, hd⟩ := nks_some ds h
    exact ⟨.tup ns, by simp only [nkL, e, Option.map_some], by simp only [NestedKey.depth, D.depth, hd]⟩
  | .lst _, h | .dct _, h | .ref _, h | .scr _, h | .err _ _, h => by simp [D.hash] at h
theorem nks_some : ∀ ds : List D, D.hashAll ds = true → ∃ n, nkLs ds = some n ∧ NestedKey.depthAll n = D.depthAll ds
  | [], _ => ⟨[], rfl, rfl⟩
  | d :: ds, h => by
    simp only [D.hashAll, Bool.and_eq_true] at h
    obtain ⟨n, e, hd⟩ := nk_some d h.1
    obtain ⟨ns, es, hds⟩ := nks_some ds h.2
    exact ⟨n :: ns, by simp only [nkLs, e, es], by simp only [NestedKey.depthAll, D.depthAll, hd, hds]⟩
end
mutual
theorem nk_eqv : ∀ (a b : D) (n m : NestedKey), nkL a = some n → nkL b = some m → a.eqv b = decide (n = m)
  | .non, b, n, m, ha, hb => by
    simp only [nkL, Option.some.injEq] at ha
    subst ha
    cases b <;> simp only [nkL, Option.some.injEq, Option.map_eq_some_iff, reduceCtorEq] at hb <;> first | subst hb | obtain ⟨_, _, rfl⟩ := hb
    all_goals simp [D.eqv]
  | .bl x, b, n, m, ha, hb => by
    simp only [nkL, Option.some.injEq] at ha
    subst ha
    cases b <;> simp only [nkL, Option.some.injEq, Option.map_eq_some_iff, reduceCtorEq] at hb <;> first | subst hb | obtain ⟨_, _, rfl⟩ := hb
    all_goals first | simp [D.eqv] | skip
    · rename_i y; cases x <;> cases y <;> rfl
    · rename_i y; cases x <;> simp [Bool.beq_eq_decide_eq]
  | .int x, b, n, m, ha, hb => by
    simp only [nkL, Option.some.injEq] at ha
    subst ha
    cases b <;> simp only [nkL, Option.some.injEq, Option.map_eq_some_iff, reduceCtorEq] at hb <;> first | subst hb | obtain ⟨_, _, rfl⟩ := hb
    all_goals simp [D.eqv, Bool.beq_eq_decide_eq]
  | .str x, b, n, m, ha, hb => by
    simp only [nkL, Option.some.injEq] at ha
    subst ha
    cases b <;> simp only [nkL, Option.some.injEq, Option.map_eq_some_iff, reduceCtorEq] at hb <;> first | subst hb | obtain ⟨_, _, rfl⟩ := hb
    all_goals simp [D.eqv, Bool.beq_eq_decide_eq]
  | .tup ds, b, n, m, ha, hb => by
    simp only [nkL, Option.map_eq_some_iff] at ha
    obtain ⟨ns, e, rfl⟩ := ha
    cases b <;> simp only [nkL, Option.some.injEq, Option.map_eq_some_iff, reduceCtorEq] at hb <;> first | subst hb | obtain ⟨ms, e', rfl⟩ := hb
    all_goals first | (simp [D.eqv]; done) | skip
    rename_i es
    simp only [D.eqv, nks_eqv ds es ns ms e e', NestedKey.tup.injEq]
  | .lst _, _, _, _, h, _ | .dct _, _, _, _, h, _ | .ref _, _, _, _, h, _ | .scr _, _, _, _, h, _ | .err _ _, _, _, _, h, _ => by simp [nkL] at h
theorem nks_eqv : ∀ (a b : List D) (n m : List NestedKey), nkLs a = some n → nkLs b = some m → D.eqvAll a b = decide (n = m)
  | [], [], n, m, ha, hb => by simp only [nkLs, Option.some.injEq] at ha hb; subst ha hb; simp [D.eqvAll]
  | [], y :: ys, n, m, ha, hb => by
    simp only [nkLs, Option.some.injEq] at ha hb
    subst ha
    cases e1 : nkL y <;> cases e2 : nkLs ys <;> simp [e1, e2] at hb
    subst hb
    simp [D.eqvAll]
  | x :: xs, [], n, m, ha, hb => by
    simp only [nkLs, Option.some.injEq] at ha hb
    subst hb
    cases e1 : nkL x <;> cases e2 : nkLs xs <;> simp [e1, e2] at ha
    subst ha
    simp [D.eqvAll]
  | x :: xs, y :: ys, n, m, ha, hb => by
    simp only [nkLs] at ha hb
    cases e1 : nkL x <;> cases e2 : nkLs xs <;> simp [e1, e2] at ha
    cases e3 : nkL y <;> cases e4 : nkLs ys <;> simp [e3, e4] at hb
    subst ha hb
    rw [D.eqvAll, nk_eqv x y _ _ e1 e3, nks_eqv xs ys _ _ e2 e4]
    simp [Bool.decide_and]
end

section
variable {X : Cx} {T : Tb} {pins : List (Addr × Obj)} {σ : L2.St} {H : Hp} {s : Shared} {F : Addr → Prop} {μ : List Addr}
mutual
theorem Rep.nk (I : Inv X pins σ H s) (hK : X.K = T.K) : ∀ (d : D) (v : V) (n : NestedKey) (u : Value), nkL d = some n → Rep T H F μ d v → RelV v u → NestedIs s.heap n u
  | .non, _, _, _, e, h, r => by
    simp only [nkL, Option.some.injEq] at e; simp only [Rep] at h; subst e h; cases r; exact .none
  | .bl b, _, _, _, e, h, r => by
    simp only [nkL, Option.some.injEq] at e; simp only [Rep] at h; subst e h; cases r; exact .bool rfl
  | .int b, _, _, _, e, h, r => by
    simp only [nkL, Option.some.injEq] at e; simp only [Rep] at h; subst e h; obtain ⟨t, rfl⟩ := r; exact .int b t
  | .str b, _, _, _, e, h, r => by
    simp only [nkL, Option.some.injEq] at e; simp only [Rep] at h; subst e h; obtain ⟨t, rfl⟩ := r; exact .text b t
  | .tup ds, _, _, _, e, h, r => by
    simp only [nkL, Option.map_eq_some_iff] at e
    simp only [Rep] at h
    obtain ⟨ns, e, rfl⟩ := e
    obtain ⟨a, xs, rfl, h1, h2⟩ := h
    cases r
    obtain ⟨its, rv, ⟨o, ho, hc, k, hd⟩, _⟩ := I.tuple (hK ▸ h1.sq)
    exact .tup ho hc hd (by simpa using Reps.nk I hK ds xs ns its e h2 rv)
  | .lst _, _, _, _, e, _, _ | .dct _, _, _, _, e, _, _ | .ref _, _, _, _, e, _, _ | .scr _, _, _, _, e, _, _ | .err _ _, _, _, _, e, _, _ => by simp [nkL] at e
theorem Reps.nk (I : Inv X pins σ H s) (hK : X.K = T.K) : ∀ (ds : List D) (vs : List V) (n : List NestedKey) (us : List Value), nkLs ds = some n → Reps T H F μ ds vs → Vals vs us → NestedAll s.heap n us
  | [], _, _, _, e, h, r => by
    simp only [nkLs, Option.some.injEq] at e; simp only [Reps] at h; subst e h; cases r; exact .nil
  | d :: ds, _, _, _, e, h, r => by
    simp only [nkLs] at e
    simp only [Reps] at h
    obtain ⟨x, q, rfl, h1, h2⟩ := h
    cases r with
    | cons r1 r2 =>
      cases e1 : nkL d <;> cases e2 : nkLs ds <;> simp [e1, e2] at e
      subst e
      exact .cons (Rep.nk I hK d x _ _ e1 h1 r1) (Reps.nk I hK ds q _ _ e2 h2 r2)
end
abbrev NK (X : Cx) := nestedKind X.prog X.w
theorem dKey_is (I : Inv X pins σ H s) (hK : X.K = T.K) {k : D} {kvs : List (D × D)} {v : V} {u : Value} (h : dKey k kvs = true) (hr : Rep T H F μ k v) (r : RelV v u) :
    ∃ n a, nkL k = some n ∧ v = .ref a ∧ u = .ref a ∧ (NK X).is s.heap n a := by
  simp only [dKey, Bool.and_eq_true, decide_eq_true_eq] at h
  obtain ⟨⟨⟨h1, h2⟩, h3⟩, _⟩ := h
  obtain ⟨n, e, hd⟩ := nk_some k h2
  cases k <;> simp only [D.isTup, Bool.false_eq_true] at h1
  have hr' := hr
  simp only [Rep] at hr'
  obtain ⟨a, xs, rfl, _⟩ := hr'
  have r' := r
  cases r'
  exact ⟨n, a, e, rfl, rfl, Rep.nk I hK _ _ n _ e hr r, by omega⟩
/-- an entry of the dict as it stands: key, place, value -/
def EnP : NestedKey × Addr × V → NestedKey × Addr × Value → Prop := fun p q => p.1 = q.1 ∧ p.2.1 = q.2.1 ∧ RelV p.2.2 q.2.2
theorem KVn.keys (I : Inv X pins σ H s) (hK : X.K = T.K) : ∀ {kvs : List (D × D)} {es : List (NestedKey × Addr × V)} {xs : List (NestedKey × Addr × Value)}, KVn T H F μ kvs es → Paired EnP es xs → ∀ x ∈ xs, (NK X).is s.heap x.1 x.2.1
  | [], _, _, h, p, x, hx => by simp only [KVn] at h; subst h; cases p; cases hx
  | (k, d) :: r, _, _, h, p, x, hx => by
    simp only [KVn] at h
    obtain ⟨n, q, y, r', rfl, ⟨e, hd⟩, h1, h2, h3⟩ := h
    cases p with
    | cons p1 p2 =>
      rcases List.mem_cons.mp hx with z | z
      · subst z
        obtain ⟨e1, e2, _⟩ := p1
        simp only at e1 e2
        rw [← e1, ← e2]
        exact ⟨Rep.nk I hK k _ n _ e h1 rfl, hd⟩
      · exact KVn.keys I hK h3 p2 x z
theorem exact_empty {h : Heap} {a : Addr} {P : Program} {w : World} (x : h.DictOf (mixKind P w) a []) : h.DictOfH (nestedKind P w) a [] := by
  obtain ⟨o, es, ep, h1, h2, h3, _, h4, _⟩ := x
  refine ⟨o, es, ep, h1, h2, h3, ?_, fun _ z => (nomatch z), List.nodup_nil⟩
  cases e : es.toList with
  | nil => rfl
  | cons a b => rw [e] at h4; cases h4
/-- the dict as the library tells it -/
theorem DctC.of (I : Inv X pins σ H s) (hP : X.prog = T.P) (hw : X.w = T.w) (hK : X.K = T.K) {a : Addr} {kvs : List (D × D)} (h : DctC T H F μ a kvs) (ht : headTup kvs = true) :
    ∃ es xs, KVn T H F μ kvs es ∧ Paired EnP es xs ∧ s.heap.DictOfH (NK X) a xs ∧ (a == sysModules) = false ∧ es.length ≤ sizeLine ∧ Mut (H a) := by
  rcases h with ⟨es, h1, h2⟩ | ⟨es, ob, hn, h1, h2⟩
  · cases kvs with
    | nil =>
      simp only [KVl] at h2
      subst h2
      have h1 : H a = Option.some (.dK []) := h1.elim (·.2) fun z => absurd rfl z.1
      obtain ⟨_, hs, vs, kv, hd⟩ := I.hok a _ h1
      cases kv
      exact ⟨[], [], by simp only [KVn], .nil, exact_empty hd, hs, Nat.zero_le _, by rw [h1]; trivial⟩
    | cons p r =>
      obtain ⟨k, d⟩ := p
      simp only [KVl] at h2
      obtain ⟨q, x, r', _, e, _⟩ := h2
      cases k <;> simp [headTup, D.isTup, leafK] at ht e
  · obtain ⟨⟨hl, hs, xs, hp, ents, ep, h3, h4, h5, h6, h7⟩, _⟩ := I.hok a _ h1
    rw [hP.symm, hw.symm] at h6
    exact ⟨es, xs, h2, hp, ⟨ob, ents, ep, h3, h4, h5, h6, KVn.keys I hK h2 hp, h7⟩, hs, hl, by rw [h1]; trivial⟩
theorem findK_at {k : D} {n : NestedKey} (hn : nkL k = some n) : ∀ {kvs : List (D × D)} {es : List (NestedKey × Addr × V)} {xs : List (NestedKey × Addr × Value)}, KVn T H F μ kvs es → Paired EnP es xs →
    match findK k kvs with
    | some d => ∃ p v, atKey xs n = some p ∧ RelV v p.2 ∧ Rep T H F μ d v
    | none => atKey xs n = none
  | [], _, _, h, p => by simp only [KVn] at h; subst h; cases p; rfl
  | (x, d) :: r, _, _, h, p => by
    simp only [KVn] at h
    obtain ⟨m, q, y, r', rfl, ⟨e, hd⟩, h1, h2, h3⟩ := h
    cases p with
    | @cons _ z _ zs p1 p2 =>
      obtain ⟨z1, z2, z3⟩ := z
      obtain ⟨e1, e2, e3⟩ := p1
      simp only at e1 e2 e3
      subst e1 e2
      have ih := findK_at hn h3 p2
      unfold findK
      rw [nk_eqv x k m n e hn]
      by_cases c : m = n
      · subst c
        simp only [decide_true, if_true]
        exact ⟨(q, z3), y, by simp [atKey], e3, h2⟩
      · rw [decide_eq_false c]
        simp only [Bool.false_eq_true, if_false]
        have : atKey ((m, q, z3) :: zs) n = atKey zs n := by simp [atKey, c]
        rw [this]
        exact ih
end
/-- what is stored -/
def storedE (es : List (NestedKey × Addr × V)) (n : NestedKey) (a : Addr) (v : V) : List (NestedKey × Addr × V) := match es with
  | [] => [(n, a, v)]
  | (m, q, x) :: r => if m = n then (m, q, v) :: r else (m, q, x) :: storedE r n a v
theorem storedH_cons {m n : NestedKey} {q a : Addr} {x v : Value} {r : List (NestedKey × Addr × Value)} (hd : ((m, q, x) :: r |>.map (·.1)).Nodup) :
    storedH ((m, q, x) :: r) n a v = if m = n then (m, q, v) :: r else (m, q, x) :: storedH r n a v := by
  by_cases c : m = n
  · subst c
    rw [if_pos rfl]
    have h1 : atKey ((m, q, x) :: r) m = some (q, x) := by simp [atKey]
    have hn : m ∉ r.map (·.1) := by
      rw [List.map_cons, List.nodup_cons] at hd
      exact hd.1
    rw [storedH_old h1, List.map_cons, map_putAt_of_not_mem r m v hn]
    simp [putAt]
  · rw [if_neg c]
    have h1 : atKey ((m, q, x) :: r) n = atKey r n := by simp [atKey, c]
    cases e : atKey r n with
    | none => rw [storedH_new (h1.trans e), storedH_new e, List.cons_append]
    | some p =>
      rw [storedH_old (h1.trans e), storedH_old e, List.map_cons]
      simp [putAt, c]
section
variable {T : Tb} {H : Hp} {F : Addr → Prop} {μ : List Addr}
theorem stored_pair {n : NestedKey} {a : Addr} {v : V} {u : Value} (rv : RelV v u) : ∀ {es : List (NestedKey × Addr × V)} {xs : List (NestedKey × Addr × Value)}, Paired EnP es xs → (xs.map (·.1)).Nodup → Paired EnP (storedE es n a v) (storedH xs n a u)
  | [], _, p, _ => by cases p; exact .cons ⟨rfl, rfl, rv⟩ .nil
  | (m, q, x) :: r, _, p, hd => by
    cases p with
    | @cons _ z _ zs p1 p2 =>
      obtain ⟨z1, z2, z3⟩ := z
      obtain ⟨e1, e2, e3⟩ := p1
      simp only at e1 e2 e3
      subst e1 e2
      rw [storedH_cons hd]
      unfold storedE
      by_cases c : m = n
      · rw [if_pos c, if_pos c]
        exact .cons ⟨rfl, rfl, rv⟩ p2
      · rw [if_neg c, if_neg c]
        exact .cons ⟨rfl, rfl, e3⟩ (stored_pair rv p2 (List.nodup_cons.mp (by simpa using hd)).2)
theorem KVn.put {k d : D} {n : NestedKey} {a : Addr} {v : V} (hn : nkL k = some n) (hd : n.depth ≤ 8) (hk : Rep T H F μ k (.ref a)) (hv : Rep T H F μ d v) : ∀ {kvs : List (D × D)} {es : List (NestedKey × Addr × V)}, KVn T H F μ kvs es → KVn T H F μ (putK k d kvs) (storedE es n a v)
  | [], _, h => by
    simp only [KVn] at h
    subst h
    simp only [putK, storedE, KVn]
    exact ⟨n, a, v, [], rfl, ⟨hn, hd⟩, hk, hv, rfl⟩
  | (x, y) :: r, _, h => by
    simp only [KVn] at h
    obtain ⟨m, q, z, r', rfl, ⟨e, hd'⟩, h1, h2, h3⟩ := h
    unfold putK storedE
    rw [nk_eqv x k m n e hn]
    by_cases c : m = n
    · subst c
      simp only [decide_true, if_true, KVn]
      exact ⟨m, q, v, r', rfl, ⟨e, hd'⟩, h1, hv, h3⟩
    · rw [decide_eq_false c, if_neg c]
      simp only [Bool.false_eq_true, if_false, KVn]
      exact ⟨m, q, z, _, rfl, ⟨e, hd'⟩, h1, h2, KVn.put hn hd hk hv h3⟩
theorem storedE_ne (es : List (NestedKey × Addr × V)) (n : NestedKey) (a : Addr) (v : V) : storedE es n a v ≠ [] := by
  cases es with
  | nil => simp [storedE]
  | cons p r => obtain ⟨m, q, x⟩ := p; unfold storedE; split <;> simp
theorem storedE_len : ∀ (es : List (NestedKey × Addr × V)) (n : NestedKey) (a : Addr) (v : V), (storedE es n a v).length ≤ es.length + 1
  | [], _, _, _ => by simp [storedE]
  | (m, q, x) :: r, n, a, v => by
    unfold storedE
    split
    · simp
    · have := storedE_len r n a v
      simp only [List.length_cons]
      omega
/-- what a dict with leaves as keys holds at a text -/
theorem KVl.val {k : Str} : ∀ {kvs : List (D × D)} {es : List (Key × V)}, KVl T H F μ kvs es → match findK (.str k) kvs with
    | some d => ∃ v, valV es (Sum.inr k : Key) = some v ∧ Rep T H F μ d v
    | none => valV es (Sum.inr k : Key) = none
  | [], _, h => by
    obtain rfl : _ = [] := h
    rfl
  | (x, d) :: r, _, h => by
    obtain ⟨q, y, r', rfl, e, h1, h2⟩ := h
    have ih := KVl.val (k := k) h2
    have hne : ∀ (q : Key), q ≠ (Sum.inr k : Key) → D.eqv x (.str k) = false → leafK x = some q → (match findK (.str k) ((x, d) :: r) with
      | some d => ∃ v, valV ((q, y) :: r') (Sum.inr k : Key) = some v ∧ Rep T H F μ d v
      | none => valV ((q, y) :: r') (Sum.inr k : Key) = none) := fun q n ev _ => by
      rw [valV_neg (p := (q, y)) n]
      have : findK (.str k) ((x, d) :: r) = findK (.str k) r := by
        show (if D.eqv x (.str k) then some d else findK (.str k) r) = _
        rw [ev]; rfl
      rw [this]
      exact ih
    cases x with
    | int i =>
      cases e
      exact hne _ (fun z => by cases z) rfl rfl
    | str z =>
      cases e
      by_cases c : z = k
      · subst c
        have : findK (.str z) ((.str z, d) :: r) = some d := by
          show (if (z == z) then some d else findK (.str z) r) = _
          rw [if_pos (by simp)]
        rw [this]
        exact ⟨y, valV_pos (p := (Sum.inr z, y)) rfl, h1⟩
      · exact hne _ (fun z => by cases z; exact c rfl) (by show (z == k) = false; simpa using c) rfl
    | _ => cases e
theorem KVl.app {k d : D} {q : Key} {v : V} (hk : leafK k = some q) (hv : Rep T H F μ d v) : ∀ {kvs : List (D × D)} {es : List (Key × V)}, KVl T H F μ kvs es → KVl T H F μ (kvs ++ [(k, d)]) (es ++ [(q, v)])
  | [], _, h => by
    obtain rfl : _ = [] := h
    exact ⟨q, v, [], rfl, hk, hv, rfl⟩
  | (x, y) :: r, _, h => by
    obtain ⟨p, z, r', rfl, e, h1, h2⟩ := h
    exact ⟨p, z, _, rfl, e, h1, KVl.app hk hv h2⟩
theorem KVl.len : ∀ {kvs : List (D × D)} {es : List (Key × V)}, KVl T H F μ kvs es → es.length = kvs.length
  | [], _, h => by obtain rfl : _ = [] := h; rfl
  | (k, d) :: r, _, h => by
    obtain ⟨_, _, r', rfl, _, _, h2⟩ := h
    simp [KVl.len h2]
/-- keys are texts: how it stands -/
theorem DctC.txt {a : Addr} {kvs : List (D × D)} (h : DctC T H F μ a kvs) (ht : headStr kvs = true) : ∃ es, DK H a es ∧ KVl T H F μ kvs es := by
  rcases h with h | ⟨es, ob, hn, h1, h2⟩
  · exact h
  · cases kvs with
    | nil =>
      simp only [KVn] at h2
      exact absurd h2 hn
    | cons p r =>
      obtain ⟨k, d⟩ := p
      obtain ⟨n, q, y, r', rfl, _, hk, _⟩ := h2
      cases k <;> simp only [headStr, isStrK, Bool.false_eq_true] at ht
      cases (show V.ref q = V.str _ from hk)
theorem KVn.length : ∀ {kvs : List (D × D)} {es : List (NestedKey × Addr × V)}, KVn T H F μ kvs es → es.length = kvs.length
  | [], _, h => by simp only [KVn] at h; subst h; rfl
  | (k, d) :: r, _, h => by
    simp only [KVn] at h
    obtain ⟨n, q, y, r', rfl, _, _, _, h3⟩ := h
    simp [KVn.length h3]
end
end PD
end ZPDDict
section ZPDDict2
set_option Elab.async false
set_option linter.all false
set_option maxRecDepth 100000
set_option maxHeartbeats 1000000
namespace PD
open PySem PySem.Spec L2 PyProof.Rows
theorem _root_.L2.dget_of {H : Hp} {a : Addr} {kvs : List (Key × V)} {k : Key} {o : Option V} (h : Rd H a (.dK kvs)) (e : valV kvs k = o) : DGet H a (kV k) o := .inl ⟨kvs, k, h, rfl, e.symm⟩

section
variable {X : Cx} {T : Tb}
/-- the context's facts -/
structure XT (T : Tb) (X : Cx) : Prop where
  P : X.prog = T.P
  w : X.w = T.w
  K : X.K = T.K
  m : X.mg = T.mg
  u : X.A.units + 200 < cLine
  c : X.calm = true
theorem dKey_head {k : D} {kvs : List (D × D)} (h : dKey k kvs = true) : headTup kvs = true := by
  simp only [dKey, Bool.and_eq_true] at h
  exact h.2
theorem c_in (h : XT T X) : OpR X (compareOp .In) (rCp T (cmpD .in_)) := by
  intro pins s σ H x y v u Q I rx ry ⟨G, μ, st, a, b, r, g, ha, hb, e, q⟩
  have hu := h.u
  cases b <;> simp only [cmpD, Option.ite_none_right_eq_some, Option.some.injEq, Bool.and_eq_true, reduceCtorEq] at e
  · cases a <;> simp only [reduceCtorEq] at e
    rename_i y0 x0
    obtain ⟨cps⟩ := x0
    match hc : cps.toList, e with
    | [c], e =>
      simp only [hc, Option.some.injEq] at e
      subst e
      obtain rfl : cps = #[c] := by rw [← Array.toArray_toList (xs := cps), hc]
      obtain rfl : x = _ := ha
      obtain rfl : y = _ := hb
      exact op_in_sign pins s σ H _ _ v u Q I rx ry ⟨c, y0, rfl, rfl, by rw [← List.contains_eq_mem]; exact q⟩
    | [], e => simp [hc] at e
    | _ :: _ :: _, e => simp [hc] at e
  · obtain ⟨⟨h1, h2⟩, rfl⟩ := e
    obtain ⟨p1, s1⟩ := eqOk_shaped h1
    obtain ⟨p2, s2⟩ := eqOk_shaped h2
    have hb' := Top.dp p2 hb
    simp only [D.plain] at p2
    simp only [D.py] at hb' s2
    exact op_inDT (by omega) pins s σ H x y v u Q I rx ry ⟨_, _, h.K ▸ ha.dp p1, h.K ▸ hb', s1, s2, by rw [any_eqv p1 p2]; exact q⟩
  · obtain ⟨⟨h1, h2⟩, rfl⟩ := e
    obtain ⟨p1, s1⟩ := eqOk_shaped h1
    obtain ⟨p2, s2⟩ := eqOk_shaped h2
    have hb' := Top.dp p2 hb
    simp only [D.plain] at p2
    simp only [D.py] at hb' s2
    exact op_inD (by omega) pins s σ H x y v u Q I rx ry ⟨_, _, h.K ▸ ha.dp p1, h.K ▸ hb', s1, s2, by rw [any_eqv p1 p2]; exact q⟩
  · rename_i kvs
    obtain ⟨h1, rfl⟩ := e
    obtain ⟨d, rfl, hb⟩ := hb
    cases ry
    have ht := dKey_head h1
    obtain ⟨es, xs, kv, pr, hd, hs, _, _⟩ := DctC.of I h.P h.w h.K hb ht
    have hr : Rep T H (FF G μ) μ a x := by
      cases a <;> simp [dKey, D.isTup] at h1
      exact ha
    obtain ⟨n, ad, hn, rfl, rfl, hk⟩ := dKey_is I h.K h1 hr rx
    have hf := findK_at hn kv pr
    refine wpAny_in_heap (show (NK X).room X.A.in1 by show X.A.units + 1 + 8 < cLine; omega) hk hs hd ⟨.bl (atKey xs n).isSome, H, I.tok _, rfl, ?_⟩
    cases hq : findK a kvs with
    | none => simp only [hq] at hf q; rw [hf]; exact q
    | some d' => simp only [hq] at hf q; obtain ⟨p, v, e1, _⟩ := hf; rw [e1]; exact q
theorem c_notin (h : XT T X) : OpR X (compareOp .NotIn) (rCp T (cmpD .notin)) := by
  intro pins s σ H x y v u Q I rx ry ⟨G, μ, st, a, b, r, g, ha, hb, e, q⟩
  have hu := h.u
  cases b <;> simp only [cmpD, Option.ite_none_right_eq_some, Option.some.injEq, Bool.and_eq_true, reduceCtorEq] at e
  · obtain ⟨⟨h1, h2⟩, rfl⟩ := e
    obtain ⟨p1, s1⟩ := eqOk_shaped h1
    obtain ⟨p2, s2⟩ := eqOk_shaped h2
    have hb' := Top.dp p2 hb
    simp only [D.plain] at p2
    simp only [D.py] at hb' s2
    exact op_notInDT (by omega) pins s σ H x y v u Q I rx ry ⟨_, _, h.K ▸ ha.dp p1, h.K ▸ hb', s1, s2, by rw [any_eqv p1 p2]; exact q⟩
  · obtain ⟨⟨h1, h2⟩, rfl⟩ := e
    obtain ⟨p1, s1⟩ := eqOk_shaped h1
    obtain ⟨p2, s2⟩ := eqOk_shaped h2
    have hb' := Top.dp p2 hb
    simp only [D.plain] at p2
    simp only [D.py] at hb' s2
    exact op_notInD (by omega) pins s σ H x y v u Q I rx ry ⟨_, _, h.K ▸ ha.dp p1, h.K ▸ hb', s1, s2, by rw [any_eqv p1 p2]; exact q⟩
  · rename_i kvs
    obtain ⟨h1, rfl⟩ := e
    obtain ⟨d, rfl, hb⟩ := hb
    cases ry
    have ht := dKey_head h1
    obtain ⟨es, xs, kv, pr, hd, hs, _, _⟩ := DctC.of I h.P h.w h.K hb ht
    have hr : Rep T H (FF G μ) μ a x := by
      cases a <;> simp [dKey, D.isTup] at h1
      exact ha
    obtain ⟨n, ad, hn, rfl, rfl, hk⟩ := dKey_is I h.K h1 hr rx
    have hf := findK_at hn kv pr
    refine notIn_keyed (knd := NK X) (kvs := pairsH xs) (show (NK X).room X.A.in1 by show X.A.units + 1 + 8 < cLine; omega) hk hs ⟨xs, hd, rfl⟩ ⟨.bl (!(valueAt (pairsH xs) n).isSome), H, I.tok _, rfl, ?_⟩
    rw [valueAt_pairsH, Option.isSome_map]
    cases hq : findK a kvs with
    | none => simp only [hq] at hf q; rw [hf]; exact q
    | some d' => simp only [hq] at hf q; obtain ⟨p, v, e1, _⟩ := hf; rw [e1]; exact q

/-! ### an item -/
def rIxD (T : Tb) : R2 := fun x y H Q => ∃ G μ st a b r, GoodT T G μ H st ∧ Top T H (FF G μ) μ a x ∧ Rep T H (FF G μ) μ b y ∧ idxD a b = some r ∧ ∀ v, Rep T H (FF G μ) μ r v → Q v H
theorem atI_of {ds : List D} {xs : List V} {i : Int} {d : D} {T : Tb} {H : Hp} {G : Addr → Prop} {μ : List Addr} (h : Reps T H (FF G μ) μ ds xs) (e : PD.atI ds i = some d) : ∃ v, L2.atI xs i = some v ∧ Rep T H (FF G μ) μ d v := by
  unfold PD.atI at e
  obtain ⟨j, h1, h2⟩ := Option.bind_eq_some_iff.mp e
  obtain ⟨v, h3, h4⟩ := h.get h2
  refine ⟨v, ?_, h4⟩
  unfold L2.atI
  have : L2.ixN xs.length i = some j := by rw [h.length]; exact h1
  rw [this]
  exact h3
theorem x_idx (h : XT T X) : IxR X (rIxD T) := by
  intro value slice pins s σ H x y v u Q I rx ry ⟨G, μ, st, a, b, r, g, ha, hb, e, q⟩ hs
  have hu := h.u
  cases a <;> cases b <;> simp only [idxD, Option.ite_none_right_eq_some, Option.map_eq_some_iff, reduceCtorEq] at e
  all_goals first
    | (obtain ⟨h1, h2⟩ := e
       simp [dKey, D.isTup] at h1; done)
    | skip
  · obtain ⟨hl, c, hc, rfl⟩ := e
    obtain rfl : x = _ := ha
    obtain rfl : y = _ := hb
    exact ix_str value slice pins s σ H _ _ v u Q I rx ry ⟨_, _, c, rfl, rfl, lim_line hl, hc, q _ rfl⟩ hs
  · simp only [Top, Rep] at ha hb
    obtain ⟨a, xs, rfl, h1, h2⟩ := ha
    subst hb
    obtain ⟨v', e1, e2⟩ := atI_of h2 e
    exact ix_tup value slice pins s σ H _ _ v u Q I rx ry ⟨a, xs, _, v', rfl, rfl, h.K ▸ h1.sq, e1, q v' e2⟩ hs
  · simp only [Rep] at hb
    obtain ⟨a, rfl, xs, h1, h2⟩ := ha
    subst hb
    obtain ⟨v', e1, e2⟩ := atI_of h2 e
    exact ix_list value slice pins s σ H _ _ v u Q I rx ry ⟨a, xs, _, v', rfl, rfl, SqL.of h1, e1, q v' e2⟩ hs
  · obtain ⟨h1, h2⟩ := e
    obtain ⟨d, rfl, ha⟩ := ha
    cases rx
    obtain rfl : y = _ := hb
    obtain ⟨es, hes, kv⟩ := ha.txt h1
    rename_i kk
    have hf := KVl.val (k := kk) kv
    rw [h2] at hf
    obtain ⟨v', e1, e3⟩ := hf
    have dg : DGet H d (.str kk) (some v') := L2.dget_of hes.rd e1
    exact tail_any (dict_typeIs I dg) PySem.F.slot_dict_getitem.lookup (d_getItem (by omega) I dg ry fun w' s3 I3 rw' => ⟨v', H, I3, rw', q v' e3⟩) hs
  · obtain ⟨h1, h2⟩ := e
    obtain ⟨d, rfl, ha⟩ := ha
    cases rx
    have ht := dKey_head h1
    obtain ⟨es, xs, kv, pr, hd, hsys, _, _⟩ := DctC.of I h.P h.w h.K ha ht
    obtain ⟨n, ad, hn, rfl, rfl, hk⟩ := dKey_is I h.K h1 hb ry
    have hf := findK_at hn kv pr
    rw [h2] at hf
    obtain ⟨p, v, e1, e2, e3⟩ := hf
    refine tail_any (ops := [.ref d, .ref ad]) hd.typeIs PySem.F.slot_dict_getitem.lookup (wpAny_getItem_heap (show (NK X).room X.A.in1 by show X.A.units + 1 + 8 < cLine; omega) hk hd e1 ?_) hs
    exact ⟨v, H, I.tok _, e2, q v e3⟩
  · simp only [Top, Rep] at ha hb
    obtain ⟨a, rfl, h1⟩ := ha
    subst hb
    rename_i ns i
    obtain ⟨z, h2, rfl⟩ := e
    unfold PD.atI at h2
    obtain ⟨j, h3, h4⟩ := Option.bind_eq_some_iff.mp h2
    refine ix_list value slice pins s σ H _ _ v u Q I rx ry ⟨a, _, _, .int z, rfl, rfl, h.K ▸ h1.sq, ?_, q (.int z) (by simp only [Rep])⟩ hs
    unfold L2.atI
    have : L2.ixN (ns.map V.int).length i = some j := by rw [List.length_map]; exact h3
    rw [this]
    show (ns.map V.int)[j]? = _
    rw [List.getElem?_map, h4]
    rfl
end
end PD
end ZPDDict2
section ZPDStore
set_option Elab.async false
set_option linter.all false
set_option maxRecDepth 100000
set_option maxHeartbeats 1000000
namespace PD
open PySem PySem.Spec L2 PyProof.Rows

section
variable {T : Tb} {G : Addr → Prop} {H H' : Hp} {μ μ' : List Addr} {st st' : Store} {σ : L2.St} {env : Env}
theorem nodup_get {α : Type} {l : List α} (h : l.Nodup) {i j : Nat} {a : α} (h1 : l[i]? = some a) (h2 : l[j]? = some a) : i = j :=
  (List.getElem?_inj (List.getElem?_eq_some_iff.mp h1).1 h).mp (h1.trans h2.symm)
/-- an object at a place that may change, changed: what is read of the others stays -/
theorem mvUpd {F : Addr → Prop} {a : Addr} {o : HO} (ha : F a) : Mv H (upd H a o) F F μ μ :=
  ⟨fun b u e n => by rw [upd_ne (by rintro rfl; exact n ha)]; exact e, fun _ z => .inl z, List.prefix_refl _⟩
/-- a place's object changed -/
theorem Post.put (g : GoodT T G μ H st) {i : Nat} {a : Addr} {o : HO} {u : O} (hi : μ[i]? = some a) (hn : H a ≠ some (.own a) ∧ ∀ b, H a ≠ some (.own b)) (h : ORep T (upd H a o) (FF G μ) μ a u) : Post T G μ H μ (upd H a o) (st.set i u) where
  mu := List.prefix_refl _
  new := fun _ z => .inl z
  keep := fun b w e n => by rw [upd_ne (by rintro rfl; exact n (List.mem_of_getElem? hi))]; exact e
  sto := by
    refine ⟨by rw [List.length_set]; exact g.sto.len, g.sto.nd, fun j w b h1 h2 => ?_⟩
    by_cases c : j = i
    · subst c
      rw [hi] at h2
      cases h2
      have hl : j < st.length := by
        have := (List.getElem?_eq_some_iff.mp h1).1
        rwa [List.length_set] at this
      rw [List.getElem?_set_self hl] at h1
      cases h1
      exact h
    · rw [List.getElem?_set_ne (fun z => c z.symm)] at h1
      have hb : b ≠ a := fun z => c (nodup_get g.sto.nd h2 (z ▸ hi))
      have ma : FF G μ a := .inl (List.mem_of_getElem? hi)
      refine (g.sto.ob j w b h1 h2).mv (mvUpd ma) (fun q e => by rw [upd_ne hb]; exact e) (fun _ z => .inl z) fun c q e nc => ?_
      rw [upd_ne (by rintro rfl; exact nc (List.mem_of_getElem? hi))]
      exact e
/-- a new place -/
theorem Post.new_ (g : GoodT T G μ H st) {p : Addr} (hp : H p = none) {u : O} (hk : ∀ a o, H a = some o → H' a = some o) (h : ORep T H' (FF G (μ ++ [p])) (μ ++ [p]) p u) (hs : H' p ≠ none) : Post T G μ H (μ ++ [p]) H' (st ++ [u]) where
  mu := ⟨[p], rfl⟩
  new := fun a z => by
    rcases List.mem_append.mp z with z | z
    · exact .inl z
    · simp at z; subst z; exact .inr hp
  keep := fun a o e _ => hk a o e
  sto := by
    have np : p ∉ μ := fun z => (g.fresh hp) (.inl z)
    refine ⟨by simp [g.sto.len], ?_, fun j w b h1 h2 => ?_⟩
    · rw [List.nodup_append]
      refine ⟨g.sto.nd, by simp, fun a ha b hb => ?_⟩
      simp at hb
      subst hb
      exact fun z => np (z ▸ ha)
    · by_cases c : j < st.length
      · rw [List.getElem?_append_left c] at h1
        rw [List.getElem?_append_left (by rw [g.sto.len]; exact c)] at h2
        refine (g.sto.ob j w b h1 h2).mv ⟨fun a o e _ => hk a o e, fun a z => ?_, ⟨[p], rfl⟩⟩ (fun q e => hk _ _ e) (fun a z => ?_) fun a q e _ => hk _ _ e
        · rcases z with z | z
          · rcases List.mem_append.mp z with z | z
            · exact .inl (.inl z)
            · simp at z; subst z; exact .inr hp
          · exact .inl (.inr z)
        · rcases List.mem_append.mp z with z | z
          · exact .inl z
          · simp at z; subst z; exact .inr hp
      · have hj : j = st.length := by
          have := (List.getElem?_eq_some_iff.mp h1).1
          simp at this
          omega
        subst hj
        rw [List.getElem?_append_right (Nat.le_refl _)] at h1
        rw [List.getElem?_append_right (by rw [g.sto.len]; exact Nat.le_refl _)] at h2
        simp [g.sto.len] at h1 h2
        subst h1 h2
        exact h
theorem mvNew (hk : ∀ a o, H a = some o → H' a = some o) {p : Addr} (hp : H p = none) : Mv H H' (FF G μ) (FF G (μ ++ [p])) μ (μ ++ [p]) :=
  ⟨fun a o e _ => hk a o e, fun a z => by
    rcases z with z | z
    · rcases List.mem_append.mp z with z | z
      · exact .inl (.inl z)
      · simp at z; subst z; exact .inr hp
    · exact .inl (.inr z), ⟨[p], rfl⟩⟩
end

/-! ### displays and places -/
section
variable {X : Cx} {T : Tb} {pos : Pos} {es : List Expr} {eva : Env → M (List D)}
theorem ite_inv {α : Type} {c : Prop} [Decidable c] {a : M α} {st st2 : Store} {b : α} (h : (if c then a else fail) st = .ok b st2) : c ∧ a st = .ok b st2 := by
  by_cases hc : c
  · rw [if_pos hc] at h; exact ⟨hc, h⟩
  · rw [if_neg hc] at h; cases h
theorem se_tup {k : Nat} (ha : PA X es (rdA T eva)) : PE X (.Tuple es k pos) (rdE T false false fun env => bnd (eva env) fun ds => if ds.length ≤ LIM then ret (.tup ds) else fail) := by
  refine PE.imp (pe_tup ha) fun σ H Q ⟨G, μ, env, st, d, st', g, e, q⟩ => ?_
  obtain ⟨ds, st1, e1, e2⟩ := bnd_inv e
  obtain ⟨hz, e2⟩ := ite_inv e2
  obtain ⟨rfl, rfl⟩ := ret_inv e2
  refine ⟨G, μ, env, st, ds, st1, g, e1, fun vs H1 μ1 p1 r1 => ⟨by rw [r1.length]; exact lim_line hz, fun p hp => ?_⟩⟩
  have g1 := g.toGoodT.post p1
  refine q _ _ μ1 (p1.trans (Post.more g1 (upd_more hp))) (.of0 ⟨p, vs, rfl, .inl ⟨upd_same, g1.fresh hp⟩, Reps.mv (mvMore (upd_more hp) _) ds vs r1⟩)
theorem se_lst (ha : PA X es (rdA T eva)) : PE X (.List es pos) (rdE T true false fun env => bnd (eva env) fun ds => if ds.length ≤ LIM then ret (.lst ds) else fail) := by
  refine PE.imp (pe_lst ha) fun σ H Q ⟨G, μ, env, st, d, st', g, e, q⟩ => ?_
  obtain ⟨ds, st1, e1, e2⟩ := bnd_inv e
  obtain ⟨hz, e2⟩ := ite_inv e2
  obtain ⟨rfl, rfl⟩ := ret_inv e2
  refine ⟨G, μ, env, st, ds, st1, g, e1, fun vs H1 μ1 p1 r1 => ⟨by rw [r1.length]; exact lim_line hz, fun p hp => ?_⟩⟩
  have g1 := g.toGoodT.post p1
  refine q _ _ μ1 (p1.trans (Post.more g1 (upd_more hp))) (.of ⟨p, vs, rfl, upd_same, g1.fresh hp, Reps.mv (mvMore (upd_more hp) _) ds vs r1⟩ fun _ _ e => by
    cases e
    exact ⟨p, vs, rfl, Post.back g.toGoodT p1 hp, upd_same, Reps.mv (mvGP (upd_more hp) hp) ds vs r1, p1.sto.gp (upd_more hp) hp⟩)
theorem se_new (ha : PA X es (rdA T eva)) : PE X (.List es pos) (rdE T false false fun env => bnd (eva env) fun ds => if ds.length ≤ LIM then alloc (.lst ds) else fail) := by
  refine PE.imp (pe_lst ha) fun σ H Q ⟨G, μ, env, st, d, st', g, e, q⟩ => ?_
  obtain ⟨ds, st1, e1, e2⟩ := bnd_inv e
  obtain ⟨hz, e2⟩ := ite_inv e2
  unfold alloc at e2
  cases e2
  refine ⟨G, μ, env, st, ds, st1, g, e1, fun vs H1 μ1 p1 r1 => ⟨by rw [r1.length]; exact lim_line hz, fun p hp => ?_⟩⟩
  have g1 := g.toGoodT.post p1
  refine q _ _ (μ1 ++ [p]) (p1.trans (Post.new_ g1 hp (upd_more hp) ⟨vs, upd_same, Reps.mv (mvNew (upd_more hp) hp) ds vs r1⟩ (by rw [upd_same]; simp))) (.of0 ⟨p, rfl, ?_⟩)
  rw [List.getElem?_append_right (by rw [g1.sto.len]; exact Nat.le_refl _)]
  simp [g1.sto.len]
theorem se_newd : PE X (.Dict [] [] pos) (rdE T false false fun _ => alloc (.dct [])) := by
  refine PE.imp pe_dnewK fun σ H Q ⟨G, μ, env, st, d, st', g, e, q⟩ => ?_
  unfold alloc at e
  cases e
  intro p hp
  refine q _ _ (μ ++ [p]) (Post.new_ g.toGoodT hp (upd_more hp) (.inl ⟨[], .nil upd_same, by simp only [KVl]⟩) (by rw [upd_same]; simp)) (.of0 ⟨p, rfl, ?_⟩)
  rw [List.getElem?_append_right (by rw [g.sto.len]; exact Nat.le_refl _)]
  simp [g.sto.len]
/-- argument lists -/
theorem sa_nil : PA X [] (rdA T fun _ => ret []) := by
  refine PA.imp pa_nil fun σ H Q ⟨G, μ, env, st, d, st', g, e, q⟩ => ?_
  obtain ⟨rfl, rfl⟩ := ret_inv e
  exact q [] H μ (Post.refl g.toGoodT) (by simp only [Reps])
theorem sa_cons {e : Expr} {fr : Bool} {ev : Env → M D} (he : PE X e (rdE T fr false ev)) (ha : PA X es (rdA T eva)) (hs : starEach (e :: es) X.env = (false, eval e X.env) :: starEach es X.env) :
    PA X (e :: es) (rdA T fun env => bnd (ev env) fun d => bnd (eva env) fun ds => ret (d :: ds)) := by
  refine PA.imp (pa_cons he ha hs) fun σ H Q ⟨G, μ, env, st, d, st', g, e, q⟩ => ?_
  obtain ⟨d, st1, e1, k2⟩ := bnd_inv e
  obtain ⟨ds, st2, e2, k3⟩ := bnd_inv k2
  obtain ⟨rfl, rfl⟩ := ret_inv k3
  clear e k2 k3
  refine ⟨G, μ, env, st, d, st1, g, e1, fun v H1 μ1 p1 r1 => ⟨G, μ1, env, st1, ds, st2, g.post p1, e2, fun vs H2 μ2 p2 r2 => ?_⟩⟩
  exact q (v :: vs) H2 μ2 (p1.trans p2) ⟨v, vs, rfl, Rep.mv p2.mv d v (r1.rep rfl), r2⟩
theorem sv_nil : PA X [] (rdV T fun _ => ret []) := by
  refine PA.imp pa_nil fun σ H Q ⟨G, μ, env, st, d, st', g, e, q⟩ => ?_
  obtain ⟨rfl, rfl⟩ := ret_inv e
  exact q [] H μ (Post.refl g.toGoodT) (by simp only [Pks])
theorem sv_cons {e : Expr} {fr pk : Bool} {ev : Env → M D} (he : PE X e (rdE T fr pk ev)) (ha : PA X es (rdV T eva)) (hs : starEach (e :: es) X.env = (false, eval e X.env) :: starEach es X.env) :
    PA X (e :: es) (rdV T fun env => bnd (ev env) fun d => bnd (eva env) fun ds => ret (d :: ds)) := by
  refine PA.imp (pa_cons he ha hs) fun σ H Q ⟨G, μ, env, st, d, st', g, e, q⟩ => ?_
  obtain ⟨d, st1, e1, k2⟩ := bnd_inv e
  obtain ⟨ds, st2, e2, k3⟩ := bnd_inv k2
  obtain ⟨rfl, rfl⟩ := ret_inv k3
  clear e k2 k3
  refine ⟨G, μ, env, st, d, st1, g, e1, fun v H1 μ1 p1 r1 => ⟨G, μ1, env, st1, ds, st2, g.post p1, e2, fun vs H2 μ2 p2 r2 => ?_⟩⟩
  exact q (v :: vs) H2 μ2 (p1.trans p2) ⟨v, vs, rfl, Pk.mv p2 r1.pkr, r2⟩
end
/-! ### operators on expressions -/
section
variable {X : Cx} {T : Tb} {pos : Pos} {a b : Expr} {eva evb : Env → M D} {fa pa fb pb : Bool}
theorem vw_inv {d d' : D} {st st2 : Store} (h : vw d st = .ok d' st2) : d' = view st d ∧ st2 = st := by
  unfold vw at h; cases h; exact ⟨rfl, rfl⟩
theorem Ans.q {T : Tb} {fr : Bool} {G : Addr → Prop} {μ : List Addr} {H : Hp} {r : D} {Q : VK} {fr0 : Bool} {H0 : Hp} {μ0 : List Addr} {st0 st : Store} (g0 : GoodT T G μ0 H0 st0) (p : Post T G μ0 H0 μ H st)
    (q : ∀ v H' μ', Post T G μ0 H0 μ' H' st → RS T fr0 false G H0 μ' H' st r v → Q v H') (hf : fr0 = true → fr = true) : Ans T fr (FF G μ) μ H r Q := fun v H' k rep f => by
  have g := g0.post p
  exact q v H' μ (p.trans (Post.more g k)) (.of rep fun z => fun ds e => by
    obtain ⟨pp, xs, e1, e2, e3, e4⟩ := f (hf z) ds e
    refine ⟨pp, xs, e1, Post.back g0 p e2, e3, Reps.mv ⟨fun _ _ e _ => e, fun a z => ?_, List.prefix_refl _⟩ ds xs e4, p.sto.gp k e2⟩
    rcases z with z | z | z
    · exact .inl (.inl (.inl z))
    · exact .inl (.inl (.inr z))
    · exact .inl (.inr z))
theorem se_bin {op : Operator} {f : D → D → Option D} (ho : OpR X (binaryOp op) (rOp T true f)) (ha : PE X a (rdE T fa pa eva)) (hb : PE X b (rdE T fb pb evb)) :
    PE X (.BinOp a op b pos) (rdE T true false fun env => bnd (eva env) fun x => bnd (evb env) fun y => bnd (vw x) fun x => bnd (vw y) fun y => opt (f x y)) := by
  refine PE.imp (pe_op ho ha hb) fun σ H Q ⟨G, μ, env, st, d, st', g, e, q⟩ => ?_
  obtain ⟨x, st1, e1, k2⟩ := bnd_inv e
  obtain ⟨y, st3, e2, k3⟩ := bnd_inv k2
  obtain ⟨x', st4, k4, k5⟩ := bnd_inv k3
  obtain ⟨rfl, rfl⟩ := vw_inv k4
  obtain ⟨y', st5, k6, k7⟩ := bnd_inv k5
  obtain ⟨rfl, rfl⟩ := vw_inv k6
  obtain ⟨e5, rfl⟩ := opt_inv k7
  clear e k2 k3 k4 k5 k6 k7
  refine ⟨G, μ, env, st, x, st1, g, e1, fun v H1 μ1 p1 r1 => ⟨G, μ1, env, st1, y, _, g.post p1, e2, fun u H2 μ2 p2 r2 => ?_⟩⟩
  have p12 := p1.trans p2
  have g2 := (g.post p1).post p2
  exact ⟨G, μ2, _, _, _, _, g2.toGoodT, (Pk.mv p2 r1.pkr).view g2.sto, r2.pkr.view g2.sto, e5, Ans.q g.toGoodT p12 q id⟩
theorem se_cmp {op : CmpOp} {f : D → D → Option Bool} (ho : OpR X (compareOp op) (rCp T f)) (ha : PE X a (rdE T fa pa eva)) (hb : PE X b (rdE T fb pb evb)) (hm : behindInMarks op b = false) :
    PE X (.Compare a [op] [b] pos) (rdE T false false fun env => bnd (eva env) fun x => bnd (evb env) fun y => bnd (vw x) fun x => bnd (vw y) fun y => bnd (opt (f x y)) fun r => ret (.bl r)) := by
  refine PE.imp (pe_cmpR ho ha hb hm) fun σ H Q ⟨G, μ, env, st, d, st', g, e, q⟩ => ?_
  obtain ⟨x, st1, e1, k2⟩ := bnd_inv e
  obtain ⟨y, st3, e2, k3⟩ := bnd_inv k2
  obtain ⟨x', st4, k4, k5⟩ := bnd_inv k3
  obtain ⟨rfl, rfl⟩ := vw_inv k4
  obtain ⟨y', st5, k6, k7⟩ := bnd_inv k5
  obtain ⟨rfl, rfl⟩ := vw_inv k6
  obtain ⟨r, st6, k8, k9⟩ := bnd_inv k7
  obtain ⟨e5, rfl⟩ := opt_inv k8
  obtain ⟨rfl, rfl⟩ := ret_inv k9
  clear e k2 k3 k4 k5 k6 k7 k8 k9
  refine ⟨G, μ, env, st, x, st1, g, e1, fun v H1 μ1 p1 r1 => ⟨G, μ1, env, st1, y, _, g.post p1, e2, fun u H2 μ2 p2 r2 => ?_⟩⟩
  have g2 := (g.post p1).post p2
  exact ⟨G, μ2, _, _, _, _, g2.toGoodT, (Pk.mv p2 r1.pkr).view g2.sto, r2.pkr.view g2.sto, e5, q _ _ μ2 (p1.trans p2) (.of0 (by simp only [Rep]))⟩
end
end PD
end ZPDStore
section ZPDTupD
set_option Elab.async false
set_option linter.all false
set_option maxRecDepth 100000
set_option maxHeartbeats 1000000
namespace PD
open PySem PySem.Spec L2 PyProof.Rows PySem.W
/-! tuple(d), d a dict: its keys -/
section
variable {prog : Program} {w : World} {A : Around} {E : Value → Shared → Prop} {s : Shared} {r d : Addr} {n : Nat} {P : Nat → Value → Prop} {OK : Heap → Prop}
theorem collect_kdl {T : String} {Q : List Value → Shared → Prop} (K : KdlSrc prog w T r d n P OK) (hh : A.handled = none) (hok : OK s.heap) (hn : n ≤ sizeLine)
    (hQ : ∀ (h' : Heap) (tk : Nat) (acc : Array Value), (∀ b o, s.heap.get? b = some o → h'.get? b = some o) → ItemsOf P acc n → Q acc.toList { s with heap := h', toks := tk }) :
    wpAny (model prog w) A (collect (.ref r)) Q E s := by
  unfold collect
  refine wpAny_bind (wpAny_runValue (codeAny_builtin F.entry_proto_collect ?_))
  rw [Around.under_plainId F.plain_proto_collect _]
  show wpAny _ A.in1 (newList [] >>= fun l => again (.builtin "list.__iadd__" ⟨[l, .ref r], []⟩)) _ _ s
  refine wpAny_bind (wpAny_newObj_type ?_)
  refine wpAny_pure ⟨plainId_quiet F.plain_list_iadd _, codeAny_builtin F.entry_list_iadd ?_⟩
  rw [Around.under_plainId F.plain_list_iadd _]
  show wpAny _ A.in1 (Builtin.List.listExtendWith (.ref s.heap.objs.size) (.ref r) (.ref s.heap.objs.size)) _ _ _
  have hS : (s.heap.push { cls := .type "list", data := .seq ([] : List Value).toArray }).get? s.heap.objs.size = some { cls := .type "list", data := .seq #[] 0 } := Heap.get?_push_size _ rfl
  have hlt := K.there _ hok
  refine wpAny_mono (kdl_extend (A := A) (R := fun rr s' => rr = .ok (.ret (.ref s.heap.objs.size)) ∧ ∃ (h' : Heap) (tk : Nat) (acc : Array Value) (c' : Nat), s' = { s with heap := h', toks := tk } ∧
      (∀ b o, s.heap.get? b = some o → h'.get? b = some o) ∧ h'.get? s.heap.objs.size = some { cls := .type "list", dict := none, data := .seq acc c', slots := #[] } ∧ ItemsOf P acc n)
    (s := { s with heap := s.heap.push { cls := .type "list", data := .seq ([] : List Value).toArray } }) K hh (K.keep _ _ hok fun b _ o e => Heap.get?_push_of_some _ e) _ (Nat.ne_of_gt hlt.1) (Nat.ne_of_gt hlt.2) _ 0 hS
    (fun h' tk acc c' hk e hi => ⟨rfl, h', tk, acc, c', rfl, fun b o q => hk b o (Nat.ne_of_lt (Heap.lt_size q)) (Heap.get?_push_of_some _ q), e, hi⟩) hn) (fun fin s' h => ?_) (fun e s' h => ?_)
  · cases fin with
    | done f =>
      obtain ⟨e, h', tk, acc, c', rfl, hk, hS', hi⟩ := h
      cases e
      show wpAny _ A (load s.heap.objs.size >>= _) _ _ _
      exact wpAny_bind (wpAny_load hS' (wpAny_pure (hQ h' tk acc hk hi)))
    | again c' =>
      refine ⟨h.1, codeAny_mono h.2 fun rr s'' hr' => ?_⟩
      obtain ⟨rfl, h', tk, acc, c', rfl, hk, hS', hi⟩ := hr'
      show wpAny _ A (load s.heap.objs.size >>= _) _ _ _
      exact wpAny_bind (wpAny_load hS' (wpAny_pure (hQ h' tk acc hk hi)))
  · exact absurd h.1 (by simp)
theorem code_tuple_kdl {Q₁ : Value → Shared → Prop} (K : KdlSrc prog w "dict" r d n P OK) (hh : A.handled = none) (hok : OK s.heap) (hn : n ≤ sizeLine)
    (h : ∀ (h' : Heap) (tk : Nat) (acc : Array Value), (∀ b o, s.heap.get? b = some o → h'.get? b = some o) → ItemsOf P acc n →
      Q₁ (.ref h'.objs.size) { s with heap := h'.push { cls := .type "tuple", data := .seq acc }, toks := tk }) :
    codeAny (model prog w) A (.call (.builtin "tuple.__new__") ⟨[.type "tuple", .ref r], []⟩) (wants Q₁ E) s := by
  refine codeAny_of_tree ?_
  show wpAny _ A.in1 (do checkBuiltinCall "tuple.__new__" ⟨[.type "tuple", .ref r], []⟩; again (.builtin "tuple.__new__" ⟨[.type "tuple", .ref r], []⟩)) _ _ s
  refine wpAny_bind (wpAny_of_eq (F.newCall_tuple_1 _) (wpAny_pure ⟨plainId_quiet F.plain_tuple_new _, codeAny_builtin F.entry_tuple_new ?_⟩))
  rw [Around.under_plainId F.plain_tuple_new _]
  have hsub := sub_tuple_self
  have hinit := init_tuple_lookup
  have hmh := madeHere_tuple
  have hTI : s.TypeIs (.ref r) "dict" := K.type s hok
  have hh1 : A.in1.handled = none := hh
  wp_walk using wpAny_typeOf hTI, collect_kdl (A := A.in1) K hh1 hok hn
  intro h' tk acc hk hacc
  show wpAny _ _ (Builtin.Tuple.tupleExact acc.toList.toArray >>= fun v => PySem.ret v) _ _ _
  unfold Builtin.Tuple.tupleExact
  refine wpAny_bind (wpAny_newObj_type ?_ (by show acc.toList.toArray.size ≤ sizeLine; simp only [Array.toArray_toList]; rw [hacc.1]; exact hn))
  refine wpAny_pure ?_
  have e : acc.toList.toArray = acc := by simp
  rw [e]
  exact h h' tk acc hk hacc
theorem call_tuple_kdl {Q : Value → Shared → Prop} (K : KdlSrc prog w "dict" r d n P OK) (hh : A.handled = none) (hok : OK s.heap) (hn : n ≤ sizeLine)
    (hQ : ∀ (h' : Heap) (tk : Nat) (acc : Array Value), (∀ b o, s.heap.get? b = some o → h'.get? b = some o) → ItemsOf P acc n →
      Q (.ref h'.objs.size) { s with heap := h'.push { cls := .type "tuple", data := .seq acc }, toks := tk }) :
    wpAny (model prog w) A (call (.type "tuple") [.ref r]) Q E s := by
  refine callType_codes (Q₁ := fun obj s₁ => s₁.TypeIs obj "tuple" ∧ Q obj s₁) F.called_tuple (F.typeCall_tuple_1 _) F.entry_object_init
    (code_tuple_kdl (A := A.in1) K hh hok hn fun h' tk acc hk hacc => ⟨⟨_, Heap.get?_push_size _ rfl, rfl⟩, hQ h' tk acc hk hacc⟩) fun obj s₁ h₁ => ?_
  exact ⟨h₁.1, F.args_object_init_2 obj _, object_init_meets F.called_tuple.init.lookup F.called_tuple.made (by decide) prog w A.in1 _ s₁ ⟨h₁.1, rfl, h₁.2⟩⟩
end
/-- tuple(d), keys ints or texts -/
theorem call_tupleD {X : Cx} (hcalm : X.calm = true) : CallR X (.type "tuple") (fun xs H Q => ∃ (a : Addr) (kvs : List (Key × V)), xs = [.ref a] ∧ Rd H a (.dK kvs) ∧ ∀ p, H p = none → Q (.ref p) (upd H p (.tup (kvs.map fun kv => kV kv.1)))) := by
  intro pins s σ H xs us Q I r q
  obtain ⟨a, kvs, ex, hd, q⟩ := q
  subst ex
  obtain ⟨u, eu, rx⟩ := vals1 r
  subst eu
  cases rx
  obtain ⟨z, lo, vs, rel, dd⟩ := dk_rd I.hok hd
  obtain ⟨ep, hat⟩ := dd.dictAt
  refine call_tuple_kdl (kdl_dict (knd := mixKind X.prog X.w) (kvs := vs) (ep := ep) lo) (I.ok.hd hcalm) hat (by rw [← rel.length]; exact z) fun h' tk acc hk hacc => ?_
  have I1 : Inv X pins σ H { s with heap := h', toks := tk } := I.kept hk
  have ek : (kvs.map fun kv => kV kv.1) = vs.map fun p => kV p.1 := by
    have e := congrArg (List.map kV) rel.keys
    rw [List.map_map, List.map_map] at e
    exact e
  have hv : Vals (kvs.map fun kv => kV kv.1) acc.toList := by
    rw [ek]
    exact keys_at (by rw [Array.length_toList]; exact hacc.1) fun j v e => hacc.2 j v (by rw [← Array.getElem?_toList]; exact e)
  have I2 := I1.laid (t' := tk) (o := .tup (kvs.map fun kv => kV kv.1)) (fun b o e => Heap.get?_push_of_some _ e) (Nat.le_refl _) (show ObjOk X.prog X.w _ _ _ (.tup (kvs.map fun kv => kV kv.1)) from ⟨by rw [List.length_map]; exact z, acc.toList, hv, by rw [Array.toArray_toList]; exact IsTup.new _ _⟩)
  exact ⟨.ref h'.objs.size, _, I2, rfl, q _ (I1.hok.fresh (Nat.le_refl _))⟩
end PD
end ZPDTupD
section ZPDBi
set_option Elab.async false
set_option linter.all false
set_option maxRecDepth 100000
set_option maxHeartbeats 1000000
namespace PD
open PySem PySem.Spec L2 PyProof.Rows

/-- looks of arguments -/
def Tops (T : Tb) (H : Hp) (F : Addr → Prop) (μ : List Addr) : List D → List V → Prop
  | [], xs => xs = []
  | d :: ds, xs => ∃ x r, xs = x :: r ∧ Top T H F μ d x ∧ Tops T H F μ ds r
theorem Pks.views {T : Tb} {G : Addr → Prop} {μ : List Addr} {H : Hp} {st : Store} (g : StR T (FF G μ) μ H st) : ∀ {ds : List D} {vs : List V}, Pks T H (FF G μ) μ ds vs → Tops T H (FF G μ) μ (ds.map (view st)) vs
  | [], _, h => h
  | d :: ds, _, ⟨x, r, e, h1, h2⟩ => ⟨x, r, e, h1.view g, Pks.views g h2⟩
def rBi (T : Tb) (f : List D → Option D) : List V → Hp → VK → Prop := fun vs H Q => ∃ G μ st ds r, GoodT T G μ H st ∧ Tops T H (FF G μ) μ ds vs ∧ f ds = some r ∧ Ans T true (FF G μ) μ H r Q

theorem insI_perm (x : Int) : ∀ l : List Int, (insI x l).Perm (x :: l)
  | [] => .refl _
  | y :: r => by
    unfold insI
    split
    · exact .refl _
    · exact ((insI_perm x r).cons y).trans (.swap x y r)
theorem sortI_perm : ∀ l : List Int, (sortI l).Perm l
  | [] => .refl _
  | x :: r => (insI_perm x _).trans ((sortI_perm r).cons x)
theorem insI_up (x : Int) : ∀ l : List Int, l.Pairwise (· ≤ ·) → (insI x l).Pairwise (· ≤ ·)
  | [], _ => by simp [insI]
  | y :: r, h => by
    unfold insI
    rw [List.pairwise_cons] at h
    split
    · rename_i hxy
      rw [List.pairwise_cons]
      refine ⟨fun z hz => ?_, List.pairwise_cons.mpr h⟩
      rcases List.mem_cons.mp hz with e | e
      · subst e; exact hxy
      · exact Int.le_trans hxy (h.1 z e)
    · rename_i hxy
      rw [List.pairwise_cons]
      refine ⟨fun z hz => ?_, insI_up x r h.2⟩
      rcases List.mem_cons.mp ((insI_perm x r).mem_iff.mp hz) with e | e
      · subst e; omega
      · exact h.1 z e
theorem sortI_up : ∀ l : List Int, (sortI l).Pairwise (· ≤ ·)
  | [] => .nil
  | x :: r => insI_up x _ (sortI_up r)
theorem maxI_mem : ∀ {l : List Int}, l ≠ [] → maxI l ∈ l ∧ ∀ y ∈ l, y ≤ maxI l
  | [x], _ => by simp [maxI]
  | x :: y :: r, _ => by
    obtain ⟨h1, h2⟩ := maxI_mem (l := y :: r) (by simp)
    have e : maxI (x :: y :: r) = max x (maxI (y :: r)) := rfl
    rw [e]
    refine ⟨?_, fun z hz => ?_⟩
    · by_cases c : x ≤ maxI (y :: r)
      · rw [Int.max_eq_right c]; exact List.mem_cons_of_mem _ h1
      · rw [Int.max_eq_left (by omega)]; exact List.mem_cons_self
    · rcases List.mem_cons.mp hz with q | q
      · subst q; omega
      · have := h2 z q; omega
theorem minI_mem : ∀ {l : List Int}, l ≠ [] → minI l ∈ l ∧ ∀ y ∈ l, minI l ≤ y
  | [x], _ => by simp [minI]
  | x :: y :: r, _ => by
    obtain ⟨h1, h2⟩ := minI_mem (l := y :: r) (by simp)
    have e : minI (x :: y :: r) = min x (minI (y :: r)) := rfl
    rw [e]
    refine ⟨?_, fun z hz => ?_⟩
    · by_cases c : x ≤ minI (y :: r)
      · rw [Int.min_eq_left c]; exact List.mem_cons_self
      · rw [Int.min_eq_right (by omega)]; exact List.mem_cons_of_mem _ h1
    · rcases List.mem_cons.mp hz with q | q
      · subst q; omega
      · have := h2 z q; omega

section
variable {T : Tb} {G : Addr → Prop} {H : Hp} {μ : List Addr}
theorem ints_rep : ∀ {ds : List D} {xs : List V} {ns : List Int}, Reps T H (FF G μ) μ ds xs → dInts ds = some ns → xs = ns.map V.int
  | [], _, _, h, e => by simp only [Reps] at h; simp only [dInts, Option.some.injEq] at e; subst h e; rfl
  | d :: ds, _, _, h, e => by
    simp only [Reps] at h
    obtain ⟨x, r, rfl, h1, h2⟩ := h
    cases d <;> simp only [dInts, Option.map_eq_some_iff, reduceCtorEq] at e
    obtain ⟨ms, e1, rfl⟩ := e
    simp only [Rep] at h1
    subst h1
    rw [ints_rep h2 e1]
    rfl
theorem bools_rep : ∀ {ds : List D} {xs : List V} {ns : List Bool}, Reps T H (FF G μ) μ ds xs → dBools ds = some ns → xs = ns.map V.bl
  | [], _, _, h, e => by simp only [Reps] at h; simp only [dBools, Option.some.injEq] at e; subst h e; rfl
  | d :: ds, _, _, h, e => by
    simp only [Reps] at h
    obtain ⟨x, r, rfl, h1, h2⟩ := h
    cases d <;> simp only [dBools, Option.map_eq_some_iff, reduceCtorEq] at e
    obtain ⟨ms, e1, rfl⟩ := e
    simp only [Rep] at h1
    subst h1
    rw [bools_rep h2 e1]
    rfl
theorem rep_ints : ∀ ns : List Int, Reps T H (FF G μ) μ (ns.map .int) (ns.map V.int)
  | [] => by simp [Reps]
  | n :: r => ⟨_, _, rfl, by simp only [Rep], rep_ints r⟩
theorem tops1 {d : D} {vs : List V} (h : Tops T H (FF G μ) μ [d] vs) : ∃ v, vs = [v] ∧ Top T H (FF G μ) μ d v := by
  obtain ⟨x, r, rfl, h1, h2⟩ := h
  have : r = [] := h2
  subst this
  exact ⟨x, rfl, h1⟩
theorem tops2 {d d' : D} {vs : List V} (h : Tops T H (FF G μ) μ [d, d'] vs) : ∃ v v', vs = [v, v'] ∧ Top T H (FF G μ) μ d v ∧ Top T H (FF G μ) μ d' v' := by
  obtain ⟨x, r, rfl, h1, h2⟩ := h
  obtain ⟨v', rfl, h3⟩ := tops1 h2
  exact ⟨x, v', rfl, h1, h3⟩
end
section
variable {X : Cx} {T : Tb}
theorem b_len (h : XT T X) : CallR X (.builtin "len") (rBi T (biD .len)) := by
  intro pins s σ H vs us Q I r ⟨G, μ, st, ds, d, g, t, e, q⟩
  match ds, e with
  | [.lst ds], e =>
    obtain rfl := Option.some.inj e
    obtain ⟨v, rfl, a, rfl, xs, h1, h2⟩ := tops1 t
    exact call_len_seq pins s σ H _ us Q I r ⟨a, xs, rfl, .inl (SqL.of h1), by rw [h2.length]; exact q.int⟩
  | [.tup ds], e =>
    obtain rfl := Option.some.inj e
    obtain ⟨v, rfl, t1⟩ := tops1 t
    obtain ⟨a, xs, rfl, h1, h2⟩ := t1
    exact call_len_seq pins s σ H _ us Q I r ⟨a, xs, rfl, .inr (h.K ▸ h1.sq), by rw [h2.length]; exact q.int⟩
  | [.str z], e =>
    simp only [biD, Option.ite_none_right_eq_some, Option.some.injEq] at e
    obtain ⟨hl, rfl⟩ := e
    obtain ⟨v, rfl, t1⟩ := tops1 t
    obtain rfl : v = V.str z := t1
    exact call_len_str pins s σ H _ us Q I r ⟨z, rfl, lim_line hl, q.int⟩
  | [.scr ns], e =>
    obtain rfl := Option.some.inj e
    obtain ⟨v, rfl, t1⟩ := tops1 t
    obtain ⟨a, rfl, h1⟩ := t1
    exact call_len_seq pins s σ H _ us Q I r ⟨a, _, rfl, .inl (h.K ▸ h1.sq), by rw [List.length_map]; exact q.int⟩
  | [.dct kvs], e =>
    obtain rfl := Option.some.inj e
    obtain ⟨v, rfl, a, rfl, h1⟩ := tops1 t
    rcases h1 with ⟨es, h1, h2⟩ | ⟨es, ob, hn, h1, h2⟩
    · have hl : ∀ {kvs : List (D × D)} {es : List (Key × V)}, KVl T H (FF G μ) μ kvs es → es.length = kvs.length := by
        intro kvs
        induction kvs with
        | nil => intro es h; simp only [KVl] at h; subst h; rfl
        | cons p r ih =>
          intro es h
          obtain ⟨k, d⟩ := p
          simp only [KVl] at h
          obtain ⟨_, _, r', rfl, _, _, h3⟩ := h
          simp [ih h3]
      obtain ⟨u, rfl, ru⟩ := vals1 r
      cases ru
      exact d_len I h1.rd fun t s' I' => ⟨.int es.length, H, I', ⟨t, rfl⟩, by rw [hl h2]; exact q.int⟩
    · have ht : headTup kvs = true := by
        cases kvs with
        | nil => rfl
        | cons p r' =>
          obtain ⟨k, d⟩ := p
          obtain ⟨n, qq, x, r'', _, ⟨e1, _⟩, hk, _⟩ := h2
          cases k with
          | tup _ => rfl
          | non => cases (show V.ref qq = V.non from hk)
          | bl b => cases (show V.ref qq = V.bl b from hk)
          | int b => cases (show V.ref qq = V.int b from hk)
          | str b => cases (show V.ref qq = V.str b from hk)
          | lst _ => simp [nkL] at e1
          | dct _ => simp [nkL] at e1
          | ref _ => simp [nkL] at e1
          | scr _ => simp [nkL] at e1
          | err _ _ => simp [nkL] at e1
      obtain ⟨es', xs, kv, pr, hd, hs, hl, _⟩ := DctC.of I h.P h.w h.K (.inr ⟨es, ob, hn, h1, h2⟩) ht
      have hlx : (pairsH xs).length = kvs.length := by rw [pairsH_length, ← pr.length, kv.length]
      cases r with
      | cons r1 r2 =>
        cases r1
        cases r2
        refine PyProof.Rows.call_len_slot (n := (pairsH xs).length) hd.typeIs PySem.F.slot_dict_len (fun Q' hq => len_keyed hs ⟨xs, hd, rfl⟩ hq) (by omega) ?_ ?_
        · rw [pairsH_length, ← pr.length]; have := sizeLine_eq; omega
        · exact ⟨.int (pairsH xs).length, H, I.tok _, ⟨_, rfl⟩, by rw [hlx]; exact q.int⟩
theorem b_abs : CallR X (.builtin "abs") (rBi T (biD .abs)) := by
  intro pins s σ H vs us Q I r ⟨G, μ, st, ds, d, g, t, e, q⟩
  match ds, e with
  | [.int i], e =>
    obtain rfl := Option.some.inj e
    obtain ⟨v, rfl, t1⟩ := tops1 t
    obtain rfl : v = V.int i := t1
    exact call_abs pins s σ H _ us Q I r ⟨i, rfl, q.int⟩
theorem b_int : CallR X (.type "int") (rBi T (biD .int)) := by
  intro pins s σ H vs us Q I r ⟨G, μ, st, ds, d, g, t, e, q⟩
  match ds, e with
  | [.int i], e =>
    obtain rfl := Option.some.inj e
    obtain ⟨v, rfl, t1⟩ := tops1 t
    obtain rfl : v = V.int i := t1
    exact call_int1 pins s σ H _ us Q I r (.inl ⟨i, rfl, q.int⟩)
  | [.bl i], e =>
    obtain rfl := Option.some.inj e
    obtain ⟨v, rfl, t1⟩ := tops1 t
    obtain rfl : v = V.bl i := t1
    exact call_int1 pins s σ H _ us Q I r (.inr ⟨i, rfl, q.int⟩)
theorem b_max (h : XT T X) : CallR X (.builtin "max") (rBi T (biD .max)) := by
  intro pins s σ H vs us Q I r ⟨G, μ, st, ds, d, g, t, e, q⟩
  match ds, e with
  | [.int i, .int j], e =>
    obtain rfl := Option.some.inj e
    obtain ⟨v, v', rfl, t1, t2⟩ := tops2 t
    simp only [Top, Rep] at t1 t2; subst t1 t2
    exact call_max2 h.c pins s σ H _ us Q I r ⟨i, j, rfl, q.int⟩
  | [.lst ds], e =>
    simp only [biD] at e
    cases e1 : dInts ds with
    | none => rw [e1] at e; cases e
    | some ns =>
      rw [e1] at e
      simp only [Option.ite_none_left_eq_some, Option.some.injEq] at e
      obtain ⟨hn, rfl⟩ := e
      obtain ⟨v, rfl, a, rfl, xs, h1, h2⟩ := tops1 t
      have ex := ints_rep h2 e1
      subst ex
      obtain ⟨m1, m2⟩ := maxI_mem hn
      refine cr_max h.c pins s σ H _ us Q I r ⟨a, ns, rfl, SqL.of h1, List.length_pos_iff.mpr hn, fun m hm hy => ?_⟩
      have : m = maxI ns := Int.le_antisymm (m2 m hm) (hy _ m1)
      rw [this]; exact q.int
theorem b_min (h : XT T X) : CallR X (.builtin "min") (rBi T (biD .min)) := by
  intro pins s σ H vs us Q I r ⟨G, μ, st, ds, d, g, t, e, q⟩
  match ds, e with
  | [.int i, .int j], e =>
    obtain rfl := Option.some.inj e
    obtain ⟨v, v', rfl, t1, t2⟩ := tops2 t
    simp only [Top, Rep] at t1 t2; subst t1 t2
    exact call_min2 h.c pins s σ H _ us Q I r ⟨i, j, rfl, q.int⟩
  | [.lst ds], e =>
    simp only [biD] at e
    cases e1 : dInts ds with
    | none => rw [e1] at e; cases e
    | some ns =>
      rw [e1] at e
      simp only [Option.ite_none_left_eq_some, Option.some.injEq] at e
      obtain ⟨hn, rfl⟩ := e
      obtain ⟨v, rfl, a, rfl, xs, h1, h2⟩ := tops1 t
      have ex := ints_rep h2 e1
      subst ex
      obtain ⟨m1, m2⟩ := minI_mem hn
      refine cr_min h.c pins s σ H _ us Q I r ⟨a, ns, rfl, SqL.of h1, List.length_pos_iff.mpr hn, fun m hm hy => ?_⟩
      have : m = minI ns := Int.le_antisymm (hy _ m1) (m2 m hm)
      rw [this]; exact q.int
theorem b_sum (h : XT T X) : CallR X (.builtin "sum") (rBi T (biD .sum)) := by
  intro pins s σ H vs us Q I r ⟨G, μ, st, ds, d, g, t, e, q⟩
  match ds, e with
  | [.lst ds], e =>
    simp only [biD, Option.map_eq_some_iff] at e
    obtain ⟨ns, e1, rfl⟩ := e
    obtain ⟨v, rfl, a, rfl, xs, h1, h2⟩ := tops1 t
    have ex := ints_rep h2 e1
    subst ex
    exact cr_sum h.c pins s σ H _ us Q I r ⟨a, ns, rfl, SqL.of h1, q.int⟩
theorem b_all (h : XT T X) : CallR X (.builtin "all") (rBi T (biD .all)) := by
  intro pins s σ H vs us Q I r ⟨G, μ, st, ds, d, g, t, e, q⟩
  match ds, e with
  | [.lst ds], e =>
    simp only [biD, Option.map_eq_some_iff] at e
    obtain ⟨ns, e1, rfl⟩ := e
    obtain ⟨v, rfl, a, rfl, xs, h1, h2⟩ := tops1 t
    have ex := bools_rep h2 e1
    subst ex
    exact cr_all h.c pins s σ H _ us Q I r ⟨a, ns, rfl, SqL.of h1, q.bl⟩
theorem b_any (h : XT T X) : CallR X (.builtin "any") (rBi T (biD .any)) := by
  intro pins s σ H vs us Q I r ⟨G, μ, st, ds, d, g, t, e, q⟩
  match ds, e with
  | [.lst ds], e =>
    simp only [biD, Option.map_eq_some_iff] at e
    obtain ⟨ns, e1, rfl⟩ := e
    obtain ⟨v, rfl, a, rfl, xs, h1, h2⟩ := tops1 t
    have ex := bools_rep h2 e1
    subst ex
    exact cr_any h.c pins s σ H _ us Q I r ⟨a, ns, rfl, SqL.of h1, q.bl⟩
theorem b_sorted : CallR X (.builtin "sorted") (rBi T (biD .sorted)) := by
  intro pins s σ H vs us Q I r ⟨G, μ, st, ds, d, g, t, e, q⟩
  match ds, e with
  | [.lst ds], e =>
    simp only [biD] at e
    cases e1 : dInts ds with
    | none => rw [e1] at e; cases e
    | some ns =>
      rw [e1] at e
      simp only [Option.ite_none_right_eq_some, Option.some.injEq] at e
      obtain ⟨hn, rfl⟩ := e
      obtain ⟨v, rfl, a, rfl, xs, h1, h2⟩ := tops1 t
      have ex := ints_rep h2 e1
      subst ex
      refine cr_sorted pins s σ H _ us Q I r ⟨a, ns, rfl, SqL.of h1, hn, fun ns' p hp hu hf => ?_⟩
      have : ns' = sortI ns := PySem.W.ksm_same (hp.trans (sortI_perm ns).symm) hu (sortI_up ns)
      subst this
      exact q.lst g (rep_ints _) p hf
theorem kvl_keys {T : Tb} {G : Addr → Prop} {H : Hp} {μ : List Addr} : ∀ {kvs : List (D × D)} {es : List (Key × V)}, KVl T H (FF G μ) μ kvs es → Reps T H (FF G μ) μ (kvs.map (·.1)) (es.map fun p => kV p.1)
  | [], _, h => by obtain rfl : _ = [] := h; simp [Reps]
  | (k, d) :: r, _, h => by
    obtain ⟨q, x, r', rfl, e, h1, h3⟩ := h
    refine ⟨kV q, _, rfl, ?_, kvl_keys h3⟩
    cases k <;> cases e <;> rfl
theorem b_tuple (h : XT T X) : CallR X (.type "tuple") (rBi T (biD .tuple)) := by
  intro pins s σ H vs us Q I r ⟨G, μ, st, ds, d, g, t, e, q⟩
  match ds, e with
  | [.lst ds], e =>
    obtain rfl := Option.some.inj e
    obtain ⟨v, rfl, a, rfl, xs, h1, h2⟩ := tops1 t
    exact call_tuple_of pins s σ H _ us Q I r ⟨a, xs, rfl, .inl ⟨SqL.of h1, q.tup g h2⟩⟩
  | [.tup ds], e =>
    obtain rfl := Option.some.inj e
    obtain ⟨v, rfl, t1⟩ := tops1 t
    have t' : Rep T H (FF G μ) μ (.tup ds) v := t1
    obtain ⟨a, xs, rfl, h1, h2⟩ := t1
    exact call_tuple_of pins s σ H _ us Q I r ⟨a, xs, rfl, .inr ⟨h.K ▸ h1.sq, q.same t' fun _ z => nomatch z⟩⟩
  | [.dct kvs], e =>
    simp only [biD, Option.ite_none_right_eq_some, Option.some.injEq] at e
    obtain ⟨ht, rfl⟩ := e
    obtain ⟨v, rfl, a, rfl, h1⟩ := tops1 t
    obtain ⟨es, h2, h3⟩ := h1.txt ht
    exact call_tupleD h.c pins s σ H _ us Q I r ⟨a, es, rfl, h2.rd, q.tup g (kvl_keys h3)⟩
theorem kvn_keys {T : Tb} {G : Addr → Prop} {H : Hp} {μ : List Addr} : ∀ {kvs : List (D × D)} {es : List (NestedKey × Addr × V)}, KVn T H (FF G μ) μ kvs es → Reps T H (FF G μ) μ (kvs.map (·.1)) (es.map fun p => V.ref p.2.1)
  | [], _, h => by obtain rfl : _ = [] := h; simp [Reps]
  | (k, d) :: r, _, h => by
    obtain ⟨n, q, x, r', rfl, _, h1, _, h3⟩ := h
    exact ⟨V.ref q, _, rfl, h1, kvn_keys h3⟩
theorem paired_get {α β : Type} {R : α → β → Prop} : ∀ {xs : List α} {ys : List β}, xs.length = ys.length → (∀ (i : Nat) (x : α) (y : β), xs[i]? = some x → ys[i]? = some y → R x y) → Paired R xs ys
  | [], [], _, _ => .nil
  | x :: xs, y :: ys, hl, h => .cons (h 0 x y rfl rfl) (paired_get (by simpa using hl) fun i a b h1 h2 => h (i + 1) a b (by simpa using h1) (by simpa using h2))
  | [], _ :: _, hl, _ => by simp at hl
  | _ :: _, [], hl, _ => by simp at hl
theorem paired_at {α β : Type} {R : α → β → Prop} : ∀ {xs : List α} {ys : List β} {i : Nat} {x : α} {y : β}, Paired R xs ys → xs[i]? = some x → ys[i]? = some y → R x y
  | _, _, _, _, _, .nil, h, _ => by simp at h
  | _, _, 0, _, _, .cons r _, h1, h2 => by simp at h1 h2; subst h1 h2; exact r
  | _, _, i + 1, _, _, .cons _ t, h1, h2 => paired_at (i := i) t (by simpa using h1) (by simpa using h2)
/-- list(d) -/
theorem list_dict (h : XT T X) {pins : List (Addr × Obj)} {s : Shared} {σ : L2.St} {H : Hp} {G : Addr → Prop} {μ : List Addr} {Q : VK} {a : Addr} {kvs : List (D × D)} (I : Inv X pins σ H s) (hd : DctC T H (FF G μ) μ a kvs) (ht : headTup kvs = true)
    (q : ∀ xs, Reps T H (FF G μ) μ (kvs.map (·.1)) xs → ∀ p, H p = none → Q (.ref p) (upd H p (.lst xs))) : wpAny (model X.prog X.w) X.A (call (.type "list") [.ref a]) (EP X pins σ Q) X.xe s := by
  obtain ⟨es, xs, kv, pr, hm, hs, hl, _⟩ := DctC.of I h.P h.w h.K hd ht
  obtain ⟨ents, ep, hr, hsz, he⟩ := hm.raw
  have hn : ents.size ≤ sizeLine := by rw [hsz, ← pr.length]; exact hl
  refine PySem.W.kdl_call (PySem.KdlSrc.rawDict (es := ents) (ep := ep) hs) (I.ok.hd h.c) hr hn fun h' tk acc c k1 k2 k3 => ?_
  have hf : H s.heap.objs.size = none := I.hok.fresh (Nat.le_refl _)
  have hv : Vals (es.map fun p => V.ref p.2.1) acc.toList := by
    obtain ⟨k4, k5⟩ := k3
    have ql : acc.toList.length = acc.size := by simp
    refine paired_get (by rw [List.length_map, ql, k4, hsz, pr.length]) fun i x y hx hy => ?_
    rw [List.getElem?_map] at hx
    obtain ⟨e, he1, rfl⟩ := Option.map_eq_some_iff.mp hx
    obtain ⟨hi, rfl⟩ := k5 i y (by simpa using hy)
    obtain ⟨z, hz1, hz2, _, _⟩ := he i hi
    have := paired_at pr he1 hz1
    rw [hz2]
    show Value.ref z.2.1 = Value.ref e.2.1
    rw [this.2.1]
  refine ⟨.ref s.heap.objs.size, _, I.laid (t' := tk) (o := .lst (es.map fun p => V.ref p.2.1)) k1 (Nat.le_refl _) ?_, rfl, q _ (kvn_keys kv) _ hf⟩
  exact ⟨by rw [List.length_map]; exact hl, acc.toList, c, hv, by simpa using k2⟩
theorem b_list (h : XT T X) : CallR X (.type "list") (rBi T (biD .list)) := by
  intro pins s σ H vs us Q I r ⟨G, μ, st, ds, d, g, t, e, q⟩
  match ds, e with
  | [.lst ds], e =>
    obtain rfl := Option.some.inj e
    obtain ⟨v, rfl, a, rfl, xs, h1, h2⟩ := tops1 t
    exact call_list_of pins s σ H _ us Q I r ⟨a, xs, rfl, .inl (SqL.of h1), q.lst g h2⟩
  | [.tup ds], e =>
    obtain rfl := Option.some.inj e
    obtain ⟨v, rfl, t1⟩ := tops1 t
    obtain ⟨a, xs, rfl, h1, h2⟩ := t1
    exact call_list_of pins s σ H _ us Q I r ⟨a, xs, rfl, .inr (h.K ▸ h1.sq), q.lst g h2⟩
  | [.dct kvs], e =>
    simp only [biD, Option.ite_none_right_eq_some, Option.some.injEq] at e
    obtain ⟨ht, rfl⟩ := e
    obtain ⟨v, rfl, a, rfl, h1⟩ := tops1 t
    cases r with
    | cons r1 r2 =>
      cases r1
      cases r2
      exact list_dict h I h1 ht fun xs rx => q.lst g rx
end
end PD
end ZPDBi
section ZPDIter
set_option Elab.async false
set_option linter.all false
set_option maxRecDepth 100000
set_option maxHeartbeats 1000000
namespace PD
open PySem PySem.Spec L2 PyProof.Rows

/-- what is walked: the data ds, one by one -/
structure JW (T : Tb) (pk : Bool) (G : Addr → Prop) (μ1 : List Addr) (H1 : Hp) (J : It) (ds : List D) : Prop where
  stay : ∃ stay : Hp → Prop, stay H1 ∧ (∀ H2, (∀ a o, H1 a = some o → ¬ (if pk = true then a ∈ μ1 else FF G μ1 a) → H2 a = some o) → stay H2) ∧
    (∀ i d H2, stay H2 → ds[i]? = some d → J.go i H2 ∧ ∀ x H3, J.yld i H2 x H3 → (∀ a o, H2 a = some o → H3 a = some o) ∧ ∀ F2 μ2, Mv H1 H2 (FF G μ1) F2 μ1 μ2 → (∀ a, F2 a → H2 a ≠ none) → Rep T H3 F2 μ2 d x) ∧
    (∀ H2, stay H2 → J.stop ds.length H2)
def rdI (T : Tb) (pk : Bool) (ev : Env → M (List D)) : TI := fun σ H R => ∃ G μ env st ds st', Good T G μ H σ env st ∧ ev env st = .ok ds st' ∧
  ∀ J H' μ', Post T G μ H μ' H' st' → JW T pk G μ' H' J ds → R J H'
theorem PI.imp {X : Cx} {tg e : Expr} {t t' : TI} (h : PI X tg e t) (k : ∀ σ H R, t' σ H R → t σ H R) : PI X tg e t' := ⟨fun pins s σ H R I q => h.run pins s σ H R I (k σ H R q)⟩
theorem Reps.mvGet {T : Tb} {H H' : Hp} {F F' : Addr → Prop} {μ μ' : List Addr} : ∀ {ds : List D} {xs : List V} {i : Nat} {d : D}, Reps T H F μ ds xs → ds[i]? = some d → Mv H H' F F' μ μ' → ∃ x, xs[i]? = some x ∧ Rep T H' F' μ' d x
  | [], _, _, _, _, e, _ => by simp at e
  | d :: ds, _, i, d', h, e, m => by
    obtain ⟨x, r, rfl, h1, h2⟩ := h
    cases i with
    | zero => simp at e; subst e; exact ⟨x, rfl, Rep.mv m _ _ h1⟩
    | succ i => exact Reps.mvGet (i := i) h2 (by simpa using e) m

section
variable {X : Cx} {T : Tb} {tg e : Expr} {fr pk : Bool} {ev : Env → M D}
theorem jw_list {G : Addr → Prop} {μ : List Addr} {H : Hp} {a : Addr} {xs : List V} {ds : List D} (K : PySem.W.Frag) (h1 : H a = some (.lst xs)) (h2 : Reps T H (FF G μ) μ ds xs) (hp : (pk = true → a ∉ μ) ∧ (pk = false → ¬ FF G μ a)) : JW T pk G μ H (Itl K a) ds := by
  refine ⟨fun H2 => H2 a = some (.lst xs), h1, fun H2 k => k a _ h1 ?_, fun i d H2 hs hd => ?_, fun H2 hs => ⟨xs, SqL.of hs, by rw [h2.length]; exact Nat.le_refl _⟩⟩
  · cases pk
    · simpa using hp.2 rfl
    · simpa using hp.1 rfl
  · obtain ⟨x, hx, _⟩ := h2.get hd
    refine ⟨⟨xs, x, SqL.of hs, hx⟩, fun y H3 ⟨e3, hy⟩ => ?_⟩
    subst e3
    have ey := hy xs (SqL.of hs)
    rw [hx] at ey
    obtain rfl := Option.some.inj ey
    refine ⟨fun _ _ z => z, fun F2 μ2 m _ => ?_⟩
    obtain ⟨x', hx', r⟩ := Reps.mvGet h2 hd m
    rw [hx] at hx'
    obtain rfl := Option.some.inj hx'
    exact r
theorem jw_tup {G : Addr → Prop} {μ : List Addr} {H : Hp} {a : Addr} {xs : List V} {ds : List D} (h1 : TupAt T H (FF G μ) a xs) (h2 : Reps T H (FF G μ) μ ds xs) : JW T pk G μ H (Itt T.K a) ds := by
  refine ⟨fun H2 => SqT T.K H2 a xs, h1.sq, fun H2 k => ?_, fun i d H2 hs hd => ?_, fun H2 hs => ⟨xs, hs, by rw [h2.length]; exact Nat.le_refl _⟩⟩
  · rcases h1 with ⟨q, n⟩ | q
    · refine .inl (.inl (k a _ q fun z => n ?_))
      cases pk
      · simpa using z
      · exact .inl (by simpa using z)
    · exact .inr q
  · obtain ⟨x, hx, _⟩ := h2.get hd
    refine ⟨⟨xs, x, hs, hx⟩, fun y H3 ⟨e3, hy⟩ => ?_⟩
    subst e3
    have ey := hy xs hs
    rw [hx] at ey
    obtain rfl := Option.some.inj ey
    refine ⟨fun _ _ z => z, fun F2 μ2 m _ => ?_⟩
    obtain ⟨x', hx', r⟩ := Reps.mvGet h2 hd m
    rw [hx] at hx'
    obtain rfl := Option.some.inj hx'
    exact r
theorem jw_str {G : Addr → Prop} {μ : List Addr} {H : Hp} (z : Str) : JW T pk G μ H (Its z) (z.cps.toList.map fun c => D.str ⟨#[c]⟩) := by
  refine ⟨fun _ => True, trivial, fun _ _ => trivial, fun i d H2 _ hd => ?_, fun H2 _ => by simp [Its]⟩
  rw [List.getElem?_map] at hd
  obtain ⟨c, hk, rfl⟩ := Option.map_eq_some_iff.mp hd
  have hl : i < z.cps.size := by
    have := (List.getElem?_eq_some_iff.mp hk).1
    simpa using this
  refine ⟨hl, fun x H3 ⟨e3, c', hc', hx⟩ => ?_⟩
  subst e3 hx
  have : c' = c := by
    rw [Array.getElem?_toList] at hk
    rw [hk] at hc'
    exact (Option.some.inj hc').symm
  subst this
  exact ⟨fun _ _ z => z, fun _ _ _ _ => rfl⟩
theorem enumL_get : ∀ {ds : List D} {k i : Nat} {d : D}, (enumL k ds)[i]? = some d → ∃ d', ds[i]? = some d' ∧ d = .tup [.int (k + i : Nat), d']
  | [], _, _, _, h => by simp [enumL] at h
  | x :: r, k, 0, d, h => by
    simp [enumL] at h
    subst h
    exact ⟨x, rfl, rfl⟩
  | x :: r, k, i + 1, d, h => by
    obtain ⟨d', h1, h2⟩ := enumL_get (ds := r) (k := k + 1) (i := i) (by simpa [enumL] using h)
    exact ⟨d', by simpa using h1, by rw [h2]; congr 4; omega⟩
theorem enumL_len : ∀ {ds : List D} {k : Nat}, (enumL k ds).length = ds.length
  | [], _ => rfl
  | _ :: r, k => by simp [enumL, enumL_len (ds := r)]
theorem jw_enum {G : Addr → Prop} {μ : List Addr} {H : Hp} {a : Addr} {xs : List V} {ds : List D} (K : PySem.W.Frag) (h1 : H a = some (.lst xs)) (h2 : Reps T H (FF G μ) μ ds xs) (hp : (pk = true → a ∉ μ) ∧ (pk = false → ¬ FF G μ a)) : JW T pk G μ H (Ite K a) (enumL 0 ds) := by
  refine ⟨fun H2 => H2 a = some (.lst xs), h1, fun H2 k => k a _ h1 ?_, fun i d H2 hs hd => ?_, fun H2 hs => ⟨xs, SqL.of hs, by rw [enumL_len, h2.length]; exact Nat.le_refl _⟩⟩
  · cases pk
    · simpa using hp.2 rfl
    · simpa using hp.1 rfl
  · obtain ⟨d', hd', rfl⟩ := enumL_get hd
    obtain ⟨x, hx, _⟩ := h2.get hd'
    refine ⟨⟨xs, x, SqL.of hs, hx⟩, fun y H3 ⟨P, x', ey, hP, e3, hy⟩ => ?_⟩
    subst ey e3
    have ey := hy xs (SqL.of hs)
    rw [hx] at ey
    obtain rfl := Option.some.inj ey
    have more : ∀ b o, H2 b = some o → upd H2 P (.tup [.int (i : Nat), x]) b = some o := fun b o z => by rw [upd_ne (ne_of_none z hP)]; exact z
    refine ⟨more, fun F2 μ2 m hF => ?_⟩
    have nF : ¬ F2 P := fun z => hF P z hP
    obtain ⟨x', hx', r⟩ := Reps.mvGet h2 hd' m
    rw [hx] at hx'
    obtain rfl := Option.some.inj hx'
    exact ⟨P, _, rfl, .inl ⟨upd_same, nF⟩, .int (0 + i : Nat), _, by rw [Nat.zero_add], rfl, x, [], rfl, Rep.mv ⟨fun b o z _ => more b o z, fun _ z => .inl z, List.prefix_refl _⟩ _ _ r, rfl⟩
/-- for x in e, e a list, a tuple or a text -/
theorem si_src (h : XT T X) (he : PE X e (rdE T fr pk ev)) : PI X tg e (rdI T pk fun env => bnd (ev env) fun x => opt (itemsD x)) := by
  refine ⟨fun pins s σ H R I ⟨G, μ, env, st, ds, st', g, e1, q⟩ => ?_⟩
  obtain ⟨x, st1, k1, k2⟩ := bnd_inv e1
  obtain ⟨k3, rfl⟩ := opt_inv k2
  cases x <;> simp only [itemsD, Option.some.injEq, reduceCtorEq] at k3
  · subst k3
    refine (pi_tup he).run pins s σ H R I ⟨G, μ, env, st, _, _, g, k1, fun v H1 μ1 p1 r1 => ?_⟩
    obtain ⟨a, xs, rfl, h1, h2⟩ := (show Rep T H1 (FF G μ1) μ1 _ v from r1.pkr)
    rw [h.K]
    exact ⟨a, rfl, ⟨xs, h1.sq⟩, q _ H1 μ1 p1 (jw_tup h1 h2)⟩
  · subst k3
    refine (pi_list he).run pins s σ H R I ⟨G, μ, env, st, _, _, g, k1, fun v H1 μ1 p1 r1 => ?_⟩
    have hr := r1.rep
    obtain ⟨a, rfl, n, xs, h1, h2⟩ := r1.pkr
    refine ⟨a, rfl, ⟨xs, SqL.of h1⟩, q _ H1 μ1 p1 (jw_list X.K h1 h2 ⟨fun _ => n, fun z => ?_⟩)⟩
    obtain ⟨a', xs', e', _, h4, _⟩ := hr z
    cases e'
    exact h4
/-- for x in e, e a text -/
theorem si_sgn (he : PE X e (rdE T fr pk ev)) : PI X tg e (rdI T pk fun env => bnd (ev env) fun x => match x with
      | .str x => ret (x.cps.toList.map fun c => .str ⟨#[c]⟩)
      | _ => fail) := by
  refine PI.imp (pi_str he) fun σ H R ⟨G, μ, env, st, ds, st', g, e1, q⟩ => ?_
  obtain ⟨x, st1, k1, k2⟩ := bnd_inv e1
  cases x <;> simp only [fail_ap, reduceCtorEq] at k2
  obtain ⟨rfl, rfl⟩ := ret_inv k2
  refine ⟨G, μ, env, st, _, _, g, k1, fun v H1 μ1 p1 r1 => ?_⟩
  obtain rfl : v = V.str _ := r1.pkr
  exact ⟨_, rfl, q _ H1 μ1 p1 (jw_str _)⟩
/-- for i, x in enumerate(e), e a list -/
theorem si_enu {elts : List Expr} {kk : Nat} {tpos p pos : Pos} (hg : Gl X "enumerate") (hm : X.mg "enumerate" = none) (he : PE X e (rdE T fr false ev)) (hs : starEach [e] X.env = [(false, eval e X.env)]) : PI X (.Tuple elts kk tpos) (.Call (.Name "enumerate" p) [e] [] pos) (rdI T false fun env => bnd (ev env) fun x => match x with
      | .lst ds => ret (enumL 0 ds)
      | _ => fail) := by
  refine PI.imp (pi_enum hg hm (pa_cons he pa_nil hs) hs) fun σ H R ⟨G, μ, env, st, ds, st', g, e1, q⟩ => ?_
  obtain ⟨x, st1, k1, k2⟩ := bnd_inv e1
  cases x <;> simp only [fail_ap, reduceCtorEq] at k2
  obtain ⟨rfl, rfl⟩ := ret_inv k2
  refine ⟨G, μ, env, st, _, _, g, k1, fun v H1 μ1 p1 r1 => ?_⟩
  obtain ⟨a, xs, rfl, h1, hn, h2⟩ := r1.rep rfl
  exact ⟨a, xs, rfl, SqL.of h1, q _ H1 μ1 p1 (jw_enum X.K h1 h2 ⟨fun z => absurd z (by simp), fun _ => hn⟩)⟩
theorem jw_range {G : Addr → Prop} {μ : List Addr} {H : Hp} (lo : Int) (n : Nat) : JW T pk G μ H (Itr lo n) ((List.range n).map fun (k : Nat) => D.int (lo + k)) := by
  refine ⟨fun _ => True, trivial, fun _ _ => trivial, fun i d H2 _ hd => ?_, fun H2 _ => by simp [Itr]⟩
  rw [List.getElem?_map] at hd
  obtain ⟨k, hk, rfl⟩ := Option.map_eq_some_iff.mp hd
  obtain ⟨hl, rfl⟩ := List.getElem?_eq_some_iff.mp hk
  simp at hl
  refine ⟨hl, fun x H3 ⟨e3, hx⟩ => ?_⟩
  subst e3 hx
  refine ⟨fun _ _ z => z, fun _ _ _ _ => ?_⟩
  simp only [Rep, List.getElem_range]
theorem si_range1 {a : Expr} {p pos : Pos} (hg : Gl X "range") (hm : X.mg "range" = none) (he : PE X a (rdE T fr pk ev)) (hs : starEach [a] X.env = [(false, eval a X.env)]) :
    PI X tg (.Call (.Name "range" p) [a] [] pos) (rdI T pk fun env => bnd (ev env) fun x => match x with
      | .int j => if gRng j then ret (rangeD 0 j) else fail
      | _ => fail) := by
  refine PI.imp (pi_range1 hg hm (pa_cons he pa_nil hs) hs) fun σ H R ⟨G, μ, env, st, ds, st', g, e1, q⟩ => ?_
  obtain ⟨x, st1, k1, k2⟩ := bnd_inv e1
  cases x <;> simp only [fail_ap, reduceCtorEq] at k2
  rename_i j
  obtain ⟨hz, k3⟩ := ite_inv k2
  obtain ⟨rfl, rfl⟩ := ret_inv k3
  simp only [gRng, decide_eq_true_eq] at hz
  refine ⟨G, μ, env, st, _, _, g, k1, fun v H1 μ1 p1 r1 => ?_⟩
  obtain rfl : v = V.int j := r1.pkr
  refine ⟨j, rfl, by omega, by omega, q _ H1 μ1 p1 ?_⟩
  have : rangeD 0 j = (List.range j.toNat).map fun (k : Nat) => D.int (0 + k) := by unfold rangeD; rw [Int.sub_zero]
  rw [this]
  exact jw_range 0 _
theorem si_range2 {a b : Expr} {p pos : Pos} {fr' pk' : Bool} {ev' : Env → M D} (hg : Gl X "range") (hm : X.mg "range" = none) (he : PE X a (rdE T fr pk ev)) (he' : PE X b (rdE T fr' pk' ev'))
    (hs : starEach [a, b] X.env = [(false, eval a X.env), (false, eval b X.env)]) (hs2 : starEach [b] X.env = [(false, eval b X.env)]) :
    PI X tg (.Call (.Name "range" p) [a, b] [] pos) (rdI T pk fun env => bnd (ev env) fun x => bnd (ev' env) fun y => match x, y with
      | .int i, .int j => if gRng i && gRng j then ret (rangeD i j) else fail
      | _, _ => fail) := by
  refine PI.imp (pi_range2 hg hm (pa_cons he (pa_cons he' pa_nil hs2) (by rw [hs, hs2])) hs hs2) fun σ H R ⟨G, μ, env, st, ds, st', g, e1, q⟩ => ?_
  obtain ⟨x, st1, k1, k2⟩ := bnd_inv e1
  obtain ⟨y, st2, k3, k4⟩ := bnd_inv k2
  cases x <;> cases y <;> simp only [fail_ap, reduceCtorEq] at k4
  rename_i i j
  obtain ⟨hz, k5⟩ := ite_inv k4
  obtain ⟨rfl, rfl⟩ := ret_inv k5
  simp only [gRng, Bool.and_eq_true, decide_eq_true_eq] at hz
  refine ⟨G, μ, env, st, _, _, g, k1, fun v H1 μ1 p1 r1 => ⟨G, μ1, env, _, _, _, g.post p1, k3, fun u H2 μ2 p2 r2 => ?_⟩⟩
  obtain rfl : v = V.int i := r1.pkr
  obtain rfl : u = V.int j := r2.pkr
  exact ⟨i, j, rfl, by omega, q _ H2 μ2 (p1.trans p2) (jw_range i _)⟩
end

/-! ### targets -/
mutual
def slotsT : X → List Nat
  | .tv i => [i]
  | .tt ts => slotsTs ts
  | _ => []
def slotsTs : X → List Nat
  | .cons t ts => slotsT t ++ slotsTs ts
  | _ => []
end
/-- a target's reading: behind it the same state but for the slots -/
def rdG (T : Tb) (f : D → Env → Option Env) (sl : List Nat) : TG := fun v σ H Q => ∃ G μ env st d env', Good T G μ H σ env st ∧ Rep T H (FF G μ) μ d v ∧ f d env = some env' ∧
  ∀ σ', Good T G μ H σ' env' st → (σ'.length = σ.length ∧ ∀ i, i ∉ sl → σ'[i]? = σ[i]?) → (∀ i, i ∉ sl → env'[i]? = env[i]?) → (∀ i, i ∈ sl → (∃ d, env'[i]? = some (.v d)) ∨ env'[i]? = none) → Q σ' H
def rdGs (T : Tb) (f : List D → Env → Option Env) (sl : List Nat) : TGs := fun vs σ H Q => ∃ G μ env st ds env', Good T G μ H σ env st ∧ Reps T H (FF G μ) μ ds vs ∧ f ds env = some env' ∧
  ∀ σ', Good T G μ H σ' env' st → (σ'.length = σ.length ∧ ∀ i, i ∉ sl → σ'[i]? = σ[i]?) → (∀ i, i ∉ sl → env'[i]? = env[i]?) → (∀ i, i ∈ sl → (∃ d, env'[i]? = some (.v d)) ∨ env'[i]? = none) → Q σ' H
section
variable {X : Cx} {T : Tb} {tg e : Expr} {pos : Pos}
theorem PG.imp {t t' : TG} (h : PG X tg t) (k : ∀ v σ H Q, t' v σ H Q → t v σ H Q) : PG X tg t' := ⟨fun pins s σ H v u Q I r q => h.run pins s σ H v u Q I r (k v σ H Q q)⟩
theorem PGs.imp {ts : List Expr} {t t' : TGs} (h : PGs X ts t) (k : ∀ v σ H Q, t' v σ H Q → t v σ H Q) : PGs X ts t' := ⟨fun pins s σ H v u Q I r q => h.run pins s σ H v u Q I r (k v σ H Q q)⟩
/-- a slot takes a datum -/
theorem Good.setV {G : Addr → Prop} {μ : List Addr} {H : Hp} {σ : L2.St} {env : Env} {st : Store} {d : D} {v : V} (g : Good T G μ H σ env st) (r : Rep T H (FF G μ) μ d v) (i : Nat) : Good T G μ H (σ.set i (some v)) (env.set i (.v d)) st where
  toGoodT := g.toGoodT
  en := by
    refine ⟨by rw [List.length_set, List.length_set]; exact g.en.len, fun j s x h1 h2 => ?_⟩
    by_cases c : i = j
    · subst c
      have hl : i < env.length := by
        have := (List.getElem?_eq_some_iff.mp h1).1
        rwa [List.length_set] at this
      have hl' : i < σ.length := by rw [← g.en.len]; exact hl
      rw [List.getElem?_set_self hl] at h1
      rw [List.getElem?_set_self hl'] at h2
      cases h1
      cases h2
      exact ⟨v, rfl, r⟩
    · rw [List.getElem?_set_ne c] at h1 h2
      exact g.en.at_ j s x h1 h2
theorem sg_name {i : Nat} {x : Str} (hN : X.N.Nodup) (hi : X.N[i]? = some x) (hx : Loc X.env.scope x) (hf : X.fn x = true ∨ X.env.scope.names.lookup x = some .local) :
    PG X (.Name x pos) (rdG T (fun d env => some (env.set i (.v d))) [i]) := by
  refine PG.imp (pg_name hN hi hx hf) fun v σ H Q ⟨G, μ, env, st, d, env', g, r, e, q⟩ => ?_
  obtain rfl := Option.some.inj e
  refine q _ (g.setV r i) ⟨by rw [List.length_set], fun j hj => ?_⟩ (fun j hj => ?_) fun j hj => ?_
  · rw [List.getElem?_set_ne (fun z => hj (by simp [z]))]
  · rw [List.getElem?_set_ne (fun z => hj (by simp [z]))]
  · simp at hj
    subst hj
    by_cases c : j < env.length
    · exact .inl ⟨d, List.getElem?_set_self c⟩
    · exact .inr (by simp; omega)
theorem sg_nil : PGs X [] (rdGs T (fun ds env => match ds with | [] => some env | _ => none) []) := by
  refine PGs.imp pgs_nil fun v σ H Q ⟨G, μ, env, st, ds, env', g, r, e, q⟩ => ?_
  cases ds with
  | cons _ _ => cases e
  | nil =>
    obtain rfl := Option.some.inj e
    obtain rfl : v = [] := r
    exact ⟨rfl, q σ g ⟨rfl, fun _ _ => rfl⟩ (fun _ _ => rfl) fun i hi => nomatch hi⟩
theorem sg_cons {es : List Expr} {f : D → Env → Option Env} {fs : List D → Env → Option Env} {sl sls : List Nat} (h1 : PG X e (rdG T f sl)) (h2 : PGs X es (rdGs T fs sls))
    (hs : (assignEach (e :: es) X.env).map (·.2) = assign e X.env :: (assignEach es X.env).map (·.2)) : PGs X (e :: es) (rdGs T (fun ds env => match ds with | d :: ds => (f d env).bind (fs ds) | [] => none) (sl ++ sls)) := by
  refine PGs.imp (pgs_cons h1 h2 hs) fun vs σ H Q ⟨G, μ, env, st, ds, env', g, r, e, q⟩ => ?_
  cases ds with
  | nil => cases e
  | cons d ds =>
    obtain ⟨v, vr, rfl, r1, r2⟩ := r
    obtain ⟨env1, e1, e2⟩ := Option.bind_eq_some_iff.mp e
    refine ⟨v, vr, rfl, G, μ, env, st, d, env1, g, r1, e1, fun σ1 g1 s1 v1 o1 => ⟨G, μ, env1, st, ds, env', g1, r2, e2, fun σ2 g2 s2 v2 o2 => ?_⟩⟩
    refine q σ2 g2 ⟨s2.1.trans s1.1, fun i hi => ?_⟩ (fun i hi => ?_) fun i hi => ?_
    · simp at hi
      rw [s2.2 i hi.2, s1.2 i hi.1]
    · simp at hi
      rw [v2 i hi.2, v1 i hi.1]
    · by_cases c : i ∈ sls
      · exact o2 i c
      · rcases List.mem_append.mp hi with z | z
        · rw [v2 i c]; exact o1 i z
        · exact absurd z c
theorem sg_tup {es : List Expr} {k : Nat} {fs : List D → Env → Option Env} {sls : List Nat} (h : XT T X) (h1 : PGs X es (rdGs T fs sls)) (n : Nat) (hn : (assignEach es X.env).length = n) (hst : (assignEach es X.env).findIdx? (·.1) = none)
    (hl : ∀ ds env env', fs ds env = some env' → ds.length = n) : PG X (.Tuple es k pos) (rdG T (fun d env => match d with | .tup ds | .lst ds => fs ds env | _ => none) sls) := by
  refine ⟨fun pins s σ H v u Q I r ⟨G, μ, env, st, d, env', g, rp, e, q⟩ => ?_⟩
  cases d <;> simp only [reduceCtorEq] at e
  · rename_i ds
    obtain ⟨a, xs, rfl, t1, t2⟩ := rp
    exact (pg_tup h.c h1 hn hst).run pins s σ H _ u Q I r ⟨a, xs, rfl, h.K ▸ t1.sq, by rw [t2.length]; exact hl _ _ _ e, G, μ, env, st, ds, env', g, t2, e, q⟩
  · rename_i ds
    obtain ⟨a, xs, rfl, t1, _, t2⟩ := rp
    exact (pg_lst h.c h1 hn hst).run pins s σ H _ u Q I r ⟨a, xs, rfl, .inl (.inl t1), by rw [t2.length]; exact hl _ _ _ e, G, μ, env, st, ds, env', g, t2, e, q⟩
end
end PD
end ZPDIter
section ZPDComp
set_option Elab.async false
set_option linter.all false
set_option maxRecDepth 100000
set_option maxHeartbeats 1000000
namespace PD
open PySem PySem.Spec L2 PyProof.Rows

theorem wipe_get (σ : L2.St) : ∀ (vs : List Nat) (i : Nat), (L2.wipe σ vs)[i]? = if i ∈ vs then (if i < σ.length then some none else none) else σ[i]?
  | [], i => by simp [L2.wipe]
  | v :: vs, i => by
    unfold L2.wipe
    have ih := wipe_get σ vs i
    have hl := wipe_length σ vs
    by_cases c : v = i
    · subst c
      rw [List.getElem?_set]
      simp only [if_true, hl, List.mem_cons, true_or]
    · rw [List.getElem?_set_ne c, ih]
      simp [List.mem_cons, fun z : i = v => c z.symm, eq_comm (a := i)]
      have : ¬ v = i := c
      simp [this]
theorem wipeE_len (env : Env) : ∀ vs : List Nat, (PD.wipe env vs).length = env.length
  | [] => rfl
  | v :: vs => by unfold PD.wipe; rw [List.length_set, wipeE_len env vs]
theorem wipeE_get (env : Env) : ∀ (vs : List Nat) (i : Nat) (s : Sl), (PD.wipe env vs)[i]? = some s → (i ∈ vs ∧ s = .no) ∨ (i ∉ vs ∧ env[i]? = some s)
  | [], i, s, h => .inr ⟨by simp, h⟩
  | v :: vs, i, s, h => by
    unfold PD.wipe at h
    by_cases c : v = i
    · subst c
      have hl : v < (PD.wipe env vs).length := by
        have := (List.getElem?_eq_some_iff.mp h).1
        rwa [List.length_set] at this
      rw [List.getElem?_set_self hl] at h
      cases h
      exact .inl ⟨by simp, rfl⟩
    · rw [List.getElem?_set_ne c] at h
      rcases wipeE_get env vs i s h with ⟨h1, h2⟩ | ⟨h1, h2⟩
      · exact .inl ⟨List.mem_cons_of_mem _ h1, h2⟩
      · exact .inr ⟨by simp [h1]; exact fun z => c z.symm, h2⟩
theorem wipe_eq {σ σ' : L2.St} {vs : List Nat} (hl : σ'.length = σ.length) (h : ∀ i, i ∉ vs → σ'[i]? = σ[i]?) : L2.wipe σ' vs = L2.wipe σ vs := by
  refine List.ext_getElem? fun i => ?_
  rw [wipe_get, wipe_get, hl]
  by_cases c : i ∈ vs
  · rw [if_pos c, if_pos c]
  · rw [if_neg c, if_neg c, h i c]
theorem Good.wiped {T : Tb} {G : Addr → Prop} {μ : List Addr} {H : Hp} {σ : L2.St} {env : Env} {st : Store} (g : Good T G μ H σ env st) (vs : List Nat) : Good T G μ H (L2.wipe σ vs) (PD.wipe env vs) st where
  toGoodT := g.toGoodT
  en := by
    refine ⟨by rw [wipe_length, wipeE_len]; exact g.en.len, fun i s x h1 h2 => ?_⟩
    rw [wipe_get] at h2
    rcases wipeE_get env vs i s h1 with ⟨c, rfl⟩ | ⟨c, h3⟩
    · trivial
    · rw [if_neg c] at h2
      exact g.en.at_ i s x h3 h2
/-- one address more that may not be touched -/
theorem Good.guard {T : Tb} {G : Addr → Prop} {μ : List Addr} {H : Hp} {σ : L2.St} {env : Env} {st : Store} (g : Good T G μ H σ env st) {p : Addr} (o : HO) (hp : H p = none) : Good T (fun a => G a ∨ a = p) μ (upd H p o) σ env st := by
  have m : Mv H (upd H p o) (FF G μ) (FF (fun a => G a ∨ a = p) μ) μ μ := ⟨fun a u e _ => upd_more hp a u e, fun a z => by
    rcases z with z | z | z
    · exact .inl (.inl z)
    · exact .inl (.inr z)
    · subst z; exact .inr hp, List.prefix_refl _⟩
  have np : p ∉ μ := fun z => (g.fresh hp) (.inl z)
  refine ⟨⟨fun a z => ?_, fun a ha z => ?_, ⟨g.sto.len, g.sto.nd, fun i u a h1 h2 => (g.sto.ob i u a h1 h2).mv m (fun q e => upd_more hp _ _ e) (fun _ z => .inl z) fun b q e _ => upd_more hp _ _ e⟩⟩, ⟨g.en.len, fun i s x h1 h2 => ?_⟩⟩
  · rcases z with z | z
    · have := g.dom a z
      cases e : H a with
      | none => exact absurd e this
      | some u => rw [upd_more hp a u e]; simp
    · subst z; rw [upd_same]; simp
  · rcases z with z | z
    · exact g.dis a ha z
    · subst z; exact np ha
  · have h := g.en.at_ i s x h1 h2
    cases s with
    | no => trivial
    | v d => obtain ⟨v, e, r⟩ := h; exact ⟨v, e, Rep.mv m d v r⟩
    | ol ds =>
      obtain ⟨a, e, f, n, r⟩ := h
      refine ⟨a, e, ?_, n, r.mv m fun u q => upd_more hp _ _ q⟩
      rcases f with f | f
      · exact .inl f
      · exact .inr (.inl f)
    | od ds =>
      obtain ⟨a, e, f, n, r⟩ := h
      refine ⟨a, e, ?_, n, r.mv m fun u q => upd_more hp _ _ q⟩
      rcases f with f | f
      · exact .inl f
      · exact .inr (.inl f)

theorem SlR.mv2 {T : Tb} {H H' : Hp} {F F' : Addr → Prop} {μ μ' : List Addr} (m : Mv H H' F F' μ μ') (k : ∀ a o, H a = some o → a ∉ μ → H' a = some o) (nn : ∀ a, F a → H a ≠ none → a ∉ μ → F' a ∧ a ∉ μ') {s : Sl} {x : Option V} (h : SlR T F μ H s x) : SlR T F' μ' H' s x := by
  cases s with
  | no => trivial
  | v d => obtain ⟨v, e, h⟩ := h; exact ⟨v, e, Rep.mv m d v h⟩
  | ol ds =>
    obtain ⟨a, e, f, n, h⟩ := h
    exact ⟨a, e, (nn a f h.some n).1, (nn a f h.some n).2, h.mv m fun o q => k a o q n⟩
  | od ds =>
    obtain ⟨a, e, f, n, h⟩ := h
    exact ⟨a, e, (nn a f h.some n).1, (nn a f h.some n).2, h.mv m fun o q => k a o q n⟩
/-- fewer that may not be touched -/
theorem Post.weak {T : Tb} {G G' : Addr → Prop} {μ μ' : List Addr} {H H' : Hp} {st' : Store} (p : Post T G' μ H μ' H' st') (hg : ∀ a, G a → G' a) : Post T G μ H μ' H' st' where
  mu := p.mu
  new := p.new
  keep := p.keep
  sto := ⟨p.sto.len, p.sto.nd, fun i o a h1 h2 => (p.sto.ob i o a h1 h2).mv ⟨fun _ _ e _ => e, fun a z => by
    rcases z with z | z
    · exact .inl (.inl z)
    · exact .inl (.inr (hg a z)), List.prefix_refl _⟩ (fun _ e => e) (fun _ z => .inl z) fun _ _ e _ => e⟩
/-- the frame's own D beside: from H1, where it stood not -/
theorem Good.lift {T : Tb} {G : Addr → Prop} {D : Addr} {μ μ' : List Addr} {H H' : Hp} {σ : L2.St} {env : Env} {st st' : Store} (g : Good T G μ H σ env st) (p : Post T (fun a => G a ∨ a = D) μ H μ' H' st') (h0 : H D = none) (hd : D ∉ μ') (hs : H' D ≠ none) : Good T (fun a => G a ∨ a = D) μ' H' σ env st' where
  dom := fun a z => by
    rcases z with z | rfl
    · have h := g.dom a z
      cases e : H a with
      | none => exact absurd e h
      | some o => rw [p.keep a o e fun y => g.dis a y z]; simp
    · exact hs
  dis := fun a ha z => by
    rcases z with z | rfl
    · rcases p.new a ha with y | y
      · exact g.dis a y z
      · exact g.dom a z y
    · exact hd ha
  sto := p.sto
  en := ⟨g.en.len, fun i s x h1 h2 => (g.en.at_ i s x h1 h2).mv2 ⟨fun a o e n => p.keep a o e fun z => n (.inl z), fun a z => by
    rcases z with z | z | rfl
    · rcases p.new a z with z | z
      · exact .inl (.inl z)
      · exact .inr z
    · exact .inl (.inr z)
    · exact .inr h0, p.mu⟩ p.keep fun a f hn na => by
      rcases f with f | f
      · exact absurd f na
      · refine ⟨.inr (.inl f), fun z => ?_⟩
        rcases p.new a z with z | z
        · exact na z
        · exact hn z⟩
section
variable {X : Cx} {T : Tb} {tg iter elt : Expr} {ifs : List Expr} {scope : Scope} {own : List (Str × Nat)} {pos : Pos} {pk fe : Bool} {evi : Env → M (List D)} {ft : D → Env → Option Env} {slt : List Nat} {evt : Env → M Bool} {eve : Env → M D}
def lcStep (own : List Nat) (ft : D → Env → Option Env) (evt : Env → M Bool) (eve : Env → M D) (env : Env) (d : D) : M (Option D) := match ft d (PD.wipe env own) with
  | some e => bnd (evt e) fun c => if c then bnd (eve e) fun y => ret (some y) else ret none
  | none => fail
abbrev evLc (own : List Nat) (evi : Env → M (List D)) (ft : D → Env → Option Env) (evt : Env → M Bool) (eve : Env → M D) : Env → M D := fun env => bnd (evi env) fun ds => if ds.length ≤ LIM then bnd (mapL (lcStep own ft evt eve env) ds) fun rs => ret (.lst rs) else fail
theorem lcR (hsl : ∀ i ∈ slt, i ∈ own.map (·.2)) {σ : L2.St} {H : Hp} {Q : VK} (hh : rdE T true false (evLc (own.map (·.2)) evi ft evt eve) σ H Q) :
    tLc (rdI T pk evi) (rdG T ft slt) (rdT T evt) (rdE T fe false eve) (own.map (·.2)) σ H Q := by
  obtain ⟨G, μ, env, st, d, st', g, e, q⟩ := hh
  obtain ⟨ds, st1, e1, k1⟩ := bnd_inv e
  obtain ⟨hz, k2⟩ := ite_inv k1
  obtain ⟨rs, st2, e2, k3⟩ := bnd_inv k2
  obtain ⟨rfl, rfl⟩ := ret_inv k3
  clear e k1 k2 k3
  refine ⟨G, μ, env, st, ds, st1, g, e1, fun J H1 μ1 p1 jw D hD => ?_⟩
  have g1 := g.post p1
  have nD1 : D ∉ μ1 := fun z => (g1.fresh hD) (.inl z)
  have gD := g1.guard (.lst []) hD
  obtain ⟨stay, js, jk, jy, je⟩ := jw.stay
  -- the state behind i items
  let G' : Addr → Prop := fun a => G a ∨ a = D
  refine ⟨fun i m H2 => m = ds.length - i ∧ i ≤ ds.length ∧ ∃ μ2 sti acc xs rest, Post T G' μ1 H1 μ2 H2 sti ∧ D ∉ μ2 ∧ H2 D = some (.lst xs) ∧ Reps T H2 (FF G' μ2) μ2 acc xs ∧ xs.length ≤ i ∧
      mapL (lcStep (own.map (·.2)) ft evt eve env) (ds.drop i) sti = .ok rest st2 ∧ acc ++ rest = rs, ⟨ds.length, by simp, Nat.zero_le _, μ1, st1, [], [], rs, ⟨List.prefix_refl _, fun _ z => .inl z, fun a o ea _ => upd_more hD a o ea, gD.sto⟩, nD1, upd_same, by simp only [Reps], Nat.le_refl _, by simpa using e2, rfl⟩, ?_⟩
  rintro i m H2 ⟨rfl, hil, μ2, sti, acc, xs, rest, p2, nD2, hxs, racc, hxl, emap, hacc⟩
  have g2 := g1.lift p2 hD nD2 (by rw [hxs]; simp)
  have hst : stay H2 := jk H2 fun a o ea na => p2.keep a o ea fun z => na (by
    split
    · exact z
    · exact .inl z)
  have mv12 : Mv H1 H2 (FF G μ1) (FF G' μ2) μ1 μ2 := ⟨fun a o ea na => p2.keep a o ea fun z => na (.inl z), fun a z => by
    rcases z with z | z | z
    · rcases p2.new a z with z | z
      · exact .inl (.inl z)
      · exact .inr z
    · exact .inl (.inr z)
    · subst z; exact .inr hD, p2.mu⟩
  by_cases hlt : i < ds.length
  · have hd : ds[i]? = some ds[i] := by simp [hlt]
    obtain ⟨go, yl⟩ := jy i _ H2 hst hd
    refine .inr ⟨go, fun H' => i + 1 ≤ ds.length ∧ ∃ μ2 sti acc xs rest, Post T G' μ1 H1 μ2 H' sti ∧ D ∉ μ2 ∧ H' D = some (.lst xs) ∧ Reps T H' (FF G' μ2) μ2 acc xs ∧ xs.length ≤ i + 1 ∧
      mapL (lcStep (own.map (·.2)) ft evt eve env) (ds.drop (i + 1)) sti = .ok rest st2 ∧ acc ++ rest = rs, fun H' z => ⟨ds.length - (i + 1), by omega, rfl, z⟩, fun x H3 y3 => ?_⟩
    obtain ⟨mono3, r3⟩ := yl x H3 y3
    have p3 : Post T G' μ2 H2 μ2 H3 sti := Post.more g2.toGoodT mono3
    have g3 := (g2.post p3).wiped (own.map (·.2))
    have rx := r3 _ _ mv12 fun a z e => g2.toGoodT.fresh e z
    rw [List.drop_eq_getElem_cons hlt] at emap
    obtain ⟨r0, st3, m1, m2⟩ := bnd_inv emap
    obtain ⟨rs', st4, m3, m4⟩ := bnd_inv m2
    obtain ⟨hr, rfl⟩ := ret_inv m4
    clear emap m2 m4
    unfold lcStep at m1
    cases hft : ft ds[i] (PD.wipe env (own.map (·.2))) with
    | none => rw [hft] at m1; cases m1
    | some env' =>
      simp only [hft] at m1
      obtain ⟨c, st5, t1, t2⟩ := bnd_inv m1
      refine ⟨G', μ2, _, sti, ds[i], env', g3, rx, hft, fun σ' g4 hσ henv hown => ⟨?_, ?_⟩⟩
      · have e1 : L2.wipe σ' (own.map (·.2)) = L2.wipe (L2.wipe σ (own.map (·.2))) (own.map (·.2)) := wipe_eq hσ.1 fun j hj => hσ.2 j fun z => hj (hsl j z)
        rw [e1]
        refine List.ext_getElem? fun j => ?_
        rw [wipe_get, wipe_get, wipe_length]
        by_cases c : j ∈ own.map (·.2)
        · rw [if_pos c, if_pos c]
        · rw [if_neg c, if_neg c]
      · refine ⟨G', μ2, env', sti, c, st5, g4, t1, fun H4 μ4 p4 => ?_⟩
        have p34 := p3.trans p4
        have g5 := g4.post p4
        have kx : H4 D = some (.lst xs) := p34.keep D _ hxs nD2
        have racc4 : Reps T H4 (FF G' μ4) μ4 acc xs := Reps.mv p34.mv acc xs racc
        have nD4 : D ∉ μ4 := fun z => g5.dis D z (.inr rfl)
        cases c with
        | false =>
          simp only [Bool.false_eq_true, if_false] at t2 ⊢
          obtain ⟨e5, rfl⟩ := ret_inv t2
          subst e5
          exact ⟨hlt, μ4, _, acc, xs, rs', p2.trans p34, nD4, kx, racc4, by omega, m3, by rw [← hacc, ← hr]⟩
        | true =>
          simp only [if_true] at t2 ⊢
          obtain ⟨y, st6, t3, t4⟩ := bnd_inv t2
          obtain ⟨e5, rfl⟩ := ret_inv t4
          subst e5
          refine ⟨G', μ4, env', st5, y, _, g5, t3, fun v H5 μ5 p5 r5 => ?_⟩
          have p35 := p34.trans p5
          have g6 := g5.post p5
          have kx5 : H5 D = some (.lst xs) := p5.keep D _ kx nD4
          refine ⟨xs, kx5, by have := lim_line hz; omega, ?_⟩
          have nD : D ∉ μ5 := fun z => g6.dis D z (.inr rfl)
          have mU : Mv H5 (upd H5 D (.lst (xs ++ [v]))) (FF G' μ5) (FF G' μ5) μ5 μ5 := mvUpd (.inr (.inr rfl))
          have p25 := p2.trans p35
          have p6 : Post T G' μ1 H1 μ5 (upd H5 D (.lst (xs ++ [v]))) st6 := by
            refine ⟨p25.mu, p25.new, fun a o ea na => ?_, g6.sto.len, g6.sto.nd, fun j w b h1 h2 => ?_⟩
            · rw [upd_ne (ne_of_none ea hD)]
              exact p25.keep a o ea na
            · have hb : b ≠ D := fun z => nD (z ▸ List.mem_of_getElem? h2)
              refine (g6.sto.ob j w b h1 h2).mv mU (fun q e => by rw [upd_ne hb]; exact e) (fun _ z => .inl z) fun c q e nc => ?_
              by_cases hc : c = D
              · rw [hc, kx5] at e; exact absurd (Option.some.inj e) (fun z => HO.noConfusion z)
              · rw [upd_ne hc]; exact e
          exact ⟨hlt, μ5, st6, acc ++ [y], xs ++ [v], rs', p6, nD, upd_same, (Reps.mv mU acc xs (Reps.mv p5.mv acc xs racc4)).append ⟨v, [], rfl, Rep.mv mU y v (r5.rep rfl), by simp only [Reps]⟩, by simp; omega, m3, by rw [← hacc, ← hr]; simp⟩
  · have hi' : i = ds.length := by omega
    subst hi'
    rw [List.drop_length] at emap
    obtain ⟨rfl, rfl⟩ := ret_inv emap
    rw [List.append_nil] at hacc
    subst hacc
    refine .inl ⟨je H2 hst, ?_⟩
    have p2' : Post T G μ1 H1 μ2 H2 sti := p2.weak fun a z => .inl z
    have nG : ¬ G D := fun z => g1.dom D z hD
    refine q (.ref D) H2 μ2 (p1.trans p2') (.of ⟨D, xs, rfl, hxs, fun z => ?_, Reps.mv ⟨fun _ _ e _ => e, fun a z => ?_, List.prefix_refl _⟩ acc xs racc⟩ fun _ es e => by
      cases e
      exact ⟨D, xs, rfl, Post.back g.toGoodT p1 hD, hxs, racc, p2.sto⟩)
    · rcases z with z | z
      · exact nD2 z
      · exact nG z
    · rcases z with z | z
      · exact .inl (.inl z)
      · exact .inl (.inr (.inl z))
theorem se_lc (h : XT T X) (hN : X.N.Nodup) (hi : PI X tg iter (rdI T pk evi)) (ok : BlkOk X.N X.env.scope scope own) (hsl : ∀ i ∈ slt, i ∈ own.map (·.2))
    (hg : ∀ (s : Shared) (H : Hp) (C : Addr) (cl : List (Str × Addr)) (fp : List Addr), PG (X.blk s H scope (compEnvC scope cl C X.env) fp) tg (rdG T ft slt))
    (ht : ∀ (s : Shared) (H : Hp) (C : Addr) (cl : List (Str × Addr)) (fp : List Addr), PTs (X.blk s H scope (compEnvC scope cl C X.env) fp) ifs (rdT T evt))
    (he : ∀ (s : Shared) (H : Hp) (C : Addr) (cl : List (Str × Addr)) (fp : List Addr), PE (X.blk s H scope (compEnvC scope cl C X.env) fp) elt (rdE T fe false eve)) (hs : ∀ x, foldedSetIterable iter X.env x = pure x) :
    PE X (.ListComp elt [⟨tg, iter, ifs, 0⟩] scope pos) (rdE T true false fun env => bnd (evi env) fun ds => if ds.length ≤ LIM then bnd (mapL (lcStep (own.map (·.2)) ft evt eve env) ds) fun rs => ret (.lst rs) else fail) := by
  exact PE.imp (pe_lc h.c hN hi ok hg ht he hs) fun σ H Q z => lcR hsl z
end
end PD
end ZPDComp
section ZPDTest
set_option Elab.async false
set_option linter.all false
set_option maxRecDepth 100000
set_option maxHeartbeats 1000000
namespace PD
open PySem PySem.Spec L2 PyProof.Rows

section
variable {X : Cx} {T : Tb} {P : Prog} {cf : Calls} {pos : Pos} {a b c : Expr} {xa xb xc : PD.X} {fa pa fb pb fc pc : Bool} {rest : List Expr}
abbrev PX (X : Cx) (T : Tb) (P : Prog) (cf : Calls) (e : Expr) (x : PD.X) (fr pk : Bool) : Prop := PE X e (rdE T fr pk (evE P cf x))
abbrev PXA (X : Cx) (T : Tb) (P : Prog) (cf : Calls) (e : List Expr) (x : PD.X) : Prop := PA X e (rdA T (evA P cf x))
abbrev PXV (X : Cx) (T : Tb) (P : Prog) (cf : Calls) (e : List Expr) (x : PD.X) : Prop := PA X e (rdV T (evV P cf x))
abbrev PXT (X : Cx) (T : Tb) (P : Prog) (cf : Calls) (e : Expr) (x : PD.X) : Prop := PT X e (rdT T fun env => bnd (evE P cf x env) blD)
abbrev PXW (X : Cx) (T : Tb) (P : Prog) (cf : Calls) (e : Expr) (x : PD.X) : Prop := PW X e (rdT T fun env => bnd (evE P cf x env) blD)
abbrev PXI (X : Cx) (T : Tb) (P : Prog) (cf : Calls) (tg e : Expr) (x : PD.X) (pk : Bool) : Prop := PI X tg e (rdI T pk (evIt P cf x))

theorem blD_inv {d : D} {st st2 : Store} {c : Bool} (h : blD d st = .ok c st2) : d = .bl c ∧ st = st2 := by
  cases d <;> simp only [blD, fail_ap, reduceCtorEq] at h
  obtain ⟨rfl, rfl⟩ := ret_inv h
  exact ⟨rfl, rfl⟩
theorem rs_bl {v : V} {fr pk : Bool} {G : Addr → Prop} {H H' : Hp} {μ' : List Addr} {st' : Store} {c : Bool} (r : RS T fr pk G H μ' H' st' (.bl c) v) : v = .bl c := r.pkr
/-- a value that is a bool -/
theorem bl_of {G : Addr → Prop} {μ : List Addr} {H : Hp} {σ : L2.St} {env : Env} {st st' : Store} {ev : Env → M D} {fr pk : Bool} {Q : VK} {d : Bool} (g : Good T G μ H σ env st) (e : bnd (ev env) blD st = .ok d st')
    (q : ∀ H' μ', Post T G μ H μ' H' st' → Q (.bl d) H') : rdE T fr pk ev σ H Q := by
  obtain ⟨x, st1, e1, e2⟩ := bnd_inv e
  obtain ⟨rfl, rfl⟩ := blD_inv e2
  exact ⟨G, μ, env, st, _, _, g, e1, fun v H1 μ1 p1 r1 => by rw [rs_bl r1]; exact q H1 μ1 p1⟩
theorem xt_val (h : PX X T P cf a xa fa pa) (he : ∀ whole, isTrue a X.env whole = (do let v ← whole; standAt a.pos; holding [v] (truthy v))) : PXT X T P cf a xa :=
  PT.imp (pt_val h he) fun σ H Q ⟨G, μ, env, st, d, st', g, e, q⟩ => bl_of g e fun H1 μ1 p1 => ⟨d, rfl, q H1 μ1 p1⟩
theorem xe_not (h : PX X T P cf a xa fa pa) : PX X T P cf (.UnaryOp .Not a pos) (.not_ xa) false false := by
  refine PE.imp (pe_not h) fun σ H Q ⟨G, μ, env, st, d, st', g, e, q⟩ => ?_
  obtain ⟨c, st1, e1, e2⟩ := bnd_inv (show bnd (bnd (evE P cf xa env) blD) (fun b => ret (.bl (!b))) st = .ok d st' from e)
  obtain ⟨rfl, rfl⟩ := ret_inv e2
  exact bl_of g e1 fun H1 μ1 p1 => ⟨c, rfl, q _ H1 μ1 p1 (.of0 rfl)⟩
theorem xt_not (h : PXT X T P cf a xa) : PXT X T P cf (.UnaryOp .Not a pos) (.not_ xa) := by
  refine PT.imp (pt_not h) fun σ H Q ⟨G, μ, env, st, d, st', g, e, q⟩ => ?_
  obtain ⟨x, st1, e1, e2⟩ := bnd_inv (show bnd (bnd (bnd (evE P cf xa env) blD) (fun b => ret (.bl (!b)))) blD st = .ok d st' from e)
  obtain ⟨c, st2, e3, e4⟩ := bnd_inv e1
  obtain ⟨rfl, rfl⟩ := ret_inv e4
  obtain ⟨h5, rfl⟩ := blD_inv e2
  cases h5
  exact ⟨G, μ, env, st, c, _, g, e3, fun H1 μ1 p1 => q H1 μ1 p1⟩
theorem xe_one {op} (h : PX X T P cf a xa fa pa) : PX X T P cf (.BoolOp op [a] pos) xa fa pa := pe_one h
/-- the last of an and, of an or -/
theorem xe_andL (h : PX X T P cf a xa fa pa) : PE X (.BoolOp .And [a] pos) (rdE T fa pa (evAnd P cf (.cons xa .nil))) := pe_one h
theorem xe_orL (h : PX X T P cf a xa fa pa) : PE X (.BoolOp .Or [a] pos) (rdE T fa pa (evOr P cf (.cons xa .nil))) := pe_one h
theorem xe_andC {y z : PD.X} (h : PX X T P cf a xa fa pa) (hb : PE X (.BoolOp .And (b :: rest) pos) (rdE T fb pb (evAnd P cf (.cons y z)))) : PE X (.BoolOp .And (a :: b :: rest) pos) (rdE T false pb (evAnd P cf (.cons xa (.cons y z)))) := by
  refine PE.imp (pe_and h hb) fun σ H Q ⟨G, μ, env, st, d, st', g, e, q⟩ => ?_
  obtain ⟨c, st1, e1, e2⟩ := bnd_inv (show bnd (bnd (evE P cf xa env) blD) (fun c => if c then evAnd P cf (.cons y z) env else ret (.bl false)) st = .ok d st' from e)
  refine bl_of g e1 fun H1 μ1 p1 => ⟨c, rfl, ?_⟩
  cases c with
  | true =>
    exact ⟨G, μ1, env, st1, d, st', g.post p1, e2, fun v H2 μ2 p2 r2 => q v H2 μ2 (p1.trans p2) ⟨r2.rep, r2.pkr, fun z => nomatch z⟩⟩
  | false =>
    obtain ⟨rfl, rfl⟩ := ret_inv e2
    exact q _ H1 μ1 p1 (.of0 rfl)
theorem xe_orC {y z : PD.X} (h : PX X T P cf a xa fa pa) (hb : PE X (.BoolOp .Or (b :: rest) pos) (rdE T fb pb (evOr P cf (.cons y z)))) : PE X (.BoolOp .Or (a :: b :: rest) pos) (rdE T false pb (evOr P cf (.cons xa (.cons y z)))) := by
  refine PE.imp (pe_or h hb) fun σ H Q ⟨G, μ, env, st, d, st', g, e, q⟩ => ?_
  obtain ⟨c, st1, e1, e2⟩ := bnd_inv (show bnd (bnd (evE P cf xa env) blD) (fun c => if c then ret (.bl true) else evOr P cf (.cons y z) env) st = .ok d st' from e)
  refine bl_of g e1 fun H1 μ1 p1 => ⟨c, rfl, ?_⟩
  cases c with
  | false =>
    exact ⟨G, μ1, env, st1, d, st', g.post p1, e2, fun v H2 μ2 p2 r2 => q v H2 μ2 (p1.trans p2) ⟨r2.rep, r2.pkr, fun z => nomatch z⟩⟩
  | true =>
    obtain ⟨rfl, rfl⟩ := ret_inv e2
    exact q _ H1 μ1 p1 (.of0 rfl)
theorem xe_and {y : PD.X} (h : PE X (.BoolOp .And (a :: rest) pos) (rdE T fa pa (evAnd P cf y))) : PX X T P cf (.BoolOp .And (a :: rest) pos) (.and_ y) fa pa := h
theorem xe_or {y : PD.X} (h : PE X (.BoolOp .Or (a :: rest) pos) (rdE T fa pa (evOr P cf y))) : PX X T P cf (.BoolOp .Or (a :: rest) pos) (.or_ y) fa pa := h
/-! tests of and, or -/
theorem xw_andL (h : PXT X T P cf a xa) : PW X (.BoolOp .And [a] pos) (rdT T fun env => bnd (evAnd P cf (.cons xa .nil) env) blD) := pw_and1 h
theorem xw_orL (h : PXT X T P cf a xa) : PW X (.BoolOp .Or [a] pos) (rdT T fun env => bnd (evOr P cf (.cons xa .nil) env) blD) := pw_or1 h
theorem xw_andC {y z : PD.X} (h : PXT X T P cf a xa) (hb : PW X (.BoolOp .And (b :: rest) pos) (rdT T fun env => bnd (evAnd P cf (.cons y z) env) blD)) : PW X (.BoolOp .And (a :: b :: rest) pos) (rdT T fun env => bnd (evAnd P cf (.cons xa (.cons y z)) env) blD) := by
  refine PW.imp (pw_and h hb) fun σ H Q ⟨G, μ, env, st, d, st', g, e, q⟩ => ?_
  obtain ⟨x, st1, e0, e2⟩ := bnd_inv e
  obtain ⟨c, st2, e1, e3⟩ := bnd_inv (show bnd (bnd (evE P cf xa env) blD) (fun c => if c then evAnd P cf (.cons y z) env else ret (.bl false)) st = .ok x st1 from e0)
  refine ⟨G, μ, env, st, c, _, g, e1, fun H1 μ1 p1 => ?_⟩
  cases c with
  | true => exact ⟨G, μ1, env, st2, d, st', g.post p1, by show bnd (evAnd P cf (.cons y z) env) blD st2 = _; rw [bnd_ok (by simpa using e3)]; exact e2, fun H2 μ2 p2 => q H2 μ2 (p1.trans p2)⟩
  | false =>
    obtain ⟨rfl, rfl⟩ := ret_inv e3
    obtain ⟨h5, rfl⟩ := blD_inv e2
    cases h5
    exact q H1 μ1 p1
theorem xw_orC {y z : PD.X} (h : PXT X T P cf a xa) (hb : PW X (.BoolOp .Or (b :: rest) pos) (rdT T fun env => bnd (evOr P cf (.cons y z) env) blD)) : PW X (.BoolOp .Or (a :: b :: rest) pos) (rdT T fun env => bnd (evOr P cf (.cons xa (.cons y z)) env) blD) := by
  refine PW.imp (pw_or h hb) fun σ H Q ⟨G, μ, env, st, d, st', g, e, q⟩ => ?_
  obtain ⟨x, st1, e0, e2⟩ := bnd_inv e
  obtain ⟨c, st2, e1, e3⟩ := bnd_inv (show bnd (bnd (evE P cf xa env) blD) (fun c => if c then ret (.bl true) else evOr P cf (.cons y z) env) st = .ok x st1 from e0)
  refine ⟨G, μ, env, st, c, _, g, e1, fun H1 μ1 p1 => ?_⟩
  cases c with
  | false => exact ⟨G, μ1, env, st2, d, st', g.post p1, by show bnd (evOr P cf (.cons y z) env) blD st2 = _; rw [bnd_ok (by simpa using e3)]; exact e2, fun H2 μ2 p2 => q H2 μ2 (p1.trans p2)⟩
  | true =>
    obtain ⟨rfl, rfl⟩ := ret_inv e3
    obtain ⟨h5, rfl⟩ := blD_inv e2
    cases h5
    exact q H1 μ1 p1
theorem xt_and {y : PD.X} (h : PW X (.BoolOp .And (a :: rest) pos) (rdT T fun env => bnd (evAnd P cf y env) blD)) : PXT X T P cf (.BoolOp .And (a :: rest) pos) (.and_ y) := h.pt
theorem xt_or {y : PD.X} (h : PW X (.BoolOp .Or (a :: rest) pos) (rdT T fun env => bnd (evOr P cf y env) blD)) : PXT X T P cf (.BoolOp .Or (a :: rest) pos) (.or_ y) := h.pt
/-- a if t else b -/
theorem xe_ite (hc : PXT X T P cf c xc) (ha : PX X T P cf a xa fa pa) (hb : PX X T P cf b xb fb pb) : PX X T P cf (.IfExp c a b pos) (.ite xc xa xb) (fa && fb) (pa || pb) := by
  refine PE.imp (pe_ifExp hc ha hb) fun σ H Q ⟨G, μ, env, st, d, st', g, e, q⟩ => ?_
  obtain ⟨k, st1, e1, e2⟩ := bnd_inv (show bnd (bnd (evE P cf xc env) blD) (fun c => if c then evE P cf xa env else evE P cf xb env) st = .ok d st' from e)
  refine ⟨G, μ, env, st, k, st1, g, e1, fun H1 μ1 p1 => ?_⟩
  have fx : ∀ {f p : Bool} {v : V} {H2 : Hp} {μ2 : List Addr}, ((fa && fb) = true → f = true) → ((pa || pb) = false → p = false) → Post T G μ1 H1 μ2 H2 st' → RS T f p G H1 μ2 H2 st' d v → RS T (fa && fb) (pa || pb) G H μ2 H2 st' d v := fun {f p v H2 μ2} hf hp p2 r2 => ⟨fun z => r2.rep (hp z), r2.pkr, fun z ds e => by
    obtain ⟨pp, xs, h1, h2, h3⟩ := r2.fre (hf z) ds e
    exact ⟨pp, xs, h1, Post.back g.toGoodT p1 h2, h3⟩⟩
  cases k with
  | true => exact ⟨G, μ1, env, st1, d, st', g.post p1, e2, fun v H2 μ2 p2 r2 => q v H2 μ2 (p1.trans p2) (fx (fun z => by simp at z; exact z.1) (fun z => by simp at z; exact z.1) p2 r2)⟩
  | false => exact ⟨G, μ1, env, st1, d, st', g.post p1, e2, fun v H2 μ2 p2 r2 => q v H2 μ2 (p1.trans p2) (fx (fun z => by simp at z; exact z.2) (fun z => by simp at z; exact z.2) p2 r2)⟩
/-- comparisons as tests -/
theorem xe_cmp {op : CmpOp} {o : Cop} (ho : OpR X (compareOp op) (rCp T (cmpD o))) (ha : PX X T P cf a xa fa pa) (hb : PX X T P cf b xb fb pb) (hm : behindInMarks op b = false) :
    PX X T P cf (.Compare a [op] [b] pos) (.cmp o xa xb) false false := se_cmp ho ha hb hm
theorem xt_cmp {op : CmpOp} {o : Cop} (ho : OpR X (compareOp op) (rCp T (cmpD o))) (ha : PX X T P cf a xa fa pa) (hb : PX X T P cf b xb fb pb) (hm : behindInMarks op b = false) :
    PXT X T P cf (.Compare a [op] [b] pos) (.cmp o xa xb) := by
  refine PT.imp (pt_cmpR ho ha hb hm) fun σ H Q ⟨G, μ, env, st, d, st', g, e, q⟩ => ?_
  obtain ⟨w, st0, e0, e9⟩ := bnd_inv e
  obtain ⟨x, st1, e1, k2⟩ := bnd_inv (show bnd (evE P cf xa env) (fun x => bnd (evE P cf xb env) fun y => bnd (vw x) fun x => bnd (vw y) fun y => bnd (opt (cmpD o x y)) fun r => ret (.bl r)) st = .ok w st0 from e0)
  obtain ⟨y, st3, e2, k3⟩ := bnd_inv k2
  obtain ⟨x', st4, k4, k5⟩ := bnd_inv k3
  obtain ⟨rfl, rfl⟩ := vw_inv k4
  obtain ⟨y', st5, k6, k7⟩ := bnd_inv k5
  obtain ⟨rfl, rfl⟩ := vw_inv k6
  obtain ⟨r, st6, k8, k9⟩ := bnd_inv k7
  obtain ⟨e5, rfl⟩ := opt_inv k8
  obtain ⟨rfl, rfl⟩ := ret_inv k9
  obtain ⟨h5, rfl⟩ := blD_inv e9
  cases h5
  clear e e0 k2 k3 k4 k5 k6 k7 k8 k9 e9
  refine ⟨G, μ, env, st, x, st1, g, e1, fun v H1 μ1 p1 r1 => ⟨G, μ1, env, st1, y, _, g.post p1, e2, fun u H2 μ2 p2 r2 => ?_⟩⟩
  have g2 := (g.post p1).post p2
  exact ⟨G, μ2, _, _, _, _, g2.toGoodT, (Pk.mv p2 r1.pkr).view g2.sto, r2.pkr.view g2.sto, e5, _, rfl, q _ μ2 (p1.trans p2)⟩
/-- a < b < c -/
theorem chainR {o o' : Cop} {σ : L2.St} {H : Hp} {Q : VK} {G : Addr → Prop} {μ : List Addr} {env : Env} {st st' : Store} {d : D} (g : Good T G μ H σ env st) (e : evE P cf (.cmp2 o o' xa xb xc) env st = .ok d st')
    (q : ∀ k H' μ', d = .bl k → Post T G μ H μ' H' st' → Q (.bl k) H') : tChain (rCp T (cmpD o)) (rCp T (cmpD o')) (rdE T fa false (evE P cf xa)) (rdE T fb false (evE P cf xb)) (rdE T fc false (evE P cf xc)) σ H Q := by
  obtain ⟨x, st1, e1, k2⟩ := bnd_inv (show bnd (evE P cf xa env) (fun x => bnd (evE P cf xb env) fun y => bnd (opt (cmpD o x y)) fun r => if r then bnd (evE P cf xc env) fun z => bnd (opt (cmpD o' y z)) fun r => ret (.bl r) else ret (.bl false)) st = .ok d st' from e)
  obtain ⟨y, st3, e2, k3⟩ := bnd_inv k2
  obtain ⟨r, st4, k4, k5⟩ := bnd_inv k3
  obtain ⟨e5, rfl⟩ := opt_inv k4
  clear e k2 k3 k4
  have tp : ∀ {d : D} {v : V} {H : Hp} {F : Addr → Prop} {μ : List Addr}, Rep T H F μ d v → Top T H F μ d v := fun {d v H F μ} h => by
    cases d <;> first | exact h | (obtain ⟨a, xs, e, h1, _, h3⟩ := h; exact ⟨a, e, xs, h1, h3⟩) | (obtain ⟨a, e, _, h1⟩ := h; exact ⟨a, e, h1⟩)
  refine ⟨G, μ, env, st, x, st1, g, e1, fun v H1 μ1 p1 r1 => ⟨G, μ1, env, st1, y, _, g.post p1, e2, fun u H2 μ2 p2 r2 => ?_⟩⟩
  have g2 := (g.post p1).post p2
  refine ⟨G, μ2, _, _, _, _, g2.toGoodT, tp (Rep.mv p2.mv _ _ (r1.rep rfl)), tp (r2.rep rfl), e5, r, rfl, ?_⟩
  cases r with
  | false =>
    obtain ⟨rfl, rfl⟩ := ret_inv k5
    exact q _ H2 μ2 rfl (p1.trans p2)
  | true =>
    obtain ⟨z, st6, e6, k7⟩ := bnd_inv k5
    obtain ⟨r', st7, k8, k9⟩ := bnd_inv k7
    obtain ⟨e8, rfl⟩ := opt_inv k8
    obtain ⟨rfl, rfl⟩ := ret_inv k9
    refine ⟨G, μ2, env, _, z, _, g2, e6, fun w H3 μ3 p3 r3 => ?_⟩
    have g3 := g2.post p3
    exact ⟨G, μ3, _, _, _, _, g3.toGoodT, tp (Rep.mv p3.mv _ _ (r2.rep rfl)), tp (r3.rep rfl), e8, q _ H3 μ3 rfl ((p1.trans p2).trans p3)⟩
theorem xe_cmp2 {op op' : CmpOp} {o o' : Cop} (ho : OpR X (compareOp op) (rCp T (cmpD o))) (ho' : OpR X (compareOp op') (rCp T (cmpD o'))) (ha : PX X T P cf a xa fa false) (hb : PX X T P cf b xb fb false) (hc : PX X T P cf c xc fc false)
    (hm : lastMarks [op, op'] [b, c] = false) : PX X T P cf (.Compare a [op, op'] [b, c] pos) (.cmp2 o o' xa xb xc) false false :=
  PE.imp (pe_chain ho ho' ha hb hc hm) fun σ H Q ⟨G, μ, env, st, d, st', g, e, q⟩ => chainR g e fun k H1 μ1 hd p1 => by subst hd; exact q _ H1 μ1 p1 (.of0 rfl)
theorem xt_cmp2 {op op' : CmpOp} {o o' : Cop} (ho : OpR X (compareOp op) (rCp T (cmpD o))) (ho' : OpR X (compareOp op') (rCp T (cmpD o'))) (ha : PX X T P cf a xa fa false) (hb : PX X T P cf b xb fb false) (hc : PX X T P cf c xc fc false)
    (hm : lastMarks [op, op'] [b, c] = false) : PXT X T P cf (.Compare a [op, op'] [b, c] pos) (.cmp2 o o' xa xb xc) :=
  PT.imp (pt_chain ho ho' ha hb hc hm) fun σ H Q ⟨G, μ, env, st, d, st', g, e, q⟩ => by
    obtain ⟨w, st0, e0, e9⟩ := bnd_inv e
    obtain ⟨rfl, rfl⟩ := blD_inv e9
    exact chainR g e0 fun k H1 μ1 hd p1 => by cases hd; exact ⟨_, rfl, q H1 μ1 p1⟩
end
end PD
end ZPDTest
section ZPDCall
set_option Elab.async false
set_option linter.all false
set_option maxRecDepth 100000
set_option maxHeartbeats 1000000
namespace PD
open PySem PySem.Spec L2 PyProof.Rows

/-- what a def promises by its tree -/
def spC (T : Tb) (cf : Calls) (f np : Nat) : Sp := fun vs H Q _ => ∃ G μ st ds d st', GoodT T G μ H st ∧ Reps T H (FF G μ) μ ds vs ∧ ds.length = np ∧ cf f ds st = .ok d st' ∧
  ∀ v H' μ', Post T G μ H μ' H' st' → Rep T H' (FF G μ') μ' d v → Q v H'
/-- a def that is called by its name -/
structure CallI (X : Cx) (T : Tb) (cf : Calls) (fa : Addr) (f np : Nat) : Prop where
  ex : ∃ k fd ps, FnOk X.prog X.w X.K X.mg X.base CX0 k fa fd ps (spC T cf f np) ∧ Room (k + 1) X.A ∧ Binds X.K fd ps []
  kp : PySem.W.keepIn X.K (.ref fa) = true
/-- the classes' names -/
structure TabOk (T : Tb) : Prop where
  nf : ∀ c f, T.hf c f = true → NoAttr T.K (T.ca c) (T.nm f)
  inj : ∀ c f g, T.hf c f = true → T.hf c g = true → T.nm f = T.nm g → f = g

section
variable {X : Cx} {T : Tb} {P : Prog} {cf : Calls} {pos p pos' : Pos} {a b e o : Expr} {xa xb xs xo : PD.X} {fa pa fb pb : Bool} {es : List Expr} {x : Str} {f np : Nat}
theorem xe_neg (ha : PX X T P cf a xa fa pa) : PX X T P cf (.UnaryOp .USub a pos) (.neg xa) false false := by
  refine PE.imp (pe_un un_neg ha) fun σ H Q ⟨G, μ, env, st, d, st', g, e, q⟩ => ?_
  obtain ⟨x, st1, e1, e2⟩ := bnd_inv (show bnd (evE P cf xa env) (fun x => match x with | .int i => ret (D.int (-i)) | _ => fail) st = .ok d st' from e)
  cases x <;> simp only [fail_ap, reduceCtorEq] at e2
  obtain ⟨rfl, rfl⟩ := ret_inv e2
  exact ⟨G, μ, env, st, _, _, g, e1, fun v H1 μ1 p1 r1 => ⟨_, r1.pkr, q _ H1 μ1 p1 (.of0 rfl)⟩⟩
/-! ### built-in functions -/
theorem bifR {r : Bi} {σ : L2.St} {H : Hp} {Q : VK} (h : rdE T true false (evE P cf (.bif r xs)) σ H Q) : tCB (rBi T (biD r)) (rdV T (evV P cf xs)) σ H Q := by
  obtain ⟨G, μ, env, st, d, st', g, e, q⟩ := h
  obtain ⟨ds, st1, e1, e2⟩ := bnd_inv (show bnd (evV P cf xs env) (fun ds => bnd (vws ds) fun ds => opt (biD r ds)) st = .ok d st' from e)
  obtain ⟨ds', st2, e3, e4⟩ := bnd_inv e2
  unfold vws at e3
  cases e3
  obtain ⟨e5, rfl⟩ := opt_inv e4
  refine ⟨G, μ, env, st, ds, _, g, e1, fun vs H1 μ1 p1 r1 => ?_⟩
  have g1 := g.post p1
  exact ⟨G, μ1, _, _, d, g1.toGoodT, r1.views g1.sto, e5, Ans.q g.toGoodT p1 q id⟩
theorem xe_bif {r : Bi} {id : String} (hc : CallR X (.builtin id) (rBi T (biD r))) (hg : Gl X x) (hm : X.mg x = none) (hv : bootBuiltins x = some (.builtin id)) (ha : PXV X T P cf (e :: es) xs) (hn : x ≠ "__name__") (hdb : (x == ("__debug__" : Str)) = false)
    (he : starEach (e :: es) X.env = (false, eval e X.env) :: starEach es X.env) (hpl : (backTo pos (starEach es X.env)).any (·.1) = false) : PX X T P cf (.Call (.Name x p) (e :: es) [] pos) (.bif r xs) true false :=
  PE.imp (pe_callB hc hg hm hv ha hn hdb he hpl) fun _ _ _ h => bifR h
theorem xe_bity {r : Bi} {id : String} (hc : CallR X (.type id) (rBi T (biD r))) (hg : Gl X x) (hm : X.mg x = none) (hv : bootBuiltins x = some (.type id)) (ha : PXV X T P cf (e :: es) xs) (hn : x ≠ "__name__") (hdb : (x == ("__debug__" : Str)) = false)
    (he : starEach (e :: es) X.env = (false, eval e X.env) :: starEach es X.env) (hpl : (backTo pos (starEach es X.env)).any (·.1) = false) : PX X T P cf (.Call (.Name x p) (e :: es) [] pos) (.bif r xs) true false :=
  PE.imp (pe_callTy hc hg hm hv ha hn hdb he hpl) fun _ _ _ h => bifR h
/-! ### argument lists by trees -/
theorem xa_nil : PXA X T P cf [] .nil := sa_nil
theorem xa_cons {h' : PD.X} (hx : ∀ y, h' ≠ .star y) (he : PX X T P cf e h' fa false) (ha : PXA X T P cf es xs) (hs : starEach (e :: es) X.env = (false, eval e X.env) :: starEach es X.env) : PXA X T P cf (e :: es) (.cons h' xs) := by
  have z := sa_cons he ha hs
  cases h' <;> first | exact z | exact absurd rfl (hx _)
theorem xv_nil : PXV X T P cf [] .nil := sv_nil
theorem xv_cons (he : PX X T P cf e xa fa pa) (ha : PXV X T P cf es xs) (hs : starEach (e :: es) X.env = (false, eval e X.env) :: starEach es X.env) : PXV X T P cf (e :: es) (.cons xa xs) := sv_cons he ha hs
/-! ### calls -/
theorem spOf {σ : L2.St} {H : Hp} {Q : VK} {E : XK} (h : rdE T false false (evE P cf (.call f xs)) σ H Q) (hl : ∀ ds st d st', cf f ds st = .ok d st' → ds.length = np) : tCall (spC T cf f np) [] E (rdA T (evA P cf xs)) σ H Q := by
  obtain ⟨G, μ, env, st, d, st', g, e, q⟩ := h
  obtain ⟨ds, st1, e1, e2⟩ := bnd_inv (show bnd (evA P cf xs env) (fun ds => cf f ds) st = .ok d st' from e)
  refine ⟨G, μ, env, st, ds, st1, g, e1, fun vs H1 μ1 p1 r1 => ?_⟩
  have g1 := g.post p1
  exact ⟨G, μ1, st1, ds, d, st', g1.toGoodT, by rw [List.append_nil]; exact r1, hl _ _ _ _ e2, e2, fun v H2 μ2 p2 r2 => q v H2 μ2 (p1.trans p2) (.of0 r2)⟩
theorem xe_call {ad : Addr} (F : CallI X T cf ad f np) (hl : ∀ ds st d st', cf f ds st = .ok d st' → ds.length = np) (hg : Gl X x) (hm : X.mg x = some (.ref ad)) (ha : PXA X T P cf (e :: es) xs) (hdb : (x == ("__debug__" : Str)) = false)
    (he : starEach (e :: es) X.env = (false, eval e X.env) :: starEach es X.env) (hpl : (backTo pos (starEach es X.env)).any (·.1) = false) : PX X T P cf (.Call (.Name x p) (e :: es) [] pos) (.call f xs) false false := by
  obtain ⟨k, fd, ps, F1, hr, hb⟩ := F.ex
  exact PE.imp (pe_call (E := E0) F1 (hr.mono (Nat.le_succ _)) hg hm F.kp hb .nil pass0 ha hdb he hpl) fun _ _ _ h => spOf h hl
theorem xe_call0 {ad : Addr} (F : CallI X T cf ad f np) (hl : ∀ ds st d st', cf f ds st = .ok d st' → ds.length = np) (hg : Gl X x) (hm : X.mg x = some (.ref ad)) (hdb : (x == ("__debug__" : Str)) = false) : PX X T P cf (.Call (.Name x p) [] [] pos) (.call f .nil) false false := by
  obtain ⟨k, fd, ps, F1, hr, hb⟩ := F.ex
  refine PE.imp (pe_call0 (E := E0) F1 (hr.mono (Nat.le_succ _)) hg hm F.kp hb .nil pass0 hdb) fun σ H Q h => ?_
  obtain ⟨G, μ, env, st, d, st', g, e, q⟩ := h
  exact ⟨G, μ, st, [], d, st', g.toGoodT, rfl, hl _ _ _ _ e, e, fun v H2 μ2 p2 r2 => q v H2 μ2 p2 (.of0 r2)⟩
/-! ### objects -/
theorem Flds.get (tk : TabOk T) {c : Nat} {H : Hp} {F : Addr → Prop} {μ : List Addr} : ∀ {fs : List (Nat × D)} {ys : List (Str × V)} {f : Nat} {d : D}, Flds T H F μ fs ys → (∀ p ∈ fs, T.hf c p.1 = true) → T.hf c f = true → getF f fs = some d → ∃ v, ys.lookup (T.nm f) = some v ∧ Rep T H F μ d v
  | [], _, _, _, _, _, _, e => nomatch e
  | (g, y) :: r, _, f, d, ⟨v, r', rfl, h1, h2⟩, hn, hf, e => by
    unfold getF at e
    by_cases c : g = f
    · subst c
      rw [if_pos rfl] at e
      cases e
      exact ⟨v, by simp [List.lookup], h1⟩
    · rw [if_neg c] at e
      obtain ⟨w, h3, h4⟩ := Flds.get tk h2 (fun p hp => hn p (List.mem_cons_of_mem _ hp)) hf e
      refine ⟨w, ?_, h4⟩
      have : (T.nm f == T.nm g) = false := by
        cases q : T.nm f == T.nm g
        · rfl
        · exact absurd (tk.inj _ g f (hn _ (List.mem_cons_self ..)) hf (eq_of_beq q).symm) c
      simp only [List.lookup, this]
      exact h3
theorem getF_mem : ∀ {fs : List (Nat × D)} {f : Nat} {d : D}, getF f fs = some d → (f, d) ∈ fs
  | [], _, _, e => nomatch e
  | (g, y) :: r, f, d, e => by
    unfold getF at e
    by_cases c : g = f
    · subst c
      rw [if_pos rfl] at e
      cases e
      exact List.mem_cons_self ..
    · rw [if_neg c] at e
      exact List.mem_cons_of_mem _ (getF_mem e)
theorem rdF_inv {f : Nat} {x d : D} {st st' : Store} (h : rdF f x st = .ok d st') : ∃ i c fs, x = .ref i ∧ st[i]? = some (.ins c fs) ∧ getF f fs = some d ∧ st' = st := by
  have hx : ∃ i, x = .ref i := by cases x <;> first | exact ⟨_, rfl⟩ | cases h
  obtain ⟨i, rfl⟩ := hx
  unfold rdF at h
  cases h1 : st[i]? with
  | none => simp only [h1] at h; cases h
  | some o =>
    simp only [h1] at h
    cases o with
    | lst _ => cases h
    | dct _ => cases h
    | tbl => cases h
    | ins c fs =>
      dsimp only at h
      cases h2 : getF f fs with
      | none => rw [h2] at h; cases h
      | some y =>
        rw [h2] at h
        cases h
        exact ⟨i, c, fs, rfl, h1, h2, rfl⟩
/-- the object behind a place -/
theorem insAt {G : Addr → Prop} {μ : List Addr} {H : Hp} {st : Store} {i c : Nat} {fs : List (Nat × D)} {v : V} (g : StR T (FF G μ) μ H st) (h : Rep T H (FF G μ) μ (.ref i) v) (e : st[i]? = some (.ins c fs)) :
    ∃ ad dx ys, v = .ref ad ∧ μ[i]? = some ad ∧ H ad = some (.ins (T.ca c) dx ys) ∧ dx ∉ μ ∧ H dx = some (.own ad) ∧ Flds T H (FF G μ) μ fs ys ∧ Cls T.K (T.ca c) ∧ ∀ p ∈ fs, T.hf c p.1 = true := by
  obtain ⟨ad, rfl, hm⟩ := (show ∃ ad, v = .ref ad ∧ μ[i]? = some ad from h)
  obtain ⟨dx, ys, h1, h2, h3, h4, h5, h6⟩ := (show ∃ dx xs, H ad = some (.ins (T.ca c) dx xs) ∧ dx ∉ μ ∧ H dx = some (.own ad) ∧ Flds T H (FF G μ) μ fs xs ∧ Cls T.K (T.ca c) ∧ ∀ p ∈ fs, T.hf c p.1 = true from g.ob i _ ad e hm)
  exact ⟨ad, dx, ys, rfl, hm, h1, h2, h3, h4, h5, h6⟩
theorem xe_fld {fn : Str} (h : XT T X) (tk : TabOk T) (ho : PX X T P cf o xo fa false) (hn : T.nm f = fn) (hb : attributeBase o fn X.env (eval o X.env) = eval o X.env) : PX X T P cf (.Attribute o fn pos) (.fld xo f) false false := by
  refine PE.imp (pe_fld ho hb) fun σ H Q ⟨G, μ, env, st, d, st', g, e, q⟩ => ?_
  obtain ⟨x, st1, e1, e2⟩ := bnd_inv (show bnd (evE P cf xo env) (fun x => rdF f x) st = .ok d st' from e)
  obtain ⟨i, c, fs, rfl, h1, h2, rfl⟩ := rdF_inv e2
  refine ⟨G, μ, env, st, _, _, g, e1, fun v H1 μ1 p1 r1 => ?_⟩
  have g1 := g.post p1
  obtain ⟨ad, dx, ys, rfl, _, k1, _, _, k4, k5, k6⟩ := insAt g1.sto (r1.rep rfl) h1
  have hf := k6 _ (getF_mem h2)
  obtain ⟨w, k7, k8⟩ := Flds.get tk k4 k6 hf h2
  subst hn
  exact ⟨ad, _, dx, ys, w, rfl, k1, h.K ▸ k5, h.K ▸ tk.nf c f hf, k7, q w H1 μ1 p1 (.of0 k8)⟩
theorem xe_idx {i : Expr} {xi : PD.X} {fi : Bool} (h : XT T X) (ho : PX X T P cf o xo fa pa) (hi : PX X T P cf i xi fi false) (hs : PlainIx i) : PX X T P cf (.Subscript o i pos) (.idx xo xi) false false := by
  refine PE.imp (pe_ix (x_idx h) ho hi hs) fun σ H Q ⟨G, μ, env, st, d, st', g, e, q⟩ => ?_
  obtain ⟨x, st1, e1, k2⟩ := bnd_inv (show bnd (evE P cf xo env) (fun x => bnd (evE P cf xi env) fun y => bnd (vw x) fun x => opt (idxD x y)) st = .ok d st' from e)
  obtain ⟨y, st2, e2, k3⟩ := bnd_inv k2
  obtain ⟨x', st3, k4, k5⟩ := bnd_inv k3
  obtain ⟨rfl, rfl⟩ := vw_inv k4
  obtain ⟨e5, rfl⟩ := opt_inv k5
  clear e k2 k3 k4 k5
  refine ⟨G, μ, env, st, x, st1, g, e1, fun v H1 μ1 p1 r1 => ⟨G, μ1, env, st1, y, _, g.post p1, e2, fun u H2 μ2 p2 r2 => ?_⟩⟩
  have g2 := (g.post p1).post p2
  exact ⟨G, μ2, _, _, _, _, g2.toGoodT, (Pk.mv p2 r1.pkr).view g2.sto, r2.rep rfl, e5, fun w rw' => q w H2 μ2 (p1.trans p2) (.of0 rw')⟩
/-- a method of the class c -/
structure MethI (X : Cx) (T : Tb) (P : Prog) (cf : Calls) (m : Nat) (mn : Str) (f np : Nat) : Prop where
  ex : ∃ c ad, Cls X.K (T.ca c) ∧ Meth X.K (T.ca c) mn ad ∧ CallI X T cf ad f np ∧ ∀ c' f', P.mth c' m = some f' → c' = c ∧ f' = f
theorem Flds.no {c : Nat} {H : Hp} {F : Addr → Prop} {μ : List Addr} {mn : Str} : ∀ {fs : List (Nat × D)} {ys : List (Str × V)}, Flds T H F μ fs ys → (∀ p ∈ fs, T.nm p.1 ≠ mn) → ys.lookup mn = none
  | [], _, h, _ => by
    have h' : _ = [] := h
    subst h'; rfl
  | (g, y) :: r, _, ⟨v, r', rfl, h1, h2⟩, hn => by
    have q : (mn == T.nm g) = false := by
      cases q : mn == T.nm g
      · rfl
      · exact absurd (eq_of_beq q).symm (hn _ (List.mem_cons_self ..))
    simp only [List.lookup, q]
    exact Flds.no (c := c) h2 fun p hp => hn p (List.mem_cons_of_mem _ hp)
theorem clsOf_inv {x : D} {st st' : Store} {r : Nat × Nat} (h : clsOf x st = .ok r st') : ∃ i fs, x = .ref i ∧ st[i]? = some (.ins r.1 fs) ∧ st' = st := by
  have hx : ∃ i, x = .ref i := by cases x <;> first | exact ⟨_, rfl⟩ | cases h
  obtain ⟨i, rfl⟩ := hx
  unfold clsOf at h
  cases h1 : st[i]? with
  | none => simp only [h1] at h; cases h
  | some o =>
    simp only [h1] at h
    cases o with
    | lst _ => cases h
    | dct _ => cases h
    | tbl => cases h
    | ins c fs => cases h; exact ⟨i, fs, rfl, h1, rfl⟩
theorem cmR {m : Nat} {mn : Str} {c : Nat} {E : XK} {ad : Addr} (hK : X.K = T.K) (tk : TabOk T) (hm : Meth X.K (T.ca c) mn ad) (hu : ∀ c' f', P.mth c' m = some f' → c' = c ∧ f' = f) (hl : ∀ ds st d st', cf f ds st = .ok d st' → ds.length = np)
    {σ : L2.St} {H : Hp} {Q : VK} (h : rdE T false false (evE P cf (.cm m xo xs)) σ H Q) : tMeth (T.ca c) mn (spC T cf f np) [] E (rdE T fa false (evE P cf xo)) (rdA T (evA P cf xs)) σ H Q := by
  obtain ⟨G, μ, env, st, d, st', g, e, q⟩ := h
  obtain ⟨x, st1, e1, e2⟩ := bnd_inv (show bnd (evE P cf xo env) (fun x => bnd (clsOf x) fun c => match P.mth c.1 m with | some f => bnd (evA P cf xs env) fun ds => cf f (x :: ds) | none => fail) st = .ok d st' from e)
  obtain ⟨r, st2, e3, e4⟩ := bnd_inv e2
  obtain ⟨i, fs, rfl, h1, rfl⟩ := clsOf_inv e3
  cases hz : P.mth r.1 m with
  | none => simp only [hz] at e4; cases e4
  | some f' =>
    simp only [hz] at e4
    obtain ⟨hc, rfl⟩ := hu _ _ hz
    obtain ⟨ds, st3, e5, e6⟩ := bnd_inv e4
    refine ⟨G, μ, env, st, _, _, g, e1, fun v H1 μ1 p1 r1 => ?_⟩
    have g1 := g.post p1
    rw [hc] at h1
    obtain ⟨ad', dx, ys, rfl, hμ, k1, _, _, k4, k5, k6⟩ := insAt g1.sto (r1.rep rfl) h1
    refine ⟨ad', dx, ys, rfl, k1, Flds.no (c := c) k4 fun p hp z => ?_, G, μ1, env, _, ds, st3, g1, e5, fun vs H2 μ2 p2 r2 => ?_⟩
    · have n := tk.nf c p.1 (k6 p hp)
      have m' := hm.at_
      rw [hK, ← z] at m'
      rw [show PySem.W.findIn T.K (.ref (T.ca c)) (T.nm p.1) = some none from n] at m'
      exact nomatch m'
    · have g2 := g1.post p2
      refine ⟨G, μ2, st3, .ref i :: ds, d, st', g2.toGoodT, ⟨.ref ad', vs, by rw [List.append_nil], ⟨ad', rfl, prefix_get p2.mu hμ⟩, r2⟩, hl _ _ _ _ e6, e6, fun v H3 μ3 p3 r3 => q v H3 μ3 ((p1.trans p2).trans p3) (.of0 r3)⟩
end
end PD
end ZPDCall
section ZPDCall2
set_option Elab.async false
set_option linter.all false
set_option maxRecDepth 100000
set_option maxHeartbeats 1000000
namespace PD
open PySem PySem.Spec L2 PyProof.Rows

section
variable {X : Cx} {T : Tb} {P : Prog} {cf : Calls} {pos p pos' apos cpos : Pos} {a b e o : Expr} {xa xb xe xs xo : PD.X} {fa pa fb pb : Bool} {es : List Expr} {x : Str} {f np : Nat}
theorem xe_cm {pl : Sem Bool} {m : Nat} {mn : Str} (h : XT T X) (tk : TabOk T) (M : MethI X T P cf m mn f np) (hl : ∀ ds st d st', cf f ds st = .ok d st' → ds.length = np) (ho : PX X T P cf o xo fa false) (ha : PXA X T P cf (e :: es) xs)
    (hst : starEach (e :: es) X.env = (false, eval e X.env) :: starEach es X.env) (hpl : (backTo pos (starEach es X.env)).any (·.1) = false)
    (ht : eval (.Call (.Attribute o mn apos) (e :: es) [] pos) X.env = (do
      let ov ← eval o X.env
      standAt apos.atName
      let (f, first) ← holding [ov] (getMethod ov mn pl)
      callWith pos f first (backTo pos (starEach (e :: es) X.env)) (backToKw pos (keywordEach [] X.env)))) :
    PX X T P cf (.Call (.Attribute o mn apos) (e :: es) [] pos) (.cm m xo xs) false false := by
  obtain ⟨c, ad, hc, hm, F, hu⟩ := M.ex
  obtain ⟨k, fd, ps, F1, hr, hb⟩ := F.ex
  exact PE.imp (pe_meth (E := E0) ho hc hm F1 (hr.mono (Nat.le_succ _)) hb .nil pass0 ha hst hpl ht) fun _ _ _ z => cmR h.K tk hm hu hl z
theorem xe_cm0 {pl : Sem Bool} {m : Nat} {mn : Str} (h : XT T X) (tk : TabOk T) (M : MethI X T P cf m mn f np) (hl : ∀ ds st d st', cf f ds st = .ok d st' → ds.length = np) (ho : PX X T P cf o xo fa false)
    (ht : eval (.Call (.Attribute o mn apos) [] [] pos) X.env = (do
      let ov ← eval o X.env
      standAt apos.atName
      let (f, first) ← holding [ov] (getMethod ov mn pl)
      callWith pos f first (backTo pos (starEach [] X.env)) (backToKw pos (keywordEach [] X.env)))) :
    PX X T P cf (.Call (.Attribute o mn apos) [] [] pos) (.cm m xo .nil) false false := by
  obtain ⟨c, ad, hc, hm, F, hu⟩ := M.ex
  obtain ⟨k, fd, ps, F1, hr, hb⟩ := F.ex
  refine PE.imp (pe_meth0 (E := E0) ho hc hm F1 (hr.mono (Nat.le_succ _)) hb .nil pass0 ht) fun σ H Q z => ?_
  obtain ⟨G, μ, env, st, d, st', g, ev, q⟩ := cmR (E := E0) h.K tk hm hu hl z
  refine ⟨G, μ, env, st, d, st', g, ev, fun v H1 μ1 p1 r1 => ?_⟩
  obtain ⟨a1, dx, fs, e1, e2, e3, q3⟩ := q v H1 μ1 p1 r1
  refine ⟨a1, dx, fs, e1, e2, e3, ?_⟩
  obtain ⟨G2, μ2, env2, st2, ds2, st3, g2, ev2, q2⟩ := q3
  obtain ⟨rfl, rfl⟩ := ret_inv (show ret [] st2 = .ok ds2 st3 from ev2)
  exact q2 [] H1 μ2 (Post.refl g2.toGoodT) rfl
/-- a class that is made by its name -/
structure MkI (X : Cx) (T : Tb) (P : Prog) (cf : Calls) (c : Nat) (np : Nat) : Prop where
  ex : ∃ f ad, P.ini c = some f ∧ Cls X.K (T.ca c) ∧ Mk X.K (T.ca c) ad ∧ CallI X T cf ad f (np + 1) ∧ ∀ ds st d st', cf f ds st = .ok d st' → ds.length = np + 1
theorem upd2_more {H : Hp} {x dx : Addr} {o o' : HO} (hx : H x = none) (hd : H dx = none) (a : Addr) (u : HO) (e : H a = some u) : upd (upd H dx o) x o' a = some u := by
  rw [upd_ne (ne_of_none e hx), upd_ne (ne_of_none e hd)]; exact e
theorem xe_mk {c : Nat} (h : XT T X) (M : MkI X T P cf c np) (hg : Gl X x) (hm : X.mg x = some (.ref (T.ca c))) (ha : PXA X T P cf (e :: es) xs) (hdb : (x == ("__debug__" : Str)) = false)
    (he : starEach (e :: es) X.env = (false, eval e X.env) :: starEach es X.env) (hpl : (backTo pos (starEach es X.env)).any (·.1) = false) : PX X T P cf (.Call (.Name x p) (e :: es) [] pos) (.mk c xs) false false := by
  obtain ⟨f, ad, hi, hc, hmk, F, hl⟩ := M.ex
  obtain ⟨k, fd, ps, F1, hr, hb⟩ := F.ex
  refine PE.imp (pe_make (E := E0) hmk F1 hr hg hm hb .nil pass0 ha hdb he hpl) fun σ H Q ⟨G, μ, env, st, d, st', g, ev, q⟩ => ?_
  obtain ⟨ds, st1, e1, e2⟩ := bnd_inv (show bnd (evA P cf xs env) (fun ds => bnd (alloc (.ins c [])) fun r => match P.ini c with | some f => bnd (cf f (r :: ds)) fun x => (match x with | .non => ret r | _ => fail) | none => fail) st = .ok d st' from ev)
  obtain ⟨r, st2, e3, e4⟩ := bnd_inv e2
  unfold alloc at e3
  cases e3
  simp only [hi] at e4
  obtain ⟨y, st3, e5, e6⟩ := bnd_inv e4
  cases y <;> simp only [fail_ap, reduceCtorEq] at e6
  obtain ⟨rfl, rfl⟩ := ret_inv e6
  refine ⟨G, μ, env, st, ds, st1, g, e1, fun vs H1 μ1 p1 r1 x dx hx hd hne => ?_⟩
  have g1 := g.toGoodT.post p1
  have more := fun a u => upd2_more (o := .own x) (o' := .ins (T.ca c) dx []) hx hd a u
  have hdx : dx ∉ μ1 ++ [x] := fun z => by
    rcases List.mem_append.mp z with z | z
    · exact g1.fresh hd (.inl z)
    · simp at z; exact hne z
  have p2 := Post.new_ g1 hx (u := .ins c []) more ⟨dx, [], upd_same, hdx, by rw [upd_ne hne, upd_same], rfl, h.K ▸ hc, fun _ z => nomatch z⟩ (by rw [upd_same]; simp)
  have g2 := g1.post p2
  have hlen : μ1.length = st1.length := g1.sto.len
  have hget : (μ1 ++ [x])[st1.length]? = some x := by
    rw [← hlen, List.getElem?_append_right (Nat.le_refl _)]; simp
  refine ⟨G, μ1 ++ [x], st1 ++ [.ins c []], .ref st1.length :: ds, .non, _, g2, ⟨.ref x, vs, by rw [List.append_nil], ⟨x, rfl, hget⟩, Reps.mv p2.mv ds vs r1⟩, hl _ _ _ _ e5, e5, fun v H2 μ2 p3 r3 => ?_⟩
  exact ⟨r3, q (.ref x) H2 μ2 ((p1.trans p2).trans p3) (.of0 ⟨x, rfl, prefix_get p3.mu hget⟩)⟩
/-! ### dicts' methods -/
theorem ty_dict {s : Shared} {d : Addr} {xs : List (NestedKey × Addr × Value)} (hd : s.heap.DictOfH (NK X) d xs) : s.TypeIs (.ref d) "dict" ∧ ∀ a, Value.ref d = .ref a → ∃ ob, s.heap.get? a = some ob ∧ ob.dict = none := by
  obtain ⟨o, es, ep, h1, h2, _⟩ := hd
  exact ⟨⟨o, h1, h2.1⟩, fun a e => by cases e; exact ⟨o, h1, h2.2.1⟩⟩
theorem xe_get {k : Expr} {xk : PD.X} {fk : Bool} (h : XT T X) (ho : PX X T P cf o xo fa pa) (hk : PX X T P cf k xk fk false)
    (hbase : attributeBase o "get" X.env (eval o X.env) = eval o X.env)
    (hfew : ((backTo cpos (starEach [k] X.env)).all (fun x => !x.1) && (backToKw cpos (keywordEach [] X.env)).all (fun x => x.1.isSome)
      && decide ([k].length + ([] : List Keyword).length + (if ([] : List Keyword).isEmpty then 0 else 1) < 30)) = true)
    (hline : (apos.endLine == cpos.line) = true) (hs : starEach [k] X.env = (false, eval k X.env) :: starEach [] X.env) :
    PX X T P cf (.Call (.Attribute o "get" apos) [k] [] cpos) (.get xo xk) false false := by
  refine ⟨fun pins s σ H Q I ⟨G, μ, env, st, d, st', g, ev, q⟩ => ?_⟩
  obtain ⟨x, st1, e1, k2⟩ := bnd_inv (show bnd (evE P cf xo env) (fun x => bnd (vw x) fun x0 => if dctT x0 then bnd (evE P cf xk env) fun y => bnd (vw x) fun x => (match x with
    | .dct kvs => if dKey y kvs then ret ((findK y kvs).getD .non) else fail
    | _ => fail) else fail) st = .ok d st' from ev)
  obtain ⟨x0, st2, e3, k4⟩ := bnd_inv k2
  obtain ⟨rfl, rfl⟩ := vw_inv e3
  obtain ⟨hz, k5⟩ := ite_inv k4
  obtain ⟨y, st3, e6, k7⟩ := bnd_inv k5
  obtain ⟨x1, st4, e8, k9⟩ := bnd_inv k7
  obtain ⟨rfl, rfl⟩ := vw_inv e8
  clear ev k2 k4 k5 k7 e3 e8
  refine wpAny_Call_method_late hbase hfew hline rfl (thn (ho.run pins s σ H (fun v H1 => ∃ μ1, Post T G μ H μ1 H1 st2 ∧ RS T fa pa G H μ1 H1 st2 x v) I ⟨G, μ, env, st, _, _, g, e1, fun v H1 μ1 p1 r1 => ⟨μ1, p1, r1⟩⟩) fun v s1 ⟨v0, H1, I1, rv, μ1, p1, r1⟩ => ?_)
  have g1 := g.post p1
  have hv := r1.pkr.view g1.sto
  obtain ⟨kv0, hkv⟩ : ∃ kvs, view st2 x = .dct kvs := by
    revert hz; cases view st2 x <;> intro hz <;> first | exact ⟨_, rfl⟩ | exact absurd hz (by simp [dctT])
  rw [hkv] at hv hz
  obtain ⟨d1, rfl, hd1⟩ := hv
  cases rv
  obtain ⟨es1, xs1, kn1, pr1, hh1, _⟩ := DctC.of I1 h.P h.w h.K hd1 hz
  obtain ⟨t1, t2⟩ := ty_dict hh1
  refine ⟨"dict", "dict.get", PySem.F.plainAttrs_dict, PySem.F.slot_dict_get, rfl, t1, t2, ?_⟩
  have hA := (sa_cons (T := T) hk sa_nil hs).run cpos pins s1 σ H1 (fun vs H2 => ∃ μ2, Post T G μ1 H1 μ2 H2 st4 ∧ ∃ u, vs = [u] ∧ Rep T H2 (FF G μ2) μ2 y u) I1 ⟨G, μ1, env, _, [y], st4, g1, (by show bnd (evE P cf xk env) (fun d => bnd (ret []) fun ds => ret (d :: ds)) st2 = _; rw [bnd_ok e6]; rfl), fun vs H2 μ2 p2 r2 => ⟨μ2, p2, by
    obtain ⟨u, r, rfl, ru, hr⟩ := r2
    obtain rfl : r = [] := hr
    exact ⟨u, rfl, ru⟩⟩⟩
  rw [hs] at hA ⊢
  refine Calls.callWith_builtin rfl (Calls.evalArgs_plain ?_)
  refine thn hA fun us s2 ⟨vs, H2, I2, r2, μ2, p2, u, ev, ru⟩ => ?_
  subst ev
  obtain ⟨u1, rfl, ru1⟩ := Vals.one r2
  have g2 := g1.post p2
  have hv2 := (Pk.mv p2 r1.pkr).view g2.sto
  obtain ⟨kv, hkv2⟩ : ∃ kvs, view st4 x = .dct kvs := by
    revert k9; cases view st4 x <;> intro k9 <;> first | exact ⟨_, rfl⟩ | exact nomatch k9
  rw [hkv2] at hv2 k9
  obtain ⟨hky, k10⟩ := ite_inv k9
  obtain ⟨rfl, rfl⟩ := ret_inv k10
  obtain ⟨d2, e2, hd2⟩ := hv2
  cases e2
  obtain ⟨es2, xs2, kn2, pr2, hh2, hsys, _⟩ := DctC.of I2 h.P h.w h.K hd2 (dKey_head hky)
  obtain ⟨n, ad, hn, rfl, rfl, hik⟩ := dKey_is I2 h.K hky ru ru1
  have hf := findK_at hn kn2 pr2
  have hu := h.u
  refine get_keyed (knd := NK X) (show (NK X).room X.A.in1 by show X.A.units + 1 + 8 < cLine; omega) hik hsys ⟨xs2, hh2, rfl⟩ ?_
  rw [valueAt_pairsH]
  cases hq : findK y kv with
  | none =>
    rw [hq] at hf
    dsimp only at hf
    rw [hf]
    refine ⟨.non, H2, I2.tok _, rfl, ?_⟩
    rw [hq] at q
    exact q .non H2 μ2 (p1.trans p2) (.of0 rfl)
  | some d' =>
    rw [hq] at hf
    obtain ⟨pp, v, e7, e8, e9⟩ := hf
    rw [e7]
    refine ⟨v, H2, I2.tok _, e8, ?_⟩
    rw [hq] at q
    exact q v H2 μ2 (p1.trans p2) (.of0 e9)
end
end PD
end ZPDCall2
section ZPDStar
set_option Elab.async false
set_option linter.all false
set_option maxRecDepth 100000
set_option maxHeartbeats 1000000
namespace PD
open PySem PySem.Spec L2 PyProof.Rows

/-- what stands behind a star -/
structure PStarI (X : Cx) (e : Expr) (t : TA) : Prop where
  run : ∀ (pins : List (Addr × Obj)) (s : Shared) (σ : L2.St) (H : Hp) (Q : List V → Hp → Prop), L2.Inv X pins σ H s → t σ H Q →
    wpAny (model X.prog X.w) X.A (eval e X.env) (fun v s1 => PySem.W.StarOf (model X.prog X.w) X.A X.xe v (fun us s2 => AP X pins σ Q us s2) s1) X.xe s
section
variable {X : Cx} {T : Tb} {P : Prog} {cf : Calls} {pos p pos' apos cpos : Pos} {a b e o : Expr} {xa xb xe xs xo : PD.X} {fa pa fb pb : Bool} {es : List Expr} {x : Str} {f np : Nat}
theorem xa_star {sx : PD.X} (he : PStarI X e (rdA T (evIt P cf sx))) (hr : PXA X T P cf es xs) (hs : starEach (.Starred e p :: es) X.env = (true, eval e X.env) :: starEach es X.env) : PXA X T P cf (.Starred e p :: es) (.cons (.star sx) xs) := by
  refine ⟨fun pos pins s σ H Q I ⟨G, μ, env, st, ds, st', g, ev, q⟩ => ?_⟩
  obtain ⟨d1, st1, e1, k2⟩ := bnd_inv (show bnd (evIt P cf sx env) (fun ds => bnd (evA P cf xs env) fun es => ret (ds ++ es)) st = .ok ds st' from ev)
  obtain ⟨d2, st2, e2, k3⟩ := bnd_inv k2
  obtain ⟨rfl, rfl⟩ := ret_inv k3
  refine PySem.W.items_star (thn (he.run pins s σ H (fun vs H1 => ∃ μ1, Post T G μ H μ1 H1 st1 ∧ Reps T H1 (FF G μ1) μ1 d1 vs) I ⟨G, μ, env, st, _, _, g, e1, fun vs H1 μ1 p1 r1 => ⟨μ1, p1, r1⟩⟩) fun v s1 hv => ?_) hs
  unfold PySem.W.StarOf at hv ⊢
  refine thn hv fun b s2 ⟨hb, h2⟩ => ⟨hb, thn h2 fun us s3 ⟨vs, H1, I1, rv, μ1, p1, r1⟩ => ?_⟩
  exact thn (hr.run pos pins s3 σ H1 (fun ws H2 => Q (vs ++ ws) H2) I1 ⟨G, μ1, env, st1, _, _, g.post p1, e2, fun ws H2 μ2 p2 r2 => q (vs ++ ws) H2 μ2 (p1.trans p2) (Reps.append (Reps.mv p2.mv _ _ r1) r2)⟩) fun ws s4 ⟨w, H4, I4, r4, q4⟩ => ⟨vs ++ w, H4, I4, rv.append r4, q4⟩
theorem st_src (h : XT T X) (he : PX X T P cf e xe fa pa) : PStarI X e (rdA T (evIt P cf (.src xe))) := by
  refine ⟨fun pins s σ H Q I ⟨G, μ, env, st, ds, st', g, ev, q⟩ => ?_⟩
  obtain ⟨x, st1, e1, k2⟩ := bnd_inv (show bnd (evE P cf xe env) (fun x => opt (itemsD x)) st = .ok ds st' from ev)
  obtain ⟨k3, rfl⟩ := opt_inv k2
  refine thn (he.run pins s σ H (fun v H1 => ∃ p xs, v = .ref p ∧ (SqT X.K H1 p xs ∨ SqL X.K H1 p xs) ∧ Q xs H1) I ⟨G, μ, env, st, _, _, g, e1, fun v H1 μ1 p1 r1 => ?_⟩) fun v s1 ⟨y, H1, I1, ry, a, xs, ey, hx, q1⟩ => ?_
  · cases x <;> simp only [itemsD, Option.some.injEq, reduceCtorEq] at k3
    · subst k3
      obtain ⟨a, xs, rfl, h1, h2⟩ := (show Rep T H1 (FF G μ1) μ1 _ v from r1.pkr)
      exact ⟨a, xs, rfl, .inl (h.K ▸ h1.sq), q xs H1 μ1 p1 h2⟩
    · subst k3
      obtain ⟨a, rfl, n, xs, h1, h2⟩ := r1.pkr
      exact ⟨a, xs, rfl, .inr (SqL.of h1), q xs H1 μ1 p1 h2⟩
  · subst ey
    obtain rfl : v = Value.ref a := ry
    exact StX.star_any I1 hx fun us s2 I2 rv => ⟨xs, H1, I2, rv, q1⟩
/-- the pairs of a dict, new tuples of them -/
theorem pairs_reps {G : Addr → Prop} {μ : List Addr} {H : Hp} {F : Addr → Prop} {μ' : List Addr} {H' : Hp} (m : Mv H H' (FF G μ) F μ μ') : ∀ {kvs : List (D × D)} {es : List (NestedKey × Addr × V)} {as : List Addr}, KVn T H (FF G μ) μ kvs es → as.length = es.length →
    (∀ (j : Nat) (n : NestedKey) (q : Addr) (v : V) (a : Addr), es[j]? = some (n, q, v) → as[j]? = some a → TupAt T H' F a [.ref q, v]) → Reps T H' F μ' (kvs.map fun p => .tup [p.1, p.2]) (as.map V.ref)
  | [], _, as, h, hl, _ => by
    simp only [KVn] at h
    subst h
    obtain rfl : as = [] := List.eq_nil_of_length_eq_zero hl
    rfl
  | (k, d) :: r, _, as, h, hl, ht => by
    simp only [KVn] at h
    obtain ⟨n, q, x, r', rfl, h0, h1, h2, h3⟩ := h
    cases as with
    | nil => cases hl
    | cons a as =>
      refine ⟨.ref a, as.map V.ref, rfl, ⟨a, [.ref q, x], rfl, ht 0 n q x a rfl rfl, ⟨_, _, rfl, Rep.mv m _ _ h1, _, _, rfl, Rep.mv m _ _ h2, rfl⟩⟩, pairs_reps m h3 (by simpa using hl) fun j n q v a h4 h5 => ht (j + 1) n q v a (by simpa using h4) (by simpa using h5)⟩
theorem st_items (h : XT T X) (hh : X.A.handled = none) (ho : PX X T P cf o xo fa pa) (hbase : attributeBase o "items" X.env (eval o X.env) = eval o X.env) (hline : (apos.endLine == cpos.line) = true) :
    PStarI X (.Call (.Attribute o "items" apos) [] [] cpos) (rdA T (evIt P cf (.items xo))) := by
  refine ⟨fun pins s σ H Q I ⟨G, μ, env, st, ds, st', g, ev, q⟩ => ?_⟩
  obtain ⟨x, st1, e1, k2⟩ := bnd_inv (show bnd (evE P cf xo env) (fun x => bnd (vw x) fun x => (match x with
    | .dct kvs => if headTup kvs then ret (kvs.map fun p => .tup [p.1, p.2]) else fail
    | _ => fail)) st = .ok ds st' from ev)
  obtain ⟨x1, st2, e3, k4⟩ := bnd_inv k2
  obtain ⟨rfl, rfl⟩ := vw_inv e3
  refine wpAny_Call_method0_late hbase hline (thn (ho.run pins s σ H (fun v H1 => ∃ μ1, Post T G μ H μ1 H1 st2 ∧ RS T fa pa G H μ1 H1 st2 x v) I ⟨G, μ, env, st, _, _, g, e1, fun v H1 μ1 p1 r1 => ⟨μ1, p1, r1⟩⟩) fun v s1 ⟨v0, H1, I1, rv, μ1, p1, r1⟩ => ?_)
  have g1 := g.post p1
  have hv := r1.pkr.view g1.sto
  obtain ⟨kvs, hkv⟩ : ∃ kvs, view st2 x = .dct kvs := by
    revert k4; cases view st2 x <;> intro k4 <;> first | exact ⟨_, rfl⟩ | exact nomatch k4
  rw [hkv] at hv k4
  obtain ⟨hz, k5⟩ := ite_inv k4
  obtain ⟨rfl, rfl⟩ := ret_inv k5
  obtain ⟨d1, rfl, hd1⟩ := hv
  cases rv
  obtain ⟨es1, xs1, kn1, pr1, hh1, hsys, hle, _⟩ := DctC.of I1 h.P h.w h.K hd1 hz
  obtain ⟨t1, t2⟩ := ty_dict hh1
  refine ⟨"dict", "dict.items", PySem.F.plainAttrs_dict, PySem.F.slot_dict_items, rfl, t1, t2, ?_⟩
  obtain ⟨ob, ents, ep, b1, b2, b3, b4, _⟩ := hh1
  have hlen : ents.size = es1.length := by rw [← Array.length_toList, b4, List.length_map, Paired.length pr1]
  refine Calls.callWith_builtin rfl (PySem.evalArgs_none (DT.callItems (es := ents) (ep := ep) hsys ⟨ob, b1, b2, b3⟩ ?_))
  have I2 : L2.Inv X pins σ H1 { s1 with heap := s1.heap.push { cls := .type "dict_items", data := .fields #[.ref d1] } } := I1.kept (t' := s1.toks) fun b o e => Heap.get?_push_of_some _ e
  have hview : (s1.heap.push { cls := .type "dict_items", data := .fields #[.ref d1] }).get? s1.heap.objs.size = some { cls := .type "dict_items", data := .fields #[.ref d1] } := Heap.get?_push_size _ rfl
  have key : wpAny (model X.prog X.w) X.A (collect (.ref s1.heap.objs.size)) (fun us s2 => AP X pins σ Q us s2) X.xe { s1 with heap := s1.heap.push { cls := .type "dict_items", data := .fields #[.ref d1] } } := by
    refine DT.collectI (d := d1) (es := ents) (ep := ep) hh ⟨_, hview, rfl, rfl⟩ ⟨ob, Heap.get?_push_of_some _ b1, b2, b3⟩ (by rw [hlen]; exact hle) fun h' tk as hk hsz hal hM => ?_
    have I3 : L2.Inv X pins σ H1 { s1 with heap := h', toks := tk } := I2.kept (t' := tk) hk
    have hnd : as.Nodup := hM.rise.imp fun h => Nat.ne_of_lt h
    have hfr : ∀ a ∈ as, s1.heap.objs.size ≤ a := fun a ha => by
      have h1 := hM.above a ha
      have hs2 : (s1.heap.push { cls := .type "dict_items", data := .fields #[.ref d1] } : Heap).objs.size = s1.heap.objs.size + 1 := Heap.size_push _ _
      exact Nat.le_of_lt (Nat.lt_of_le_of_lt (by rw [hs2]; exact Nat.le_succ _) h1)
    obtain ⟨H2, I4, more, ht⟩ := L2.DX.takeT (P := fun a vs => ∃ j n q v, as[j]? = some a ∧ es1[j]? = some (n, q, v) ∧ vs = [.ref q, v]) I1 as H1 I3 hnd fun a ha => by
      obtain ⟨j, hj⟩ := List.mem_iff_getElem?.mp ha
      obtain ⟨en, e4, e5⟩ := hM.pairs j a hj
      have hjl : j < es1.length := by
        have := (List.getElem?_eq_some_iff.mp hj).1
        omega
      have e6 : (xs1.map (entryOfKey (NK X)))[j]? = some en := by rw [← b4, Array.getElem?_toList]; exact e4
      rw [List.getElem?_map] at e6
      obtain ⟨y, e7, rfl⟩ := Option.map_eq_some_iff.mp e6
      have hes : es1[j]? = some es1[j] := by simp [hjl]
      obtain ⟨e8, e9, e10⟩ := paired_at pr1 hes e7
      refine ⟨hfr a ha, I1.hok.fresh (hfr a ha), [.ref es1[j].2.1, es1[j].2.2], ⟨j, es1[j].1, es1[j].2.1, es1[j].2.2, hj, hes, rfl⟩, fun H2 => ?_⟩
      refine ⟨by show 2 ≤ sizeLine; rw [sizeLine_eq]; omega, [.ref y.2.1, y.2.2], .cons (by rw [e9]; rfl) (.cons e10 .nil), ⟨_, e5, rfl, _, rfl⟩⟩
    have g3 := g1.post (Post.more g1.toGoodT more)
    refine ⟨as.map V.ref, H2, I4, ?_, q (as.map V.ref) H2 μ1 (p1.trans (Post.more g1.toGoodT more)) (pairs_reps (mvMore more _) kn1 (by omega) fun j n q' v a h4 h5 => ?_)⟩
    · clear ht hM hal hnd hfr
      induction as with
      | nil => exact .nil
      | cons a as ih => exact .cons rfl (ih)
    · obtain ⟨vs, ⟨j', n', q2, v2, h6, h7, rfl⟩, h8⟩ := ht a (List.mem_of_getElem? h5)
      have : j' = j := nodup_get hnd h6 h5
      subst this
      rw [h4] at h7
      cases h7
      exact .inl ⟨h8, g1.toGoodT.fresh (I1.hok.fresh (hfr a (List.mem_of_getElem? h5)))⟩
  unfold PySem.W.StarOf notIterableAtAll
  exact wpAny_bind (wpAny_specialOf ⟨_, hview, rfl⟩ PySem.F.slot_dict_items_iter.lookup (wpAny_pure ⟨rfl, key⟩))
end
end PD
end ZPDStar
section ZPDStm
set_option Elab.async false
set_option linter.all false
set_option maxRecDepth 100000
set_option maxHeartbeats 1000000
namespace PD
open PySem PySem.Spec L2 PyProof.Rows

def Sl.isOwn : Sl → Bool
  | .ol _ | .od _ => true
  | _ => false
def OwnAt (σ : L2.St) (env : Env) (i : Nat) (a : Addr) : Prop := σ[i]? = some (some (.ref a)) ∧ ∃ s, env[i]? = some s ∧ s.isOwn = true
def Own (σ : L2.St) (env : Env) : Addr → Prop := fun a => ∃ i, OwnAt σ env i a
abbrev GO (G0 : Addr → Prop) (σ : L2.St) (env : Env) : Addr → Prop := fun a => G0 a ∨ Own σ env a
/-- a slot, the frame's own lists told apart -/
def SlQ (T : Tb) (G0 F : Addr → Prop) (μ : List Addr) (H : Hp) : Sl → Option V → Prop
  | .no, _ => True
  | .v d, x => ∃ v, x = some v ∧ Rep T H F μ d v
  | .ol ds, x => ∃ a, x = some (.ref a) ∧ ¬ G0 a ∧ a ∉ μ ∧ LstC T H F μ a ds
  | .od kvs, x => ∃ a, x = some (.ref a) ∧ ¬ G0 a ∧ a ∉ μ ∧ DctC T H F μ a kvs
structure GoodS (T : Tb) (G0 : Addr → Prop) (μ : List Addr) (H : Hp) (σ : L2.St) (env : Env) (st : Store) : Prop where
  dom : ∀ a, G0 a → H a ≠ none
  dis : ∀ a ∈ μ, ¬ G0 a
  sto : StR T (FF (GO G0 σ env) μ) μ H st
  len : env.length = σ.length
  at_ : ∀ (i : Nat) (s : Sl) (x : Option V), env[i]? = some s → σ[i]? = some x → SlQ T G0 (FF (GO G0 σ env) μ) μ H s x
  ds : ∀ i j a, OwnAt σ env i a → OwnAt σ env j a → i = j
/-- from state to state in one frame -/
structure StepR (μ : List Addr) (ow : Addr → Prop) (H : Hp) (μ' : List Addr) (ow' : Addr → Prop) (H' : Hp) : Prop where
  mu : μ <+: μ'
  new : ∀ a ∈ μ', a ∈ μ ∨ H a = none
  own : ∀ a, ow' a → ow a ∨ H a = none
  keep : ∀ a o, H a = some o → a ∉ μ → ¬ ow a → H' a = some o
  grow : ∀ a, H' a = none → H a = none

section
variable {T : Tb} {G0 : Addr → Prop} {H H' H2 : Hp} {μ μ' μ2 : List Addr} {σ σ' : L2.St} {env env' : Env} {st st' st2 : Store} {ow ow' ow2 : Addr → Prop}
theorem StepR.refl : StepR μ ow H μ ow H := ⟨List.prefix_refl _, fun _ h => .inl h, fun _ h => .inl h, fun _ _ h _ _ => h, fun _ h => h⟩
theorem StepR.trans (p : StepR μ ow H μ' ow' H') (q : StepR μ' ow' H' μ2 ow2 H2) : StepR μ ow H μ2 ow2 H2 where
  mu := p.mu.trans q.mu
  new := fun a ha => by
    rcases q.new a ha with z | z
    · exact p.new a z
    · exact .inr (p.grow a z)
  own := fun a ha => by
    rcases q.own a ha with z | z
    · exact p.own a z
    · exact .inr (p.grow a z)
  keep := fun a o h n no => q.keep a o (p.keep a o h n no) (fun z => by
    rcases p.new a z with z | z
    · exact n z
    · rw [h] at z; cases z) fun z => by
    rcases p.own a z with z | z
    · exact no z
    · rw [h] at z; cases z
  grow := fun a h => p.grow a (q.grow a h)
theorem OwnAt.get (h : OwnAt σ env i a) : ∃ s, env[i]? = some s ∧ s.isOwn = true ∧ σ[i]? = some (some (.ref a)) := let ⟨h1, s, h2, h3⟩ := h; ⟨s, h2, h3, h1⟩
theorem SlQ.own {F : Addr → Prop} {s : Sl} {a : Addr} (h : SlQ T G0 F μ H s (some (.ref a))) (ho : s.isOwn = true) : ¬ G0 a ∧ a ∉ μ ∧ H a ≠ none := by
  cases s with
  | no => cases ho
  | v _ => cases ho
  | ol ds => obtain ⟨b, e, h1, h2, h3⟩ := h; cases e; exact ⟨h1, h2, h3.some⟩
  | od ds => obtain ⟨b, e, h1, h2, h3⟩ := h; cases e; exact ⟨h1, h2, h3.some⟩
theorem GoodS.ownOk (g : GoodS T G0 μ H σ env st) {a : Addr} (h : Own σ env a) : ¬ G0 a ∧ a ∉ μ ∧ H a ≠ none := by
  obtain ⟨i, h1, s, h2, h3⟩ := h
  exact (g.at_ i s _ h2 h1).own h3
theorem GoodS.good (g : GoodS T G0 μ H σ env st) : Good T (GO G0 σ env) μ H σ env st where
  dom := fun a z => by
    rcases z with z | z
    · exact g.dom a z
    · exact (g.ownOk z).2.2
  dis := fun a ha z => by
    rcases z with z | z
    · exact g.dis a ha z
    · exact (g.ownOk z).2.1 ha
  sto := g.sto
  en := ⟨g.len, fun i s x h1 h2 => by
    have h := g.at_ i s x h1 h2
    cases s with
    | no => trivial
    | v d => exact h
    | ol ds => obtain ⟨a, rfl, _, n, r⟩ := h; exact ⟨a, rfl, .inr (.inr ⟨i, h2, _, h1, rfl⟩), n, r⟩
    | od ds => obtain ⟨a, rfl, _, n, r⟩ := h; exact ⟨a, rfl, .inr (.inr ⟨i, h2, _, h1, rfl⟩), n, r⟩⟩
theorem SlQ.mv {F F' : Addr → Prop} (m : Mv H H' F F' μ μ') {s : Sl} {x : Option V} (k : s.isOwn = true → ∀ a, x = some (.ref a) → a ∉ μ → H a ≠ none → (∀ o, H a = some o → H' a = some o) ∧ a ∉ μ') (h : SlQ T G0 F μ H s x) : SlQ T G0 F' μ' H' s x := by
  cases s with
  | no => trivial
  | v d => obtain ⟨v, e, h⟩ := h; exact ⟨v, e, Rep.mv m d v h⟩
  | ol ds =>
    obtain ⟨a, e, f, n, h⟩ := h
    obtain ⟨k1, k2⟩ := k rfl a e n h.some
    exact ⟨a, e, f, k2, h.mv m k1⟩
  | od ds =>
    obtain ⟨a, e, f, n, h⟩ := h
    obtain ⟨k1, k2⟩ := k rfl a e n h.some
    exact ⟨a, e, f, k2, h.mv m k1⟩
/-- behind an expression -/
theorem GoodS.post (g : GoodS T G0 μ H σ env st) (p : Post T (GO G0 σ env) μ H μ' H' st') : GoodS T G0 μ' H' σ env st' where
  dom := fun a z => (g.good.toGoodT.post p).dom a (.inl z)
  dis := fun a ha z => (g.good.toGoodT.post p).dis a ha (.inl z)
  sto := p.sto
  len := g.len
  at_ := fun i s x h1 h2 => (g.at_ i s x h1 h2).mv p.mv fun _ a _ n hs => ⟨fun o e => p.keep a o e n, fun z => by
    rcases p.new a z with z | z
    · exact n z
    · exact hs z⟩
  ds := g.ds
theorem StepR.ofPost (g : GoodS T G0 μ H σ env st) (p : Post T (GO G0 σ env) μ H μ' H' st') : StepR μ (Own σ env) H μ' (Own σ env) H' := ⟨p.mu, p.new, fun _ z => .inl z, fun a o e n _ => p.keep a o e n, fun a z => Post.back g.good.toGoodT p z⟩
/-- fewer own: what was read stays -/
theorem mvLess {F F' : Addr → Prop} (h : ∀ a, F' a → F a) : Mv H H F F' μ μ := ⟨fun _ _ e _ => e, fun a z => .inl (h a z), List.prefix_refl _⟩
theorem StR.less {F F' : Addr → Prop} (s : StR T F μ H st) (h : ∀ a, F' a → F a) : StR T F' μ H st :=
  ⟨s.len, s.nd, fun i o a h1 h2 => (s.ob i o a h1 h2).mv (mvLess h) (fun _ e => e) (fun _ z => .inl z) fun _ _ e _ => e⟩
theorem ownSet {i : Nat} {x : Option V} {s : Sl} (ho : s.isOwn = false) {j : Nat} {a : Addr} (h : OwnAt (σ.set i x) (env.set i s) j a) : j ≠ i ∧ OwnAt σ env j a := by
  obtain ⟨h1, t, h2, h3⟩ := h
  by_cases c : i = j
  · subst c
    have hl : i < env.length := by
      have := (List.getElem?_eq_some_iff.mp h2).1
      rwa [List.length_set] at this
    rw [List.getElem?_set_self hl] at h2
    cases h2
    rw [ho] at h3; cases h3
  · rw [List.getElem?_set_ne c] at h1 h2
    exact ⟨fun z => c z.symm, h1, t, h2, h3⟩
/-- a slot takes a datum -/
theorem GoodS.setV {i : Nat} {d : D} {v : V} (g : GoodS T G0 μ H σ env st) (r : Rep T H (FF (GO G0 σ env) μ) μ d v) : GoodS T G0 μ H (σ.set i (some v)) (env.set i (.v d)) st ∧ StepR μ (Own σ env) H μ (Own (σ.set i (some v)) (env.set i (.v d))) H := by
  have lo : ∀ a, Own (σ.set i (some v)) (env.set i (.v d)) a → Own σ env a := fun a ⟨j, h⟩ => ⟨j, (ownSet rfl h).2⟩
  have lf : ∀ a, FF (GO G0 (σ.set i (some v)) (env.set i (.v d))) μ a → FF (GO G0 σ env) μ a := fun a z => by
    rcases z with z | z | z
    · exact .inl z
    · exact .inr (.inl z)
    · exact .inr (.inr (lo a z))
  refine ⟨⟨g.dom, g.dis, g.sto.less lf, by rw [List.length_set, List.length_set]; exact g.len, fun j s x h1 h2 => ?_, fun j k a h1 h2 => g.ds j k a (ownSet rfl h1).2 (ownSet rfl h2).2⟩, ⟨List.prefix_refl _, fun _ z => .inl z, fun a z => .inl (lo a z), fun _ _ e _ _ => e, fun _ z => z⟩⟩
  by_cases c : i = j
  · subst c
    have hl : i < env.length := by
      have := (List.getElem?_eq_some_iff.mp h1).1
      rwa [List.length_set] at this
    rw [List.getElem?_set_self hl] at h1
    rw [List.getElem?_set_self (by rw [← g.len]; exact hl)] at h2
    cases h1; cases h2
    exact ⟨v, rfl, Rep.mv (mvLess lf) d v r⟩
  · rw [List.getElem?_set_ne c] at h1 h2
    exact (g.at_ j s x h1 h2).mv (mvLess lf) fun _ a _ n hs => ⟨fun _ e => e, n⟩
end

/-! ### statements -/
/-- what an end asks -/
def EndS (T : Tb) (G0 : Addr → Prop) (μ : List Addr) (ow : Addr → Prop) (H : Hp) (st' : Store) (D : Ends) : Out → Prop
  | .nx e => ∀ σ' H' μ', GoodS T G0 μ' H' σ' e st' → StepR μ ow H μ' (Own σ' e) H' → D.nx σ' H'
  | .ct e => ∀ σ' H' μ', GoodS T G0 μ' H' σ' e st' → StepR μ ow H μ' (Own σ' e) H' → D.ct σ' H'
  | .bk e => ∀ σ' H' μ', GoodS T G0 μ' H' σ' e st' → StepR μ ow H μ' (Own σ' e) H' → D.bk σ' H'
  | .rt d => ∀ v H' μ', StR T (FF G0 μ') μ' H' st' → StepR μ ow H μ' (fun _ => False) H' → Rep T H' (FF G0 μ') μ' d v → D.rt v H'
def rdS (T : Tb) (ev : Env → M Out) : TS := fun D σ H => ∃ G0 μ env st o st', GoodS T G0 μ H σ env st ∧ ev env st = .ok o st' ∧ EndS T G0 μ (Own σ env) H st' D o
theorem EndS.step {T : Tb} {G0 : Addr → Prop} {H H' : Hp} {μ μ' : List Addr} {ow ow' : Addr → Prop} {st' : Store} {D : Ends} {o : Out} (p : StepR μ ow H μ' ow' H') (h : EndS T G0 μ ow H st' D o) : EndS T G0 μ' ow' H' st' D o := by
  cases o with
  | nx e => exact fun σ' H2 μ2 g s => h σ' H2 μ2 g (p.trans s)
  | ct e => exact fun σ' H2 μ2 g s => h σ' H2 μ2 g (p.trans s)
  | bk e => exact fun σ' H2 μ2 g s => h σ' H2 μ2 g (p.trans s)
  | rt d => exact fun v H2 μ2 g s r => h v H2 μ2 g (p.trans s) r
section
variable {X : Cx} {T : Tb} {P : Prog} {cf : Calls} {pos p pos' apos cpos : Pos} {a b c e o tg : Expr} {xa xb xc xe xs xo xt sx bx bx' : PD.X} {fa pa fb pb : Bool} {es : List Expr} {x : Str} {s : Stmt} {sts sts' : List Stmt} {i : Nat}
abbrev PXS (X : Cx) (T : Tb) (P : Prog) (cf : Calls) (s : Stmt) (x : PD.X) : Prop := PS X s (rdS T (evS P cf x))
abbrev PXB (X : Cx) (T : Tb) (P : Prog) (cf : Calls) (s : List Stmt) (x : PD.X) : Prop := PSs X s (rdS T (evB P cf x))
theorem xb_nil : PXB X T P cf [] .nil := PSs.imp pss_nil fun D σ H ⟨G0, μ, env, st, o, st', g, e, q⟩ => by
  obtain ⟨rfl, rfl⟩ := ret_inv (show ret (.nx env) st = .ok o st' from e)
  exact q σ H μ g .refl
/-- a statement ahead of others, as readings -/
theorem seqR {σ : L2.St} {H : Hp} {D : Ends} (h : rdS T (evB P cf (.cons sx bx)) D σ H) : rdS T (evS P cf sx) { D with nx := rdS T (evB P cf bx) D } σ H := by
  obtain ⟨G0, μ, env, st, o, st', g, e, q⟩ := h
  obtain ⟨o1, st1, e1, e2⟩ := bnd_inv (show bnd (evS P cf sx env) (fun o => match o with | .nx e => evB P cf bx e | o => ret o) st = .ok o st' from e)
  refine ⟨G0, μ, env, st, o1, st1, g, e1, ?_⟩
  cases o1 with
  | nx e' => exact fun σ' H' μ' g' s' => ⟨G0, μ', e', st1, o, st', g', e2, q.step s'⟩
  | ct e' => obtain ⟨rfl, rfl⟩ := ret_inv (show ret (Out.ct e') st1 = .ok o st' from e2); exact q
  | bk e' => obtain ⟨rfl, rfl⟩ := ret_inv (show ret (Out.bk e') st1 = .ok o st' from e2); exact q
  | rt d => obtain ⟨rfl, rfl⟩ := ret_inv (show ret (Out.rt d) st1 = .ok o st' from e2); exact q
theorem xb_cons (h1 : PXS X T P cf s sx) (h2 : PXB X T P cf sts bx) : PXB X T P cf (s :: sts) (.cons sx bx) := PSs.imp (pss_cons h1 h2) fun _ _ _ h => seqR h
/-- a step that the program does not write -/
theorem xb_ghost (h2 : PXB X T P cf sts bx) (hs : ∀ D σ H, rdS T (evS P cf sx) { D with nx := rdS T (evB P cf bx) D } σ H → rdS T (evB P cf bx) D σ H) : PXB X T P cf sts (.cons sx bx) := PSs.imp h2 fun D σ H h => hs D σ H (seqR h)
theorem xs_pass : PXS X T P cf (.Pass pos) .pass_ := PS.imp ps_pass fun D σ H ⟨G0, μ, env, st, o, st', g, e, q⟩ => by
  obtain ⟨rfl, rfl⟩ := ret_inv (show ret (.nx env) st = .ok o st' from e)
  exact q σ H μ g .refl
theorem xs_brk : PXS X T P cf (.Break pos) .brk := PS.imp ps_break fun D σ H ⟨G0, μ, env, st, o, st', g, e, q⟩ => by
  obtain ⟨rfl, rfl⟩ := ret_inv (show ret (.bk env) st = .ok o st' from e)
  exact q σ H μ g .refl
theorem xs_cnt : PXS X T P cf (.Continue pos) .cnt := PS.imp ps_continue fun D σ H ⟨G0, μ, env, st, o, st', g, e, q⟩ => by
  obtain ⟨rfl, rfl⟩ := ret_inv (show ret (.ct env) st = .ok o st' from e)
  exact q σ H μ g .refl
theorem xs_doc {y : Str} {j : Nat} : PXS X T P cf (.Expr (.Constant (.str y) j pos) pos') .pass_ := PS.imp ps_doc fun D σ H ⟨G0, μ, env, st, o, st', g, e, q⟩ => by
  obtain ⟨rfl, rfl⟩ := ret_inv (show ret (.nx env) st = .ok o st' from e)
  exact q σ H μ g .refl
theorem xs_never : PXS X T P cf s .never := PS.imp ps_never fun D σ H ⟨G0, μ, env, st, o, st', g, e, q⟩ => by
  exact nomatch (show (fail : M Out) st = .ok o st' from e)
theorem xs_ex (he : PX X T P cf e xe fa pa) (hs : swapsWith e none pos.line X.env = pure false) : PXS X T P cf (.Expr e pos) (.ex xe) := PS.imp (ps_expr he hs) fun D σ H ⟨G0, μ, env, st, o, st', g, ev, q⟩ => by
  obtain ⟨d, st1, e1, e2⟩ := bnd_inv (show bnd (evE P cf xe env) (fun _ => ret (.nx env)) st = .ok o st' from ev)
  obtain ⟨rfl, rfl⟩ := ret_inv e2
  exact ⟨_, μ, env, st, d, _, g.good, e1, fun v H1 μ1 p1 r1 => q σ H1 μ1 (g.post p1) (.ofPost g p1)⟩
theorem StepR.less {ow ow' ow2 : Addr → Prop} {μ μ' : List Addr} {H H' : Hp} (p : StepR μ ow H μ' ow' H') (h : ∀ a, ow2 a → ow' a) : StepR μ ow H μ' ow2 H' := ⟨p.mu, p.new, fun a z => p.own a (h a z), p.keep, p.grow⟩
theorem go_less {G0 : Addr → Prop} {σ : L2.St} {env : Env} {μ : List Addr} : ∀ a, FF G0 μ a → FF (GO G0 σ env) μ a := fun a z => by
  rcases z with z | z
  · exact .inl z
  · exact .inr (.inl z)
theorem xs_rt (he : PX X T P cf e xe fa false) : PXS X T P cf (.Return (some e) pos) (.rt xe) := PS.imp (ps_ret he) fun D σ H ⟨G0, μ, env, st, o, st', g, ev, q⟩ => by
  obtain ⟨d, st1, e1, e2⟩ := bnd_inv (show bnd (evE P cf xe env) (fun d => ret (.rt d)) st = .ok o st' from ev)
  obtain ⟨rfl, rfl⟩ := ret_inv e2
  exact ⟨_, μ, env, st, d, _, g.good, e1, fun v H1 μ1 p1 r1 => q v H1 μ1 (p1.sto.less go_less) ((StepR.ofPost g p1).less fun _ z => z.elim) (Rep.mv (mvLess go_less) d v (r1.rep rfl))⟩
theorem xs_rtN : PXS X T P cf (.Return none pos) .rtN := PS.imp ps_retN fun D σ H ⟨G0, μ, env, st, o, st', g, ev, q⟩ => by
  obtain ⟨rfl, rfl⟩ := ret_inv (show ret (.rt .non) st = .ok o st' from ev)
  exact q .non H μ (g.sto.less go_less) (StepR.refl.less fun _ z => z.elim) rfl
theorem xs_if (hc : PXT X T P cf c xc) (ha : PXB X T P cf sts bx) (hb : PXB X T P cf sts' bx') : PXS X T P cf (.If c sts sts' pos) (.if_ xc bx bx') := PS.imp (ps_if hc ha hb) fun D σ H ⟨G0, μ, env, st, o, st', g, ev, q⟩ => by
  obtain ⟨k, st1, e1, e2⟩ := bnd_inv (show bnd (bnd (evE P cf xc env) blD) (fun c => if c then evB P cf bx env else evB P cf bx' env) st = .ok o st' from ev)
  refine ⟨_, μ, env, st, k, st1, g.good, e1, fun H1 μ1 p1 => ?_⟩
  cases k with
  | true => exact ⟨G0, μ1, env, st1, o, st', g.post p1, e2, q.step (.ofPost g p1)⟩
  | false => exact ⟨G0, μ1, env, st1, o, st', g.post p1, e2, q.step (.ofPost g p1)⟩
/-- name = e -/
theorem xs_asg (hN : X.N.Nodup) (hi : X.N[i]? = some x) (hx : Loc X.env.scope x) (he : PX X T P cf e xe fa false) (hs : swapsWith e (some (.Name x pos')) pos.line X.env = pure false) (hf : X.fn x = true ∨ X.env.scope.names.lookup x = some .local) :
    PXS X T P cf (.Assign [.Name x pos'] e pos) (.asg i (.pl xe)) := PS.imp (ps_set hN hi hx he hs hf) fun D σ H ⟨G0, μ, env, st, o, st', g, ev, q⟩ => by
  obtain ⟨s0, st1, e1, e2⟩ := bnd_inv (show bnd (evSl P cf (.pl xe) env) (fun s => ret (.nx (env.set i s))) st = .ok o st' from ev)
  obtain ⟨d, st2, e3, e4⟩ := bnd_inv (show bnd (evE P cf xe env) (fun d => ret (.v d)) st = .ok s0 st1 from e1)
  obtain ⟨rfl, rfl⟩ := ret_inv e4
  obtain ⟨rfl, rfl⟩ := ret_inv e2
  refine ⟨_, μ, env, st, d, _, g.good, e3, fun v H1 μ1 p1 r1 => ?_⟩
  obtain ⟨g2, s2⟩ := (g.post p1).setV (i := i) (r1.rep rfl)
  exact q _ H1 μ1 g2 ((StepR.ofPost g p1).trans s2)
end
end PD
end ZPDStm
section ZPDLoop
set_option Elab.async false
set_option linter.all false
set_option maxRecDepth 100000
set_option maxHeartbeats 1000000
namespace PD
open PySem PySem.Spec L2 PyProof.Rows

section
variable {X : Cx} {T : Tb} {P : Prog} {cf : Calls} {pos p pos' apos cpos : Pos} {a b c e o tg it : Expr} {xa xb xc xe xs xo xt xg xi sx bx bx' : PD.X} {fa pa fb pb pk : Bool} {es : List Expr} {x : Str} {s : Stmt} {sts sts' : List Stmt} {i : Nat}
/-- behind a target -/
theorem GoodS.tgt {G0 : Addr → Prop} {μ : List Addr} {H : Hp} {σ σ' : L2.St} {env env' : Env} {st : Store} {sl : List Nat} (g : GoodS T G0 μ H σ env st) (g' : Good T (GO G0 σ env) μ H σ' env' st)
    (h1 : σ'.length = σ.length ∧ ∀ i, i ∉ sl → σ'[i]? = σ[i]?) (h2 : ∀ i, i ∉ sl → env'[i]? = env[i]?) (h3 : ∀ i, i ∈ sl → (∃ d, env'[i]? = some (.v d)) ∨ env'[i]? = none) : GoodS T G0 μ H σ' env' st ∧ StepR μ (Own σ env) H μ (Own σ' env') H := by
  have lo : ∀ i a, OwnAt σ' env' i a → OwnAt σ env i a := fun i a ⟨k1, s, k2, k3⟩ => by
    by_cases c : i ∈ sl
    · rcases h3 i c with ⟨d, e⟩ | e
      · rw [e] at k2; cases k2; cases k3
      · rw [e] at k2; cases k2
    · exact ⟨by rw [← h1.2 i c]; exact k1, s, by rw [← h2 i c]; exact k2, k3⟩
  have lf : ∀ a, FF (GO G0 σ' env') μ a → FF (GO G0 σ env) μ a := fun a z => by
    rcases z with z | z | ⟨i, z⟩
    · exact .inl z
    · exact .inr (.inl z)
    · exact .inr (.inr ⟨i, lo i a z⟩)
  refine ⟨⟨g.dom, g.dis, g.sto.less lf, g'.en.len, fun j s x k1 k2 => ?_, fun i j a k1 k2 => g.ds i j a (lo _ _ k1) (lo _ _ k2)⟩, ⟨List.prefix_refl _, fun _ z => .inl z, fun a ⟨i, z⟩ => .inl ⟨i, lo i a z⟩, fun _ _ e _ _ => e, fun _ z => z⟩⟩
  by_cases c : j ∈ sl
  · rcases h3 j c with ⟨d, e⟩ | e
    · rw [e] at k1
      cases k1
      obtain ⟨v, e2, r⟩ := g'.en.at_ j _ _ e k2
      exact ⟨v, e2, Rep.mv (mvLess lf) d v r⟩
    · rw [e] at k1; cases k1
  · rw [h2 j c] at k1
    rw [h1.2 j c] at k2
    exact (g.at_ j s x k1 k2).mv (mvLess lf) fun _ a _ n hs => ⟨fun _ e => e, n⟩
abbrev PXG (X : Cx) (T : Tb) (tg : Expr) (x : PD.X) (sl : List Nat) : Prop := PG X tg (rdG T (bindT x) sl)
abbrev PXGs (X : Cx) (T : Tb) (tg : List Expr) (x : PD.X) (sl : List Nat) : Prop := PGs X tg (rdGs T (bindTs x) sl)
theorem xg_name (hN : X.N.Nodup) (hi : X.N[i]? = some x) (hx : Loc X.env.scope x) (hf : X.fn x = true ∨ X.env.scope.names.lookup x = some .local) : PXG X T (.Name x pos) (.tv i) [i] := sg_name hN hi hx hf
theorem xg_nil : PXGs X T [] .nil [] := PGs.imp sg_nil fun v σ H Q ⟨G, μ, env, st, ds, env', g, r, e, q⟩ => ⟨G, μ, env, st, ds, env', g, r, (by cases ds with | nil => exact e | cons _ _ => exact (nomatch e)), q⟩
theorem xg_cons {sl sls : List Nat} (h1 : PXG X T e xe sl) (h2 : PXGs X T es xs sls) (hs : (assignEach (e :: es) X.env).map (·.2) = assign e X.env :: (assignEach es X.env).map (·.2)) : PXGs X T (e :: es) (.cons xe xs) (sl ++ sls) :=
  PGs.imp (sg_cons h1 h2 hs) fun v σ H Q ⟨G, μ, env, st, ds, env', g, r, ev, q⟩ => ⟨G, μ, env, st, ds, env', g, r, (by cases ds with | nil => exact (nomatch ev) | cons d ds => exact ev), q⟩
def lenX : PD.X → Nat
  | .cons _ t => lenX t + 1
  | _ => 0
theorem bindTs_length (x : PD.X) : ∀ (ds : List D) (env env' : Env), bindTs x ds env = some env' → ds.length = lenX x := by
  induction x with
  | nil =>
    intro ds env env' h
    cases ds with
    | nil => rfl
    | cons _ _ => exact (nomatch h)
  | cons t ts _ ih =>
    intro ds env env' h
    cases ds with
    | nil => exact (nomatch h)
    | cons d ds =>
      obtain ⟨e1, h1, h2⟩ := Option.bind_eq_some_iff.mp (show (bindT t d env).bind (bindTs ts ds) = some env' from h)
      show ds.length + 1 = lenX ts + 1
      rw [ih ds e1 env' h2]
  | _ =>
    intro ds env env' h
    exact (nomatch h)
theorem xg_tup {k : Nat} {sls : List Nat} (h : XT T X) (h1 : PXGs X T es xs sls) (hn : (assignEach es X.env).length = lenX xs) (hst : (assignEach es X.env).findIdx? (·.1) = none) : PXG X T (.Tuple es k pos) (.tt xs) sls :=
  PG.imp (sg_tup h h1 (lenX xs) hn hst fun ds env env' e => bindTs_length _ _ _ _ e) fun v σ H Q ⟨G, μ, env, st, d, env', g, r, ev, q⟩ => ⟨G, μ, env, st, d, env', g, r, (by cases d <;> first | exact ev | exact (nomatch ev)), q⟩
/-- a, b = e -/
theorem xs_tgt {sl : List Nat} (he : PX X T P cf e xe fa false) (hg : PXG X T tg xg sl) (hs : swapsWithSole [tg] e pos.line X.env = pure false) (hw : swappedStores [tg] e X.env = pure none) (h1 : (assignEach [tg] X.env).map (·.2) = [assign tg X.env]) :
    PXS X T P cf (.Assign [tg] e pos) (.tgt xg xe) := PS.imp (ps_asg he hg hs hw h1) fun D σ H ⟨G0, μ, env, st, o, st', g, ev, q⟩ => by
  obtain ⟨d, st1, e1, e2⟩ := bnd_inv (show bnd (evE P cf xe env) (fun d => bnd (opt (bindT xg d env)) fun e => ret (.nx e)) st = .ok o st' from ev)
  obtain ⟨env', st2, e3, e4⟩ := bnd_inv e2
  obtain ⟨e5, rfl⟩ := opt_inv e3
  obtain ⟨rfl, rfl⟩ := ret_inv e4
  refine ⟨_, μ, env, st, d, _, g.good, e1, fun v H1 μ1 p1 r1 => ?_⟩
  have g1 := g.post p1
  refine ⟨_, μ1, env, _, d, env', g1.good, r1.rep rfl, e5, fun σ' g2 k1 k2 k3 => ?_⟩
  obtain ⟨g3, s3⟩ := g1.tgt g2 k1 k2 k3
  exact q σ' H1 μ1 g3 ((StepR.ofPost g p1).trans s3)
theorem StepR.mvOf {G0 : Addr → Prop} {μ μ' : List Addr} {H H' : Hp} {σ σ' : L2.St} {env env' : Env} (p : StepR μ (Own σ env) H μ' (Own σ' env') H') : Mv H H' (FF (GO G0 σ env) μ) (FF (GO G0 σ' env') μ') μ μ' where
  kp := fun a o e n => p.keep a o e (fun z => n (.inl z)) fun z => n (.inr (.inr z))
  fb := fun a z => by
    rcases z with z | z | z
    · rcases p.new a z with z | z
      · exact .inl (.inl z)
      · exact .inr z
    · exact .inl (.inr (.inl z))
    · rcases p.own a z with z | z
      · exact .inl (.inr (.inr z))
      · exact .inr z
  mu := p.mu
/-- for -/
theorem xs_for {sl : List Nat} (hp : PassesOwn (model X.prog X.w) X.A X.env X.xe) (hc : X.calm = true) (hi : PXI X T P cf tg it xi false) (hg : PXG X T tg xg sl) (hb : PXB X T P cf sts bx) (hs : ∀ x, foldedSetIterable it X.env x = pure x) :
    PXS X T P cf (.For tg it sts [] pos) (.for_ xg xi bx) := PS.imp (ps_for hp hc hi hg hb hs) fun D σ H ⟨G0, μ, env, st, o, st', g, ev, q⟩ => by
  let f : PD.D → Env → M Out := fun d e => match bindT xg d e with | some e => evB P cf bx e | none => fail
  obtain ⟨ds, st1, e1, e2⟩ := bnd_inv (show bnd (evIt P cf xi env) (fun ds => forL f ds env) st = .ok o st' from ev)
  clear ev
  refine ⟨_, μ, env, st, ds, st1, g.good, e1, fun J H1 μ1 p1 jw => ?_⟩
  have g1 := g.post p1
  have q1 := q.step (.ofPost g p1)
  obtain ⟨stay, js, jk, jy, je⟩ := jw.stay
  refine ⟨fun i m σ2 H2 => m = ds.length - i ∧ i ≤ ds.length ∧ ∃ μ2 env2 st2, GoodS T G0 μ2 H2 σ2 env2 st2 ∧ StepR μ1 (Own σ env) H1 μ2 (Own σ2 env2) H2 ∧ forL f (ds.drop i) env2 st2 = .ok o st', ⟨ds.length, by simp, Nat.zero_le _, μ1, env, st1, g1, .refl, by simpa using e2⟩, ?_⟩
  rintro i m σ2 H2 ⟨rfl, hil, μ2, env2, st2, g2, s2, ef⟩
  have hst : stay H2 := jk H2 fun a o ea na => s2.keep a o ea (fun z => na (.inl z)) fun z => na (.inr (.inr z))
  by_cases hlt : i < ds.length
  · have hd : ds[i]? = some ds[i] := by simp [hlt]
    obtain ⟨go, yl⟩ := jy i _ H2 hst hd
    rw [List.drop_eq_getElem_cons hlt] at ef
    obtain ⟨o1, st3, f1, f2⟩ := bnd_inv (show bnd (f ds[i] env2) (fun o => match o with | .nx e | .ct e => forL f (ds.drop (i + 1)) e | .bk e => ret (.nx e) | .rt x => ret (.rt x)) st2 = .ok o st' from ef)
    refine .inr ⟨go, fun σ3 H3 => i + 1 ≤ ds.length ∧ ∃ μ2 env2 st2, GoodS T G0 μ2 H3 σ3 env2 st2 ∧ StepR μ1 (Own σ env) H1 μ2 (Own σ3 env2) H3 ∧ forL f (ds.drop (i + 1)) env2 st2 = .ok o st', fun σ3 H3 z => ⟨ds.length - (i + 1), by omega, rfl, z⟩, fun x H3 y3 => ?_⟩
    obtain ⟨mono3, r3⟩ := yl x H3 y3
    have p3 : Post T (GO G0 σ2 env2) μ2 H2 μ2 H3 st2 := Post.more g2.good.toGoodT mono3
    have g3 := g2.post p3
    have s3 := s2.trans (.ofPost g2 p3)
    cases hft : bindT xg ds[i] env2 with
    | none =>
      have : f ds[i] env2 = fail := by show (match bindT xg ds[i] env2 with | some e => evB P cf bx e | none => fail) = fail; rw [hft]
      rw [this] at f1; cases f1
    | some env3 =>
      have hf' : f ds[i] env2 = evB P cf bx env3 := by show (match bindT xg ds[i] env2 with | some e => evB P cf bx e | none => fail) = _; rw [hft]
      rw [hf'] at f1
      refine ⟨_, μ2, env2, st2, ds[i], env3, g3.good, r3 _ _ s2.mvOf (fun a z e => g2.good.toGoodT.fresh e z), hft, fun σ4 g4 k1 k2 k3 => ?_⟩
      obtain ⟨g5, s5⟩ := g3.tgt g4 k1 k2 k3
      have s6 := s3.trans s5
      refine ⟨G0, μ2, env3, st2, o1, st3, g5, f1, ?_⟩
      cases o1 with
      | nx e3 => exact fun σ7 H7 μ7 g7 s7 => ⟨hlt, μ7, e3, st3, g7, s6.trans s7, f2⟩
      | ct e3 => exact fun σ7 H7 μ7 g7 s7 => ⟨hlt, μ7, e3, st3, g7, s6.trans s7, f2⟩
      | bk e3 =>
        obtain ⟨rfl, rfl⟩ := ret_inv (show ret (.nx e3) st3 = .ok o st' from f2)
        exact fun σ7 H7 μ7 g7 s7 => q1 σ7 H7 μ7 g7 (s6.trans s7)
      | rt d3 =>
        obtain ⟨rfl, rfl⟩ := ret_inv (show ret (.rt d3) st3 = .ok o st' from f2)
        exact fun v H7 μ7 g7 s7 r7 => q1 v H7 μ7 g7 (s6.trans s7) r7
  · have hi' : i = ds.length := by omega
    subst hi'
    rw [List.drop_length] at ef
    obtain ⟨rfl, rfl⟩ := ret_inv (show ret (.nx env2) st2 = .ok o st' from ef)
    exact .inl ⟨je H2 hst, q1 σ2 H2 μ2 g2 s2⟩
/-- while -/
theorem xs_while (hp : PassesOwn (model X.prog X.w) X.A X.env X.xe) (hc : PXT X T P cf c xc) (hb : PXB X T P cf sts bx) : PXS X T P cf (.While c sts [] pos) (.while_ xc bx) := PS.imp (ps_while hp hc hb) fun D σ H ⟨G0, μ, env, st, o, st', g, ev, q⟩ => by
  have ev' : whileL (fun e => bnd (evE P cf xc e) blD) (fun e => evB P cf bx e) P.fuel env st = .ok o st' := ev
  refine ⟨fun m σ2 H2 => ∃ μ2 env2 st2, GoodS T G0 μ2 H2 σ2 env2 st2 ∧ StepR μ (Own σ env) H μ2 (Own σ2 env2) H2 ∧ whileL (fun e => bnd (evE P cf xc e) blD) (fun e => evB P cf bx e) m env2 st2 = .ok o st', ⟨P.fuel, μ, env, st, g, .refl, ev'⟩, ?_⟩
  rintro m σ2 H2 ⟨μ2, env2, st2, g2, s2, ef⟩
  cases m with
  | zero => exact nomatch (show (fail : M Out) st2 = .ok o st' from ef)
  | succ n =>
    obtain ⟨k, st3, f1, f2⟩ := bnd_inv (show bnd (bnd (evE P cf xc env2) blD) (fun c => if c then bnd (evB P cf bx env2) (fun o => match o with
      | .nx e | .ct e => whileL (fun e => bnd (evE P cf xc e) blD) (fun e => evB P cf bx e) n e
      | .bk e => ret (.nx e)
      | .rt x => ret (.rt x)) else ret (.nx env2)) st2 = .ok o st' from ef)
    refine ⟨_, μ2, env2, st2, k, st3, g2.good, f1, fun H3 μ3 p3 => ?_⟩
    have g3 := g2.post p3
    have s3 := s2.trans (.ofPost g2 p3)
    cases k with
    | false =>
      obtain ⟨rfl, rfl⟩ := ret_inv (show ret (.nx env2) st3 = .ok o st' from f2)
      exact q σ2 H3 μ3 g3 s3
    | true =>
      obtain ⟨o1, st4, f3, f4⟩ := bnd_inv f2
      refine ⟨fun σ4 H4 => ∃ μ4 env4 st4, GoodS T G0 μ4 H4 σ4 env4 st4 ∧ StepR μ (Own σ env) H μ4 (Own σ4 env4) H4 ∧ whileL (fun e => bnd (evE P cf xc e) blD) (fun e => evB P cf bx e) n env4 st4 = .ok o st', fun σ4 H4 z => ⟨n, Nat.lt_succ_self _, z⟩, G0, μ3, env2, st3, o1, st4, g3, f3, ?_⟩
      cases o1 with
      | nx e3 => exact fun σ7 H7 μ7 g7 s7 => ⟨μ7, e3, st4, g7, s3.trans s7, f4⟩
      | ct e3 => exact fun σ7 H7 μ7 g7 s7 => ⟨μ7, e3, st4, g7, s3.trans s7, f4⟩
      | bk e3 =>
        obtain ⟨rfl, rfl⟩ := ret_inv (show ret (.nx e3) st4 = .ok o st' from f4)
        exact fun σ7 H7 μ7 g7 s7 => q σ7 H7 μ7 g7 (s3.trans s7)
      | rt d3 =>
        obtain ⟨rfl, rfl⟩ := ret_inv (show ret (.rt d3) st4 = .ok o st' from f4)
        exact fun v H7 μ7 g7 s7 r7 => q v H7 μ7 g7 (s3.trans s7) r7
end
end PD
end ZPDLoop
section ZPDOwn
set_option Elab.async false
set_option linter.all false
set_option maxRecDepth 100000
set_option maxHeartbeats 1000000
namespace PD
open PySem PySem.Spec L2 PyProof.Rows

section
variable {T : Tb} {G0 : Addr → Prop} {H H' H2 : Hp} {μ μ' μ2 : List Addr} {σ σ' : L2.St} {env env' : Env} {st st' st2 : Store}
/-- a new state of the frame -/
theorem GoodS.build (g : GoodS T G0 μ H σ env st) {ow : Addr → Prop} (s : StepR μ (Own σ env) H μ' ow H') (sto : StR T (FF (fun a => G0 a ∨ ow a) μ') μ' H' st') (ch : Nat → Prop)
    (hl : σ'.length = σ.length ∧ env'.length = env.length) (same : ∀ j, ¬ ch j → σ'[j]? = σ[j]? ∧ env'[j]? = env[j]?) (kept : ∀ j a o, ¬ ch j → OwnAt σ env j a → H a = some o → H' a = some o)
    (slots : ∀ j s x, ch j → env'[j]? = some s → σ'[j]? = some x → SlQ T G0 (FF (fun a => G0 a ∨ ow a) μ') μ' H' s x) (lo : ∀ j a, OwnAt σ' env' j a → ow a) (ds : ∀ i j a, OwnAt σ' env' i a → OwnAt σ' env' j a → i = j) :
    GoodS T G0 μ' H' σ' env' st' ∧ StepR μ (Own σ env) H μ' (Own σ' env') H' := by
  have lf : ∀ a, FF (GO G0 σ' env') μ' a → FF (fun a => G0 a ∨ ow a) μ' a := fun a z => by
    rcases z with z | z | ⟨i, z⟩
    · exact .inl z
    · exact .inr (.inl z)
    · exact .inr (.inr (lo i a z))
  have mv : Mv H H' (FF (GO G0 σ env) μ) (FF (fun a => G0 a ∨ ow a) μ') μ μ' := ⟨fun a o e n => s.keep a o e (fun z => n (.inl z)) fun z => n (.inr (.inr z)), fun a z => by
    rcases z with z | z | z
    · rcases s.new a z with z | z
      · exact .inl (.inl z)
      · exact .inr z
    · exact .inl (.inr (.inl z))
    · rcases s.own a z with z | z
      · exact .inl (.inr (.inr z))
      · exact .inr z, s.mu⟩
  refine ⟨⟨fun a z => ?_, fun a ha z => ?_, sto.less lf, by rw [hl.1, hl.2]; exact g.len, fun j t x h1 h2 => ?_, ds⟩, s.less fun a ⟨i, z⟩ => lo i a z⟩
  · have h := g.dom a z
    cases e : H a with
    | none => exact absurd e h
    | some o => rw [s.keep a o e (fun y => g.dis a y z) fun y => (g.ownOk y).1 z]; simp
  · rcases s.new a ha with y | y
    · exact g.dis a y z
    · exact g.dom a z y
  · by_cases c : ch j
    · exact (slots j t x c h1 h2).mv (mvLess lf) fun _ a _ n hs => ⟨fun _ e => e, n⟩
    · obtain ⟨k1, k2⟩ := same j c
      rw [k2] at h1
      rw [k1] at h2
      refine ((g.at_ j t x h1 h2).mv mv fun ho a ex n hs => ⟨fun o e => kept j a o c ⟨by rw [h2, ex], t, h1, ho⟩ e, fun z => ?_⟩).mv (mvLess lf) fun _ a _ n hs => ⟨fun _ e => e, n⟩
      rcases s.new a z with y | y
      · exact n y
      · exact hs y
/-- an own object changed -/
theorem GoodS.put (g : GoodS T G0 μ H σ env st) {i : Nat} {a : Addr} {o : HO} {s' : Sl} (h : OwnAt σ env i a) (hn : ∀ b, H a ≠ some (.own b)) (ho : s'.isOwn = true) (hq : SlQ T G0 (FF (GO G0 σ env) μ) μ (upd H a o) s' (some (.ref a))) :
    GoodS T G0 μ (upd H a o) σ (env.set i s') st ∧ StepR μ (Own σ env) H μ (Own σ (env.set i s')) (upd H a o) := by
  have oa : Own σ env a := ⟨i, h⟩
  obtain ⟨n0, nμ, hs⟩ := g.ownOk oa
  have fa : FF (GO G0 σ env) μ a := .inr (.inr oa)
  have lo : ∀ j b, OwnAt σ (env.set i s') j b → OwnAt σ env j b := fun j b ⟨h1, t, h2, h3⟩ => by
    by_cases c : i = j
    · subst c; exact ⟨h1, h.2⟩
    · rw [List.getElem?_set_ne c] at h2; exact ⟨h1, t, h2, h3⟩
  refine g.build (ow := Own σ env) ⟨List.prefix_refl _, fun _ z => .inl z, fun _ z => .inl z, fun b u e _ no => ?_, fun b z => ?_⟩ ?_ (fun j => j = i) ⟨rfl, List.length_set ..⟩ (fun j c => ⟨rfl, List.getElem?_set_ne fun z => c z.symm⟩) (fun j b u c hb e => ?_) (fun j t x c h1 h2 => ?_) (fun j b z => ⟨j, lo j b z⟩) fun j k b h1 h2 => g.ds j k b (lo j b h1) (lo k b h2)
  · rw [upd_ne (by rintro rfl; exact no oa)]; exact e
  · by_cases c : b = a
    · subst c; rw [upd_same] at z; cases z
    · rw [upd_ne c] at z; exact z
  · refine ⟨g.sto.len, g.sto.nd, fun j w b h1 h2 => ?_⟩
    have hb : b ≠ a := fun z => nμ (z ▸ List.mem_of_getElem? h2)
    refine (g.sto.ob j w b h1 h2).mv (mvUpd fa) (fun q e => by rw [upd_ne hb]; exact e) (fun _ z => .inl z) fun c q e nc => ?_
    by_cases hc : c = a
    · subst hc; exact absurd e (hn _)
    · rw [upd_ne hc]; exact e
  · have : b ≠ a := fun z => c (g.ds j i a (z ▸ hb) h)
    rw [upd_ne this]; exact e
  · subst c
    rw [h.1] at h2
    cases h2
    have hl : j < env.length := by
      have := (List.getElem?_eq_some_iff.mp h1).1
      rwa [List.length_set] at this
    rw [List.getElem?_set_self hl] at h1
    cases h1
    exact hq
/-- what a name takes -/
def GV (G : Addr → Prop) (s : Sl) (v : V) : Addr → Prop := fun a => G a ∨ (s.isOwn = true ∧ v = .ref a)
structure SlV (T : Tb) (G : Addr → Prop) (H : Hp) (μ' : List Addr) (H' : Hp) (st' : Store) (s : Sl) (v : V) : Prop where
  new : s.isOwn = true → ∃ p, v = .ref p ∧ H p = none ∧ p ∉ μ'
  sto : StR T (FF (GV G s v) μ') μ' H' st'
  con : match s with
    | .no => False
    | .v d => Rep T H' (FF (GV G s v) μ') μ' d v
    | .ol ds => ∃ p, v = .ref p ∧ LstC T H' (FF (GV G s v) μ') μ' p ds
    | .od kvs => ∃ p, v = .ref p ∧ DctC T H' (FF (GV G s v) μ') μ' p kvs
def rdSl (T : Tb) (ev : Env → M Sl) : TE := fun σ H Q => ∃ G μ env st s st', Good T G μ H σ env st ∧ ev env st = .ok s st' ∧ ∀ v H' μ', Post T G μ H μ' H' st' → SlV T G H μ' H' st' s v → Q v H'
/-- a slot takes it -/
theorem GoodS.take (g : GoodS T G0 μ H σ env st) (p : Post T (GO G0 σ env) μ H μ' H' st') {i : Nat} {s : Sl} {v : V} (c : SlV T (GO G0 σ env) H μ' H' st' s v) :
    GoodS T G0 μ' H' (σ.set i (some v)) (env.set i s) st' ∧ StepR μ (Own σ env) H μ' (Own (σ.set i (some v)) (env.set i s)) H' := by
  have assoc : ∀ a, (FF (fun a => G0 a ∨ (Own σ env a ∨ (s.isOwn = true ∧ v = .ref a))) μ') a ↔ FF (GV (GO G0 σ env) s v) μ' a := fun a => by
    show (a ∈ μ' ∨ G0 a ∨ Own σ env a ∨ _) ↔ (a ∈ μ' ∨ (G0 a ∨ Own σ env a) ∨ _)
    constructor
    · rintro (z | z | z | z)
      · exact .inl z
      · exact .inr (.inl (.inl z))
      · exact .inr (.inl (.inr z))
      · exact .inr (.inr z)
    · rintro (z | (z | z) | z)
      · exact .inl z
      · exact .inr (.inl z)
      · exact .inr (.inr (.inl z))
      · exact .inr (.inr (.inr z))
  have gr := g.good.toGoodT
  have at_i : ∀ {x : Option V} {t : Sl}, (σ.set i (some v))[i]? = some x → (env.set i s)[i]? = some t → x = some v ∧ t = s := fun {x t} h1 h2 => by
    have hl : i < env.length := by
      have := (List.getElem?_eq_some_iff.mp h2).1
      rwa [List.length_set] at this
    rw [List.getElem?_set_self hl] at h2
    rw [List.getElem?_set_self (by rw [← g.len]; exact hl)] at h1
    cases h1; cases h2; exact ⟨rfl, rfl⟩
  have split : ∀ j a, OwnAt (σ.set i (some v)) (env.set i s) j a → (j = i ∧ s.isOwn = true ∧ v = .ref a) ∨ (j ≠ i ∧ OwnAt σ env j a) := fun j a ⟨h1, t, h2, h3⟩ => by
    by_cases cj : j = i
    · subst cj
      obtain ⟨e1, rfl⟩ := at_i h1 h2
      cases e1
      exact .inl ⟨rfl, h3, rfl⟩
    · rw [List.getElem?_set_ne fun z => cj z.symm] at h1 h2
      exact .inr ⟨cj, h1, t, h2, h3⟩
  have nofresh : ∀ a, s.isOwn = true → v = .ref a → ¬ Own σ env a := fun a h1 h2 z => by
    obtain ⟨pp, e, hn, _⟩ := c.new h1
    rw [h2] at e; cases e
    exact (g.ownOk z).2.2 hn
  refine g.build (ow := fun a => Own σ env a ∨ (s.isOwn = true ∧ v = .ref a)) ⟨p.mu, p.new, fun a z => ?_, fun a o e n _ => p.keep a o e n, fun a z => Post.back gr p z⟩ (c.sto.less fun a z => (assoc a).mp z) (fun j => j = i) ⟨List.length_set .., List.length_set ..⟩
    (fun j cj => ⟨List.getElem?_set_ne fun z => cj z.symm, List.getElem?_set_ne fun z => cj z.symm⟩) (fun j a o cj ha e => p.keep a o e (g.ownOk ⟨j, ha⟩).2.1) (fun j t x cj h1 h2 => ?_) (fun j a z => ?_) fun j k a h1 h2 => ?_
  · rcases z with z | ⟨z1, z2⟩
    · exact .inl z
    · obtain ⟨pp, e, hn, _⟩ := c.new z1
      rw [z2] at e; cases e; exact .inr hn
  · subst cj
    obtain ⟨rfl, rfl⟩ := at_i h2 h1
    have hc := c.con
    have ml : Mv H' H' (FF (GV (GO G0 σ env) t v) μ') (FF (fun a => G0 a ∨ (Own σ env a ∨ (t.isOwn = true ∧ v = .ref a))) μ') μ' μ' := mvLess fun a z => (assoc a).mp z
    have nw := c.new
    cases t with
    | no => exact hc.elim
    | v d => exact ⟨v, rfl, Rep.mv ml d v hc⟩
    | ol ds =>
      obtain ⟨pp, e1, hn, hm⟩ := nw rfl
      obtain ⟨p2, e2, h3⟩ := hc
      subst e1; cases e2
      exact ⟨pp, rfl, fun z => g.dom pp z hn, hm, h3.mv ml fun _ e => e⟩
    | od ds =>
      obtain ⟨pp, e1, hn, hm⟩ := nw rfl
      obtain ⟨p2, e2, h3⟩ := hc
      subst e1; cases e2
      exact ⟨pp, rfl, fun z => g.dom pp z hn, hm, h3.mv ml fun _ e => e⟩
  · rcases split j a z with ⟨_, z1, z2⟩ | ⟨_, z1⟩
    · exact .inr ⟨z1, z2⟩
    · exact .inl ⟨j, z1⟩
  · rcases split j a h1 with ⟨e1, z1, z2⟩ | ⟨n1, z1⟩ <;> rcases split k a h2 with ⟨e2, w1, w2⟩ | ⟨n2, w1⟩
    · rw [e1, e2]
    · exact absurd ⟨k, w1⟩ (nofresh a z1 z2)
    · exact absurd ⟨j, z1⟩ (nofresh a w1 w2)
    · exact g.ds j k a z1 w1
/-- an own list is one's own no more -/
theorem GoodS.freeze (g : GoodS T G0 μ H σ env st) {i : Nat} {s : Sl} {d : D} (he : env[i]? = some s) (hd : (∃ ds, s = .ol ds ∧ d = .lst ds) ∨ ∃ kvs, s = .od kvs ∧ d = .dct kvs) : GoodS T G0 μ H σ (env.set i (.v d)) st ∧ StepR μ (Own σ env) H μ (Own σ (env.set i (.v d))) H := by
  have hl : i < env.length := (List.getElem?_eq_some_iff.mp he).1
  have hl' : i < σ.length := by rw [← g.len]; exact hl
  have hσ : σ[i]? = some σ[i] := by simp [hl']
  have so : s.isOwn = true := by rcases hd with ⟨ds, rfl, _⟩ | ⟨ds, rfl, _⟩ <;> rfl
  have hq := g.at_ i s _ he hσ
  have lo : ∀ j b, OwnAt σ (env.set i (.v d)) j b → j ≠ i ∧ OwnAt σ env j b := fun j b ⟨h1, t, h2, h3⟩ => by
    by_cases c : i = j
    · subst c; rw [List.getElem?_set_self hl] at h2; cases h2; cases h3
    · rw [List.getElem?_set_ne c] at h2; exact ⟨fun z => c z.symm, h1, t, h2, h3⟩
  have lf : ∀ a, FF (fun a => G0 a ∨ Own σ (env.set i (.v d)) a) μ a → FF (GO G0 σ env) μ a := fun a z => by
    rcases z with z | z | ⟨j, z⟩
    · exact .inl z
    · exact .inr (.inl z)
    · exact .inr (.inr ⟨j, (lo j a z).2⟩)
  refine g.build (ow := Own σ (env.set i (.v d))) ⟨List.prefix_refl _, fun _ z => .inl z, fun a ⟨j, z⟩ => .inl ⟨j, (lo j a z).2⟩, fun _ _ e _ _ => e, fun _ z => z⟩ (g.sto.less lf) (fun j => j = i) ⟨rfl, List.length_set ..⟩ (fun j c => ⟨rfl, List.getElem?_set_ne fun z => c z.symm⟩) (fun _ _ _ _ _ e => e) (fun j t x c h1 h2 => ?_) (fun j b z => ⟨j, z⟩) fun j k b h1 h2 => g.ds j k b (lo j b h1).2 (lo k b h2).2
  subst c
  rw [List.getElem?_set_self hl] at h1
  cases h1
  rw [hσ] at h2
  cases h2
  have nf : ∀ a, σ[j]? = some (some (.ref a)) → ¬ G0 a → a ∉ μ → ¬ FF (fun a => G0 a ∨ Own σ (env.set j (.v d)) a) μ a := fun a e n0 nm z => by
    rcases z with z | z | ⟨k, z⟩
    · exact nm z
    · exact n0 z
    · obtain ⟨nk, z2⟩ := lo k a z
      exact nk (g.ds k j a z2 ⟨e, s, he, so⟩)
  rcases hd with ⟨ds, rfl, rfl⟩ | ⟨ds, rfl, rfl⟩
  · obtain ⟨a, e, n0, nm, xs, h3, h4⟩ := hq
    exact ⟨.ref a, e, a, xs, rfl, h3, nf a (by rw [hσ, e]) n0 nm, Reps.mv (mvLess lf) _ _ h4⟩
  · obtain ⟨a, e, n0, nm, h3⟩ := hq
    exact ⟨.ref a, e, a, rfl, nf a (by rw [hσ, e]) n0 nm, h3.mv (mvLess lf) fun _ e => e⟩
end
end PD
end ZPDOwn
section ZPDOwn2
set_option Elab.async false
set_option linter.all false
set_option maxRecDepth 100000
set_option maxHeartbeats 1000000
namespace PD
open PySem PySem.Spec L2 PyProof.Rows

section
variable {X : Cx} {T : Tb}
theorem PSet.or {t t' : TSet} (h : PSet X t) (h' : PSet X t') : PSet X (fun o i v H Q => t o i v H Q ∨ t' o i v H Q) := by
  intro pins s σ H o i v ov iv u Q I r1 r2 r3 q
  rcases q with q | q
  · exact h pins s σ H o i v ov iv u Q I r1 r2 r3 q
  · exact h' pins s σ H o i v ov iv u Q I r1 r2 r3 q
/-- a dict with tuples as keys takes a pair -/
def rSetD (T : Tb) : TSet := fun o i v H Q => ∃ (G : Addr → Prop) (μ : List Addr) (a : Addr) (kvs : List (D × D)) (k d : D), o = .ref a ∧ DctC T H (FF G μ) μ a kvs ∧ Rep T H (FF G μ) μ k i ∧ Rep T H (FF G μ) μ d v ∧ dKey k kvs = true ∧ kvs.length < LIM ∧ FF G μ a ∧
  ∀ u, DctC T (upd H a u) (FF G μ) μ a (putK k d kvs) → Mut (H a) → (∀ b, H a ≠ some (.own b)) → Q (upd H a u)
theorem set_dict (h : XT T X) : PSet X (rSetD T) := by
  rintro pins s σ H o i v ov iv u Q I r1 r2 r3 ⟨G, μ, a, kvs, k, d, rfl, hd, hk, hv, ht, hl, fa, q⟩
  cases r1
  have hu := h.u
  obtain ⟨es, xs, kn, pr, hh, hsys, hle, hmut⟩ := DctC.of I h.P h.w h.K hd (dKey_head ht)
  obtain ⟨n, ad, hn, rfl, rfl, hik⟩ := dKey_is I h.K ht hk r2
  have hel := KVn.length kn
  have hxl : xs.length = es.length := (Paired.length pr).symm
  have hLs := lim_line (Nat.le_refl LIM)
  refine wpAny_setItem_heap (knd := NK X) (hsz := by rw [hxl]; exact hle) (show (NK X).room X.A.in1 by show X.A.units + 1 + 8 < cLine; omega) hik hh fun h' hh' hs => ?_
  have hnd : (xs.map (·.1)).Nodup := by obtain ⟨_, _, _, _, _, _, _, _, z⟩ := hh; exact z
  have hdep : n.depth ≤ 8 := by
    simp only [dKey, Bool.and_eq_true, decide_eq_true_eq] at ht
    obtain ⟨n', e, hd'⟩ := nk_some k ht.1.1.2
    rw [hn] at e
    cases e
    omega
  have pr' := stored_pair (n := n) (a := ad) r3 pr hnd
  obtain ⟨ob, ents, ep, b1, b2, b3, b4, b5, b6⟩ := hh'
  have hne : ∀ b, H a ≠ some (.own b) := fun b z => by
    rcases hd with ⟨_, ⟨_, h1⟩ | ⟨_, _, h1⟩, _⟩ | ⟨_, _, _, h1, _⟩ <;> (rw [h1] at z; cases z)
  have I2 : L2.Inv X pins σ (upd H a (nDct T.P T.w ob (storedE es n ad v) a)) { s with heap := h', toks := s.toks + (NK X).draws n } := by
    refine I.write (x := a) (e := a) hmut (.inl rfl) (fun b ob hb e => (hs.2 b hb).trans e) ⟨ob, b1⟩ ⟨⟨?_, hsys, storedH xs n ad u, pr', ents, ep, b1, b2, b3, ?_, b6⟩, ⟨ob, b1⟩, ?_⟩
    · have := storedE_len es n ad v
      omega
    · rw [b4]
      have e1 := h.P
      have e2 := h.w
      unfold NK
      rw [e1, e2]
    · rintro h1 h2 ⟨z1, z2, ys, z3, en1, ep1, y1, y2⟩ kk
      exact ⟨z1, z2, ys, z3, en1, ep1, kk _ y1, y2⟩
  refine ⟨_, I2, q _ (.inr ⟨_, _, storedE_ne _ _ _ _, upd_same, ?_⟩) hmut hne⟩
  have mU : Mv H (upd H a (nDct T.P T.w ob (storedE es n ad v) a)) (FF G μ) (FF G μ) μ μ := mvUpd fa
  exact KVn.put hn hdep (Rep.mv mU k _ hk) (Rep.mv mU d v hv) (KVn.mv mU kvs es kn)
end

section
variable {X : Cx} {T : Tb} {P : Prog} {cf : Calls} {pos p pos' apos cpos tpos : Pos} {a b c e o k tg : Expr} {xa xb xc xe xs xo xk xt xg xi sx bx bx' : PD.X} {fa pa fb pb fk pk : Bool} {es : List Expr} {x y : Str} {s : Stmt} {sts sts' : List Stmt} {i j : Nat}
abbrev PXL (X : Cx) (T : Tb) (P : Prog) (cf : Calls) (e : Expr) (x : PD.X) : Prop := PE X e (rdSl T (evSl P cf x))
theorem gv_v {G : Addr → Prop} {d : D} {v : V} {μ : List Addr} : ∀ a, FF (GV G (.v d) v) μ a → FF G μ a := fun a z => by
  rcases z with z | z | ⟨z, _⟩
  · exact .inl z
  · exact .inr z
  · cases z
theorem plR {σ : L2.St} {H : Hp} {Q : VK} (hh : rdSl T (evSl P cf (.pl xe)) σ H Q) : rdE T fa false (evE P cf xe) σ H Q := by
  obtain ⟨G, μ, env, st, s, st', g, ev, q⟩ := hh
  obtain ⟨d, st1, e1, e2⟩ := bnd_inv (show bnd (evE P cf xe env) (fun d => ret (.v d)) st = .ok s st' from ev)
  obtain ⟨rfl, rfl⟩ := ret_inv e2
  exact ⟨G, μ, env, st, d, _, g, e1, fun v H1 μ1 p1 r1 => q v H1 μ1 p1 ⟨(fun z => nomatch z), p1.sto.less gv_v, Rep.mv (mvLess gv_v) d v (r1.rep rfl)⟩⟩
theorem xl_pl (he : PX X T P cf e xe fa false) : PXL X T P cf e (.pl xe) := PE.imp he fun _ _ _ z => plR z
theorem ownR {σ : L2.St} {H : Hp} {Q : VK} (hh : rdSl T (evSl P cf (.own xe)) σ H Q) : rdE T true false (evE P cf xe) σ H Q := by
  obtain ⟨G, μ, env, st, s, st', g, ev, q⟩ := hh
  obtain ⟨d, st1, e1, e2⟩ := bnd_inv (show bnd (evE P cf xe env) (fun d => match d with | .lst ds => ret (.ol ds) | _ => fail) st = .ok s st' from ev)
  cases d <;> simp only [fail_ap, reduceCtorEq] at e2
  obtain ⟨rfl, rfl⟩ := ret_inv e2
  refine ⟨G, μ, env, st, _, _, g, e1, fun v H1 μ1 p1 r1 => q v H1 μ1 p1 ?_⟩
  obtain ⟨pp, xs, rfl, hn, h1, h2, h3⟩ := r1.fre rfl _ rfl
  obtain ⟨a', xs', e', _, nf, _⟩ := (show ∃ a xs, V.ref pp = .ref a ∧ H1 a = some (.lst xs) ∧ ¬ FF G μ1 a ∧ Reps T H1 (FF G μ1) μ1 _ xs from r1.rep rfl)
  cases e'
  have lf : ∀ {ds : List D} a, FF (GV G (.ol ds) (.ref pp)) μ1 a → FF (GP G pp) μ1 a := fun a z => by
    rcases z with z | z | ⟨_, z⟩
    · exact .inl z
    · exact .inr (.inl z)
    · cases z; exact .inr (.inr rfl)
  exact ⟨fun _ => ⟨pp, rfl, hn, fun z => nf (.inl z)⟩, h3.less lf, pp, rfl, xs, h1, Reps.mv (mvLess lf) _ _ h2⟩
theorem xl_own (he : PX X T P cf e xe true false) : PXL X T P cf e (.own xe) := PE.imp he fun _ _ _ z => ownR z
/-- {} -/
theorem xl_od0 : PXL X T P cf (.Dict [] [] pos) (.ownd .nil .nil) := by
  refine PE.imp pe_dnewK fun σ H Q ⟨G, μ, env, st, s, st', g, ev, q⟩ => ?_
  obtain ⟨rfl, rfl⟩ := ret_inv (show ret (.od []) st = .ok s st' from ev)
  intro pp hp
  refine q _ _ μ (Post.more g.toGoodT (upd_more hp)) ⟨fun _ => ⟨pp, rfl, hp, fun z => g.toGoodT.fresh hp (.inl z)⟩, ?_, pp, rfl, .inl ⟨[], .nil upd_same, by simp only [KVl]⟩⟩
  refine (g.sto.gp (upd_more hp) hp).less fun a z => ?_
  rcases z with z | z | ⟨_, z⟩
  · exact .inl z
  · exact .inr (.inl z)
  · cases z; exact .inr (.inr rfl)
/-- name = e -/
theorem setR {D : Ends} {σ : L2.St} {H : Hp} (hh : rdS T (evS P cf (.asg i xe)) D σ H) : tAsg (rdSl T (evSl P cf xe)) (gName i) D σ H := by
  obtain ⟨G0, μ, env, st, o, st', g, ev, q⟩ := hh
  obtain ⟨s0, st1, e1, e2⟩ := bnd_inv (show bnd (evSl P cf xe env) (fun s => ret (.nx (env.set i s))) st = .ok o st' from ev)
  obtain ⟨rfl, rfl⟩ := ret_inv e2
  refine ⟨_, μ, env, st, _, _, g.good, e1, fun v H1 μ1 p1 r1 => ?_⟩
  obtain ⟨g2, s2⟩ := g.take p1 (i := i) r1
  exact q _ H1 μ1 g2 s2
theorem xs_set (hN : X.N.Nodup) (hi : X.N[i]? = some x) (hx : Loc X.env.scope x) (he : PXL X T P cf e xe) (hs : swapsWith e (some (.Name x pos')) pos.line X.env = pure false) (hf : X.fn x = true ∨ X.env.scope.names.lookup x = some .local) :
    PXS X T P cf (.Assign [.Name x pos'] e pos) (.asg i xe) := PS.imp (ps_set hN hi hx he hs hf) fun _ _ _ z => setR z
/-- a step that the program does not write: an own list is one's own no more -/
theorem xb_freeze (h : PXB X T P cf sts bx) : PXB X T P cf sts (.cons (.freeze i) bx) := xb_ghost h fun D σ H ⟨G0, μ, env, st, o, st', g, ev, q⟩ => by
  have ev' : (match env[i]? with
    | some (.ol ds) => ret (Out.nx (env.set i (.v (.lst ds))))
    | some (.od kvs) => ret (.nx (env.set i (.v (.dct kvs))))
    | _ => fail) st = .ok o st' := ev
  cases he : env[i]? with
  | none => simp only [he] at ev'; cases ev'
  | some s =>
    simp only [he] at ev'
    cases s with
    | no => cases ev'
    | v _ => cases ev'
    | ol ds =>
      obtain ⟨rfl, rfl⟩ := ret_inv ev'
      obtain ⟨g2, s2⟩ := g.freeze he (.inl ⟨ds, rfl, rfl⟩)
      exact q σ H μ g2 s2
    | od ds =>
      obtain ⟨rfl, rfl⟩ := ret_inv ev'
      obtain ⟨g2, s2⟩ := g.freeze he (.inr ⟨ds, rfl, rfl⟩)
      exact q σ H μ g2 s2
/-- an own list at a name -/
theorem GoodS.olAt {G0 : Addr → Prop} {μ : List Addr} {H : Hp} {σ : L2.St} {env : Env} {st : Store} (g : GoodS T G0 μ H σ env st) {ds : List D} (he : env[i]? = some (.ol ds)) : ∃ a xs, σ[i]? = some (some (.ref a)) ∧ OwnAt σ env i a ∧ H a = some (.lst xs) ∧ Reps T H (FF (GO G0 σ env) μ) μ ds xs ∧ a ∉ μ ∧ ¬ G0 a ∧ FF (GO G0 σ env) μ a := by
  have hl : i < env.length := (List.getElem?_eq_some_iff.mp he).1
  have hl' : i < σ.length := by rw [← g.len]; exact hl
  have hσ : σ[i]? = some σ[i] := by simp [hl']
  obtain ⟨a, e, n0, nm, xs, h1, h2⟩ := g.at_ i _ _ he hσ
  have oa : OwnAt σ env i a := ⟨by rw [hσ, e], _, he, rfl⟩
  exact ⟨a, xs, by rw [hσ, e], oa, h1, h2, nm, n0, .inr (.inr ⟨i, oa⟩)⟩
theorem GoodS.odAt {G0 : Addr → Prop} {μ : List Addr} {H : Hp} {σ : L2.St} {env : Env} {st : Store} (g : GoodS T G0 μ H σ env st) {ds : List (D × D)} (he : env[i]? = some (.od ds)) : ∃ a, σ[i]? = some (some (.ref a)) ∧ OwnAt σ env i a ∧ DctC T H (FF (GO G0 σ env) μ) μ a ds ∧ a ∉ μ ∧ ¬ G0 a ∧ FF (GO G0 σ env) μ a := by
  have hl : i < env.length := (List.getElem?_eq_some_iff.mp he).1
  have hl' : i < σ.length := by rw [← g.len]; exact hl
  have hσ : σ[i]? = some σ[i] := by simp [hl']
  obtain ⟨a, e, n0, nm, h1⟩ := g.at_ i _ _ he hσ
  have oa : OwnAt σ env i a := ⟨by rw [hσ, e], _, he, rfl⟩
  exact ⟨a, by rw [hσ, e], oa, h1, nm, n0, .inr (.inr ⟨i, oa⟩)⟩
/-- the own list takes its new items -/
theorem GoodS.putL {G0 : Addr → Prop} {μ : List Addr} {H : Hp} {σ : L2.St} {env : Env} {st : Store} (g : GoodS T G0 μ H σ env st) {a : Addr} {xs ys : List V} {es : List D} (oa : OwnAt σ env i a) (h1 : H a = some (.lst xs)) (h2 : Reps T H (FF (GO G0 σ env) μ) μ es ys) :
    GoodS T G0 μ (upd H a (.lst ys)) σ (env.set i (.ol es)) st ∧ StepR μ (Own σ env) H μ (Own σ (env.set i (.ol es))) (upd H a (.lst ys)) := by
  obtain ⟨n0, nm, _⟩ := g.ownOk ⟨i, oa⟩
  exact g.put oa (fun b z => by rw [h1] at z; cases z) rfl ⟨a, rfl, n0, nm, ys, upd_same, Reps.mv (mvUpd (.inr (.inr ⟨i, oa⟩))) _ _ h2⟩
theorem ty_lst {K : PySem.W.Frag} {H : Hp} {a : Addr} {xs : List V} (h : H a = some (.lst xs)) : tyV K "list" (.ref a) H := .inl ⟨rfl, xs, SqL.of h⟩
/-- the name of an own list -/
theorem name_ol (hN : X.N[i]? = some x) (hv : Vis X.env.scope x) (hd : (x == ("__debug__" : Str)) = false) (hcd : (x == ("__classdict__" : Str)) = false) : PE X (.Name x pos) (fun σ H Q => ∃ v, σ[i]? = some (some v) ∧ Q v H) := pe_var hN hv hd hcd
/-- xs.append(e) -/
theorem xs_app (hN : X.N[i]? = some x) (hv : Vis X.env.scope x) (hd : (x == ("__debug__" : Str)) = false) (hcd : (x == ("__classdict__" : Str)) = false) (he : PX X T P cf e xe fa false)
    (hbase : attributeBase (.Name x p) "append" X.env (eval (.Name x p) X.env) = eval (.Name x p) X.env)
    (hfew : ((backTo cpos (starEach [e] X.env)).all (fun x => !x.1) && (backToKw cpos (keywordEach [] X.env)).all (fun x => x.1.isSome)
      && decide ([e].length + ([] : List Keyword).length + (if ([] : List Keyword).isEmpty then 0 else 1) < 30)) = true)
    (hline : (apos.endLine == cpos.line) = true) (hs : starEach [e] X.env = (false, eval e X.env) :: starEach [] X.env) (hpl : (backTo cpos (starEach [] X.env)).any (·.1) = false)
    (hsw : swapsWith (.Call (.Attribute (.Name x p) "append" apos) [e] [] cpos) none pos.line X.env = pure false) :
    PXS X T P cf (.Expr (.Call (.Attribute (.Name x p) "append" apos) [e] [] cpos) pos) (.app i xe) := by
  refine PS.imp (ps_expr (pe_bm (r := rAppend) PySem.F.plainAttrs_list PySem.F.slot_list_append PySem.F.type_list_append mt_append (name_ol hN hv hd hcd) (sa_cons he sa_nil hs) hbase hfew hline hs hpl) hsw) fun D σ H ⟨G0, μ, env, st, o, st', g, ev, q⟩ => ?_
  obtain ⟨d, st1, e1, e2⟩ := bnd_inv (show bnd (evE P cf xe env) (fun d => match env[i]? with
    | some (.ol ds) => if ds.length < LIM then ret (Out.nx (env.set i (.ol (ds ++ [d])))) else fail
    | _ => fail) st = .ok o st' from ev)
  cases hi : env[i]? with
  | none => simp only [hi] at e2; cases e2
  | some s =>
    cases s with
    | no => simp only [hi] at e2; cases e2
    | v _ => simp only [hi] at e2; cases e2
    | od _ => simp only [hi] at e2; cases e2
    | ol ds =>
      simp only [hi] at e2
      obtain ⟨hz, e3⟩ := ite_inv e2
      obtain ⟨rfl, rfl⟩ := ret_inv e3
      obtain ⟨a, xs, hσ, oa, h1, h2, nm, n0, fa'⟩ := g.olAt hi
      refine ⟨.ref a, hσ, ty_lst h1, _, μ, env, st, [d], _, g.good, (by show bnd (evE P cf xe env) (fun d => bnd (ret []) fun ds => ret (d :: ds)) st = _; rw [bnd_ok e1]; rfl), fun vs H1 μ1 p1 r1 => ?_⟩
      obtain ⟨u, r, rfl, ru, hr⟩ := r1
      obtain rfl : r = [] := hr
      have g1 := g.post p1
      obtain ⟨a2, xs2, hσ2, oa2, k1, k2, _⟩ := g1.olAt hi
      rw [hσ] at hσ2
      cases hσ2
      refine ⟨a, xs2, u, rfl, rfl, k1, ?_, ?_⟩
      · have := k2.length
        have := lim_line (Nat.le_refl LIM)
        omega
      · obtain ⟨g3, s3⟩ := g1.putL oa2 k1 (Reps.append (es := [d]) (ys := [u]) k2 ⟨u, [], rfl, ru, by simp only [Reps]⟩)
        exact q σ _ μ1 g3 ((StepR.ofPost g p1).trans s3)
end
end PD
end ZPDOwn2
section ZPDOwn3
set_option Elab.async false
set_option linter.all false
set_option maxRecDepth 100000
set_option maxHeartbeats 1000000
namespace PD
open PySem PySem.Spec L2 PyProof.Rows

section
variable {X : Cx} {T : Tb} {P : Prog} {cf : Calls} {pos p pos' apos cpos tpos : Pos} {a b c e o k tg : Expr} {xa xb xc xe xs xo xk xt xg xi sx bx bx' : PD.X} {fa pa fb pb fk pk : Bool} {es : List Expr} {x y : Str} {s : Stmt} {sts sts' : List Stmt} {i j : Nat}
/-- what a statement asks of an own list -/
theorem olOf {env : Env} {st st' : Store} {α : Type} {f : List D → M α} {g : M α} {r : α} (h : (match env[i]? with
    | some (.ol ds) => f ds
    | _ => fail) st = .ok r st') : ∃ ds, env[i]? = some (.ol ds) ∧ f ds st = .ok r st' := by
  cases hi : env[i]? with
  | none => simp only [hi] at h; cases h
  | some s =>
    cases s with
    | no => simp only [hi] at h; cases h
    | v _ => simp only [hi] at h; cases h
    | od _ => simp only [hi] at h; cases h
    | ol ds => simp only [hi] at h; exact ⟨ds, rfl, h⟩
/-- xs.extend(e) -/
theorem xs_ext (hN : X.N[i]? = some x) (hv : Vis X.env.scope x) (hd : (x == ("__debug__" : Str)) = false) (hcd : (x == ("__classdict__" : Str)) = false) (he : PX X T P cf e xe fa false)
    (hbase : attributeBase (.Name x p) "extend" X.env (eval (.Name x p) X.env) = eval (.Name x p) X.env)
    (hfew : ((backTo cpos (starEach [e] X.env)).all (fun x => !x.1) && (backToKw cpos (keywordEach [] X.env)).all (fun x => x.1.isSome)
      && decide ([e].length + ([] : List Keyword).length + (if ([] : List Keyword).isEmpty then 0 else 1) < 30)) = true)
    (hline : (apos.endLine == cpos.line) = true) (hs : starEach [e] X.env = (false, eval e X.env) :: starEach [] X.env) (hpl : (backTo cpos (starEach [] X.env)).any (·.1) = false)
    (hsw : swapsWith (.Call (.Attribute (.Name x p) "extend" apos) [e] [] cpos) none pos.line X.env = pure false) :
    PXS X T P cf (.Expr (.Call (.Attribute (.Name x p) "extend" apos) [e] [] cpos) pos) (.ext i xe) := by
  refine PS.imp (ps_expr (pe_bm (r := rExtend) PySem.F.plainAttrs_list PySem.F.slot_list_extend PySem.F.type_list_extend mt_extend (name_ol hN hv hd hcd) (sa_cons he sa_nil hs) hbase hfew hline hs hpl) hsw) fun D σ H ⟨G0, μ, env, st, o, st', g, ev, q⟩ => ?_
  obtain ⟨d, st1, e1, e2⟩ := bnd_inv (show bnd (evE P cf xe env) (fun d => match env[i]?, d with
    | some (.ol ds), .lst es => if ds.length + es.length ≤ LIM then ret (Out.nx (env.set i (.ol (ds ++ es)))) else fail
    | _, _ => fail) st = .ok o st' from ev)
  cases hi : env[i]? with
  | none => simp only [hi] at e2; cases e2
  | some s =>
    cases s with
    | no => simp only [hi] at e2; cases e2
    | v _ => simp only [hi] at e2; cases e2
    | od _ => simp only [hi] at e2; cases e2
    | ol ds =>
      cases d <;> simp only [hi, fail_ap, reduceCtorEq] at e2
      obtain ⟨hz, e3⟩ := ite_inv e2
      obtain ⟨rfl, rfl⟩ := ret_inv e3
      obtain ⟨a, xs, hσ, oa, h1, h2, nm, n0, fa'⟩ := g.olAt hi
      refine ⟨.ref a, hσ, ty_lst h1, _, μ, env, st, [_], _, g.good, (by show bnd (evE P cf xe env) (fun d => bnd (ret []) fun ds => ret (d :: ds)) st = _; rw [bnd_ok e1]; rfl), fun vs H1 μ1 p1 r1 => ?_⟩
      obtain ⟨u, r, rfl, ru, hr⟩ := r1
      obtain rfl : r = [] := hr
      obtain ⟨b, zs, rfl, hb, _, rb⟩ := ru
      have g1 := g.post p1
      obtain ⟨a2, xs2, hσ2, oa2, k1, k2, _⟩ := g1.olAt hi
      rw [hσ] at hσ2
      cases hσ2
      refine ⟨a, b, xs2, zs, rfl, rfl, k1, hb, ?_, ?_⟩
      · have := k2.length
        have := rb.length
        have := lim_line (Nat.le_refl LIM)
        omega
      · obtain ⟨g3, s3⟩ := g1.putL oa2 k1 (k2.append rb)
        exact q σ _ μ1 g3 ((StepR.ofPost g p1).trans s3)
theorem Reps.dropLast {F : Addr → Prop} {μ : List Addr} {H : Hp} : ∀ {ds : List D} {xs : List V}, Reps T H F μ ds xs → Reps T H F μ ds.dropLast xs.dropLast
  | [], _, h => by
    have h' : _ = [] := h
    subst h'; rfl
  | [d], _, h => by
    obtain ⟨x, r, rfl, h1, h2⟩ := h
    have h2' : r = [] := h2
    subst h2'; rfl
  | d :: d' :: ds, _, h => by
    obtain ⟨x, r, rfl, h1, h2⟩ := h
    obtain ⟨x', r', rfl, h3, h4⟩ := id h2
    exact ⟨x, _, rfl, h1, Reps.dropLast h2⟩
theorem Reps.erase {F : Addr → Prop} {μ : List Addr} {H : Hp} : ∀ {ds : List D} {xs : List V} (m : Nat), Reps T H F μ ds xs → Reps T H F μ (ds.eraseIdx m) (xs.eraseIdx m)
  | [], _, _, h => by
    have h' : _ = [] := h
    subst h'; rfl
  | d :: ds, _, 0, h => by
    obtain ⟨x, r, rfl, h1, h2⟩ := h
    exact h2
  | d :: ds, _, m + 1, h => by
    obtain ⟨x, r, rfl, h1, h2⟩ := h
    exact ⟨x, _, rfl, h1, Reps.erase m h2⟩
/-- y = xs.pop() -/
theorem xs_popo (hNN : X.N.Nodup) (hN : X.N[i]? = some x) (hv : Vis X.env.scope x) (hd : (x == ("__debug__" : Str)) = false) (hcd : (x == ("__classdict__" : Str)) = false)
    (hj : X.N[j]? = some y) (hy : Loc X.env.scope y) (hf : X.fn y = true ∨ X.env.scope.names.lookup y = some .local)
    (hbase : attributeBase (.Name x p) "pop" X.env (eval (.Name x p) X.env) = eval (.Name x p) X.env) (hline : (apos.endLine == cpos.line) = true)
    (hs : swapsWith (.Call (.Attribute (.Name x p) "pop" apos) [] [] cpos) (some (.Name y pos')) pos.line X.env = pure false) :
    PXS X T P cf (.Assign [.Name y pos'] (.Call (.Attribute (.Name x p) "pop" apos) [] [] cpos) pos) (.popo j i) := by
  refine PS.imp (ps_set hNN hj hy (pe_bm0 (r := rPop) PySem.F.plainAttrs_list PySem.F.slot_list_pop PySem.F.type_list_pop mt_pop (name_ol hN hv hd hcd) hbase hline) hs hf) fun D σ H ⟨G0, μ, env, st, o, st', g, ev, q⟩ => ?_
  obtain ⟨ds, hi, e2⟩ := olOf (f := fun ds => match ds[ds.length - 1]? with
      | some d => ret (Out.nx ((env.set i (.ol ds.dropLast)).set j (.v d)))
      | none => fail) (g := fail) (show (match env[i]? with
    | some (.ol ds) => match ds[ds.length - 1]? with
      | some d => ret (Out.nx ((env.set i (.ol ds.dropLast)).set j (.v d)))
      | none => fail
    | _ => fail) st = .ok o st' from ev)
  cases hl : ds[ds.length - 1]? with
  | none => simp only [hl] at e2; cases e2
  | some d =>
    simp only [hl] at e2
    obtain ⟨rfl, rfl⟩ := ret_inv e2
    obtain ⟨a, xs, hσ, oa, h1, h2, nm, n0, fa'⟩ := g.olAt hi
    obtain ⟨v, hv', rv⟩ := h2.get hl
    refine ⟨.ref a, hσ, ty_lst h1, a, xs, v, rfl, rfl, h1, by rw [h2.length]; exact hv', ?_⟩
    obtain ⟨g3, s3⟩ := g.putL oa h1 (Reps.dropLast h2)
    have sameO : ∀ b, FF (GO G0 σ (env.set i (.ol ds.dropLast))) μ b → FF (GO G0 σ env) μ b := fun b z => by
      rcases z with z | z | ⟨k, h5, t, h6, h7⟩
      · exact .inl z
      · exact .inr (.inl z)
      · by_cases c : i = k
        · subst c; exact .inr (.inr ⟨i, h5, _, hi, rfl⟩)
        · rw [List.getElem?_set_ne c] at h6; exact .inr (.inr ⟨k, h5, t, h6, h7⟩)
    have rv' : Rep T (upd H a (.lst xs.dropLast)) (FF (GO G0 σ (env.set i (.ol ds.dropLast))) μ) μ d v := Rep.mv (mvLess sameO) _ _ (Rep.mv (mvUpd fa') d v rv)
    obtain ⟨g4, s4⟩ := g3.setV (i := j) rv'
    exact q _ _ μ g4 (s3.trans s4)
/-- y = xs.pop(k) -/
theorem xs_popi (hNN : X.N.Nodup) (hN : X.N[i]? = some x) (hv : Vis X.env.scope x) (hd : (x == ("__debug__" : Str)) = false) (hcd : (x == ("__classdict__" : Str)) = false)
    (hj : X.N[j]? = some y) (hy : Loc X.env.scope y) (hf : X.fn y = true ∨ X.env.scope.names.lookup y = some .local) (he : PX X T P cf e xe fa false)
    (hbase : attributeBase (.Name x p) "pop" X.env (eval (.Name x p) X.env) = eval (.Name x p) X.env)
    (hfew : ((backTo cpos (starEach [e] X.env)).all (fun x => !x.1) && (backToKw cpos (keywordEach [] X.env)).all (fun x => x.1.isSome)
      && decide ([e].length + ([] : List Keyword).length + (if ([] : List Keyword).isEmpty then 0 else 1) < 30)) = true)
    (hline : (apos.endLine == cpos.line) = true) (hst : starEach [e] X.env = (false, eval e X.env) :: starEach [] X.env) (hpl : (backTo cpos (starEach [] X.env)).any (·.1) = false)
    (hs : swapsWith (.Call (.Attribute (.Name x p) "pop" apos) [e] [] cpos) (some (.Name y pos')) pos.line X.env = pure false) :
    PXS X T P cf (.Assign [.Name y pos'] (.Call (.Attribute (.Name x p) "pop" apos) [e] [] cpos) pos) (.popi j i xe) := by
  refine PS.imp (ps_set hNN hj hy (pe_bm (r := rPopAt) PySem.F.plainAttrs_list PySem.F.slot_list_pop PySem.F.type_list_pop mt_popAt (name_ol hN hv hd hcd) (sa_cons he sa_nil hst) hbase hfew hline hst hpl) hs hf) fun D σ H ⟨G0, μ, env, st, o, st', g, ev, q⟩ => ?_
  obtain ⟨d, st1, e1, e2⟩ := bnd_inv (show bnd (evE P cf xe env) (fun x => match env[i]?, x with
    | some (.ol ds), .int n => if ds.length ≤ LIM then (match PD.ixN ds.length n with
      | some m => match ds[m]? with
        | some d => ret (Out.nx ((env.set i (.ol (ds.eraseIdx m))).set j (.v d)))
        | none => fail
      | none => fail) else fail
    | _, _ => fail) st = .ok o st' from ev)
  cases hi : env[i]? with
  | none => simp only [hi] at e2; cases e2
  | some s =>
    cases s with
    | no => simp only [hi] at e2; cases e2
    | v _ => simp only [hi] at e2; cases e2
    | od _ => simp only [hi] at e2; cases e2
    | ol ds =>
      cases d <;> simp only [hi, fail_ap, reduceCtorEq] at e2
      rename_i n
      obtain ⟨hz, e3⟩ := ite_inv e2
      cases hm : PD.ixN ds.length n with
      | none => simp only [hm] at e3; cases e3
      | some m =>
        simp only [hm] at e3
        cases hl : ds[m]? with
        | none => simp only [hl] at e3; cases e3
        | some d' =>
          simp only [hl] at e3
          obtain ⟨rfl, rfl⟩ := ret_inv e3
          obtain ⟨a, xs, hσ, oa, h1, h2, nm, n0, fa'⟩ := g.olAt hi
          refine ⟨.ref a, hσ, ty_lst h1, _, μ, env, st, [_], _, g.good, (by show bnd (evE P cf xe env) (fun d => bnd (ret []) fun ds => ret (d :: ds)) st = _; rw [bnd_ok e1]; rfl), fun vs H1 μ1 p1 r1 => ?_⟩
          obtain ⟨u, r, rfl, ru, hr⟩ := r1
          obtain rfl : r = [] := hr
          obtain rfl : u = .int n := ru
          have g1 := g.post p1
          obtain ⟨a2, xs2, hσ2, oa2, k1, k2, _, _, fa2⟩ := g1.olAt hi
          rw [hσ] at hσ2
          cases hσ2
          obtain ⟨v, hv', rv⟩ := k2.get hl
          obtain ⟨q1, q2, q3, q4⟩ := ixN_seq (show L2.ixN ds.length n = some m from hm)
          have hlim : LIM < 2 ^ 62 := by unfold LIM; omega
          refine ⟨a, xs2, n, m, v, rfl, rfl, k1, by omega, by omega, by rw [k2.length]; exact q1, hv', ?_⟩
          obtain ⟨g3, s3⟩ := g1.putL oa2 k1 (Reps.erase m k2)
          have sameO : ∀ b, FF (GO G0 σ (env.set i (.ol (ds.eraseIdx m)))) μ1 b → FF (GO G0 σ env) μ1 b := fun b z => by
            rcases z with z | z | ⟨k, h5, t, h6, h7⟩
            · exact .inl z
            · exact .inr (.inl z)
            · by_cases c : i = k
              · subst c; exact .inr (.inr ⟨i, h5, _, hi, rfl⟩)
              · rw [List.getElem?_set_ne c] at h6; exact .inr (.inr ⟨k, h5, t, h6, h7⟩)
          have rv' := Rep.mv (mvLess sameO) _ _ (Rep.mv (mvUpd (o := .lst (xs2.eraseIdx m)) fa2) d' v rv)
          obtain ⟨g4, s4⟩ := g3.setV (i := j) rv'
          exact q _ _ μ1 g4 ((StepR.ofPost g p1).trans (s3.trans s4))
end
end PD
end ZPDOwn3
section ZPDOwn4
set_option Elab.async false
set_option linter.all false
set_option maxRecDepth 100000
set_option maxHeartbeats 1000000
namespace PD
open PySem PySem.Spec L2 PyProof.Rows

section
variable {X : Cx} {T : Tb} {P : Prog} {cf : Calls} {pos p pos' apos cpos tpos px py pt : Pos} {a b c e o k tg : Expr} {xa xb xc xe xs xo xk xt xg xi sx bx bx' : PD.X} {fa pa fb pb fk pk fe : Bool} {es : List Expr} {x y : Str} {s : Stmt} {sts sts' : List Stmt} {i j f : Nat}
/-- found[k] = v, found one's own dict -/
theorem xs_putd (h : XT T X) (hN : X.N[i]? = some x) (hv : Vis X.env.scope x) (hd : (x == ("__debug__" : Str)) = false) (hcd : (x == ("__classdict__" : Str)) = false) (he : PX X T P cf e xe fe false) (hk : PX X T P cf k xk fk false)
    (hs : swapsWithSole [.Subscript (.Name x p) k tpos] e pos.line X.env = pure false) (hw : swappedStores [.Subscript (.Name x p) k tpos] e X.env = pure none) (h1 : (assignEach [.Subscript (.Name x p) k tpos] X.env).map (·.2) = [assign (.Subscript (.Name x p) k tpos) X.env])
    (ha : ∀ v, assign (.Subscript (.Name x p) k tpos) X.env v = (do
      let ov ← holding [v] (eval (.Name x p) X.env)
      let iv ← holding [v, ov] (eval k X.env)
      standAt tpos
      holding [v, ov, iv] (setItem ov iv v)
      release [v, ov, iv] [])) : PXS X T P cf (.Assign [.Subscript (.Name x p) k tpos] e pos) (.putd i xk xe) := by
  refine PS.imp (ps_asg he (pg_sub (name_ol hN hv hd hcd) hk (set_dict h) ha) hs hw h1) fun D σ H ⟨G0, μ, env, st, o, st', g, ev, q⟩ => ?_
  obtain ⟨d, st1, e1, k2⟩ := bnd_inv (show bnd (evE P cf xe env) (fun d => bnd (evE P cf xk env) fun x => match env[i]? with
    | some (.od kvs) => if dKey x kvs && decide (kvs.length < LIM) then ret (Out.nx (env.set i (.od (putK x d kvs)))) else fail
    | _ => fail) st = .ok o st' from ev)
  obtain ⟨kd, st2, e2, k3⟩ := bnd_inv k2
  cases hi : env[i]? with
  | none => simp only [hi] at k3; cases k3
  | some s =>
    cases s with
    | no => simp only [hi] at k3; cases k3
    | v _ => simp only [hi] at k3; cases k3
    | ol _ => simp only [hi] at k3; cases k3
    | od kvs =>
      simp only [hi] at k3
      obtain ⟨hz, k4⟩ := ite_inv k3
      obtain ⟨rfl, rfl⟩ := ret_inv k4
      simp only [Bool.and_eq_true, decide_eq_true_eq] at hz
      refine ⟨_, μ, env, st, d, st1, g.good, e1, fun v H1 μ1 p1 r1 => ?_⟩
      have g1 := g.post p1
      obtain ⟨a, hσ, _⟩ := g1.odAt hi
      refine ⟨.ref a, hσ, _, μ1, env, st1, kd, _, g1.good, e2, fun u H2 μ2 p2 r2 => ?_⟩
      have g2 := g1.post p2
      obtain ⟨a2, hσ2, oa, hdc, nm, n0, fa2⟩ := g2.odAt hi
      rw [hσ] at hσ2
      cases hσ2
      refine ⟨_, μ2, a, kvs, kd, d, rfl, hdc, r2.rep rfl, Rep.mv p2.mv d v (r1.rep rfl), hz.1, hz.2, fa2, fun w hw' hm hn => ?_⟩
      obtain ⟨g3, s3⟩ := g2.put (o := w) (s' := .od (putK kd d kvs)) oa hn rfl ⟨a, rfl, n0, nm, hw'⟩
      exact q σ _ μ2 g3 ((StepR.ofPost g p1).trans ((StepR.ofPost g1 p2).trans s3))
theorem wrI_inv {k d x : D} {st st' : Store} {r : Unit} (h : wrI k d x st = .ok r st') : ∃ i, x = .ref i ∧ ((∃ ds n j, st[i]? = some (.lst ds) ∧ k = .int n ∧ PD.ixN ds.length n = some j ∧ st' = st.set i (.lst (ds.set j d))) ∨
    ∃ kvs, st[i]? = some (.dct kvs) ∧ dKey k kvs = true ∧ kvs.length < LIM ∧ st' = st.set i (.dct (putK k d kvs))) := by
  have hx : ∃ i, x = .ref i := by cases x <;> first | exact ⟨_, rfl⟩ | cases h
  obtain ⟨i, rfl⟩ := hx
  unfold wrI at h
  refine ⟨i, rfl, ?_⟩
  cases h1 : st[i]? with
  | none => simp only [h1] at h; cases h
  | some o =>
    simp only [h1] at h
    cases o with
    | tbl => cases h
    | ins _ _ => cases h
    | lst ds =>
      dsimp only at h
      cases k <;> try (cases h; done)
      rename_i n
      dsimp only at h
      cases h2 : PD.ixN ds.length n with
      | none => rw [h2] at h; cases h
      | some j => rw [h2] at h; cases h; exact .inl ⟨ds, n, j, rfl, rfl, h2, rfl⟩
    | dct kvs =>
      dsimp only at h
      by_cases c : (dKey k kvs && decide (kvs.length < LIM)) = true
      · rw [if_pos c] at h
        cases h
        simp only [Bool.and_eq_true, decide_eq_true_eq] at c
        exact .inr ⟨kvs, rfl, c.1, c.2, rfl⟩
      · rw [if_neg c] at h; cases h
/-- o[k] = e at a place -/
theorem xs_setI (h : XT T X) (ho : PX X T P cf o xo fa false) (he : PX X T P cf e xe fe false) (hk : PX X T P cf k xk fk false)
    (hs : swapsWithSole [.Subscript o k tpos] e pos.line X.env = pure false) (hw : swappedStores [.Subscript o k tpos] e X.env = pure none) (h1 : (assignEach [.Subscript o k tpos] X.env).map (·.2) = [assign (.Subscript o k tpos) X.env])
    (ha : ∀ v, assign (.Subscript o k tpos) X.env v = (do
      let ov ← holding [v] (eval o X.env)
      let iv ← holding [v, ov] (eval k X.env)
      standAt tpos
      holding [v, ov, iv] (setItem ov iv v)
      release [v, ov, iv] [])) : PXS X T P cf (.Assign [.Subscript o k tpos] e pos) (.setI xo xk xe) := by
  refine PS.imp (ps_asg he (pg_sub ho hk (PSet.or set_list (set_dict h)) ha) hs hw h1) fun D σ H ⟨G0, μ, env, st, oo, st', g, ev, q⟩ => ?_
  obtain ⟨d, st1, e1, k2⟩ := bnd_inv (show bnd (evE P cf xe env) (fun d => bnd (evE P cf xo env) fun x => bnd (evE P cf xk env) fun k => bnd (wrI k d x) fun _ => ret (Out.nx env)) st = .ok oo st' from ev)
  obtain ⟨xd, st2, e2, k3⟩ := bnd_inv k2
  obtain ⟨kd, st3, e3, k4⟩ := bnd_inv k3
  obtain ⟨_, st4, e4, k5⟩ := bnd_inv k4
  obtain ⟨rfl, rfl⟩ := ret_inv k5
  clear ev k2 k3 k4 k5
  refine ⟨_, μ, env, st, d, st1, g.good, e1, fun v H1 μ1 p1 r1 => ?_⟩
  have g1 := g.post p1
  refine ⟨_, μ1, env, st1, xd, st2, g1.good, e2, fun w H2 μ2 p2 r2 => ?_⟩
  have g2 := g1.post p2
  refine ⟨_, μ2, env, st2, kd, st3, g2.good, e3, fun u H3 μ3 p3 r3 => ?_⟩
  have g3 := g2.post p3
  have rw' := Rep.mv p3.mv _ _ (r2.rep rfl)
  have rv' := Rep.mv p3.mv _ _ (Rep.mv p2.mv _ _ (r1.rep rfl))
  have fin : ∀ {H4 : Hp}, Post T (GO G0 σ env) μ3 H3 μ3 H4 st4 → D.nx σ H4 := fun {H4} p4 => q σ H4 μ3 (g3.post p4) ((StepR.ofPost g p1).trans ((StepR.ofPost g1 p2).trans ((StepR.ofPost g2 p3).trans (StepR.ofPost g3 p4))))
  obtain ⟨r, rfl, hc⟩ := wrI_inv e4
  obtain ⟨ad, rfl, hm⟩ := (show ∃ a, w = .ref a ∧ μ3[r]? = some a from rw')
  have hF : FF (GO G0 σ env) μ3 ad := .inl (List.mem_of_getElem? hm)
  rcases hc with ⟨ds, n, j, s1, rfl, s2, rfl⟩ | ⟨kvs, s1, s2, s3, rfl⟩
  · obtain ⟨xs, h3, h4⟩ := (show LstC T H3 (FF (GO G0 σ env) μ3) μ3 ad ds from g3.sto.ob r _ ad s1 hm)
    obtain rfl : u = .int n := r3.pkr
    have hne : ∀ b, H3 ad ≠ some (.own b) := fun b z => by rw [h3] at z; cases z
    refine .inl ⟨ad, xs, n, j, rfl, rfl, h3, by rw [h4.length]; exact s2, fin (Post.put g3.good.toGoodT hm ⟨hne ad, hne⟩ ⟨xs.set j v, upd_same, Reps.mv (mvUpd hF) _ _ (Reps.set j h4 rv')⟩)⟩
  · have hdc : DctC T H3 (FF (GO G0 σ env) μ3) μ3 ad kvs := g3.sto.ob r _ ad s1 hm
    exact .inr ⟨_, μ3, ad, kvs, kd, d, rfl, hdc, r3.rep rfl, rv', s2, s3, hF, fun o' hw2 _ hn => fin (Post.put g3.good.toGoodT hm ⟨hn ad, hn⟩ hw2)⟩
theorem Flds.put (tk : TabOk T) {c : Nat} {H : Hp} {F : Addr → Prop} {μ : List Addr} {f : Nat} {d : D} {v : V} (hf : T.hf c f = true) (hv : Rep T H F μ d v) : ∀ {fs : List (Nat × D)} {ys : List (Str × V)}, Flds T H F μ fs ys → (∀ p ∈ fs, T.hf c p.1 = true) →
    Flds T H F μ (PD.putF f d fs) (L2.putF (T.nm f) v ys) ∧ ∀ p ∈ PD.putF f d fs, T.hf c p.1 = true
  | [], _, h, _ => by
    have h' : _ = [] := h
    subst h'
    refine ⟨⟨v, [], rfl, hv, rfl⟩, fun p hp => ?_⟩
    simp [PD.putF] at hp
    subst hp; exact hf
  | (g, y) :: r, _, ⟨w, r', rfl, h1, h2⟩, hn => by
    have hg := hn _ (List.mem_cons_self ..)
    unfold PD.putF
    have hL : L2.putF (T.nm f) v ((T.nm g, w) :: r') = if T.nm g = T.nm f then (T.nm g, v) :: r' else (T.nm g, w) :: L2.putF (T.nm f) v r' := rfl
    rw [hL]
    by_cases c : g = f
    · subst c
      rw [if_pos rfl, if_pos rfl]
      refine ⟨⟨v, r', rfl, hv, h2⟩, fun p hp => ?_⟩
      rcases List.mem_cons.mp hp with z | z
      · subst z; exact hf
      · exact hn p (List.mem_cons_of_mem _ z)
    · rw [if_neg c, if_neg fun z => c (tk.inj _ g f hg hf z)]
      obtain ⟨h3, h4⟩ := Flds.put tk hf hv h2 fun p hp => hn p (List.mem_cons_of_mem _ hp)
      refine ⟨⟨w, _, rfl, h1, h3⟩, fun p hp => ?_⟩
      rcases List.mem_cons.mp hp with z | z
      · subst z; exact hg
      · exact h4 p z
theorem Flds.len {H : Hp} {F : Addr → Prop} {μ : List Addr} : ∀ {fs : List (Nat × D)} {ys : List (Str × V)}, Flds T H F μ fs ys → ys.length = fs.length
  | [], _, h => by
    have h' : _ = [] := h
    subst h'; rfl
  | (g, y) :: r, _, ⟨w, r', rfl, h1, h2⟩ => by
    show r'.length + 1 = r.length + 1
    rw [Flds.len h2]
theorem wrF_inv {hf : Nat → Nat → Bool} {f : Nat} {d x : D} {st st' : Store} {r : Unit} (h : wrF hf f d x st = .ok r st') : ∃ i c fs, x = .ref i ∧ st[i]? = some (.ins c fs) ∧ fs.length ≤ 100 ∧ hf c f = true ∧ st' = st.set i (.ins c (PD.putF f d fs)) := by
  have hx : ∃ i, x = .ref i := by cases x <;> first | exact ⟨_, rfl⟩ | cases h
  obtain ⟨i, rfl⟩ := hx
  unfold wrF at h
  cases h1 : st[i]? with
  | none => simp only [h1] at h; cases h
  | some o =>
    simp only [h1] at h
    cases o with
    | lst _ => cases h
    | dct _ => cases h
    | tbl => cases h
    | ins c fs =>
      dsimp only at h
      by_cases hc : fs.length ≤ 100 ∧ hf c f = true
      · rw [if_pos hc] at h
        cases h
        exact ⟨i, c, fs, rfl, h1, hc.1, hc.2, rfl⟩
      · rw [if_neg hc] at h; cases h
/-- the object behind a place takes a field -/
theorem fldPut (tk : TabOk T) {G : Addr → Prop} {μ : List Addr} {H : Hp} {st : Store} (g : GoodT T G μ H st) {r c : Nat} {fs : List (Nat × D)} {ad dx : Addr} {ys : List (Str × V)} {d : D} {v : V} (hm : μ[r]? = some ad) (k1 : H ad = some (.ins (T.ca c) dx ys)) (k2 : dx ∉ μ) (k3 : H dx = some (.own ad)) (k4 : Flds T H (FF G μ) μ fs ys) (k5 : Cls T.K (T.ca c)) (k6 : ∀ p ∈ fs, T.hf c p.1 = true)
    (hf : T.hf c f = true) (hv : Rep T H (FF G μ) μ d v) : Post T G μ H μ (upd H ad (.ins (T.ca c) dx (L2.putF (T.nm f) v ys))) (st.set r (.ins c (PD.putF f d fs))) := by
  have hF : FF G μ ad := .inl (List.mem_of_getElem? hm)
  have hne : ∀ b, H ad ≠ some (.own b) := fun b z => by rw [k1] at z; cases z
  obtain ⟨h1, h2⟩ := Flds.put tk hf hv k4 k6
  have hda : dx ≠ ad := fun z => hne ad (z ▸ k3)
  exact Post.put g hm ⟨hne ad, hne⟩ ⟨dx, _, upd_same, k2, by rw [upd_ne hda]; exact k3, Flds.mv (mvUpd hF) h1, k5, h2⟩
/-- o.f = e -/
theorem xs_setF {fn : Str} (h : XT T X) (tk : TabOk T) (hP : P.hf = T.hf) (ho : PX X T P cf o xo fa false) (he : PX X T P cf e xe fe false) (hn : T.nm f = fn) (hs : swapsWith e (some (.Attribute o fn pos')) pos.line X.env = pure false) :
    PXS X T P cf (.Assign [.Attribute o fn pos'] e pos) (.setF xo f xe) := by
  refine PS.imp (ps_fld ho he hs) fun D σ H ⟨G0, μ, env, st, oo, st', g, ev, q⟩ => ?_
  obtain ⟨d, st1, e1, k2⟩ := bnd_inv (show bnd (evE P cf xe env) (fun d => bnd (evE P cf xo env) fun x => bnd (wrF P.hf f d x) fun _ => ret (Out.nx env)) st = .ok oo st' from ev)
  obtain ⟨xd, st2, e2, k3⟩ := bnd_inv k2
  obtain ⟨_, st3, e3, k4⟩ := bnd_inv k3
  obtain ⟨rfl, rfl⟩ := ret_inv k4
  clear ev k2 k3 k4
  refine ⟨_, μ, env, st, d, st1, g.good, e1, fun v H1 μ1 p1 r1 => ?_⟩
  have g1 := g.post p1
  refine ⟨_, μ1, env, st1, xd, st2, g1.good, e2, fun w H2 μ2 p2 r2 => ?_⟩
  have g2 := g1.post p2
  obtain ⟨r, c, fs, rfl, s1, s2, s3, rfl⟩ := wrF_inv e3
  obtain ⟨ad, dx, ys, rfl, hm, k1, k2, k3, k4, k5, k6⟩ := insAt g2.sto (r2.rep rfl) s1
  rw [hP] at s3
  subst hn
  have p3 := fldPut tk g2.good.toGoodT hm k1 k2 k3 k4 k5 k6 s3 (Rep.mv p2.mv _ _ (r1.rep rfl))
  refine ⟨ad, _, dx, ys, rfl, k1, h.K ▸ k5, h.K ▸ tk.nf c f s3, by rw [k4.len]; omega, ?_⟩
  exact q σ _ μ2 (g2.post p3) ((StepR.ofPost g p1).trans ((StepR.ofPost g1 p2).trans (StepR.ofPost g2 p3)))
/-- o.f op= e upon ints -/
theorem xs_augF {op : Operator} {bo : Bop} {F : Int → Int → Int} {fn : Str} (h : XT T X) (tk : TabOk T) (hP : P.hf = T.hf) (ho : PX X T P cf o xo fa false) (he : PX X T P cf e xe fe false) (hn : T.nm f = fn)
    (hop : InOp X op (fun x y H Q => ∃ i j, x = .int i ∧ y = .int j ∧ Q (.int (F i j)) H)) (hF : ∀ i y r, binD bo (.int i) y = some r → ∃ j, y = .int j ∧ r = .int (F i j)) :
    PXS X T P cf (.AugAssign (.Attribute o fn tpos) op e pos) (.augF xo f bo xe) := by
  refine PS.imp (ps_fldaug ho he hop) fun D σ H ⟨G0, μ, env, st, oo, st', g, ev, q⟩ => ?_
  obtain ⟨xd, st1, e1, k2⟩ := bnd_inv (show bnd (evE P cf xo env) (fun x => bnd (clsOf x) fun c1 => bnd (rdF f x) fun d => bnd (evE P cf xe env) fun y => bnd (clsOf x) fun c2 => if augOk d && c1.1 == c2.1 then bnd (opt (binD bo d y)) (fun r => bnd (wrF P.hf f r x) fun _ => ret (Out.nx env)) else fail) st = .ok oo st' from ev)
  obtain ⟨c1, st7, z1, z2⟩ := bnd_inv k2
  obtain ⟨i1, fs1, rfl, z3, rfl⟩ := clsOf_inv z1
  obtain ⟨d, st2, e2, k3⟩ := bnd_inv z2
  obtain ⟨y, st3, e3, z4⟩ := bnd_inv k3
  obtain ⟨c2', st8, z5, k4⟩ := bnd_inv z4
  obtain ⟨i2, fs2', z6, z7, rfl⟩ := clsOf_inv z5
  cases z6
  obtain ⟨hz, k5⟩ := ite_inv k4
  obtain ⟨r', st4, e4, k6⟩ := bnd_inv k5
  obtain ⟨e5, rfl⟩ := opt_inv e4
  obtain ⟨_, st5, e6, k7⟩ := bnd_inv k6
  obtain ⟨rfl, rfl⟩ := ret_inv k7
  clear ev k2 k3 k4 k5 k6 k7 e4 z1 z2 z4 z5
  obtain ⟨r, c, fs, e9, s1, s2, rfl⟩ := rdF_inv e2
  cases e9
  simp only [Bool.and_eq_true, beq_iff_eq] at hz
  obtain ⟨hz, hcls⟩ := hz
  cases d <;> simp only [augOk, Bool.false_eq_true] at hz
  rename_i n
  obtain ⟨m, rfl, rfl⟩ := hF n y r' e5
  refine ⟨_, μ, env, st, _, _, g.good, e1, fun w H1 μ1 p1 r1 => ?_⟩
  have g1 := g.post p1
  obtain ⟨ad, dx, ys, rfl, hm, k1, k2, k3, k4, k5, k6⟩ := insAt g1.sto (r1.rep rfl) s1
  have hf := k6 _ (getF_mem s2)
  obtain ⟨v, l1, l2⟩ := Flds.get tk k4 k6 hf s2
  obtain rfl : v = .int n := l2
  subst hn
  refine ⟨ad, _, dx, ys, _, rfl, k1, h.K ▸ k5, h.K ▸ tk.nf c f hf, l1, _, μ1, env, _, _, _, g1.good, e3, fun u H2 μ2 p2 r2 => ?_⟩
  obtain rfl : u = .int m := r2.pkr
  have g2 := g1.post p2
  obtain ⟨r2', c2, fs2, e7, t1, t2, t3, rfl⟩ := wrF_inv e6
  cases e7
  obtain ⟨ad2, dx2, ys2, e8, hm2, j1, j2, j3, j4, j5, j6⟩ := insAt g2.sto (Rep.mv p2.mv _ _ (r1.rep rfl)) t1
  cases e8
  rw [hP] at t3
  have p3 := fldPut tk g2.good.toGoodT (d := .int (F n m)) (v := .int (F n m)) hm2 j1 j2 j3 j4 j5 j6 t3 rfl
  have hcc : T.ca c2 = T.ca c := by
    rw [z3] at s1
    rw [z7] at t1
    cases s1
    cases t1
    rw [hcls]
  refine ⟨n, m, rfl, rfl, dx2, ys2, hcc ▸ j1, by rw [j4.len]; omega, ?_⟩
  rw [← hcc]
  exact q σ _ μ2 (g2.post p3) ((StepR.ofPost g p1).trans ((StepR.ofPost g1 p2).trans (StepR.ofPost g2 p3)))
end
end PD
end ZPDOwn4
section ZPDOwn5
set_option Elab.async false
set_option linter.all false
set_option maxRecDepth 100000
set_option maxHeartbeats 1000000
namespace PD
open PySem PySem.Spec L2 PyProof.Rows

section
variable {X : Cx} {T : Tb} {P : Prog} {cf : Calls} {pos p pos' apos cpos tpos px py pt pt2 : Pos} {a b c e o k tg : Expr} {xa xb xc xe xs xo xk xt xg xi sx bx bx' : PD.X} {fa pa fb pb fk pk fe : Bool} {es : List Expr} {x y : Str} {s : Stmt} {sts sts' : List Stmt} {i j f kt k2 : Nat}
/-- x op= e upon ints -/
theorem xs_aug {op : Operator} {bo : Bop} {F : Int → Int → Int} (hN : X.N.Nodup) (hi : X.N[i]? = some x) (hx : Loc X.env.scope x) (he : PX X T P cf e xe fe false) (ho : PIp X op (ipI F)) (hf : X.fn x = true ∨ X.env.scope.names.lookup x = some .local)
    (hF : ∀ i y r, binD bo (.int i) y = some r → ∃ j, y = .int j ∧ r = .int (F i j)) : PXS X T P cf (.AugAssign (.Name x pos') op e pos) (.aug i bo xe) := by
  refine PS.imp (ps_aug hN hi hx he ho hf) fun D σ H ⟨G0, μ, env, st, oo, st', g, ev, q⟩ => ?_
  have ev' : (match env[i]? with
    | some (.v d) => bnd (evE P cf xe env) fun y => if augOk d then bnd (opt (binD bo d y)) fun r => ret (Out.nx (env.set i (.v r))) else fail
    | _ => fail) st = .ok oo st' := ev
  cases hs : env[i]? with
  | none => simp only [hs] at ev'; cases ev'
  | some s =>
    cases s with
    | no => simp only [hs] at ev'; cases ev'
    | ol _ => simp only [hs] at ev'; cases ev'
    | od _ => simp only [hs] at ev'; cases ev'
    | v d =>
      simp only [hs] at ev'
      obtain ⟨y, st1, e1, k2⟩ := bnd_inv ev'
      obtain ⟨hz, k3⟩ := ite_inv k2
      obtain ⟨r, st2, k4, k5⟩ := bnd_inv k3
      obtain ⟨e5, rfl⟩ := opt_inv k4
      obtain ⟨rfl, rfl⟩ := ret_inv k5
      cases d <;> simp only [augOk, Bool.false_eq_true] at hz
      rename_i n
      obtain ⟨m, rfl, rfl⟩ := hF n y r e5
      have hl : i < env.length := (List.getElem?_eq_some_iff.mp hs).1
      have hl' : i < σ.length := by rw [← g.len]; exact hl
      have hσ : σ[i]? = some σ[i] := by simp [hl']
      obtain ⟨v, hv, rv⟩ := g.at_ i _ _ hs hσ
      obtain rfl : v = .int n := rv
      refine ⟨.int n, by rw [hσ, hv], _, μ, env, st, _, _, g.good, e1, fun u H1 μ1 p1 r1 => ?_⟩
      obtain rfl : u = .int m := r1.pkr
      have g1 := g.post p1
      obtain ⟨g2, s2⟩ := g1.setV (i := i) (d := .int (F n m)) (v := .int (F n m)) rfl
      exact ⟨n, m, rfl, rfl, q _ H1 μ1 g2 ((StepR.ofPost g p1).trans s2)⟩
theorem SlV.weak {G G' : Addr → Prop} {H : Hp} {μ' : List Addr} {H' : Hp} {st' : Store} {s : Sl} {v : V} (c : SlV T G H μ' H' st' s v) (h : ∀ a, G' a → G a) : SlV T G' H μ' H' st' s v := by
  have lf : ∀ a, FF (GV G' s v) μ' a → FF (GV G s v) μ' a := fun a z => by
    rcases z with z | z | z
    · exact .inl z
    · exact .inr (.inl (h a z))
    · exact .inr (.inr z)
  refine ⟨c.new, c.sto.less lf, ?_⟩
  have hc := c.con
  cases s with
  | no => exact hc.elim
  | v d => exact Rep.mv (mvLess lf) _ _ hc
  | ol ds => obtain ⟨pp, e, h1⟩ := hc; exact ⟨pp, e, h1.mv (mvLess lf) fun _ e => e⟩
  | od ds => obtain ⟨pp, e, h1⟩ := hc; exact ⟨pp, e, h1.mv (mvLess lf) fun _ e => e⟩
/-- what a name is to take kept apart -/
theorem Good.gv {G : Addr → Prop} {μ μ' : List Addr} {H H' : Hp} {σ : L2.St} {env : Env} {st st' : Store} {s : Sl} {v : V} (g : Good T G μ H σ env st) (p : Post T G μ H μ' H' st') (c : SlV T G H μ' H' st' s v) : Good T (GV G s v) μ' H' σ env st' where
  dom := fun a z => by
    rcases z with z | ⟨z1, z2⟩
    · exact (g.toGoodT.post p).dom a z
    · have hc := c.con
      cases s with
      | no => cases z1
      | v _ => cases z1
      | ol ds => obtain ⟨pp, e, h1⟩ := hc; rw [z2] at e; cases e; exact h1.some
      | od ds => obtain ⟨pp, e, h1⟩ := hc; rw [z2] at e; cases e; exact h1.some
  dis := fun a ha z => by
    rcases z with z | ⟨z1, z2⟩
    · exact (g.toGoodT.post p).dis a ha z
    · obtain ⟨pp, e, _, hm⟩ := c.new z1
      rw [z2] at e; cases e; exact hm ha
  sto := c.sto
  en := ⟨g.en.len, fun i t x h1 h2 => (g.en.at_ i t x h1 h2).mv2 ⟨fun a o e n => p.keep a o e fun z => n (.inl z), fun a z => by
    rcases z with z | z | ⟨z1, z2⟩
    · rcases p.new a z with z | z
      · exact .inl (.inl z)
      · exact .inr z
    · exact .inl (.inr z)
    · obtain ⟨pp, e, hn, _⟩ := c.new z1
      rw [z2] at e; cases e; exact .inr hn, p.mu⟩ p.keep fun a f hn na => by
      rcases f with f | f
      · exact absurd f na
      · refine ⟨.inr (.inl f), fun z => ?_⟩
        rcases p.new a z with z | z
        · exact na z
        · exact hn z⟩
/-- x, y = a, b -/
theorem xs_par (hc : X.calm = true) (hN : X.N.Nodup) (hi : X.N[i]? = some x) (hj : X.N[j]? = some y) (hij : i ≠ j)
    (hx : X.env.scope.names.lookup x = some .local) (hy : X.env.scope.names.lookup y = some .local) (ha : PXL X T P cf a xa) (hb : PXL X T P cf b xb)
    (hs1 : starEach [a, b] X.env = (false, eval a X.env) :: starEach [b] X.env) (hs2 : starEach [b] X.env = (false, eval b X.env) :: starEach [] X.env)
    (hw : swappedStores [.Tuple [.Name x px, .Name y py] kt pt] (.Tuple [a, b] k2 pt2) X.env = pure (some [x, y]))
    (hs : swapsWithSole [.Tuple [.Name x px, .Name y py] kt pt] (.Tuple [a, b] k2 pt2) pos.line X.env = pure false) :
    PXS X T P cf (.Assign [.Tuple [.Name x px, .Name y py] kt pt] (.Tuple [a, b] k2 pt2) pos) (.par i j xa xb) := by
  refine PS.imp (ps_par hc hN hi hj hij hx hy (pa_cons ha (pa_cons hb pa_nil hs2) hs1) hw hs) fun D σ H ⟨G0, μ, env, st, oo, st', g, ev, q⟩ => ?_
  obtain ⟨s1, st1, e1, k2⟩ := bnd_inv (show bnd (evSl P cf xa env) (fun x => bnd (evSl P cf xb env) fun y => ret (Out.nx ((env.set i x).set j y))) st = .ok oo st' from ev)
  obtain ⟨s2, st2, e2, k3⟩ := bnd_inv k2
  obtain ⟨rfl, rfl⟩ := ret_inv k3
  refine ⟨_, μ, env, st, s1, st1, g.good, e1, fun v H1 μ1 p1 c1 => ?_⟩
  obtain ⟨g1, t1⟩ := g.take p1 (i := i) c1
  refine ⟨_, μ1, env, st1, s2, _, g.good.gv p1 c1, e2, fun w H2 μ2 p2 c2 => ?_⟩
  have lf : ∀ a, GO G0 (σ.set i (some v)) (env.set i s1) a → GV (GO G0 σ env) s1 v a := fun a z => by
    rcases z with z | ⟨k, h1, t, h2, h3⟩
    · exact .inl (.inl z)
    · by_cases ck : i = k
      · subst ck
        have hl : i < env.length := by
          have := (List.getElem?_eq_some_iff.mp h2).1
          rwa [List.length_set] at this
        rw [List.getElem?_set_self hl] at h2
        rw [List.getElem?_set_self (by rw [← g.len]; exact hl)] at h1
        cases h1; cases h2
        exact .inr ⟨h3, rfl⟩
      · rw [List.getElem?_set_ne ck] at h1 h2
        exact .inl (.inr ⟨k, h1, t, h2, h3⟩)
  obtain ⟨g2, t2⟩ := g1.take (p2.weak lf) (i := j) (c2.weak lf)
  exact ⟨v, w, rfl, q _ H2 μ2 g2 (t1.trans t2)⟩
/-- {k: v}, k a tuple -/
theorem xl_od1 {v : Expr} {xv : PD.X} {fv : Bool} (h : XT T X) (hk : PX X T P cf k xk fk false) (hv : PX X T P cf v xv fv false) (hshape : (evalEachOpt [some k] X.env).zip ((evalEach [v] X.env).map fun v => do let x ← v; standAt pos; pure x) = [(some (eval k X.env), do let x ← eval v X.env; standAt pos; pure x)]) :
    PXL X T P cf (.Dict [some k] [v] pos) (.ownd (.cons xk .nil) (.cons xv .nil)) := by
  refine ⟨fun pins s σ H Q I ⟨G, μ, env, st, s0, st', g, ev, q⟩ => ?_⟩
  obtain ⟨kd, st1, e1, k2⟩ := bnd_inv (show bnd (evE P cf xk env) (fun x => bnd (evE P cf xv env) fun y => if dKey x [] then ret (Sl.od [(x, y)]) else fail) st = .ok s0 st' from ev)
  obtain ⟨vd, st2, e2, k3⟩ := bnd_inv k2
  obtain ⟨hz, k4⟩ := ite_inv k3
  obtain ⟨rfl, rfl⟩ := ret_inv k4
  have hu := h.u
  rw [arm_eval_Dict, hshape]
  have hD : H s.heap.objs.size = none := I.hok.fresh (Nat.le_refl _)
  generalize hDD : s.heap.objs.size = D at hD
  have I1 : L2.Inv X pins σ (upd H D (.dK [])) { s with heap := s.heap.push { cls := .type "dict", data := .dict #[] } } := by
    subst hDD
    exact I.laid (t' := s.toks) (fun b u e => Heap.get?_push_of_some _ e) (Nat.le_refl _) (dk_empty _ I.big)
  have gD := g.guard (.dK []) hD
  have shape2 : dictDisplay [(some (eval k X.env), do let x ← eval v X.env; standAt pos; pure x)] = (do let d ← subDict [(eval k X.env, do let x ← eval v X.env; standAt pos; pure x)]; pure (.ref d)) := dictDisplay_pairs [(eval k X.env, do let x ← eval v X.env; standAt pos; pure x)] (by simp) (by simp)
  rw [shape2]
  refine wpAny_bind (wpAny_standAt (wpAny_bind (wpAny_subDictH (knd := NK X) (show (NK X).room X.A by show X.A.units + 8 < cLine; omega) (by simp) ?_)))
  subst hDD
  refine wpAny_bind (thn (hk.run pins _ σ _ (fun u H1 => ∃ μ1, Post T (GP G s.heap.objs.size) μ (upd H s.heap.objs.size (.dK [])) μ1 H1 st1 ∧ Rep T H1 (FF (GP G s.heap.objs.size) μ1) μ1 kd u) I1 ⟨_, μ, env, st, _, _, gD, e1, fun u H1 μ1 p1 r1 => ⟨μ1, p1, r1.rep rfl⟩⟩) fun ku s1 ⟨kv, H1, I2, rk, μ1, p1, r1⟩ => ?_)
  have g1 := gD.post p1
  refine wpAny_bind (wpAny_holding (wpAny_bind (thn (hv.run pins s1 σ H1 (fun u H2 => ∃ μ2, Post T (GP G s.heap.objs.size) μ1 H1 μ2 H2 st2 ∧ Rep T H2 (FF (GP G s.heap.objs.size) μ2) μ2 vd u) I2 ⟨_, μ1, env, st1, _, _, g1, e2, fun u H2 μ2 p2 r2 => ⟨μ2, p2, r2.rep rfl⟩⟩) fun vu s2 ⟨vv, H2, I3, rv, μ2, p2, r2⟩ => wpAny_bind (wpAny_standAt (wpAny_pure ?_)))))
  refine wpAny_bind (wpAny_holding (wpAny_pure (wpAny_pure ?_)))
  have g2 := g1.post p2
  have p12 := p1.trans p2
  have nD2 : s.heap.objs.size ∉ μ2 := fun z => g2.dis _ z (.inr rfl)
  have nD0 : s.heap.objs.size ∉ μ := fun z => gD.dis _ z (.inr rfl)
  have hdk : H2 s.heap.objs.size = some (.dK []) := p12.keep _ _ upd_same nD0
  obtain ⟨_, hsys, vs0, kv0, hdo⟩ : ([] : List (Key × V)).length ≤ sizeLine ∧ (s.heap.objs.size == sysModules) = false ∧ ∃ vs, KV [] vs ∧ s2.heap.DictOf (mixKind X.prog X.w) s.heap.objs.size vs := I3.hok _ _ hdk
  cases kv0
  have hdH := exact_empty hdo
  obtain ⟨n, ad, hn, rfl, rfl, hik⟩ := dKey_is I3 h.K hz (Rep.mv p2.mv _ _ r1) rk
  refine ⟨[(n, ad, vu)], ⟨rfl, rfl, hik, trivial⟩, hdH, fun h' tk hh' hs => wpAny_pure ?_⟩
  obtain ⟨ob, ents, ep, b1, b2, b3, b4, b5, b6⟩ := hh'
  have hdep : n.depth ≤ 8 := by
    simp only [dKey, Bool.and_eq_true, decide_eq_true_eq] at hz
    obtain ⟨n', e, hd'⟩ := nk_some kd hz.1.1.2
    rw [hn] at e
    cases e
    omega
  have e1 := h.P
  have e2 := h.w
  have I4 : L2.Inv X pins σ (upd H2 s.heap.objs.size (nDct T.P T.w ob [(n, ad, vv)] s.heap.objs.size)) { s2 with heap := h', toks := tk } := by
    refine I3.write (x := s.heap.objs.size) (e := s.heap.objs.size) (by rw [hdk]; trivial) (.inl rfl) (fun b ob hb e => (hs.2 b hb).trans e) ⟨ob, b1⟩ ⟨⟨by rw [sizeLine_eq]; simp, hsys, [(n, ad, vu)], .cons ⟨rfl, rfl, rv⟩ .nil, ents, ep, b1, b2, b3, ?_, b6⟩, ⟨ob, b1⟩, ?_⟩
    · rw [b4]
      unfold NK
      rw [e1, e2]
      rfl
    · rintro h1 h2 ⟨z1, z2, ys, z3, en1, ep1, y1, y2⟩ kk
      exact ⟨z1, z2, ys, z3, en1, ep1, kk _ y1, y2⟩
  have mU : Mv H2 (upd H2 s.heap.objs.size (nDct T.P T.w ob [(n, ad, vv)] s.heap.objs.size)) (FF (GP G s.heap.objs.size) μ2) (FF (GP G s.heap.objs.size) μ2) μ2 μ2 := mvUpd (.inr (.inr rfl))
  have stoD : StR T (FF (GP G s.heap.objs.size) μ2) μ2 (upd H2 s.heap.objs.size (nDct T.P T.w ob [(n, ad, vv)] s.heap.objs.size)) st2 := by
    refine ⟨g2.sto.len, g2.sto.nd, fun j w b h1 h2 => ?_⟩
    have hb : b ≠ s.heap.objs.size := fun z => nD2 (z ▸ List.mem_of_getElem? h2)
    refine (g2.sto.ob j w b h1 h2).mv mU (fun q e => by rw [upd_ne hb]; exact e) (fun _ z => .inl z) fun c q e nc => ?_
    by_cases hc : c = s.heap.objs.size
    · rw [hc, hdk] at e; exact absurd (Option.some.inj e) (fun z => HO.noConfusion z)
    · rw [upd_ne hc]; exact e
  have pp : Post T G μ H μ2 (upd H2 s.heap.objs.size (nDct T.P T.w ob [(n, ad, vv)] s.heap.objs.size)) st2 := by
    refine Post.weak (G' := GP G s.heap.objs.size) ⟨p12.mu, fun a z => ?_, fun a o e n => ?_, stoD⟩ fun a z => .inl z
    · rcases p12.new a z with y | y
      · exact .inl y
      · refine .inr ?_
        by_cases c : a = s.heap.objs.size
        · subst c; exact hD
        · rw [upd_ne c] at y; exact y
    · have ne := ne_of_none e hD
      rw [upd_ne ne]
      exact p12.keep a o (by rw [upd_ne ne]; exact e) n
  have lf : ∀ {s : Sl} a, FF (GV G s (.ref s2.heap.objs.size)) μ2 a → True := fun _ _ => trivial
  have lg : ∀ a, FF (GV G (.od [(kd, vd)]) (.ref s.heap.objs.size)) μ2 a → FF (GP G s.heap.objs.size) μ2 a := fun a z => by
    rcases z with z | z | ⟨_, z⟩
    · exact .inl z
    · exact .inr (.inl z)
    · cases z; exact .inr (.inr rfl)
  refine ⟨.ref s.heap.objs.size, _, I4, rfl, q _ _ μ2 pp ⟨fun _ => ⟨_, rfl, hD, nD2⟩, stoD.less lg, _, rfl, .inr ⟨[(n, ad, vv)], _, by simp, upd_same, ?_⟩⟩⟩
  exact ⟨n, ad, vv, [], rfl, ⟨hn, hdep⟩, Rep.mv (mvLess lg) _ _ (Rep.mv mU _ _ (Rep.mv p2.mv _ _ r1)), Rep.mv (mvLess lg) _ _ (Rep.mv mU _ _ r2), rfl⟩
end
end PD
end ZPDOwn5
section ZPDBi2
set_option Elab.async false
set_option linter.all false
set_option maxRecDepth 100000
set_option maxHeartbeats 1000000
namespace PD
open PySem PySem.Spec L2 PyProof.Rows PySem.W

section
variable {X : Cx} {T : Tb} {G : Addr → Prop} {H : Hp} {μ : List Addr}
theorem b_repr : CallR X (.builtin "repr") (rBi T (biD .repr)) := by
  intro pins s σ H vs us Q I r ⟨G, μ, st, ds, d, g, t, e, q⟩
  match ds, e with
  | [.int i], e =>
    simp only [biD, Option.ite_none_right_eq_some, Option.some.injEq] at e
    obtain ⟨hz, rfl⟩ := e
    obtain ⟨v, rfl, t1⟩ := tops1 t
    obtain rfl : v = .int i := t1
    refine SkE.call_repr_int pins s σ H _ us Q I r ⟨i, rfl, ?_, q.str⟩
    by_cases c : i.natAbs = 0
    · rw [c]; decide
    · have := (Nat.log2_lt c).mpr hz
      omega
theorem each_rep {us : List Value} : ∀ {ds : List D} {xs : List V}, Reps T H (FF G μ) μ ds xs → ∀ {us : List Value}, Vals xs us → EachIs (fun u d => ∃ x, RelV x u ∧ Rep T H (FF G μ) μ d x) us ds
  | [], _, h, us, r => by
    have h' : _ = [] := h
    subst h'
    cases r
    exact .nil
  | d :: ds, _, ⟨x, xs, rfl, h1, h2⟩, us, r => by
    cases r with
    | cons r1 r2 => exact .cons ⟨x, r1, h1⟩ (each_rep (us := us) h2 r2)
theorem each_back : ∀ {us : List Value} {ds : List D}, EachIs (fun u d => ∃ x, RelV x u ∧ Rep T H (FF G μ) μ d x) us ds → ∃ xs, Vals xs us ∧ Reps T H (FF G μ) μ ds xs
  | _, _, .nil => ⟨[], .nil, rfl⟩
  | _, _, .cons ⟨x, r, h⟩ t => by
    obtain ⟨xs, r2, h2⟩ := each_back t
    exact ⟨x :: xs, .cons r r2, x, xs, rfl, h, h2⟩
theorem each_reads (hK : X.K = T.K) {pins : List (Addr × Obj)} {s : Shared} {σ : L2.St} (I : L2.Inv X pins σ H s) : ∀ {ds : List D} {xs : List V}, D.plainAll ds = true → Reps T H (FF G μ) μ ds xs → ∀ {us : List Value}, Vals xs us → EachIs (fun u (d : D) => ∃ as, Reads s.heap u d.py as) us ds
  | [], _, _, h, us, r => by
    have h' : _ = [] := h
    subst h'
    cases r
    exact .nil
  | d :: ds, _, hp, ⟨x, xs, rfl, h1, h2⟩, us, r => by
    simp only [D.plainAll, Bool.and_eq_true] at hp
    cases r with
    | cons r1 r2 => exact .cons (Dp.reads I d.py x _ (hK ▸ Rep.dp d x hp.1 h1) r1) (each_reads hK I hp.2 h2 r2)
theorem py_depthE (d : D) (h : d.plain = true) : d.py.depth = d.depth := py_depth d h
theorem plain_mem : ∀ {ds : List D}, D.plainAll ds = true → ∀ d ∈ ds, d.plain = true
  | [], _, _, h => nomatch h
  | d :: ds, hp, e, h => by
    simp only [D.plainAll, Bool.and_eq_true] at hp
    rcases List.mem_cons.mp h with rfl | h
    · exact hp.1
    · exact plain_mem hp.2 e h
theorem depth_mem : ∀ {ds : List D}, ∀ d ∈ ds, d.depth ≤ D.depthAll ds
  | [], _, h => nomatch h
  | d :: ds, e, h => by
    simp only [D.depthAll]
    rcases List.mem_cons.mp h with rfl | h
    · omega
    · have := depth_mem e h; omega
theorem b_sortedRows (h : XT T X) : CallR X (.builtin "sorted") (rBi T (biD .sortedRows)) := by
  intro pins s σ H vs us Q I r ⟨G, μ, st, ds, d, g, t, e, q⟩
  match ds, e with
  | [.lst ds], e =>
    simp only [biD, Option.ite_none_right_eq_some, Option.some.injEq] at e
    obtain ⟨hz, rfl⟩ := e
    simp only [rowsOk, Bool.and_eq_true, decide_eq_true_eq] at hz
    obtain ⟨⟨⟨⟨z1, z2⟩, z3⟩, z4⟩, z5⟩ := hz
    obtain ⟨v, rfl, a, rfl, xs, h1, h2⟩ := tops1 t
    obtain ⟨u, rfl, ru⟩ := vals1 r
    cases ru
    obtain ⟨its, rv, hl, hle⟩ := I.list (SqL.of h1)
    have hlen := h2.length
    have hdep : ∀ d ∈ ds, d.py.depth ≤ 60 := fun d hd => by
      rw [py_depthE d (plain_mem z1 d hd)]
      simp only [D.eqOk, Bool.and_eq_true, decide_eq_true_eq] at z2
      have h9 := depth_mem d hd
      have h8 : D.depthAll ds + 1 ≤ 60 := z2.2
      omega
    have hu := h.u
    refine sorted_data (enc := D.py) (R := fun u d => ∃ x, RelV x u ∧ Rep T H (FF G μ) μ d x) hl.isList (each_rep (us := its) h2 rv) (each_reads h.K I z1 h2 rv) (fun x hx y hy => ?_) (.inl fun x hx => ?_) (by rw [← hlen]; exact hle) (fun d hd => by have := hdep d hd; omega) fun out hol heo => ?_
    · obtain ⟨a1, ha, rfl⟩ := List.mem_map.mp hx
      obtain ⟨b1, hb, rfl⟩ := List.mem_map.mp hy
      exact List.all_eq_true.mp (List.all_eq_true.mp z3 a1 ha) b1 hb
    · obtain ⟨a1, ha, rfl⟩ := List.mem_map.mp hx
      have := List.all_eq_true.mp z4 a1 ha
      cases a1 with
      | tup es =>
        cases es with
        | nil => cases this
        | cons y ys => exact ⟨y.py, D.pys ys, by simp only [D.py, D.pys]⟩
      | _ => cases this
    · obtain ⟨ys, rvs, hreps⟩ := each_back heo
      obtain ⟨n, hn⟩ := sortedAll_at s.heap its out.toArray
      have hf : H (s.heap.objs.size + 1) = none := I.hok.fresh (Nat.le_succ _)
      refine ⟨.ref (s.heap.objs.size + 1), upd H (s.heap.objs.size + 1) (.lst ys), I.laid (t' := s.toks) (fun b o e => sortedAll_old e) (Nat.le_succ _) ⟨?_, out, n, rvs, hn⟩, rfl, q.lst g hreps _ hf⟩
      rw [rvs.length, hol, ← hlen]; exact hle
/-! isinstance -/
def tyName : Ty → String
  | .int => "int" | .bool => "bool" | .str => "str" | .tuple => "tuple" | .list => "list" | .dict => "dict"
def tyOfD : D → String
  | .non => "NoneType" | .bl _ => "bool" | .int _ => "int" | .str _ => "str" | .tup _ => "tuple" | .lst _ => "list" | .dct _ => "dict" | _ => ""
def tyStr : List String := ["NoneType", "bool", "int", "str", "tuple", "list", "dict"]
theorem kitB_all : ∀ t : Ty, ∀ d : D, ∀ r, isTy t d = some r → kitB (tyOfD d) (tyName t) = some r := by
  intro t d r h
  cases d with
  | dct kvs =>
    have hr : r = decide (t = .dict) := by
      cases kvs with
      | nil => cases t <;> (simp only [isTy, Option.some.injEq] at h; exact h.symm)
      | cons p ps =>
        obtain ⟨k, y⟩ := p
        cases k <;> cases t <;> first | (simp only [isTy, Option.some.injEq] at h; exact h.symm) | (simp only [isTy, reduceCtorEq] at h)
    subst hr
    cases t <;> simp only [tyOfD, tyName] <;> decide +kernel
  | _ => cases t <;> simp only [isTy, Option.some.injEq, reduceCtorEq] at h <;> subst h <;> simp only [tyOfD, tyName] <;> decide +kernel
theorem ty_rep {d : D} {v : V} {t : Ty} {r : Bool} (h : Top T H (FF G μ) μ d v) (e : isTy t d = some r) : TyX T.K H v (.type (tyOfD d)) := by
  cases d with
  | non => obtain rfl : v = .non := h; exact .base .non
  | bl b => obtain rfl : v = .bl b := h; exact .base (.bl b)
  | int i => obtain rfl : v = .int i := h; exact .base (.int i)
  | str i => obtain rfl : v = .str i := h; exact .base (.str i)
  | tup ds =>
    obtain ⟨a, xs, rfl, h1, _⟩ := (show ∃ a xs, v = .ref a ∧ TupAt T H (FF G μ) a xs ∧ Reps T H (FF G μ) μ ds xs from h)
    rcases h1 with ⟨h1, _⟩ | ⟨o, its, n, h1, h2, _⟩
    · exact .base (.tup h1)
    · exact .kTuple h1 h2
  | lst ds => obtain ⟨a, rfl, xs, h1, _⟩ := h; exact .base (.lst h1)
  | dct kvs =>
    obtain ⟨a, rfl, hc⟩ := (show ∃ a, v = .ref a ∧ DctC T H (FF G μ) μ a kvs from h)
    rcases hc with ⟨es, h1, _⟩ | ⟨es, ob, hne, _, hk⟩
    · rcases h1 with ⟨_, h1⟩ | ⟨_, ob, h1⟩
      · exact .base (.dK h1)
      · exact .fDict h1
    · cases kvs with
      | nil =>
        simp only [KVn] at hk
        exact absurd hk hne
      | cons p ps =>
        obtain ⟨k, y⟩ := p
        simp only [KVn] at hk
        obtain ⟨n, q, x, r', _, _, h3, _⟩ := hk
        cases k <;> first | (simp only [isTy, reduceCtorEq] at e; done) | (cases t <;> simp only [isTy, reduceCtorEq] at e; done) | skip
        simp only [Rep] at h3
        cases h3
  | ref _ => cases t <;> cases e
  | scr _ => cases t <;> cases e
  | err _ _ => cases t <;> cases e
variable {P : Prog} {cf : Calls} {pos p p2 : Pos} {a b e o : Expr} {xa xb xs xo : PD.X} {fa pa fb pb : Bool} {x : Str}
theorem xe_isi {t : Ty} {tn : Str} (h : XT T X) (hg : Gl X "isinstance") (hm : X.mg "isinstance" = none) (hgt : Gl X tn) (hmt : X.mg tn = none) (htn : bootBuiltins tn = some (.type (tyName t))) (ht : tn ≠ "__name__") (htd : (tn == ("__debug__" : Str)) = false)
    (ha : PX X T P cf a xa fa pa) (hs1 : starEach [a, .Name tn p2] X.env = (false, eval a X.env) :: starEach [.Name tn p2] X.env) (hs2 : starEach [.Name tn p2] X.env = (false, eval (.Name tn p2) X.env) :: starEach [] X.env) (hpl : (backTo pos (starEach [.Name tn p2] X.env)).any (·.1) = false) :
    PX X T P cf (.Call (.Name "isinstance" p) [a, .Name tn p2] [] pos) (.bif (.isi t) (.cons xa .nil)) false false := by
  refine PE.imp (pe_callB call_isi hg hm PyProof.Rows.boot_isinstance (pa_cons ha (pa_cons (pe_bltn (v := .ty (tyName t)) hgt hmt htn rfl ht htd) pa_nil hs2) hs1) (by decide) (by decide) hs1 hpl) fun σ H Q ⟨G, μ, env, st, d, st', g, ev, q⟩ => ?_
  obtain ⟨ds, st1, e1, e2⟩ := bnd_inv (show bnd (bnd (evE P cf xa env) fun d => bnd (ret []) fun ds => ret (d :: ds)) (fun ds => bnd (vws ds) fun ds => opt (biD (.isi t) ds)) st = .ok d st' from ev)
  obtain ⟨y, st2, e3, e4⟩ := bnd_inv e1
  obtain ⟨rfl, rfl⟩ := ret_inv (show ret [y] st2 = .ok ds st1 from e4)
  obtain ⟨ds', st3, e5, e6⟩ := bnd_inv e2
  unfold vws at e5
  cases e5
  obtain ⟨e7, rfl⟩ := opt_inv e6
  simp only [List.map_cons, List.map_nil, biD, Option.map_eq_some_iff] at e7
  obtain ⟨r, e8, rfl⟩ := e7
  refine ⟨G, μ, env, st, y, _, g, e3, fun v H1 μ1 p1 r1 => ?_⟩
  have g1 := g.post p1
  have hv := r1.pkr.view g1.sto
  exact ⟨v, .ty (tyName t), _, _, r, rfl, .ty _, h.K ▸ ty_rep hv e8, kit_ty (kitB_all t _ r e8), q _ H1 μ1 p1 (.of0 rfl)⟩
/-- list(range(..)) -/
theorem rgV_reps (lo hi : Int) : Reps T H (FF G μ) μ (rangeD lo hi) (rgV lo hi) := by
  have : rgV lo hi = (rangeD lo hi).map fun d => match d with | .int i => V.int i | _ => .non := by
    unfold rgV rangeD
    rw [List.map_map]
    rfl
  rw [this]
  unfold rangeD
  generalize List.range (hi - lo).toNat = l
  induction l with
  | nil => rfl
  | cons k l ih => exact ⟨_, _, rfl, rfl, ih⟩
theorem lrgR {te : PD.X} {lo hi : Int} {σ : L2.St} {μ' : List Addr} {st st' : Store} {H' : Hp} {G : Addr → Prop} {H : Hp} {μ : List Addr} {Q : VK} (g : GoodT T G μ H st) (p1 : Post T G μ H μ' H' st') (h1 : gRng lo = true) (h2 : gRng hi = true)
    (q : ∀ v H1 μ1, Post T G μ H μ1 H1 st' → RS T true false G H μ1 H1 st' (.lst (rangeD lo hi)) v → Q v H1) : RgOk lo hi ∧ ∀ p, H' p = none → Q (.ref p) (upd H' p (.lst (rgV lo hi))) := by
  simp only [gRng, decide_eq_true_eq] at h1 h2
  refine ⟨⟨by omega, by omega, by omega, by omega, by omega⟩, fun p hp => ?_⟩
  have g1 := g.post p1
  refine q _ _ μ' (p1.trans (Post.more g1 (upd_more hp))) (.of ⟨p, _, rfl, upd_same, g1.fresh hp, rgV_reps lo hi⟩ fun _ _ e => ?_)
  cases e
  exact ⟨p, _, rfl, Post.back g p1 hp, upd_same, rgV_reps lo hi, p1.sto.gp (upd_more hp) hp⟩
theorem xe_lrg1 (h : XT T X) (hg : Gl X "list") (hm : X.mg "list" = none) (hg2 : Gl X "range") (hm2 : X.mg "range" = none) (ha : PX X T P cf a xa fa pa) (na : starEach [a] X.env = (false, eval a X.env) :: starEach [] X.env)
    (nb : starEach [.Call (.Name "range" p2) [a] [] pos] X.env = (false, eval (.Call (.Name "range" p2) [a] [] pos) X.env) :: starEach [] X.env) :
    PX X T P cf (.Call (.Name "list" p) [.Call (.Name "range" p2) [a] [] pos] [] pos) (.lrg (.rng (.cons xa .nil))) true false := by
  refine PE.imp (pe_listRg h.c hg hm (prg_1 hg2 hm2 ha na) nb) fun σ H Q ⟨G, μ, env, st, d, st', g, ev, q⟩ => ?_
  obtain ⟨ds, st1, e1, e2⟩ := bnd_inv (show bnd (bnd (evE P cf xa env) fun x => match x with
      | .int j => if gRng j then ret (rangeD 0 j) else fail
      | _ => fail) (fun ds => ret (D.lst ds)) st = .ok d st' from ev)
  obtain ⟨rfl, rfl⟩ := ret_inv e2
  obtain ⟨x, st2, e3, e4⟩ := bnd_inv e1
  cases x <;> simp only [fail_ap, reduceCtorEq] at e4
  obtain ⟨hz, e5⟩ := ite_inv e4
  obtain ⟨rfl, rfl⟩ := ret_inv e5
  refine ⟨G, μ, env, st, _, _, g, e3, fun v H1 μ1 p1 r1 => ?_⟩
  exact ⟨_, r1.pkr, lrgR (te := .nil) (σ := σ) g.toGoodT p1 (by decide) hz q⟩
theorem xe_lrg2 {pA pB : Pos} (h : XT T X) (hg : Gl X "list") (hm : X.mg "list" = none) (hg2 : Gl X "range") (hm2 : X.mg "range" = none) (ha : PX X T P cf a xa fa pa) (hb : PX X T P cf b xb fb pb)
    (na : starEach [a, b] X.env = (false, eval a X.env) :: starEach [b] X.env) (nb : starEach [b] X.env = (false, eval b X.env) :: starEach [] X.env) (hp : (backTo pA (starEach [b] X.env)).any (·.1) = false)
    (nc : starEach [.Call (.Name "range" p2) [a, b] [] pA] X.env = (false, eval (.Call (.Name "range" p2) [a, b] [] pA) X.env) :: starEach [] X.env) :
    PX X T P cf (.Call (.Name "list" p) [.Call (.Name "range" p2) [a, b] [] pA] [] pB) (.lrg (.rng (.cons xa (.cons xb .nil)))) true false := by
  refine PE.imp (pe_listRg h.c hg hm (prg_2 hg2 hm2 ha hb na nb hp) nc) fun σ H Q ⟨G, μ, env, st, d, st', g, ev, q⟩ => ?_
  obtain ⟨ds, st1, e1, e2⟩ := bnd_inv (show bnd (bnd (evE P cf xa env) fun x => bnd (evE P cf xb env) fun y => match x, y with
      | .int i, .int j => if gRng i && gRng j then ret (rangeD i j) else fail
      | _, _ => fail) (fun ds => ret (D.lst ds)) st = .ok d st' from ev)
  obtain ⟨rfl, rfl⟩ := ret_inv e2
  obtain ⟨x, st2, e3, e4⟩ := bnd_inv e1
  obtain ⟨y, st3, e5, e6⟩ := bnd_inv e4
  cases x <;> cases y <;> simp only [fail_ap, reduceCtorEq] at e6
  obtain ⟨hz, e7⟩ := ite_inv e6
  obtain ⟨rfl, rfl⟩ := ret_inv e7
  simp only [Bool.and_eq_true] at hz
  refine ⟨G, μ, env, st, _, _, g, e3, fun v H1 μ1 p1 r1 => ⟨G, μ1, env, _, _, _, g.post p1, e5, fun u H2 μ2 p2 r2 => ?_⟩⟩
  exact ⟨_, _, r1.pkr, r2.pkr, lrgR (te := .nil) (σ := σ) g.toGoodT (p1.trans p2) hz.1 hz.2 q⟩
end
end PD
end ZPDBi2
section ZPDFn
set_option Elab.async false
set_option linter.all false
set_option maxRecDepth 100000
set_option maxHeartbeats 1000000
namespace PD
open PySem PySem.Spec L2 PyProof.Rows

section
variable {T : Tb} {base : Heap} {pg : Prog} {n k f : Nat} {x qual : Str} {st : Stmt} {fa : Addr} {fd : FuncData} {N ps : List Str} {cf : Calls} {tree : PD.X}
/-- the context of a def's body -/
abbrev bX (T : Tb) (base : Heap) (N : List Str) (qual : Str) (st : Stmt) (fa : Addr) (cdv : Value) (A : Around) (outer : List PySem.Env) (s : Shared) (H : Hp) (E : XK) : Cx := (cxOf CX0 T.P T.w T.K T.mg base N qual (defScope st) fa cdv A outer s H E).nox
theorem xt_of {cdv : Value} {A : Around} {outer : List PySem.Env} {s : Shared} {H : Hp} {E : XK} (hr : Room k (A.deeper (envOfC qual (defScope st) s.heap.objs.size fa cdv))) : XT T (bX T base N qual st fa cdv A outer s H E) :=
  ⟨rfl, rfl, rfl, rfl, by have := hr.un; show (A.deeper _).units + 200 < cLine; omega, rfl⟩
theorem reps_start {G : Addr → Prop} {H : Hp} {μ : List Addr} {ds : List D} {vs : List V} (r : Reps T H (FF G μ) μ ds vs) (st0 : Store) (g : GoodT T G μ H st0) (m : Nat) :
    GoodS T G μ H (vs.map some ++ List.replicate m none) (ds.map .v ++ List.replicate m .no) st0 := by
  have hl := r.length
  have noOwn : ∀ i a, ¬ OwnAt (vs.map some ++ List.replicate m none) (ds.map Sl.v ++ List.replicate m .no) i a := fun i a ⟨_, s, h2, h3⟩ => by
    by_cases c : i < ds.length
    · rw [List.getElem?_append_left (by simpa using c), List.getElem?_map] at h2
      obtain ⟨d, _, rfl⟩ := Option.map_eq_some_iff.mp h2
      cases h3
    · rw [List.getElem?_append_right (by simpa using c)] at h2
      have := List.mem_of_getElem? h2
      rw [List.mem_replicate] at this
      rw [this.2] at h3
      cases h3
  have lf : ∀ a, FF (GO G (vs.map some ++ List.replicate m none) (ds.map Sl.v ++ List.replicate m .no)) μ a → FF G μ a := fun a z => by
    rcases z with z | z | ⟨i, z⟩
    · exact .inl z
    · exact .inr z
    · exact absurd z (noOwn i a)
  refine ⟨g.dom, g.dis, g.sto.less lf, by simp [hl], fun i s x h1 h2 => ?_, fun i j a h => absurd h (noOwn i a)⟩
  by_cases c : i < ds.length
  · rw [List.getElem?_append_left (by simpa using c), List.getElem?_map] at h1
    rw [List.getElem?_append_left (by simpa [hl] using c), List.getElem?_map] at h2
    obtain ⟨d, h3, rfl⟩ := Option.map_eq_some_iff.mp h1
    obtain ⟨v, h4, rv⟩ := r.get h3
    rw [h4] at h2
    cases h2
    exact ⟨v, rfl, Rep.mv (mvLess lf) d v rv⟩
  · rw [List.getElem?_append_right (by simpa using c)] at h1
    have := List.mem_of_getElem? h1
    rw [List.mem_replicate] at this
    rw [this.2]
    trivial
theorem fnOk (F : Fun T.K x qual st fa fd) (S : FnScope N ps (defScope st)) (hfn : pg.fn f = ⟨ps.length, N.length, tree⟩)
    (hw : ∀ (cdv : Value) (A : Around) (outer : List PySem.Env) (s : Shared) (H : Hp) (E : XK), Room k (A.deeper (envOfC qual (defScope st) s.heap.objs.size fa cdv)) → PXB (bX T base N qual st fa cdv A outer s H E) T pg cf (defBody st) tree) :
    FnOk T.P T.w T.K T.mg base CX0 (k + 1) fa fd ps (spC T (fun g ds => runF pg cf (pg.fn g) ds) f ps.length) := by
  refine F.ok S (fun vs H Q E ⟨G, μ, st0, ds, d, st', g, r, hl, ev, q⟩ => by rw [r.length, hl]) fun cdv A outer s H vs Q E hr ⟨G, μ, st0, ds, d, st', g, r, hl, ev, q⟩ => ?_
  refine ⟨_, hw cdv A outer s H E hr, ?_⟩
  have ev' : (if ds.length = (pg.fn f).np then bnd (evB pg cf (pg.fn f).body (ds.map .v ++ List.replicate ((pg.fn f).ns - (pg.fn f).np) .no)) (fun o => match o with
    | .rt d => ret d
    | .nx _ => ret D.non
    | _ => fail) else fail) st0 = .ok d st' := ev
  rw [hfn] at ev'
  rw [if_pos hl] at ev'
  obtain ⟨o, st1, e1, e2⟩ := bnd_inv ev'
  have hst : L2.start N vs = vs.map some ++ List.replicate (N.length - ps.length) none := by unfold L2.start; rw [r.length, hl]
  have g0 := reps_start r st0 g (N.length - ps.length)
  rw [hst]
  refine ⟨G, μ, _, st0, o, st1, g0, e1, ?_⟩
  have noO : ∀ a, ¬ Own (vs.map some ++ List.replicate (N.length - ps.length) none) (ds.map Sl.v ++ List.replicate (N.length - ps.length) .no) a := fun a ⟨i, _, s, h2, h3⟩ => by
    by_cases c : i < ds.length
    · rw [List.getElem?_append_left (by simpa using c), List.getElem?_map] at h2
      obtain ⟨d, _, rfl⟩ := Option.map_eq_some_iff.mp h2
      cases h3
    · rw [List.getElem?_append_right (by simpa using c)] at h2
      have := List.mem_of_getElem? h2
      rw [List.mem_replicate] at this
      rw [this.2] at h3
      cases h3
  cases o with
  | nx e =>
    obtain ⟨rfl, rfl⟩ := ret_inv e2
    exact fun σ' H' μ' g' s' => q .non H' μ' ⟨s'.mu, s'.new, fun a o e n => s'.keep a o e n (noO a), g'.sto.less go_less⟩ rfl
  | rt d' =>
    obtain ⟨rfl, rfl⟩ := ret_inv e2
    exact fun v H' μ' sto s' r' => q v H' μ' ⟨s'.mu, s'.new, fun a o e n => s'.keep a o e n (noO a), sto⟩ r'
  | bk e => cases e2
  | ct e => cases e2
theorem callN_len {ds : List D} {st0 : Store} {d : D} {st' : Store} (h : callN pg n f ds st0 = .ok d st') : ds.length = (pg.fn f).np := by
  cases n with
  | zero => cases h
  | succ n =>
    have h' : runF pg (callN pg n) (pg.fn f) ds st0 = .ok d st' := h
    unfold runF at h'
    by_cases c : ds.length = (pg.fn f).np
    · exact c
    · rw [if_neg c] at h'; cases h'
/-- a def behind n calls -/
structure DefI (T : Tb) (base : Heap) (pg : Prog) (n : Nat) (fa : Addr) (f : Nat) (ps : List Str) : Prop where
  ex : ∃ fd, FnOk T.P T.w T.K T.mg base CX0 (2 * n) fa fd ps (spC T (callN pg n) f ps.length) ∧ Binds T.K fd ps []
  kp : PySem.W.keepIn T.K (.ref fa) = true
theorem DefI.zero (hb : Binds T.K fd ps []) (kp : PySem.W.keepIn T.K (.ref fa) = true) : DefI T base pg 0 fa f ps :=
  ⟨⟨fd, ⟨fun vs H Q E ⟨G, μ, st0, ds, d, st', g, r, hl, ev, q⟩ => by rw [r.length, hl], fun A outer s H args us vs Q E hr e0 hbt hv ⟨G, μ, st0, ds, d, st', g, r, hl, ev, q⟩ => by cases ev⟩, hb⟩, kp⟩
theorem DefI.succ (F : Fun T.K x qual st fa fd) (S : FnScope N ps (defScope st)) (hb : Binds T.K fd ps []) (hfn : pg.fn f = ⟨ps.length, N.length, tree⟩)
    (hw : ∀ (cdv : Value) (A : Around) (outer : List PySem.Env) (s : Shared) (H : Hp) (E : XK), Room (2 * n + 1) (A.deeper (envOfC qual (defScope st) s.heap.objs.size fa cdv)) → PXB (bX T base N qual st fa cdv A outer s H E) T pg (callN pg n) (defBody st) tree) :
    DefI T base pg (n + 1) fa f ps := ⟨⟨fd, fnOk (k := 2 * n + 1) F S hfn hw, hb⟩, F.kp⟩
theorem DefI.call {cdv : Value} {A : Around} {outer : List PySem.Env} {s : Shared} {H : Hp} {E : XK} {fb : Addr} {g : Nat} {qs : List Str} (D : DefI T base pg n fb g qs) (hr : Room (2 * n + 1) (A.deeper (envOfC qual (defScope st) s.heap.objs.size fa cdv))) :
    CallI (bX T base N qual st fa cdv A outer s H E) T (callN pg n) fb g qs.length := by
  obtain ⟨fd, F1, hb⟩ := D.ex
  exact ⟨⟨2 * n, fd, qs, F1, hr, hb⟩, D.kp⟩
end
end PD
end ZPDFn
section ZPDX
set_option Elab.async false
set_option linter.all false
set_option maxRecDepth 100000
set_option maxHeartbeats 1000000
namespace PD
open PySem PySem.Spec L2 PyProof.Rows

section
variable {X : Cx} {T : Tb} {P : Prog} {cf : Calls} {pos p p2 pos' apos cpos tpos : Pos} {a b c e o k tg it elt : Expr} {xa xb xc xe xs xo xk xt xg xi sx bx : PD.X} {fa pa fb pb fk pk fe : Bool} {es ifs : List Expr} {x y : Str} {i j f np : Nat}
theorem XT.blk (h : XT T X) {s : Shared} {H : Hp} {scope : Scope} {cenv : PySem.Env} {fp : List Addr} : XT T (X.blk s H scope cenv fp) := ⟨h.P, h.w, h.K, h.m, h.u, h.c⟩
theorem XT.u64 (h : XT T X) : X.A.units + 64 < cLine := by have := h.u; omega
theorem CallI.blk {ad : Addr} (h : CallI X T cf ad f np) {s : Shared} {H : Hp} {scope : Scope} {cenv : PySem.Env} {fp : List Addr} : CallI (X.blk s H scope cenv fp) T cf ad f np := ⟨h.ex, h.kp⟩
theorem MethI.blk {m : Nat} {mn : Str} (h : MethI X T P cf m mn f np) {s : Shared} {H : Hp} {scope : Scope} {cenv : PySem.Env} {fp : List Addr} : MethI (X.blk s H scope cenv fp) T P cf m mn f np := by
  obtain ⟨c, ad, h1, h2, h3, h4⟩ := h.ex
  exact ⟨⟨c, ad, h1, h2, h3.blk, h4⟩⟩
theorem xe_var (i : Nat) {x : Str} {pos : Pos} (hN : X.N[i]? = some x := by rfl) (hv : Vis X.env.scope x := by first | exact Or.inl rfl | exact Or.inr (Or.inl rfl) | exact Or.inr (Or.inr rfl)) (hd : (x == ("__debug__" : Str)) = false := by decide)
    (hcd : (x == ("__classdict__" : Str)) = false := by decide) : PX X T P cf (.Name x pos) (.var i) false false := se_var hN hv hd hcd
theorem xe_peek (i : Nat) {x : Str} {pos : Pos} (hN : X.N[i]? = some x := by rfl) (hv : Vis X.env.scope x := by first | exact Or.inl rfl | exact Or.inr (Or.inl rfl) | exact Or.inr (Or.inr rfl)) (hd : (x == ("__debug__" : Str)) = false := by decide)
    (hcd : (x == ("__classdict__" : Str)) = false := by decide) : PX X T P cf (.Name x pos) (.peek i) false true := se_peek hN hv hd hcd
theorem xe_lit {c : Const} {j : Nat} {d : D} (h : constD c = some d := by rfl) : PX X T P cf (.Constant c j pos) (.lit d) false false := se_lit h
theorem xe_globI {g : Nat} {n : Int} {tk : Tok} (hm : X.mg x = some (.int n tk)) (hp : P.glb g = some (.int n)) (hg : Gl X x := by rfl) (hd : (x == ("__debug__" : Str)) = false := by decide) : PX X T P cf (.Name x pos) (.glob g) false false :=
  se_glob hg hm (v := .int n) ⟨_, rfl⟩ hd (d := P.glb g) (fun d' e H F μ => by rw [hp] at e; cases e; rfl)
theorem xe_globS {g : Nat} {n : Str} {tk : Tok} (hm : X.mg x = some (.str n tk)) (hp : P.glb g = some (.str n)) (hg : Gl X x := by rfl) (hd : (x == ("__debug__" : Str)) = false := by decide) : PX X T P cf (.Name x pos) (.glob g) false false :=
  se_glob hg hm (v := .str n) ⟨_, rfl⟩ hd (d := P.glb g) (fun d' e H F μ => by rw [hp] at e; cases e; rfl)
/-- scalars of a written tuple -/
inductive ScV : D → Value → Prop where
  | non : ScV .non .none
  | bl (b : Bool) : ScV (.bl b) (.bool b)
  | int (i : Int) (t : Tok) : ScV (.int i) (.int i t)
  | str (s : Str) (t : Tok) : ScV (.str s) (.str s t)
inductive ScVs : List D → List Value → Prop where
  | nil : ScVs [] []
  | cons {d : D} {v : Value} {ds : List D} {vs : List Value} : ScV d v → ScVs ds vs → ScVs (d :: ds) (v :: vs)
theorem ScVs.rep {ds : List D} {vs : List Value} (h : ScVs ds vs) (H : Hp) (F : Addr → Prop) (μ : List Addr) : ∃ xs, Vals xs vs ∧ Reps T H F μ ds xs := by
  induction h with
  | nil => exact ⟨[], .nil, rfl⟩
  | cons h1 _ ih =>
    obtain ⟨xs, r1, r2⟩ := ih
    cases h1 with
    | non => exact ⟨.non :: xs, .cons rfl r1, _, _, rfl, rfl, r2⟩
    | bl b => exact ⟨.bl b :: xs, .cons rfl r1, _, _, rfl, rfl, r2⟩
    | int i t => exact ⟨.int i :: xs, .cons ⟨_, rfl⟩ r1, _, _, rfl, rfl, r2⟩
    | str i t => exact ⟨.str i :: xs, .cons ⟨_, rfl⟩ r1, _, _, rfl, rfl, r2⟩
theorem xe_globT {g : Nat} {ad : Addr} {dd : Option Addr} {sl : Array (Option Value)} {its : List Value} {n : Nat} {ds : List D} (hm : X.mg x = some (.ref ad)) (hk : T.K.lookup ad = some ⟨.type "tuple", dd, .seq its.toArray n, sl⟩) (hs : ScVs ds its) (hp : P.glb g = some (.tup ds)) (hl : its.length ≤ 1000 := by decide)
    (hg : Gl X x := by rfl) (hd : (x == ("__debug__" : Str)) = false := by decide) : PX X T P cf (.Name x pos) (.glob g) false false :=
  se_glob hg hm (v := .ref ad) rfl hd (d := P.glb g) (fun d' e H F μ => by
    rw [hp] at e; cases e
    obtain ⟨xs, r1, r2⟩ := hs.rep (T := T) H F μ
    exact ⟨ad, xs, rfl, .inr ⟨_, its.toArray, n, hk, rfl, rfl, by rw [List.size_toArray, sizeLine_eq]; omega, by simpa using r1⟩, r2⟩)
theorem xe_tup {k : Nat} (ha : PXA X T P cf es xs) : PX X T P cf (.Tuple es k pos) (.tup xs) false false := se_tup ha
theorem xe_lst (ha : PXA X T P cf es xs) : PX X T P cf (.List es pos) (.lst xs) true false := se_lst ha
theorem xe_new (ha : PXA X T P cf es xs) : PX X T P cf (.List es pos) (.new xs) false false := se_new ha
theorem xe_newd : PX X T P cf (.Dict [] [] pos) .newd false false := se_newd
theorem xe_bin {op : Operator} {bo : Bop} (ho : OpR X (binaryOp op) (rOp T true (binD bo))) (ha : PX X T P cf a xa fa pa) (hb : PX X T P cf b xb fb pb) : PX X T P cf (.BinOp a op b pos) (.bin bo xa xb) true false := se_bin ho ha hb
/-- the names that a comprehension's target takes -/
theorem xe_lc {scope : Scope} {own : List (Str × Nat)} {slt : List Nat} (h : XT T X) (hN : X.N.Nodup) (hi : PXI X T P cf tg it xi pk) (ok : BlkOk X.N X.env.scope scope own) (ho : own.map (·.2) = slt)
    (hg : ∀ (s : Shared) (H : Hp) (C : Addr) (cl : List (Str × Addr)) (fp : List Addr), PXG (X.blk s H scope (compEnvC scope cl C X.env) fp) T tg xg slt)
    (ht : ∀ (s : Shared) (H : Hp) (C : Addr) (cl : List (Str × Addr)) (fp : List Addr), PTs (X.blk s H scope (compEnvC scope cl C X.env) fp) ifs (rdT T fun env => bnd (evE P cf xt env) blD))
    (he : ∀ (s : Shared) (H : Hp) (C : Addr) (cl : List (Str × Addr)) (fp : List Addr), PX (X.blk s H scope (compEnvC scope cl C X.env) fp) T P cf elt xe fe false) (hs : ∀ x, foldedSetIterable it X.env x = pure x := by intro _; rfl) :
    PX X T P cf (.ListComp elt [⟨tg, it, ifs, 0⟩] scope pos) (.lc slt xg xi xt xe) true false := by
  subst ho
  exact se_lc h hN hi ok (fun i z => z) hg ht he hs
theorem xts_nil : PTs X [] (rdT T fun env => bnd (evE P cf (.lit (.bl true)) env) blD) := ⟨fun pins s σ H Q I ⟨G, μ, env, st, d, st', g, e, q⟩ => by
  obtain ⟨rfl, rfl⟩ := ret_inv (show ret true st = .ok d st' from e)
  exact pts_nil.run pins s σ H Q I (q H μ (Post.refl g.toGoodT))⟩
theorem xts_one (h : PXT X T P cf c xc) : PTs X [c] (rdT T fun env => bnd (evE P cf xc env) blD) := pts_one h
theorem xi_src (h : XT T X) (he : PX X T P cf e xe fe pk) : PXI X T P cf tg e (.src xe) pk := si_src h he
theorem xi_rng1 {fr pk' : Bool} (hm : X.mg "range" = none) (he : PX X T P cf a xa fr pk') (hg : Gl X "range" := by rfl) (hs : starEach [a] X.env = [(false, eval a X.env)] := by rfl) : PXI X T P cf tg (.Call (.Name "range" p) [a] [] pos) (.rng (.cons xa .nil)) pk' := si_range1 hg hm he hs
theorem xi_rng2 {fr pk' fr2 pk2 : Bool} (hm : X.mg "range" = none) (he : PX X T P cf a xa fr pk') (he' : PX X T P cf b xb fr2 pk2) (hg : Gl X "range" := by rfl) (hs : starEach [a, b] X.env = [(false, eval a X.env), (false, eval b X.env)] := by rfl) (hs2 : starEach [b] X.env = [(false, eval b X.env)] := by rfl) :
    PXI X T P cf tg (.Call (.Name "range" p) [a, b] [] pos) (.rng (.cons xa (.cons xb .nil))) pk' := si_range2 hg hm he he' hs hs2
/-- name = [..] on one line: the name takes the new list within the comprehension's code -/
theorem xs_setLc {scope : Scope} {own : List (Str × Nat)} {slt : List Nat} {spos py : Pos} (h : XT T X) (hN : X.N.Nodup) (hy : X.N[i]? = some y) (hyl : X.env.scope.names.lookup y = some .local)
    (hsw : swapsWith (.ListComp elt [⟨tg, it, ifs, 0⟩] scope pos) (some (.Name y py)) spos.line X.env = pure true) (hi : PXI X T P cf tg it xi pk) (ok : BlkOk X.N X.env.scope scope own) (ho : own.map (·.2) = slt)
    (hg : ∀ (s : Shared) (H : Hp) (C : Addr) (cl : List (Str × Addr)) (fp : List Addr), PXG (X.blk s H scope (compEnvC scope cl C X.env) fp) T tg xg slt)
    (ht : ∀ (s : Shared) (H : Hp) (C : Addr) (cl : List (Str × Addr)) (fp : List Addr), PTs (X.blk s H scope (compEnvC scope cl C X.env) fp) ifs (rdT T fun env => bnd (evE P cf xt env) blD))
    (he : ∀ (s : Shared) (H : Hp) (C : Addr) (cl : List (Str × Addr)) (fp : List Addr), PX (X.blk s H scope (compEnvC scope cl C X.env) fp) T P cf elt xe fe false) (hs : ∀ x, foldedSetIterable it X.env x = pure x := by intro _; rfl) :
    PXS X T P cf (.Assign [.Name y py] (.ListComp elt [⟨tg, it, ifs, 0⟩] scope pos) spos) (.asg i (.pl (.lc slt xg xi xt xe))) := by
  subst ho
  refine PS.imp (ps_setLc h.c hN hy hyl hsw hi ok hg ht he hs) fun D σ H z => ?_
  exact lcR (fun i z => z) (plR (fa := true) (P := P) (cf := cf) (xe := .lc (own.map (·.2)) xg xi xt xe) (setR z))
theorem xs_setLcO {scope : Scope} {own : List (Str × Nat)} {slt : List Nat} {spos py : Pos} (h : XT T X) (hN : X.N.Nodup) (hy : X.N[i]? = some y) (hyl : X.env.scope.names.lookup y = some .local)
    (hsw : swapsWith (.ListComp elt [⟨tg, it, ifs, 0⟩] scope pos) (some (.Name y py)) spos.line X.env = pure true) (hi : PXI X T P cf tg it xi pk) (ok : BlkOk X.N X.env.scope scope own) (ho : own.map (·.2) = slt)
    (hg : ∀ (s : Shared) (H : Hp) (C : Addr) (cl : List (Str × Addr)) (fp : List Addr), PXG (X.blk s H scope (compEnvC scope cl C X.env) fp) T tg xg slt)
    (ht : ∀ (s : Shared) (H : Hp) (C : Addr) (cl : List (Str × Addr)) (fp : List Addr), PTs (X.blk s H scope (compEnvC scope cl C X.env) fp) ifs (rdT T fun env => bnd (evE P cf xt env) blD))
    (he : ∀ (s : Shared) (H : Hp) (C : Addr) (cl : List (Str × Addr)) (fp : List Addr), PX (X.blk s H scope (compEnvC scope cl C X.env) fp) T P cf elt xe fe false) (hs : ∀ x, foldedSetIterable it X.env x = pure x := by intro _; rfl) :
    PXS X T P cf (.Assign [.Name y py] (.ListComp elt [⟨tg, it, ifs, 0⟩] scope pos) spos) (.asg i (.own (.lc slt xg xi xt xe))) := by
  subst ho
  refine PS.imp (ps_setLc h.c hN hy hyl hsw hi ok hg ht he hs) fun D σ H z => ?_
  exact lcR (fun i z => z) (ownR (P := P) (cf := cf) (xe := .lc (own.map (·.2)) xg xi xt xe) (setR z))
theorem xe_iteF {fr pk' : Bool} (hc : PXT X T P cf c xc) (ha : PX X T P cf a xa fa pa) (hb : PX X T P cf b xb fb pb) (e1 : (fa && fb) = fr) (e2 : (pa || pb) = pk') : PX X T P cf (.IfExp c a b pos) (.ite xc xa xb) fr pk' := by
  subst e1 e2
  exact xe_ite hc ha hb
end
end PD
end ZPDX
section ZPDTxt
set_option Elab.async false
set_option linter.all false
set_option maxRecDepth 100000
set_option maxHeartbeats 1000000
namespace PD
open PySem PySem.Spec L2 PyProof.Rows
/-! slices; texts: join, upper, signs; enumerate; dicts with texts as keys -/
section
variable {T : Tb} {G : Addr → Prop} {H : Hp} {μ : List Addr}
theorem Reps.cut {ds : List D} {xs : List V} (lo hi : Option Int) (h : Reps T H (FF G μ) μ ds xs) : Reps T H (FF G μ) μ (cutL ds lo hi) (cutV xs lo hi) := by
  unfold cutL cutV
  rw [h.length]
  exact (h.drop _).take _
theorem cutL_whole {ds : List D} {lo hi : Option Int} (h : HT.sIx ds.length 0 lo = 0 ∧ HT.sIx ds.length ds.length hi = ds.length) : cutL ds lo hi = ds := by
  unfold cutL
  rw [h.1, h.2]
  simp
theorem strs_rep : ∀ {ds : List D} {xs : List V} {ys : List Str}, Reps T H (FF G μ) μ ds xs → dStrs ds = some ys → xs = ys.map V.str
  | [], _, _, h, e => by obtain rfl : _ = [] := h; cases e; rfl
  | d :: ds, _, _, h, e => by
    obtain ⟨x, r, rfl, h1, h2⟩ := h
    cases d <;> simp only [dStrs, Option.map_eq_some_iff, reduceCtorEq] at e
    obtain ⟨ms, e1, rfl⟩ := e
    obtain rfl : x = V.str _ := h1
    rw [strs_rep h2 e1]
    rfl
end
def rSlD (T : Tb) : V → Option Int → Option Int → Hp → VK → Prop := fun x lo hi H Q => ∃ G μ st a r, GoodT T G μ H st ∧ Top T H (FF G μ) μ a x ∧ slcD a lo hi = some r ∧ Ans T true (FF G μ) μ H r Q
section
variable {X : Cx} {T : Tb} {P : Prog} {cf : Calls} {pos p p2 pos' apos cpos tpos : Pos} {a b c e o k tg it elt : Expr} {xa xb xc xe xs xo xk xt xg xi xl xu : PD.X} {fa pa fb pb fk pk fe : Bool} {es ifs : List Expr} {x y : Str} {i j f np : Nat} {lo hi : Option Expr}
theorem sl_d (h : XT T X) : L2.SlR X (rSlD T) := by
  intro pins s σ H x v vl vu lo hi sl Q I rx hs pl pu ⟨G, μ, st, d, r, g, ha, e, q⟩
  cases d <;> simp only [slcD, Option.ite_none_right_eq_some, Option.some.injEq, reduceCtorEq] at e
  · obtain ⟨hl, rfl⟩ := e
    obtain rfl : x = V.str _ := ha
    exact sl_str pins s σ H _ v vl vu lo hi sl Q I rx hs pl pu ⟨_, rfl, lim_line hl, q.str⟩
  · subst e
    obtain ⟨a, xs, rfl, h1, h2⟩ := ha
    refine sl_tupA pins s σ H _ v vl vu lo hi sl Q I rx hs pl pu ⟨a, xs, rfl, h.K ▸ h1.sq, fun hw => ?_, fun _ => q.tup g (h2.cut lo hi)⟩
    rw [h2.length] at hw
    rw [cutL_whole hw] at q
    exact q.same ⟨a, xs, rfl, h1, h2⟩ fun _ z => nomatch z
  · subst e
    obtain ⟨a, rfl, xs, h1, h2⟩ := ha
    exact sl_list pins s σ H _ v vl vu lo hi sl Q I rx hs pl pu ⟨a, xs, rfl, SqL.of h1, q.lst g (h2.cut lo hi)⟩
theorem xo_none : PO X none (rdO T (evO P cf .nil)) := ⟨fun pins s σ H Q I ⟨G, μ, env, st, d, st', g, e, q⟩ => by
  obtain ⟨rfl, rfl⟩ := ret_inv (show ret none st = .ok d st' from e)
  exact po_none.run pins s σ H Q I (q H μ (Post.refl g.toGoodT))⟩
theorem xo_some (he : PX X T P cf e xe fe false) : PO X (some e) (rdO T (evO P cf (.cons xe .nil))) := PO.imp (po_some he) fun σ H Q ⟨G, μ, env, st, o, st', g, e, q⟩ => by
  obtain ⟨d, st1, e1, e2⟩ := bnd_inv (show bnd (evE P cf xe env) (fun d => opt (intO d)) st = .ok o st' from e)
  obtain ⟨e3, rfl⟩ := opt_inv e2
  cases d <;> simp only [intO, Option.some.injEq, reduceCtorEq] at e3
  subst e3
  exact ⟨G, μ, env, st, _, _, g, e1, fun v H1 μ1 p1 r1 => ⟨_, r1.pkr, q H1 μ1 p1⟩⟩
/-- a[lo:hi] -/
theorem xe_slc (h : XT T X) (ha : PX X T P cf a xa fa pa) (hl : PO X lo (rdO T (evO P cf xl))) (hu : PO X hi (rdO T (evO P cf xu))) : PX X T P cf (.Subscript a (.Slice lo hi none p2) pos) (.slc xa xl xu) true false := by
  refine PE.imp (pe_slice (sl_d h) ha hl hu) fun σ H Q ⟨G, μ, env, st, d, st', g, e, q⟩ => ?_
  obtain ⟨x, st1, e1, k2⟩ := bnd_inv (show bnd (evE P cf xa env) (fun x => bnd (evO P cf xl env) fun l => bnd (evO P cf xu env) fun h => bnd (vw x) fun x => opt (slcD x l h)) st = .ok d st' from e)
  obtain ⟨l, st2, e2, k3⟩ := bnd_inv k2
  obtain ⟨u, st3, e3, k4⟩ := bnd_inv k3
  obtain ⟨x', st4, e4, k5⟩ := bnd_inv k4
  obtain ⟨rfl, rfl⟩ := vw_inv e4
  obtain ⟨e5, rfl⟩ := opt_inv k5
  refine ⟨G, μ, env, st, x, st1, g, e1, fun v H1 μ1 p1 r1 => ⟨G, μ1, env, st1, l, st2, g.post p1, e2, fun H2 μ2 p2 => ⟨G, μ2, env, st2, u, _, (g.post p1).post p2, e3, fun H3 μ3 p3 => ?_⟩⟩⟩
  have g3 := ((g.post p1).post p2).post p3
  exact ⟨G, μ3, _, _, _, g3.toGoodT, (Pk.mv (p2.trans p3) r1.pkr).view g3.sto, e5, Ans.q g.toGoodT (p1.trans (p2.trans p3)) q id⟩
/-- s.join(xs) -/
theorem xe_join (ho : PX X T P cf o xo fa false) (he : PX X T P cf e xe fe false) (hs : starEach [e] X.env = [(false, eval e X.env)]) (hbase : attributeBase o "join" X.env (eval o X.env) = eval o X.env) (hline : (apos.endLine == pos.line) = true) :
    PX X T P cf (.Call (.Attribute o "join" apos) [e] [] pos) (.join xo xe) false false := by
  refine PE.imp (pe_join ho he hs hbase hline) fun σ H Q ⟨G, μ, env, st, d, st', g, ev, q⟩ => ?_
  obtain ⟨x, st1, e1, k2⟩ := bnd_inv (show bnd (evE P cf xo env) (fun x => bnd (evE P cf xe env) fun y => match x, y with
    | .str a, .lst ds => match dStrs ds with
      | some ys => if (ys.map (·.length)).sum + ys.length * a.length ≤ LIM then ret (D.str (Txt.join a ys)) else fail
      | none => fail
    | _, _ => fail) st = .ok d st' from ev)
  obtain ⟨y, st2, e2, k3⟩ := bnd_inv k2
  cases x <;> cases y <;> simp only [fail_ap, reduceCtorEq] at k3
  rename_i z ds
  cases hd : dStrs ds with
  | none => rw [hd] at k3; cases k3
  | some ys =>
    rw [hd] at k3
    obtain ⟨hz, k4⟩ := ite_inv k3
    obtain ⟨rfl, rfl⟩ := ret_inv k4
    refine ⟨G, μ, env, st, _, st1, g, e1, fun v H1 μ1 p1 r1 => ?_⟩
    obtain rfl : v = V.str z := r1.pkr
    refine ⟨⟨z, rfl⟩, G, μ1, env, st1, _, _, g.post p1, e2, fun u H2 μ2 p2 r2 => ?_⟩
    obtain ⟨p, xs, rfl, h1, hn, h2⟩ := r2.rep rfl
    obtain rfl := strs_rep h2 hd
    refine ⟨z, p, ys, rfl, rfl, .inl (SqL.of h1), Nat.le_trans hz (by decide), q _ H2 μ2 (p1.trans p2) (.of0 rfl)⟩
/-- s.upper() -/
theorem xe_upper (ho : PX X T P cf o xo fa false) (hbase : attributeBase o "upper" X.env (eval o X.env) = eval o X.env) (hline : (apos.endLine == pos.line) = true) :
    PX X T P cf (.Call (.Attribute o "upper" apos) [] [] pos) (.upper xo) false false := by
  refine PE.imp (pe_upper ho hbase hline) fun σ H Q ⟨G, μ, env, st, d, st', g, ev, q⟩ => ?_
  obtain ⟨x, st1, e1, k2⟩ := bnd_inv (show bnd (evE P cf xo env) (fun x => match x with
    | .str a => if a.length ≤ LIM then ret (D.str (Txt.upper a)) else fail
    | _ => fail) st = .ok d st' from ev)
  cases x <;> simp only [fail_ap, reduceCtorEq] at k2
  obtain ⟨hz, k4⟩ := ite_inv k2
  obtain ⟨rfl, rfl⟩ := ret_inv k4
  refine ⟨G, μ, env, st, _, st1, g, e1, fun v H1 μ1 p1 r1 => ?_⟩
  obtain rfl : v = V.str _ := r1.pkr
  exact ⟨⟨_, rfl⟩, _, rfl, rfl, Nat.le_trans hz (by decide), q _ H1 μ1 p1 (.of0 rfl)⟩
theorem xi_sgn (he : PX X T P cf e xe fe pk) : PXI X T P cf tg e (.sgn xe) pk := si_sgn he
theorem xi_enu {elts : List Expr} {kk : Nat} (hm : X.mg "enumerate" = none) (he : PX X T P cf e xe fe false) (hg : Gl X "enumerate" := by rfl) (hs : starEach [e] X.env = [(false, eval e X.env)] := by rfl) :
    PXI X T P cf (.Tuple elts kk tpos) (.Call (.Name "enumerate" p) [e] [] pos) (.enu xe) false := si_enu hg hm he hs
end
end PD
end ZPDTxt
section ZPDTxt2
set_option Elab.async false
set_option linter.all false
set_option maxRecDepth 100000
set_option maxHeartbeats 1000000
namespace PD
open PySem PySem.Spec L2 PyProof.Rows
/-! dict comprehensions, dict(pairs), properties, == of one's own, isinstance of one's own class -/
/-- a dict that nothing writes any more -/
def FzQ (Q : VK) : VK := fun v H1 => ∃ d es, v = .ref d ∧ H1 d = some (.dK es) ∧ ∀ o, DK (upd H1 d o) d es → Q v (upd H1 d o)
theorem fz_post {X : Cx} {pins : List (Addr × Obj)} {σ : L2.St} {H1 : Hp} {s : Shared} {Q : VK} {v : V} {u : Value} (I : L2.Inv X pins σ H1 s) (rv : RelV v u) (q : FzQ Q v H1) : EP X pins σ Q u s := by
  obtain ⟨d, es, rfl, hd, q⟩ := q
  have hk : ObjOk X.prog X.w H1 s.heap d (.dK es) := I.hok d _ hd
  obtain ⟨z, hs, vs, rel, o, es', ep, h1, h2⟩ := (show es.length ≤ sizeLine ∧ (d == sysModules) = false ∧ ∃ vs, KV es vs ∧ s.heap.DictOf (mixKind X.prog X.w) d vs from hk)
  by_cases hne : es = []
  · refine ⟨_, _, I.write (x := d) (e := d) (o := .dK es) (h' := s.heap) (t' := s.toks) (by rw [hd]; trivial) (.inl rfl) (fun b u _ e => e) ⟨o, h1⟩ ⟨z, hs, vs, rel, o, es', ep, h1, h2⟩, rv, q _ (.inl ⟨hne, upd_same⟩)⟩
  · refine ⟨_, _, I.write (x := d) (e := d) (o := .frz o (.dK es)) (h' := s.heap) (t' := s.toks) (by rw [hd]; trivial) (.inl rfl) (fun b u _ e => e) ⟨o, h1⟩ ⟨h1, z, hs, vs, rel, o, es', ep, h1, h2⟩, rv, q _ (.inr ⟨hne, o, upd_same⟩)⟩
theorem pe_fz {X : Cx} {e : Expr} {te : TE} (h : PE X e te) : PE X e (fun σ H Q => te σ H (FzQ Q)) := ⟨fun pins s σ H Q I q => wpAny_mono (h.run pins s σ H _ I q) (fun u s1 ⟨v, H1, I1, rv, q1⟩ => fz_post I1 rv q1) fun _ _ x => x⟩
section
variable {X : Cx} {T : Tb} {tg iter kx elt : Expr} {ifs : List Expr} {scope : Scope} {own : List (Str × Nat)} {pos : Pos} {pk fk fe : Bool} {evi : Env → M (List D)} {ft : D → Env → Option Env} {slt : List Nat} {evt : Env → M Bool} {evk eve : Env → M D}
def dcStep (own : List Nat) (ft : D → Env → Option Env) (evt : Env → M Bool) (evk eve : Env → M D) (env : Env) (d : D) : M (Option (D × D)) := match ft d (PD.wipe env own) with
  | some e => bnd (evt e) fun c => if c then bnd (evk e) fun x => bnd (eve e) fun y => ret (some (x, y)) else ret none
  | none => fail
abbrev evDc (own : List Nat) (evi : Env → M (List D)) (ft : D → Env → Option Env) (evt : Env → M Bool) (evk eve : Env → M D) : Env → M D := fun env => bnd (evi env) fun ds => if ds.length ≤ LIM then bnd (dcL (dcStep own ft evt evk eve env) ds []) fun kvs => ret (.dct kvs) else fail
theorem dcR (hsl : ∀ i ∈ slt, i ∈ own.map (·.2)) {σ : L2.St} {H : Hp} {Q : VK} (hh : rdE T false false (evDc (own.map (·.2)) evi ft evt evk eve) σ H Q) :
    tDc (rdI T pk evi) (rdG T ft slt) (rdT T evt) (rdE T fk false evk) (rdE T fe false eve) (own.map (·.2)) σ H (FzQ Q) := by
  obtain ⟨G, μ, env, st, d, st', g, e, q⟩ := hh
  obtain ⟨ds, st1, e1, k1⟩ := bnd_inv e
  obtain ⟨hz, k2⟩ := ite_inv k1
  obtain ⟨fin, st2, e2, k3⟩ := bnd_inv k2
  obtain ⟨rfl, rfl⟩ := ret_inv k3
  clear e k1 k2 k3
  refine ⟨G, μ, env, st, ds, st1, g, e1, fun J H1 μ1 p1 jw D hD => ?_⟩
  have g1 := g.post p1
  have nD1 : D ∉ μ1 := fun z => (g1.fresh hD) (.inl z)
  have gD := g1.guard (.dK []) hD
  obtain ⟨stay, js, jk, jy, je⟩ := jw.stay
  let G' : Addr → Prop := fun a => G a ∨ a = D
  let stp := dcStep (own.map (·.2)) ft evt evk eve env
  refine ⟨fun i m H2 => m = ds.length - i ∧ i ≤ ds.length ∧ ∃ μ2 sti acc es, Post T G' μ1 H1 μ2 H2 sti ∧ D ∉ μ2 ∧ H2 D = some (.dK es) ∧ KVl T H2 (FF G' μ2) μ2 acc es ∧ es.length ≤ i ∧
      dcL stp (ds.drop i) acc sti = .ok fin st2, ⟨ds.length, by simp, Nat.zero_le _, μ1, st1, [], [], ⟨List.prefix_refl _, fun _ z => .inl z, fun a o ea _ => upd_more hD a o ea, gD.sto⟩, nD1, upd_same, rfl, Nat.le_refl _, by simpa using e2⟩, ?_⟩
  rintro i m H2 ⟨rfl, hil, μ2, sti, acc, es, p2, nD2, hxs, racc, hxl, emap⟩
  have g2 := g1.lift p2 hD nD2 (by rw [hxs]; simp)
  have hst : stay H2 := jk H2 fun a o ea na => p2.keep a o ea fun z => na (by
    split
    · exact z
    · exact .inl z)
  have mv12 : Mv H1 H2 (FF G μ1) (FF G' μ2) μ1 μ2 := ⟨fun a o ea na => p2.keep a o ea fun z => na (.inl z), fun a z => by
    rcases z with z | z | z
    · rcases p2.new a z with z | z
      · exact .inl (.inl z)
      · exact .inr z
    · exact .inl (.inr z)
    · subst z; exact .inr hD, p2.mu⟩
  by_cases hlt : i < ds.length
  · have hd : ds[i]? = some ds[i] := by simp [hlt]
    obtain ⟨go, yl⟩ := jy i _ H2 hst hd
    refine .inr ⟨go, fun H' => i + 1 ≤ ds.length ∧ ∃ μ2 sti acc es, Post T G' μ1 H1 μ2 H' sti ∧ D ∉ μ2 ∧ H' D = some (.dK es) ∧ KVl T H' (FF G' μ2) μ2 acc es ∧ es.length ≤ i + 1 ∧
      dcL stp (ds.drop (i + 1)) acc sti = .ok fin st2, fun H' z => ⟨ds.length - (i + 1), by omega, rfl, z⟩, fun x H3 y3 => ?_⟩
    obtain ⟨mono3, r3⟩ := yl x H3 y3
    have p3 : Post T G' μ2 H2 μ2 H3 sti := Post.more g2.toGoodT mono3
    have g3 := (g2.post p3).wiped (own.map (·.2))
    have rx := r3 _ _ mv12 fun a z e => g2.toGoodT.fresh e z
    rw [List.drop_eq_getElem_cons hlt] at emap
    obtain ⟨r0, st3, m1, m2⟩ := bnd_inv (show bnd (stp ds[i]) (fun r => match r with
      | some (k, v) => if isStrK k && (findK k acc).isNone then dcL stp (ds.drop (i + 1)) (acc ++ [(k, v)]) else fail
      | none => dcL stp (ds.drop (i + 1)) acc) sti = .ok fin st2 from emap)
    clear emap
    have m1' : (match ft ds[i] (PD.wipe env (own.map fun (p : Str × Nat) => p.2)) with
      | some e => bnd (evt e) fun c => if c then bnd (evk e) fun x => bnd (eve e) fun y => ret (some (x, y)) else ret none
      | none => fail) sti = .ok r0 st3 := m1
    clear m1
    cases hft : ft ds[i] (PD.wipe env (own.map (·.2))) with
    | none => rw [hft] at m1'; cases m1'
    | some env' =>
      simp only [hft] at m1'
      obtain ⟨c, st5, t1, t2⟩ := bnd_inv m1'
      refine ⟨G', μ2, _, sti, ds[i], env', g3, rx, hft, fun σ' g4 hσ henv hown => ⟨?_, ?_⟩⟩
      · have e1 : L2.wipe σ' (own.map (·.2)) = L2.wipe (L2.wipe σ (own.map (·.2))) (own.map (·.2)) := wipe_eq hσ.1 fun j hj => hσ.2 j fun z => hj (hsl j z)
        rw [e1]
        refine List.ext_getElem? fun j => ?_
        rw [wipe_get, wipe_get, wipe_length]
        by_cases c : j ∈ own.map (·.2)
        · rw [if_pos c, if_pos c]
        · rw [if_neg c, if_neg c]
      · refine ⟨G', μ2, env', sti, c, st5, g4, t1, fun H4 μ4 p4 => ?_⟩
        have p34 := p3.trans p4
        have g5 := g4.post p4
        have kx : H4 D = some (.dK es) := p34.keep D _ hxs nD2
        have racc4 : KVl T H4 (FF G' μ4) μ4 acc es := KVl.mv p34.mv acc es racc
        have nD4 : D ∉ μ4 := fun z => g5.dis D z (.inr rfl)
        cases c with
        | false =>
          simp only [Bool.false_eq_true, if_false] at t2 ⊢
          obtain ⟨e5, rfl⟩ := ret_inv t2
          subst e5
          exact ⟨hlt, μ4, _, acc, es, p2.trans p34, nD4, kx, racc4, by omega, m2⟩
        | true =>
          simp only [if_true] at t2 ⊢
          obtain ⟨y, st6, t3, t4⟩ := bnd_inv t2
          obtain ⟨z, st7, t5, t6⟩ := bnd_inv t4
          obtain ⟨e5, rfl⟩ := ret_inv t6
          subst e5
          obtain ⟨hy, m3⟩ := ite_inv m2
          simp only [Bool.and_eq_true, Option.isNone_iff_eq_none] at hy
          obtain ⟨hy1, hy2⟩ := hy
          cases y <;> simp only [isStrK, Bool.false_eq_true] at hy1
          rename_i kk
          refine ⟨G', μ4, env', st5, _, _, g5, t3, fun v H5 μ5 p5 r5 => ?_⟩
          obtain rfl : v = V.str kk := r5.pkr
          have g6 := g5.post p5
          refine ⟨G', μ5, env', st6, z, _, g6, t5, fun w H6 μ6 p6 r6 => ?_⟩
          have p36 := p34.trans (p5.trans p6)
          have g7 := g6.post p6
          have p56 := p5.trans p6
          have kx6 : H6 D = some (.dK es) := p56.keep D _ kx nD4
          have hnone : valV es (Sum.inr kk : Key) = none := by
            have z := KVl.val (k := kk) racc
            rw [hy2] at z
            exact z
          refine ⟨es, .inr kk, rfl, kx6, by have := lim_line hz; omega, ?_⟩
          rw [putK_new _ hnone]
          have nD : D ∉ μ6 := fun z => g7.dis D z (.inr rfl)
          have mU : Mv H6 (upd H6 D (.dK (es ++ [(.inr kk, w)]))) (FF G' μ6) (FF G' μ6) μ6 μ6 := mvUpd (.inr (.inr rfl))
          have p26 := p2.trans p36
          have p7 : Post T G' μ1 H1 μ6 (upd H6 D (.dK (es ++ [(.inr kk, w)]))) st7 := by
            refine ⟨p26.mu, p26.new, fun a o ea na => ?_, g7.sto.len, g7.sto.nd, fun j u b h1 h2 => ?_⟩
            · rw [upd_ne (ne_of_none ea hD)]
              exact p26.keep a o ea na
            · have hb : b ≠ D := fun z => nD (z ▸ List.mem_of_getElem? h2)
              refine (g7.sto.ob j u b h1 h2).mv mU (fun q e => by rw [upd_ne hb]; exact e) (fun _ z => .inl z) fun c q e nc => ?_
              by_cases hc : c = D
              · rw [hc, kx6] at e; exact absurd (Option.some.inj e) (fun z => HO.noConfusion z)
              · rw [upd_ne hc]; exact e
          exact ⟨hlt, μ6, st7, _, _, p7, nD, upd_same, KVl.app rfl (Rep.mv mU z w (r6.rep rfl)) (KVl.mv mU acc es (KVl.mv p56.mv acc es racc4)), by simp; omega, m3⟩
  · have hi' : i = ds.length := by omega
    subst hi'
    rw [List.drop_length] at emap
    obtain ⟨rfl, rfl⟩ := ret_inv (show ret acc sti = .ok fin st2 from emap)
    refine .inl ⟨je H2 hst, ?_⟩
    have nG : ¬ G D := fun z => g1.dom D z hD
    refine ⟨D, es, rfl, hxs, fun o hdk => ?_⟩
    have mU : Mv H2 (upd H2 D o) (FF G' μ2) (FF G' μ2) μ2 μ2 := mvUpd (.inr (.inr rfl))
    have p3 : Post T G' μ1 H1 μ2 (upd H2 D o) sti := by
      refine ⟨p2.mu, p2.new, fun a o ea na => ?_, g2.sto.len, g2.sto.nd, fun j u b h1 h2 => ?_⟩
      · rw [upd_ne (ne_of_none ea hD)]
        exact p2.keep a o ea na
      · have hb : b ≠ D := fun z => nD2 (z ▸ List.mem_of_getElem? h2)
        refine (g2.sto.ob j u b h1 h2).mv mU (fun q e => by rw [upd_ne hb]; exact e) (fun _ z => .inl z) fun c q e nc => ?_
        by_cases hc : c = D
        · rw [hc, hxs] at e; exact absurd (Option.some.inj e) (fun z => HO.noConfusion z)
        · rw [upd_ne hc]; exact e
    have p2' : Post T G μ1 H1 μ2 (upd H2 D o) sti := p3.weak fun a z => .inl z
    refine q (.ref D) _ μ2 (p1.trans p2') (.of0 ⟨D, rfl, fun z => ?_, .inl ⟨es, hdk, KVl.mv ⟨fun _ _ e _ => e, fun a z => ?_, List.prefix_refl _⟩ acc es (KVl.mv mU acc es racc)⟩⟩)
    · rcases z with z | z
      · exact nD2 z
      · exact nG z
    · rcases z with z | z
      · exact .inl (.inl z)
      · exact .inl (.inr (.inl z))
end
section
variable {X : Cx} {T : Tb} {P : Prog} {cf : Calls} {pos p p2 pos' apos cpos tpos : Pos} {a b c e o k tg it elt kx : Expr} {xa xb xc xe xs xo xk xt xg xi xl xu : PD.X} {fa pa fb pb fk pk fe : Bool} {es ifs : List Expr} {x y : Str} {i j f np : Nat} {lo hi : Option Expr}
/-- {k: v for ..} -/
theorem xe_dc {scope : Scope} {own : List (Str × Nat)} {slt : List Nat} (h : XT T X) (hN : X.N.Nodup) (hi : PXI X T P cf tg it xi pk) (ok : BlkOk X.N X.env.scope scope own) (ho : own.map (·.2) = slt)
    (hg : ∀ (s : Shared) (H : Hp) (C : Addr) (cl : List (Str × Addr)) (fp : List Addr), PXG (X.blk s H scope (compEnvC scope cl C X.env) fp) T tg xg slt)
    (ht : ∀ (s : Shared) (H : Hp) (C : Addr) (cl : List (Str × Addr)) (fp : List Addr), PTs (X.blk s H scope (compEnvC scope cl C X.env) fp) ifs (rdT T fun env => bnd (evE P cf xt env) blD))
    (hk : ∀ (s : Shared) (H : Hp) (C : Addr) (cl : List (Str × Addr)) (fp : List Addr), PX (X.blk s H scope (compEnvC scope cl C X.env) fp) T P cf kx xk fk false)
    (he : ∀ (s : Shared) (H : Hp) (C : Addr) (cl : List (Str × Addr)) (fp : List Addr), PX (X.blk s H scope (compEnvC scope cl C X.env) fp) T P cf elt xe fe false) (hs : ∀ x, foldedSetIterable it X.env x = pure x := by intro _; rfl) :
    PX X T P cf (.DictComp kx elt [⟨tg, it, ifs, 0⟩] scope pos) (.dcomp slt xg xi xt xk xe) false false := by
  subst ho
  exact PE.imp (pe_fz (pe_dc h.c hN hi ok hg ht hk he hs)) fun σ H Q z => dcR (fun i z => z) z
end
end PD
end ZPDTxt2
section ZPDTxt3
set_option Elab.async false
set_option linter.all false
set_option maxRecDepth 100000
set_option maxHeartbeats 1000000
namespace PD
open PySem PySem.Spec L2 PyProof.Rows
section
variable {T : Tb} {G : Addr → Prop} {H : Hp} {μ : List Addr}
theorem pairs_dk : ∀ {ds : List D} {xs : List V} {acc fin : List (D × D)} {es : List (Key × V)}, Reps T H (FF G μ) μ ds xs → dOf ds acc = some fin → KVl T H (FF G μ) μ acc es →
    ∃ (ps : List Addr) (kvs : List (Key × V)), xs = ps.map V.ref ∧ Paired (fun p kv => SqT T.K H p [kV kv.1, kv.2]) ps kvs ∧ KVl T H (FF G μ) μ fin (mergeK es kvs)
  | [], _, _, _, _, h, e, k => by
    obtain rfl : _ = [] := h
    cases e
    exact ⟨[], [], rfl, .nil, k⟩
  | d :: ds, _, acc, fin, es, h, e, k => by
    obtain ⟨x, r, rfl, h1, h2⟩ := h
    match d, e with
    | .tup [.str kk, v], e =>
      obtain ⟨hn, e'⟩ := (show (findK (.str kk) acc).isNone = true ∧ dOf ds (acc ++ [(.str kk, v)]) = some fin by
        have e' : (if (findK (.str kk) acc).isNone then dOf ds (acc ++ [(.str kk, v)]) else none) = some fin := e
        by_cases c : (findK (.str kk) acc).isNone = true
        · rw [if_pos c] at e'; exact ⟨c, e'⟩
        · rw [if_neg c] at e'; cases e')
      obtain ⟨a, ys, rfl, ha, hys⟩ := (show ∃ a xs, x = .ref a ∧ TupAt T H (FF G μ) a xs ∧ Reps T H (FF G μ) μ [.str kk, v] xs from h1)
      obtain ⟨y1, r1, rfl, hy1, y2, r2, rfl, hy2, h0⟩ := hys
      obtain rfl : r2 = [] := h0
      obtain rfl : y1 = V.str kk := hy1
      have hnone : valV es (Sum.inr kk : Key) = none := by
        have z := KVl.val (k := kk) k
        rw [Option.isNone_iff_eq_none.mp hn] at z
        exact z
      obtain ⟨ps, kvs, rfl, hp, hk⟩ := pairs_dk h2 e' (KVl.app (k := .str kk) (q := .inr kk) rfl hy2 k)
      refine ⟨a :: ps, (.inr kk, y2) :: kvs, rfl, .cons ha.sq hp, ?_⟩
      show KVl T H (FF G μ) μ fin (mergeK (L2.putK es (.inr kk) y2) kvs)
      rw [putK_new _ hnone]
      exact hk
end
section
variable {X : Cx} {T : Tb} {P : Prog} {cf : Calls} {pos p p2 pos' apos cpos tpos : Pos} {a b c e o k tg it elt kx : Expr} {xa xb xc xe xs xo xk xt xg xi xl xu : PD.X} {fa pa fb pb fk pk fe : Bool} {es ifs : List Expr} {x y : Str} {i j f np : Nat} {lo hi : Option Expr}
/-- dict(pairs) -/
theorem xe_dictOf (h : XT T X) (hg : Gl X "dict") (hm : X.mg "dict" = none) (he : PX X T P cf e xe fe false) (hs : starEach [e] X.env = (false, eval e X.env) :: starEach [] X.env) :
    PX X T P cf (.Call (.Name "dict" p) [e] [] pos) (.dictOf xe) false false := by
  refine PE.imp (pe_fz (pe_callTy (call_dictP h.c) hg hm (by decide +kernel) (pa_cons he pa_nil hs) (by decide) (by decide) hs rfl)) fun σ H Q ⟨G, μ, env, st, d, st', g, ev, q⟩ => ?_
  obtain ⟨y, st1, e1, k2⟩ := bnd_inv (show bnd (evE P cf xe env) (fun x => match x with
    | .lst ds => if ds.length ≤ LIM then bnd (opt (dOf ds [])) fun kvs => ret (D.dct kvs) else fail
    | _ => fail) st = .ok d st' from ev)
  cases y <;> simp only [fail_ap, reduceCtorEq] at k2
  obtain ⟨hz, k3⟩ := ite_inv k2
  obtain ⟨fin, st2, k4, k5⟩ := bnd_inv k3
  obtain ⟨e2, rfl⟩ := opt_inv k4
  obtain ⟨rfl, rfl⟩ := ret_inv k5
  refine ⟨G, μ, env, st, _, _, g, e1, fun v H1 μ1 p1 r1 => ?_⟩
  have g1 := g.post p1
  obtain ⟨a, xs, rfl, h1, hn, h2⟩ := r1.rep rfl
  obtain ⟨ps, kvs, rfl, hp, hk⟩ := pairs_dk (es := []) h2 e2 rfl
  refine ⟨a, ps, kvs, rfl, SqL.of h1, h.K ▸ hp, fun p hp0 => ?_⟩
  refine ⟨p, _, rfl, upd_same, fun o hdk => ?_⟩
  have more : ∀ a u, H1 a = some u → upd (upd H1 p (.dK (mergeK [] kvs))) p o a = some u := fun a u e => by
    rw [upd_ne (ne_of_none e hp0), upd_ne (ne_of_none e hp0)]; exact e
  exact q (.ref p) _ μ1 (p1.trans (Post.more g1.toGoodT more)) (.of0 ⟨p, rfl, g1.toGoodT.fresh hp0, .inl ⟨_, hdk, KVl.mv (mvMore more _) _ _ hk⟩⟩)
/-! ### a property -/
structure PropI (X : Cx) (T : Tb) (P : Prog) (cf : Calls) (m : Nat) (mn : Str) (f : Nat) : Prop where
  ex : ∃ c pa ad, Cls X.K (T.ca c) ∧ PropOf X.K (T.ca c) mn pa ad ∧ CallI X T cf ad f 1 ∧ ∀ c' f', P.mth c' m = some f' → c' = c ∧ f' = f
theorem xe_prop {m : Nat} {mn : Str} (M : PropI X T P cf m mn f) (ho : PX X T P cf o xo fa false) (hb : attributeBase o mn X.env (eval o X.env) = eval o X.env) : PX X T P cf (.Attribute o mn pos) (.prop m xo) false false := by
  obtain ⟨c, pa, ad, hc, hp, F, hu⟩ := M.ex
  obtain ⟨k, fd, ps, F1, hr, hbd⟩ := F.ex
  refine PE.imp (pe_prop (E := E0) ho hc hp F1 hr hbd .nil pass0 hb) fun σ H Q ⟨G, μ, env, st, d, st', g, ev, q⟩ => ?_
  obtain ⟨x, st1, e1, k2⟩ := bnd_inv (show bnd (evE P cf xo env) (fun x => bnd (clsOf x) fun c => match P.mth c.1 m with | some f => cf f [x] | none => fail) st = .ok d st' from ev)
  obtain ⟨r, st2, e3, e4⟩ := bnd_inv k2
  obtain ⟨i, fs, rfl, h1, rfl⟩ := clsOf_inv e3
  cases hz : P.mth r.1 m with
  | none => simp only [hz] at e4; cases e4
  | some f' =>
    simp only [hz] at e4
    obtain ⟨hcc, rfl⟩ := hu _ _ hz
    refine ⟨G, μ, env, st, _, _, g, e1, fun v H1 μ1 p1 r1 => ?_⟩
    have g1 := g.post p1
    rw [hcc] at h1
    obtain ⟨ad', dx, ys, rfl, hμ, k1, _⟩ := insAt g1.sto (r1.rep rfl) h1
    exact ⟨ad', dx, ys, rfl, k1, G, μ1, _, [.ref i], d, st', g1.toGoodT, ⟨.ref ad', [], rfl, ⟨ad', rfl, hμ⟩, rfl⟩, rfl, e4, fun v H2 μ2 p2 r2 => q v H2 μ2 (p1.trans p2) (.of0 r2)⟩
/-! ### isinstance of one's own class -/
structure IsoK (K : PySem.W.Frag) (C : Addr) : Prop where
  ins : C8.InsC K C
  no : ∀ n ∈ tyStr, PySem.W.kitOne K (.type n) (.ref C) = some false
theorem xe_iso {c : Nat} {cn : Str} (h : XT T X) (S : IsoK T.K (T.ca c)) (hg : Gl X "isinstance") (hm : X.mg "isinstance" = none) (hgc : Gl X cn) (hmc : X.mg cn = some (.ref (T.ca c))) (hdc : (cn == ("__debug__" : Str)) = false)
    (ha : PX X T P cf a xa fa false) (hs1 : starEach [a, .Name cn p2] X.env = (false, eval a X.env) :: starEach [.Name cn p2] X.env) (hs2 : starEach [.Name cn p2] X.env = (false, eval (.Name cn p2) X.env) :: starEach [] X.env) (hpl : (backTo pos (starEach [.Name cn p2] X.env)).any (·.1) = false) :
    PX X T P cf (.Call (.Name "isinstance" p) [a, .Name cn p2] [] pos) (.iso c xa) false false := by
  refine PE.imp (pe_callB call_isi hg hm PyProof.Rows.boot_isinstance (pa_cons ha (pa_cons (pe_glob (v := .ref (T.ca c)) hgc hmc rfl hdc) pa_nil hs2) hs1) (by decide) (by decide) hs1 hpl) fun σ H Q ⟨G, μ, env, st, d, st', g, ev, q⟩ => ?_
  obtain ⟨x, st1, e1, k2⟩ := bnd_inv (show bnd (evE P cf xa env) (fun x => match x with
    | .ref i => fun st => match st[i]? with
      | some (.ins c' _) => if c' = c then .ok (D.bl true) st else .bad
      | _ => .bad
    | .scr _ | .err _ _ | .dct _ => fail
    | _ => ret (.bl false)) st = .ok d st' from ev)
  refine ⟨G, μ, env, st, x, st1, g, e1, fun v H1 μ1 p1 r1 => ?_⟩
  have g1 := g.post p1
  have hv := r1.rep rfl
  have plain : ∀ {r : Bool}, isTy .int x = some r → (∀ i, x ≠ .ref i) → (tyOfD x ∈ tyStr) → (ret (D.bl false) : M D) st1 = .ok d st' → (tCons (tC (.ref (T.ca c))) tNil) σ H1 fun vs H2 => rIsi X.K (v :: vs) H2 Q := fun {r} ht _ hmem e => by
    obtain ⟨rfl, rfl⟩ := ret_inv e
    have tt : Top T H1 (FF G μ1) μ1 x v := by
      have z := r1.pkr.view g1.sto
      cases x <;> first | exact z | cases ht
    exact ⟨v, .ref (T.ca c), _, _, false, rfl, .own _, h.K ▸ ty_rep tt ht, h.K ▸ S.no _ hmem, q _ H1 μ1 p1 (.of0 rfl)⟩
  cases x with
  | ref i =>
    cases h1 : st1[i]? with
    | none => simp only [h1] at k2; cases k2
    | some ob =>
      simp only [h1] at k2
      cases ob with
      | ins c' fs =>
        dsimp only at k2
        by_cases hc : c' = c
        · subst hc
          rw [if_pos rfl] at k2
          cases k2
          obtain ⟨ad, dx, ys, rfl, _, k1, _⟩ := insAt g1.sto hv h1
          exact ⟨.ref ad, .ref (T.ca c'), _, _, true, rfl, .own _, h.K ▸ (TyX.base (TyOf.ins k1 S.ins.cl S.ins.ha S.ins.hn S.ins.htk S.ins.hm)), h.K ▸ S.ins.me, q _ H1 μ1 p1 (.of0 rfl)⟩
        · rw [if_neg hc] at k2; cases k2
      | lst _ => cases k2
      | dct _ => cases k2
      | tbl => cases k2
  | scr _ => cases k2
  | err _ _ => cases k2
  | dct _ => cases k2
  | non => exact plain (r := _) rfl (fun _ z => by cases z) (by simp [tyOfD, tyStr]) k2
  | bl _ => exact plain (r := _) rfl (fun _ z => by cases z) (by simp [tyOfD, tyStr]) k2
  | int _ => exact plain (r := _) rfl (fun _ z => by cases z) (by simp [tyOfD, tyStr]) k2
  | str _ => exact plain (r := _) rfl (fun _ z => by cases z) (by simp [tyOfD, tyStr]) k2
  | tup _ => exact plain (r := _) rfl (fun _ z => by cases z) (by simp [tyOfD, tyStr]) k2
  | lst _ => exact plain (r := _) rfl (fun _ z => by cases z) (by simp [tyOfD, tyStr]) k2
/-! ### == of one's own class -/
structure EqoK (K : PySem.W.Frag) (C ad : Addr) : Prop where
  hs : PySem.W.findIn K (.ref C) "__eq__" = some (some (.ref ad))
  hf : PySem.W.isFn K (.ref ad) = true
  tu : PySem.W.subIn K (.type "tuple") (.ref C) = some false
  li : PySem.W.subIn K (.type "list") (.ref C) = some false
def rEqO (T : Tb) (cf : Calls) (f c : Nat) : R2 := fun x y H Q => ∃ G μ st i fs d r st', GoodT T G μ H st ∧ Rep T H (FF G μ) μ (.ref i) x ∧ Rep T H (FF G μ) μ d y ∧ st[i]? = some (.ins c fs) ∧ eqoOk c d st = .ok () st ∧ cf f [.ref i, d] st = .ok r st' ∧
  ∀ v H' μ', Post T G μ H μ' H' st' → Rep T H' (FF G μ') μ' r v → Q v H'
theorem op_ownD {c : Nat} {ad : Addr} (h : XT T X) (S : EqoK X.K (T.ca c) ad) (F : CallI X T cf ad f 2) : OpR X (compareOp .Eq) (rEqO T cf f c) := by
  intro pins s σ H x y v u Q I rx ry ⟨G, μ, st, i, fs, d, r, st', g, hx, hy, hi, hok, hcf, q⟩
  obtain ⟨k, fd, ps, F1, hr, hb⟩ := F.ex
  obtain ⟨a, dx, ys, rfl, hμ, k1, _⟩ := insAt g.sto hx hi
  cases (show v = Value.ref a from rx)
  obtain ⟨mA, O, _⟩ := ins_get I.hok k1
  obtain ⟨od, J, _⟩ := O.look
  obtain ⟨m, hF⟩ := I.fr
  have hu := h.u
  have lk : ∃ tb, PySem.W.Looks (model X.prog X.w) s.heap (typeOf u) tb ∧ PySem.W.notFirst X.K (T.ca c) tb = true := by
    cases d with
    | ref j =>
      cases hj : st[j]? with
      | none => simp only [eqoOk, hj] at hok; cases hok
      | some ob =>
        simp only [eqoOk, hj] at hok
        cases ob with
        | ins c' fs' =>
          dsimp only at hok
          by_cases hc : c' = c
          · subst hc
            obtain ⟨b, dy, zs, rfl, _, k2, _⟩ := insAt g.sto hy hj
            cases (show u = Value.ref b from ry)
            obtain ⟨mB, O', _⟩ := ins_get I.hok k2
            obtain ⟨od', J', _⟩ := O'.look
            exact ⟨_, J'.type, by simp [PySem.W.notFirst]⟩
          · rw [if_neg hc] at hok; cases hok
        | lst _ => cases hok
        | dct _ => cases hok
        | tbl => cases hok
    | tup ds =>
      obtain ⟨b, xs, rfl, t1, _⟩ := (show ∃ a xs, y = .ref a ∧ TupAt T H (FF G μ) a xs ∧ Reps T H (FF G μ) μ ds xs from hy)
      cases (show u = Value.ref b from ry)
      obtain ⟨its, rv, ⟨ob, hob, hcb, _⟩, _⟩ := I.tuple (h.K ▸ t1.sq)
      refine ⟨.type "tuple", fun A Q E s k q => wpAny_typeOf_ref (k _ _ hob) (by rw [hcb]; exact q), ?_⟩
      simp [PySem.W.notFirst, S.tu]
    | lst ds =>
      obtain ⟨b, xs, rfl, t1, _⟩ := (show ∃ a xs, y = .ref a ∧ H a = some (.lst xs) ∧ ¬ FF G μ a ∧ Reps T H (FF G μ) μ ds xs from hy)
      cases (show u = Value.ref b from ry)
      obtain ⟨its, rv, pl, hz⟩ := I.list (SqL.of t1)
      obtain ⟨ob, n, hob, hcb, _⟩ := pl
      refine ⟨.type "list", fun A Q E s k q => wpAny_typeOf_ref (k _ _ hob) (by rw [hcb]; exact q), ?_⟩
      simp [PySem.W.notFirst, S.li]
    | _ => cases hok
  obtain ⟨tb, L, hn⟩ := lk
  show wpAny (model X.prog X.w) X.A (richCompare .Eq (.ref a) u) _ _ _
  refine PySem.W.cmp_K (op := .Eq) (tb := tb) (by omega) hF I.ok.mod.kin J L hn S.hs S.hf ?_
  have sp : spC T cf f 2 [.ref a, y] H Q E0 := ⟨G, μ, st, [.ref i, d], r, st', g, ⟨_, _, rfl, ⟨a, rfl, hμ⟩, _, _, rfl, hy, rfl⟩, rfl, hcf, q⟩
  have hl : ([Value.ref a, u] ++ ([] : List Value)).length = ps.length := by rw [← F1.len _ _ _ _ sp]; rfl
  refine wpAny_mono (Q := fun w s' => EP X pins σ Q w s') (wpAny_call (codeAny_mono (F1.run X.A X.stack s H ⟨[.ref a, u], []⟩ [.ref a, u] [.ref a, y] Q E0 (hr.mono (Nat.le_succ _)) I.env0 (hb s [.ref a, u] I.kIn hl) (.cons rfl (.cons ry .nil)) sp) fun r s' hq => ?_)) (fun w s' z => ?_) fun _ _ x => x
  · cases r with
    | error e => exact (show False from hq).elim
    | ok fl =>
      cases fl with
      | ret u => exact I.after hq
      | next => exact False.elim hq
      | brk => exact False.elim hq
      | cont => exact False.elim hq
  · obtain ⟨z', H', I', rz, qz⟩ := z
    exact SlX.cmpback rz ⟨z', H', I', rz, qz⟩
structure EqoI (X : Cx) (T : Tb) (P : Prog) (cf : Calls) (m : Nat) (f : Nat) : Prop where
  ex : ∃ c ad, EqoK X.K (T.ca c) ad ∧ CallI X T cf ad f 2 ∧ ∀ c' f', P.mth c' m = some f' → c' = c ∧ f' = f
theorem eqoR {m c : Nat} (hu : ∀ c' f', P.mth c' m = some f' → c' = c ∧ f' = f) {σ : L2.St} {H : Hp} {Q : VK} (hh : rdE T false false (evE P cf (.eqo m xa xb)) σ H Q) : tOp (rEqO T cf f c) (rdE T fa false (evE P cf xa)) (rdE T fb false (evE P cf xb)) σ H Q := by
  obtain ⟨G, μ, env, st, d, st', g, ev, q⟩ := hh
  obtain ⟨x, st1, e1, k2⟩ := bnd_inv (show bnd (evE P cf xa env) (fun x => bnd (evE P cf xb env) fun y => bnd (clsOf x) fun c => bnd (eqoOk c.1 y) fun _ => match P.mth c.1 m with | some f => cf f [x, y] | none => fail) st = .ok d st' from ev)
  obtain ⟨y, st2, e2, k3⟩ := bnd_inv k2
  obtain ⟨r, st3, e3, k4⟩ := bnd_inv k3
  obtain ⟨i, fs, rfl, h1, rfl⟩ := clsOf_inv e3
  obtain ⟨⟨⟩, st4, e4, k5⟩ := bnd_inv k4
  have hst : st4 = st3 := by
    revert e4
    cases y <;> simp only [eqoOk] <;> intro e4 <;> first | (obtain ⟨_, rfl⟩ := ret_inv e4; rfl) | (cases e4; done) | skip
    rename_i j
    cases hj : st3[j]? with
    | none => simp only [hj] at e4; cases e4
    | some ob =>
      simp only [hj] at e4
      cases ob with
      | ins c' fs' =>
        dsimp only at e4
        by_cases hc : c' = r.1
        · rw [if_pos hc] at e4; cases e4; rfl
        · rw [if_neg hc] at e4; cases e4
      | lst _ => cases e4
      | dct _ => cases e4
      | tbl => cases e4
  subst hst
  cases hz : P.mth r.1 m with
  | none => simp only [hz] at k5; cases k5
  | some f' =>
    simp only [hz] at k5
    obtain ⟨hcc, rfl⟩ := hu _ _ hz
    refine ⟨G, μ, env, st, _, st1, g, e1, fun v H1 μ1 p1 r1 => ⟨G, μ1, env, st1, y, _, g.post p1, e2, fun u H2 μ2 p2 r2 => ?_⟩⟩
    have g2 := (g.post p1).post p2
    rw [hcc] at h1 e4
    exact ⟨G, μ2, _, i, fs, y, d, st', g2.toGoodT, Rep.mv p2.mv _ _ (r1.rep rfl), r2.rep rfl, h1, e4, k5, fun w H3 μ3 p3 r3 => q w H3 μ3 ((p1.trans p2).trans p3) (.of0 r3)⟩
theorem xe_eqo {m : Nat} (h : XT T X) (M : EqoI X T P cf m f) (ha : PX X T P cf a xa fa false) (hb : PX X T P cf b xb fb false) (hm : behindInMarks .Eq b = false) : PX X T P cf (.Compare a [.Eq] [b] pos) (.eqo m xa xb) false false := by
  obtain ⟨c, ad, S, F, hu⟩ := M.ex
  exact PE.imp (pe_cmpR (op_ownD h S F) ha hb hm) fun σ H Q z => eqoR hu z
theorem xt_eqo {m : Nat} (h : XT T X) (M : EqoI X T P cf m f) (ha : PX X T P cf a xa fa false) (hb : PX X T P cf b xb fb false) (hm : behindInMarks .Eq b = false) : PXT X T P cf (.Compare a [.Eq] [b] pos) (.eqo m xa xb) := by
  obtain ⟨c, ad, S, F, hu⟩ := M.ex
  refine PT.imp (pt_cmpR (op_ownD h S F) ha hb hm) fun σ H Q ⟨G, μ, env, st, b', st', g, e, q⟩ => ?_
  obtain ⟨w, st0, e0, e9⟩ := bnd_inv e
  obtain ⟨rfl, rfl⟩ := blD_inv e9
  exact eqoR hu ⟨G, μ, env, st, _, _, g, e0, fun v H' μ' p1 r1 => ⟨_, r1.pkr, q H' μ' p1⟩⟩
end
end PD
end ZPDTxt3
section ZPDRev
set_option Elab.async false
set_option linter.all false
set_option maxRecDepth 100000
set_option maxHeartbeats 1000000
namespace PD
open PySem PySem.Spec L2 PyProof.Rows
/-! xs[::-1], a list or a tuple -/
theorem adjust_back (n : Nat) : Builtin.Slice.sliceAdjust none none (-1) (n : Int) = ((n : Int) - 1, -1) := by
  unfold Builtin.Slice.sliceAdjust
  have h1 : ((-1 : Int) < 0) := by omega
  simp only [h1, if_true]
theorem places_back (n : Nat) : Builtin.Slice.slicePlaces ((n : Int) - 1) (-1) (-1) = n := by
  unfold Builtin.Slice.slicePlaces
  have h1 : ¬ ((-1 : Int) > 0) := by omega
  have h2 : (-(-1) : Int) = 1 := rfl
  simp only [h1, if_false, h2, Int.ediv_one]
  split <;> omega
theorem fm_congr {α β : Type} {f g : α → Option β} : ∀ {l : List α}, (∀ x ∈ l, f x = g x) → l.filterMap f = l.filterMap g
  | [], _ => rfl
  | x :: l, h => by
    rw [List.filterMap_cons, List.filterMap_cons, h x (List.mem_cons_self ..), fm_congr fun y hy => h y (List.mem_cons_of_mem _ hy)]
theorem range_back (xs : List Value) : (List.range xs.length).filterMap (fun (m : Nat) => xs[xs.length - 1 - m]?) = xs.reverse := by
  have e : (List.range xs.length).filterMap (fun (m : Nat) => xs[xs.length - 1 - m]?) = (List.range xs.length).filterMap (fun (m : Nat) => xs.reverse[m]?) := by
    refine fm_congr fun m hm => ?_
    have := List.mem_range.mp hm
    rw [List.getElem?_reverse this]
  rw [e]
  have key : ∀ ys : List Value, (List.range ys.length).filterMap (fun (m : Nat) => ys[m]?) = ys := fun ys => by
    induction ys with
    | nil => rfl
    | cons y ys ih =>
      rw [List.length_cons, List.range_succ_eq_map, List.filterMap_cons, List.filterMap_map]
      exact congrArg _ ih
  have := key xs.reverse
  rwa [List.length_reverse] at this
theorem pick_back (xs : Array Value) : ((List.range xs.size).filterMap fun (m : Nat) => xs[((xs.size : Int) - 1 + (m : Int) * (-1)).toNat]?).toArray = xs.toList.reverse.toArray := by
  rw [← range_back xs.toList, Array.length_toList]
  congr 1
  refine fm_congr fun m hm => ?_
  have := List.mem_range.mp hm
  rw [Array.getElem?_toList]
  congr 1
  omega
section
variable {prog : Program} {w : World} {A : Around} {E : Value → Shared → Prop} {s : Shared}
theorem applied_back {sl : Addr} {vs : Value} {n : Nat} {Q : Int × Int × Nat → Shared → Prop} (hs : s.heap.IsSliceOf sl .none .none vs) (ps : IsPart vs (some (-1)))
    (h : Q ((n : Int) - 1, -1, n) s) : wpAny (model prog w) A (Builtin.Slice.sliceApplied (.ref sl) (pure (n : Int))) Q E s := by
  obtain ⟨os, o1, o2, o3⟩ := id hs
  unfold Builtin.Slice.sliceApplied Builtin.Slice.sliceFields
  refine wpAny_bind (wpAny_bind (wpAny_field o1 o3 (x := .none) rfl (wpAny_bind (wpAny_field o1 o3 (x := .none) rfl (wpAny_bind (wpAny_field o1 o3 (x := vs) rfl (wpAny_pure ?_)))))))
  refine wpAny_bind (HT.slicePart_ ps ?_)
  show wpAny _ _ (if ((-1 : Int) == 0) = true then _ else _) _ _ s
  rw [if_neg (by decide)]
  refine wpAny_bind (HT.slicePart_ .none (wpAny_bind (HT.slicePart_ .none (wpAny_bind (wpAny_pure ?_)))))
  show wpAny _ _ (match Builtin.Slice.sliceAdjust none none (-1) (n : Int) with | (lo, hi) => pure (lo, (-1 : Int), Builtin.Slice.slicePlaces lo hi (-1))) _ _ s
  rw [adjust_back n]
  show wpAny _ _ (pure ((n : Int) - 1, (-1 : Int), Builtin.Slice.slicePlaces ((n : Int) - 1) (-1) (-1))) _ _ s
  rw [places_back]
  exact wpAny_pure h
theorem getItem_tuple_back {t sl : Addr} {items : Array Value} {vs : Value} {Q : Value → Shared → Prop} (ht : IsTup s.heap t items) (hs : s.heap.IsSliceOf sl .none .none vs) (ps : IsPart vs (some (-1)))
    (h : Q (.ref s.heap.objs.size) { s with heap := s.heap.push { cls := .type "tuple", data := .seq items.toList.reverse.toArray } }) (hz : items.size ≤ sizeLine) : wpAny (model prog w) A (getItem (.ref t) (.ref sl)) Q E s := by
  have fits : sizeOk (.seq items.toList.reverse.toArray) := by
    show items.toList.reverse.toArray.size ≤ sizeLine
    rw [List.size_toArray, List.length_reverse, Array.length_toList]; exact hz
  obtain ⟨os, o1, o2, o3⟩ := id hs
  unfold getItem
  try with_reducible refine wpAny_holding ?_
  first | refine wpAny_bind (wpAny_pure ?_) | skip
  refine wpAny_bind (wpAny_sequenceKey ht.typeIs (by decide) ?_)
  refine wpAny_bind (wpAny_callSpecial?_slot (name := Str.ofString "__getitem__") ht.typeIs PyProof.Rows.slot_tuple_getitem (wpAny_call_entry PyProof.Rows.slot_tuple_getitem ht.typeIs entry_tuple_getitem ?_ (args_tuple_getitem _ _)))
  show wpAny _ _ (Builtin.Tuple.tupleItemsOf (.ref t) >>= _) _ _ s
  refine wpAny_bind (tupleItemsOf_ ht (wpAny_bind (wpAny_typeOf (T := "slice") ⟨os, o1, o2⟩ ?_)))
  rw [if_pos (by decide)]
  refine wpAny_bind (applied_back hs ps ?_)
  show wpAny _ _ (if (((items.size : Int) - 1) == 0 && (-1 : Int) == 1 && items.size == items.size) = true then _ else _) _ _ s
  rw [if_neg (by
    have : ((-1 : Int) == 1) = false := by decide
    rw [this, Bool.and_false, Bool.false_and]; exact Bool.false_ne_true), pick_back]
  first
    | exact wpAny_bind (m := Builtin.Tuple.tupleExact _) (wpAny_newObj_type (wpAny_pure ⟨_, rfl, wpAny_pure h⟩) fits)
    | exact wpAny_bind (m := Builtin.Tuple.tupleExact _) (wpAny_newObj_type (wpAny_bind (wpAny_pure (wpAny_pure ⟨_, rfl, wpAny_pure h⟩))) fits)
    | exact wpAny_bind (wpAny_bind (m := Builtin.Tuple.tupleExact _) (wpAny_newObj_type (wpAny_pure (wpAny_pure ⟨_, rfl, wpAny_pure h⟩)) fits))
end
def tRevA (K : PySem.W.Frag) (te : TE) : TE := fun σ H Q => te σ H fun x H1 => ∃ a xs, x = .ref a ∧ ((SqL K H1 a xs ∧ ∀ p, H1 p = none → Q (.ref p) (upd H1 p (.lst xs.reverse))) ∨ (SqT K H1 a xs ∧ ∀ p, H1 p = none → Q (.ref p) (upd H1 p (.tup xs.reverse))))
theorem pe_revA {X : Cx} {e : Expr} {te : TE} {k : Nat} {p1 p2 p3 pos : Pos} (he : PE X e te) : PE X (.Subscript e (.Slice none none (some (.UnaryOp .USub (.Constant (.int 1) k p1) p2)) p3) pos) (tRevA X.K te) := by
  refine ⟨fun pins s σ H Q I h => Subscript_ (thn (he.run pins s σ H _ I h) fun v s1 ⟨x, H1, I1, r1, a, xs, ex, q1⟩ => ?_)⟩
  subst ex
  cases r1
  have hst : PO X (some (.UnaryOp .USub (.Constant (.int 1) k p1) p2)) (tPart (tUn (rU fun i => .int (-i)) (tC (.int 1)))) := po_some (pe_un un_neg pe_int)
  refine wpAny_Slice (thn (po_none.run pins s1 σ H1 (fun o H2 => o = none ∧ H2 = H1) I1 ⟨rfl, rfl⟩) fun vl s2 ⟨l, H2, I2, pl, el, e2⟩ => ?_)
  subst el e2
  refine thn (po_none.run pins s2 σ H2 (fun o H3 => o = none ∧ H3 = H2) I2 ⟨rfl, rfl⟩) fun vu s3 ⟨u, H3, I3, pu, eu, e3⟩ => ?_
  subst eu e3
  refine thn (hst.run pins s3 σ H3 (fun o H4 => o = some (-1) ∧ H4 = H3) I3 ⟨1, rfl, -1, rfl, rfl, rfl⟩) fun vs s4 ⟨o, H4, I4, ps, eo, e4⟩ => ?_
  subst eo e4
  have I5 : Inv X pins σ H4 { s4 with heap := s4.heap.push { cls := .type "slice", data := .fields #[vl, vu, vs] } } := I4.kept (t' := s4.toks) fun b ob q => Heap.get?_push_of_some _ q
  show wpAny (model X.prog X.w) X.A (subscriptTail e (.Slice none none (some (.UnaryOp .USub (.Constant (.int 1) k p1) p2)) p3) (.ref a) (.ref s4.heap.objs.size)) (EP X pins σ Q) X.xe { s4 with heap := s4.heap.push { cls := .type "slice", data := .fields #[vl, vu, vs] } }
  rcases q1 with ⟨hx, q⟩ | ⟨hx, q⟩
  · obtain ⟨its, r, ht, hz⟩ := I5.list hx
    refine tail_any (ops := [.ref a, .ref s4.heap.objs.size]) ht.isList.typeIs (PySem.slot_list_getitem.lookup) ?_ (by with_unfolding_all rfl)
    refine wpAny_getItem_list_slice ht.isList (Heap.IsSliceOf.new _ vl vu vs) pl pu ps (by decide) ?_ (by rw [List.size_toArray, ← r.length]; exact hz)
    rw [PySem.W.krv_pick]
    exact ⟨.ref _, _, I5.laid (t' := s4.toks) (o := .lst xs.reverse) (fun b ob q => Heap.get?_push_of_some _ q) (Nat.le_refl _) ⟨by rw [List.length_reverse]; exact hz, _, 0, r.reverse, Heap.get?_push_size _ rfl⟩, rfl, q _ (I5.hok.fresh (Nat.le_refl _))⟩
  · obtain ⟨its, r, ht, hz⟩ := I5.tuple hx
    have e1 : vl = .none := by cases pl; rfl
    have e2 : vu = .none := by cases pu; rfl
    subst e1 e2
    refine tail_any (ops := [.ref a, .ref s4.heap.objs.size]) ht.typeIs (PyProof.Rows.slot_tuple_getitem.lookup) ?_ (by with_unfolding_all rfl)
    refine getItem_tuple_back ht (Heap.IsSliceOf.new _ .none .none vs) ps ?_ (by rw [List.size_toArray, ← r.length]; exact hz)
    have I6 := I5.laid (t' := s4.toks) (h' := Heap.push _ { cls := .type "tuple", data := .seq its.toArray.toList.reverse.toArray }) (o := .tup xs.reverse) (fun b ob q => Heap.get?_push_of_some _ q) (Nat.le_refl _) (show ObjOk X.prog X.w _ _ _ (.tup xs.reverse) from ⟨by rw [List.length_reverse]; exact hz, its.reverse, r.reverse, by
      have : its.toArray.toList.reverse.toArray = its.reverse.toArray := by simp
      rw [this]; exact IsTup.new _ _⟩)
    exact ⟨.ref _, _, I6, rfl, q _ (I5.hok.fresh (Nat.le_refl _))⟩
section
variable {X : Cx} {T : Tb} {P : Prog} {cf : Calls} {e : Expr} {xe : PD.X} {fe : Bool} {G : Addr → Prop} {μ : List Addr} {H : Hp} {F : Addr → Prop}
theorem Reps.back : ∀ {ds : List D} {xs : List V}, Reps T H (FF G μ) μ ds xs → Reps T H (FF G μ) μ ds.reverse xs.reverse
  | [], _, h => by obtain rfl : _ = [] := h; rfl
  | d :: ds, _, h => by
    obtain ⟨x, r, rfl, h0, h1⟩ := h
    rw [List.reverse_cons, List.reverse_cons]
    exact Reps.append (Reps.back h1) ⟨x, [], rfl, h0, rfl⟩
theorem xe_rev {k : Nat} {p1 p2 p3 pos : Pos} (h : XT T X) (he : PX X T P cf e xe fe false) : PX X T P cf (.Subscript e (.Slice none none (some (.UnaryOp .USub (.Constant (.int 1) k p1) p2)) p3) pos) (.rev xe) true false := by
  refine PE.imp (pe_revA he) fun σ H Q ⟨G, μ, env, st, d, st', g, ev, q⟩ => ?_
  obtain ⟨x, st1, e1, k2⟩ := bnd_inv (show bnd (evE P cf xe env) (fun x => match x with
    | .lst ds => if ds.length ≤ LIM then ret (D.lst ds.reverse) else fail
    | .tup ds => if ds.length ≤ LIM then ret (D.tup ds.reverse) else fail
    | _ => fail) st = .ok d st' from ev)
  cases x <;> simp only [fail_ap, reduceCtorEq] at k2
  · obtain ⟨hz, k3⟩ := ite_inv k2
    obtain ⟨rfl, rfl⟩ := ret_inv k3
    refine ⟨G, μ, env, st, _, _, g, e1, fun v H1 μ1 p1 r1 => ?_⟩
    have g1 := g.toGoodT.post p1
    obtain ⟨a, xs, rfl, t1, t2⟩ := (show Rep T H1 (FF G μ1) μ1 _ v from r1.pkr)
    exact ⟨a, xs, rfl, .inr ⟨h.K ▸ t1.sq, (Ans.q g.toGoodT p1 q id).tup g1 t2.back⟩⟩
  · obtain ⟨hz, k3⟩ := ite_inv k2
    obtain ⟨rfl, rfl⟩ := ret_inv k3
    refine ⟨G, μ, env, st, _, _, g, e1, fun v H1 μ1 p1 r1 => ?_⟩
    have g1 := g.toGoodT.post p1
    obtain ⟨a, rfl, _, xs, h1, h2⟩ := r1.pkr
    exact ⟨a, xs, rfl, .inl ⟨SqL.of h1, (Ans.q g.toGoodT p1 q id).lst g1 h2.back⟩⟩
end
end PD
end ZPDRev
section ZPDIdx
set_option Elab.async false
set_option linter.all false
set_option maxRecDepth 100000
set_option maxHeartbeats 1000000
namespace PD
open PySem PySem.Spec L2 PyProof.Rows
/-! xs.index(x), a list of texts -/
theorem idxS_spec {x : Str} : ∀ {ys : List Str} {j : Nat}, idxS x ys = some j → ys[j]? = some x ∧ ∀ m, m < j → ∀ y, ys[m]? = some y → (y == x) = false
  | [], _, h => by cases h
  | y :: r, j, h => by
    unfold idxS at h
    by_cases c : (y == x) = true
    · rw [if_pos c] at h
      cases h
      exact ⟨by rw [eq_of_beq c]; rfl, fun m hm => absurd hm (Nat.not_lt_zero _)⟩
    · rw [if_neg c] at h
      obtain ⟨k, hk, rfl⟩ := Option.map_eq_some_iff.mp h
      obtain ⟨h1, h2⟩ := idxS_spec hk
      refine ⟨by simpa using h1, fun m hm z hz => ?_⟩
      cases m with
      | zero =>
        simp at hz
        subst hz
        exact Bool.eq_false_iff.mpr c
      | succ m => exact h2 m (by omega) z (by simpa using hz)
def isTx (x : Str) : Value → Bool
  | .str y _ => y.cps.toList == x.cps.toList
  | _ => false
theorem tx_beq {y x : Str} : (y.cps.toList == x.cps.toList) = (y == x) := by
  by_cases h : y = x
  · subst h; rw [beq_self_eq_true, beq_self_eq_true]
  · have h2 : y.cps.toList ≠ x.cps.toList := fun e => h (by
      obtain ⟨a⟩ := y
      obtain ⟨b⟩ := x
      simpa using e)
    rw [beq_eq_false_iff_ne.mpr h, beq_eq_false_iff_ne.mpr h2]
theorem mt_lindex {X : Cx} : MtR X "list.index" (fun x xs H Q => ∃ (p : Addr) (ys : List Str) (z : Str) (j : Nat), x = .ref p ∧ xs = [.str z] ∧ SqL X.K H p (ys.map V.str) ∧ idxS z ys = some j ∧ ys.length ≤ 1000 ∧ H p = some (.lst (ys.map V.str)) ∧ Q (.int (j : Nat)) H) := by
  intro pins s σ H x xs v us Q I rx rs h
  obtain ⟨p, ys, z, j, rfl, rfl, hq, hi, hlen, hp, q⟩ := h
  cases rx
  obtain ⟨u, rfl, t, rfl⟩ := vals1 rs
  obtain ⟨hz, its, n, r, hl, e⟩ := I.lstM hp
  have hsz : its.toArray.size = ys.length := by rw [List.size_toArray, ← hl, List.length_map]
  obtain ⟨h1, h2⟩ := idxS_spec hi
  have hj : j < its.toArray.size := by rw [hsz]; exact (List.getElem?_eq_some_iff.mp h1).1
  have at' : ∀ (m : Nat) (hm : m < its.toArray.size), ∃ y t', ys[m]? = some y ∧ its.toArray[m] = Value.str y t' := fun m hm => by
    have hm' : m < ys.length := by rw [← hsz]; exact hm
    obtain ⟨w, hw, t', hw'⟩ := r.get (i := m) (x := .str ys[m]) (by simp [hm'])
    refine ⟨ys[m], t', List.getElem?_eq_getElem hm', ?_⟩
    have e := (List.getElem?_eq_some_iff.mp hw).2
    rw [← hw', ← e]
    simp
  refine call_meets PySem.F.slot_list_index ⟨_, e, rfl⟩ PySem.F.entry_list_index (PySem.F.args_list_index_2 _ _)
    (MeetsSeq.list_index p its.toArray n (.str z t) (isTx z) (fun y hy => ?_) j hj (by omega) ?_ fun m hm hmj => ?_) ⟨e, .int (j : Nat), H, I.tok _, ⟨_, rfl⟩, q⟩
  · obtain ⟨m, hm, rfl⟩ := Array.mem_iff_getElem.mp hy
    obtain ⟨y, t', _, e2⟩ := at' m hm
    rw [e2]
    exact SeqRoads2.EqGives.str y z t' t
  · obtain ⟨y, t', e1, e2⟩ := at' j hj
    rw [h1] at e1
    cases e1
    rw [e2]
    exact beq_self_eq_true _
  · obtain ⟨y, t', e1, e2⟩ := at' m hm
    rw [e2]
    show (y.cps.toList == z.cps.toList) = false
    rw [tx_beq]
    exact h2 m hmj y e1
theorem type_lindex : typeOf (.builtin "list.index") = pure (.type "method_descriptor") := by kernel_rfl
section
variable {X : Cx} {T : Tb} {P : Prog} {cf : Calls} {pos apos : Pos} {o e : Expr} {xo xe : PD.X} {fa fe : Bool}
theorem xe_ixo (h : XT T X) (ho : PX X T P cf o xo fa false) (he : PX X T P cf e xe fe false) (hbase : attributeBase o "index" X.env (eval o X.env) = eval o X.env)
    (hfew : ((backTo pos (starEach [e] X.env)).all (fun x => !x.1) && (backToKw pos (keywordEach [] X.env)).all (fun x => x.1.isSome) && decide ([e].length + ([] : List Keyword).length + (if ([] : List Keyword).isEmpty then 0 else 1) < 30)) = true)
    (hline : (apos.endLine == pos.line) = true) (hs : starEach [e] X.env = (false, eval e X.env) :: starEach [] X.env) (hpl : (backTo pos (starEach [] X.env)).any (·.1) = false) :
    PX X T P cf (.Call (.Attribute o "index" apos) [e] [] pos) (.ixo xo xe) false false := by
  refine PE.imp (pe_bm PySem.F.plainAttrs_list PySem.F.slot_list_index type_lindex mt_lindex ho (pa_cons he pa_nil hs) hbase hfew hline hs hpl) fun σ H Q ⟨G, μ, env, st, d, st', g, ev, q⟩ => ?_
  obtain ⟨x, st1, e1, k2⟩ := bnd_inv (show bnd (evE P cf xo env) (fun x => bnd (evE P cf xe env) fun y => match x, y with
    | .lst ds, .str z => match dStrs ds with
      | some ys => (match idxS z ys with
        | some k => if ys.length ≤ 1000 then ret (D.int k) else fail
        | none => fail)
      | none => fail
    | _, _ => fail) st = .ok d st' from ev)
  obtain ⟨y, st2, e2, k3⟩ := bnd_inv k2
  cases x <;> cases y <;> simp only [fail_ap, reduceCtorEq] at k3
  rename_i ds z
  cases hd : dStrs ds with
  | none => rw [hd] at k3; cases k3
  | some ys =>
    rw [hd] at k3
    dsimp only at k3
    cases hi : idxS z ys with
    | none => rw [hi] at k3; cases k3
    | some j =>
      rw [hi] at k3
      obtain ⟨hz, k4⟩ := ite_inv k3
      obtain ⟨rfl, rfl⟩ := ret_inv k4
      refine ⟨G, μ, env, st, _, st1, g, e1, fun v H1 μ1 p1 r1 => ?_⟩
      obtain ⟨p, xs, rfl, h1, hn, h2⟩ := r1.rep rfl
      obtain rfl := strs_rep h2 hd
      refine ⟨.inl ⟨rfl, _, SqL.of h1⟩, G, μ1, env, st1, _, _, g.post p1, e2, fun u H2 μ2 p2 r2 => ?_⟩
      obtain rfl : u = V.str z := r2.pkr
      have h1' : H2 p = some (.lst (ys.map V.str)) := p2.keep p _ h1 fun w => hn (.inl w)
      exact ⟨p, ys, z, j, rfl, rfl, SqL.of h1', hi, hz, h1', q _ H2 μ2 (p1.trans p2) (.of0 rfl)⟩
end
end PD
end ZPDIdx
section ZPDSet
set_option Elab.async false
set_option linter.all false
set_option maxRecDepth 100000
set_option maxHeartbeats 3200000
namespace PD
open PySem PySem.Spec L2 PyProof.Rows
/-! len(set(xs)), a list of texts -/
theorem dist_snoc (x : Str) : ∀ l : List Str, distS (l ++ [x]) = if l.contains x then distS l else distS l + 1
  | [] => rfl
  | y :: l => by
    have ih := dist_snoc x l
    show (if (l ++ [x]).contains y then 0 else 1) + distS (l ++ [x]) = if (y :: l).contains x then (if l.contains y then 0 else 1) + distS l else (if l.contains y then 0 else 1) + distS l + 1
    rw [ih]
    have e1 : (l ++ [x]).contains y = (l.contains y || (y == x)) := by
      rw [Bool.eq_iff_iff]
      simp
    have e2 : (y :: l).contains x = ((y == x) || l.contains x) := by
      rw [List.contains_cons, show (x == y) = (y == x) from BEq.comm]
    rw [e1, e2]
    by_cases hyx : y = x
    · subst hyx
      cases hc : l.contains y <;> simp [hc] <;> omega
    · have : (y == x) = false := by rw [beq_eq_false_iff_ne]; exact hyx
      rw [this]
      cases hc : l.contains x <;> cases hd : l.contains y <;> simp <;> omega
theorem dist_le : ∀ l : List Str, distS l ≤ l.length
  | [] => Nat.le_refl _
  | y :: l => by
    have := dist_le l
    show (if l.contains y then 0 else 1) + distS l ≤ l.length + 1
    split <;> omega
section
variable {prog : Program} {w : World} {A : Around} {R : Result → Shared → Prop} {I : Addr} {fp wr : List Addr} {G : Array GenState → Array GenState → Prop} {n : Nat} {P : Nat → Value → Prop} {St : Nat → Shared → Prop}
/-- the set has what of the list was met -/
def Met (prog : Program) (w : World) (h : Heap) (S : Addr) (l : List Str) : Prop := h.SetOf (PySem.strKind prog w) S (fun k => l.contains k) (distS l)
theorem Met.at {h h' : Heap} {S : Addr} {l : List Str} (m : Met prog w h S l) (k : ∀ o, h.get? S = some o → h'.get? S = some o) : Met prog w h' S l := by
  obtain ⟨o, es, ep, t, ho, more⟩ := m
  exact ⟨o, es, ep, t, k o ho, more⟩
theorem set_texts (W : WalksS prog w A.in1 I fp wr G n P St) {S : Addr} (hS : S ∉ fp) (xs : List Str) (hn : n = xs.length) (hb : n < 4000) (hv : ∀ i v, P i v → ∃ x t, xs[i]? = some x ∧ v = .str x t) :
    ∀ (todo i : Nat) (s s0 : Shared), i + todo = n → St i s → Moved (S :: wr) G s0 s → Met prog w s.heap S (xs.take i) → (∀ s', Moved (S :: wr) G s0 s' → Met prog w s'.heap S xs → R (.ok (.ret .none)) s') →
      codeAny (model prog w) A (.builtin "set.update.loop" ⟨[.ref S, .ref I], []⟩) R s := by
  have out : S ∉ wr := fun z => hS (W.sub _ z)
  have wide : ∀ b ∈ wr, b ∈ S :: wr := fun b hb => List.mem_cons_of_mem _ hb
  intro todo
  induction todo with
  | zero =>
    intro i s s0 hi st mv met fin
    have hin : i = n := by omega
    subst hin
    refine codeAny_builtin PyProof.Rows.F.entry_set_update_loop ?_
    rw [Around.under_plainId PyProof.Rows.F.plain_set_update_loop _]
    refine (show wpAny (model prog w) A.in1 (pyNext (.ref I) >>= _) _ _ s from wpAny_bind (W.done s _ _ st fun s' m => ?_))
    refine (show wpAny (model prog w) A.in1 (PySem.ret Value.none) _ _ s' from wpAny_pure (fin s' (Moved.trans W.gtrans mv (m.mono wide)) ?_))
    rw [List.take_of_length_le (by omega)] at met
    exact met.at fun o e => m.heap S o out e
  | succ todo ih =>
    intro i s s0 hi st mv met fin
    refine codeAny_builtin PyProof.Rows.F.entry_set_update_loop ?_
    rw [Around.under_plainId PyProof.Rows.F.plain_set_update_loop _]
    refine (show wpAny (model prog w) A.in1 (pyNext (.ref I) >>= _) _ _ s from wpAny_bind (W.item i s _ _ (by omega) st fun v s' hp st' m => ?_))
    obtain ⟨x, t, hx, rfl⟩ := hv i v hp
    have met' : Met prog w s'.heap S (xs.take i) := met.at fun o e => m.heap S o out e
    refine (show wpAny (model prog w) A.in1 (holding [Value.str x t] (setAdd S (.str x t)) >>= _) _ _ s' from wpAny_bind (wpAny_holding ?_))
    unfold setAdd
    refine wpAny_holding (wpAny_bind ((PySem.strKind prog w).pyHash (k := x) (strKind_is _ _ _ _) ?_))
    have hle := dist_le (xs.take i)
    rw [List.length_take] at hle
    refine wpAny_setAddHashed_of (knd := PySem.strKind prog w) (s := { s' with toks := s'.toks + 1 }) (strKind_is _ _ _ _) rfl met' (by unfold scanBound; omega) fun h' same grown => ?_
    have et : xs.take (i + 1) = xs.take i ++ [x] := by rw [List.take_add_one, hx]; rfl
    have met2 : Met prog w h' S (xs.take (i + 1)) := by
      rw [et]
      refine SetOf_congr grown (fun k => ?_) (dist_snoc x _).symm
      show ((xs.take i).contains k || decide (k = x)) = (xs.take i ++ [x]).contains k
      rw [Bool.eq_iff_iff]
      simp
    have mv2 : Moved (S :: wr) G s0 { s' with heap := h', toks := s'.toks + 1 } := (Moved.trans W.gtrans mv (m.mono wide)).then_heap (Nat.le_succ _) fun b o hb e => by
      rw [same.2 b (fun z => hb (by rw [z]; exact List.mem_cons_self))]; exact e
    exact wpAny_pure ⟨plainId_quiet PyProof.Rows.F.plain_set_update_loop _, ih (i + 1) _ s0 (by omega) (W.frame _ s' _ _ st' (Nat.le_succ _) fun b hb o e => by
      rw [same.2 b (fun z => hS (by rw [← z]; exact hb))]; exact e) mv2 met2 fin⟩
end
section
variable {prog : Program} {w : World} {A : Around} {E : Value → Shared → Prop} {s : Shared}
/-- T(args) by its two built-in steps -/
theorem type_two {T newId initId : String} {args : List Value} {Q Q₁ : Value → Shared → Prop} (ft : TypeCalled T newId initId) (hct : checkTypeCall T ⟨args, []⟩ = pure ())
    (made : codeAny (model prog w) A.in1 (.call (.builtin newId) ⟨.type T :: args, []⟩) (wants Q₁ E) s)
    (filled : ∀ obj s₁, Q₁ obj s₁ → s₁.TypeIs obj T ∧ codeAny (model prog w) A.in1 (.call (.builtin initId) ⟨obj :: args, []⟩) (wants (fun r s₂ => r = .none ∧ Q obj s₂) E) s₁) : wpAny (model prog w) A (call (.type T) args) Q E s := by
  obtain ⟨c, tl, hmro⟩ := ft.mro
  have k1 := ft.made
  have k2 := ft.sub
  have k3 := ft.notType
  have k4 := ft.canCreate
  refine wpAny_call (codeAny_of_tree (show wpAny (model prog w) _ (callAny (.type T) _) _ _ _ from wpAny_pure ⟨Code.quiet_builtin _ (by decide +kernel), codeAny_builtin F.entry_type_call ?_⟩))
  rw [Around.under_plain (weight_type_call_type T args []) rfl]
  repeat (any_goals (first | assumption | wp_step))
  refine codeAny_mono made fun r s₁ hr => ?_
  match r, hr with
  | .ok (.ret obj), hr =>
    obtain ⟨hT, hi⟩ := filled obj s₁ hr
    have k5 := ft.init.lookup
    have k6 := ft.init.bind obj
    repeat (any_goals (first | assumption | wp_step))
    refine codeAny_mono hi fun r₂ s₂ hr₂ => ?_
    match r₂, hr₂ with
    | .ok (.ret r), hr₂ =>
      obtain ⟨e, hq⟩ := hr₂
      subst e
      repeat (any_goals (first | assumption | wp_step))
    | .ok .next, hr₂ => exact False.elim hr₂
    | .ok .brk, hr₂ => exact False.elim hr₂
    | .ok .cont, hr₂ => exact False.elim hr₂
    | .error e, hr₂ => exact hr₂
  | .ok .next, hr => exact False.elim hr
  | .ok .brk, hr => exact False.elim hr
  | .ok .cont, hr => exact False.elim hr
  | .error e, hr => exact hr
theorem set_init {l S : Addr} {items : Array Value} {xs : List Str} {led : Bool} {Q : Value → Shared → Prop} (hh : A.handled = none) (hl : s.heap.IsList l items) (hi : items.size = xs.length) (hv : ∀ (i : Nat) (v : Value), items[i]? = some v → ∃ x t, xs[i]? = some x ∧ v = Value.str x t) (hb : xs.length < 4000)
    (hS : s.heap.get? S = some { cls := .type "set", dict := none, data := .set #[] 0 (.fresh 0 0 led) })
    (h : ∀ (h' : Heap) (tk : Nat), Met prog w h' S xs → (∀ b o, b ≠ S → s.heap.get? b = some o → h'.get? b = some o) → Q .none { s with heap := h', toks := tk }) :
    codeAny (model prog w) A (.call (.builtin "set.__init__") ⟨[.ref S, .ref l], []⟩) (wants Q E) s := by
  have hT : s.TypeIs (.ref S) "set" := ⟨_, hS, rfl⟩
  refine codeAny_call_builtin F.called_set.init.plain F.entry_set_init (check_set_init_1 hT ?_)
  have neS : l ≠ S := fun z => by
    obtain ⟨o, ho, hc, _⟩ := hl
    rw [z, hS] at ho
    cases ho
    exact absurd hc (by simp)
  obtain ⟨⟨ocls, odict, odata, oslots⟩, hol, hcl, nl, hdl⟩ := id hl
  simp only at hcl hdl
  subst hcl hdl
  have a1 := F.sub_list_set
  have a2 := F.sub_list_frozenset
  have a3 : (Value.type "list" == Value.type "dict") = false := by decide
  unfold Builtin.«set.__init__» noKeywords Builtin.Frozenset.updateFrom
  generalize hPI : pyIter = PI
  wp_walk
  subst hPI
  refine wpAny_pyIter_list hl (wpAny_bind (wpAny_runValue ?_))
  have lS := Heap.lt_size hS
  have ll := Heap.lt_size hol
  have far : S ∉ [s.heap.objs.size, l] := by
    simp only [List.mem_cons, List.not_mem_nil, or_false, not_or]
    exact ⟨Nat.ne_of_lt lS, neS.symm⟩
  have lists : (s.heap.push { cls := .type "list_iterator", data := .fields #[.ref l, .int 0 0] }).IsList l items := hl.push _
  refine set_texts ((Walks.list (by simp [hh]) s.heap.objs.size l (Nat.ne_of_lt ll) items).toS) far xs hi (by rw [hi]; exact hb) hv items.size 0 _ { s with heap := s.heap.push { cls := .type "list_iterator", data := .fields #[.ref l, .int 0 0] } } (Nat.zero_add _) ⟨⟨_, Heap.get?_push_size _ rfl, rfl, rfl⟩, lists⟩
    ⟨fun _ _ _ e => e, rfl, rfl, rfl, Nat.le_refl _⟩ ?_ fun s' mv met => ?_
  · exact SetOf_congr ((setObjOf_fresh (knd := PySem.strKind prog w) led).setOf (Heap.get?_push_of_some _ hS) (by unfold scanBound; omega)) (fun _ => rfl) rfl
  · obtain ⟨h', g2, d', tk', os'⟩ := s'
    have eg : g2 = s.gens := mv.gens
    have ed : d' = s.drawn := mv.drawn
    have eo : os' = s.os := mv.os
    subst eg ed eo
    refine (show wpAny _ _ _ _ _ _ from wpAny_pure (show wpAny _ _ (PySem.ret Value.none) _ _ _ from wpAny_pure (h h' tk' met fun b o hb e => mv.heap b o ?_ (Heap.get?_push_of_some _ e))))
    simp only [List.mem_cons, List.not_mem_nil, or_false, not_or]
    exact ⟨hb, Nat.ne_of_lt (Heap.lt_size e)⟩
theorem call_set_texts {l : Addr} {items : Array Value} {xs : List Str} {Q : Value → Shared → Prop} (hh : A.handled = none) (hl : s.heap.IsList l items) (hi : items.size = xs.length) (hv : ∀ (i : Nat) (v : Value), items[i]? = some v → ∃ x t, xs[i]? = some x ∧ v = Value.str x t) (hb : xs.length < 4000)
    (h : ∀ (h' : Heap) (tk : Nat), Met prog w h' s.heap.objs.size xs → (∀ b o, s.heap.get? b = some o → h'.get? b = some o) → Q (.ref s.heap.objs.size) { s with heap := h', toks := tk }) :
    wpAny (model prog w) A (call (.type "set") [.ref l]) Q E s := by
  refine type_two (Q₁ := fun obj s₁ => ∃ led : Bool, obj = .ref s.heap.objs.size ∧ s₁ = { s with heap := s.heap.push { cls := .type "set", dict := none, data := .set #[] 0 (.fresh 0 0 led) } }) F.called_set (F.typeCall_set_1 _) (code_set_new_1 (A := A.in1) (.ref l) fun led => ⟨led, rfl, rfl⟩) fun obj s₁ h₁ => ?_
  obtain ⟨led, e1, e2⟩ := h₁
  subst e1 e2
  have hS : (s.heap.push { cls := .type "set", dict := none, data := .set #[] 0 (.fresh 0 0 led) }).get? s.heap.objs.size = some { cls := .type "set", dict := none, data := .set #[] 0 (.fresh 0 0 led) } := Heap.get?_push_size _ rfl
  exact ⟨⟨_, hS, rfl⟩, set_init (A := A.in1) hh (hl.push _) hi hv hb hS fun h' tk met k => ⟨rfl, h h' tk met fun b o e => k b o (Nat.ne_of_lt (Heap.lt_size e)) (Heap.get?_push_of_some _ e)⟩⟩
end
section
variable {X : Cx} {T : Tb} {P : Prog} {cf : Calls} {p p2 q0 pos : Pos} {e : Expr} {xe : PD.X} {fe : Bool}
/-- len(set(e)) -/
theorem xe_lns (h : XT T X) (hg : Gl X "len") (hm : X.mg "len" = none) (hg2 : Gl X "set") (hm2 : X.mg "set" = none) (he : PX X T P cf e xe fe false) (hs : starEach [e] X.env = (false, eval e X.env) :: starEach [] X.env) :
    PX X T P cf (.Call (.Name "len" p) [.Call (.Name "set" p2) [e] [] q0] [] pos) (.lns xe) false false := by
  refine ⟨fun pins s σ H Q I ⟨G, μ, env, st, d, st', g, ev, q⟩ => ?_⟩
  obtain ⟨x, st1, e1, k2⟩ := bnd_inv (show bnd (evE P cf xe env) (fun x => match x with
    | .lst ds => match dStrs ds with
      | some ys => if ys.length ≤ 1000 then ret (D.int (distS ys)) else fail
      | none => fail
    | _ => fail) st = .ok d st' from ev)
  cases x <;> simp only [fail_ap, reduceCtorEq] at k2
  rename_i ds
  cases hd : dStrs ds with
  | none => rw [hd] at k2; cases k2
  | some ys =>
    rw [hd] at k2
    obtain ⟨hz, k4⟩ := ite_inv k2
    obtain ⟨rfl, rfl⟩ := ret_inv k4
    refine Call_ (ld_blt I hg hm boot_len (callWith_builtin1 (args_cons ?_ rfl) rfl rfl))
    refine Call_ (ld_blt I hg2 hm2 boot_set (callWith_type1 (args_cons (thn (he.run pins s σ H (fun v H1 => ∃ μ1, Post T G μ H μ1 H1 st1 ∧ Rep T H1 (FF G μ1) μ1 (.lst ds) v) I ⟨G, μ, env, st, _, st1, g, e1, fun v H1 μ1 p1 r1 => ⟨μ1, p1, r1.rep rfl⟩⟩) fun v s1 ⟨x, H1, I1, r1, μ1, p1, rp⟩ => args_nil ?_) hs) hs rfl))
    obtain ⟨a, xs, rfl, h1, hn, h2⟩ := rp
    obtain rfl := strs_rep h2 hd
    cases r1
    obtain ⟨its, r, pl, hz1⟩ := I1.list (SqL.of h1)
    have hl : its.toArray.size = ys.length := by rw [List.size_toArray, ← r.length, List.length_map]
    refine call_set_texts (I1.ok.hd h.c) pl.isList hl (fun i v hv => ?_) (by omega) fun h' tk met k => args_nil ?_
    · have hi : i < ys.length := by rw [← hl]; exact (Array.getElem?_eq_some_iff.mp hv).1
      obtain ⟨w, hw, t, hw'⟩ := r.get (i := i) (x := .str ys[i]) (by simp [hi])
      refine ⟨ys[i], t, List.getElem?_eq_getElem hi, ?_⟩
      rw [List.getElem?_toArray, hw] at hv
      exact (Option.some.inj hv).symm.trans hw'
    · obtain ⟨o, es, ep, tb, ho, hex, hdt, _, _, _, hf, hcount⟩ := met
      have I2 : Inv X pins σ H1 { s1 with heap := h', toks := tk } := I1.kept k
      have hdl := dist_le ys
      exact call_len_set ho hex hdt hf (by rw [hcount]; omega) ⟨.int (distS ys : Nat), H1, I2.tok _, ⟨_, by rw [hcount]⟩, q _ H1 μ1 p1 (.of0 rfl)⟩
end
end PD
end ZPDSet
section ZPDDIt
set_option Elab.async false
set_option linter.all false
set_option maxRecDepth 100000
set_option maxHeartbeats 1000000
namespace PD
open PySem PySem.Spec L2 PyProof.Rows
/-! a dict walked by its keys -/
theorem InvNd {X : Cx} {pins : List (Addr × Obj)} {σ : L2.St} {H : Hp} {s : Shared} {P : Program} {w : World} {ob : Obj} {es : List (NestedKey × Addr × V)} {d : Addr} (I : L2.Inv X pins σ H s) (h : H d = some (nDct P w ob es d)) :
    (d == sysModules) = false ∧ s.heap.get? d = some ob ∧ ob.ExactDict ∧ ∃ (ents : Array DictEntry) (ep : Nat), ob.data = .dict ents ep ∧ ents.size = es.length ∧
      ∀ (i : Nat) (n : NestedKey) (q : Addr) (v : V), es[i]? = some (n, q, v) → ∃ en : DictEntry, ents[i]? = some en ∧ en.key = .ref q := by
  obtain ⟨⟨hl, hs, xs, hp, ents, ep, h3, h4, h5, h6, h7⟩, _⟩ := I.hok d _ h
  refine ⟨hs, h3, h4, ents, ep, h5, ?_, fun i n q v e => ?_⟩
  · have l1 : ents.size = xs.length := by rw [← Array.length_toList, h6, List.length_map]
    have l2 : es.length = xs.length := Paired.length hp
    omega
  · obtain ⟨b, hb, e1, e2, _⟩ := L2.paired_get hp e
    have hq : ents.toList[i]? = some (entryOfKey (nestedKind P w) b) := by rw [h6, List.getElem?_map, hb]; rfl
    refine ⟨entryOfKey (nestedKind P w) b, by rw [← Array.getElem?_toList]; exact hq, ?_⟩
    show Value.ref b.2.1 = .ref q
    rw [← e2]
def Itn (P : Program) (w : World) (d : Addr) (ob : Obj) (es : List (NestedKey × Addr × V)) : It :=
  ⟨fun i H => H d = some (nDct P w ob es d) ∧ i < es.length, fun i H x H' => H' = H ∧ ∃ n q v, es[i]? = some (n, q, v) ∧ x = .ref q, fun i H => H d = some (nDct P w ob es d) ∧ es.length ≤ i⟩
theorem turn_keysN {P P' : Program} {w w' : World} {K : PySem.W.Frag} {tg : Expr} {d : Addr} {ob : Obj} {ents : Array DictEntry} {ep : Nat} {es : List (NestedKey × Addr × V)} (it : Addr) (hod : ob.data = .dict ents ep) : Turn P w K tg (Itn P' w' d ob es) [it] it (fun i h => h.IsKeyIter it d i es.length ep) where
  mem := by simp
  obj := fun i h st b hb => by
    have e : b = it := by simpa using hb
    subst e
    obtain ⟨oi, e, c, dd⟩ := st
    exact ⟨oi, e, fun v z => by rw [dd] at z; cases z⟩
  keep := fun i h h' st k => st.at fun oi e => k it (by simp) oi e
  item := by
    intro X hP hw hK hc i pins s σ H E I hf st hg
    subst hP hw hK
    obtain ⟨hd, hi⟩ := hg
    obtain ⟨f0, f1, f2, f3, f4, f5⟩ := hf it (by simp)
    obtain ⟨hs, hgd, hx, es', ep', hdt, hsz, ent⟩ := InvNd I hd
    obtain ⟨rfl, rfl⟩ := dict_ep hod hdt
    obtain ⟨⟨n, q, v⟩, hkv⟩ : ∃ p, es[i]? = some p := ⟨es[i], List.getElem?_eq_getElem hi⟩
    obtain ⟨en, hen, hkey⟩ := ent i n q v hkv
    refine next_key_item st hgd hdt hsz hen fun h' st' sb => ?_
    have I1 : L2.Inv X pins σ H { s with heap := h' } := I.turned (t' := s.toks) (fun b ob hb e => (sb.2 b hb).trans e) f0 f1 f3 f4 f5
    obtain ⟨oi, e, c, dd⟩ := id st'
    exact ⟨en.key, rfl, go_of (s := { s with heap := h' }) e c dd (by decide) ⟨.ref q, H, I1, hkey, ⟨rfl, n, q, v, hkv, rfl⟩, st', fun b hb => (hf b hb).1⟩⟩
  done := by
    intro X hP hw hK hc i pins s σ H E I hf st hg
    subst hP hw hK
    obtain ⟨hd, hi⟩ := hg
    obtain ⟨f0, f1, f2, f3, f4, f5⟩ := hf it (by simp)
    obtain ⟨hs, hgd, hx, es', ep', hdt, hsz, ent⟩ := InvNd I hd
    obtain ⟨rfl, rfl⟩ := dict_ep hod hdt
    exact next_key_end (I.ok.hd hc) st hgd hdt hsz hi fun h' eb => ⟨rfl, I.turned (t' := s.toks) (fun b ob hb e => eb b ob hb e) f0 f1 f3 f4 f5⟩
  self := fun A i s Q E st h => wpAny_pyIter_keyiter st h
def iKeysN (P : Program) (w : World) (td : TE) : TI := fun σ H R => td σ H fun x H1 => ∃ d ob es, x = .ref d ∧ H1 d = some (nDct P w ob es d) ∧ R (Itn P w d ob es) H1
theorem pi_keysN {X : Cx} {P : Program} {w : World} {tg e : Expr} {td : TE} (he : PE X e td) : PI X tg e (iKeysN P w td) := by
  refine ⟨fun pins s σ H R I h => ?_⟩
  refine thn (he.run pins s σ H _ I h) fun u s1 ⟨x, H1, I1, rx, d, ob, es, ex, hd, q⟩ => ?_
  subst ex
  obtain rfl : u = Value.ref d := rx
  obtain ⟨hs, hgd, hx, ents, ep, hdt, hsz, ent⟩ := InvNd I1 hd
  refine iter_keys hs hgd hx hdt (pi_one (tk := s1.toks) I1 _ (turn_keysN _ hdt) ⟨_, Heap.get?_push_size _ rfl, rfl, ?_⟩ q)
  rw [hsz] <;> rfl
end PD
end ZPDDIt
section ZPDLam
set_option Elab.async false
set_option linter.all false
set_option maxRecDepth 100000
set_option maxHeartbeats 2000000
namespace PD
open PySem PySem.Spec L2 PyProof.Rows LamX
/-! a lambda handed to a def: its code object's table stands at a place of the store -/
section
variable {X : Cx} {pins : List (Addr × Obj)} {σ : L2.St} {H : Hp} {s : Shared}
/-- how the abstract heap moves when a lambda is made -/
def LamStep (P c' : Addr) (q : Str) (ps : Array Value) (H H1 : Hp) : Prop := H1 = H ∨ ∃ more : Array Value, H c' = none ∧ H1 = upd (upd H P (.tbl (ps ++ more))) c' (CodeO c' q) ∧ TriplesOk (ps ++ more).toList ∧ ∀ (p' : Pos) (cv : Value), codeAmong p' (ps ++ more).toList = some cv → codeAmong p' ps.toList = some cv ∨ cv = .ref c'
theorem lam_make {c P : Addr} {ps : Array Value} {params : Arguments} {body : Expr} {scope : Scope} {pos : Pos} {E : Value → Shared → Prop} {Q : Value → Shared → Prop} (I : L2.Inv X pins σ H s) (TB : TabB X.base X.mg c P) (hcode : X.env.code = .ref c)
    (hP : H P = some (.tbl ps)) (ht : TriplesOk ps.toList) (ha : ∀ (pos : Pos) (cv : Value), codeAmong pos ps.toList = some cv → ∃ c, cv = .ref c ∧ H c = some (CodeO c (X.env.qual ++ "<lambda>"))) (hdef : defaultsOf params X.env = ([], [])) (hfree : ∀ y ∈ scope.names, y.2 = .free → ∃ c, X.env.cells.lookup y.1 = some c)
    (h : ∀ (f c' : Addr) (pm ctv : Value) (H1 : Hp) (s' : Shared), L2.Inv X pins σ H1 s' → LamStep P c' (X.env.qual ++ "<lambda>") ps H H1 →
      s'.heap.get? f = some (PySem.W.kla_obj "<lambda>" (X.env.qual ++ "<lambda>") params body scope (cloFrom X.env.cells scope.names []) pm c' ctv) → H1 f = none → f ∉ frs X.stack → H1 c' = some (CodeO c' (X.env.qual ++ "<lambda>")) → Q (.ref f) s') :
    wpAny (model X.prog X.w) X.A (eval (.Lambda params body scope pos) X.env) Q E s := by
  refine PySem.W.kla_eval hdef ?_
  have bP : s.heap.BuiltinsAt X.mg P := TB.bm.keeps I.bk
  have hP' : s.heap.get? P = some { cls := .none, data := .fields ps } := I.hok P _ hP
  have nofr : ∀ f, s.heap.objs.size ≤ f → f ∉ frs X.stack := fun f hf z => by
    rcases List.mem_cons.mp (I.stkSub _ z) with e | e
    · have h1 := I.lt
      rw [← e] at h1
      exact Nat.lt_irrefl _ (Nat.lt_of_lt_of_le h1 hf)
    · exact I.nofs hf e
  cases hc : codeAmong pos ps.toList with
  | none =>
    refine PySem.W.kla_makeFunction (mg := X.mg) (c := c) (P := P) (ps := ps) (closure_ok hfree) I.ok.glob (I.mod.glob.keeps I.bk) hcode (TB.code.keeps I.bk) hP' ht hc TB.gP bP fun c' ctv h' tk hx hge hlt hrec htb => ?_
    obtain ⟨c2, oc, vs, t, e2, hoc, hd, hv⟩ := hrec
    cases e2
    have hsz : s.heap.objs.size ≤ h'.objs.size := Nat.le_trans hge (Nat.le_of_lt hlt)
    have nC : H c' = none := I.hok.fresh hge
    have I1 := inv_table (t' := tk) (more := #[rawInt pos.line, rawInt pos.col, .ref c']) (h' := h'.push (PySem.W.kla_obj "<lambda>" (X.env.qual ++ "<lambda>") params body scope (cloFrom X.env.cells scope.names []) ((X.mg "__name__").getD .none) c' ctv)) I hP
      (fun b o hb e => Heap.get?_push_of_some _ (hx b o hb e)) (Heap.get?_push_of_some _ htb) hge ⟨oc, vs, t, Heap.get?_push_of_some _ hoc, hd, hv⟩
    have eL : (ps ++ #[rawInt pos.line, rawInt pos.col, .ref c']).toList = ps.toList ++ [rawInt pos.line, rawInt pos.col, .ref c'] := by simp
    refine h h'.objs.size c' ((X.mg "__name__").getD .none) ctv _ _ I1 (.inr ⟨_, nC, rfl, by rw [eL]; exact PySem.TriplesOk_snoc _ _ _ _ ht, fun p' cv hcv => ?_⟩) (Heap.get?_push_size _ rfl) ?_ (nofr _ hsz) upd_same
    · rw [eL] at hcv
      exact among_app _ ht hcv
    · have n1 : h'.objs.size ≠ c' := Nat.ne_of_gt hlt
      have n2 : h'.objs.size ≠ P := Nat.ne_of_gt (Nat.lt_of_lt_of_le (Heap.lt_size hP') hsz)
      rw [upd_ne n1, upd_ne n2]
      exact I.hok.fresh hsz
  | some cv =>
    obtain ⟨c', e, hco⟩ := ha pos cv hc
    subst e
    refine PySem.W.kla_makeFunctionHit (mg := X.mg) (c := c) (P := P) (ps := ps) (closure_ok hfree) I.ok.glob (I.mod.glob.keeps I.bk) hcode (TB.code.keeps I.bk) hP' ht hc bP fun ctv h' tk hx hsz => ?_
    have I1 : L2.Inv X pins σ H { s with heap := h'.push (PySem.W.kla_obj "<lambda>" (X.env.qual ++ "<lambda>") params body scope (cloFrom X.env.cells scope.names []) ((X.mg "__name__").getD .none) c' ctv), toks := tk } := I.kept fun b o e => Heap.get?_push_of_some _ (hx b o e)
    exact h h'.objs.size c' ((X.mg "__name__").getD .none) ctv H _ I1 (.inl rfl) (Heap.get?_push_size _ rfl) (I.hok.fresh hsz) (nofr _ hsz) hco
end
theorem codeO_own {c u : Addr} {q : Str} : CodeO c q ≠ .own u := fun z => by
  unfold CodeO at z
  cases z
section
variable {T : Tb} {G : Addr → Prop} {H H1 : Hp} {μ : List Addr} {st : Store}
/-- the table's place -/
structure TabAt (T : Tb) (μ : List Addr) (st : Store) (i : Nat) : Prop where
  mu : μ[i]? = some T.tb
  st : st[i]? = some .tbl
theorem Post.lam (g : GoodT T G μ H st) {i : Nat} (t : TabAt T μ st i) {ps : Array Value} (hP : H T.tb = some (.tbl ps)) {c' : Addr} (hs : LamStep T.tb c' T.tq ps H H1) : Post T G μ H μ H1 st := by
  rcases hs with rfl | ⟨more, nC, rfl, ht, hcod⟩
  · exact Post.refl g
  · obtain ⟨_, ps', hP', _, hold⟩ := (show ORep T H (FF G μ) μ T.tb .tbl from g.sto.ob i _ _ t.st t.mu)
    rw [hP] at hP'
    obtain rfl : ps = ps' := by cases hP'; rfl
    have mP : T.tb ∈ μ := List.mem_of_getElem? t.mu
    have nP : ∀ {b : Addr}, ¬ FF G μ b → b ≠ T.tb := fun n z => n (z ▸ .inl mP)
    have kp : ∀ b o, H b = some o → b ≠ T.tb → upd (upd H T.tb (.tbl (ps ++ more))) c' (CodeO c' T.tq) b = some o := fun b o e n => by
      rw [upd_ne (ne_of_none e nC), upd_ne n]; exact e
    have hPc : T.tb ≠ c' := ne_of_none hP nC
    have mv : Mv H (upd (upd H T.tb (.tbl (ps ++ more))) c' (CodeO c' T.tq)) (FF G μ) (FF G μ) μ μ := ⟨fun a o e n => kp a o e (nP n), fun _ z => .inl z, List.prefix_refl _⟩
    refine ⟨List.prefix_refl _, fun _ z => .inl z, fun a o e n => kp a o e fun z => n (z ▸ mP), g.sto.len, g.sto.nd, fun j o a h1 h2 => ?_⟩
    by_cases hj : j = i
    · subst hj
      rw [t.mu] at h2
      rw [t.st] at h1
      cases h1; cases h2
      refine ⟨rfl, ps ++ more, by rw [upd_ne hPc, upd_same], ht, fun p' cv hcv => ?_⟩
      rcases hcod p' cv hcv with z | z
      · obtain ⟨c0, e0, h3, h4⟩ := hold p' cv z
        exact ⟨c0, e0, kp _ _ h3 (nP h4), h4⟩
      · exact ⟨c', z, upd_same, g.fresh nC⟩
    · have ha : a ≠ T.tb := fun z => hj (nodup_get g.sto.nd h2 (z ▸ t.mu))
      refine (g.sto.ob j o a h1 h2).mv mv (fun u e => kp _ _ e ha) (fun _ z => .inl z) fun b u e nb => kp _ _ e fun z => by rw [z, hP] at e; cases e
end
/-- the reading of f(lambda: body): t: the body's, by what a raised error meets; TT: what the def makes of it -/
def rdLam (T : Tb) (i : Nat) (TT : (XK → Hp → VK → Prop) → Hp → VK → Prop) (t : XK → TE) : TE := fun σ H Q => ∃ G μ env st, Good T G μ H σ env st ∧ TabAt T μ st i ∧ ∀ H1, Post T G μ H μ H1 st → TT (fun E H' Q' => t E σ H' Q') H1 Q
theorem se_lamcall {X : Cx} {T : Tb} {i : Nat} {TT : (XK → Hp → VK → Prop) → Hp → VK → Prop} {x a : Str} {g c : Addr} {k : Nat} {pg : Arguments} {bg : List Stmt} {sg : Scope} {dV kV doc pm cdv ct oc : Value} {an od : Option Addr} {osl : Array (Option Value)} {Ng : List Str}
    {params : Arguments} {body : Expr} {scope : Scope} {t : XK → TE} {p lpos pos : Pos} (hg : Gl X x) (hm : X.mg x = some (.ref g)) (hk : PySem.W.keepIn X.K (.ref g) = true)
    (lk : X.K.lookup g = some ⟨oc, od, .func (PySem.W.fnOf x x pg bg sg dV kV doc pm an cdv ct), osl⟩) (hcg : PySem.W.codeIn X.K cdv x = true) (hb : L2.Binds X.K (PySem.W.fnOf x x pg bg sg dV kV doc pm an cdv ct) [a] []) (Sg : FnScope Ng [a] sg) (hNg : Ng[0]? = some a) (hva : Vis sg a)
    (hG : GivesTo X Ng x sg g cdv bg a (X.env.qual ++ "<lambda>") TT)
    (TB : TabB X.base X.mg c T.tb) (hq : T.tq = X.env.qual ++ "<lambda>") (hcode : X.env.code = .ref c) (hr : Room (k + 2) X.A) (L : LamS X.env.scope scope) (hdef : defaultsOf params X.env = ([], []))
    (hbind : ∀ (q : Str) (cl : List (Str × Addr)) (pm cv ctv : Value), bindArgs (PySem.W.kla_fn "<lambda>" q params body scope cl pm cv ctv) ⟨[], []⟩ = pure [])
    (hbody : ∀ (A : Around) (outer : List PySem.Env) (s : Shared) (H : Hp) (E : XK) (f c' : Addr), Room k (A.deeper (lamEnv X scope s.heap.objs.size f c')) → PE (lamCx X A outer s H E scope f c') body (t E))
    (hdb : (x == ("__debug__" : Str)) = false := by decide) (hd : (a == ("__debug__" : Str)) = false := by decide) (hcd : (a == ("__classdict__" : Str)) = false := by decide) :
    PE X (.Call (.Name x p) [.Lambda params body scope lpos] [] pos) (rdLam T i TT t) := by
  refine ⟨fun pins s σ H Q I hh => ?_⟩
  obtain ⟨G, μ, env, st, g0, ta, h⟩ := hh
  obtain ⟨_, ps, hP, htr, hcod⟩ := (show ORep T H (FF G μ) μ T.tb .tbl from g0.sto.ob i _ _ ta.st ta.mu)
  refine wpAny_Call_Name_kw (ld_glob I hg hm ?_ hdb)
  refine PySem.W.callWith_K (h₀ := X.base) I.ok.mod.kin hk ?_ (by rfl) (by rfl)
  show wpAny _ _ (spliced ((false, eval (.Lambda params body scope lpos) X.env) :: backTo pos (starEach [] X.env))) _ _ s
  refine Calls.spliced_cons (lam_make I TB hcode hP htr (fun pos cv e => by
    obtain ⟨c0, e0, h3, _⟩ := hcod pos cv e
    exact ⟨c0, e0, hq ▸ h3⟩) hdef (L.has I.ok) fun f c' pm' ctv H1 s' I1 eN hf hfn hfr hco => ?_)
  have pp : Post T G μ H μ H1 st := Post.lam g0.toGoodT ta hP (hq ▸ eN)
  refine Calls.spliced_nil ⟨I1.kIn, ?_⟩
  have rc : codeAny (model X.prog X.w) X.A (.call (.ref g) ⟨[.ref f], []⟩) (CR C8.CX0 X.stack X.prog X.w H1 s' Q C8.E0) s' := by
    refine run_ofS (N := Ng) (ps := [a]) (us := [.ref f]) (vs := [.ref f]) lk hcg Sg hr I1.env0 (hb s' [.ref f] I1.kIn rfl) (.cons rfl .nil) rfl fun hr' => ?_
    obtain ⟨t', ht', hq'⟩ := hG f c' s' H1 Q (fun E H' Q' => t E σ H' Q') (fun W pn xe E p1 p2 tk hW => pe_act (i := 0) I1 L hf hfn hfr (hbind _ _ _ _ _) tk hW hr' (fun A outer s H hr2 => hbody A outer s H E f c' hr2) hNg hva hd hcd) hco (h H1 pp)
    exact ⟨t', ht'.nox, hq'⟩
  refine wpAny_call (codeAny_mono rc fun r s2 hq => ?_)
  cases r with
  | error e => exact (show False from hq).elim
  | ok fl =>
    cases fl with
    | ret u => exact I1.after hq
    | next => exact False.elim hq
    | brk => exact False.elim hq
    | cont => exact False.elim hq
end PD
end ZPDLam
section ZPDExc
set_option Elab.async false
set_option linter.all false
set_option maxRecDepth 100000
set_option maxHeartbeats 2000000
namespace PD
open PySem PySem.Spec L2 PyProof.Rows
/-! an error that is kept behind its except suite -/
section
variable {X : Cx} {pins : List (Addr × Obj)} {σ : L2.St} {H : Hp} {s : Shared}
/-- an object that stands there already, told from now on -/
theorem adopt {a : Addr} {oe : Obj} {vs : Array Value} {o : HO} (I : L2.Inv X pins σ H s) (ha : s.heap.get? a = some oe) (hd : oe.data = .fields vs) (hn : H a = none) (h0 : X.s_0.heap.get? a = none) (hp : ∀ p ∈ X.pn ++ pins, p.1 ≠ a) (nL : a ≠ X.env.locals)
    (new : ObjOk X.prog X.w (upd H a o) s.heap a o) : L2.Inv X pins σ (upd H a o) s where
  ok := I.ok
  os := I.os
  bare := I.bare
  base :=
    { keep := I.base.keep
      slot := I.base.slot
      free := fun b u q n hx => by
        rw [upd_ne (fun z => by rw [z, h0] at q; cases q)]
        exact I.base.free b u q n hx
      there := I.base.there
      tups := fun b xs q => by
        have z := I.base.tups b xs q
        rw [upd_ne (ne_of_none z hn)]; exact z
      frzs := fun b u xs q => by
        have z := I.base.frzs b u xs q
        rw [upd_ne (ne_of_none z hn)]; exact z
      tbls := fun b ps q => by
        obtain ⟨m, z⟩ := I.base.tbls b ps q
        exact ⟨m, by rw [upd_ne (ne_of_none z hn)]; exact z⟩ }
  loc := I.loc
  cell := I.cell
  free := by rw [upd_ne (fun z => nL z.symm)]; exact I.free
  freeC := fun x c e => by
    have hc : c ≠ a := fun z => by
      obtain ⟨v, ob, ho, hdd⟩ := I.cell x c e
      rw [z, ha] at ho
      cases ho
      rw [hd] at hdd
      cases hdd
    rw [upd_ne hc]; exact I.freeC x c e
  pin := fun p hpm => by
    obtain ⟨h1, h2, h3, h4, h5⟩ := I.pin p hpm
    exact ⟨h1, by rw [upd_ne (hp p hpm)]; exact h2, h3, h4, h5⟩
  hok := HOk.laidN I.hok (fun _ _ e => e) hn new
  len := I.len
end
/-- what 'except x as n' wishes: slot i is n's; the error is told behind the suite -/
def wAsK (K : PySem.W.Frag) (c : Value) (i : Nat) (ts : Addr → Value → Option Addr → TS) (Wout : WX) (D : Ends) : WX := fun cls d σ H =>
  ∃ b, PySem.W.exmOne K cls c = some b ∧ (b = true → ∀ a, H a = none → ts a cls d { nx := fun σ' H' => H' a = none → D.nx (σ'.set i none) (upd H' a (ExnO cls d a)), rt := D.rt, bk := fun _ _ => False, ct := fun _ _ => False } (σ.set i (some (.ref a))) H) ∧
    (b = false → Wout cls d σ H)
section
variable {X : Cx} {x n : Str} {c : Value} {i : Nat} {body suite : List Stmt} {b₀ : Stmt} {np pos pos' : Pos} {tb : WX → TS} {ts : Addr → Value → Option Addr → TS} {Wout : WX}
theorem ps_try_keep (hex : X.ex = []) (hs : X.stack = X.env :: X.outer) (hf : X.env.frame = some X.env.locals) (hN : X.N.Nodup) (hi : X.N[i]? = some n) (hln : X.env.kindOf n = some .local) (hc : Names X x c) (tk : Takes X Wout)
    (hb : ∀ (W : WX) (pn : List (Addr × Obj)) (xe : Value → Shared → Prop), Takes (X.tr pn xe) W → PassesOwn (model X.prog X.w) X.A X.env xe → PSs (X.tr pn xe) body (tb W))
    (hsu : ∀ (a : Addr) (oe : Obj) (cls : Value) (d : Option Addr) (pn : List (Addr × Obj)), Zc cls d oe → (∃ vs, oe.data = .fields vs) → PSs (X.suite a ((a, oe) :: pn)) (b₀ :: suite) (ts a cls d)) :
    PS X (.Try body [.ExceptHandler (some (.Name x np)) (some n) (b₀ :: suite) pos'] [] [] pos) (fun D σ H => tb (wAsK X.K c i ts Wout D) D σ H) := by
  refine ⟨fun pins s σ H D I h => ?_⟩
  have ok := I.ok
  have hfr : X.A.frames = some (X.env :: X.outer) := by rw [ok.frames, hs]
  have hloc : Loc X.env.scope n := .inl hln
  refine wpAny_Try_except ?_
  refine wpAny_mono ((hb (wAsK X.K c i ts Wout D) (X.pn ++ pins) (fun e s₁ => wpAny (model X.prog X.w) X.A (noteFrame e X.env) (fun _ s₂ => wpAny (model X.prog X.w) X.A (setFlight e none) (fun _ s₃ =>
    wpAny (model X.prog X.w) X.A (handleBy e X.env [.ExceptHandler (some (.Name x np)) (some n) (b₀ :: suite) pos']) (SP X pins D) X.xe s₃) X.xe s₂) X.xe s₁) (fun u s' xx => ?_) PassesOwn.looking).run [] s σ H D (I.toTry _) h) (fun f s1 hsp => ?_) (fun e s1 he => he)
  · -- the catch
    obtain ⟨a, B, sI, pins', σ', H', cls, d, rfl, J', nb, up, sky, na, os, ag, b, hb1, hyes, hno⟩ := xx
    have J : L2.Inv X pins σ' H' sI := J'.ofTry ok
    have sky' : Sky B (X.env :: X.outer) a (Zc cls d) X.env.locals s'.heap := by rw [← hs]; exact sky
    show wpAny (model X.prog X.w) X.A (noteFrame (.ref a) X.env) _ _ _
    refine Sky.land Zc.steady hfr hf sky' fun h3 fl3 up3 => ?_
    have J3 : L2.Inv X pins σ' H' { s' with heap := h3 } := J.landed nb fl3.1 (up.trans up3) os ag
    obtain ⟨oe3, vs3, he3, hz3, hd3⟩ := fl3.there
    have notFr : ∀ {h : Heap} {o : Obj} {vs : Array Value}, h.FunFrames B (X.env :: X.outer) → h.get? a = some o → o.data = .fields vs → a ∉ frs (X.env :: X.outer) := fun {h o vs} ff e dd hm => by
      obtain ⟨_, o', e', hnf⟩ := ff.mem hm
      rw [e] at e'; cases e'
      exact hnf _ dd
    have nfr := notFr fl3.2.2.1 he3 hd3
    have nL : a ≠ X.env.locals := fun z => nfr (List.mem_filterMap.mpr ⟨X.env, List.mem_cons_self, by rw [hf, z]⟩)
    have nF : a ∉ X.fs := fun hm => by
      obtain ⟨e, he, q⟩ := List.mem_filterMap.mp hm
      exact nfr (List.mem_filterMap.mpr ⟨e, List.mem_cons_of_mem _ he, q⟩)
    -- a is new since the entry
    have nB : B.get? a = none := fl3.2.1
    have nI : sI.heap.get? a = none := by
      cases q : sI.heap.get? a with
      | none => rfl
      | some o =>
        have z := nb a o q (by rw [hs]; exact nfr)
        rw [nB] at z; cases z
    have n0 : X.s_0.heap.get? a = none := by
      cases q : X.s_0.heap.get? a with
      | none => rfl
      | some o =>
        obtain ⟨o', e'⟩ := J.base.there a o q (by rw [hex]; exact fun z => nomatch z)
        rw [nI] at e'; cases e'
    have hpin : ∀ p ∈ X.pn ++ pins, p.1 ≠ a := fun p hp z => by
      have := (J.pin p hp).1
      rw [z, nI] at this; cases this
    have S3 := J3.suite he3 hd3 na nL nF
    refine wpAny_handleBy_cons (codeAny_handlers_test ?_) (by intro q; cases q)
    have LT : PySem.W.Looks (model X.prog X.w) h3 (typeOf (.ref a)) cls := fun A Q E s k q => wpAny_typeOf_ref (k _ _ he3) (by rw [hz3.1]; exact q)
    have LM := PySem.W.exm_one (M := model X.prog X.w) (J3.kIn) LT hb1
    have test : ∀ {Q : Value → Shared → Prop} {E : Value → Shared → Prop}, Q c { s' with heap := h3 } → wpAny (model X.prog X.w) (X.A.mark (some (.ref a))) (eval (.Name x np) X.env) Q E { s' with heap := h3 } := fun {Q E} q => by
      obtain ⟨hg, hdbg, hm | ⟨hm, hv, hnn⟩⟩ := hc
      · exact ld_glob (X := X.suite a ((a, oe3) :: (X.pn ++ pins))) S3 hg hm q hdbg
      · exact ld_blt (X := X.suite a ((a, oe3) :: (X.pn ++ pins))) S3 hg hm hv q hnn hdbg
    refine test (LM.here ?_)
    cases b with
    | true =>
      refine codeAny_handlers_suite_as ?_
      refine HandSPX.lands_againZ fl3 fun h4 fl4 up4 => ?_
      have J4 : L2.Inv X pins σ' H' { s' with heap := h4 } := J.landed nb fl4.1 ((up.trans up3).trans up4) os ag
      obtain ⟨oe4, vs4, he4, hz4, hd4⟩ := fl4.there
      have S4 := J4.suite he4 hd4 na nL nF
      refine store_ok (X := X.suite a ((a, oe4) :: (X.pn ++ pins))) (v := .ref a) S4 hN hi hloc rfl (fun s5 S5 => ?_) (.inr hln)
      refine wpAny_mono ((hsu a oe4 cls d (X.pn ++ pins) hz4 ⟨_, hd4⟩).run [] s5 _ H' _ S5 (hyes rfl a na)) (fun f s6 hsp => ?_) (fun _ _ z => False.elim z)
      have end_ : ∀ {σ6 : L2.St} {H6 : Hp} {Q : Shared → Prop}, L2.Inv (X.suite a ((a, oe4) :: (X.pn ++ pins))) [] σ6 H6 s6 → (∀ s7, L2.Inv X pins (σ6.set i none) (upd H6 a (ExnO cls d a)) s7 → Q s7) →
          wpAny (model X.prog X.w) X.A (do bindName X.env n .none; unbindBehindTheSuite X.env n pos') (fun _ s7 => Q s7) X.xe s6 := fun {σ6 H6 Q} S6 hq => by
        obtain ⟨g1, g2, _⟩ := S6.pin (a, oe4) (List.mem_append_left _ List.mem_cons_self)
        exact gone_ok (adopt (S6.unsuite ok) g1 hd4 g2 n0 hpin nL (exnO_ok g1 hz4 hd4)) hN hi hln hq
      have end0_ : ∀ {σ6 : L2.St} {H6 : Hp} {Q : Shared → Prop}, L2.Inv (X.suite a ((a, oe4) :: (X.pn ++ pins))) [] σ6 H6 s6 → (∀ s7, L2.Inv X pins (σ6.set i none) H6 s7 → Q s7) →
          wpAny (model X.prog X.w) X.A (do bindName X.env n .none; unbindBehindTheSuite X.env n pos') (fun _ s7 => Q s7) X.xe s6 := fun {σ6 H6 Q} S6 hq => gone_ok (S6.unsuite ok) hN hi hln hq
      cases f with
      | next =>
        obtain ⟨σ6, H6, S6, q6⟩ := hsp
        obtain ⟨_, g2, _⟩ := S6.pin (a, oe4) (List.mem_append_left _ List.mem_cons_self)
        exact end_ S6 fun s7 J7 => ⟨_, _, J7, q6 g2⟩
      | brk =>
        obtain ⟨σ6, H6, S6, q6⟩ := hsp
        exact q6.elim
      | cont =>
        obtain ⟨σ6, H6, S6, q6⟩ := hsp
        exact q6.elim
      | ret u =>
        obtain ⟨v6, σ6, H6, S6, r6, q6⟩ := hsp
        exact end0_ S6 fun s7 J7 => ⟨_, _, _, J7, r6, q6⟩
    | false =>
      show wpAny _ X.A (handleBy (.ref a) X.env []) _ _ _
      refine wpAny_handleBy_nil ?_
      obtain ⟨k1, k2, k3, oe, vs, T, oT, ts', he, hz, hd, h1, hr⟩ := id fl3
      unfold PySem.passOn
      refine wpAny_bind (wpAny_field he hd h1 ?_)
      rw [if_neg (show ¬ ((Value.ref T == Value.none) = true) from by simp)]
      have fin : wpAny (model X.prog X.w) X.A (setFlight (.ref a) X.env.frame) (fun _ s4 => wpAny (model X.prog X.w) X.A (throw (.ref a) : Sem Flow) (SP X pins D) X.xe s4) X.xe { s' with heap := h3 } := by
        rw [hf]
        refine HandSPX.setFlight_upZ fl3 fun h4 hh4 up4 => wpAny_throw (tk _ _ ?_)
        exact ⟨a, B, sI, pins, σ', H', cls, d, rfl, J, nb, (up.trans up3).trans up4, .inr (.inr (by rw [hs]; exact hh4)), na, os, ag, hno rfl⟩
      first
        | exact wpAny_bind (wpAny_pure (wpAny_bind fin))
        | exact wpAny_bind fin
  · cases f with
    | next =>
      obtain ⟨σ', H', J', q⟩ := hsp
      exact wpAny_execs_nil ⟨σ', H', J'.ofTry ok, q⟩
    | brk =>
      obtain ⟨σ', H', J', q⟩ := hsp
      exact ⟨σ', H', J'.ofTry ok, q⟩
    | cont =>
      obtain ⟨σ', H', J', q⟩ := hsp
      exact ⟨σ', H', J'.ofTry ok, q⟩
    | ret u =>
      obtain ⟨v, σ', H', J', r, q⟩ := hsp
      exact ⟨v, σ', H', J'.ofTry ok, r, q⟩
end
/-! isinstance and a field of an error that is kept -/
section
variable {X : Cx} {pins : List (Addr × Obj)} {σ : L2.St} {H : Hp} {s : Shared}
theorem exn_at {a C d : Addr} {fs : List (Str × V)} (I : L2.Inv X pins σ H s) (ha : H a = some (ExnO (.ref C) (some d) a)) (hd : H d = some (.xd fs)) :
    ∃ oe od, PySem.W.InstAt s.heap a oe C (some od) ∧ ∃ mA : Str → Option Value, (∀ name, PySem.W.lookIn name od = some (mA name)) ∧ ∀ f, RelO (fs.lookup f) (mA f) := by
  obtain ⟨⟨oe, vs, he, hz, hv⟩, _⟩ := I.hok a _ ha
  have hx : ObjOk X.prog X.w H s.heap d (.xd fs) := I.hok d _ hd
  obtain ⟨mA, hns, hr⟩ := hx
  obtain ⟨od, ho, hl⟩ := lookIn_ns hns
  exact ⟨oe, od, ⟨he, hz.1, by unfold PySem.W.notCls; rw [hv] <;> rfl, by rw [hz.2]; exact ho⟩, mA, hl, hr⟩
/-- isinstance(e, c) -/
def rIsK (K : PySem.W.Frag) : List V → Hp → VK → Prop := fun xs H Q => ∃ (a D d : Addr) (fs : List (Str × V)) (c : V) (cv : Value) (b : Bool), xs = [.ref a, c] ∧ H a = some (ExnO (.ref D) (some d) a) ∧ H d = some (.xd fs) ∧ (∀ u, RelV c u → u = cv) ∧ ExcC K D ∧ PySem.W.kitOne K (.ref D) cv = some b ∧ Q (.bl b) H
theorem call_isK {X : Cx} : CallR X (.builtin "isinstance") (rIsK X.K) := by
  intro pins s σ H xs us Q I r h
  obtain ⟨a, D, d, fs, c, cv, b, rfl, ha, hd, hcv, C, e, q⟩ := h
  cases r with
  | cons rx rr =>
    cases rr with
    | cons rt rr =>
      cases rr
      cases rx
      have ec := hcv _ rt
      subst ec
      obtain ⟨oe, od, J, _⟩ := exn_at I ha hd
      have hcl : (PySem.W.clsIn X.K D).isSome = true := by
        obtain ⟨cd, hc, _⟩ := PySem.W.any_some C.hd
        rw [hc]; rfl
      exact PySem.W.kia_one (PySem.W.kitx_exc hcl C.hg C.hk C.hs C.ha C.hn C.ht C.hm) I.kIn J e (fun z => nomatch z) fun tk => ⟨.bl b, H, I.kept (t' := tk) fun _ _ z => z, rfl, q⟩
/-- e.f -/
theorem pe_valK {X : Cx} {e : Expr} {te : TE} {pos : Pos} {n : Str} (he : PE X e te) (hb : attributeBase e n X.env (eval e X.env) = eval e X.env := by rfl) :
    PE X (.Attribute e n pos) (fun σ H Q => te σ H fun x H1 => ∃ (a C d : Addr) (fs : List (Str × V)) (v : V), x = .ref a ∧ H1 a = some (ExnO (.ref C) (some d) a) ∧ H1 d = some (.xd fs) ∧ XfC X.K C ∧ PySem.W.findIn X.K (.ref C) n = some none ∧ fs.lookup n = some v ∧ Q v H1) := by
  refine ⟨fun pins s σ H Q I h => ?_⟩
  refine attr_of hb (thn (he.run pins s σ H _ I h) fun u s1 hh => ?_)
  obtain ⟨x, H1, I1, rx, a, C, d, fs, v, ex, ha, hd, T, hno, l, q⟩ := hh
  subst ex
  obtain rfl : u = Value.ref a := rx
  obtain ⟨oe, od, J, mA, hl, hr⟩ := exn_at I1 ha hd
  obtain ⟨u, hu, ru⟩ := RelO.some_of (v := v) (o := mA n) (by rw [← l]; exact hr n)
  exact HandSPX.exc_get I1.kIn J T.ga T.gg T.exC (PySem.W.findObj_own T.hdC hno rfl (by rw [hl, hu])) (handed_of ru) ⟨v, H1, I1.tok _, ru, q⟩
end
end PD
end ZPDExc
section ZPDMake
set_option Elab.async false
set_option linter.all false
set_option maxRecDepth 100000
set_option maxHeartbeats 2000000
namespace PD
open PySem PySem.Spec L2 PyProof.Rows
/-! an own exception over ValueError whose __init__ is 'super().__init__(x); self.f = x' -/
/-- what the written part says of such an __init__ -/
structure SupI (K : PySem.W.Frag) (prog : Program) (fI D : Addr) (st : Stmt) (qual x f : Str) : Prop where
  ex : ∃ (oc kV doc pm ct ccl cl : Value) (od an cdd cld : Option Addr) (osl ccs csl : Array (Option Value)) (cda cc : Addr) (vs : Array Value) (file : Str) (tf : Tok) (cdD : ClassData),
    K.lookup fI = some ⟨oc, od, .func (PySem.W.ksFn "__init__" qual (defArgs st) (defBody st) (defScope st) .none kV doc pm an (.ref cda) ct cc), osl⟩ ∧ PySem.W.codeIn K (.ref cda) qual = true ∧
    K.lookup cda = some ⟨ccl, cdd, .fields vs, ccs⟩ ∧ vs[2]? = some (.str file tf) ∧ ((prog.main.file : Str) == file) = true ∧ K.lookup cc = some ⟨cl, cld, .cell (some (.ref D)), csl⟩ ∧ PySem.W.clsIn K D = some cdD
  body : ∃ p0 p1 p2 p3 p4 p5 p6 p7 p8 p9, defBody st = [.Expr (.Call (.Attribute (.Call (.Name "super" p0) [] [] p1) "__init__" p2) [.Name x p3] [] p4) p5, .Assign [.Attribute (.Name "self" p6) f p7] (.Name x p8) p9] ∧
    ∀ env : PySem.Env, ∃ pl : Sem Bool, eval (.Call (.Attribute (.Call (.Name "super" p0) [] [] p1) "__init__" p2) [.Name x p3] [] p4) env = (do
      let ov ← attributeBase (.Call (.Name "super" p0) [] [] p1) "__init__" env (eval (.Call (.Name "super" p0) [] [] p1) env)
      standAt p2.atName
      let (m, first) ← holding [ov] (getMethod ov "__init__" pl)
      callWith p4 m first (backTo p4 (starEach [.Name x p3] env)) []) ∧
      swapsWith (.Call (.Attribute (.Call (.Name "super" p0) [] [] p1) "__init__" p2) [.Name x p3] [] p4) none p5.line env = pure false ∧ swapsWith (.Name x p8) (some (.Attribute (.Name "self" p6) f p7)) p9.line env = pure false ∧
      starEach [.Name x p3] env = (false, eval (.Name x p3) env) :: starEach [] env
  par : ∃ ar, ((defArgs st).posonlyargs ++ (defArgs st).args).head? = some ar ∧ ar.arg = "self"
  bind : ∀ (kV doc pm : Value) (an : Option Addr) (cdv ct : Value) (cc : Addr) (u v : Value), bindArgs (PySem.W.ksFn "__init__" qual (defArgs st) (defBody st) (defScope st) .none kV doc pm an cdv ct cc) ⟨[u, v], []⟩ = pure [(("self" : Str), u), (x, v)]
  kind : (defScope st).kind = .function
  co : (defScope st).isCoroutine = false
  gen : (defScope st).isGenerator = false
  nocell : ∀ y ∈ (defScope st).names, y.2 ≠ .cell
  sup : (defScope st).names.lookup ("super" : Str) = some .globalImplicit
  kcls : (defScope st).names.lookup ("__class__" : Str) = some .free
  kself : (defScope st).names.lookup ("self" : Str) = some .local
  kx : (defScope st).names.lookup x = some .local
  ne : x ≠ "self"
  nd : (x == ("__debug__" : Str)) = false
  top : (prog.main.scope.names.lookup ("super" : Str)).isSome = false
/-- .. of a class that has it -/
structure SupC (K : PySem.W.Frag) (C D : Addr) (f : Str) : Prop where
  T : OexC K C
  sub : PySem.W.mroIn K C (.ref D) = some true
  opq : PySem.W.nsIn K cStatics "thirdparty.any" = some none
  sup : PySem.W.ks_superIn K C D "__init__" = some (some (.builtin "ValueError.__init__"))
  isV : PySem.W.subIn K (.ref C) (.type "ValueError") = some true
  no : PySem.W.findIn K (.ref C) f = some none
section
variable {prog : Program} {w : World} {A : Around} {R : Result → Shared → Prop} {K : PySem.W.Frag}
/-- the bound __init__ of ValueError, called -/
theorem call_mwVE {E : Value → Shared → Prop} {h : Heap} {g : Array GenState} {d : Drawn} {t : Nat} {os : OsState} {nm q : Str} {C N : Addr} {bs bm : List Value} {hdct : Bool} {sn : List Str} {sub : List Value} {ab : Bool} {col : Option Bool} {dd : Option Addr} {k0 k1 k2 k3 k5 : Option Value}
    {u e t0 : Addr} {rest : List Value} {Q : Value → Shared → Prop} (hrest : rest.length ≤ sizeLine) (hu : h.get? u = some (PySem.W.kxs_mw "ValueError.__init__" e)) (he : h.get? e = some (PySem.HandSPX.excO C t0))
    (hC : h.get? C = some (excClassObj nm q C N bs bm hdct sn sub ab col dd k0 k1 k2 k3 k5 "ValueError.__new__"))
    (hq : ∀ h' t1, (∀ b o, b ≠ e → h.get? b = some o → h'.get? b = some o) → h'.get? e = some (PySem.HandSPX.excO C t1) → Q .none ⟨h', g, d, t, os⟩) : wpAny (model prog w) A (call (.ref u) rest) Q E ⟨h, g, d, t, os⟩ := by
  have yes : (Value.type "method-wrapper" == Value.type "method" || Value.type "method-wrapper" == Value.type "builtin_function_or_method" || Value.type "method-wrapper" == Value.type "method-wrapper") = true := by decide
  refine wpAny_call (codeAny_of_tree (show wpAny (model prog w) A.in1 (callAny (.ref u) ⟨rest, []⟩) _ _ _ from ?_))
  simp only [callAny]
  refine wpAny_bind (wpAny_load hu ?_)
  simp only [PySem.W.kxs_mw, yes, if_true]
  refine PySem.W.KFB.if_so (by decide) (wpAny_bind (PySem.ESX.check_bound F.excBase_ValueError hC he rfl (wpAny_bind (wpAny_pure (wpAny_pure ⟨Code.quiet_builtin _ (by decide +kernel), codeAny_builtin F.excBase_ValueError.initEntry ?_⟩)))))
  rw [Around.under_plainId F.excBase_ValueError.init.plain _]
  exact PySem.W.exc_init_tree (cls := .ref C) (t0 := t0) (dv := none) (c2 := .none) (c3 := .none) (b4 := .bool false) he hrest fun h' k e' _ => hq h' _ k e'
theorem super_init {C D fI a t0 : Addr} {st : Stmt} {qual x f : Str} {u : Value} {h : Heap} {g : Array GenState} {d : Drawn} {t : Nat} {os : OsState} {mg mb : Str → Option Value} (S : SupI K prog fI D st qual x f) (Y : SupC K C D f) (X : K.In h) (lim : h.NoLimit) (G : h.Ns mainGlobals mg) (B : h.Ns builtinsNs mb)
    (hms : mg "super" = none) (hbs : mb "super" = some (.type "super")) (hroom : A.depth < recursionLimit) (he : h.get? a = some (PySem.HandSPX.excO C t0)) (na : K.lookup a = none)
    (hq : ∀ h' tk dx t1, (∀ b o, b ≠ a → h.get? b = some o → h'.get? b = some o) → h.objs.size ≤ dx → h'.get? a = some ({ cls := .ref C, dict := some dx, data := .fields #[.ref t1, .none, .none, .none, .bool false, .none] } : Obj) →
      h'.Ns1 dx (fun y => if y = f then some u else none) → R (.ok (.ret .none)) ⟨h', g, d, tk, os⟩) :
    codeAny (model prog w) A (.call (.ref fI) ⟨[.ref a, u], []⟩) R ⟨h, g, d, t, os⟩ := by
  obtain ⟨oc, kV, doc, pm, ct, ccl, cl, od, an, cdd, cld, osl, ccs, csl, cda, cc, vs, file, tf, cdD, lk, hcd, lcode, hvs, hfile, lcell, hD⟩ := S.ex
  obtain ⟨p0, p1, p2, p3, p4, p5, p6, p7, p8, p9, hb, hev⟩ := S.body
  obtain ⟨ar, har, hself⟩ := S.par
  obtain ⟨nm, q, N, bs, bm, sn, sub, ab, col, dd, k0, k1, k2, k3, k5, hC, hbm⟩ := Y.T.cls
  have hCh := X _ _ hC
  have hbv : (Str.ofString "super") = "super" := rfl
  have hcl : PySem.W.clsIn K C = some { name := nm, bases := bs, mro := .ref C :: bm, ns := N, qualname := q, hasDict := true, slotNames := sn, subclasses := sub, abstract := ab, collection := col, hasDel := false } := by unfold PySem.W.clsIn; rw [hC] <;> rfl
  refine ks_codeAny_call_defAt (fd := PySem.W.ksFn "__init__" qual (defArgs st) (defBody st) (defScope st) .none kV doc pm an (.ref cda) ct cc) (binds := [(("self" : Str), .ref a), (x, u)]) hroom (X _ _ lk) rfl lim (PySem.W.codeRec_of X hcd) rfl (.of_eq (S.bind kV doc pm an (.ref cda) ct cc (.ref a) u)) S.nocell
    (fun y hy => ?_) (fun h0 hns k0' => ?_) S.co S.gen S.kind
  · rcases List.mem_cons.mp hy with rfl | hy
    · exact S.kself
    · rcases List.mem_cons.mp hy with rfl | hy
      · exact S.kx
      · cases hy
  · have X0 : K.In h0 := fun b o e => k0' b o (X b o e)
    have hlx : ([(("self" : Str), Value.ref a), (x, u)] : List (Str × Value)).reverse.lookup x = some u := by simp [List.lookup]
    have hls : ([(("self" : Str), Value.ref a), (x, u)] : List (Str × Value)).reverse.lookup ("self" : Str) = some (.ref a) := by
      have z : (("self" : Str) == x) = false := by
        cases e : (("self" : Str) == x)
        · rfl
        · exact absurd (eq_of_beq e).symm S.ne
      simp [List.lookup, z]
    rw [hb]
    obtain ⟨oD, hD1, hD2⟩ : ∃ oD, K.lookup D = some oD ∧ oD.data = .cls cdD := by
      unfold PySem.W.clsIn at hD
      split at hD
      · rename_i c d cd' sl ho
        cases hD
        exact ⟨_, ho, rfl⟩
      · cases hD
    have aC : a ≠ C := fun z => by rw [z, hC] at na; cases na
    have he0 := k0' _ _ he
    have I0 : PySem.W.InstAt h0 a (PySem.HandSPX.excO C t0) C none := ⟨he0, rfl, rfl, trivial⟩
    obtain ⟨pl, hpl, hsw1, hsw2, hst⟩ := hev (callEnv (PySem.W.ksFn "__init__" qual (defArgs st) (defBody st) (defScope st) .none kV doc pm an (.ref cda) ct cc) h.objs.size fI)
    rw [hb] at hpl hsw1 hsw2 hst
    refine ks_wpAt_execs_cons (ks_wpAt_Expr_any (ks_wpAt_MethodCall (pl := pl) ?_ hpl) (by show ((defScope st).kind == .module && _) = false; rw [S.kind]; rfl) hsw1)
    refine ks_wpAt_super_base (ar := ar) (vs := vs) S.sup S.kcls (by decide) rfl (X0 _ _ lk) rfl har rfl (X0 _ _ lcode) rfl hvs hfile S.top ?_
    refine PySem.W.ks_loadName_global S.kind S.sup (Calls.loadGlobal_builtin (G.keeps k0') hms (B.keeps k0') hbs ⟨rfl, ?_⟩)
    refine wpAny_loadName_free S.kind S.kcls rfl ⟨_, X0 _ _ lcell, rfl⟩ ?_
    refine wpAny_loadName_local (v := .ref a) S.kind (by rw [hself]; exact S.kself) hns (by rw [hself]; exact hls) ?_
    refine ks_wpAny_isType_cls (X0 _ _ hD1) hD2 ⟨rfl, ?_⟩
    refine ks_wpAny_call_super (X0 _ _ hD1) hD2 he0 rfl (fun c z => nomatch z) (PySem.W.looks_mroIn X0 Y.sub) fun h1 hso k1 => ?_
    have X1 := X0.keeps k1
    have hsz1 : h0.objs.size < h1.objs.size := Heap.lt_size hso
    have I1 : PySem.W.InstAt h1 a (PySem.HandSPX.excO C t0) C none := ⟨k1 _ _ he0, rfl, rfl, trivial⟩
    have hm := Y.sup
    unfold PySem.W.ks_superIn at hm
    rw [hcl] at hm
    refine PySem.W.kxs_getMethod PySem.W.kxs_ValueError hso (PySem.W.looks_opaque X1 Y.opq) (l₀ := .ref C :: bm) (fun A Q E s k q => wpAny_bind ((PySem.W.looks_clsIn X1 hcl) A _ E s k (wpAny_pure q))) rfl X1 hm (I1.type.andThen (PySem.W.looks_subIn X1 Y.isV)) aC (by decide) ?_
    have k2 : ∀ b o, h1.get? b = some o → (h1.push (PySem.W.kxs_mw "ValueError.__init__" a)).get? b = some o := fun b o e => Heap.get?_push_of_some _ e
    have hmw : (h1.push (PySem.W.kxs_mw "ValueError.__init__" a)).get? h1.objs.size = some (PySem.W.kxs_mw "ValueError.__init__" a) := Heap.get?_push_at rfl rfl
    have kk : ∀ b o, h0.get? b = some o → (h1.push (PySem.W.kxs_mw "ValueError.__init__" a)).get? b = some o := fun b o e => k2 _ _ (k1 _ _ e)
    have hns2 := hns.keeps kk
    refine PySem.W.kxs_callWith (i := "ValueError.__init__") (x := a) rfl (Calls.evalArgs_plain (Calls.spliced_cons (PySem.ESX.ldL hns2 hlx ?_ S.kind S.kx S.nd)))
    refine Calls.spliced_nil ⟨hmw, call_mwVE (by show 1 ≤ sizeLine; rw [sizeLine_eq]; omega) hmw (kk _ _ he0) (X1.keeps k2 _ _ hC) fun h3 t1 k3 he3 => ?_⟩
    have nK : ∀ b o, K.lookup b = some o → b ≠ a := fun b o e z => by rw [z, na] at e; cases e
    have X3 : K.In h3 := fun b o e => k3 b o (nK b o e) (X1.keeps k2 b o e)
    have La : h.objs.size ≠ a := fun z => by
      have := Heap.lt_size he
      rw [← z] at this
      exact Nat.lt_irrefl _ this
    have hns3 : h3.Ns h.objs.size (fun y => ([(("self" : Str), Value.ref a), (x, u)] : List (Str × Value)).reverse.lookup y) := by
      obtain ⟨oL, es, ep, hL, r⟩ := hns2
      exact ⟨oL, es, ep, k3 _ _ La hL, r⟩
    refine ks_wpAt_execs_cons (ks_wpAt_Assign_Attr (wpAt_of_wpAny (PySem.ESX.ldL hns3 hlx (PySem.ESX.ldL hns3 hls ?_ S.kind S.kself (by decide)) S.kind S.kx S.nd)) hsw2)
    refine PySem.W.set_plain (od := none) X3 ⟨he3, rfl, rfl, trivial⟩ Y.T.sa ?_
    refine PySem.HandSPX.exc_osa X3 he3 hcl (show PySem.HandSPX.refsVE (.ref C :: bm) = true from hbm) rfl Y.no fun h5 tk dx k5' dn dne hx hn => ?_
    refine wpAt_of_wpAny (wpAny_execs_nil ?_)
    have k03 : ∀ b o, b ≠ a → h0.get? b = some o → h3.get? b = some o := fun b o hb e => k3 b o hb (kk b o e)
    exact hq h5 _ dx _ (fun b o hb e => k5' b o hb (k03 b o hb (k0' b o e))) (Nat.le_of_lt (Nat.lt_of_lt_of_le (Heap.lt_size (k3 _ _ La (kk _ _ hns.choose_spec.choose_spec.choose_spec.1))) dn)) hx hn
end
/-- C(e), C's __init__ as SupI tells: a new error whose dict stands at d -/
def tMkS (C : Addr) (f : Str) (te : TE) : L2.St → Hp → XK → Prop := fun σ H Q => te σ H fun y H1 => ∀ d, H1 d = none → Q (.ref C) (some d) (upd H1 d (.xd [(f, y)]))
theorem pmk_super {X : Cx} {x n f : Str} {C D fI : Addr} {st : Stmt} {qual : Str} {k : Nat} {e : Expr} {te : TE} {p pos : Pos} (S : SupI X.K X.prog fI D st qual n f) (Y : SupC X.K C D f) (iC : PySem.W.findIn X.K (.ref C) "__init__" = some (some (.ref fI)))
    (tI : PySem.W.typeIn X.K (.ref fI) = some (.type "function")) (hr : Room (k + 1) X.A) (hg : Gl X x) (hm : X.mg x = some (.ref C)) (hms : X.mg "super" = none) (he : PE X e te)
    (hdb : (x == ("__debug__" : Str)) = false := by decide) (hst : starEach [e] X.env = (false, eval e X.env) :: starEach [] X.env := by rfl) (hpl : (backTo pos (starEach [] X.env)).any (·.1) = false := by rfl) :
    PMk X (.Call (.Name x p) [e] [] pos) (tMkS C f te) := by
  intro pins s σ H Q I h
  obtain ⟨nm, q, N, bs, bm, sn, sub, ab, col, dd, k0, k1, k2, k3, k5, hC, hbm⟩ := Y.T.cls
  refine wpAny_Call_Name_kw (ld_glob I hg hm ?_ hdb)
  refine PySem.W.callWith_K (h₀ := X.base) I.ok.mod.kin Y.T.kC ?_ hst hpl
  rw [hst]
  refine Calls.spliced_cons (thn (he.run pins s σ H _ I h) fun u s1 ⟨y, H1, I1, r1, q1⟩ => Calls.spliced_nil ⟨I1.kIn, ?_⟩)
  show wpAny _ _ (call (.ref C) [u]) _ _ _
  obtain ⟨hp, g, dr, tk, os⟩ := s1
  have hsz : hp.objs.size ≤ hp.objs.size + 1 := Nat.le_succ _
  have nu : ∀ b o, hp.get? b = some o → b ≠ hp.objs.size + 1 := fun b o e z => by
    have q := Heap.lt_size e
    rw [z] at q
    exact absurd q (Nat.not_lt.mpr hsz)
  have kk : ∀ b o, hp.get? b = some o → ((hp.push (PySem.W.kdv_tup [u])).push (PySem.HandSPX.excO C hp.objs.size)).get? b = some o := fun b o e => Heap.get?_push_of_some _ (Heap.get?_push_of_some _ e)
  have hget : ((hp.push (PySem.W.kdv_tup [u])).push (PySem.HandSPX.excO C hp.objs.size)).get? (hp.objs.size + 1) = some (PySem.HandSPX.excO C hp.objs.size) := by heap_get
  have KX := I1.kIn
  have na : X.K.lookup (hp.objs.size + 1) = none := by
    cases z : X.K.lookup (hp.objs.size + 1) with
    | none => rfl
    | some o => exact absurd rfl (nu _ _ (KX _ _ z))
  obtain ⟨mb, hb1, hb2⟩ := I1.mod.blt
  refine wpAny_call (PySem.HandSPX.call_own F.excBase_ValueError (fun Y => PySem.HandSPX.refsVE_contains Y bm hbm) (KX _ _ hC) (PySem.W.looks_findIn KX iC) (fun self => PySem.W.bind_fn KX self tI) (by show 1 ≤ sizeLine; rw [sizeLine_eq]; omega) ?_)
  refine super_init S Y (KX.keeps kk) (I1.nolimit.keeps kk) ((I1.mod.glob.keeps I1.bk).keeps kk) ((hb1.keeps I1.bk).keeps kk) hms ((hb2 _ (by decide)).trans (by decide +kernel)) (hr.make C [u] []).depth hget na fun h' tk' dx t1 k' hdx ha hns => ?_
  refine ⟨rfl, ?_⟩
  have hd0 : hp.objs.size ≤ dx := Nat.le_trans (Nat.le_trans hsz (Nat.le_of_lt (Heap.lt_size hget))) hdx
  have nd : H1 dx = none := I1.hok.fresh hd0
  obtain ⟨G, g1, g2⟩ := L2.restrict h' fun b => decide (b ≠ hp.objs.size + 1)
  have gk : ∀ b, b ≠ hp.objs.size + 1 → G.get? b = h'.get? b := fun b hb => g1 b (decide_eq_true hb)
  have ge : G.get? (hp.objs.size + 1) = none := g2 _ (by simp)
  have dne : dx ≠ hp.objs.size + 1 := fun z => by
    obtain ⟨o, es, ep, e1, e2, _⟩ := hns
    rw [z, ha] at e1
    cases e1
    cases e2
  have I3 : L2.Inv X pins σ (upd H1 dx (.xd [(f, y)])) { (⟨hp, g, dr, tk, os⟩ : Shared) with heap := G, toks := tk' } := I1.laid (fun b o e => (gk b (nu b o e)).trans (k' b o (nu b o e) (kk b o e))) hd0
    ⟨_, hns.at fun o z => (gk dx dne).trans z, fun z => by
      by_cases c : z = f
      · subst c
        simp only [List.lookup, beq_self_eq_true, if_true]
        exact r1
      · have c' : (z == f) = false := by simpa using c
        simp only [List.lookup, c', if_neg c]
        trivial⟩
  refine ⟨hp.objs.size + 1, _, _, _, _, .ref C, some dx, rfl, I3, fun b o e => ?_, ge, ha, ⟨rfl, rfl⟩, rfl, rfl, ?_, rfl, I1.bare, raises_own Y.T.exC Y.T.tyC, q1 dx nd⟩
  · by_cases c : b = hp.objs.size + 1
    · rw [c] at e
      rw [show G.get? (hp.objs.size + 1) = none from ge] at e
      cases e
    · exact (gk b c).symm.trans e
  · rw [upd_ne (fun z => dne z.symm)]
    exact I1.hok.fresh hsz
end PD
end ZPDMake
section ZPDRaise
set_option Elab.async false
set_option linter.all false
set_option maxRecDepth 100000
set_option maxHeartbeats 2000000
namespace PD
open PySem PySem.Spec L2 PyProof.Rows
/-! defs that may raise -/
/-- what an end with an error asks -/
def EndX (T : Tb) (G0 : Addr → Prop) (μ : List Addr) (ow : Addr → Prop) (H : Hp) (c : Nat) (v : D) (st' : Store) (E : XK) : Prop :=
  ∀ w dx H' μ', StR T (FF G0 μ') μ' H' st' → StepR μ ow H μ' (fun _ => False) H' → Rep T H' (FF G0 μ') μ' v w → H dx = none → dx ∉ μ' → H' dx = some (.xd [(erF, w)]) → E (.ref (T.ca c)) (some dx) H'
def RunX (T : Tb) (G0 : Addr → Prop) (μ : List Addr) (ow : Addr → Prop) (H : Hp) (D : Ends) (E : XK) : Res Out → Prop
  | .ok o st' => EndS T G0 μ ow H st' D o
  | .exc c v st' => EndX T G0 μ ow H c v st' E
  | .bad => False
def rdSX (T : Tb) (E : XK) (ev : Env → M Out) : TS := fun D σ H => ∃ G0 μ env st, GoodS T G0 μ H σ env st ∧ RunX T G0 μ (Own σ env) H D E (ev env st)
theorem EndX.step {T : Tb} {G0 : Addr → Prop} {H H' : Hp} {μ μ' : List Addr} {ow ow' : Addr → Prop} {st' : Store} {E : XK} {c : Nat} {v : D} (p : StepR μ ow H μ' ow' H') (h : EndX T G0 μ ow H c v st' E) : EndX T G0 μ' ow' H' c v st' E :=
  fun w dx H2 μ2 g s r n m x => h w dx H2 μ2 g (p.trans s) r (p.grow _ n) m x
theorem RunX.step {T : Tb} {G0 : Addr → Prop} {H H' : Hp} {μ μ' : List Addr} {ow ow' : Addr → Prop} {D : Ends} {E : XK} {r : Res Out} (p : StepR μ ow H μ' ow' H') (h : RunX T G0 μ ow H D E r) : RunX T G0 μ' ow' H' D E r := by
  cases r with
  | ok o st' => exact EndS.step p h
  | exc c v st' => exact EndX.step p h
  | bad => exact h
theorem noX_ok {α : Type} {m : M α} {st st' : Store} {a : α} (h : noX m st = .ok a st') : m st = .ok a st' := by
  unfold noX at h
  cases e : m st with
  | ok a1 s1 => rw [e] at h; exact h
  | exc c v s1 => rw [e] at h; cases h
  | bad => rw [e] at h; cases h
theorem noX_exc {α : Type} {m : M α} {st st' : Store} {c : Nat} {v : D} (h : noX m st = .exc c v st') : False := by
  unfold noX at h
  cases e : m st <;> rw [e] at h <;> cases h
/-- a quiet part ahead: it ends well, or all is void -/
theorem runX_noX {T : Tb} {G0 : Addr → Prop} {H : Hp} {μ : List Addr} {ow : Addr → Prop} {D : Ends} {E : XK} {α : Type} {m : M α} {f : α → M Out} {st : Store} (h : RunX T G0 μ ow H D E (bnd (noX m) f st)) : ∃ a st1, m st = .ok a st1 ∧ RunX T G0 μ ow H D E (f a st1) := by
  rw [bnd_ap] at h
  cases e : noX m st with
  | ok a s1 => rw [e] at h; exact ⟨a, s1, noX_ok e, h⟩
  | exc c v s1 => exact (noX_exc e).elim
  | bad => rw [e] at h; exact h.elim
section
variable {X : Cx} {T : Tb} {P : Prog} {cf : Calls} {pos p pos' apos cpos : Pos} {a b c e o tg : Expr} {xa xb xc xe xs xo xt sx bx bx' : PD.X} {fa pa fb pb : Bool} {es : List Expr} {x : Str} {s : Stmt} {sts sts' : List Stmt} {i : Nat} {E : XK}
abbrev PXSX (X : Cx) (T : Tb) (P : Prog) (cf : Calls) (E : XK) (s : Stmt) (x : PD.X) : Prop := PS X s (rdSX T E (evS P cf x))
abbrev PXBX (X : Cx) (T : Tb) (P : Prog) (cf : Calls) (E : XK) (s : List Stmt) (x : PD.X) : Prop := PSs X s (rdSX T E (evB P cf x))
theorem xbx_nil : PXBX X T P cf E [] .nil := PSs.imp pss_nil fun D σ H ⟨G0, μ, env, st, g, q⟩ => by
  have q' : EndS T G0 μ (Own σ env) H st D (.nx env) := q
  exact q' σ H μ g .refl
theorem xbx_cons (h1 : PXSX X T P cf E s sx) (h2 : PXBX X T P cf E sts bx) : PXBX X T P cf E (s :: sts) (.cons sx bx) := PSs.imp (pss_cons h1 h2) fun D σ H ⟨G0, μ, env, st, g, q⟩ => by
  refine ⟨G0, μ, env, st, g, ?_⟩
  have q' : RunX T G0 μ (Own σ env) H D E (bnd (evS P cf sx env) (fun o => match o with | .nx e => evB P cf bx e | o => ret o) st) := q
  rw [bnd_ap] at q'
  cases e : evS P cf sx env st with
  | ok o st1 =>
    rw [e] at q'
    cases o with
    | nx e1 => exact fun σ' H' μ' g' s' => ⟨G0, μ', e1, st1, g', q'.step s'⟩
    | ct e1 => exact q'
    | bk e1 => exact q'
    | rt d => exact q'
  | exc c v st1 => rw [e] at q'; exact q'
  | bad => rw [e] at q'; exact q'
/-- a statement that raises nothing -/
theorem xsx_q (h : PXS X T P cf s sx) : PXSX X T P cf E s (.q sx) := PS.imp h fun D σ H ⟨G0, μ, env, st, g, q⟩ => by
  have q' : RunX T G0 μ (Own σ env) H D E (noX (evS P cf sx env) st) := q
  cases e : noX (evS P cf sx env) st with
  | ok o st1 => rw [e] at q'; exact ⟨G0, μ, env, st, o, st1, g, noX_ok e, q'⟩
  | exc c v st1 => exact (noX_exc e).elim
  | bad => rw [e] at q'; exact q'.elim
theorem xsx_if (hc : PXT X T P cf c xc) (ha : PXBX X T P cf E sts bx) (hb : PXBX X T P cf E sts' bx') : PXSX X T P cf E (.If c sts sts' pos) (.ifx xc bx bx') := PS.imp (ps_if hc ha hb) fun D σ H ⟨G0, μ, env, st, g, q⟩ => by
  obtain ⟨k, st1, e1, q1⟩ := runX_noX (show RunX T G0 μ (Own σ env) H D E (bnd (noX (bnd (evE P cf xc env) blD)) (fun c => if c then evB P cf bx env else evB P cf bx' env) st) from q)
  refine ⟨_, μ, env, st, k, st1, g.good, e1, fun H1 μ1 p1 => ?_⟩
  cases k with
  | true => exact ⟨G0, μ1, env, st1, g.post p1, q1.step (.ofPost g p1)⟩
  | false => exact ⟨G0, μ1, env, st1, g.post p1, q1.step (.ofPost g p1)⟩
/-- raise C(e) -/
theorem xsx_raise {D fI : Addr} {st : Stmt} {qual n : Str} {k cx : Nat} {rp : Pos} (hcalm : X.calm = true) (tk : Takes X (fun cls d _ H => E cls d H)) (S : SupI X.K X.prog fI D st qual n erF) (Y : SupC X.K (T.ca cx) D erF) (iC : PySem.W.findIn X.K (.ref (T.ca cx)) "__init__" = some (some (.ref fI)))
    (tI : PySem.W.typeIn X.K (.ref fI) = some (.type "function")) (hr : Room (k + 1) X.A) (hg : Gl X x) (hm : X.mg x = some (.ref (T.ca cx))) (hms : X.mg "super" = none) (he : PX X T P cf e xe fa false)
    (hdb : (x == ("__debug__" : Str)) = false) (hst : starEach [e] X.env = (false, eval e X.env) :: starEach [] X.env) (hpl : (backTo pos (starEach [] X.env)).any (·.1) = false) :
    PXSX X T P cf E (.Raise (some (.Call (.Name x p) [e] [] pos)) none rp) (.raise cx xe) := PS.imp (ps_raise hcalm tk (pmk_super S Y iC tI hr hg hm hms he hdb hst hpl)) fun D σ H ⟨G0, μ, env, st, g, q⟩ => by
  obtain ⟨d, st1, e1, q1⟩ := runX_noX (show RunX T G0 μ (Own σ env) H D E (bnd (noX (evE P cf xe env)) (fun d st => .exc cx d st) st) from q)
  refine ⟨_, μ, env, st, d, st1, g.good, e1, fun v H1 μ1 p1 r1 dx hdx => ?_⟩
  have q2 : EndX T G0 μ (Own σ env) H cx d st1 E := q1
  have p2 := Post.more (H' := upd H1 dx (.xd [(erF, v)])) (g.post p1).good.toGoodT fun a o z => by rw [upd_ne (ne_of_none z hdx)]; exact z
  have nm : dx ∉ μ1 := fun z => by
    obtain ⟨i, hi⟩ := List.getElem?_of_mem z
    have hl : i < st1.length := by rw [← p1.sto.len]; exact (List.getElem?_eq_some_iff.mp hi).1
    exact (p1.sto.ob i _ dx (List.getElem?_eq_getElem hl) hi).some hdx
  refine q2 v dx _ μ1 (p2.sto.less go_less) (((StepR.ofPost g p1).trans (StepR.ofPost (g.post p1) p2)).less fun _ z => z.elim) (Rep.mv (mvLess go_less) d v (Rep.mv p2.mv d v (r1.rep rfl))) (Post.back g.good.toGoodT p1 hdx) nm upd_same
/-- what a def that may raise promises by its tree -/
def RunC (T : Tb) (G : Addr → Prop) (μ : List Addr) (H : Hp) (Q : VK) (E : XK) : Res D → Prop
  | .ok d st' => ∀ v H' μ', Post T G μ H μ' H' st' → Rep T H' (FF G μ') μ' d v → Q v H'
  | .exc c d st' => ∀ w dx H' μ', Post T G μ H μ' H' st' → Rep T H' (FF G μ') μ' d w → H dx = none → dx ∉ μ' → H' dx = some (.xd [(erF, w)]) → E (.ref (T.ca c)) (some dx) H'
  | .bad => False
def spX (T : Tb) (cf : Calls) (f np : Nat) : Sp := fun vs H Q E => ∃ G μ st ds, GoodT T G μ H st ∧ Reps T H (FF G μ) μ ds vs ∧ ds.length = np ∧ RunC T G μ H Q E (cf f ds st)
structure CallX (X : Cx) (T : Tb) (cf : Calls) (fa : Addr) (f np : Nat) : Prop where
  ex : ∃ k fd ps, FnOk X.prog X.w X.K X.mg X.base (L2.CX X.prog X.w) k fa fd ps (spX T cf f np) ∧ Room (k + 1) X.A ∧ Binds X.K fd ps []
  kp : PySem.W.keepIn X.K (.ref fa) = true
/-- f(..), f may raise: the call's reading -/
theorem callXR {f np : Nat} {cf : Calls} (hl : ∀ ds st, (match cf f ds st with | .bad => False | _ => True) → ds.length = np) {σ : L2.St} {H : Hp} {Q : VK} {G : Addr → Prop} {μ : List Addr} {env : Env} {st st1 : Store} {ds : List D} (g : Good T G μ H σ env st) (e1 : evA P cf xs env st = .ok ds st1)
    (h : ∀ H1 μ1, Post T G μ H μ1 H1 st1 → RunC T G μ1 H1 Q E (cf f ds st1)) : tCall (spX T cf f np) [] E (rdA T (evA P cf xs)) σ H Q := by
  refine ⟨G, μ, env, st, ds, st1, g, e1, fun vs H1 μ1 p1 r1 => ?_⟩
  refine ⟨G, μ1, st1, ds, (g.post p1).toGoodT, by rw [List.append_nil]; exact r1, hl ds st1 ?_, h H1 μ1 p1⟩
  have z := h H1 μ1 p1
  cases q : cf f ds st1 with
  | ok _ _ => trivial
  | exc _ _ _ => trivial
  | bad => rw [q] at z; exact z
/-- f(..) as a statement, f may raise -/
theorem xsx_call {ad : Addr} {f np : Nat} (tk : Takes X (fun cls d _ H => E cls d H)) (F : CallX X T cf ad f np) (hl : ∀ ds st, (match cf f ds st with | .bad => False | _ => True) → ds.length = np) (hg : Gl X x) (hm : X.mg x = some (.ref ad)) (ha : PXA X T P cf (e :: es) xs) (hdb : (x == ("__debug__" : Str)) = false)
    (he : starEach (e :: es) X.env = (false, eval e X.env) :: starEach es X.env) (hpl : (backTo cpos (starEach es X.env)).any (·.1) = false) (hs : swapsWith (.Call (.Name x p) (e :: es) [] cpos) none pos.line X.env = pure false) :
    PXSX X T P cf E (.Expr (.Call (.Name x p) (e :: es) [] cpos) pos) (.xcall f xs) := by
  obtain ⟨k, fd, ps, F1, hr, hb⟩ := F.ex
  refine PS.imp (ps_expr (pe_call (E := E) F1 (hr.mono (Nat.le_succ _)) hg hm F.kp hb .nil (passes_call tk fun _ _ _ _ z => z) ha hdb he hpl) hs) fun D σ H ⟨G0, μ, env, st, g, q⟩ => ?_
  obtain ⟨ds, st1, e1, q1⟩ := runX_noX (show RunX T G0 μ (Own σ env) H D E (bnd (noX (evA P cf xs env)) (fun ds => bnd (cf f ds) fun _ => ret (.nx env)) st) from q)
  refine callXR (P := P) hl g.good e1 fun H1 μ1 p1 => ?_
  have g1 := g.post p1
  have q2 := q1.step (.ofPost g p1)
  rw [bnd_ap] at q2
  cases ec : cf f ds st1 with
  | ok d st2 =>
    rw [ec] at q2
    exact fun v H' μ' p2 r2 => (show EndS T G0 μ1 (Own σ env) H1 st2 D (.nx env) from q2) σ H' μ' (g1.post p2) (.ofPost g1 p2)
  | exc c v st2 =>
    rw [ec] at q2
    exact fun w dx H' μ' p2 r2 n m z => (show EndX T G0 μ1 (Own σ env) H1 c v st2 E from q2) w dx H' μ' (p2.sto.less go_less) ((StepR.ofPost g1 p2).less fun _ z => z.elim) (Rep.mv (mvLess go_less) v w r2) n m z
  | bad => rw [ec] at q2; exact q2
end
section
variable {T : Tb} {base : Heap} {pg : Prog} {n k f : Nat} {x qual : Str} {st : Stmt} {fa : Addr} {fd : FuncData} {N ps : List Str} {cf : Calls} {tree : PD.X}
/-- the context of a body that may raise -/
abbrev bXX (T : Tb) (base : Heap) (N : List Str) (qual : Str) (st : Stmt) (fa : Addr) (cdv : Value) (A : Around) (outer : List PySem.Env) (s : Shared) (H : Hp) (E : XK) : Cx := cxOf (L2.CX T.P T.w) T.P T.w T.K T.mg base N qual (defScope st) fa cdv A outer s H E
theorem xtx_of {cdv : Value} {A : Around} {outer : List PySem.Env} {s : Shared} {H : Hp} {E : XK} (hr : Room k (A.deeper (envOfC qual (defScope st) s.heap.objs.size fa cdv))) : XT T (bXX T base N qual st fa cdv A outer s H E) :=
  ⟨rfl, rfl, rfl, rfl, by have := hr.un; show (A.deeper _).units + 200 < cLine; omega, rfl⟩
theorem bxx_takes {cdv : Value} {A : Around} {outer : List PySem.Env} {s : Shared} {H : Hp} {E : XK} : Takes (bXX T base N qual st fa cdv A outer s H E) (fun cls d _ H => E cls d H) := takes_of (E₁ := fun e' s'' => L2.CX T.P T.w outer H s E e' s'') rfl rfl rfl rfl
theorem fnOkX (F : Fun T.K x qual st fa fd) (S : FnScope N ps (defScope st)) (hfn : pg.fn f = ⟨ps.length, N.length, tree⟩)
    (hw : ∀ (cdv : Value) (A : Around) (outer : List PySem.Env) (s : Shared) (H : Hp) (E : XK), Room k (A.deeper (envOfC qual (defScope st) s.heap.objs.size fa cdv)) → PXBX (bXX T base N qual st fa cdv A outer s H E) T pg cf E (defBody st) tree) :
    FnOk T.P T.w T.K T.mg base (L2.CX T.P T.w) (k + 1) fa fd ps (spX T (fun g ds => runF pg cf (pg.fn g) ds) f ps.length) := by
  obtain ⟨oc, od, kV, doc, pm, an, cdv, ct, osl, rfl, lk, hcd⟩ := F.ex
  refine fn_of lk hcd S (fun vs H Q E ⟨G, μ, st0, ds, g, r, hl, q⟩ => by rw [r.length, hl]) fun A outer s H vs Q E hr ⟨G, μ, st0, ds, g, r, hl, q⟩ => ?_
  refine ⟨_, hw cdv A outer s H E hr, ?_⟩
  have q' : RunC T G μ H Q E ((if ds.length = (pg.fn f).np then bnd (evB pg cf (pg.fn f).body (ds.map .v ++ List.replicate ((pg.fn f).ns - (pg.fn f).np) .no)) (fun o => match o with
    | .rt d => ret d
    | .nx _ => ret D.non
    | _ => fail) else fail) st0) := q
  rw [hfn] at q'
  rw [if_pos hl, bnd_ap] at q'
  have hst : L2.start N vs = vs.map some ++ List.replicate (N.length - ps.length) none := by unfold L2.start; rw [r.length, hl]
  have g0 := reps_start r st0 g (N.length - ps.length)
  rw [hst]
  refine ⟨G, μ, _, st0, g0, ?_⟩
  have noO : ∀ a, ¬ Own (vs.map some ++ List.replicate (N.length - ps.length) none) (ds.map Sl.v ++ List.replicate (N.length - ps.length) .no) a := fun a ⟨i, _, s, h2, h3⟩ => by
    by_cases c : i < ds.length
    · rw [List.getElem?_append_left (by simpa using c), List.getElem?_map] at h2
      obtain ⟨d, _, rfl⟩ := Option.map_eq_some_iff.mp h2
      cases h3
    · rw [List.getElem?_append_right (by simpa using c)] at h2
      have := List.mem_of_getElem? h2
      rw [List.mem_replicate] at this
      rw [this.2] at h3
      cases h3
  cases e1 : evB pg cf tree (ds.map Sl.v ++ List.replicate (N.length - ps.length) .no) st0 with
  | ok o st1 =>
    rw [e1] at q'
    cases o with
    | nx e => exact fun σ' H' μ' g' s' => q' .non H' μ' ⟨s'.mu, s'.new, fun a o e n => s'.keep a o e n (noO a), g'.sto.less go_less⟩ rfl
    | rt d' => exact fun v H' μ' sto s' r' => q' v H' μ' ⟨s'.mu, s'.new, fun a o e n => s'.keep a o e n (noO a), sto⟩ r'
    | bk e => exact q'.elim
    | ct e => exact q'.elim
  | exc c v st1 =>
    rw [e1] at q'
    exact fun w dx H' μ' sto s' r' nn m z => q' w dx H' μ' ⟨s'.mu, s'.new, fun a o e n => s'.keep a o e n (noO a), sto⟩ r' nn m z
  | bad => rw [e1] at q'; exact q'.elim
theorem callN_lenX {ds : List D} {st0 : Store} (h : match callN pg n f ds st0 with | .bad => False | _ => True) : ds.length = (pg.fn f).np := by
  cases n with
  | zero => exact h.elim
  | succ n =>
    by_cases c : ds.length = (pg.fn f).np
    · exact c
    · have z : callN pg (n + 1) f ds st0 = .bad := by
        show runF pg (callN pg n) (pg.fn f) ds st0 = .bad
        unfold runF
        rw [if_neg c]
        rfl
      rw [z] at h
      exact h.elim
/-- a def that may raise, behind n calls -/
structure DefX (T : Tb) (base : Heap) (pg : Prog) (n : Nat) (fa : Addr) (f : Nat) (ps : List Str) : Prop where
  ex : ∃ fd, FnOk T.P T.w T.K T.mg base (L2.CX T.P T.w) (2 * n) fa fd ps (spX T (callN pg n) f ps.length) ∧ Binds T.K fd ps []
  kp : PySem.W.keepIn T.K (.ref fa) = true
theorem DefX.zero (hb : Binds T.K fd ps []) (kp : PySem.W.keepIn T.K (.ref fa) = true) : DefX T base pg 0 fa f ps :=
  ⟨⟨fd, ⟨fun vs H Q E ⟨G, μ, st0, ds, g, r, hl, q⟩ => by rw [r.length, hl], fun A outer s H args us vs Q E hr e0 hbt hv ⟨G, μ, st0, ds, g, r, hl, q⟩ => q.elim⟩, hb⟩, kp⟩
theorem DefX.succ (F : Fun T.K x qual st fa fd) (S : FnScope N ps (defScope st)) (hb : Binds T.K fd ps []) (hfn : pg.fn f = ⟨ps.length, N.length, tree⟩)
    (hw : ∀ (cdv : Value) (A : Around) (outer : List PySem.Env) (s : Shared) (H : Hp) (E : XK), Room (2 * n + 1) (A.deeper (envOfC qual (defScope st) s.heap.objs.size fa cdv)) → PXBX (bXX T base N qual st fa cdv A outer s H E) T pg (callN pg n) E (defBody st) tree) :
    DefX T base pg (n + 1) fa f ps := ⟨⟨fd, fnOkX (k := 2 * n + 1) F S hfn hw, hb⟩, F.kp⟩
theorem DefX.call {cdv : Value} {A : Around} {outer : List PySem.Env} {s : Shared} {H : Hp} {E : XK} {fb : Addr} {g : Nat} {qs : List Str} (D : DefX T base pg n fb g qs) (hr : Room (2 * n + 1) (A.deeper (envOfC qual (defScope st) s.heap.objs.size fa cdv))) :
    CallX (bXX T base N qual st fa cdv A outer s H E) T (callN pg n) fb g qs.length := by
  obtain ⟨fd, F1, hb⟩ := D.ex
  exact ⟨⟨2 * n, fd, qs, F1, hr, hb⟩, D.kp⟩
theorem DefI.callX {cdv : Value} {A : Around} {outer : List PySem.Env} {s : Shared} {H : Hp} {E : XK} {fb : Addr} {g : Nat} {qs : List Str} (D : DefI T base pg n fb g qs) (hr : Room (2 * n + 1) (A.deeper (envOfC qual (defScope st) s.heap.objs.size fa cdv))) :
    CallI (bXX T base N qual st fa cdv A outer s H E) T (callN pg n) fb g qs.length := by
  obtain ⟨fd, F1, hb⟩ := D.ex
  exact ⟨⟨2 * n, fd, qs, F1, hr, hb⟩, D.kp⟩
end
end PD
end ZPDRaise
section ZPDMet
set_option Elab.async false
set_option linter.all false
set_option maxRecDepth 100000
set_option maxHeartbeats 2000000
namespace PD
open PySem PySem.Spec L2 PyProof.Rows LamX
/-! a def that calls what it got, keeps an error, and tells (word of the error, its value) -/
/-- how often a truth stands in a list of truths -/
def rCntB (K : PySem.W.Frag) : V → List V → Hp → VK → Prop := fun x xs H Q => ∃ (p : Addr) (bs : List Bool) (k : Bool), x = .ref p ∧ xs = [.bl k] ∧ SqL K H p (bs.map V.bl) ∧ Q (.int (bs.count k : Nat)) H
theorem bools_eq (k : Bool) : ∀ {bs : List Bool} {its : List Value}, Vals (bs.map V.bl) its → (∀ y ∈ its, ∀ (A : Around) (s : Shared), SeqAt.EqAt A s y (.bool k) (isBoolOf k y)) ∧ its.countP (isBoolOf k) = bs.count k
  | [], _, r => by
    cases r
    exact ⟨fun y hy => absurd hy (by simp), rfl⟩
  | b :: bs, _, r => by
    cases r with
    | cons r1 r2 =>
      obtain ⟨h1, h2⟩ := bools_eq k r2
      cases r1
      refine ⟨fun y hy A s => ?_, ?_⟩
      · rcases List.mem_cons.mp hy with e | hy
        · rw [e]; exact SeqAt.EqAt.bool_bool b k
        · exact h1 y hy A s
      · rw [List.countP_cons, List.count_cons, h2]
        rfl
theorem mt_countB {X : Cx} : MtR X "list.count" (rCntB X.K) := by
  intro pins s σ H x xs v us Q I rx rxs ⟨p, bs, k, ex, exs, hs, q⟩
  subst ex exs
  obtain ⟨u, rfl, ru⟩ := rxs.one
  cases rx
  cases ru
  obtain ⟨its, rv, ⟨⟨cls, dd, data, sl⟩, n, ho, hc, hdn, hd⟩, hlen⟩ := I.list hs
  simp only at hc hd
  subst hc hd
  obtain ⟨h1, h2⟩ := bools_eq k rv
  refine call_meets PySem.F.slot_list_count ⟨_, ho, rfl⟩ PySem.F.entry_list_count (PySem.F.args_list_count_2 _ _)
    (SeqAt.list_countAt p its.toArray n dd sl (.bool k) (isBoolOf k)) ⟨ho, fun y hy => h1 y (by simpa using hy) _ _, ?_⟩
  have ec : its.toArray.toList.countP (isBoolOf k) = bs.count k := h2
  refine ⟨.int (bs.count k : Nat), H, I.tok _, ⟨s.toks, ?_⟩, q⟩
  rw [ec]
/-- what the written part says of an error's class C whose word is wd -/
structure MetK (K : PySem.W.Frag) (CE CM CW C : Addr) (wd : Str) : Prop where
  exm : PySem.W.exmOne K (.ref C) (.ref CE) = some true
  xc : ExcC K C
  xf : XfC K C
  no : PySem.W.findIn K (.ref C) erF = some none
  is_ : ∃ b, PySem.W.kitOne K (.ref C) (.ref CM) = some b ∧ PySem.W.kitOne K (.ref C) (.ref CW) = some (!b) ∧ PySem.W.kitOne K (.ref C) (.type "ValueError") = some true ∧ wd = if b then "many" else "word"
/-- what the def makes of what it got -/
def TTmet (K : PySem.W.Frag) (CE CM CW : Addr) : (XK → Hp → VK → Prop) → Hp → VK → Prop := fun tl H Q => ∀ (E : XK) (QN : VK),
  (∀ cls d H', (∃ (C dd : Addr) (w : V) (wd : Str), cls = .ref C ∧ d = some dd ∧ H' dd = some (.xd [(erF, w)]) ∧ MetK K CE CM CW C wd ∧ ∀ H2 t, (∀ b o, H' b = some o → H2 b = some o) → H' t = none → H2 t = some (.tup [.str wd, w]) → Q (.ref t) H2) → E cls d H') →
  (∀ v H', (∀ t, H' t = none → Q (.ref t) (upd H' t (.tup [.str "none", .non]))) → QN v H') → tl E H QN
theorem takes_len {X : Cx} {W : WX} (tk : Takes X W) : Takes X (fun cls d σ H => σ.length = X.N.length → W cls d σ H) := fun u s' ⟨a, B, sI, pins, σ, H, cls, d, e, I, nb, up, sky, na, os, ag, w⟩ =>
  tk u s' ⟨a, B, sI, pins, σ, H, cls, d, e, I, nb, up, sky, na, os, ag, w I.len⟩
structure MetS (X : Cx) (sg : Scope) (CE CM CW : Addr) : Prop where
  l0 : sg.names.lookup ("query" : Str) = some .local
  l1 : sg.names.lookup ("caught" : Str) = some .local
  l2 : sg.names.lookup ("error" : Str) = some .local
  l3 : sg.names.lookup ("marks" : Str) = some .local
  gE : sg.names.lookup ("DoorError" : Str) = some .globalImplicit
  gM : sg.names.lookup ("BadMany" : Str) = some .globalImplicit
  gW : sg.names.lookup ("BadWord" : Str) = some .globalImplicit
  gV : sg.names.lookup ("ValueError" : Str) = some .globalImplicit
  gI : sg.names.lookup ("isinstance" : Str) = some .globalImplicit
  mE : X.mg "DoorError" = some (.ref CE)
  mM : X.mg "BadMany" = some (.ref CM)
  mW : X.mg "BadWord" = some (.ref CW)
  mV : X.mg "ValueError" = none
  mI : X.mg "isinstance" = none
section
variable {X : Cx}
theorem met_gives {x q : Str} {sg : Scope} {g CE CM CW : Addr} {cdg : Value} {j1 j2 j3 j4 j5 j6 j7 j8 j9 k1 k2 k3 : Nat}
    {p1 p2 p3 p4 p5 p6 p7 p8 p9 p10 p11 p12 p13 p14 p15 p16 p17 p18 p19 p20 p21 p22 p23 p24 p25 p26 p27 p28 p29 p30 p31 p32 p33 p34 p35 p36 p37 p38 p39 p40 p41 p42 p43 p44 p45 p46 p47 p48 p49 p50 p51 p52 p53 p54 p55 p56 p57 p58 : Pos} (S : MetS X sg CE CM CW) (hl : (p33.endLine == p35.line) = true) :
    GivesTo X ["query", "caught", "error", "marks"] x sg g cdg
      [.Assign [.Name "caught" p1] (.Constant .none j1 p2) p3,
       .Try [.Expr (.Call (.Name "query" p4) [] [] p5) p6] [.ExceptHandler (some (.Name "DoorError" p7)) (some "error") [.Assign [.Name "caught" p8] (.Name "error" p9) p10] p11] [] [] p12,
       .If (.Compare (.Name "caught" p13) [.Is] [.Constant .none j2 p14] p15) [.Return (some (.Tuple [.Constant (.str "none") j3 p16, .Constant .none j4 p17] k1 p18)) p19] [] p20,
       .Assign [.Name "marks" p21] (.List [.Call (.Name "isinstance" p22) [.Name "caught" p23, .Name "BadMany" p24] [] p25, .Call (.Name "isinstance" p26) [.Name "caught" p27, .Name "BadWord" p28] [] p29] p30) p31,
       .If (.BoolOp .Or [.Compare (.Call (.Attribute (.Name "marks" p32) "count" p33) [.Constant (.bool true) j5 p34] [] p35) [.NotEq] [.Constant (.int 1) j6 p36] p37, .UnaryOp .Not (.Call (.Name "isinstance" p38) [.Name "caught" p39, .Name "ValueError" p40] [] p41) p42] p43)
         [.Return (some (.Tuple [.Constant (.str "other") j7 p44, .Constant .none j8 p45] k2 p46)) p47] [] p48,
       .Return (some (.Tuple [.IfExp (.Subscript (.Name "marks" p49) (.Constant (.int 0) j9 p50) p51) (.Constant (.str "many") j1 p52) (.Constant (.str "word") j2 p53) p54, .Attribute (.Name "caught" p55) "value" p56] k3 p57)) p58] "query" q (TTmet X.K CE CM CW) := by
  intro f c' s H Q tl act hc h
  let Z : Cx := (cxOf C8.CX0 X.prog X.w X.K X.mg X.base ["query", "caught", "error", "marks"] x sg g cdg X.A X.stack s H C8.E0).nox
  have gl : ∀ {y : Str}, sg.names.lookup y = some .globalImplicit → Gl Z y := fun z => z
  have nd : Z.N.Nodup := by show (["query", "caught", "error", "marks"] : List Str).Nodup; decide
  have v1 : ∀ {p : Pos}, PE Z (.Name "caught" p) (tVar 1) := fun {p} => pe_var (X := Z) (i := 1) rfl (.inl S.l1)
  have v3 : ∀ {p : Pos}, PE Z (.Name "marks" p) (tVar 3) := fun {p} => pe_var (X := Z) (i := 3) rfl (.inl S.l3)
  have isT : ∀ {n : Str} {v : V} {u : Value} {a b c d : Pos}, PE Z (.Name n b) (tC v) → PE Z (.Call (.Name "isinstance" a) [.Name "caught" c, .Name n b] [] d) (tCB (PD.rIsK Z.K) (tCons (tVar 1) (tCons (tC v) tNil))) := fun {n v u a b c d} hn =>
    pe_callB (X := Z) PD.call_isK (gl S.gI) S.mI PyProof.Rows.boot_isinstance (pa_cons v1 (pa_cons hn pa_nil))
  refine ⟨_, pss_cons (ps_set (X := Z) (i := 1) nd rfl (.inl S.l1) pe_non rfl (.inr S.l1)) (pss_cons (ps_try_keep (X := Z) (i := 2) (c := .ref CE) (Wout := fun _ _ _ _ => False)
    (tb := fun W D σ H => ∃ Ech : XK, (∀ cls d σ' H', Ech cls d H' → σ'.length = 4 → W cls d σ' H') ∧ σ[0]? = some (some (.ref f)) ∧ H c' = some (CodeO c' q) ∧ tl Ech H (fun _ H1 => D.nx σ H1))
    (ts := fun a cls d => tAsg (tVar 2) (gName 1)) rfl rfl rfl nd rfl S.l2 ⟨gl S.gE, by decide, .inl S.mE⟩ takes0 (fun W pn xe tk _ => ?_) (fun a oe cls d pn hz hv => ?_))
    (pss_cons (ps_if (X := Z) (pt_cmp (pc_isN v1)) (pss_one (ps_ret (pe_tup (pa_cons pe_str (pa_cons pe_non pa_nil))))) pss_nil)
    (pss_cons (ps_set (X := Z) (i := 3) nd rfl (.inl S.l3) (pe_lst (pa_cons (isT (u := .ref CM) (pe_glob (v := .ref CM) (gl S.gM) S.mM rfl)) (pa_cons (isT (u := .ref CW) (pe_glob (v := .ref CW) (gl S.gW) S.mW rfl)) pa_nil))) rfl (.inr S.l3))
    (pss_cons (ps_if (X := Z) (PW.pt (pw_or (pt_cmpR op_ne (pe_bm PySem.F.plainAttrs_list PySem.F.slot_list_count PySem.F.type_list_count mt_countB v3 (pa_cons pe_bl pa_nil) rfl rfl hl) pe_int rfl) (pw_or1 (pt_not (pt_val (isT (u := .type "ValueError") (pe_bltn (v := .ty "ValueError") (gl S.gV) S.mV PyProof.Rows.Boot.«ValueError» rfl)))))))
      (pss_one (ps_ret (pe_tup (pa_cons pe_str (pa_cons pe_non pa_nil))))) pss_nil)
    (pss_one (ps_ret (pe_tup (pa_cons (pe_ifExp (pt_val (pe_ix ix_list v3 pe_int (fun _ _ => rfl))) pe_str pe_str) (pa_cons (pe_valK v1) pa_nil))))))))), ?_⟩
  · refine ⟨fun pins s' σ H' D I h' => ?_⟩
    obtain ⟨Ech, hW, h1, h2, h3⟩ := h'
    have hp := act _ pn xe Ech p4 p5 (takes_len tk) hW
    exact (pss_one (ps_expr (pos := p6) hp)).run pins s' σ H' D I ⟨h1, h2, h3⟩
  · exact pss_one (ps_set (X := Z.suite a ((a, oe) :: pn)) (i := 1) nd rfl (.inl S.l1) (pe_var (i := 2) rfl (.inl S.l2)) rfl (.inr S.l1))
  · refine ⟨fun cls d H' => ∀ σ' : L2.St, σ'.length = 4 → _, fun cls d σ' H' hE hlen => hE σ' hlen, rfl, hc, h _ _ (fun cls d H' ⟨C, dd, w, wd, e1, e2, hdd, M, hq⟩ σ' hlen => ?_) (fun v H' hq => ?_)⟩
    · subst e1 e2
      obtain ⟨b, b1, b2, b3, ewd⟩ := M.is_
      match σ', hlen with
      | [s0, s1, s2, s3], _ =>
      refine ⟨true, M.exm, fun _ a ha => ⟨.ref a, rfl, fun _ => ⟨.ref a, rfl, false, by simp, iteF ?_⟩⟩, fun z => nomatch z⟩
      have dne : dd ≠ a := ne_of_none hdd ha
      have ea : upd H' a (ExnO (.ref C) (some dd) a) a = some (ExnO (.ref C) (some dd) a) := upd_same
      have edd : upd H' a (ExnO (.ref C) (some dd) a) dd = some (.xd [(erF, w)]) := by rw [upd_ne dne]; exact hdd
      generalize hH1 : upd H' a (ExnO (.ref C) (some dd) a) = H1 at ea edd ⊢
      have k1 : ∀ b o, H' b = some o → H1 b = some o := fun b o z => by rw [← hH1, upd_ne (ne_of_none z ha)]; exact z
      have f1 : ∀ t, H1 t = none → H' t = none := fun t z => by
        cases q : H' t with
        | none => rfl
        | some o => rw [k1 t o q] at z; cases z
      refine ⟨.ref a, rfl, a, C, dd, _, .ref CM, .ref CM, b, rfl, ea, edd, (fun u r => r), M.xc, b1, ⟨.ref a, rfl, a, C, dd, _, .ref CW, .ref CW, !b, rfl, ea, edd, (fun u r => r), M.xc, b2, ⟨by show 2 ≤ sizeLine; rw [sizeLine_eq]; omega, fun p hp => ?_⟩⟩⟩
      have ea2 : upd H1 p (.lst [.bl b, .bl (!b)]) a = some (ExnO (.ref C) (some dd) a) := by rw [upd_ne (ne_of_none ea hp)]; exact ea
      have edd2 : upd H1 p (.lst [.bl b, .bl (!b)]) dd = some (.xd [(erF, w)]) := by rw [upd_ne (ne_of_none edd hp)]; exact edd
      have ep : upd H1 p (.lst [.bl b, .bl (!b)]) p = some (.lst ([b, !b].map V.bl)) := upd_same
      have k2 : ∀ b' o, H1 b' = some o → upd H1 p (.lst [.bl b, .bl (!b)]) b' = some o := fun b' o z => by rw [upd_ne (ne_of_none z hp)]; exact z
      generalize upd H1 p (.lst [.bl b, .bl (!b)]) = H2 at ea2 edd2 ep k2 ⊢
      have hcnt : [b, !b].count true = 1 := by cases b <;> rfl
      refine ⟨.ref p, rfl, .inl ⟨rfl, _, .inl (.inl ep)⟩, p, [b, !b], true, rfl, rfl, .inl (.inl ep), rfl, false, by rw [hcnt]; rfl, iteF ?_⟩
      refine ⟨.ref a, rfl, a, C, dd, _, .ty "ValueError", .type "ValueError", true, rfl, ea2, edd2, (fun u r => r), M.xc, b3, true, rfl, iteF ?_⟩
      have fin : ∀ t, H2 t = none → Q (.ref t) (upd H2 t (.tup [.str wd, w])) := fun t ht => hq _ t (fun b' o z => by rw [upd_ne (ne_of_none (k2 _ _ (k1 _ _ z)) ht)]; exact k2 _ _ (k1 _ _ z)) (f1 t (by
        cases q : H1 t with
        | none => rfl
        | some o => rw [k2 t o q] at ht; cases ht)) upd_same
      refine ⟨.ref p, rfl, p, _, 0, .bl b, rfl, rfl, .inl (.inl ep), rfl, b, rfl, ?_⟩
      subst ewd
      have l2 : ([V.str "many", w] : List V).length ≤ sizeLine := by show 2 ≤ sizeLine; rw [sizeLine_eq]; omega
      cases b with
      | true => exact iteT ⟨.ref a, rfl, a, C, dd, _, w, rfl, ea2, edd2, M.xf, M.no, rfl, l2, fin⟩
      | false => exact iteF ⟨.ref a, rfl, a, C, dd, _, w, rfl, ea2, edd2, M.xf, M.no, rfl, l2, fin⟩
    · exact ⟨.non, rfl, true, by simp, iteT ⟨by show 2 ≤ sizeLine; rw [sizeLine_eq]; omega, hq⟩⟩
end
end PD
end ZPDMet
section ZPDG
set_option Elab.async false
set_option linter.all false
set_option maxRecDepth 100000
set_option maxHeartbeats 2000000
namespace PD
open PySem PySem.Spec L2 PyProof.Rows
/-! defs that show what holds itself not: it is known that no repr is under way -/
structure FnG (P : Program) (w : World) (K : PySem.W.Frag) (mg : Str → Option Value) (base : Heap) (k : Nat) (f : Addr) (fd : FuncData) (ps : List Str) (sp : Sp) : Prop where
  len : ∀ vs H Q E, sp vs H Q E → vs.length = ps.length
  run : ∀ (A : Around) (outer : List PySem.Env) (s : Shared) (H : Hp) (args : Args) (us : List Value) (vs : List V) (Q : VK), Room k A → A.guards = some [] → Env0 P w K mg base A outer s H → BindsTo s fd args (ps.zip us) → Vals vs us → sp vs H Q E0 →
    codeAny (model P w) A (.call (.ref f) args) (CR CX0 outer P w H s Q E0) s
section
variable {P : Program} {w : World} {K : PySem.W.Frag} {mg : Str → Option Value} {base : Heap} {k : Nat} {f : Addr} {fd : FuncData} {ps : List Str} {sp sp' : Sp}
theorem FnG.ofOk (F : FnOk P w K mg base CX0 k f fd ps sp) : FnG P w K mg base k f fd ps sp := ⟨F.len, fun A outer s H args us vs Q hr _ e0 hb hv h => F.run A outer s H args us vs Q E0 hr e0 hb hv h⟩
theorem FnG.imp (F : FnG P w K mg base k f fd ps sp) (h : ∀ vs H Q E, sp' vs H Q E → sp vs H Q E) : FnG P w K mg base k f fd ps sp' := ⟨fun vs H Q E q => F.len vs H Q E (h _ _ _ _ q), fun A outer s H args us vs Q hr hg e0 hb hv q => F.run A outer s H args us vs Q hr hg e0 hb hv (h _ _ _ _ q)⟩
end
section
variable {X : Cx} {k : Nat} {f : Addr} {fd : FuncData} {ps : List Str} {sp : Sp} {x : Str} {p pos : Pos} {e : Expr} {es : List Expr} {t : TA}
theorem pe_callG (F : FnG X.prog X.w X.K X.mg X.base k f fd ps sp) (hr : Room k X.A) (hgd : X.A.guards = some []) (hg : Gl X x) (hm : X.mg x = some (.ref f)) (hk : PySem.W.keepIn X.K (.ref f) = true) (hb : Binds X.K fd ps []) (ha : PA X (e :: es) t)
    (hdb : (x == ("__debug__" : Str)) = false) (he : starEach (e :: es) X.env = (false, eval e X.env) :: starEach es X.env) (hpl : (backTo pos (starEach es X.env)).any (·.1) = false) : PE X (.Call (.Name x p) (e :: es) [] pos) (tCall sp [] E0 t) := by
  refine ⟨fun pins s σ H Q I h => wpAny_Call_Name_kw (ld_glob I hg hm (PySem.W.callWith_K (h₀ := X.base) I.ok.mod.kin hk (thn (ha.run pos pins s σ H _ I h) fun us s1 ⟨vs, H1, I1, r, q⟩ => ⟨I1.kIn, ?_⟩) he hpl) hdb)⟩
  replace q : sp (vs ++ []) H1 Q E0 := q
  rw [List.append_nil] at q
  have hl : (us ++ ([] : List Value)).length = ps.length := by rw [List.append_nil, ← r.length]; exact F.len _ _ _ _ q
  have hb2 := hb s1 us I1.kIn hl
  rw [List.append_nil] at hb2
  refine wpAny_call (codeAny_mono (F.run X.A X.stack s1 H1 ⟨us, []⟩ us vs Q hr hgd I1.env0 hb2 r q) fun r s' hq => ?_)
  cases r with
  | error e => exact (show False from hq).elim
  | ok fl =>
    cases fl with
    | ret u => exact I1.after hq
    | next => exact False.elim hq
    | brk => exact False.elim hq
    | cont => exact False.elim hq
end
section
variable {T : Tb} {base : Heap} {pg : Prog} {n k f : Nat} {x qual : Str} {st : Stmt} {fa : Addr} {fd : FuncData} {N ps : List Str} {cf : Calls} {tree : PD.X}
structure CallG (X : Cx) (T : Tb) (cf : Calls) (fa : Addr) (f np : Nat) : Prop where
  ex : ∃ k fd ps, FnG X.prog X.w X.K X.mg X.base k fa fd ps (spC T cf f np) ∧ Room (k + 1) X.A ∧ X.A.guards = some [] ∧ Binds X.K fd ps []
  kp : PySem.W.keepIn X.K (.ref fa) = true
theorem CallG.blk {X : Cx} (h : CallG X T cf fa f k) {s : Shared} {H : Hp} {scope : Scope} {cenv : PySem.Env} {fp : List Addr} : CallG (X.blk s H scope cenv fp) T cf fa f k := ⟨h.ex, h.kp⟩
theorem xe_callG {X : Cx} {P : Prog} {ad : Addr} {np : Nat} {p pos : Pos} {e : Expr} {es : List Expr} {xs : PD.X} (F : CallG X T cf ad f np) (hl : ∀ ds st d st', cf f ds st = .ok d st' → ds.length = np) (hg : Gl X x) (hm : X.mg x = some (.ref ad)) (ha : PXA X T P cf (e :: es) xs) (hdb : (x == ("__debug__" : Str)) = false)
    (he : starEach (e :: es) X.env = (false, eval e X.env) :: starEach es X.env) (hpl : (backTo pos (starEach es X.env)).any (·.1) = false) : PX X T P cf (.Call (.Name x p) (e :: es) [] pos) (.call f xs) false false := by
  obtain ⟨k, fd, ps, F1, hr, hgd, hb⟩ := F.ex
  exact PE.imp (pe_callG F1 (hr.mono (Nat.le_succ _)) hgd hg hm F.kp hb ha hdb he hpl) fun _ _ _ h => spOf h hl
/-- what a body does, as its def promises -/
theorem bodyC (hfn : pg.fn f = ⟨ps.length, N.length, tree⟩) {H : Hp} {vs : List V} {Q : VK} {E : XK} (h : spC T (fun g ds => runF pg cf (pg.fn g) ds) f ps.length vs H Q E) :
    rdS T (evB pg cf tree) { nx := fun _ H' => Q .non H', rt := Q } (L2.start N vs) H := by
  obtain ⟨G, μ, st0, ds, d, st', g, r, hl, ev, q⟩ := h
  have ev' : (if ds.length = (pg.fn f).np then bnd (evB pg cf (pg.fn f).body (ds.map .v ++ List.replicate ((pg.fn f).ns - (pg.fn f).np) .no)) (fun o => match o with
    | .rt d => ret d
    | .nx _ => ret D.non
    | _ => fail) else fail) st0 = .ok d st' := ev
  rw [hfn, if_pos hl] at ev'
  obtain ⟨o, st1, e1, e2⟩ := bnd_inv ev'
  have hst : L2.start N vs = vs.map some ++ List.replicate (N.length - ps.length) none := by unfold L2.start; rw [r.length, hl]
  rw [hst]
  refine ⟨G, μ, _, st0, o, st1, reps_start r st0 g (N.length - ps.length), e1, ?_⟩
  have noO : ∀ a, ¬ Own (vs.map some ++ List.replicate (N.length - ps.length) none) (ds.map Sl.v ++ List.replicate (N.length - ps.length) .no) a := fun a ⟨i, _, s, h2, h3⟩ => by
    have hm := List.mem_of_getElem? h2
    rcases List.mem_append.mp hm with z | z
    · obtain ⟨d, _, rfl⟩ := List.mem_map.mp z
      cases h3
    · rw [(List.mem_replicate.mp z).2] at h3
      cases h3
  cases o with
  | nx e =>
    obtain ⟨rfl, rfl⟩ := ret_inv e2
    exact fun σ' H' μ' g' s' => q .non H' μ' ⟨s'.mu, s'.new, fun a o e n => s'.keep a o e n (noO a), g'.sto.less go_less⟩ rfl
  | rt d' =>
    obtain ⟨rfl, rfl⟩ := ret_inv e2
    exact fun v H' μ' sto s' r' => q v H' μ' ⟨s'.mu, s'.new, fun a o e n => s'.keep a o e n (noO a), sto⟩ r'
  | bk e => cases e2
  | ct e => cases e2
theorem fnG {oc kV doc pm cdv ct : Value} {od an : Option Addr} {osl : Array (Option Value)} (lk : T.K.lookup fa = some ⟨oc, od, .func (PySem.W.fnOf x qual (defArgs st) (defBody st) (defScope st) .none kV doc pm an cdv ct), osl⟩) (hcd : PySem.W.codeIn T.K cdv qual = true)
    (S : FnScope N ps (defScope st)) (hfn : pg.fn f = ⟨ps.length, N.length, tree⟩)
    (hw : ∀ (A : Around) (outer : List PySem.Env) (s : Shared) (H : Hp), Room k (A.deeper (envOfC qual (defScope st) s.heap.objs.size fa cdv)) → A.guards = some [] → PXB (bX T base N qual st fa cdv A outer s H E0) T pg cf (defBody st) tree) :
    FnG T.P T.w T.K T.mg base (k + 1) fa (PySem.W.fnOf x qual (defArgs st) (defBody st) (defScope st) .none kV doc pm an cdv ct) ps (spC T (fun g ds => runF pg cf (pg.fn g) ds) f ps.length) := by
  have len : ∀ vs H Q E, spC T (fun g ds => runF pg cf (pg.fn g) ds) f ps.length vs H Q E → vs.length = ps.length := fun vs H Q E ⟨G, μ, st0, ds, d, st', g, r, hl, ev, q⟩ => by rw [r.length, hl]
  exact ⟨len, fun A outer s H args us vs Q hr hg e0 hb r h => LamX.run_ofS (N := N) lk hcd S hr e0 hb r (len _ _ _ _ h) fun hr' => ⟨_, (hw A outer s H hr' hg).nox, bodyC hfn h⟩⟩
/-- .. behind n calls -/
structure DefG (T : Tb) (base : Heap) (pg : Prog) (n : Nat) (fa : Addr) (f : Nat) (ps : List Str) : Prop where
  ex : ∃ fd, FnG T.P T.w T.K T.mg base (2 * n) fa fd ps (spC T (callN pg n) f ps.length) ∧ Binds T.K fd ps []
  kp : PySem.W.keepIn T.K (.ref fa) = true
theorem DefG.zero (hb : Binds T.K fd ps []) (kp : PySem.W.keepIn T.K (.ref fa) = true) : DefG T base pg 0 fa f ps :=
  ⟨⟨fd, ⟨fun vs H Q E ⟨G, μ, st0, ds, d, st', g, r, hl, ev, q⟩ => by rw [r.length, hl], fun A outer s H args us vs Q hr hg e0 hbt hv ⟨G, μ, st0, ds, d, st', g, r, hl, ev, q⟩ => by cases ev⟩, hb⟩, kp⟩
theorem DefG.succ {oc kV doc pm cdv ct : Value} {od an : Option Addr} {osl : Array (Option Value)} (lk : T.K.lookup fa = some ⟨oc, od, .func (PySem.W.fnOf x qual (defArgs st) (defBody st) (defScope st) .none kV doc pm an cdv ct), osl⟩) (hcd : PySem.W.codeIn T.K cdv qual = true)
    (kp : PySem.W.keepIn T.K (.ref fa) = true) (S : FnScope N ps (defScope st)) (hb : Binds T.K (PySem.W.fnOf x qual (defArgs st) (defBody st) (defScope st) .none kV doc pm an cdv ct) ps []) (hfn : pg.fn f = ⟨ps.length, N.length, tree⟩)
    (hw : ∀ (A : Around) (outer : List PySem.Env) (s : Shared) (H : Hp), Room (2 * n + 1) (A.deeper (envOfC qual (defScope st) s.heap.objs.size fa cdv)) → A.guards = some [] → PXB (bX T base N qual st fa cdv A outer s H E0) T pg (callN pg n) (defBody st) tree) :
    DefG T base pg (n + 1) fa f ps := ⟨⟨_, fnG (k := 2 * n + 1) lk hcd S hfn hw, hb⟩, kp⟩
theorem DefG.call {cdv : Value} {A : Around} {outer : List PySem.Env} {s : Shared} {H : Hp} {E : XK} {fb : Addr} {g : Nat} {qs : List Str} (D : DefG T base pg n fb g qs) (hr : Room (2 * n + 1) (A.deeper (envOfC qual (defScope st) s.heap.objs.size fa cdv))) (hg : A.guards = some []) :
    CallG (bX T base N qual st fa cdv A outer s H E) T (callN pg n) fb g qs.length := by
  obtain ⟨fd, F1, hb⟩ := D.ex
  exact ⟨⟨2 * n, fd, qs, F1, hr, hg, hb⟩, D.kp⟩
theorem DefG.succF (F : Fun T.K x qual st fa fd) (S : FnScope N ps (defScope st)) (hb : Binds T.K fd ps []) (hfn : pg.fn f = ⟨ps.length, N.length, tree⟩)
    (hw : ∀ (cdv : Value) (A : Around) (outer : List PySem.Env) (s : Shared) (H : Hp), Room (2 * n + 1) (A.deeper (envOfC qual (defScope st) s.heap.objs.size fa cdv)) → A.guards = some [] → PXB (bX T base N qual st fa cdv A outer s H E0) T pg (callN pg n) (defBody st) tree) :
    DefG T base pg (n + 1) fa f ps := by
  obtain ⟨oc, od, kV, doc, pm, an, cdv, ct, osl, rfl, lk, hcd⟩ := F.ex
  exact DefG.succ lk hcd F.kp S hb hfn (hw cdv)
/-- a def whose code object stands at c -/
structure FunC (K : PySem.W.Frag) (x qual : Str) (st : Stmt) (f : Addr) (fd : FuncData) (c : Addr) : Prop where
  ex : ∃ (oc : Value) (od : Option Addr) (kV doc pm : Value) (an : Option Addr) (ct : Value) (osl : Array (Option Value)),
    fd = PySem.W.fnOf x qual (defArgs st) (defBody st) (defScope st) .none kV doc pm an (.ref c) ct ∧ K.lookup f = some ⟨oc, od, .func fd, osl⟩ ∧ PySem.W.codeIn K (.ref c) qual = true
  kp : PySem.W.keepIn K (.ref f) = true
theorem FunC.fn {K : PySem.W.Frag} {c : Addr} (F : FunC K x qual st fa fd c) : Fun K x qual st fa fd := by
  obtain ⟨oc, od, kV, doc, pm, an, ct, osl, e, lk, hcd⟩ := F.ex
  exact ⟨⟨oc, od, kV, doc, pm, an, _, ct, osl, e, lk, hcd⟩, F.kp⟩
theorem funC_mk {K : PySem.W.Frag} {c : Addr} {oc : Value} {od an : Option Addr} {osl : Array (Option Value)} {kV doc pm ct : Value} (l : K.lookup fa = some ⟨oc, od, .func (PySem.W.fnOf x qual (defArgs st) (defBody st) (defScope st) .none kV doc pm an (.ref c) ct), osl⟩)
    (h : PySem.W.codeIn K (.ref c) qual = true) (k : PySem.W.keepIn K (.ref fa) = true) : FunC K x qual st fa (PySem.W.fnOf x qual (defArgs st) (defBody st) (defScope st) .none kV doc pm an (.ref c) ct) c := ⟨⟨oc, od, kV, doc, pm, an, ct, osl, rfl, l, h⟩, k⟩
theorem DefG.succC {c : Addr} (F : FunC T.K x qual st fa fd c) (S : FnScope N ps (defScope st)) (hb : Binds T.K fd ps []) (hfn : pg.fn f = ⟨ps.length, N.length, tree⟩)
    (hw : ∀ (A : Around) (outer : List PySem.Env) (s : Shared) (H : Hp), Room (2 * n + 1) (A.deeper (envOfC qual (defScope st) s.heap.objs.size fa (.ref c))) → A.guards = some [] → PXB (bX T base N qual st fa (.ref c) A outer s H E0) T pg (callN pg n) (defBody st) tree) :
    DefG T base pg (n + 1) fa f ps := by
  obtain ⟨oc, od, kV, doc, pm, an, ct, osl, rfl, lk, hcd⟩ := F.ex
  exact DefG.succ lk hcd F.kp S hb hfn hw
/-- a def called in a lambda -/
theorem DefI.lam {X : Cx} {scope : Scope} {fl cl fb : Addr} {g : Nat} {qs : List Str} {A : Around} {outer : List PySem.Env} {s : Shared} {H : Hp} {E : XK} (D : DefI T X.base pg n fb g qs) (h : XT T X) (hr : Room (2 * n + 1) (A.deeper (LamX.lamEnv X scope s.heap.objs.size fl cl))) :
    CallI (LamX.lamCx X A outer s H E scope fl cl) T (callN pg n) fb g qs.length := by
  obtain ⟨fd, F1, hb⟩ := D.ex
  rw [← h.P, ← h.w, ← h.K, ← h.m] at F1
  rw [← h.K] at hb
  exact ⟨⟨2 * n, fd, qs, F1, hr, hb⟩, (show PySem.W.keepIn X.K (.ref fb) = true from h.K ▸ D.kp)⟩
end
end PD
end ZPDG
section ZPDMet2
set_option Elab.async false
set_option linter.all false
set_option maxRecDepth 100000
set_option maxHeartbeats 2000000
namespace PD
open PySem PySem.Spec L2 PyProof.Rows LamX
/-! a call told by such a def: its tree is that of a def of its own, with slots of its own -/
/-- other slots -/
def sub (is : List Nat) : PD.X → PD.X
  | .var k => match is[k]? with
    | some i => .var i
    | none => .never
  | .nil => .nil
  | .cons h t => .cons (sub is h) (sub is t)
  | .call f as => .call f (sub is as)
  | _ => .never
def okS (m : Nat) : PD.X → Bool
  | .var k => decide (k < m)
  | .nil => true
  | .cons (.star _) _ => false
  | .cons h t => okS m h && okS m t
  | .call _ as => okS m as
  | _ => false
def varsX : List Nat → PD.X
  | [] => .nil
  | i :: r => .cons (.var i) (varsX r)
section
variable {P : Prog} {cf : Calls}
theorem vars_ev : ∀ {is : List Nat} {env : Env} {st st1 : Store} {ds : List D}, evA P cf (varsX is) env st = .ok ds st1 → st1 = st ∧ ∀ (k i : Nat), is[k]? = some i → env[i]? = (ds.map Sl.v)[k]?
  | [], env, st, st1, ds, h => by
    obtain ⟨rfl, rfl⟩ := ret_inv (show ret [] st = .ok ds st1 from h)
    exact ⟨rfl, fun k i e => by simp at e⟩
  | i :: r, env, st, st1, ds, h => by
    obtain ⟨d, st2, e1, e2⟩ := bnd_inv (show bnd (evE P cf (.var i) env) (fun d => bnd (evA P cf (varsX r) env) fun ds => ret (d :: ds)) st = .ok ds st1 from h)
    obtain ⟨es, st3, e3, e4⟩ := bnd_inv e2
    obtain ⟨rfl, rfl⟩ := ret_inv e4
    have e1' : (match env[i]? with | some (.v d) => ret d | _ => fail : M D) st = .ok d st2 := e1
    have hv : env[i]? = some (.v d) ∧ st2 = st := by
      cases z : env[i]? with
      | none => rw [z] at e1'; cases e1'
      | some s =>
        rw [z] at e1'
        cases s with
        | v d' =>
          obtain ⟨rfl, rfl⟩ := ret_inv (show ret d' st = .ok d st2 from e1')
          exact ⟨rfl, rfl⟩
        | _ => cases e1'
    obtain ⟨hv, rfl⟩ := hv
    obtain ⟨rfl, h2⟩ := vars_ev e3
    refine ⟨rfl, fun k j e => ?_⟩
    cases k with
    | zero =>
      have ej : i = j := by simpa using e
      rw [← ej, hv]
      rfl
    | succ k => exact h2 k j (by simpa using e)
theorem sub_ev (is : List Nat) (env0 env : Env) (h : ∀ (k i : Nat), is[k]? = some i → env[i]? = env0[k]?) (x : PD.X) : okS is.length x = true → evE P cf (sub is x) env = evE P cf x env0 ∧ evA P cf (sub is x) env = evA P cf x env0 := by
  induction x with
  | var k =>
    intro hk
    have hk' : k < is.length := of_decide_eq_true hk
    have e : is[k]? = some is[k] := List.getElem?_eq_getElem hk'
    have e2 := h k _ e
    have es : sub is (.var k) = .var is[k] := by
      show (match is[k]? with | some i => PD.X.var i | none => .never) = _
      rw [e]
    rw [es]
    refine ⟨?_, rfl⟩
    show (match env[is[k]]? with | some (.v d) => ret d | _ => fail : M D) = (match env0[k]? with | some (.v d) => ret d | _ => fail : M D)
    rw [e2]
  | nil => exact fun _ => ⟨rfl, rfl⟩
  | cons a b iha ihb =>
    intro hk
    have hn : ∀ y, a ≠ .star y := fun y z => by
      subst z
      exact absurd hk (by simp [okS])
    have hk2 : okS is.length a = true ∧ okS is.length b = true := by
      cases a <;> first | exact Bool.and_eq_true_iff.mp hk | exact absurd rfl (hn _)
    obtain ⟨_, _⟩ := iha hk2.1
    refine ⟨rfl, ?_⟩
    have ea := (iha hk2.1).1
    have eb := (ihb hk2.2).2
    have key : ∀ (y : PD.X) (r : PD.X) (env : Env), (∀ z, y ≠ .star z) → evA P cf (.cons y r) env = bnd (evE P cf y env) fun d => bnd (evA P cf r env) fun ds => ret (d :: ds) := fun y r env hy => by
      cases y <;> first | rfl | exact absurd rfl (hy _)
    have hs : ∀ z, sub is a ≠ .star z := fun z e => by
      cases a with
      | var k =>
        have e' : (match is[k]? with | some i => PD.X.var i | none => .never) = .star z := e
        split at e' <;> cases e'
      | star _ => exact absurd rfl (hn _)
      | _ => simp only [sub, reduceCtorEq] at e
    show evA P cf (.cons (sub is a) (sub is b)) env = _
    rw [key _ _ _ hs, key _ _ _ hn, ea, eb]
  | call f as ih =>
    intro hk
    have ea := (ih hk).2
    refine ⟨?_, rfl⟩
    show bnd (evA P cf (sub is as) env) (fun ds => cf f ds) = bnd (evA P cf as env0) fun ds => cf f ds
    rw [ea]
  | _ => exact fun hk => absurd hk (by simp [okS])
end
theorem metR_ok {ws : List (Nat × Str)} {r : Res D} {d : D} {st' : Store} (h : metR ws r = .ok d st') :
    (∃ d0, r = .ok d0 st' ∧ d = .tup [.str "none", .non]) ∨ ∃ c v wd, r = .exc c v st' ∧ ws.lookup c = some wd ∧ d = .tup [.str wd, v] := by
  cases r with
  | ok d0 s0 =>
    cases h
    exact .inl ⟨d0, rfl, rfl⟩
  | exc c v s0 =>
    have h' : (match ws.lookup c with | some w => Res.ok (D.tup [.str w, v]) s0 | none => .bad) = .ok d st' := h
    cases e : ws.lookup c with
    | none => rw [e] at h'; cases h'
    | some wd =>
      rw [e] at h'
      cases h'
      exact .inr ⟨c, v, wd, rfl, e, rfl⟩
  | bad => cases h
theorem tab0_ok {α : Type} {m : M α} {st st' : Store} {a : α} (h : tab0 m st = .ok a st') : st[0]? = some .tbl ∧ m st = .ok a st' := by
  have h' : (match st[0]? with | some O.tbl => m st | _ => .bad) = .ok a st' := h
  split at h'
  · rename_i e
    exact ⟨e, h'⟩
  · cases h'
theorem tab_at {T : Tb} {F : Addr → Prop} {μ : List Addr} {H : Hp} {st : Store} (g : StR T F μ H st) (h : st[0]? = some .tbl) : TabAt T μ st 0 := by
  have hl : 0 < μ.length := by rw [g.len]; exact (List.getElem?_eq_some_iff.mp h).1
  have e := List.getElem?_eq_getElem hl
  obtain ⟨ea, _⟩ := (show ORep T H F μ _ .tbl from g.ob 0 _ _ h e)
  exact ⟨by rw [e, ea], h⟩
section
variable {X : Cx} {T : Tb} {pg : Prog} {n : Nat}
theorem xe_met {F gi : Nat} {is : List Nat} {ws : List (Nat × Str)} {as : PD.X} {x y a : Str} {g fb c CE CM CW : Addr} {pgm : Arguments} {bg : List Stmt} {sg : Scope} {dV kV doc pm cdv ct oc : Value} {an od : Option Addr} {osl : Array (Option Value)} {Ng : List Str} {qs : List Str}
    {params : Arguments} {e : Expr} {es : List Expr} {scope : Scope} {p p2 p3 lpos pos : Pos} (hX : XT T X) (hg : Gl X x) (hm : X.mg x = some (.ref g)) (hk : PySem.W.keepIn X.K (.ref g) = true)
    (lk : X.K.lookup g = some ⟨oc, od, .func (PySem.W.fnOf x x pgm bg sg dV kV doc pm an cdv ct), osl⟩) (hcg : PySem.W.codeIn X.K cdv x = true) (hb : L2.Binds X.K (PySem.W.fnOf x x pgm bg sg dV kV doc pm an cdv ct) [a] []) (Sg : FnScope Ng [a] sg) (hNg : Ng[0]? = some a) (hva : Vis sg a)
    (hG : GivesTo X Ng x sg g cdv bg a (X.env.qual ++ "<lambda>") (TTmet X.K CE CM CW)) (hM : ∀ cx wd, ws.lookup cx = some wd → MetK X.K CE CM CW (T.ca cx) wd)
    (TB : TabB X.base X.mg c T.tb) (hq : T.tq = X.env.qual ++ "<lambda>") (hcode : X.env.code = .ref c) (hr : Room (2 * n + 1) X.A) (L : LamS X.env.scope scope) (hdef : defaultsOf params X.env = ([], []))
    (hbind : ∀ (q : Str) (cl : List (Str × Addr)) (pm cv ctv : Value), bindArgs (PySem.W.kla_fn "<lambda>" q params (.Call (.Name y p2) (e :: es) [] p3) scope cl pm cv ctv) ⟨[], []⟩ = pure [])
    (D : DefX T X.base pg (n - 1) fb gi qs) (hfn : pg.fn F = ⟨is.length, is.length, .cons (.rt (.met gi ws as)) .nil⟩) (hgl : scope.names.lookup y = some .globalImplicit) (hmy : X.mg y = some (.ref fb)) (hdy : (y == ("__debug__" : Str)) = false) (hok : okS is.length as = true) (hnpg : (pg.fn gi).np = qs.length)
    (he : ∀ (A : Around) (outer : List PySem.Env) (s : Shared) (H : Hp) (E : XK) (f c' : Addr), starEach (e :: es) (lamCx X A outer s H E scope f c').env = (false, eval e (lamCx X A outer s H E scope f c').env) :: starEach es (lamCx X A outer s H E scope f c').env)
    (hpl : ∀ (A : Around) (outer : List PySem.Env) (s : Shared) (H : Hp) (E : XK) (f c' : Addr), (backTo p3 (starEach es (lamCx X A outer s H E scope f c').env)).any (·.1) = false)
    (hargs : ∀ (A : Around) (outer : List PySem.Env) (s : Shared) (H : Hp) (E : XK) (f c' : Addr), Room (2 * (n - 1) + 1) (A.deeper (lamEnv X scope s.heap.objs.size f c')) → PXA (lamCx X A outer s H E scope f c') T pg (callN pg (n - 1)) (e :: es) (sub is as))
    (hdb : (x == ("__debug__" : Str)) = false := by decide) (hd : (a == ("__debug__" : Str)) = false := by decide) (hcd : (a == ("__classdict__" : Str)) = false := by decide) :
    PX X T pg (callN pg n) (.Call (.Name x p) [.Lambda params (.Call (.Name y p2) (e :: es) [] p3) scope lpos] [] pos) (.call F (varsX is)) false false := by
  cases n with
  | zero => exact ⟨fun pins s σ H Q I ⟨G, μ, env, st, d, st', g, ev, q⟩ => by
      obtain ⟨ds, st1, e1, e2⟩ := bnd_inv (show bnd (evA pg (callN pg 0) (varsX is) env) (fun ds => callN pg 0 F ds) st = .ok d st' from ev)
      cases e2⟩
  | succ n =>
    have hlr : ∀ ds st, (match callN pg n gi ds st with | .bad => False | _ => True) → ds.length = qs.length := fun ds st z => (callN_lenX z).trans hnpg
    obtain ⟨fd, F1, hbf⟩ := D.ex
    refine PE.imp (se_lamcall (i := 0) (k := 2 * n + 1) (t := fun E => tCall (spX T (callN pg n) gi qs.length) [] E (rdA T (evA pg (callN pg n) (sub is as)))) hg hm hk lk hcg hb Sg hNg hva hG TB hq hcode hr L hdef hbind (fun A outer s H E f c' hr2 => ?_) hdb hd hcd) fun σ H Q hh => ?_
    · have tk : Takes (lamCx X A outer s H E scope f c') (fun cls d _ H => E cls d H) := takes_of (E₁ := fun e' s'' => L2.CX X.prog X.w outer H s E e' s'') rfl rfl rfl rfl
      have F2 : FnOk X.prog X.w X.K X.mg X.base (L2.CX X.prog X.w) (2 * n) fb fd qs (spX T (callN pg n) gi qs.length) := by
        have := F1
        rw [← hX.P, ← hX.w, ← hX.K, ← hX.m] at this
        exact this
      exact pe_call (X := lamCx X A outer s H E scope f c') (E := E) F2 (hr2.mono (Nat.le_succ _)) hgl hmy (show PySem.W.keepIn X.K (.ref fb) = true from hX.K ▸ D.kp) (show Binds X.K fd qs [] from hX.K ▸ hbf) .nil (passes_call tk fun _ _ _ _ z => z) (hargs A outer s H E f c' hr2) hdy (he ..) (hpl ..)
    · obtain ⟨G, μ, env, st, d, st', gd, ev, q⟩ := hh
      obtain ⟨ds, st1, e1, e2⟩ := bnd_inv (show bnd (evA pg (callN pg (n + 1)) (varsX is) env) (fun ds => callN pg (n + 1) F ds) st = .ok d st' from ev)
      obtain ⟨rfl, hvars⟩ := vars_ev e1
      have e2' : (if ds.length = (pg.fn F).np then bnd (evB pg (callN pg n) (pg.fn F).body (ds.map .v ++ List.replicate ((pg.fn F).ns - (pg.fn F).np) .no)) (fun o => match o with
        | .rt d => ret d
        | .nx _ => ret PD.D.non
        | _ => fail) else fail) st1 = .ok d st' := e2
      rw [hfn] at e2'
      obtain ⟨hlen, e3⟩ := ite_inv e2'
      have hl0 : is.length - is.length = 0 := Nat.sub_self _
      dsimp only at e3
      rw [hl0] at e3
      rw [show ds.map Sl.v ++ List.replicate 0 Sl.no = ds.map Sl.v from List.append_nil _] at e3
      obtain ⟨o, st2, e4, e5⟩ := bnd_inv e3
      obtain ⟨o2, st3, e6, e7⟩ := bnd_inv (show bnd (evS pg (callN pg n) (.rt (.met gi ws as)) (ds.map Sl.v)) (fun o => match o with | .nx e => evB pg (callN pg n) .nil e | o => ret o) st1 = .ok o st2 from e4)
      obtain ⟨d2, st4, e8, e9⟩ := bnd_inv (show bnd (evE pg (callN pg n) (.met gi ws as) (ds.map Sl.v)) (fun d => ret (Out.rt d)) st1 = .ok o2 st3 from e6)
      obtain ⟨rfl, rfl⟩ := ret_inv e9
      obtain ⟨rfl, rfl⟩ := ret_inv (show ret (Out.rt d2) st4 = .ok o st2 from e7)
      obtain ⟨rfl, rfl⟩ := ret_inv (show ret d2 st4 = .ok d st' from e5)
      obtain ⟨htab, e10⟩ := tab0_ok (show tab0 (bnd (noX (evA pg (callN pg n) as (ds.map Sl.v))) fun ds st => metR ws (callN pg n gi ds st)) st1 = .ok d2 st4 from e8)
      obtain ⟨ds2, st5, e11, e12⟩ := bnd_inv e10
      have e13 := noX_ok e11
      rw [← (sub_ev (P := pg) (cf := callN pg n) is (ds.map Sl.v) env hvars as hok).2] at e13
      refine ⟨G, μ, env, st1, gd, tab_at gd.sto htab, fun H1 pp E QN hE hN => ?_⟩
      have g1 := gd.post pp
      refine callXR (P := pg) hlr g1 e13 fun H2 μ2 p2 => ?_
      have g2 := g1.toGoodT.post p2
      have p12 := pp.trans p2
      rcases metR_ok e12 with ⟨d0, er, rfl⟩ | ⟨cx, v, wd, er, ew, rfl⟩
      · rw [er]
        intro v' H' μ' p3 r3
        have g3 := g2.post p3
        refine hN v' H' fun t ht => ?_
        have p4 := Post.more (H' := upd H' t (.tup [.str "none", .non])) g3 fun b o z => by rw [upd_ne (ne_of_none z ht)]; exact z
        refine q (.ref t) _ μ' ((p12.trans p3).trans p4) (.of0 ⟨t, _, rfl, .inl ⟨upd_same, g3.fresh ht⟩, ?_⟩)
        exact ⟨_, _, rfl, rfl, _, _, rfl, rfl, rfl⟩
      · rw [er]
        intro w dx H' μ' p3 r3 hn hm' hdx
        have g3 := g2.post p3
        refine hE _ _ _ ⟨T.ca cx, dx, w, wd, rfl, rfl, hdx, hM cx wd ew, fun H3 t k ht et => ?_⟩
        have p4 := Post.more (H' := H3) g3 k
        refine q (.ref t) _ μ' ((p12.trans p3).trans p4) (.of0 ⟨t, _, rfl, .inl ⟨et, g3.fresh ht⟩, ?_⟩)
        exact ⟨_, _, rfl, rfl, w, [], rfl, Rep.mv p4.mv v w r3, rfl⟩
end
end PD
end ZPDMet2
section ZPDRepr
set_option Elab.async false
set_option linter.all false
set_option maxRecDepth 100000
set_option maxHeartbeats 2000000
namespace PD
open PySem PySem.Spec L2 PyProof.Rows
/-! the text of any datum -/
mutual
/-- v is d at h; no dict is the table of modules -/
inductive Sw (h : Heap) : Value → PyData → Prop where
  | none : Sw h .none .none
  | bool (b) : Sw h (.bool b) (.bool b)
  | int (i t) : Sw h (.int i t) (.int i)
  | str (x t) : Sw h (.str x t) (.str x)
  | list {a o vs n xs} : h.get? a = some o → o.cls = .type "list" → o.data = .seq vs n → SwAll h vs.toList xs → Sw h (.ref a) (.list xs)
  | tuple {a o vs n xs} : h.get? a = some o → o.cls = .type "tuple" → o.data = .seq vs n → SwAll h vs.toList xs → Sw h (.ref a) (.tuple xs)
  | dict {a o es n kvs} : h.get? a = some o → o.cls = .type "dict" → o.data = .dict es n → (a == sysModules) = false → SwAll h (es.toList.map (·.key)) (kvs.map (·.1)) → SwAll h (es.toList.map (·.val)) (kvs.map (·.2)) → Sw h (.ref a) (.dict kvs)
inductive SwAll (h : Heap) : List Value → List PyData → Prop where
  | nil : SwAll h [] []
  | cons {v vs d ds} : Sw h v d → SwAll h vs ds → SwAll h (v :: vs) (d :: ds)
end
mutual
theorem Sw.reads {h : Heap} : ∀ {v : Value} {d : PyData}, Sw h v d → ∃ as, Reads h v d as
  | _, _, .none => ⟨_, .none⟩
  | _, _, .bool b => ⟨_, .bool b⟩
  | _, _, .int i t => ⟨_, .int i t⟩
  | _, _, .str x t => ⟨_, .str x t⟩
  | _, _, .list h1 h2 h3 h4 => let ⟨_, r⟩ := SwAll.reads h4; ⟨_, .list h1 h2 h3 r⟩
  | _, _, .tuple h1 h2 h3 h4 => let ⟨_, r⟩ := SwAll.reads h4; ⟨_, .tuple h1 h2 h3 r⟩
  | _, _, .dict h1 h2 h3 _ h4 h5 => let ⟨_, r⟩ := SwAll.reads h4; let ⟨_, r'⟩ := SwAll.reads h5; ⟨_, .dict h1 h2 h3 r r'⟩
theorem SwAll.reads {h : Heap} : ∀ {vs : List Value} {ds : List PyData}, SwAll h vs ds → ∃ as, ReadsAll h vs ds as
  | _, _, .nil => ⟨_, .nil⟩
  | _, _, .cons x xs => let ⟨_, r⟩ := x.reads; let ⟨_, r'⟩ := xs.reads; ⟨_, .cons r r'⟩
end
section
variable {prog : Program} {w : World} {h₀ : Heap}
mutual
theorem Sw.rk : ∀ {v : Value} {d : PyData}, Sw h₀ v d → d.showable = true → d.shown.length ≤ sizeLine → ∃ bs, ReadAtMost h₀ d.depth bs ∧ ReprK prog w bs h₀ d.depth v d.shown
  | _, _, .none, _, _ => ⟨[], (fun _ z => nomatch z), by simp only [PyData.shown]; exact .of_is ReprIs.none _ _ _⟩
  | _, _, .bool b, _, _ => ⟨[], (fun _ z => nomatch z), by simp only [PyData.shown]; exact .of_is (ReprIs.bool b) _ _ _⟩
  | _, _, .int i t, hs, _ => ⟨[], (fun _ z => nomatch z), by simp only [PyData.shown]; exact .of_is (ReprIs.int t (by simpa [PyData.showable] using hs)) _ _ _⟩
  | _, _, .str x t, _, hz => ⟨[], (fun _ z => nomatch z), by simp only [PyData.shown]; exact .of_is (ReprIs.str x t (by simpa only [PyData.shown] using hz)) _ _ _⟩
  | _, _, .list (a := a) (vs := vs) (xs := xs) h1 h2 h3 h4, hs, hz => by
    simp only [PyData.shown] at hz
    obtain ⟨bs, hb, hk⟩ := SwAll.rk h4 (by simpa [PyData.showable] using hs) fun t ht => Nat.le_trans (listText_mem_le ht) hz
    obtain ⟨_, rd⟩ := (Sw.list h1 h2 h3 h4).reads
    have hna : a ∉ bs := not_mem_of_deeper rd (by simp only [PyData.depth]; omega) hb
    refine ⟨a :: bs, ReadAtMost.cons rd (by simp only [PyData.depth]; omega) hb, ?_⟩
    simp only [PyData.depth, PyData.shown]
    obtain ⟨l⟩ := vs
    cases l with
    | nil =>
      cases (show SwAll h₀ [] xs from h4)
      simp only [PyData.shownAll, listText_nil]
      exact ReprK.listEmpty h1 h2 h3
    | cons y l => exact ReprK.list h1 h2 h3 hna (by simpa using hk.length_eq) fun i z e => hk.item i z (by simpa using e)
  | _, _, .tuple (a := a) (xs := xs) h1 h2 h3 h4, hs, hz => by
    simp only [PyData.shown] at hz
    obtain ⟨bs, hb, hk⟩ := SwAll.rk h4 (by simpa [PyData.showable] using hs) fun t ht => Nat.le_trans (tupleText_mem_le ht) hz
    obtain ⟨_, rd⟩ := (Sw.tuple h1 h2 h3 h4).reads
    have hna : a ∉ bs := not_mem_of_deeper rd (by simp only [PyData.depth]; omega) hb
    exact ⟨a :: bs, ReadAtMost.cons rd (by simp only [PyData.depth]; omega) hb, by simp only [PyData.depth, PyData.shown]; exact ReprK.tuple h1 h2 h3 hna hk⟩
  | _, _, .dict (a := a) (es := es) (kvs := kvs) h1 h2 h3 h0 h4 h5, hs, hz => by
    simp only [PyData.shown] at hz
    obtain ⟨hs1, hs2⟩ := PyData.showableKv_split kvs (by simpa [PyData.showable] using hs)
    obtain ⟨b1, hb1, k1⟩ := SwAll.rk h4 hs1 fun t ht => let ⟨_, hp, hl⟩ := PyData.shownKv_key_le kvs t ht; Nat.le_trans hl (Nat.le_trans (dictText_mem_le hp) hz)
    obtain ⟨b2, hb2, k2⟩ := SwAll.rk h5 hs2 fun t ht => let ⟨_, hp, hl⟩ := PyData.shownKv_val_le kvs t ht; Nat.le_trans hl (Nat.le_trans (dictText_mem_le hp) hz)
    obtain ⟨_, rd⟩ := (Sw.dict h1 h2 h3 h0 h4 h5).reads
    have hb : ReadAtMost h₀ (PyData.depthKv kvs) (b1 ++ b2) := (hb1.mono (PyData.depthAll_keys_le kvs)).append (hb2.mono (PyData.depthAll_vals_le kvs))
    have hna : a ∉ b1 ++ b2 := not_mem_of_deeper rd (by simp only [PyData.depth]; omega) hb
    refine ⟨a :: (b1 ++ b2), ReadAtMost.cons rd (by simp only [PyData.depth]; omega) hb, ?_⟩
    simp only [PyData.depth, PyData.shown, PyData.shownKv_eq]
    exact ReprK.dict h1 h2 h3 h0 hna (ReprEntriesK.of_two es.toList _ _ (k1.more_le (fun _ z => List.mem_append_left _ z) (PyData.depthAll_keys_le kvs)) (k2.more_le (fun _ z => List.mem_append_right _ z) (PyData.depthAll_vals_le kvs)))
theorem SwAll.rk : ∀ {vs : List Value} {ds : List PyData}, SwAll h₀ vs ds → PyData.showableAll ds = true → (∀ t ∈ PyData.shownAll ds, t.length ≤ sizeLine) → ∃ bs, ReadAtMost h₀ (PyData.depthAll ds) bs ∧ ReprAllK prog w bs h₀ (PyData.depthAll ds) vs (PyData.shownAll ds)
  | _, _, .nil, _, _ => ⟨[], (fun _ z => nomatch z), by simp only [PyData.shownAll]; exact .nil⟩
  | _, _, .cons (d := d) (ds := ds) x xs, hs, hz => by
    obtain ⟨s1, s2⟩ : d.showable = true ∧ PyData.showableAll ds = true := by simpa [PyData.showableAll] using hs
    simp only [PyData.shownAll] at hz
    obtain ⟨b1, hb1, k1⟩ := x.rk s1 (hz _ (List.mem_cons_self ..))
    obtain ⟨b2, hb2, k2⟩ := xs.rk s2 fun t ht => hz t (List.mem_cons_of_mem _ ht)
    refine ⟨b1 ++ b2, (hb1.mono ?_).append (hb2.mono ?_), ?_⟩
    · simp only [PyData.depthAll]; exact Nat.le_max_left _ _
    · simp only [PyData.depthAll]; exact Nat.le_max_right _ _
    · simp only [PyData.depthAll, PyData.shownAll]
      exact .cons ((k1.more fun _ z => List.mem_append_left _ z).level_le (Nat.le_max_left _ _)) (k2.more_le (fun _ z => List.mem_append_right _ z) (Nat.le_max_right _ _))
end
/-- repr(v) -/
theorem Sw.call {v : Value} {d : PyData} {A : Around} {E : Value → Shared → Prop} {s : Shared} {Q : Value → Shared → Prop} (r : Sw s.heap v d) (hs : d.showable = true) (hg : A.guards = some []) (hu : A.units + (d.depth + 2) < cLine) (hsz : d.shown.length ≤ sizeLine)
    (hQ : ∀ h' u tk, (∀ b o, s.heap.get? b = some o → h'.get? b = some o) → Q (.str d.shown u) { s with heap := h', toks := tk }) : wpAny (model prog w) A (call (.builtin "repr") [v]) Q E s := by
  have hg1 : A.in1.guards = some [] := hg
  have cl : ∀ (b : Addr) (l : List Addr), ∀ c ∈ b :: l, Clear [] c := fun _ _ c _ => Clear.nil c
  cases r with
  | none => exact PySem.P.repr_of_none (hQ _ _ _ fun _ _ e => e)
  | bool b => exact PySem.P.repr_of_bool (hQ _ _ _ fun _ _ e => e)
  | int i t => exact PySem.P.repr_of_int (by simpa [PyData.showable] using hs) (hQ _ _ _ fun _ _ e => e)
  | str x t => exact PySem.P.repr_of_str (hQ _ _ _ fun _ _ e => e) (by simpa only [PyData.shown] using hsz)
  | list h1 h2 h3 h4 =>
    rename_i a o vs n xs
    simp only [PyData.shown] at hsz hQ
    simp only [PyData.depth] at hu
    obtain ⟨bs, hb, hk⟩ := SwAll.rk (prog := prog) (w := w) h4 (by simpa [PyData.showable] using hs) fun t ht => Nat.le_trans (listText_mem_le ht) hsz
    obtain ⟨_, rd⟩ := (Sw.list h1 h2 h3 h4).reads
    have hna : a ∉ bs := not_mem_of_deeper rd (by simp only [PyData.depth]; omega) hb
    refine call_repr_slot (by omega) ⟨o, h1, h2⟩ F.slot_list_repr.toG ?_
    obtain ⟨l⟩ := vs
    cases l with
    | nil =>
      cases (show SwAll s.heap [] xs from h4)
      simp only [PyData.shownAll, listText_nil] at hQ
      exact call_list_repr_empty ⟨o, h1, h2⟩ h1 h3 ⟨_, _, rfl, hQ s.heap _ _ fun _ _ e => e⟩
    | cons y l => exact call_list_reprK h1 h2 h3 hna (by simpa using hk.length_eq) (fun i z e => hk.item i z (by simpa using e)) hg1 (cl a bs) (by show A.units + 1 + _ < _; omega) (fun _ _ e => e) (fun h' u tk k => ⟨_, _, rfl, hQ h' u tk k⟩) hsz
  | tuple h1 h2 h3 h4 =>
    rename_i a o vs n xs
    simp only [PyData.shown] at hsz hQ
    simp only [PyData.depth] at hu
    obtain ⟨bs, hb, hk⟩ := SwAll.rk (prog := prog) (w := w) h4 (by simpa [PyData.showable] using hs) fun t ht => Nat.le_trans (tupleText_mem_le ht) hsz
    obtain ⟨_, rd⟩ := (Sw.tuple h1 h2 h3 h4).reads
    have hna : a ∉ bs := not_mem_of_deeper rd (by simp only [PyData.depth]; omega) hb
    exact call_repr_slot (by omega) ⟨o, h1, h2⟩ F.slot_tuple_repr (call_tuple_reprK h1 h2 h3 hna hk hg1 (cl a bs) (by show A.units + 1 + _ < _; omega) (fun _ _ e => e) (fun h' u tk k => ⟨_, _, rfl, hQ h' u tk k⟩) hsz)
  | dict h1 h2 h3 h0 h4 h5 =>
    rename_i a o es n kvs
    simp only [PyData.shown] at hsz hQ
    simp only [PyData.depth] at hu
    obtain ⟨hs1, hs2⟩ := PyData.showableKv_split kvs (by simpa [PyData.showable] using hs)
    obtain ⟨b1, hb1, k1⟩ := SwAll.rk (prog := prog) (w := w) h4 hs1 fun t ht => let ⟨_, hp, hl⟩ := PyData.shownKv_key_le kvs t ht; Nat.le_trans hl (Nat.le_trans (dictText_mem_le hp) hsz)
    obtain ⟨b2, hb2, k2⟩ := SwAll.rk (prog := prog) (w := w) h5 hs2 fun t ht => let ⟨_, hp, hl⟩ := PyData.shownKv_val_le kvs t ht; Nat.le_trans hl (Nat.le_trans (dictText_mem_le hp) hsz)
    obtain ⟨_, rd⟩ := (Sw.dict h1 h2 h3 h0 h4 h5).reads
    have hb : ReadAtMost s.heap (PyData.depthKv kvs) (b1 ++ b2) := (hb1.mono (PyData.depthAll_keys_le kvs)).append (hb2.mono (PyData.depthAll_vals_le kvs))
    have hna : a ∉ b1 ++ b2 := not_mem_of_deeper rd (by simp only [PyData.depth]; omega) hb
    rw [PyData.shownKv_eq] at hsz hQ
    exact call_repr_slot (by omega) ⟨o, h1, h2⟩ F.slot_dict_repr (call_dict_reprK h1 h2 h3 h0 hna (ReprEntriesK.of_two es.toList _ _ (k1.more_le (fun _ z => List.mem_append_left _ z) (PyData.depthAll_keys_le kvs)) (k2.more_le (fun _ z => List.mem_append_right _ z) (PyData.depthAll_vals_le kvs))) hg1 (cl a _)
      (by show A.units + 1 + _ < _; omega) (fun _ _ e => e) (fun h' u tk k => ⟨_, _, rfl, hQ h' u tk k⟩) hsz)
end
/-! how long -/
theorem listText_le (ts : List Str) : (listText ts).length ≤ piled ts + 3 := by
  have e : (listText ts).length = (textFrom 0 "[" ts).length + 1 := by
    show (textFrom 0 "[" ts ++ "]").length = _
    rw [strLen_append]; rfl
  rw [e]
  cases ts with
  | nil => show 1 + 1 ≤ 0 + 3; omega
  | cons t r =>
    have h : (textFrom 0 "[" (t :: r)).length = ("[" ++ ("" : Str) ++ t : Str).length + piled r := textFrom_length_pos r 1 _ (by omega)
    have h2 : ("[" ++ ("" : Str) ++ t : Str).length = 1 + t.length := by rw [strLen_append]; rfl
    rw [h, h2, piled_cons]
    omega
theorem join_le (ts : List Str) : (Str.join ", " ts).length ≤ piled ts := by
  cases ts with
  | nil => exact Nat.le_refl 0
  | cons t r =>
    have := join_length_add (t :: r) (by simp)
    omega
theorem tupleText_le (ts : List Str) : (tupleText ts).length ≤ piled ts + 3 := by
  unfold tupleText
  have h := join_le ts
  rw [strLen_append, strLen_append]
  have h1 : ((if ts.length == 1 then ",)" else ")" : String) : Str).length ≤ 2 := by split <;> decide
  have h2 : ("(" : Str).length = 1 := rfl
  omega
theorem dictText_le (ts : List Str) : (dictText ts).length ≤ piled ts + 2 := by
  unfold dictText
  have h := join_le ts
  rw [strLen_append, strLen_append]
  have h1 : ("}" : Str).length = 1 := rfl
  have h2 : ("{" : Str).length = 1 := rfl
  omega
mutual
theorem shown_le : ∀ d : D, d.shw = true → d.pd.shown.length ≤ d.shl ∧ d.pd.showable = true
  | .non, _ => ⟨by simp only [D.pd, PyData.shown, D.shl]; decide, by simp only [D.pd, PyData.showable]⟩
  | .bl b, _ => ⟨by simp only [D.pd, PyData.shown, D.shl]; cases b <;> decide, by simp only [D.pd, PyData.showable]⟩
  | .int i, h => by
    have h' : i.natAbs.log2 < 1920 := of_decide_eq_true (by simpa only [D.shw] using h)
    exact ⟨by simp only [D.pd, PyData.shown, D.shl]; exact int_text_len_1921 h', by simp only [D.pd, PyData.showable]; exact decide_eq_true h'⟩
  | .str x, h => by
    refine ⟨by
      simp only [D.pd, PyData.shown, D.shl]
      refine StrLaws.reprText_len x fun c hc => ?_
      simp only [D.shw, Array.all_eq_true] at h
      obtain ⟨i, hi, rfl⟩ := List.getElem_of_mem hc
      have := of_decide_eq_true (h i (by simpa using hi))
      have e : x.cps.toList[i] = x.cps[i]'(by simpa using hi) := by simp
      rw [e]
      omega, by simp only [D.pd, PyData.showable]⟩
  | .tup ds, h => by
    obtain ⟨h1, h2⟩ := shown_les ds (by simpa only [D.shw] using h)
    exact ⟨by simp only [D.pd, PyData.shown, D.shl]; exact Nat.le_trans (tupleText_le _) (by omega), by simp only [D.pd, PyData.showable]; exact h2⟩
  | .lst ds, h => by
    obtain ⟨h1, h2⟩ := shown_les ds (by simpa only [D.shw] using h)
    exact ⟨by simp only [D.pd, PyData.shown, D.shl]; exact Nat.le_trans (listText_le _) (by omega), by simp only [D.pd, PyData.showable]; exact h2⟩
  | .dct kvs, h => by
    obtain ⟨h1, h2⟩ := shown_lek kvs (by simpa only [D.shw] using h)
    exact ⟨by simp only [D.pd, PyData.shown, D.shl]; exact Nat.le_trans (dictText_le _) (by omega), by simp only [D.pd, PyData.showable]; exact h2⟩
  | .ref _, h => absurd h (by simp [D.shw])
  | .scr _, h | .err _ _, h => absurd h (by simp [D.shw])
theorem shown_les : ∀ ds : List D, D.shws ds = true → piled (PyData.shownAll (D.pds ds)) ≤ D.shls ds ∧ PyData.showableAll (D.pds ds) = true
  | [], _ => ⟨by simp only [D.pds, PyData.shownAll, D.shls]; exact Nat.le_refl 0, by simp only [D.pds, PyData.showableAll]⟩
  | d :: ds, h => by
    simp only [D.shws, Bool.and_eq_true] at h
    obtain ⟨h1, h2⟩ := shown_le d h.1
    obtain ⟨h3, h4⟩ := shown_les ds h.2
    exact ⟨by simp only [D.pds, PyData.shownAll, D.shls, piled_cons]; omega, by simp only [D.pds, PyData.showableAll, h2, h4, Bool.and_self]⟩
theorem shown_lek : ∀ kvs : List (D × D), D.shwk kvs = true → piled (PyData.shownKv (D.pdk kvs)) ≤ D.shlk kvs ∧ PyData.showableKv (D.pdk kvs) = true
  | [], _ => ⟨by simp only [D.pdk, PyData.shownKv, D.shlk]; exact Nat.le_refl 0, by simp only [D.pdk, PyData.showableKv]⟩
  | (k, d) :: r, h => by
    simp only [D.shwk, Bool.and_eq_true] at h
    obtain ⟨h1, h2⟩ := shown_le k h.1.1.2
    obtain ⟨h3, h4⟩ := shown_le d h.1.2
    obtain ⟨h5, h6⟩ := shown_lek r h.2
    refine ⟨?_, by simp only [D.pdk, PyData.showableKv, h2, h4, h6, Bool.and_self]⟩
    simp only [D.pdk, PyData.shownKv, D.shlk, piled_cons]
    rw [strLen_append, strLen_append]
    have : (": " : Str).length = 2 := rfl
    omega
end
/-! what stands for a datum, read -/
theorem Sw.leaf {h : Heap} {k : D} {q : Key} {v : Value} (hl : leafK k = some q) (hv : keyIs q v = true) : Sw h v k.pd := by
  rcases keyIs_shape hv with ⟨i, t, rfl, rfl⟩ | ⟨x, t, rfl, rfl⟩
  · cases k <;> simp only [leafK, Option.some.injEq, reduceCtorEq] at hl
    cases hl
    simp only [D.pd]
    exact .int _ _
  · cases k <;> simp only [leafK, Option.some.injEq, reduceCtorEq] at hl
    cases hl
    simp only [D.pd]
    exact .str _ _
section
variable {X : Cx} {pins : List (Addr × Obj)} {σ : L2.St} {H : Hp} {s : Shared} {T : Tb} {F : Addr → Prop} {μ : List Addr}
mutual
theorem rep_sw (hK : X.K = T.K) (I : L2.Inv X pins σ H s) : ∀ (d : D) (v : V) (u : Value), d.shw = true → Rep T H F μ d v → RelV v u → Sw s.heap u d.pd
  | .non, _, _, _, h, r => by
    simp only [Rep] at h
    subst h
    cases r
    simp only [D.pd]
    exact .none
  | .bl b, _, _, _, h, r => by
    simp only [Rep] at h
    subst h
    cases r
    simp only [D.pd]
    exact .bool b
  | .int i, _, _, _, h, r => by
    simp only [Rep] at h
    subst h
    obtain ⟨t, rfl⟩ := r
    simp only [D.pd]
    exact .int i t
  | .str x, _, _, _, h, r => by
    simp only [Rep] at h
    subst h
    obtain ⟨t, rfl⟩ := r
    simp only [D.pd]
    exact .str x t
  | .tup ds, _, _, hs, h, r => by
    simp only [Rep] at h
    obtain ⟨a, xs, rfl, h1, h2⟩ := h
    cases r
    simp only [D.pd]
    simp only [D.shw] at hs
    rcases h1 with ⟨h1, _⟩ | ⟨o, its, n, h1, h3, h4, _, rv⟩
    · obtain ⟨_, its, rv, o, e1, e2, n, e3⟩ := (show ObjOk X.prog X.w H s.heap a (.tup xs) from I.hok a _ h1)
      exact .tuple e1 e2 e3 (reps_sw hK I ds xs _ hs h2 (by simpa using rv))
    · exact .tuple (I.kIn _ _ (hK ▸ h1)) h3 h4 (reps_sw hK I ds xs _ hs h2 rv)
  | .lst ds, _, _, hs, h, r => by
    simp only [Rep] at h
    obtain ⟨a, xs, rfl, h1, _, h2⟩ := h
    cases r
    simp only [D.pd]
    simp only [D.shw] at hs
    obtain ⟨_, its, n, rv, e1⟩ := (show ObjOk X.prog X.w H s.heap a (.lst xs) from I.hok a _ h1)
    exact .list e1 rfl rfl (reps_sw hK I ds xs _ hs h2 (by simpa using rv))
  | .dct kvs, _, _, hs, h, r => by
    simp only [Rep] at h
    obtain ⟨a, rfl, _, h⟩ := h
    cases r
    simp only [D.pd]
    simp only [D.shw] at hs
    exact dct_sw hK I kvs a hs h
  | .ref _, _, _, hs, _, _ => absurd hs (by simp [D.shw])
  | .scr _, _, _, hs, _, _ | .err _ _, _, _, hs, _, _ => absurd hs (by simp [D.shw])
theorem reps_sw (hK : X.K = T.K) (I : L2.Inv X pins σ H s) : ∀ (ds : List D) (xs : List V) (us : List Value), D.shws ds = true → Reps T H F μ ds xs → Vals xs us → SwAll s.heap us (D.pds ds)
  | [], _, _, _, h, r => by
    simp only [Reps] at h
    subst h
    cases r
    simp only [D.pds]
    exact .nil
  | d :: ds, _, _, hs, h, r => by
    simp only [Reps] at h
    obtain ⟨x, xs, rfl, h1, h2⟩ := h
    simp only [D.shws, Bool.and_eq_true] at hs
    simp only [D.pds]
    cases r with
    | cons r1 r2 => exact .cons (rep_sw hK I d x _ hs.1 h1 r1) (reps_sw hK I ds xs _ hs.2 h2 r2)
theorem dct_sw (hK : X.K = T.K) (I : L2.Inv X pins σ H s) : ∀ (kvs : List (D × D)) (a : Addr), D.shwk kvs = true → ((∃ es, DK H a es ∧ KVl T H F μ kvs es) ∨ ∃ es ob, es ≠ [] ∧ H a = some (nDct T.P T.w ob es a) ∧ KVn T H F μ kvs es) → Sw s.heap (.ref a) (.dict (D.pdk kvs))
  | kvs, a, hs, h => by
    rcases h with ⟨es, h1, h2⟩ | ⟨es, ob, hne, _, h3⟩
    · obtain ⟨_, hsys, vs, kv, o, ents, ep, e1, e2, e3, _, e4, _⟩ := L2.dk_rd I.hok h1.rd
      obtain ⟨s1, s2⟩ := kv_sw hK I kvs es vs ents.toList hs h2 kv e4
      exact .dict e1 e2.1 e3 hsys s1 s2
    · exfalso
      cases kvs with
      | nil =>
        simp only [KVn] at h3
        exact hne h3
      | cons p r =>
        obtain ⟨k, d⟩ := p
        simp only [KVn] at h3
        obtain ⟨n, q, x, r', _, _, hk, _⟩ := h3
        simp only [D.shwk, Bool.and_eq_true] at hs
        cases k with
        | int i => simp only [Rep] at hk; cases hk
        | str x => simp only [Rep] at hk; cases hk
        | _ => exact absurd hs.1.1.1 (by simp [D.leafB])
theorem kv_sw (hK : X.K = T.K) (I : L2.Inv X pins σ H s) : ∀ (kvs : List (D × D)) (es : List (Key × V)) (vs : List (Key × Value)) (ents : List DictEntry), D.shwk kvs = true → KVl T H F μ kvs es → KV es vs → Pairs (mixKind X.prog X.w) ents vs →
    SwAll s.heap (ents.map (·.key)) ((D.pdk kvs).map (·.1)) ∧ SwAll s.heap (ents.map (·.val)) ((D.pdk kvs).map (·.2))
  | [], _, _, _, _, h, kv, p => by
    simp only [KVl] at h
    subst h
    cases kv
    cases p
    simp only [D.pdk]
    exact ⟨.nil, .nil⟩
  | (k, d) :: r, _, _, _, hs, h, kv, p => by
    simp only [KVl] at h
    obtain ⟨q, x, r', rfl, hq, hx, h2⟩ := h
    simp only [D.shwk, Bool.and_eq_true] at hs
    cases kv with
    | @cons _ q2 _ vs' e kv' =>
      obtain ⟨e1, e2⟩ := e
      cases p with
      | cons hk hv p' =>
        obtain ⟨s1, s2⟩ := kv_sw hK I r r' vs' _ hs.2 h2 kv' p'
        simp only [D.pdk, List.map_cons]
        have e1' : q = q2.1 := e1
        rw [← e1'] at hk
        refine ⟨.cons (Sw.leaf hq hk) s1, .cons ?_ s2⟩
        rw [hv]
        exact rep_sw hK I d x _ hs.1.2 hx e2
end
theorem top_sw (hK : X.K = T.K) (I : L2.Inv X pins σ H s) {d : D} {v : V} {u : Value} (hs : d.shw = true) (h : Top T H F μ d v) (r : RelV v u) : Sw s.heap u d.pd := by
  cases d with
  | lst ds =>
    obtain ⟨a, rfl, xs, h1, h2⟩ := h
    cases r
    simp only [D.pd]
    simp only [D.shw] at hs
    obtain ⟨_, its, n, rv, e1⟩ := (show ObjOk X.prog X.w H s.heap a (.lst xs) from I.hok a _ h1)
    exact .list e1 rfl rfl (reps_sw hK I ds xs _ hs h2 (by simpa using rv))
  | dct kvs =>
    obtain ⟨a, rfl, h1⟩ := h
    cases r
    simp only [D.pd]
    simp only [D.shw] at hs
    exact dct_sw hK I kvs a hs h1
  | non => exact rep_sw (F := F) (μ := μ) hK I _ _ _ hs h r
  | bl _ => exact rep_sw (F := F) (μ := μ) hK I _ _ _ hs h r
  | int _ => exact rep_sw (F := F) (μ := μ) hK I _ _ _ hs h r
  | str _ => exact rep_sw (F := F) (μ := μ) hK I _ _ _ hs h r
  | tup _ => exact rep_sw (F := F) (μ := μ) hK I _ _ _ hs h r
  | ref _ => exact rep_sw (F := F) (μ := μ) hK I _ _ _ hs h r
  | scr _ => exact rep_sw (F := F) (μ := μ) hK I _ _ _ hs h r
  | err _ _ => exact rep_sw (F := F) (μ := μ) hK I _ _ _ hs h r
theorem b_reprA (hX : XT T X) (hg : X.A.guards = some []) : CallR X (.builtin "repr") (rBi T (biD .reprA)) := by
  intro pins s σ H vs us Q I r ⟨G, μ, st, ds, d, g, t, e, q⟩
  match ds, e with
  | [d0], e =>
    simp only [biD, Option.ite_none_right_eq_some, Option.some.injEq, Bool.and_eq_true, decide_eq_true_eq] at e
    obtain ⟨⟨⟨h1, h2⟩, h3⟩, rfl⟩ := e
    obtain ⟨v, rfl, t1⟩ := tops1 t
    obtain ⟨u, rfl, ru⟩ := r.one
    obtain ⟨k1, k2⟩ := shown_le d0 h1
    have hu := hX.u
    exact Sw.call (top_sw hX.K I h1 t1 ru) k2 hg (by omega) (Nat.le_trans k1 (Nat.le_trans h3 (by unfold LIM; rw [sizeLine_eq]; omega))) fun h' u' tk k => ⟨.str _, H, I.kept k, ⟨_, rfl⟩, q.str⟩
end
end PD
end ZPDRepr
section ZPDData
set_option Elab.async false
set_option linter.all false
set_option maxRecDepth 100000
set_option maxHeartbeats 2000000
namespace PD
open PySem PySem.Spec L2 PyProof.Rows
/-! {}, {"a": x} as data; a list of one's own written at a place -/
section
variable {X : Cx} {T : Tb} {P : Prog} {cf : Calls} {pos p kp tpos : Pos} {e k v : Expr} {xe xk xv : PD.X} {fe fk fv : Bool} {x : Str} {i : Nat}
theorem xe_dct0 : PX X T P cf (.Dict [] [] pos) .dct0 false false := by
  refine PE.imp pe_dnewK fun σ H Q ⟨G, μ, env, st, d, st', g, e, q⟩ p hp => ?_
  obtain ⟨rfl, rfl⟩ := ret_inv (show ret (.dct []) st = .ok d st' from e)
  have p1 := Post.more (H' := upd H p (.dK [])) g.toGoodT fun a o z => by rw [upd_ne (ne_of_none z hp)]; exact z
  exact q _ _ μ p1 (.of0 ⟨p, rfl, g.toGoodT.fresh hp, .inl ⟨[], .nil upd_same, rfl⟩⟩)
theorem xe_dct1 {ks : Str} {j : Nat} (he : PX X T P cf v xv fv false) (hshape : (evalEachOpt [some (.Constant (.str ks) j kp)] X.env).zip ((evalEach [v] X.env).map fun v => do let x ← v; standAt pos; pure x) = [(some (eval (.Constant (.str ks) j kp) X.env), do let x ← eval v X.env; standAt pos; pure x)]) :
    PX X T P cf (.Dict [some (.Constant (.str ks) j kp)] [v] pos) (.dct1 ks xv) false false := by
  refine ⟨fun pins s σ H Q I ⟨G, μ, env, st, d, st', g, ev, q⟩ => ?_⟩
  obtain ⟨vd, st1, e1, k2⟩ := bnd_inv (show bnd (evE P cf xv env) (fun d => ret (.dct [(.str ks, d)])) st = .ok d st' from ev)
  obtain ⟨rfl, rfl⟩ := ret_inv k2
  rw [arm_eval_Dict, hshape]
  have hD : H s.heap.objs.size = none := I.hok.fresh (Nat.le_refl _)
  have I1 : L2.Inv X pins σ (upd H s.heap.objs.size (.dK [])) { s with heap := s.heap.push { cls := .type "dict", data := .dict #[] } } := I.laid (t' := s.toks) (fun b u e => Heap.get?_push_of_some _ e) (Nat.le_refl _) (dk_empty _ I.big)
  have gD := g.guard (.dK []) hD
  have shape2 : dictDisplay [(some (eval (.Constant (.str ks) j kp) X.env), do let x ← eval v X.env; standAt pos; pure x)] = (do let d ← subDict [(eval (.Constant (.str ks) j kp) X.env, do let x ← eval v X.env; standAt pos; pure x)]; pure (.ref d)) := dictDisplay_pairs [(eval (.Constant (.str ks) j kp) X.env, do let x ← eval v X.env; standAt pos; pure x)] (by simp) (by simp)
  rw [shape2]
  refine wpAny_bind (wpAny_standAt (wpAny_bind (wpAny_subDict (knd := mixKind X.prog X.w) (by simp) ?_)))
  refine wpAny_bind (Calls.Constant_str ?_)
  refine wpAny_bind (wpAny_holding (wpAny_bind (thn (he.run pins _ σ _ (fun u H2 => ∃ μ2, Post T (GP G s.heap.objs.size) μ (upd H s.heap.objs.size (.dK [])) μ2 H2 st1 ∧ Rep T H2 (FF (GP G s.heap.objs.size) μ2) μ2 vd u) (I1.tok _) ⟨_, μ, env, st, _, _, gD, e1, fun u H2 μ2 p2 r2 => ⟨μ2, p2, r2.rep rfl⟩⟩) fun vu s2 ⟨vv, H2, I3, rv, μ2, p2, r2⟩ => wpAny_bind (wpAny_standAt (wpAny_pure ?_)))))
  refine wpAny_bind (wpAny_holding (wpAny_pure (wpAny_pure ?_)))
  have g2 := gD.post p2
  have nD2 : s.heap.objs.size ∉ μ2 := fun z => g2.dis _ z (.inr rfl)
  have nD0 : s.heap.objs.size ∉ μ := fun z => gD.dis _ z (.inr rfl)
  have hdk : H2 s.heap.objs.size = some (.dK []) := p2.keep _ _ upd_same nD0
  obtain ⟨_, hsys, vs0, kv0, hdo⟩ : ([] : List (Key × V)).length ≤ sizeLine ∧ (s.heap.objs.size == sysModules) = false ∧ ∃ vs, KV [] vs ∧ s2.heap.DictOf (mixKind X.prog X.w) s.heap.objs.size vs := I3.hok _ _ hdk
  cases kv0
  refine ⟨[(.inr ks, vu)], ⟨keyIs_str ks s.toks, rfl, trivial⟩, hdo, fun h' hh' hs => wpAny_pure ?_⟩
  have e3 : merged ([] : List (Key × Value)) [(.inr ks, vu)] = [(.inr ks, vu)] := rfl
  rw [e3] at hh'
  obtain ⟨ob, hob⟩ : ∃ u, h'.get? s.heap.objs.size = some u := by
    obtain ⟨o, _, _, e, _⟩ := id hh'
    exact ⟨o, e⟩
  have I4 : L2.Inv X pins σ (upd H2 s.heap.objs.size (.frz ob (.dK [(.inr ks, vv)]))) { s2 with heap := h', toks := s2.toks + [(Value.str ks s.toks, vu)].length } :=
    I3.write (x := s.heap.objs.size) (e := s.heap.objs.size) (by rw [hdk]; trivial) (.inl rfl) (fun b ob hb e => (hs.2 b hb).trans e) ⟨ob, hob⟩ ⟨hob, by rw [sizeLine_eq]; simp, hsys, [(.inr ks, vu)], .cons ⟨rfl, rv⟩ .nil, hh'⟩
  have mU : Mv H2 (upd H2 s.heap.objs.size (.frz ob (.dK [(.inr ks, vv)]))) (FF (GP G s.heap.objs.size) μ2) (FF (GP G s.heap.objs.size) μ2) μ2 μ2 := mvUpd (.inr (.inr rfl))
  have stoD : StR T (FF (GP G s.heap.objs.size) μ2) μ2 (upd H2 s.heap.objs.size (.frz ob (.dK [(.inr ks, vv)]))) st1 := by
    refine ⟨g2.sto.len, g2.sto.nd, fun j w b h1 h2 => ?_⟩
    have hb : b ≠ s.heap.objs.size := fun z => nD2 (z ▸ List.mem_of_getElem? h2)
    refine (g2.sto.ob j w b h1 h2).mv mU (fun q e => by rw [upd_ne hb]; exact e) (fun _ z => .inl z) fun c q e nc => ?_
    by_cases hc : c = s.heap.objs.size
    · rw [hc, hdk] at e; exact absurd (Option.some.inj e) (fun z => HO.noConfusion z)
    · rw [upd_ne hc]; exact e
  have pp : Post T G μ H μ2 (upd H2 s.heap.objs.size (.frz ob (.dK [(.inr ks, vv)]))) st1 := by
    refine Post.weak (G' := GP G s.heap.objs.size) ⟨p2.mu, fun a z => ?_, fun a o e n => ?_, stoD⟩ fun a z => .inl z
    · rcases p2.new a z with y | y
      · exact .inl y
      · refine .inr ?_
        by_cases c : a = s.heap.objs.size
        · subst c; exact hD
        · rw [upd_ne c] at y; exact y
    · have ne := ne_of_none e hD
      rw [upd_ne ne]
      exact p2.keep a o (by rw [upd_ne ne]; exact e) n
  have lg : ∀ a, FF G μ2 a → FF (GP G s.heap.objs.size) μ2 a := fun a z => by
    rcases z with z | z
    · exact .inl z
    · exact .inr (.inl z)
  have nF : ¬ FF G μ2 s.heap.objs.size := fun z => by
    rcases z with z | z
    · exact nD2 z
    · exact g.dom _ z hD
  exact ⟨.ref s.heap.objs.size, _, I4, rfl, q _ _ μ2 pp (.of0 ⟨_, rfl, nF, .inl ⟨[(.inr ks, vv)], .inr ⟨(by simp), ob, upd_same⟩, .inr ks, vv, [], rfl, rfl, Rep.mv (mvLess lg) _ _ (Rep.mv mU _ _ r2), rfl⟩⟩)⟩
/-- xs[k] = e, xs one's own list -/
theorem xs_puti (hN : X.N[i]? = some x) (hv : Vis X.env.scope x) (hd : (x == ("__debug__" : Str)) = false) (hcd : (x == ("__classdict__" : Str)) = false) (he : PX X T P cf e xe fe false) (hk : PX X T P cf k xk fk false)
    (hs : swapsWithSole [.Subscript (.Name x p) k tpos] e pos.line X.env = pure false) (hw : swappedStores [.Subscript (.Name x p) k tpos] e X.env = pure none) (h1 : (assignEach [.Subscript (.Name x p) k tpos] X.env).map (·.2) = [assign (.Subscript (.Name x p) k tpos) X.env])
    (ha : ∀ v, assign (.Subscript (.Name x p) k tpos) X.env v = (do
      let ov ← holding [v] (eval (.Name x p) X.env)
      let iv ← holding [v, ov] (eval k X.env)
      standAt tpos
      holding [v, ov, iv] (setItem ov iv v)
      release [v, ov, iv] [])) : PXS X T P cf (.Assign [.Subscript (.Name x p) k tpos] e pos) (.puti i xk xe) := by
  refine PS.imp (ps_asg he (pg_sub (name_ol hN hv hd hcd) hk set_list ha) hs hw h1) fun D σ H ⟨G0, μ, env, st, o, st', g, ev, q⟩ => ?_
  obtain ⟨d, st1, e1, k2⟩ := bnd_inv (show bnd (evE P cf xe env) (fun d => bnd (evE P cf xk env) fun x => match env[i]?, x with
    | some (.ol ds), .int n => match PD.ixN ds.length n with
      | some j => ret (Out.nx (env.set i (.ol (ds.set j d))))
      | none => fail
    | _, _ => fail) st = .ok o st' from ev)
  obtain ⟨kd, st2, e2, k3⟩ := bnd_inv k2
  obtain ⟨ds, n, j, hi, rfl, hj, k4⟩ : ∃ ds n j, env[i]? = some (.ol ds) ∧ kd = .int n ∧ PD.ixN ds.length n = some j ∧ (ret (Out.nx (env.set i (.ol (ds.set j d)))) : M Out) st2 = .ok o st' := by
    cases hi : env[i]? with
    | none => simp only [hi] at k3; cases k3
    | some s =>
      cases s with
      | no => simp only [hi] at k3; cases k3
      | v _ => simp only [hi] at k3; cases k3
      | od _ => simp only [hi] at k3; cases k3
      | ol ds =>
        cases kd <;> simp only [hi] at k3 <;> first | (cases k3; done) | skip
        rename_i n
        cases hj : PD.ixN ds.length n with
        | none => rw [hj] at k3; cases k3
        | some j => rw [hj] at k3; exact ⟨ds, n, j, rfl, rfl, hj, k3⟩
  obtain ⟨rfl, rfl⟩ := ret_inv k4
  refine ⟨_, μ, env, st, d, st1, g.good, e1, fun v H1 μ1 p1 r1 => ?_⟩
  have g1 := g.post p1
  obtain ⟨a, xs, hσ, _⟩ := g1.olAt hi
  refine ⟨.ref a, hσ, _, μ1, env, st1, .int n, _, g1.good, e2, fun u H2 μ2 p2 r2 => ?_⟩
  have g2 := g1.post p2
  obtain ⟨a2, xs2, hσ2, oa, hl, hr, nm, n0, fa2⟩ := g2.olAt hi
  rw [hσ] at hσ2
  cases hσ2
  obtain rfl : u = .int n := r2.pkr
  refine ⟨a, xs2, n, j, rfl, rfl, hl, by rw [hr.length]; exact hj, ?_⟩
  obtain ⟨g3, s3⟩ := g2.putL oa hl (Reps.set j hr (Rep.mv p2.mv d v (r1.rep rfl)))
  exact q σ _ μ2 g3 ((StepR.ofPost g p1).trans ((StepR.ofPost g1 p2).trans s3))
end
end PD
end ZPDData
section ZPDCau
set_option Elab.async false
set_option linter.all false
set_option maxRecDepth 100000
set_option maxHeartbeats 2000000
namespace PD
open PySem PySem.Spec L2 PyProof.Rows LamX
/-! errors that are kept as values; defs that may raise, called where they do not -/
section
variable {T : Tb} {base : Heap} {pg : Prog} {n f : Nat} {fa : Addr} {ps : List Str}
theorem DefX.toI (D : DefX T base pg n fa f ps) : DefI T base pg n fa f ps := by
  obtain ⟨fd, F, hb⟩ := D.ex
  have sp : ∀ {vs H Q E}, spC T (callN pg n) f ps.length vs H Q E → spX T (callN pg n) f ps.length vs H Q C8.E0 := fun {vs H Q E} ⟨G, μ, st, ds, d, st', g, r, hl, ev, q⟩ => ⟨G, μ, st, ds, g, r, hl, by rw [ev]; exact q⟩
  refine ⟨⟨fd, ⟨fun vs H Q E h => F.len vs H Q C8.E0 (sp h), fun A outer s H args us vs Q E hr e0 hb hv h => codeAny_mono (F.run A outer s H args us vs Q C8.E0 hr e0 hb hv (sp h)) fun r s' hq => ?_⟩, hb⟩, D.kp⟩
  cases r with
  | error e =>
    obtain ⟨_, _, _, _, _, _, _, _, _, _, _, _, z⟩ := (show L2.CX T.P T.w outer H s C8.E0 e s' from hq)
    exact z.elim
  | ok fl => cases fl <;> exact hq
end
/-! ### what may be asked of a kept error -/
structure ErrK (K : PySem.W.Frag) (ca : Nat → Addr) (cs : List Nat) : Prop where
  xc : ∀ c ∈ cs, ExcC K (ca c)
  xf : ∀ c ∈ cs, XfC K (ca c)
  no : ∀ c ∈ cs, PySem.W.findIn K (.ref (ca c)) erF = some none
  ki : ∀ c ∈ cs, ∀ c2 ∈ cs, PySem.W.kitOne K (.ref (ca c)) (.ref (ca c2)) = some (c == c2)
section
variable {X : Cx} {T : Tb} {P : Prog} {cf : Calls} {pos p p2 : Pos} {a e : Expr} {xa xe : PD.X} {fa fe : Bool} {cs : List Nat}
theorem xe_isx {c : Nat} {cn : Str} (h : XT T X) (S : ErrK T.K T.ca cs) (hc : cs.contains c = true) (hg : Gl X "isinstance") (hm : X.mg "isinstance" = none) (hgc : Gl X cn) (hmc : X.mg cn = some (.ref (T.ca c))) (hdc : (cn == ("__debug__" : Str)) = false)
    (ha : PX X T P cf a xa fa false) (hs1 : starEach [a, .Name cn p2] X.env = (false, eval a X.env) :: starEach [.Name cn p2] X.env) (hs2 : starEach [.Name cn p2] X.env = (false, eval (.Name cn p2) X.env) :: starEach [] X.env) (hpl : (backTo pos (starEach [.Name cn p2] X.env)).any (·.1) = false) :
    PX X T P cf (.Call (.Name "isinstance" p) [a, .Name cn p2] [] pos) (.isx c cs xa) false false := by
  refine PE.imp (pe_callB PD.call_isK hg hm PyProof.Rows.boot_isinstance (pa_cons ha (pa_cons (pe_glob (v := .ref (T.ca c)) hgc hmc rfl hdc) pa_nil hs2) hs1) (by decide) (by decide) hs1 hpl) fun σ H Q ⟨G, μ, env, st, d, st', g, ev, q⟩ => ?_
  obtain ⟨x, st1, e1, k2⟩ := bnd_inv (show bnd (evE P cf xa env) (fun x => match x with
    | .err c' _ => if cs.contains c' then ret (D.bl (c' == c)) else fail
    | _ => fail) st = .ok d st' from ev)
  cases x <;> simp only [fail_ap, reduceCtorEq] at k2
  obtain ⟨hz, k3⟩ := ite_inv k2
  obtain ⟨rfl, rfl⟩ := ret_inv k3
  refine ⟨G, μ, env, st, _, st1, g, e1, fun v H1 μ1 p1 r1 => ?_⟩
  obtain ⟨b, dd, w, rfl, k1, _, k4, _, _⟩ := r1.rep rfl
  have hz' := List.elem_iff.mp hz
  exact ⟨b, _, dd, _, .ref (T.ca c), .ref (T.ca c), _, rfl, k1, k4, (fun u r => r), h.K ▸ S.xc _ hz', h.K ▸ S.ki _ hz' _ (List.elem_iff.mp hc), q _ H1 μ1 p1 (.of0 rfl)⟩
theorem xe_exv (h : XT T X) (S : ErrK T.K T.ca cs) (ha : PX X T P cf a xa fa false) (hb : attributeBase a erF X.env (eval a X.env) = eval a X.env) : PX X T P cf (.Attribute a erF pos) (.exv cs xa) false false := by
  refine PE.imp (pe_valK ha hb) fun σ H Q ⟨G, μ, env, st, d, st', g, ev, q⟩ => ?_
  obtain ⟨x, st1, e1, k2⟩ := bnd_inv (show bnd (evE P cf xa env) (fun x => match x with
    | .err c v => if cs.contains c then ret v else fail
    | _ => fail) st = .ok d st' from ev)
  cases x <;> simp only [fail_ap, reduceCtorEq] at k2
  obtain ⟨hz, k3⟩ := ite_inv k2
  obtain ⟨rfl, rfl⟩ := ret_inv k3
  refine ⟨G, μ, env, st, _, st1, g, e1, fun v H1 μ1 p1 r1 => ?_⟩
  obtain ⟨b, dd, w, rfl, k1, _, k4, _, k6⟩ := r1.rep rfl
  have hz' := List.elem_iff.mp hz
  exact ⟨b, _, dd, _, w, rfl, k1, k4, h.K ▸ S.xf _ hz', h.K ▸ S.no _ hz', by simp [List.lookup], q w H1 μ1 p1 (.of0 k6)⟩
end
/-! ### a def that calls what it got and tells the error -/
def TTcau (K : PySem.W.Frag) (CE : Addr) : (XK → Hp → VK → Prop) → Hp → VK → Prop := fun tl H Q => ∀ (E : XK) (QN : VK),
  (∀ cls d H', (∃ (C dd : Addr) (w : V), cls = .ref C ∧ d = some dd ∧ H' dd = some (.xd [(erF, w)]) ∧ PySem.W.exmOne K (.ref C) (.ref CE) = some true ∧ ∀ a, H' a = none → Q (.ref a) (upd H' a (ExnO (.ref C) (some dd) a))) → E cls d H') →
  (∀ v H', Q .non H' → QN v H') → tl E H QN
structure CauS (X : Cx) (sg : Scope) (CE : Addr) : Prop where
  l0 : sg.names.lookup ("call" : Str) = some .local
  l1 : sg.names.lookup ("caught" : Str) = some .local
  l2 : sg.names.lookup ("error" : Str) = some .local
  gE : sg.names.lookup ("DoorError" : Str) = some .globalImplicit
  mE : X.mg "DoorError" = some (.ref CE)
theorem cau_gives {X : Cx} {x q : Str} {sg : Scope} {g CE : Addr} {cdg : Value} {j1 : Nat} {p1 p2 p3 p4 p5 p6 p7 p8 p9 p10 p11 p12 p13 p14 : Pos} (S : CauS X sg CE) :
    GivesTo X ["call", "caught", "error"] x sg g cdg
      [.Assign [.Name "caught" p1] (.Constant .none j1 p2) p3,
       .Try [.Expr (.Call (.Name "call" p4) [] [] p5) p6] [.ExceptHandler (some (.Name "DoorError" p7)) (some "error") [.Assign [.Name "caught" p8] (.Name "error" p9) p10] p11] [] [] p12,
       .Return (some (.Name "caught" p13)) p14] "call" q (TTcau X.K CE) := by
  intro f c' s H Q tl act hc h
  let Z : Cx := (cxOf C8.CX0 X.prog X.w X.K X.mg X.base ["call", "caught", "error"] x sg g cdg X.A X.stack s H C8.E0).nox
  have gl : ∀ {y : Str}, sg.names.lookup y = some .globalImplicit → Gl Z y := fun z => z
  have nd : Z.N.Nodup := by show (["call", "caught", "error"] : List Str).Nodup; decide
  have v1 : ∀ {p : Pos}, PE Z (.Name "caught" p) (tVar 1) := fun {p} => pe_var (X := Z) (i := 1) rfl (.inl S.l1)
  refine ⟨_, pss_cons (ps_set (X := Z) (i := 1) nd rfl (.inl S.l1) pe_non rfl (.inr S.l1)) (pss_cons (ps_try_keep (X := Z) (i := 2) (c := .ref CE) (Wout := fun _ _ _ _ => False)
    (tb := fun W D σ H => ∃ Ech : XK, (∀ cls d σ' H', Ech cls d H' → σ'.length = 3 → W cls d σ' H') ∧ σ[0]? = some (some (.ref f)) ∧ H c' = some (CodeO c' q) ∧ tl Ech H (fun _ H1 => D.nx σ H1))
    (ts := fun a cls d => tAsg (tVar 2) (gName 1)) rfl rfl rfl nd rfl S.l2 ⟨gl S.gE, by decide, .inl S.mE⟩ takes0 (fun W pn xe tk _ => ?_) (fun a oe cls d pn hz hv => ?_))
    (pss_one (ps_ret v1))), ?_⟩
  · refine ⟨fun pins s' σ H' D I h' => ?_⟩
    obtain ⟨Ech, hW, h1, h2, h3⟩ := h'
    have hp := act _ pn xe Ech p4 p5 (takes_len tk) hW
    exact (pss_one (ps_expr (pos := p6) hp)).run pins s' σ H' D I ⟨h1, h2, h3⟩
  · exact pss_one (ps_set (X := Z.suite a ((a, oe) :: pn)) (i := 1) nd rfl (.inl S.l1) (pe_var (i := 2) rfl (.inl S.l2)) rfl (.inr S.l1))
  · refine ⟨fun cls d H' => ∀ σ' : L2.St, σ'.length = 3 → _, fun cls d σ' H' hE hlen => hE σ' hlen, rfl, hc, h _ _ (fun cls d H' ⟨C, dd, w, e1, e2, hdd, M, hq⟩ σ' hlen => ?_) (fun v H' hq => ⟨.non, rfl, hq⟩)⟩
    subst e1 e2
    match σ', hlen with
    | [s0, s1, s2], _ => exact ⟨true, M, fun _ a ha => ⟨.ref a, rfl, fun _ => ⟨.ref a, rfl, hq a ha⟩⟩, fun z => nomatch z⟩
theorem cauR_ok {cs : List Nat} {r : Res D} {d : D} {st' : Store} (h : cauR cs r = .ok d st') : (∃ d0, r = .ok d0 st' ∧ d = .non) ∨ ∃ c v, r = .exc c v st' ∧ c ∈ cs ∧ d = .err c v := by
  cases r with
  | ok d0 s0 => cases h; exact .inl ⟨d0, rfl, rfl⟩
  | exc c v s0 =>
    have h' : (if cs.contains c then Res.ok (D.err c v) s0 else .bad) = .ok d st' := h
    by_cases z : cs.contains c = true
    · rw [if_pos z] at h'
      cases h'
      exact .inr ⟨c, v, rfl, List.elem_iff.mp z, rfl⟩
    · rw [if_neg z] at h'; cases h'
  | bad => cases h
section
variable {X : Cx} {T : Tb} {P : Prog} {cf : Calls}
theorem cmRX {xo xs : PD.X} {fa : Bool} {mn : Str} {c np f i : Nat} {fs : List (Nat × D)} {E : XK} {ad : Addr} (hK : X.K = T.K) (tk : TabOk T) (hm : Meth X.K (T.ca c) mn ad) (hl : ∀ ds st, (match cf f ds st with | .bad => False | _ => True) → ds.length = np)
    {σ : L2.St} {H : Hp} {Q : VK} {G : Addr → Prop} {μ : List Addr} {env : Env} {st st1 st2 : Store} {ds : List D} (g : Good T G μ H σ env st) (e1 : evE P cf xo env st = .ok (.ref i) st1) (hi : st1[i]? = some (.ins c fs)) (e2 : evA P cf xs env st1 = .ok ds st2)
    (h : ∀ H1 μ1, Post T G μ H μ1 H1 st2 → RunC T G μ1 H1 Q E (cf f (.ref i :: ds) st2)) : tMeth (T.ca c) mn (spX T cf f np) [] E (rdE T fa false (evE P cf xo)) (rdA T (evA P cf xs)) σ H Q := by
  refine ⟨G, μ, env, st, _, _, g, e1, fun v H1 μ1 p1 r1 => ?_⟩
  have g1 := g.post p1
  obtain ⟨ad', dx, ys, rfl, hμ, k1, _, _, k4, k5, k6⟩ := insAt g1.sto (r1.rep rfl) hi
  refine ⟨ad', dx, ys, rfl, k1, Flds.no (c := c) k4 fun p hp z => ?_, G, μ1, env, _, ds, st2, g1, e2, fun vs H2 μ2 p2 r2 => ?_⟩
  · have n := tk.nf c p.1 (k6 p hp)
    have m' := hm.at_
    rw [hK, ← z] at m'
    rw [show PySem.W.findIn T.K (.ref (T.ca c)) (T.nm p.1) = some none from n] at m'
    exact nomatch m'
  · have g2 := g1.post p2
    have z := h H2 μ2 (p1.trans p2)
    refine ⟨G, μ2, st2, .ref i :: ds, g2.toGoodT, ⟨.ref ad', vs, by rw [List.append_nil], ⟨ad', rfl, prefix_get p2.mu hμ⟩, r2⟩, hl _ st2 ?_, z⟩
    cases q : cf f (.ref i :: ds) st2 with
    | ok _ _ => trivial
    | exc _ _ _ => trivial
    | bad => rw [q] at z; exact z
/-- the def at a place of the program, virtual: one statement 'return ..' -/
theorem virt_inv {pg : Prog} {n F : Nat} {is : List Nat} {body : PD.X} {env : Env} {st st' : Store} {d : D} (hfn : pg.fn F = ⟨is.length, is.length, .cons (.rt body) .nil⟩) (ev : evE pg (callN pg (n + 1)) (.call F (varsX is)) env st = .ok d st') :
    ∃ ds : List D, (∀ (k i : Nat), is[k]? = some i → env[i]? = (ds.map Sl.v)[k]?) ∧ evE pg (callN pg n) body (ds.map Sl.v) st = .ok d st' := by
  obtain ⟨ds, st1, e1, e2⟩ := bnd_inv (show bnd (evA pg (callN pg (n + 1)) (varsX is) env) (fun ds => callN pg (n + 1) F ds) st = .ok d st' from ev)
  obtain ⟨rfl, hvars⟩ := vars_ev e1
  have e2' : (if ds.length = (pg.fn F).np then bnd (evB pg (callN pg n) (pg.fn F).body (ds.map .v ++ List.replicate ((pg.fn F).ns - (pg.fn F).np) .no)) (fun o => match o with
    | .rt d => ret d
    | .nx _ => ret PD.D.non
    | _ => fail) else fail) st1 = .ok d st' := e2
  rw [hfn] at e2'
  obtain ⟨hlen, e3⟩ := ite_inv e2'
  have hl0 : is.length - is.length = 0 := Nat.sub_self _
  dsimp only at e3
  rw [hl0] at e3
  rw [show ds.map Sl.v ++ List.replicate 0 Sl.no = ds.map Sl.v from List.append_nil _] at e3
  obtain ⟨o, st2, e4, e5⟩ := bnd_inv e3
  obtain ⟨o2, st3, e6, e7⟩ := bnd_inv (show bnd (evS pg (callN pg n) (.rt body) (ds.map Sl.v)) (fun o => match o with | .nx e => evB pg (callN pg n) .nil e | o => ret o) st1 = .ok o st2 from e4)
  obtain ⟨d2, st4, e8, e9⟩ := bnd_inv (show bnd (evE pg (callN pg n) body (ds.map Sl.v)) (fun d => ret (Out.rt d)) st1 = .ok o2 st3 from e6)
  obtain ⟨rfl, rfl⟩ := ret_inv e9
  obtain ⟨rfl, rfl⟩ := ret_inv (show ret (Out.rt d2) st4 = .ok o st2 from e7)
  obtain ⟨rfl, rfl⟩ := ret_inv (show ret d2 st4 = .ok d st' from e5)
  exact ⟨ds, hvars, e8⟩
/-- what comes of the call, told -/
theorem cau_run {G : Addr → Prop} {H H2 : Hp} {μ μ2 : List Addr} {st st2 st' : Store} {Q : VK} {E : XK} {QN : VK} {CE : Addr} {cs : List Nat} {r : Res D} {d : D} (hM : ∀ cx ∈ cs, PySem.W.exmOne X.K (.ref (T.ca cx)) (.ref CE) = some true) (g : GoodT T G μ H st) (p12 : Post T G μ H μ2 H2 st2) (er : cauR cs r = .ok d st')
    (q : ∀ v H' μ', Post T G μ H μ' H' st' → RS T false false G H μ' H' st' d v → Q v H')
    (hE : ∀ cls dd H', (∃ (C d0 : Addr) (w : V), cls = .ref C ∧ dd = some d0 ∧ H' d0 = some (.xd [(erF, w)]) ∧ PySem.W.exmOne X.K (.ref C) (.ref CE) = some true ∧ ∀ a, H' a = none → Q (.ref a) (upd H' a (ExnO (.ref C) (some d0) a))) → E cls dd H')
    (hN : ∀ v H', Q .non H' → QN v H') : RunC T G μ2 H2 QN E r := by
  have g2 := g.post p12
  rcases cauR_ok er with ⟨d0, rfl, rfl⟩ | ⟨cx, v, rfl, hcx, rfl⟩
  · intro v' H' μ' p3 r3
    exact hN v' H' (q .non H' μ' (p12.trans p3) (.of0 rfl))
  · intro w dx H' μ' p3 r3 hn hm' hdx
    have g3 := g2.post p3
    refine hE _ _ _ ⟨T.ca cx, dx, w, rfl, rfl, hdx, hM cx hcx, fun a ha => ?_⟩
    have more : ∀ b o, H' b = some o → upd H' a (ExnO (.ref (T.ca cx)) (some dx) a) b = some o := fun b o z => by rw [upd_ne (ne_of_none z ha)]; exact z
    have p4 := Post.more g3 more
    refine q (.ref a) _ μ' ((p12.trans p3).trans p4) (.of0 ⟨a, dx, w, rfl, upd_same, g3.fresh ha, more _ _ hdx, fun z => ?_, Rep.mv p4.mv v w r3⟩)
    rcases z with z | z
    · exact hm' z
    · exact g2.dom dx z hn
end
section
variable {X : Cx} {T : Tb} {pg : Prog} {n : Nat}
/-- f(lambda: o.m(..)) -/
theorem xe_cauM {F gi m ci : Nat} {is cs : List Nat} {xo as : PD.X} {fo : Bool} {x mn a : Str} {g fb c CE : Addr} {pgm : Arguments} {bg : List Stmt} {sg : Scope} {dV kV doc pm cdv ct oc : Value} {an od : Option Addr} {osl : Array (Option Value)} {Ng : List Str} {qs : List Str}
    {params : Arguments} {o e : Expr} {es : List Expr} {scope : Scope} {p p2 p3 lpos pos : Pos} (hX : XT T X) (tkk : TabOk T) (hg : Gl X x) (hm : X.mg x = some (.ref g)) (hk : PySem.W.keepIn X.K (.ref g) = true)
    (lk : X.K.lookup g = some ⟨oc, od, .func (PySem.W.fnOf x x pgm bg sg dV kV doc pm an cdv ct), osl⟩) (hcg : PySem.W.codeIn X.K cdv x = true) (hb : L2.Binds X.K (PySem.W.fnOf x x pgm bg sg dV kV doc pm an cdv ct) [a] []) (Sg : FnScope Ng [a] sg) (hNg : Ng[0]? = some a) (hva : Vis sg a)
    (hG : GivesTo X Ng x sg g cdv bg a (X.env.qual ++ "<lambda>") (TTcau X.K CE)) (hM : ∀ cx ∈ cs, PySem.W.exmOne X.K (.ref (T.ca cx)) (.ref CE) = some true)
    (TB : TabB X.base X.mg c T.tb) (hq : T.tq = X.env.qual ++ "<lambda>") (hcode : X.env.code = .ref c) (hr : Room (2 * n + 1) X.A) (L : LamS X.env.scope scope) (hdef : defaultsOf params X.env = ([], []))
    (hbind : ∀ (q : Str) (cl : List (Str × Addr)) (pm cv ctv : Value), bindArgs (PySem.W.kla_fn "<lambda>" q params (.Call (.Attribute o mn p2) (e :: es) [] p3) scope cl pm cv ctv) ⟨[], []⟩ = pure [])
    (D : DefX T X.base pg (n - 1) fb gi qs) (hfn : pg.fn F = ⟨is.length, is.length, .cons (.rt (.cauM cs m xo as)) .nil⟩) (hok : okS is.length as = true) (hoo : okS is.length xo = true) (hnpg : (pg.fn gi).np = qs.length)
    (hcl : Cls X.K (T.ca ci)) (hmt : Meth X.K (T.ca ci) mn fb) (hu : ∀ c' f', pg.mth c' m = some f' → c' = ci ∧ f' = gi)
    (he : ∀ (A : Around) (outer : List PySem.Env) (s : Shared) (H : Hp) (E : XK) (f c' : Addr), starEach (e :: es) (lamCx X A outer s H E scope f c').env = (false, eval e (lamCx X A outer s H E scope f c').env) :: starEach es (lamCx X A outer s H E scope f c').env)
    (hpl : ∀ (A : Around) (outer : List PySem.Env) (s : Shared) (H : Hp) (E : XK) (f c' : Addr), (backTo p3 (starEach es (lamCx X A outer s H E scope f c').env)).any (·.1) = false)
    (ht : ∀ (A : Around) (outer : List PySem.Env) (s : Shared) (H : Hp) (E : XK) (f0 c' : Addr), ∃ pl : Sem Bool, eval (.Call (.Attribute o mn p2) (e :: es) [] p3) (lamCx X A outer s H E scope f0 c').env = (do
      let ov ← eval o (lamCx X A outer s H E scope f0 c').env
      standAt p2.atName
      let (f, first) ← holding [ov] (getMethod ov mn pl)
      callWith p3 f first (backTo p3 (starEach (e :: es) (lamCx X A outer s H E scope f0 c').env)) (backToKw p3 (keywordEach [] (lamCx X A outer s H E scope f0 c').env))))
    (hobj : ∀ (A : Around) (outer : List PySem.Env) (s : Shared) (H : Hp) (E : XK) (f c' : Addr), Room (2 * (n - 1) + 1) (A.deeper (lamEnv X scope s.heap.objs.size f c')) → PX (lamCx X A outer s H E scope f c') T pg (callN pg (n - 1)) o (sub is xo) fo false)
    (hargs : ∀ (A : Around) (outer : List PySem.Env) (s : Shared) (H : Hp) (E : XK) (f c' : Addr), Room (2 * (n - 1) + 1) (A.deeper (lamEnv X scope s.heap.objs.size f c')) → PXA (lamCx X A outer s H E scope f c') T pg (callN pg (n - 1)) (e :: es) (sub is as))
    (hdb : (x == ("__debug__" : Str)) = false := by decide) (hd : (a == ("__debug__" : Str)) = false := by decide) (hcd : (a == ("__classdict__" : Str)) = false := by decide) :
    PX X T pg (callN pg n) (.Call (.Name x p) [.Lambda params (.Call (.Attribute o mn p2) (e :: es) [] p3) scope lpos] [] pos) (.call F (varsX is)) false false := by
  cases n with
  | zero => exact ⟨fun pins s σ H Q I ⟨G, μ, env, st, d, st', g, ev, q⟩ => by
      obtain ⟨ds, st1, e1, e2⟩ := bnd_inv (show bnd (evA pg (callN pg 0) (varsX is) env) (fun ds => callN pg 0 F ds) st = .ok d st' from ev)
      cases e2⟩
  | succ n =>
    have hlr : ∀ ds st, (match callN pg n gi ds st with | .bad => False | _ => True) → ds.length = qs.length := fun ds st z => (callN_lenX z).trans hnpg
    obtain ⟨fd, F1, hbf⟩ := D.ex
    refine PE.imp (se_lamcall (i := 0) (k := 2 * n + 1) (t := fun E => tMeth (T.ca ci) mn (spX T (callN pg n) gi qs.length) [] E (rdE T fo false (evE pg (callN pg n) (sub is xo))) (rdA T (evA pg (callN pg n) (sub is as)))) hg hm hk lk hcg hb Sg hNg hva hG TB hq hcode hr L hdef hbind (fun A outer s H E f c' hr2 => ?_) hdb hd hcd) fun σ H Q hh => ?_
    · have tk : Takes (lamCx X A outer s H E scope f c') (fun cls d _ H => E cls d H) := takes_of (E₁ := fun e' s'' => L2.CX X.prog X.w outer H s E e' s'') rfl rfl rfl rfl
      have F2 : FnOk X.prog X.w X.K X.mg X.base (L2.CX X.prog X.w) (2 * n) fb fd qs (spX T (callN pg n) gi qs.length) := by
        have := F1
        rw [← hX.P, ← hX.w, ← hX.K, ← hX.m] at this
        exact this
      obtain ⟨pl, ht'⟩ := ht A outer s H E f c'
      exact pe_meth (X := lamCx X A outer s H E scope f c') (E := E) (hobj A outer s H E f c' hr2) hcl hmt F2 (hr2.mono (Nat.le_succ _)) (show Binds X.K fd qs [] from hX.K ▸ hbf) .nil (passes_call tk fun _ _ _ _ z => z) (hargs A outer s H E f c' hr2) (he ..) (hpl ..) ht'
    · obtain ⟨G, μ, env, st, d, st', gd, ev, q⟩ := hh
      obtain ⟨ds, hvars, e8⟩ := virt_inv hfn ev
      obtain ⟨htab, e10⟩ := tab0_ok (show tab0 (bnd (noX (evE pg (callN pg n) xo (ds.map Sl.v))) fun x => bnd (noX (clsOf x)) fun c => match pg.mth c.1 m with
        | some f => bnd (noX (evA pg (callN pg n) as (ds.map Sl.v))) fun ds st => cauR cs (callN pg n f (x :: ds) st)
        | none => fail) st = .ok d st' from e8)
      obtain ⟨x1, st5, e11, e12⟩ := bnd_inv e10
      obtain ⟨r1, st6, e13, e14⟩ := bnd_inv e12
      obtain ⟨i, fs, rfl, h1, rfl⟩ := clsOf_inv (noX_ok e13)
      have e15 := noX_ok e11
      rw [← (sub_ev (P := pg) (cf := callN pg n) is (ds.map Sl.v) env hvars xo hoo).1] at e15
      cases hz : pg.mth r1.1 m with
      | none => simp only [hz] at e14; cases e14
      | some f' =>
        simp only [hz] at e14
        obtain ⟨hcc, rfl⟩ := hu _ _ hz
        rw [hcc] at h1
        obtain ⟨ds2, st7, e16, e17⟩ := bnd_inv e14
        have e18 := noX_ok e16
        rw [← (sub_ev (P := pg) (cf := callN pg n) is (ds.map Sl.v) env hvars as hok).2] at e18
        refine ⟨G, μ, env, st, gd, tab_at gd.sto htab, fun H1 pp E QN hE hN => ?_⟩
        have g1 := gd.post pp
        refine cmRX (P := pg) hX.K tkk hmt hlr g1 e15 h1 e18 fun H2 μ2 p2 => ?_
        exact cau_run hM gd.toGoodT (pp.trans p2) e17 q hE hN
/-- f(lambda: g(..)) -/
theorem xe_cauF {F gi : Nat} {is cs : List Nat} {as : PD.X} {x y a : Str} {g fb c CE : Addr} {pgm : Arguments} {bg : List Stmt} {sg : Scope} {dV kV doc pm cdv ct oc : Value} {an od : Option Addr} {osl : Array (Option Value)} {Ng : List Str} {qs : List Str}
    {params : Arguments} {e : Expr} {es : List Expr} {scope : Scope} {p p2 p3 lpos pos : Pos} (hX : XT T X) (hg : Gl X x) (hm : X.mg x = some (.ref g)) (hk : PySem.W.keepIn X.K (.ref g) = true)
    (lk : X.K.lookup g = some ⟨oc, od, .func (PySem.W.fnOf x x pgm bg sg dV kV doc pm an cdv ct), osl⟩) (hcg : PySem.W.codeIn X.K cdv x = true) (hb : L2.Binds X.K (PySem.W.fnOf x x pgm bg sg dV kV doc pm an cdv ct) [a] []) (Sg : FnScope Ng [a] sg) (hNg : Ng[0]? = some a) (hva : Vis sg a)
    (hG : GivesTo X Ng x sg g cdv bg a (X.env.qual ++ "<lambda>") (TTcau X.K CE)) (hM : ∀ cx ∈ cs, PySem.W.exmOne X.K (.ref (T.ca cx)) (.ref CE) = some true)
    (TB : TabB X.base X.mg c T.tb) (hq : T.tq = X.env.qual ++ "<lambda>") (hcode : X.env.code = .ref c) (hr : Room (2 * n + 1) X.A) (L : LamS X.env.scope scope) (hdef : defaultsOf params X.env = ([], []))
    (hbind : ∀ (q : Str) (cl : List (Str × Addr)) (pm cv ctv : Value), bindArgs (PySem.W.kla_fn "<lambda>" q params (.Call (.Name y p2) (e :: es) [] p3) scope cl pm cv ctv) ⟨[], []⟩ = pure [])
    (D : DefX T X.base pg (n - 1) fb gi qs) (hfn : pg.fn F = ⟨is.length, is.length, .cons (.rt (.cauF cs gi as)) .nil⟩) (hgl : scope.names.lookup y = some .globalImplicit) (hmy : X.mg y = some (.ref fb)) (hdy : (y == ("__debug__" : Str)) = false) (hok : okS is.length as = true) (hnpg : (pg.fn gi).np = qs.length)
    (he : ∀ (A : Around) (outer : List PySem.Env) (s : Shared) (H : Hp) (E : XK) (f c' : Addr), starEach (e :: es) (lamCx X A outer s H E scope f c').env = (false, eval e (lamCx X A outer s H E scope f c').env) :: starEach es (lamCx X A outer s H E scope f c').env)
    (hpl : ∀ (A : Around) (outer : List PySem.Env) (s : Shared) (H : Hp) (E : XK) (f c' : Addr), (backTo p3 (starEach es (lamCx X A outer s H E scope f c').env)).any (·.1) = false)
    (hargs : ∀ (A : Around) (outer : List PySem.Env) (s : Shared) (H : Hp) (E : XK) (f c' : Addr), Room (2 * (n - 1) + 1) (A.deeper (lamEnv X scope s.heap.objs.size f c')) → PXA (lamCx X A outer s H E scope f c') T pg (callN pg (n - 1)) (e :: es) (sub is as))
    (hdb : (x == ("__debug__" : Str)) = false := by decide) (hd : (a == ("__debug__" : Str)) = false := by decide) (hcd : (a == ("__classdict__" : Str)) = false := by decide) :
    PX X T pg (callN pg n) (.Call (.Name x p) [.Lambda params (.Call (.Name y p2) (e :: es) [] p3) scope lpos] [] pos) (.call F (varsX is)) false false := by
  cases n with
  | zero => exact ⟨fun pins s σ H Q I ⟨G, μ, env, st, d, st', g, ev, q⟩ => by
      obtain ⟨ds, st1, e1, e2⟩ := bnd_inv (show bnd (evA pg (callN pg 0) (varsX is) env) (fun ds => callN pg 0 F ds) st = .ok d st' from ev)
      cases e2⟩
  | succ n =>
    have hlr : ∀ ds st, (match callN pg n gi ds st with | .bad => False | _ => True) → ds.length = qs.length := fun ds st z => (callN_lenX z).trans hnpg
    obtain ⟨fd, F1, hbf⟩ := D.ex
    refine PE.imp (se_lamcall (i := 0) (k := 2 * n + 1) (t := fun E => tCall (spX T (callN pg n) gi qs.length) [] E (rdA T (evA pg (callN pg n) (sub is as)))) hg hm hk lk hcg hb Sg hNg hva hG TB hq hcode hr L hdef hbind (fun A outer s H E f c' hr2 => ?_) hdb hd hcd) fun σ H Q hh => ?_
    · have tk : Takes (lamCx X A outer s H E scope f c') (fun cls d _ H => E cls d H) := takes_of (E₁ := fun e' s'' => L2.CX X.prog X.w outer H s E e' s'') rfl rfl rfl rfl
      have F2 : FnOk X.prog X.w X.K X.mg X.base (L2.CX X.prog X.w) (2 * n) fb fd qs (spX T (callN pg n) gi qs.length) := by
        have := F1
        rw [← hX.P, ← hX.w, ← hX.K, ← hX.m] at this
        exact this
      exact pe_call (X := lamCx X A outer s H E scope f c') (E := E) F2 (hr2.mono (Nat.le_succ _)) hgl hmy (show PySem.W.keepIn X.K (.ref fb) = true from hX.K ▸ D.kp) (show Binds X.K fd qs [] from hX.K ▸ hbf) .nil (passes_call tk fun _ _ _ _ z => z) (hargs A outer s H E f c' hr2) hdy (he ..) (hpl ..)
    · obtain ⟨G, μ, env, st, d, st', gd, ev, q⟩ := hh
      obtain ⟨ds, hvars, e8⟩ := virt_inv hfn ev
      obtain ⟨htab, e10⟩ := tab0_ok (show tab0 (bnd (noX (evA pg (callN pg n) as (ds.map Sl.v))) fun ds st => cauR cs (callN pg n gi ds st)) st = .ok d st' from e8)
      obtain ⟨ds2, st7, e16, e17⟩ := bnd_inv e10
      have e18 := noX_ok e16
      rw [← (sub_ev (P := pg) (cf := callN pg n) is (ds.map Sl.v) env hvars as hok).2] at e18
      refine ⟨G, μ, env, st, gd, tab_at gd.sto htab, fun H1 pp E QN hE hN => ?_⟩
      have g1 := gd.post pp
      refine callXR (P := pg) hlr g1 e18 fun H2 μ2 p2 => ?_
      exact cau_run hM gd.toGoodT (pp.trans p2) e17 q hE hN
end
end PD
end ZPDCau
section ZPDNew
set_option Elab.async false
set_option linter.all false
set_option maxRecDepth 100000
set_option maxHeartbeats 2000000
namespace PD
open PySem PySem.Spec L2 PyProof.Rows LamX
/-! a class called in a lambda, its error kept; isinstance of a kept error by ValueError; the values of a dict of texts -/
section
variable {X : Cx} {T : Tb}
theorem cauK_run {G : Addr → Prop} {H H2 : Hp} {μ μ2 : List Addr} {st st2 st' : Store} {Q : VK} {E : XK} {QN : VK} {CE : Addr} {cs : List Nat} {r : Res D} {y : V} {d : D} (hM : ∀ cx ∈ cs, PySem.W.exmOne X.K (.ref (T.ca cx)) (.ref CE) = some true) (g : GoodT T G μ H st) (p12 : Post T G μ H μ2 H2 st2) (er : cauR cs (mkR r) = .ok d st')
    (q : ∀ v H' μ', Post T G μ H μ' H' st' → RS T false false G H μ' H' st' d v → Q v H')
    (hE : ∀ cls dd H', (∃ (C d0 : Addr) (w : V), cls = .ref C ∧ dd = some d0 ∧ H' d0 = some (.xd [(erF, w)]) ∧ PySem.W.exmOne X.K (.ref C) (.ref CE) = some true ∧ ∀ a, H' a = none → Q (.ref a) (upd H' a (ExnO (.ref C) (some d0) a))) → E cls dd H')
    (hN : ∀ v H', Q .non H' → QN v H') : RunC T G μ2 H2 (fun v H3 => v = .non ∧ QN y H3) E r := by
  cases r with
  | ok d0 s0 =>
    have hd0 : d0 = .non := by
      cases d0 <;> first | rfl | (exfalso; cases er)
    subst hd0
    have er' : cauR cs (.ok .non s0) = .ok d st' := er
    rcases cauR_ok er' with ⟨_, e, rfl⟩ | ⟨_, _, e, _⟩
    · cases e
      intro v' H' μ' p3 r3
      exact ⟨r3, hN _ H' (q .non H' μ' (p12.trans p3) (.of0 rfl))⟩
    · cases e
  | exc c v s0 => exact (cau_run (QN := QN) (r := .exc c v s0) hM g p12 er q hE hN : RunC T G μ2 H2 QN E (.exc c v s0))
  | bad => cases er
end
section
variable {X : Cx} {T : Tb} {pg : Prog} {n : Nat}
/-- f(lambda: C(..)) -/
theorem xe_cauK {F gi ci : Nat} {is cs : List Nat} {as : PD.X} {x y a : Str} {g fb c CE : Addr} {pgm : Arguments} {bg : List Stmt} {sg : Scope} {dV kV doc pm cdv ct oc : Value} {an od : Option Addr} {osl : Array (Option Value)} {Ng : List Str} {qs : List Str}
    {params : Arguments} {e : Expr} {es : List Expr} {scope : Scope} {p p2 p3 lpos pos : Pos} (hX : XT T X) (hg : Gl X x) (hm : X.mg x = some (.ref g)) (hk : PySem.W.keepIn X.K (.ref g) = true)
    (lk : X.K.lookup g = some ⟨oc, od, .func (PySem.W.fnOf x x pgm bg sg dV kV doc pm an cdv ct), osl⟩) (hcg : PySem.W.codeIn X.K cdv x = true) (hb : L2.Binds X.K (PySem.W.fnOf x x pgm bg sg dV kV doc pm an cdv ct) [a] []) (Sg : FnScope Ng [a] sg) (hNg : Ng[0]? = some a) (hva : Vis sg a)
    (hG : GivesTo X Ng x sg g cdv bg a (X.env.qual ++ "<lambda>") (TTcau X.K CE)) (hM : ∀ cx ∈ cs, PySem.W.exmOne X.K (.ref (T.ca cx)) (.ref CE) = some true)
    (TB : TabB X.base X.mg c T.tb) (hq : T.tq = X.env.qual ++ "<lambda>") (hcode : X.env.code = .ref c) (hr : Room (2 * n + 1) X.A) (L : LamS X.env.scope scope) (hdef : defaultsOf params X.env = ([], []))
    (hbind : ∀ (q : Str) (cl : List (Str × Addr)) (pm cv ctv : Value), bindArgs (PySem.W.kla_fn "<lambda>" q params (.Call (.Name y p2) (e :: es) [] p3) scope cl pm cv ctv) ⟨[], []⟩ = pure [])
    (D : DefX T X.base pg (n - 1) fb gi qs) (hfn : pg.fn F = ⟨is.length, is.length, .cons (.rt (.cauK cs ci as)) .nil⟩) (hgl : scope.names.lookup y = some .globalImplicit) (hmy : X.mg y = some (.ref (T.ca ci))) (hcl : Cls X.K (T.ca ci)) (hmk : Mk X.K (T.ca ci) fb) (hini : pg.ini ci = some gi) (hdy : (y == ("__debug__" : Str)) = false) (hok : okS is.length as = true) (hnpg : (pg.fn gi).np = qs.length)
    (he : ∀ (A : Around) (outer : List PySem.Env) (s : Shared) (H : Hp) (E : XK) (f c' : Addr), starEach (e :: es) (lamCx X A outer s H E scope f c').env = (false, eval e (lamCx X A outer s H E scope f c').env) :: starEach es (lamCx X A outer s H E scope f c').env)
    (hpl : ∀ (A : Around) (outer : List PySem.Env) (s : Shared) (H : Hp) (E : XK) (f c' : Addr), (backTo p3 (starEach es (lamCx X A outer s H E scope f c').env)).any (·.1) = false)
    (hargs : ∀ (A : Around) (outer : List PySem.Env) (s : Shared) (H : Hp) (E : XK) (f c' : Addr), Room (2 * (n - 1) + 1) (A.deeper (lamEnv X scope s.heap.objs.size f c')) → PXA (lamCx X A outer s H E scope f c') T pg (callN pg (n - 1)) (e :: es) (sub is as))
    (hdb : (x == ("__debug__" : Str)) = false := by decide) (hd : (a == ("__debug__" : Str)) = false := by decide) (hcd : (a == ("__classdict__" : Str)) = false := by decide) :
    PX X T pg (callN pg n) (.Call (.Name x p) [.Lambda params (.Call (.Name y p2) (e :: es) [] p3) scope lpos] [] pos) (.call F (varsX is)) false false := by
  cases n with
  | zero => exact ⟨fun pins s σ H Q I ⟨G, μ, env, st, d, st', g, ev, q⟩ => by
      obtain ⟨ds, st1, e1, e2⟩ := bnd_inv (show bnd (evA pg (callN pg 0) (varsX is) env) (fun ds => callN pg 0 F ds) st = .ok d st' from ev)
      cases e2⟩
  | succ n =>
    have hlr : ∀ ds st, (match callN pg n gi ds st with | .bad => False | _ => True) → ds.length = qs.length := fun ds st z => (callN_lenX z).trans hnpg
    obtain ⟨fd, F1, hbf⟩ := D.ex
    refine PE.imp (se_lamcall (i := 0) (k := 2 * n + 1) (t := fun E => tMake (T.ca ci) (spX T (callN pg n) gi qs.length) [] E (rdA T (evA pg (callN pg n) (sub is as)))) hg hm hk lk hcg hb Sg hNg hva hG TB hq hcode hr L hdef hbind (fun A outer s H E f c' hr2 => ?_) hdb hd hcd) fun σ H Q hh => ?_
    · have tk : Takes (lamCx X A outer s H E scope f c') (fun cls d _ H => E cls d H) := takes_of (E₁ := fun e' s'' => L2.CX X.prog X.w outer H s E e' s'') rfl rfl rfl rfl
      have F2 : FnOk X.prog X.w X.K X.mg X.base (L2.CX X.prog X.w) (2 * n) fb fd qs (spX T (callN pg n) gi qs.length) := by
        have := F1
        rw [← hX.P, ← hX.w, ← hX.K, ← hX.m] at this
        exact this
      exact pe_make (X := lamCx X A outer s H E scope f c') (E := E) hmk F2 hr2 hgl hmy (show Binds X.K fd qs [] from hX.K ▸ hbf) .nil (passes_call tk fun _ _ _ _ z => z) (hargs A outer s H E f c' hr2) hdy (he ..) (hpl ..)
    · obtain ⟨G, μ, env, st, d, st', gd, ev, q⟩ := hh
      obtain ⟨ds, hvars, e8⟩ := virt_inv hfn ev
      obtain ⟨htab, e10⟩ := tab0_ok (show tab0 (bnd (noX (evA pg (callN pg n) as (ds.map Sl.v))) fun ds => bnd (alloc (.ins ci [])) fun r => match pg.ini ci with
        | some f => fun st => cauR cs (mkR (callN pg n f (r :: ds) st))
        | none => fail) st = .ok d st' from e8)
      obtain ⟨ds2, st7, e16, e17⟩ := bnd_inv e10
      have e18 := noX_ok e16
      rw [← (sub_ev (P := pg) (cf := callN pg n) is (ds.map Sl.v) env hvars as hok).2] at e18
      obtain ⟨r0, st8, e19, e20⟩ := bnd_inv e17
      unfold alloc at e19
      cases e19
      rw [hini] at e20
      refine ⟨G, μ, env, st, gd, tab_at gd.sto htab, fun H1 pp E QN hE hN => ?_⟩
      have g1 := gd.post pp
      refine ⟨G, μ, env, st, ds2, st7, g1, e18, fun vs H2 μ2 p2 r2 x0 dx hx hd hne => ?_⟩
      have g2 := g1.toGoodT.post p2
      have more := fun a u => upd2_more (o := .own x0) (o' := .ins (T.ca ci) dx []) hx hd a u
      have hdx : dx ∉ μ2 ++ [x0] := fun z => by
        rcases List.mem_append.mp z with z | z
        · exact g2.fresh hd (.inl z)
        · simp at z; exact hne z
      have p3 := Post.new_ g2 hx (u := .ins ci []) more ⟨dx, [], upd_same, hdx, by rw [upd_ne hne, upd_same], rfl, hX.K ▸ hcl, fun _ z => nomatch z⟩ (by rw [upd_same]; simp)
      have g3 := g2.post p3
      have hget : (μ2 ++ [x0])[st7.length]? = some x0 := by
        have hlen : μ2.length = st7.length := g2.sto.len
        rw [← hlen, List.getElem?_append_right (Nat.le_refl _)]; simp
      have run := cauK_run (y := .ref x0) hM gd.toGoodT ((pp.trans p2).trans p3) e20 q hE hN
      refine ⟨G, μ2 ++ [x0], st7 ++ [.ins ci []], .ref st7.length :: ds2, g3, ⟨.ref x0, vs, by rw [List.append_nil], ⟨x0, rfl, hget⟩, Reps.mv p3.mv ds2 vs r2⟩, hlr _ (st7 ++ [.ins ci []]) ?_, run⟩
      cases qq : callN pg n gi (.ref st7.length :: ds2) (st7 ++ [.ins ci []]) with
      | ok _ _ => trivial
      | exc _ _ _ => trivial
      | bad => rw [qq] at run; exact run
end
section
variable {X : Cx} {T : Tb} {P : Prog} {cf : Calls} {pos p p2 apos cpos : Pos} {a e tg : Expr} {xa xe : PD.X} {fa fe : Bool} {cs : List Nat}
/-- isinstance(e, ValueError), e a kept error -/
theorem xe_isv (h : XT T X) (S : ErrK T.K T.ca cs) (hv : ∀ c ∈ cs, PySem.W.kitOne T.K (.ref (T.ca c)) (.type "ValueError") = some true) (hg : Gl X "isinstance") (hm : X.mg "isinstance" = none) (hgc : Gl X "ValueError") (hmc : X.mg "ValueError" = none)
    (ha : PX X T P cf a xa fa false) (hs1 : starEach [a, .Name "ValueError" p2] X.env = (false, eval a X.env) :: starEach [.Name "ValueError" p2] X.env) (hs2 : starEach [.Name "ValueError" p2] X.env = (false, eval (.Name "ValueError" p2) X.env) :: starEach [] X.env) (hpl : (backTo pos (starEach [.Name "ValueError" p2] X.env)).any (·.1) = false) :
    PX X T P cf (.Call (.Name "isinstance" p) [a, .Name "ValueError" p2] [] pos) (.isv cs xa) false false := by
  refine PE.imp (pe_callB PD.call_isK hg hm PyProof.Rows.boot_isinstance (pa_cons ha (pa_cons (pe_bltn (v := .ty "ValueError") hgc hmc PyProof.Rows.Boot.«ValueError» rfl (by decide) (by decide)) pa_nil hs2) hs1) (by decide) (by decide) hs1 hpl) fun σ H Q ⟨G, μ, env, st, d, st', g, ev, q⟩ => ?_
  obtain ⟨x, st1, e1, k2⟩ := bnd_inv (show bnd (evE P cf xa env) (fun x => match x with
    | .err c' _ => if cs.contains c' then ret (D.bl true) else fail
    | _ => fail) st = .ok d st' from ev)
  cases x <;> simp only [fail_ap, reduceCtorEq] at k2
  obtain ⟨hz, k3⟩ := ite_inv k2
  obtain ⟨rfl, rfl⟩ := ret_inv k3
  refine ⟨G, μ, env, st, _, st1, g, e1, fun v H1 μ1 p1 r1 => ?_⟩
  obtain ⟨b, dd, w, rfl, k1, _, k4, _, _⟩ := r1.rep rfl
  have hz' := List.elem_iff.mp hz
  exact ⟨b, _, dd, _, .ty "ValueError", .type "ValueError", _, rfl, k1, k4, (fun u r => r), h.K ▸ S.xc _ hz', h.K ▸ hv _ hz', q _ H1 μ1 p1 (.of0 rfl)⟩
theorem jw_vals {G : Addr → Prop} {μ : List Addr} {H : Hp} {d : Addr} {ob : Obj} : ∀ {kvs : List (D × D)} {es : List (Key × V)}, H d = some (.frz ob (.dK es)) → ¬ FF G μ d → KVl T H (FF G μ) μ kvs es → JW T false G μ H (Itd d ob es) (kvs.map (·.2)) := by
  intro kvs es h1 hn hk
  have hl : es.length = kvs.length := KVl.len hk
  have get : ∀ {kvs : List (D × D)} {es : List (Key × V)} {i : Nat} {d : D} {F' : Addr → Prop} {H' : Hp} {μ' : List Addr}, KVl T H (FF G μ) μ kvs es → (kvs.map (·.2))[i]? = some d → Mv H H' (FF G μ) F' μ μ' → ∃ k x, es[i]? = some (k, x) ∧ Rep T H' F' μ' d x := by
    intro kvs
    induction kvs with
    | nil => intro es i d F' H' μ' _ h; simp at h
    | cons p r ih =>
      intro es i d F' H' μ' hk h m
      obtain ⟨kd, dv⟩ := p
      obtain ⟨q, x, r', rfl, _, hr, hk'⟩ := hk
      cases i with
      | zero =>
        simp at h
        subst h
        exact ⟨q, x, rfl, Rep.mv m _ _ hr⟩
      | succ i => exact ih (i := i) hk' (by simpa using h) m
  refine ⟨fun H2 => H2 d = some (.frz ob (.dK es)), h1, fun H2 k => k d _ h1 (by simpa using hn), fun i x H2 hs hd => ?_, fun H2 hs => ⟨hs, by rw [List.length_map, hl]; exact Nat.le_refl _⟩⟩
  have hi : i < es.length := by
    have := (List.getElem?_eq_some_iff.mp hd).1
    rw [List.length_map] at this
    omega
  refine ⟨⟨hs, hi⟩, fun y H3 ⟨e3, k, hy⟩ => ?_⟩
  subst e3
  refine ⟨fun _ _ z => z, fun F2 μ2 m _ => ?_⟩
  obtain ⟨k', x', hx', r⟩ := get hk hd m
  rw [hy] at hx'
  cases hx'
  exact r
/-- for x in d.values() -/
theorem xi_vals (he : PX X T P cf e xe fe false) (hbase : attributeBase e "values" X.env (eval e X.env) = eval e X.env := by rfl) (hline : (apos.endLine == cpos.line) = true := by rfl) : PXI X T P cf tg (.Call (.Attribute e "values" apos) [] [] cpos) (.vals xe) false := by
  refine PI.imp (pi_values he hbase hline) fun σ H R ⟨G, μ, env, st, ds, st', g, e1, q⟩ => ?_
  obtain ⟨x, st1, k1, k2⟩ := bnd_inv (show bnd (evE P cf xe env) (fun x => match x with
    | .dct (p :: r) => if headStr (p :: r) then ret ((p :: r).map (·.2)) else fail
    | _ => fail) st = .ok ds st' from e1)
  obtain ⟨p, r, rfl, ht, rfl, rfl⟩ : ∃ p r, x = .dct (p :: r) ∧ headStr (p :: r) = true ∧ ds = (p :: r).map (·.2) ∧ st' = st1 := by
    cases x with
    | dct kvs =>
      cases kvs with
      | nil => cases k2
      | cons p r =>
        obtain ⟨hz, k3⟩ := ite_inv k2
        obtain ⟨rfl, rfl⟩ := ret_inv k3
        exact ⟨p, r, rfl, hz, rfl, rfl⟩
    | _ => cases k2
  refine ⟨G, μ, env, st, _, _, g, k1, fun v H1 μ1 p1 r1 => ?_⟩
  obtain ⟨a, rfl, hn, hc⟩ := (show ∃ a, v = .ref a ∧ ¬ FF G μ1 a ∧ DctC T H1 (FF G μ1) μ1 a (p :: r) from r1.rep rfl)
  obtain ⟨es, hdk, hk⟩ := DctC.txt hc ht
  rcases hdk with ⟨e, _⟩ | ⟨_, ob, hf⟩
  · subst e
    obtain ⟨_, _, _, e, _⟩ := hk
    cases e
  · exact ⟨a, ob, es, rfl, hf, q _ H1 μ1 p1 (jw_vals hf hn hk)⟩
end
end PD
end ZPDNew
section ZPDStart
set_option Elab.async false
set_option linter.all false
set_option maxRecDepth 100000
set_option maxHeartbeats 2000000
namespace PD
open PySem PySem.Spec L2 PyProof.Rows LamX
/-! the end of a law row: one table of code objects; no repr is under way at the start -/
abbrev emptyTab : Obj := { cls := .none, data := .fields #[] }
section
variable {P : Program} {w : World} {K : PySem.W.Frag} {mg mb : Str → Option Value} {k : Nat} {fa a c tb : Addr} {fd : FuncData} {x : Str} {sp : Sp} {s1 : Shared} {vals : List Value} {ns : List Int}
/-- what stands at the start -/
structure Begun (K : PySem.W.Frag) (mg mb : Str → Option Value) (c tb a : Addr) (vals : List Value) (s1 : Shared) : Prop where
  kx : K.In s1.heap
  g : s1.heap.Ns mainGlobals mg
  b : s1.heap.Ns builtinsNs mb
  bb : ∀ y : Str, y ≠ "__name__" → mb y = bootBuiltins y
  lim : s1.heap.NoLimit
  gens : s1.gens = #[]
  tab : s1.heap.get? tb = some emptyTab
  notK : K.lookup tb = none
  code : PySem.W.CodeHd s1.heap c tb
  bm : ∃ (m : Addr) (o : Obj), mg "__builtins__" = some (.ref m) ∧ m ≠ builtinsNs ∧ s1.heap.get? m = some o ∧ o.cls = .type "module" ∧ o.dict = some builtinsNs ∧ o.data = .plain
  scr : s1.heap.get? a = some { cls := .type "list", data := .seq vals.toArray }
theorem Begun.ne (B : Begun K mg mb c tb a vals s1) : a ≠ tb := fun z => by
  have e := B.scr
  rw [z, B.tab] at e
  exact Data.noConfusion (congrArg Obj.data (Option.some.inj e))
/-- what an object must be to be tracked: neither the script nor the table -/
theorem Begun.free (B : Begun K mg mb c tb a vals s1) {H : Hp} (hH : ∀ y, H y ≠ none → y = a ∨ y = tb) {y : Addr} {o : Obj} (e : s1.heap.get? y = some o) (n1 : ∀ vs n, o.data ≠ .seq vs n) (n2 : o.data ≠ .fields #[]) : H y = none := by
  refine Classical.byContradiction fun hn => ?_
  rcases hH y hn with z | z
  · rw [z, B.scr] at e
    exact n1 _ _ (congrArg Obj.data (Option.some.inj e)).symm
  · rw [z, B.tab] at e
    exact n2 (congrArg Obj.data (Option.some.inj e)).symm
theorem Begun.ground (B : Begun K mg mb c tb a vals s1) {H : Hp} (hH : ∀ y, H y ≠ none → y = a ∨ y = tb) (hK : H a ≠ none → K.lookup a = none) : L2.Mod K mg (hidT s1.heap H) ∧ TabB (hidT s1.heap H) mg c tb := by
  have dct : ∀ {y : Addr} {m : Str → Option Value}, s1.heap.Ns y m → (hidT s1.heap H).Ns y m := fun {y m} ⟨o, es, ep, e, d, r⟩ =>
    ⟨o, es, ep, hidT_get e (B.free hH e (fun vs n z => by rw [d] at z; exact Data.noConfusion z) fun z => by rw [d] at z; exact Data.noConfusion z), d, r⟩
  have kin : K.In (hidT s1.heap H) := fun y o e => hidT_get (B.kx y o e) (by
    refine Classical.byContradiction fun hn => ?_
    rcases hH y hn with z | z
    · subst z
      rw [hK hn] at e
      exact nomatch e
    · rw [z, B.notK] at e
      exact nomatch e)
  obtain ⟨lc, l1, l2⟩ := B.lim
  refine ⟨⟨kin, dct B.g, ⟨mb, dct B.b, B.bb⟩, ⟨lc, dct l1, l2⟩⟩, ?_, ?_, fun z => ?_⟩
  · obtain ⟨o, us, fl, t0, flags, t1, inF, text, t2, q1, q2, q3, q4, q5⟩ := B.code
    refine ⟨o, us, fl, t0, flags, t1, inF, text, t2, hidT_get q1 (B.free hH q1 (fun vs n z => by rw [q3] at z; exact Data.noConfusion z) fun z => ?_), q2, q3, q4, q5⟩
    rw [q3] at z
    have zz : us = #[] := Data.fields.inj z
    rw [zz] at q4
    exact absurd q4 (by simp)
  · obtain ⟨m, o, q1, q2, q3, q4, q5, q6⟩ := B.bm
    have nd : ∀ {d : Data}, o.data = d → d = .plain := fun z => z.symm.trans q6
    have ng : m ≠ mainGlobals := fun z => by
      obtain ⟨o', es, ep, e, d, _⟩ := B.g
      rw [z, e] at q3
      exact Data.noConfusion (nd ((congrArg Obj.data (Option.some.inj q3)).symm.trans d))
    have np : m ≠ tb := fun z => by
      rw [z, B.tab] at q3
      exact Data.noConfusion (nd (congrArg Obj.data (Option.some.inj q3)).symm)
    exact ⟨m, o, q1, q2, ng, np, hidT_get q3 (B.free hH q3 (fun vs n z => Data.noConfusion (nd z)) fun z => Data.noConfusion (nd z)), q4, q5, q6⟩
  · obtain ⟨o, es, ep, e, d, _⟩ := B.g
    rw [z, B.tab] at e
    exact Data.noConfusion ((congrArg Obj.data (Option.some.inj e)).trans d)
theorem Begun.from_ (B : Begun K mg mb c tb a vals s1) (hi : IntsAre vals ns) (hr : Room k callerA) (F : ∀ base : Heap, K.In base → base.Ns mainGlobals mg → TabB base mg c tb → FnG P w K mg base k fa fd [x] sp) (hbind : ∀ (s : Shared) (u : Value), BindsTo s fd ⟨[u], []⟩ [(x, u)])
    {H : Hp} (hT : H tb = some (.tbl #[])) (hO : ∀ y, H y = none ∨ y = tb ∨ ∃ o xs, H y = some (.frz o (.lst xs))) (hok : HOk P w H s1.heap) (hH : ∀ y, H y ≠ none → y = a ∨ y = tb) (hK : H a ≠ none → K.lookup a = none)
    (hsp : sp [.ref a] H (fun v _ => v = .bl true) E0) :
    codeAny (model P w) callerA (.call (.ref fa) ⟨[.ref a], []⟩) (fun r s' => r = .ok (.ret (.bool true)) ∧ OldK s1.heap s'.heap ∧ s'.os = s1.os ∧ AllBare s'.gens) s1 := by
  obtain ⟨M, TB⟩ := B.ground hH hK
  have e0 : Env0 P w K mg (hidT s1.heap H) callerA [] s1 H := ⟨rfl, M, fun y o e => of_hidT e, Nat.le_of_eq (hidT_size _ _), trivial, fun y hy => absurd hy List.not_mem_nil, hok, .of_eq B.gens⟩
  refine codeAny_mono ((F _ M.kin M.glob TB).run callerA [] s1 H ⟨[.ref a], []⟩ [.ref a] [.ref a] _ hr rfl e0 (hbind s1 (.ref a)) (.cons rfl .nil) hsp) fun r s' h => ?_
  match r, h with
  | .ok (.ret u), h =>
    obtain ⟨v, H', os, bare, un, hok', rv, q⟩ := h
    obtain rfl : v = .bl true := q
    obtain rfl : u = Value.bool true := rv
    have kept : ∀ y o, y ≠ tb → s1.heap.get? y = some o → s'.heap.get? y = some o := fun y o hy e => by
      rcases hO y with z | z | ⟨ob, xs, z⟩
      · exact un.keep y o e z (fun hm => absurd hm List.not_mem_nil) List.not_mem_nil
      · exact absurd z hy
      · obtain ⟨e1, _⟩ := hok y _ z
        obtain ⟨e2, _⟩ := hok' y _ (un.frzs y ob _ z)
        rw [e] at e1
        cases e1
        exact e2
    obtain ⟨more, hm⟩ := un.tbls tb #[] hT
    have grown : s'.heap.get? tb = some { cls := .none, data := .fields (#[] ++ more) } := hok' tb _ hm
    refine ⟨rfl, ⟨fun y o e => ?_, fun y o e => ?_⟩, os, bare⟩
    · by_cases hy : y = tb
      · subst hy
        rw [B.tab] at e
        cases e
        exact .inr (.inl ⟨(B.code.tab B.tab).isCodeTable, rfl, #[], more, rfl, grown⟩)
      · exact .inl (kept y o hy e)
    · by_cases hy : y = tb
      · exact ⟨_, hy ▸ grown⟩
      · exact ⟨o, kept y o hy e⟩
theorem law_callG (B : Begun K mg mb c tb a vals s1) (hi : IntsAre vals ns) (hl : ns.length ≤ sizeLine) (hr : Room k callerA) (F : ∀ base : Heap, K.In base → base.Ns mainGlobals mg → TabB base mg c tb → FnG P w K mg base k fa fd [x] sp) (hbind : ∀ (s : Shared) (u : Value), BindsTo s fd ⟨[u], []⟩ [(x, u)])
    (hsp : ∀ H : Hp, H tb = some (.tbl #[]) → SqL K H a (ns.map V.int) → sp [.ref a] H (fun v _ => v = .bl true) E0) :
    codeAny (model P w) callerA (.call (.ref fa) ⟨[.ref a], []⟩) (fun r s' => r = .ok (.ret (.bool true)) ∧ OldK s1.heap s'.heap ∧ s'.os = s1.os ∧ AllBare s'.gens) s1 := by
  have rv := vals_ints hi
  have tabOk : ∀ H : Hp, ObjOk P w H s1.heap tb (.tbl #[]) := fun H => B.tab
  cases hk : K.lookup a with
  | some o =>
    have e := B.kx a o hk
    rw [B.scr] at e
    cases e
    have hT : (fun y => if y = tb then some (HO.tbl #[]) else none : Hp) tb = some (.tbl #[]) := if_pos rfl
    have hn : ∀ y, y ≠ tb → (fun y => if y = tb then some (HO.tbl #[]) else none : Hp) y = none := fun y hy => if_neg hy
    refine B.from_ hi hr F hbind (H := fun y => if y = tb then some (.tbl #[]) else none) hT (fun y => ?_) (fun y u z => ?_) (fun y z => ?_) (fun z => absurd (hn a B.ne) z) (hsp _ hT (.inr ⟨_, vals.toArray, _, hk, rfl, rfl, rfl, by rw [List.size_toArray, hi.length]; exact hl, by simpa using rv⟩))
    · by_cases hy : y = tb
      · exact .inr (.inl hy)
      · exact .inl (hn y hy)
    · by_cases hy : y = tb
      · subst hy
        rw [hT] at z
        cases z
        exact tabOk _
      · rw [hn y hy] at z
        cases z
    · exact .inr (Classical.byContradiction fun hy => z (hn y hy))
  | none =>
    have hT : (fun y => if y = tb then some (HO.tbl #[]) else if y = a then some (.frz { cls := .type "list", data := .seq vals.toArray } (.lst (ns.map V.int))) else none : Hp) tb = some (.tbl #[]) := if_pos rfl
    have hA : (fun y => if y = tb then some (HO.tbl #[]) else if y = a then some (.frz { cls := .type "list", data := .seq vals.toArray } (.lst (ns.map V.int))) else none : Hp) a = some (.frz { cls := .type "list", data := .seq vals.toArray } (.lst (ns.map V.int))) := (if_neg B.ne).trans (if_pos rfl)
    have hn : ∀ y, y ≠ tb → y ≠ a → (fun y => if y = tb then some (HO.tbl #[]) else if y = a then some (.frz { cls := .type "list", data := .seq vals.toArray } (.lst (ns.map V.int))) else none : Hp) y = none := fun y h1 h2 => (if_neg h1).trans (if_neg h2)
    refine B.from_ hi hr F hbind (H := fun y => if y = tb then some (HO.tbl #[]) else if y = a then some (.frz { cls := .type "list", data := .seq vals.toArray } (.lst (ns.map V.int))) else none) hT (fun y => ?_) (fun y u z => ?_) (fun y z => ?_) (fun _ => hk) (hsp _ hT (.inl (.inr ⟨_, hA⟩)))
    · by_cases h1 : y = tb
      · exact .inr (.inl h1)
      · by_cases h2 : y = a
        · exact .inr (.inr ⟨_, _, (congrArg (fun y => if y = tb then some (HO.tbl #[]) else if y = a then some (.frz { cls := .type "list", data := .seq vals.toArray } (.lst (ns.map V.int))) else none : Hp) h2).trans hA⟩)
        · exact .inl (hn y h1 h2)
    · by_cases h1 : y = tb
      · subst h1
        rw [hT] at z
        cases z
        exact tabOk _
      · by_cases h2 : y = a
        · subst h2
          rw [hA] at z
          cases z
          exact ⟨B.scr, by rw [List.length_map]; exact hl, vals, _, rv, B.scr⟩
        · rw [hn y h1 h2] at z
          cases z
    · by_cases h1 : y = tb
      · exact .inr h1
      · exact .inl (Classical.byContradiction fun h2 => z (hn y h1 h2))
end
/-- what is known of the law's promise at the head's heap -/
def LawG (l : PySem.W.OpenLaw) (w : World) (K : PySem.W.Frag) (k n : Nat) (x : Str) (mg : Str → Option Value) (fa : Addr) (h : Heap) : Prop :=
  ∃ (fd : FuncData) (c tb : Addr) (sp : Sp), h.get? tb = some emptyTab ∧ K.lookup tb = none ∧ PySem.W.CodeHd h c tb ∧ (∀ (s : Shared) (u : Value), BindsTo s fd ⟨[u], []⟩ [(x, u)]) ∧
    (∀ (H : Hp) (a : Addr) (ns : List Int), ns.length ≤ n → H tb = some (.tbl #[]) → SqL K H a (ns.map V.int) → sp [.ref a] H (fun v _ => v = .bl true) E0) ∧
    ∀ base : Heap, K.In base → base.Ns mainGlobals mg → TabB base mg c tb → FnG l.prog w K mg base k fa fd [x] sp
theorem walk_ofG {l : PySem.W.OpenLaw} {n k : Nat} {q : Program} {loose : List Str} {XP : (Str → Option Value) → Heap → Prop} {YP : World → Heap → Prop} {d : DefRec} {K : Params → PySem.W.Frag} {x : Str}
    (hn : l.most = some n) (hn2 : n ≤ sizeLine) (hdf : d.params.defaults = []) (hr : Room k callerA) (hY : ∀ (w : World) (h : Heap), YP w h → (K w.params).In h)
    (F : ∀ (w : World) (mg : Str → Option Value) (fa : Addr) (h : Heap), YP w h → (K w.params).In h → h.Ns mainGlobals mg → mg d.name = some (.ref fa) → LawG l w (K w.params) k n x mg fa h) :
    PySem.W.WalkO q loose XP YP l.row.toRowW d [] (fun f vs => PySem.call f vs) := by
  refine Att.attach_call hn hdf fun w s0 s1 mg mb fa o pm cd doc a vs ns G Y ho hd hcd hmg hobj hints hlen hg => ?_
  have KX := hY w _ Y
  obtain ⟨fd, c, tb, sp, hT, nT, C, hb, hsp, hF⟩ := F w mg fa _ Y KX G.T.g hmg
  exact law_callG ⟨KX, G.T.g, G.T.b, G.T.builtins, G.T.nolimit, hg, hT, nT, C, G.T.bmain, hobj⟩ hints (Nat.le_trans hlen hn2) hr hF hb fun H hH hS => hsp H a ns hlen hH hS
end PD
end ZPDStart
section ZPM
set_option Elab.async false
set_option linter.all false
set_option maxRecDepth 100000
set_option maxHeartbeats 400000
namespace PD
open PySem
/-! evaluation, step by step -/
def NR (d : D) : Prop := ∀ i, d ≠ .ref i
theorem nr_int {k : Int} : NR (.int k) := fun _ z => nomatch z
theorem nr_str {k : Str} : NR (.str k) := fun _ z => nomatch z
theorem nr_bl {k : Bool} : NR (.bl k) := fun _ z => nomatch z
theorem nr_tup {k : List D} : NR (.tup k) := fun _ z => nomatch z
theorem nr_lst {k : List D} : NR (.lst k) := fun _ z => nomatch z
theorem nr_dct {k : List (D × D)} : NR (.dct k) := fun _ z => nomatch z
theorem vw_nr {d : D} (h : NR d) : vw d = ret d := by
  cases d <;> first | rfl | exact absurd rfl (h _)
theorem view_nr {d : D} {st : Store} (h : NR d) : view st d = d := by
  cases d <;> first | rfl | exact absurd rfl (h _)
theorem ixN_nat {n k : Nat} (h : k < n) : PD.ixN n (k : Int) = some k := by
  unfold PD.ixN
  rw [if_pos (by omega), if_pos (by omega)]
  simp
theorem rangeD_nat (k : Nat) : rangeD 0 (k : Int) = (List.range k).map fun (j : Nat) => D.int (j : Int) := by
  unfold rangeD
  rw [Int.sub_zero, Int.toNat_natCast]
  exact List.map_congr_left fun j _ => by rw [Int.zero_add]
theorem mem_range {d : D} {lo hi : Int} (h : d ∈ rangeD lo hi) : ∃ i : Int, d = .int i ∧ lo ≤ i ∧ i < hi := by
  unfold rangeD at h
  obtain ⟨k, hk, rfl⟩ := List.mem_map.mp h
  have := List.mem_range.mp hk
  exact ⟨lo + k, rfl, by omega, by omega⟩
theorem noX_of {α : Type} {m : M α} {st st1 : Store} {a : α} (h : m st = .ok a st1) : noX m st = .ok a st1 := by
  unfold noX; rw [h]
section
variable {P : Prog} {cf : Calls} {env env' : PD.Env} {st st1 st2 st3 : Store}
theorem bnd2 {α β γ : Type} {m : M α} {f : α → M β} {g : β → M γ} {a : α} (h : m st = .ok a st1) : bnd (bnd m f) g st = bnd (f a) g st1 := by
  have : bnd m f st = f a st1 := bnd_ok h
  unfold bnd at this ⊢
  rw [this]
theorem evB_nxS {s b : PD.X} (h : evS P cf s env st = .ok (.nx env') st1) : evB P cf (.cons s b) env st = evB P cf b env' st1 := by
  show bnd (evS P cf s env) _ st = _
  rw [bnd_ok h]
theorem evB_rtS {s b : PD.X} {d : D} (h : evS P cf s env st = .ok (.rt d) st1) : evB P cf (.cons s b) env st = .ok (.rt d) st1 := by
  show bnd (evS P cf s env) _ st = _
  rw [bnd_ok h]; rfl
theorem evB_excS {s b : PD.X} {c : Nat} {d : D} (h : evS P cf s env st = .exc c d st1) : evB P cf (.cons s b) env st = .exc c d st1 := by
  show bnd (evS P cf s env) _ st = _
  unfold bnd
  rw [h]
theorem ev_rtS {x : PD.X} {d : D} (h : evE P cf x env st = .ok d st1) : evS P cf (.rt x) env st = .ok (.rt d) st1 := by
  show bnd (evE P cf x env) _ st = _
  rw [bnd_ok h]; rfl
theorem ev_asgS {i : Nat} {x : PD.X} {d : D} (h : evE P cf x env st = .ok d st1) : evS P cf (.asg i (.pl x)) env st = .ok (.nx (env.set i (.v d))) st1 := by
  show bnd (bnd (evE P cf x env) _) _ st = _
  rw [bnd2 h]; rfl
theorem ev_parS {i j : Nat} {a b : PD.X} {x y : D} (h1 : evE P cf a env st = .ok x st1) (h2 : evE P cf b env st1 = .ok y st2) : evS P cf (.par i j (.pl a) (.pl b)) env st = .ok (.nx ((env.set i (.v x)).set j (.v y))) st2 := by
  show bnd (bnd (evE P cf a env) fun d => ret (Sl.v d)) (fun x => bnd (bnd (evE P cf b env) fun d => ret (Sl.v d)) fun y => ret (Out.nx ((env.set i x).set j y))) st = _
  rw [bnd2 h1, bnd_ret, bnd2 h2]; rfl
theorem ev_parO {i j : Nat} {b : PD.X} {y : D} (h2 : evE P cf b env st = .ok y st2) : evS P cf (.par i j (.own (.lst .nil)) (.pl b)) env st = .ok (.nx ((env.set i (.ol [])).set j (.v y))) st2 := by
  show bnd (ret (Sl.ol [])) (fun x => bnd (bnd (evE P cf b env) fun d => ret (Sl.v d)) fun y => ret (Out.nx ((env.set i x).set j y))) st = _
  rw [bnd_ret, bnd2 h2]; rfl
theorem ev_tgtS {tg e : PD.X} {d : D} (h : evE P cf e env st = .ok d st1) (hb : bindT tg d env = some env') : evS P cf (.tgt tg e) env st = .ok (.nx env') st1 := by
  show bnd (evE P cf e env) _ st = _
  rw [bnd_ok h, hb]; rfl
theorem ev_exS {x : PD.X} {d : D} (h : evE P cf x env st = .ok d st1) : evS P cf (.ex x) env st = .ok (.nx env) st1 := by
  show bnd (evE P cf x env) _ st = _
  rw [bnd_ok h]; rfl
theorem ev_appS {i : Nat} {x : PD.X} {d : D} {ds : List D} (h : evE P cf x env st = .ok d st1) (hi : env[i]? = some (.ol ds)) (hl : ds.length < LIM) : evS P cf (.app i x) env st = .ok (.nx (env.set i (.ol (ds ++ [d])))) st1 := by
  show bnd (evE P cf x env) (fun d => match env[i]? with
    | some (.ol ds) => if ds.length < LIM then ret (Out.nx (env.set i (.ol (ds ++ [d])))) else fail
    | _ => fail) st = _
  rw [bnd_ok h, hi]
  show (if ds.length < LIM then ret (Out.nx (env.set i (.ol (ds ++ [d])))) else fail) st1 = _
  rw [if_pos hl]; rfl
theorem ev_iteS {t a b' : PD.X} {c : Bool} (h : evE P cf t env st = .ok (.bl c) st1) : evE P cf (.ite t a b') env st = if c then evE P cf a env st1 else evE P cf b' env st1 := by
  show bnd (bnd (evE P cf t env) blD) _ st = _
  rw [bnd2 h]
  show (if c then _ else _ : M D) st1 = _
  cases c <;> rfl
theorem ev_ifS {t b b' : PD.X} {c : Bool} (h : evE P cf t env st = .ok (.bl c) st1) : evS P cf (.if_ t b b') env st = if c then evB P cf b env st1 else evB P cf b' env st1 := by
  show bnd (bnd (evE P cf t env) blD) _ st = _
  rw [bnd2 h]
  show (if c then _ else _ : M Out) st1 = _
  cases c <;> rfl
theorem ev_ifF {t b : PD.X} (h : evE P cf t env st = .ok (.bl false) st1) : evS P cf (.if_ t b .nil) env st = .ok (.nx env) st1 := (ev_ifS h).trans rfl
theorem ev_ifxS {t b b' : PD.X} {c : Bool} (h : evE P cf t env st = .ok (.bl c) st1) : evS P cf (.ifx t b b') env st = if c then evB P cf b env st1 else evB P cf b' env st1 := by
  show bnd (noX (bnd (evE P cf t env) blD)) (fun c => if c then evB P cf b env else evB P cf b' env) st = _
  have h1 : bnd (evE P cf t env) blD st = .ok c st1 := by
    unfold bnd
    rw [h]
    rfl
  rw [bnd_ok (noX_of h1)]
  cases c <;> rfl
theorem ev_qS {s : PD.X} {o : Out} (h : evS P cf s env st = .ok o st1) : evS P cf (.q s) env st = .ok o st1 := noX_of h
theorem ev_raiseS {k : Nat} {e : PD.X} {d : D} (h : evE P cf e env st = .ok d st1) : evS P cf (.raise k e) env st = .exc k d st1 := by
  show bnd (noX (evE P cf e env)) (fun d st => .exc k d st) st = _
  rw [bnd_ok (noX_of h)]
theorem runF_rtS {fd : FD} {ds : List D} {d : D} (hl : ds.length = fd.np) (h : evB P cf fd.body (ds.map .v ++ List.replicate (fd.ns - fd.np) .no) st = .ok (.rt d) st1) : runF P cf fd ds st = .ok d st1 := by
  unfold runF
  rw [if_pos hl, bnd_ok h]; rfl
theorem runF_nxS {fd : FD} {ds : List D} (hl : ds.length = fd.np) (h : evB P cf fd.body (ds.map .v ++ List.replicate (fd.ns - fd.np) .no) st = .ok (.nx env') st1) : runF P cf fd ds st = .ok .non st1 := by
  unfold runF
  rw [if_pos hl, bnd_ok h]; rfl
theorem runF_excS {fd : FD} {ds : List D} {c : Nat} {d : D} (hl : ds.length = fd.np) (h : evB P cf fd.body (ds.map .v ++ List.replicate (fd.ns - fd.np) .no) st = .exc c d st1) : runF P cf fd ds st = .exc c d st1 := by
  unfold runF
  rw [if_pos hl]
  show bnd (evB P cf fd.body _) _ st = _
  unfold bnd
  rw [h]
theorem ev_callS {f : Nat} {x : PD.X} {ds : List D} {r : Res D} (h : evA P cf x env st = .ok ds st1) (hm : cf f ds st1 = r) : evE P cf (.call f x) env st = r := by
  show bnd (evA P cf x env) _ st = _
  rw [bnd_ok h, hm]
theorem evA_consS {x r : PD.X} {d : D} {ds : List D} (hx : ∀ y, x ≠ .star y) (h : evE P cf x env st = .ok d st1) (h2 : evA P cf r env st1 = .ok ds st2) : evA P cf (.cons x r) env st = .ok (d :: ds) st2 := by
  have : evA P cf (.cons x r) env = bnd (evE P cf x env) fun d => bnd (evA P cf r env) fun ds => ret (d :: ds) := by
    cases x <;> first | rfl | exact absurd rfl (hx _)
  rw [this, bnd_ok h, bnd_ok h2]; rfl
theorem arg1S {x : PD.X} {d : D} (hx : ∀ z, x ≠ .star z) (h : evE P cf x env st = .ok d st1) : evA P cf (.cons x .nil) env st = .ok [d] st1 := evA_consS hx h rfl
theorem arg2S {x y : PD.X} {d e : D} (hx : ∀ z, x ≠ .star z) (hy : ∀ z, y ≠ .star z) (h : evE P cf x env st = .ok d st1) (h2 : evE P cf y env st1 = .ok e st2) : evA P cf (.cons x (.cons y .nil)) env st = .ok [d, e] st2 :=
  evA_consS hx h (evA_consS hy h2 rfl)
theorem ev_cmS {m c i f : Nat} {o as : PD.X} {x : D} {ds : List D} {r : Res D} (h : evE P cf o env st = .ok x st) (hc : clsOf x st = .ok (c, i) st) (hm : P.mth c m = some f) (ha : evA P cf as env st = .ok ds st1) (hr : cf f (x :: ds) st1 = r) : evE P cf (.cm m o as) env st = r := by
  show bnd (evE P cf o env) _ st = _
  rw [bnd_ok h]
  show bnd (clsOf x) _ st = _
  rw [bnd_ok hc]
  show (match P.mth c m with
    | some f => bnd (evA P cf as env) fun ds => cf f (x :: ds)
    | none => fail) st = _
  rw [hm]
  show bnd (evA P cf as env) _ st = _
  rw [bnd_ok ha, hr]
theorem ev_propS {m c i f : Nat} {o : PD.X} {x : D} {r : Res D} (h : evE P cf o env st = .ok x st) (hc : clsOf x st = .ok (c, i) st) (hm : P.mth c m = some f) (hr : cf f [x] st = r) : evE P cf (.prop m o) env st = r := by
  show bnd (evE P cf o env) _ st = _
  rw [bnd_ok h]
  show bnd (clsOf x) _ st = _
  rw [bnd_ok hc]
  show (match P.mth c m with
    | some f => cf f [x]
    | none => fail) st = _
  rw [hm]
  exact hr
theorem ev_eqoS {m c i f : Nat} {a b : PD.X} {x y : D} {r : Res D} (h : evE P cf a env st = .ok x st1) (h2 : evE P cf b env st1 = .ok y st2) (hc : clsOf x st2 = .ok (c, i) st2) (ho : eqoOk c y st2 = .ok () st2) (hm : P.mth c m = some f) (hr : cf f [x, y] st2 = r) : evE P cf (.eqo m a b) env st = r := by
  show bnd (evE P cf a env) (fun x => bnd (evE P cf b env) fun y => bnd (clsOf x) fun c => bnd (eqoOk c.1 y) fun _ => match P.mth c.1 m with
    | some f => cf f [x, y]
    | none => fail) st = _
  rw [bnd_ok h, bnd_ok h2, bnd_ok hc, bnd_ok ho]
  show (match P.mth c m with
    | some f => cf f [x, y]
    | none => fail) st2 = _
  rw [hm]
  exact hr
theorem clsOf_at {i c : Nat} {fs : List (Nat × D)} (h : st[i]? = some (.ins c fs)) : clsOf (.ref i) st = .ok (c, i) st := by
  show (match st[i]? with
    | some (.ins c _) => Res.ok (c, i) st
    | _ => .bad) = _
  rw [h]
theorem ev_mkS {c f : Nat} {as : PD.X} {ds : List D} (ha : evA P cf as env st = .ok ds st1) (hi : P.ini c = some f) (hr : cf f (.ref st1.length :: ds) (st1 ++ [O.ins c []]) = .ok .non st2) : evE P cf (.mk c as) env st = .ok (.ref st1.length) st2 := by
  show bnd (evA P cf as env) (fun ds => bnd (alloc (.ins c [])) fun r => match P.ini c with
    | some f => bnd (cf f (r :: ds)) fun x => (match x with
      | .non => ret r
      | _ => fail)
    | none => fail) st = _
  rw [bnd_ok ha]
  show (match P.ini c with
    | some f => bnd (cf f (.ref st1.length :: ds)) fun x => (match x with
      | .non => ret (D.ref st1.length)
      | _ => fail)
    | none => fail) (st1 ++ [O.ins c []]) = _
  rw [hi]
  show bnd (cf f (.ref st1.length :: ds)) _ _ = _
  rw [bnd_ok hr]; rfl
theorem ev_fldS {x : PD.X} {f c i : Nat} {fs : List (Nat × D)} {d : D} (h : evE P cf x env st = .ok (.ref i) st1) (hi : st1[i]? = some (.ins c fs)) (h2 : getF f fs = some d) : evE P cf (.fld x f) env st = .ok d st1 := by
  show bnd (evE P cf x env) _ st = _
  rw [bnd_ok h]
  show (match st1[i]? with
    | some (.ins _ fs) => (match getF f fs with
      | some d => Res.ok d st1
      | none => .bad)
    | _ => .bad) = _
  rw [hi]
  show (match getF f fs with
      | some d => Res.ok d st1
      | none => .bad) = _
  rw [h2]
theorem ev_setFS {o e : PD.X} {f c i : Nat} {fs : List (Nat × D)} {d : D} (h : evE P cf e env st = .ok d st1) (ho : evE P cf o env st1 = .ok (.ref i) st2) (hi : st2[i]? = some (.ins c fs)) (hl : fs.length ≤ 100 ∧ P.hf c f = true) : evS P cf (.setF o f e) env st = .ok (.nx env) (st2.set i (.ins c (putF f d fs))) := by
  show bnd (evE P cf e env) (fun d => bnd (evE P cf o env) fun x => bnd (wrF P.hf f d x) fun _ => ret (Out.nx env)) st = _
  rw [bnd_ok h, bnd_ok ho]
  have : wrF P.hf f d (.ref i) st2 = .ok () (st2.set i (.ins c (putF f d fs))) := by
    show (match st2[i]? with
      | some (.ins c fs) => if fs.length ≤ 100 ∧ P.hf c f = true then Res.ok () (st2.set i (.ins c (putF f d fs))) else .bad
      | _ => .bad) = _
    rw [hi]
    show (if fs.length ≤ 100 ∧ P.hf c f = true then Res.ok () (st2.set i (.ins c (putF f d fs))) else .bad) = _
    rw [if_pos hl]
  rw [bnd_ok this]; rfl
theorem ev_cauMS {cs : List Nat} {m c i f : Nat} {o as : PD.X} {x : D} {ds : List D} (h0 : st[0]? = some O.tbl) (h : evE P cf o env st = .ok x st) (hc : clsOf x st = .ok (c, i) st) (hm : P.mth c m = some f) (ha : evA P cf as env st = .ok ds st1) : evE P cf (.cauM cs m o as) env st = cauR cs (cf f (x :: ds) st1) := by
  show tab0 (bnd (noX (evE P cf o env)) fun x => bnd (noX (clsOf x)) fun c => match P.mth c.1 m with
    | some f => bnd (noX (evA P cf as env)) fun ds st => cauR cs (cf f (x :: ds) st)
    | none => fail) st = _
  unfold tab0
  rw [h0]
  show bnd (noX (evE P cf o env)) _ st = _
  rw [bnd_ok (noX_of h)]
  show bnd (noX (clsOf x)) _ st = _
  rw [bnd_ok (noX_of hc)]
  show (match P.mth c m with
    | some f => bnd (noX (evA P cf as env)) fun ds st => cauR cs (cf f (x :: ds) st)
    | none => fail) st = _
  rw [hm]
  show bnd (noX (evA P cf as env)) _ st = _
  rw [bnd_ok (noX_of ha)]
theorem ev_srcS {x : PD.X} {d : D} {ds : List D} (h : evE P cf x env st = .ok d st1) (hi : itemsD d = some ds) : evIt P cf (.src x) env st = .ok ds st1 := by
  show bnd (evE P cf x env) _ st = _
  rw [bnd_ok h, hi]; rfl
theorem ev_enuS {x : PD.X} {ds : List D} (h : evE P cf x env st = .ok (.lst ds) st1) : evIt P cf (.enu x) env st = .ok (enumL 0 ds) st1 := by
  show bnd (evE P cf x env) _ st = _
  rw [bnd_ok h]; rfl
theorem ev_sgnS {x : PD.X} {z : Str} (h : evE P cf x env st = .ok (.str z) st1) : evIt P cf (.sgn x) env st = .ok (z.cps.toList.map fun c => .str ⟨#[c]⟩) st1 := by
  show bnd (evE P cf x env) _ st = _
  rw [bnd_ok h]; rfl
theorem ev_rng1S {x : PD.X} {j : Int} (h : evE P cf x env st = .ok (.int j) st1) (hg : gRng j = true) : evIt P cf (.rng (.cons x .nil)) env st = .ok (rangeD 0 j) st1 := by
  show bnd (evE P cf x env) (fun x => match x with
    | .int j => if gRng j then ret (rangeD 0 j) else fail
    | _ => fail) st = _
  rw [bnd_ok h]
  show (if gRng j then ret (rangeD 0 j) else fail) st1 = _
  rw [if_pos hg]; rfl
theorem ev_tupS {x : PD.X} {ds : List D} (h : evA P cf x env st = .ok ds st1) (hl : ds.length ≤ LIM) : evE P cf (.tup x) env st = .ok (.tup ds) st1 := by
  show bnd (evA P cf x env) _ st = _
  rw [bnd_ok h, if_pos hl]; rfl
theorem ev_lstS {x : PD.X} {ds : List D} (h : evA P cf x env st = .ok ds st1) (hl : ds.length ≤ LIM) : evE P cf (.lst x) env st = .ok (.lst ds) st1 := by
  show bnd (evA P cf x env) _ st = _
  rw [bnd_ok h, if_pos hl]; rfl
theorem ev_cmpV {o : Cop} {x y : PD.X} {d e d' e' : D} {r : Bool} (h : evE P cf x env st = .ok d st1) (h2 : evE P cf y env st1 = .ok e st2) (hv : vw d st2 = .ok d' st2) (hv2 : vw e st2 = .ok e' st2) (hc : cmpD o d' e' = some r) : evE P cf (.cmp o x y) env st = .ok (.bl r) st2 := by
  show bnd (evE P cf x env) (fun x => bnd (evE P cf y env) fun y => bnd (vw x) fun x => bnd (vw y) fun y => bnd (opt (cmpD o x y)) fun r => ret (D.bl r)) st = _
  rw [bnd_ok h, bnd_ok h2, bnd_ok hv, bnd_ok hv2, hc]; rfl
theorem ev_cmpS {o : Cop} {x y : PD.X} {d e : D} {r : Bool} (h : evE P cf x env st = .ok d st1) (h2 : evE P cf y env st1 = .ok e st2) (hv : NR d) (hv2 : NR e) (hc : cmpD o d e = some r) : evE P cf (.cmp o x y) env st = .ok (.bl r) st2 :=
  ev_cmpV h h2 (congrFun (vw_nr hv) _) (congrFun (vw_nr hv2) _) hc
theorem ev_binS {o : Bop} {x y : PD.X} {d e r : D} (h : evE P cf x env st = .ok d st1) (h2 : evE P cf y env st1 = .ok e st2) (hv : NR d) (hv2 : NR e) (hc : binD o d e = some r) : evE P cf (.bin o x y) env st = .ok r st2 := by
  show bnd (evE P cf x env) (fun x => bnd (evE P cf y env) fun y => bnd (vw x) fun x => bnd (vw y) fun y => opt (binD o x y)) st = _
  rw [bnd_ok h, bnd_ok h2, bnd_ok (congrFun (vw_nr hv) _), bnd_ok (congrFun (vw_nr hv2) _), hc]; rfl
theorem ev_idxV {x y : PD.X} {d d' e r : D} (h : evE P cf x env st = .ok d st1) (h2 : evE P cf y env st1 = .ok e st2) (hv : vw d st2 = .ok d' st2) (hc : idxD d' e = some r) : evE P cf (.idx x y) env st = .ok r st2 := by
  show bnd (evE P cf x env) (fun x => bnd (evE P cf y env) fun y => bnd (vw x) fun x => opt (idxD x y)) st = _
  rw [bnd_ok h, bnd_ok h2, bnd_ok hv, hc]; rfl
theorem ev_idxS {x y : PD.X} {d e r : D} (h : evE P cf x env st = .ok d st1) (h2 : evE P cf y env st1 = .ok e st2) (hv : NR d) (hc : idxD d e = some r) : evE P cf (.idx x y) env st = .ok r st2 := ev_idxV h h2 (congrFun (vw_nr hv) _) hc
theorem ev_oS {x : PD.X} {i : Int} (h : evE P cf x env st = .ok (.int i) st1) : evO P cf (.cons x .nil) env st = .ok (some i) st1 := by
  show bnd (evE P cf x env) _ st = _
  rw [bnd_ok h]; rfl
theorem ev_slcS {x l u : PD.X} {d r : D} {lo hi : Option Int} (h : evE P cf x env st = .ok d st1) (h2 : evO P cf l env st1 = .ok lo st2) (h3 : evO P cf u env st2 = .ok hi st3) (hv : NR d) (hc : slcD d lo hi = some r) : evE P cf (.slc x l u) env st = .ok r st3 := by
  show bnd (evE P cf x env) (fun x => bnd (evO P cf l env) fun l => bnd (evO P cf u env) fun h => bnd (vw x) fun x => opt (slcD x l h)) st = _
  rw [bnd_ok h, bnd_ok h2, bnd_ok h3, bnd_ok (congrFun (vw_nr hv) _), hc]; rfl
theorem ev_bif1V {k : Bi} {x : PD.X} {d d' r : D} (h : evE P cf x env st = .ok d st1) (hv : vw d st1 = .ok d' st1) (hb : biD k [d'] = some r) : evE P cf (.bif k (.cons x .nil)) env st = .ok r st1 := by
  show bnd (bnd (evE P cf x env) fun d => bnd (ret []) fun ds => ret (d :: ds)) (fun ds => bnd (vws ds) fun ds => opt (biD k ds)) st = _
  rw [bnd2 h]
  have : view st1 d = d' := (Res.ok.inj hv).1
  show opt (biD k [view st1 d]) st1 = _
  rw [this, hb]; rfl
theorem ev_bif1S {k : Bi} {x : PD.X} {d r : D} (h : evE P cf x env st = .ok d st1) (hv : NR d) (hb : biD k [d] = some r) : evE P cf (.bif k (.cons x .nil)) env st = .ok r st1 := ev_bif1V h (congrFun (vw_nr hv) _) hb
theorem ev_bif2S {k : Bi} {x y : PD.X} {i j : Int} {r : D} (h : evE P cf x env st = .ok (.int i) st1) (h2 : evE P cf y env st1 = .ok (.int j) st2) (hb : biD k [.int i, .int j] = some r) : evE P cf (.bif k (.cons x (.cons y .nil))) env st = .ok r st2 := by
  show bnd (bnd (evE P cf x env) fun d => bnd (bnd (evE P cf y env) fun d => bnd (ret []) fun ds => ret (d :: ds)) fun ds => ret (d :: ds)) (fun ds => bnd (vws ds) fun ds => opt (biD k ds)) st = _
  have e2 : bnd (bnd (evE P cf y env) fun d => bnd (ret []) fun ds => ret (d :: ds)) (fun ds => ret (D.int i :: ds)) st1 = .ok [.int i, .int j] st2 := by
    rw [bnd2 h2]; rfl
  rw [bnd2 h, bnd_ok e2]
  show opt (biD k [.int i, .int j]) st2 = _
  rw [hb]; rfl
theorem ev_notS {x : PD.X} {b : Bool} (h : evE P cf x env st = .ok (.bl b) st1) : evE P cf (.not_ x) env st = .ok (.bl (!b)) st1 := by
  show bnd (bnd (evE P cf x env) blD) _ st = _
  rw [bnd2 h]; rfl
theorem ev_andF {a b r : PD.X} (h : evE P cf a env st = .ok (.bl false) st1) : evE P cf (.and_ (.cons a (.cons b r))) env st = .ok (.bl false) st1 := by
  show bnd (bnd (evE P cf a env) blD) (fun c => if c then evAnd P cf (.cons b r) env else ret (.bl false)) st = _
  rw [bnd2 h]; rfl
theorem ev_andT {a b r : PD.X} (h : evE P cf a env st = .ok (.bl true) st1) : evE P cf (.and_ (.cons a (.cons b r))) env st = evE P cf (.and_ (.cons b r)) env st1 := by
  show bnd (bnd (evE P cf a env) blD) (fun c => if c then evAnd P cf (.cons b r) env else ret (.bl false)) st = _
  rw [bnd2 h]; rfl
theorem ev_and1 {a : PD.X} : evE P cf (.and_ (.cons a .nil)) env = evE P cf a env := rfl
theorem ev_and2T {a b : PD.X} {r : Res D} (h : evE P cf a env st = .ok (.bl true) st1) (h2 : evE P cf b env st1 = r) : evE P cf (.and_ (.cons a (.cons b .nil))) env st = r := (ev_andT h).trans h2
theorem ev_orT {a b r : PD.X} (h : evE P cf a env st = .ok (.bl true) st1) : evE P cf (.or_ (.cons a (.cons b r))) env st = .ok (.bl true) st1 := by
  show bnd (bnd (evE P cf a env) blD) (fun c => if c then ret (.bl true) else evOr P cf (.cons b r) env) st = _
  rw [bnd2 h]; rfl
theorem ev_orF {a b r : PD.X} (h : evE P cf a env st = .ok (.bl false) st1) : evE P cf (.or_ (.cons a (.cons b r))) env st = evE P cf (.or_ (.cons b r)) env st1 := by
  show bnd (bnd (evE P cf a env) blD) (fun c => if c then ret (.bl true) else evOr P cf (.cons b r) env) st = _
  rw [bnd2 h]; rfl
theorem ev_or1 {a : PD.X} : evE P cf (.or_ (.cons a .nil)) env = evE P cf a env := rfl
theorem ev_or2F {a b : PD.X} {r : Res D} (h : evE P cf a env st = .ok (.bl false) st1) (h2 : evE P cf b env st1 = r) : evE P cf (.or_ (.cons a (.cons b .nil))) env st = r := (ev_orF h).trans h2
theorem ev_leleS {e1 e2 e3 : PD.X} {i lo hi : Int} (h1 : evE P cf e1 env st = .ok (.int lo) st) (h2 : evE P cf e2 env st = .ok (.int i) st) (h3 : evE P cf e3 env st = .ok (.int hi) st) : evE P cf (.cmp2 .le .le e1 e2 e3) env st = .ok (.bl (decide (lo ≤ i) && decide (i ≤ hi))) st := by
  show bnd (evE P cf e1 env) (fun x => bnd (evE P cf e2 env) fun y => bnd (opt (cmpD .le x y)) fun r =>
      if r then bnd (evE P cf e3 env) fun z => bnd (opt (cmpD .le y z)) fun r => ret (D.bl r) else ret (D.bl false)) st = _
  rw [bnd_ok h1, bnd_ok h2]
  show (if decide (lo ≤ i) then bnd (evE P cf e3 env) fun z => bnd (opt (cmpD .le (.int i) z)) fun r => ret (D.bl r) else ret (.bl false)) st = _
  cases decide (lo ≤ i) with
  | false => rfl
  | true =>
    rw [if_pos rfl, bnd_ok h3]; rfl
theorem ev_joinS {s e : PD.X} {a : Str} {ds : List D} {ys : List Str} (h : evE P cf s env st = .ok (.str a) st1) (h2 : evE P cf e env st1 = .ok (.lst ds) st2) (hd : dStrs ds = some ys) (hl : (ys.map fun (y : Str) => y.length).sum + ys.length * a.length ≤ LIM) : evE P cf (.join s e) env st = .ok (.str (Txt.join a ys)) st2 := by
  show bnd (evE P cf s env) (fun x => bnd (evE P cf e env) fun y => match x, y with
    | .str a, .lst ds => (match dStrs ds with
      | some ys => if (ys.map fun (y : Str) => y.length).sum + ys.length * a.length ≤ LIM then ret (D.str (Txt.join a ys)) else fail
      | none => fail)
    | _, _ => fail) st = _
  rw [bnd_ok h, bnd_ok h2]
  show (match dStrs ds with
      | some ys => if (ys.map fun (y : Str) => y.length).sum + ys.length * a.length ≤ LIM then ret (D.str (Txt.join a ys)) else fail
      | none => fail) st2 = _
  rw [hd]
  show (if (ys.map fun (y : Str) => y.length).sum + ys.length * a.length ≤ LIM then ret (D.str (Txt.join a ys)) else fail) st2 = _
  rw [if_pos hl]; rfl
theorem ev_upperS {e : PD.X} {a : Str} (h : evE P cf e env st = .ok (.str a) st1) (hl : a.length ≤ LIM) : evE P cf (.upper e) env st = .ok (.str (Txt.upper a)) st1 := by
  show bnd (evE P cf e env) (fun x => match x with
    | .str a => if a.length ≤ LIM then ret (D.str (Txt.upper a)) else fail
    | _ => fail) st = _
  rw [bnd_ok h]
  show (if a.length ≤ LIM then ret (D.str (Txt.upper a)) else fail) st1 = _
  rw [if_pos hl]; rfl
theorem ev_isxS {c : Nat} {cs : List Nat} {e : PD.X} {k : Nat} {v : D} (h : evE P cf e env st = .ok (.err k v) st1) (hc : cs.contains k = true) : evE P cf (.isx c cs e) env st = .ok (.bl (k == c)) st1 := by
  show bnd (evE P cf e env) (fun x => match x with
    | .err c' _ => if cs.contains c' then ret (D.bl (c' == c)) else fail
    | _ => fail) st = _
  rw [bnd_ok h]
  show (if cs.contains k then ret (D.bl (k == c)) else fail) st1 = _
  rw [if_pos hc]; rfl
theorem ev_exvS {cs : List Nat} {e : PD.X} {k : Nat} {v : D} (h : evE P cf e env st = .ok (.err k v) st1) (hc : cs.contains k = true) : evE P cf (.exv cs e) env st = .ok v st1 := by
  show bnd (evE P cf e env) (fun x => match x with
    | .err c v => if cs.contains c then ret v else fail
    | _ => fail) st = _
  rw [bnd_ok h]
  show (if cs.contains k then ret v else fail) st1 = _
  rw [if_pos hc]; rfl
theorem ev_dictOfS {e : PD.X} {ds : List D} {kvs : List (D × D)} (h : evE P cf e env st = .ok (.lst ds) st1) (hl : ds.length ≤ LIM) (hd : dOf ds [] = some kvs) : evE P cf (.dictOf e) env st = .ok (.dct kvs) st1 := by
  show bnd (evE P cf e env) (fun x => match x with
    | .lst ds => if ds.length ≤ LIM then bnd (opt (dOf ds [])) fun kvs => ret (D.dct kvs) else fail
    | _ => fail) st = _
  rw [bnd_ok h]
  show (if ds.length ≤ LIM then bnd (opt (dOf ds [])) fun kvs => ret (D.dct kvs) else fail) st1 = _
  rw [if_pos hl, hd]; rfl
theorem ev_forS {tg it b : PD.X} {ds : List D} {r : Res Out} (hi : evIt P cf it env st = .ok ds st1) (hf : forL (fun d e => match bindT tg d e with
      | some e => evB P cf b e
      | none => fail) ds env st1 = r) : evS P cf (.for_ tg it b) env st = r := by
  show bnd (evIt P cf it env) _ st = _
  rw [bnd_ok hi]
  exact hf
theorem callRt {n f : Nat} {fd : FD} {ds : List D} {d : D} (hf : P.fn f = fd) (hl : ds.length = fd.np) (he : ds.map Sl.v ++ List.replicate (fd.ns - fd.np) .no = env) (h : evB P (callN P n) fd.body env st = .ok (.rt d) st1) : callN P (n + 1) f ds st = .ok d st1 := by
  subst hf he
  exact runF_rtS hl h
theorem callNx {n f : Nat} {fd : FD} {ds : List D} (hf : P.fn f = fd) (hl : ds.length = fd.np) (he : ds.map Sl.v ++ List.replicate (fd.ns - fd.np) .no = env) (h : evB P (callN P n) fd.body env st = .ok (.nx env') st1) : callN P (n + 1) f ds st = .ok .non st1 := by
  subst hf he
  exact runF_nxS hl h
theorem callExc {n f c : Nat} {fd : FD} {ds : List D} {d : D} (hf : P.fn f = fd) (hl : ds.length = fd.np) (he : ds.map Sl.v ++ List.replicate (fd.ns - fd.np) .no = env) (h : evB P (callN P n) fd.body env st = .exc c d st1) : callN P (n + 1) f ds st = .exc c d st1 := by
  subst hf he
  exact runF_excS hl h
/-! lists, dicts, loops -/
theorem mapL_mapS {α : Type} {f : D → M (Option D)} (e : α → D) (g : α → Option D) {as : List α} (h : ∀ a ∈ as, f (e a) st = .ok (g a) st) : mapL f (as.map e) st = .ok (as.filterMap g) st := by
  induction as with
  | nil => rfl
  | cons a as ih =>
    show bnd (f (e a)) _ st = _
    rw [bnd_ok (h a (List.mem_cons_self ..))]
    show bnd (mapL f (as.map e)) _ st = _
    rw [bnd_ok (ih fun x hx => h x (List.mem_cons_of_mem _ hx))]
    simp only [List.filterMap_cons]
    cases g a <;> rfl
theorem ev_lcS {α : Type} {own : List Nat} {tg it t elt : PD.X} {as : List α} (e : α → D) (g : α → Option D) (hi : evIt P cf it env st = .ok (as.map e) st) (hl : as.length ≤ LIM)
    (h : ∀ a ∈ as, (match bindT tg (e a) (PD.wipe env own) with
        | some e => bnd (bnd (evE P cf t e) blD) fun c => if c then bnd (evE P cf elt e) fun y => ret (some y) else ret none
        | none => fail) st = .ok (g a) st) : evE P cf (.lc own tg it t elt) env st = .ok (.lst (as.filterMap g)) st := by
  show bnd (evIt P cf it env) _ st = _
  rw [bnd_ok hi]
  rw [if_pos (by rw [List.length_map]; exact hl), bnd_ok (mapL_mapS e g h)]
  rfl
/-- [elt for .. if t], the test's and the item's value told -/
theorem ev_lcP {α : Type} {own : List Nat} {tg it t elt : PD.X} {as : List α} (e : α → D) (p : α → Bool) (v : α → D) (hi : evIt P cf it env st = .ok (as.map e) st) (hl : as.length ≤ LIM)
    (h : ∀ a ∈ as, ∃ e1, bindT tg (e a) (PD.wipe env own) = some e1 ∧ evE P cf t e1 st = .ok (.bl (p a)) st ∧ (p a = true → evE P cf elt e1 st = .ok (v a) st)) : evE P cf (.lc own tg it t elt) env st = .ok (.lst ((as.filter p).map v)) st := by
  have : (as.filter p).map v = as.filterMap fun a => if p a then some (v a) else none := by
    clear h hl hi
    induction as with
    | nil => rfl
    | cons a as ih =>
      rw [List.filter_cons, List.filterMap_cons]
      cases p a
      · simpa using ih
      · simpa using ih
  rw [this]
  refine ev_lcS e _ hi hl fun a ha => ?_
  obtain ⟨e1, h1, h2, h3⟩ := h a ha
  rw [h1]
  show bnd (bnd (evE P cf t e1) blD) _ st = _
  rw [bnd2 h2]
  cases hp : p a with
  | false => rfl
  | true =>
    show bnd (evE P cf elt e1) (fun y => ret (some y)) st = _
    rw [bnd_ok (h3 hp)]; rfl
theorem ev_lcA {α : Type} {own : List Nat} {tg it elt : PD.X} {as : List α} (e : α → D) (v : α → D) (hi : evIt P cf it env st = .ok (as.map e) st) (hl : as.length ≤ LIM)
    (h : ∀ a ∈ as, ∃ e1, bindT tg (e a) (PD.wipe env own) = some e1 ∧ evE P cf elt e1 st = .ok (v a) st) : evE P cf (.lc own tg it (.lit (.bl true)) elt) env st = .ok (.lst (as.map v)) st := by
  have := ev_lcP (own := own) (tg := tg) (it := it) (t := .lit (.bl true)) (elt := elt) e (fun _ => true) v hi hl fun a ha => by
    obtain ⟨e1, h1, h2⟩ := h a ha
    exact ⟨e1, h1, rfl, fun _ => h2⟩
  rwa [List.filter_eq_self.mpr (fun _ _ => rfl)] at this
theorem ev_allS {x : PD.X} {bs : List Bool} (h : evE P cf x env st = .ok (.lst (bs.map .bl)) st1) : evE P cf (.bif .all (.cons x .nil)) env st = .ok (.bl (bs.all id)) st1 := by
  refine ev_bif1S h nr_lst ?_
  have : dBools (bs.map D.bl) = some bs := by
    clear h
    induction bs with
    | nil => rfl
    | cons b bs ih =>
      show (dBools (bs.map D.bl)).map (b :: ·) = _
      rw [ih]; rfl
  show (dBools (bs.map D.bl)).map (fun bs => D.bl (bs.all id)) = _
  rw [this]; rfl
/-- entries with texts as keys -/
def sk (L : List (Str × D)) : List (D × D) := L.map fun p => (.str p.1, p.2)
theorem findK_sk (s : Str) : ∀ L : List (Str × D), findK (.str s) (sk L) = (L.find? fun p => p.1 == s).map (·.2)
  | [] => rfl
  | (k, v) :: r => by
    show (if (k == s) then some v else findK (.str s) (sk r)) = _
    rw [findK_sk s r, List.find?_cons]
    cases (k == s) <;> rfl
theorem findK_sk_none {s : Str} {L : List (Str × D)} (h : s ∉ L.map (·.1)) : findK (.str s) (sk L) = none := by
  rw [findK_sk, List.find?_eq_none.mpr fun p hp => ?_]
  · rfl
  · simp only [beq_iff_eq]
    exact fun e => h (e ▸ List.mem_map_of_mem hp)
theorem headStr_sk (L : List (Str × D)) : headStr (sk L) = true := by
  cases L <;> rfl
theorem dcL_map {α : Type} {f : D → M (Option (D × D))} (e : α → D) (k : α → Str) (v : α → D) (p : α → Bool) : ∀ (as : List α) (L : List (Str × D)), (∀ a ∈ as, f (e a) st = .ok (if p a then some (.str (k a), v a) else none) st) → (L.map (·.1) ++ (as.filter p).map k).Nodup →
    dcL f (as.map e) (sk L) st = .ok (sk (L ++ (as.filter p).map fun a => (k a, v a))) st
  | [], L, _, _ => by simp only [List.map_nil, List.filter_nil, List.append_nil]; rfl
  | a :: as, L, h, hn => by
    show bnd (f (e a)) (fun r => match r with
      | some (k, v) => if isStrK k && (findK k (sk L)).isNone then dcL f (as.map e) (sk L ++ [(k, v)]) else fail
      | none => dcL f (as.map e) (sk L)) st = _
    rw [bnd_ok (h a (List.mem_cons_self ..))]
    rw [List.filter_cons] at hn ⊢
    cases hp : p a with
    | false =>
      rw [hp] at hn
      simp only [Bool.false_eq_true, if_false] at hn ⊢
      exact dcL_map e k v p as L (fun b hb => h b (List.mem_cons_of_mem _ hb)) hn
    | true =>
      rw [hp] at hn
      simp only [if_true, List.map_cons] at hn ⊢
      have nk : k a ∉ L.map (·.1) := fun z => (List.nodup_append.mp hn).2.2 _ z _ (List.mem_cons_self ..) rfl
      rw [findK_sk_none nk]
      show dcL f (as.map e) (sk L ++ [(.str (k a), v a)]) st = _
      have e1 : sk L ++ [(D.str (k a), v a)] = sk (L ++ [(k a, v a)]) := by unfold sk; rw [List.map_append]; rfl
      rw [e1, dcL_map e k v p as (L ++ [(k a, v a)]) (fun b hb => h b (List.mem_cons_of_mem _ hb)) (by rw [List.map_append, List.append_assoc]; exact hn)]
      rw [List.append_assoc]; rfl
theorem ev_dcP {α : Type} {own : List Nat} {tg it t kx elt : PD.X} {as : List α} (e : α → D) (p : α → Bool) (k : α → Str) (v : α → D) (hi : evIt P cf it env st = .ok (as.map e) st) (hl : as.length ≤ LIM) (hn : ((as.filter p).map k).Nodup)
    (h : ∀ a ∈ as, ∃ e1, bindT tg (e a) (PD.wipe env own) = some e1 ∧ evE P cf t e1 st = .ok (.bl (p a)) st ∧ (p a = true → evE P cf kx e1 st = .ok (.str (k a)) st ∧ evE P cf elt e1 st = .ok (v a) st)) : evE P cf (.dcomp own tg it t kx elt) env st = .ok (.dct (sk ((as.filter p).map fun a => (k a, v a)))) st := by
  show bnd (evIt P cf it env) _ st = _
  rw [bnd_ok hi]
  rw [if_pos (by rw [List.length_map]; exact hl)]
  have := dcL_map (f := fun d => match bindT tg d (wipe env own) with
        | some e => bnd (bnd (evE P cf t e) blD) fun c => if c then bnd (evE P cf kx e) fun x => bnd (evE P cf elt e) fun y => ret (some (x, y)) else ret none
        | none => fail) e k v p as [] (fun a ha => by
    obtain ⟨e1, h1, h2, h3⟩ := h a ha
    rw [h1]
    show bnd (bnd (evE P cf t e1) blD) _ st = _
    rw [bnd2 h2]
    cases hp : p a with
    | false => rfl
    | true =>
      obtain ⟨h4, h5⟩ := h3 hp
      show bnd (evE P cf kx e1) (fun x => bnd (evE P cf elt e1) fun y => ret (some (x, y))) st = _
      rw [bnd_ok h4, bnd_ok h5]; rfl) (by simpa using hn)
  rw [List.nil_append] at this
  exact (bnd_ok (f := fun kvs => ret (D.dct kvs)) this).trans rfl
theorem dOf_map {α : Type} (k : α → Str) (v : α → D) : ∀ (as : List α) (L : List (Str × D)), (L.map (·.1) ++ as.map k).Nodup → dOf (as.map fun a => .tup [.str (k a), v a]) (sk L) = some (sk (L ++ as.map fun a => (k a, v a)))
  | [], L, _ => by simp only [List.map_nil, List.append_nil]; rfl
  | a :: as, L, hn => by
    have nk : k a ∉ L.map (·.1) := fun z => (List.nodup_append.mp hn).2.2 _ z _ (List.mem_cons_self ..) rfl
    show (if (findK (.str (k a)) (sk L)).isNone then dOf (as.map fun a => .tup [.str (k a), v a]) (sk L ++ [(.str (k a), v a)]) else none) = _
    rw [findK_sk_none nk]
    have e1 : sk L ++ [(D.str (k a), v a)] = sk (L ++ [(k a, v a)]) := by unfold sk; rw [List.map_append]; rfl
    show dOf (as.map fun a => .tup [.str (k a), v a]) (sk L ++ [(.str (k a), v a)]) = _
    rw [e1, dOf_map k v as (L ++ [(k a, v a)]) (by rw [List.map_append, List.append_assoc]; exact hn), List.append_assoc]; rfl
theorem forL_nil {f : D → PD.Env → M Out} : forL f [] env st = .ok (.nx env) st := rfl
theorem forL_invB {f : D → PD.Env → M Out} (I : Nat → PD.Env → Store → Prop) (n : Nat) : ∀ (ds : List D) (i : Nat) (env : PD.Env) (st : Store), i + ds.length ≤ n → I i env st → (∀ i d env st, i < n → d ∈ ds → I i env st → ∃ env' st', I (i + 1) env' st' ∧ f d env st = .ok (.nx env') st') → ∃ env' st', I (i + ds.length) env' st' ∧ forL f ds env st = .ok (.nx env') st'
  | [], i, env, st, _, h, _ => ⟨env, st, h, rfl⟩
  | d :: ds, i, env, st, hn, h, hf => by
    have hn' : i + 1 + ds.length ≤ n := by rw [List.length_cons] at hn; omega
    obtain ⟨e1, s1, h1, h2⟩ := hf i d env st (by omega) (List.mem_cons_self ..) h
    obtain ⟨e2, s2, h3, h4⟩ := forL_invB I n ds (i + 1) e1 s1 hn' h1 fun i d' env st hi hd => hf i d' env st hi (List.mem_cons_of_mem _ hd)
    refine ⟨e2, s2, by rw [List.length_cons, Nat.add_comm ds.length 1, ← Nat.add_assoc]; exact h3, ?_⟩
    show bnd (f d env) _ st = _
    rw [bnd_ok h2]
    exact h4
/-- a for over a list whose k-th item is known -/
theorem forL_at {f : D → PD.Env → M Out} (I : Nat → PD.Env → Store → Prop) : ∀ (ds : List D) (i : Nat) (env : PD.Env) (st : Store), I i env st → (∀ (j : Nat) (d : D) (env : PD.Env) (st : Store), ds[j]? = some d → I (i + j) env st → ∃ env' st', I (i + j + 1) env' st' ∧ f d env st = .ok (.nx env') st') → ∃ env' st', I (i + ds.length) env' st' ∧ forL f ds env st = .ok (.nx env') st'
  | [], i, env, st, h, _ => ⟨env, st, h, rfl⟩
  | d :: ds, i, env, st, h, hf => by
    obtain ⟨e1, s1, h1, h2⟩ := hf 0 d env st rfl h
    obtain ⟨e2, s2, h3, h4⟩ := forL_at I ds (i + 1) e1 s1 h1 fun j d' env st hd hI => by
      have hI' : I (i + (j + 1)) env st := by rw [show i + (j + 1) = i + 1 + j by omega]; exact hI
      obtain ⟨e', s', h5, h6⟩ := hf (j + 1) d' env st (by simpa using hd) hI'
      exact ⟨e', s', by rw [show i + 1 + j + 1 = i + (j + 1) + 1 by omega]; exact h5, h6⟩
    refine ⟨e2, s2, by rw [List.length_cons, Nat.add_comm ds.length 1, ← Nat.add_assoc]; exact h3, ?_⟩
    show bnd (f d env) _ st = _
    rw [bnd_ok h2]
    exact h4
theorem mapL_inv {f : D → M (Option D)} (I : Nat → List D → Store → Prop) : ∀ (ds : List D) (i : Nat) (acc : List D) (st : Store), I i acc st → (∀ i d acc st, d ∈ ds → I i acc st → ∃ x st', I (i + 1) (acc ++ [x]) st' ∧ f d st = .ok (some x) st') → ∃ xs st', I (i + ds.length) (acc ++ xs) st' ∧ mapL f ds st = .ok xs st'
  | [], i, acc, st, h, _ => ⟨[], st, by rw [List.append_nil]; exact h, rfl⟩
  | d :: ds, i, acc, st, h, hf => by
    obtain ⟨x, s1, h1, h2⟩ := hf i d acc st (List.mem_cons_self ..) h
    obtain ⟨xs, s2, h3, h4⟩ := mapL_inv I ds (i + 1) (acc ++ [x]) s1 h1 fun i d' acc st hd => hf i d' acc st (List.mem_cons_of_mem _ hd)
    refine ⟨x :: xs, s2, by rw [List.length_cons, Nat.add_comm ds.length 1, ← Nat.add_assoc]; rw [List.append_assoc] at h3; exact h3, ?_⟩
    show bnd (f d) _ st = _
    rw [bnd_ok h2]
    show bnd (mapL f ds) _ s1 = _
    rw [bnd_ok h4]; rfl
end
/-! texts -/
def cl (s : Str) : List Nat := s.cps.toList
def asc (s : Str) : Bool := (cl s).all fun c => decide (c < 1114112)
theorem cl_app (a b : Str) : cl (a ++ b) = cl a ++ cl b := by
  show (a.cps ++ b.cps).toList = _
  rw [Array.toList_append]; rfl
theorem cl_inj {a b : Str} (h : cl a = cl b) : a = b := by
  obtain ⟨a⟩ := a
  obtain ⟨b⟩ := b
  have : a = b := Array.toList_inj.mp h
  rw [this]
theorem cl_len (s : Str) : (cl s).length = s.length := by simp [cl, Str.length]
theorem asc_app {a b : Str} (h : asc a = true) (h2 : asc b = true) : asc (a ++ b) = true := by
  unfold asc
  rw [cl_app, List.all_append]
  unfold asc at h h2
  rw [h, h2]; rfl
theorem asc_join : ∀ ts : List Str, (∀ t ∈ ts, asc t = true) → asc (Str.join ", " ts) = true
  | [], _ => by decide +kernel
  | [t], h => h t (List.mem_cons_self ..)
  | t :: u :: r, h => by
    show asc (t ++ ", " ++ Str.join ", " (u :: r)) = true
    exact asc_app (asc_app (h t (List.mem_cons_self ..)) (by decide +kernel)) (asc_join (u :: r) fun x hx => h x (List.mem_cons_of_mem _ hx))
theorem asc_tuple (ts : List Str) (h : ∀ t ∈ ts, asc t = true) : asc (tupleText ts) = true := by
  unfold tupleText
  refine asc_app (asc_app (by decide +kernel) (asc_join ts h)) ?_
  split <;> decide +kernel
theorem asc_eqOk {s : Str} (h : asc s = true) : (D.str s).eqOk = true := by
  have h' : s.cps.all (fun c => decide (c < 1114112)) = true := by
    rw [← Array.all_toList]; exact h
  unfold D.eqOk
  simp only [D.plain, D.depth, h', Bool.true_and]
  rfl
theorem asc_dict (ts : List Str) (h : ∀ t ∈ ts, asc t = true) : asc (dictText ts) = true := by
  unfold dictText
  exact asc_app (asc_app (by decide +kernel) (asc_join ts h)) (by decide +kernel)
theorem asc_ofString (s : String) : asc (Str.ofString s) = true := by
  unfold asc cl
  rw [List.all_eq_true]
  intro c hc
  have h1 : (Str.ofString s).cps.toList = s.toList.map Char.toNat := by rw [Str.ofString_eq_toList]
  rw [h1] at hc
  obtain ⟨ch, _, rfl⟩ := List.mem_map.mp hc
  have := ch.valid
  simp only [decide_eq_true_eq]
  show ch.val.toNat < 1114112
  rcases this with h | h
  · have : ch.val.toNat < 55296 := h
    omega
  · exact h.2
end PD
end ZPM
section ZPM2
set_option Elab.async false
set_option linter.all false
set_option maxRecDepth 100000
set_option maxHeartbeats 400000
namespace PD
open PySem
/-! the text of a datum -/
theorem asc_mk {l : List Nat} (h : ∀ c ∈ l, c < 1114112) : asc ⟨l.toArray⟩ = true := by
  unfold asc cl
  rw [List.all_eq_true]
  intro c hc
  simp only [decide_eq_true_eq]
  exact h c (by simpa using hc)
theorem char_lt (c : Char) : c.toNat < 1114112 := by
  rcases c.valid with h | h
  · have : c.val.toNat < 55296 := h
    show c.val.toNat < _
    omega
  · exact h.2
theorem hex_lt (k c : Nat) : ∀ x ∈ List.replicate k 48 ++ (Nat.toDigits 16 c).map Char.toNat, x < 1114112 := fun x hx => by
  rcases List.mem_append.mp hx with h | h
  · rw [List.eq_of_mem_replicate h]; omega
  · obtain ⟨ch, _, rfl⟩ := List.mem_map.mp h
    exact char_lt ch
theorem reprChar_lt (q c : Nat) (hq : q < 1114112) (hc : c < 1114112) : ∀ x ∈ Builtin.Str.reprChar q c, x < 1114112 := fun x hx => by
  unfold Builtin.Str.reprChar at hx
  have two : ∀ a b : Nat, a < 1114112 → b < 1114112 → ∀ l : List Nat, (∀ y ∈ l, y < 1114112) → ∀ y ∈ [a, b] ++ l, y < 1114112 := fun a b ha hb l hl y hy => by
    rcases List.mem_append.mp hy with h | h
    · simp only [List.mem_cons, List.not_mem_nil, or_false] at h
      rcases h with rfl | rfl <;> assumption
    · exact hl y h
  have two' : ∀ a b : Nat, a < 1114112 → b < 1114112 → ∀ y ∈ [a, b], y < 1114112 := fun a b ha hb y hy => two a b ha hb [] (fun _ h => nomatch h) y (by simpa using hy)
  dsimp only at hx
  split at hx
  · exact two' 92 c (by omega) hc x hx
  · split at hx
    · exact two' 92 110 (by omega) (by omega) x hx
    · split at hx
      · exact two' 92 114 (by omega) (by omega) x hx
      · split at hx
        · exact two' 92 116 (by omega) (by omega) x hx
        · split at hx
          · rw [List.mem_singleton.mp hx]; exact hc
          · split at hx
            · exact two 92 120 (by omega) (by omega) _ (hex_lt _ _) x hx
            · split at hx
              · exact two 92 117 (by omega) (by omega) _ (hex_lt _ _) x hx
              · exact two 92 85 (by omega) (by omega) _ (hex_lt _ _) x hx
theorem repr_fold (q : Nat) (hq : q < 1114112) : ∀ (l : List Nat) (acc : Array Nat), (∀ c ∈ l, c < 1114112) → (∀ c ∈ acc.toList, c < 1114112) → ∀ c ∈ (l.foldl (fun out c => out ++ (Builtin.Str.reprChar q c).toArray) acc).toList, c < 1114112
  | [], acc, _, h => h
  | c :: l, acc, hl, h => by
    rw [List.foldl_cons]
    refine repr_fold q hq l _ (fun x hx => hl x (List.mem_cons_of_mem _ hx)) fun x hx => ?_
    rw [Array.toList_append] at hx
    rcases List.mem_append.mp hx with h1 | h1
    · exact h x h1
    · exact reprChar_lt q c hq (hl c (List.mem_cons_self ..)) x (by simpa using h1)
theorem asc_repr {x : Str} (h : asc x = true) : asc (reprText x) = true := by
  have hx : ∀ c ∈ x.cps.toList, c < 1114112 := fun c hc => by
    have := List.all_eq_true.mp h c hc
    simpa using this
  have hq : reprQuote x < 1114112 := by
    unfold reprQuote
    split <;> omega
  unfold asc cl reprText
  rw [List.all_eq_true]
  intro c hc
  simp only [decide_eq_true_eq]
  rw [Array.toList_push, ← Array.foldl_toList] at hc
  rcases List.mem_append.mp hc with h1 | h1
  · refine repr_fold _ hq _ _ hx (fun d hd => ?_) c h1
    simp at hd
    omega
  · rw [List.mem_singleton.mp h1]; exact hq
theorem asc_from : ∀ (ts : List Str) (k : Nat) (acc : Str), asc acc = true → (∀ t ∈ ts, asc t = true) → asc (textFrom k acc ts) = true
  | [], _, _, h, _ => h
  | t :: ts, k, acc, h, ht => by
    have h1 := ht t (List.mem_cons_self ..)
    have h2 : ∀ u ∈ ts, asc u = true := fun u hu => ht u (List.mem_cons_of_mem _ hu)
    unfold textFrom
    refine asc_from ts _ _ (asc_app (asc_app h ?_) h1) h2
    split <;> decide +kernel
theorem asc_list (ts : List Str) (h : ∀ t ∈ ts, asc t = true) : asc (listText ts) = true := by
  unfold listText
  exact asc_app (asc_from ts 0 "[" (by decide +kernel) h) (by decide +kernel)
mutual
theorem asc_shown : ∀ d : D, d.shw = true → asc d.pd.shown = true
  | .non, _ => by simp only [D.pd, PyData.shown]; decide +kernel
  | .bl b, _ => by cases b <;> (simp only [D.pd, PyData.shown]; decide +kernel)
  | .int i, _ => by simp only [D.pd, PyData.shown]; exact asc_ofString _
  | .str x, h => by
    simp only [D.pd, PyData.shown]
    refine asc_repr ?_
    simp only [D.shw] at h
    rw [← Array.all_toList] at h
    exact h
  | .tup ds, h => by
    simp only [D.pd, PyData.shown]
    simp only [D.shw] at h
    exact asc_tuple _ (asc_showns ds h)
  | .lst ds, h => by
    simp only [D.pd, PyData.shown]
    simp only [D.shw] at h
    exact asc_list _ (asc_showns ds h)
  | .dct kvs, h => by
    simp only [D.pd, PyData.shown]
    simp only [D.shw] at h
    exact asc_dict _ (asc_shownk kvs h)
  | .ref _, h | .scr _, h | .err _ _, h => by simp [D.shw] at h
theorem asc_showns : ∀ ds : List D, D.shws ds = true → ∀ t ∈ PyData.shownAll (D.pds ds), asc t = true
  | [], _, t, ht => by simp only [D.pds, PyData.shownAll] at ht; exact nomatch ht
  | d :: ds, h, t, ht => by
    simp only [D.shws, Bool.and_eq_true] at h
    simp only [D.pds, PyData.shownAll, List.mem_cons] at ht
    rcases ht with rfl | ht
    · exact asc_shown d h.1
    · exact asc_showns ds h.2 t ht
theorem asc_shownk : ∀ kvs : List (D × D), D.shwk kvs = true → ∀ t ∈ PyData.shownKv (D.pdk kvs), asc t = true
  | [], _, t, ht => by simp only [D.pdk, PyData.shownKv] at ht; exact nomatch ht
  | (k, d) :: r, h, t, ht => by
    simp only [D.shwk, Bool.and_eq_true] at h
    obtain ⟨⟨⟨_, h1⟩, h2⟩, h3⟩ := h
    simp only [D.pdk, PyData.shownKv, List.mem_cons] at ht
    rcases ht with rfl | ht
    · exact asc_app (asc_app (asc_shown k h1) (by decide +kernel)) (asc_shown d h2)
    · exact asc_shownk r h3 t ht
end
/-- may be shown, to some depth and length -/
structure Shw (k m : Nat) (d : D) : Prop where
  shw : d.shw = true
  depth : d.pd.depth ≤ k
  shl : d.shl ≤ m
theorem Shw.mono {k m k' m' : Nat} {d : D} (h : Shw k m d) (hk : k ≤ k') (hm : m ≤ m') : Shw k' m' d := ⟨h.shw, Nat.le_trans h.depth hk, Nat.le_trans h.shl hm⟩
theorem Shw.nr {k m : Nat} {d : D} (h : Shw k m d) : NR d := fun i e => by subst e; exact nomatch h.shw
theorem Shw.bi {k m : Nat} {d : D} (h : Shw k m d) (hk : k ≤ 60) (hm : m ≤ LIM) : biD .reprA [d] = some (.str d.pd.shown) := by
  show (if d.shw && decide (d.pd.depth ≤ 60) && decide (d.shl ≤ LIM) then some (D.str d.pd.shown) else none) = _
  rw [h.shw, decide_eq_true (Nat.le_trans h.depth hk), decide_eq_true (Nat.le_trans h.shl hm)]; rfl
theorem shw_seq {k m : Nat} : ∀ {ds : List D}, (∀ d ∈ ds, Shw k m d) → D.shws ds = true ∧ PyData.depthAll (D.pds ds) ≤ k ∧ D.shls ds ≤ ds.length * (m + 2)
  | [], _ => ⟨rfl, by simp only [D.pds, PyData.depthAll]; omega, by simp [D.shls]⟩
  | d :: ds, h => by
    obtain ⟨h1, h2, h3⟩ := shw_seq (ds := ds) fun x hx => h x (List.mem_cons_of_mem _ hx)
    have h0 := h d (List.mem_cons_self ..)
    refine ⟨by simp only [D.shws, h0.shw, h1]; rfl, ?_, ?_⟩
    · have := h0.depth
      simp only [D.pds, PyData.depthAll]; omega
    · have := h0.shl
      simp only [D.shls, List.length_cons, Nat.succ_mul]; omega
theorem shw_tup {k m : Nat} {ds : List D} (h : ∀ d ∈ ds, Shw k m d) : Shw (k + 1) (ds.length * (m + 2) + 3) (.tup ds) := by
  obtain ⟨h1, h2, h3⟩ := shw_seq h
  refine ⟨by simp only [D.shw, h1], ?_, ?_⟩
  · simp only [D.pd, PyData.depth]; omega
  · simp only [D.shl]; omega
theorem shw_lst {k m : Nat} {ds : List D} (h : ∀ d ∈ ds, Shw k m d) : Shw (k + 1) (ds.length * (m + 2) + 3) (.lst ds) := by
  obtain ⟨h1, h2, h3⟩ := shw_seq h
  refine ⟨by simp only [D.shw, h1], ?_, ?_⟩
  · simp only [D.pd, PyData.depth]; omega
  · simp only [D.shl]; omega
theorem shw_str {x : Str} (h : asc x = true) : Shw 0 (10 * x.length + 2) (.str x) := by
  refine ⟨?_, by simp only [D.pd, PyData.depth]; omega, by simp only [D.shl]; omega⟩
  simp only [D.shw]
  rw [← Array.all_toList]
  exact h
theorem shw_int {i : Int} (h : i.natAbs.log2 < 1920) : Shw 0 1921 (.int i) := ⟨by simp only [D.shw, decide_eq_true h], by simp only [D.pd, PyData.depth]; omega, by simp only [D.shl]; omega⟩
section
variable {P : Prog} {cf : Calls} {env : PD.Env} {st st1 st2 : Store}
/-- repr(a) != repr(b), both the same -/
theorem ev_sameR {a b : PD.X} {d : D} {k m : Nat} (h : evE P cf a env st = .ok d st1) (h2 : evE P cf b env st1 = .ok d st2) (hs : Shw k m d) (hk : k ≤ 60) (hm : m ≤ LIM) : evE P cf (.cmp .ne (.bif .reprA (.cons a .nil)) (.bif .reprA (.cons b .nil))) env st = .ok (.bl false) st2 := by
  refine ev_cmpS (ev_bif1S h hs.nr (hs.bi hk hm)) (ev_bif1S h2 hs.nr (hs.bi hk hm)) nr_str nr_str ?_
  have e := asc_eqOk (asc_shown d hs.shw)
  show (if (D.str d.pd.shown).eqOk && (D.str d.pd.shown).eqOk then some (!(D.str d.pd.shown).eqv (.str d.pd.shown)) else none) = _
  rw [e]
  show some (!(d.pd.shown == d.pd.shown)) = _
  rw [beq_self_eq_true]; rfl
end
end PD
end ZPM2
section ZK35a
set_option Elab.async false
set_option linter.all false
set_option maxRecDepth 100000
set_option maxHeartbeats 4000000
namespace K35
open PySem PySem.Spec L2 PyProof.Rows PD
def top (i : Nat) : Stmt := PySem.Challenge.pw_doorsleep_k35_nets_of_any_value.main.body.getD i (.Pass ⟨0, 0, 0, 0⟩)
abbrev sM : Stmt := top 34
abbrev sS : Stmt := inClass (top 2) 0
def csE : List Nat := [1]
abbrev s0 : Stmt := top 8
def t0 : PD.X := (.cons (.rt (.and_ (.cons (.bif (.isi .int) (.cons (.var 0) .nil)) (.cons (.not_ (.bif (.isi .bool) (.cons (.var 0) .nil))) .nil))))
  .nil)
abbrev s1 : Stmt := top 9
def t1 : PD.X := (.cons (.rt (.and_ (.cons (.call 0 (.cons (.var 0) .nil)) (.cons (.cmp2 .le .le (.var 1) (.var 0) (.var 2)) .nil))))
  .nil)
abbrev s2 : Stmt := top 10
def t2 : PD.X := (.cons (.rt (.and_ (.cons (.bif (.isi .tuple) (.cons (.var 0) .nil)) (.cons (.cmp2 .le .le (.var 1) (.bif .len (.cons (.var 0) .nil)) (.var 2)) .nil))))
  .nil)
abbrev s3 : Stmt := top 11
def t3 : PD.X := (.cons (.rt (.and_ (.cons (.bif (.isi .str) (.cons (.var 0) .nil)) (.cons (.cmp2 .le .le (.lit (.int 1)) (.bif .len (.cons (.var 0) .nil)) (.glob 1)) (.cons (.bif .all (.cons (.lc [1] (.tv 1) (.sgn (.var 0)) (.lit (.bl true)) (.cmp .in_ (.var 1) (.glob 0))) .nil)) .nil)))))
  .nil)
abbrev s4 : Stmt := top 12
def t4 : PD.X := (.cons (.rt (.and_ (.cons (.bif (.isi .str) (.cons (.var 0) .nil)) (.cons (.cmp .in_ (.var 0) (.var 1)) .nil))))
  .nil)
abbrev s5 : Stmt := top 13
def t5 : PD.X := (.cons (.rt (.bif .all (.cons (.lc [1, 2] (.tt (.cons (.tv 1) (.cons (.tv 2) .nil))) (.enu (.var 0)) (.lit (.bl true)) (.cmp .notin (.var 2) (.slc (.var 0) (.cons (.bin .add (.var 1) (.lit (.int 1))) .nil) .nil))) .nil)))
  .nil)
abbrev s6 : Stmt := top 24
def t6 : PD.X := (.cons (.if_ (.or_ (.cons (.not_ (.call 2 (.cons (.var 0) (.cons (.glob 10) (.cons (.glob 10) .nil))))) (.cons (.not_ (.call 3 (.cons (.idx (.var 0) (.lit (.int 0))) .nil))) .nil))) (.cons (.rt (.lit (.bl false)))
  .nil) .nil)
  (.cons (.if_ (.and_ (.cons (.not_ (.call 3 (.cons (.idx (.var 0) (.lit (.int 1))) .nil))) (.cons (.not_ (.call 4 (.cons (.idx (.var 0) (.lit (.int 1))) (.cons (.tup (.cons (.glob 3) .nil)) .nil)))) .nil))) (.cons (.rt (.lit (.bl false)))
  .nil) .nil)
  (.cons (.rt (.or_ (.cons (.call 4 (.cons (.idx (.var 0) (.lit (.int 2))) (.cons (.tup (.cons (.glob 2) .nil)) .nil))) (.cons (.call 1 (.cons (.idx (.var 0) (.lit (.int 2))) (.cons (.glob 8) (.cons (.glob 9) .nil)))) .nil))))
  .nil)))
abbrev s7 : Stmt := top 25
def t7 : PD.X := (.cons (.par 2 3 (.own (.lst .nil)) (.pl (.idx (.var 0) (.var 1))))
  (.cons (.while_ (.and_ (.cons (.cmp .ne (.var 3) (.glob 3)) (.cons (.cmp .lt (.bif .len (.cons (.peek 2) .nil)) (.bif .len (.cons (.var 0) .nil))) .nil))) (.cons (.app 2 (.var 3))
  (.cons (.asg 3 (.pl (.idx (.var 0) (.var 3))))
  .nil)))
  (.cons (.freeze 2) (.cons (.rt (.var 2))
  .nil))))
abbrev s8 : Stmt := top 26
def t8 : PD.X := (.cons (.if_ (.or_ (.cons (.not_ (.call 2 (.cons (.var 0) (.cons (.glob 4) (.cons (.glob 5) .nil))))) (.cons (.not_ (.bif .all (.cons (.lc [4] (.tv 4) (.src (.var 0)) (.lit (.bl true)) (.call 6 (.cons (.var 4) .nil))) .nil))) .nil))) (.cons (.rt (.lit (.bl false)))
  .nil) .nil)
  (.cons (.asg 1 (.pl (.lc [5, 6, 7] (.tt (.cons (.tv 5) (.cons (.tv 6) (.cons (.tv 7) .nil)))) (.src (.var 0)) (.cmp .eq (.var 7) (.glob 2)) (.var 5))))
  (.cons (.asg 2 (.pl (.lc [5, 6, 7] (.tt (.cons (.tv 5) (.cons (.tv 6) (.cons (.tv 7) .nil)))) (.src (.var 0)) (.cmp .ne (.var 7) (.glob 2)) (.var 5))))
  (.cons (.if_ (.or_ (.cons (.not_ (.cmp2 .le .le (.lit (.int 1)) (.bif .len (.cons (.var 1) .nil)) (.glob 6))) (.cons (.not_ (.cmp2 .le .le (.lit (.int 1)) (.bif .len (.cons (.var 2) .nil)) (.glob 7))) .nil))) (.cons (.rt (.lit (.bl false)))
  .nil) .nil)
  (.cons (.if_ (.or_ (.cons (.not_ (.call 5 (.cons (.bin .add (.var 1) (.var 2)) .nil))) (.cons (.not_ (.bif .all (.cons (.lc [5, 6, 7] (.tt (.cons (.tv 5) (.cons (.tv 6) (.cons (.tv 7) .nil)))) (.src (.var 0)) (.lit (.bl true)) (.or_ (.cons (.cmp .eq (.var 6) (.glob 3)) (.cons (.cmp .in_ (.var 6) (.var 2)) .nil)))) .nil))) .nil))) (.cons (.rt (.lit (.bl false)))
  .nil) .nil)
  (.cons (.asg 3 (.pl (.dcomp [5, 6, 7] (.tt (.cons (.tv 5) (.cons (.tv 6) (.cons (.tv 7) .nil)))) (.src (.var 0)) (.lit (.bl true)) (.var 5) (.var 6))))
  (.cons (.rt (.bif .all (.cons (.lc [5] (.tv 5) (.src (.var 2)) (.lit (.bl true)) (.cmp .notin (.var 5) (.call 7 (.cons (.var 3) (.cons (.var 5) .nil))))) .nil)))
  .nil)))))))
abbrev s9 : Stmt := inClass (top 27) 0
def t9 : PD.X := (.cons (.ifx (.not_ (.call 8 (.cons (.var 1) .nil))) (.cons (.raise 1 (.var 1))
  .nil) .nil)
  (.cons (.q (.setF (.var 0) 0 (.var 1)))
  (.cons (.q (.setF (.var 0) 1 (.dcomp [2, 3, 4] (.tt (.cons (.tv 2) (.cons (.tv 3) (.cons (.tv 4) .nil)))) (.src (.var 1)) (.lit (.bl true)) (.var 2) (.var 3))))
  (.cons (.q (.setF (.var 0) 2 (.bif .tuple (.cons (.lc [2, 3, 4] (.tt (.cons (.tv 2) (.cons (.tv 3) (.cons (.tv 4) .nil)))) (.src (.var 1)) (.cmp .eq (.var 4) (.glob 2)) (.var 2)) .nil))))
  (.cons (.q (.setF (.var 0) 3 (.dcomp [2, 3, 4] (.tt (.cons (.tv 2) (.cons (.tv 3) (.cons (.tv 4) .nil)))) (.src (.var 1)) (.cmp .ne (.var 4) (.glob 2)) (.var 2) (.var 4))))
  .nil)))))
abbrev s10 : Stmt := top 29
def t10 : PD.X := (.cons (.asg 2 (.pl (.ite (.cmp .lt (.var 1) (.bif .len (.cons (.var 0) .nil))) (.idx (.var 0) (.var 1)) (.bin .add (.bin .mul (.lit (.int 37)) (.var 1)) (.lit (.int 19))))))
  (.cons (.asg 3 (.pl (.bin .mul (.bin .mod (.bif .int (.cons (.bif .abs (.cons (.var 2) .nil)) .nil)) (.bin .pow (.bin .pow (.lit (.int 10)) (.lit (.int 60))) (.lit (.int 5)))) (.bif .int (.cons (.cmp .ge (.bif .abs (.cons (.var 2) .nil)) (.bin .pow (.lit (.int 10)) (.lit (.int 18)))) .nil)))))
  (.cons (.rt (.new (.cons (.var 3) (.cons (.bin .mod (.bif .int (.cons (.bin .add (.bin .add (.bin .mul (.bin .mod (.bif .int (.cons (.var 2) .nil)) (.lit (.int 2305843009213693951))) (.lit (.int 73013))) (.bin .mul (.bin .mul (.lit (.int 8861)) (.var 1)) (.var 1))) (.lit (.int 47))) .nil)) (.lit (.int 2305843009213693921))) (.cons (.lit (.int 0)) .nil)))))
  .nil)))
abbrev s11 : Stmt := top 30
def t11 : PD.X := (.cons (.if_ (.cmp .gt (.idx (.var 0) (.lit (.int 0))) (.lit (.int 0))) (.cons (.asg 2 (.pl (.bin .mod (.bif .int (.cons (.idx (.var 0) (.lit (.int 0))) .nil)) (.var 1))))
  (.cons (.setI (.var 0) (.lit (.int 0)) (.bin .fdiv (.idx (.var 0) (.lit (.int 0))) (.var 1)))
  (.cons (.rt (.var 2))
  .nil))) .nil)
  (.cons (.setI (.var 0) (.lit (.int 2)) (.bin .add (.idx (.var 0) (.lit (.int 2))) (.lit (.int 1))))
  (.cons (.asg 3 (.pl (.idx (.lst (.cons (.lit (.int 2147483647)) (.cons (.lit (.int 2147483629)) (.cons (.lit (.int 2147483587)) (.cons (.lit (.int 2147483579)) (.cons (.lit (.int 2147483563)) .nil)))))) (.bin .mod (.bif .int (.cons (.idx (.var 0) (.lit (.int 2))) .nil)) (.lit (.int 5))))))
  (.cons (.asg 4 (.pl (.bin .mod (.bif .int (.cons (.bin .pow (.bin .add (.bin .add (.idx (.var 0) (.lit (.int 1))) (.bin .mul (.bin .mul (.lit (.int 99991)) (.idx (.var 0) (.lit (.int 2)))) (.idx (.var 0) (.lit (.int 2))))) (.lit (.int 71))) (.lit (.int 3))) .nil)) (.var 3))))
  (.cons (.asg 4 (.pl (.bin .mod (.bif .int (.cons (.bin .mul (.var 4) (.bin .add (.bin .mod (.bif .int (.cons (.var 4) .nil)) (.lit (.int 10009))) (.bin .mul (.lit (.int 97)) (.idx (.var 0) (.lit (.int 2)))))) .nil)) (.lit (.int 2305843009213693907)))))
  (.cons (.rt (.bin .mod (.bif .int (.cons (.bin .fdiv (.var 4) (.lit (.int 89))) .nil)) (.var 1)))
  .nil))))))
abbrev s12 : Stmt := top 31
def t12 : PD.X := (.cons (.rt (.idx (.var 1) (.call 11 (.cons (.var 0) (.cons (.bif .len (.cons (.var 1) .nil)) .nil)))))
  .nil)
abbrev s13 : Stmt := top 32
def t13 : PD.X := (.cons (.asg 2 (.pl (.lit (.str "abcdefghijklmnopqrstuvwxyz"))))
  (.cons (.asg 3 (.pl (.join (.lit (.str "")) (.lc [6] (.tv 6) (.rng (.cons (.call 12 (.cons (.var 0) (.cons (.lst (.cons (.lit (.int 0)) (.cons (.lit (.int 0)) (.cons (.lit (.int 1)) (.cons (.lit (.int 3)) (.cons (.lit (.int 7)) .nil)))))) .nil))) .nil)) (.lit (.bl true)) (.call 12 (.cons (.var 0) (.cons (.var 2) .nil)))))))
  (.cons (.tgt (.tt (.cons (.tv 4) (.cons (.tv 5) .nil))) (.tup (.cons (.call 11 (.cons (.var 0) (.cons (.bin .add (.bif .len (.cons (.var 3) .nil)) (.lit (.int 1))) .nil))) (.cons (.call 11 (.cons (.var 0) (.cons (.lit (.int 26)) .nil))) .nil))))
  (.cons (.rt (.lc [7] (.tv 7) (.rng (.cons (.var 1) .nil)) (.lit (.bl true)) (.bin .add (.bin .add (.slc (.var 3) .nil (.cons (.var 4) .nil)) (.idx (.var 2) (.bin .mod (.bif .int (.cons (.bin .add (.var 5) (.bin .mul (.lit (.int 3)) (.var 7))) .nil)) (.lit (.int 26))))) (.slc (.var 3) (.cons (.var 4) .nil) .nil))))
  .nil))))
abbrev s14 : Stmt := top 33
def t14 : PD.X := (.cons (.asg 1 (.pl (.call 12 (.cons (.var 0) (.cons (.lst (.cons (.lit .non) (.cons (.lit (.bl true)) (.cons (.lit (.bl false)) (.cons (.lit (.int 0)) (.cons (.lit (.int 1)) (.cons (.neg (.lit (.int 1))) (.cons (.lit (.int 10)) (.cons (.lit (.str "")) (.cons (.lit (.str "one")) (.cons (.lit (.str "wait")) (.cons (.tup .nil) (.cons (.lst .nil) (.cons .dct0 (.cons (.tup (.cons (.lit (.int 0)) .nil)) (.cons (.tup (.cons (.lit (.str "wait")) (.cons (.lit (.int 1)) .nil))) .nil)))))))))))))))) .nil)))))
  (.cons (.for_ (.tv 2) (.rng (.cons (.call 12 (.cons (.var 0) (.cons (.lst (.cons (.lit (.int 0)) (.cons (.lit (.int 0)) (.cons (.lit (.int 0)) (.cons (.lit (.int 1)) (.cons (.lit (.int 2)) (.cons (.lit (.int 18)) .nil))))))) .nil))) .nil)) (.cons (.asg 1 (.pl (.call 12 (.cons (.var 0) (.cons (.lst (.cons (.tup (.cons (.var 1) .nil)) (.cons (.lst (.cons (.var 1) .nil)) (.cons (.dct1 "a" (.var 1)) (.cons (.tup (.cons (.var 1) (.cons (.lit .non) .nil))) .nil))))) .nil)))))
  .nil))
  (.cons (.rt (.var 1))
  .nil)))
abbrev s15 : Stmt := top 35
def t15 : PD.X := (.cons (.if_ (.or_ (.cons (.not_ (.bif (.isi .tuple) (.cons (.var 1) .nil))) (.cons (.cmp .eq (.var 1) (.tup .nil)) (.cons (.cmp .eq (.var 2) (.lit (.int 0))) (.cons (.cmp .eq (.call 11 (.cons (.var 0) (.cons (.lit (.int 6)) .nil))) (.lit (.int 0))) .nil))))) (.cons (.rt (.call 12 (.cons (.var 0) (.cons (.lst (.cons (.lit .non) (.cons (.lit (.bl true)) (.cons (.lit (.int 0)) (.cons (.lit (.int 1)) (.cons (.lit (.int 2)) (.cons (.lit (.str "one")) (.cons (.lit (.str "wait")) (.cons (.tup .nil) (.cons (.lst .nil) (.cons .dct0 (.cons (.tup (.cons (.lit (.bl false)) .nil)) (.cons (.tup (.cons (.tup (.cons (.lit (.int 0)) (.cons (.lit (.int 1)) .nil))) .nil)) .nil))))))))))))) .nil))))
  .nil) .nil)
  (.cons (.par 3 4 (.pl (.call 11 (.cons (.var 0) (.cons (.bif .len (.cons (.var 1) .nil)) .nil)))) (.pl (.call 11 (.cons (.var 0) (.cons (.lit (.int 8)) .nil)))))
  (.cons (.if_ (.cmp .lt (.var 4) (.lit (.int 3))) (.cons (.rt (.idx (.lst (.cons (.bin .add (.slc (.var 1) .nil (.cons (.var 3) .nil)) (.slc (.var 1) (.cons (.bin .add (.var 3) (.lit (.int 1))) .nil) .nil)) (.cons (.bin .add (.bin .add (.slc (.var 1) .nil (.cons (.var 3) .nil)) (.tup (.cons (.idx (.var 1) (.var 3)) .nil))) (.slc (.var 1) (.cons (.var 3) .nil) .nil)) (.cons (.bif .list (.cons (.var 1) .nil)) .nil)))) (.var 4)))
  .nil) .nil)
  (.cons (.rt (.bin .add (.bin .add (.slc (.var 1) .nil (.cons (.var 3) .nil)) (.tup (.cons (.call 15 (.cons (.var 0) (.cons (.idx (.var 1) (.var 3)) (.cons (.bin .sub (.var 2) (.lit (.int 1))) .nil)))) .nil))) (.slc (.var 1) (.cons (.bin .add (.var 3) (.lit (.int 1))) .nil) .nil)))
  .nil))))
abbrev s16 : Stmt := top 36
def t16 : PD.X := (.cons (.rt (.and_ (.cons (.bif (.isi .str) (.cons (.var 0) .nil)) (.cons (.cmp2 .le .le (.lit (.int 1)) (.bif .len (.cons (.var 0) .nil)) (.lit (.int 8))) (.cons (.bif .all (.cons (.lc [1] (.tv 1) (.sgn (.var 0)) (.lit (.bl true)) (.cmp2 .le .le (.lit (.str "a")) (.var 1) (.lit (.str "z")))) .nil)) .nil)))))
  .nil)
abbrev s17 : Stmt := top 37
def t17 : PD.X := (.cons (.if_ (.or_ (.cons (.not_ (.bif (.isi .tuple) (.cons (.var 0) .nil))) (.cons (.cmp .ne (.bif .len (.cons (.var 0) .nil)) (.lit (.int 3))) (.cons (.not_ (.call 16 (.cons (.idx (.var 0) (.lit (.int 0))) .nil))) .nil)))) (.cons (.rt (.lit (.bl false)))
  .nil) .nil)
  (.cons (.asg 1 (.pl (.and_ (.cons (.bif (.isi .int) (.cons (.idx (.var 0) (.lit (.int 2))) .nil)) (.cons (.not_ (.bif (.isi .bool) (.cons (.idx (.var 0) (.lit (.int 2))) .nil))) (.cons (.cmp2 .le .le (.lit (.int 2)) (.idx (.var 0) (.lit (.int 2))) (.lit (.int 6))) .nil))))))
  (.cons (.asg 2 (.pl (.and_ (.cons (.bif (.isi .str) (.cons (.idx (.var 0) (.lit (.int 2))) .nil)) (.cons (.cmp .eq (.idx (.var 0) (.lit (.int 2))) (.lit (.str "host"))) .nil)))))
  (.cons (.rt (.and_ (.cons (.or_ (.cons (.var 1) (.cons (.var 2) .nil))) (.cons (.bif (.isi .str) (.cons (.idx (.var 0) (.lit (.int 1))) .nil)) (.cons (.or_ (.cons (.cmp .eq (.idx (.var 0) (.lit (.int 1))) (.lit (.str ""))) (.cons (.call 16 (.cons (.idx (.var 0) (.lit (.int 1))) .nil)) .nil))) .nil)))))
  .nil))))
abbrev s18 : Stmt := top 38
def t18 : PD.X := (.cons (.if_ (.or_ (.cons (.not_ (.bif (.isi .tuple) (.cons (.var 0) .nil))) (.cons (.not_ (.cmp2 .le .le (.lit (.int 2)) (.bif .len (.cons (.var 0) .nil)) (.lit (.int 7)))) (.cons (.not_ (.bif .all (.cons (.lc [7] (.tv 7) (.src (.var 0)) (.lit (.bl true)) (.call 17 (.cons (.var 7) .nil))) .nil))) .nil)))) (.cons (.rt (.lit (.bl false)))
  .nil) .nil)
  (.cons (.tgt (.tt (.cons (.tv 1) (.cons (.tv 2) .nil))) (.tup (.cons (.lc [7] (.tv 7) (.src (.var 0)) (.lit (.bl true)) (.idx (.var 7) (.lit (.int 0)))) (.cons (.lc [7] (.tv 7) (.src (.var 0)) (.cmp .ne (.idx (.var 7) (.lit (.int 2))) (.lit (.str "host"))) (.idx (.var 7) (.lit (.int 0)))) .nil))))
  (.cons (.if_ (.or_ (.cons (.cmp .ne (.lns (.var 1)) (.bif .len (.cons (.var 1) .nil))) (.cons (.not_ (.cmp2 .le .le (.lit (.int 1)) (.bif .len (.cons (.var 2) .nil)) (.lit (.int 3)))) (.cons (.not_ (.cmp2 .le .le (.lit (.int 1)) (.bin .sub (.bif .len (.cons (.var 1) .nil)) (.bif .len (.cons (.var 2) .nil))) (.lit (.int 4)))) .nil)))) (.cons (.rt (.lit (.bl false)))
  .nil) .nil)
  (.cons (.asg 3 (.pl (.dictOf (.lc [7] (.tv 7) (.src (.var 0)) (.lit (.bl true)) (.slc (.var 7) .nil (.cons (.lit (.int 2)) .nil))))))
  (.cons (.if_ (.not_ (.bif .all (.cons (.lc [5] (.tv 5) (.vals (.var 3)) (.lit (.bl true)) (.or_ (.cons (.cmp .eq (.var 5) (.lit (.str ""))) (.cons (.cmp .in_ (.var 5) (.var 2)) .nil)))) .nil))) (.cons (.rt (.lit (.bl false)))
  .nil) .nil)
  (.cons (.for_ (.tv 4) (.src (.var 2)) (.cons (.asg 5 (.pl (.idx (.var 3) (.var 4))))
  (.cons (.for_ (.tv 6) (.rng (.cons (.lit (.int 3)) .nil)) (.cons (.asg 5 (.pl (.ite (.cmp .ne (.var 5) (.lit (.str ""))) (.idx (.var 3) (.var 5)) (.lit (.str "")))))
  .nil))
  (.cons (.if_ (.cmp .ne (.var 5) (.lit (.str ""))) (.cons (.rt (.lit (.bl false)))
  .nil) .nil)
  .nil))))
  (.cons (.rt (.lit (.bl true)))
  .nil)))))))
abbrev s19 : Stmt := top 39
def t19 : PD.X := (.cons (.par 1 2 (.pl (.call 13 (.cons (.var 0) (.cons (.lit (.int 9)) .nil)))) (.own (.lst .nil)))
  (.cons (.asg 3 (.pl (.bin .add (.lit (.int 2)) (.call 11 (.cons (.var 0) (.cons (.lit (.int 7)) .nil))))))
  (.cons (.asg 4 (.pl (.slc (.var 1) .nil (.cons (.bin .add (.lit (.int 1)) (.call 12 (.cons (.var 0) (.cons (.lst (.cons (.lit (.int 0)) (.cons (.lit (.int 0)) (.cons (.lit (.int 1)) (.cons (.lit (.int 1)) (.cons (.lit (.int 2)) (.cons (.lit (.int 3)) .nil))))))) .nil)))) .nil))))
  (.cons (.for_ (.tv 5) (.src (.slc (.var 1) .nil (.cons (.bif .max (.cons (.var 3) (.cons (.bif .len (.cons (.var 4) .nil)) .nil))) .nil))) (.cons (.asg 6 (.pl (.ite (.cmp .in_ (.var 5) (.var 4)) (.bin .add (.lit (.int 2)) (.call 11 (.cons (.var 0) (.cons (.lit (.int 5)) .nil)))) (.lit (.str "host")))))
  (.cons (.asg 7 (.pl (.ite (.cmp .in_ (.var 5) (.var 4)) (.bin .add (.lst (.cons (.lit (.str "")) .nil)) (.slc (.var 4) .nil (.cons (.ixo (.var 4) (.var 5)) .nil))) (.bin .add (.lst (.cons (.lit (.str "")) .nil)) (.var 4)))))
  (.cons (.app 2 (.tup (.cons (.var 5) (.cons (.call 12 (.cons (.var 0) (.cons (.bin .add (.var 7) (.bin .mul (.lst (.cons (.call 12 (.cons (.var 0) (.cons (.var 1) .nil))) .nil)) (.bif .int (.cons (.cmp .eq (.call 11 (.cons (.var 0) (.cons (.lit (.int 12)) .nil))) (.lit (.int 0))) .nil)))) .nil))) (.cons (.var 6) .nil)))))
  .nil))))
  (.cons (.asg 8 (.pl (.call 11 (.cons (.var 0) (.cons (.bif .len (.cons (.peek 2) .nil)) .nil)))))
  (.cons (.rt (.bif .tuple (.cons (.bin .add (.slc (.peek 2) (.cons (.var 8) .nil) .nil) (.slc (.peek 2) .nil (.cons (.var 8) .nil))) .nil)))
  .nil))))))
abbrev s20 : Stmt := top 40
def t20 : PD.X := (.cons (.asg 1 (.pl (.call 19 (.cons (.var 0) .nil))))
  (.cons (.asg 2 (.pl (.lst (.cons (.var 1) (.cons (.rev (.var 1)) (.cons (.bif .list (.cons (.var 1) .nil)) (.cons (.call 14 (.cons (.var 0) .nil)) (.cons (.bin .add (.var 1) (.slc (.var 1) .nil (.cons (.lit (.int 1)) .nil))) .nil))))))))
  (.cons (.for_ (.tv 3) (.src (.bin .add (.var 2) (.lc [5] (.tv 5) (.rng (.cons (.lit (.int 4)) .nil)) (.lit (.bl true)) (.call 15 (.cons (.var 0) (.cons (.var 1) (.cons (.lit (.int 3)) .nil))))))) (.cons (.asg 4 (.pl (.call 22 (.cons (.var 3) .nil))))
  (.cons (.if_ (.cmp .ne (.cmp .is_ (.var 4) (.lit .non)) (.call 18 (.cons (.var 3) .nil))) (.cons (.rt (.lit (.bl false)))
  .nil) .nil)
  (.cons (.if_ (.and_ (.cons (.cmp .isnot (.var 4) (.lit .non)) (.cons (.or_ (.cons (.not_ (.isx 1 csE (.var 4))) (.cons (.not_ (.isv csE (.var 4))) .nil))) .nil))) (.cons (.rt (.lit (.bl false)))
  .nil) .nil)
  (.cons (.if_ (.and_ (.cons (.cmp .isnot (.var 4) (.lit .non)) (.cons (.cmp .ne (.bif .reprA (.cons (.exv csE (.var 4)) .nil)) (.bif .reprA (.cons (.var 3) .nil))) .nil))) (.cons (.rt (.lit (.bl false)))
  .nil) .nil)
  .nil)))))
  (.cons (.rt (.lit (.bl true)))
  .nil))))
abbrev s21 : Stmt := top 41
def t21 : PD.X := (.cons (.for_ (.tv 1) (.rng (.cons (.bif .max (.cons (.lit (.int 1)) (.cons (.bif .min (.cons (.lit (.int 3)) (.cons (.bif .len (.cons (.var 0) .nil)) .nil))) .nil))) .nil)) (.cons (.asg 2 (.pl (.call 10 (.cons (.var 0) (.cons (.var 1) .nil)))))
  (.cons (.if_ (.not_ (.bif .all (.cons (.lc [3] (.tv 3) (.rng (.cons (.lit (.int 6)) .nil)) (.lit (.bl true)) (.call 20 (.cons (.var 2) .nil))) .nil))) (.cons (.rt (.lit (.bl false)))
  .nil) .nil)
  .nil)))
  (.cons (.rt (.lit (.bl true)))
  .nil))
def tv0 : PD.X := .cons (.rt (.cauK csE 0 (.cons (.var 0) .nil))) .nil
def fns : List FD := [⟨1, 1, t0⟩, ⟨3, 3, t1⟩, ⟨3, 3, t2⟩, ⟨1, 2, t3⟩, ⟨2, 2, t4⟩, ⟨1, 3, t5⟩, ⟨1, 1, t6⟩, ⟨2, 4, t7⟩, ⟨1, 8, t8⟩, ⟨2, 5, t9⟩, ⟨2, 4, t10⟩, ⟨2, 5, t11⟩, ⟨2, 2, t12⟩, ⟨2, 8, t13⟩, ⟨1, 3, t14⟩, ⟨3, 5, t15⟩, ⟨1, 2, t16⟩, ⟨1, 3, t17⟩, ⟨1, 8, t18⟩, ⟨1, 9, t19⟩, ⟨1, 6, t20⟩, ⟨1, 4, t21⟩, ⟨1, 1, tv0⟩]
def mthF : Nat → Nat → Option Nat
  | _, _ => none
def iniF : Nat → Option Nat
  | 0 => some 9
  | _ => none
def glbF : Nat → Option D
  | 0 => some (.str "abcdefghijklmnopqrstuvwxyz")
  | 1 => some (.int 8)
  | 2 => some (.str "host")
  | 3 => some (.str "")
  | 4 => some (.int 2)
  | 5 => some (.int 7)
  | 6 => some (.int 4)
  | 7 => some (.int 3)
  | 8 => some (.int 2)
  | 9 => some (.int 6)
  | 10 => some (.int 3)
  | _ => none
def hfF : Nat → Nat → Bool
  | 0, 0 => true
  | 0, 1 => true
  | 0, 2 => true
  | 0, 3 => true
  | _, _ => false
def nmF : Nat → Str
  | 0 => "own_places"
  | 1 => "own_ats"
  | 2 => "own_hosts"
  | 3 => "many_numbers"
  | _ => ""
def pg : Prog := ⟨fun i => fns.getD i ⟨0, 0, .nil⟩, mthF, iniF, glbF, hfF, 100000⟩
theorem aug_add : ∀ (i : Int) (y r : D), binD .add (.int i) y = some r → ∃ j, y = .int j ∧ r = .int (i + j) := fun i y r h => by
  cases y <;> simp only [binD, Option.some.injEq, reduceCtorEq] at h
  exact ⟨_, rfl, h.symm⟩
structure Txt (T : Tb) (a : Nat → Addr) : Prop where
  tab : TabOk T
  b_ValueError : T.mg "ValueError" = none
  b_abs : T.mg "abs" = none
  b_all : T.mg "all" = none
  b_bool : T.mg "bool" = none
  b_dict : T.mg "dict" = none
  b_enumerate : T.mg "enumerate" = none
  b_int : T.mg "int" = none
  b_isinstance : T.mg "isinstance" = none
  b_len : T.mg "len" = none
  b_list : T.mg "list" = none
  b_max : T.mg "max" = none
  b_min : T.mg "min" = none
  b_range : T.mg "range" = none
  b_repr : T.mg "repr" = none
  b_set : T.mg "set" = none
  b_str : T.mg "str" = none
  b_tuple : T.mg "tuple" = none
  f0 : T.mg "is_integer" = some (.ref (a 0))
  f1 : T.mg "is_between" = some (.ref (a 1))
  f2 : T.mg "is_tuple" = some (.ref (a 2))
  f3 : T.mg "is_name" = some (.ref (a 3))
  f4 : T.mg "is_word" = some (.ref (a 4))
  f5 : T.mg "are_different" = some (.ref (a 5))
  f6 : T.mg "is_place" = some (.ref (a 6))
  f7 : T.mg "spaces_around" = some (.ref (a 7))
  f8 : T.mg "are_places" = some (.ref (a 8))
  f10 : T.mg "_law_jar" = some (.ref (a 10))
  f11 : T.mg "_law_take" = some (.ref (a 11))
  f12 : T.mg "_law_of" = some (.ref (a 12))
  f13 : T.mg "_law_names" = some (.ref (a 13))
  f14 : T.mg "_law_odd" = some (.ref (a 14))
  f15 : T.mg "_law_twisted" = some (.ref (a 15))
  f16 : T.mg "_law_is_name" = some (.ref (a 16))
  f17 : T.mg "_law_is_place" = some (.ref (a 17))
  f18 : T.mg "_law_is_net" = some (.ref (a 18))
  f19 : T.mg "_law_places" = some (.ref (a 19))
  f20 : T.mg "_law_right" = some (.ref (a 20))
  f21 : T.mg "law" = some (.ref (a 21))
  c0 : T.mg "Net" = some (.ref (T.ca 0))
  cls0 : Cls T.K (T.ca 0)
  mk0 : Mk T.K (T.ca 0) (a 9)
  errs : ErrK T.K T.ca csE
  isV : ∀ c ∈ csE, PySem.W.kitOne T.K (.ref (T.ca c)) (.type "ValueError") = some true
  exm : ∀ cx ∈ csE, PySem.W.exmOne T.K (.ref (T.ca cx)) (.ref (T.ca 2)) = some true
  b_super : T.mg "super" = none
  sup : SupI T.K T.P (a 24) (T.ca 2) sS "DoorError.__init__" "value" erF
  tI : PySem.W.typeIn T.K (.ref (a 24)) = some (.type "function")
  fM : T.mg "_law_caught" = some (.ref (a 23))
  tqE : T.tq = "_law_right.<locals>.<lambda>"
  x1 : T.mg "BadNet" = some (.ref (T.ca 1))
  y1 : SupC T.K (T.ca 1) (T.ca 2) erF
  i1 : PySem.W.findIn T.K (.ref (T.ca 1)) "__init__" = some (some (.ref (a 24)))
  x2 : T.mg "DoorError" = some (.ref (T.ca 2))
  g0 : ∃ tk, T.mg "SMALL" = some (.str "abcdefghijklmnopqrstuvwxyz" tk)
  g1 : ∃ tk, T.mg "MOST_SIGNS" = some (.int 8 tk)
  g2 : ∃ tk, T.mg "HOST" = some (.str "host" tk)
  g3 : ∃ tk, T.mg "OPEN_NET" = some (.str "" tk)
  g4 : ∃ tk, T.mg "LEAST_PLACES" = some (.int 2 tk)
  g5 : ∃ tk, T.mg "MOST_PLACES" = some (.int 7 tk)
  g6 : ∃ tk, T.mg "MOST_HOSTS" = some (.int 4 tk)
  g7 : ∃ tk, T.mg "MOST_BOXES" = some (.int 3 tk)
  g8 : ∃ tk, T.mg "LEAST_NUMBERS" = some (.int 2 tk)
  g9 : ∃ tk, T.mg "MOST_NUMBERS" = some (.int 6 tk)
  g10 : ∃ tk, T.mg "TRIPLE" = some (.int 3 tk)
structure All (T : Tb) (base : Heap) (a : Nat → Addr) (n : Nat) : Prop where
  d0 : DefI T base pg n (a 0) 0 ["value"]
  d1 : DefI T base pg n (a 1) 1 ["value", "low", "high"]
  d2 : DefI T base pg n (a 2) 2 ["value", "low", "high"]
  d3 : DefI T base pg n (a 3) 3 ["value"]
  d4 : DefI T base pg n (a 4) 4 ["value", "words"]
  d5 : DefI T base pg n (a 5) 5 ["some"]
  d6 : DefI T base pg n (a 6) 6 ["value"]
  d7 : DefI T base pg n (a 7) 7 ["ats", "name"]
  d8 : DefI T base pg n (a 8) 8 ["value"]
  d9 : DefX T base pg n (a 9) 9 ["self", "places"]
  d10 : DefI T base pg n (a 10) 10 ["script", "k"]
  d11 : DefI T base pg n (a 11) 11 ["jar", "many"]
  d12 : DefI T base pg n (a 12) 12 ["jar", "some"]
  d13 : DefI T base pg n (a 13) 13 ["jar", "many"]
  d14 : DefI T base pg n (a 14) 14 ["jar"]
  d15 : DefI T base pg n (a 15) 15 ["jar", "value", "deep"]
  d16 : DefI T base pg n (a 16) 16 ["thing"]
  d17 : DefI T base pg n (a 17) 17 ["thing"]
  d18 : DefI T base pg n (a 18) 18 ["thing"]
  d19 : DefI T base pg n (a 19) 19 ["jar"]
  d20 : DefG T base pg n (a 20) 20 ["jar"]
  d21 : DefG T base pg n (a 21) 21 ["script"]
theorem scM : FnScope ["call", "caught", "error"] ["call"] (defScope sM) := ⟨rfl, rfl, rfl, by decide +kernel, rfl, by decide +kernel, by decide +kernel⟩
theorem cauG {T : Tb} {a : Nat → Addr} (t : Txt T a) (X : Cx) {x q : Str} {g : Addr} {cdg : Value} (hmg : X.mg = T.mg) (hK : X.K = T.K) : LamX.GivesTo X ["call", "caught", "error"] x (defScope sM) g cdg (defBody sM) "call" q (TTcau X.K (T.ca 2)) :=
  cau_gives (sg := defScope sM) ⟨rfl, rfl, rfl, rfl, hmg ▸ t.x2⟩
section
variable {T : Tb} {base : Heap} {a : Nat → Addr} {n : Nat}
theorem sc0 : FnScope ["value"] ["value"] (defScope s0) := ⟨rfl, rfl, rfl, by decide +kernel, rfl, by decide +kernel, by decide +kernel⟩
theorem body0 (t : Txt T a) (hP : T.hf = hfF) (hN : T.nm = nmF) (D : All T base a n) (cdv : Value) (A : Around) (outer : List PySem.Env) (s : Shared) (H : Hp) (E : XK) (hr : Room (2 * n + 1) (A.deeper (envOfC "is_integer" (defScope s0) s.heap.objs.size (a 0) cdv))) :
    PXB (bX T base ["value"] "is_integer" s0 (a 0) cdv A outer s H E) T pg (callN pg n) (defBody s0) t0 := by
  have hX : XT T (bX T base ["value"] "is_integer" s0 (a 0) cdv A outer s H E) := xt_of hr
  have S := sc0
  obtain ⟨P0, w0, K0, mg0, ca0, nm0, hf0, tb0, tq0⟩ := T
  cases hP
  cases hN
  exact (xb_cons (xs_rt (xe_and (xe_andC (xe_isi (t := .int) hX rfl t.b_isinstance rfl t.b_int (by decide +kernel) (by decide) (by decide) (xe_var 0) rfl rfl rfl) (xe_andL (xe_not (xe_isi (t := .bool) hX rfl t.b_isinstance rfl t.b_bool (by decide +kernel) (by decide) (by decide) (xe_var 0) rfl rfl rfl))))))
  xb_nil)
theorem sc1 : FnScope ["value", "low", "high"] ["value", "low", "high"] (defScope s1) := ⟨rfl, rfl, rfl, by decide +kernel, rfl, by decide +kernel, by decide +kernel⟩
theorem body1 (t : Txt T a) (hP : T.hf = hfF) (hN : T.nm = nmF) (D : All T base a n) (cdv : Value) (A : Around) (outer : List PySem.Env) (s : Shared) (H : Hp) (E : XK) (hr : Room (2 * n + 1) (A.deeper (envOfC "is_between" (defScope s1) s.heap.objs.size (a 1) cdv))) :
    PXB (bX T base ["value", "low", "high"] "is_between" s1 (a 1) cdv A outer s H E) T pg (callN pg n) (defBody s1) t1 := by
  have hX : XT T (bX T base ["value", "low", "high"] "is_between" s1 (a 1) cdv A outer s H E) := xt_of hr
  have S := sc1
  obtain ⟨P0, w0, K0, mg0, ca0, nm0, hf0, tb0, tq0⟩ := T
  cases hP
  cases hN
  exact (xb_cons (xs_rt (xe_and (xe_andC (xe_call (D.d0.call hr) (fun _ _ _ _ z => callN_len (pg := pg) z) rfl t.f0 (xa_cons (fun _ z => nomatch z) (xe_var 0) xa_nil rfl) (by decide) rfl rfl) (xe_andL (xe_cmp2 (c_le) (c_le) (xe_var 1) (xe_var 0) (xe_var 2) (by with_unfolding_all rfl))))))
  xb_nil)
theorem sc2 : FnScope ["value", "low", "high"] ["value", "low", "high"] (defScope s2) := ⟨rfl, rfl, rfl, by decide +kernel, rfl, by decide +kernel, by decide +kernel⟩
theorem body2 (t : Txt T a) (hP : T.hf = hfF) (hN : T.nm = nmF) (D : All T base a n) (cdv : Value) (A : Around) (outer : List PySem.Env) (s : Shared) (H : Hp) (E : XK) (hr : Room (2 * n + 1) (A.deeper (envOfC "is_tuple" (defScope s2) s.heap.objs.size (a 2) cdv))) :
    PXB (bX T base ["value", "low", "high"] "is_tuple" s2 (a 2) cdv A outer s H E) T pg (callN pg n) (defBody s2) t2 := by
  have hX : XT T (bX T base ["value", "low", "high"] "is_tuple" s2 (a 2) cdv A outer s H E) := xt_of hr
  have S := sc2
  obtain ⟨P0, w0, K0, mg0, ca0, nm0, hf0, tb0, tq0⟩ := T
  cases hP
  cases hN
  exact (xb_cons (xs_rt (xe_and (xe_andC (xe_isi (t := .tuple) hX rfl t.b_isinstance rfl t.b_tuple (by decide +kernel) (by decide) (by decide) (xe_var 0) rfl rfl rfl) (xe_andL (xe_cmp2 (c_le) (c_le) (xe_var 1) (xe_bif (b_len hX) rfl t.b_len (by decide +kernel) (xv_cons (xe_var 0) xv_nil rfl) (by decide) (by decide) rfl rfl) (xe_var 2) (by with_unfolding_all rfl))))))
  xb_nil)
theorem sc3 : FnScope ["value", "sign"] ["value"] (defScope s3) := ⟨rfl, rfl, rfl, by decide +kernel, rfl, by decide +kernel, by decide +kernel⟩
theorem body3 (t : Txt T a) (hP : T.hf = hfF) (hN : T.nm = nmF) (D : All T base a n) (cdv : Value) (A : Around) (outer : List PySem.Env) (s : Shared) (H : Hp) (E : XK) (hr : Room (2 * n + 1) (A.deeper (envOfC "is_name" (defScope s3) s.heap.objs.size (a 3) cdv))) :
    PXB (bX T base ["value", "sign"] "is_name" s3 (a 3) cdv A outer s H E) T pg (callN pg n) (defBody s3) t3 := by
  have hX : XT T (bX T base ["value", "sign"] "is_name" s3 (a 3) cdv A outer s H E) := xt_of hr
  have S := sc3
  obtain ⟨P0, w0, K0, mg0, ca0, nm0, hf0, tb0, tq0⟩ := T
  cases hP
  cases hN
  exact (xb_cons (xs_rt (xe_and (xe_andC (xe_isi (t := .str) hX rfl t.b_isinstance rfl t.b_str (by decide +kernel) (by decide) (by decide) (xe_var 0) rfl rfl rfl) (xe_andC (xe_cmp2 (c_le) (c_le) xe_lit (xe_bif (b_len hX) rfl t.b_len (by decide +kernel) (xv_cons (xe_var 0) xv_nil rfl) (by decide) (by decide) rfl rfl) (xe_globI t.g1.choose_spec rfl) (by with_unfolding_all rfl)) (xe_andL (xe_bif (b_all hX) rfl t.b_all (by decide +kernel) (xv_cons (xe_lc (own := [("sign", 1)]) hX S.nd (xi_sgn (xe_var 0)) (blkOk_by (N := ["value", "sign"]) (sc := defScope s3) (by decide +kernel)) rfl (fun _ _ _ _ _ => (xg_name (i := 1) S.nd rfl (by first | exact Or.inl rfl | exact Or.inr rfl) (by first | exact Or.inl rfl | exact Or.inr rfl))) (fun _ _ _ _ _ => xts_nil) (fun _ _ _ _ _ => (xe_cmp (c_in hX.blk) (xe_var 1) (xe_globS t.g0.choose_spec rfl) (by with_unfolding_all rfl)))) xv_nil rfl) (by decide) (by decide) rfl rfl))))))
  xb_nil)
theorem sc4 : FnScope ["value", "words"] ["value", "words"] (defScope s4) := ⟨rfl, rfl, rfl, by decide +kernel, rfl, by decide +kernel, by decide +kernel⟩
theorem body4 (t : Txt T a) (hP : T.hf = hfF) (hN : T.nm = nmF) (D : All T base a n) (cdv : Value) (A : Around) (outer : List PySem.Env) (s : Shared) (H : Hp) (E : XK) (hr : Room (2 * n + 1) (A.deeper (envOfC "is_word" (defScope s4) s.heap.objs.size (a 4) cdv))) :
    PXB (bX T base ["value", "words"] "is_word" s4 (a 4) cdv A outer s H E) T pg (callN pg n) (defBody s4) t4 := by
  have hX : XT T (bX T base ["value", "words"] "is_word" s4 (a 4) cdv A outer s H E) := xt_of hr
  have S := sc4
  obtain ⟨P0, w0, K0, mg0, ca0, nm0, hf0, tb0, tq0⟩ := T
  cases hP
  cases hN
  exact (xb_cons (xs_rt (xe_and (xe_andC (xe_isi (t := .str) hX rfl t.b_isinstance rfl t.b_str (by decide +kernel) (by decide) (by decide) (xe_var 0) rfl rfl rfl) (xe_andL (xe_cmp (c_in hX) (xe_var 0) (xe_var 1) (by with_unfolding_all rfl))))))
  xb_nil)
theorem sc5 : FnScope ["some", "place", "one"] ["some"] (defScope s5) := ⟨rfl, rfl, rfl, by decide +kernel, rfl, by decide +kernel, by decide +kernel⟩
theorem body5 (t : Txt T a) (hP : T.hf = hfF) (hN : T.nm = nmF) (D : All T base a n) (cdv : Value) (A : Around) (outer : List PySem.Env) (s : Shared) (H : Hp) (E : XK) (hr : Room (2 * n + 1) (A.deeper (envOfC "are_different" (defScope s5) s.heap.objs.size (a 5) cdv))) :
    PXB (bX T base ["some", "place", "one"] "are_different" s5 (a 5) cdv A outer s H E) T pg (callN pg n) (defBody s5) t5 := by
  have hX : XT T (bX T base ["some", "place", "one"] "are_different" s5 (a 5) cdv A outer s H E) := xt_of hr
  have S := sc5
  obtain ⟨P0, w0, K0, mg0, ca0, nm0, hf0, tb0, tq0⟩ := T
  cases hP
  cases hN
  exact (xb_cons (xs_rt (xe_bif (b_all hX) rfl t.b_all (by decide +kernel) (xv_cons (xe_lc (own := [("place", 1), ("one", 2)]) hX S.nd (xi_enu t.b_enumerate (xe_var 0)) (blkOk_by (N := ["some", "place", "one"]) (sc := defScope s5) (by decide +kernel)) rfl (fun _ _ _ _ _ => (xg_tup hX.blk (xg_cons (xg_name (i := 1) S.nd rfl (by first | exact Or.inl rfl | exact Or.inr rfl) (by first | exact Or.inl rfl | exact Or.inr rfl)) (xg_cons (xg_name (i := 2) S.nd rfl (by first | exact Or.inl rfl | exact Or.inr rfl) (by first | exact Or.inl rfl | exact Or.inr rfl)) xg_nil rfl) rfl) rfl rfl)) (fun _ _ _ _ _ => xts_nil) (fun _ _ _ _ _ => (xe_cmp (c_notin hX.blk) (xe_var 2) (xe_slc hX.blk (xe_var 0) (xo_some (xe_bin (o_add hX.blk.K) (xe_var 1) xe_lit)) xo_none) (by with_unfolding_all rfl)))) xv_nil rfl) (by decide) (by decide) rfl rfl))
  xb_nil)
theorem sc6 : FnScope ["value"] ["value"] (defScope s6) := ⟨rfl, rfl, rfl, by decide +kernel, rfl, by decide +kernel, by decide +kernel⟩
theorem body6 (t : Txt T a) (hP : T.hf = hfF) (hN : T.nm = nmF) (D : All T base a n) (cdv : Value) (A : Around) (outer : List PySem.Env) (s : Shared) (H : Hp) (E : XK) (hr : Room (2 * n + 1) (A.deeper (envOfC "is_place" (defScope s6) s.heap.objs.size (a 6) cdv))) :
    PXB (bX T base ["value"] "is_place" s6 (a 6) cdv A outer s H E) T pg (callN pg n) (defBody s6) t6 := by
  have hX : XT T (bX T base ["value"] "is_place" s6 (a 6) cdv A outer s H E) := xt_of hr
  have S := sc6
  obtain ⟨P0, w0, K0, mg0, ca0, nm0, hf0, tb0, tq0⟩ := T
  cases hP
  cases hN
  exact (xb_cons (xs_if (xt_or (xw_orC (xt_not (xt_val (xe_call (D.d2.call hr) (fun _ _ _ _ z => callN_len (pg := pg) z) rfl t.f2 (xa_cons (fun _ z => nomatch z) (xe_var 0) (xa_cons (fun _ z => nomatch z) (xe_globI t.g10.choose_spec rfl) (xa_cons (fun _ z => nomatch z) (xe_globI t.g10.choose_spec rfl) xa_nil rfl) rfl) rfl) (by decide) rfl rfl) (fun _ => rfl))) (xw_orL (xt_not (xt_val (xe_call (D.d3.call hr) (fun _ _ _ _ z => callN_len (pg := pg) z) rfl t.f3 (xa_cons (fun _ z => nomatch z) (xe_idx hX (xe_var 0) xe_lit (fun _ _ => rfl)) xa_nil rfl) (by decide) rfl rfl) (fun _ => rfl)))))) (xb_cons (xs_rt xe_lit)
  xb_nil) xb_nil)
  (xb_cons (xs_if (xt_and (xw_andC (xt_not (xt_val (xe_call (D.d3.call hr) (fun _ _ _ _ z => callN_len (pg := pg) z) rfl t.f3 (xa_cons (fun _ z => nomatch z) (xe_idx hX (xe_var 0) xe_lit (fun _ _ => rfl)) xa_nil rfl) (by decide) rfl rfl) (fun _ => rfl))) (xw_andL (xt_not (xt_val (xe_call (D.d4.call hr) (fun _ _ _ _ z => callN_len (pg := pg) z) rfl t.f4 (xa_cons (fun _ z => nomatch z) (xe_idx hX (xe_var 0) xe_lit (fun _ _ => rfl)) (xa_cons (fun _ z => nomatch z) (xe_tup (xa_cons (fun _ z => nomatch z) (xe_globS t.g3.choose_spec rfl) xa_nil rfl)) xa_nil rfl) rfl) (by decide) rfl rfl) (fun _ => rfl)))))) (xb_cons (xs_rt xe_lit)
  xb_nil) xb_nil)
  (xb_cons (xs_rt (xe_or (xe_orC (xe_call (D.d4.call hr) (fun _ _ _ _ z => callN_len (pg := pg) z) rfl t.f4 (xa_cons (fun _ z => nomatch z) (xe_idx hX (xe_var 0) xe_lit (fun _ _ => rfl)) (xa_cons (fun _ z => nomatch z) (xe_tup (xa_cons (fun _ z => nomatch z) (xe_globS t.g2.choose_spec rfl) xa_nil rfl)) xa_nil rfl) rfl) (by decide) rfl rfl) (xe_orL (xe_call (D.d1.call hr) (fun _ _ _ _ z => callN_len (pg := pg) z) rfl t.f1 (xa_cons (fun _ z => nomatch z) (xe_idx hX (xe_var 0) xe_lit (fun _ _ => rfl)) (xa_cons (fun _ z => nomatch z) (xe_globI t.g8.choose_spec rfl) (xa_cons (fun _ z => nomatch z) (xe_globI t.g9.choose_spec rfl) xa_nil rfl) rfl) rfl) (by decide) rfl rfl)))))
  xb_nil)))
theorem sc7 : FnScope ["ats", "name", "found", "space"] ["ats", "name"] (defScope s7) := ⟨rfl, rfl, rfl, by decide +kernel, rfl, by decide +kernel, by decide +kernel⟩
theorem body7 (t : Txt T a) (hP : T.hf = hfF) (hN : T.nm = nmF) (D : All T base a n) (cdv : Value) (A : Around) (outer : List PySem.Env) (s : Shared) (H : Hp) (E : XK) (hr : Room (2 * n + 1) (A.deeper (envOfC "spaces_around" (defScope s7) s.heap.objs.size (a 7) cdv))) :
    PXB (bX T base ["ats", "name", "found", "space"] "spaces_around" s7 (a 7) cdv A outer s H E) T pg (callN pg n) (defBody s7) t7 := by
  have hX : XT T (bX T base ["ats", "name", "found", "space"] "spaces_around" s7 (a 7) cdv A outer s H E) := xt_of hr
  have S := sc7
  obtain ⟨P0, w0, K0, mg0, ca0, nm0, hf0, tb0, tq0⟩ := T
  cases hP
  cases hN
  exact (xb_cons (xs_par (i := 2) (j := 3) rfl S.nd rfl rfl (by decide) rfl rfl (xl_own (xe_lst xa_nil)) (xl_pl (xe_idx hX (xe_var 0) (xe_var 1) (fun _ _ => rfl))) rfl rfl rfl rfl)
  (xb_cons (xs_while PassesOwn.never (xt_and (xw_andC (xt_cmp (c_ne hX.K hX.u64) (xe_var 3) (xe_globS t.g3.choose_spec rfl) (nomark _)) (xw_andL (xt_cmp (c_lt) (xe_bif (b_len hX) rfl t.b_len (by decide +kernel) (xv_cons (xe_peek 2) xv_nil rfl) (by decide) (by decide) rfl rfl) (xe_bif (b_len hX) rfl t.b_len (by decide +kernel) (xv_cons (xe_var 0) xv_nil rfl) (by decide) (by decide) rfl rfl) (nomark _))))) (xb_cons (xs_app (i := 2) rfl (by first | exact Or.inl rfl | exact Or.inr (Or.inl rfl) | exact Or.inr (Or.inr rfl)) (by decide) (by decide) (xe_var 3) rfl rfl rfl rfl rfl rfl)
  (xb_cons (xs_set (i := 3) S.nd rfl (by first | exact Or.inl rfl | exact Or.inr rfl) (xl_pl (xe_idx hX (xe_var 0) (xe_var 3) (fun _ _ => rfl))) rfl (.inl rfl))
  xb_nil)))
  (xb_freeze (xb_cons (xs_rt (xe_var 2))
  xb_nil))))
theorem sc8 : FnScope ["value", "hosts", "boxes", "ats", "one", "name", "at", "sort"] ["value"] (defScope s8) := ⟨rfl, rfl, rfl, by decide +kernel, rfl, by decide +kernel, by decide +kernel⟩
theorem body8 (t : Txt T a) (hP : T.hf = hfF) (hN : T.nm = nmF) (D : All T base a n) (cdv : Value) (A : Around) (outer : List PySem.Env) (s : Shared) (H : Hp) (E : XK) (hr : Room (2 * n + 1) (A.deeper (envOfC "are_places" (defScope s8) s.heap.objs.size (a 8) cdv))) :
    PXB (bX T base ["value", "hosts", "boxes", "ats", "one", "name", "at", "sort"] "are_places" s8 (a 8) cdv A outer s H E) T pg (callN pg n) (defBody s8) t8 := by
  have hX : XT T (bX T base ["value", "hosts", "boxes", "ats", "one", "name", "at", "sort"] "are_places" s8 (a 8) cdv A outer s H E) := xt_of hr
  have S := sc8
  obtain ⟨P0, w0, K0, mg0, ca0, nm0, hf0, tb0, tq0⟩ := T
  cases hP
  cases hN
  exact (xb_cons (xs_if (xt_or (xw_orC (xt_not (xt_val (xe_call (D.d2.call hr) (fun _ _ _ _ z => callN_len (pg := pg) z) rfl t.f2 (xa_cons (fun _ z => nomatch z) (xe_var 0) (xa_cons (fun _ z => nomatch z) (xe_globI t.g4.choose_spec rfl) (xa_cons (fun _ z => nomatch z) (xe_globI t.g5.choose_spec rfl) xa_nil rfl) rfl) rfl) (by decide) rfl rfl) (fun _ => rfl))) (xw_orL (xt_not (xt_val (xe_bif (b_all hX) rfl t.b_all (by decide +kernel) (xv_cons (xe_lc (own := [("one", 4)]) hX S.nd (xi_src hX (xe_var 0)) (blkOk_by (N := ["value", "hosts", "boxes", "ats", "one", "name", "at", "sort"]) (sc := defScope s8) (by decide +kernel)) rfl (fun _ _ _ _ _ => (xg_name (i := 4) S.nd rfl (by first | exact Or.inl rfl | exact Or.inr rfl) (by first | exact Or.inl rfl | exact Or.inr rfl))) (fun _ _ _ _ _ => xts_nil) (fun _ _ _ _ _ => (xe_call (D.d6.call hr).blk (fun _ _ _ _ z => callN_len (pg := pg) z) rfl t.f6 (xa_cons (fun _ z => nomatch z) (xe_var 4) xa_nil rfl) (by decide) rfl rfl))) xv_nil rfl) (by decide) (by decide) rfl rfl) (fun _ => rfl)))))) (xb_cons (xs_rt xe_lit)
  xb_nil) xb_nil)
  (xb_cons (xs_setLc (own := [("name", 5), ("at", 6), ("sort", 7)]) hX S.nd (i := 1) rfl rfl (sw_true rfl rfl rfl (by decide +kernel)) (xi_src hX (xe_var 0)) (blkOk_by (N := ["value", "hosts", "boxes", "ats", "one", "name", "at", "sort"]) (sc := defScope s8) (by decide +kernel)) rfl (fun _ _ _ _ _ => (xg_tup hX.blk (xg_cons (xg_name (i := 5) S.nd rfl (by first | exact Or.inl rfl | exact Or.inr rfl) (by first | exact Or.inl rfl | exact Or.inr rfl)) (xg_cons (xg_name (i := 6) S.nd rfl (by first | exact Or.inl rfl | exact Or.inr rfl) (by first | exact Or.inl rfl | exact Or.inr rfl)) (xg_cons (xg_name (i := 7) S.nd rfl (by first | exact Or.inl rfl | exact Or.inr rfl) (by first | exact Or.inl rfl | exact Or.inr rfl)) xg_nil rfl) rfl) rfl) rfl rfl)) (fun _ _ _ _ _ => (xts_one (xt_cmp (c_eq hX.blk.K hX.blk.u64) (xe_var 7) (xe_globS t.g2.choose_spec rfl) (nomark _)))) (fun _ _ _ _ _ => (xe_var 5)))
  (xb_cons (xs_set (i := 2) S.nd rfl (by first | exact Or.inl rfl | exact Or.inr rfl) (xl_pl (xe_lc (own := [("name", 5), ("at", 6), ("sort", 7)]) hX S.nd (xi_src hX (xe_var 0)) (blkOk_by (N := ["value", "hosts", "boxes", "ats", "one", "name", "at", "sort"]) (sc := defScope s8) (by decide +kernel)) rfl (fun _ _ _ _ _ => (xg_tup hX.blk (xg_cons (xg_name (i := 5) S.nd rfl (by first | exact Or.inl rfl | exact Or.inr rfl) (by first | exact Or.inl rfl | exact Or.inr rfl)) (xg_cons (xg_name (i := 6) S.nd rfl (by first | exact Or.inl rfl | exact Or.inr rfl) (by first | exact Or.inl rfl | exact Or.inr rfl)) (xg_cons (xg_name (i := 7) S.nd rfl (by first | exact Or.inl rfl | exact Or.inr rfl) (by first | exact Or.inl rfl | exact Or.inr rfl)) xg_nil rfl) rfl) rfl) rfl rfl)) (fun _ _ _ _ _ => (xts_one (xt_cmp (c_ne hX.blk.K hX.blk.u64) (xe_var 7) (xe_globS t.g2.choose_spec rfl) (nomark _)))) (fun _ _ _ _ _ => (xe_var 5)))) rfl (.inl rfl))
  (xb_cons (xs_if (xt_or (xw_orC (xt_not (xt_cmp2 (c_le) (c_le) xe_lit (xe_bif (b_len hX) rfl t.b_len (by decide +kernel) (xv_cons (xe_var 1) xv_nil rfl) (by decide) (by decide) rfl rfl) (xe_globI t.g6.choose_spec rfl) (by with_unfolding_all rfl))) (xw_orL (xt_not (xt_cmp2 (c_le) (c_le) xe_lit (xe_bif (b_len hX) rfl t.b_len (by decide +kernel) (xv_cons (xe_var 2) xv_nil rfl) (by decide) (by decide) rfl rfl) (xe_globI t.g7.choose_spec rfl) (by with_unfolding_all rfl)))))) (xb_cons (xs_rt xe_lit)
  xb_nil) xb_nil)
  (xb_cons (xs_if (xt_or (xw_orC (xt_not (xt_val (xe_call (D.d5.call hr) (fun _ _ _ _ z => callN_len (pg := pg) z) rfl t.f5 (xa_cons (fun _ z => nomatch z) (xe_bin (o_add hX.K) (xe_var 1) (xe_var 2)) xa_nil rfl) (by decide) rfl rfl) (fun _ => rfl))) (xw_orL (xt_not (xt_val (xe_bif (b_all hX) rfl t.b_all (by decide +kernel) (xv_cons (xe_lc (own := [("name", 5), ("at", 6), ("sort", 7)]) hX S.nd (xi_src hX (xe_var 0)) (blkOk_by (N := ["value", "hosts", "boxes", "ats", "one", "name", "at", "sort"]) (sc := defScope s8) (by decide +kernel)) rfl (fun _ _ _ _ _ => (xg_tup hX.blk (xg_cons (xg_name (i := 5) S.nd rfl (by first | exact Or.inl rfl | exact Or.inr rfl) (by first | exact Or.inl rfl | exact Or.inr rfl)) (xg_cons (xg_name (i := 6) S.nd rfl (by first | exact Or.inl rfl | exact Or.inr rfl) (by first | exact Or.inl rfl | exact Or.inr rfl)) (xg_cons (xg_name (i := 7) S.nd rfl (by first | exact Or.inl rfl | exact Or.inr rfl) (by first | exact Or.inl rfl | exact Or.inr rfl)) xg_nil rfl) rfl) rfl) rfl rfl)) (fun _ _ _ _ _ => xts_nil) (fun _ _ _ _ _ => (xe_or (xe_orC (xe_cmp (c_eq hX.blk.K hX.blk.u64) (xe_var 6) (xe_globS t.g3.choose_spec rfl) (nomark _)) (xe_orL (xe_cmp (c_in hX.blk) (xe_var 6) (xe_var 2) (by with_unfolding_all rfl))))))) xv_nil rfl) (by decide) (by decide) rfl rfl) (fun _ => rfl)))))) (xb_cons (xs_rt xe_lit)
  xb_nil) xb_nil)
  (xb_cons (xs_set (i := 3) S.nd rfl (by first | exact Or.inl rfl | exact Or.inr rfl) (xl_pl (xe_dc (own := [("name", 5), ("at", 6), ("sort", 7)]) hX S.nd (xi_src hX (xe_var 0)) (blkOk_by (N := ["value", "hosts", "boxes", "ats", "one", "name", "at", "sort"]) (sc := defScope s8) (by decide +kernel)) rfl (fun _ _ _ _ _ => (xg_tup hX.blk (xg_cons (xg_name (i := 5) S.nd rfl (by first | exact Or.inl rfl | exact Or.inr rfl) (by first | exact Or.inl rfl | exact Or.inr rfl)) (xg_cons (xg_name (i := 6) S.nd rfl (by first | exact Or.inl rfl | exact Or.inr rfl) (by first | exact Or.inl rfl | exact Or.inr rfl)) (xg_cons (xg_name (i := 7) S.nd rfl (by first | exact Or.inl rfl | exact Or.inr rfl) (by first | exact Or.inl rfl | exact Or.inr rfl)) xg_nil rfl) rfl) rfl) rfl rfl)) (fun _ _ _ _ _ => xts_nil) (fun _ _ _ _ _ => (xe_var 5)) (fun _ _ _ _ _ => (xe_var 6)))) rfl (.inl rfl))
  (xb_cons (xs_rt (xe_bif (b_all hX) rfl t.b_all (by decide +kernel) (xv_cons (xe_lc (own := [("name", 5)]) hX S.nd (xi_src hX (xe_var 2)) (blkOk_by (N := ["value", "hosts", "boxes", "ats", "one", "name", "at", "sort"]) (sc := defScope s8) (by decide +kernel)) rfl (fun _ _ _ _ _ => (xg_name (i := 5) S.nd rfl (by first | exact Or.inl rfl | exact Or.inr rfl) (by first | exact Or.inl rfl | exact Or.inr rfl))) (fun _ _ _ _ _ => xts_nil) (fun _ _ _ _ _ => (xe_cmp (c_notin hX.blk) (xe_var 5) (xe_call (D.d7.call hr).blk (fun _ _ _ _ z => callN_len (pg := pg) z) rfl t.f7 (xa_cons (fun _ z => nomatch z) (xe_var 3) (xa_cons (fun _ z => nomatch z) (xe_var 5) xa_nil rfl) rfl) (by decide) rfl rfl) (by with_unfolding_all rfl)))) xv_nil rfl) (by decide) (by decide) rfl rfl))
  xb_nil)))))))
theorem sc9 : FnScope ["self", "places", "name", "at", "sort"] ["self", "places"] (defScope s9) := ⟨rfl, rfl, rfl, by decide +kernel, rfl, by decide +kernel, by decide +kernel⟩
theorem body9 (t : Txt T a) (hP : T.hf = hfF) (hN : T.nm = nmF) (D : All T base a n) (cdv : Value) (A : Around) (outer : List PySem.Env) (s : Shared) (H : Hp) (E : XK) (hr : Room (2 * n + 1) (A.deeper (envOfC "Net.__init__" (defScope s9) s.heap.objs.size (a 9) cdv))) :
    PXBX (bXX T base ["self", "places", "name", "at", "sort"] "Net.__init__" s9 (a 9) cdv A outer s H E) T pg (callN pg n) E (defBody s9) t9 := by
  have hX : XT T (bXX T base ["self", "places", "name", "at", "sort"] "Net.__init__" s9 (a 9) cdv A outer s H E) := xtx_of hr
  have S := sc9
  obtain ⟨P0, w0, K0, mg0, ca0, nm0, hf0, tb0, tq0⟩ := T
  cases hP
  cases hN
  exact (xbx_cons (xsx_if (xt_not (xt_val (xe_call (D.d8.callX hr) (fun _ _ _ _ z => callN_len (pg := pg) z) rfl t.f8 (xa_cons (fun _ z => nomatch z) (xe_var 1) xa_nil rfl) (by decide) rfl rfl) (fun _ => rfl))) (xbx_cons (xsx_raise (k := 2 * n) rfl bxx_takes t.sup t.y1 t.i1 t.tI hr rfl t.x1 t.b_super (xe_var 1) (by decide) rfl rfl)
  xbx_nil) xbx_nil)
  (xbx_cons (xsx_q (xs_setF hX t.tab rfl (xe_var 0) (xe_var 1) (f := 0) rfl rfl))
  (xbx_cons (xsx_q (xs_setF hX t.tab rfl (xe_var 0) (xe_dc (own := [("name", 2), ("at", 3), ("sort", 4)]) hX S.nd (xi_src hX (xe_var 1)) (blkOk_by (N := ["self", "places", "name", "at", "sort"]) (sc := defScope s9) (by decide +kernel)) rfl (fun _ _ _ _ _ => (xg_tup hX.blk (xg_cons (xg_name (i := 2) S.nd rfl (by first | exact Or.inl rfl | exact Or.inr rfl) (by first | exact Or.inl rfl | exact Or.inr rfl)) (xg_cons (xg_name (i := 3) S.nd rfl (by first | exact Or.inl rfl | exact Or.inr rfl) (by first | exact Or.inl rfl | exact Or.inr rfl)) (xg_cons (xg_name (i := 4) S.nd rfl (by first | exact Or.inl rfl | exact Or.inr rfl) (by first | exact Or.inl rfl | exact Or.inr rfl)) xg_nil rfl) rfl) rfl) rfl rfl)) (fun _ _ _ _ _ => xts_nil) (fun _ _ _ _ _ => (xe_var 2)) (fun _ _ _ _ _ => (xe_var 3))) (f := 1) rfl rfl))
  (xbx_cons (xsx_q (xs_setF hX t.tab rfl (xe_var 0) (xe_bity (b_tuple hX) rfl t.b_tuple (by decide +kernel) (xv_cons (xe_lc (own := [("name", 2), ("at", 3), ("sort", 4)]) hX S.nd (xi_src hX (xe_var 1)) (blkOk_by (N := ["self", "places", "name", "at", "sort"]) (sc := defScope s9) (by decide +kernel)) rfl (fun _ _ _ _ _ => (xg_tup hX.blk (xg_cons (xg_name (i := 2) S.nd rfl (by first | exact Or.inl rfl | exact Or.inr rfl) (by first | exact Or.inl rfl | exact Or.inr rfl)) (xg_cons (xg_name (i := 3) S.nd rfl (by first | exact Or.inl rfl | exact Or.inr rfl) (by first | exact Or.inl rfl | exact Or.inr rfl)) (xg_cons (xg_name (i := 4) S.nd rfl (by first | exact Or.inl rfl | exact Or.inr rfl) (by first | exact Or.inl rfl | exact Or.inr rfl)) xg_nil rfl) rfl) rfl) rfl rfl)) (fun _ _ _ _ _ => (xts_one (xt_cmp (c_eq hX.blk.K hX.blk.u64) (xe_var 4) (xe_globS t.g2.choose_spec rfl) (nomark _)))) (fun _ _ _ _ _ => (xe_var 2))) xv_nil rfl) (by decide) (by decide) rfl rfl) (f := 2) rfl rfl))
  (xbx_cons (xsx_q (xs_setF hX t.tab rfl (xe_var 0) (xe_dc (own := [("name", 2), ("at", 3), ("sort", 4)]) hX S.nd (xi_src hX (xe_var 1)) (blkOk_by (N := ["self", "places", "name", "at", "sort"]) (sc := defScope s9) (by decide +kernel)) rfl (fun _ _ _ _ _ => (xg_tup hX.blk (xg_cons (xg_name (i := 2) S.nd rfl (by first | exact Or.inl rfl | exact Or.inr rfl) (by first | exact Or.inl rfl | exact Or.inr rfl)) (xg_cons (xg_name (i := 3) S.nd rfl (by first | exact Or.inl rfl | exact Or.inr rfl) (by first | exact Or.inl rfl | exact Or.inr rfl)) (xg_cons (xg_name (i := 4) S.nd rfl (by first | exact Or.inl rfl | exact Or.inr rfl) (by first | exact Or.inl rfl | exact Or.inr rfl)) xg_nil rfl) rfl) rfl) rfl rfl)) (fun _ _ _ _ _ => (xts_one (xt_cmp (c_ne hX.blk.K hX.blk.u64) (xe_var 4) (xe_globS t.g2.choose_spec rfl) (nomark _)))) (fun _ _ _ _ _ => (xe_var 2)) (fun _ _ _ _ _ => (xe_var 4))) (f := 3) rfl rfl))
  xbx_nil)))))
theorem sc10 : FnScope ["script", "k", "cell", "mine"] ["script", "k"] (defScope s10) := ⟨rfl, rfl, rfl, by decide +kernel, rfl, by decide +kernel, by decide +kernel⟩
theorem body10 (t : Txt T a) (hP : T.hf = hfF) (hN : T.nm = nmF) (D : All T base a n) (cdv : Value) (A : Around) (outer : List PySem.Env) (s : Shared) (H : Hp) (E : XK) (hr : Room (2 * n + 1) (A.deeper (envOfC "_law_jar" (defScope s10) s.heap.objs.size (a 10) cdv))) :
    PXB (bX T base ["script", "k", "cell", "mine"] "_law_jar" s10 (a 10) cdv A outer s H E) T pg (callN pg n) (defBody s10) t10 := by
  have hX : XT T (bX T base ["script", "k", "cell", "mine"] "_law_jar" s10 (a 10) cdv A outer s H E) := xt_of hr
  have S := sc10
  obtain ⟨P0, w0, K0, mg0, ca0, nm0, hf0, tb0, tq0⟩ := T
  cases hP
  cases hN
  exact (xb_cons (xs_set (i := 2) S.nd rfl (by first | exact Or.inl rfl | exact Or.inr rfl) (xl_pl (xe_iteF (fa := false) (pa := false) (fb := true) (pb := false) (xt_cmp (c_lt) (xe_var 1) (xe_bif (b_len hX) rfl t.b_len (by decide +kernel) (xv_cons (xe_var 0) xv_nil rfl) (by decide) (by decide) rfl rfl) (nomark _)) (xe_idx hX (xe_var 0) (xe_var 1) (fun _ _ => rfl)) (xe_bin (o_add hX.K) (xe_bin (o_mul hX.K) xe_lit (xe_var 1)) xe_lit) rfl rfl)) rfl (.inl rfl))
  (xb_cons (xs_set (i := 3) S.nd rfl (by first | exact Or.inl rfl | exact Or.inr rfl) (xl_pl (xe_bin (o_mul hX.K) (xe_bin (o_mod) (xe_bity (b_int) rfl t.b_int (by decide +kernel) (xv_cons (xe_bif (b_abs) rfl t.b_abs (by decide +kernel) (xv_cons (xe_var 2) xv_nil rfl) (by decide) (by decide) rfl rfl) xv_nil rfl) (by decide) (by decide) rfl rfl) (xe_bin (o_pow) (xe_bin (o_pow) xe_lit xe_lit) xe_lit)) (xe_bity (b_int) rfl t.b_int (by decide +kernel) (xv_cons (xe_cmp (c_ge) (xe_bif (b_abs) rfl t.b_abs (by decide +kernel) (xv_cons (xe_var 2) xv_nil rfl) (by decide) (by decide) rfl rfl) (xe_bin (o_pow) xe_lit xe_lit) (nomark _)) xv_nil rfl) (by decide) (by decide) rfl rfl))) rfl (.inl rfl))
  (xb_cons (xs_rt (xe_new (xa_cons (fun _ z => nomatch z) (xe_var 3) (xa_cons (fun _ z => nomatch z) (xe_bin (o_mod) (xe_bity (b_int) rfl t.b_int (by decide +kernel) (xv_cons (xe_bin (o_add hX.K) (xe_bin (o_add hX.K) (xe_bin (o_mul hX.K) (xe_bin (o_mod) (xe_bity (b_int) rfl t.b_int (by decide +kernel) (xv_cons (xe_var 2) xv_nil rfl) (by decide) (by decide) rfl rfl) xe_lit) xe_lit) (xe_bin (o_mul hX.K) (xe_bin (o_mul hX.K) xe_lit (xe_var 1)) (xe_var 1))) xe_lit) xv_nil rfl) (by decide) (by decide) rfl rfl) xe_lit) (xa_cons (fun _ z => nomatch z) xe_lit xa_nil rfl) rfl) rfl)))
  xb_nil)))
theorem sc11 : FnScope ["jar", "many", "digit", "prime", "made"] ["jar", "many"] (defScope s11) := ⟨rfl, rfl, rfl, by decide +kernel, rfl, by decide +kernel, by decide +kernel⟩
theorem body11 (t : Txt T a) (hP : T.hf = hfF) (hN : T.nm = nmF) (D : All T base a n) (cdv : Value) (A : Around) (outer : List PySem.Env) (s : Shared) (H : Hp) (E : XK) (hr : Room (2 * n + 1) (A.deeper (envOfC "_law_take" (defScope s11) s.heap.objs.size (a 11) cdv))) :
    PXB (bX T base ["jar", "many", "digit", "prime", "made"] "_law_take" s11 (a 11) cdv A outer s H E) T pg (callN pg n) (defBody s11) t11 := by
  have hX : XT T (bX T base ["jar", "many", "digit", "prime", "made"] "_law_take" s11 (a 11) cdv A outer s H E) := xt_of hr
  have S := sc11
  obtain ⟨P0, w0, K0, mg0, ca0, nm0, hf0, tb0, tq0⟩ := T
  cases hP
  cases hN
  exact (xb_cons (xs_if (xt_cmp (c_gt) (xe_idx hX (xe_var 0) xe_lit (fun _ _ => rfl)) xe_lit (nomark _)) (xb_cons (xs_set (i := 2) S.nd rfl (by first | exact Or.inl rfl | exact Or.inr rfl) (xl_pl (xe_bin (o_mod) (xe_bity (b_int) rfl t.b_int (by decide +kernel) (xv_cons (xe_idx hX (xe_var 0) xe_lit (fun _ _ => rfl)) xv_nil rfl) (by decide) (by decide) rfl rfl) (xe_var 1))) rfl (.inl rfl))
  (xb_cons (xs_setI hX (xe_var 0) (xe_bin (o_fdiv) (xe_idx hX (xe_var 0) xe_lit (fun _ _ => rfl)) (xe_var 1)) xe_lit rfl rfl rfl (fun _ => rfl))
  (xb_cons (xs_rt (xe_var 2))
  xb_nil))) xb_nil)
  (xb_cons (xs_setI hX (xe_var 0) (xe_bin (o_add hX.K) (xe_idx hX (xe_var 0) xe_lit (fun _ _ => rfl)) xe_lit) xe_lit rfl rfl rfl (fun _ => rfl))
  (xb_cons (xs_set (i := 3) S.nd rfl (by first | exact Or.inl rfl | exact Or.inr rfl) (xl_pl (xe_idx hX (xe_lst (xa_cons (fun _ z => nomatch z) xe_lit (xa_cons (fun _ z => nomatch z) xe_lit (xa_cons (fun _ z => nomatch z) xe_lit (xa_cons (fun _ z => nomatch z) xe_lit (xa_cons (fun _ z => nomatch z) xe_lit xa_nil rfl) rfl) rfl) rfl) rfl)) (xe_bin (o_mod) (xe_bity (b_int) rfl t.b_int (by decide +kernel) (xv_cons (xe_idx hX (xe_var 0) xe_lit (fun _ _ => rfl)) xv_nil rfl) (by decide) (by decide) rfl rfl) xe_lit) (fun _ _ => rfl))) rfl (.inl rfl))
  (xb_cons (xs_set (i := 4) S.nd rfl (by first | exact Or.inl rfl | exact Or.inr rfl) (xl_pl (xe_bin (o_mod) (xe_bity (b_int) rfl t.b_int (by decide +kernel) (xv_cons (xe_bin (o_pow) (xe_bin (o_add hX.K) (xe_bin (o_add hX.K) (xe_idx hX (xe_var 0) xe_lit (fun _ _ => rfl)) (xe_bin (o_mul hX.K) (xe_bin (o_mul hX.K) xe_lit (xe_idx hX (xe_var 0) xe_lit (fun _ _ => rfl))) (xe_idx hX (xe_var 0) xe_lit (fun _ _ => rfl)))) xe_lit) xe_lit) xv_nil rfl) (by decide) (by decide) rfl rfl) (xe_var 3))) rfl (.inl rfl))
  (xb_cons (xs_set (i := 4) S.nd rfl (by first | exact Or.inl rfl | exact Or.inr rfl) (xl_pl (xe_bin (o_mod) (xe_bity (b_int) rfl t.b_int (by decide +kernel) (xv_cons (xe_bin (o_mul hX.K) (xe_var 4) (xe_bin (o_add hX.K) (xe_bin (o_mod) (xe_bity (b_int) rfl t.b_int (by decide +kernel) (xv_cons (xe_var 4) xv_nil rfl) (by decide) (by decide) rfl rfl) xe_lit) (xe_bin (o_mul hX.K) xe_lit (xe_idx hX (xe_var 0) xe_lit (fun _ _ => rfl))))) xv_nil rfl) (by decide) (by decide) rfl rfl) xe_lit)) rfl (.inl rfl))
  (xb_cons (xs_rt (xe_bin (o_mod) (xe_bity (b_int) rfl t.b_int (by decide +kernel) (xv_cons (xe_bin (o_fdiv) (xe_var 4) xe_lit) xv_nil rfl) (by decide) (by decide) rfl rfl) (xe_var 1)))
  xb_nil))))))
theorem sc12 : FnScope ["jar", "some"] ["jar", "some"] (defScope s12) := ⟨rfl, rfl, rfl, by decide +kernel, rfl, by decide +kernel, by decide +kernel⟩
theorem body12 (t : Txt T a) (hP : T.hf = hfF) (hN : T.nm = nmF) (D : All T base a n) (cdv : Value) (A : Around) (outer : List PySem.Env) (s : Shared) (H : Hp) (E : XK) (hr : Room (2 * n + 1) (A.deeper (envOfC "_law_of" (defScope s12) s.heap.objs.size (a 12) cdv))) :
    PXB (bX T base ["jar", "some"] "_law_of" s12 (a 12) cdv A outer s H E) T pg (callN pg n) (defBody s12) t12 := by
  have hX : XT T (bX T base ["jar", "some"] "_law_of" s12 (a 12) cdv A outer s H E) := xt_of hr
  have S := sc12
  obtain ⟨P0, w0, K0, mg0, ca0, nm0, hf0, tb0, tq0⟩ := T
  cases hP
  cases hN
  exact (xb_cons (xs_rt (xe_idx hX (xe_var 1) (xe_call (D.d11.call hr) (fun _ _ _ _ z => callN_len (pg := pg) z) rfl t.f11 (xa_cons (fun _ z => nomatch z) (xe_var 0) (xa_cons (fun _ z => nomatch z) (xe_bif (b_len hX) rfl t.b_len (by decide +kernel) (xv_cons (xe_var 1) xv_nil rfl) (by decide) (by decide) rfl rfl) xa_nil rfl) rfl) (by decide) rfl rfl) (fun _ _ => rfl)))
  xb_nil)
theorem sc13 : FnScope ["jar", "many", "small", "stem", "spot", "at", "turn", "k"] ["jar", "many"] (defScope s13) := ⟨rfl, rfl, rfl, by decide +kernel, rfl, by decide +kernel, by decide +kernel⟩
theorem body13 (t : Txt T a) (hP : T.hf = hfF) (hN : T.nm = nmF) (D : All T base a n) (cdv : Value) (A : Around) (outer : List PySem.Env) (s : Shared) (H : Hp) (E : XK) (hr : Room (2 * n + 1) (A.deeper (envOfC "_law_names" (defScope s13) s.heap.objs.size (a 13) cdv))) :
    PXB (bX T base ["jar", "many", "small", "stem", "spot", "at", "turn", "k"] "_law_names" s13 (a 13) cdv A outer s H E) T pg (callN pg n) (defBody s13) t13 := by
  have hX : XT T (bX T base ["jar", "many", "small", "stem", "spot", "at", "turn", "k"] "_law_names" s13 (a 13) cdv A outer s H E) := xt_of hr
  have S := sc13
  obtain ⟨P0, w0, K0, mg0, ca0, nm0, hf0, tb0, tq0⟩ := T
  cases hP
  cases hN
  exact (xb_cons (xs_set (i := 2) S.nd rfl (by first | exact Or.inl rfl | exact Or.inr rfl) (xl_pl xe_lit) rfl (.inl rfl))
  (xb_cons (xs_set (i := 3) S.nd rfl (by first | exact Or.inl rfl | exact Or.inr rfl) (xl_pl (xe_join xe_lit (xe_lc (own := [("turn", 6)]) hX S.nd (xi_rng1 t.b_range (xe_call (D.d12.call hr) (fun _ _ _ _ z => callN_len (pg := pg) z) rfl t.f12 (xa_cons (fun _ z => nomatch z) (xe_var 0) (xa_cons (fun _ z => nomatch z) (xe_lst (xa_cons (fun _ z => nomatch z) xe_lit (xa_cons (fun _ z => nomatch z) xe_lit (xa_cons (fun _ z => nomatch z) xe_lit (xa_cons (fun _ z => nomatch z) xe_lit (xa_cons (fun _ z => nomatch z) xe_lit xa_nil rfl) rfl) rfl) rfl) rfl)) xa_nil rfl) rfl) (by decide) rfl rfl)) (blkOk_by (N := ["jar", "many", "small", "stem", "spot", "at", "turn", "k"]) (sc := defScope s13) (by decide +kernel)) rfl (fun _ _ _ _ _ => (xg_name (i := 6) S.nd rfl (by first | exact Or.inl rfl | exact Or.inr rfl) (by first | exact Or.inl rfl | exact Or.inr rfl))) (fun _ _ _ _ _ => xts_nil) (fun _ _ _ _ _ => (xe_call (D.d12.call hr).blk (fun _ _ _ _ z => callN_len (pg := pg) z) rfl t.f12 (xa_cons (fun _ z => nomatch z) (xe_var 0) (xa_cons (fun _ z => nomatch z) (xe_var 2) xa_nil rfl) rfl) (by decide) rfl rfl))) rfl rfl rfl)) rfl (.inl rfl))
  (xb_cons (xs_tgt (xe_tup (xa_cons (fun _ z => nomatch z) (xe_call (D.d11.call hr) (fun _ _ _ _ z => callN_len (pg := pg) z) rfl t.f11 (xa_cons (fun _ z => nomatch z) (xe_var 0) (xa_cons (fun _ z => nomatch z) (xe_bin (o_add hX.K) (xe_bif (b_len hX) rfl t.b_len (by decide +kernel) (xv_cons (xe_var 3) xv_nil rfl) (by decide) (by decide) rfl rfl) xe_lit) xa_nil rfl) rfl) (by decide) rfl rfl) (xa_cons (fun _ z => nomatch z) (xe_call (D.d11.call hr) (fun _ _ _ _ z => callN_len (pg := pg) z) rfl t.f11 (xa_cons (fun _ z => nomatch z) (xe_var 0) (xa_cons (fun _ z => nomatch z) xe_lit xa_nil rfl) rfl) (by decide) rfl rfl) xa_nil rfl) rfl)) (xg_tup hX (xg_cons (xg_name (i := 4) S.nd rfl (by first | exact Or.inl rfl | exact Or.inr rfl) (by first | exact Or.inl rfl | exact Or.inr rfl)) (xg_cons (xg_name (i := 5) S.nd rfl (by first | exact Or.inl rfl | exact Or.inr rfl) (by first | exact Or.inl rfl | exact Or.inr rfl)) xg_nil rfl) rfl) rfl rfl) rfl rfl rfl)
  (xb_cons (xs_rt (xe_lc (own := [("k", 7)]) hX S.nd (xi_rng1 t.b_range (xe_var 1)) (blkOk_by (N := ["jar", "many", "small", "stem", "spot", "at", "turn", "k"]) (sc := defScope s13) (by decide +kernel)) rfl (fun _ _ _ _ _ => (xg_name (i := 7) S.nd rfl (by first | exact Or.inl rfl | exact Or.inr rfl) (by first | exact Or.inl rfl | exact Or.inr rfl))) (fun _ _ _ _ _ => xts_nil) (fun _ _ _ _ _ => (xe_bin (o_add hX.blk.K) (xe_bin (o_add hX.blk.K) (xe_slc hX.blk (xe_var 3) xo_none (xo_some (xe_var 4))) (xe_idx hX.blk (xe_var 2) (xe_bin (o_mod) (xe_bity (b_int) rfl t.b_int (by decide +kernel) (xv_cons (xe_bin (o_add hX.blk.K) (xe_var 5) (xe_bin (o_mul hX.blk.K) xe_lit (xe_var 7))) xv_nil rfl) (by decide) (by decide) rfl rfl) xe_lit) (fun _ _ => rfl))) (xe_slc hX.blk (xe_var 3) (xo_some (xe_var 4)) xo_none)))))
  xb_nil))))
theorem sc14 : FnScope ["jar", "thing", "turn"] ["jar"] (defScope s14) := ⟨rfl, rfl, rfl, by decide +kernel, rfl, by decide +kernel, by decide +kernel⟩
theorem body14 (t : Txt T a) (hP : T.hf = hfF) (hN : T.nm = nmF) (D : All T base a n) (cdv : Value) (A : Around) (outer : List PySem.Env) (s : Shared) (H : Hp) (E : XK) (hr : Room (2 * n + 1) (A.deeper (envOfC "_law_odd" (defScope s14) s.heap.objs.size (a 14) cdv))) :
    PXB (bX T base ["jar", "thing", "turn"] "_law_odd" s14 (a 14) cdv A outer s H E) T pg (callN pg n) (defBody s14) t14 := by
  have hX : XT T (bX T base ["jar", "thing", "turn"] "_law_odd" s14 (a 14) cdv A outer s H E) := xt_of hr
  have S := sc14
  obtain ⟨P0, w0, K0, mg0, ca0, nm0, hf0, tb0, tq0⟩ := T
  cases hP
  cases hN
  exact (xb_cons (xs_set (i := 1) S.nd rfl (by first | exact Or.inl rfl | exact Or.inr rfl) (xl_pl (xe_call (D.d12.call hr) (fun _ _ _ _ z => callN_len (pg := pg) z) rfl t.f12 (xa_cons (fun _ z => nomatch z) (xe_var 0) (xa_cons (fun _ z => nomatch z) (xe_lst (xa_cons (fun _ z => nomatch z) xe_lit (xa_cons (fun _ z => nomatch z) xe_lit (xa_cons (fun _ z => nomatch z) xe_lit (xa_cons (fun _ z => nomatch z) xe_lit (xa_cons (fun _ z => nomatch z) xe_lit (xa_cons (fun _ z => nomatch z) (xe_neg xe_lit) (xa_cons (fun _ z => nomatch z) xe_lit (xa_cons (fun _ z => nomatch z) xe_lit (xa_cons (fun _ z => nomatch z) xe_lit (xa_cons (fun _ z => nomatch z) xe_lit (xa_cons (fun _ z => nomatch z) (xe_tup xa_nil) (xa_cons (fun _ z => nomatch z) (xe_lst xa_nil) (xa_cons (fun _ z => nomatch z) xe_dct0 (xa_cons (fun _ z => nomatch z) (xe_tup (xa_cons (fun _ z => nomatch z) xe_lit xa_nil rfl)) (xa_cons (fun _ z => nomatch z) (xe_tup (xa_cons (fun _ z => nomatch z) xe_lit (xa_cons (fun _ z => nomatch z) xe_lit xa_nil rfl) rfl)) xa_nil rfl) rfl) rfl) rfl) rfl) rfl) rfl) rfl) rfl) rfl) rfl) rfl) rfl) rfl) rfl)) xa_nil rfl) rfl) (by decide) rfl rfl)) rfl (.inl rfl))
  (xb_cons (xs_for PassesOwn.never rfl (xi_rng1 t.b_range (xe_call (D.d12.call hr) (fun _ _ _ _ z => callN_len (pg := pg) z) rfl t.f12 (xa_cons (fun _ z => nomatch z) (xe_var 0) (xa_cons (fun _ z => nomatch z) (xe_lst (xa_cons (fun _ z => nomatch z) xe_lit (xa_cons (fun _ z => nomatch z) xe_lit (xa_cons (fun _ z => nomatch z) xe_lit (xa_cons (fun _ z => nomatch z) xe_lit (xa_cons (fun _ z => nomatch z) xe_lit (xa_cons (fun _ z => nomatch z) xe_lit xa_nil rfl) rfl) rfl) rfl) rfl) rfl)) xa_nil rfl) rfl) (by decide) rfl rfl)) (xg_name (i := 2) S.nd rfl (by first | exact Or.inl rfl | exact Or.inr rfl) (by first | exact Or.inl rfl | exact Or.inr rfl)) (xb_cons (xs_set (i := 1) S.nd rfl (by first | exact Or.inl rfl | exact Or.inr rfl) (xl_pl (xe_call (D.d12.call hr) (fun _ _ _ _ z => callN_len (pg := pg) z) rfl t.f12 (xa_cons (fun _ z => nomatch z) (xe_var 0) (xa_cons (fun _ z => nomatch z) (xe_lst (xa_cons (fun _ z => nomatch z) (xe_tup (xa_cons (fun _ z => nomatch z) (xe_var 1) xa_nil rfl)) (xa_cons (fun _ z => nomatch z) (xe_lst (xa_cons (fun _ z => nomatch z) (xe_var 1) xa_nil rfl)) (xa_cons (fun _ z => nomatch z) (xe_dct1 (xe_var 1) rfl) (xa_cons (fun _ z => nomatch z) (xe_tup (xa_cons (fun _ z => nomatch z) (xe_var 1) (xa_cons (fun _ z => nomatch z) xe_lit xa_nil rfl) rfl)) xa_nil rfl) rfl) rfl) rfl)) xa_nil rfl) rfl) (by decide) rfl rfl)) rfl (.inl rfl))
  xb_nil) (fun _ => rfl))
  (xb_cons (xs_rt (xe_var 1))
  xb_nil)))
theorem sc15 : FnScope ["jar", "value", "deep", "at", "way"] ["jar", "value", "deep"] (defScope s15) := ⟨rfl, rfl, rfl, by decide +kernel, rfl, by decide +kernel, by decide +kernel⟩
theorem body15 (t : Txt T a) (hP : T.hf = hfF) (hN : T.nm = nmF) (D : All T base a n) (cdv : Value) (A : Around) (outer : List PySem.Env) (s : Shared) (H : Hp) (E : XK) (hr : Room (2 * n + 1) (A.deeper (envOfC "_law_twisted" (defScope s15) s.heap.objs.size (a 15) cdv))) :
    PXB (bX T base ["jar", "value", "deep", "at", "way"] "_law_twisted" s15 (a 15) cdv A outer s H E) T pg (callN pg n) (defBody s15) t15 := by
  have hX : XT T (bX T base ["jar", "value", "deep", "at", "way"] "_law_twisted" s15 (a 15) cdv A outer s H E) := xt_of hr
  have S := sc15
  obtain ⟨P0, w0, K0, mg0, ca0, nm0, hf0, tb0, tq0⟩ := T
  cases hP
  cases hN
  exact (xb_cons (xs_if (xt_or (xw_orC (xt_not (xt_val (xe_isi (t := .tuple) hX rfl t.b_isinstance rfl t.b_tuple (by decide +kernel) (by decide) (by decide) (xe_var 1) rfl rfl rfl) (fun _ => rfl))) (xw_orC (xt_cmp (c_eq hX.K hX.u64) (xe_var 1) (xe_tup xa_nil) (nomark _)) (xw_orC (xt_cmp (c_eq hX.K hX.u64) (xe_var 2) xe_lit (nomark _)) (xw_orL (xt_cmp (c_eq hX.K hX.u64) (xe_call (D.d11.call hr) (fun _ _ _ _ z => callN_len (pg := pg) z) rfl t.f11 (xa_cons (fun _ z => nomatch z) (xe_var 0) (xa_cons (fun _ z => nomatch z) xe_lit xa_nil rfl) rfl) (by decide) rfl rfl) xe_lit (nomark _))))))) (xb_cons (xs_rt (xe_call (D.d12.call hr) (fun _ _ _ _ z => callN_len (pg := pg) z) rfl t.f12 (xa_cons (fun _ z => nomatch z) (xe_var 0) (xa_cons (fun _ z => nomatch z) (xe_lst (xa_cons (fun _ z => nomatch z) xe_lit (xa_cons (fun _ z => nomatch z) xe_lit (xa_cons (fun _ z => nomatch z) xe_lit (xa_cons (fun _ z => nomatch z) xe_lit (xa_cons (fun _ z => nomatch z) xe_lit (xa_cons (fun _ z => nomatch z) xe_lit (xa_cons (fun _ z => nomatch z) xe_lit (xa_cons (fun _ z => nomatch z) (xe_tup xa_nil) (xa_cons (fun _ z => nomatch z) (xe_lst xa_nil) (xa_cons (fun _ z => nomatch z) xe_dct0 (xa_cons (fun _ z => nomatch z) (xe_tup (xa_cons (fun _ z => nomatch z) xe_lit xa_nil rfl)) (xa_cons (fun _ z => nomatch z) (xe_tup (xa_cons (fun _ z => nomatch z) (xe_tup (xa_cons (fun _ z => nomatch z) xe_lit (xa_cons (fun _ z => nomatch z) xe_lit xa_nil rfl) rfl)) xa_nil rfl)) xa_nil rfl) rfl) rfl) rfl) rfl) rfl) rfl) rfl) rfl) rfl) rfl) rfl)) xa_nil rfl) rfl) (by decide) rfl rfl))
  xb_nil) xb_nil)
  (xb_cons (xs_par (i := 3) (j := 4) rfl S.nd rfl rfl (by decide) rfl rfl (xl_pl (xe_call (D.d11.call hr) (fun _ _ _ _ z => callN_len (pg := pg) z) rfl t.f11 (xa_cons (fun _ z => nomatch z) (xe_var 0) (xa_cons (fun _ z => nomatch z) (xe_bif (b_len hX) rfl t.b_len (by decide +kernel) (xv_cons (xe_var 1) xv_nil rfl) (by decide) (by decide) rfl rfl) xa_nil rfl) rfl) (by decide) rfl rfl)) (xl_pl (xe_call (D.d11.call hr) (fun _ _ _ _ z => callN_len (pg := pg) z) rfl t.f11 (xa_cons (fun _ z => nomatch z) (xe_var 0) (xa_cons (fun _ z => nomatch z) xe_lit xa_nil rfl) rfl) (by decide) rfl rfl)) rfl rfl rfl rfl)
  (xb_cons (xs_if (xt_cmp (c_lt) (xe_var 4) xe_lit (nomark _)) (xb_cons (xs_rt (xe_idx hX (xe_lst (xa_cons (fun _ z => nomatch z) (xe_bin (o_add hX.K) (xe_slc hX (xe_var 1) xo_none (xo_some (xe_var 3))) (xe_slc hX (xe_var 1) (xo_some (xe_bin (o_add hX.K) (xe_var 3) xe_lit)) xo_none)) (xa_cons (fun _ z => nomatch z) (xe_bin (o_add hX.K) (xe_bin (o_add hX.K) (xe_slc hX (xe_var 1) xo_none (xo_some (xe_var 3))) (xe_tup (xa_cons (fun _ z => nomatch z) (xe_idx hX (xe_var 1) (xe_var 3) (fun _ _ => rfl)) xa_nil rfl))) (xe_slc hX (xe_var 1) (xo_some (xe_var 3)) xo_none)) (xa_cons (fun _ z => nomatch z) (xe_bity (b_list hX) rfl t.b_list (by decide +kernel) (xv_cons (xe_var 1) xv_nil rfl) (by decide) (by decide) rfl rfl) xa_nil rfl) rfl) rfl)) (xe_var 4) (fun _ _ => rfl)))
  xb_nil) xb_nil)
  (xb_cons (xs_rt (xe_bin (o_add hX.K) (xe_bin (o_add hX.K) (xe_slc hX (xe_var 1) xo_none (xo_some (xe_var 3))) (xe_tup (xa_cons (fun _ z => nomatch z) (xe_call (D.d15.call hr) (fun _ _ _ _ z => callN_len (pg := pg) z) rfl t.f15 (xa_cons (fun _ z => nomatch z) (xe_var 0) (xa_cons (fun _ z => nomatch z) (xe_idx hX (xe_var 1) (xe_var 3) (fun _ _ => rfl)) (xa_cons (fun _ z => nomatch z) (xe_bin (o_sub) (xe_var 2) xe_lit) xa_nil rfl) rfl) rfl) (by decide) rfl rfl) xa_nil rfl))) (xe_slc hX (xe_var 1) (xo_some (xe_bin (o_add hX.K) (xe_var 3) xe_lit)) xo_none)))
  xb_nil))))
theorem sc16 : FnScope ["thing", "sign"] ["thing"] (defScope s16) := ⟨rfl, rfl, rfl, by decide +kernel, rfl, by decide +kernel, by decide +kernel⟩
theorem body16 (t : Txt T a) (hP : T.hf = hfF) (hN : T.nm = nmF) (D : All T base a n) (cdv : Value) (A : Around) (outer : List PySem.Env) (s : Shared) (H : Hp) (E : XK) (hr : Room (2 * n + 1) (A.deeper (envOfC "_law_is_name" (defScope s16) s.heap.objs.size (a 16) cdv))) :
    PXB (bX T base ["thing", "sign"] "_law_is_name" s16 (a 16) cdv A outer s H E) T pg (callN pg n) (defBody s16) t16 := by
  have hX : XT T (bX T base ["thing", "sign"] "_law_is_name" s16 (a 16) cdv A outer s H E) := xt_of hr
  have S := sc16
  obtain ⟨P0, w0, K0, mg0, ca0, nm0, hf0, tb0, tq0⟩ := T
  cases hP
  cases hN
  exact (xb_cons (xs_rt (xe_and (xe_andC (xe_isi (t := .str) hX rfl t.b_isinstance rfl t.b_str (by decide +kernel) (by decide) (by decide) (xe_var 0) rfl rfl rfl) (xe_andC (xe_cmp2 (c_le) (c_le) xe_lit (xe_bif (b_len hX) rfl t.b_len (by decide +kernel) (xv_cons (xe_var 0) xv_nil rfl) (by decide) (by decide) rfl rfl) xe_lit (by with_unfolding_all rfl)) (xe_andL (xe_bif (b_all hX) rfl t.b_all (by decide +kernel) (xv_cons (xe_lc (own := [("sign", 1)]) hX S.nd (xi_sgn (xe_var 0)) (blkOk_by (N := ["thing", "sign"]) (sc := defScope s16) (by decide +kernel)) rfl (fun _ _ _ _ _ => (xg_name (i := 1) S.nd rfl (by first | exact Or.inl rfl | exact Or.inr rfl) (by first | exact Or.inl rfl | exact Or.inr rfl))) (fun _ _ _ _ _ => xts_nil) (fun _ _ _ _ _ => (xe_cmp2 (c_le) (c_le) xe_lit (xe_var 1) xe_lit (by with_unfolding_all rfl)))) xv_nil rfl) (by decide) (by decide) rfl rfl))))))
  xb_nil)
theorem sc17 : FnScope ["thing", "is_box", "is_host"] ["thing"] (defScope s17) := ⟨rfl, rfl, rfl, by decide +kernel, rfl, by decide +kernel, by decide +kernel⟩
theorem body17 (t : Txt T a) (hP : T.hf = hfF) (hN : T.nm = nmF) (D : All T base a n) (cdv : Value) (A : Around) (outer : List PySem.Env) (s : Shared) (H : Hp) (E : XK) (hr : Room (2 * n + 1) (A.deeper (envOfC "_law_is_place" (defScope s17) s.heap.objs.size (a 17) cdv))) :
    PXB (bX T base ["thing", "is_box", "is_host"] "_law_is_place" s17 (a 17) cdv A outer s H E) T pg (callN pg n) (defBody s17) t17 := by
  have hX : XT T (bX T base ["thing", "is_box", "is_host"] "_law_is_place" s17 (a 17) cdv A outer s H E) := xt_of hr
  have S := sc17
  obtain ⟨P0, w0, K0, mg0, ca0, nm0, hf0, tb0, tq0⟩ := T
  cases hP
  cases hN
  exact (xb_cons (xs_if (xt_or (xw_orC (xt_not (xt_val (xe_isi (t := .tuple) hX rfl t.b_isinstance rfl t.b_tuple (by decide +kernel) (by decide) (by decide) (xe_var 0) rfl rfl rfl) (fun _ => rfl))) (xw_orC (xt_cmp (c_ne hX.K hX.u64) (xe_bif (b_len hX) rfl t.b_len (by decide +kernel) (xv_cons (xe_var 0) xv_nil rfl) (by decide) (by decide) rfl rfl) xe_lit (nomark _)) (xw_orL (xt_not (xt_val (xe_call (D.d16.call hr) (fun _ _ _ _ z => callN_len (pg := pg) z) rfl t.f16 (xa_cons (fun _ z => nomatch z) (xe_idx hX (xe_var 0) xe_lit (fun _ _ => rfl)) xa_nil rfl) (by decide) rfl rfl) (fun _ => rfl))))))) (xb_cons (xs_rt xe_lit)
  xb_nil) xb_nil)
  (xb_cons (xs_set (i := 1) S.nd rfl (by first | exact Or.inl rfl | exact Or.inr rfl) (xl_pl (xe_and (xe_andC (xe_isi (t := .int) hX rfl t.b_isinstance rfl t.b_int (by decide +kernel) (by decide) (by decide) (xe_idx hX (xe_var 0) xe_lit (fun _ _ => rfl)) rfl rfl rfl) (xe_andC (xe_not (xe_isi (t := .bool) hX rfl t.b_isinstance rfl t.b_bool (by decide +kernel) (by decide) (by decide) (xe_idx hX (xe_var 0) xe_lit (fun _ _ => rfl)) rfl rfl rfl)) (xe_andL (xe_cmp2 (c_le) (c_le) xe_lit (xe_idx hX (xe_var 0) xe_lit (fun _ _ => rfl)) xe_lit (by with_unfolding_all rfl))))))) rfl (.inl rfl))
  (xb_cons (xs_set (i := 2) S.nd rfl (by first | exact Or.inl rfl | exact Or.inr rfl) (xl_pl (xe_and (xe_andC (xe_isi (t := .str) hX rfl t.b_isinstance rfl t.b_str (by decide +kernel) (by decide) (by decide) (xe_idx hX (xe_var 0) xe_lit (fun _ _ => rfl)) rfl rfl rfl) (xe_andL (xe_cmp (c_eq hX.K hX.u64) (xe_idx hX (xe_var 0) xe_lit (fun _ _ => rfl)) xe_lit (nomark _)))))) rfl (.inl rfl))
  (xb_cons (xs_rt (xe_and (xe_andC (xe_or (xe_orC (xe_var 1) (xe_orL (xe_var 2)))) (xe_andC (xe_isi (t := .str) hX rfl t.b_isinstance rfl t.b_str (by decide +kernel) (by decide) (by decide) (xe_idx hX (xe_var 0) xe_lit (fun _ _ => rfl)) rfl rfl rfl) (xe_andL (xe_or (xe_orC (xe_cmp (c_eq hX.K hX.u64) (xe_idx hX (xe_var 0) xe_lit (fun _ _ => rfl)) xe_lit (nomark _)) (xe_orL (xe_call (D.d16.call hr) (fun _ _ _ _ z => callN_len (pg := pg) z) rfl t.f16 (xa_cons (fun _ z => nomatch z) (xe_idx hX (xe_var 0) xe_lit (fun _ _ => rfl)) xa_nil rfl) (by decide) rfl rfl)))))))))
  xb_nil))))
theorem sc18 : FnScope ["thing", "names", "box_names", "ats", "box", "at", "turn", "one"] ["thing"] (defScope s18) := ⟨rfl, rfl, rfl, by decide +kernel, rfl, by decide +kernel, by decide +kernel⟩
theorem body18 (t : Txt T a) (hP : T.hf = hfF) (hN : T.nm = nmF) (D : All T base a n) (cdv : Value) (A : Around) (outer : List PySem.Env) (s : Shared) (H : Hp) (E : XK) (hr : Room (2 * n + 1) (A.deeper (envOfC "_law_is_net" (defScope s18) s.heap.objs.size (a 18) cdv))) :
    PXB (bX T base ["thing", "names", "box_names", "ats", "box", "at", "turn", "one"] "_law_is_net" s18 (a 18) cdv A outer s H E) T pg (callN pg n) (defBody s18) t18 := by
  have hX : XT T (bX T base ["thing", "names", "box_names", "ats", "box", "at", "turn", "one"] "_law_is_net" s18 (a 18) cdv A outer s H E) := xt_of hr
  have S := sc18
  obtain ⟨P0, w0, K0, mg0, ca0, nm0, hf0, tb0, tq0⟩ := T
  cases hP
  cases hN
  exact (xb_cons (xs_if (xt_or (xw_orC (xt_not (xt_val (xe_isi (t := .tuple) hX rfl t.b_isinstance rfl t.b_tuple (by decide +kernel) (by decide) (by decide) (xe_var 0) rfl rfl rfl) (fun _ => rfl))) (xw_orC (xt_not (xt_cmp2 (c_le) (c_le) xe_lit (xe_bif (b_len hX) rfl t.b_len (by decide +kernel) (xv_cons (xe_var 0) xv_nil rfl) (by decide) (by decide) rfl rfl) xe_lit (by with_unfolding_all rfl))) (xw_orL (xt_not (xt_val (xe_bif (b_all hX) rfl t.b_all (by decide +kernel) (xv_cons (xe_lc (own := [("one", 7)]) hX S.nd (xi_src hX (xe_var 0)) (blkOk_by (N := ["thing", "names", "box_names", "ats", "box", "at", "turn", "one"]) (sc := defScope s18) (by decide +kernel)) rfl (fun _ _ _ _ _ => (xg_name (i := 7) S.nd rfl (by first | exact Or.inl rfl | exact Or.inr rfl) (by first | exact Or.inl rfl | exact Or.inr rfl))) (fun _ _ _ _ _ => xts_nil) (fun _ _ _ _ _ => (xe_call (D.d17.call hr).blk (fun _ _ _ _ z => callN_len (pg := pg) z) rfl t.f17 (xa_cons (fun _ z => nomatch z) (xe_var 7) xa_nil rfl) (by decide) rfl rfl))) xv_nil rfl) (by decide) (by decide) rfl rfl) (fun _ => rfl))))))) (xb_cons (xs_rt xe_lit)
  xb_nil) xb_nil)
  (xb_cons (xs_tgt (xe_tup (xa_cons (fun _ z => nomatch z) (xe_lc (own := [("one", 7)]) hX S.nd (xi_src hX (xe_var 0)) (blkOk_by (N := ["thing", "names", "box_names", "ats", "box", "at", "turn", "one"]) (sc := defScope s18) (by decide +kernel)) rfl (fun _ _ _ _ _ => (xg_name (i := 7) S.nd rfl (by first | exact Or.inl rfl | exact Or.inr rfl) (by first | exact Or.inl rfl | exact Or.inr rfl))) (fun _ _ _ _ _ => xts_nil) (fun _ _ _ _ _ => (xe_idx hX.blk (xe_var 7) xe_lit (fun _ _ => rfl)))) (xa_cons (fun _ z => nomatch z) (xe_lc (own := [("one", 7)]) hX S.nd (xi_src hX (xe_var 0)) (blkOk_by (N := ["thing", "names", "box_names", "ats", "box", "at", "turn", "one"]) (sc := defScope s18) (by decide +kernel)) rfl (fun _ _ _ _ _ => (xg_name (i := 7) S.nd rfl (by first | exact Or.inl rfl | exact Or.inr rfl) (by first | exact Or.inl rfl | exact Or.inr rfl))) (fun _ _ _ _ _ => (xts_one (xt_cmp (c_ne hX.blk.K hX.blk.u64) (xe_idx hX.blk (xe_var 7) xe_lit (fun _ _ => rfl)) xe_lit (nomark _)))) (fun _ _ _ _ _ => (xe_idx hX.blk (xe_var 7) xe_lit (fun _ _ => rfl)))) xa_nil rfl) rfl)) (xg_tup hX (xg_cons (xg_name (i := 1) S.nd rfl (by first | exact Or.inl rfl | exact Or.inr rfl) (by first | exact Or.inl rfl | exact Or.inr rfl)) (xg_cons (xg_name (i := 2) S.nd rfl (by first | exact Or.inl rfl | exact Or.inr rfl) (by first | exact Or.inl rfl | exact Or.inr rfl)) xg_nil rfl) rfl) rfl rfl) rfl rfl rfl)
  (xb_cons (xs_if (xt_or (xw_orC (xt_cmp (c_ne hX.K hX.u64) (xe_lns hX rfl t.b_len rfl t.b_set (xe_var 1) rfl) (xe_bif (b_len hX) rfl t.b_len (by decide +kernel) (xv_cons (xe_var 1) xv_nil rfl) (by decide) (by decide) rfl rfl) (nomark _)) (xw_orC (xt_not (xt_cmp2 (c_le) (c_le) xe_lit (xe_bif (b_len hX) rfl t.b_len (by decide +kernel) (xv_cons (xe_var 2) xv_nil rfl) (by decide) (by decide) rfl rfl) xe_lit (by with_unfolding_all rfl))) (xw_orL (xt_not (xt_cmp2 (c_le) (c_le) xe_lit (xe_bin (o_sub) (xe_bif (b_len hX) rfl t.b_len (by decide +kernel) (xv_cons (xe_var 1) xv_nil rfl) (by decide) (by decide) rfl rfl) (xe_bif (b_len hX) rfl t.b_len (by decide +kernel) (xv_cons (xe_var 2) xv_nil rfl) (by decide) (by decide) rfl rfl)) xe_lit (by with_unfolding_all rfl))))))) (xb_cons (xs_rt xe_lit)
  xb_nil) xb_nil)
  (xb_cons (xs_set (i := 3) S.nd rfl (by first | exact Or.inl rfl | exact Or.inr rfl) (xl_pl (xe_dictOf hX rfl t.b_dict (xe_lc (own := [("one", 7)]) hX S.nd (xi_src hX (xe_var 0)) (blkOk_by (N := ["thing", "names", "box_names", "ats", "box", "at", "turn", "one"]) (sc := defScope s18) (by decide +kernel)) rfl (fun _ _ _ _ _ => (xg_name (i := 7) S.nd rfl (by first | exact Or.inl rfl | exact Or.inr rfl) (by first | exact Or.inl rfl | exact Or.inr rfl))) (fun _ _ _ _ _ => xts_nil) (fun _ _ _ _ _ => (xe_slc hX.blk (xe_var 7) xo_none (xo_some xe_lit)))) rfl)) rfl (.inl rfl))
  (xb_cons (xs_if (xt_not (xt_val (xe_bif (b_all hX) rfl t.b_all (by decide +kernel) (xv_cons (xe_lc (own := [("at", 5)]) hX S.nd (xi_vals (xe_var 3) rfl rfl) (blkOk_by (N := ["thing", "names", "box_names", "ats", "box", "at", "turn", "one"]) (sc := defScope s18) (by decide +kernel)) rfl (fun _ _ _ _ _ => (xg_name (i := 5) S.nd rfl (by first | exact Or.inl rfl | exact Or.inr rfl) (by first | exact Or.inl rfl | exact Or.inr rfl))) (fun _ _ _ _ _ => xts_nil) (fun _ _ _ _ _ => (xe_or (xe_orC (xe_cmp (c_eq hX.blk.K hX.blk.u64) (xe_var 5) xe_lit (nomark _)) (xe_orL (xe_cmp (c_in hX.blk) (xe_var 5) (xe_var 2) (by with_unfolding_all rfl))))))) xv_nil rfl) (by decide) (by decide) rfl rfl) (fun _ => rfl))) (xb_cons (xs_rt xe_lit)
  xb_nil) xb_nil)
  (xb_cons (xs_for PassesOwn.never rfl (xi_src hX (xe_var 2)) (xg_name (i := 4) S.nd rfl (by first | exact Or.inl rfl | exact Or.inr rfl) (by first | exact Or.inl rfl | exact Or.inr rfl)) (xb_cons (xs_set (i := 5) S.nd rfl (by first | exact Or.inl rfl | exact Or.inr rfl) (xl_pl (xe_idx hX (xe_var 3) (xe_var 4) (fun _ _ => rfl))) rfl (.inl rfl))
  (xb_cons (xs_for PassesOwn.never rfl (xi_rng1 t.b_range xe_lit) (xg_name (i := 6) S.nd rfl (by first | exact Or.inl rfl | exact Or.inr rfl) (by first | exact Or.inl rfl | exact Or.inr rfl)) (xb_cons (xs_set (i := 5) S.nd rfl (by first | exact Or.inl rfl | exact Or.inr rfl) (xl_pl (xe_iteF (fa := false) (pa := false) (fb := false) (pb := false) (xt_cmp (c_ne hX.K hX.u64) (xe_var 5) xe_lit (nomark _)) (xe_idx hX (xe_var 3) (xe_var 5) (fun _ _ => rfl)) xe_lit rfl rfl)) rfl (.inl rfl))
  xb_nil) (fun _ => rfl))
  (xb_cons (xs_if (xt_cmp (c_ne hX.K hX.u64) (xe_var 5) xe_lit (nomark _)) (xb_cons (xs_rt xe_lit)
  xb_nil) xb_nil)
  xb_nil))) (fun _ => rfl))
  (xb_cons (xs_rt xe_lit)
  xb_nil)))))))
theorem sc19 : FnScope ["jar", "names", "rows", "many", "box_names", "name", "sort", "some", "at"] ["jar"] (defScope s19) := ⟨rfl, rfl, rfl, by decide +kernel, rfl, by decide +kernel, by decide +kernel⟩
theorem body19 (t : Txt T a) (hP : T.hf = hfF) (hN : T.nm = nmF) (D : All T base a n) (cdv : Value) (A : Around) (outer : List PySem.Env) (s : Shared) (H : Hp) (E : XK) (hr : Room (2 * n + 1) (A.deeper (envOfC "_law_places" (defScope s19) s.heap.objs.size (a 19) cdv))) :
    PXB (bX T base ["jar", "names", "rows", "many", "box_names", "name", "sort", "some", "at"] "_law_places" s19 (a 19) cdv A outer s H E) T pg (callN pg n) (defBody s19) t19 := by
  have hX : XT T (bX T base ["jar", "names", "rows", "many", "box_names", "name", "sort", "some", "at"] "_law_places" s19 (a 19) cdv A outer s H E) := xt_of hr
  have S := sc19
  obtain ⟨P0, w0, K0, mg0, ca0, nm0, hf0, tb0, tq0⟩ := T
  cases hP
  cases hN
  exact (xb_cons (xs_par (i := 1) (j := 2) rfl S.nd rfl rfl (by decide) rfl rfl (xl_pl (xe_call (D.d13.call hr) (fun _ _ _ _ z => callN_len (pg := pg) z) rfl t.f13 (xa_cons (fun _ z => nomatch z) (xe_var 0) (xa_cons (fun _ z => nomatch z) xe_lit xa_nil rfl) rfl) (by decide) rfl rfl)) (xl_own (xe_lst xa_nil)) rfl rfl rfl rfl)
  (xb_cons (xs_set (i := 3) S.nd rfl (by first | exact Or.inl rfl | exact Or.inr rfl) (xl_pl (xe_bin (o_add hX.K) xe_lit (xe_call (D.d11.call hr) (fun _ _ _ _ z => callN_len (pg := pg) z) rfl t.f11 (xa_cons (fun _ z => nomatch z) (xe_var 0) (xa_cons (fun _ z => nomatch z) xe_lit xa_nil rfl) rfl) (by decide) rfl rfl))) rfl (.inl rfl))
  (xb_cons (xs_set (i := 4) S.nd rfl (by first | exact Or.inl rfl | exact Or.inr rfl) (xl_pl (xe_slc hX (xe_var 1) xo_none (xo_some (xe_bin (o_add hX.K) xe_lit (xe_call (D.d12.call hr) (fun _ _ _ _ z => callN_len (pg := pg) z) rfl t.f12 (xa_cons (fun _ z => nomatch z) (xe_var 0) (xa_cons (fun _ z => nomatch z) (xe_lst (xa_cons (fun _ z => nomatch z) xe_lit (xa_cons (fun _ z => nomatch z) xe_lit (xa_cons (fun _ z => nomatch z) xe_lit (xa_cons (fun _ z => nomatch z) xe_lit (xa_cons (fun _ z => nomatch z) xe_lit (xa_cons (fun _ z => nomatch z) xe_lit xa_nil rfl) rfl) rfl) rfl) rfl) rfl)) xa_nil rfl) rfl) (by decide) rfl rfl))))) rfl (.inl rfl))
  (xb_cons (xs_for PassesOwn.never rfl (xi_src hX (xe_slc hX (xe_var 1) xo_none (xo_some (xe_bif (b_max hX) rfl t.b_max (by decide +kernel) (xv_cons (xe_var 3) (xv_cons (xe_bif (b_len hX) rfl t.b_len (by decide +kernel) (xv_cons (xe_var 4) xv_nil rfl) (by decide) (by decide) rfl rfl) xv_nil rfl) rfl) (by decide) (by decide) rfl rfl)))) (xg_name (i := 5) S.nd rfl (by first | exact Or.inl rfl | exact Or.inr rfl) (by first | exact Or.inl rfl | exact Or.inr rfl)) (xb_cons (xs_set (i := 6) S.nd rfl (by first | exact Or.inl rfl | exact Or.inr rfl) (xl_pl (xe_iteF (fa := true) (pa := false) (fb := false) (pb := false) (xt_cmp (c_in hX) (xe_var 5) (xe_var 4) (by with_unfolding_all rfl)) (xe_bin (o_add hX.K) xe_lit (xe_call (D.d11.call hr) (fun _ _ _ _ z => callN_len (pg := pg) z) rfl t.f11 (xa_cons (fun _ z => nomatch z) (xe_var 0) (xa_cons (fun _ z => nomatch z) xe_lit xa_nil rfl) rfl) (by decide) rfl rfl)) xe_lit rfl rfl)) rfl (.inl rfl))
  (xb_cons (xs_set (i := 7) S.nd rfl (by first | exact Or.inl rfl | exact Or.inr rfl) (xl_pl (xe_iteF (fa := true) (pa := false) (fb := true) (pb := false) (xt_cmp (c_in hX) (xe_var 5) (xe_var 4) (by with_unfolding_all rfl)) (xe_bin (o_add hX.K) (xe_lst (xa_cons (fun _ z => nomatch z) xe_lit xa_nil rfl)) (xe_slc hX (xe_var 4) xo_none (xo_some (xe_ixo hX (xe_var 4) (xe_var 5) rfl rfl rfl rfl rfl)))) (xe_bin (o_add hX.K) (xe_lst (xa_cons (fun _ z => nomatch z) xe_lit xa_nil rfl)) (xe_var 4)) rfl rfl)) rfl (.inl rfl))
  (xb_cons (xs_app (i := 2) rfl (by first | exact Or.inl rfl | exact Or.inr (Or.inl rfl) | exact Or.inr (Or.inr rfl)) (by decide) (by decide) (xe_tup (xa_cons (fun _ z => nomatch z) (xe_var 5) (xa_cons (fun _ z => nomatch z) (xe_call (D.d12.call hr) (fun _ _ _ _ z => callN_len (pg := pg) z) rfl t.f12 (xa_cons (fun _ z => nomatch z) (xe_var 0) (xa_cons (fun _ z => nomatch z) (xe_bin (o_add hX.K) (xe_var 7) (xe_bin (o_mul hX.K) (xe_lst (xa_cons (fun _ z => nomatch z) (xe_call (D.d12.call hr) (fun _ _ _ _ z => callN_len (pg := pg) z) rfl t.f12 (xa_cons (fun _ z => nomatch z) (xe_var 0) (xa_cons (fun _ z => nomatch z) (xe_var 1) xa_nil rfl) rfl) (by decide) rfl rfl) xa_nil rfl)) (xe_bity (b_int) rfl t.b_int (by decide +kernel) (xv_cons (xe_cmp (c_eq hX.K hX.u64) (xe_call (D.d11.call hr) (fun _ _ _ _ z => callN_len (pg := pg) z) rfl t.f11 (xa_cons (fun _ z => nomatch z) (xe_var 0) (xa_cons (fun _ z => nomatch z) xe_lit xa_nil rfl) rfl) (by decide) rfl rfl) xe_lit (nomark _)) xv_nil rfl) (by decide) (by decide) rfl rfl))) xa_nil rfl) rfl) (by decide) rfl rfl) (xa_cons (fun _ z => nomatch z) (xe_var 6) xa_nil rfl) rfl) rfl)) rfl rfl rfl rfl rfl rfl)
  xb_nil))) (fun _ => rfl))
  (xb_cons (xs_set (i := 8) S.nd rfl (by first | exact Or.inl rfl | exact Or.inr rfl) (xl_pl (xe_call (D.d11.call hr) (fun _ _ _ _ z => callN_len (pg := pg) z) rfl t.f11 (xa_cons (fun _ z => nomatch z) (xe_var 0) (xa_cons (fun _ z => nomatch z) (xe_bif (b_len hX) rfl t.b_len (by decide +kernel) (xv_cons (xe_peek 2) xv_nil rfl) (by decide) (by decide) rfl rfl) xa_nil rfl) rfl) (by decide) rfl rfl)) rfl (.inl rfl))
  (xb_cons (xs_rt (xe_bity (b_tuple hX) rfl t.b_tuple (by decide +kernel) (xv_cons (xe_bin (o_add hX.K) (xe_slc hX (xe_peek 2) (xo_some (xe_var 8)) xo_none) (xe_slc hX (xe_peek 2) xo_none (xo_some (xe_var 8)))) xv_nil rfl) (by decide) (by decide) rfl rfl))
  xb_nil))))))
theorem sc20 : FnScope ["jar", "rows", "some", "thing", "caught", "turn"] ["jar"] (defScope s20) := ⟨rfl, rfl, rfl, by decide +kernel, rfl, by decide +kernel, by decide +kernel⟩
theorem body20 (t : Txt T a) (hP : T.hf = hfF) (hN : T.nm = nmF) (D : All T base a n) (c : Addr) (D' : All T base a (n - 1)) (TB : LamX.TabB base T.mg c T.tb) {fdM : FuncData} (uM : Fun T.K "_law_caught" "_law_caught" sM (a 23) fdM) (bM0 : Binds T.K fdM ["call"] []) (A : Around) (outer : List PySem.Env) (s : Shared) (H : Hp) (E : XK) (hr : Room (2 * n + 1) (A.deeper (envOfC "_law_right" (defScope s20) s.heap.objs.size (a 20) (.ref c)))) (hg : A.guards = some []) :
    PXB (bX T base ["jar", "rows", "some", "thing", "caught", "turn"] "_law_right" s20 (a 20) (.ref c) A outer s H E) T pg (callN pg n) (defBody s20) t20 := by
  have hX : XT T (bX T base ["jar", "rows", "some", "thing", "caught", "turn"] "_law_right" s20 (a 20) (.ref c) A outer s H E) := xt_of hr
  have S := sc20
  obtain ⟨ocM, odM, kVM, dcM, pmM, anM, cdM, ctM, slM, eM, lkM, hcM⟩ := uM.ex
  have bM := eM ▸ bM0
  rw [eM] at lkM
  have tqE := t.tqE
  obtain ⟨P0, w0, K0, mg0, ca0, nm0, hf0, tb0, tq0⟩ := T
  cases hP
  cases hN
  cases tqE
  exact (xb_cons (xs_set (i := 1) S.nd rfl (by first | exact Or.inl rfl | exact Or.inr rfl) (xl_pl (xe_call (D.d19.call hr) (fun _ _ _ _ z => callN_len (pg := pg) z) rfl t.f19 (xa_cons (fun _ z => nomatch z) (xe_var 0) xa_nil rfl) (by decide) rfl rfl)) rfl (.inl rfl))
  (xb_cons (xs_set (i := 2) S.nd rfl (by first | exact Or.inl rfl | exact Or.inr rfl) (xl_pl (xe_lst (xa_cons (fun _ z => nomatch z) (xe_var 1) (xa_cons (fun _ z => nomatch z) (xe_rev hX (xe_var 1)) (xa_cons (fun _ z => nomatch z) (xe_bity (b_list hX) rfl t.b_list (by decide +kernel) (xv_cons (xe_var 1) xv_nil rfl) (by decide) (by decide) rfl rfl) (xa_cons (fun _ z => nomatch z) (xe_call (D.d14.call hr) (fun _ _ _ _ z => callN_len (pg := pg) z) rfl t.f14 (xa_cons (fun _ z => nomatch z) (xe_var 0) xa_nil rfl) (by decide) rfl rfl) (xa_cons (fun _ z => nomatch z) (xe_bin (o_add hX.K) (xe_var 1) (xe_slc hX (xe_var 1) xo_none (xo_some xe_lit))) xa_nil rfl) rfl) rfl) rfl) rfl))) rfl (.inl rfl))
  (xb_cons (xs_for PassesOwn.never rfl (xi_src hX (xe_bin (o_add hX.K) (xe_var 2) (xe_lc (own := [("turn", 5)]) hX S.nd (xi_rng1 t.b_range xe_lit) (blkOk_by (N := ["jar", "rows", "some", "thing", "caught", "turn"]) (sc := defScope s20) (by decide +kernel)) rfl (fun _ _ _ _ _ => (xg_name (i := 5) S.nd rfl (by first | exact Or.inl rfl | exact Or.inr rfl) (by first | exact Or.inl rfl | exact Or.inr rfl))) (fun _ _ _ _ _ => xts_nil) (fun _ _ _ _ _ => (xe_call (D.d15.call hr).blk (fun _ _ _ _ z => callN_len (pg := pg) z) rfl t.f15 (xa_cons (fun _ z => nomatch z) (xe_var 0) (xa_cons (fun _ z => nomatch z) (xe_var 1) (xa_cons (fun _ z => nomatch z) xe_lit xa_nil rfl) rfl) rfl) (by decide) rfl rfl))))) (xg_name (i := 3) S.nd rfl (by first | exact Or.inl rfl | exact Or.inr rfl) (by first | exact Or.inl rfl | exact Or.inr rfl)) (xb_cons (xs_set (i := 4) S.nd rfl (by first | exact Or.inl rfl | exact Or.inr rfl) (xl_pl (xe_cauK (n := n) (is := [3]) (cs := csE) (as := (.cons (.var 0) .nil)) (qs := ["self", "places"]) hX rfl t.fM uM.kp lkM hcM bM scM rfl (.inl rfl) (cauG t _ rfl rfl) t.exm TB rfl rfl hr (LamX.lamS_by (sc := defScope s20) (by decide +kernel)) rfl (fun _ _ _ _ _ => rfl) D'.d9 rfl rfl t.c0 t.cls0 t.mk0 rfl (by decide) (by decide) rfl (fun _ _ _ _ _ _ _ => rfl) (fun _ _ _ _ _ _ _ => rfl)
          (fun A outer s H E f c' hr2 => show PXA _ _ pg (callN pg (n - 1)) _ (.cons (.var 3) .nil) from (xa_cons (fun _ z => nomatch z) (xe_var 3) xa_nil rfl)))) rfl (.inl rfl))
  (xb_cons (xs_if (xt_cmp (c_ne hX.K hX.u64) (xe_cmp (c_is) (xe_var 4) xe_lit (nomark _)) (xe_call (D.d18.call hr) (fun _ _ _ _ z => callN_len (pg := pg) z) rfl t.f18 (xa_cons (fun _ z => nomatch z) (xe_var 3) xa_nil rfl) (by decide) rfl rfl) (nomark _)) (xb_cons (xs_rt xe_lit)
  xb_nil) xb_nil)
  (xb_cons (xs_if (xt_and (xw_andC (xt_cmp (c_isnot) (xe_var 4) xe_lit (nomark _)) (xw_andL (xt_or (xw_orC (xt_not (xt_val (xe_isx hX t.errs (by decide) rfl t.b_isinstance rfl t.x1 (by decide) (xe_var 4) rfl rfl rfl) (fun _ => rfl))) (xw_orL (xt_not (xt_val (xe_isv hX t.errs t.isV rfl t.b_isinstance rfl t.b_ValueError (xe_var 4) rfl rfl rfl) (fun _ => rfl))))))))) (xb_cons (xs_rt xe_lit)
  xb_nil) xb_nil)
  (xb_cons (xs_if (xt_and (xw_andC (xt_cmp (c_isnot) (xe_var 4) xe_lit (nomark _)) (xw_andL (xt_cmp (c_ne hX.K hX.u64) (xe_bif (b_reprA hX hg) rfl t.b_repr (by decide +kernel) (xv_cons (xe_exv hX t.errs (xe_var 4) rfl) xv_nil rfl) (by decide) (by decide) rfl rfl) (xe_bif (b_reprA hX hg) rfl t.b_repr (by decide +kernel) (xv_cons (xe_var 3) xv_nil rfl) (by decide) (by decide) rfl rfl) (nomark _))))) (xb_cons (xs_rt xe_lit)
  xb_nil) xb_nil)
  xb_nil)))) (fun _ => rfl))
  (xb_cons (xs_rt xe_lit)
  xb_nil))))
theorem sc21 : FnScope ["script", "k", "jar", "turn"] ["script"] (defScope s21) := ⟨rfl, rfl, rfl, by decide +kernel, rfl, by decide +kernel, by decide +kernel⟩
theorem body21 (t : Txt T a) (hP : T.hf = hfF) (hN : T.nm = nmF) (D : All T base a n) (cdv : Value) (A : Around) (outer : List PySem.Env) (s : Shared) (H : Hp) (E : XK) (hr : Room (2 * n + 1) (A.deeper (envOfC "law" (defScope s21) s.heap.objs.size (a 21) cdv))) (hg : A.guards = some []) :
    PXB (bX T base ["script", "k", "jar", "turn"] "law" s21 (a 21) cdv A outer s H E) T pg (callN pg n) (defBody s21) t21 := by
  have hX : XT T (bX T base ["script", "k", "jar", "turn"] "law" s21 (a 21) cdv A outer s H E) := xt_of hr
  have S := sc21
  obtain ⟨P0, w0, K0, mg0, ca0, nm0, hf0, tb0, tq0⟩ := T
  cases hP
  cases hN
  exact (xb_cons (xs_for PassesOwn.never rfl (xi_rng1 t.b_range (xe_bif (b_max hX) rfl t.b_max (by decide +kernel) (xv_cons xe_lit (xv_cons (xe_bif (b_min hX) rfl t.b_min (by decide +kernel) (xv_cons xe_lit (xv_cons (xe_bif (b_len hX) rfl t.b_len (by decide +kernel) (xv_cons (xe_var 0) xv_nil rfl) (by decide) (by decide) rfl rfl) xv_nil rfl) rfl) (by decide) (by decide) rfl rfl) xv_nil rfl) rfl) (by decide) (by decide) rfl rfl)) (xg_name (i := 1) S.nd rfl (by first | exact Or.inl rfl | exact Or.inr rfl) (by first | exact Or.inl rfl | exact Or.inr rfl)) (xb_cons (xs_set (i := 2) S.nd rfl (by first | exact Or.inl rfl | exact Or.inr rfl) (xl_pl (xe_call (D.d10.call hr) (fun _ _ _ _ z => callN_len (pg := pg) z) rfl t.f10 (xa_cons (fun _ z => nomatch z) (xe_var 0) (xa_cons (fun _ z => nomatch z) (xe_var 1) xa_nil rfl) rfl) (by decide) rfl rfl)) rfl (.inl rfl))
  (xb_cons (xs_if (xt_not (xt_val (xe_bif (b_all hX) rfl t.b_all (by decide +kernel) (xv_cons (xe_lc (own := [("turn", 3)]) hX S.nd (xi_rng1 t.b_range xe_lit) (blkOk_by (N := ["script", "k", "jar", "turn"]) (sc := defScope s21) (by decide +kernel)) rfl (fun _ _ _ _ _ => (xg_name (i := 3) S.nd rfl (by first | exact Or.inl rfl | exact Or.inr rfl) (by first | exact Or.inl rfl | exact Or.inr rfl))) (fun _ _ _ _ _ => xts_nil) (fun _ _ _ _ _ => (xe_callG (D.d20.call hr hg).blk (fun _ _ _ _ z => callN_len (pg := pg) z) rfl t.f20 (xa_cons (fun _ z => nomatch z) (xe_var 2) xa_nil rfl) (by decide) rfl rfl))) xv_nil rfl) (by decide) (by decide) rfl rfl) (fun _ => rfl))) (xb_cons (xs_rt xe_lit)
  xb_nil) xb_nil)
  xb_nil)) (fun _ => rfl))
  (xb_cons (xs_rt xe_lit)
  xb_nil))
end
end K35
end ZK35a
section ZK35m
set_option Elab.async false
set_option linter.all false
set_option maxRecDepth 100000
set_option maxHeartbeats 400000
namespace K35
open PySem PD
/-! places -/
structure Row where
  nm : Str
  at_ : Str
  so : Option Int
def soD : Option Int → D
  | none => .str "host"
  | some k => .int k
def rowD (r : Row) : D := .tup [.str r.nm, .str r.at_, soD r.so]
def isB (r : Row) : Bool := r.so.isSome
def isH (r : Row) : Bool := r.so.isNone
def bx (R : List Row) : List Str := (R.filter isB).map (·.nm)
def hs (R : List Row) : List Str := (R.filter isH).map (·.nm)
def nms (R : List Row) : List Str := R.map (·.nm)
def low (s : Str) : Bool := (cl s).all fun c => decide (97 ≤ c) && decide (c ≤ 122)
structure Nm (s : Str) : Prop where
  len : 1 ≤ s.length ∧ s.length ≤ 8
  low : low s = true
theorem low_asc {s : Str} (h : low s = true) : asc s = true := by
  unfold asc
  unfold low at h
  rw [List.all_eq_true] at h ⊢
  intro c hc
  have := h c hc
  simp only [Bool.and_eq_true, decide_eq_true_eq] at this ⊢
  omega
theorem Nm.asc {s : Str} (h : Nm s) : asc s = true := low_asc h.low
theorem Nm.ne {s : Str} (h : Nm s) : s ≠ "" := fun e => by
  subst e
  exact absurd h.len.1 (by decide)
theorem nr_row (r : Row) : NR (rowD r) := nr_tup
theorem nst_var {k : Nat} : ∀ y, PD.X.var k ≠ .star y := fun _ z => nomatch z
theorem nst_idx {a b : PD.X} : ∀ y, PD.X.idx a b ≠ .star y := fun _ z => nomatch z
theorem nst_lit {a : D} : ∀ y, PD.X.lit a ≠ .star y := fun _ z => nomatch z
theorem nst_glob {a : Nat} : ∀ y, PD.X.glob a ≠ .star y := fun _ z => nomatch z
theorem nst_tup {a : PD.X} : ∀ y, PD.X.tup a ≠ .star y := fun _ z => nomatch z
theorem nst_bin {o : Bop} {a b : PD.X} : ∀ y, PD.X.bin o a b ≠ .star y := fun _ z => nomatch z
theorem nst_call {f : Nat} {a : PD.X} : ∀ y, PD.X.call f a ≠ .star y := fun _ z => nomatch z
theorem lim1000 : 1000 ≤ LIM := by unfold LIM; omega
/-! forms -/
theorem int_ev (n : Nat) (i : Int) (st : Store) : callN pg (n + 1) 0 [.int i] st = .ok (.bl true) st := rfl
theorem intS_ev (n : Nat) (s : Str) (st : Store) : callN pg (n + 1) 0 [.str s] st = .ok (.bl false) st := rfl
theorem btw_ev (n : Nat) (i lo hi : Int) (st : Store) : callN pg (n + 2) 1 [.int i, .int lo, .int hi] st = .ok (.bl (decide (lo ≤ i) && decide (i ≤ hi))) st :=
  callRt (fd := ⟨3, 3, t1⟩) (env := [.v (.int i), .v (.int lo), .v (.int hi)]) rfl rfl rfl (evB_rtS (ev_rtS (ev_and2T (ev_callS (arg1S (st1 := st) (d := .int i) nst_var rfl) (int_ev n i st)) (ev_leleS rfl rfl rfl))))
theorem tuple_ev (n : Nat) (ds : List D) (lo hi : Int) (st : Store) : callN pg (n + 1) 2 [.tup ds, .int lo, .int hi] st = .ok (.bl (decide (lo ≤ (ds.length : Int)) && decide ((ds.length : Int) ≤ hi))) st :=
  callRt (fd := ⟨3, 3, t2⟩) (env := [.v (.tup ds), .v (.int lo), .v (.int hi)]) rfl rfl rfl (evB_rtS (ev_rtS (ev_and2T (st1 := st) rfl (ev_leleS (i := ds.length) rfl rfl rfl))))
def smallS : Str := "abcdefghijklmnopqrstuvwxyz"
theorem small_has {c : Nat} (h : (decide (97 ≤ c) && decide (c ≤ 122)) = true) : (cl smallS).contains c = true := by
  simp only [Bool.and_eq_true, decide_eq_true_eq] at h
  have key : ∀ k : Fin 26, (cl smallS).contains (97 + k.1) = true := by decide +kernel
  have := key ⟨c - 97, by omega⟩
  rwa [show 97 + (c - 97) = c by omega] at this
theorem len_str (s : Str) (h : s.length ≤ LIM) : biD .len [.str s] = some (.int s.length) := by
  show (if s.length ≤ LIM then some (D.int s.length) else none) = _
  rw [if_pos h]
theorem name_ev (n : Nat) {s : Str} (h : Nm s) (st : Store) : callN pg (n + 1) 3 [.str s] st = .ok (.bl true) st := by
  refine callRt (fd := ⟨1, 2, t3⟩) (env := [.v (.str s), .no]) rfl rfl rfl (evB_rtS (ev_rtS ?_))
  have hl : s.length ≤ LIM := by have := lim1000; have := h.len.2; omega
  refine (ev_andT (st1 := st) rfl).trans ?_
  refine (ev_andT (st1 := st) ?_).trans ?_
  · have := ev_leleS (P := pg) (cf := callN pg n) (env := [.v (.str s), .no]) (st := st) (e1 := .lit (.int 1)) (e2 := .bif .len (.cons (.var 0) .nil)) (e3 := .glob 1) (lo := 1) (i := s.length) (hi := 8) rfl (ev_bif1S (d := .str s) rfl nr_str (len_str s hl)) rfl
    exact this.trans (by rw [decide_eq_true (show (1 : Int) ≤ s.length by have := h.len.1; omega), decide_eq_true (show (s.length : Int) ≤ 8 by have := h.len.2; omega)]; rfl)
  · rw [ev_and1]
    have := ev_allS (P := pg) (cf := callN pg n) (env := [.v (.str s), .no]) (st := st) (st1 := st) (x := .lc [1] (.tv 1) (.sgn (.var 0)) (.lit (.bl true)) (.cmp .in_ (.var 1) (.glob 0))) (bs := (cl s).map fun _ => true) (by
      rw [List.map_map]
      refine ev_lcA (as := cl s) (fun (c : Nat) => D.str ⟨#[c]⟩) (fun _ => D.bl true) (ev_sgnS (z := s) rfl) (by rw [cl_len]; exact hl) fun c hc => ⟨[.v (.str s), .v (.str ⟨#[c]⟩)], rfl, ?_⟩
      refine ev_cmpS (d := .str ⟨#[c]⟩) (e := .str smallS) (st1 := st) rfl rfl nr_str nr_str ?_
      show some ((cl smallS).contains c) = some true
      rw [small_has (List.all_eq_true.mp h.low c hc)])
    refine this.trans ?_
    congr 2
    rw [List.all_map]
    exact List.all_eq_true.mpr fun _ _ => rfl
theorem name0_ev (n : Nat) (st : Store) : callN pg (n + 1) 3 [.str ""] st = .ok (.bl false) st := rfl
/-- strings in a tuple -/
def strsD (L : List Str) : List D := L.map .str
theorem strs_plain : ∀ {L : List Str}, (∀ s ∈ L, asc s = true) → D.plainAll (strsD L) = true ∧ D.depthAll (strsD L) = 0
  | [], _ => ⟨rfl, rfl⟩
  | s :: L, h => by
    obtain ⟨h1, h2⟩ := strs_plain (L := L) fun x hx => h x (List.mem_cons_of_mem _ hx)
    have h0 : s.cps.all (fun c => decide (c < 1114112)) = true := by
      rw [← Array.all_toList]; exact h s (List.mem_cons_self ..)
    refine ⟨?_, ?_⟩
    · show ((D.str s).plain && D.plainAll (strsD L)) = true
      rw [h1]
      simp only [D.plain, h0]; rfl
    · show max (D.str s).depth (D.depthAll (strsD L)) = 0
      rw [h2]; simp only [D.depth]; rfl
theorem strs_ok {L : List Str} (h : ∀ s ∈ L, asc s = true) : (D.tup (strsD L)).eqOk = true ∧ (D.lst (strsD L)).eqOk = true := by
  obtain ⟨h1, h2⟩ := strs_plain h
  unfold D.eqOk
  simp only [D.plain, D.depth, h1, h2]
  exact ⟨rfl, rfl⟩
theorem any_strs (s : Str) : ∀ L : List Str, (strsD L).any (fun z => z.eqv (.str s)) = L.contains s
  | [] => rfl
  | x :: L => by
    show ((x == s) || (strsD L).any fun z => z.eqv (.str s)) = _
    rw [any_strs s L, List.contains_cons]
    rw [show (s == x) = (x == s) from BEq.comm]
theorem in_tup {s : Str} {L : List Str} (hs : asc s = true) (h : ∀ s ∈ L, asc s = true) : cmpD .in_ (.str s) (.tup (strsD L)) = some (L.contains s) := by
  show (if (D.str s).eqOk && (D.tup (strsD L)).eqOk then some ((strsD L).any fun z => z.eqv (.str s)) else none) = _
  rw [asc_eqOk hs, (strs_ok h).1, any_strs]; rfl
theorem in_lst {s : Str} {L : List Str} (hs : asc s = true) (h : ∀ s ∈ L, asc s = true) : cmpD .in_ (.str s) (.lst (strsD L)) = some (L.contains s) := by
  show (if (D.str s).eqOk && (D.lst (strsD L)).eqOk then some ((strsD L).any fun z => z.eqv (.str s)) else none) = _
  rw [asc_eqOk hs, (strs_ok h).2, any_strs]; rfl
theorem notin_lst {s : Str} {L : List Str} (hs : asc s = true) (h : ∀ s ∈ L, asc s = true) : cmpD .notin (.str s) (.lst (strsD L)) = some (!L.contains s) := by
  show (if (D.str s).eqOk && (D.lst (strsD L)).eqOk then some (!(strsD L).any fun z => z.eqv (.str s)) else none) = _
  rw [asc_eqOk hs, (strs_ok h).2, any_strs]; rfl
theorem eq_str {s t : Str} (hs : asc s = true) (ht : asc t = true) : cmpD .eq (.str s) (.str t) = some (s == t) := by
  show (if (D.str s).eqOk && (D.str t).eqOk then some ((D.str s).eqv (.str t)) else none) = _
  rw [asc_eqOk hs, asc_eqOk ht]; rfl
theorem ne_str {s t : Str} (hs : asc s = true) (ht : asc t = true) : cmpD .ne (.str s) (.str t) = some (!(s == t)) := by
  show (if (D.str s).eqOk && (D.str t).eqOk then some (!(D.str s).eqv (.str t)) else none) = _
  rw [asc_eqOk hs, asc_eqOk ht]; rfl
theorem word_ev (n : Nat) {s : Str} {L : List Str} (hs : asc s = true) (h : ∀ s ∈ L, asc s = true) (st : Store) : callN pg (n + 1) 4 [.str s, .tup (strsD L)] st = .ok (.bl (L.contains s)) st :=
  callRt (fd := ⟨2, 2, t4⟩) (env := [.v (.str s), .v (.tup (strsD L))]) rfl rfl rfl (evB_rtS (ev_rtS (ev_and2T (st1 := st) rfl (ev_cmpS (st1 := st) rfl rfl nr_str nr_tup (in_tup hs h)))))
/-- no string: no word -/
def strB : D → Bool
  | .str _ => true
  | _ => false
theorem wordN_ev (n : Nat) {d w : D} (h : isTy .str d = some false) (st : Store) : callN pg (n + 1) 4 [d, w] st = .ok (.bl false) st := by
  refine callRt (fd := ⟨2, 2, t4⟩) (env := [.v d, .v w]) rfl rfl rfl (evB_rtS (ev_rtS (ev_andF (ev_bif1S (d := d) rfl ?_ ?_))))
  · intro i e; subst e; exact nomatch h
  · show (isTy .str d).map D.bl = _
    rw [h]; rfl
/-! different ones -/
theorem enumL_zip : ∀ (L : List Str) (k : Nat), enumL k (strsD L) = (L.zipIdx k).map fun p => D.tup [.int (p.2 : Nat), .str p.1]
  | [], _ => rfl
  | s :: L, k => by
    show D.tup [.int (k : Nat), .str s] :: enumL (k + 1) (strsD L) = _
    rw [enumL_zip L (k + 1)]; rfl
theorem cutL_drop {α : Type} (xs : List α) (i : Nat) (h : i ≤ xs.length) : cutL xs (some (i : Int)) none = xs.drop i := by
  unfold cutL
  have e1 : HT.sIx xs.length 0 (some (i : Int)) = i := by
    rw [HT.sIx_nat]; omega
  rw [e1, HT.sIx_none, List.take_of_length_le]
  rw [List.length_drop]; omega
theorem cutL_take {α : Type} (xs : List α) (i : Nat) (h : i ≤ xs.length) : cutL xs none (some (i : Int)) = xs.take i := by
  unfold cutL
  have e1 : HT.sIx xs.length xs.length (some (i : Int)) = i := by
    rw [HT.sIx_nat]; omega
  rw [e1, HT.sIx_none, Nat.sub_zero, List.drop_zero]
theorem cutL_mid {α : Type} (xs : List α) (i j : Nat) (hi : i ≤ xs.length) : cutL xs (some (i : Int)) (some (j : Int)) = (xs.drop i).take (j - i) := by
  unfold cutL
  have e1 : HT.sIx xs.length 0 (some (i : Int)) = i := by
    rw [HT.sIx_nat]; omega
  rw [e1, HT.sIx_nat]
  by_cases h : j ≤ xs.length
  · rw [Nat.min_eq_left h]
  · rw [Nat.min_eq_right (by omega)]
    rw [List.take_of_length_le (by rw [List.length_drop]; exact Nat.le_refl _), List.take_of_length_le (by rw [List.length_drop]; omega)]
theorem diff_ev (n : Nat) {L : List Str} (hn : L.Nodup) (h : ∀ s ∈ L, asc s = true) (hl : L.length ≤ 1000) (st : Store) : callN pg (n + 1) 5 [.lst (strsD L)] st = .ok (.bl true) st := by
  refine callRt (fd := ⟨1, 3, t5⟩) (env := [.v (.lst (strsD L)), .no, .no]) rfl rfl rfl (evB_rtS (ev_rtS ?_))
  have := ev_allS (P := pg) (cf := callN pg n) (env := [.v (.lst (strsD L)), .no, .no]) (st := st) (st1 := st) (x := .lc [1, 2] (.tt (.cons (.tv 1) (.cons (.tv 2) .nil))) (.enu (.var 0)) (.lit (.bl true)) (.cmp .notin (.var 2) (.slc (.var 0) (.cons (.bin .add (.var 1) (.lit (.int 1))) .nil) .nil))) (bs := L.zipIdx.map fun _ => true) (by
    rw [List.map_map]
    refine ev_lcA (as := L.zipIdx) (fun p => D.tup [.int (p.2 : Nat), .str p.1]) (fun _ => D.bl true) ((ev_enuS (ds := strsD L) rfl).trans (by rw [enumL_zip])) (by have := lim1000; rw [List.length_zipIdx]; omega) fun p hp => ⟨[.v (.lst (strsD L)), .v (.int (p.2 : Nat)), .v (.str p.1)], rfl, ?_⟩
    obtain ⟨s, i⟩ := p
    have hi := List.mk_mem_zipIdx_iff_getElem?.mp hp
    obtain ⟨hlt, hget⟩ := List.getElem?_eq_some_iff.mp hi
    have hs : asc s = true := h s (hget ▸ List.getElem_mem hlt)
    have hd : ∀ x ∈ L.drop (i + 1), asc x = true := fun x hx => h x (List.mem_of_mem_drop hx)
    refine ev_cmpS (d := .str s) (e := .lst (strsD (L.drop (i + 1)))) (st1 := st) rfl ?_ nr_str nr_lst ?_
    · refine ev_slcS (d := .lst (strsD L)) (st1 := st) (st2 := st) (lo := some ((i + 1 : Nat) : Int)) (hi := none) rfl (ev_oS (i := ((i + 1 : Nat) : Int)) rfl) rfl nr_lst ?_
      show some (D.lst (cutL (strsD L) (some ((i + 1 : Nat) : Int)) none)) = _
      rw [cutL_drop _ _ (by unfold strsD; rw [List.length_map]; omega)]
      unfold strsD
      rw [List.map_drop]
    · rw [notin_lst hs hd]
      have : (L.drop (i + 1)).contains s = false := by
        rw [Bool.eq_false_iff]
        intro z
        have hm := List.elem_iff.mp z
        have hsplit : L = L.take (i + 1) ++ L.drop (i + 1) := (List.take_append_drop _ _).symm
        have hn' : (L.take (i + 1) ++ L.drop (i + 1)).Nodup := hsplit ▸ hn
        refine (List.nodup_append.mp hn').2.2 s ?_ s hm rfl
        rw [← hget, List.mem_iff_getElem]
        exact ⟨i, by rw [List.length_take]; omega, by rw [List.getElem_take]⟩
      rw [this]; rfl)
  refine this.trans ?_
  congr 2
  rw [List.all_map]
  exact List.all_eq_true.mpr fun _ _ => rfl
end K35
end ZK35m
section ZK35y
set_option Elab.async false
set_option linter.all false
set_option maxRecDepth 100000
set_option maxHeartbeats 400000
set_option exponentiation.threshold 5000
namespace K35
open PySem PD
/-! the jar -/
def Jar (N j : Nat) (st : Store) : Prop := ∃ a b c : Int, st[j]? = some (.lst [.int a, .int b, .int c]) ∧ 0 ≤ b ∧ b < 2305843009213693921 ∧ 0 ≤ c ∧ c ≤ N ∧ st[0]? = some O.tbl
theorem Jar.tab {N j : Nat} {st : Store} (h : Jar N j st) : st[0]? = some O.tbl := let ⟨_, _, _, _, _, _, _, _, h0⟩ := h; h0
theorem Jar.app {N j : Nat} {st : Store} (h : Jar N j st) (more : Store) : Jar N j (st ++ more) := by
  obtain ⟨a, b, c, h1, h2, h3, h4, h5, h0⟩ := h
  refine ⟨a, b, c, ?_, h2, h3, h4, h5, ?_⟩
  · rw [List.getElem?_append_left (List.getElem?_eq_some_iff.mp h1).1]
    exact h1
  · rw [List.getElem?_append_left (List.getElem?_eq_some_iff.mp h0).1]
    exact h0
theorem Jar.mono {N M j : Nat} {st : Store} (h : Jar N j st) (hm : N ≤ M) : Jar M j st := by
  obtain ⟨a, b, c, h1, h2, h3, h4, h5, h0⟩ := h
  exact ⟨a, b, c, h1, h2, h3, h4, by omega, h0⟩
theorem tab_set {st : Store} {j : Nat} {ds : List D} {o : O} (h0 : st[0]? = some O.tbl) (h1 : st[j]? = some (.lst ds)) : (st.set j o)[0]? = some O.tbl := by
  have hj : j ≠ 0 := fun e => by subst e; rw [h0] at h1; exact nomatch h1
  rw [List.getElem?_set_ne hj]; exact h0
/-- all but the jar stays -/
def Fr (j : Nat) (st st' : Store) : Prop := st.length ≤ st'.length ∧ ∀ i, i < st.length → i ≠ j → st'[i]? = st[i]?
theorem Fr.refl {j : Nat} {st : Store} : Fr j st st := ⟨Nat.le_refl _, fun _ _ _ => rfl⟩
theorem Fr.trans {j : Nat} {st st1 st2 : Store} (h : Fr j st st1) (h2 : Fr j st1 st2) : Fr j st st2 := ⟨Nat.le_trans h.1 h2.1, fun i hi hj => (h2.2 i (Nat.lt_of_lt_of_le hi h.1) hj).trans (h.2 i hi hj)⟩
theorem fr_set {j : Nat} {st : Store} {o : O} : Fr j st (st.set j o) := ⟨by rw [List.length_set]; exact Nat.le_refl _, fun i _ hj => List.getElem?_set_ne (fun e => hj e.symm)⟩
theorem fr_app {j : Nat} {st more : Store} : Fr j st (st ++ more) := ⟨by rw [List.length_append]; omega, fun i hi _ => List.getElem?_append_left hi⟩
theorem Fr.at {j i : Nat} {st st' : Store} {o : O} (h : Fr j st st') (hj : i ≠ j) (e : st[i]? = some o) : st'[i]? = some o := (h.2 i (List.getElem?_eq_some_iff.mp e).1 hj).trans e
theorem vwJ {j : Nat} {st : Store} {ds : List D} (h : st[j]? = some (.lst ds)) : vw (.ref j) st = .ok (.lst ds) st := by
  show Res.ok (match st[j]? with
    | some (.lst ds) => D.lst ds
    | some (.dct kvs) => .dct kvs
    | _ => .ref j) st = _
  rw [h]
theorem jx {cf : Calls} {env : PD.Env} {j : Nat} {st : Store} {ds : List D} {i : Int} {r : D} (h0 : evE pg cf (.var 0) env st = .ok (.ref j) st) (h : st[j]? = some (.lst ds)) (hi : atI ds i = some r) : evE pg cf (.idx (.var 0) (.lit (.int i))) env st = .ok r st :=
  ev_idxV h0 (e := .int i) (st2 := st) rfl (vwJ h) hi
theorem setJ {cf : Calls} {env : PD.Env} {j : Nat} {st : Store} {ds : List D} {ii : Int} (i : Nat) {e : PD.X} {r : D} (hii : ii = (i : Int)) (h0 : ∀ st, evE pg cf (.var 0) env st = .ok (.ref j) st) (h : st[j]? = some (.lst ds)) (hi : i < ds.length) (he : evE pg cf e env st = .ok r st) : evS pg cf (.setI (.var 0) (.lit (.int ii)) e) env st = .ok (.nx env) (st.set j (.lst (ds.set i r))) := by
  subst hii
  show bnd (evE pg cf e env) (fun d => bnd (evE pg cf (.var 0) env) fun x => bnd (PD.ret (D.int (i : Int))) fun k => bnd (wrI k d x) fun _ => PD.ret (Out.nx env)) st = _
  rw [bnd_ok he, bnd_ok (h0 st), bnd_ret]
  have hwr : wrI (.int (i : Int)) r (.ref j) st = .ok () (st.set j (.lst (ds.set i r))) := by
    show (match st[j]? with
      | some (.lst ds) => (match ixN ds.length (i : Int) with
          | some j' => Res.ok () (st.set j (.lst (ds.set j' r)))
          | none => .bad)
      | some (.dct kvs) => if dKey (.int (i : Int)) kvs && decide (kvs.length < LIM) then Res.ok () (st.set j (.dct (putK (.int (i : Int)) r kvs))) else .bad
      | _ => .bad) = _
    rw [h]
    show (match ixN ds.length (i : Int) with
          | some j' => Res.ok () (st.set j (.lst (ds.set j' r)))
          | none => .bad) = _
    rw [ixN_nat hi]
  rw [bnd_ok hwr]; rfl
theorem at_setJ {j : Nat} {st : Store} {o o' : O} (h : st[j]? = some o) : (st.set j o')[j]? = some o' := by
  rw [List.getElem?_set_self (List.getElem?_eq_some_iff.mp h).1]
theorem binS {cf : Calls} {env : PD.Env} {st : Store} {o : Bop} {x y : PD.X} {i j : Int} {r : D} (h : evE pg cf x env st = .ok (.int i) st) (h2 : evE pg cf y env st = .ok (.int j) st) (hc : binD o (.int i) (.int j) = some r) : evE pg cf (.bin o x y) env st = .ok r st := ev_binS h h2 nr_int nr_int hc
theorem intS {cf : Calls} {env : PD.Env} {st : Store} {x : PD.X} {i : Int} (h : evE pg cf x env st = .ok (.int i) st) : evE pg cf (.bif .int (.cons x .nil)) env st = .ok (.int i) st := ev_bif1V h rfl rfl
theorem mod_some {i j : Int} (h : 0 < j) : binD .mod (.int i) (.int j) = some (.int (i % j)) := by
  show (if 0 < j then some (D.int (i % j)) else none) = _
  rw [if_pos h]
theorem div_some {i j : Int} (h : 0 < j) (h2 : j < 1073741824) : binD .fdiv (.int i) (.int j) = some (.int (i / j)) := by
  show (if 0 < j ∧ j < 1073741824 then some (D.int (i / j)) else none) = _
  rw [if_pos ⟨h, h2⟩]
theorem mul_some {i j : Int} (h : -(2 ^ 64) < j ∧ j < 2 ^ 64) : binD .mul (.int i) (.int j) = some (.int (i * j)) := by
  show (if gMul i j then some (D.int (i * j)) else none) = _
  rw [if_pos (by unfold gMul; rw [decide_eq_true h, Bool.or_true])]
theorem pow_some {i : Int} {j : Int} (h : 0 ≤ j ∧ j ≤ 1000) (h2 : i.natAbs < 2 ^ 4000) : binD .pow (.int i) (.int j) = some (.int (i ^ j.toNat)) := by
  show (if gPow i j then some (D.int (i ^ j.toNat)) else none) = _
  rw [if_pos (by unfold gPow; rw [decide_eq_true h, decide_eq_true h2]; rfl)]
theorem big : (2 : Nat) ^ 80 ≤ 2 ^ 4000 := Nat.pow_le_pow_right (by decide) (by decide)
theorem take_ev (n N j : Nat) (many : Int) (st : Store) (hN : N ≤ 5000) (hm : 1 ≤ many) (hm2 : many ≤ 1000) (h : Jar N j st) :
    ∃ (r : Int) (st' : Store), 0 ≤ r ∧ r < many ∧ Jar (N + 1) j st' ∧ Fr j st st' ∧ callN pg (n + 1) 11 [.ref j, .int many] st = .ok (.int r) st' := by
  obtain ⟨a, b, c, h1, h2, h3, h4, h5, h0⟩ := h
  by_cases ha : 0 < a
  · refine ⟨a % many, st.set j (.lst [.int (a / many), .int b, .int c]), Int.emod_nonneg _ (by omega), Int.emod_lt_of_pos _ (by omega), ⟨a / many, b, c, at_setJ h1, h2, h3, h4, by omega, tab_set h0 h1⟩, fr_set, ?_⟩
    refine runF_rtS (P := pg) (cf := callN pg n) (fd := ⟨2, 5, t11⟩) (ds := [.ref j, .int many]) rfl ?_
    show evB pg (callN pg n) t11 [.v (.ref j), .v (.int many), .no, .no, .no] st = _
    unfold t11
    have c1 : evE pg (callN pg n) (.cmp .gt (.idx (.var 0) (.lit (.int 0))) (.lit (.int 0))) [.v (.ref j), .v (.int many), .no, .no, .no] st = .ok (.bl (decide (0 < a))) st := ev_cmpV (jx (j := j) rfl h1 rfl) (e := .int 0) rfl rfl rfl rfl
    refine evB_rtS ((ev_ifS c1).trans ?_)
    rw [decide_eq_true ha, if_pos rfl]
    rw [evB_nxS (ev_asgS (binS (intS (jx (j := j) rfl h1 rfl)) rfl (mod_some (by omega))))]
    show evB pg (callN pg n) _ [.v (.ref j), .v (.int many), .v (.int (a % many)), .no, .no] st = _
    have hdv : evE pg (callN pg n) (.bin .fdiv (.idx (.var 0) (.lit (.int 0))) (.var 1)) [.v (.ref j), .v (.int many), .v (.int (a % many)), .no, .no] st = .ok (.int (a / many)) st := binS (jx (j := j) rfl h1 rfl) rfl (div_some (by omega) (by omega))
    rw [evB_nxS (setJ (ii := 0) 0 rfl (fun _ => rfl) h1 (by simp) hdv)]
    rfl
  · have hset := at_setJ (o' := .lst [.int a, .int b, .int (c + 1)]) h1
    have go : ∀ (pr : Int), (1 ≤ pr ∧ pr ≤ 2147483647) → idxD (.lst [.int 2147483647, .int 2147483629, .int 2147483587, .int 2147483579, .int 2147483563]) (.int ((c + 1) % 5)) = some (.int pr) →
        ∃ (r : Int) (st' : Store), 0 ≤ r ∧ r < many ∧ Jar (N + 1) j st' ∧ Fr j st st' ∧ callN pg (n + 1) 11 [.ref j, .int many] st = .ok (.int r) st' := fun pr hpr hidx => by
      have hmade : 0 ≤ (b + 99991 * (c + 1) * (c + 1) + 71) ^ (3 : Int).toNat % pr ∧ (b + 99991 * (c + 1) * (c + 1) + 71) ^ (3 : Int).toNat % pr < pr := ⟨Int.emod_nonneg _ (by omega), Int.emod_lt_of_pos _ (by omega)⟩
      generalize hmd : (b + 99991 * (c + 1) * (c + 1) + 71) ^ (3 : Int).toNat % pr = md at hmade
      refine ⟨(md * (md % 10009 + 97 * (c + 1)) % 2305843009213693907) / 89 % many, st.set j (.lst [.int a, .int b, .int (c + 1)]), Int.emod_nonneg _ (by omega), Int.emod_lt_of_pos _ (by omega), ⟨a, b, c + 1, hset, h2, h3, by omega, by omega, tab_set h0 h1⟩, fr_set, ?_⟩
      refine runF_rtS (P := pg) (cf := callN pg n) (fd := ⟨2, 5, t11⟩) (ds := [.ref j, .int many]) rfl ?_
      show evB pg (callN pg n) t11 [.v (.ref j), .v (.int many), .no, .no, .no] st = _
      unfold t11
      have c1 : evE pg (callN pg n) (.cmp .gt (.idx (.var 0) (.lit (.int 0))) (.lit (.int 0))) [.v (.ref j), .v (.int many), .no, .no, .no] st = .ok (.bl (decide (0 < a))) st := ev_cmpV (jx (j := j) rfl h1 rfl) (e := .int 0) rfl rfl rfl rfl
      rw [evB_nxS (env' := [.v (.ref j), .v (.int many), .no, .no, .no]) (st1 := st) ((ev_ifS c1).trans (by rw [decide_eq_false ha]; rfl))]
      have had : evE pg (callN pg n) (.bin .add (.idx (.var 0) (.lit (.int 2))) (.lit (.int 1))) [.v (.ref j), .v (.int many), .no, .no, .no] st = .ok (.int (c + 1)) st := binS (jx (j := j) rfl h1 rfl) rfl rfl
      rw [evB_nxS (setJ (ii := 2) 2 rfl (fun _ => rfl) h1 (by simp) had)]
      show evB pg (callN pg n) _ [.v (.ref j), .v (.int many), .no, .no, .no] (st.set j (.lst [.int a, .int b, .int (c + 1)])) = _
      generalize st.set j (.lst [.int a, .int b, .int (c + 1)]) = st2 at hset
      have hp5 : evE pg (callN pg n) (.idx (.lst (.cons (.lit (.int 2147483647)) (.cons (.lit (.int 2147483629)) (.cons (.lit (.int 2147483587)) (.cons (.lit (.int 2147483579)) (.cons (.lit (.int 2147483563)) .nil)))))) (.bin .mod (.bif .int (.cons (.idx (.var 0) (.lit (.int 2))) .nil)) (.lit (.int 5)))) [.v (.ref j), .v (.int many), .no, .no, .no] st2 = .ok (.int pr) st2 :=
        ev_idxV (d := .lst [.int 2147483647, .int 2147483629, .int 2147483587, .int 2147483579, .int 2147483563]) (st1 := st2) rfl (binS (intS (jx (j := j) rfl hset rfl)) rfl (mod_some (by omega))) rfl hidx
      rw [evB_nxS (ev_asgS hp5)]
      show evB pg (callN pg n) _ [.v (.ref j), .v (.int many), .no, .v (.int pr), .no] st2 = _
      have hcc : 0 ≤ 99991 * (c + 1) * (c + 1) ∧ 99991 * (c + 1) * (c + 1) ≤ 99991 * 5001 * 5001 := by
        refine ⟨Int.mul_nonneg (by omega) (by omega), Int.mul_le_mul (by omega) (by omega) (by omega) (by omega)⟩
      have hm4 : evE pg (callN pg n) (.bin .mod (.bif .int (.cons (.bin .pow (.bin .add (.bin .add (.idx (.var 0) (.lit (.int 1))) (.bin .mul (.bin .mul (.lit (.int 99991)) (.idx (.var 0) (.lit (.int 2)))) (.idx (.var 0) (.lit (.int 2))))) (.lit (.int 71))) (.lit (.int 3))) .nil)) (.var 3)) [.v (.ref j), .v (.int many), .no, .v (.int pr), .no] st2 = .ok (.int md) st2 := by
        rw [← hmd]
        refine binS (intS (binS (binS (binS (jx (j := j) rfl hset rfl) (binS (binS rfl (jx (j := j) rfl hset rfl) (mul_some (by omega))) (jx (j := j) rfl hset rfl) (mul_some (by omega))) rfl) rfl rfl) rfl (pow_some (by omega) ?_))) rfl (mod_some (by omega))
        have := big
        refine Nat.lt_of_lt_of_le ?_ this
        omega
      rw [evB_nxS (ev_asgS hm4)]
      show evB pg (callN pg n) _ [.v (.ref j), .v (.int many), .no, .v (.int pr), .v (.int md)] st2 = _
      have hm5 : evE pg (callN pg n) (.bin .mod (.bif .int (.cons (.bin .mul (.var 4) (.bin .add (.bin .mod (.bif .int (.cons (.var 4) .nil)) (.lit (.int 10009))) (.bin .mul (.lit (.int 97)) (.idx (.var 0) (.lit (.int 2)))))) .nil)) (.lit (.int 2305843009213693907))) [.v (.ref j), .v (.int many), .no, .v (.int pr), .v (.int md)] st2 = .ok (.int (md * (md % 10009 + 97 * (c + 1)) % 2305843009213693907)) st2 := by
        refine binS (intS (binS (i := md) rfl (binS (binS (i := md) (intS rfl) rfl (mod_some (by omega))) (binS rfl (jx (j := j) rfl hset rfl) (mul_some (by omega))) rfl) (mul_some ?_))) rfl (mod_some (by omega))
        have := Int.emod_nonneg md (show (10009 : Int) ≠ 0 by omega)
        have := Int.emod_lt_of_pos md (show (0 : Int) < 10009 by omega)
        omega
      rw [evB_nxS (ev_asgS hm5)]
      show evB pg (callN pg n) _ [.v (.ref j), .v (.int many), .no, .v (.int pr), .v (.int (md * (md % 10009 + 97 * (c + 1)) % 2305843009213693907))] st2 = _
      exact evB_rtS (ev_rtS (binS (intS (binS rfl rfl (div_some (by omega) (by omega)))) rfl (mod_some (by omega))))
    have h5' := Int.emod_nonneg (c + 1) (show (5 : Int) ≠ 0 by omega)
    have h5'' := Int.emod_lt_of_pos (c + 1) (show (0 : Int) < 5 by omega)
    have hall : (c + 1) % 5 = 0 ∨ (c + 1) % 5 = 1 ∨ (c + 1) % 5 = 2 ∨ (c + 1) % 5 = 3 ∨ (c + 1) % 5 = 4 := by omega
    rcases hall with e | e | e | e | e
    · exact go 2147483647 (by omega) (by rw [e]; rfl)
    · exact go 2147483629 (by omega) (by rw [e]; rfl)
    · exact go 2147483587 (by omega) (by rw [e]; rfl)
    · exact go 2147483579 (by omega) (by rw [e]; rfl)
    · exact go 2147483563 (by omega) (by rw [e]; rfl)
end K35
end ZK35y
section ZK35z
set_option Elab.async false
set_option linter.all false
set_option maxRecDepth 100000
set_option maxHeartbeats 400000
set_option exponentiation.threshold 5000
namespace K35
open PySem PD
theorem ev_ite {P : Prog} {cf : Calls} {env : PD.Env} {t a b' : PD.X} {c : Bool} (h : evE P cf t env = PD.ret (.bl c)) : evE P cf (.ite t a b') env = if c then evE P cf a env else evE P cf b' env := by
  show bnd (bnd (evE P cf t env) blD) _ = _
  rw [h]; rfl
theorem big1 : ((10 : Int) ^ (60 : Int).toNat).natAbs < 2 ^ 4000 := by decide +kernel
theorem jar_ev (n : Nat) (ns : List Int) (k : Nat) (hk : k ≤ 2) (st : Store) (h0 : st[0]? = some O.tbl) : ∃ st', Jar 0 st.length st' ∧ Fr st.length st st' ∧ callN pg (n + 1) 10 [.scr ns, .int (k : Int)] st = .ok (.ref st.length) st' := by
  have hcell : ∃ cell : Int, evE pg (callN pg n) (.ite (.cmp .lt (.var 1) (.bif .len (.cons (.var 0) .nil))) (.idx (.var 0) (.var 1)) (.bin .add (.bin .mul (.lit (.int 37)) (.var 1)) (.lit (.int 19)))) [.v (.scr ns), .v (.int (k : Int)), .no, .no] = PD.ret (.int cell) := by
    have c1 : evE pg (callN pg n) (.cmp .lt (.var 1) (.bif .len (.cons (.var 0) .nil))) [.v (.scr ns), .v (.int (k : Int)), .no, .no] = PD.ret (.bl (decide ((k : Int) < (ns.length : Int)))) := rfl
    by_cases h : k < ns.length
    · refine ⟨ns[k], ?_⟩
      rw [ev_ite c1, decide_eq_true (show (k : Int) < ns.length by omega), if_pos rfl]
      show opt ((atI ns (k : Int)).map D.int) = _
      unfold atI
      rw [ixN_nat h]
      show opt ((ns[k]?).map D.int) = _
      rw [List.getElem?_eq_getElem h]; rfl
    · refine ⟨37 * k + 19, ?_⟩
      rw [ev_ite c1, decide_eq_false (show ¬ (k : Int) < ns.length by omega), if_neg (by simp)]
      have hm : binD .mul (.int 37) (.int (k : Int)) = some (.int (37 * (k : Int))) := mul_some (by omega)
      show bnd (opt (binD .mul (.int 37) (.int (k : Int)))) (fun x => bnd (PD.ret (D.int 19)) fun y => bnd (vw x) fun x => bnd (vw y) fun y => opt (binD .add x y)) = _
      rw [hm]; rfl
  obtain ⟨cell, hc⟩ := hcell
  have hab : evE pg (callN pg n) (.bif .abs (.cons (.var 2) .nil)) [.v (.scr ns), .v (.int (k : Int)), .v (.int cell), .no] st = .ok (.int (if cell < 0 then -cell else cell)) st := rfl
  generalize (if cell < 0 then -cell else cell) = ab at hab
  have hp1 : binD .pow (.int 10) (.int 60) = some (.int ((10 : Int) ^ (60 : Int).toNat)) := pow_some (by omega) (by decide)
  have hp2 : binD .pow (.int ((10 : Int) ^ (60 : Int).toNat)) (.int 5) = some (.int (((10 : Int) ^ (60 : Int).toNat) ^ (5 : Int).toNat)) := pow_some (by omega) big1
  have hpos : (0 : Int) < ((10 : Int) ^ (60 : Int).toNat) ^ (5 : Int).toNat := by decide +kernel
  have hp3 : binD .pow (.int 10) (.int 18) = some (.int ((10 : Int) ^ (18 : Int).toNat)) := pow_some (by omega) (by decide)
  generalize (10 : Int) ^ (60 : Int).toNat = p60 at hp1 hp2 hpos
  generalize p60 ^ (5 : Int).toNat = p300 at hp2 hpos
  generalize (10 : Int) ^ (18 : Int).toNat = p18 at hp3
  have hflag : ∃ g : Int, (g = 0 ∨ g = 1) ∧ evE pg (callN pg n) (.bif .int (.cons (.cmp .ge (.bif .abs (.cons (.var 2) .nil)) (.bin .pow (.lit (.int 10)) (.lit (.int 18)))) .nil)) [.v (.scr ns), .v (.int (k : Int)), .v (.int cell), .no] st = .ok (.int g) st := by
    have h18 : evE pg (callN pg n) (.bin .pow (.lit (.int 10)) (.lit (.int 18))) [.v (.scr ns), .v (.int (k : Int)), .v (.int cell), .no] st = .ok (.int p18) st := binS rfl rfl hp3
    have hcmp : evE pg (callN pg n) (.cmp .ge (.bif .abs (.cons (.var 2) .nil)) (.bin .pow (.lit (.int 10)) (.lit (.int 18)))) [.v (.scr ns), .v (.int (k : Int)), .v (.int cell), .no] st = .ok (.bl (decide (p18 ≤ ab))) st := ev_cmpV hab h18 rfl rfl rfl
    refine ⟨if decide (p18 ≤ ab) then 1 else 0, ?_, ev_bif1V hcmp rfl rfl⟩
    cases decide (p18 ≤ ab)
    · exact .inl rfl
    · exact .inr rfl
  obtain ⟨g, hg, hgv⟩ := hflag
  have hmul : binD .mul (.int (ab % p300)) (.int g) = some (.int (ab % p300 * g)) := mul_some (by omega)
  have h300 : evE pg (callN pg n) (.bin .pow (.bin .pow (.lit (.int 10)) (.lit (.int 60))) (.lit (.int 5))) [.v (.scr ns), .v (.int (k : Int)), .v (.int cell), .no] st = .ok (.int p300) st := binS (binS rfl rfl hp1) rfl hp2
  have hmine : evE pg (callN pg n) (.bin .mul (.bin .mod (.bif .int (.cons (.bif .abs (.cons (.var 2) .nil)) .nil)) (.bin .pow (.bin .pow (.lit (.int 10)) (.lit (.int 60))) (.lit (.int 5)))) (.bif .int (.cons (.cmp .ge (.bif .abs (.cons (.var 2) .nil)) (.bin .pow (.lit (.int 10)) (.lit (.int 18)))) .nil))) [.v (.scr ns), .v (.int (k : Int)), .v (.int cell), .no] st = .ok (.int (ab % p300 * g)) st :=
    binS (binS (intS hab) h300 (mod_some hpos)) hgv hmul
  generalize ab % p300 * g = mine at hmine
  have hkk : 0 ≤ 8861 * (k : Int) ∧ 8861 * (k : Int) ≤ 17722 := by omega
  have hb : evE pg (callN pg n) (.bin .mod (.bif .int (.cons (.bin .add (.bin .add (.bin .mul (.bin .mod (.bif .int (.cons (.var 2) .nil)) (.lit (.int 2305843009213693951))) (.lit (.int 73013))) (.bin .mul (.bin .mul (.lit (.int 8861)) (.var 1)) (.var 1))) (.lit (.int 47))) .nil)) (.lit (.int 2305843009213693921))) [.v (.scr ns), .v (.int (k : Int)), .v (.int cell), .v (.int mine)] st = .ok (.int ((cell % 2305843009213693951 * 73013 + 8861 * (k : Int) * (k : Int) + 47) % 2305843009213693921)) st :=
    binS (intS (binS (binS (binS (binS (i := cell) (intS rfl) rfl (mod_some (by omega))) rfl (mul_some (by omega))) (binS (binS rfl rfl (mul_some (by omega))) rfl (mul_some (by omega))) rfl) rfl rfl)) rfl (mod_some (by omega))
  have hb0 := Int.emod_nonneg (cell % 2305843009213693951 * 73013 + 8861 * (k : Int) * (k : Int) + 47) (show (2305843009213693921 : Int) ≠ 0 by omega)
  have hb1 := Int.emod_lt_of_pos (cell % 2305843009213693951 * 73013 + 8861 * (k : Int) * (k : Int) + 47) (show (0 : Int) < 2305843009213693921 by omega)
  generalize (cell % 2305843009213693951 * 73013 + 8861 * (k : Int) * (k : Int) + 47) % 2305843009213693921 = b at hb hb0 hb1
  refine ⟨st ++ [.lst [.int mine, .int b, .int 0]], ⟨mine, b, 0, by rw [List.getElem?_append_right (Nat.le_refl _), Nat.sub_self]; rfl, hb0, hb1, Int.le_refl _, Int.le_refl _, by rw [List.getElem?_append_left (List.getElem?_eq_some_iff.mp h0).1]; exact h0⟩, fr_app, ?_⟩
  refine runF_rtS (P := pg) (cf := callN pg n) (fd := ⟨2, 4, t10⟩) (ds := [.scr ns, .int (k : Int)]) rfl ?_
  show evB pg (callN pg n) t10 [.v (.scr ns), .v (.int (k : Int)), .no, .no] st = _
  unfold t10
  rw [evB_nxS (ev_asgS (congrFun hc st))]
  show evB pg (callN pg n) _ [.v (.scr ns), .v (.int (k : Int)), .v (.int cell), .no] st = _
  rw [evB_nxS (ev_asgS hmine)]
  show evB pg (callN pg n) _ [.v (.scr ns), .v (.int (k : Int)), .v (.int cell), .v (.int mine)] st = _
  refine evB_rtS (ev_rtS ?_)
  have hA : evA pg (callN pg n) (.cons (.var 3) (.cons (.bin .mod (.bif .int (.cons (.bin .add (.bin .add (.bin .mul (.bin .mod (.bif .int (.cons (.var 2) .nil)) (.lit (.int 2305843009213693951))) (.lit (.int 73013))) (.bin .mul (.bin .mul (.lit (.int 8861)) (.var 1)) (.var 1))) (.lit (.int 47))) .nil)) (.lit (.int 2305843009213693921))) (.cons (.lit (.int 0)) .nil))) [.v (.scr ns), .v (.int (k : Int)), .v (.int cell), .v (.int mine)] st = .ok [.int mine, .int b, .int 0] st :=
    evA_consS (st1 := st) (fun _ h => nomatch h) rfl (evA_consS (st1 := st) (fun _ h => nomatch h) hb (evA_consS (st1 := st) (ds := []) (fun _ h => nomatch h) rfl rfl))
  show bnd (evA pg (callN pg n) _ _) (fun ds => if ds.length ≤ LIM then alloc (.lst ds) else fail) st = _
  rw [bnd_ok hA, if_pos (by show 3 ≤ LIM; unfold LIM; omega)]; rfl
theorem of_ev (n N j : Nat) (ds : List D) (st : Store) (hN : N ≤ 5000) (hl : 1 ≤ ds.length) (hl2 : ds.length ≤ 1000) (h : Jar N j st) :
    ∃ (d : D) (st' : Store), d ∈ ds ∧ Jar (N + 1) j st' ∧ Fr j st st' ∧ callN pg (n + 2) 12 [.ref j, .lst ds] st = .ok d st' := by
  obtain ⟨r, st', h1, h2, h3, hfr, h4⟩ := take_ev n N j ds.length st hN (by omega) (by omega) h
  have hr : r.toNat < ds.length := by omega
  refine ⟨ds[r.toNat], st', List.getElem_mem hr, h3, hfr, ?_⟩
  refine runF_rtS (P := pg) (cf := callN pg (n + 1)) (fd := ⟨2, 2, t12⟩) (ds := [.ref j, .lst ds]) rfl ?_
  refine evB_rtS (ev_rtS (ev_idxV (d := .lst ds) (st1 := st) rfl (ev_callS (ds := [.ref j, .int (ds.length : Int)]) (st1 := st) rfl h4) rfl ?_))
  show atI ds r = _
  unfold atI
  have e := ixN_nat hr
  rw [Int.toNat_of_nonneg h1] at e
  rw [e]
  show ds[r.toNat]? = _
  rw [List.getElem?_eq_getElem hr]
/-- _law_of(jar, a text) -/
theorem ofS_ev (n N j : Nat) (z : Str) (st : Store) (hN : N ≤ 5000) (hl : 1 ≤ z.length) (hl2 : z.length ≤ 1000) (h : Jar N j st) :
    ∃ (c : Nat) (st' : Store), c ∈ cl z ∧ Jar (N + 1) j st' ∧ Fr j st st' ∧ callN pg (n + 2) 12 [.ref j, .str z] st = .ok (.str ⟨#[c]⟩) st' := by
  obtain ⟨r, st', h1, h2, h3, hfr, h4⟩ := take_ev n N j z.length st hN (by omega) (by omega) h
  have hz : z.length ≤ LIM := by have := lim1000; omega
  have hr : r.toNat < (cl z).length := by rw [cl_len]; omega
  refine ⟨(cl z)[r.toNat], st', List.getElem_mem hr, h3, hfr, ?_⟩
  have hlen : evE pg (callN pg (n + 1)) (.bif .len (.cons (.var 1) .nil)) [.v (.ref j), .v (.str z)] st = .ok (.int z.length) st := ev_bif1S (d := .str z) rfl nr_str (len_str z hz)
  refine callRt (fd := ⟨2, 2, t12⟩) (env := [.v (.ref j), .v (.str z)]) rfl rfl rfl (evB_rtS (ev_rtS (ev_idxS (d := .str z) (st1 := st) rfl (ev_callS (arg2S (d := .ref j) (st1 := st) nst_var (by intro _ z; exact nomatch z) rfl hlen) h4) nr_str ?_)))
  show (if z.length ≤ LIM then (atI (cl z) r).map fun c => D.str ⟨#[c]⟩ else none) = _
  rw [if_pos hz]
  unfold atI
  have e := ixN_nat hr
  rw [Int.toNat_of_nonneg h1] at e
  rw [e]
  show ((cl z)[r.toNat]?).map _ = _
  rw [List.getElem?_eq_getElem hr]; rfl
end K35
end ZK35z
section ZK35q
set_option Elab.async false
set_option linter.all false
set_option maxRecDepth 100000
set_option maxHeartbeats 400000
namespace K35
open PySem PD
/-! names -/
theorem cl_mk (l : List Nat) : cl ⟨l.toArray⟩ = l := by simp [cl]
theorem cl_join : ∀ ys : List Str, cl (Str.join "" ys) = (ys.map cl).flatten
  | [] => rfl
  | [y] => by simp [Str.join]
  | y :: z :: r => by
    show cl (y ++ "" ++ Str.join "" (z :: r)) = _
    rw [cl_app, cl_app, cl_join (z :: r), List.map_cons, List.flatten_cons]
    have : cl ("" : Str) = [] := rfl
    rw [this, List.append_nil]; simp
theorem cl_singles : ∀ cs : List Nat, ((cs.map fun c => (⟨#[c]⟩ : Str)).map cl).flatten = cs
  | [] => rfl
  | c :: cs => by
    rw [List.map_cons, List.map_cons, List.flatten_cons, cl_singles cs]; rfl
theorem sum_singles : ∀ cs : List Nat, ((cs.map fun c => (⟨#[c]⟩ : Str)).map fun (y : Str) => y.length).sum = cs.length
  | [] => rfl
  | c :: cs => by
    rw [List.map_cons, List.map_cons, List.sum_cons, sum_singles cs, List.length_cons]
    show 1 + cs.length = _
    omega
theorem low_small : ∀ c ∈ cl smallS, (decide (97 ≤ c) && decide (c ≤ 122)) = true := by
  have : (cl smallS).all (fun c => decide (97 ≤ c) && decide (c ≤ 122)) = true := by decide +kernel
  exact List.all_eq_true.mp this
theorem small_at (i : Nat) (h : i < 26) : (cl smallS)[i]? = some (97 + i) := by
  have key : ∀ k : Fin 26, (cl smallS)[k.1]? = some (97 + k.1) := by decide +kernel
  exact key ⟨i, h⟩
theorem dStrs_map : ∀ L : List Str, dStrs (strsD L) = some L
  | [] => rfl
  | s :: L => by
    show (dStrs (strsD L)).map (s :: ·) = _
    rw [dStrs_map L]; rfl
theorem ev_lcI {P : Prog} {cf : Calls} {env : PD.Env} {st st1 st2 : Store} {own : List Nat} {tg it t elt : PD.X} {ds xs : List D} (hi : evIt P cf it env st = .ok ds st1) (hl : ds.length ≤ LIM)
    (h : mapL (fun d => match bindT tg d (PD.wipe env own) with
        | some e => bnd (bnd (evE P cf t e) blD) fun c => if c then bnd (evE P cf elt e) fun y => PD.ret (some y) else PD.ret none
        | none => fail) ds st1 = .ok xs st2) : evE P cf (.lc own tg it t elt) env st = .ok (.lst xs) st2 := by
  show bnd (evIt P cf it env) _ st = _
  rw [bnd_ok hi, if_pos hl]
  exact (bnd_ok (f := fun rs => PD.ret (D.lst rs)) h).trans rfl
theorem mapL_invB {f : D → M (Option D)} (I : Nat → List D → Store → Prop) (n : Nat) : ∀ (ds : List D) (i : Nat) (acc : List D) (st : Store), i + ds.length ≤ n → I i acc st → (∀ i d acc st, i < n → d ∈ ds → I i acc st → ∃ x st', I (i + 1) (acc ++ [x]) st' ∧ f d st = .ok (some x) st') → ∃ xs st', I (i + ds.length) (acc ++ xs) st' ∧ mapL f ds st = .ok xs st'
  | [], i, acc, st, _, h, _ => ⟨[], st, by rw [List.append_nil]; exact h, rfl⟩
  | d :: ds, i, acc, st, hn, h, hf => by
    have hn' : i + 1 + ds.length ≤ n := by rw [List.length_cons] at hn; omega
    obtain ⟨x, s1, h1, h2⟩ := hf i d acc st (by omega) (List.mem_cons_self ..) h
    obtain ⟨xs, s2, h3, h4⟩ := mapL_invB I n ds (i + 1) (acc ++ [x]) s1 hn' h1 fun i d' acc st hi hd => hf i d' acc st hi (List.mem_cons_of_mem _ hd)
    refine ⟨x :: xs, s2, by rw [List.length_cons, Nat.add_comm ds.length 1, ← Nat.add_assoc]; rw [List.append_assoc] at h3; exact h3, ?_⟩
    show bnd (f d) _ st = _
    rw [bnd_ok h2]
    show bnd (mapL f ds) _ s1 = _
    rw [bnd_ok h4]; rfl
def nameK (z : Str) (spot at_ k : Nat) : Str := ⟨((cl z).take spot ++ [97 + (at_ + 3 * k) % 26] ++ (cl z).drop spot).toArray⟩
theorem cl_name (z : Str) (spot at_ k : Nat) : cl (nameK z spot at_ k) = (cl z).take spot ++ [97 + (at_ + 3 * k) % 26] ++ (cl z).drop spot := cl_mk _
theorem name_inj {z : Str} {spot at_ k k' : Nat} (hk : k < 9) (hk' : k' < 9) (e : nameK z spot at_ k = nameK z spot at_ k') : k = k' := by
  have e1 := congrArg cl e
  rw [cl_name, cl_name, List.append_assoc, List.append_assoc] at e1
  have e2 := List.append_cancel_left e1
  have e3 := (List.cons.inj e2).1
  omega
theorem name_nm {z : Str} (hz : low z = true) (hl : z.length ≤ 7) (spot at_ k : Nat) : Nm (nameK z spot at_ k) := by
  refine ⟨?_, ?_⟩
  · rw [← cl_len, cl_name, List.length_append, List.length_append, List.length_take, List.length_drop, cl_len]
    simp only [List.length_singleton]
    omega
  · unfold low
    rw [cl_name, List.all_append, List.all_append]
    have hz' : ∀ c ∈ cl z, (decide (97 ≤ c) && decide (c ≤ 122)) = true := List.all_eq_true.mp hz
    rw [List.all_eq_true.mpr fun c hc => hz' c (List.mem_of_mem_take hc), List.all_eq_true.mpr fun c hc => hz' c (List.mem_of_mem_drop hc)]
    simp only [List.all_cons, List.all_nil, Bool.and_true, Bool.true_and, Bool.and_eq_true, decide_eq_true_eq]
    omega
def namesL (z : Str) (spot at_ : Nat) : List Str := (List.range 9).map fun k => nameK z spot at_ k
theorem names_nd (z : Str) (spot at_ : Nat) : (namesL z spot at_).Nodup := by
  unfold namesL List.Nodup
  rw [List.pairwise_map]
  refine List.Pairwise.imp_of_mem (R := fun a b => a ≠ b) ?_ List.nodup_range
  intro a b ha hb hne e
  exact hne (name_inj (by have := List.mem_range.mp ha; omega) (by have := List.mem_range.mp hb; omega) e)
/-- what names are drawn -/
structure Names (L : List Str) : Prop where
  len : L.length = 9
  nd : L.Nodup
  nm : ∀ s ∈ L, Nm s
theorem names_ok {z : Str} (hz : low z = true) (hl : z.length ≤ 7) (spot at_ : Nat) : Names (namesL z spot at_) := by
  refine ⟨by unfold namesL; rw [List.length_map, List.length_range], names_nd z spot at_, fun s hs => ?_⟩
  obtain ⟨k, _, rfl⟩ := List.mem_map.mp hs
  exact name_nm hz hl spot at_ k
def e22 (j : Nat) (x3 x4 x5 x7 : Sl) : PD.Env := [.v (.ref j), .v (.int 9), .v (.str smallS), x3, x4, x5, .no, x7]
def stemX : PD.X := .lc [6] (.tv 6) (.rng (.cons (.call 12 (.cons (.var 0) (.cons (.lst (.cons (.lit (.int 0)) (.cons (.lit (.int 0)) (.cons (.lit (.int 1)) (.cons (.lit (.int 3)) (.cons (.lit (.int 7)) .nil)))))) .nil))) .nil)) (.lit (.bl true)) (.call 12 (.cons (.var 0) (.cons (.var 2) .nil)))
theorem stem_ev (n N j : Nat) (st : Store) (hN : N ≤ 4000) (h : Jar N j st) : ∃ (cs : List Nat) (st' : Store), cs.length ≤ 7 ∧ (∀ c ∈ cs, c ∈ cl smallS) ∧ Jar (N + 8) j st' ∧ Fr j st st' ∧ evE pg (callN pg (n + 2)) stemX (e22 j .no .no .no .no) st = .ok (.lst (strsD (cs.map fun c => ⟨#[c]⟩))) st' := by
  obtain ⟨dm, s1, a1, a2, a3, a4⟩ := of_ev n N j [.int 0, .int 0, .int 1, .int 3, .int 7] st (by omega) (by decide) (by decide) h
  have hm : ∃ m : Nat, dm = .int (m : Int) ∧ m ≤ 7 := by
    simp only [List.mem_cons, List.not_mem_nil, or_false] at a1
    rcases a1 with rfl | rfl | rfl | rfl | rfl
    · exact ⟨0, rfl, by omega⟩
    · exact ⟨0, rfl, by omega⟩
    · exact ⟨1, rfl, by omega⟩
    · exact ⟨3, rfl, by omega⟩
    · exact ⟨7, rfl, by omega⟩
  obtain ⟨m, rfl, hm7⟩ := hm
  have hlen : (rangeD 0 (m : Int)).length = m := by rw [rangeD_nat, List.length_map, List.length_range]
  obtain ⟨xs, s2, ⟨cs, h1, h2, h3, h4, h5⟩, h6⟩ := mapL_invB (f := fun d => match bindT (.tv 6) d (PD.wipe (e22 j .no .no .no .no) [6]) with
        | some e => bnd (bnd (evE pg (callN pg (n + 2)) (.lit (.bl true)) e) blD) fun c => if c then bnd (evE pg (callN pg (n + 2)) (.call 12 (.cons (.var 0) (.cons (.var 2) .nil))) e) fun y => PD.ret (some y) else PD.ret none
        | none => fail) (fun i acc st => ∃ cs : List Nat, acc = strsD (cs.map fun c => ⟨#[c]⟩) ∧ cs.length = i ∧ (∀ c ∈ cs, c ∈ cl smallS) ∧ Jar (N + 1 + i) j st ∧ Fr j s1 st) 7 (rangeD 0 (m : Int)) 0 [] s1 (by omega) ⟨[], rfl, rfl, (fun _ z => nomatch z), a2, Fr.refl⟩ fun i d acc st hi hd ⟨cs, h1, h2, h3, h4, h5⟩ => by
    obtain ⟨c, s', c1, c2, c3, c4⟩ := ofS_ev n (N + 1 + i) j smallS st (by omega) (by decide +kernel) (by decide +kernel) h4
    refine ⟨.str ⟨#[c]⟩, s', ⟨cs ++ [c], by rw [h1]; unfold strsD; rw [List.map_append, List.map_append]; rfl, by rw [List.length_append, h2]; rfl, fun x hx => ?_, c2, h5.trans c3⟩, ?_⟩
    · rcases List.mem_append.mp hx with z | z
      · exact h3 x z
      · rw [List.mem_singleton.mp z]; exact c1
    · show bnd (evE pg (callN pg (n + 2)) (.call 12 (.cons (.var 0) (.cons (.var 2) .nil))) [.v (.ref j), .v (.int 9), .v (.str smallS), .no, .no, .no, .v d, .no]) (fun y => PD.ret (some y)) st = _
      rw [bnd_ok (ev_callS (ds := [.ref j, .str smallS]) (st1 := st) rfl c4)]; rfl
  rw [hlen] at h2 h4
  rw [List.nil_append] at h1
  refine ⟨cs, s2, by omega, h3, h4.mono (by omega), a3.trans h5, ?_⟩
  rw [← h1]
  exact ev_lcI (ev_rng1S (ev_callS (arg2S (d := .ref j) (st1 := st) nst_var (by intro _ z; exact nomatch z) rfl rfl) a4) (by unfold gRng; rw [decide_eq_true_eq]; omega)) (by rw [hlen]; have := lim1000; omega) h6
theorem names_ev (n N j : Nat) (st : Store) (hN : N ≤ 4000) (h : Jar N j st) : ∃ (L : List Str) (st' : Store), Names L ∧ Jar (N + 10) j st' ∧ Fr j st st' ∧ callN pg (n + 3) 13 [.ref j, .int 9] st = .ok (.lst (strsD L)) st' := by
  obtain ⟨cs, s1, a1, a2, a3, a4, a5⟩ := stem_ev n N j st hN h
  let z : Str := Str.join "" (cs.map fun c => ⟨#[c]⟩)
  have hz : cl z = cs := by
    show cl (Str.join "" _) = _
    rw [cl_join, cl_singles]
  have hzl : z.length = cs.length := by rw [← cl_len, hz]
  have hlow : low z = true := by
    unfold low
    rw [hz, List.all_eq_true]
    exact fun c hc => low_small c (a2 c hc)
  obtain ⟨spot, s2, b1, b2, b3, b4, b5⟩ := take_ev (n + 1) (N + 8) j (z.length + 1) s1 (by omega) (by omega) (by omega) a3
  obtain ⟨at_, s3, c1, c2, c3, c4, c5⟩ := take_ev (n + 1) (N + 9) j 26 s2 (by omega) (by omega) (by omega) b3
  have hzL : z.length ≤ LIM := by have := lim1000; omega
  refine ⟨namesL z spot.toNat at_.toNat, s3, names_ok hlow (by omega) _ _, c3, a4.trans (b4.trans c4), ?_⟩
  refine callRt (fd := ⟨2, 8, t13⟩) (env := [.v (.ref j), .v (.int 9), .no, .no, .no, .no, .no, .no]) rfl rfl rfl ?_
  show evB pg (callN pg (n + 2)) t13 [.v (.ref j), .v (.int 9), .no, .no, .no, .no, .no, .no] st = _
  unfold t13
  rw [evB_nxS (env' := e22 j .no .no .no .no) (st1 := st) rfl]
  have hjoin : evE pg (callN pg (n + 2)) (.join (.lit (.str "")) stemX) (e22 j .no .no .no .no) st = .ok (.str z) s1 := by
    refine (ev_joinS (a := "") (st1 := st) rfl a5 (dStrs_map _) ?_).trans ?_
    · have h1 := sum_singles cs
      have h2 : ("" : Str).length = 0 := rfl
      rw [h1, h2, Nat.mul_zero]
      have := lim1000
      omega
    · show Res.ok (D.str (Txt.join "" _)) s1 = _
      unfold Txt.join
      rw [StrLaws.glued_eq_join]
  refine (evB_nxS (s := .asg 3 (.pl (.join (.lit (.str "")) stemX))) (env' := e22 j (.v (.str z)) .no .no .no) (st1 := s1) (ev_asgS hjoin)).trans ?_
  have hlen : evE pg (callN pg (n + 2)) (.bif .len (.cons (.var 3) .nil)) (e22 j (.v (.str z)) .no .no .no) s1 = .ok (.int z.length) s1 := ev_bif1S (d := .str z) rfl nr_str (len_str z hzL)
  have hadd : evE pg (callN pg (n + 2)) (.bin .add (.bif .len (.cons (.var 3) .nil)) (.lit (.int 1))) (e22 j (.v (.str z)) .no .no .no) s1 = .ok (.int (z.length + 1)) s1 := ev_binS hlen rfl nr_int nr_int rfl
  have t1 : evE pg (callN pg (n + 2)) (.call 11 (.cons (.var 0) (.cons (.bin .add (.bif .len (.cons (.var 3) .nil)) (.lit (.int 1))) .nil))) (e22 j (.v (.str z)) .no .no .no) s1 = .ok (.int spot) s2 := ev_callS (arg2S (d := .ref j) (st1 := s1) nst_var nst_bin rfl hadd) b5
  have t2 : evE pg (callN pg (n + 2)) (.call 11 (.cons (.var 0) (.cons (.lit (.int 26)) .nil))) (e22 j (.v (.str z)) .no .no .no) s2 = .ok (.int at_) s3 := ev_callS (ds := [.ref j, .int 26]) (st1 := s2) rfl c5
  have htup := ev_tupS (P := pg) (cf := callN pg (n + 2)) (arg2S (by intro _ h; exact nomatch h) (by intro _ h; exact nomatch h) t1 t2) (by show 2 ≤ LIM; have := lim1000; omega)
  rw [evB_nxS (env' := e22 j (.v (.str z)) (.v (.int spot)) (.v (.int at_)) .no) (st1 := s3) (ev_tgtS htup rfl)]
  refine evB_rtS (ev_rtS ?_)
  obtain ⟨sp, rfl⟩ : ∃ k : Nat, spot = (k : Int) := ⟨spot.toNat, by omega⟩
  obtain ⟨av, rfl⟩ : ∃ k : Nat, at_ = (k : Int) := ⟨at_.toNat, by omega⟩
  rw [Int.toNat_natCast, Int.toNat_natCast]
  have hspot : sp ≤ z.length := by omega
  have := ev_lcA (P := pg) (cf := callN pg (n + 2)) (own := [7]) (tg := .tv 7) (it := .rng (.cons (.var 1) .nil)) (elt := .bin .add (.bin .add (.slc (.var 3) .nil (.cons (.var 4) .nil)) (.idx (.var 2) (.bin .mod (.bif .int (.cons (.bin .add (.var 5) (.bin .mul (.lit (.int 3)) (.var 7))) .nil)) (.lit (.int 26))))) (.slc (.var 3) (.cons (.var 4) .nil) .nil)) (env := e22 j (.v (.str z)) (.v (.int (sp : Int))) (.v (.int (av : Int))) .no) (st := s3) (as := List.range 9) (fun k => D.int (k : Int)) (fun k => D.str (nameK z sp av k)) rfl (by show (List.range 9).length ≤ LIM; rw [List.length_range]; have := lim1000; omega) fun k hk => ⟨e22 j (.v (.str z)) (.v (.int (sp : Int))) (.v (.int (av : Int))) (.v (.int (k : Int))), rfl, ?_⟩
  · refine this.trans ?_
    unfold namesL strsD
    rw [List.map_map]; rfl
  · have k7 := List.mem_range.mp hk
    have hcut1 : L2.cutS z none (some (sp : Int)) = ⟨((cl z).take sp).toArray⟩ := by
      have e := cutL_take (cl z) sp (by rw [cl_len]; exact hspot)
      unfold cutL at e
      rw [cl_len] at e
      unfold L2.cutS
      exact congrArg (fun l : List Nat => (⟨l.toArray⟩ : Str)) e
    have hcut2 : L2.cutS z (some (sp : Int)) none = ⟨((cl z).drop sp).toArray⟩ := by
      have e := cutL_drop (cl z) sp (by rw [cl_len]; exact hspot)
      unfold cutL at e
      rw [cl_len] at e
      unfold L2.cutS
      exact congrArg (fun l : List Nat => (⟨l.toArray⟩ : Str)) e
    have x1 : evE pg (callN pg (n + 2)) (.slc (.var 3) .nil (.cons (.var 4) .nil)) (e22 j (.v (.str z)) (.v (.int (sp : Int))) (.v (.int (av : Int))) (.v (.int (k : Int)))) s3 = .ok (.str ⟨((cl z).take sp).toArray⟩) s3 := by
      refine ev_slcS (d := .str z) (st1 := s3) (st2 := s3) (lo := none) (hi := some (sp : Int)) rfl rfl (ev_oS rfl) nr_str ?_
      show (if z.length ≤ LIM then some (D.str (L2.cutS z none (some (sp : Int)))) else none) = _
      rw [if_pos hzL, hcut1]
    have x3 : evE pg (callN pg (n + 2)) (.slc (.var 3) (.cons (.var 4) .nil) .nil) (e22 j (.v (.str z)) (.v (.int (sp : Int))) (.v (.int (av : Int))) (.v (.int (k : Int)))) s3 = .ok (.str ⟨((cl z).drop sp).toArray⟩) s3 := by
      refine ev_slcS (d := .str z) (st1 := s3) (st2 := s3) (lo := some (sp : Int)) (hi := none) rfl (ev_oS rfl) rfl nr_str ?_
      show (if z.length ≤ LIM then some (D.str (L2.cutS z (some (sp : Int)) none)) else none) = _
      rw [if_pos hzL, hcut2]
    have x2 : evE pg (callN pg (n + 2)) (.idx (.var 2) (.bin .mod (.bif .int (.cons (.bin .add (.var 5) (.bin .mul (.lit (.int 3)) (.var 7))) .nil)) (.lit (.int 26)))) (e22 j (.v (.str z)) (.v (.int (sp : Int))) (.v (.int (av : Int))) (.v (.int (k : Int)))) s3 = .ok (.str ⟨#[97 + (av + 3 * k) % 26]⟩) s3 := by
      refine ev_idxS (d := .str smallS) (e := .int (((av + 3 * k) % 26 : Nat) : Int)) (st1 := s3) rfl (binS (i := ((av + 3 * k : Nat) : Int)) (intS (binS (i := (av : Int)) (j := 3 * (k : Int)) rfl (binS (i := 3) (j := (k : Int)) rfl rfl (mul_some (by omega))) ?_)) rfl ?_) nr_str ?_
      · show some (D.int ((av : Int) + 3 * (k : Int))) = _
        congr 2
      · rw [mod_some (by omega)]
        congr 2
      · show (if smallS.length ≤ LIM then (atI (cl smallS) (((av + 3 * k) % 26 : Nat) : Int)).map fun c => D.str ⟨#[c]⟩ else none) = _
        have hs : smallS.length = 26 := by decide +kernel
        have hm : (av + 3 * k) % 26 < 26 := Nat.mod_lt _ (by omega)
        rw [if_pos (by rw [hs]; have := lim1000; omega)]
        unfold atI
        rw [ixN_nat (by rw [cl_len, hs]; exact hm)]
        show ((cl smallS)[(av + 3 * k) % 26]?).map _ = _
        rw [small_at _ hm]; rfl
    have lenOk : ∀ a b : Str, a.length + b.length ≤ 100 → binD .add (.str a) (.str b) = some (.str (a ++ b)) := fun a b hl => by
      show (if a.length + b.length ≤ LIM then some (D.str (a ++ b)) else none) = _
      rw [if_pos (by have := lim1000; omega)]
    have l1 : (⟨((cl z).take sp).toArray⟩ : Str).length ≤ 7 := by rw [← cl_len, cl_mk, List.length_take, cl_len]; omega
    have l3 : (⟨((cl z).drop sp).toArray⟩ : Str).length ≤ 7 := by rw [← cl_len, cl_mk, List.length_drop, cl_len]; omega
    have l2 : (⟨#[97 + (av + 3 * k) % 26]⟩ : Str).length = 1 := rfl
    have lA : ((⟨((cl z).take sp).toArray⟩ : Str) ++ ⟨#[97 + (av + 3 * k) % 26]⟩).length ≤ 8 := by
      rw [← cl_len, cl_app, List.length_append, cl_len, cl_len, l2]; omega
    refine (ev_binS (ev_binS x1 x2 nr_str nr_str (lenOk _ _ (by rw [l2]; omega))) x3 nr_str nr_str (lenOk _ _ (by omega))).trans ?_
    congr 2
    apply cl_inj
    rw [cl_app, cl_app, cl_mk, cl_mk, cl_name]; rfl
end K35
end ZK35q
section ZK35r
set_option Elab.async false
set_option linter.all false
set_option maxRecDepth 100000
set_option maxHeartbeats 400000
namespace K35
open PySem PD
/-! odd values -/
mutual
/-- what may be asked about -/
def okD : D → Bool
  | .non | .bl _ | .int _ => true
  | .str x => asc x && decide (x.length ≤ 1000)
  | .tup ds | .lst ds => okAll ds
  | .dct kvs => headStr kvs
  | .ref _ | .scr _ | .err _ _ => false
def okAll : List D → Bool
  | [] => true
  | d :: ds => okD d && okAll ds
end
theorem okAll_iff : ∀ {ds : List D}, okAll ds = true ↔ ∀ d ∈ ds, okD d = true
  | [] => ⟨(fun _ _ z => nomatch z), fun _ => rfl⟩
  | d :: ds => by
    show (okD d && okAll ds) = true ↔ _
    rw [Bool.and_eq_true, okAll_iff (ds := ds), List.forall_mem_cons]
theorem okD_nr {d : D} (h : okD d = true) : NR d := fun i e => by subst e; cases h
def bases : List D := [.non, .bl true, .bl false, .int 0, .int 1, .int (-1), .int 10, .str "", .str "one", .str "wait", .tup [], .lst [], .dct [], .tup [.int 0], .tup [.str "wait", .int 1]]
inductive Od : Nat → D → Prop
  | base {n : Nat} {d : D} (h : d ∈ bases) : Od n d
  | t1 {n : Nat} {d : D} (h : Od n d) : Od (n + 1) (.tup [d])
  | l1 {n : Nat} {d : D} (h : Od n d) : Od (n + 1) (.lst [d])
  | d1 {n : Nat} {d : D} (h : Od n d) : Od (n + 1) (.dct [(.str "a", d)])
  | t2 {n : Nat} {d : D} (h : Od n d) : Od (n + 1) (.tup [d, .non])
theorem Od.mono {n m : Nat} {d : D} (h : Od n d) : n ≤ m → Od m d := by
  induction h generalizing m with
  | base h => exact fun _ => .base h
  | t1 _ ih => intro hm; obtain ⟨k, rfl⟩ : ∃ k, m = k + 1 := ⟨m - 1, by omega⟩; exact .t1 (ih (by omega))
  | l1 _ ih => intro hm; obtain ⟨k, rfl⟩ : ∃ k, m = k + 1 := ⟨m - 1, by omega⟩; exact .l1 (ih (by omega))
  | d1 _ ih => intro hm; obtain ⟨k, rfl⟩ : ∃ k, m = k + 1 := ⟨m - 1, by omega⟩; exact .d1 (ih (by omega))
  | t2 _ ih => intro hm; obtain ⟨k, rfl⟩ : ∃ k, m = k + 1 := ⟨m - 1, by omega⟩; exact .t2 (ih (by omega))
def shwB (d : D) : Bool := d.shw && decide (d.pd.depth ≤ 2) && decide (d.shl ≤ 4000)
theorem shw_of {d : D} (h : shwB d = true) : Shw 2 4000 d := by
  unfold shwB at h
  simp only [Bool.and_eq_true, decide_eq_true_eq] at h
  exact ⟨h.1.1, h.1.2, h.2⟩
theorem bases_shw : bases.all shwB = true := by decide +kernel
theorem bases_ok : bases.all okD = true := by decide +kernel
theorem shw_dct1 {k m : Nat} {d : D} (h : Shw k m d) : Shw (k + 1) (m + 20) (.dct [(.str "a", d)]) := by
  have ha : (D.str "a").shw = true := by decide +kernel
  have hl : (D.str "a").shl = 12 := by decide +kernel
  have hp : (D.str "a").pd.depth = 0 := by simp only [D.pd, PyData.depth]
  refine ⟨?_, ?_, ?_⟩
  · simp only [D.shw] at ha
    simp only [D.shw, D.shwk, h.shw, D.leafB]
    rw [ha]; rfl
  · have := h.depth
    simp only [D.pd, D.pdk, PyData.depth, PyData.depthKv]
    omega
  · have := h.shl
    simp only [D.shl, D.shlk] at hl ⊢
    omega
theorem shw_non : Shw 0 4 .non := ⟨rfl, by simp only [D.pd, PyData.depth]; omega, by simp only [D.shl]; omega⟩
theorem shw_od {n : Nat} {d : D} (h : Od n d) : Shw (2 + n) (4000 + 20 * n) d := by
  induction h with
  | @base n d h => exact (shw_of (List.all_eq_true.mp bases_shw _ h)).mono (by omega) (by omega)
  | @t1 n d h ih => exact (shw_tup (ds := [d]) fun x hx => by rw [List.mem_singleton.mp hx]; exact ih).mono (by omega) (by simp only [List.length_singleton]; omega)
  | @l1 n d h ih => exact (shw_lst (ds := [d]) fun x hx => by rw [List.mem_singleton.mp hx]; exact ih).mono (by omega) (by simp only [List.length_singleton]; omega)
  | @d1 n d h ih => exact (shw_dct1 ih).mono (by omega) (by omega)
  | @t2 n d h ih =>
    refine ⟨?_, ?_, ?_⟩
    · simp only [D.shw, D.shws, ih.shw]; rfl
    · have := ih.depth
      simp only [D.pd, D.pds, PyData.depth, PyData.depthAll]; omega
    · have := ih.shl
      simp only [D.shl, D.shls]; omega
theorem ok_od {n : Nat} {d : D} (h : Od n d) : okD d = true := by
  induction h with
  | base h => exact List.all_eq_true.mp bases_ok _ h
  | t1 _ ih => simp only [okD, okAll, ih]; rfl
  | l1 _ ih => simp only [okD, okAll, ih]; rfl
  | d1 _ ih => rfl
  | t2 _ ih => simp only [okD, okAll, ih]; rfl
def wrapList : PD.X := .lst (.cons (.tup (.cons (.var 1) .nil)) (.cons (.lst (.cons (.var 1) .nil)) (.cons (.dct1 "a" (.var 1)) (.cons (.tup (.cons (.var 1) (.cons (.lit .non) .nil))) .nil))))
theorem wrapList_ev {cf : Calls} {a c : Sl} {d : D} : evE pg cf wrapList [a, .v d, c] = PD.ret (.lst [.tup [d], .lst [d], .dct [(.str "a", d)], .tup [d, .non]]) := rfl
theorem odd_ev (n N j : Nat) (st : Store) (hN : N ≤ 4000) (h : Jar N j st) : ∃ (d : D) (st' : Store), Od 18 d ∧ Jar (N + 20) j st' ∧ Fr j st st' ∧ callN pg (n + 3) 14 [.ref j] st = .ok d st' := by
  obtain ⟨d0, s1, a1, a2, af, a3⟩ := of_ev n N j bases st (by omega) (by decide) (by decide) h
  obtain ⟨dm, s2, b1, b2, bf, b3⟩ := of_ev n (N + 1) j [.int 0, .int 0, .int 0, .int 1, .int 2, .int 18] s1 (by omega) (by decide) (by decide) a2
  have hm : ∃ m : Nat, dm = .int (m : Int) ∧ m ≤ 18 := by
    simp only [List.mem_cons, List.not_mem_nil, or_false] at b1
    rcases b1 with rfl | rfl | rfl | rfl | rfl | rfl
    · exact ⟨0, rfl, by omega⟩
    · exact ⟨0, rfl, by omega⟩
    · exact ⟨0, rfl, by omega⟩
    · exact ⟨1, rfl, by omega⟩
    · exact ⟨2, rfl, by omega⟩
    · exact ⟨18, rfl, by omega⟩
  obtain ⟨m, rfl, hm4⟩ := hm
  have hlen : (rangeD 0 (m : Int)).length = m := by rw [rangeD_nat, List.length_map, List.length_range]
  obtain ⟨env', s3, ⟨⟨v, c, rfl, hv⟩, hJ, hF⟩, hf⟩ := forL_invB (f := fun d e => match bindT (.tv 2) d e with
      | some e => evB pg (callN pg (n + 2)) (.cons (.asg 1 (.pl (.call 12 (.cons (.var 0) (.cons wrapList .nil))))) .nil) e
      | none => fail) (fun i env st => (∃ v c, env = [.v (.ref j), .v v, c] ∧ Od i v) ∧ Jar (N + 2 + i) j st ∧ Fr j s2 st) m (rangeD 0 (m : Int)) 0 [.v (.ref j), .v d0, .no] s2 (by omega) ⟨⟨_, _, rfl, .base a1⟩, b2, Fr.refl⟩ fun i d env st hi hd hI => by
    obtain ⟨⟨v, c, rfl, hv⟩, hJ, hF⟩ := hI
    obtain ⟨d', s', c1, c2, cf, c3⟩ := of_ev n (N + 2 + i) j [.tup [v], .lst [v], .dct [(.str "a", v)], .tup [v, .non]] st (by omega) (by show 1 ≤ 4; omega) (by show 4 ≤ 1000; omega) hJ
    refine ⟨[.v (.ref j), .v d', .v d], s', ⟨⟨_, _, rfl, ?_⟩, c2, hF.trans cf⟩, ?_⟩
    · simp only [List.mem_cons, List.not_mem_nil, or_false] at c1
      rcases c1 with rfl | rfl | rfl | rfl
      · exact .t1 hv
      · exact .l1 hv
      · exact .d1 hv
      · exact .t2 hv
    · show evB pg (callN pg (n + 2)) _ [.v (.ref j), .v v, .v d] st = _
      rw [evB_nxS (ev_asgS (ev_callS (arg2S (d := .ref j) (st1 := st) nst_var (by intro _ h; exact nomatch h) rfl (congrFun wrapList_ev st)) c3))]
      rfl
  rw [hlen, Nat.zero_add] at hJ hv
  refine ⟨v, s3, hv.mono (by omega), hJ.mono (by omega), af.trans (bf.trans hF), ?_⟩
  refine callRt (fd := ⟨1, 3, t14⟩) (env := [.v (.ref j), .no, .no]) rfl rfl rfl ?_
  show evB pg (callN pg (n + 2)) t14 [.v (.ref j), .no, .no] st = _
  unfold t14
  rw [evB_nxS (env' := [.v (.ref j), .v d0, .no]) (st1 := s1) (ev_asgS (ev_callS (ds := [.ref j, .lst bases]) (st1 := st) rfl a3))]
  rw [evB_nxS (ev_forS (ev_rng1S (ev_callS (ds := [.ref j, .lst [.int 0, .int 0, .int 0, .int 1, .int 2, .int 18]]) (st1 := s1) rfl b3) (by unfold gRng; rw [decide_eq_true_eq]; omega)) hf)]
  exact evB_rtS rfl
end K35
end ZK35r
section ZK35f
set_option Elab.async false
set_option linter.all false
set_option maxRecDepth 100000
set_option maxHeartbeats 400000
namespace K35
open PySem PD
/-! forms of any value -/
def smB (c : Nat) : Bool := decide (97 ≤ c) && decide (c ≤ 122)
theorem low_eq (s : Str) : low s = (cl s).all smB := rfl
theorem small_iff (c : Nat) : (cl smallS).contains c = smB c := by
  cases h : smB c with
  | true => exact small_has h
  | false =>
    rw [Bool.eq_false_iff]
    intro z
    have := low_small c (List.elem_iff.mp z)
    rw [show (decide (97 ≤ c) && decide (c ≤ 122)) = smB c from rfl, h] at this
    cases this
def nmB (s : Str) : Bool := (decide (1 ≤ s.length) && decide (s.length ≤ 8)) && low s
def nameB : D → Bool
  | .str s => nmB s
  | _ => false
theorem nm_iff {s : Str} : nmB s = true ↔ Nm s := by
  unfold nmB
  simp only [Bool.and_eq_true, decide_eq_true_eq]
  exact ⟨fun h => ⟨h.1, h.2⟩, fun h => ⟨h.len, h.low⟩⟩
theorem ok_str {s : Str} (h : okD (.str s) = true) : asc s = true ∧ s.length ≤ 1000 := by
  simp only [okD, Bool.and_eq_true, decide_eq_true_eq] at h
  exact h
def isStr : D → Bool
  | .str _ => true
  | _ => false
theorem ty_str {d : D} (h : okD d = true) : isTy .str d = some (isStr d) := by
  cases d with
  | dct kvs =>
    cases kvs with
    | nil => rfl
    | cons p r =>
      obtain ⟨k, v⟩ := p
      simp only [okD] at h
      cases k <;> first | rfl | (simp [headStr, isStrK] at h)
  | ref _ => cases h
  | scr _ => cases h
  | err _ _ => cases h
  | _ => rfl
def isTupB : D → Bool
  | .tup _ => true
  | _ => false
theorem ty_tup {d : D} (h : okD d = true) : isTy .tuple d = some (isTupB d) := by
  cases d with
  | dct kvs =>
    cases kvs with
    | nil => rfl
    | cons p r =>
      obtain ⟨k, v⟩ := p
      simp only [okD] at h
      cases k <;> first | rfl | (simp [headStr, isStrK] at h)
  | ref _ => cases h
  | scr _ => cases h
  | err _ _ => cases h
  | _ => rfl
def isIntB : D → Bool
  | .int _ | .bl _ => true
  | _ => false
def isBlB : D → Bool
  | .bl _ => true
  | _ => false
theorem ty_int {d : D} (h : okD d = true) : isTy .int d = some (isIntB d) ∧ isTy .bool d = some (isBlB d) := by
  cases d with
  | dct kvs =>
    cases kvs with
    | nil => exact ⟨rfl, rfl⟩
    | cons p r =>
      obtain ⟨k, v⟩ := p
      simp only [okD] at h
      cases k <;> first | exact ⟨rfl, rfl⟩ | (simp [headStr, isStrK] at h)
  | ref _ => cases h
  | scr _ => cases h
  | err _ _ => cases h
  | _ => exact ⟨rfl, rfl⟩
section
variable {P : Prog} {cf : Calls} {env : PD.Env} {st st1 : Store}
theorem ev_isiS {x : PD.X} {d : D} {t : Ty} {b : Bool} (h : evE P cf x env st = .ok d st1) (hv : NR d) (ht : isTy t d = some b) : evE P cf (.bif (.isi t) (.cons x .nil)) env st = .ok (.bl b) st1 := ev_bif1S h hv (by
  show (isTy t d).map D.bl = _
  rw [ht]; rfl)
theorem ev_cmp2S {o o' : Cop} {e1 e2 e3 : PD.X} {x y z : D} {r r' : Bool} (h1 : evE P cf e1 env st = .ok x st) (h2 : evE P cf e2 env st = .ok y st) (h3 : evE P cf e3 env st = .ok z st) (c1 : cmpD o x y = some r) (c2 : cmpD o' y z = some r') : evE P cf (.cmp2 o o' e1 e2 e3) env st = .ok (.bl (r && r')) st := by
  show bnd (evE P cf e1 env) (fun x => bnd (evE P cf e2 env) fun y => bnd (opt (cmpD o x y)) fun r =>
      if r then bnd (evE P cf e3 env) fun z => bnd (opt (cmpD o' y z)) fun r => PD.ret (D.bl r) else PD.ret (.bl false)) st = _
  rw [bnd_ok h1, bnd_ok h2, c1]
  cases r with
  | false => rfl
  | true =>
    show bnd (evE P cf e3 env) _ st = _
    rw [bnd_ok h3, c2]; rfl
end
theorem le_a (c : Nat) : cmpD .le (.str "a") (.str ⟨#[c]⟩) = some (decide (97 ≤ c)) := by
  show some (!decide (([c] : List Nat) < [97])) = _
  congr 1
  have : (([c] : List Nat) < [97]) ↔ c < 97 := by simp [List.cons_lt_cons_iff]
  by_cases h : c < 97
  · rw [decide_eq_true (this.mpr h), decide_eq_false (by omega)]; rfl
  · rw [decide_eq_false (fun z => h (this.mp z)), decide_eq_true (by omega)]; rfl
theorem le_z (c : Nat) : cmpD .le (.str ⟨#[c]⟩) (.str "z") = some (decide (c ≤ 122)) := by
  show some (!decide (([122] : List Nat) < [c])) = _
  congr 1
  have : (([122] : List Nat) < [c]) ↔ 122 < c := by simp [List.cons_lt_cons_iff]
  by_cases h : 122 < c
  · rw [decide_eq_true (this.mpr h), decide_eq_false (by omega)]; rfl
  · rw [decide_eq_false (fun z => h (this.mp z)), decide_eq_true (by omega)]; rfl
theorem and3_ev {P : Prog} {cf : Calls} {env : PD.Env} {st : Store} {a b c : PD.X} {x y z : Bool} (h1 : evE P cf a env st = .ok (.bl x) st) (h2 : x = true → evE P cf b env st = .ok (.bl y) st) (h3 : x = true → y = true → evE P cf c env st = .ok (.bl z) st) :
    evE P cf (.and_ (.cons a (.cons b (.cons c .nil)))) env st = .ok (.bl (x && (y && z))) st := by
  cases x with
  | false => exact ev_andF h1
  | true =>
    refine (ev_andT h1).trans ?_
    cases y with
    | false => exact ev_andF (h2 rfl)
    | true => exact (ev_andT (h2 rfl)).trans ((congrFun ev_and1 _).trans (h3 rfl rfl))
theorem and2_ev {P : Prog} {cf : Calls} {env : PD.Env} {st : Store} {a b : PD.X} {x y : Bool} (h1 : evE P cf a env st = .ok (.bl x) st) (h2 : x = true → evE P cf b env st = .ok (.bl y) st) :
    evE P cf (.and_ (.cons a (.cons b .nil))) env st = .ok (.bl (x && y)) st := by
  cases x with
  | false => exact ev_andF h1
  | true => exact ev_and2T h1 (h2 rfl)
theorem or2_ev {P : Prog} {cf : Calls} {env : PD.Env} {st : Store} {a b : PD.X} {x y : Bool} (h1 : evE P cf a env st = .ok (.bl x) st) (h2 : x = false → evE P cf b env st = .ok (.bl y) st) :
    evE P cf (.or_ (.cons a (.cons b .nil))) env st = .ok (.bl (x || y)) st := by
  cases x with
  | true => exact ev_orT h1
  | false => exact ev_or2F h1 (h2 rfl)
theorem or3_ev {P : Prog} {cf : Calls} {env : PD.Env} {st : Store} {a b c : PD.X} {x y z : Bool} (h1 : evE P cf a env st = .ok (.bl x) st) (h2 : x = false → evE P cf b env st = .ok (.bl y) st) (h3 : x = false → y = false → evE P cf c env st = .ok (.bl z) st) :
    evE P cf (.or_ (.cons a (.cons b (.cons c .nil)))) env st = .ok (.bl (x || (y || z))) st := by
  cases x with
  | true => exact ev_orT h1
  | false =>
    refine (ev_orF h1).trans ?_
    cases y with
    | true => exact ev_orT (h2 rfl)
    | false => exact (ev_orF (h2 rfl)).trans ((congrFun ev_or1 _).trans (h3 rfl rfl))
theorem all_low (s : Str) : (((cl s).map smB).all id) = low s := by
  rw [List.all_map]; rfl
/-- is_name -/
theorem isname_ev (n : Nat) {d : D} (h : okD d = true) (st : Store) : callN pg (n + 1) 3 [d] st = .ok (.bl (nameB d)) st := by
  refine callRt (fd := ⟨1, 2, t3⟩) (env := [.v d, .no]) rfl rfl rfl (evB_rtS (ev_rtS ?_))
  cases hs : isStr d with
  | false =>
    have e : nameB d = false := by cases d <;> first | rfl | cases hs
    rw [e]
    exact ev_andF (ev_isiS rfl (okD_nr h) (by rw [ty_str h, hs]))
  | true =>
    obtain ⟨s, rfl⟩ : ∃ s, d = .str s := by cases d <;> first | exact ⟨_, rfl⟩ | cases hs
    have hl : s.length ≤ LIM := by have := (ok_str h).2; have := lim1000; omega
    refine (and3_ev (x := true) (y := decide (1 ≤ s.length) && decide (s.length ≤ 8)) (z := low s) rfl (fun _ => ?_) fun _ _ => ?_).trans ?_
    · have := ev_leleS (P := pg) (cf := callN pg n) (env := [.v (.str s), .no]) (st := st) (e1 := .lit (.int 1)) (e2 := .bif .len (.cons (.var 0) .nil)) (e3 := .glob 1) (lo := 1) (i := s.length) (hi := 8) rfl (ev_bif1S (d := .str s) rfl nr_str (len_str s hl)) rfl
      refine this.trans ?_
      congr 3 <;> rw [decide_eq_decide] <;> omega
    · have := ev_allS (P := pg) (cf := callN pg n) (env := [.v (.str s), .no]) (st := st) (st1 := st) (x := .lc [1] (.tv 1) (.sgn (.var 0)) (.lit (.bl true)) (.cmp .in_ (.var 1) (.glob 0))) (bs := (cl s).map smB) (by
        rw [List.map_map]
        refine ev_lcA (as := cl s) (fun (c : Nat) => D.str ⟨#[c]⟩) (fun c => D.bl (smB c)) (ev_sgnS (z := s) rfl) (by rw [cl_len]; exact hl) fun c hc => ⟨[.v (.str s), .v (.str ⟨#[c]⟩)], rfl, ?_⟩
        refine ev_cmpS (d := .str ⟨#[c]⟩) (e := .str smallS) (st1 := st) rfl rfl nr_str nr_str ?_
        show some ((cl smallS).contains c) = some (smB c)
        rw [small_iff])
      rw [all_low] at this
      exact this
    · show _ = Res.ok (D.bl (nmB s)) st
      rw [Bool.true_and]; rfl
/-- the law's own look at a name -/
theorem lname_ev (n : Nat) {d : D} (h : okD d = true) (st : Store) : callN pg (n + 1) 16 [d] st = .ok (.bl (nameB d)) st := by
  refine callRt (fd := ⟨1, 2, t16⟩) (env := [.v d, .no]) rfl rfl rfl (evB_rtS (ev_rtS ?_))
  cases hs : isStr d with
  | false =>
    have e : nameB d = false := by cases d <;> first | rfl | cases hs
    rw [e]
    exact ev_andF (ev_isiS rfl (okD_nr h) (by rw [ty_str h, hs]))
  | true =>
    obtain ⟨s, rfl⟩ : ∃ s, d = .str s := by cases d <;> first | exact ⟨_, rfl⟩ | cases hs
    have hl : s.length ≤ LIM := by have := (ok_str h).2; have := lim1000; omega
    refine (and3_ev (x := true) (y := decide (1 ≤ s.length) && decide (s.length ≤ 8)) (z := low s) rfl (fun _ => ?_) fun _ _ => ?_).trans ?_
    · have := ev_leleS (P := pg) (cf := callN pg n) (env := [.v (.str s), .no]) (st := st) (e1 := .lit (.int 1)) (e2 := .bif .len (.cons (.var 0) .nil)) (e3 := .lit (.int 8)) (lo := 1) (i := s.length) (hi := 8) rfl (ev_bif1S (d := .str s) rfl nr_str (len_str s hl)) rfl
      refine this.trans ?_
      congr 3 <;> rw [decide_eq_decide] <;> omega
    · have := ev_allS (P := pg) (cf := callN pg n) (env := [.v (.str s), .no]) (st := st) (st1 := st) (x := .lc [1] (.tv 1) (.sgn (.var 0)) (.lit (.bl true)) (.cmp2 .le .le (.lit (.str "a")) (.var 1) (.lit (.str "z")))) (bs := (cl s).map smB) (by
        rw [List.map_map]
        refine ev_lcA (as := cl s) (fun (c : Nat) => D.str ⟨#[c]⟩) (fun c => D.bl (smB c)) (ev_sgnS (z := s) rfl) (by rw [cl_len]; exact hl) fun c hc => ⟨[.v (.str s), .v (.str ⟨#[c]⟩)], rfl, ?_⟩
        exact ev_cmp2S rfl rfl rfl (le_a c) (le_z c))
      rw [all_low] at this
      exact this
    · show _ = Res.ok (D.bl (nmB s)) st
      rw [Bool.true_and]; rfl
def inB (d : D) (L : List Str) : Bool := match d with
  | .str s => L.contains s
  | _ => false
theorem isword_ev (n : Nat) {d : D} {L : List Str} (h : okD d = true) (hL : ∀ s ∈ L, asc s = true) (st : Store) : callN pg (n + 1) 4 [d, .tup (strsD L)] st = .ok (.bl (inB d L)) st := by
  cases hs : isStr d with
  | false =>
    have e : inB d L = false := by cases d <;> first | rfl | cases hs
    rw [e]
    exact wordN_ev n (by rw [ty_str h, hs]) st
  | true =>
    obtain ⟨s, rfl⟩ : ∃ s, d = .str s := by cases d <;> first | exact ⟨_, rfl⟩ | cases hs
    exact word_ev n (ok_str h).1 hL st
def btB (d : D) (lo hi : Int) : Bool := match d with
  | .int k => decide (lo ≤ k) && decide (k ≤ hi)
  | _ => false
def intB : D → Bool
  | .int _ => true
  | _ => false
theorem isint_ev (n : Nat) {d : D} (h : okD d = true) (st : Store) : callN pg (n + 1) 0 [d] st = .ok (.bl (intB d)) st := by
  refine callRt (fd := ⟨1, 1, t0⟩) (env := [.v d]) rfl rfl rfl (evB_rtS (ev_rtS ?_))
  refine (and2_ev (x := isIntB d) (y := !isBlB d) (ev_isiS rfl (okD_nr h) (ty_int h).1) fun _ => ev_notS (ev_isiS rfl (okD_nr h) (ty_int h).2)).trans ?_
  cases d <;> rfl
theorem isbt_ev (n : Nat) {d : D} (h : okD d = true) (lo hi : Int) (st : Store) : callN pg (n + 2) 1 [d, .int lo, .int hi] st = .ok (.bl (btB d lo hi)) st := by
  refine callRt (fd := ⟨3, 3, t1⟩) (env := [.v d, .v (.int lo), .v (.int hi)]) rfl rfl rfl (evB_rtS (ev_rtS ?_))
  refine (and2_ev (x := intB d) (y := btB d lo hi) (ev_callS (ds := [d]) (st1 := st) rfl (isint_ev n h st)) fun hb => ?_).trans ?_
  · obtain ⟨k, rfl⟩ : ∃ k, d = .int k := by cases d <;> first | exact ⟨_, rfl⟩ | cases hb
    exact ev_leleS rfl rfl rfl
  · cases d <;> rfl
def tpB (d : D) (lo hi : Nat) : Bool := match d with
  | .tup ds => decide (lo ≤ ds.length) && decide (ds.length ≤ hi)
  | _ => false
theorem istup_ev (n : Nat) {d : D} (h : okD d = true) (lo hi : Nat) (st : Store) : callN pg (n + 1) 2 [d, .int lo, .int hi] st = .ok (.bl (tpB d lo hi)) st := by
  cases ht : isTupB d with
  | false =>
    have e : tpB d lo hi = false := by cases d <;> first | rfl | cases ht
    rw [e]
    exact callRt (fd := ⟨3, 3, t2⟩) (env := [.v d, .v (.int lo), .v (.int hi)]) rfl rfl rfl (evB_rtS (ev_rtS (ev_andF (ev_isiS rfl (okD_nr h) (by rw [ty_tup h, ht])))))
  | true =>
    obtain ⟨ds, rfl⟩ : ∃ ds, d = .tup ds := by cases d <;> first | exact ⟨_, rfl⟩ | cases ht
    refine (tuple_ev n ds lo hi st).trans ?_
    show _ = Res.ok (D.bl (decide (lo ≤ ds.length) && decide (ds.length ≤ hi))) st
    congr 3 <;> rw [decide_eq_decide] <;> omega
end K35
end ZK35f
section ZK35n
set_option Elab.async false
set_option linter.all false
set_option maxRecDepth 100000
set_option maxHeartbeats 400000
namespace K35
open PySem PD
/-! places, by their form -/
theorem host_ok : (D.str "host").eqOk = true := by decide +kernel
theorem asc_host : asc "host" = true := by decide +kernel
theorem asc_nil : asc "" = true := by decide +kernel
def atB (d : D) : Bool := match d with
  | .str a => (a == "") || nmB a
  | _ => false
def soB (d : D) : Bool := match d with
  | .int k => decide (2 ≤ k) && decide (k ≤ 6)
  | .str h => h == "host"
  | _ => false
def plB : D → Bool
  | .tup [x, y, z] => nameB x && (atB y && soB z)
  | _ => false
structure RowOk (r : Row) : Prop where
  nm : Nm r.nm
  at_ : r.at_ = "" ∨ Nm r.at_
  so : ∀ k, r.so = some k → 2 ≤ k ∧ k ≤ 6
theorem RowOk.asc {r : Row} (h : RowOk r) : PD.asc r.at_ = true := by
  rcases h.at_ with e | e
  · rw [e]; exact asc_nil
  · exact e.asc
theorem pl_row {d : D} (h : plB d = true) : ∃ r, d = rowD r ∧ RowOk r := by
  unfold plB at h
  split at h
  · rename_i x y z
    simp only [Bool.and_eq_true] at h
    obtain ⟨h1, h2, h3⟩ := h
    obtain ⟨s, rfl⟩ : ∃ s, x = .str s := by cases x <;> first | exact ⟨_, rfl⟩ | cases h1
    obtain ⟨a, rfl⟩ : ∃ s, y = .str s := by cases y <;> first | exact ⟨_, rfl⟩ | cases h2
    have ha : a = "" ∨ Nm a := by
      have h2' : ((a == "") || nmB a) = true := h2
      rw [Bool.or_eq_true] at h2'
      rcases h2' with e | e
      · exact .inl (eq_of_beq e)
      · exact .inr (nm_iff.mp e)
    cases z with
    | int k =>
      have h3' : (decide (2 ≤ k) && decide (k ≤ 6)) = true := h3
      simp only [Bool.and_eq_true, decide_eq_true_eq] at h3'
      exact ⟨⟨s, a, some k⟩, rfl, nm_iff.mp h1, ha, fun k' e => by cases e; exact h3'⟩
    | str z =>
      have e : z = "host" := eq_of_beq h3
      subst e
      exact ⟨⟨s, a, none⟩, rfl, nm_iff.mp h1, ha, fun k' e => by cases e⟩
    | _ => cases h3
  · cases h
theorem row_pl {r : Row} (h : RowOk r) : plB (rowD r) = true := by
  show (nmB r.nm && (((r.at_ == "") || nmB r.at_) && soB (soD r.so))) = true
  rw [nm_iff.mpr h.nm]
  have h2 : ((r.at_ == "") || nmB r.at_) = true := by
    rcases h.at_ with e | e
    · rw [e]; rfl
    · rw [nm_iff.mpr e, Bool.or_true]
  rw [h2]
  cases hso : r.so with
  | none => rfl
  | some k =>
    have := h.so k hso
    show (true && (true && (decide (2 ≤ k) && decide (k ≤ 6)))) = true
    rw [decide_eq_true this.1, decide_eq_true this.2]; rfl
theorem ok_at {ds : List D} {i : Nat} {d : D} (h : okAll ds = true) (e : ds[i]? = some d) : okD d = true := okAll_iff.mp h d (List.mem_of_getElem? e)
/-- is_place -/
theorem isplace_ev (n : Nat) {d : D} (h : okD d = true) (st : Store) : callN pg (n + 3) 6 [d] st = .ok (.bl (plB d)) st := by
  refine callRt (fd := ⟨1, 1, t6⟩) (env := [.v d]) rfl rfl rfl ?_
  show evB pg (callN pg (n + 2)) t6 [.v d] st = _
  unfold t6
  have c0 : evE pg (callN pg (n + 2)) (.call 2 (.cons (.var 0) (.cons (.glob 10) (.cons (.glob 10) .nil)))) [.v d] st = .ok (.bl (tpB d 3 3)) st := ev_callS (ds := [d, .int 3, .int 3]) (st1 := st) rfl (istup_ev (n + 1) h 3 3 st)
  cases ht : tpB d 3 3 with
  | false =>
    have e : plB d = false := by
      unfold plB
      split
      · cases ht
      · rfl
    rw [e]
    rw [ht] at c0
    exact evB_rtS ((ev_ifS (ev_orT (ev_notS c0))).trans rfl)
  | true =>
    obtain ⟨x, y, z, rfl⟩ : ∃ x y z, d = .tup [x, y, z] := by
      cases d with
      | tup ds =>
        have h3 : (decide (3 ≤ ds.length) && decide (ds.length ≤ 3)) = true := ht
        simp only [Bool.and_eq_true, decide_eq_true_eq] at h3
        match ds, h3 with
        | [x, y, z], _ => exact ⟨x, y, z, rfl⟩
        | [], h3 => simp at h3
        | [_], h3 => simp at h3
        | [_, _], h3 => simp at h3
        | _ :: _ :: _ :: _ :: _, h3 => simp at h3
      | _ => cases ht
    have ho : okAll [x, y, z] = true := h
    have hx : okD x = true := ok_at (i := 0) ho rfl
    have hy : okD y = true := ok_at (i := 1) ho rfl
    have hz : okD z = true := ok_at (i := 2) ho rfl
    rw [ht] at c0
    have i0 : evE pg (callN pg (n + 2)) (.idx (.var 0) (.lit (.int 0))) [.v (.tup [x, y, z])] st = .ok x st := rfl
    have i1 : evE pg (callN pg (n + 2)) (.idx (.var 0) (.lit (.int 1))) [.v (.tup [x, y, z])] st = .ok y st := rfl
    have i2 : evE pg (callN pg (n + 2)) (.idx (.var 0) (.lit (.int 2))) [.v (.tup [x, y, z])] st = .ok z st := rfl
    have c1 := or2_ev (ev_notS c0) fun _ => ev_notS (ev_callS (arg1S nst_idx i0) (isname_ev (n + 1) hx st))
    show _ = Res.ok (Out.rt (.bl (nameB x && (atB y && soB z)))) st
    cases hn : nameB x with
    | false =>
      rw [hn] at c1
      exact evB_rtS ((ev_ifS c1).trans rfl)
    | true =>
      rw [hn] at c1
      rw [evB_nxS (ev_ifF c1)]
      have c2 := and2_ev (ev_notS (ev_callS (arg1S nst_idx i1) (isname_ev (n + 1) hy st))) fun _ => ev_notS (ev_callS (arg2S (st2 := st) (y := .tup (.cons (.glob 3) .nil)) (e := .tup [.str ""]) nst_idx nst_tup i1 rfl) (isword_ev (n + 1) (L := [""]) hy (fun s hs => by rw [List.mem_singleton.mp hs]; exact asc_nil) st))
      have e2 : (!nameB y && !inB y [""]) = !atB y := by
        cases y with
        | str a =>
          show (!nmB a && !([""] : List Str).contains a) = !((a == "") || nmB a)
          have : ([""] : List Str).contains a = (a == "") := by
            rw [List.contains_cons]; simp
          rw [this, Bool.not_or, Bool.and_comm]
        | _ => rfl
      rw [e2] at c2
      cases ha : atB y with
      | false =>
        rw [ha] at c2
        exact evB_rtS ((ev_ifS c2).trans rfl)
      | true =>
        rw [ha] at c2
        rw [evB_nxS (ev_ifF c2)]
        refine evB_rtS (ev_rtS ?_)
        refine (or2_ev (ev_callS (arg2S (st2 := st) (y := .tup (.cons (.glob 2) .nil)) (e := .tup [.str "host"]) nst_idx nst_tup i2 rfl) (isword_ev (n + 1) (L := ["host"]) hz (fun s hs => by rw [List.mem_singleton.mp hs]; exact asc_host) st)) fun _ => ev_callS (ds := [z, .int 2, .int 6]) (st1 := st) (evA_consS nst_idx i2 rfl) (isbt_ev n hz 2 6 st)).trans ?_
        congr 2
        cases z with
        | str a =>
          show (([("host" : Str)] : List Str).contains a || false) = (true && (true && (a == "host")))
          rw [List.contains_cons]; simp
        | _ => rfl
/-- the law's own look at a place -/
theorem lplace_ev (n : Nat) {d : D} (h : okD d = true) (st : Store) : callN pg (n + 2) 17 [d] st = .ok (.bl (plB d)) st := by
  refine callRt (fd := ⟨1, 3, t17⟩) (env := [.v d, .no, .no]) rfl rfl rfl ?_
  show evB pg (callN pg (n + 1)) t17 [.v d, .no, .no] st = _
  unfold t17
  have c0 : evE pg (callN pg (n + 1)) (.bif (.isi .tuple) (.cons (.var 0) .nil)) [.v d, .no, .no] st = .ok (.bl (isTupB d)) st := ev_isiS rfl (okD_nr h) (ty_tup h)
  cases ht : isTupB d with
  | false =>
    have e : plB d = false := by cases d <;> first | rfl | cases ht
    rw [e]
    rw [ht] at c0
    exact evB_rtS ((ev_ifS (ev_orT (ev_notS c0))).trans rfl)
  | true =>
    rw [ht] at c0
    obtain ⟨ds, rfl⟩ : ∃ ds, d = .tup ds := by cases d <;> first | exact ⟨_, rfl⟩ | cases ht
    have hl : evE pg (callN pg (n + 1)) (.cmp .ne (.bif .len (.cons (.var 0) .nil)) (.lit (.int 3))) [.v (.tup ds), .no, .no] st = .ok (.bl (!((ds.length : Int) == 3))) st := ev_cmpS (d := .int ds.length) (st1 := st) rfl rfl nr_int nr_int rfl
    by_cases h3 : ds.length = 3
    · obtain ⟨x, y, z, rfl⟩ : ∃ x y z, ds = [x, y, z] := by
        match ds, h3 with
        | [x, y, z], _ => exact ⟨x, y, z, rfl⟩
      have ho : okAll [x, y, z] = true := h
      have hx : okD x = true := ok_at (i := 0) ho rfl
      have hy : okD y = true := ok_at (i := 1) ho rfl
      have hz : okD z = true := ok_at (i := 2) ho rfl
      have i0 : ∀ {p q : Sl}, evE pg (callN pg (n + 1)) (.idx (.var 0) (.lit (.int 0))) [.v (.tup [x, y, z]), p, q] st = .ok x st := rfl
      have i1 : ∀ {p q : Sl}, evE pg (callN pg (n + 1)) (.idx (.var 0) (.lit (.int 1))) [.v (.tup [x, y, z]), p, q] st = .ok y st := rfl
      have i2 : ∀ {p q : Sl}, evE pg (callN pg (n + 1)) (.idx (.var 0) (.lit (.int 2))) [.v (.tup [x, y, z]), p, q] st = .ok z st := rfl
      have c1 := or3_ev (ev_notS c0) (fun _ => hl) fun _ _ => ev_notS (ev_callS (arg1S nst_idx i0) (lname_ev n hx st))
      show _ = Res.ok (Out.rt (.bl (nameB x && (atB y && soB z)))) st
      have e3 : (!true || (!((([x, y, z] : List D).length : Int) == 3) || !nameB x)) = !nameB x := rfl
      rw [e3] at c1
      cases hn : nameB x with
      | false =>
        rw [hn] at c1
        exact evB_rtS ((ev_ifS c1).trans rfl)
      | true =>
        rw [hn] at c1
        rw [evB_nxS (ev_ifF c1)]
        have cb : evE pg (callN pg (n + 1)) (.and_ (.cons (.bif (.isi .int) (.cons (.idx (.var 0) (.lit (.int 2))) .nil)) (.cons (.not_ (.bif (.isi .bool) (.cons (.idx (.var 0) (.lit (.int 2))) .nil))) (.cons (.cmp2 .le .le (.lit (.int 2)) (.idx (.var 0) (.lit (.int 2))) (.lit (.int 6))) .nil)))) [.v (.tup [x, y, z]), .no, .no] st = .ok (.bl (btB z 2 6)) st := by
          refine (and3_ev (x := isIntB z) (y := !isBlB z) (z := btB z 2 6) (ev_isiS i2 (okD_nr hz) (ty_int hz).1) (fun _ => ev_notS (ev_isiS i2 (okD_nr hz) (ty_int hz).2)) fun hb hb2 => ?_).trans ?_
          · obtain ⟨k, rfl⟩ : ∃ k, z = .int k := by cases z <;> first | exact ⟨_, rfl⟩ | (cases hb; done) | cases hb2
            exact ev_leleS rfl i2 rfl
          · cases z <;> rfl
        rw [evB_nxS (env' := [.v (.tup [x, y, z]), .v (.bl (btB z 2 6)), .no]) (st1 := st) (ev_asgS cb)]
        have ch : evE pg (callN pg (n + 1)) (.and_ (.cons (.bif (.isi .str) (.cons (.idx (.var 0) (.lit (.int 2))) .nil)) (.cons (.cmp .eq (.idx (.var 0) (.lit (.int 2))) (.lit (.str "host"))) .nil))) [.v (.tup [x, y, z]), .v (.bl (btB z 2 6)), .no] st = .ok (.bl (inB z ["host"])) st := by
          refine (and2_ev (x := isStr z) (y := inB z ["host"]) (ev_isiS i2 (okD_nr hz) (ty_str hz)) fun hb => ?_).trans ?_
          · obtain ⟨k, rfl⟩ : ∃ k, z = .str k := by cases z <;> first | exact ⟨_, rfl⟩ | cases hb
            refine ev_cmpS (st1 := st) i2 rfl nr_str nr_str ?_
            rw [eq_str (ok_str hz).1 asc_host]
            show some (k == "host") = some (([("host" : Str)] : List Str).contains k)
            rw [List.contains_cons]; simp
          · cases z <;> rfl
        rw [evB_nxS (env' := [.v (.tup [x, y, z]), .v (.bl (btB z 2 6)), .v (.bl (inB z ["host"]))]) (st1 := st) (ev_asgS ch)]
        refine evB_rtS (ev_rtS ?_)
        have c5 : evE pg (callN pg (n + 1)) (.or_ (.cons (.var 1) (.cons (.var 2) .nil))) [.v (.tup [x, y, z]), .v (.bl (btB z 2 6)), .v (.bl (inB z ["host"]))] st = .ok (.bl (soB z)) st := by
          refine (or2_ev (x := btB z 2 6) (y := inB z ["host"]) rfl fun _ => rfl).trans ?_
          congr 2
          cases z with
          | str a =>
            show (false || ([("host" : Str)] : List Str).contains a) = (a == "host")
            rw [List.contains_cons]; simp
          | int k =>
            show ((decide (2 ≤ k) && decide (k ≤ 6)) || false) = _
            rw [Bool.or_false]; rfl
          | _ => rfl
        refine (and3_ev (x := soB z) (y := isStr y) (z := atB y) c5 (fun _ => ev_isiS i1 (okD_nr hy) (ty_str hy)) fun _ hb => ?_).trans ?_
        · obtain ⟨a, rfl⟩ : ∃ k, y = .str k := by cases y <;> first | exact ⟨_, rfl⟩ | cases hb
          exact or2_ev (ev_cmpS (st1 := st) i1 rfl nr_str nr_str (eq_str (ok_str hy).1 asc_nil)) fun _ => ev_callS (arg1S nst_idx i1) (lname_ev n hy st)
        · congr 2
          cases y <;> cases soB z <;> first | rfl | simp [isStr, atB]
    · have e : plB (.tup ds) = false := by
        unfold plB
        split
        · rename_i heq
          cases heq
          exact absurd rfl h3
        · rfl
      rw [e]
      have : ((ds.length : Int) == 3) = false := by rw [beq_eq_false_iff_ne]; omega
      rw [this] at hl
      exact evB_rtS ((ev_ifS ((ev_orF (ev_notS c0)).trans (ev_orT hl))).trans rfl)
end K35
end ZK35n
section ZK35o
set_option Elab.async false
set_option linter.all false
set_option maxRecDepth 100000
set_option maxHeartbeats 400000
namespace K35
open PySem PD
/-! rows of places -/
def rowsD (R : List Row) : D := .tup (R.map rowD)
def atD (R : List Row) (s : Str) : Str := ((R.find? (fun r => r.nm == s)).map (·.at_)).getD ""
def atL (R : List Row) : List (Str × D) := R.map fun r => (r.nm, .str r.at_)
def atsD (R : List Row) : D := .dct (sk (atL R))
structure Rw (R : List Row) : Prop where
  len : 2 ≤ R.length ∧ R.length ≤ 7
  ok : ∀ r ∈ R, RowOk r
theorem find_row {R : List Row} (hn : (nms R).Nodup) {r : Row} (hr : r ∈ R) : R.find? (fun x => x.nm == r.nm) = some r := by
  induction R with
  | nil => exact nomatch hr
  | cons x R ih =>
    rw [List.find?_cons]
    have hn' : (nms R).Nodup := (List.nodup_cons.mp hn).2
    rcases List.mem_cons.mp hr with rfl | h
    · rw [beq_self_eq_true]
    · have : (x.nm == r.nm) = false := by
        rw [beq_eq_false_iff_ne]
        intro e
        exact (List.nodup_cons.mp hn).1 (by show x.nm ∈ nms R; rw [e]; exact List.mem_map_of_mem h)
      rw [this]
      exact ih hn' h
theorem row_inj {R : List Row} (hn : (nms R).Nodup) {r r' : Row} (hr : r ∈ R) (hr' : r' ∈ R) (e : r.nm = r'.nm) : r = r' := by
  have h1 := find_row hn hr
  have h2 := find_row hn hr'
  rw [e, h2] at h1
  exact (Option.some.inj h1).symm
theorem mem_nms {R : List Row} {s : Str} (h : s ∈ nms R) : ∃ r ∈ R, r.nm = s := by
  obtain ⟨r, hr, e⟩ := List.mem_map.mp h
  exact ⟨r, hr, e⟩
theorem atD_row {R : List Row} (hn : (nms R).Nodup) {r : Row} (hr : r ∈ R) : atD R r.nm = r.at_ := by
  unfold atD
  rw [find_row hn hr]; rfl
theorem find_sk {α : Type} (k : α → Str) (v : α → D) (s : Str) : ∀ R : List α, findK (.str s) (sk (R.map fun r => (k r, v r))) = (R.find? fun r => k r == s).map v
  | [] => rfl
  | r :: R => by
    show (if (k r == s) then some (v r) else findK (.str s) (sk (R.map fun r => (k r, v r)))) = _
    rw [find_sk k v s R, List.find?_cons]
    cases (k r == s) <;> rfl
theorem idx_sk {α : Type} {k : α → Str} {v : α → D} {R : List α} {s : Str} {r : α} (h : R.find? (fun r => k r == s) = some r) : idxD (.dct (sk (R.map fun r => (k r, v r)))) (.str s) = some (v r) := by
  show (if headStr _ then findK (.str s) _ else none) = _
  rw [headStr_sk, if_pos rfl, find_sk, h]; rfl
theorem idx_at {R : List Row} (hn : (nms R).Nodup) {s : Str} (hs : s ∈ nms R) : idxD (atsD R) (.str s) = some (.str (atD R s)) := by
  obtain ⟨r, hr, rfl⟩ := mem_nms hs
  rw [atD_row hn hr]
  exact idx_sk (k := fun r : Row => r.nm) (v := fun r => .str r.at_) (find_row hn hr)
theorem bx_mem {R : List Row} {s : Str} (h : s ∈ bx R) : ∃ r ∈ R, isB r = true ∧ r.nm = s := by
  obtain ⟨r, hr, e⟩ := List.mem_map.mp h
  obtain ⟨h1, h2⟩ := List.mem_filter.mp hr
  exact ⟨r, h1, h2, e⟩
theorem hs_mem {R : List Row} {s : Str} (h : s ∈ hs R) : ∃ r ∈ R, isH r = true ∧ r.nm = s := by
  obtain ⟨r, hr, e⟩ := List.mem_map.mp h
  obtain ⟨h1, h2⟩ := List.mem_filter.mp hr
  exact ⟨r, h1, h2, e⟩
theorem bx_nms {R : List Row} {s : Str} (h : s ∈ bx R) : s ∈ nms R := by
  obtain ⟨r, hr, _, rfl⟩ := bx_mem h
  exact List.mem_map_of_mem hr
theorem hs_nms {R : List Row} {s : Str} (h : s ∈ hs R) : s ∈ nms R := by
  obtain ⟨r, hr, _, rfl⟩ := hs_mem h
  exact List.mem_map_of_mem hr
theorem parts (R : List Row) : (hs R ++ bx R).Perm (nms R) := by
  unfold hs bx nms
  rw [← List.map_append]
  refine List.Perm.map _ ?_
  induction R with
  | nil => exact .refl _
  | cons r R ih =>
    rw [List.filter_cons, List.filter_cons]
    have : isB r = !isH r := by unfold isB isH; cases r.so <;> rfl
    rw [this]
    cases isH r with
    | true => exact ih.cons r
    | false => exact (List.perm_middle).trans (ih.cons r)
theorem partsL (R : List Row) : (hs R).length + (bx R).length = R.length := by
  have := (parts R).length_eq
  rw [List.length_append] at this
  rw [this]
  unfold nms
  rw [List.length_map]
section
variable {R : List Row}
theorem Rw.nmS (h : Rw R) {s : Str} (hs : s ∈ nms R) : Nm s := by
  obtain ⟨r, hr, rfl⟩ := mem_nms hs
  exact (h.ok r hr).nm
theorem Rw.ascN (h : Rw R) : ∀ s ∈ nms R, asc s = true := fun s hs => (h.nmS hs).asc
theorem Rw.ascB (h : Rw R) : ∀ s ∈ bx R, asc s = true := fun s hs => (h.nmS (bx_nms hs)).asc
theorem Rw.lim (h : Rw R) : R.length ≤ LIM := by
  have := lim1000
  have := h.len
  omega
theorem Rw.ascP (h : Rw R) : ∀ s ∈ hs R ++ bx R, asc s = true := fun s hm => h.ascN s ((parts R).mem_iff.mp hm)
end
abbrev tgR (a b c : Nat) : PD.X := .tt (.cons (.tv a) (.cons (.tv b) (.cons (.tv c) .nil)))
theorem so_eq (r : Row) : cmpD .eq (soD r.so) (.str "host") = some (isH r) := by
  have e : (soD r.so).eqOk = true := by
    cases r.so with
    | none => exact host_ok
    | some k => rfl
  show (if (soD r.so).eqOk && (D.str "host").eqOk then some ((soD r.so).eqv (.str "host")) else none) = _
  rw [e, host_ok]
  unfold isH
  cases r.so with
  | none => rfl
  | some k => rfl
theorem so_ne (r : Row) : cmpD .ne (soD r.so) (.str "host") = some (isB r) := by
  have e : (soD r.so).eqOk = true := by
    cases r.so with
    | none => exact host_ok
    | some k => rfl
  show (if (soD r.so).eqOk && (D.str "host").eqOk then some (!(soD r.so).eqv (.str "host")) else none) = _
  rw [e, host_ok]
  unfold isB
  cases r.so with
  | none => rfl
  | some k => rfl
theorem nr_so (r : Row) : NR (soD r.so) := by
  cases r.so with
  | none => exact nr_str
  | some k => exact nr_int
theorem len_strs (L : List Str) : (strsD L).length = L.length := by unfold strsD; rw [List.length_map]
theorem dStrs_strs (L : List Str) : dStrs (strsD L) = some L := dStrs_map L
/-! different ones, or not -/
def dfB (L : List Str) : Bool := L.zipIdx.all fun p => !(L.drop (p.2 + 1)).contains p.1
theorem df_iff (L : List Str) : dfB L = true ↔ L.Nodup := by
  unfold dfB
  rw [List.all_eq_true]
  constructor
  · intro h
    unfold List.Nodup
    rw [List.pairwise_iff_getElem]
    intro i j hi hj hij e
    have := h (L[i], i) (List.mk_mem_zipIdx_iff_getElem?.mpr (List.getElem?_eq_getElem hi))
    have hm : L[i] ∈ L.drop (i + 1) := by
      rw [e, List.mem_iff_getElem]
      exact ⟨j - (i + 1), by rw [List.length_drop]; omega, by rw [List.getElem_drop]; congr 1; omega⟩
    have hc : (L.drop (i + 1)).contains L[i] = true := List.elem_iff.mpr hm
    dsimp only at this
    rw [hc] at this
    cases this
  · rintro hn ⟨s, i⟩ hp
    have hi := List.mk_mem_zipIdx_iff_getElem?.mp hp
    obtain ⟨hlt, hget⟩ := List.getElem?_eq_some_iff.mp hi
    have : (L.drop (i + 1)).contains s = false := by
      rw [Bool.eq_false_iff]
      intro z
      obtain ⟨k, hk, e⟩ := List.mem_iff_getElem.mp (List.elem_iff.mp z)
      rw [List.length_drop] at hk
      rw [List.getElem_drop] at e
      unfold List.Nodup at hn
      exact (List.pairwise_iff_getElem.mp hn i (i + 1 + k) hlt (by omega) (by omega)) (hget.trans e.symm)
    show (!(L.drop (i + 1)).contains s) = true
    rw [this]; rfl
theorem isdiff_ev (n : Nat) {L : List Str} (h : ∀ s ∈ L, asc s = true) (hl : L.length ≤ 1000) (st : Store) : callN pg (n + 1) 5 [.lst (strsD L)] st = .ok (.bl (dfB L)) st := by
  refine callRt (fd := ⟨1, 3, t5⟩) (env := [.v (.lst (strsD L)), .no, .no]) rfl rfl rfl (evB_rtS (ev_rtS ?_))
  have := ev_allS (P := pg) (cf := callN pg n) (env := [.v (.lst (strsD L)), .no, .no]) (st := st) (st1 := st) (x := .lc [1, 2] (.tt (.cons (.tv 1) (.cons (.tv 2) .nil))) (.enu (.var 0)) (.lit (.bl true)) (.cmp .notin (.var 2) (.slc (.var 0) (.cons (.bin .add (.var 1) (.lit (.int 1))) .nil) .nil))) (bs := L.zipIdx.map fun p => !(L.drop (p.2 + 1)).contains p.1) (by
    rw [List.map_map]
    refine ev_lcA (as := L.zipIdx) (fun p => D.tup [.int (p.2 : Nat), .str p.1]) (fun p => D.bl (!(L.drop (p.2 + 1)).contains p.1)) ((ev_enuS (ds := strsD L) rfl).trans (by rw [enumL_zip])) (by have := lim1000; rw [List.length_zipIdx]; omega) fun p hp => ⟨[.v (.lst (strsD L)), .v (.int (p.2 : Nat)), .v (.str p.1)], rfl, ?_⟩
    obtain ⟨s, i⟩ := p
    have hi := List.mk_mem_zipIdx_iff_getElem?.mp hp
    obtain ⟨hlt, hget⟩ := List.getElem?_eq_some_iff.mp hi
    have hs : asc s = true := h s (hget ▸ List.getElem_mem hlt)
    have hd : ∀ x ∈ L.drop (i + 1), asc x = true := fun x hx => h x (List.mem_of_mem_drop hx)
    refine ev_cmpS (d := .str s) (e := .lst (strsD (L.drop (i + 1)))) (st1 := st) rfl ?_ nr_str nr_lst (notin_lst hs hd)
    refine ev_slcS (d := .lst (strsD L)) (st1 := st) (st2 := st) (lo := some ((i + 1 : Nat) : Int)) (hi := none) rfl (ev_oS (i := ((i + 1 : Nat) : Int)) rfl) rfl nr_lst ?_
    show some (D.lst (cutL (strsD L) (some ((i + 1 : Nat) : Int)) none)) = _
    rw [cutL_drop _ _ (by unfold strsD; rw [List.length_map]; omega)]
    unfold strsD
    rw [List.map_drop])
  refine this.trans ?_
  congr 2
  rw [List.all_map]; rfl
/-! out from box to box -/
def chain (R : List Row) : Nat → Str → List Str
  | 0, _ => []
  | k + 1, s => if s = "" then [] else s :: chain R k (atD R s)
/-- all that stands around is a box, or nothing -/
def Cl (R : List Row) : Prop := ∀ r ∈ R, r.at_ = "" ∨ r.at_ ∈ bx R
def w7t : PD.X := .and_ (.cons (.cmp .ne (.var 3) (.glob 3)) (.cons (.cmp .lt (.bif .len (.cons (.peek 2) .nil)) (.bif .len (.cons (.var 0) .nil))) .nil))
def w7b : PD.X := .cons (.app 2 (.var 3)) (.cons (.asg 3 (.pl (.idx (.var 0) (.var 3)))) .nil)
theorem whileL_f {t : PD.Env → M Bool} {b : PD.Env → M Out} {k : Nat} {env : PD.Env} {st : Store} (h : t env st = .ok false st) : whileL t b (k + 1) env st = .ok (.nx env) st := by
  show bnd (t env) _ st = _
  rw [bnd_ok h]; rfl
theorem whileL_t {t : PD.Env → M Bool} {b : PD.Env → M Out} {k : Nat} {env env' : PD.Env} {st st1 : Store} (h : t env st = .ok true st) (h2 : b env st = .ok (.nx env') st1) : whileL t b (k + 1) env st = whileL t b k env' st1 := by
  show bnd (t env) (fun c => if c then bnd (b env) fun o => match o with
      | .nx e | .ct e => whileL t b k e
      | .bk e => PD.ret (.nx e)
      | .rt x => PD.ret (.rt x)
    else PD.ret (.nx env)) st = _
  rw [bnd_ok h]
  show bnd (b env) _ st = _
  rw [bnd_ok h2]
theorem bl_of {P : Prog} {cf : Calls} {x : PD.X} {env : PD.Env} {st : Store} {b : Bool} (h : evE P cf x env st = .ok (.bl b) st) : bnd (evE P cf x env) blD st = .ok b st := by
  rw [bnd_ok h]; rfl
theorem Rw.atAsc {R : List Row} (h : Rw R) (hn : (nms R).Nodup) {s : Str} (hs : s ∈ nms R) : asc (atD R s) = true := by
  obtain ⟨r, hr, rfl⟩ := mem_nms hs
  rw [atD_row hn hr]
  exact (h.ok r hr).asc
theorem at_cl {R : List Row} (hn : (nms R).Nodup) (hc : Cl R) {s : Str} (hs : s ∈ nms R) : atD R s = "" ∨ atD R s ∈ bx R := by
  obtain ⟨r, hr, rfl⟩ := mem_nms hs
  rw [atD_row hn hr]
  exact hc r hr
theorem loop7 {R : List Row} (h : Rw R) (hn : (nms R).Nodup) (hc : Cl R) (cf : Calls) (x : Sl) (st : Store) : ∀ (k : Nat) (s : Str) (found : List Str) (fuel : Nat), found.length + k = R.length → k < fuel → (s = "" ∨ s ∈ bx R) →
    ∃ s', whileL (fun e => bnd (evE pg cf w7t e) blD) (fun e => evB pg cf w7b e) fuel [.v (atsD R), x, .ol (strsD found), .v (.str s)] st = .ok (.nx [.v (atsD R), x, .ol (strsD (found ++ chain R k s)), .v (.str s')]) st := by
  have lenA : ((sk (atL R)).length : Int) = (R.length : Int) := by
    unfold sk atL
    rw [List.length_map, List.length_map]
  have stop : ∀ (found : List Str) (fuel : Nat), whileL (fun e => bnd (evE pg cf w7t e) blD) (fun e => evB pg cf w7b e) (fuel + 1) [.v (atsD R), x, .ol (strsD found), .v (.str "")] st = .ok (.nx [.v (atsD R), x, .ol (strsD found), .v (.str "")]) st := fun found fuel =>
    whileL_f (bl_of (ev_andF (ev_cmpS (st1 := st) rfl rfl nr_str nr_str (ne_str asc_nil asc_nil))))
  have ascS : ∀ {s : Str}, s ∈ bx R → asc s = true := fun hs => h.ascB _ hs
  have c1 : ∀ {s : Str} {found : List Str}, s ∈ bx R → evE pg cf (.cmp .ne (.var 3) (.glob 3)) [.v (atsD R), x, .ol (strsD found), .v (.str s)] st = .ok (.bl true) st := fun {s found} hs => by
    refine ev_cmpS (st1 := st) rfl rfl nr_str nr_str ?_
    rw [ne_str (ascS hs) asc_nil]
    have : (s == "") = false := by rw [beq_eq_false_iff_ne]; exact (h.nmS (bx_nms hs)).ne
    rw [this]; rfl
  have c2 : ∀ {s : Str} {found : List Str}, evE pg cf (.cmp .lt (.bif .len (.cons (.peek 2) .nil)) (.bif .len (.cons (.var 0) .nil))) [.v (atsD R), x, .ol (strsD found), .v (.str s)] st = .ok (.bl (decide (found.length < R.length))) st := fun {s found} => by
    refine ev_cmpS (d := .int (strsD found).length) (e := .int (sk (atL R)).length) (st1 := st) rfl rfl nr_int nr_int ?_
    show some (decide (((strsD found).length : Int) < ((sk (atL R)).length : Int))) = _
    rw [lenA, len_strs]
    congr 1
    rw [decide_eq_decide]; omega
  intro k
  induction k with
  | zero =>
    intro s found fuel hl hk hs
    obtain ⟨f, rfl⟩ : ∃ f, fuel = f + 1 := ⟨fuel - 1, by omega⟩
    have e0 : found ++ chain R 0 s = found := List.append_nil _
    rw [e0]
    rcases hs with rfl | hs
    · exact ⟨"", stop found f⟩
    · refine ⟨s, whileL_f (bl_of ?_)⟩
      have := c2 (s := s) (found := found)
      rw [decide_eq_false (by omega)] at this
      exact ev_and2T (c1 hs) this
  | succ k ih =>
    intro s found fuel hl hk hs
    obtain ⟨f, rfl⟩ : ∃ f, fuel = f + 1 := ⟨fuel - 1, by omega⟩
    rcases hs with e | hb
    · subst e
      refine ⟨"", ?_⟩
      rw [stop]
      unfold chain
      rw [if_pos rfl, List.append_nil]
    · have hne := (h.nmS (bx_nms hb)).ne
      have ht : evE pg cf w7t [.v (atsD R), x, .ol (strsD found), .v (.str s)] st = .ok (.bl true) st := by
        have := c2 (s := s) (found := found)
        rw [decide_eq_true (by omega)] at this
        exact ev_and2T (c1 hb) this
      have hbody : evB pg cf w7b [.v (atsD R), x, .ol (strsD found), .v (.str s)] st = .ok (.nx [.v (atsD R), x, .ol (strsD (found ++ [s])), .v (.str (atD R s))]) st := by
        unfold w7b
        rw [evB_nxS (ev_appS (d := .str s) (ds := strsD found) (st1 := st) rfl rfl (by unfold strsD; rw [List.length_map]; have := lim1000; have := h.len; omega))]
        rw [evB_nxS (env' := [.v (atsD R), x, .ol (strsD found ++ [.str s]), .v (.str (atD R s))]) (st1 := st) (ev_asgS (ev_idxS (d := atsD R) (e := .str s) (st1 := st) rfl rfl nr_dct (idx_at hn (bx_nms hb))))]
        unfold strsD
        rw [List.map_append]; rfl
      obtain ⟨s', hw⟩ := ih (atD R s) (found ++ [s]) f (by rw [List.length_append, List.length_singleton]; omega) (by omega) (at_cl hn hc (bx_nms hb))
      refine ⟨s', ?_⟩
      rw [whileL_t (bl_of ht) hbody, hw, List.append_assoc]
      show _ = Res.ok (Out.nx [.v (atsD R), x, .ol (strsD (found ++ (if s = "" then [] else s :: chain R k (atD R s)))), .v (.str s')]) st
      rw [if_neg hne]; rfl
theorem spaces_ev (n : Nat) {R : List Row} (h : Rw R) (hn : (nms R).Nodup) (hc : Cl R) {s : Str} (hs : s ∈ nms R) (st : Store) : callN pg (n + 1) 7 [atsD R, .str s] st = .ok (.lst (strsD (chain R R.length (atD R s)))) st := by
  refine callRt (fd := ⟨2, 4, t7⟩) (env := [.v (atsD R), .v (.str s), .no, .no]) rfl rfl rfl ?_
  show evB pg (callN pg n) t7 [.v (atsD R), .v (.str s), .no, .no] st = _
  unfold t7
  rw [evB_nxS (env' := [.v (atsD R), .v (.str s), .ol [], .v (.str (atD R s))]) (st1 := st) (ev_parO (ev_idxS (d := atsD R) (e := .str s) (st1 := st) rfl rfl nr_dct (idx_at hn hs)))]
  obtain ⟨s', hloop⟩ := loop7 h hn hc (callN pg n) (.v (.str s)) st R.length (atD R s) [] 100000 (Nat.zero_add _) (by have := h.len; omega) (at_cl hn hc hs)
  refine (evB_nxS (s := .while_ w7t w7b) (env' := [.v (atsD R), .v (.str s), .ol (strsD (chain R R.length (atD R s))), .v (.str s')]) (st1 := st) hloop).trans ?_
  rfl
end K35
end ZK35o
section ZK35p
set_option Elab.async false
set_option linter.all false
set_option maxRecDepth 100000
set_option maxHeartbeats 400000
namespace K35
open PySem PD
/-! are_places, and the law's own look -/
def e8 (R : List Row) (x1 x2 x3 : Sl) : PD.Env := [.v (rowsD R), x1, x2, x3, .no, .no, .no, .no]
def clB (R : List Row) : Bool := R.all fun r => (r.at_ == "") || (bx R).contains r.at_
def noB (R : List Row) : Bool := (bx R).all fun b => !(chain R R.length (atD R b)).contains b
def cntP (R : List Row) : Bool := (decide (1 ≤ (hs R).length) && decide ((hs R).length ≤ 4)) && (decide (1 ≤ (bx R).length) && decide ((bx R).length ≤ 3))
def okP (R : List Row) : Bool := cntP R && (dfB (hs R ++ bx R) && (clB R && noB R))
theorem cl_iff {R : List Row} : clB R = true ↔ Cl R := by
  unfold clB Cl
  rw [List.all_eq_true]
  refine forall_congr' fun r => forall_congr' fun _ => ?_
  rw [Bool.or_eq_true, beq_iff_eq]
  exact or_congr Iff.rfl List.elem_iff
section
variable {R : List Row} (cf : Calls) (x1 x2 x3 : Sl) (st : Store)
theorem lc8H (h : Rw R) : evE pg cf (.lc [5, 6, 7] (tgR 5 6 7) (.src (.var 0)) (.cmp .eq (.var 7) (.glob 2)) (.var 5)) (e8 R x1 x2 x3) st = .ok (.lst (strsD (hs R))) st := by
  have := ev_lcP (P := pg) (cf := cf) (own := [5, 6, 7]) (tg := tgR 5 6 7) (it := .src (.var 0)) (t := .cmp .eq (.var 7) (.glob 2)) (elt := .var 5) (env := e8 R x1 x2 x3) (st := st) (as := R) rowD isH (fun r => .str r.nm) rfl h.lim fun r hr => ⟨[.v (rowsD R), x1, x2, x3, .no, .v (.str r.nm), .v (.str r.at_), .v (soD r.so)], rfl, ev_cmpS (st1 := st) rfl rfl (nr_so r) nr_str (so_eq r), fun _ => rfl⟩
  refine this.trans ?_
  unfold strsD hs
  rw [List.map_map]; rfl
theorem lc8B (h : Rw R) : evE pg cf (.lc [5, 6, 7] (tgR 5 6 7) (.src (.var 0)) (.cmp .ne (.var 7) (.glob 2)) (.var 5)) (e8 R x1 x2 x3) st = .ok (.lst (strsD (bx R))) st := by
  have := ev_lcP (P := pg) (cf := cf) (own := [5, 6, 7]) (tg := tgR 5 6 7) (it := .src (.var 0)) (t := .cmp .ne (.var 7) (.glob 2)) (elt := .var 5) (env := e8 R x1 x2 x3) (st := st) (as := R) rowD isB (fun r => .str r.nm) rfl h.lim fun r hr => ⟨[.v (rowsD R), x1, x2, x3, .no, .v (.str r.nm), .v (.str r.at_), .v (soD r.so)], rfl, ev_cmpS (st1 := st) rfl rfl (nr_so r) nr_str (so_ne r), fun _ => rfl⟩
  refine this.trans ?_
  unfold strsD bx
  rw [List.map_map]; rfl
theorem dc8 (h : Rw R) (hn : (nms R).Nodup) : evE pg cf (.dcomp [5, 6, 7] (tgR 5 6 7) (.src (.var 0)) (.lit (.bl true)) (.var 5) (.var 6)) (e8 R x1 x2 x3) st = .ok (atsD R) st := by
  have hf : R.filter (fun _ => true) = R := List.filter_eq_self.mpr fun _ _ => rfl
  have := ev_dcP (P := pg) (cf := cf) (own := [5, 6, 7]) (tg := tgR 5 6 7) (it := .src (.var 0)) (t := .lit (.bl true)) (kx := .var 5) (elt := .var 6) (env := e8 R x1 x2 x3) (st := st) (as := R) rowD (fun _ => true) (fun r => r.nm) (fun r => .str r.at_) rfl h.lim (by rw [hf]; exact hn) fun r hr => ⟨[.v (rowsD R), x1, x2, x3, .no, .v (.str r.nm), .v (.str r.at_), .v (soD r.so)], rfl, rfl, fun _ => ⟨rfl, rfl⟩⟩
  rw [hf] at this
  exact this
end
theorem all_map {α : Type} (L : List α) (p : α → Bool) : (L.map p).all id = L.all p := by
  rw [List.all_map]; rfl
theorem not2 (a b : Bool) : (!a || !b) = !(a && b) := by cases a <;> cases b <;> rfl
theorem natle {a b : Nat} : decide ((a : Int) ≤ (b : Int)) = decide (a ≤ b) := by rw [decide_eq_decide]; omega
theorem plc_ev (n : Nat) {R : List Row} (h : Rw R) (hok : okD (rowsD R) = true) (st : Store) : callN pg (n + 4) 8 [rowsD R] st = .ok (.bl (okP R)) st := by
  refine callRt (fd := ⟨1, 8, t8⟩) (env := e8 R .no .no .no) rfl rfl rfl ?_
  show evB pg (callN pg (n + 3)) t8 (e8 R .no .no .no) st = _
  unfold t8
  have hoks : okAll (R.map rowD) = true := hok
  have c1 : evE pg (callN pg (n + 3)) (.bif .all (.cons (.lc [4] (.tv 4) (.src (.var 0)) (.lit (.bl true)) (.call 6 (.cons (.var 4) .nil))) .nil)) (e8 R .no .no .no) st = .ok (.bl true) st := by
    have := ev_allS (P := pg) (cf := callN pg (n + 3)) (env := e8 R .no .no .no) (st := st) (st1 := st) (x := .lc [4] (.tv 4) (.src (.var 0)) (.lit (.bl true)) (.call 6 (.cons (.var 4) .nil))) (bs := R.map fun r => plB (rowD r)) (by
      rw [List.map_map]
      exact ev_lcA (as := R) rowD (fun r => D.bl (plB (rowD r))) rfl h.lim fun r hr => ⟨[.v (rowsD R), .no, .no, .no, .v (rowD r), .no, .no, .no], rfl, ev_callS (ds := [rowD r]) (st1 := st) rfl (isplace_ev n (okAll_iff.mp hoks _ (List.mem_map_of_mem hr)) st)⟩)
    rw [all_map, List.all_eq_true.mpr fun r hr => row_pl (h.ok r hr)] at this
    exact this
  have c0 : evE pg (callN pg (n + 3)) (.call 2 (.cons (.var 0) (.cons (.glob 4) (.cons (.glob 5) .nil)))) (e8 R .no .no .no) st = .ok (.bl true) st := by
    refine ev_callS (ds := [rowsD R, .int 2, .int 7]) (st1 := st) rfl ((istup_ev (n + 2) hok 2 7 st).trans ?_)
    show Res.ok (D.bl (decide (2 ≤ (R.map rowD).length) && decide ((R.map rowD).length ≤ 7))) st = _
    rw [List.length_map, decide_eq_true h.len.1, decide_eq_true h.len.2]; rfl
  rw [evB_nxS (ev_ifF (st1 := st) (ev_or2F (ev_notS c0) (ev_notS c1)))]
  rw [evB_nxS (env' := e8 R (.v (.lst (strsD (hs R)))) .no .no) (st1 := st) (ev_asgS (lc8H _ .no .no .no st h))]
  rw [evB_nxS (env' := e8 R (.v (.lst (strsD (hs R)))) (.v (.lst (strsD (bx R)))) .no) (st1 := st) (ev_asgS (lc8B _ _ .no .no st h))]
  have l1 : evE pg (callN pg (n + 3)) (.cmp2 .le .le (.lit (.int 1)) (.bif .len (.cons (.var 1) .nil)) (.glob 6)) (e8 R (.v (.lst (strsD (hs R)))) (.v (.lst (strsD (bx R)))) .no) st = .ok (.bl (decide (1 ≤ (hs R).length) && decide ((hs R).length ≤ 4))) st := by
    refine (ev_leleS (lo := 1) (i := (strsD (hs R)).length) (hi := 4) rfl rfl rfl).trans ?_
    rw [len_strs, ← natle (a := 1), ← natle (b := 4)]; rfl
  have l2 : evE pg (callN pg (n + 3)) (.cmp2 .le .le (.lit (.int 1)) (.bif .len (.cons (.var 2) .nil)) (.glob 7)) (e8 R (.v (.lst (strsD (hs R)))) (.v (.lst (strsD (bx R)))) .no) st = .ok (.bl (decide (1 ≤ (bx R).length) && decide ((bx R).length ≤ 3))) st := by
    refine (ev_leleS (lo := 1) (i := (strsD (bx R)).length) (hi := 3) rfl rfl rfl).trans ?_
    rw [len_strs, ← natle (a := 1), ← natle (b := 3)]; rfl
  have g1 := or2_ev (ev_notS l1) fun _ => ev_notS l2
  rw [not2] at g1
  show _ = Res.ok (Out.rt (.bl (cntP R && (dfB (hs R ++ bx R) && (clB R && noB R))))) st
  cases hc : cntP R with
  | false =>
    rw [show ((decide (1 ≤ (hs R).length) && decide ((hs R).length ≤ 4)) && (decide (1 ≤ (bx R).length) && decide ((bx R).length ≤ 3))) = false from hc] at g1
    exact evB_rtS ((ev_ifS g1).trans rfl)
  | true =>
    rw [show ((decide (1 ≤ (hs R).length) && decide ((hs R).length ≤ 4)) && (decide (1 ≤ (bx R).length) && decide ((bx R).length ≤ 3))) = true from hc] at g1
    rw [evB_nxS (ev_ifF g1)]
    have hl := partsL R
    have hadd : evE pg (callN pg (n + 3)) (.bin .add (.var 1) (.var 2)) (e8 R (.v (.lst (strsD (hs R)))) (.v (.lst (strsD (bx R)))) .no) st = .ok (.lst (strsD (hs R ++ bx R))) st := by
      refine ev_binS (st1 := st) rfl rfl nr_lst nr_lst ?_
      show (if (strsD (hs R)).length + (strsD (bx R)).length ≤ LIM then some (D.lst (strsD (hs R) ++ strsD (bx R))) else none) = _
      rw [if_pos (by rw [len_strs, len_strs, hl]; exact h.lim)]
      unfold strsD
      rw [List.map_append]
    have hd := isdiff_ev (n + 2) h.ascP (by rw [List.length_append, hl]; have := h.len; omega) st
    have c2 : evE pg (callN pg (n + 3)) (.bif .all (.cons (.lc [5, 6, 7] (tgR 5 6 7) (.src (.var 0)) (.lit (.bl true)) (.or_ (.cons (.cmp .eq (.var 6) (.glob 3)) (.cons (.cmp .in_ (.var 6) (.var 2)) .nil)))) .nil)) (e8 R (.v (.lst (strsD (hs R)))) (.v (.lst (strsD (bx R)))) .no) st = .ok (.bl (clB R)) st := by
      have := ev_allS (P := pg) (cf := callN pg (n + 3)) (env := e8 R (.v (.lst (strsD (hs R)))) (.v (.lst (strsD (bx R)))) .no) (st := st) (st1 := st) (x := .lc [5, 6, 7] (tgR 5 6 7) (.src (.var 0)) (.lit (.bl true)) (.or_ (.cons (.cmp .eq (.var 6) (.glob 3)) (.cons (.cmp .in_ (.var 6) (.var 2)) .nil)))) (bs := R.map fun (r : Row) => (r.at_ == ("" : Str)) || (bx R).contains r.at_) (by
        rw [List.map_map]
        refine ev_lcA (as := R) rowD (fun (r : Row) => D.bl ((r.at_ == ("" : Str)) || (bx R).contains r.at_)) rfl h.lim fun r hr => ⟨[.v (rowsD R), .v (.lst (strsD (hs R))), .v (.lst (strsD (bx R))), .no, .no, .v (.str r.nm), .v (.str r.at_), .v (soD r.so)], rfl, ?_⟩
        exact or2_ev (ev_cmpS (st1 := st) rfl rfl nr_str nr_str (eq_str (h.ok r hr).asc asc_nil)) fun _ => ev_cmpS (d := .str r.at_) (e := .lst (strsD (bx R))) (st1 := st) rfl rfl nr_str nr_lst (in_lst (h.ok r hr).asc h.ascB))
      rw [all_map] at this
      exact this
    have g2 := or2_ev (ev_notS (ev_callS (arg1S nst_bin hadd) hd)) fun _ => ev_notS c2
    rw [not2] at g2
    cases hdf : (dfB (hs R ++ bx R) && clB R) with
    | false =>
      rw [hdf] at g2
      have e : (true && (dfB (hs R ++ bx R) && (clB R && noB R))) = false := by
        rw [Bool.true_and, ← Bool.and_assoc, hdf]; rfl
      rw [e]
      exact evB_rtS ((ev_ifS g2).trans rfl)
    | true =>
      rw [hdf] at g2
      rw [evB_nxS (ev_ifF g2)]
      have hdf' := hdf
      rw [Bool.and_eq_true] at hdf'
      have hn : (nms R).Nodup := (parts R).nodup_iff.mp ((df_iff _).mp hdf'.1)
      have hcl := cl_iff.mp hdf'.2
      rw [evB_nxS (env' := e8 R (.v (.lst (strsD (hs R)))) (.v (.lst (strsD (bx R)))) (.v (atsD R))) (st1 := st) (ev_asgS (dc8 _ _ _ .no st h hn))]
      have e : (true && (dfB (hs R ++ bx R) && (clB R && noB R))) = noB R := by
        rw [Bool.true_and, ← Bool.and_assoc, hdf, Bool.true_and]
      rw [e]
      refine evB_rtS (ev_rtS ?_)
      have := ev_allS (P := pg) (cf := callN pg (n + 3)) (env := e8 R (.v (.lst (strsD (hs R)))) (.v (.lst (strsD (bx R)))) (.v (atsD R))) (st := st) (st1 := st) (x := .lc [5] (.tv 5) (.src (.var 2)) (.lit (.bl true)) (.cmp .notin (.var 5) (.call 7 (.cons (.var 3) (.cons (.var 5) .nil))))) (bs := (bx R).map fun b => !(chain R R.length (atD R b)).contains b) (by
        rw [List.map_map]
        refine ev_lcA (as := bx R) D.str (fun b => D.bl (!(chain R R.length (atD R b)).contains b)) rfl (by have := h.lim; omega) fun s hs => ⟨[.v (rowsD R), .v (.lst (strsD (K35.hs R))), .v (.lst (strsD (bx R))), .v (atsD R), .no, .v (.str s), .no, .no], rfl, ?_⟩
        refine ev_cmpS (d := .str s) (e := .lst (strsD (chain R R.length (atD R s)))) (st1 := st) rfl (ev_callS (ds := [atsD R, .str s]) (st1 := st) rfl (spaces_ev (n + 2) h hn hcl (bx_nms hs) st)) nr_str nr_lst (notin_lst (h.ascB s hs) ?_)
        have key : ∀ (k : Nat) (t : Str), (t = "" ∨ t ∈ bx R) → ∀ u ∈ chain R k t, asc u = true := by
          intro k
          induction k with
          | zero => intro t _ u hu; exact nomatch hu
          | succ k ih =>
            intro t ht u hu
            unfold chain at hu
            split at hu
            · exact nomatch hu
            · rename_i hne
              rcases ht with z | ht
              · exact absurd z hne
              · rcases List.mem_cons.mp hu with rfl | hu
                · exact h.ascB _ ht
                · exact ih _ (at_cl hn hcl (bx_nms ht)) u hu
        exact key _ _ (at_cl hn hcl (bx_nms hs)))
      rw [all_map] at this
      exact this
end K35
end ZK35p
section ZK35g
set_option Elab.async false
set_option linter.all false
set_option maxRecDepth 100000
set_option maxHeartbeats 400000
namespace K35
open PySem PD
/-! the law's own look at a net -/
def stp (R : List Row) (s : Str) : Str := if s = "" then "" else atD R s
def w3 (R : List Row) (b : Str) : Str := stp R (stp R (stp R (atD R b)))
def cntL (R : List Row) : Bool := decide (distS (nms R) = R.length) && ((decide (1 ≤ (bx R).length) && decide ((bx R).length ≤ 3)) && (decide (1 ≤ (hs R).length) && decide ((hs R).length ≤ 4)))
def endB (R : List Row) : Bool := (bx R).all fun b => (w3 R b == "")
def okL (R : List Row) : Bool := cntL R && (clB R && endB R)
theorem dist_iff : ∀ L : List Str, distS L = L.length ↔ L.Nodup
  | [] => ⟨fun _ => List.nodup_nil, fun _ => rfl⟩
  | x :: L => by
    have ih := dist_iff L
    have hle := dist_le L
    show (if L.contains x then 0 else 1) + distS L = L.length + 1 ↔ _
    rw [List.nodup_cons, ← ih]
    cases hc : L.contains x with
    | true =>
      have hm : x ∈ L := List.elem_iff.mp hc
      constructor
      · intro e
        simp only [if_true] at e
        omega
      · intro e; exact absurd hm e.1
    | false =>
      have hm : x ∉ L := fun z => by
        have : L.contains x = true := List.elem_iff.mpr z
        rw [this] at hc
        cases hc
      constructor
      · intro e
        simp only [Bool.false_eq_true, if_false] at e
        exact ⟨hm, by omega⟩
      · intro e
        simp only [Bool.false_eq_true, if_false]
        omega
def FindR (r : Out) (I : PD.Env → Prop) (st : Store) (ok : Bool) (x : Res Out) : Prop := if ok then ∃ env', I env' ∧ x = .ok (.nx env') st else x = .ok r st
theorem forL_find {α : Type} {f : D → PD.Env → M Out} {st : Store} {r : D} (e : α → D) (p : α → Bool) (I : PD.Env → Prop) : ∀ (as : List α) (env : PD.Env), I env → (∀ a ∈ as, ∀ env, I env → FindR (.rt r) I st (p a) (f (e a) env st)) → FindR (.rt r) I st (as.all p) (forL f (as.map e) env st)
  | [], env, h, _ => ⟨env, h, rfl⟩
  | a :: as, env, h, hf => by
    have h1 := hf a (List.mem_cons_self ..) env h
    unfold FindR at h1 ⊢
    rw [List.all_cons]
    show if (p a && as.all p) = true then ∃ env', I env' ∧ bnd (f (e a) env) _ st = _ else bnd (f (e a) env) _ st = _
    cases hp : p a with
    | false =>
      rw [hp] at h1
      have h1' : f (e a) env st = .ok (.rt r) st := by simpa using h1
      rw [if_neg (by simp)]
      rw [bnd_ok h1']; rfl
    | true =>
      rw [hp] at h1
      obtain ⟨env1, i1, e1⟩ := (by simpa using h1 : ∃ env', I env' ∧ f (e a) env st = .ok (.nx env') st)
      have ih := forL_find e p I as env1 i1 fun a' ha => hf a' (List.mem_cons_of_mem _ ha)
      rw [Bool.true_and]
      rw [bnd_ok e1]
      exact ih
abbrev b18i : PD.X := .cons (.asg 5 (.pl (.ite (.cmp .ne (.var 5) (.lit (.str ""))) (.idx (.var 3) (.var 5)) (.lit (.str ""))))) .nil
abbrev b18 : PD.X := .cons (.asg 5 (.pl (.idx (.var 3) (.var 4)))) (.cons (.for_ (.tv 6) (.rng (.cons (.lit (.int 3)) .nil)) b18i) (.cons (.if_ (.cmp .ne (.var 5) (.lit (.str ""))) (.cons (.rt (.lit (.bl false))) .nil) .nil) .nil))
def e18 (R : List Row) (x3 x4 x5 x6 : Sl) : PD.Env := [.v (rowsD R), .v (.lst (strsD (nms R))), .v (.lst (strsD (bx R))), x3, x4, x5, x6, .no]
section
variable {R : List Row} (h : Rw R) (hn : (nms R).Nodup) (hc : Cl R) (cf : Calls) (st : Store)
theorem ne_ev (h : Rw R) {s : Str} (hs : s = "" ∨ s ∈ bx R) (x3 x4 x6 : Sl) : evE pg cf (.cmp .ne (.var 5) (.lit (.str ""))) (e18 R x3 x4 (.v (.str s)) x6) st = .ok (.bl (!(s == ""))) st := by
  have ha : asc s = true := by
    rcases hs with rfl | z
    · exact asc_nil
    · exact h.ascB _ z
  exact ev_cmpS (st1 := st) rfl rfl nr_str nr_str (ne_str ha asc_nil)
theorem stp_ev (h : Rw R) (hn : (nms R).Nodup) (hc : Cl R) {s : Str} (hs : s = "" ∨ s ∈ bx R) (x4 x6 : Sl) : evB pg cf b18i (e18 R (.v (atsD R)) x4 (.v (.str s)) x6) st = .ok (.nx (e18 R (.v (atsD R)) x4 (.v (.str (stp R s))) x6)) st ∧ (stp R s = "" ∨ stp R s ∈ bx R) := by
  have c := ne_ev cf st h hs (.v (atsD R)) x4 x6
  rcases hs with rfl | hb
  · refine ⟨?_, .inl rfl⟩
    exact (evB_nxS (env' := e18 R (.v (atsD R)) x4 (.v (.str "")) x6) (st1 := st) (ev_asgS ((ev_iteS c).trans rfl))).trans rfl
  · have hne := (h.nmS (bx_nms hb)).ne
    have e : stp R s = atD R s := by unfold stp; rw [if_neg hne]
    have e2 : (s == "") = false := by rw [beq_eq_false_iff_ne]; exact hne
    rw [e2] at c
    rw [e]
    refine ⟨?_, at_cl hn hc (bx_nms hb)⟩
    refine (evB_nxS (env' := e18 R (.v (atsD R)) x4 (.v (.str (atD R s))) x6) (st1 := st) (ev_asgS ((ev_iteS c).trans ?_))).trans rfl
    exact ev_idxS (d := atsD R) (e := .str s) (st1 := st) rfl rfl nr_dct (idx_at hn (bx_nms hb))
theorem box_ev (h : Rw R) (hn : (nms R).Nodup) (hc : Cl R) {b : Str} (hb : b ∈ bx R) (x5 x6 : Sl) : FindR (.rt (.bl false)) (fun env => ∃ x4 x5 x6, env = e18 R (.v (atsD R)) x4 x5 x6) st (w3 R b == "") (evB pg cf b18 (e18 R (.v (atsD R)) (.v (.str b)) x5 x6) st) := by
  have h0 := at_cl hn hc (bx_nms hb)
  obtain ⟨e1, h1⟩ := stp_ev cf st h hn hc h0 (.v (.str b)) (.v (.int 0))
  obtain ⟨e2, h2⟩ := stp_ev cf st h hn hc h1 (.v (.str b)) (.v (.int 1))
  obtain ⟨e3, h3⟩ := stp_ev cf st h hn hc h2 (.v (.str b)) (.v (.int 2))
  have loop : evS pg cf (.for_ (.tv 6) (.rng (.cons (.lit (.int 3)) .nil)) b18i) (e18 R (.v (atsD R)) (.v (.str b)) (.v (.str (atD R b))) x6) st = .ok (.nx (e18 R (.v (atsD R)) (.v (.str b)) (.v (.str (w3 R b))) (.v (.int 2)))) st := by
    refine ev_forS (ds := [.int 0, .int 1, .int 2]) rfl ?_
    show bnd (evB pg cf b18i (e18 R (.v (atsD R)) (.v (.str b)) (.v (.str (atD R b))) (.v (.int 0)))) _ st = _
    rw [bnd_ok e1]
    show bnd (evB pg cf b18i (e18 R (.v (atsD R)) (.v (.str b)) (.v (.str (stp R (atD R b)))) (.v (.int 1)))) _ st = _
    rw [bnd_ok e2]
    show bnd (evB pg cf b18i (e18 R (.v (atsD R)) (.v (.str b)) (.v (.str (stp R (stp R (atD R b))))) (.v (.int 2)))) _ st = _
    rw [bnd_ok e3]; rfl
  have hbody : evB pg cf b18 (e18 R (.v (atsD R)) (.v (.str b)) x5 x6) st = evB pg cf (.cons (.if_ (.cmp .ne (.var 5) (.lit (.str ""))) (.cons (.rt (.lit (.bl false))) .nil) .nil) .nil) (e18 R (.v (atsD R)) (.v (.str b)) (.v (.str (w3 R b))) (.v (.int 2))) st := by
    rw [evB_nxS (env' := e18 R (.v (atsD R)) (.v (.str b)) (.v (.str (atD R b))) x6) (st1 := st) (ev_asgS (ev_idxS (d := atsD R) (e := .str b) (st1 := st) rfl rfl nr_dct (idx_at hn (bx_nms hb))))]
    exact evB_nxS loop
  rw [hbody]
  have c := ne_ev cf st h (s := w3 R b) h3 (.v (atsD R)) (.v (.str b)) (.v (.int 2))
  unfold FindR
  cases hw : (w3 R b == "") with
  | true =>
    rw [hw] at c
    rw [if_pos rfl]
    exact ⟨_, ⟨_, _, _, rfl⟩, (evB_nxS (ev_ifF c)).trans rfl⟩
  | false =>
    rw [hw] at c
    rw [if_neg (by simp)]
    exact evB_rtS ((ev_ifS c).trans rfl)
end
theorem vals_ev {cf : Calls} {env : PD.Env} {st : Store} {x : PD.X} {R : List Row} (h : 2 ≤ R.length) (hx : evE pg cf x env st = .ok (atsD R) st) : evIt pg cf (.vals x) env st = .ok (R.map fun r => .str r.at_) st := by
  cases R with
  | nil => simp at h
  | cons r R =>
    show bnd (evE pg cf x env) _ st = _
    rw [bnd_ok hx]
    show (if headStr (sk (atL (r :: R))) then PD.ret ((sk (atL (r :: R))).map (·.2)) else fail) st = _
    rw [headStr_sk, if_pos rfl]
    show Res.ok _ st = _
    unfold sk atL
    rw [List.map_map, List.map_map]; rfl
theorem not3 (a b c : Bool) : (!a || (!b || !c)) = !(a && (b && c)) := by cases a <;> cases b <;> cases c <;> rfl
theorem lnet_ev (n : Nat) {R : List Row} (h : Rw R) (hok : okD (rowsD R) = true) (st : Store) : callN pg (n + 3) 18 [rowsD R] st = .ok (.bl (okL R)) st := by
  refine callRt (fd := ⟨1, 8, t18⟩) (env := [.v (rowsD R), .no, .no, .no, .no, .no, .no, .no]) rfl rfl rfl ?_
  show evB pg (callN pg (n + 2)) t18 [.v (rowsD R), .no, .no, .no, .no, .no, .no, .no] st = _
  unfold t18
  have hoks : okAll (R.map rowD) = true := hok
  have lim := h.lim
  have hl := partsL R
  have hlen := h.len
  have nmL : (nms R).length = R.length := by unfold nms; rw [List.length_map]
  have c0 : evE pg (callN pg (n + 2)) (.bif (.isi .tuple) (.cons (.var 0) .nil)) [.v (rowsD R), .no, .no, .no, .no, .no, .no, .no] st = .ok (.bl true) st := rfl
  have c1 : evE pg (callN pg (n + 2)) (.cmp2 .le .le (.lit (.int 2)) (.bif .len (.cons (.var 0) .nil)) (.lit (.int 7))) [.v (rowsD R), .no, .no, .no, .no, .no, .no, .no] st = .ok (.bl true) st := by
    refine (ev_leleS (lo := 2) (i := (R.map rowD).length) (hi := 7) rfl rfl rfl).trans ?_
    rw [List.length_map, decide_eq_true (by omega), decide_eq_true (by omega)]; rfl
  have c2 : evE pg (callN pg (n + 2)) (.bif .all (.cons (.lc [7] (.tv 7) (.src (.var 0)) (.lit (.bl true)) (.call 17 (.cons (.var 7) .nil))) .nil)) [.v (rowsD R), .no, .no, .no, .no, .no, .no, .no] st = .ok (.bl true) st := by
    have := ev_allS (P := pg) (cf := callN pg (n + 2)) (env := [.v (rowsD R), .no, .no, .no, .no, .no, .no, .no]) (st := st) (st1 := st) (x := .lc [7] (.tv 7) (.src (.var 0)) (.lit (.bl true)) (.call 17 (.cons (.var 7) .nil))) (bs := R.map fun r => plB (rowD r)) (by
      rw [List.map_map]
      exact ev_lcA (as := R) rowD (fun r => D.bl (plB (rowD r))) rfl h.lim fun r hr => ⟨[.v (rowsD R), .no, .no, .no, .no, .no, .no, .v (rowD r)], rfl, ev_callS (ds := [rowD r]) (st1 := st) rfl (lplace_ev n (okAll_iff.mp hoks _ (List.mem_map_of_mem hr)) st)⟩)
    rw [all_map, List.all_eq_true.mpr fun r hr => row_pl (h.ok r hr)] at this
    exact this
  rw [evB_nxS (ev_ifF (or3_ev (ev_notS c0) (fun _ => ev_notS c1) fun _ _ => ev_notS c2))]
  have lN : evE pg (callN pg (n + 2)) (.lc [7] (.tv 7) (.src (.var 0)) (.lit (.bl true)) (.idx (.var 7) (.lit (.int 0)))) [.v (rowsD R), .no, .no, .no, .no, .no, .no, .no] st = .ok (.lst (strsD (nms R))) st := by
    have := ev_lcA (P := pg) (cf := callN pg (n + 2)) (own := [7]) (tg := .tv 7) (it := .src (.var 0)) (elt := .idx (.var 7) (.lit (.int 0))) (env := [.v (rowsD R), .no, .no, .no, .no, .no, .no, .no]) (st := st) (as := R) rowD (fun r => D.str r.nm) rfl h.lim fun r hr => ⟨[.v (rowsD R), .no, .no, .no, .no, .no, .no, .v (rowD r)], rfl, rfl⟩
    refine this.trans ?_
    unfold strsD nms
    rw [List.map_map]; rfl
  have lB : evE pg (callN pg (n + 2)) (.lc [7] (.tv 7) (.src (.var 0)) (.cmp .ne (.idx (.var 7) (.lit (.int 2))) (.lit (.str "host"))) (.idx (.var 7) (.lit (.int 0)))) [.v (rowsD R), .no, .no, .no, .no, .no, .no, .no] st = .ok (.lst (strsD (bx R))) st := by
    have := ev_lcP (P := pg) (cf := callN pg (n + 2)) (own := [7]) (tg := .tv 7) (it := .src (.var 0)) (t := .cmp .ne (.idx (.var 7) (.lit (.int 2))) (.lit (.str "host"))) (elt := .idx (.var 7) (.lit (.int 0))) (env := [.v (rowsD R), .no, .no, .no, .no, .no, .no, .no]) (st := st) (as := R) rowD isB (fun r => .str r.nm) rfl h.lim fun r hr => ⟨[.v (rowsD R), .no, .no, .no, .no, .no, .no, .v (rowD r)], rfl, ev_cmpS (st1 := st) rfl rfl (nr_so r) nr_str (so_ne r), fun _ => rfl⟩
    refine this.trans ?_
    unfold strsD bx
    rw [List.map_map]; rfl
  have htup := ev_tupS (P := pg) (cf := callN pg (n + 2)) (arg2S (by intro _ h; exact nomatch h) (by intro _ h; exact nomatch h) lN lB) (by show 2 ≤ LIM; have := lim1000; omega)
  rw [evB_nxS (env' := e18 R .no .no .no .no) (st1 := st) (ev_tgtS htup rfl)]
  have d1 : evE pg (callN pg (n + 2)) (.cmp .ne (.lns (.var 1)) (.bif .len (.cons (.var 1) .nil))) (e18 R .no .no .no .no) st = .ok (.bl (!decide (distS (nms R) = R.length))) st := by
    have hlns : evE pg (callN pg (n + 2)) (.lns (.var 1)) (e18 R .no .no .no .no) st = .ok (.int (distS (nms R))) st := by
      show bnd (PD.ret (D.lst (strsD (nms R)))) (fun x => match x with
        | .lst ds => match dStrs ds with
          | some ys => if ys.length ≤ 1000 then PD.ret (D.int (distS ys)) else fail
          | none => fail
        | _ => fail) st = _
      show (match dStrs (strsD (nms R)) with
          | some ys => if ys.length ≤ 1000 then PD.ret (D.int (distS ys)) else fail
          | none => fail) st = _
      rw [dStrs_strs]
      show (if (nms R).length ≤ 1000 then PD.ret (D.int (distS (nms R))) else fail) st = _
      rw [if_pos (by omega)]; rfl
    refine ev_cmpS (e := .int (strsD (nms R)).length) (st1 := st) hlns rfl nr_int nr_int ?_
    show some (!((distS (nms R) : Int) == ((strsD (nms R)).length : Int))) = _
    rw [len_strs, nmL]
    congr 2
    rw [Bool.eq_iff_iff, beq_iff_eq, decide_eq_true_eq]; omega
  have d2 : evE pg (callN pg (n + 2)) (.cmp2 .le .le (.lit (.int 1)) (.bif .len (.cons (.var 2) .nil)) (.lit (.int 3))) (e18 R .no .no .no .no) st = .ok (.bl (decide (1 ≤ (bx R).length) && decide ((bx R).length ≤ 3))) st := by
    refine (ev_leleS (lo := 1) (i := (strsD (bx R)).length) (hi := 3) rfl rfl rfl).trans ?_
    rw [len_strs, ← natle (a := 1), ← natle (b := 3)]; rfl
  have d3 : evE pg (callN pg (n + 2)) (.cmp2 .le .le (.lit (.int 1)) (.bin .sub (.bif .len (.cons (.var 1) .nil)) (.bif .len (.cons (.var 2) .nil))) (.lit (.int 4))) (e18 R .no .no .no .no) st = .ok (.bl (decide (1 ≤ (hs R).length) && decide ((hs R).length ≤ 4))) st := by
    refine (ev_leleS (lo := 1) (i := ((strsD (nms R)).length : Int) - ((strsD (bx R)).length : Int)) (hi := 4) rfl rfl rfl).trans ?_
    rw [len_strs, len_strs, nmL]
    congr 3 <;> rw [decide_eq_decide] <;> omega
  have g1 := or3_ev d1 (fun _ => ev_notS d2) fun _ _ => ev_notS d3
  rw [not3] at g1
  show _ = Res.ok (Out.rt (.bl (cntL R && (clB R && endB R)))) st
  cases hc : cntL R with
  | false =>
    rw [show (decide (distS (nms R) = R.length) && ((decide (1 ≤ (bx R).length) && decide ((bx R).length ≤ 3)) && (decide (1 ≤ (hs R).length) && decide ((hs R).length ≤ 4)))) = false from hc] at g1
    exact evB_rtS ((ev_ifS g1).trans rfl)
  | true =>
    rw [show (decide (distS (nms R) = R.length) && ((decide (1 ≤ (bx R).length) && decide ((bx R).length ≤ 3)) && (decide (1 ≤ (hs R).length) && decide ((hs R).length ≤ 4)))) = true from hc] at g1
    rw [evB_nxS (ev_ifF g1)]
    have hn : (nms R).Nodup := by
      unfold cntL at hc
      rw [Bool.and_eq_true, decide_eq_true_eq] at hc
      exact (dist_iff _).mp (by rw [hc.1, nmL])
    have hdict : evE pg (callN pg (n + 2)) (.dictOf (.lc [7] (.tv 7) (.src (.var 0)) (.lit (.bl true)) (.slc (.var 7) .nil (.cons (.lit (.int 2)) .nil)))) (e18 R .no .no .no .no) st = .ok (atsD R) st := by
      have hl : evE pg (callN pg (n + 2)) (.lc [7] (.tv 7) (.src (.var 0)) (.lit (.bl true)) (.slc (.var 7) .nil (.cons (.lit (.int 2)) .nil))) (e18 R .no .no .no .no) st = .ok (.lst (R.map fun r => .tup [.str r.nm, .str r.at_])) st :=
        ev_lcA (as := R) rowD (fun r => D.tup [.str r.nm, .str r.at_]) rfl h.lim fun r hr => ⟨[.v (rowsD R), .v (.lst (strsD (nms R))), .v (.lst (strsD (bx R))), .no, .no, .no, .no, .v (rowD r)], rfl, rfl⟩
      exact ev_dictOfS hl (by rw [List.length_map]; exact h.lim) (dOf_map (fun r : Row => r.nm) (fun r => .str r.at_) R [] hn)
    rw [evB_nxS (env' := e18 R (.v (atsD R)) .no .no .no) (st1 := st) (ev_asgS hdict)]
    have hcl : evE pg (callN pg (n + 2)) (.bif .all (.cons (.lc [5] (.tv 5) (.vals (.var 3)) (.lit (.bl true)) (.or_ (.cons (.cmp .eq (.var 5) (.lit (.str ""))) (.cons (.cmp .in_ (.var 5) (.var 2)) .nil)))) .nil)) (e18 R (.v (atsD R)) .no .no .no) st = .ok (.bl (clB R)) st := by
      have := ev_allS (P := pg) (cf := callN pg (n + 2)) (env := e18 R (.v (atsD R)) .no .no .no) (st := st) (st1 := st) (x := .lc [5] (.tv 5) (.vals (.var 3)) (.lit (.bl true)) (.or_ (.cons (.cmp .eq (.var 5) (.lit (.str ""))) (.cons (.cmp .in_ (.var 5) (.var 2)) .nil)))) (bs := R.map fun (r : Row) => (r.at_ == ("" : Str)) || (bx R).contains r.at_) (by
        rw [List.map_map]
        refine ev_lcA (as := R) (fun r => D.str r.at_) (fun (r : Row) => D.bl ((r.at_ == ("" : Str)) || (bx R).contains r.at_)) (vals_ev h.len.1 rfl) h.lim fun r hr => ⟨e18 R (.v (atsD R)) .no (.v (.str r.at_)) .no, rfl, ?_⟩
        exact or2_ev (ev_cmpS (st1 := st) rfl rfl nr_str nr_str (eq_str (h.ok r hr).asc asc_nil)) fun _ => ev_cmpS (d := .str r.at_) (e := .lst (strsD (bx R))) (st1 := st) rfl rfl nr_str nr_lst (in_lst (h.ok r hr).asc h.ascB))
      rw [all_map] at this
      exact this
    cases hcb : clB R with
    | false =>
      rw [hcb] at hcl
      exact evB_rtS ((ev_ifS (ev_notS hcl)).trans rfl)
    | true =>
      rw [hcb] at hcl
      rw [evB_nxS (ev_ifF (ev_notS hcl))]
      have hC := cl_iff.mp hcb
      have hf := forL_find (f := fun d e => match bindT (.tv 4) d e with
          | some e => evB pg (callN pg (n + 2)) b18 e
          | none => fail) (st := st) (r := .bl false) D.str (fun b => w3 R b == "") (fun env => ∃ x4 x5 x6, env = e18 R (.v (atsD R)) x4 x5 x6) (bx R) (e18 R (.v (atsD R)) .no .no .no) ⟨_, _, _, rfl⟩ fun b hb env ⟨x4, x5, x6, he⟩ => by
        subst he
        exact box_ev (callN pg (n + 2)) st h hn hC hb x5 x6
      show _ = Res.ok (Out.rt (.bl (endB R))) st
      unfold FindR at hf
      have heq : (bx R).all (fun b => w3 R b == "") = endB R := rfl
      rw [heq] at hf
      cases he : endB R with
      | true =>
        rw [he, if_pos rfl] at hf
        obtain ⟨env', _, hf⟩ := hf
        refine (evB_nxS (s := .for_ (.tv 4) (.src (.var 2)) b18) (ev_forS (ds := strsD (bx R)) rfl hf)).trans ?_
        exact evB_rtS rfl
      | false =>
        rw [he, if_neg (by simp)] at hf
        exact evB_rtS (s := .for_ (.tv 4) (.src (.var 2)) b18) (ev_forS (ds := strsD (bx R)) rfl hf)
end K35
end ZK35g
section ZK35h
set_option Elab.async false
set_option linter.all false
set_option maxRecDepth 100000
set_option maxHeartbeats 400000
namespace K35
open PySem PD
/-! both looks see the same -/
theorem pig {α : Type} [BEq α] [LawfulBEq α] : ∀ (l m : List α), l.Nodup → (∀ x ∈ l, x ∈ m) → l.length ≤ m.length
  | [], _, _, _ => Nat.zero_le _
  | x :: l, m, hn, hs => by
    have hx := hs x (List.mem_cons_self ..)
    obtain ⟨h1, h2⟩ := List.nodup_cons.mp hn
    have := pig l (m.erase x) h2 fun y hy => by
      refine (List.mem_erase_of_ne ?_).mpr (hs y (List.mem_cons_of_mem _ hy))
      intro e; subst e; exact h1 hy
    rw [List.length_erase_of_mem hx] at this
    have hp := List.length_pos_of_mem hx
    show l.length + 1 ≤ m.length
    omega
def itr (R : List Row) : Nat → Str → Str
  | 0, s => s
  | k + 1, s => itr R k (stp R s)
theorem itr_add (R : List Row) : ∀ (a b : Nat) (s : Str), itr R (a + b) s = itr R b (itr R a s)
  | 0, b, s => by rw [Nat.zero_add]; rfl
  | a + 1, b, s => by
    rw [Nat.succ_add]
    exact itr_add R a b (stp R s)
theorem itr_nil (R : List Row) : ∀ k : Nat, itr R k "" = ""
  | 0 => rfl
  | k + 1 => itr_nil R k
section
variable {R : List Row}
theorem stp_box (h : Rw R) {s : Str} (hs : s ∈ bx R) : stp R s = atD R s := by
  unfold stp
  rw [if_neg (h.nmS (bx_nms hs)).ne]
theorem stp_cl (h : Rw R) (hn : (nms R).Nodup) (hc : Cl R) {s : Str} (hs : s = "" ∨ s ∈ bx R) : stp R s = "" ∨ stp R s ∈ bx R := by
  rcases hs with rfl | hb
  · exact .inl rfl
  · rw [stp_box h hb]; exact at_cl hn hc (bx_nms hb)
theorem itr_cl (h : Rw R) (hn : (nms R).Nodup) (hc : Cl R) : ∀ (k : Nat) (s : Str), (s = "" ∨ s ∈ bx R) → itr R k s = "" ∨ itr R k s ∈ bx R
  | 0, _, hs => hs
  | k + 1, s, hs => itr_cl h hn hc k _ (stp_cl h hn hc hs)
theorem mem_chain (h : Rw R) (hn : (nms R).Nodup) (hc : Cl R) {b : Str} (hb : b ∈ bx R) : ∀ (k : Nat) (s : Str), (s = "" ∨ s ∈ bx R) → (b ∈ chain R k s ↔ ∃ i, i < k ∧ itr R i s = b)
  | 0, _, _ => ⟨fun z => (nomatch z), fun ⟨i, hi, _⟩ => absurd hi (Nat.not_lt_zero _)⟩
  | k + 1, s, hs => by
    have hbne := (h.nmS (bx_nms hb)).ne
    unfold chain
    rcases hs with rfl | hs
    · rw [if_pos rfl]
      refine ⟨fun z => (nomatch z), fun ⟨i, _, e⟩ => ?_⟩
      rw [itr_nil] at e
      exact absurd e.symm hbne
    · rw [if_neg (h.nmS (bx_nms hs)).ne, List.mem_cons, mem_chain h hn hc hb k _ (at_cl hn hc (bx_nms hs)), ← stp_box h hs]
      constructor
      · rintro (rfl | ⟨i, hi, e⟩)
        · exact ⟨0, Nat.zero_lt_succ _, rfl⟩
        · exact ⟨i + 1, Nat.succ_lt_succ hi, e⟩
      · rintro ⟨i, hi, e⟩
        cases i with
        | zero => exact .inl e.symm
        | succ i => exact .inr ⟨i, Nat.lt_of_succ_lt_succ hi, e⟩
theorem w3_itr (h : Rw R) {b : Str} (hb : b ∈ bx R) : w3 R b = itr R 4 b := by
  show stp R (stp R (stp R (atD R b))) = stp R (stp R (stp R (stp R b)))
  rw [stp_box h hb]
theorem no_end (h : Rw R) (hn : (nms R).Nodup) (hc : Cl R) (h1 : 1 ≤ (bx R).length ∧ (bx R).length ≤ 3) (hh : 1 ≤ (hs R).length) : noB R = endB R := by
  have hl := partsL R
  rw [Bool.eq_iff_iff]
  unfold noB endB
  rw [List.all_eq_true, List.all_eq_true]
  constructor
  · intro no b hb
    rw [beq_iff_eq, w3_itr h hb]
    rcases itr_cl h hn hc 4 b (.inr hb) with e | hin
    · exact e
    · exfalso
      have stay : ∀ i, i ≤ 4 → itr R i b ∈ bx R := fun i hi => by
        rcases itr_cl h hn hc i b (.inr hb) with e | z
        · exfalso
          have : itr R 4 b = "" := by
            rw [show 4 = i + (4 - i) by omega, itr_add, e, itr_nil]
          exact (h.nmS (bx_nms hin)).ne this
        · exact z
      let m := (bx R).length
      have hdup : ¬ ((List.range (m + 1)).map fun i => itr R i b).Nodup := fun hnd => by
        have := pig _ (bx R) hnd fun x hx => by
          obtain ⟨i, hi, rfl⟩ := List.mem_map.mp hx
          have := List.mem_range.mp hi
          exact stay i (by omega)
        rw [List.length_map, List.length_range] at this
        omega
      apply hdup
      unfold List.Nodup
      rw [List.pairwise_map]
      refine List.Pairwise.imp_of_mem ?_ (List.pairwise_lt_range (n := m + 1))
      intro i j hi hj hij e
      have hj' := List.mem_range.mp hj
      have hci : itr R i b ∈ bx R := stay i (by omega)
      have := no _ hci
      have hm : itr R i b ∈ chain R R.length (atD R (itr R i b)) := by
        refine (mem_chain h hn hc hci _ _ (at_cl hn hc (bx_nms hci))).mpr ⟨j - i - 1, by omega, ?_⟩
        rw [← stp_box h hci]
        show itr R (j - i - 1 + 1) (itr R i b) = itr R i b
        rw [show j - i - 1 + 1 = j - i by omega, ← itr_add, show i + (j - i) = j by omega]
        exact e.symm
      have hcon : (chain R R.length (atD R (itr R i b))).contains (itr R i b) = true := List.elem_iff.mpr hm
      rw [hcon] at this
      cases this
  · intro ends b hb
    have hbne := (h.nmS (bx_nms hb)).ne
    have : (chain R R.length (atD R b)).contains b = false := by
      rw [Bool.eq_false_iff]
      intro z
      obtain ⟨i, hi, e⟩ := (mem_chain h hn hc hb _ _ (at_cl hn hc (bx_nms hb))).mp (List.elem_iff.mp z)
      rw [← stp_box h hb] at e
      have ring : itr R (i + 1) b = b := e
      have rounds : ∀ k, itr R (k * (i + 1)) b = b := fun k => by
        induction k with
        | zero => rw [Nat.zero_mul]; rfl
        | succ k ih => rw [Nat.succ_mul, itr_add, ih, ring]
      have h4 := ends b hb
      rw [beq_iff_eq, w3_itr h hb] at h4
      have := rounds 4
      rw [show 4 * (i + 1) = 4 + 4 * i by omega, itr_add, h4, itr_nil] at this
      exact hbne this.symm
    rw [this]; rfl
theorem looks_same (h : Rw R) : okP R = okL R := by
  have hl := partsL R
  have nmL : (nms R).length = R.length := by unfold nms; rw [List.length_map]
  have e1 : dfB (hs R ++ bx R) = decide (distS (nms R) = R.length) := by
    rw [Bool.eq_iff_iff, df_iff, decide_eq_true_eq, (parts R).nodup_iff, ← dist_iff, nmL]
  unfold okP okL cntP cntL
  rw [e1]
  cases hd : decide (distS (nms R) = R.length) with
  | false => simp
  | true =>
    rw [decide_eq_true_eq] at hd
    have hn : (nms R).Nodup := (dist_iff _).mp (by rw [hd, nmL])
    cases hcb : clB R with
    | false => simp
    | true =>
      by_cases hb : 1 ≤ (bx R).length ∧ (bx R).length ≤ 3
      · by_cases hh : 1 ≤ (hs R).length ∧ (hs R).length ≤ 4
        · rw [no_end h hn (cl_iff.mp hcb) hb hh.1, decide_eq_true hb.1, decide_eq_true hb.2, decide_eq_true hh.1, decide_eq_true hh.2]
          rfl
        · have : (decide (1 ≤ (hs R).length) && decide ((hs R).length ≤ 4)) = false := by
            rw [Bool.eq_false_iff]
            intro z
            rw [Bool.and_eq_true, decide_eq_true_eq, decide_eq_true_eq] at z
            exact hh z
          rw [this]; simp
      · have : (decide (1 ≤ (bx R).length) && decide ((bx R).length ≤ 3)) = false := by
          rw [Bool.eq_false_iff]
          intro z
          rw [Bool.and_eq_true, decide_eq_true_eq, decide_eq_true_eq] at z
          exact hb z
        rw [this]; simp
end
/-- any value that may be asked about: both looks, and what is a net -/
theorem both_ev {d : D} (hd : okD d = true) : ∃ b : Bool, (∀ n st, callN pg (n + 4) 8 [d] st = .ok (.bl b) st) ∧ (∀ n st, callN pg (n + 3) 18 [d] st = .ok (.bl b) st) ∧ (b = true → ∃ R, d = rowsD R ∧ Rw R ∧ (nms R).Nodup) := by
  cases ht : isTupB d with
  | false =>
    refine ⟨false, fun n st => ?_, fun n st => ?_, fun z => by cases z⟩
    · have e : tpB d 2 7 = false := by cases d <;> first | rfl | cases ht
      have c0 : evE pg (callN pg (n + 3)) (.call 2 (.cons (.var 0) (.cons (.glob 4) (.cons (.glob 5) .nil)))) [.v d, .no, .no, .no, .no, .no, .no, .no] st = .ok (.bl false) st := ev_callS (ds := [d, .int 2, .int 7]) (st1 := st) rfl ((istup_ev (n + 2) hd 2 7 st).trans (by rw [e]))
      exact callRt (fd := ⟨1, 8, t8⟩) (env := [.v d, .no, .no, .no, .no, .no, .no, .no]) rfl rfl rfl (evB_rtS ((ev_ifS (ev_orT (ev_notS c0))).trans rfl))
    · have c0 : evE pg (callN pg (n + 2)) (.bif (.isi .tuple) (.cons (.var 0) .nil)) [.v d, .no, .no, .no, .no, .no, .no, .no] st = .ok (.bl false) st := ev_isiS rfl (okD_nr hd) (by rw [ty_tup hd, ht])
      exact callRt (fd := ⟨1, 8, t18⟩) (env := [.v d, .no, .no, .no, .no, .no, .no, .no]) rfl rfl rfl (evB_rtS ((ev_ifS (ev_orT (ev_notS c0))).trans rfl))
  | true =>
    obtain ⟨ds, rfl⟩ : ∃ ds, d = .tup ds := by cases d <;> first | exact ⟨_, rfl⟩ | cases ht
    have hds : okAll ds = true := hd
    by_cases hlen : 2 ≤ ds.length ∧ ds.length ≤ 7
    · have lim : ds.length ≤ LIM := by have := lim1000; omega
      cases hall : ds.all plB with
      | true =>
        obtain ⟨R, hR, hok⟩ : ∃ R : List Row, ds = R.map rowD ∧ ∀ r ∈ R, RowOk r := by
          have key : ∀ ds : List D, ds.all plB = true → ∃ R : List Row, ds = R.map rowD ∧ ∀ r ∈ R, RowOk r := fun ds => by
            induction ds with
            | nil => exact fun _ => ⟨[], rfl, (fun _ z => nomatch z)⟩
            | cons x ds ih =>
              intro hx
              rw [List.all_cons, Bool.and_eq_true] at hx
              obtain ⟨r, rfl, hr⟩ := pl_row hx.1
              obtain ⟨R, rfl, hR⟩ := ih hx.2
              exact ⟨r :: R, rfl, fun q hq => by
                rcases List.mem_cons.mp hq with rfl | z
                · exact hr
                · exact hR q z⟩
          exact key ds hall
        subst hR
        rw [List.length_map] at hlen
        have h : Rw R := ⟨hlen, hok⟩
        refine ⟨okP R, fun n st => plc_ev n h hd st, fun n st => by rw [looks_same h]; exact lnet_ev n h hd st, fun z => ⟨R, rfl, h, ?_⟩⟩
        unfold okP at z
        simp only [Bool.and_eq_true] at z
        exact (parts R).nodup_iff.mp ((df_iff _).mp z.2.1)
      | false =>
        refine ⟨false, fun n st => ?_, fun n st => ?_, fun z => by cases z⟩
        · have c0 : evE pg (callN pg (n + 3)) (.call 2 (.cons (.var 0) (.cons (.glob 4) (.cons (.glob 5) .nil)))) [.v (.tup ds), .no, .no, .no, .no, .no, .no, .no] st = .ok (.bl true) st := by
            refine ev_callS (ds := [.tup ds, .int 2, .int 7]) (st1 := st) rfl ((istup_ev (n + 2) hd 2 7 st).trans ?_)
            show Res.ok (D.bl (decide (2 ≤ ds.length) && decide (ds.length ≤ 7))) st = _
            rw [decide_eq_true hlen.1, decide_eq_true hlen.2]; rfl
          have c1 : evE pg (callN pg (n + 3)) (.bif .all (.cons (.lc [4] (.tv 4) (.src (.var 0)) (.lit (.bl true)) (.call 6 (.cons (.var 4) .nil))) .nil)) [.v (.tup ds), .no, .no, .no, .no, .no, .no, .no] st = .ok (.bl false) st := by
            have := ev_allS (P := pg) (cf := callN pg (n + 3)) (env := [.v (.tup ds), .no, .no, .no, .no, .no, .no, .no]) (st := st) (st1 := st) (x := .lc [4] (.tv 4) (.src (.var 0)) (.lit (.bl true)) (.call 6 (.cons (.var 4) .nil))) (bs := ds.map plB) (by
              rw [List.map_map]
              have := ev_lcA (P := pg) (cf := callN pg (n + 3)) (own := [4]) (tg := .tv 4) (it := .src (.var 0)) (elt := .call 6 (.cons (.var 4) .nil)) (env := [.v (.tup ds), .no, .no, .no, .no, .no, .no, .no]) (st := st) (as := ds) id (fun x => D.bl (plB x)) (by rw [List.map_id]; rfl) lim fun x hx => ⟨[.v (.tup ds), .no, .no, .no, .v x, .no, .no, .no], rfl, ev_callS (ds := [x]) (st1 := st) rfl (isplace_ev n (okAll_iff.mp hds _ hx) st)⟩
              exact this)
            rw [all_map, hall] at this
            exact this
          exact callRt (fd := ⟨1, 8, t8⟩) (env := [.v (.tup ds), .no, .no, .no, .no, .no, .no, .no]) rfl rfl rfl (evB_rtS ((ev_ifS (ev_or2F (ev_notS c0) (ev_notS c1))).trans rfl))
        · have c1 : evE pg (callN pg (n + 2)) (.cmp2 .le .le (.lit (.int 2)) (.bif .len (.cons (.var 0) .nil)) (.lit (.int 7))) [.v (.tup ds), .no, .no, .no, .no, .no, .no, .no] st = .ok (.bl true) st := by
            refine (ev_leleS (lo := 2) (i := ds.length) (hi := 7) rfl rfl rfl).trans ?_
            rw [decide_eq_true (by omega), decide_eq_true (by omega)]; rfl
          have c2 : evE pg (callN pg (n + 2)) (.bif .all (.cons (.lc [7] (.tv 7) (.src (.var 0)) (.lit (.bl true)) (.call 17 (.cons (.var 7) .nil))) .nil)) [.v (.tup ds), .no, .no, .no, .no, .no, .no, .no] st = .ok (.bl false) st := by
            have := ev_allS (P := pg) (cf := callN pg (n + 2)) (env := [.v (.tup ds), .no, .no, .no, .no, .no, .no, .no]) (st := st) (st1 := st) (x := .lc [7] (.tv 7) (.src (.var 0)) (.lit (.bl true)) (.call 17 (.cons (.var 7) .nil))) (bs := ds.map plB) (by
              rw [List.map_map]
              have := ev_lcA (P := pg) (cf := callN pg (n + 2)) (own := [7]) (tg := .tv 7) (it := .src (.var 0)) (elt := .call 17 (.cons (.var 7) .nil)) (env := [.v (.tup ds), .no, .no, .no, .no, .no, .no, .no]) (st := st) (as := ds) id (fun x => D.bl (plB x)) (by rw [List.map_id]; rfl) lim fun x hx => ⟨[.v (.tup ds), .no, .no, .no, .no, .no, .no, .v x], rfl, ev_callS (ds := [x]) (st1 := st) rfl (lplace_ev n (okAll_iff.mp hds _ hx) st)⟩
              exact this)
            rw [all_map, hall] at this
            exact this
          have c0 : evE pg (callN pg (n + 2)) (.bif (.isi .tuple) (.cons (.var 0) .nil)) [.v (.tup ds), .no, .no, .no, .no, .no, .no, .no] st = .ok (.bl true) st := rfl
          exact callRt (fd := ⟨1, 8, t18⟩) (env := [.v (.tup ds), .no, .no, .no, .no, .no, .no, .no]) rfl rfl rfl (evB_rtS ((ev_ifS (or3_ev (ev_notS c0) (fun _ => ev_notS c1) fun _ _ => ev_notS c2)).trans rfl))
    · refine ⟨false, fun n st => ?_, fun n st => ?_, fun z => by cases z⟩
      · have c0 : evE pg (callN pg (n + 3)) (.call 2 (.cons (.var 0) (.cons (.glob 4) (.cons (.glob 5) .nil)))) [.v (.tup ds), .no, .no, .no, .no, .no, .no, .no] st = .ok (.bl false) st := by
          refine ev_callS (ds := [.tup ds, .int 2, .int 7]) (st1 := st) rfl ((istup_ev (n + 2) hd 2 7 st).trans ?_)
          show Res.ok (D.bl (decide (2 ≤ ds.length) && decide (ds.length ≤ 7))) st = _
          have : (decide (2 ≤ ds.length) && decide (ds.length ≤ 7)) = false := by
            rw [Bool.eq_false_iff]
            intro z
            rw [Bool.and_eq_true, decide_eq_true_eq, decide_eq_true_eq] at z
            exact hlen z
          rw [this]
        exact callRt (fd := ⟨1, 8, t8⟩) (env := [.v (.tup ds), .no, .no, .no, .no, .no, .no, .no]) rfl rfl rfl (evB_rtS ((ev_ifS (ev_orT (ev_notS c0))).trans rfl))
      · have c1 : evE pg (callN pg (n + 2)) (.cmp2 .le .le (.lit (.int 2)) (.bif .len (.cons (.var 0) .nil)) (.lit (.int 7))) [.v (.tup ds), .no, .no, .no, .no, .no, .no, .no] st = .ok (.bl false) st := by
          refine (ev_leleS (lo := 2) (i := ds.length) (hi := 7) rfl rfl rfl).trans ?_
          have : (decide ((2 : Int) ≤ (ds.length : Int)) && decide ((ds.length : Int) ≤ 7)) = false := by
            rw [Bool.eq_false_iff]
            intro z
            rw [Bool.and_eq_true, decide_eq_true_eq, decide_eq_true_eq] at z
            exact hlen (by omega)
          rw [this]
        have c0 : evE pg (callN pg (n + 2)) (.bif (.isi .tuple) (.cons (.var 0) .nil)) [.v (.tup ds), .no, .no, .no, .no, .no, .no, .no] st = .ok (.bl true) st := rfl
        exact callRt (fd := ⟨1, 8, t18⟩) (env := [.v (.tup ds), .no, .no, .no, .no, .no, .no, .no]) rfl rfl rfl (evB_rtS ((ev_ifS ((ev_orF (ev_notS c0)).trans (ev_orT (ev_notS c1)))).trans rfl))
end K35
end ZK35h
section ZK35s
set_option Elab.async false
set_option linter.all false
set_option maxRecDepth 100000
set_option maxHeartbeats 400000
namespace K35
open PySem PD
/-! Net(thing), its error kept -/
def numL (R : List Row) : List (Str × D) := (R.filter isB).map fun r => (r.nm, soD r.so)
def netF (R : List Row) : List (Nat × D) := [(0, rowsD R), (1, atsD R), (2, .tup (strsD (hs R))), (3, .dct (sk (numL R)))]
theorem set_at {st : Store} {i : Nat} {o o' : O} (h : st[i]? = some o) : (st.set i o')[i]? = some o' := by
  rw [List.getElem?_set_self (List.getElem?_eq_some_iff.mp h).1]
def e9 (i : Nat) (R : List Row) : PD.Env := [.v (.ref i), .v (rowsD R), .no, .no, .no]
section
variable {R : List Row} (cf : Calls) (i : Nat) (st : Store)
theorem lc9H (h : Rw R) : evE pg cf (.lc [2, 3, 4] (tgR 2 3 4) (.src (.var 1)) (.cmp .eq (.var 4) (.glob 2)) (.var 2)) (e9 i R) st = .ok (.lst (strsD (hs R))) st := by
  have := ev_lcP (P := pg) (cf := cf) (own := [2, 3, 4]) (tg := tgR 2 3 4) (it := .src (.var 1)) (t := .cmp .eq (.var 4) (.glob 2)) (elt := .var 2) (env := e9 i R) (st := st) (as := R) rowD isH (fun r => .str r.nm) rfl h.lim fun r hr => ⟨[.v (.ref i), .v (rowsD R), .v (.str r.nm), .v (.str r.at_), .v (soD r.so)], rfl, ev_cmpS (st1 := st) rfl rfl (nr_so r) nr_str (so_eq r), fun _ => rfl⟩
  refine this.trans ?_
  unfold strsD hs
  rw [List.map_map]; rfl
theorem dc9A (h : Rw R) (hn : (nms R).Nodup) : evE pg cf (.dcomp [2, 3, 4] (tgR 2 3 4) (.src (.var 1)) (.lit (.bl true)) (.var 2) (.var 3)) (e9 i R) st = .ok (atsD R) st := by
  have hf : R.filter (fun _ => true) = R := List.filter_eq_self.mpr fun _ _ => rfl
  have := ev_dcP (P := pg) (cf := cf) (own := [2, 3, 4]) (tg := tgR 2 3 4) (it := .src (.var 1)) (t := .lit (.bl true)) (kx := .var 2) (elt := .var 3) (env := e9 i R) (st := st) (as := R) rowD (fun _ => true) (fun r => r.nm) (fun r => .str r.at_) rfl h.lim (by rw [hf]; exact hn) fun r hr => ⟨[.v (.ref i), .v (rowsD R), .v (.str r.nm), .v (.str r.at_), .v (soD r.so)], rfl, rfl, fun _ => ⟨rfl, rfl⟩⟩
  rw [hf] at this
  exact this
theorem dc9N (h : Rw R) (hn : (nms R).Nodup) : evE pg cf (.dcomp [2, 3, 4] (tgR 2 3 4) (.src (.var 1)) (.cmp .ne (.var 4) (.glob 2)) (.var 2) (.var 4)) (e9 i R) st = .ok (.dct (sk (numL R))) st := by
  have hn' : ((R.filter isB).map fun r => r.nm).Nodup := List.Sublist.nodup (List.Sublist.map _ List.filter_sublist) hn
  exact ev_dcP (P := pg) (cf := cf) (own := [2, 3, 4]) (tg := tgR 2 3 4) (it := .src (.var 1)) (t := .cmp .ne (.var 4) (.glob 2)) (kx := .var 2) (elt := .var 4) (env := e9 i R) (st := st) (as := R) rowD isB (fun r => r.nm) (fun r => soD r.so) rfl h.lim hn' fun r hr => ⟨[.v (.ref i), .v (rowsD R), .v (.str r.nm), .v (.str r.at_), .v (soD r.so)], rfl, ev_cmpS (st1 := st) rfl rfl (nr_so r) nr_str (so_ne r), fun _ => ⟨rfl, rfl⟩⟩
end
theorem init_ok (n : Nat) {R : List Row} (h : Rw R) (hn : (nms R).Nodup) (hp : ∀ n st, callN pg (n + 4) 8 [rowsD R] st = .ok (.bl true) st) (i : Nat) (st : Store) (hi : st[i]? = some (.ins 0 [])) : callN pg (n + 5) 9 [.ref i, rowsD R] st = .ok .non (st.set i (.ins 0 (netF R))) := by
  refine callNx (fd := ⟨2, 5, t9⟩) (env := e9 i R) (env' := e9 i R) rfl rfl rfl ?_
  show evB pg (callN pg (n + 4)) t9 (e9 i R) st = _
  unfold t9
  have c0 : evE pg (callN pg (n + 4)) (.not_ (.call 8 (.cons (.var 1) .nil))) (e9 i R) st = .ok (.bl false) st := ev_notS (b := true) (ev_callS (ds := [rowsD R]) (st1 := st) rfl (hp n st))
  rw [evB_nxS (env' := e9 i R) (st1 := st) ((ev_ifxS c0).trans rfl)]
  rw [evB_nxS (ev_qS (ev_setFS (d := rowsD R) (i := i) (c := 0) (fs := []) (st1 := st) (st2 := st) rfl rfl hi ⟨by decide, rfl⟩))]
  have h1 := set_at (o' := .ins 0 [(0, rowsD R)]) hi
  have s1 : ∀ o : O, (st.set i (.ins 0 [(0, rowsD R)])).set i o = st.set i o := fun o => List.set_set ..
  have s2 : putF 0 (rowsD R) [] = [(0, rowsD R)] := rfl
  rw [s2]
  rw [evB_nxS (ev_qS (ev_setFS (d := atsD R) (i := i) (c := 0) (fs := [(0, rowsD R)]) (st2 := st.set i (.ins 0 [(0, rowsD R)])) (dc9A _ i _ h hn) rfl h1 ⟨by simp, rfl⟩)), s1]
  have h2 := set_at (o' := .ins 0 [(0, rowsD R), (1, atsD R)]) hi
  have s3 : putF 1 (atsD R) [(0, rowsD R)] = [(0, rowsD R), (1, atsD R)] := rfl
  rw [s3]
  have s4 : ∀ o : O, (st.set i (.ins 0 [(0, rowsD R), (1, atsD R)])).set i o = st.set i o := fun o => List.set_set ..
  rw [evB_nxS (ev_qS (ev_setFS (d := .tup (strsD (hs R))) (i := i) (c := 0) (fs := [(0, rowsD R), (1, atsD R)]) (st2 := st.set i (.ins 0 [(0, rowsD R), (1, atsD R)])) (ev_bif1S (lc9H _ i _ h) nr_lst rfl) rfl h2 ⟨by simp, rfl⟩)), s4]
  have h3 := set_at (o' := .ins 0 [(0, rowsD R), (1, atsD R), (2, .tup (strsD (hs R)))]) hi
  have s5 : putF 2 (.tup (strsD (hs R))) [(0, rowsD R), (1, atsD R)] = [(0, rowsD R), (1, atsD R), (2, .tup (strsD (hs R)))] := rfl
  rw [s5]
  have s6 : ∀ o : O, (st.set i (.ins 0 [(0, rowsD R), (1, atsD R), (2, .tup (strsD (hs R)))])).set i o = st.set i o := fun o => List.set_set ..
  rw [evB_nxS (ev_qS (ev_setFS (d := .dct (sk (numL R))) (i := i) (c := 0) (fs := [(0, rowsD R), (1, atsD R), (2, .tup (strsD (hs R)))]) (st2 := st.set i (.ins 0 [(0, rowsD R), (1, atsD R), (2, .tup (strsD (hs R)))])) (dc9N _ i _ h hn) rfl h3 ⟨by simp, rfl⟩)), s6]
  rfl
theorem init_bad (n : Nat) {d : D} (hp : ∀ n st, callN pg (n + 4) 8 [d] st = .ok (.bl false) st) (i : Nat) (st : Store) : callN pg (n + 5) 9 [.ref i, d] st = .exc 1 d st := by
  refine callExc (fd := ⟨2, 5, t9⟩) (env := [.v (.ref i), .v d, .no, .no, .no]) rfl rfl rfl ?_
  have c0 : evE pg (callN pg (n + 4)) (.not_ (.call 8 (.cons (.var 1) .nil))) [.v (.ref i), .v d, .no, .no, .no] st = .ok (.bl true) st := ev_notS (b := false) (ev_callS (ds := [d]) (st1 := st) rfl (hp n st))
  exact evB_excS ((ev_ifxS c0).trans (evB_excS (ev_raiseS rfl)))
theorem ev_cauKS {P : Prog} {cf : Calls} {env : PD.Env} {st st1 : Store} {cs : List Nat} {c f : Nat} {as : PD.X} {ds : List D} (h0 : st[0]? = some O.tbl) (ha : evA P cf as env st = .ok ds st1) (hf : P.ini c = some f) : evE P cf (.cauK cs c as) env st = cauR cs (mkR (cf f (.ref st1.length :: ds) (st1 ++ [O.ins c []]))) := by
  show tab0 (bnd (noX (evA P cf as env)) fun ds => bnd (alloc (.ins c [])) fun r => match P.ini c with
    | some f => fun st => cauR cs (mkR (cf f (r :: ds) st))
    | none => fail) st = _
  unfold tab0
  rw [h0]
  show bnd (noX (evA P cf as env)) _ st = _
  rw [bnd_ok (noX_of ha)]
  show (match P.ini c with
    | some f => fun st => cauR cs (mkR (cf f (.ref st1.length :: ds) st))
    | none => fail) (st1 ++ [O.ins c []]) = _
  rw [hf]
/-- what is told of Net(d), and what d is -/
theorem caught_ev {d : D} (hd : okD d = true) : ∃ b : Bool, (∀ n st, callN pg (n + 3) 18 [d] st = .ok (.bl b) st) ∧ ∀ n (st : Store), st[0]? = some O.tbl → ∃ o : O, callN pg (n + 6) 22 [d] st = .ok (if b then .non else .err 1 d) (st ++ [o]) := by
  obtain ⟨b, h1, h2, h3⟩ := both_ev hd
  refine ⟨b, h2, fun n st h0 => ?_⟩
  have hget : (st ++ [O.ins 0 []])[st.length]? = some (O.ins 0 []) := by rw [List.getElem?_append_right (Nat.le_refl _), Nat.sub_self]; rfl
  cases b with
  | true =>
    obtain ⟨R, rfl, h, hn⟩ := h3 rfl
    refine ⟨O.ins 0 (netF R), callRt (fd := ⟨1, 1, tv0⟩) (env := [.v (rowsD R)]) rfl rfl rfl (evB_rtS (ev_rtS ((ev_cauKS (ds := [rowsD R]) (st1 := st) h0 rfl rfl).trans ?_)))⟩
    rw [init_ok n h hn h1 st.length _ hget, List.set_append_right _ _ (Nat.le_refl _), Nat.sub_self]; rfl
  | false =>
    refine ⟨O.ins 0 [], callRt (fd := ⟨1, 1, tv0⟩) (env := [.v d]) rfl rfl rfl (evB_rtS (ev_rtS ((ev_cauKS (ds := [d]) (st1 := st) h0 rfl rfl).trans ?_)))⟩
    rw [init_bad n h1]; rfl
end K35
end ZK35s
section ZK35t
set_option Elab.async false
set_option linter.all false
set_option maxRecDepth 100000
set_option maxHeartbeats 400000
namespace K35
open PySem PD
/-! places drawn -/
def rowL (R : List Row) : List D := R.map rowD
theorem rowL_snoc (R : List Row) (r : Row) : rowL (R ++ [r]) = rowL R ++ [rowD r] := by unfold rowL; rw [List.map_append]; rfl
theorem rowL_len (R : List Row) : (rowL R).length = R.length := by unfold rowL; rw [List.length_map]
theorem mem_strs {d : D} {L : List Str} (h : d ∈ strsD L) : ∃ s ∈ L, d = .str s := by
  obtain ⟨s, hs, e⟩ := List.mem_map.mp h
  exact ⟨s, hs, e.symm⟩
theorem idxS_mem {x : Str} : ∀ {ys : List Str}, x ∈ ys → ∃ k, idxS x ys = some k ∧ k < ys.length
  | y :: r, h => by
    unfold idxS
    by_cases c : (y == x) = true
    · rw [if_pos c]; exact ⟨0, rfl, Nat.zero_lt_succ _⟩
    · rw [if_neg c]
      have hr : x ∈ r := by
        rcases List.mem_cons.mp h with e | z
        · subst e; rw [beq_self_eq_true] at c; exact absurd rfl c
        · exact z
      obtain ⟨k, hk, hl⟩ := idxS_mem hr
      exact ⟨k + 1, by rw [hk]; rfl, Nat.succ_lt_succ hl⟩
section
variable {P : Prog} {cf : Calls} {env : PD.Env} {st st1 st2 : Store}
theorem ev_parPO {i j : Nat} {a : PD.X} {x : D} (h : evE P cf a env st = .ok x st1) : evS P cf (.par i j (.pl a) (.own (.lst .nil))) env st = .ok (.nx ((env.set i (.v x)).set j (.ol []))) st1 := by
  show bnd (bnd (evE P cf a env) fun d => PD.ret (Sl.v d)) (fun x => bnd (PD.ret (Sl.ol [])) fun y => PD.ret (Out.nx ((env.set i x).set j y))) st = _
  rw [bnd2 h]; rfl
theorem ev_ixoS {l e : PD.X} {L : List Str} {z : Str} {k : Nat} (h : evE P cf l env st = .ok (.lst (strsD L)) st1) (h2 : evE P cf e env st1 = .ok (.str z) st2) (hk : idxS z L = some k) (hl : L.length ≤ 1000) : evE P cf (.ixo l e) env st = .ok (.int k) st2 := by
  show bnd (evE P cf l env) (fun x => bnd (evE P cf e env) fun y => match x, y with
    | .lst ds, .str z => match dStrs ds with
      | some ys => (match idxS z ys with
        | some k => if ys.length ≤ 1000 then PD.ret (D.int k) else fail
        | none => fail)
      | none => fail
    | _, _ => fail) st = _
  rw [bnd_ok h, bnd_ok h2]
  show (match dStrs (strsD L) with
      | some ys => (match idxS z ys with
        | some k => if ys.length ≤ 1000 then PD.ret (D.int k) else fail
        | none => fail)
      | none => fail) st2 = _
  rw [dStrs_strs]
  show (match idxS z L with
        | some k => if L.length ≤ 1000 then PD.ret (D.int k) else fail
        | none => fail) st2 = _
  rw [hk]
  show (if L.length ≤ 1000 then PD.ret (D.int k) else fail) st2 = _
  rw [if_pos hl]; rfl
end
theorem cutS_ev {cf : Calls} {env : PD.Env} {st : Store} {L : List Str} {y x : PD.X} (i : Nat) (hi : i ≤ L.length) {st1 : Store} (h1 : evE pg cf y env st = .ok (.lst (strsD L)) st) (hx : evE pg cf x env st = .ok (.int (i : Int)) st1) : evE pg cf (.slc y .nil (.cons x .nil)) env st = .ok (.lst (strsD (L.take i))) st1 := by
  refine ev_slcS (d := .lst (strsD L)) (st1 := st) (st2 := st) (lo := none) (hi := some (i : Int)) h1 rfl (ev_oS hx) nr_lst ?_
  show some (D.lst (cutL (strsD L) none (some (i : Int)))) = _
  rw [cutL_take _ _ (by rw [len_strs]; exact hi)]
  unfold strsD
  rw [List.map_take]
theorem addS_ev {cf : Calls} {env : PD.Env} {st st1 st2 : Store} {L M : List Str} {x y : PD.X} (hl : L.length + M.length ≤ 100) (hx : evE pg cf x env st = .ok (.lst (strsD L)) st1) (hy : evE pg cf y env st1 = .ok (.lst (strsD M)) st2) : evE pg cf (.bin .add x y) env st = .ok (.lst (strsD (L ++ M))) st2 := by
  refine ev_binS hx hy nr_lst nr_lst ?_
  show (if (strsD L).length + (strsD M).length ≤ LIM then some (D.lst (strsD L ++ strsD M)) else none) = _
  rw [if_pos (by rw [len_strs, len_strs]; have := lim1000; omega)]
  unfold strsD
  rw [List.map_append]
def e19 (j : Nat) (L : List Str) (k m : Nat) (x2 x5 x6 x7 x8 : Sl) : PD.Env := [.v (.ref j), .v (.lst (strsD L)), x2, .v (.int (k : Int)), .v (.lst (strsD (L.take m))), x5, x6, x7, x8]
abbrev l19 : PD.X := .cons (.asg 6 (.pl (.ite (.cmp .in_ (.var 5) (.var 4)) (.bin .add (.lit (.int 2)) (.call 11 (.cons (.var 0) (.cons (.lit (.int 5)) .nil)))) (.lit (.str "host")))))
  (.cons (.asg 7 (.pl (.ite (.cmp .in_ (.var 5) (.var 4)) (.bin .add (.lst (.cons (.lit (.str "")) .nil)) (.slc (.var 4) .nil (.cons (.ixo (.var 4) (.var 5)) .nil))) (.bin .add (.lst (.cons (.lit (.str "")) .nil)) (.var 4)))))
  (.cons (.app 2 (.tup (.cons (.var 5) (.cons (.call 12 (.cons (.var 0) (.cons (.bin .add (.var 7) (.bin .mul (.lst (.cons (.call 12 (.cons (.var 0) (.cons (.var 1) .nil))) .nil)) (.bif .int (.cons (.cmp .eq (.call 11 (.cons (.var 0) (.cons (.lit (.int 12)) .nil))) (.lit (.int 0))) .nil)))) .nil))) (.cons (.var 6) .nil)))))
  .nil))
theorem turn19 (n N j : Nat) {L : List Str} (hL : Names L) (k m : Nat) (hm : m ≤ 4) {s : Str} (hs : s ∈ L) {R : List Row} (hR : R.length ≤ 8) (x6 x7 : Sl) (st : Store) (hN : N ≤ 4000) (hJ : Jar N j st) :
    ∃ (r : Row) (x6' x7' : Sl) (st' : Store), RowOk r ∧ Jar (N + 4) j st' ∧ Fr j st st' ∧ evB pg (callN pg (n + 2)) l19 (e19 j L k m (.ol (rowL R)) (.v (.str s)) x6 x7 .no) st = .ok (.nx (e19 j L k m (.ol (rowL (R ++ [r]))) (.v (.str s)) x6' x7' .no)) st' := by
  have lenL := hL.len
  have nmS := hL.nm s hs
  have ascT : ∀ t ∈ L.take m, asc t = true := fun t ht => (hL.nm t (List.mem_of_mem_take ht)).asc
  have cin : ∀ x6 x7, evE pg (callN pg (n + 2)) (.cmp .in_ (.var 5) (.var 4)) (e19 j L k m (.ol (rowL R)) (.v (.str s)) x6 x7 .no) st = .ok (.bl ((L.take m).contains s)) st := fun x6 x7 => ev_cmpS (d := .str s) (e := .lst (strsD (L.take m))) (st1 := st) rfl rfl nr_str nr_lst (in_lst nmS.asc ascT)
  obtain ⟨so, s1, hso, j1, f1, e6⟩ : ∃ (so : Option Int) (s1 : Store), (∀ q, so = some q → 2 ≤ q ∧ q ≤ 6) ∧ Jar (N + 1) j s1 ∧ Fr j st s1 ∧ evE pg (callN pg (n + 2)) (.ite (.cmp .in_ (.var 5) (.var 4)) (.bin .add (.lit (.int 2)) (.call 11 (.cons (.var 0) (.cons (.lit (.int 5)) .nil)))) (.lit (.str "host"))) (e19 j L k m (.ol (rowL R)) (.v (.str s)) x6 x7 .no) st = .ok (soD so) s1 := by
    have c := cin x6 x7
    cases hc : (L.take m).contains s with
    | true =>
      rw [hc] at c
      obtain ⟨t, s1, b1, b2, b3, b4, b5⟩ := take_ev (n + 1) N j 5 st (by omega) (by omega) (by omega) hJ
      exact ⟨some (2 + t), s1, (fun q e => by cases e; omega), b3, b4, (ev_iteS c).trans (ev_binS (d := .int 2) (st1 := st) rfl (ev_callS (ds := [.ref j, .int 5]) (st1 := st) rfl b5) nr_int nr_int rfl)⟩
    | false =>
      rw [hc] at c
      exact ⟨none, st, (fun q e => by cases e), hJ.mono (by omega), Fr.refl, (ev_iteS c).trans rfl⟩
  have cin1 : evE pg (callN pg (n + 2)) (.cmp .in_ (.var 5) (.var 4)) (e19 j L k m (.ol (rowL R)) (.v (.str s)) (.v (soD so)) x7 .no) s1 = .ok (.bl ((L.take m).contains s)) s1 := ev_cmpS (d := .str s) (e := .lst (strsD (L.take m))) (st1 := s1) rfl rfl nr_str nr_lst (in_lst nmS.asc ascT)
  obtain ⟨S, hS, hS2, e7⟩ : ∃ S : List Str, (∀ t ∈ S, t = "" ∨ t ∈ L) ∧ 1 ≤ S.length ∧ S.length ≤ 10 ∧ evE pg (callN pg (n + 2)) (.ite (.cmp .in_ (.var 5) (.var 4)) (.bin .add (.lst (.cons (.lit (.str "")) .nil)) (.slc (.var 4) .nil (.cons (.ixo (.var 4) (.var 5)) .nil))) (.bin .add (.lst (.cons (.lit (.str "")) .nil)) (.var 4))) (e19 j L k m (.ol (rowL R)) (.v (.str s)) (.v (soD so)) x7 .no) s1 = .ok (.lst (strsD S)) s1 := by
    have lt : (L.take m).length ≤ 4 := by rw [List.length_take]; omega
    cases hc : (L.take m).contains s with
    | true =>
      rw [hc] at cin1
      obtain ⟨q, hq, hql⟩ := idxS_mem (List.elem_iff.mp hc : s ∈ L.take m)
      refine ⟨[("" : Str)] ++ (L.take m).take q, fun t ht => ?_, by simp, by rw [List.length_append, List.length_take, List.length_singleton]; omega, (ev_iteS cin1).trans ?_⟩
      · rcases List.mem_append.mp ht with z | z
        · exact .inl (List.mem_singleton.mp z)
        · exact .inr (List.mem_of_mem_take (List.mem_of_mem_take z))
      · exact addS_ev (L := [("" : Str)]) (by rw [List.length_take, List.length_singleton]; omega) (st1 := s1) rfl (cutS_ev q (by omega) rfl (ev_ixoS (L := L.take m) (st1 := s1) rfl rfl hq (by omega)))
    | false =>
      rw [hc] at cin1
      refine ⟨[("" : Str)] ++ L.take m, fun t ht => ?_, by simp, by rw [List.length_append, List.length_singleton]; omega, (ev_iteS cin1).trans ?_⟩
      · rcases List.mem_append.mp ht with z | z
        · exact .inl (List.mem_singleton.mp z)
        · exact .inr (List.mem_of_mem_take z)
      · exact addS_ev (L := [("" : Str)]) (by rw [List.length_singleton]; omega) (st1 := s1) rfl rfl
  obtain ⟨hS1, hS10, e7⟩ := (⟨hS2, e7.1, e7.2⟩ : 1 ≤ S.length ∧ S.length ≤ 10 ∧ _)
  obtain ⟨dn, s2, a1, a2, a3, a4⟩ := of_ev n (N + 1) j (strsD L) s1 (by omega) (by rw [len_strs]; omega) (by rw [len_strs]; omega) j1
  obtain ⟨nm2, hnm2, rfl⟩ := mem_strs a1
  obtain ⟨t, s3, b1, b2, b3, b4, b5⟩ := take_ev (n + 1) (N + 2) j 12 s2 (by omega) (by omega) (by omega) a2
  let E7 := e19 j L k m (.ol (rowL R)) (.v (.str s)) (.v (soD so)) (.v (.lst (strsD S))) .no
  have emul : ∃ M : List Str, M.length ≤ 1 ∧ (∀ t ∈ M, t = nm2) ∧ evE pg (callN pg (n + 2)) (.bin .mul (.lst (.cons (.call 12 (.cons (.var 0) (.cons (.var 1) .nil))) .nil)) (.bif .int (.cons (.cmp .eq (.call 11 (.cons (.var 0) (.cons (.lit (.int 12)) .nil))) (.lit (.int 0))) .nil))) E7 s1 = .ok (.lst (strsD M)) s3 := by
    have el : evE pg (callN pg (n + 2)) (.lst (.cons (.call 12 (.cons (.var 0) (.cons (.var 1) .nil))) .nil)) E7 s1 = .ok (.lst [.str nm2]) s2 := ev_lstS (arg1S nst_call (ev_callS (ds := [.ref j, .lst (strsD L)]) (st1 := s1) rfl a4)) (by show 1 ≤ LIM; have := lim1000; omega)
    have ec : evE pg (callN pg (n + 2)) (.cmp .eq (.call 11 (.cons (.var 0) (.cons (.lit (.int 12)) .nil))) (.lit (.int 0))) E7 s2 = .ok (.bl (t == 0)) s3 := ev_cmpS (d := .int t) (e := .int 0) (st1 := s3) (ev_callS (ds := [.ref j, .int 12]) (st1 := s2) rfl b5) rfl nr_int nr_int rfl
    have ei : evE pg (callN pg (n + 2)) (.bif .int (.cons (.cmp .eq (.call 11 (.cons (.var 0) (.cons (.lit (.int 12)) .nil))) (.lit (.int 0))) .nil)) E7 s2 = .ok (.int (if (t == 0) then 1 else 0)) s3 := ev_bif1S ec nr_bl rfl
    cases ht : (t == 0) with
    | true =>
      rw [ht] at ei
      exact ⟨[nm2], Nat.le_refl _, (fun t ht => List.mem_singleton.mp ht), ev_binS el ei nr_lst nr_int rfl⟩
    | false =>
      rw [ht] at ei
      exact ⟨[], Nat.zero_le _, (fun t ht => nomatch ht), ev_binS el ei nr_lst nr_int rfl⟩
  obtain ⟨M, hM1, hM2, em⟩ := emul
  have eadd := addS_ev (cf := callN pg (n + 2)) (env := E7) (st := s1) (L := S) (M := M) (x := .var 7) (by omega) rfl em
  obtain ⟨da, s4, c1, c2, c3, c4⟩ := of_ev n (N + 3) j (strsD (S ++ M)) s3 (by omega) (by rw [len_strs, List.length_append]; omega) (by rw [len_strs, List.length_append]; omega) b3
  obtain ⟨at_, hat, rfl⟩ := mem_strs c1
  have etup := ev_tupS (P := pg) (cf := callN pg (n + 2)) (env := E7) (evA_consS (x := .var 5) (d := .str s) (st1 := s1) nst_var rfl (arg2S (x := .call 12 (.cons (.var 0) (.cons (.bin .add (.var 7) (.bin .mul (.lst (.cons (.call 12 (.cons (.var 0) (.cons (.var 1) .nil))) .nil)) (.bif .int (.cons (.cmp .eq (.call 11 (.cons (.var 0) (.cons (.lit (.int 12)) .nil))) (.lit (.int 0))) .nil)))) .nil))) (y := .var 6) (e := soD so) (st2 := s4) nst_call nst_var (ev_callS (arg2S (d := .ref j) (st1 := s1) nst_var nst_bin rfl eadd) c4) rfl)) (by show 3 ≤ LIM; have := lim1000; omega)
  refine ⟨⟨s, at_, so⟩, .v (soD so), .v (.lst (strsD S)), s4, ⟨nmS, ?_, hso⟩, c2, f1.trans (a3.trans (b4.trans c3)), ?_⟩
  · rcases List.mem_append.mp hat with z | z
    · rcases hS _ z with e | e
      · exact .inl e
      · exact .inr (hL.nm _ e)
    · exact .inr (hL.nm _ (hM2 _ z ▸ hnm2))
  · rw [evB_nxS (env' := e19 j L k m (.ol (rowL R)) (.v (.str s)) (.v (soD so)) x7 .no) (st1 := s1) (ev_asgS e6)]
    rw [evB_nxS (env' := E7) (st1 := s1) (ev_asgS e7)]
    rw [evB_nxS (ev_appS (ds := rowL R) etup rfl (by rw [rowL_len]; have := lim1000; omega))]
    rw [rowL_snoc]; rfl
end K35
end ZK35t
section ZK35u
set_option Elab.async false
set_option linter.all false
set_option maxRecDepth 100000
set_option maxHeartbeats 400000
namespace K35
open PySem PD
theorem places_ev (n N j : Nat) (st : Store) (hN : N ≤ 3000) (hJ : Jar N j st) : ∃ (R : List Row) (st' : Store), (2 ≤ R.length ∧ R.length ≤ 8) ∧ (∀ r ∈ R, RowOk r) ∧ Jar (N + 50) j st' ∧ Fr j st st' ∧ callN pg (n + 4) 19 [.ref j] st = .ok (rowsD R) st' := by
  obtain ⟨L, s1, hL, a1, a2, a3⟩ := names_ev n N j st (by omega) hJ
  have lenL := hL.len
  obtain ⟨t, s2, b1, b2, b3, b4, b5⟩ := take_ev (n + 2) (N + 10) j 7 s1 (by omega) (by omega) (by omega) a1
  obtain ⟨k, hk⟩ : ∃ k : Nat, 2 + t = (k : Int) := ⟨(2 + t).toNat, by omega⟩
  obtain ⟨dm, s3, c1, c2, c3, c4⟩ := of_ev (n + 1) (N + 11) j [.int 0, .int 0, .int 1, .int 1, .int 2, .int 3] s2 (by omega) (by decide) (by decide) b3
  obtain ⟨m, hm, hm1, hm4⟩ : ∃ m : Nat, dm = .int ((m : Int) - 1) ∧ 1 ≤ m ∧ m ≤ 4 := by
    simp only [List.mem_cons, List.not_mem_nil, or_false] at c1
    rcases c1 with rfl | rfl | rfl | rfl | rfl | rfl
    · exact ⟨1, rfl, by omega, by omega⟩
    · exact ⟨1, rfl, by omega, by omega⟩
    · exact ⟨2, rfl, by omega, by omega⟩
    · exact ⟨2, rfl, by omega, by omega⟩
    · exact ⟨3, rfl, by omega, by omega⟩
    · exact ⟨4, rfl, by omega, by omega⟩
  subst hm
  let q := max k m
  have hq : 2 ≤ q ∧ q ≤ 8 := by
    show 2 ≤ max k m ∧ max k m ≤ 8
    omega
  have hlen : (strsD (L.take q)).length = q := by rw [len_strs, List.length_take]; omega
  obtain ⟨env', s4, ⟨R, x5, x6, x7, rfl, h1, h2, h3, h4⟩, h5⟩ := forL_at (f := fun d e => match bindT (.tv 5) d e with
      | some e => evB pg (callN pg (n + 3)) l19 e
      | none => fail) (fun i env st => ∃ (R : List Row) (x5 x6 x7 : Sl), env = e19 j L k m (.ol (rowL R)) x5 x6 x7 .no ∧ (∀ r ∈ R, RowOk r) ∧ R.length = i ∧ Jar (N + 12 + 4 * i) j st ∧ Fr j s3 st) (strsD (L.take q)) 0 (e19 j L k m (.ol []) .no .no .no .no) s3 ⟨[], .no, .no, .no, rfl, (fun r hr => nomatch hr), rfl, c2, Fr.refl⟩ fun i d env s hd ⟨R, x5, x6, x7, he, h1, h2, h3, h4⟩ => by
    subst he
    rw [Nat.zero_add] at h2 h3 ⊢
    have hiq : i < q := by rw [← hlen]; exact (List.getElem?_eq_some_iff.mp hd).1
    obtain ⟨b, hb, rfl⟩ := mem_strs (List.mem_of_getElem? hd)
    obtain ⟨r, x6', x7', s', r1, r2, r3, r4⟩ := turn19 (n + 1) (N + 12 + 4 * i) j hL k m hm4 (List.mem_of_mem_take hb) (R := R) (by omega) x6 x7 s (by omega) h3
    refine ⟨_, s', ⟨R ++ [r], _, _, _, rfl, fun x hx => ?_, by rw [List.length_append, h2]; rfl, by rw [show N + 12 + 4 * (i + 1) = N + 12 + 4 * i + 4 by omega]; exact r2, h4.trans r3⟩, r4⟩
    rcases List.mem_append.mp hx with z | z
    · exact h1 x z
    · rw [List.mem_singleton.mp z]; exact r1
  rw [Nat.zero_add, hlen] at h2 h3
  obtain ⟨v, s5, g1, g2, g3, g4, g5⟩ := take_ev (n + 2) (N + 12 + 4 * q) j R.length s4 (by omega) (by omega) (by omega) h3
  obtain ⟨a, rfl⟩ : ∃ k : Nat, v = (k : Int) := ⟨v.toNat, by omega⟩
  have ha : a ≤ R.length := by omega
  refine ⟨R.drop a ++ R.take a, s5, by rw [List.length_append, List.length_drop, List.length_take]; omega, fun r hr => ?_, g3.mono (by omega), a2.trans (b4.trans (c3.trans (h4.trans g4))), ?_⟩
  · rcases List.mem_append.mp hr with z | z
    · exact h1 r (List.mem_of_mem_drop z)
    · exact h1 r (List.mem_of_mem_take z)
  · refine callRt (fd := ⟨1, 9, t19⟩) (env := [.v (.ref j), .no, .no, .no, .no, .no, .no, .no, .no]) rfl rfl rfl ?_
    show evB pg (callN pg (n + 3)) t19 [.v (.ref j), .no, .no, .no, .no, .no, .no, .no, .no] st = _
    unfold t19
    rw [evB_nxS (env' := [.v (.ref j), .v (.lst (strsD L)), .ol [], .no, .no, .no, .no, .no, .no]) (st1 := s1) (ev_parPO (ev_callS (ds := [.ref j, .int 9]) (st1 := st) rfl a3))]
    have em : evE pg (callN pg (n + 3)) (.bin .add (.lit (.int 2)) (.call 11 (.cons (.var 0) (.cons (.lit (.int 7)) .nil)))) [.v (.ref j), .v (.lst (strsD L)), .ol [], .no, .no, .no, .no, .no, .no] s1 = .ok (.int (k : Int)) s2 := by
      rw [← hk]
      exact ev_binS (d := .int 2) (st1 := s1) rfl (ev_callS (ds := [.ref j, .int 7]) (st1 := s1) rfl b5) nr_int nr_int rfl
    rw [evB_nxS (env' := [.v (.ref j), .v (.lst (strsD L)), .ol [], .v (.int (k : Int)), .no, .no, .no, .no, .no]) (st1 := s2) (ev_asgS em)]
    have eb : evE pg (callN pg (n + 3)) (.slc (.var 1) .nil (.cons (.bin .add (.lit (.int 1)) (.call 12 (.cons (.var 0) (.cons (.lst (.cons (.lit (.int 0)) (.cons (.lit (.int 0)) (.cons (.lit (.int 1)) (.cons (.lit (.int 1)) (.cons (.lit (.int 2)) (.cons (.lit (.int 3)) .nil))))))) .nil)))) .nil)) [.v (.ref j), .v (.lst (strsD L)), .ol [], .v (.int (k : Int)), .no, .no, .no, .no, .no] s2 = .ok (.lst (strsD (L.take m))) s3 := by
      refine cutS_ev m (by omega) rfl (ev_binS (d := .int 1) (st1 := s2) rfl (ev_callS (arg2S (d := .ref j) (st1 := s2) nst_var (by intro _ z; exact nomatch z) rfl rfl) c4) nr_int nr_int ?_)
      show some (D.int (1 + ((m : Int) - 1))) = _
      congr 2; omega
    rw [evB_nxS (env' := e19 j L k m (.ol []) .no .no .no .no) (st1 := s3) (ev_asgS eb)]
    have emax : evE pg (callN pg (n + 3)) (.bif .max (.cons (.var 3) (.cons (.bif .len (.cons (.var 4) .nil)) .nil))) (e19 j L k m (.ol []) .no .no .no .no) s3 = .ok (.int (q : Int)) s3 := by
      refine (ev_bif2S (i := k) (j := (strsD (L.take m)).length) (st1 := s3) rfl rfl rfl).trans ?_
      rw [len_strs, List.length_take]
      show Res.ok (D.int (if ((min m L.length : Nat) : Int) > (k : Int) then ((min m L.length : Nat) : Int) else (k : Int))) s3 = Res.ok (D.int ((max k m : Nat) : Int)) s3
      congr 2
      split <;> omega
    refine (evB_nxS (s := .for_ (.tv 5) (.src (.slc (.var 1) .nil (.cons (.bif .max (.cons (.var 3) (.cons (.bif .len (.cons (.var 4) .nil)) .nil))) .nil))) l19) (ev_forS (ev_srcS (cutS_ev q (by omega) rfl emax) rfl) h5)).trans ?_
    have elen : evE pg (callN pg (n + 3)) (.bif .len (.cons (.peek 2) .nil)) (e19 j L k m (.ol (rowL R)) x5 x6 x7 .no) s4 = .ok (.int R.length) s4 := by
      refine ev_bif1S (d := .lst (rowL R)) rfl nr_lst ?_
      show some (D.int (rowL R).length) = _
      rw [rowL_len]
    rw [evB_nxS (env' := e19 j L k m (.ol (rowL R)) x5 x6 x7 (.v (.int (a : Int)))) (st1 := s5) (ev_asgS (ev_callS (arg2S (d := .ref j) (st1 := s4) nst_var (by intro _ z; exact nomatch z) rfl elen) g5))]
    refine evB_rtS (ev_rtS ?_)
    have p1 : evE pg (callN pg (n + 3)) (.slc (.peek 2) (.cons (.var 8) .nil) .nil) (e19 j L k m (.ol (rowL R)) x5 x6 x7 (.v (.int (a : Int)))) s5 = .ok (.lst (rowL (R.drop a))) s5 := by
      refine ev_slcS (d := .lst (rowL R)) (st1 := s5) (st2 := s5) (lo := some (a : Int)) (hi := none) rfl (ev_oS rfl) rfl nr_lst ?_
      show some (D.lst (cutL (rowL R) (some (a : Int)) none)) = _
      rw [cutL_drop _ _ (by rw [rowL_len]; exact ha)]
      unfold rowL
      rw [List.map_drop]
    have p2 : evE pg (callN pg (n + 3)) (.slc (.peek 2) .nil (.cons (.var 8) .nil)) (e19 j L k m (.ol (rowL R)) x5 x6 x7 (.v (.int (a : Int)))) s5 = .ok (.lst (rowL (R.take a))) s5 := by
      refine ev_slcS (d := .lst (rowL R)) (st1 := s5) (st2 := s5) (lo := none) (hi := some (a : Int)) rfl rfl (ev_oS rfl) nr_lst ?_
      show some (D.lst (cutL (rowL R) none (some (a : Int)))) = _
      rw [cutL_take _ _ (by rw [rowL_len]; exact ha)]
      unfold rowL
      rw [List.map_take]
    refine ev_bif1S (d := .lst (rowL (R.drop a ++ R.take a))) (ev_binS p1 p2 nr_lst nr_lst ?_) nr_lst rfl
    show (if (rowL (R.drop a)).length + (rowL (R.take a)).length ≤ LIM then some (D.lst (rowL (R.drop a) ++ rowL (R.take a))) else none) = _
    rw [if_pos (by rw [rowL_len, rowL_len, List.length_drop, List.length_take]; have := lim1000; omega)]
    unfold rowL
    rw [List.map_append]
/-! a value with one part otherwise -/
def tws : List D := [.non, .bl true, .int 0, .int 1, .int 2, .str "one", .str "wait", .tup [], .lst [], .dct [], .tup [.bl false], .tup [.tup [.int 0, .int 1]]]
theorem tws_shw : tws.all shwB = true := by decide +kernel
theorem tws_ok : tws.all okD = true := by decide +kernel
def MM : Nat → Nat
  | 0 => 4000
  | k + 1 => 10 * (MM k + 2) + 3
/-- may be asked about, and shown -/
structure Gd (k : Nat) (d : D) : Prop where
  ok : okD d = true
  sh : Shw (k + 2) (MM k) d
theorem MM_mono (k : Nat) : MM k ≤ MM (k + 1) := by
  show MM k ≤ 10 * (MM k + 2) + 3
  omega
theorem Gd.up {k : Nat} {d : D} (h : Gd k d) : Gd (k + 1) d := ⟨h.ok, h.sh.mono (by omega) (MM_mono k)⟩
theorem gd_tw {k : Nat} {d : D} (h : d ∈ tws) : Gd k d := by
  have h0 : Gd 0 d := ⟨List.all_eq_true.mp tws_ok _ h, shw_of (List.all_eq_true.mp tws_shw _ h)⟩
  induction k with
  | zero => exact h0
  | succ k ih => exact ih.up
theorem gd_tup {k : Nat} {ds : List D} (h : ∀ d ∈ ds, Gd k d) (hl : ds.length ≤ 10) : Gd (k + 1) (.tup ds) := by
  refine ⟨okAll_iff.mpr fun d hd => (h d hd).ok, (shw_tup fun d hd => (h d hd).sh).mono (by omega) ?_⟩
  have : ds.length * (MM k + 2) ≤ 10 * (MM k + 2) := Nat.mul_le_mul_right _ hl
  show _ ≤ 10 * (MM k + 2) + 3
  omega
theorem gd_lst {k : Nat} {ds : List D} (h : ∀ d ∈ ds, Gd k d) (hl : ds.length ≤ 10) : Gd (k + 1) (.lst ds) := by
  refine ⟨okAll_iff.mpr fun d hd => (h d hd).ok, (shw_lst fun d hd => (h d hd).sh).mono (by omega) ?_⟩
  have : ds.length * (MM k + 2) ≤ 10 * (MM k + 2) := Nat.mul_le_mul_right _ hl
  show _ ≤ 10 * (MM k + 2) + 3
  omega
/-- what may be twisted -/
def Tv : Nat → D → Prop
  | 0, d => Gd 0 d ∧ isTupB d = false
  | k + 1, d => ∃ ds, d = .tup ds ∧ (1 ≤ ds.length ∧ ds.length ≤ 8) ∧ (∀ x ∈ ds, Tv k x) ∧ (D.tup ds).eqOk = true
theorem Tv.gd : ∀ {k : Nat} {d : D}, Tv k d → Gd k d
  | 0, _, h => h.1
  | k + 1, _, ⟨ds, e, hl, hx, _⟩ => by
    subst e
    exact gd_tup (fun d hd => (hx d hd).gd) (by omega)
theorem cut3 {ds : List D} {x y : PD.X} {cf : Calls} {env : PD.Env} {st : Store} (a : Nat) (ha : a ≤ ds.length) (hx : evE pg cf x env st = .ok (.tup ds) st) (hy : evE pg cf y env st = .ok (.int (a : Int)) st) :
    evE pg cf (.slc x .nil (.cons y .nil)) env st = .ok (.tup (ds.take a)) st ∧ evE pg cf (.slc x (.cons y .nil) .nil) env st = .ok (.tup (ds.drop a)) st := by
  constructor
  · refine ev_slcS (d := .tup ds) (st1 := st) (st2 := st) (lo := none) (hi := some (a : Int)) hx rfl (ev_oS hy) nr_tup ?_
    show some (D.tup (cutL ds none (some (a : Int)))) = _
    rw [cutL_take _ _ ha]
  · refine ev_slcS (d := .tup ds) (st1 := st) (st2 := st) (lo := some (a : Int)) (hi := none) hx (ev_oS hy) rfl nr_tup ?_
    show some (D.tup (cutL ds (some (a : Int)) none)) = _
    rw [cutL_drop _ _ ha]
theorem addT_ev {cf : Calls} {env : PD.Env} {st st1 st2 : Store} {L M : List D} {x y : PD.X} (hl : L.length + M.length ≤ 100) (hx : evE pg cf x env st = .ok (.tup L) st1) (hy : evE pg cf y env st1 = .ok (.tup M) st2) : evE pg cf (.bin .add x y) env st = .ok (.tup (L ++ M)) st2 := by
  refine ev_binS hx hy nr_tup nr_tup ?_
  show (if L.length + M.length ≤ LIM then some (D.tup (L ++ M)) else none) = _
  rw [if_pos (by have := lim1000; omega)]
abbrev twX : PD.X := .lst (.cons (.lit .non) (.cons (.lit (.bl true)) (.cons (.lit (.int 0)) (.cons (.lit (.int 1)) (.cons (.lit (.int 2)) (.cons (.lit (.str "one")) (.cons (.lit (.str "wait")) (.cons (.tup .nil) (.cons (.lst .nil) (.cons .dct0 (.cons (.tup (.cons (.lit (.bl false)) .nil)) (.cons (.tup (.cons (.tup (.cons (.lit (.int 0)) (.cons (.lit (.int 1)) .nil))) .nil)) .nil))))))))))))
theorem tw_ev (n N j : Nat) (env : PD.Env) (h0 : env[0]? = some (.v (.ref j))) (st : Store) (hN : N ≤ 4000) (hJ : Jar N j st) : ∃ (d : D) (st' : Store), d ∈ tws ∧ Jar (N + 1) j st' ∧ Fr j st st' ∧ evE pg (callN pg (n + 2)) (.call 12 (.cons (.var 0) (.cons twX .nil))) env st = .ok d st' := by
  obtain ⟨d, s1, a1, a2, a3, a4⟩ := of_ev n N j tws st (by omega) (by decide) (by decide) hJ
  refine ⟨d, s1, a1, a2, a3, ev_callS (arg2S (d := .ref j) (st1 := st) nst_var (by intro _ z; exact nomatch z) ?_ rfl) a4⟩
  show (match env[0]? with
      | some (Sl.v d) => PD.ret d
      | _ => fail : M D) st = _
  rw [h0]; rfl
theorem twist_ev : ∀ (k n N j : Nat) {d : D} (st : Store), Tv k d → N + 4 * (k + 1) ≤ 4000 → Jar N j st → ∃ (r : D) (st' : Store), Gd k r ∧ Jar (N + 4 * (k + 1)) j st' ∧ Fr j st st' ∧ callN pg (n + 3 + k) 15 [.ref j, d, .int ((k + 1 : Nat) : Int)] st = .ok r st' := by
  intro k
  induction k with
  | zero =>
    intro n N j d st hv hN hJ
    obtain ⟨r, s1, a1, a2, a3, a4⟩ := tw_ev n N j [.v (.ref j), .v d, .v (.int 1), .no, .no] rfl st (by omega) hJ
    refine ⟨r, s1, gd_tw a1, a2.mono (by omega), a3, callRt (fd := ⟨3, 5, t15⟩) (env := [.v (.ref j), .v d, .v (.int 1), .no, .no]) rfl rfl rfl ?_⟩
    have c0 : evE pg (callN pg (n + 2)) (.bif (.isi .tuple) (.cons (.var 1) .nil)) [.v (.ref j), .v d, .v (.int 1), .no, .no] st = .ok (.bl false) st := ev_isiS rfl (okD_nr hv.1.ok) (by rw [ty_tup hv.1.ok, hv.2])
    exact evB_rtS ((ev_ifS (ev_orT (ev_notS c0))).trans (evB_rtS (ev_rtS a4)))
  | succ k ih =>
    intro n N j d st hv hN hJ
    have hgd := hv.gd
    obtain ⟨ds, rfl, hl, hx, hq⟩ := hv
    let E0 : PD.Env := [.v (.ref j), .v (.tup ds), .v (.int ((k + 1 + 1 : Nat) : Int)), .no, .no]
    have lev : callN pg (n + 3 + (k + 1)) = callN pg (n + k + 3 + 1) := by congr 1; omega
    have lev2 : callN pg (n + 3 + k) = callN pg (n + k + 1 + 2) := by congr 1; omega
    obtain ⟨t6, s1, b1, b2, b3, b4, b5⟩ := take_ev (n + k + 2) N j 6 st (by omega) (by omega) (by omega) hJ
    have c0 : evE pg (callN pg (n + k + 3)) (.bif (.isi .tuple) (.cons (.var 1) .nil)) E0 st = .ok (.bl true) st := rfl
    have c1 : evE pg (callN pg (n + k + 3)) (.cmp .eq (.var 1) (.tup .nil)) E0 st = .ok (.bl false) st := by
      refine ev_cmpS (d := .tup ds) (e := .tup []) (st1 := st) rfl rfl nr_tup nr_tup ?_
      show (if (D.tup ds).eqOk && (D.tup []).eqOk then some ((D.tup ds).eqv (.tup [])) else none) = _
      have e1 : (D.tup []).eqOk = true := rfl
      rw [hq, e1]
      cases ds with
      | nil => simp at hl
      | cons x r => rfl
    have c2 : evE pg (callN pg (n + k + 3)) (.cmp .eq (.var 2) (.lit (.int 0))) E0 st = .ok (.bl false) st := by
      refine ev_cmpS (d := .int ((k + 1 + 1 : Nat) : Int)) (e := .int 0) (st1 := st) rfl rfl nr_int nr_int ?_
      show some (((k + 1 + 1 : Nat) : Int) == 0) = _
      have : (((k + 1 + 1 : Nat) : Int) == 0) = false := by rw [beq_eq_false_iff_ne]; omega
      rw [this]
    have c3 : evE pg (callN pg (n + k + 3)) (.cmp .eq (.call 11 (.cons (.var 0) (.cons (.lit (.int 6)) .nil))) (.lit (.int 0))) E0 st = .ok (.bl (t6 == 0)) s1 := ev_cmpS (d := .int t6) (e := .int 0) (st1 := s1) (ev_callS (ds := [.ref j, .int 6]) (st1 := st) rfl b5) rfl nr_int nr_int rfl
    have ctest : evE pg (callN pg (n + k + 3)) (.or_ (.cons (.not_ (.bif (.isi .tuple) (.cons (.var 1) .nil))) (.cons (.cmp .eq (.var 1) (.tup .nil)) (.cons (.cmp .eq (.var 2) (.lit (.int 0))) (.cons (.cmp .eq (.call 11 (.cons (.var 0) (.cons (.lit (.int 6)) .nil))) (.lit (.int 0))) .nil))))) E0 st = .ok (.bl (t6 == 0)) s1 :=
      (ev_orF (ev_notS c0)).trans ((ev_orF c1).trans ((ev_orF c2).trans ((congrFun ev_or1 _).trans c3)))
    cases h6 : (t6 == 0) with
    | true =>
      rw [h6] at ctest
      obtain ⟨r, s2, d1, d2, d3, d4⟩ := tw_ev (n + k + 1) (N + 1) j E0 rfl s1 (by omega) b3
      refine ⟨r, s2, gd_tw d1, d2.mono (by omega), b4.trans d3, ?_⟩
      rw [lev]
      exact callRt (fd := ⟨3, 5, t15⟩) (env := E0) rfl rfl rfl (evB_rtS ((ev_ifS ctest).trans (evB_rtS (ev_rtS d4))))
    | false =>
      rw [h6] at ctest
      obtain ⟨va, s2, d1, d2, d3, d4, d5⟩ := take_ev (n + k + 2) (N + 1) j ds.length s1 (by omega) (by omega) (by omega) b3
      obtain ⟨vw_, s3, f1, f2, f3, f4, f5⟩ := take_ev (n + k + 2) (N + 2) j 8 s2 (by omega) (by omega) (by omega) d3
      obtain ⟨a, rfl⟩ : ∃ q : Nat, va = (q : Int) := ⟨va.toNat, by omega⟩
      have ha : a < ds.length := by omega
      let E1 : PD.Env := [.v (.ref j), .v (.tup ds), .v (.int ((k + 1 + 1 : Nat) : Int)), .v (.int (a : Int)), .v (.int vw_)]
      have elen : evE pg (callN pg (n + k + 3)) (.bif .len (.cons (.var 1) .nil)) E0 s1 = .ok (.int ds.length) s1 := ev_bif1S (d := .tup ds) rfl nr_tup rfl
      have epar : evS pg (callN pg (n + k + 3)) (.par 3 4 (.pl (.call 11 (.cons (.var 0) (.cons (.bif .len (.cons (.var 1) .nil)) .nil)))) (.pl (.call 11 (.cons (.var 0) (.cons (.lit (.int 8)) .nil))))) E0 s1 = .ok (.nx E1) s3 :=
        ev_parS (ev_callS (arg2S (d := .ref j) (st1 := s1) nst_var (by intro _ z; exact nomatch z) rfl elen) d5) (ev_callS (ds := [.ref j, .int 8]) (st1 := s2) rfl f5)
      have elt : evE pg (callN pg (n + k + 3)) (.cmp .lt (.var 4) (.lit (.int 3))) E1 s3 = .ok (.bl (decide (vw_ < 3))) s3 := ev_cmpS (d := .int vw_) (e := .int 3) (st1 := s3) rfl rfl nr_int nr_int rfl
      have iat : ∀ s, evE pg (callN pg (n + k + 3)) (.idx (.var 1) (.var 3)) E1 s = .ok ds[a] s := fun s => by
        refine ev_idxS (d := .tup ds) (e := .int (a : Int)) (st1 := s) rfl rfl nr_tup ?_
        show atI ds (a : Int) = _
        unfold atI
        rw [ixN_nat ha]
        show ds[a]? = _
        rw [List.getElem?_eq_getElem ha]
      have cuts : ∀ s, _ := fun s => cut3 (cf := callN pg (n + k + 3)) (env := E1) (st := s) (x := .var 1) (y := .var 3) a (Nat.le_of_lt ha) rfl rfl
      have cuts1 : ∀ s, evE pg (callN pg (n + k + 3)) (.slc (.var 1) (.cons (.bin .add (.var 3) (.lit (.int 1))) .nil) .nil) E1 s = .ok (.tup (ds.drop (a + 1))) s := fun s => (cut3 (cf := callN pg (n + k + 3)) (env := E1) (st := s) (x := .var 1) (y := .bin .add (.var 3) (.lit (.int 1))) (a + 1) ha rfl rfl).2
      have gdI : ∀ x ∈ ds, Gd k x := fun x hm => (hx x hm).gd
      cases hw : decide (vw_ < 3) with
      | true =>
        rw [hw] at elt
        rw [decide_eq_true_eq] at hw
        have e1 := addT_ev (cf := callN pg (n + k + 3)) (env := E1) (st := s3) (by rw [List.length_take, List.length_drop]; omega) (cuts s3).1 (cuts1 s3)
        have e2a : evE pg (callN pg (n + k + 3)) (.tup (.cons (.idx (.var 1) (.var 3)) .nil)) E1 s3 = .ok (.tup [ds[a]]) s3 := ev_tupS (arg1S nst_idx (iat s3)) (by show 1 ≤ LIM; have := lim1000; omega)
        have e2 := addT_ev (cf := callN pg (n + k + 3)) (env := E1) (st := s3) (by rw [List.length_append, List.length_take, List.length_drop, List.length_singleton]; omega) (addT_ev (by rw [List.length_take, List.length_singleton]; omega) (cuts s3).1 e2a) (cuts s3).2
        have e3 : evE pg (callN pg (n + k + 3)) (.bif .list (.cons (.var 1) .nil)) E1 s3 = .ok (.lst ds) s3 := ev_bif1S (d := .tup ds) rfl nr_tup rfl
        have el := ev_lstS (P := pg) (cf := callN pg (n + k + 3)) (env := E1) (evA_consS nst_bin e1 (arg2S nst_bin (by intro _ z; exact nomatch z) e2 e3)) (by show 3 ≤ LIM; have := lim1000; omega)
        obtain ⟨r, hr, hgr⟩ : ∃ r, atI [D.tup (ds.take a ++ ds.drop (a + 1)), .tup (ds.take a ++ [ds[a]] ++ ds.drop a), .lst ds] vw_ = some r ∧ Gd (k + 1) r := by
          have hv3 : vw_ = 0 ∨ vw_ = 1 ∨ vw_ = 2 := by omega
          rcases hv3 with rfl | rfl | rfl
          · refine ⟨_, rfl, gd_tup (fun x hm => ?_) (by rw [List.length_append, List.length_take, List.length_drop]; omega)⟩
            rcases List.mem_append.mp hm with z | z
            · exact gdI x (List.mem_of_mem_take z)
            · exact gdI x (List.mem_of_mem_drop z)
          · refine ⟨_, rfl, gd_tup (fun x hm => ?_) (by rw [List.length_append, List.length_append, List.length_take, List.length_drop, List.length_singleton]; omega)⟩
            rcases List.mem_append.mp hm with z | z
            · rcases List.mem_append.mp z with z | z
              · exact gdI x (List.mem_of_mem_take z)
              · rw [List.mem_singleton.mp z]; exact gdI _ (List.getElem_mem ha)
            · exact gdI x (List.mem_of_mem_drop z)
          · exact ⟨_, rfl, gd_lst gdI (by omega)⟩
        refine ⟨r, s3, hgr, f3.mono (by omega), b4.trans (d4.trans f4), ?_⟩
        rw [lev]
        refine callRt (fd := ⟨3, 5, t15⟩) (env := E0) rfl rfl rfl ?_
        show evB pg (callN pg (n + k + 3)) t15 E0 st = _
        unfold t15
        rw [evB_nxS (ev_ifF ctest), evB_nxS epar]
        refine evB_rtS ((ev_ifS elt).trans (evB_rtS (ev_rtS (ev_idxS (e := .int vw_) (st1 := s3) el rfl nr_lst hr))))
      | false =>
        rw [hw] at elt
        obtain ⟨r0, s4, g1, g2, g3, g4⟩ := ih n (N + 3) j s3 (hx _ (List.getElem_mem ha)) (by omega) f3
        rw [lev2] at g4
        have ecall : evE pg (callN pg (n + k + 3)) (.call 15 (.cons (.var 0) (.cons (.idx (.var 1) (.var 3)) (.cons (.bin .sub (.var 2) (.lit (.int 1))) .nil)))) E1 s3 = .ok r0 s4 := by
          refine ev_callS (ds := [.ref j, ds[a], .int ((k + 1 : Nat) : Int)]) (st1 := s3) (evA_consS (d := .ref j) (st1 := s3) nst_var rfl (arg2S (st2 := s3) nst_idx nst_bin (iat s3) ?_)) g4
          refine ev_binS (d := .int ((k + 1 + 1 : Nat) : Int)) (e := .int 1) (st1 := s3) rfl rfl nr_int nr_int ?_
          show some (D.int (((k + 1 + 1 : Nat) : Int) - 1)) = _
          congr 2; omega
        have e2a : evE pg (callN pg (n + k + 3)) (.tup (.cons (.call 15 (.cons (.var 0) (.cons (.idx (.var 1) (.var 3)) (.cons (.bin .sub (.var 2) (.lit (.int 1))) .nil)))) .nil)) E1 s3 = .ok (.tup [r0]) s4 := ev_tupS (arg1S nst_call ecall) (by show 1 ≤ LIM; have := lim1000; omega)
        have e2 := addT_ev (cf := callN pg (n + k + 3)) (env := E1) (st := s3) (st1 := s4) (by rw [List.length_append, List.length_take, List.length_drop, List.length_singleton]; omega) (addT_ev (by rw [List.length_take, List.length_singleton]; omega) (cuts s3).1 e2a) (cuts1 s4)
        refine ⟨.tup (ds.take a ++ [r0] ++ ds.drop (a + 1)), s4, gd_tup (fun x hm => ?_) (by rw [List.length_append, List.length_append, List.length_take, List.length_drop, List.length_singleton]; omega), g2.mono (by omega), b4.trans (d4.trans (f4.trans g3)), ?_⟩
        · rcases List.mem_append.mp hm with z | z
          · rcases List.mem_append.mp z with z | z
            · exact gdI x (List.mem_of_mem_take z)
            · rw [List.mem_singleton.mp z]; exact g1
          · exact gdI x (List.mem_of_mem_drop z)
        · rw [lev]
          refine callRt (fd := ⟨3, 5, t15⟩) (env := E0) rfl rfl rfl ?_
          show evB pg (callN pg (n + k + 3)) t15 E0 st = _
          unfold t15
          rw [evB_nxS (ev_ifF ctest), evB_nxS epar, evB_nxS (ev_ifF elt)]
          exact evB_rtS (ev_rtS e2)
end K35
end ZK35u
section ZK35v
set_option Elab.async false
set_option linter.all false
set_option maxRecDepth 100000
set_option maxHeartbeats 400000
namespace K35
open PySem PD
/-! one turn of the law is right -/
structure Gq (d : D) : Prop where
  ok : okD d = true
  sh : Shw 30 500000 d
theorem MM2 : MM 2 ≤ 500000 := by decide
theorem Gd.q {d : D} (h : Gd 2 d) : Gq d := ⟨h.ok, h.sh.mono (by omega) MM2⟩
theorem gd_row {r : Row} (h : RowOk r) : Tv 1 (rowD r) := by
  have ls : ∀ {s : Str}, (s = "" ∨ Nm s) → Tv 0 (.str s) := fun {s} hs => by
    have : asc s = true ∧ s.length ≤ 8 := by
      rcases hs with rfl | z
      · exact ⟨asc_nil, by decide +kernel⟩
      · exact ⟨z.asc, z.len.2⟩
    refine ⟨⟨?_, (shw_str this.1).mono (by omega) (by show _ ≤ 4000; omega)⟩, rfl⟩
    simp only [okD, Bool.and_eq_true, decide_eq_true_eq]
    exact ⟨this.1, by omega⟩
  have lso : Tv 0 (soD r.so) := by
    cases hso : r.so with
    | none => exact ⟨⟨by decide +kernel, (shw_str asc_host).mono (by omega) (by decide +kernel)⟩, rfl⟩
    | some k =>
      have := h.so k hso
      refine ⟨⟨rfl, (shw_int ?_).mono (by omega) (by show 1921 ≤ 4000; omega)⟩, rfl⟩
      have hk : k.natAbs ≤ 6 := by omega
      have h3 : k.natAbs.log2 ≤ k.natAbs := Nat.log2_le_self _
      omega
  refine ⟨[.str r.nm, .str r.at_, soD r.so], rfl, ⟨by simp, by simp⟩, fun x hx => ?_, ?_⟩
  · simp only [List.mem_cons, List.not_mem_nil, or_false] at hx
    rcases hx with rfl | rfl | rfl
    · exact ls (.inr h.nm)
    · exact ls h.at_
    · exact lso
  · have p : ∀ s : Str, asc s = true → (D.str s).plain = true := fun s h => by
      simp only [D.plain]
      rw [← Array.all_toList]; exact h
    have q : (soD r.so).plain = true ∧ (soD r.so).depth = 0 := by
      cases r.so with
      | none => exact ⟨p _ asc_host, rfl⟩
      | some k => exact ⟨rfl, rfl⟩
    have e1 : D.plainAll [.str r.nm, .str r.at_, soD r.so] = true := by
      show ((D.str r.nm).plain && ((D.str r.at_).plain && ((soD r.so).plain && true))) = true
      rw [p _ h.nm.asc, p _ h.asc, q.1]; rfl
    have e2 : D.depthAll [.str r.nm, .str r.at_, soD r.so] = 0 := by
      show max (D.str r.nm).depth (max (D.str r.at_).depth (max (soD r.so).depth 0)) = 0
      rw [q.2]
      simp only [D.depth]; omega
    show (D.plainAll _ && decide (D.depthAll _ + 1 ≤ 60)) = true
    rw [e1, e2]; rfl
theorem tv_plain {d : D} (h : d.eqOk = true) : d.plain = true := by
  unfold D.eqOk at h
  rw [Bool.and_eq_true] at h
  exact h.1
theorem tv_rows {R : List Row} (hl : 2 ≤ R.length ∧ R.length ≤ 8) (h : ∀ r ∈ R, RowOk r) : Tv 2 (rowsD R) := by
  refine ⟨R.map rowD, rfl, by rw [List.length_map]; omega, fun x hx => ?_, ?_⟩
  · obtain ⟨r, hr, rfl⟩ := List.mem_map.mp hx
    exact gd_row (h r hr)
  · have key : ∀ R : List Row, (∀ r ∈ R, RowOk r) → D.plainAll (R.map rowD) = true ∧ D.depthAll (R.map rowD) ≤ 1 := fun R => by
      induction R with
      | nil => exact fun _ => ⟨rfl, Nat.zero_le _⟩
      | cons r R ih =>
        intro h
        obtain ⟨h1, h2⟩ := ih fun x hx => h x (List.mem_cons_of_mem _ hx)
        obtain ⟨ds, e, _, _, hq⟩ := gd_row (h r (List.mem_cons_self ..))
        have hq' : (rowD r).eqOk = true := e ▸ hq
        refine ⟨?_, ?_⟩
        · show ((rowD r).plain && D.plainAll (R.map rowD)) = true
          rw [tv_plain hq', h1]; rfl
        · have hd : (rowD r).depth ≤ 1 := by
            show max (D.str r.nm).depth (max (D.str r.at_).depth (max (soD r.so).depth 0)) + 1 ≤ 1
            have : (soD r.so).depth = 0 := by cases r.so <;> rfl
            rw [this]
            simp only [D.depth]; omega
          show max (rowD r).depth (D.depthAll (R.map rowD)) ≤ 1
          omega
    obtain ⟨k1, k2⟩ := key R h
    show (D.plainAll (R.map rowD) && decide (D.depthAll (R.map rowD) + 1 ≤ 60)) = true
    rw [k1, decide_eq_true (by omega)]; rfl
def e20 (j : Nat) (x1 x2 x3 x4 : Sl) : PD.Env := [.v (.ref j), x1, x2, x3, x4, .no]
abbrev b20 : PD.X := .cons (.asg 4 (.pl (.call 22 (.cons (.var 3) .nil))))
  (.cons (.if_ (.cmp .ne (.cmp .is_ (.var 4) (.lit .non)) (.call 18 (.cons (.var 3) .nil))) (.cons (.rt (.lit (.bl false)))
  .nil) .nil)
  (.cons (.if_ (.and_ (.cons (.cmp .isnot (.var 4) (.lit .non)) (.cons (.or_ (.cons (.not_ (.isx 1 csE (.var 4))) (.cons (.not_ (.isv csE (.var 4))) .nil))) .nil))) (.cons (.rt (.lit (.bl false)))
  .nil) .nil)
  (.cons (.if_ (.and_ (.cons (.cmp .isnot (.var 4) (.lit .non)) (.cons (.cmp .ne (.bif .reprA (.cons (.exv csE (.var 4)) .nil)) (.bif .reprA (.cons (.var 3) .nil))) .nil))) (.cons (.rt (.lit (.bl false)))
  .nil) .nil)
  .nil)))
theorem nr_non : NR .non := fun _ z => nomatch z
theorem nr_err {c : Nat} {d : D} : NR (.err c d) := fun _ z => nomatch z
theorem turn20 (n : Nat) {d : D} (hd : Gq d) (j : Nat) (x1 x2 x4 : Sl) (st : Store) (h0 : st[0]? = some O.tbl) : ∃ (x4' : Sl) (o : O), evB pg (callN pg (n + 6)) b20 (e20 j x1 x2 (.v d) x4) st = .ok (.nx (e20 j x1 x2 (.v d) x4')) (st ++ [o]) := by
  obtain ⟨b, hl, hc⟩ := caught_ev hd.ok
  obtain ⟨o, ho⟩ := hc n st h0
  let s1 := st ++ [o]
  cases b with
  | true =>
    refine ⟨.v .non, o, ?_⟩
    rw [evB_nxS (env' := e20 j x1 x2 (.v d) (.v .non)) (st1 := s1) (ev_asgS (ev_callS (ds := [d]) (st1 := st) rfl ho))]
    have c1 : evE pg (callN pg (n + 6)) (.cmp .ne (.cmp .is_ (.var 4) (.lit .non)) (.call 18 (.cons (.var 3) .nil))) (e20 j x1 x2 (.v d) (.v .non)) s1 = .ok (.bl false) s1 := ev_cmpS (d := .bl true) (e := .bl true) (st1 := s1) (ev_cmpS (d := .non) (e := .non) (st1 := s1) rfl rfl nr_non nr_non rfl) (ev_callS (ds := [d]) (st1 := s1) rfl (hl (n + 3) s1)) nr_bl nr_bl rfl
    have c2 : evE pg (callN pg (n + 6)) (.cmp .isnot (.var 4) (.lit .non)) (e20 j x1 x2 (.v d) (.v .non)) s1 = .ok (.bl false) s1 := ev_cmpS (d := .non) (e := .non) (st1 := s1) rfl rfl nr_non nr_non rfl
    rw [evB_nxS (ev_ifF c1), evB_nxS (ev_ifF (ev_andF c2)), evB_nxS (ev_ifF (ev_andF c2))]
    rfl
  | false =>
    refine ⟨.v (.err 1 d), o, ?_⟩
    rw [evB_nxS (env' := e20 j x1 x2 (.v d) (.v (.err 1 d))) (st1 := s1) (ev_asgS (ev_callS (ds := [d]) (st1 := st) rfl ho))]
    have c1 : evE pg (callN pg (n + 6)) (.cmp .ne (.cmp .is_ (.var 4) (.lit .non)) (.call 18 (.cons (.var 3) .nil))) (e20 j x1 x2 (.v d) (.v (.err 1 d))) s1 = .ok (.bl false) s1 := ev_cmpS (d := .bl false) (e := .bl false) (st1 := s1) (ev_cmpS (d := .err 1 d) (e := .non) (st1 := s1) rfl rfl nr_err nr_non rfl) (ev_callS (ds := [d]) (st1 := s1) rfl (hl (n + 3) s1)) nr_bl nr_bl rfl
    have c2 : evE pg (callN pg (n + 6)) (.cmp .isnot (.var 4) (.lit .non)) (e20 j x1 x2 (.v d) (.v (.err 1 d))) s1 = .ok (.bl true) s1 := ev_cmpS (d := .err 1 d) (e := .non) (st1 := s1) rfl rfl nr_err nr_non rfl
    have c3 : evE pg (callN pg (n + 6)) (.isx 1 csE (.var 4)) (e20 j x1 x2 (.v d) (.v (.err 1 d))) s1 = .ok (.bl true) s1 := ev_isxS (k := 1) (v := d) (st1 := s1) rfl rfl
    have c4 : evE pg (callN pg (n + 6)) (.isv csE (.var 4)) (e20 j x1 x2 (.v d) (.v (.err 1 d))) s1 = .ok (.bl true) s1 := rfl
    have c5 := ev_sameR (P := pg) (cf := callN pg (n + 6)) (env := e20 j x1 x2 (.v d) (.v (.err 1 d))) (st := s1) (st1 := s1) (st2 := s1) (a := .exv csE (.var 4)) (b := .var 3) (d := d) (ev_exvS (k := 1) rfl rfl) rfl hd.sh (by omega) (by unfold LIM; omega)
    rw [evB_nxS (ev_ifF c1), evB_nxS (ev_ifF (ev_and2T c2 (ev_or2F (ev_notS c3) (ev_notS c4)))), evB_nxS (ev_ifF (ev_and2T c2 c5))]
    rfl
theorem right_ev (n N j : Nat) (st : Store) (hN : N ≤ 2500) (hJ : Jar N j st) : ∃ st', Jar (N + 130) j st' ∧ Fr j st st' ∧ callN pg (n + 7) 20 [.ref j] st = .ok (.bl true) st' := by
  obtain ⟨R, s1, hRl, hR, a1, a2, a3⟩ := places_ev (n + 2) N j st (by omega) hJ
  obtain ⟨od, s2, b1, b2, b3, b4⟩ := odd_ev (n + 3) (N + 50) j s1 (by omega) a1
  have hTv := tv_rows hRl hR
  have lim : ∀ {k : Nat}, k ≤ 1000 → k ≤ LIM := fun h => Nat.le_trans h lim1000
  let D0 : List D := [rowsD R, rowsD R.reverse, .lst (R.map rowD), od, .tup (R.map rowD ++ (R.map rowD).take 1)]
  have gR : ∀ x ∈ R.map rowD, Gd 1 x := fun x hx => by
    obtain ⟨r, hr, rfl⟩ := List.mem_map.mp hx
    exact (gd_row (hR r hr)).gd
  have hD0 : ∀ x ∈ D0, Gq x := fun x hx => by
    simp only [D0, List.mem_cons, List.not_mem_nil, or_false] at hx
    rcases hx with rfl | rfl | rfl | rfl | rfl
    · exact hTv.gd.q
    · exact (tv_rows (by rw [List.length_reverse]; exact hRl) fun r hr => hR r (List.mem_reverse.mp hr)).gd.q
    · exact (gd_lst gR (by rw [List.length_map]; omega)).q
    · exact ⟨ok_od b1, (shw_od b1).mono (by omega) (by omega)⟩
    · exact (gd_tup (fun x hx => by
        rcases List.mem_append.mp hx with z | z
        · exact gR x z
        · exact gR x (List.mem_of_mem_take z)) (by rw [List.length_append, List.length_take, List.length_map]; omega)).q
  let E1 := e20 j (.v (rowsD R)) .no .no .no
  let E2 := e20 j (.v (rowsD R)) (.v (.lst D0)) .no .no
  have hsome : evE pg (callN pg (n + 6)) (.lst (.cons (.var 1) (.cons (.rev (.var 1)) (.cons (.bif .list (.cons (.var 1) .nil)) (.cons (.call 14 (.cons (.var 0) .nil)) (.cons (.bin .add (.var 1) (.slc (.var 1) .nil (.cons (.lit (.int 1)) .nil))) .nil)))))) E1 s1 = .ok (.lst D0) s2 := by
    have hrev : evE pg (callN pg (n + 6)) (.rev (.var 1)) E1 s1 = .ok (rowsD R.reverse) s1 := by
      show (if (R.map rowD).length ≤ LIM then PD.ret (D.tup (R.map rowD).reverse) else fail) s1 = _
      rw [if_pos (by rw [List.length_map]; exact lim (by omega))]
      unfold rowsD
      rw [List.map_reverse]; rfl
    have hlist : evE pg (callN pg (n + 6)) (.bif .list (.cons (.var 1) .nil)) E1 s1 = .ok (.lst (R.map rowD)) s1 := ev_bif1S (d := rowsD R) rfl nr_tup rfl
    have hsl : evE pg (callN pg (n + 6)) (.slc (.var 1) .nil (.cons (.lit (.int 1)) .nil)) E1 s2 = .ok (.tup ((R.map rowD).take 1)) s2 := by
      refine ev_slcS (d := rowsD R) (st1 := s2) (st2 := s2) (lo := none) (hi := some ((1 : Nat) : Int)) rfl rfl (ev_oS rfl) nr_tup ?_
      show some (D.tup (cutL (R.map rowD) none (some ((1 : Nat) : Int)))) = _
      rw [cutL_take _ _ (by rw [List.length_map]; omega)]
    have hadd := addT_ev (cf := callN pg (n + 6)) (env := E1) (st := s2) (L := R.map rowD) (x := .var 1) (by rw [List.length_take, List.length_map]; omega) rfl hsl
    refine ev_lstS (evA_consS nst_var (st1 := s1) rfl (evA_consS (by intro _ z; exact nomatch z) hrev (evA_consS (by intro _ z; exact nomatch z) hlist (arg2S nst_call nst_bin (ev_callS (ds := [.ref j]) (st1 := s1) rfl b4) hadd)))) ?_
    show 5 ≤ LIM
    exact lim (by omega)
  have hlen4 : (rangeD 0 4).length = 4 := rfl
  obtain ⟨xs, s3, ⟨c1, c2, c3, c4⟩, hm⟩ := mapL_invB (f := fun d => match bindT (.tv 5) d (PD.wipe E2 [5]) with
        | some e => bnd (bnd (evE pg (callN pg (n + 6)) (.lit (.bl true)) e) blD) fun c => if c then bnd (evE pg (callN pg (n + 6)) (.call 15 (.cons (.var 0) (.cons (.var 1) (.cons (.lit (.int 3)) .nil)))) e) fun y => PD.ret (some y) else PD.ret none
        | none => fail) (fun i acc st => acc.length = i ∧ (∀ x ∈ acc, Gq x) ∧ Jar (N + 70 + 12 * i) j st ∧ Fr j s2 st) 4 (rangeD 0 4) 0 [] s2 (by decide) ⟨rfl, (fun _ z => nomatch z), b2.mono (by omega), Fr.refl⟩ fun i d acc st hi hd ⟨h1, h2, h3, h4⟩ => by
    obtain ⟨r, s', r1, r2, r3, r4⟩ := twist_ev 2 (n + 1) (N + 70 + 12 * i) j st hTv (by omega) h3
    refine ⟨r, s', ⟨by rw [List.length_append, h1]; rfl, fun x hx => ?_, by rw [show N + 70 + 12 * (i + 1) = N + 70 + 12 * i + 4 * (2 + 1) by omega]; exact r2, h4.trans r3⟩, ?_⟩
    · rcases List.mem_append.mp hx with z | z
      · exact h2 x z
      · rw [List.mem_singleton.mp z]; exact r1.q
    · show bnd (evE pg (callN pg (n + 6)) (.call 15 (.cons (.var 0) (.cons (.var 1) (.cons (.lit (.int 3)) .nil)))) [.v (.ref j), .v (rowsD R), .v (.lst D0), .no, .no, .v d]) (fun y => PD.ret (some y)) st = _
      rw [bnd_ok (ev_callS (ds := [.ref j, rowsD R, .int 3]) (st1 := st) rfl r4)]; rfl
  rw [List.nil_append] at c1 c2
  rw [hlen4] at c1 c3
  have hlc : evE pg (callN pg (n + 6)) (.lc [5] (.tv 5) (.rng (.cons (.lit (.int 4)) .nil)) (.lit (.bl true)) (.call 15 (.cons (.var 0) (.cons (.var 1) (.cons (.lit (.int 3)) .nil))))) E2 s2 = .ok (.lst xs) s3 :=
    ev_lcI (ev_rng1S (st1 := s2) (j := 4) rfl rfl) (by rw [hlen4]; exact lim (by omega)) hm
  have hadd : evE pg (callN pg (n + 6)) (.bin .add (.var 2) (.lc [5] (.tv 5) (.rng (.cons (.lit (.int 4)) .nil)) (.lit (.bl true)) (.call 15 (.cons (.var 0) (.cons (.var 1) (.cons (.lit (.int 3)) .nil)))))) E2 s2 = .ok (.lst (D0 ++ xs)) s3 := by
    refine ev_binS (d := .lst D0) (st1 := s2) rfl hlc nr_lst nr_lst ?_
    show (if D0.length + xs.length ≤ LIM then some (D.lst (D0 ++ xs)) else none) = _
    rw [if_pos (by rw [c1]; exact lim (show 5 + (0 + 4) ≤ 1000 by omega))]
  obtain ⟨env', s4, ⟨x3, x4, rfl, f1, f2⟩, hf⟩ := forL_at (f := fun d e => match bindT (.tv 3) d e with
      | some e => evB pg (callN pg (n + 6)) b20 e
      | none => fail) (fun i env st => ∃ x3 x4, env = e20 j (.v (rowsD R)) (.v (.lst D0)) x3 x4 ∧ Jar (N + 130) j st ∧ Fr j s3 st) (D0 ++ xs) 0 E2 s3 ⟨_, _, rfl, c3.mono (by omega), Fr.refl⟩ fun i d env st hd ⟨x3, x4, he, h1, h2⟩ => by
    subst he
    have hg : Gq d := by
      rcases List.mem_append.mp (List.mem_of_getElem? hd) with z | z
      · exact hD0 d z
      · exact c2 d z
    obtain ⟨x4', o, ht⟩ := turn20 n hg j (.v (rowsD R)) (.v (.lst D0)) x4 st h1.tab
    exact ⟨_, _, ⟨_, _, rfl, h1.app _, h2.trans fr_app⟩, ht⟩
  refine ⟨s4, f1, a2.trans (b3.trans (c4.trans f2)), ?_⟩
  refine callRt (fd := ⟨1, 6, t20⟩) (env := e20 j .no .no .no .no) rfl rfl rfl ?_
  show evB pg (callN pg (n + 6)) t20 (e20 j .no .no .no .no) st = _
  unfold t20
  rw [evB_nxS (env' := E1) (st1 := s1) (ev_asgS (ev_callS (ds := [.ref j]) (st1 := st) rfl a3))]
  rw [evB_nxS (env' := E2) (st1 := s2) (ev_asgS hsome)]
  refine (evB_nxS (s := .for_ (.tv 3) (.src (.bin .add (.var 2) (.lc [5] (.tv 5) (.rng (.cons (.lit (.int 4)) .nil)) (.lit (.bl true)) (.call 15 (.cons (.var 0) (.cons (.var 1) (.cons (.lit (.int 3)) .nil))))))) b20) (ev_forS (ev_srcS hadd rfl) hf)).trans ?_
  exact evB_rtS rfl
abbrev l21 : PD.X := .cons (.asg 2 (.pl (.call 10 (.cons (.var 0) (.cons (.var 1) .nil))))) (.cons (.if_ (.not_ (.bif .all (.cons (.lc [3] (.tv 3) (.rng (.cons (.lit (.int 6)) .nil)) (.lit (.bl true)) (.call 20 (.cons (.var 2) .nil))) .nil))) (.cons (.rt (.lit (.bl false))) .nil) .nil) .nil)
theorem law_ev (ns : List Int) : ∃ st', callN pg 60 21 [.scr ns] [.tbl] = .ok (.bl true) st' := by
  have hmx : ∃ m : Int, 1 ≤ m ∧ m ≤ 3 ∧ evE pg (callN pg 59) (.bif .max (.cons (.lit (.int 1)) (.cons (.bif .min (.cons (.lit (.int 3)) (.cons (.bif .len (.cons (.var 0) .nil)) .nil))) .nil))) [.v (.scr ns), .no, .no, .no] [.tbl] = .ok (.int m) [.tbl] := by
    have h1 : evE pg (callN pg 59) (.bif .min (.cons (.lit (.int 3)) (.cons (.bif .len (.cons (.var 0) .nil)) .nil))) [.v (.scr ns), .no, .no, .no] [.tbl] = .ok (.int (if (ns.length : Int) < 3 then (ns.length : Int) else 3)) [.tbl] := ev_bif2S (i := 3) (j := ns.length) (st1 := [.tbl]) rfl rfl rfl
    generalize hv : (if (ns.length : Int) < 3 then (ns.length : Int) else 3) = v at h1
    refine ⟨if v > 1 then v else 1, ?_, ?_, ev_bif2S (i := 1) (j := v) (st1 := [.tbl]) rfl h1 rfl⟩
    · split <;> omega
    · have : v ≤ 3 := by rw [← hv]; split <;> omega
      split <;> omega
  obtain ⟨m, hm1, hm3, hm⟩ := hmx
  obtain ⟨env', st', ⟨⟨a, b, c, rfl⟩, _⟩, h3⟩ := forL_at (f := fun d e => match bindT (.tv 1) d e with
      | some e => evB pg (callN pg 59) l21 e
      | none => fail) (fun _ env st => (∃ a b c, env = [.v (.scr ns), a, b, c]) ∧ st[0]? = some O.tbl) (rangeD 0 m) 0 [.v (.scr ns), .no, .no, .no] [.tbl] ⟨⟨_, _, _, rfl⟩, rfl⟩ fun i d env st hd hI => by
    obtain ⟨⟨a, b, c, rfl⟩, hI0⟩ := hI
    obtain ⟨k, rfl, hk1, hk2⟩ := mem_range (List.mem_of_getElem? hd)
    obtain ⟨s1, gj1, _, g2⟩ := jar_ev 58 ns k.toNat (by omega) st hI0
    rw [Int.toNat_of_nonneg hk1] at g2
    have hlen6 : (rangeD 0 6).length = 6 := rfl
    obtain ⟨xs, s2, ⟨c1, c2⟩, hmm⟩ := mapL_invB (f := fun d => match bindT (.tv 3) d (PD.wipe [.v (.scr ns), .v (.int k), .v (.ref st.length), c] [3]) with
        | some e => bnd (bnd (evE pg (callN pg 59) (.lit (.bl true)) e) blD) fun c => if c then bnd (evE pg (callN pg 59) (.call 20 (.cons (.var 2) .nil)) e) fun y => PD.ret (some y) else PD.ret none
        | none => fail) (fun i acc s => acc = (List.replicate i true).map D.bl ∧ Jar (0 + 130 * i) st.length s) 6 (rangeD 0 6) 0 [] s1 (by decide) ⟨rfl, gj1⟩ fun i d acc s hi hd ⟨h1, h2⟩ => by
      obtain ⟨s', r1, _, r3⟩ := right_ev 52 (0 + 130 * i) st.length s (by omega) h2
      refine ⟨.bl true, s', ⟨by rw [h1, List.replicate_succ', List.map_append]; rfl, by rw [show 0 + 130 * (i + 1) = 0 + 130 * i + 130 by omega]; exact r1⟩, ?_⟩
      show bnd (callN pg 59 20 [.ref st.length]) (fun y => PD.ret (some y)) s = _
      rw [bnd_ok r3]; rfl
    rw [List.nil_append, hlen6] at c1
    refine ⟨[.v (.scr ns), .v (.int k), .v (.ref st.length), c], s2, ⟨⟨_, _, _, rfl⟩, c2.tab⟩, ?_⟩
    show evB pg (callN pg 59) l21 [.v (.scr ns), .v (.int k), b, c] st = _
    rw [evB_nxS (env' := [.v (.scr ns), .v (.int k), .v (.ref st.length), c]) (st1 := s1) (ev_asgS (ev_callS (ds := [.scr ns, .int k]) (st1 := st) rfl g2))]
    have hl : evE pg (callN pg 59) (.lc [3] (.tv 3) (.rng (.cons (.lit (.int 6)) .nil)) (.lit (.bl true)) (.call 20 (.cons (.var 2) .nil))) [.v (.scr ns), .v (.int k), .v (.ref st.length), c] s1 = .ok (.lst ((List.replicate 6 true).map D.bl)) s2 := by
      have := ev_lcI (P := pg) (cf := callN pg 59) (own := [3]) (tg := .tv 3) (it := .rng (.cons (.lit (.int 6)) .nil)) (t := .lit (.bl true)) (elt := .call 20 (.cons (.var 2) .nil)) (env := [.v (.scr ns), .v (.int k), .v (.ref st.length), c]) (ev_rng1S (st := s1) (st1 := s1) (j := 6) rfl rfl) (by rw [hlen6]; have := lim1000; omega) hmm
      rw [c1] at this
      exact this
    exact (evB_nxS (env' := [.v (.scr ns), .v (.int k), .v (.ref st.length), c]) (st1 := s2) ((ev_ifS (ev_notS (ev_allS (bs := List.replicate 6 true) hl))).trans rfl)).trans rfl
  refine ⟨st', callRt (fd := ⟨1, 4, t21⟩) (env := [.v (.scr ns), .no, .no, .no]) rfl rfl rfl ?_⟩
  show evB pg (callN pg 59) t21 [.v (.scr ns), .no, .no, .no] [.tbl] = _
  unfold t21
  have hit : evIt pg (callN pg 59) (.rng (.cons (.bif .max (.cons (.lit (.int 1)) (.cons (.bif .min (.cons (.lit (.int 3)) (.cons (.bif .len (.cons (.var 0) .nil)) .nil))) .nil))) .nil)) [.v (.scr ns), .no, .no, .no] [.tbl] = .ok (rangeD 0 m) [.tbl] := ev_rng1S hm (by unfold gRng; rw [decide_eq_true_eq]; omega)
  rw [evB_nxS (ev_forS hit h3)]
  exact evB_rtS rfl
end K35
end ZK35v
section ZK35b
set_option Elab.async false
set_option linter.all false
set_option maxRecDepth 100000
set_option maxHeartbeats 4000000
namespace K35
open PySem PySem.Spec L2 PyProof.Rows PD
structure Funs (T : Tb) (a : Nat → Addr) (fd : Nat → FuncData) (c : Addr) : Prop where
  u0 : Fun T.K "is_integer" "is_integer" s0 (a 0) (fd 0)
  u1 : Fun T.K "is_between" "is_between" s1 (a 1) (fd 1)
  u2 : Fun T.K "is_tuple" "is_tuple" s2 (a 2) (fd 2)
  u3 : Fun T.K "is_name" "is_name" s3 (a 3) (fd 3)
  u4 : Fun T.K "is_word" "is_word" s4 (a 4) (fd 4)
  u5 : Fun T.K "are_different" "are_different" s5 (a 5) (fd 5)
  u6 : Fun T.K "is_place" "is_place" s6 (a 6) (fd 6)
  u7 : Fun T.K "spaces_around" "spaces_around" s7 (a 7) (fd 7)
  u8 : Fun T.K "are_places" "are_places" s8 (a 8) (fd 8)
  u9 : Fun T.K "__init__" "Net.__init__" s9 (a 9) (fd 9)
  u10 : Fun T.K "_law_jar" "_law_jar" s10 (a 10) (fd 10)
  u11 : Fun T.K "_law_take" "_law_take" s11 (a 11) (fd 11)
  u12 : Fun T.K "_law_of" "_law_of" s12 (a 12) (fd 12)
  u13 : Fun T.K "_law_names" "_law_names" s13 (a 13) (fd 13)
  u14 : Fun T.K "_law_odd" "_law_odd" s14 (a 14) (fd 14)
  u15 : Fun T.K "_law_twisted" "_law_twisted" s15 (a 15) (fd 15)
  u16 : Fun T.K "_law_is_name" "_law_is_name" s16 (a 16) (fd 16)
  u17 : Fun T.K "_law_is_place" "_law_is_place" s17 (a 17) (fd 17)
  u18 : Fun T.K "_law_is_net" "_law_is_net" s18 (a 18) (fd 18)
  u19 : Fun T.K "_law_places" "_law_places" s19 (a 19) (fd 19)
  u20 : FunC T.K "_law_right" "_law_right" s20 (a 20) (fd 20) c
  u21 : Fun T.K "law" "law" s21 (a 21) (fd 21)
  uM : Fun T.K "_law_caught" "_law_caught" sM (a 23) (fd 23)
section
variable {T : Tb} {base : Heap} {a : Nat → Addr} {fd : Nat → FuncData} {c : Addr}
theorem bi0 (u : Funs T a fd c) : Binds T.K (fd 0) ["value"] [] := u.u0.binds (ps := ["value"]) fun _ _ _ _ _ _ us hl => match us, hl with | [_], _ => rfl
theorem bi1 (u : Funs T a fd c) : Binds T.K (fd 1) ["value", "low", "high"] [] := u.u1.binds (ps := ["value", "low", "high"]) fun _ _ _ _ _ _ us hl => match us, hl with | [_, _, _], _ => rfl
theorem bi2 (u : Funs T a fd c) : Binds T.K (fd 2) ["value", "low", "high"] [] := u.u2.binds (ps := ["value", "low", "high"]) fun _ _ _ _ _ _ us hl => match us, hl with | [_, _, _], _ => rfl
theorem bi3 (u : Funs T a fd c) : Binds T.K (fd 3) ["value"] [] := u.u3.binds (ps := ["value"]) fun _ _ _ _ _ _ us hl => match us, hl with | [_], _ => rfl
theorem bi4 (u : Funs T a fd c) : Binds T.K (fd 4) ["value", "words"] [] := u.u4.binds (ps := ["value", "words"]) fun _ _ _ _ _ _ us hl => match us, hl with | [_, _], _ => rfl
theorem bi5 (u : Funs T a fd c) : Binds T.K (fd 5) ["some"] [] := u.u5.binds (ps := ["some"]) fun _ _ _ _ _ _ us hl => match us, hl with | [_], _ => rfl
theorem bi6 (u : Funs T a fd c) : Binds T.K (fd 6) ["value"] [] := u.u6.binds (ps := ["value"]) fun _ _ _ _ _ _ us hl => match us, hl with | [_], _ => rfl
theorem bi7 (u : Funs T a fd c) : Binds T.K (fd 7) ["ats", "name"] [] := u.u7.binds (ps := ["ats", "name"]) fun _ _ _ _ _ _ us hl => match us, hl with | [_, _], _ => rfl
theorem bi8 (u : Funs T a fd c) : Binds T.K (fd 8) ["value"] [] := u.u8.binds (ps := ["value"]) fun _ _ _ _ _ _ us hl => match us, hl with | [_], _ => rfl
theorem bi9 (u : Funs T a fd c) : Binds T.K (fd 9) ["self", "places"] [] := u.u9.binds (ps := ["self", "places"]) fun _ _ _ _ _ _ us hl => match us, hl with | [_, _], _ => rfl
theorem bi10 (u : Funs T a fd c) : Binds T.K (fd 10) ["script", "k"] [] := u.u10.binds (ps := ["script", "k"]) fun _ _ _ _ _ _ us hl => match us, hl with | [_, _], _ => rfl
theorem bi11 (u : Funs T a fd c) : Binds T.K (fd 11) ["jar", "many"] [] := u.u11.binds (ps := ["jar", "many"]) fun _ _ _ _ _ _ us hl => match us, hl with | [_, _], _ => rfl
theorem bi12 (u : Funs T a fd c) : Binds T.K (fd 12) ["jar", "some"] [] := u.u12.binds (ps := ["jar", "some"]) fun _ _ _ _ _ _ us hl => match us, hl with | [_, _], _ => rfl
theorem bi13 (u : Funs T a fd c) : Binds T.K (fd 13) ["jar", "many"] [] := u.u13.binds (ps := ["jar", "many"]) fun _ _ _ _ _ _ us hl => match us, hl with | [_, _], _ => rfl
theorem bi14 (u : Funs T a fd c) : Binds T.K (fd 14) ["jar"] [] := u.u14.binds (ps := ["jar"]) fun _ _ _ _ _ _ us hl => match us, hl with | [_], _ => rfl
theorem bi15 (u : Funs T a fd c) : Binds T.K (fd 15) ["jar", "value", "deep"] [] := u.u15.binds (ps := ["jar", "value", "deep"]) fun _ _ _ _ _ _ us hl => match us, hl with | [_, _, _], _ => rfl
theorem bi16 (u : Funs T a fd c) : Binds T.K (fd 16) ["thing"] [] := u.u16.binds (ps := ["thing"]) fun _ _ _ _ _ _ us hl => match us, hl with | [_], _ => rfl
theorem bi17 (u : Funs T a fd c) : Binds T.K (fd 17) ["thing"] [] := u.u17.binds (ps := ["thing"]) fun _ _ _ _ _ _ us hl => match us, hl with | [_], _ => rfl
theorem bi18 (u : Funs T a fd c) : Binds T.K (fd 18) ["thing"] [] := u.u18.binds (ps := ["thing"]) fun _ _ _ _ _ _ us hl => match us, hl with | [_], _ => rfl
theorem bi19 (u : Funs T a fd c) : Binds T.K (fd 19) ["jar"] [] := u.u19.binds (ps := ["jar"]) fun _ _ _ _ _ _ us hl => match us, hl with | [_], _ => rfl
theorem bi20 (u : Funs T a fd c) : Binds T.K (fd 20) ["jar"] [] := u.u20.fn.binds (ps := ["jar"]) fun _ _ _ _ _ _ us hl => match us, hl with | [_], _ => rfl
theorem bi21 (u : Funs T a fd c) : Binds T.K (fd 21) ["script"] [] := u.u21.binds (ps := ["script"]) fun _ _ _ _ _ _ us hl => match us, hl with | [_], _ => rfl
theorem biM (u : Funs T a fd c) : Binds T.K (fd 23) ["call"] [] := u.uM.binds (ps := ["call"]) fun _ _ _ _ _ _ us hl => match us, hl with | [_], _ => rfl
theorem all (t : Txt T a) (hP : T.hf = hfF) (hN : T.nm = nmF) (u : Funs T a fd c) (TB : LamX.TabB base T.mg c T.tb) : ∀ n, All T base a n ∧ All T base a (n - 1)
  | 0 =>
    have z : All T base a 0 := ⟨.zero (bi0 u) u.u0.kp, .zero (bi1 u) u.u1.kp, .zero (bi2 u) u.u2.kp, .zero (bi3 u) u.u3.kp, .zero (bi4 u) u.u4.kp, .zero (bi5 u) u.u5.kp, .zero (bi6 u) u.u6.kp, .zero (bi7 u) u.u7.kp, .zero (bi8 u) u.u8.kp, .zero (bi9 u) u.u9.kp, .zero (bi10 u) u.u10.kp, .zero (bi11 u) u.u11.kp, .zero (bi12 u) u.u12.kp, .zero (bi13 u) u.u13.kp, .zero (bi14 u) u.u14.kp, .zero (bi15 u) u.u15.kp, .zero (bi16 u) u.u16.kp, .zero (bi17 u) u.u17.kp, .zero (bi18 u) u.u18.kp, .zero (bi19 u) u.u19.kp, .zero (bi20 u) u.u20.kp, .zero (bi21 u) u.u21.kp⟩
    ⟨z, z⟩
  | n + 1 => ⟨⟨.succ u.u0 sc0 (bi0 u) rfl fun cdv A outer s H E hr => body0 t hP hN (all t hP hN u TB n).1 cdv A outer s H E hr,
    .succ u.u1 sc1 (bi1 u) rfl fun cdv A outer s H E hr => body1 t hP hN (all t hP hN u TB n).1 cdv A outer s H E hr,
    .succ u.u2 sc2 (bi2 u) rfl fun cdv A outer s H E hr => body2 t hP hN (all t hP hN u TB n).1 cdv A outer s H E hr,
    .succ u.u3 sc3 (bi3 u) rfl fun cdv A outer s H E hr => body3 t hP hN (all t hP hN u TB n).1 cdv A outer s H E hr,
    .succ u.u4 sc4 (bi4 u) rfl fun cdv A outer s H E hr => body4 t hP hN (all t hP hN u TB n).1 cdv A outer s H E hr,
    .succ u.u5 sc5 (bi5 u) rfl fun cdv A outer s H E hr => body5 t hP hN (all t hP hN u TB n).1 cdv A outer s H E hr,
    .succ u.u6 sc6 (bi6 u) rfl fun cdv A outer s H E hr => body6 t hP hN (all t hP hN u TB n).1 cdv A outer s H E hr,
    .succ u.u7 sc7 (bi7 u) rfl fun cdv A outer s H E hr => body7 t hP hN (all t hP hN u TB n).1 cdv A outer s H E hr,
    .succ u.u8 sc8 (bi8 u) rfl fun cdv A outer s H E hr => body8 t hP hN (all t hP hN u TB n).1 cdv A outer s H E hr,
    .succ u.u9 sc9 (bi9 u) rfl fun cdv A outer s H E hr => body9 t hP hN (all t hP hN u TB n).1 cdv A outer s H E hr,
    .succ u.u10 sc10 (bi10 u) rfl fun cdv A outer s H E hr => body10 t hP hN (all t hP hN u TB n).1 cdv A outer s H E hr,
    .succ u.u11 sc11 (bi11 u) rfl fun cdv A outer s H E hr => body11 t hP hN (all t hP hN u TB n).1 cdv A outer s H E hr,
    .succ u.u12 sc12 (bi12 u) rfl fun cdv A outer s H E hr => body12 t hP hN (all t hP hN u TB n).1 cdv A outer s H E hr,
    .succ u.u13 sc13 (bi13 u) rfl fun cdv A outer s H E hr => body13 t hP hN (all t hP hN u TB n).1 cdv A outer s H E hr,
    .succ u.u14 sc14 (bi14 u) rfl fun cdv A outer s H E hr => body14 t hP hN (all t hP hN u TB n).1 cdv A outer s H E hr,
    .succ u.u15 sc15 (bi15 u) rfl fun cdv A outer s H E hr => body15 t hP hN (all t hP hN u TB n).1 cdv A outer s H E hr,
    .succ u.u16 sc16 (bi16 u) rfl fun cdv A outer s H E hr => body16 t hP hN (all t hP hN u TB n).1 cdv A outer s H E hr,
    .succ u.u17 sc17 (bi17 u) rfl fun cdv A outer s H E hr => body17 t hP hN (all t hP hN u TB n).1 cdv A outer s H E hr,
    .succ u.u18 sc18 (bi18 u) rfl fun cdv A outer s H E hr => body18 t hP hN (all t hP hN u TB n).1 cdv A outer s H E hr,
    .succ u.u19 sc19 (bi19 u) rfl fun cdv A outer s H E hr => body19 t hP hN (all t hP hN u TB n).1 cdv A outer s H E hr,
    .succC u.u20 sc20 (bi20 u) rfl fun A outer s H hr hg => body20 t hP hN (all t hP hN u TB n).1 c (all t hP hN u TB n).2 TB u.uM (biM u) A outer s H E0 hr hg,
    .succF u.u21 sc21 (bi21 u) rfl fun cdv A outer s H hr hg => body21 t hP hN (all t hP hN u TB n).1 cdv A outer s H E0 hr hg⟩, (all t hP hN u TB n).1⟩
end
/-- what is asked of the law's own run -/
def RunOk : Prop := ∀ ns : List Int, ns.length ≤ 63 → ∃ st', callN pg 60 21 [.scr ns] [.tbl] = .ok (.bl true) st'
def spLaw (K : PySem.W.Frag) (tb : Addr) : Sp := fun vs H Q _ => ∃ (a : Addr) (ns : List Int), vs = [.ref a] ∧ SqL K H a (ns.map V.int) ∧ ns.length ≤ 63 ∧ H tb = some (.tbl #[]) ∧ ∀ H', Q (.bl true) H'
theorem nm_inj (c f g : Nat) (h1 : hfF c f = true) (h2 : hfF c g = true) (e : nmF f = nmF g) : f = g := by
  have key : ∀ f' : Fin 4, ∀ g' : Fin 4, nmF f'.1 = nmF g'.1 → f' = g' := by decide +kernel
  have hf : f < 4 := by
    by_cases z : f < 4
    · exact z
    · unfold hfF at h1; split at h1 <;> first | omega | cases h1
  have hg : g < 4 := by
    by_cases z : g < 4
    · exact z
    · unfold hfF at h2; split at h2 <;> first | omega | cases h2
  exact congrArg Fin.val (key ⟨f, hf⟩ ⟨g, hg⟩ e)
theorem supM : ∃ p0 p1 p2 p3 p4 p5 p6 p7 p8 p9, defBody sS = [.Expr (.Call (.Attribute (.Call (.Name "super" p0) [] [] p1) "__init__" p2) [.Name "value" p3] [] p4) p5, .Assign [.Attribute (.Name "self" p6) erF p7] (.Name "value" p8) p9] ∧
    ∀ env : PySem.Env, ∃ pl : Sem Bool, eval (.Call (.Attribute (.Call (.Name "super" p0) [] [] p1) "__init__" p2) [.Name "value" p3] [] p4) env = (do
      let ov ← attributeBase (.Call (.Name "super" p0) [] [] p1) "__init__" env (eval (.Call (.Name "super" p0) [] [] p1) env)
      standAt p2.atName
      let (m, first) ← holding [ov] (getMethod ov "__init__" pl)
      callWith p4 m first (backTo p4 (starEach [.Name "value" p3] env)) []) ∧
      swapsWith (.Call (.Attribute (.Call (.Name "super" p0) [] [] p1) "__init__" p2) [.Name "value" p3] [] p4) none p5.line env = pure false ∧ swapsWith (.Name "value" p8) (some (.Attribute (.Name "self" p6) erF p7)) p9.line env = pure false ∧
      starEach [.Name "value" p3] env = (false, eval (.Name "value" p3) env) :: starEach [] env :=
  ⟨_, _, _, _, _, _, _, _, _, _, rfl, fun env => ⟨_, rfl, rfl, rfl, rfl⟩⟩
theorem fnAt {T : Tb} {base : Heap} {a : Nat → Addr} {fd : Nat → FuncData} {c : Addr} (D : All T base a 59) (t : Txt T a) (u : Funs T a fd c) (hP : T.hf = hfF := by rfl) (hN : T.nm = nmF := by rfl) : FnG T.P T.w T.K T.mg base 120 (a 21) (fd 21) ["script"] (spC T (callN pg 60) 21 1) := by
  obtain ⟨oc, od, kV, dc, pm, an, cd, ct, sl, e, lk, hcd⟩ := u.u21.ex
  rw [e]
  rw [e] at lk
  exact fnG (k := 119) (pg := pg) (f := 21) (tree := t21) (N := ["script", "k", "jar", "turn"]) (ps := ["script"]) lk hcd sc21 rfl fun A outer s H hr hg => body21 t hP hN D cd A outer s H E0 hr hg
theorem all_mk (run : RunOk) {l : PySem.W.OpenLaw} {w : World} {K : PySem.W.Frag} {h : Heap} {mg : Str → Option Value} {fa f0 f1 f2 f3 f4 f5 f6 f7 f8 f9 f10 f11 f12 f13 f14 f15 f16 f17 f18 f19 f20 f21 C0 E1 E2  fM fS cR tb cS cc : Addr} (X : K.In h) (G : h.Ns mainGlobals mg) (hfa : mg "law" = some (.ref fa))
    {od0 an0 od1 an1 od2 an2 od3 an3 od4 an4 od5 an5 od6 an6 od7 an7 od8 an8 od9 an9 od10 an10 od11 an11 od12 an12 od13 an13 od14 an14 od15 an15 od16 an16 od17 an17 od18 an18 od19 an19 od20 an20 od21 an21 odM anM odS anS odS1 odS2 odR : Option Addr} {sl0 sl1 sl2 sl3 sl4 sl5 sl6 sl7 sl8 sl9 sl10 sl11 sl12 sl13 sl14 sl15 sl16 sl17 sl18 sl19 sl20 sl21 slM slS slS1 slS2 slR : Array (Option Value)} {oc0 kV0 dc0 pm0 cd0 ct0 oc1 kV1 dc1 pm1 cd1 ct1 oc2 kV2 dc2 pm2 cd2 ct2 oc3 kV3 dc3 pm3 cd3 ct3 oc4 kV4 dc4 pm4 cd4 ct4 oc5 kV5 dc5 pm5 cd5 ct5 oc6 kV6 dc6 pm6 cd6 ct6 oc7 kV7 dc7 pm7 cd7 ct7 oc8 kV8 dc8 pm8 cd8 ct8 oc9 kV9 dc9 pm9 cd9 ct9 oc10 kV10 dc10 pm10 cd10 ct10 oc11 kV11 dc11 pm11 cd11 ct11 oc12 kV12 dc12 pm12 cd12 ct12 oc13 kV13 dc13 pm13 cd13 ct13 oc14 kV14 dc14 pm14 cd14 ct14 oc15 kV15 dc15 pm15 cd15 ct15 oc16 kV16 dc16 pm16 cd16 ct16 oc17 kV17 dc17 pm17 cd17 ct17 oc18 kV18 dc18 pm18 cd18 ct18 oc19 kV19 dc19 pm19 cd19 ct19 oc20 kV20 dc20 pm20 ct20 oc21 kV21 dc21 pm21 cd21 ct21 ocM kVM dcM pmM cdM ctM ocS kVS dcS pmS ctS clS1 clS2 ocR : Value} {vsR vsS : Array Value} {fileS : Str} {cdE : ClassData} {tk0 tk1 tk2 tk3 tk4 tk5 tk6 tk7 tk8 tk9 tk10 tkS : Tok}  {nm1 qn1 : Str} {N1 : Addr} {bs1 bm1 su1 : List Value} {sn1 : List Str} {ab1 : Bool} {co1 : Option Bool} {dd_1 : Option Addr} {k0_1 k1_1 k2_1 k3_1 k5_1 : Option Value} 
    (a0 : PySem.W.nsIn K mainGlobals "is_integer" = some (some (.ref f0)))
    (l0 : K.lookup f0 = some ⟨oc0, od0, .func (PySem.W.fnOf "is_integer" "is_integer" (defArgs s0) (defBody s0) (defScope s0) .none kV0 dc0 pm0 an0 cd0 ct0), sl0⟩)
    (c0 : PySem.W.codeIn K cd0 "is_integer" = true)
    (k0 : PySem.W.keepIn K (.ref f0) = true)
    (a1 : PySem.W.nsIn K mainGlobals "is_between" = some (some (.ref f1)))
    (l1 : K.lookup f1 = some ⟨oc1, od1, .func (PySem.W.fnOf "is_between" "is_between" (defArgs s1) (defBody s1) (defScope s1) .none kV1 dc1 pm1 an1 cd1 ct1), sl1⟩)
    (c1 : PySem.W.codeIn K cd1 "is_between" = true)
    (k1 : PySem.W.keepIn K (.ref f1) = true)
    (a2 : PySem.W.nsIn K mainGlobals "is_tuple" = some (some (.ref f2)))
    (l2 : K.lookup f2 = some ⟨oc2, od2, .func (PySem.W.fnOf "is_tuple" "is_tuple" (defArgs s2) (defBody s2) (defScope s2) .none kV2 dc2 pm2 an2 cd2 ct2), sl2⟩)
    (c2 : PySem.W.codeIn K cd2 "is_tuple" = true)
    (k2 : PySem.W.keepIn K (.ref f2) = true)
    (a3 : PySem.W.nsIn K mainGlobals "is_name" = some (some (.ref f3)))
    (l3 : K.lookup f3 = some ⟨oc3, od3, .func (PySem.W.fnOf "is_name" "is_name" (defArgs s3) (defBody s3) (defScope s3) .none kV3 dc3 pm3 an3 cd3 ct3), sl3⟩)
    (c3 : PySem.W.codeIn K cd3 "is_name" = true)
    (k3 : PySem.W.keepIn K (.ref f3) = true)
    (a4 : PySem.W.nsIn K mainGlobals "is_word" = some (some (.ref f4)))
    (l4 : K.lookup f4 = some ⟨oc4, od4, .func (PySem.W.fnOf "is_word" "is_word" (defArgs s4) (defBody s4) (defScope s4) .none kV4 dc4 pm4 an4 cd4 ct4), sl4⟩)
    (c4 : PySem.W.codeIn K cd4 "is_word" = true)
    (k4 : PySem.W.keepIn K (.ref f4) = true)
    (a5 : PySem.W.nsIn K mainGlobals "are_different" = some (some (.ref f5)))
    (l5 : K.lookup f5 = some ⟨oc5, od5, .func (PySem.W.fnOf "are_different" "are_different" (defArgs s5) (defBody s5) (defScope s5) .none kV5 dc5 pm5 an5 cd5 ct5), sl5⟩)
    (c5 : PySem.W.codeIn K cd5 "are_different" = true)
    (k5 : PySem.W.keepIn K (.ref f5) = true)
    (a6 : PySem.W.nsIn K mainGlobals "is_place" = some (some (.ref f6)))
    (l6 : K.lookup f6 = some ⟨oc6, od6, .func (PySem.W.fnOf "is_place" "is_place" (defArgs s6) (defBody s6) (defScope s6) .none kV6 dc6 pm6 an6 cd6 ct6), sl6⟩)
    (c6 : PySem.W.codeIn K cd6 "is_place" = true)
    (k6 : PySem.W.keepIn K (.ref f6) = true)
    (a7 : PySem.W.nsIn K mainGlobals "spaces_around" = some (some (.ref f7)))
    (l7 : K.lookup f7 = some ⟨oc7, od7, .func (PySem.W.fnOf "spaces_around" "spaces_around" (defArgs s7) (defBody s7) (defScope s7) .none kV7 dc7 pm7 an7 cd7 ct7), sl7⟩)
    (c7 : PySem.W.codeIn K cd7 "spaces_around" = true)
    (k7 : PySem.W.keepIn K (.ref f7) = true)
    (a8 : PySem.W.nsIn K mainGlobals "are_places" = some (some (.ref f8)))
    (l8 : K.lookup f8 = some ⟨oc8, od8, .func (PySem.W.fnOf "are_places" "are_places" (defArgs s8) (defBody s8) (defScope s8) .none kV8 dc8 pm8 an8 cd8 ct8), sl8⟩)
    (c8 : PySem.W.codeIn K cd8 "are_places" = true)
    (k8 : PySem.W.keepIn K (.ref f8) = true)
    (a9 : PySem.W.findIn K (.ref C0) "__init__" = some (some (.ref f9)))
    (i9 : PySem.W.isFn K (.ref f9) = true)
    (l9 : K.lookup f9 = some ⟨oc9, od9, .func (PySem.W.fnOf "__init__" "Net.__init__" (defArgs s9) (defBody s9) (defScope s9) .none kV9 dc9 pm9 an9 cd9 ct9), sl9⟩)
    (c9 : PySem.W.codeIn K cd9 "Net.__init__" = true)
    (k9 : PySem.W.keepIn K (.ref f9) = true)
    (a10 : PySem.W.nsIn K mainGlobals "_law_jar" = some (some (.ref f10)))
    (l10 : K.lookup f10 = some ⟨oc10, od10, .func (PySem.W.fnOf "_law_jar" "_law_jar" (defArgs s10) (defBody s10) (defScope s10) .none kV10 dc10 pm10 an10 cd10 ct10), sl10⟩)
    (c10 : PySem.W.codeIn K cd10 "_law_jar" = true)
    (k10 : PySem.W.keepIn K (.ref f10) = true)
    (a11 : PySem.W.nsIn K mainGlobals "_law_take" = some (some (.ref f11)))
    (l11 : K.lookup f11 = some ⟨oc11, od11, .func (PySem.W.fnOf "_law_take" "_law_take" (defArgs s11) (defBody s11) (defScope s11) .none kV11 dc11 pm11 an11 cd11 ct11), sl11⟩)
    (c11 : PySem.W.codeIn K cd11 "_law_take" = true)
    (k11 : PySem.W.keepIn K (.ref f11) = true)
    (a12 : PySem.W.nsIn K mainGlobals "_law_of" = some (some (.ref f12)))
    (l12 : K.lookup f12 = some ⟨oc12, od12, .func (PySem.W.fnOf "_law_of" "_law_of" (defArgs s12) (defBody s12) (defScope s12) .none kV12 dc12 pm12 an12 cd12 ct12), sl12⟩)
    (c12 : PySem.W.codeIn K cd12 "_law_of" = true)
    (k12 : PySem.W.keepIn K (.ref f12) = true)
    (a13 : PySem.W.nsIn K mainGlobals "_law_names" = some (some (.ref f13)))
    (l13 : K.lookup f13 = some ⟨oc13, od13, .func (PySem.W.fnOf "_law_names" "_law_names" (defArgs s13) (defBody s13) (defScope s13) .none kV13 dc13 pm13 an13 cd13 ct13), sl13⟩)
    (c13 : PySem.W.codeIn K cd13 "_law_names" = true)
    (k13 : PySem.W.keepIn K (.ref f13) = true)
    (a14 : PySem.W.nsIn K mainGlobals "_law_odd" = some (some (.ref f14)))
    (l14 : K.lookup f14 = some ⟨oc14, od14, .func (PySem.W.fnOf "_law_odd" "_law_odd" (defArgs s14) (defBody s14) (defScope s14) .none kV14 dc14 pm14 an14 cd14 ct14), sl14⟩)
    (c14 : PySem.W.codeIn K cd14 "_law_odd" = true)
    (k14 : PySem.W.keepIn K (.ref f14) = true)
    (a15 : PySem.W.nsIn K mainGlobals "_law_twisted" = some (some (.ref f15)))
    (l15 : K.lookup f15 = some ⟨oc15, od15, .func (PySem.W.fnOf "_law_twisted" "_law_twisted" (defArgs s15) (defBody s15) (defScope s15) .none kV15 dc15 pm15 an15 cd15 ct15), sl15⟩)
    (c15 : PySem.W.codeIn K cd15 "_law_twisted" = true)
    (k15 : PySem.W.keepIn K (.ref f15) = true)
    (a16 : PySem.W.nsIn K mainGlobals "_law_is_name" = some (some (.ref f16)))
    (l16 : K.lookup f16 = some ⟨oc16, od16, .func (PySem.W.fnOf "_law_is_name" "_law_is_name" (defArgs s16) (defBody s16) (defScope s16) .none kV16 dc16 pm16 an16 cd16 ct16), sl16⟩)
    (c16 : PySem.W.codeIn K cd16 "_law_is_name" = true)
    (k16 : PySem.W.keepIn K (.ref f16) = true)
    (a17 : PySem.W.nsIn K mainGlobals "_law_is_place" = some (some (.ref f17)))
    (l17 : K.lookup f17 = some ⟨oc17, od17, .func (PySem.W.fnOf "_law_is_place" "_law_is_place" (defArgs s17) (defBody s17) (defScope s17) .none kV17 dc17 pm17 an17 cd17 ct17), sl17⟩)
    (c17 : PySem.W.codeIn K cd17 "_law_is_place" = true)
    (k17 : PySem.W.keepIn K (.ref f17) = true)
    (a18 : PySem.W.nsIn K mainGlobals "_law_is_net" = some (some (.ref f18)))
    (l18 : K.lookup f18 = some ⟨oc18, od18, .func (PySem.W.fnOf "_law_is_net" "_law_is_net" (defArgs s18) (defBody s18) (defScope s18) .none kV18 dc18 pm18 an18 cd18 ct18), sl18⟩)
    (c18 : PySem.W.codeIn K cd18 "_law_is_net" = true)
    (k18 : PySem.W.keepIn K (.ref f18) = true)
    (a19 : PySem.W.nsIn K mainGlobals "_law_places" = some (some (.ref f19)))
    (l19 : K.lookup f19 = some ⟨oc19, od19, .func (PySem.W.fnOf "_law_places" "_law_places" (defArgs s19) (defBody s19) (defScope s19) .none kV19 dc19 pm19 an19 cd19 ct19), sl19⟩)
    (c19 : PySem.W.codeIn K cd19 "_law_places" = true)
    (k19 : PySem.W.keepIn K (.ref f19) = true)
    (a20 : PySem.W.nsIn K mainGlobals "_law_right" = some (some (.ref f20)))
    (l20 : K.lookup f20 = some ⟨oc20, od20, .func (PySem.W.fnOf "_law_right" "_law_right" (defArgs s20) (defBody s20) (defScope s20) .none kV20 dc20 pm20 an20 (.ref cR) ct20), sl20⟩)
    (c20 : PySem.W.codeIn K (.ref cR) "_law_right" = true)
    (k20 : PySem.W.keepIn K (.ref f20) = true)
    (a21 : PySem.W.nsIn K mainGlobals "law" = some (some (.ref f21)))
    (l21 : K.lookup f21 = some ⟨oc21, od21, .func (PySem.W.fnOf "law" "law" (defArgs s21) (defBody s21) (defScope s21) .none kV21 dc21 pm21 an21 cd21 ct21), sl21⟩)
    (c21 : PySem.W.codeIn K cd21 "law" = true)
    (k21 : PySem.W.keepIn K (.ref f21) = true)
    (aM : PySem.W.nsIn K mainGlobals "_law_caught" = some (some (.ref fM)))
    (lM : K.lookup fM = some ⟨ocM, odM, .func (PySem.W.fnOf "_law_caught" "_law_caught" (defArgs sM) (defBody sM) (defScope sM) .none kVM dcM pmM anM cdM ctM), slM⟩)
    (cM : PySem.W.codeIn K cdM "_law_caught" = true)
    (kM : PySem.W.keepIn K (.ref fM) = true)
    (lR : K.lookup cR = some ⟨ocR, odR, .fields vsR, slR⟩)
    (tR : vsR[11]? = some (.ref tb))
    (hR : PySem.W.codeHdIn K cR tb = true)
    (nT : K.lookup tb = none)
    (aC0 : PySem.W.nsIn K mainGlobals "Net" = some (some (.ref C0)))
    (pg0 : PySem.W.plainGet K C0 Str.empty = true)
    (hd0 : PySem.W.hasDictIn K C0 = true)
    (po0 : PySem.W.plainOver K C0 = true)
    (sa0 : PySem.W.findIn K (.ref C0) "__setattr__" = some (some (.builtin "object.__setattr__")))
    (mk0 : PySem.W.makesIn K C0 = true)
    (kc0 : PySem.W.keepIn K (.ref C0) = true)
    (nf0_0 : PySem.W.findIn K (.ref C0) "own_places" = some none)
    (nf0_1 : PySem.W.findIn K (.ref C0) "own_ats" = some none)
    (nf0_2 : PySem.W.findIn K (.ref C0) "own_hosts" = some none)
    (nf0_3 : PySem.W.findIn K (.ref C0) "many_numbers" = some none)
    (aC_1 : PySem.W.nsIn K mainGlobals "BadNet" = some (some (.ref E1)))
    (aC_2 : PySem.W.nsIn K mainGlobals "DoorError" = some (some (.ref E2)))
    (iS : PySem.W.findIn K (.ref E1) "__init__" = some (some (.ref fS)))
    (lS : K.lookup fS = some ⟨ocS, odS, .func (PySem.W.ksFn "__init__" "DoorError.__init__" (defArgs sS) (defBody sS) (defScope sS) .none kVS dcS pmS anS (.ref cS) ctS cc), slS⟩)
    (cS_ : PySem.W.codeIn K (.ref cS) "DoorError.__init__" = true)
    (lS2 : K.lookup cS = some ⟨clS1, odS1, .fields vsS, slS1⟩)
    (fS2 : vsS[2]? = some (.str fileS tkS))
    (eS : ((l.prog.main.file : Str) == fileS) = true)
    (lS3 : K.lookup cc = some ⟨clS2, odS2, .cell (some (.ref E2)), slS2⟩)
    (dE : PySem.W.clsIn K E2 = some cdE)
    (tS : PySem.W.typeIn K (.ref fS) = some (.type "function"))
    (tp : (l.prog.main.scope.names.lookup ("super" : Str)).isSome = false)
    (oq : PySem.W.nsIn K cStatics "thirdparty.any" = some none)
    (hn : PySem.W.specialIn K (.builtin "object.__class__") "__get__" = some (some (.builtin "getset_descriptor.__get__")))
    (ht : PySem.W.takesIn K (.builtin "object.__class__") = some true)
    (oc_1 : K.lookup E1 = some (excClassObj nm1 qn1 E1 N1 bs1 bm1 true sn1 su1 ab1 co1 dd_1 k0_1 k1_1 k2_1 k3_1 k5_1 "ValueError.__new__"))
    (rv1 : PySem.HandSPX.refsVE bm1 = true)
    (es1 : PySem.W.findIn K (.ref E1) "__setattr__" = some (some (.builtin "object.__setattr__")))
    (xb1 : PySem.W.subIn K (.ref E1) (.type "BaseException") = some true)
    (ty1 : PySem.W.typeIn K (.ref E1) = some (.type "type"))
    (ek1 : PySem.W.keepIn K (.ref E1) = true)
    (mr1 : PySem.W.mroIn K E1 (.ref E2) = some true)
    (sp1 : PySem.W.ks_superIn K E1 E2 "__init__" = some (some (.builtin "ValueError.__init__")))
    (ve1 : PySem.W.subIn K (.ref E1) (.type "ValueError") = some true)
    (nv1 : PySem.W.findIn K (.ref E1) "value" = some none)
    (in1 : PySem.W.findIn K (.ref E1) "__init__" = some (some (.ref fS)))
    (ga1 : PySem.W.findIn K (.ref E1) "__getattribute__" = some (some (.builtin "BaseException.__getattribute__")))
    (ge1 : PySem.W.findIn K (.ref E1) "__getattr__" = some none)
    (hd_1 : PySem.W.hasDictIn K E1 = true)
    (cl1 : PySem.W.findIn K (.ref E1) "__class__" = some (some (.builtin "object.__class__")))
    (mo1 : PySem.W.mroIn K E1 (.type "object") = some true)
    (ex1 : PySem.W.exmOne K (.ref E1) (.ref E2) = some true)
    (kv1 : PySem.W.kitOne K (.ref E1) (.type "ValueError") = some true)
    (ki1_1 : PySem.W.kitOne K (.ref E1) (.ref E1) = some true)
    (z_ValueError : PySem.W.nsIn K mainGlobals "ValueError" = some none)
    (z_abs : PySem.W.nsIn K mainGlobals "abs" = some none)
    (z_all : PySem.W.nsIn K mainGlobals "all" = some none)
    (z_bool : PySem.W.nsIn K mainGlobals "bool" = some none)
    (z_dict : PySem.W.nsIn K mainGlobals "dict" = some none)
    (z_enumerate : PySem.W.nsIn K mainGlobals "enumerate" = some none)
    (z_int : PySem.W.nsIn K mainGlobals "int" = some none)
    (z_isinstance : PySem.W.nsIn K mainGlobals "isinstance" = some none)
    (z_len : PySem.W.nsIn K mainGlobals "len" = some none)
    (z_list : PySem.W.nsIn K mainGlobals "list" = some none)
    (z_max : PySem.W.nsIn K mainGlobals "max" = some none)
    (z_min : PySem.W.nsIn K mainGlobals "min" = some none)
    (z_range : PySem.W.nsIn K mainGlobals "range" = some none)
    (z_repr : PySem.W.nsIn K mainGlobals "repr" = some none)
    (z_set : PySem.W.nsIn K mainGlobals "set" = some none)
    (z_str : PySem.W.nsIn K mainGlobals "str" = some none)
    (z_super : PySem.W.nsIn K mainGlobals "super" = some none)
    (z_tuple : PySem.W.nsIn K mainGlobals "tuple" = some none)
    (hT : h.get? tb = some emptyTab)
    (gg0 : PySem.W.nsIn K mainGlobals "SMALL" = some (some (.str "abcdefghijklmnopqrstuvwxyz" tk0)))
    (gg1 : PySem.W.nsIn K mainGlobals "MOST_SIGNS" = some (some (.int 8 tk1)))
    (gg2 : PySem.W.nsIn K mainGlobals "HOST" = some (some (.str "host" tk2)))
    (gg3 : PySem.W.nsIn K mainGlobals "OPEN_NET" = some (some (.str "" tk3)))
    (gg4 : PySem.W.nsIn K mainGlobals "LEAST_PLACES" = some (some (.int 2 tk4)))
    (gg5 : PySem.W.nsIn K mainGlobals "MOST_PLACES" = some (some (.int 7 tk5)))
    (gg6 : PySem.W.nsIn K mainGlobals "MOST_HOSTS" = some (some (.int 4 tk6)))
    (gg7 : PySem.W.nsIn K mainGlobals "MOST_BOXES" = some (some (.int 3 tk7)))
    (gg8 : PySem.W.nsIn K mainGlobals "LEAST_NUMBERS" = some (some (.int 2 tk8)))
    (gg9 : PySem.W.nsIn K mainGlobals "MOST_NUMBERS" = some (some (.int 6 tk9)))
    (gg10 : PySem.W.nsIn K mainGlobals "TRIPLE" = some (some (.int 3 tk10))) :
    LawG l w K 120 63 "script" mg fa h := by
  have e := hfa.symm.trans (PySem.W.mg_of X G a21)
  cases e
  let a : Nat → Addr := fun i => [f0, f1, f2, f3, f4, f5, f6, f7, f8, f9, f10, f11, f12, f13, f14, f15, f16, f17, f18, f19, f20, fa, fa, fM, fS].getD i 0
  let fd : Nat → FuncData := fun i => [PySem.W.fnOf "is_integer" "is_integer" (defArgs s0) (defBody s0) (defScope s0) .none kV0 dc0 pm0 an0 cd0 ct0, PySem.W.fnOf "is_between" "is_between" (defArgs s1) (defBody s1) (defScope s1) .none kV1 dc1 pm1 an1 cd1 ct1, PySem.W.fnOf "is_tuple" "is_tuple" (defArgs s2) (defBody s2) (defScope s2) .none kV2 dc2 pm2 an2 cd2 ct2, PySem.W.fnOf "is_name" "is_name" (defArgs s3) (defBody s3) (defScope s3) .none kV3 dc3 pm3 an3 cd3 ct3, PySem.W.fnOf "is_word" "is_word" (defArgs s4) (defBody s4) (defScope s4) .none kV4 dc4 pm4 an4 cd4 ct4, PySem.W.fnOf "are_different" "are_different" (defArgs s5) (defBody s5) (defScope s5) .none kV5 dc5 pm5 an5 cd5 ct5, PySem.W.fnOf "is_place" "is_place" (defArgs s6) (defBody s6) (defScope s6) .none kV6 dc6 pm6 an6 cd6 ct6, PySem.W.fnOf "spaces_around" "spaces_around" (defArgs s7) (defBody s7) (defScope s7) .none kV7 dc7 pm7 an7 cd7 ct7, PySem.W.fnOf "are_places" "are_places" (defArgs s8) (defBody s8) (defScope s8) .none kV8 dc8 pm8 an8 cd8 ct8, PySem.W.fnOf "__init__" "Net.__init__" (defArgs s9) (defBody s9) (defScope s9) .none kV9 dc9 pm9 an9 cd9 ct9, PySem.W.fnOf "_law_jar" "_law_jar" (defArgs s10) (defBody s10) (defScope s10) .none kV10 dc10 pm10 an10 cd10 ct10, PySem.W.fnOf "_law_take" "_law_take" (defArgs s11) (defBody s11) (defScope s11) .none kV11 dc11 pm11 an11 cd11 ct11, PySem.W.fnOf "_law_of" "_law_of" (defArgs s12) (defBody s12) (defScope s12) .none kV12 dc12 pm12 an12 cd12 ct12, PySem.W.fnOf "_law_names" "_law_names" (defArgs s13) (defBody s13) (defScope s13) .none kV13 dc13 pm13 an13 cd13 ct13, PySem.W.fnOf "_law_odd" "_law_odd" (defArgs s14) (defBody s14) (defScope s14) .none kV14 dc14 pm14 an14 cd14 ct14, PySem.W.fnOf "_law_twisted" "_law_twisted" (defArgs s15) (defBody s15) (defScope s15) .none kV15 dc15 pm15 an15 cd15 ct15, PySem.W.fnOf "_law_is_name" "_law_is_name" (defArgs s16) (defBody s16) (defScope s16) .none kV16 dc16 pm16 an16 cd16 ct16, PySem.W.fnOf "_law_is_place" "_law_is_place" (defArgs s17) (defBody s17) (defScope s17) .none kV17 dc17 pm17 an17 cd17 ct17, PySem.W.fnOf "_law_is_net" "_law_is_net" (defArgs s18) (defBody s18) (defScope s18) .none kV18 dc18 pm18 an18 cd18 ct18, PySem.W.fnOf "_law_places" "_law_places" (defArgs s19) (defBody s19) (defScope s19) .none kV19 dc19 pm19 an19 cd19 ct19, PySem.W.fnOf "_law_right" "_law_right" (defArgs s20) (defBody s20) (defScope s20) .none kV20 dc20 pm20 an20 (.ref cR) ct20, PySem.W.fnOf "law" "law" (defArgs s21) (defBody s21) (defScope s21) .none kV21 dc21 pm21 an21 cd21 ct21, PySem.W.fnOf "law" "law" (defArgs s21) (defBody s21) (defScope s21) .none kV21 dc21 pm21 an21 cd21 ct21, PySem.W.fnOf "_law_caught" "_law_caught" (defArgs sM) (defBody sM) (defScope sM) .none kVM dcM pmM anM cdM ctM].getD i (PySem.W.fnOf "law" "law" (defArgs s21) (defBody s21) (defScope s21) .none kV21 dc21 pm21 an21 cd21 ct21)
  let T : Tb := ⟨l.prog, w, K, mg, fun c => [C0, E1, E2].getD c 0, nmF, hfF, tb, "_law_right.<locals>.<lambda>"⟩
  have tabok : TabOk T := by
    refine ⟨fun c f h => ?_, fun c f g h1 h2 e => ?_⟩
    · have h' : hfF c f = true := h
      match c, f, h' with
      | 0, 0, _ => exact nf0_0
      | 0, 1, _ => exact nf0_1
      | 0, 2, _ => exact nf0_2
      | 0, 3, _ => exact nf0_3
    · have h1' : hfF c f = true := h1
      have h2' : hfF c g = true := h2
      exact nm_inj c f g h1' h2' e
  have hsup : SupI T.K T.P (a 24) (T.ca 2) sS "DoorError.__init__" "value" erF :=
    ⟨⟨_, _, _, _, _, _, _, _, _, _, _, _, _, _, _, _, _, _, _, _, lS, cS_, lS2, fS2, eS, lS3, dE⟩, supM, ⟨_, rfl, rfl⟩, fun _ _ _ _ _ _ _ _ _ => rfl, rfl, rfl, rfl, by decide +kernel, rfl, rfl, rfl, rfl, by decide +kernel, by decide +kernel, tp⟩
  have t : Txt T a := ⟨tabok, PySem.W.mg_none_of X G z_ValueError, PySem.W.mg_none_of X G z_abs, PySem.W.mg_none_of X G z_all, PySem.W.mg_none_of X G z_bool, PySem.W.mg_none_of X G z_dict, PySem.W.mg_none_of X G z_enumerate, PySem.W.mg_none_of X G z_int, PySem.W.mg_none_of X G z_isinstance, PySem.W.mg_none_of X G z_len, PySem.W.mg_none_of X G z_list, PySem.W.mg_none_of X G z_max, PySem.W.mg_none_of X G z_min, PySem.W.mg_none_of X G z_range, PySem.W.mg_none_of X G z_repr, PySem.W.mg_none_of X G z_set, PySem.W.mg_none_of X G z_str, PySem.W.mg_none_of X G z_tuple, PySem.W.mg_of X G a0, PySem.W.mg_of X G a1, PySem.W.mg_of X G a2, PySem.W.mg_of X G a3, PySem.W.mg_of X G a4, PySem.W.mg_of X G a5, PySem.W.mg_of X G a6, PySem.W.mg_of X G a7, PySem.W.mg_of X G a8, PySem.W.mg_of X G a10, PySem.W.mg_of X G a11, PySem.W.mg_of X G a12, PySem.W.mg_of X G a13, PySem.W.mg_of X G a14, PySem.W.mg_of X G a15, PySem.W.mg_of X G a16, PySem.W.mg_of X G a17, PySem.W.mg_of X G a18, PySem.W.mg_of X G a19, PySem.W.mg_of X G a20, PySem.W.mg_of X G a21, PySem.W.mg_of X G aC0, ⟨pg0, hd0, po0, sa0⟩, ⟨mk0, a9, i9, kc0⟩, ⟨fun c_ h_ => (by simp only [csE, List.mem_cons, List.not_mem_nil, or_false] at h_; rcases h_ with rfl <;> first | exact ⟨ga1, ge1, xb1, hd_1, cl1, hn, ht, mo1⟩), fun c_ h_ => (by simp only [csE, List.mem_cons, List.not_mem_nil, or_false] at h_; rcases h_ with rfl <;> first | exact ⟨ga1, ge1, xb1, hd_1⟩), fun c_ h_ => (by simp only [csE, List.mem_cons, List.not_mem_nil, or_false] at h_; rcases h_ with rfl <;> first | exact nv1), fun c_ h_ c2_ h2_ => (by simp only [csE, List.mem_cons, List.not_mem_nil, or_false] at h_ h2_; rcases h_ with rfl <;> rcases h2_ with rfl <;> first | exact ki1_1)⟩, fun c_ h_ => (by simp only [csE, List.mem_cons, List.not_mem_nil, or_false] at h_; rcases h_ with rfl <;> first | exact kv1), fun c_ h_ => (by simp only [csE, List.mem_cons, List.not_mem_nil, or_false] at h_; rcases h_ with rfl <;> first | exact ex1), PySem.W.mg_none_of X G z_super, hsup, tS, PySem.W.mg_of X G aM, rfl, PySem.W.mg_of X G aC_1, ⟨⟨⟨_, _, _, _, _, _, _, _, _, _, _, _, _, _, _, oc_1, rv1⟩, es1, xb1, ty1, ek1⟩, mr1, oq, sp1, ve1, nv1⟩, in1, PySem.W.mg_of X G aC_2, ⟨_, PySem.W.mg_of X G gg0⟩, ⟨_, PySem.W.mg_of X G gg1⟩, ⟨_, PySem.W.mg_of X G gg2⟩, ⟨_, PySem.W.mg_of X G gg3⟩, ⟨_, PySem.W.mg_of X G gg4⟩, ⟨_, PySem.W.mg_of X G gg5⟩, ⟨_, PySem.W.mg_of X G gg6⟩, ⟨_, PySem.W.mg_of X G gg7⟩, ⟨_, PySem.W.mg_of X G gg8⟩, ⟨_, PySem.W.mg_of X G gg9⟩, ⟨_, PySem.W.mg_of X G gg10⟩⟩
  have u : Funs T a fd cR := ⟨fun_mk (st := s0) l0 c0 k0, fun_mk (st := s1) l1 c1 k1, fun_mk (st := s2) l2 c2 k2, fun_mk (st := s3) l3 c3 k3, fun_mk (st := s4) l4 c4 k4, fun_mk (st := s5) l5 c5 k5, fun_mk (st := s6) l6 c6 k6, fun_mk (st := s7) l7 c7 k7, fun_mk (st := s8) l8 c8 k8, fun_mk (st := s9) l9 c9 k9, fun_mk (st := s10) l10 c10 k10, fun_mk (st := s11) l11 c11 k11, fun_mk (st := s12) l12 c12 k12, fun_mk (st := s13) l13 c13 k13, fun_mk (st := s14) l14 c14 k14, fun_mk (st := s15) l15 c15 k15, fun_mk (st := s16) l16 c16 k16, fun_mk (st := s17) l17 c17 k17, fun_mk (st := s18) l18 c18 k18, fun_mk (st := s19) l19 c19 k19, funC_mk (st := s20) l20 c20 k20, fun_mk (st := s21) l21 c21 k21, fun_mk (st := sM) lM cM kM⟩
  refine ⟨fd 21, cR, tb, spLaw K tb, hT, nT, PySem.W.codeHd_of_K X hR, fun s v => .of_eq rfl, fun H a ns hl hH hS => ⟨a, ns, rfl, hS, hl, hH, fun _ => rfl⟩, fun base KB GB TB => ?_⟩
  have F2 : FnG l.prog w K mg base 120 fa (fd 21) ["script"] (spC T (callN pg 60) 21 1) := fnAt (all (base := base) t rfl rfl u TB 59).1 t u
  refine F2.imp fun vs H Q E hh => ?_
  obtain ⟨ad, ns, rfl, hs, hl, hH, q⟩ := hh
  obtain ⟨st', ev⟩ := run ns hl
  have nad : ∀ xs, Rd H ad (.lst xs) → ad ∉ [tb] := fun xs hr hm => by
    rw [List.mem_singleton.mp hm] at hr
    rcases hr with hr | ⟨ob, hr⟩ <;> rw [hH] at hr <;> cases hr
  have g0 : GoodT T (fun _ => False) [tb] H [.tbl] := by
    refine ⟨fun _ z => z.elim, fun _ _ z => z, ⟨rfl, by simp, fun i o b h1 h2 => ?_⟩⟩
    cases i with
    | zero =>
      cases h1
      cases h2
      refine ⟨rfl, #[], hH, True.intro, fun pos cv hc => ?_⟩
      have z : codeAmong pos [] = some cv := hc
      simp [codeAmong] at z
    | succ i => simp at h1
  refine ⟨fun _ => False, [tb], [.tbl], [.scr ns], .bl true, st', g0, ⟨.ref ad, [], rfl, ⟨ad, rfl, ?_⟩, rfl⟩, rfl, ev, fun v H' μ' _ hv => ?_⟩
  · rcases hs with hs | hs
    · exact .inl ⟨hs, fun z => by rcases z with z | z; exact nad _ hs z; exact z⟩
    · exact .inr hs
  · obtain rfl : v = .bl true := hv
    exact q H'
theorem walk {l : PySem.W.OpenLaw} {q : Program} {loose : List Str} {XP : (Str → Option Value) → Heap → Prop} {YP : World → Heap → Prop} {d : DefRec} {K : Params → PySem.W.Frag} (hn : l.most = some 63) (hdf : d.params.defaults = [])
    (hY : ∀ (w : World) (h : Heap), YP w h → (K w.params).In h)
    (F : ∀ (w : World) (mg : Str → Option Value) (fa : Addr) (h : Heap), YP w h → (K w.params).In h → h.Ns mainGlobals mg → mg d.name = some (.ref fa) → LawG l w (K w.params) 120 63 "script" mg fa h) :
    PySem.W.WalkO q loose XP YP l.row.toRowW d [] (fun f vs => PySem.call f vs) := walk_ofG hn (by decide) hdf ⟨rfl, by decide, by decide⟩ hY F
end K35
end ZK35b
section ZK35end
set_option Elab.async false
set_option maxRecDepth 100000
theorem K35.runOk : K35.RunOk := fun ns _ => K35.law_ev ns
open PySem PySem.W PyProof.Rows
set_option maxRecDepth 100000 in
set_option maxHeartbeats 0 in
theorem PySem.Challenge.cw_doorsleep_k35_nets_of_any_value_holds : PySem.Challenge.rw_doorsleep_k35_nets_of_any_value.Holds := by
  w_on; o_law; k_head; (case hw => w_witness2)
  k_fill
  refine K35.walk (l := PySem.Challenge.rw_doorsleep_k35_nets_of_any_value) rfl rfl (fun w h Y => PySem.W.km_in_of Y) ?F
  case F =>
    intro w mg fa h Y KX G hmg
    refine' K35.all_mk K35.runOk KX G hmg ?a0 ?l0 ?c0 ?k0 ?a1 ?l1 ?c1 ?k1 ?a2 ?l2 ?c2 ?k2 ?a3 ?l3 ?c3 ?k3 ?a4 ?l4 ?c4 ?k4 ?a5 ?l5 ?c5 ?k5 ?a6 ?l6 ?c6 ?k6 ?a7 ?l7 ?c7 ?k7 ?a8 ?l8 ?c8 ?k8 ?a9 ?i9 ?l9 ?c9 ?k9 ?a10 ?l10 ?c10 ?k10 ?a11 ?l11 ?c11 ?k11 ?a12 ?l12 ?c12 ?k12 ?a13 ?l13 ?c13 ?k13 ?a14 ?l14 ?c14 ?k14 ?a15 ?l15 ?c15 ?k15 ?a16 ?l16 ?c16 ?k16 ?a17 ?l17 ?c17 ?k17 ?a18 ?l18 ?c18 ?k18 ?a19 ?l19 ?c19 ?k19 ?a20 ?l20 ?c20 ?k20 ?a21 ?l21 ?c21 ?k21 ?aM ?lM ?cM ?kM ?lR ?tR ?hR ?nT ?aC0 ?pg0 ?hd0 ?po0 ?sa0 ?mk0 ?kc0 ?nf0_0 ?nf0_1 ?nf0_2 ?nf0_3 ?aC_1 ?aC_2 ?iS ?lS ?cS_ ?lS2 ?fS2 ?eS ?lS3 ?dE ?tS ?tp ?oq ?hn ?ht ?oc_1 ?rv1 ?es1 ?xb1 ?ty1 ?ek1 ?mr1 ?sp1 ?ve1 ?nv1 ?in1 ?ga1 ?ge1 ?hd_1 ?cl1 ?mo1 ?ex1 ?kv1 ?ki1_1 ?z_ValueError ?z_abs ?z_all ?z_bool ?z_dict ?z_enumerate ?z_int ?z_isinstance ?z_len ?z_list ?z_max ?z_min ?z_range ?z_repr ?z_set ?z_str ?z_super ?z_tuple ?hT ?gg0 ?gg1 ?gg2 ?gg3 ?gg4 ?gg5 ?gg6 ?gg7 ?gg8 ?gg9 ?gg10
    (case aC0 => k_is)
    (case aC_1 => k_is)
    (case aC_2 => k_is)
    (case a0 => k_is)
    (case l0 => k_is)
    (case c0 => k_is)
    (case k0 => k_is)
    (case a1 => k_is)
    (case l1 => k_is)
    (case c1 => k_is)
    (case k1 => k_is)
    (case a2 => k_is)
    (case l2 => k_is)
    (case c2 => k_is)
    (case k2 => k_is)
    (case a3 => k_is)
    (case l3 => k_is)
    (case c3 => k_is)
    (case k3 => k_is)
    (case a4 => k_is)
    (case l4 => k_is)
    (case c4 => k_is)
    (case k4 => k_is)
    (case a5 => k_is)
    (case l5 => k_is)
    (case c5 => k_is)
    (case k5 => k_is)
    (case a6 => k_is)
    (case l6 => k_is)
    (case c6 => k_is)
    (case k6 => k_is)
    (case a7 => k_is)
    (case l7 => k_is)
    (case c7 => k_is)
    (case k7 => k_is)
    (case a8 => k_is)
    (case l8 => k_is)
    (case c8 => k_is)
    (case k8 => k_is)
    (case a9 => k_is)
    (case i9 => k_is)
    (case l9 => k_is)
    (case c9 => k_is)
    (case k9 => k_is)
    (case a10 => k_is)
    (case l10 => k_is)
    (case c10 => k_is)
    (case k10 => k_is)
    (case a11 => k_is)
    (case l11 => k_is)
    (case c11 => k_is)
    (case k11 => k_is)
    (case a12 => k_is)
    (case l12 => k_is)
    (case c12 => k_is)
    (case k12 => k_is)
    (case a13 => k_is)
    (case l13 => k_is)
    (case c13 => k_is)
    (case k13 => k_is)
    (case a14 => k_is)
    (case l14 => k_is)
    (case c14 => k_is)
    (case k14 => k_is)
    (case a15 => k_is)
    (case l15 => k_is)
    (case c15 => k_is)
    (case k15 => k_is)
    (case a16 => k_is)
    (case l16 => k_is)
    (case c16 => k_is)
    (case k16 => k_is)
    (case a17 => k_is)
    (case l17 => k_is)
    (case c17 => k_is)
    (case k17 => k_is)
    (case a18 => k_is)
    (case l18 => k_is)
    (case c18 => k_is)
    (case k18 => k_is)
    (case a19 => k_is)
    (case l19 => k_is)
    (case c19 => k_is)
    (case k19 => k_is)
    (case a20 => k_is)
    (case l20 => k_is)
    (case c20 => k_is)
    (case k20 => k_is)
    (case a21 => k_is)
    (case l21 => k_is)
    (case c21 => k_is)
    (case k21 => k_is)
    (case aM => k_is)
    (case lM => k_is)
    (case cM => k_is)
    (case kM => k_is)
    (case lR => k_is)
    (case tR => rfl)
    (case hR => kernel_rfl)
    (case nT => kernel_rfl)
    (case pg0 => k_is)
    (case hd0 => k_is)
    (case po0 => k_is)
    (case sa0 => k_is)
    (case mk0 => k_is)
    (case kc0 => k_is)
    (case nf0_0 => k_is)
    (case nf0_1 => k_is)
    (case nf0_2 => k_is)
    (case nf0_3 => k_is)
    (case iS => k_is)
    (case lS => k_is)
    (case cS_ => k_is)
    (case lS2 => k_is)
    (case fS2 => rfl)
    (case eS => kernel_rfl)
    (case lS3 => k_is)
    (case dE => k_is)
    (case tS => k_is)
    (case tp => kernel_rfl)
    (case oq => k_is)
    (case hn => k_is)
    (case ht => k_is)
    (case oc_1 => k_is)
    (case rv1 => rfl)
    (case es1 => k_is)
    (case xb1 => k_is)
    (case ty1 => k_is)
    (case ek1 => k_is)
    (case mr1 => k_is)
    (case sp1 => ks_is)
    (case ve1 => k_is)
    (case nv1 => k_is)
    (case in1 => k_is)
    (case ga1 => k_is)
    (case ge1 => k_is)
    (case hd_1 => k_is)
    (case cl1 => k_is)
    (case mo1 => k_is)
    (case ex1 => kernel_rfl)
    (case kv1 => kernel_rfl)
    (case ki1_1 => kernel_rfl)
    (case z_ValueError => k_is)
    (case z_abs => k_is)
    (case z_all => k_is)
    (case z_bool => k_is)
    (case z_dict => k_is)
    (case z_enumerate => k_is)
    (case z_int => k_is)
    (case z_isinstance => k_is)
    (case z_len => k_is)
    (case z_list => k_is)
    (case z_max => k_is)
    (case z_min => k_is)
    (case z_range => k_is)
    (case z_repr => k_is)
    (case z_set => k_is)
    (case z_str => k_is)
    (case z_super => k_is)
    (case z_tuple => k_is)
    (case hT => exact PySem.W.km_tabs_of Y _ (by simp))
    (case gg0 => k_is)
    (case gg1 => k_is)
    (case gg2 => k_is)
    (case gg3 => k_is)
    (case gg4 => k_is)
    (case gg5 => k_is)
    (case gg6 => k_is)
    (case gg7 => k_is)
    (case gg8 => k_is)
    (case gg9 => k_is)
    (case gg10 => k_is)
#print axioms PySem.Challenge.cw_doorsleep_k35_nets_of_any_value_holds
end ZK35end
